import PyProof.Rows.All
import Wide.All
import OpenK.AllK
import Wide.FinOn
import HandS.ForMost
import HandS.ForExc
import HandS.Lambda
import HandS.Defaults
import HandS.Wide
import HandS.WideBits
import HandS.Star
import HandS.Zip
import HandS.TupAny
import HandS.TupMul
import HandS.Conv
import HandS.SortInts
import HandS.Deep
import HandS.RaiseMore
import HandS.FStr
import HandS.Head0
import HandS.Head1
import HandS.Head2
import HandS.HeadEnd
import HandS.HeadHook1
import HandS.HeadHook2
import HandS.Walk
import HandS.ExcCtx
import HandS.SortKw
import PyProof.Rows.SumAny
import KE.SortData
import KE.DataMinMax
import HandS.TupLen
import HandS.Style
import HandS.Dict
import HandS.SetFor
import HandS.Strs
import KE.KDflt
import KE.SortKeyHeap
import HandS.HotCalls
import HandS.ExcIs
import KE.GoesNew
import KE.GoesEnum
import KE.GoesMore
import HandS.EndBits
import KE.KNest
import PyProof.Rows.BitMore
import HandS.Text
import PySem.Challenge.RW_setsmeet_k54_whole_covers_and_packings
import Lean
set_option Elab.async false
set_option linter.all false
set_option maxRecDepth 100000
set_option maxHeartbeats 0
namespace Pv
open PySem PySem.Spec PyProof.Rows L2

/-! values, results, the monad -/
abbrev D := PyData
abbrev SS := Option (List D)
inductive Exn where
  | na | tl | mi | bf (i : Int) | br (x : Str)
  deriving DecidableEq
inductive Res (α : Type) where
  | ok (a : α) (s : SS) | exc (k : Exn) (s : SS) | bad
def M (α : Type) := SS → Res α
namespace M
variable {α β γ : Type}
def ret (a : α) : M α := fun s => .ok a s
def bnd (m : M α) (f : α → M β) : M β := fun s => match m s with
  | .ok a s' => f a s'
  | .exc k s' => .exc k s'
  | .bad => .bad
end M
instance : Monad M where
  pure := M.ret
  bind := M.bnd
section
variable {α β γ : Type}
def thr (k : Exn) : M α := fun s => .exc k s
def bad : M α := fun _ => .bad
theorem pure_at (a : α) (s : SS) : (pure a : M α) s = .ok a s := rfl
theorem bind_at (m : M α) (f : α → M β) (s : SS) : (m >>= f) s = (match m s with | .ok a s' => f a s' | .exc k s' => .exc k s' | .bad => .bad) := rfl
@[simp] theorem pure_bnd (a : α) (f : α → M β) : (pure a >>= f) = f a := rfl
@[simp] theorem thr_bnd (k : Exn) (f : α → M β) : (thr k >>= f) = thr k := rfl
@[simp] theorem bad_bnd (f : α → M β) : (bad >>= f) = bad := rfl
@[simp] theorem bnd_assoc (m : M α) (f : α → M β) (g : β → M γ) : ((m >>= f) >>= g) = (m >>= fun a => f a >>= g) := by
  funext s
  show (match (match m s with | .ok a s' => f a s' | .exc k s' => .exc k s' | .bad => .bad) with | .ok a s' => g a s' | .exc k s' => .exc k s' | .bad => .bad) = (match m s with | .ok a s' => (f a >>= g) s' | .exc k s' => .exc k s' | .bad => .bad)
  cases m s <;> rfl
@[simp] theorem bnd_pure (m : M α) : (m >>= fun a => pure a) = m := by
  funext s
  show (match m s with | .ok a s' => .ok a s' | .exc k s' => .exc k s' | .bad => .bad) = m s
  cases m s <;> rfl
end
/-- what may not raise here -/
def nox {α : Type} (m : M α) : M α := fun s => match m s with
  | .exc _ _ => .bad
  | r => r
@[simp] theorem nox_pure {α : Type} (a : α) : nox (pure a : M α) = pure a := rfl

inductive Slot where
  | none | val (d : D) | own (ds : List D) | ownd (es : List (D × D)) | lockd (es : List (D × D)) | cell | scr (ds : List D)
def Slot.isOwn : Slot → Bool
  | .own _ => true
  | .ownd _ => true
  | .lockd _ => true
  | _ => false
abbrev Env := List Slot
abbrev ME := Env → M D
inductive Arg where
  | d (x : D) | cell | scr (ds : List D)
def Arg.slot : Arg → Slot
  | .d x => .val x
  | .cell => .cell
  | .scr ds => .scr ds
abbrev Fn := List Arg → M D

/-! how values lie -/
def keyD : Key → D
  | .inl i => .int i
  | .inr x => .str x
mutual
inductive Rp (K : PySem.W.Frag) (B : Hp) : V → D → Prop
  | non : Rp K B .non .none
  | bl (b : Bool) : Rp K B (.bl b) (.bool b)
  | int (i : Int) : Rp K B (.int i) (.int i)
  | str (x : Str) : Rp K B (.str x) (.str x)
  | lst {a : Addr} {xs : List V} {ds : List D} : B a = some (.lst xs) → RpAll K B xs ds → Rp K B (.ref a) (.list ds)
  | tup {a : Addr} {xs : List V} {ds : List D} : SqT K B a xs → RpAll K B xs ds → Rp K B (.ref a) (.tuple ds)
  | dct {a : Addr} {kvs : List (Key × V)} {es : List (D × D)} : B a = some (.dK kvs) → es.map (·.1) = kvs.map (fun kv => keyD kv.1) → RpAll K B (kvs.map (·.2)) (es.map (·.2)) → Rp K B (.ref a) (.dict es)
  | dctT {a : Addr} {kvs : List (List Key × V)} {es : List (D × D)} : B a = some (.dT kvs) → kvs ≠ [] → es.map (·.1) = kvs.map (fun kv => .tuple (kv.1.map keyD)) → RpAll K B (kvs.map (·.2)) (es.map (·.2)) → Rp K B (.ref a) (.dict es)
inductive RpAll (K : PySem.W.Frag) (B : Hp) : List V → List D → Prop
  | nil : RpAll K B [] []
  | cons {v : V} {vs : List V} {d : D} {ds : List D} : Rp K B v d → RpAll K B vs ds → RpAll K B (v :: vs) (d :: ds)
end
section
variable {K : PySem.W.Frag} {B B' H : Hp}
abbrev Sub (B H : Hp) : Prop := ∀ a o, B a = some o → H a = some o
theorem Sub.rd {a : Addr} {u : HO} (s : Sub B B') (h : Rd B a u) : Rd B' a u := by
  rcases h with h | ⟨o, h⟩
  · exact .inl (s _ _ h)
  · exact .inr ⟨o, s _ _ h⟩
theorem Sub.sqL {a : Addr} {xs : List V} (s : Sub B B') (h : SqL K B a xs) : SqL K B' a xs := h.elim (fun h => .inl (s.rd h)) .inr
theorem Sub.sqT {a : Addr} {xs : List V} (s : Sub B B') (h : SqT K B a xs) : SqT K B' a xs := h.elim (fun h => .inl (s.rd h)) .inr
mutual
theorem Rp.up (s : Sub B B') : ∀ {v : V} {d : D}, Rp K B v d → Rp K B' v d
  | _, _, .non => .non
  | _, _, .bl b => .bl b
  | _, _, .int i => .int i
  | _, _, .str x => .str x
  | _, _, .lst h r => .lst (s _ _ h) (RpAll.up s r)
  | _, _, .tup h r => .tup (s.sqT h) (RpAll.up s r)
  | _, _, .dct h e r => .dct (s _ _ h) e (RpAll.up s r)
  | _, _, .dctT h n e r => .dctT (s _ _ h) n e (RpAll.up s r)
theorem RpAll.up (s : Sub B B') : ∀ {vs : List V} {ds : List D}, RpAll K B vs ds → RpAll K B' vs ds
  | _, _, .nil => .nil
  | _, _, .cons h r => .cons (Rp.up s h) (RpAll.up s r)
end
theorem RpAll.len : ∀ {vs : List V} {ds : List D}, RpAll K B vs ds → vs.length = ds.length
  | _, _, .nil => rfl
  | _, _, .cons _ r => congrArg Nat.succ (RpAll.len r)
theorem RpAll.at : ∀ {vs : List V} {ds : List D} {i : Nat} {d : D}, RpAll K B vs ds → ds[i]? = some d → ∃ v, vs[i]? = some v ∧ Rp K B v d
  | _, _, _, _, .nil, e => by simp at e
  | _, _, 0, _, .cons h r, e => by
    simp only [List.getElem?_cons_zero, Option.some.injEq] at e
    subst e
    exact ⟨_, rfl, h⟩
  | _, _, i + 1, _, .cons h r, e => by
    obtain ⟨v, h1, h2⟩ := RpAll.at (i := i) r (by simpa using e)
    exact ⟨v, by simpa using h1, h2⟩
theorem RpAll.app : ∀ {vs ws : List V} {ds es : List D}, RpAll K B vs ds → RpAll K B ws es → RpAll K B (vs ++ ws) (ds ++ es)
  | _, _, _, _, .nil, s => s
  | _, _, _, _, .cons h r, s => .cons h (RpAll.app r s)
theorem RpAll.take : ∀ {vs : List V} {ds : List D} (n : Nat), RpAll K B vs ds → RpAll K B (vs.take n) (ds.take n)
  | _, _, 0, _ => by simp only [List.take_zero]; exact .nil
  | _, _, _ + 1, .nil => .nil
  | _, _, n + 1, .cons h r => .cons h (RpAll.take n r)
theorem RpAll.drop : ∀ {vs : List V} {ds : List D} (n : Nat), RpAll K B vs ds → RpAll K B (vs.drop n) (ds.drop n)
  | _, _, 0, r => r
  | _, _, _ + 1, .nil => .nil
  | _, _, n + 1, .cons _ r => RpAll.drop n r
theorem RpAll.set {v : V} {d : D} (h : Rp K B v d) : ∀ {vs : List V} {ds : List D} (n : Nat), RpAll K B vs ds → RpAll K B (vs.set n v) (ds.set n d)
  | _, _, _, .nil => .nil
  | _, _, 0, .cons _ r => .cons h r
  | _, _, n + 1, .cons g r => .cons g (RpAll.set h n r)
theorem RpAll.rev : ∀ {vs : List V} {ds : List D}, RpAll K B vs ds → RpAll K B vs.reverse ds.reverse
  | _, _, .nil => .nil
  | _, _, .cons h r => by
    rw [List.reverse_cons, List.reverse_cons]
    exact RpAll.app (RpAll.rev r) (.cons h .nil)
/-- ints lie as ints -/
theorem RpAll.ints : ∀ (ns : List Int), RpAll K B (ns.map V.int) (ns.map PyData.int)
  | [] => .nil
  | n :: ns => .cons (.int n) (RpAll.ints ns)
theorem RpAll.ints_eq : ∀ {vs : List V} {ns : List Int}, RpAll K B vs (ns.map PyData.int) → vs = ns.map V.int
  | _, [], .nil => rfl
  | _, n :: ns, .cons h r => by
    cases h
    rw [RpAll.ints_eq r]
    rfl
mutual
theorem Rp.dp (s : Sub B H) : ∀ {v : V} {d : D}, d.canLay0 = true → Rp K B v d → Dp K H v d
  | _, _, _, .non => .non
  | _, _, _, .bl b => .bl b
  | _, _, _, .int i => .int i
  | _, _, _, .str x => .str x
  | _, .list ds, hc, .lst h r => .lst (.inl (.inl (s _ _ h))) (RpAll.dp s (by simpa [PyData.canLay0] using hc) r)
  | _, .tuple ds, hc, .tup h r => .tup (s.sqT h) (RpAll.dp s (by simpa [PyData.canLay0] using hc) r)
  | _, .dict _, hc, _ => by simp [PyData.canLay0] at hc
theorem RpAll.dp (s : Sub B H) : ∀ {vs : List V} {ds : List D}, PyData.canLayAll0 ds = true → RpAll K B vs ds → DpAll K H vs ds
  | _, _, _, .nil => .nil
  | _, _, hc, .cons h r => by
    simp only [PyData.canLayAll0, Bool.and_eq_true] at hc
    exact .cons (Rp.dp s hc.1 h) (RpAll.dp s hc.2 r)
end
end

/-! the heap's steps -/
open LamX (Tabs)
structure Ext (C : Option Addr) (H H' : Hp) : Prop where
  keep : ∀ a o, H a = some o → C ≠ some a → (∀ ps, o ≠ .tbl ps) → H' a = some o
  there : ∀ a, H a ≠ none → H' a ≠ none
theorem Ext.refl {C : Option Addr} {H : Hp} : Ext C H H := ⟨fun _ _ h _ _ => h, fun _ h => h⟩
theorem Ext.trans {C : Option Addr} {H H1 H2 : Hp} (a : Ext C H H1) (b : Ext C H1 H2) : Ext C H H2 := ⟨fun x o h c t => b.keep x o (a.keep x o h c t) c t, fun x h => b.there x (a.there x h)⟩
def CellOk (K : PySem.W.Frag) (C : Option Addr) (S : SS) (B H : Hp) : Prop :=
  match C, S with
  | none, none => True
  | some c, some ds => B c = none ∧ ∃ xs, H c = some (.lst xs) ∧ RpAll K B xs ds
  | _, _ => False
/-- the globals that all share -/
structure Gm where
  prog : Program
  w : World
  K : PySem.W.Frag
  mg : Str → Option Value
  base : Heap
  T : List (Addr × Str)
  cls : Exn → Value
/-- a list, a tuple is not too long -/
def LenOk : HO → Prop
  | .lst xs => xs.length ≤ sizeLine
  | .tup xs => xs.length ≤ sizeLine
  | .frz _ u => LenOk u
  | _ => True
def Lens (H : Hp) : Prop := ∀ a o, H a = some o → LenOk o
structure Nxt (Γ : Gm) (C : Option Addr) (B H : Hp) (S' : SS) (B' H' : Hp) : Prop where
  sb : Sub B B'
  sh : Sub B' H'
  ex : Ext C H H'
  nw : ∀ a, B a = none → H a ≠ none → B' a = none
  ce : CellOk Γ.K C S' B' H'
  tb : Tabs Γ.T H'
  ln : Lens H'
  tc : ∀ a ps, H' a = some (.tbl ps) → B' a = none
section
variable {Γ : Gm} {C : Option Addr} {B B1 B2 H H1 H2 : Hp} {S S1 S2 : SS}
theorem Nxt.trans (a : Nxt Γ C B H S1 B1 H1) (b : Nxt Γ C B1 H1 S2 B2 H2) : Nxt Γ C B H S2 B2 H2 :=
  ⟨fun x o h => b.sb x o (a.sb x o h), b.sh, a.ex.trans b.ex, fun x h1 h2 => b.nw x (a.nw x h1 h2) (a.ex.there x h2), b.ce, b.tb, b.ln, b.tc⟩
theorem Nxt.here (a : Nxt Γ C B H S1 B1 H1) : Nxt Γ C B1 H1 S1 B1 H1 :=
  ⟨fun _ _ h => h, a.sh, .refl, fun _ h _ => h, a.ce, a.tb, a.ln, a.tc⟩
theorem sub_upd {H : Hp} {p : Addr} {o : HO} (h : H p = none) : Sub H (upd H p o) := fun b u e => by rw [upd_ne (ne_of_none e h)]; exact e
/-- a new object, kept for good -/
theorem Nxt.new (a : Nxt Γ C B H S1 B1 H1) {p : Addr} (np : H1 p = none) (o : HO) (lo : LenOk o) (nt : ∀ ps, o ≠ .tbl ps := by intro _ z; cases z) : Nxt Γ C B1 H1 S1 (upd B1 p o) (upd H1 p o) := by
  have nb : B1 p = none := by
    cases q : B1 p with
    | none => rfl
    | some u => rw [a.sh _ _ q] at np; cases np
  have sH := sub_upd (o := o) np
  have sB := sub_upd (o := o) nb
  refine ⟨sB, fun b u e => ?_, ⟨fun b u e _ _ => sH b u e, fun b h => ?_⟩, fun b h1 h2 => ?_, ?_, fun q hq => (a.tb q hq).ext sH, fun b u e => ?_, fun b ps e => ?_⟩
  · by_cases hb : b = p
    · subst hb; rw [upd_same] at e ⊢; exact e
    · rw [upd_ne hb] at e ⊢; exact a.sh _ _ e
  · cases e : H1 b with
    | none => exact absurd e h
    | some u => rw [sH b u e]; simp
  · rw [upd_ne (fun z => h2 (by rw [z]; exact np))]; exact h1
  · have ce := a.ce
    unfold CellOk at ce ⊢
    split
    · trivial
    · rename_i c ds
      obtain ⟨h1, xs, h2, h3⟩ := ce
      have hc : c ≠ p := ne_of_none h2 np
      exact ⟨by rw [upd_ne hc]; exact h1, xs, sH _ _ h2, h3.up sB⟩
    · rename_i h1 h2
      split at ce
      · exact h1 rfl rfl
      · exact h2 _ _ rfl rfl
      · exact ce
  · by_cases hb : b = p
    · subst hb
      rw [upd_same] at e
      cases e
      exact lo
    · rw [upd_ne hb] at e
      exact a.ln _ _ e
  · by_cases hb : b = p
    · subst hb
      rw [upd_same] at e
      cases e
      exact (nt ps rfl).elim
    · rw [upd_ne hb] at e ⊢
      exact a.tc _ _ e

def SlotOk (K : PySem.W.Frag) (C : Option Addr) (H0 B H : Hp) (s : Slot) (o : Option (Option V)) : Prop :=
  match s with
  | .none => True
  | .val d => ∃ v, o = some (some v) ∧ Rp K B v d
  | .own ds => ∃ a xs, o = some (some (.ref a)) ∧ H0 a = none ∧ B a = none ∧ C ≠ some a ∧ H a = some (.lst xs) ∧ RpAll K B xs ds
  | .ownd es => ∃ a kvs, o = some (some (.ref a)) ∧ H0 a = none ∧ B a = none ∧ C ≠ some a ∧ H a = some (.dK kvs) ∧ es.map (·.1) = kvs.map (fun kv => keyD kv.1) ∧ RpAll K B (kvs.map (·.2)) (es.map (·.2))
  | .lockd es => ∃ a kvs, o = some (some (.ref a)) ∧ H0 a = none ∧ B a = none ∧ C ≠ some a ∧ (∃ od, H a = some (.frz od (.dK kvs))) ∧ es.map (·.1) = kvs.map (fun kv => keyD kv.1) ∧ RpAll K B (kvs.map (·.2)) (es.map (·.2))
  | .cell => ∃ a, C = some a ∧ o = some (some (.ref a))
  | .scr ds => ∃ a xs, o = some (some (.ref a)) ∧ SqL K B a xs ∧ RpAll K B xs ds
structure Rel (Γ : Gm) (C : Option Addr) (B0 H0 : Hp) (ρ : Env) (S : SS) (σ : L2.St) (B H : Hp) : Prop where
  nx : Nxt Γ C B0 H0 S B H
  len : ρ.length = σ.length
  slot : ∀ i, SlotOk Γ.K C H0 B H (ρ.getD i .none) σ[i]?
  dis : ∀ i j a, i ≠ j → (ρ.getD i .none).isOwn = true → (ρ.getD j .none).isOwn = true → σ[i]? = some (some (V.ref a)) → σ[j]? = some (some (V.ref a)) → False
theorem SlotOk.up {H0 : Hp} {s : Slot} {o : Option (Option V)} (n : Nxt Γ C B H S1 B1 H1) (h : SlotOk Γ.K C H0 B H s o) : SlotOk Γ.K C H0 B1 H1 s o := by
  cases s with
  | none => trivial
  | val d =>
    obtain ⟨v, e, r⟩ := h
    exact ⟨v, e, r.up n.sb⟩
  | own ds =>
    obtain ⟨a, xs, e, z, b, c, h, r⟩ := h
    exact ⟨a, xs, e, z, n.nw a b (by rw [h]; simp), c, n.ex.keep _ _ h c (by simp), r.up n.sb⟩
  | ownd es =>
    obtain ⟨a, xs, e, z, b, c, h, k, r⟩ := h
    exact ⟨a, xs, e, z, n.nw a b (by rw [h]; simp), c, n.ex.keep _ _ h c (by simp), k, r.up n.sb⟩
  | lockd es =>
    obtain ⟨a, xs, e, z, b, c, ⟨od, h⟩, k, r⟩ := h
    exact ⟨a, xs, e, z, n.nw a b (by rw [h]; simp), c, ⟨od, n.ex.keep _ _ h c (by simp)⟩, k, r.up n.sb⟩
  | cell => exact h
  | scr ds =>
    obtain ⟨a, xs, e, h, r⟩ := h
    exact ⟨a, xs, e, n.sb.sqL h, r.up n.sb⟩
theorem Rel.up {B0 H0 : Hp} {ρ : Env} {σ : L2.St} (R : Rel Γ C B0 H0 ρ S σ B H) (n : Nxt Γ C B H S1 B1 H1) : Rel Γ C B0 H0 ρ S1 σ B1 H1 :=
  ⟨R.nx.trans n, R.len, fun i => (R.slot i).up n, R.dis⟩
end

/-! expressions: what holds behind one -/
section
variable {Γ : Gm} {C : Option Addr} {W : WX} {σ : L2.St} {B B1 B2 H H1 H2 : Hp} {S S1 S2 : SS}
/-- a value held for good, or a list or dict of one's own just read -/
def RpT (K : PySem.W.Frag) (C : Option Addr) (B H : Hp) (v : V) (d : D) : Prop :=
  Rp K B v d ∨ (∃ a xs ds, v = .ref a ∧ d = .list ds ∧ H a = some (.lst xs) ∧ B a = none ∧ C ≠ some a ∧ RpAll K B xs ds) ∨
    (∃ a kvs es, v = .ref a ∧ d = .dict es ∧ H a = some (.dK kvs) ∧ B a = none ∧ C ≠ some a ∧ es.map (·.1) = kvs.map (fun kv => keyD kv.1) ∧ RpAll K B (kvs.map (·.2)) (es.map (·.2)))
theorem RpT.up {v : V} {d : D} (n : Nxt Γ C B H S1 B1 H1) (h : RpT Γ.K C B H v d) : RpT Γ.K C B1 H1 v d := by
  rcases h with h | ⟨a, xs, ds, e1, e2, h, b, c, r⟩ | ⟨a, xs, ds, e1, e2, h, b, c, k, r⟩
  · exact .inl (h.up n.sb)
  · exact .inr (.inl ⟨a, xs, ds, e1, e2, n.ex.keep _ _ h c (by simp), n.nw a b (by rw [h]; simp), c, r.up n.sb⟩)
  · exact .inr (.inr ⟨a, xs, ds, e1, e2, n.ex.keep _ _ h c (by simp), n.nw a b (by rw [h]; simp), c, k, r.up n.sb⟩)
abbrev RR := Gm → Option Addr → Hp → Hp → V → D → Prop
abbrev rrE : RR := fun Γ _ B _ v d => Rp Γ.K B v d
abbrev rrT : RR := fun Γ C B H v d => RpT Γ.K C B H v d
def PostV (R : RR) (Γ : Gm) (C : Option Addr) (W : WX) (σ : L2.St) (B H : Hp) (Q : VK) : Res D → Prop
  | .ok d S' => ∀ v H' B', Nxt Γ C B H S' B' H' → R Γ C B' H' v d → Q v H'
  | .exc k S' => ∀ H' B', Nxt Γ C B H S' B' H' → W (Γ.cls k) none σ H'
  | .bad => False
def rd (R : RR) (Γ : Gm) (W : WX) (m : ME) : TE := fun σ H Q => ∃ C B0 H0 ρ S B, Rel Γ C B0 H0 ρ S σ B H ∧ PostV R Γ C W σ B H Q (m ρ S)
abbrev rdE := rd rrE
abbrev rdT := rd rrT
theorem PostV.up {R : RR} {Q : VK} {r : Res D} (n : Nxt Γ C B H S1 B1 H1) (h : PostV R Γ C W σ B H Q r) : PostV R Γ C W σ B1 H1 Q r := by
  cases r with
  | ok d S' => exact fun v H' B' n' x => h v H' B' (n.trans n') x
  | exc k S' => exact fun H' B' n' => h H' B' (n.trans n')
  | bad => exact h
theorem PostV.bind {R : RR} {Q : VK} {α : Type} {m : M α} {f : α → M D} {S : SS} (h : PostV R Γ C W σ B H Q ((m >>= f) S)) : (∃ a S', m S = .ok a S' ∧ PostV R Γ C W σ B H Q (f a S')) ∨ (∃ k S', m S = .exc k S' ∧ PostV R Γ C W σ B H Q (.exc k S')) := by
  rw [bind_at] at h
  cases e : m S with
  | ok a S' => rw [e] at h; exact .inl ⟨a, S', rfl, h⟩
  | exc k S' => rw [e] at h; exact .inr ⟨k, S', rfl, h⟩
  | bad => rw [e] at h; exact h.elim
/-- a part is asked, then the rest -/
theorem rd_bind {R R' : RR} {m : ME} {f : D → M D} {Q Q' : VK} {B0 H0 : Hp} {ρ : Env} (r : Rel Γ C B0 H0 ρ S σ B H) (h : PostV R' Γ C W σ B H Q ((m ρ >>= f) S))
    (k : ∀ d S1 v H1 B1, Rel Γ C B0 H0 ρ S1 σ B1 H1 → Nxt Γ C B H S1 B1 H1 → R Γ C B1 H1 v d → PostV R' Γ C W σ B1 H1 Q (f d S1) → Q' v H1) : rd R Γ W m σ H Q' := by
  refine ⟨C, B0, H0, ρ, S, B, r, ?_⟩
  rcases h.bind with ⟨d, S', e, h⟩ | ⟨k', S', e, h⟩
  · rw [e]
    exact fun v H' B' n x => k d S' v H' B' (r.up n) n x (h.up n)
  · rw [e]
    exact h
theorem PE.imp {X : Cx} {e : Expr} {t t' : TE} (h : PE X e t) (i : ∀ σ H Q, t' σ H Q → t σ H Q) : PE X e t' := ⟨fun pins s σ H Q I q => h.run pins s σ H Q I (i σ H Q q)⟩
theorem PE.toT {X : Cx} {e : Expr} {m : ME} (h : PE X e (rdE Γ W m)) : PE X e (rdT Γ W m) := PE.imp h fun σ H Q ⟨C, B0, H0, ρ, S, B, r, p⟩ => by
  refine ⟨C, B0, H0, ρ, S, B, r, ?_⟩
  cases e : m ρ S with
  | ok d S' => rw [e] at p; exact fun v H' B' n x => p v H' B' n (.inl x)
  | exc k S' => rw [e] at p; exact p
  | bad => rw [e] at p; exact p
/-- the value at hand -/
theorem PostV.val {Q : VK} {d : D} {v : V} {H' B' : Hp} {S' : SS} (h : PostV rrE Γ C W σ B H Q ((pure d : M D) S')) (n : Nxt Γ C B H S' B' H') (x : Rp Γ.K B' v d) : Q v H' := h v H' B' n x
end
end Pv
namespace Pv
open PySem PySem.Spec PyProof.Rows L2
/-! forms -/
def plainE : Expr → Bool
  | .Starred .. => false
  | .Slice .. => false
  | .Set .. => false
  | .NamedExpr .. => false
  | _ => true
def plainT : Expr → Bool
  | .UnaryOp .Not _ _ => false
  | .BoolOp .. => false
  | .IfExp .. => false
  | .Compare .. => false
  | _ => true
def notComp : Expr → Bool
  | .ListComp .. => false
  | .SetComp .. => false
  | .DictComp .. => false
  | _ => true
theorem star_plain {e : Expr} (h : plainE e = true) (es : List Expr) (env : PySem.Env) : starEach (e :: es) env = (false, eval e env) :: starEach es env := by
  cases e <;> first | rfl | exact absurd h (by simp [plainE])
theorem mark_plain {e : Expr} (h : plainE e = true) (op : CmpOp) : behindInMarks op e = false := by
  cases e <;> first | rfl | exact absurd h (by simp [plainE])
theorem ix_plain {e : Expr} (h : plainE e = true) : PlainIx e := by
  intro o i
  cases e <;> first | rfl | exact absurd h (by simp [plainE])
theorem set_plain {e : Expr} (h : plainE e = true) (env : PySem.Env) (x : Value) : foldedSetIterable e env x = pure x := by
  cases e <;> first | rfl | exact absurd h (by simp [plainE])
theorem tst_plain {e : Expr} (h : plainT e = true) (env : PySem.Env) (w : Sem Value) : isTrue e env w = (do let v ← w; standAt e.pos; holding [v] (truthy v)) := by
  cases e with
  | UnaryOp op a p => cases op <;> first | rfl | exact absurd h (by simp [plainT])
  | _ => first | rfl | exact absurd h (by simp [plainT])
theorem swap_plain {e : Expr} (h : notComp e = true) (t : Option Expr) (n : Nat) (env : PySem.Env) : swapsWith e t n env = pure false := by
  cases e <;> first | rfl | exact absurd h (by simp [notComp])

variable {Γ : Gm} {X : Cx} {W : WX} {pos p : Pos}
/-! names, constants -/
def vVar (i : Nat) : ME := fun ρ => match ρ.getD i .none with
  | .val d => pure d
  | _ => bad
def vPeek (i : Nat) : ME := fun ρ => match ρ.getD i .none with
  | .val d => pure d
  | .own ds => pure (.list ds)
  | .ownd es => pure (.dict es)
  | _ => bad
theorem Rel.at {Γ : Gm} {C : Option Addr} {B0 H0 B H : Hp} {ρ : Env} {S : SS} {σ : L2.St} (r : Rel Γ C B0 H0 ρ S σ B H) {i : Nat} {s : Slot} (e : ρ.getD i .none = s) : SlotOk Γ.K C H0 B H s σ[i]? := e ▸ r.slot i
theorem d_var {i : Nat} {x : Str} (hN : X.N[i]? = some x) (hv : Vis X.env.scope x) (hd : (x == ("__debug__" : Str)) = false) (hc : (x == ("__classdict__" : Str)) = false) : PE X (.Name x pos) (rdE Γ W (vVar i)) :=
  PE.imp (pe_var hN hv hd hc) fun σ H Q ⟨C, B0, H0, ρ, S, B, r, q⟩ => by
    unfold vVar at q
    cases e : ρ.getD i .none with
    | val d =>
      rw [e] at q
      obtain ⟨v, e1, rp⟩ := r.at e
      exact ⟨v, e1, q v H B r.nx.here rp⟩
    | _ => rw [e] at q; exact q.elim
theorem d_peek {i : Nat} {x : Str} (hN : X.N[i]? = some x) (hv : Vis X.env.scope x) (hd : (x == ("__debug__" : Str)) = false) (hc : (x == ("__classdict__" : Str)) = false) : PE X (.Name x pos) (rdT Γ W (vPeek i)) :=
  PE.imp (pe_var hN hv hd hc) fun σ H Q ⟨C, B0, H0, ρ, S, B, r, q⟩ => by
    unfold vPeek at q
    cases e : ρ.getD i .none with
    | val d =>
      rw [e] at q
      obtain ⟨v, e1, rp⟩ := r.at e
      exact ⟨v, e1, q v H B r.nx.here (.inl rp)⟩
    | own ds =>
      rw [e] at q
      obtain ⟨a, xs, e1, _, nb, nc, h, rp⟩ := r.at e
      exact ⟨_, e1, q _ H B r.nx.here (.inr (.inl ⟨a, xs, ds, rfl, rfl, h, nb, nc, rp⟩))⟩
    | ownd es =>
      rw [e] at q
      obtain ⟨a, xs, e1, _, nb, nc, h, k, rp⟩ := r.at e
      exact ⟨_, e1, q _ H B r.nx.here (.inr (.inr ⟨a, xs, es, rfl, rfl, h, nb, nc, k, rp⟩))⟩
    | _ => rw [e] at q; exact q.elim
def vC (d : D) : ME := fun _ => pure d
theorem d_const {e : Expr} {v : V} {d : D} (h : PE X e (tC v)) (hr : ∀ B, Rp Γ.K B v d) : PE X e (rdE Γ W (vC d)) :=
  PE.imp h fun σ H Q ⟨C, B0, H0, ρ, S, B, r, q⟩ => q v H B r.nx.here (hr B)
theorem d_int {i : Int} {j : Nat} : PE X (.Constant (.int i) j pos) (rdE Γ W (vC (.int i))) := d_const pe_int fun _ => .int i
theorem d_str {x : Str} {j : Nat} : PE X (.Constant (.str x) j pos) (rdE Γ W (vC (.str x))) := d_const pe_str fun _ => .str x
theorem d_bl {b : Bool} {j : Nat} : PE X (.Constant (.bool b) j pos) (rdE Γ W (vC (.bool b))) := d_const pe_bl fun _ => .bl b
theorem d_non {j : Nat} : PE X (.Constant .none j pos) (rdE Γ W (vC .none)) := d_const pe_non fun _ => .non
theorem d_glob {x : Str} {v : V} {u : Value} {d : D} (hg : Gl X x) (hm : X.mg x = some u) (r : RelV v u) (hd : (x == ("__debug__" : Str)) = false) (hr : ∀ B, Rp Γ.K B v d) : PE X (.Name x pos) (rdE Γ W (vC d)) := d_const (pe_glob hg hm r hd) hr

/-! what a value read must be -/
section
variable {K : PySem.W.Frag} {C : Option Addr} {B H : Hp} {v : V}
theorem RpT.int {i : Int} (h : RpT K C B H v (.int i)) : v = .int i := by
  rcases h with h | ⟨_, _, _, _, e, _⟩ | ⟨_, _, _, _, e, _⟩
  · cases h; rfl
  · cases e
  · cases e
theorem RpT.bool {b : Bool} (h : RpT K C B H v (.bool b)) : v = .bl b := by
  rcases h with h | ⟨_, _, _, _, e, _⟩ | ⟨_, _, _, _, e, _⟩
  · cases h; rfl
  · cases e
  · cases e
theorem RpT.str {x : Str} (h : RpT K C B H v (.str x)) : v = .str x := by
  rcases h with h | ⟨_, _, _, _, e, _⟩ | ⟨_, _, _, _, e, _⟩
  · cases h; rfl
  · cases e
  · cases e
theorem RpT.none (h : RpT K C B H v .none) : v = .non := by
  rcases h with h | ⟨_, _, _, _, e, _⟩ | ⟨_, _, _, _, e, _⟩
  · cases h; rfl
  · cases e
  · cases e
theorem RpT.list {ds : List D} (s : Sub B H) (h : RpT K C B H v (.list ds)) : ∃ a xs, v = .ref a ∧ H a = some (.lst xs) ∧ RpAll K B xs ds := by
  rcases h with h | ⟨a, xs, _, e1, e, h, _, _, r⟩ | ⟨_, _, _, _, e, _⟩
  · cases h with
    | lst h r => exact ⟨_, _, rfl, s _ _ h, r⟩
  · cases e; exact ⟨a, xs, e1, h, r⟩
  · cases e
theorem RpT.tuple {ds : List D} (s : Sub B H) (h : RpT K C B H v (.tuple ds)) : ∃ a xs, v = .ref a ∧ SqT K H a xs ∧ RpAll K B xs ds := by
  rcases h with h | ⟨_, _, _, _, e, _⟩ | ⟨_, _, _, _, e, _⟩
  · cases h with
    | tup h r => exact ⟨_, _, rfl, s.sqT h, r⟩
  · cases e
  · cases e
theorem RpT.dp {d : D} (s : Sub B H) (hc : d.canLay0 = true) (h : RpT K C B H v d) : Dp K H v d := by
  rcases h with h | ⟨a, xs, ds, e1, e, h, _, _, r⟩ | ⟨_, _, _, _, e, _⟩
  · exact Rp.dp s hc h
  · subst e; subst e1
    exact .lst (.inl (.inl h)) (RpAll.dp s (by simpa [PyData.canLay0] using hc) r)
  · subst e; simp [PyData.canLay0] at hc
end

/-! operators -/
/-- the operator's reading follows from f's answer -/
def OpP (Γ : Gm) (f : D → D → M D) (r : R2) : Prop := ∀ {C : Option Addr} {W : WX} {σ : L2.St} {B H : Hp} {S : SS} {Q : VK} {x y : V} {d e : D},
  Nxt Γ C B H S B H → RpT Γ.K C B H x d → RpT Γ.K C B H y e → PostV rrE Γ C W σ B H Q (f d e S) → r x y H Q
def UnP (Γ : Gm) (f : D → M D) (r : V → Hp → VK → Prop) : Prop := ∀ {C : Option Addr} {W : WX} {σ : L2.St} {B H : Hp} {S : SS} {Q : VK} {x : V} {d : D},
  Nxt Γ C B H S B H → RpT Γ.K C B H x d → PostV rrE Γ C W σ B H Q (f d S) → r x H Q
def v1 (f : D → M D) (ma : ME) : ME := fun ρ => ma ρ >>= f
def v2 (f : D → D → M D) (ma mb : ME) : ME := fun ρ => ma ρ >>= fun x => mb ρ >>= f x
variable {a b : Expr} {ma mb mc : ME} {f : D → D → M D} {r : R2}
theorem post2 (hp : OpP Γ f r) : ∀ {σ : L2.St} {H : Hp} {Q : VK}, rdE Γ W (v2 f ma mb) σ H Q → rdT Γ W ma σ H fun x H1 => rdT Γ W mb σ H1 fun y H2 => r x y H2 Q := fun ⟨C, B0, H0, ρ, S, B, r0, q⟩ =>
  rd_bind r0 q fun d S1 v H1 B1 r1 n1 x1 p1 => rd_bind r1 p1 fun e S2 u H2 B2 r2 n2 x2 p2 => hp r2.nx.here (x1.up n2) x2 p2
theorem d_bin {op : Operator} (ho : OpR X (binaryOp op) r) (hp : OpP Γ f r) (ha : PE X a (rdT Γ W ma)) (hb : PE X b (rdT Γ W mb)) : PE X (.BinOp a op b pos) (rdE Γ W (v2 f ma mb)) :=
  PE.imp (pe_op ho ha hb) fun _ _ _ q => post2 hp q
theorem d_un {op : UnaryOp} {g : D → M D} {r : V → Hp → VK → Prop} (ho : UnR X (unaryOp op) r) (hp : UnP Γ g r) (ha : PE X a (rdT Γ W ma)) : PE X (.UnaryOp op a pos) (rdE Γ W (v1 g ma)) :=
  PE.imp (pe_un ho ha) fun σ H Q ⟨C, B0, H0, ρ, S, B, r0, q⟩ => rd_bind r0 q fun d S1 v H1 B1 r1 n1 x1 p1 => hp r1.nx.here x1 p1
theorem d_cmp {op : CmpOp} (ho : OpR X (compareOp op) r) (hp : OpP Γ f r) (ha : PE X a (rdT Γ W ma)) (hb : PE X b (rdT Γ W mb)) (hf : plainE b = true) : PE X (.Compare a [op] [b] pos) (rdE Γ W (v2 f ma mb)) :=
  PE.imp (pe_cmpR ho ha hb (mark_plain hf op)) fun _ _ _ q => post2 hp q
theorem d_ix (ho : IxR X r) (hp : OpP Γ f r) (ha : PE X a (rdT Γ W ma)) (hb : PE X b (rdT Γ W mb)) (hf : plainE b = true) : PE X (.Subscript a b pos) (rdE Γ W (v2 f ma mb)) :=
  PE.imp (pe_ix ho ha hb (ix_plain hf)) fun _ _ _ q => post2 hp q

/-! tests -/
def asB : D → M Bool
  | .bool b => pure b
  | _ => bad
def PostB (Γ : Gm) (C : Option Addr) (W : WX) (σ : L2.St) (B H : Hp) (Q : Bool → Hp → Prop) : Res Bool → Prop
  | .ok b S' => ∀ H' B', Nxt Γ C B H S' B' H' → Q b H'
  | .exc k S' => ∀ H' B', Nxt Γ C B H S' B' H' → W (Γ.cls k) none σ H'
  | .bad => False
def rdB (Γ : Gm) (W : WX) (m : ME) : TT := fun σ H Q => ∃ C B0 H0 ρ S B, Rel Γ C B0 H0 ρ S σ B H ∧ PostB Γ C W σ B H Q ((m ρ >>= asB) S)
theorem PT.imp {e : Expr} {t t' : TT} (h : PT X e t) (i : ∀ σ H Q, t' σ H Q → t σ H Q) : PT X e t' := ⟨fun pins s σ H Q I q => h.run pins s σ H Q I (i σ H Q q)⟩
theorem PW.imp {e : Expr} {t t' : TT} (h : PW X e t) (i : ∀ σ H Q, t' σ H Q → t σ H Q) : PW X e t' := ⟨fun w pins s σ H Q I q => h.run w pins s σ H Q I (i σ H Q q)⟩
theorem PostB.up {C : Option Addr} {σ : L2.St} {B B1 H H1 : Hp} {S1 : SS} {Q : Bool → Hp → Prop} {r : Res Bool} (n : Nxt Γ C B H S1 B1 H1) (h : PostB Γ C W σ B H Q r) : PostB Γ C W σ B1 H1 Q r := by
  cases r with
  | ok d S' => exact fun H' B' n' => h H' B' (n.trans n')
  | exc k S' => exact fun H' B' n' => h H' B' (n.trans n')
  | bad => exact h
/-- a part is asked, then the rest (a test's) -/
theorem rd_bindB {R : RR} {C : Option Addr} {σ : L2.St} {B H B0 H0 : Hp} {S : SS} {ρ : Env} {m : ME} {f : D → M Bool} {Q : Bool → Hp → Prop} {Q' : VK} (r : Rel Γ C B0 H0 ρ S σ B H) (h : PostB Γ C W σ B H Q ((m ρ >>= f) S))
    (k : ∀ d S1 v H1 B1, Rel Γ C B0 H0 ρ S1 σ B1 H1 → Nxt Γ C B H S1 B1 H1 → R Γ C B1 H1 v d → PostB Γ C W σ B1 H1 Q (f d S1) → Q' v H1) : rd R Γ W m σ H Q' := by
  refine ⟨C, B0, H0, ρ, S, B, r, ?_⟩
  rw [bind_at] at h
  cases e : m ρ S with
  | ok d S' => rw [e] at h; exact fun v H' B' n x => k d S' v H' B' (r.up n) n x (h.up n)
  | exc j S' => rw [e] at h; exact h
  | bad => rw [e] at h; exact h
theorem d_tst {e : Expr} {m : ME} (h : PE X e (rdE Γ W m)) (hf : plainT e = true) : PT X e (rdB Γ W m) :=
  PT.imp (pt_val h (tst_plain hf X.env)) fun σ H Q ⟨C, B0, H0, ρ, S, B, r, q⟩ => rd_bindB r q fun d S1 v H1 B1 r1 n1 x1 p1 => by
    cases d with
    | bool b => cases x1; exact ⟨b, rfl, p1 H1 B1 r1.nx.here⟩
    | _ => exact p1.elim
theorem toB {t : TE} {m : ME} (i : ∀ {σ : L2.St} {H : Hp} {Q : VK}, rdE Γ W m σ H Q → t σ H Q) : ∀ (σ : L2.St) (H : Hp) (Q : Bool → Hp → Prop), rdB Γ W m σ H Q → tTest t σ H Q := fun σ H Q ⟨C, B0, H0, ρ, S, B, r, q⟩ => by
  refine i ⟨C, B0, H0, ρ, S, B, r, ?_⟩
  rw [bind_at] at q
  cases e : m ρ S with
  | ok d S' =>
    rw [e] at q
    intro v H' B' n x
    cases d with
    | bool b => cases x; exact ⟨b, rfl, q H' B' n⟩
    | _ => exact q.elim
  | exc j S' => rw [e] at q; exact q
  | bad => rw [e] at q; exact q
theorem d_tcmp {op : CmpOp} (ho : OpR X (compareOp op) r) (hp : OpP Γ f r) (ha : PE X a (rdT Γ W ma)) (hb : PE X b (rdT Γ W mb)) (hf : plainE b = true) : PT X (.Compare a [op] [b] pos) (rdB Γ W (v2 f ma mb)) :=
  PT.imp (pt_cmpR ho ha hb (mark_plain hf op)) (toB fun q => post2 hp q)
def vNot (ma : ME) : ME := fun ρ => ma ρ >>= fun d => asB d >>= fun b => pure (.bool (!b))
def vAnd (ma mb : ME) : ME := fun ρ => ma ρ >>= fun d => asB d >>= fun b => if b = true then mb ρ else pure (.bool false)
def vOr (ma mb : ME) : ME := fun ρ => ma ρ >>= fun d => asB d >>= fun b => if b = true then pure (.bool true) else mb ρ
def vIf (mc ma mb : ME) : ME := fun ρ => mc ρ >>= fun d => asB d >>= fun b => if b = true then ma ρ else mb ρ
/-- a test is asked, then the rest -/
theorem rdB_bind {C : Option Addr} {σ : L2.St} {B H B0 H0 : Hp} {S : SS} {ρ : Env} {m : ME} {g : Bool → M D} {R : RR} {Q : VK} {Q' : Bool → Hp → Prop} (r : Rel Γ C B0 H0 ρ S σ B H) (h : PostV R Γ C W σ B H Q ((m ρ >>= fun d => asB d >>= g) S))
    (k : ∀ b S1 H1 B1, Rel Γ C B0 H0 ρ S1 σ B1 H1 → Nxt Γ C B H S1 B1 H1 → PostV R Γ C W σ B1 H1 Q (g b S1) → Q' b H1) : rdB Γ W m σ H Q' := by
  refine ⟨C, B0, H0, ρ, S, B, r, ?_⟩
  rw [← bnd_assoc, bind_at] at h
  cases e : (m ρ >>= asB) S with
  | ok d S' => rw [e] at h; exact fun H' B' n => k d S' H' B' (r.up n) n (h.up n)
  | exc j S' => rw [e] at h; exact h
  | bad => rw [e] at h; exact h
theorem rdB_bindB {C : Option Addr} {σ : L2.St} {B H B0 H0 : Hp} {S : SS} {ρ : Env} {m : ME} {g : Bool → M Bool} {Q : Bool → Hp → Prop} {Q' : Bool → Hp → Prop} (r : Rel Γ C B0 H0 ρ S σ B H) (h : PostB Γ C W σ B H Q ((m ρ >>= fun d => asB d >>= g) S))
    (k : ∀ b S1 H1 B1, Rel Γ C B0 H0 ρ S1 σ B1 H1 → Nxt Γ C B H S1 B1 H1 → PostB Γ C W σ B1 H1 Q (g b S1) → Q' b H1) : rdB Γ W m σ H Q' := by
  refine ⟨C, B0, H0, ρ, S, B, r, ?_⟩
  rw [← bnd_assoc, bind_at] at h
  cases e : (m ρ >>= asB) S with
  | ok d S' => rw [e] at h; exact fun H' B' n => k d S' H' B' (r.up n) n (h.up n)
  | exc j S' => rw [e] at h; exact h
  | bad => rw [e] at h; exact h
theorem d_tnot (ha : PT X a (rdB Γ W ma)) : PT X (.UnaryOp .Not a pos) (rdB Γ W (vNot ma)) :=
  PT.imp (pt_not ha) fun σ H Q ⟨C, B0, H0, ρ, S, B, r, q⟩ => by
    unfold vNot at q
    simp only [bnd_assoc, pure_bnd] at q
    exact rdB_bindB r q fun b S1 H1 B1 r1 n1 p1 => p1 H1 B1 r1.nx.here
theorem d_not (ha : PE X a (rdE Γ W ma)) : PE X (.UnaryOp .Not a pos) (rdE Γ W (vNot ma)) :=
  PE.imp (pe_not ha) fun σ H Q ⟨C, B0, H0, ρ, S, B, r, q⟩ => rd_bind r q fun d S1 v H1 B1 r1 n1 x1 p1 => by
    cases d with
    | bool b => cases x1; exact ⟨b, rfl, p1.val r1.nx.here (.bl _)⟩
    | _ => exact p1.elim
theorem d_ife {c : Expr} (hc : PT X c (rdB Γ W mc)) (ha : PE X a (rdE Γ W ma)) (hb : PE X b (rdE Γ W mb)) : PE X (.IfExp c a b pos) (rdE Γ W (vIf mc ma mb)) :=
  PE.imp (pe_ifExp hc ha hb) fun σ H Q ⟨C, B0, H0, ρ, S, B, r, q⟩ => rdB_bind r q fun d S1 H1 B1 r1 n1 p1 => by
    cases d with
    | true => exact ⟨C, B0, H0, ρ, S1, B1, r1, p1⟩
    | false => exact ⟨C, B0, H0, ρ, S1, B1, r1, p1⟩
theorem d_one {op : BoolOp} (ha : PE X a (rdE Γ W ma)) : PE X (.BoolOp op [a] pos) (rdE Γ W ma) := pe_one ha
theorem d_and {rest : List Expr} (ha : PE X a (rdE Γ W ma)) (hb : PE X (.BoolOp .And (b :: rest) pos) (rdE Γ W mb)) : PE X (.BoolOp .And (a :: b :: rest) pos) (rdE Γ W (vAnd ma mb)) :=
  PE.imp (pe_and ha hb) fun σ H Q ⟨C, B0, H0, ρ, S, B, r, q⟩ => rd_bind r q fun d S1 v H1 B1 r1 n1 x1 p1 => by
    cases d with
    | bool c =>
      cases x1
      refine ⟨c, rfl, ?_⟩
      cases c with
      | true => exact ⟨C, B0, H0, ρ, S1, B1, r1, p1⟩
      | false => exact p1.val r1.nx.here (.bl _)
    | _ => exact p1.elim
theorem d_or {rest : List Expr} (ha : PE X a (rdE Γ W ma)) (hb : PE X (.BoolOp .Or (b :: rest) pos) (rdE Γ W mb)) : PE X (.BoolOp .Or (a :: b :: rest) pos) (rdE Γ W (vOr ma mb)) :=
  PE.imp (pe_or ha hb) fun σ H Q ⟨C, B0, H0, ρ, S, B, r, q⟩ => rd_bind r q fun d S1 v H1 B1 r1 n1 x1 p1 => by
    cases d with
    | bool c =>
      cases x1
      refine ⟨c, rfl, ?_⟩
      cases c with
      | false => exact ⟨C, B0, H0, ρ, S1, B1, r1, p1⟩
      | true => exact p1.val r1.nx.here (.bl _)
    | _ => exact p1.elim
theorem d_wand1 (ha : PT X a (rdB Γ W ma)) : PW X (.BoolOp .And [a] pos) (rdB Γ W ma) := pw_and1 ha
theorem d_wor1 (ha : PT X a (rdB Γ W ma)) : PW X (.BoolOp .Or [a] pos) (rdB Γ W ma) := pw_or1 ha
theorem d_wand {rest : List Expr} (ha : PT X a (rdB Γ W ma)) (hb : PW X (.BoolOp .And (b :: rest) pos) (rdB Γ W mb)) : PW X (.BoolOp .And (a :: b :: rest) pos) (rdB Γ W (vAnd ma mb)) :=
  PW.imp (pw_and ha hb) fun σ H Q ⟨C, B0, H0, ρ, S, B, r, q⟩ => by
    unfold vAnd at q
    simp only [bnd_assoc] at q
    refine rdB_bindB r q fun c S1 H1 B1 r1 n1 p1 => ?_
    cases c with
    | true => exact ⟨C, B0, H0, ρ, S1, B1, r1, p1⟩
    | false => exact p1 H1 B1 r1.nx.here
theorem d_wor {rest : List Expr} (ha : PT X a (rdB Γ W ma)) (hb : PW X (.BoolOp .Or (b :: rest) pos) (rdB Γ W mb)) : PW X (.BoolOp .Or (a :: b :: rest) pos) (rdB Γ W (vOr ma mb)) :=
  PW.imp (pw_or ha hb) fun σ H Q ⟨C, B0, H0, ρ, S, B, r, q⟩ => by
    unfold vOr at q
    simp only [bnd_assoc] at q
    refine rdB_bindB r q fun c S1 H1 B1 r1 n1 p1 => ?_
    cases c with
    | false => exact ⟨C, B0, H0, ρ, S1, B1, r1, p1⟩
    | true => exact p1 H1 B1 r1.nx.here
/-- a < b < c -/
def vChain (f g : D → D → M D) (ma mb mc : ME) : ME := fun ρ => ma ρ >>= fun x => mb ρ >>= fun y => f x y >>= fun d => asB d >>= fun k => if k = true then mc ρ >>= g y else pure (.bool false)
theorem post_chain {c : Expr} {g : D → D → M D} {r' : R2} (hp : OpP Γ f r) (hp' : OpP Γ g r') {σ : L2.St} {H : Hp} {Q : VK} (hq : rdE Γ W (vChain f g ma mb mc) σ H Q) : tChain r r' (rdT Γ W ma) (rdT Γ W mb) (rdT Γ W mc) σ H Q := by
  obtain ⟨C, B0, H0, ρ, S, B, r0, q⟩ := hq
  refine rd_bind r0 q fun d S1 v H1 B1 r1 n1 x1 p1 => rd_bind r1 p1 fun e S2 u H2 B2 r2 n2 x2 p2 => ?_
  rcases p2.bind with ⟨z, S3, e3, p3⟩ | ⟨k, S3, e3, p3⟩
  · refine hp (S := S2) (C := C) (B := B2) (W := W) (σ := σ) r2.nx.here (x1.up n2) x2 ?_
    rw [e3]
    intro w' H' B' n x
    cases z with
    | bool k =>
      cases x
      refine ⟨k, rfl, ?_⟩
      cases k with
      | true => exact rd_bind (r2.up n) (p3.up n) fun z2 S4 u4 H4 B4 r4 n4 x4 p4 => hp' r4.nx.here ((x2.up n).up n4) x4 p4
      | false => exact (p3.up n).val (r2.up n).nx.here (.bl _)
    | _ => exact p3.elim
  · refine hp (S := S2) (C := C) (B := B2) (W := W) (σ := σ) r2.nx.here (x1.up n2) x2 ?_
    rw [e3]
    exact p3
theorem marks_plain {b c : Expr} (hc : plainE c = true) (op op' : CmpOp) : lastMarks [op, op'] [b, c] = false := mark_plain hc op'
theorem d_chain {c : Expr} {op op' : CmpOp} {g : D → D → M D} {r' : R2} (ho : OpR X (compareOp op) r) (ho' : OpR X (compareOp op') r') (hp : OpP Γ f r) (hp' : OpP Γ g r') (ha : PE X a (rdT Γ W ma)) (hb : PE X b (rdT Γ W mb)) (hc : PE X c (rdT Γ W mc)) (hf : plainE c = true) :
    PE X (.Compare a [op, op'] [b, c] pos) (rdE Γ W (vChain f g ma mb mc)) := PE.imp (pe_chain ho ho' ha hb hc (marks_plain hf op op')) fun _ _ _ q => post_chain (c := c) hp hp' q
theorem d_tchain {c : Expr} {op op' : CmpOp} {g : D → D → M D} {r' : R2} (ho : OpR X (compareOp op) r) (ho' : OpR X (compareOp op') r') (hp : OpP Γ f r) (hp' : OpP Γ g r') (ha : PE X a (rdT Γ W ma)) (hb : PE X b (rdT Γ W mb)) (hc : PE X c (rdT Γ W mc)) (hf : plainE c = true) :
    PT X (.Compare a [op, op'] [b, c] pos) (rdB Γ W (vChain f g ma mb mc)) := PT.imp (pt_chain ho ho' ha hb hc (marks_plain hf op op')) (toB fun q => post_chain (c := c) hp hp' q)
end Pv
namespace Pv
open PySem PySem.Spec PyProof.Rows L2
variable {Γ : Gm} {X : Cx}
/-! t * 1: the tuple itself -/
theorem tuple_one (l : Addr) (items : Array Value) (n : Nat) (dd : Option Addr) (sl : Array (Option Value)) (u : Tok) :
    Meets (Builtin.«tuple.__mul__» ⟨[.ref l, .int 1 u], []⟩) (fun _ R s => s.heap.get? l = some { cls := .type "tuple", dict := dd, data := .seq items n, slots := sl } ∧ R (.ok (.ret (Value.ref l))) s) :=
  .of_wp fun prog w A R s h => by
    obtain ⟨hp, g, d, tk, os⟩ := s
    obtain ⟨hl, h⟩ := h
    have f1 := AutoSeq1.idx_int
    wp_walk using AutoSeq1.wpAny_loadPart' hl
    all_goals first | exact ⟨_, rfl, h⟩ | skip
def rRepT1 (K : PySem.W.Frag) : R2 := fun x y H Q => ∃ l xs, x = .ref l ∧ y = .int 1 ∧ SqT K H l xs ∧ Q (.ref l) H
theorem op_repT1 : OpR X (binaryOp .Mult) (rRepT1 X.K) := by
  rintro pins s σ H x y v u Q I rx ry ⟨l, xs, rfl, rfl, ht, q⟩
  cases rx
  obtain ⟨t, rfl⟩ := ry
  obtain ⟨its, vi, ⟨⟨cl, dd, dt, sl⟩, at1, e1, n, e2⟩, _⟩ := I.tuple ht
  simp only at e1 e2
  subst e1
  subst e2
  exact wpAny_binaryOp_repeat_ref (T := "tuple") (U := "int") (by decide) ⟨_, at1, rfl⟩ (fun s' => typeIs_int s' 1 t) noFill_tuple_mul F.fills_int_mul F.slot_int_rmul repeat_tuple F.slot_int_index.lookup
    (call_meets F.slot_int_rmul (typeIs_int s 1 t) F.entry_int_rmul (F.args_int_rmul_2 _ _) (int_rmul_tuple 1 t l its.toArray n dd sl)
      ⟨at1, rfl, ⟨_, at1, rfl⟩, call_meets F.slot_tuple_mul ⟨_, at1, rfl⟩ F.entry_tuple_mul (F.args_tuple_mul_2 _ _) (tuple_one l its.toArray n dd sl t) ⟨at1, ⟨.ref l, H, I, rfl, q⟩⟩⟩)
end Pv
namespace Pv
open PySem PySem.Spec PyProof.Rows L2
variable {Γ : Gm} {X : Cx} {W : WX} {pos p : Pos}
/-! new things -/
section
variable {C : Option Addr} {B H : Hp} {S : SS} {Q : VK} {σ : L2.St} {xs : List V} {ds : List D}
theorem PostV.lst (q : PostV rrE Γ C W σ B H Q ((pure (.list ds) : M D) S)) (n : Nxt Γ C B H S B H) (r : RpAll Γ.K B xs ds) (hz : ds.length ≤ sizeLine) : ∀ p, H p = none → Q (.ref p) (upd H p (.lst xs)) := fun p np =>
  have n' := n.new np (.lst xs) (by show xs.length ≤ sizeLine; rw [r.len]; exact hz)
  q _ _ _ n' (.lst upd_same (r.up n'.sb))
theorem PostV.tup (q : PostV rrE Γ C W σ B H Q ((pure (.tuple ds) : M D) S)) (n : Nxt Γ C B H S B H) (r : RpAll Γ.K B xs ds) (hz : ds.length ≤ sizeLine) : ∀ p, H p = none → Q (.ref p) (upd H p (.tup xs)) := fun p np =>
  have n' := n.new np (.tup xs) (by show xs.length ≤ sizeLine; rw [r.len]; exact hz)
  q _ _ _ n' (.tup (.inl (.inl upd_same)) (r.up n'.sb))
theorem Nxt.lenL {a : Addr} (n : Nxt Γ C B H S B H) (h : H a = some (.lst xs)) (r : RpAll Γ.K B xs ds) : ds.length ≤ sizeLine := by
  rw [← r.len]
  exact n.ln a _ h
theorem Nxt.lenT {a : Addr} (n : Nxt Γ C B H S B H) (h : SqT Γ.K H a xs) (r : RpAll Γ.K B xs ds) : ds.length ≤ sizeLine := by
  rw [← r.len]
  rcases h with (h | ⟨o, h⟩) | ⟨o, its, m, _, _, _, hz, rv⟩
  · exact n.ln a _ h
  · exact n.ln a _ h
  · have e := rv.length
    simp only [Array.length_toList] at e
    omega
end
/-! arithmetic -/
@[irreducible] def BIG : Nat := 2 ^ 100000
theorem big_of {n k : Nat} (h : n < 2 ^ k) (hk : k ≤ 100000) : n < BIG := by
  unfold BIG
  exact Nat.lt_of_lt_of_le h (Nat.pow_le_pow_right (by decide) hk)
theorem big_log {n : Nat} (h : n < BIG) : n.log2 ≤ 100000 := by
  unfold BIG at h
  by_cases h0 : n = 0
  · subst h0; simp
  · have := (Nat.log2_lt h0).mpr h
    omega
def addD : D → D → M D
  | .int i, .int j => pure (.int (i + j))
  | .str a, .str b => if a.length + b.length ≤ sizeLine then pure (.str (a ++ b)) else bad
  | .list a, .list b => if a.length + b.length ≤ sizeLine then pure (.list (a ++ b)) else bad
  | .tuple a, .tuple b => if a.length + b.length ≤ sizeLine then pure (.tuple (a ++ b)) else bad
  | _, _ => bad
def subD : D → D → M D
  | .int i, .int j => pure (.int (i - j))
  | _, _ => bad
def mulD : D → D → M D
  | .int i, .int j => if i.natAbs < BIG ∧ j.natAbs < BIG then pure (.int (i * j)) else bad
  | .list a, .int k => if -(2 ^ 63) ≤ k ∧ k < 2 ^ 63 ∧ a.length * k.toNat ≤ sizeLine then pure (.list (List.replicate k.toNat a).flatten) else bad
  | .tuple a, .int k => if k = 1 then pure (.tuple a) else if a ≠ [] ∧ 2 ≤ k ∧ k ≤ 1000 ∧ a.length ≤ 1000 then pure (.tuple (List.replicate k.toNat a).flatten) else bad
  | _, _ => bad
/-- what one may divide by -/
@[irreducible] def DB : Nat := 2 ^ 8000
theorem db_of {n k : Nat} (h : n < 2 ^ k) (hk : k ≤ 8000) : n < DB := by
  unfold DB
  exact Nat.lt_of_lt_of_le h (Nat.pow_le_pow_right (by decide) hk)
theorem db_log {n : Nat} (h : n < DB) : n.log2 < 9000 := by
  unfold DB at h
  exact Nat.lt_of_lt_of_le (PySem.Flt.log2_lt_of (k := 8000) (by decide) h) (by decide)
def fdivD : D → D → M D
  | .int i, .int j => if j ≠ 0 ∧ j.natAbs < DB then pure (.int (i.fdiv j)) else bad
  | _, _ => bad
def modD : D → D → M D
  | .int i, .int j => if j ≠ 0 then pure (.int (i.fmod j)) else bad
  | _, _ => bad
def powD : D → D → M D
  | .int i, .int j => if 0 ≤ j ∧ j ≤ 1000000 ∧ i.natAbs < 2 ^ 64 then pure (.int (i ^ j.toNat)) else bad
  | _, _ => bad
def shlD : D → D → M D
  | .int i, .int j => if 0 ≤ j ∧ j ≤ 1000000 ∧ i.natAbs < 2 ^ 64 then pure (.int (i * 2 ^ j.toNat)) else bad
  | _, _ => bad
def shrD : D → D → M D
  | .int i, .int j => if 0 ≤ j then pure (.int (i / 2 ^ j.toNat)) else bad
  | _, _ => bad
def andD : D → D → M D
  | .int i, .int j => pure (.int (Builtin.bitAnd i j))
  | _, _ => bad
def orD : D → D → M D
  | .int i, .int j => pure (.int (Builtin.bitOr i j))
  | _, _ => bad
def xorD : D → D → M D
  | .int i, .int j => pure (.int (Builtin.bitXor i j))
  | _, _ => bad
def negD : D → M D
  | .int i => pure (.int (-i))
  | _ => bad
def invD : D → M D
  | .int i => pure (.int (Builtin.bitNot i))
  | _ => bad
theorem flat_len (ds : List D) : ∀ n : Nat, (List.replicate n ds).flatten.length = n * ds.length
  | 0 => by simp
  | n + 1 => by
    rw [List.replicate_succ, List.flatten_cons, List.length_append, flat_len ds n, Nat.succ_mul, Nat.add_comm]
theorem flat_up {vs : List V} {ds : List D} {K : PySem.W.Frag} {B : Hp} (r : RpAll K B vs ds) : ∀ n : Nat, RpAll K B (List.replicate n vs).flatten (List.replicate n ds).flatten
  | 0 => .nil
  | n + 1 => by
    rw [List.replicate_succ, List.replicate_succ, List.flatten_cons, List.flatten_cons]
    exact r.app (flat_up r n)
/-- int op int -/
theorem opp_int {f : D → D → M D} {Cd : Int → Int → Prop} {g : Int → Int → Int} (h : ∀ d e, (∃ i j, d = .int i ∧ e = .int j) ∨ f d e = bad) (h2 : ∀ i j, (Cd i j ∧ f (.int i) (.int j) = pure (.int (g i j))) ∨ f (.int i) (.int j) = bad) :
    OpP Γ f (rI Cd fun i j => .int (g i j)) := by
  intro C W σ B H S Q x y d e n hx hy q
  rcases h d e with ⟨i, j, rfl, rfl⟩ | z
  · rcases h2 i j with ⟨c, z⟩ | z
    · rw [z] at q
      exact ⟨i, j, hx.int, hy.int, c, q.val n (.int _)⟩
    · rw [z] at q; exact q.elim
  · rw [z] at q; exact q.elim
theorem opp_int0 {f : D → D → M D} {g : Int → Int → Int} (h : ∀ d e, (∃ i j, d = .int i ∧ e = .int j) ∨ f d e = bad) (h2 : ∀ i j, f (.int i) (.int j) = pure (.int (g i j))) :
    OpP Γ f (rI0 fun i j => .int (g i j)) := by
  intro C W σ B H S Q x y d e n hx hy q
  rcases h d e with ⟨i, j, rfl, rfl⟩ | z
  · rw [h2] at q
    exact ⟨i, j, hx.int, hy.int, q.val n (.int _)⟩
  · rw [z] at q; exact q.elim
theorem two_int {f : D → D → M D} (h : ∀ d e, (∀ i j, d = .int i → e = .int j → False) → f d e = bad) (d e : D) : (∃ i j, d = .int i ∧ e = .int j) ∨ f d e = bad := by
  cases d with
  | int i =>
    cases e with
    | int j => exact .inl ⟨i, j, rfl, rfl⟩
    | _ => exact .inr (h _ _ fun _ _ _ z => by cases z)
  | _ => exact .inr (h _ _ fun _ _ z => by cases z)
theorem unp_int {f : D → M D} {g : Int → Int} (h : ∀ d, (∃ i, d = .int i) ∨ f d = bad) (h2 : ∀ i, f (.int i) = pure (.int (g i))) : UnP Γ f (rU fun i => .int (g i)) := by
  intro C W σ B H S Q x d n hx q
  rcases h d with ⟨i, rfl⟩ | z
  · rw [h2] at q
    exact ⟨i, hx.int, q.val n (.int _)⟩
  · rw [z] at q; exact q.elim
theorem op_addP (K : PySem.W.Frag) (hK : X.K = K) : OpR X (binaryOp .Add) (fun x y H Q => ((rI0 (fun i j => .int (i + j)) x y H Q ∨ (∃ i j, x = .str i ∧ y = .str j ∧ i.length + j.length ≤ sizeLine ∧ Q (.str (i ++ j)) H)) ∨ rCat x y H Q) ∨ rCatA K x y H Q) :=
  OpR.or (OpR.or (OpR.or op_add op_add_str) op_cat) (hK ▸ op_catA)
theorem addP : OpP Γ addD (fun x y H Q => ((rI0 (fun i j => .int (i + j)) x y H Q ∨ (∃ i j, x = .str i ∧ y = .str j ∧ i.length + j.length ≤ sizeLine ∧ Q (.str (i ++ j)) H)) ∨ rCat x y H Q) ∨ rCatA Γ.K x y H Q) := by
  intro C W σ B H S Q x y d e n hx hy q
  unfold addD at q
  split at q
  · exact .inl (.inl (.inl ⟨_, _, hx.int, hy.int, q.val n (.int _)⟩))
  · split at q
    · rename_i h
      exact .inl (.inl (.inr ⟨_, _, hx.str, hy.str, h, q.val n (.str _)⟩))
    · exact q.elim
  · split at q
    · rename_i h
      obtain ⟨a, xs, rfl, ha, ra⟩ := hx.list n.sh
      obtain ⟨b, ys, rfl, hb, rb⟩ := hy.list n.sh
      refine .inl (.inr ⟨a, b, xs, ys, rfl, rfl, ha, hb, by rw [ra.len, rb.len]; exact h, q.lst n (ra.app rb) (by rw [List.length_append]; exact h)⟩)
    · exact q.elim
  · rename_i ta tb
    split at q
    · rename_i h
      have hx0 := hx
      have hy0 := hy
      obtain ⟨a, xs, rfl, ha, ra⟩ := hx.tuple n.sh
      obtain ⟨b, ys, rfl, hb, rb⟩ := hy.tuple n.sh
      have px : ∀ {v : V} {ts : List D}, RpT Γ.K C B H v (.tuple ts) → Rp Γ.K B v (.tuple ts) := fun h => by
        rcases h with h | ⟨_, _, _, _, e, _⟩ | ⟨_, _, _, _, e, _⟩
        · exact h
        · cases e
        · cases e
      refine .inr ⟨a, b, xs, ys, rfl, rfl, ha, hb, by rw [ra.len, rb.len]; exact h, fun z => ?_, fun _ z => ?_, fun _ _ => q.tup n (ra.app rb) (by rw [List.length_append]; exact h)⟩
      · subst z
        have e1 := ra.len
        cases ta with
        | nil => exact q.val n (px hy0)
        | cons _ _ => simp at e1
      · subst z
        have e1 := rb.len
        cases tb with
        | nil =>
          have e2 : ta ++ [] = ta := List.append_nil _
          rw [e2] at q
          exact q.val n (px hx0)
        | cons _ _ => simp at e1
    · exact q.elim
  · exact q.elim
theorem subP : OpP Γ subD (rI0 fun i j => .int (i - j)) := opp_int0 (two_int fun d e h => by unfold subD; split <;> first | rfl | exact (h _ _ rfl rfl).elim) fun _ _ => rfl
theorem op_mulL : OpR X (binaryOp .Mult) (fun x y H Q => rI CMulW (fun i j => .int (i * j)) x y H Q ∨ rRep x y H Q) := OpR.or op_mulW op_rep
theorem op_mulP (K : PySem.W.Frag) (hK : X.K = K) : OpR X (binaryOp .Mult) (fun x y H Q => (rI CMulW (fun i j => .int (i * j)) x y H Q ∨ rRep x y H Q) ∨ (rRepT K x y H Q ∨ rRepT1 K x y H Q)) := OpR.or op_mulL (OpR.or (hK ▸ op_repT) (hK ▸ op_repT1))
theorem mulP : OpP Γ mulD (fun x y H Q => (rI CMulW (fun i j => .int (i * j)) x y H Q ∨ rRep x y H Q) ∨ (rRepT Γ.K x y H Q ∨ rRepT1 Γ.K x y H Q)) := by
  intro C W σ B H S Q x y d e n hx hy q
  unfold mulD at q
  split at q
  · split at q
    · rename_i h
      refine .inl (.inl ⟨_, _, hx.int, hy.int, ?_, q.val n (.int _)⟩)
      have h1 := big_log h.1
      have h2 := big_log h.2
      unfold CMulW
      omega
    · exact q.elim
  · split at q
    · rename_i h
      obtain ⟨a, xs, rfl, ha, ra⟩ := hx.list n.sh
      exact .inl (.inr ⟨a, _, xs, rfl, hy.int, ha, h.1, h.2.1, by rw [ra.len]; exact h.2.2, q.lst n (flat_up ra _) (by rw [flat_len]; have := h.2.2; rw [Nat.mul_comm]; exact this)⟩)
    · exact q.elim
  · split at q
    · rename_i h
      have hx0 := hx
      obtain ⟨a, xs, rfl, ha, ra⟩ := hx.tuple n.sh
      refine .inr (.inr ⟨a, xs, rfl, by rw [hy.int, h], ha, q.val n ?_⟩)
      rcases hx0 with h | ⟨_, _, _, _, e, _⟩ | ⟨_, _, _, _, e, _⟩
      · exact h
      · cases e
      · cases e
    split at q
    · rename_i k _ h
      obtain ⟨a, xs, rfl, ha, ra⟩ := hx.tuple n.sh
      obtain ⟨h1, h2, h3, h4⟩ := h
      refine .inr (.inl ⟨a, k, xs, rfl, hy.int, ha, fun z => h1 ?_, h2, h3, by rw [ra.len]; exact h4, q.tup n (flat_up ra _) ?_⟩)
      · rw [z] at ra
        cases ra
        rfl
      · rw [flat_len, sizeLine_eq]
        have : k.toNat ≤ 1000 := by omega
        have := Nat.mul_le_mul this h4
        omega
    · exact q.elim
  · exact q.elim
theorem op_fdivP : OpR X (binaryOp .FloorDiv) (rI (fun _ j => j ≠ 0 ∧ j.natAbs < DB) fun i j => .int (i.fdiv j)) := opI fun _ _ _ _ _ _ _ hc q => floordiv_int hc.1 q (.inl (PyProof.noPylong_of_log2 (db_log hc.2)))
theorem fdivP : OpP Γ fdivD (rI (fun _ j => j ≠ 0 ∧ j.natAbs < DB) fun i j => .int (i.fdiv j)) := opp_int (two_int fun d e h => by unfold fdivD; split <;> first | rfl | exact (h _ _ rfl rfl).elim) fun i j => by
  by_cases h : j ≠ 0 ∧ j.natAbs < DB
  · exact .inl ⟨h, if_pos h⟩
  · exact .inr (if_neg h)
theorem modP : OpP Γ modD (rI (fun _ j => j ≠ 0) fun i j => .int (i.fmod j)) := opp_int (two_int fun d e h => by unfold modD; split <;> first | rfl | exact (h _ _ rfl rfl).elim) fun i j => by
  by_cases h : j ≠ 0
  · exact .inl ⟨h, if_pos h⟩
  · exact .inr (if_neg h)
theorem powP : OpP Γ powD (rI CPow fun i j => .int (i ^ j.toNat)) := opp_int (two_int fun d e h => by unfold powD; split <;> first | rfl | exact (h _ _ rfl rfl).elim) fun i j => by
  by_cases h : 0 ≤ j ∧ j ≤ 1000000 ∧ i.natAbs < 2 ^ 64
  · exact .inl ⟨h, if_pos h⟩
  · exact .inr (if_neg h)
theorem shlP : OpP Γ shlD (rI CPow fun i j => .int (i * 2 ^ j.toNat)) := opp_int (two_int fun d e h => by unfold shlD; split <;> first | rfl | exact (h _ _ rfl rfl).elim) fun i j => by
  by_cases h : 0 ≤ j ∧ j ≤ 1000000 ∧ i.natAbs < 2 ^ 64
  · exact .inl ⟨h, if_pos h⟩
  · exact .inr (if_neg h)
theorem shrP : OpP Γ shrD (rI (fun _ j => 0 ≤ j) fun i j => .int (i / 2 ^ j.toNat)) := opp_int (two_int fun d e h => by unfold shrD; split <;> first | rfl | exact (h _ _ rfl rfl).elim) fun i j => by
  by_cases h : 0 ≤ j
  · exact .inl ⟨h, if_pos h⟩
  · exact .inr (if_neg h)
theorem andP : OpP Γ andD (rI0 fun i j => .int (Builtin.bitAnd i j)) := opp_int0 (two_int fun d e h => by unfold andD; split <;> first | rfl | exact (h _ _ rfl rfl).elim) fun _ _ => rfl
theorem orP : OpP Γ orD (rI0 fun i j => .int (Builtin.bitOr i j)) := opp_int0 (two_int fun d e h => by unfold orD; split <;> first | rfl | exact (h _ _ rfl rfl).elim) fun _ _ => rfl
theorem xorP : OpP Γ xorD (rI0 fun i j => .int (Builtin.bitXor i j)) := opp_int0 (two_int fun d e h => by unfold xorD; split <;> first | rfl | exact (h _ _ rfl rfl).elim) fun _ _ => rfl
theorem negP : UnP Γ negD (rU fun i => .int (-i)) := unp_int (f := negD) (g := fun i => -i) (fun d => by
  cases d with
  | int i => exact .inl ⟨i, rfl⟩
  | _ => exact .inr rfl) fun _ => rfl
theorem invP : UnP Γ invD (rU fun i => .int (Builtin.bitNot i)) := unp_int (f := invD) (g := fun i => Builtin.bitNot i) (fun d => by
  cases d with
  | int i => exact .inl ⟨i, rfl⟩
  | _ => exact .inr rfl) fun _ => rfl
/-! comparisons -/
def eqD : D → D → M D
  | .int i, .int j => pure (.bool (i == j))
  | .bool i, .bool j => pure (.bool (i == j))
  | .str i, .str j => pure (.bool (i == j))
  | d, e => if SeqAt.shaped d = true ∧ SeqAt.shaped e = true then pure (.bool (PyData.eqv d e)) else bad
def neD (d e : D) : M D := eqD d e >>= fun b => asB b >>= fun b => pure (.bool (!b))
def rEqA (K : PySem.W.Frag) : R2 := fun x y H Q => rEq x y H Q ∨ rEqD K x y H Q
def rNeA (K : PySem.W.Frag) : R2 := fun x y H Q => rNe x y H Q ∨ rNeD K x y H Q
theorem op_eqP (K : PySem.W.Frag) (hK : X.K = K) (hu : X.A.units + 64 < cLine) : OpR X (compareOp .Eq) (rEqA K) := OpR.or op_eq (hK ▸ op_eqD hu)
theorem op_neP (K : PySem.W.Frag) (hK : X.K = K) (hu : X.A.units + 64 < cLine) : OpR X (compareOp .NotEq) (rNeA K) := OpR.or op_ne (hK ▸ op_neD hu)
theorem canLay_shaped {d : D} (h : SeqAt.shaped d = true) : d.canLay0 = true := SeqAt.canLay_of_shaped h
theorem eqP : OpP Γ eqD (rEqA Γ.K) := by
  intro C W σ B H S Q x y d e n hx hy q
  unfold eqD at q
  split at q
  · rename_i i j
    have e1 := hx.int
    have e2 := hy.int
    subst e1; subst e2
    refine .inl ⟨rfl, ?_⟩
    rw [dec_int]
    exact q.val n (.bl _)
  · rename_i i j
    have e1 := hx.bool
    have e2 := hy.bool
    subst e1; subst e2
    refine .inl ⟨rfl, ?_⟩
    rw [dec_bl]
    exact q.val n (.bl _)
  · rename_i i j
    have e1 := hx.str
    have e2 := hy.str
    subst e1; subst e2
    refine .inl ⟨rfl, ?_⟩
    rw [dec_str]
    exact q.val n (.bl _)
  · split at q
    · rename_i h
      exact .inr ⟨d, e, hx.dp n.sh (canLay_shaped h.1), hy.dp n.sh (canLay_shaped h.2), h.1, h.2, q.val n (.bl _)⟩
    · exact q.elim
theorem neP : OpP Γ neD (rNeA Γ.K) := by
  intro C W σ B H S Q x y d e n hx hy q
  unfold neD eqD at q
  split at q
  · rename_i i j
    have e1 := hx.int
    have e2 := hy.int
    subst e1; subst e2
    refine .inl ⟨rfl, ?_⟩
    rw [dec_int]
    exact q.val n (.bl _)
  · rename_i i j
    have e1 := hx.bool
    have e2 := hy.bool
    subst e1; subst e2
    refine .inl ⟨rfl, ?_⟩
    rw [dec_bl]
    exact q.val n (.bl _)
  · rename_i i j
    have e1 := hx.str
    have e2 := hy.str
    subst e1; subst e2
    refine .inl ⟨rfl, ?_⟩
    rw [dec_str]
    exact q.val n (.bl _)
  · split at q
    · rename_i h
      exact .inr ⟨d, e, hx.dp n.sh (canLay_shaped h.1), hy.dp n.sh (canLay_shaped h.2), h.1, h.2, q.val n (.bl _)⟩
    · exact q.elim
def ltD : D → D → M D
  | .int i, .int j => pure (.bool (decide (i < j)))
  | _, _ => bad
def leD : D → D → M D
  | .int i, .int j => pure (.bool (decide (i ≤ j)))
  | _, _ => bad
def gtD : D → D → M D
  | .int i, .int j => pure (.bool (decide (j < i)))
  | _, _ => bad
def geD : D → D → M D
  | .int i, .int j => pure (.bool (decide (j ≤ i)))
  | _, _ => bad
theorem opp_cmp {f : D → D → M D} {g : Int → Int → Bool} (h : ∀ d e, (∃ i j, d = .int i ∧ e = .int j) ∨ f d e = bad) (h2 : ∀ i j, f (.int i) (.int j) = pure (.bool (g i j))) :
    OpP Γ f (rI0 fun i j => .bl (g i j)) := by
  intro C W σ B H S Q x y d e n hx hy q
  rcases h d e with ⟨i, j, rfl, rfl⟩ | z
  · rw [h2] at q
    exact ⟨i, j, hx.int, hy.int, q.val n (.bl _)⟩
  · rw [z] at q; exact q.elim
theorem ltP : OpP Γ ltD (rI0 fun i j => .bl (decide (i < j))) := opp_cmp (two_int fun d e h => by unfold ltD; split <;> first | rfl | exact (h _ _ rfl rfl).elim) fun _ _ => rfl
theorem leP : OpP Γ leD (rI0 fun i j => .bl (decide (i ≤ j))) := opp_cmp (two_int fun d e h => by unfold leD; split <;> first | rfl | exact (h _ _ rfl rfl).elim) fun _ _ => rfl
theorem gtP : OpP Γ gtD (rI0 fun i j => .bl (decide (j < i))) := opp_cmp (two_int fun d e h => by unfold gtD; split <;> first | rfl | exact (h _ _ rfl rfl).elim) fun _ _ => rfl
theorem geP : OpP Γ geD (rI0 fun i j => .bl (decide (j ≤ i))) := opp_cmp (two_int fun d e h => by unfold geD; split <;> first | rfl | exact (h _ _ rfl rfl).elim) fun _ _ => rfl
/-- is None -/
def isNone : D → Bool
  | .none => true
  | _ => false
def isND : D → D → M D
  | d, .none => pure (.bool (isNone d))
  | _, _ => bad
def notND : D → D → M D
  | d, .none => pure (.bool (!isNone d))
  | _, _ => bad
theorem non_of {K : PySem.W.Frag} {C : Option Addr} {B H : Hp} {v : V} {d : D} (h : RpT K C B H v d) : decide (v = .non) = isNone d := by
  rcases h with h | ⟨_, _, _, e1, e, _⟩ | ⟨_, _, _, e1, e, _⟩
  · cases h <;> rfl
  · subst e; subst e1; rfl
  · subst e; subst e1; rfl
theorem isNP : OpP Γ isND (fun x y H Q => y = .non ∧ Q (.bl (decide (x = .non))) H) := by
  intro C W σ B H S Q x y d e n hx hy q
  unfold isND at q
  split at q
  · refine ⟨hy.none, ?_⟩
    rw [non_of hx]
    exact q.val n (.bl _)
  · exact q.elim
theorem notNP : OpP Γ notND (fun x y H Q => y = .non ∧ Q (.bl (!decide (x = .non))) H) := by
  intro C W σ B H S Q x y d e n hx hy q
  unfold notND at q
  split at q
  · refine ⟨hy.none, ?_⟩
    rw [non_of hx]
    exact q.val n (.bl _)
  · exact q.elim
/-! items -/
def optM : Option D → M D
  | some d => pure d
  | none => bad
def ixD : D → D → M D
  | .list xs, .int i => optM (atI xs i)
  | .tuple xs, .int i => optM (atI xs i)
  | .str z, .int i => if z.length ≤ sizeLine then optM ((atI z.cps.toList i).map fun c => .str ⟨#[c]⟩) else bad
  | _, _ => bad
theorem PostV.opt {R : RR} {C : Option Addr} {σ : L2.St} {B H : Hp} {S : SS} {Q : VK} {o : Option D} (q : PostV R Γ C W σ B H Q (optM o S)) : ∃ d, o = some d ∧ PostV R Γ C W σ B H Q ((pure d : M D) S) := by
  cases o with
  | some d => exact ⟨d, rfl, q⟩
  | none => exact q.elim
theorem RpAll.atI {K : PySem.W.Frag} {B : Hp} {vs : List V} {ds : List D} {i : Int} {d : D} (r : RpAll K B vs ds) (h : L2.atI ds i = some d) : ∃ v, L2.atI vs i = some v ∧ Rp K B v d := by
  unfold L2.atI at h ⊢
  rw [r.len]
  cases e : ixN ds.length i with
  | none => rw [e] at h; cases h
  | some j =>
    rw [e] at h
    exact r.at h
theorem ixP : OpP Γ ixD (rIx Γ.K) := by
  intro C W σ B H S Q x y d e n hx hy q
  unfold ixD at q
  split at q
  · obtain ⟨d, h, q⟩ := q.opt
    obtain ⟨a, xs, rfl, ha, ra⟩ := hx.list n.sh
    obtain ⟨v, e1, rv⟩ := ra.atI h
    exact .inl ⟨a, xs, _, v, rfl, hy.int, .inl (.inl ha), e1, q.val n rv⟩
  · obtain ⟨d, h, q⟩ := q.opt
    obtain ⟨a, xs, rfl, ha, ra⟩ := hx.tuple n.sh
    obtain ⟨v, e1, rv⟩ := ra.atI h
    exact .inr (.inl ⟨a, xs, _, v, rfl, hy.int, ha, e1, q.val n rv⟩)
  · split at q
    · rename_i hl
      obtain ⟨d, h, q⟩ := q.opt
      obtain ⟨c, hc, rfl⟩ := Option.map_eq_some_iff.mp h
      exact .inr (.inr ⟨_, _, c, hx.str, hy.int, hl, hc, q.val n (.str _)⟩)
    · exact q.elim
  · exact q.elim
/-! in -/
def flatD : D → Bool
  | .none => true
  | .bool _ => true
  | .int _ => true
  | .str _ => true
  | _ => false
def inD : D → D → M D
  | x, .list ys => if SeqAt.shaped x = true ∧ SeqAt.shaped (.list ys) = true then pure (.bool (ys.any fun z => PyData.eqv z x)) else bad
  | x, .tuple ys => if flatD x = true ∧ ys.all flatD = true then pure (.bool (ys.any fun z => PyData.eqv z x)) else bad
  | _, _ => bad
def notInD (d e : D) : M D := inD d e >>= fun b => asB b >>= fun b => pure (.bool (!b))
theorem flat_of {K : PySem.W.Frag} {B : Hp} {v : V} {d : D} (f : flatD d = true) (h : Rp K B v d) : flatV v = true := by
  cases h <;> first | rfl | exact (Bool.false_ne_true f).elim
theorem eqv_of {K : PySem.W.Frag} {B : Hp} {u v : V} {d e : D} (f : flatD d = true) (g : flatD e = true) (h : Rp K B u d) (h' : Rp K B v e) : eqV u v = PyData.eqv d e := by
  cases h <;> first | exact (Bool.false_ne_true f).elim | (cases h' <;> first | exact (Bool.false_ne_true g).elim | rfl | (simp only [eqV, PyData.eqv]))
theorem flats_of {K : PySem.W.Frag} {B : Hp} : ∀ {vs : List V} {ds : List D}, ds.all flatD = true → RpAll K B vs ds → vs.all flatV = true
  | _, _, _, .nil => rfl
  | _, _, f, .cons h r => by
    simp only [List.all_cons, Bool.and_eq_true] at f ⊢
    exact ⟨flat_of f.1 h, flats_of f.2 r⟩
theorem anyv_of {K : PySem.W.Frag} {B : Hp} {v : V} {e : D} (g : flatD e = true) (h' : Rp K B v e) : ∀ {vs : List V} {ds : List D}, ds.all flatD = true → RpAll K B vs ds → (vs.any fun y => eqV y v) = ds.any fun z => PyData.eqv z e
  | _, _, _, .nil => rfl
  | _, _, f, .cons h r => by
    simp only [List.all_cons, Bool.and_eq_true] at f
    simp only [List.any_cons]
    rw [eqv_of f.1 g h h', anyv_of g h' f.2 r]
theorem RpT.flat {K : PySem.W.Frag} {C : Option Addr} {B H : Hp} {v : V} {d : D} (f : flatD d = true) (h : RpT K C B H v d) : Rp K B v d := by
  rcases h with h | ⟨_, _, _, _, e, _⟩ | ⟨_, _, _, _, e, _⟩
  · exact h
  · subst e; cases f
  · subst e; cases f
def rInA (K : PySem.W.Frag) : R2 := fun x y H Q => rInD K x y H Q ∨ rIn K false x y H Q
def rNotInA (K : PySem.W.Frag) : R2 := fun x y H Q => rNotInD K x y H Q ∨ rIn K true x y H Q
theorem op_inP (K : PySem.W.Frag) (hK : X.K = K) (hu : X.A.units + 65 < cLine) : OpR X (compareOp .In) (rInA K) := OpR.or (hK ▸ op_inD hu) (hK ▸ op_in_seq)
theorem op_notInP (K : PySem.W.Frag) (hK : X.K = K) (hu : X.A.units + 65 < cLine) : OpR X (compareOp .NotIn) (rNotInA K) := OpR.or (hK ▸ op_notInD hu) (hK ▸ op_notIn_seq)
theorem inP : OpP Γ inD (rInA Γ.K) := by
  intro C W σ B H S Q x y d e n hx hy q
  unfold inD at q
  split at q
  · split at q
    · rename_i h
      exact .inl ⟨_, _, hx.dp n.sh (canLay_shaped h.1), hy.dp n.sh (canLay_shaped h.2), h.1, h.2, q.val n (.bl _)⟩
    · exact q.elim
  · split at q
    · rename_i h
      obtain ⟨a, xs, rfl, ha, ra⟩ := hy.tuple n.sh
      have hx' := hx.flat h.1
      refine .inr ⟨a, xs, rfl, .inr ha, flat_of h.1 hx', flats_of h.2 ra, ?_⟩
      show Q (.bl (inV x xs)) H
      unfold inV
      rw [anyv_of h.1 hx' h.2 ra]
      exact q.val n (.bl _)
    · exact q.elim
  · exact q.elim
theorem notInP : OpP Γ notInD (rNotInA Γ.K) := by
  intro C W σ B H S Q x y d e n hx hy q
  unfold notInD inD at q
  split at q
  · split at q
    · rename_i h
      exact .inl ⟨_, _, hx.dp n.sh (canLay_shaped h.1), hy.dp n.sh (canLay_shaped h.2), h.1, h.2, q.val n (.bl _)⟩
    · exact q.elim
  · split at q
    · rename_i h
      obtain ⟨a, xs, rfl, ha, ra⟩ := hy.tuple n.sh
      have hx' := hx.flat h.1
      refine .inr ⟨a, xs, rfl, .inr ha, flat_of h.1 hx', flats_of h.2 ra, ?_⟩
      show Q (.bl (!inV x xs)) H
      unfold inV
      rw [anyv_of h.1 hx' h.2 ra]
      exact q.val n (.bl _)
    · exact q.elim
  · exact q.elim
end Pv
namespace Pv
open PySem PySem.Spec PyProof.Rows L2
variable {Γ : Gm} {X : Cx} {W : WX} {pos p : Pos}
/-! argument lists -/
def PostL {α β : Type} (R : Hp → Hp → List β → α → Prop) (Γ : Gm) (C : Option Addr) (W : WX) (σ : L2.St) (B H : Hp) (Q : List β → Hp → Prop) : Res α → Prop
  | .ok d S' => ∀ v H' B', Nxt Γ C B H S' B' H' → R B' H' v d → Q v H'
  | .exc k S' => ∀ H' B', Nxt Γ C B H S' B' H' → W (Γ.cls k) none σ H'
  | .bad => False
theorem PostL.up {α β : Type} {R : Hp → Hp → List β → α → Prop} {C : Option Addr} {σ : L2.St} {B B1 H H1 : Hp} {S1 : SS} {Q : List β → Hp → Prop} {r : Res α} (n : Nxt Γ C B H S1 B1 H1) (h : PostL R Γ C W σ B H Q r) : PostL R Γ C W σ B1 H1 Q r := by
  cases r with
  | ok d S' => exact fun v H' B' n' x => h v H' B' (n.trans n') x
  | exc k S' => exact fun H' B' n' => h H' B' (n.trans n')
  | bad => exact h
def ArgOk (K : PySem.W.Frag) (C : Option Addr) (B : Hp) (v : V) : Arg → Prop
  | .d d => Rp K B v d
  | .cell => ∃ a, C = some a ∧ v = .ref a
  | .scr ds => ∃ a xs, v = .ref a ∧ SqL K B a xs ∧ RpAll K B xs ds
inductive ArgsOk (K : PySem.W.Frag) (C : Option Addr) (B : Hp) : List V → List Arg → Prop
  | nil : ArgsOk K C B [] []
  | cons {v : V} {vs : List V} {a : Arg} {as : List Arg} : ArgOk K C B v a → ArgsOk K C B vs as → ArgsOk K C B (v :: vs) (a :: as)
theorem ArgOk.up {K : PySem.W.Frag} {C : Option Addr} {B B1 : Hp} {v : V} {a : Arg} (s : Sub B B1) (h : ArgOk K C B v a) : ArgOk K C B1 v a := by
  cases a with
  | d d => exact Rp.up s h
  | cell => exact h
  | scr ds =>
    obtain ⟨a, xs, e, q, r⟩ := h
    exact ⟨a, xs, e, s.sqL q, r.up s⟩
theorem ArgsOk.up {K : PySem.W.Frag} {C : Option Addr} {B B1 : Hp} (s : Sub B B1) : ∀ {vs : List V} {as : List Arg}, ArgsOk K C B vs as → ArgsOk K C B1 vs as
  | _, _, .nil => .nil
  | _, _, .cons h r => .cons (h.up s) (ArgsOk.up s r)
theorem ArgsOk.len {K : PySem.W.Frag} {C : Option Addr} {B : Hp} : ∀ {vs : List V} {as : List Arg}, ArgsOk K C B vs as → vs.length = as.length
  | _, _, .nil => rfl
  | _, _, .cons _ r => congrArg Nat.succ (ArgsOk.len r)
abbrev MA := Env → M (List D)
abbrev MG := Env → M (List Arg)
def rdA (Γ : Gm) (W : WX) (m : MA) : TA := fun σ H Q => ∃ C B0 H0 ρ S B, Rel Γ C B0 H0 ρ S σ B H ∧ PostL (fun B' _ => RpAll Γ.K B') Γ C W σ B H Q (m ρ S)
def rdG (Γ : Gm) (W : WX) (n : Nat) (m : MG) : TA := fun σ H Q => ∃ C B0 H0 ρ S B, Rel Γ C B0 H0 ρ S σ B H ∧ PostL (fun B' _ vs as => ArgsOk Γ.K C B' vs as ∧ as.length = n) Γ C W σ B H Q (m ρ S)
theorem PA.imp {es : List Expr} {t t' : TA} (h : PA X es t) (i : ∀ σ H Q, t' σ H Q → t σ H Q) : PA X es t' := ⟨fun ps pins s σ H Q I q => h.run ps pins s σ H Q I (i σ H Q q)⟩
/-- a value is asked, then the other arguments -/
theorem rd_bindL {α β : Type} {P : Hp → Hp → List β → α → Prop} {R : RR} {C : Option Addr} {σ : L2.St} {B H B0 H0 : Hp} {S : SS} {ρ : Env} {m : ME} {f : D → M α} {Q : List β → Hp → Prop} {Q' : VK} (r : Rel Γ C B0 H0 ρ S σ B H) (h : PostL P Γ C W σ B H Q ((m ρ >>= f) S))
    (k : ∀ d S1 v H1 B1, Rel Γ C B0 H0 ρ S1 σ B1 H1 → Nxt Γ C B H S1 B1 H1 → R Γ C B1 H1 v d → PostL P Γ C W σ B1 H1 Q (f d S1) → Q' v H1) : rd R Γ W m σ H Q' := by
  refine ⟨C, B0, H0, ρ, S, B, r, ?_⟩
  rw [bind_at] at h
  cases e : m ρ S with
  | ok d S' => rw [e] at h; exact fun v H' B' n x => k d S' v H' B' (r.up n) n x (h.up n)
  | exc j S' => rw [e] at h; exact h
  | bad => rw [e] at h; exact h
/-- all are asked, then a list is made of them and x -/
theorem postL_map {α β γ : Type} {P : Hp → Hp → List β → α → Prop} {P' : Hp → Hp → List β → γ → Prop} {C : Option Addr} {σ : L2.St} {B H : Hp} {S : SS} {m : M α} {g : α → γ} {Q Q' : List β → Hp → Prop} (h : PostL P' Γ C W σ B H Q ((m >>= fun a => pure (g a)) S))
    (k : ∀ a S' v H' B', Nxt Γ C B H S' B' H' → P B' H' v a → (∀ w, P' B' H' w (g a) → Q w H') → Q' v H') : PostL P Γ C W σ B H Q' (m S) := by
  rw [bind_at] at h
  cases e : m S with
  | ok a S' => rw [e] at h; exact fun v H' B' n x => k a S' v H' B' n x fun w y => h w H' B' n y
  | exc j S' => rw [e] at h; exact h
  | bad => rw [e] at h; exact h
def aNil : MA := fun _ => pure []
def aCons (ma : ME) (mr : MA) : MA := fun ρ => ma ρ >>= fun x => mr ρ >>= fun xs => pure (x :: xs)
def seqOf : D → M (List D)
  | .list xs => pure xs
  | .tuple xs => pure xs
  | _ => bad
def aStar (ma : ME) (mr : MA) : MA := fun ρ => ma ρ >>= fun x => seqOf x >>= fun ys => mr ρ >>= fun xs => pure (ys ++ xs)
def rdN (Γ : Gm) (W : WX) (n : Nat) (m : MA) : TA := fun σ H Q => ∃ C B0 H0 ρ S B, Rel Γ C B0 H0 ρ S σ B H ∧ PostL (fun B' _ vs ds => RpAll Γ.K B' vs ds ∧ ds.length = n) Γ C W σ B H Q (m ρ S)
theorem d_anil : PA X [] (rdN Γ W 0 aNil) := PA.imp pa_nil fun σ H Q ⟨C, B0, H0, ρ, S, B, r, q⟩ => q [] H B r.nx.here ⟨.nil, rfl⟩
theorem d_acons {n : Nat} {e : Expr} {es : List Expr} {ma : ME} {mr : MA} (ha : PE X e (rdE Γ W ma)) (hr : PA X es (rdN Γ W n mr)) (hf : plainE e = true) : PA X (e :: es) (rdN Γ W (n + 1) (aCons ma mr)) :=
  PA.imp (pa_cons ha hr (star_plain hf es X.env)) fun σ H Q ⟨C, B0, H0, ρ, S, B, r, q⟩ => rd_bindL r q fun d S1 v H1 B1 r1 n1 x1 p1 =>
    ⟨C, B0, H0, ρ, S1, B1, r1, postL_map p1 fun a S' vs H' B' n y k => k _ ⟨.cons (x1.up n.sb) y.1, congrArg Nat.succ y.2⟩⟩
theorem d_aN {n : Nat} {es : List Expr} {m : MA} (h : PA X es (rdN Γ W n m)) : PA X es (rdA Γ W m) :=
  PA.imp h fun σ H Q ⟨C, B0, H0, ρ, S, B, r, q⟩ => by
    refine ⟨C, B0, H0, ρ, S, B, r, ?_⟩
    cases e : m ρ S with
    | ok a S' => rw [e] at q; exact fun v H' B' n x => q v H' B' n x.1
    | exc j S' => rw [e] at q; exact q
    | bad => rw [e] at q; exact q
theorem d_scons {e : Expr} {es : List Expr} {ma : ME} {mr : MA} (ha : PE X e (rdE Γ W ma)) (hr : PA X es (rdA Γ W mr)) (hf : plainE e = true) : PA X (e :: es) (rdA Γ W (aCons ma mr)) :=
  PA.imp (pa_cons ha hr (star_plain hf es X.env)) fun σ H Q ⟨C, B0, H0, ρ, S, B, r, q⟩ => rd_bindL r q fun d S1 v H1 B1 r1 n1 x1 p1 =>
    ⟨C, B0, H0, ρ, S1, B1, r1, postL_map p1 fun a S' vs H' B' n y k => k _ (.cons (x1.up n.sb) y)⟩
theorem d_astar {e : Expr} {es : List Expr} {ma : ME} {mr : MA} {q : Pos} (ha : PE X e (rdT Γ W ma)) (hr : PA X es (rdA Γ W mr)) (hK : X.K = Γ.K) : PA X (.Starred e q :: es) (rdA Γ W (aStar ma mr)) :=
  PA.imp (StX.pa_star ha hr) fun σ H Q ⟨C, B0, H0, ρ, S, B, r, q⟩ => rd_bindL r q fun d S1 v H1 B1 r1 n1 x1 p1 => by
    cases d with
    | list ds =>
      obtain ⟨a, xs, rfl, ha, ra⟩ := x1.list r1.nx.sh
      exact ⟨a, xs, rfl, .inr (.inl (.inl ha)), C, B0, H0, ρ, S1, B1, r1, postL_map p1 fun a S' vs H' B' n y k => k _ ((ra.up n.sb).app y)⟩
    | tuple ds =>
      obtain ⟨a, xs, rfl, ha, ra⟩ := x1.tuple r1.nx.sh
      exact ⟨a, xs, rfl, .inl (hK ▸ ha), C, B0, H0, ρ, S1, B1, r1, postL_map p1 fun a S' vs H' B' n y k => k _ ((ra.up n.sb).app y)⟩
    | _ => exact p1.elim
def vTup (m : MA) : ME := fun ρ => m ρ >>= fun xs => pure (.tuple xs)
def vLst (m : MA) : ME := fun ρ => m ρ >>= fun xs => pure (.list xs)
def vTupS (m : MA) : ME := fun ρ => m ρ >>= fun xs => if xs.length ≤ sizeLine then pure (.tuple xs) else bad
def vLstS (m : MA) : ME := fun ρ => m ρ >>= fun xs => if xs.length ≤ sizeLine then pure (.list xs) else bad
theorem rdA_bind {C : Option Addr} {σ : L2.St} {B H B0 H0 : Hp} {S : SS} {ρ : Env} {m : MA} {f : List D → M D} {Q : VK} {Q' : List V → Hp → Prop} (r : Rel Γ C B0 H0 ρ S σ B H) (h : PostV rrE Γ C W σ B H Q ((m ρ >>= f) S))
    (k : ∀ d S1 v H1 B1, Rel Γ C B0 H0 ρ S1 σ B1 H1 → Nxt Γ C B H S1 B1 H1 → RpAll Γ.K B1 v d → PostV rrE Γ C W σ B1 H1 Q (f d S1) → Q' v H1) : rdA Γ W m σ H Q' := by
  refine ⟨C, B0, H0, ρ, S, B, r, ?_⟩
  rcases h.bind with ⟨d, S', e, h⟩ | ⟨k', S', e, h⟩
  · rw [e]
    exact fun v H' B' n x => k d S' v H' B' (r.up n) n x (h.up n)
  · rw [e]
    exact h
theorem rdN_bind {n : Nat} {C : Option Addr} {σ : L2.St} {B H B0 H0 : Hp} {S : SS} {ρ : Env} {m : MA} {f : List D → M D} {Q : VK} {Q' : List V → Hp → Prop} (r : Rel Γ C B0 H0 ρ S σ B H) (h : PostV rrE Γ C W σ B H Q ((m ρ >>= f) S))
    (k : ∀ d S1 v H1 B1, Rel Γ C B0 H0 ρ S1 σ B1 H1 → Nxt Γ C B H S1 B1 H1 → RpAll Γ.K B1 v d → d.length = n → PostV rrE Γ C W σ B1 H1 Q (f d S1) → Q' v H1) : rdN Γ W n m σ H Q' := by
  refine ⟨C, B0, H0, ρ, S, B, r, ?_⟩
  rcases h.bind with ⟨d, S', e, h⟩ | ⟨k', S', e, h⟩
  · rw [e]
    exact fun v H' B' n x => k d S' v H' B' (r.up n) n x.1 x.2 (h.up n)
  · rw [e]
    exact h
theorem thousand {n : Nat} (h : n ≤ 1000) : n ≤ sizeLine := Nat.le_trans h (by decide)
theorem d_tup {n : Nat} {es : List Expr} {m : MA} {k : Nat} (h : PA X es (rdN Γ W n m)) (hn : n ≤ 1000) : PE X (.Tuple es k pos) (rdE Γ W (vTup m)) :=
  PE.imp (pe_tup h) fun σ H Q ⟨C, B0, H0, ρ, S, B, r, q⟩ => rdN_bind r q fun d S1 v H1 B1 r1 n1 x1 l1 p1 =>
    ⟨by rw [x1.len, l1]; exact thousand hn, p1.tup r1.nx.here x1 (by rw [l1]; exact thousand hn)⟩
theorem d_lst {n : Nat} {es : List Expr} {m : MA} (h : PA X es (rdN Γ W n m)) (hn : n ≤ 1000) : PE X (.List es pos) (rdE Γ W (vLst m)) :=
  PE.imp (pe_lst h) fun σ H Q ⟨C, B0, H0, ρ, S, B, r, q⟩ => rdN_bind r q fun d S1 v H1 B1 r1 n1 x1 l1 p1 =>
    ⟨by rw [x1.len, l1]; exact thousand hn, p1.lst r1.nx.here x1 (by rw [l1]; exact thousand hn)⟩
theorem d_tupS {es : List Expr} {m : MA} {k : Nat} (h : PA X es (rdA Γ W m)) : PE X (.Tuple es k pos) (rdE Γ W (vTupS m)) :=
  PE.imp (pe_tup h) fun σ H Q ⟨C, B0, H0, ρ, S, B, r, q⟩ => rdA_bind r q fun d S1 v H1 B1 r1 n1 x1 p1 => by
    by_cases hz : d.length ≤ sizeLine
    · rw [if_pos hz] at p1
      exact ⟨by rw [x1.len]; exact hz, p1.tup r1.nx.here x1 hz⟩
    · rw [if_neg hz] at p1; exact p1.elim
theorem d_lstS {es : List Expr} {m : MA} (h : PA X es (rdA Γ W m)) : PE X (.List es pos) (rdE Γ W (vLstS m)) :=
  PE.imp (pe_lst h) fun σ H Q ⟨C, B0, H0, ρ, S, B, r, q⟩ => rdA_bind r q fun d S1 v H1 B1 r1 n1 x1 p1 => by
    by_cases hz : d.length ≤ sizeLine
    · rw [if_pos hz] at p1
      exact ⟨by rw [x1.len]; exact hz, p1.lst r1.nx.here x1 hz⟩
    · rw [if_neg hz] at p1; exact p1.elim
/-! arguments of own defs -/
def gNil : MG := fun _ => pure []
def gCons (ma : ME) (mr : MG) : MG := fun ρ => ma ρ >>= fun x => mr ρ >>= fun xs => pure (.d x :: xs)
def gCell (i : Nat) (mr : MG) : MG := fun ρ => match ρ.getD i .none with
  | .cell => mr ρ >>= fun xs => pure (.cell :: xs)
  | _ => bad
def gScr (i : Nat) (mr : MG) : MG := fun ρ => match ρ.getD i .none with
  | .scr ds => mr ρ >>= fun xs => pure (.scr ds :: xs)
  | _ => bad
theorem d_gnil : PA X [] (rdG Γ W 0 gNil) := PA.imp pa_nil fun σ H Q ⟨C, B0, H0, ρ, S, B, r, q⟩ => q [] H B r.nx.here ⟨.nil, rfl⟩
theorem d_gcons {n : Nat} {e : Expr} {es : List Expr} {ma : ME} {mr : MG} (ha : PE X e (rdE Γ W ma)) (hr : PA X es (rdG Γ W n mr)) (hf : plainE e = true) : PA X (e :: es) (rdG Γ W (n + 1) (gCons ma mr)) :=
  PA.imp (pa_cons ha hr (star_plain hf es X.env)) fun σ H Q ⟨C, B0, H0, ρ, S, B, r, q⟩ => rd_bindL r q fun d S1 v H1 B1 r1 n1 x1 p1 =>
    ⟨C, B0, H0, ρ, S1, B1, r1, postL_map p1 fun a S' vs H' B' n y k => k _ ⟨.cons (show ArgOk Γ.K C B' v (.d d) from x1.up n.sb) y.1, congrArg Nat.succ y.2⟩⟩
theorem d_gcell {n i : Nat} {x : Str} {es : List Expr} {mr : MG} (hN : X.N[i]? = some x) (hv : Vis X.env.scope x) (hd : (x == ("__debug__" : Str)) = false) (hc : (x == ("__classdict__" : Str)) = false) (hr : PA X es (rdG Γ W n mr)) :
    PA X (.Name x pos :: es) (rdG Γ W (n + 1) (gCell i mr)) :=
  PA.imp (pa_cons (pe_var hN hv hd hc) hr (star_plain rfl es X.env)) fun σ H Q ⟨C, B0, H0, ρ, S, B, r, q⟩ => by
    unfold gCell at q
    cases e : ρ.getD i .none with
    | cell =>
      rw [e] at q
      obtain ⟨a, e1, e2⟩ := r.at e
      exact ⟨_, e2, C, B0, H0, ρ, S, B, r, postL_map q fun as S' vs H' B' n y k => k _ ⟨.cons ⟨a, e1, rfl⟩ y.1, congrArg Nat.succ y.2⟩⟩
    | _ => rw [e] at q; exact q.elim
theorem d_gscr {n i : Nat} {x : Str} {es : List Expr} {mr : MG} (hN : X.N[i]? = some x) (hv : Vis X.env.scope x) (hd : (x == ("__debug__" : Str)) = false) (hc : (x == ("__classdict__" : Str)) = false) (hr : PA X es (rdG Γ W n mr)) :
    PA X (.Name x pos :: es) (rdG Γ W (n + 1) (gScr i mr)) :=
  PA.imp (pa_cons (pe_var hN hv hd hc) hr (star_plain rfl es X.env)) fun σ H Q ⟨C, B0, H0, ρ, S, B, r, q⟩ => by
    unfold gScr at q
    cases e : ρ.getD i .none with
    | scr ds =>
      rw [e] at q
      obtain ⟨a, xs, e1, e2, e3⟩ := r.at e
      exact ⟨_, e1, C, B0, H0, ρ, S, B, r, postL_map q fun as S' vs H' B' n y k => k _ ⟨.cons ⟨a, xs, rfl, n.sb.sqL e2, e3.up n.sb⟩ y.1, congrArg Nat.succ y.2⟩⟩
    | _ => rw [e] at q; exact q.elim

/-! own defs -/
/-- what a def of the meaning f promises -/
def PostF (Γ : Gm) (C : Option Addr) (B H : Hp) (Q : VK) (E : XK) : Res D → Prop
  | .ok d S' => ∀ v H' B', Nxt Γ C B H S' B' H' → Rp Γ.K B' v d → Q v H'
  | .exc k S' => ∀ H' B', Nxt Γ C B H S' B' H' → E (Γ.cls k) none H'
  | .bad => False
def spF (Γ : Gm) (n : Nat) (f : Fn) : Sp := fun vs H Q E => ∃ C B S args, Nxt Γ C B H S B H ∧ ArgsOk Γ.K C B vs args ∧ args.length = n ∧ PostF Γ C B H Q E (f args S)
/-- a def's promise, where no text is being shown -/
structure FnG (Γ : Gm) (k : Nat) (f : Addr) (fd : FuncData) (ps : List Str) (sp : Sp) : Prop where
  len : ∀ vs H Q E, sp vs H Q E → vs.length = ps.length
  run : ∀ (A : Around) (outer : List PySem.Env) (s : Shared) (H : Hp) (args : Args) (us : List Value) (vs : List V) (Q : VK) (E : XK),
    Room k A → A.guards = some [] → Env0 Γ.prog Γ.w Γ.K Γ.mg Γ.base A outer s H → BindsTo s fd args (ps.zip us) → Vals vs us → sp vs H Q E →
    codeAny (model Γ.prog Γ.w) A (.call (.ref f) args) (CR (L2N.CX Γ.prog Γ.w) outer Γ.prog Γ.w H s Q E) s
structure CalleeOk (Γ : Gm) (k : Nat) (x : Str) (n : Nat) (f : Fn) : Prop where
  ex : ∃ fa fd ps, ps.length = n ∧ Γ.mg x = some (.ref fa) ∧ PySem.W.keepIn Γ.K (.ref fa) = true ∧ Binds Γ.K fd ps [] ∧ FnG Γ k fa fd ps (spF Γ n f)
/-- the context is of our globals -/
structure Of (Γ : Gm) (X : Cx) : Prop where
  prog : X.prog = Γ.prog
  w : X.w = Γ.w
  K : X.K = Γ.K
  mg : X.mg = Γ.mg
  base : X.base = Γ.base
theorem rooms {k L : Nat} {A : Around} (h : k ≤ L) (r : Room L A) : Room k A := r.mono h
def vCall (f : Fn) (m : MG) : ME := fun ρ => m ρ >>= f
theorem run_call {k : Nat} {f : Fn} {fa : Addr} {fd : FuncData} {ps : List Str} (G : Of Γ X) (tk : L2N.Takes X W) (hr : Room k X.A) (hg : X.A.guards = some []) (hb : Binds Γ.K fd ps []) (F : FnG Γ k fa fd ps (spF Γ ps.length f))
    {pins : List (Addr × Obj)} {s : Shared} {σ : L2.St} {H : Hp} {Q : VK} {us : List Value} {vs : List V} {C : Option Addr} {B : Hp} {S : SS} {args : List Arg} (I : Inv X pins σ H s) (rv : Vals vs us) (n : Nxt Γ C B H S B H) (a : ArgsOk Γ.K C B vs args) (hl : args.length = ps.length) (q : PostV rrE Γ C W σ B H Q (f args S)) :
    wpAny (model X.prog X.w) X.A (call (.ref fa) us) (EP X pins σ Q) X.xe s := by
  obtain ⟨e1, e2, e3, e4, e5⟩ := G
  have hsp : spF Γ ps.length f vs H Q (fun cls d H' => W cls d σ H') := by
    refine ⟨C, B, S, args, n, a, hl, ?_⟩
    cases e : f args S with
    | ok d S' => rw [e] at q; exact q
    | exc k S' => rw [e] at q; exact q
    | bad => rw [e] at q; exact q
  have hlen : (us ++ ([] : List Value)).length = ps.length := by rw [List.append_nil, ← rv.length, a.len]; exact hl
  have hbt := hb s us (by have := I.kIn; rwa [e3] at this) hlen
  rw [List.append_nil] at hbt
  have h0 := I.env0
  rw [e1, e2, e3, e4, e5] at h0
  have run := F.run X.A X.stack s H ⟨us, []⟩ us vs Q (fun cls d H' => W cls d σ H') hr hg h0 hbt rv hsp
  rw [← e1, ← e2] at run
  refine wpAny_call (codeAny_mono run fun r s' hq => ?_)
  match r, hq with
  | .error e, hq => exact tk e s' (L2N.XE.of_call I (fun _ _ _ h => h) hq)
  | .ok (.ret u), hq => exact I.after hq
  | .ok .next, hq => exact hq.elim
  | .ok .brk, hq => exact hq.elim
  | .ok .cont, hq => exact hq.elim
theorem rdG_run {n : Nat} {C : Option Addr} {σ : L2.St} {B H B0 H0 : Hp} {S : SS} {ρ : Env} {m : MG} {f : Fn} {Q : VK} {Q' : List V → Hp → Prop} (r : Rel Γ C B0 H0 ρ S σ B H) (h : PostV rrE Γ C W σ B H Q ((m ρ >>= f) S))
    (k : ∀ d S1 v H1 B1, Rel Γ C B0 H0 ρ S1 σ B1 H1 → Nxt Γ C B H S1 B1 H1 → ArgsOk Γ.K C B1 v d → d.length = n → PostV rrE Γ C W σ B1 H1 Q (f d S1) → Q' v H1) : rdG Γ W n m σ H Q' := by
  refine ⟨C, B0, H0, ρ, S, B, r, ?_⟩
  rcases h.bind with ⟨d, S', e, h⟩ | ⟨k', S', e, h⟩
  · rw [e]
    exact fun v H' B' n x => k d S' v H' B' (r.up n) n x.1 x.2 (h.up n)
  · rw [e]
    exact h
/-- all arguments are plain -/
def plains (es : List Expr) : Bool := es.all plainE
theorem stars_plain {es : List Expr} (h : plains es = true) (pos : Pos) (env : PySem.Env) : (backTo pos (starEach es env)).any (·.1) = false := by
  have z : (starEach es env).all (fun p => !p.1) = true := by
    induction es with
    | nil => rfl
    | cons e es ih =>
      simp only [plains, List.all_cons, Bool.and_eq_true] at h
      rw [star_plain h.1]
      simp only [List.all_cons, Bool.not_false, Bool.true_and]
      exact ih h.2
  have back : ∀ (l : List (Bool × Sem Value)), l.all (fun p => !p.1) = true → (backTo pos l).any (·.1) = false := by
    intro l hl
    cases q : (backTo pos l).any (·.1) with
    | false => rfl
    | true =>
      exfalso
      obtain ⟨y, hy, hy2⟩ := List.any_eq_true.mp q
      have : ∃ z ∈ l, z.1 = y.1 := by
        unfold backTo at hy
        obtain ⟨z, hz, ez⟩ := List.mem_map.mp hy
        exact ⟨z, hz, by rw [← ez]⟩
      obtain ⟨z, hz, ez⟩ := this
      have := List.all_eq_true.mp hl z hz
      rw [ez, hy2] at this
      cases this
  exact back _ z
theorem d_call {k n : Nat} {x : Str} {f : Fn} {e : Expr} {es : List Expr} {m : MG} (c : CalleeOk Γ k x n f) (G : Of Γ X) (tk : L2N.Takes X W) (hr : Room k X.A) (hg : X.A.guards = some []) (hgl : Gl X x) (hdb : (x == ("__debug__" : Str)) = false) (ha : PA X (e :: es) (rdG Γ W n m)) (hp : plains (e :: es) = true) :
    PE X (.Call (.Name x p) (e :: es) [] pos) (rdE Γ W (vCall f m)) := by
  obtain ⟨fa, fd, ps, hn, hm, hk, hb, F⟩ := c.ex
  subst hn
  have hm' : X.mg x = some (.ref fa) := by rw [G.mg]; exact hm
  have hk' : PySem.W.keepIn X.K (.ref fa) = true := by rw [G.K]; exact hk
  simp only [plains, List.all_cons, Bool.and_eq_true] at hp
  refine ⟨fun pins s σ H Q I ⟨C, B0, H0, ρ, S, B, r, q⟩ => ?_⟩
  refine wpAny_Call_Name_kw (ld_glob I hgl hm' ?_ hdb)
  have ask := ha.run pos pins s σ H (fun vs H1 => ∃ B1 S1 as, Nxt Γ C B1 H1 S1 B1 H1 ∧ ArgsOk Γ.K C B1 vs as ∧ as.length = ps.length ∧ PostV rrE Γ C W σ B1 H1 Q (f as S1)) I
    (rdG_run r q fun d S1 v H1 B1 r1 n1 a1 l1 p1 => ⟨B1, S1, d, r1.nx.here, a1, l1, p1⟩)
  refine PySem.W.callWith_K (h₀ := X.base) I.ok.mod.kin hk' (thn ask fun us s1 ⟨vs, H1, I1, rv, B1, S1, as, n1, a1, l1, q1⟩ => ⟨I1.kIn, ?_⟩) (star_plain hp.1 es X.env) (stars_plain hp.2 pos X.env)
  exact run_call G tk hr hg hb F I1 rv n1 a1 l1 q1
theorem d_call0 {k : Nat} {x : Str} {f : Fn} (c : CalleeOk Γ k x 0 f) (G : Of Γ X) (tk : L2N.Takes X W) (hr : Room k X.A) (hg : X.A.guards = some []) (hgl : Gl X x) (hdb : (x == ("__debug__" : Str)) = false) :
    PE X (.Call (.Name x p) [] [] pos) (rdE Γ W (vCall f gNil)) := by
  obtain ⟨fa, fd, ps, hn, hm, hk, hb, F⟩ := c.ex
  have hm' : X.mg x = some (.ref fa) := by rw [G.mg]; exact hm
  have hk' : PySem.W.keepIn X.K (.ref fa) = true := by rw [G.K]; exact hk
  rw [← hn] at F
  refine ⟨fun pins s σ H Q I ⟨C, B0, H0, ρ, S, B, r, q⟩ => ?_⟩
  refine wpAny_Call_Name_kw (ld_glob I hgl hm' ?_ hdb)
  exact PySem.W.callWith_K0 I.kIn hk' (run_call (vs := []) (args := []) G tk hr hg hb F I .nil r.nx.here .nil (by rw [hn]; rfl) q)
end Pv
namespace Pv
open PySem PySem.Spec PyProof.Rows L2
/-! sorted(t): a tuple of whole numbers -/
section
variable {P : Program} {w : World} {A : Around} {E : Value → Shared → Prop} {s : Shared} {a : Addr}
def takenH (h : Heap) (vs : List Value) : Heap := (h.push (seqObj "list" #[] 0)).update h.objs.size (Obj.mapSeq (· ++ vs.toArray))
theorem collect_tup {vs : List Value} {Q : List Value → Shared → Prop} (ht : s.heap.IsTuple a vs.toArray) (few : vs.length ≤ sizeLine) (k : Q vs { s with heap := takenH s.heap vs }) : wpAny (model P w) A (collect (.ref a)) Q E s := by
  obtain ⟨o, at1, cl, n, dat⟩ := id ht
  have at2 : (s.heap.push (seqObj "list" #[] 0)).get? a = some o := Heap.get?_push_of_some _ at1
  have at3 : (s.heap.push (seqObj "list" #[] 0)).get? s.heap.objs.size = some (seqObj "list" #[] 0) := Heap.get?_push_size _ rfl
  unfold collect
  refine wpAny_bind (wpAny_runValue (codeAny_builtin entry_proto_collect' ?_))
  refine wpAny_bind (m := newList []) (wpAny_newList (wpAny_pure ⟨Code.quiet_builtin _ (by decide +kernel), codeAny_builtin entry_list_iadd' ?_⟩))
  show wpAny _ _ (Builtin.List.listExtendWith (.ref s.heap.objs.size) (.ref a) (.ref s.heap.objs.size)) _ _ { s with heap := s.heap.push (seqObj "list" #[] 0) }
  unfold Builtin.List.listExtendWith
  refine wpAny_bind (wpAny_typeOf (T := "tuple") ⟨o, at2, cl⟩ ?_)
  have same : (Value.type "tuple" == Value.type "tuple") = true := by rfl
  rw [same, Bool.or_true, if_pos rfl]
  refine wpAny_bind (listItems_at at2 dat ?_)
  refine wpAny_bind (listItems_at (xs := #[]) (n := 0) at3 rfl ?_)
  rw [if_neg (by simp)]
  refine wpAny_bind (listUpdate_at (xs := #[]) (n := 0) at3 rfl ?_ (Nat.zero_le _) (by show (#[] ++ vs.toArray).size ≤ sizeLine + 1; simp only [Array.size_append, List.size_toArray, List.length_nil]; omega))
  refine wpAny_pure ?_
  refine wpAny_bind (m := load s.heap.objs.size) (wpAny_load (get?_update_seq at3 _) ?_)
  have e : ((#[] : Array Value) ++ vs.toArray).toList = vs := by simp
  show wpAny _ _ (pure ((#[] : Array Value) ++ vs.toArray).toList) Q E _
  rw [e]
  exact wpAny_pure k
theorem taken_old {h : Heap} {vs : List Value} {b : Addr} {u : Obj} (e : h.get? b = some u) : (takenH h vs).get? b = some u := by
  unfold takenH
  have lt := Heap.lt_size e
  rw [Heap.get?_update_ne _ _ _ _ (Nat.ne_of_lt lt)]
  exact Heap.get?_push_of_some _ e
theorem taken_size (h : Heap) (vs : List Value) : (takenH h vs).objs.size = h.objs.size + 1 := by
  unfold takenH
  rw [Heap.size_update, size_push']
theorem sorted_tupN {vs : List Value} {ns : List Int} {Q : Value → Shared → Prop} (ht : s.heap.IsTuple a vs.toArray) (nums : IntsAre vs ns) (few : vs.length ≤ 100000)
    (fin : ∀ (h' : Heap) (p : Addr) (out : Array Value) (c : Nat) (ks : List Int), (∀ b o, s.heap.get? b = some o → h'.get? b = some o) → s.heap.objs.size ≤ p → h'.get? p = some (seqObj "list" out c) → IntsAre out.toList ks → ks.Perm ns → ks.Pairwise (· ≤ ·) → Q (.ref p) { s with heap := h' }) :
    wpAny (model P w) A (call (.builtin "sorted") [.ref a]) Q E s := by
  have line : vs.length ≤ sizeLine := by rw [sizeLine_eq]; omega
  refine Calls.call_function_entry kind_sorted plain_sorted entry_sorted (args_sorted1 _) ?_
  unfold Builtin.«sorted»
  refine wpAny_bind (m := checkCount "sorted" 1 1 _) (wpAny_pure ?_)
  refine wpAny_bind (collect_tup ht line ?_)
  refine wpAny_bind (wpAny_newList ?_ line)
  have laid : ((takenH s.heap vs).push (seqObj "list" vs.toArray 0)).get? (takenH s.heap vs).objs.size = some (seqObj "list" vs.toArray 0) := Heap.get?_push_size _ rfl
  refine wpAny_bind (wpAny_holding (wpAny_call_entry slot_list_sort ⟨_, laid, rfl⟩ entry_list_sort ?_ (args_list_sort _)))
  refine SrtO.list_sort_ord SrtO.swo_int laid line (fun two => SrtO.ints_sortable nums two) fun out rising stable => ⟨_, rfl, ?_⟩
  obtain ⟨ks, are, prm, ord⟩ := SrtR.ints_outR (b := false) nums rising stable
  obtain ⟨c, at2⟩ := sortedHeap_at (vs := vs) (out := out.toArray) laid
  refine wpAny_pure ⟨_, rfl, fin _ (takenH s.heap vs).objs.size out.toArray c ks (fun b u e => ?_) (by rw [taken_size]; omega) at2 (by simpa using are) prm ord⟩
  have old : (takenH s.heap vs).get? b = some u := taken_old e
  have lt := Heap.lt_size old
  show (sortedHeap ((takenH s.heap vs).push (seqObj "list" vs.toArray 0)) (takenH s.heap vs).objs.size vs out.toArray).get? b = some u
  rw [sortedHeap_old (Nat.ne_of_lt lt) (by rw [size_push']; exact Nat.lt_succ_of_lt lt)]
  exact Heap.get?_push_of_some _ old
end
def rSortTupI (K : PySem.W.Frag) : List V → Hp → VK → Prop := fun vs H Q => ∃ (a : Addr) (ns : List Int), vs = [V.ref a] ∧ SqT K H a (ns.map V.int) ∧ ns.length ≤ 100000 ∧ ∀ (ks : List Int) (p : Addr), ks.Perm ns → ks.Pairwise (· ≤ ·) → H p = none → Q (.ref p) (upd H p (.lst (ks.map V.int)))
theorem cr_sortTupI {X : Cx} : CallR X (.builtin "sorted") (rSortTupI X.K) := by
  rintro pins s σ H vs us Q I rv ⟨a, ns, rfl, ha, few, q⟩
  obtain ⟨its, vi, tp, _⟩ := I.tuple ha
  have nums := Vals.ints vi
  have ln : its.length = ns.length := by rw [← vi.length, List.length_map]
  rw [Vals.ref1 rv]
  refine sorted_tupN tp nums (by omega) ?_
  intro h' p out c ks kept new at1 are prm ord
  have line : (ks.map V.int).length ≤ sizeLine := by rw [List.length_map, prm.length_eq, sizeLine_eq]; omega
  have free : H p = none := I.hok.fresh new
  exact ⟨.ref p, upd H p (.lst (ks.map V.int)), I.laid (t' := s.toks) kept new ⟨line, out.toList, c, vals_of_ints are, at1⟩, rfl, q ks p prm ord free⟩
/-! sum(t): a tuple of whole numbers -/
section
variable {P : Program} {w : World} {A : Around} {E : Value → Shared → Prop} {s : Shared} {a : Addr}
theorem sum_tupN {its : List Value} {ns : List Int} {Q : Value → Shared → Prop} (calm : A.handled = none) (ht : s.heap.IsTuple a its.toArray) (nums : IntsAre its ns)
    (fin : ∀ h' tk t', (∀ b o, s.heap.get? b = some o → h'.get? b = some o) → Q (.int ns.sum t') { s with heap := h', toks := tk }) : wpAny (model P w) A (call (.builtin "sum") [.ref a]) Q E s := by
  obtain ⟨xs, e⟩ := nums.allInts.items
  have sums : numsOf (intItems xs).toList = ns := by rw [← e]; exact nums.numsOf
  rw [nums_intItems] at sums
  rw [e] at ht
  have lt : a < s.heap.objs.size := by obtain ⟨_, z, _⟩ := id ht; exact Heap.lt_size z
  refine PySem.call_sum_walkG (wpAny_pyIter_tuple ht ?_)
  refine ⟨_, _, _, _, _, _, numAt xs, rfl, Walks.tuple (A := A.in1) calm _ a (Nat.ne_of_lt lt) (intItems xs), ⟨⟨_, Heap.get?_push_size _ rfl, rfl, rfl⟩, ht.push _⟩, fun b hb => ?_, (fun _ _ => intItems_at), fun h' tk t' hk => ?_⟩
  · show b < (s.heap.push _).objs.size
    rw [Heap.size_push]
    rcases List.mem_cons.mp hb with rfl | hb
    · exact Nat.lt_succ_self _
    · rw [List.mem_singleton.mp hb]
      exact Nat.lt_succ_of_lt lt
  · have z := fin h' tk t' fun b o eo => hk b o (fun m => by
      rw [List.mem_singleton.mp m] at eo
      exact Nat.lt_irrefl _ (Heap.lt_size eo)) (Heap.get?_push_of_some _ eo)
    have sz : (intItems xs).size = xs.size := by simp [intItems]
    rw [sz, preSum_eq, List.take_of_length_le (by simp), sums]
    exact z
end
def rSumTup (K : PySem.W.Frag) : List V → Hp → VK → Prop := fun vs H Q => ∃ (a : Addr) (ns : List Int), vs = [V.ref a] ∧ SqT K H a (ns.map V.int) ∧ Q (.int ns.sum) H
theorem cr_sumTup {X : Cx} (hc : X.calm = true) : CallR X (.builtin "sum") (rSumTup X.K) := by
  rintro pins s σ H vs us Q I rv ⟨a, ns, rfl, ha, q⟩
  obtain ⟨its, vi, tp, _⟩ := I.tuple ha
  rw [Vals.ref1 rv]
  exact sum_tupN (I.ok.hd hc) tp (Vals.ints vi) fun h' tk t' kept => ⟨.int _, H, I.kept kept, ⟨_, rfl⟩, q⟩
end Pv
namespace Pv
open PySem PySem.Spec PyProof.Rows L2
variable {Γ : Gm} {X : Cx} {W : WX} {pos p : Pos}
/-! built-in functions of one and of two values -/
def C1P (Γ : Gm) (f : D → M D) (r : List V → Hp → VK → Prop) : Prop := ∀ {C : Option Addr} {W : WX} {σ : L2.St} {B H : Hp} {S : SS} {Q : VK} {x : V} {d : D},
  Nxt Γ C B H S B H → RpT Γ.K C B H x d → PostV rrE Γ C W σ B H Q (f d S) → r [x] H Q
def C2P (Γ : Gm) (f : D → D → M D) (r : List V → Hp → VK → Prop) : Prop := ∀ {C : Option Addr} {W : WX} {σ : L2.St} {B H : Hp} {S : SS} {Q : VK} {x y : V} {d e : D},
  Nxt Γ C B H S B H → RpT Γ.K C B H x d → RpT Γ.K C B H y e → PostV rrE Γ C W σ B H Q (f d e S) → r [x, y] H Q
section
variable {a b : Expr} {ma mb : ME} {r : List V → Hp → VK → Prop} {x : Str} {id T : String}
theorem post_c1 {f : D → M D} (hp : C1P Γ f r) : ∀ (σ : L2.St) (H : Hp) (Q : VK), rdE Γ W (v1 f ma) σ H Q → tCB r (tCons (rdT Γ W ma) tNil) σ H Q := fun σ H Q ⟨C, B0, H0, ρ, S, B, r0, q⟩ =>
  rd_bind r0 q fun d S1 v H1 B1 r1 n1 x1 p1 => hp r1.nx.here x1 p1
theorem post_c2 {f : D → D → M D} (hp : C2P Γ f r) : ∀ (σ : L2.St) (H : Hp) (Q : VK), rdE Γ W (v2 f ma mb) σ H Q → tCB r (tCons (rdT Γ W ma) (tCons (rdT Γ W mb) tNil)) σ H Q := fun σ H Q ⟨C, B0, H0, ρ, S, B, r0, q⟩ =>
  rd_bind r0 q fun d S1 v H1 B1 r1 n1 x1 p1 => rd_bind r1 p1 fun e S2 u H2 B2 r2 n2 x2 p2 => hp r2.nx.here (x1.up n2) x2 p2
theorem d_blt1 {f : D → M D} (hc : CallR X (.builtin id) r) (hp : C1P Γ f r) (hg : Gl X x) (hm : X.mg x = none) (hv : bootBuiltins x = some (.builtin id)) (hn : x ≠ "__name__") (hdb : (x == ("__debug__" : Str)) = false) (ha : PE X a (rdT Γ W ma)) (hf : plainE a = true) :
    PE X (.Call (.Name x p) [a] [] pos) (rdE Γ W (v1 f ma)) :=
  PE.imp (pe_callB hc hg hm hv (pa_cons ha pa_nil (star_plain hf [] X.env)) hn hdb (star_plain hf [] X.env) rfl) (post_c1 hp)
theorem d_ty1 {f : D → M D} (hc : CallR X (.type T) r) (hp : C1P Γ f r) (hg : Gl X x) (hm : X.mg x = none) (hv : bootBuiltins x = some (.type T)) (hn : x ≠ "__name__") (hdb : (x == ("__debug__" : Str)) = false) (ha : PE X a (rdT Γ W ma)) (hf : plainE a = true) :
    PE X (.Call (.Name x p) [a] [] pos) (rdE Γ W (v1 f ma)) :=
  PE.imp (pe_callTy hc hg hm hv (pa_cons ha pa_nil (star_plain hf [] X.env)) hn hdb (star_plain hf [] X.env) rfl) (post_c1 hp)
theorem d_blt2 {f : D → D → M D} (hc : CallR X (.builtin id) r) (hp : C2P Γ f r) (hg : Gl X x) (hm : X.mg x = none) (hv : bootBuiltins x = some (.builtin id)) (hn : x ≠ "__name__") (hdb : (x == ("__debug__" : Str)) = false) (ha : PE X a (rdT Γ W ma)) (hb : PE X b (rdT Γ W mb)) (hf : plainE a = true) (hf2 : plainE b = true) :
    PE X (.Call (.Name x p) [a, b] [] pos) (rdE Γ W (v2 f ma mb)) :=
  PE.imp (pe_callB hc hg hm hv (pa_cons ha (pa_cons hb pa_nil (star_plain hf2 [] X.env)) (star_plain hf [b] X.env)) hn hdb (star_plain hf [b] X.env) (stars_plain (es := [b]) (by simp [plains, hf2]) pos X.env)) (post_c2 hp)
end
/-! what they do -/
def lenD : D → M D
  | .list xs => pure (.int xs.length)
  | .tuple xs => pure (.int xs.length)
  | .str z => if z.length ≤ sizeLine then pure (.int z.length) else bad
  | .dict es => pure (.int es.length)
  | _ => bad
def absD : D → M D
  | .int i => pure (.int i.natAbs)
  | _ => bad
def intD : D → M D
  | .int i => pure (.int i)
  | .bool b => pure (.int (if b then 1 else 0))
  | _ => bad
def max2D : D → D → M D
  | .int i, .int j => pure (.int (max i j))
  | _, _ => bad
def min2D : D → D → M D
  | .int i, .int j => pure (.int (min i j))
  | _, _ => bad
def strD : D → M D
  | .int i => if i.natAbs.log2 < 1920 then pure (.str (toString i)) else bad
  | _ => bad
def tupleD : D → M D
  | .list xs => pure (.tuple xs)
  | .tuple xs => pure (.tuple xs)
  | _ => bad
def listD : D → M D
  | .list xs => pure (.list xs)
  | .tuple xs => pure (.list xs)
  | _ => bad
def intsOf : List D → Option (List Int)
  | [] => some []
  | .int i :: r => (intsOf r).map (i :: ·)
  | _ :: _ => none
def boolsOf : List D → Option (List Bool)
  | [] => some []
  | .bool i :: r => (boolsOf r).map (i :: ·)
  | _ :: _ => none
def overInts {α : Type} (xs : List D) (f : List Int → M α) : M α := match intsOf xs with
  | some ns => f ns
  | none => bad
def overBools {α : Type} (xs : List D) (f : List Bool → M α) : M α := match boolsOf xs with
  | some ns => f ns
  | none => bad
def sumD : D → M D
  | .list xs => overInts xs fun ns => pure (.int ns.sum)
  | .tuple xs => overInts xs fun ns => pure (.int ns.sum)
  | _ => bad
def maxI : List Int → Int
  | [] => 0
  | [n] => n
  | n :: r => max n (maxI r)
def minI : List Int → Int
  | [] => 0
  | [n] => n
  | n :: r => min n (minI r)
/-- data of one kind, to be compared with one another -/
def alikesB (xs : List D) : Bool := xs.all fun x => xs.all fun y => PySem.W.alike x y
def noNonB (xs : List D) : Bool := xs.all fun d => match d with
  | .none => false
  | _ => true
def shallow (xs : List D) : Bool := xs.all fun d => decide (d.depth ≤ 40)
def isTupB : D → Bool
  | .tuple (_ :: _) => true
  | _ => false
def noTupB : D → Bool
  | .none => false
  | .tuple _ => false
  | _ => true
def sortB (xs : List D) : Bool := alikesB xs && (xs.all isTupB || xs.all noTupB) && shallow xs && PyData.canLayAll0 xs && decide (xs.length ≤ sizeLine)
def sortDat (xs : List D) : List D := xs.mergeSort (PySem.W.dataLe false id)
def bestB (xs : List D) : Bool := alikesB xs && noNonB xs && shallow xs && PyData.canLayAll0 xs
def datOf (F : D → List D → D) : List D → M D
  | [] => bad
  | x :: r => if bestB (x :: r) = true then pure (F x r) else bad
def minDat : List D → M D := datOf PySem.W.minD
def maxDat : List D → M D := datOf PySem.W.maxD
def overOr {α : Type} (xs : List D) (f : List Int → M α) (g : M α) : M α := match intsOf xs with
  | some ns => f ns
  | none => g
def maxD : D → M D
  | .list xs => overOr xs (fun ns => if ns = [] then bad else pure (.int (maxI ns))) (maxDat xs)
  | .tuple xs => overOr xs (fun ns => if ns = [] ∨ ns.length > sizeLine then bad else pure (.int (maxI ns))) (maxDat xs)
  | _ => bad
def minD : D → M D
  | .list xs => overOr xs (fun ns => if ns = [] then bad else pure (.int (minI ns))) (minDat xs)
  | .tuple xs => overOr xs (fun ns => if ns = [] ∨ ns.length > sizeLine then bad else pure (.int (minI ns))) (minDat xs)
  | _ => bad
def allD : D → M D
  | .list xs => overBools xs fun ns => pure (.bool (ns.all id))
  | _ => bad
def anyD : D → M D
  | .list xs => overBools xs fun ns => pure (.bool (ns.any id))
  | _ => bad
def sortI (ns : List Int) : List Int := ns.mergeSort (fun a b => decide (a ≤ b))
def sortedD : D → M D
  | .list xs => overOr xs (fun ns => pure (.list ((sortI ns).map PyData.int))) (if sortB xs = true then pure (.list (sortDat xs)) else bad)
  | .tuple xs => overInts xs fun ns => if ns.length ≤ 100000 then pure (.list ((sortI ns).map PyData.int)) else bad
  | _ => bad
def reprD (d : D) : M D := if d.canLay0 = true ∧ d.showable = true ∧ d.depth ≤ 60 ∧ d.shown.length ≤ sizeLine then pure (.str d.shown) else bad
theorem intsOf_map : ∀ {xs : List D} {ns : List Int}, intsOf xs = some ns → xs = ns.map PyData.int
  | [], ns, h => by cases h; rfl
  | .int i :: r, ns, h => by
    unfold intsOf at h
    obtain ⟨ms, h1, rfl⟩ := Option.map_eq_some_iff.mp h
    rw [intsOf_map h1]
    rfl
  | .none :: r, _, h => by simp [intsOf] at h
  | .bool _ :: r, _, h => by simp [intsOf] at h
  | .str _ :: r, _, h => by simp [intsOf] at h
  | .list _ :: r, _, h => by simp [intsOf] at h
  | .tuple _ :: r, _, h => by simp [intsOf] at h
  | .dict _ :: r, _, h => by simp [intsOf] at h
theorem boolsOf_map : ∀ {xs : List D} {ns : List Bool}, boolsOf xs = some ns → xs = ns.map PyData.bool
  | [], ns, h => by cases h; rfl
  | .bool i :: r, ns, h => by
    unfold boolsOf at h
    obtain ⟨ms, h1, rfl⟩ := Option.map_eq_some_iff.mp h
    rw [boolsOf_map h1]
    rfl
  | .none :: r, _, h => by simp [boolsOf] at h
  | .int _ :: r, _, h => by simp [boolsOf] at h
  | .str _ :: r, _, h => by simp [boolsOf] at h
  | .list _ :: r, _, h => by simp [boolsOf] at h
  | .tuple _ :: r, _, h => by simp [boolsOf] at h
  | .dict _ :: r, _, h => by simp [boolsOf] at h
@[simp] theorem intsOf_ints : ∀ ns : List Int, intsOf (ns.map PyData.int) = some ns
  | [] => rfl
  | n :: r => by simp [intsOf, intsOf_ints r]
@[simp] theorem boolsOf_bools : ∀ ns : List Bool, boolsOf (ns.map PyData.bool) = some ns
  | [] => rfl
  | n :: r => by simp [boolsOf, boolsOf_bools r]
theorem RpAll.bools_eq {K : PySem.W.Frag} {B : Hp} : ∀ {vs : List V} {ns : List Bool}, RpAll K B vs (ns.map PyData.bool) → vs = ns.map V.bl
  | _, [], .nil => rfl
  | _, n :: ns, .cons h r => by
    cases h
    rw [RpAll.bools_eq r]
    rfl
section
variable {C : Option Addr} {B H : Hp} {S : SS} {Q : VK} {σ : L2.St} {x : V} {xs : List D}
theorem PostV.ints {f : List Int → M D} (n : Nxt Γ C B H S B H) (hx : RpT Γ.K C B H x (.list xs)) (q : PostV rrE Γ C W σ B H Q (overInts xs f S)) : ∃ a ns, x = .ref a ∧ H a = some (.lst (ns.map V.int)) ∧ xs = ns.map PyData.int ∧ PostV rrE Γ C W σ B H Q (f ns S) := by
  unfold overInts at q
  cases e : intsOf xs with
  | none => rw [e] at q; exact q.elim
  | some ns =>
    rw [e] at q
    have e2 := intsOf_map e
    subst e2
    obtain ⟨a, vs, rfl, ha, ra⟩ := hx.list n.sh
    rw [ra.ints_eq] at ha
    exact ⟨a, ns, rfl, ha, rfl, q⟩
theorem PostV.bools {f : List Bool → M D} (n : Nxt Γ C B H S B H) (hx : RpT Γ.K C B H x (.list xs)) (q : PostV rrE Γ C W σ B H Q (overBools xs f S)) : ∃ a ns, x = .ref a ∧ H a = some (.lst (ns.map V.bl)) ∧ xs = ns.map PyData.bool ∧ PostV rrE Γ C W σ B H Q (f ns S) := by
  unfold overBools at q
  cases e : boolsOf xs with
  | none => rw [e] at q; exact q.elim
  | some ns =>
    rw [e] at q
    have e2 := boolsOf_map e
    subst e2
    obtain ⟨a, vs, rfl, ha, ra⟩ := hx.list n.sh
    rw [ra.bools_eq] at ha
    exact ⟨a, ns, rfl, ha, rfl, q⟩
end
theorem CallR.or {f : Value} {r r' : List V → Hp → VK → Prop} (h : CallR X f r) (h' : CallR X f r') : CallR X f (fun xs H Q => r xs H Q ∨ r' xs H Q) := fun pins s σ H xs us Q I rv q =>
  q.elim (fun q => h pins s σ H xs us Q I rv q) fun q => h' pins s σ H xs us Q I rv q
def rLenA (K : PySem.W.Frag) : List V → Hp → VK → Prop := fun xs H Q => (∃ x n, xs = [x] ∧ LenV K x H n ∧ Q (.int n) H) ∨ ((∃ a kvs, xs = [V.ref a] ∧ H a = some (.dK kvs) ∧ Q (.int kvs.length) H) ∨ rLenT xs H Q)
theorem c_len (hK : X.K = Γ.K) : CallR X (.builtin "len") (rLenA Γ.K) := CallR.or (hK ▸ call_len) (CallR.or call_lenD call_len_dT)
theorem lenP : C1P Γ lenD (rLenA Γ.K) := by
  intro C W σ B H S Q x d n hx q
  unfold lenD at q
  split at q
  · obtain ⟨a, xs, rfl, ha, ra⟩ := hx.list n.sh
    refine .inl ⟨_, _, rfl, .inl ⟨xs, .inl (.inl ha), rfl⟩, ?_⟩
    rw [ra.len]
    exact q.val n (.int _)
  · obtain ⟨a, xs, rfl, ha, ra⟩ := hx.tuple n.sh
    refine .inl ⟨_, _, rfl, .inr ⟨xs, ha, rfl⟩, ?_⟩
    rw [ra.len]
    exact q.val n (.int _)
  · split at q
    · rename_i h
      rw [hx.str]
      exact .inl ⟨_, _, rfl, ⟨h, rfl⟩, q.val n (.int _)⟩
    · exact q.elim
  · refine .inr ?_
    rcases hx with h | ⟨_, _, _, _, e, _⟩ | ⟨a, kvs, es, e1, e, h, _, _, k, r⟩
    · cases h with
      | dct h k r =>
        refine .inl ⟨_, _, rfl, n.sh _ _ h, ?_⟩
        have e := congrArg List.length k
        simp only [List.length_map] at e
        rw [← e]
        exact q.val n (.int _)
      | dctT h _ k r =>
        refine .inr ⟨_, _, rfl, n.sh _ _ h, ?_⟩
        have e := congrArg List.length k
        simp only [List.length_map] at e
        rw [← e]
        exact q.val n (.int _)
    · cases e
    · cases e
      subst e1
      refine .inl ⟨_, _, rfl, h, ?_⟩
      have e := congrArg List.length k
      simp only [List.length_map] at e
      rw [← e]
      exact q.val n (.int _)
  · exact q.elim
theorem absP : C1P Γ absD (fun xs H Q => ∃ i, xs = [.int i] ∧ Q (.int (if i < 0 then -i else i)) H) := by
  intro C W σ B H S Q x d n hx q
  unfold absD at q
  split at q
  · rename_i i
    rw [hx.int]
    refine ⟨i, rfl, ?_⟩
    rw [show (if i < 0 then -i else i) = (i.natAbs : Int) by split <;> omega]
    exact q.val n (.int _)
  · exact q.elim
theorem intP : C1P Γ intD (fun xs H Q => (∃ i, xs = [.int i] ∧ Q (.int i) H) ∨ ∃ k, xs = [.bl k] ∧ Q (.int (if k then 1 else 0)) H) := by
  intro C W σ B H S Q x d n hx q
  unfold intD at q
  split at q
  · rw [hx.int]; exact .inl ⟨_, rfl, q.val n (.int _)⟩
  · rw [hx.bool]; exact .inr ⟨_, rfl, q.val n (.int _)⟩
  · exact q.elim
theorem max2P : C2P Γ max2D (fun xs H Q => ∃ i j, xs = [.int i, .int j] ∧ Q (.int (if j > i then j else i)) H) := by
  intro C W σ B H S Q x y d e n hx hy q
  unfold max2D at q
  split at q
  · rename_i i j
    rw [hx.int, hy.int]
    refine ⟨i, j, rfl, ?_⟩
    rw [show (if j > i then j else i) = max i j by omega]
    exact q.val n (.int _)
  · exact q.elim
theorem min2P : C2P Γ min2D (fun xs H Q => ∃ i j, xs = [.int i, .int j] ∧ Q (.int (if j < i then j else i)) H) := by
  intro C W σ B H S Q x y d e n hx hy q
  unfold min2D at q
  split at q
  · rename_i i j
    rw [hx.int, hy.int]
    refine ⟨i, j, rfl, ?_⟩
    rw [show (if j < i then j else i) = min i j by omega]
    exact q.val n (.int _)
  · exact q.elim
theorem strP : C1P Γ strD (fun xs H Q => ∃ i, xs = [.int i] ∧ i.natAbs.log2 < 1920 ∧ Q (.str (toString i)) H) := by
  intro C W σ B H S Q x d n hx q
  unfold strD at q
  split at q
  · split at q
    · rename_i h
      rw [hx.int]; exact ⟨_, rfl, h, q.val n (.str _)⟩
    · exact q.elim
  · exact q.elim
theorem tupleP : C1P Γ tupleD (fun xs H Q => ∃ p ys, xs = [.ref p] ∧ ((SqL Γ.K H p ys ∧ ∀ l, H l = none → Q (.ref l) (upd H l (.tup ys))) ∨ (SqT Γ.K H p ys ∧ Q (.ref p) H))) := by
  intro C W σ B H S Q x d n hx q
  unfold tupleD at q
  split at q
  · obtain ⟨a, xs, rfl, ha, ra⟩ := hx.list n.sh
    exact ⟨a, xs, rfl, .inl ⟨.inl (.inl ha), q.tup n ra (n.lenL ha ra)⟩⟩
  · have hx0 := hx
    obtain ⟨a, xs, rfl, ha, ra⟩ := hx.tuple n.sh
    refine ⟨a, xs, rfl, .inr ⟨ha, q.val n ?_⟩⟩
    rcases hx0 with h | ⟨_, _, _, _, e, _⟩ | ⟨_, _, _, _, e, _⟩
    · exact h
    · cases e
    · cases e
  · exact q.elim
theorem listP : C1P Γ listD (fun xs H Q => ∃ p ys, xs = [.ref p] ∧ (SqL Γ.K H p ys ∨ SqT Γ.K H p ys) ∧ ∀ l, H l = none → Q (.ref l) (upd H l (.lst ys))) := by
  intro C W σ B H S Q x d n hx q
  unfold listD at q
  split at q
  · obtain ⟨a, xs, rfl, ha, ra⟩ := hx.list n.sh
    exact ⟨a, xs, rfl, .inl (.inl (.inl ha)), q.lst n ra (n.lenL ha ra)⟩
  · obtain ⟨a, xs, rfl, ha, ra⟩ := hx.tuple n.sh
    exact ⟨a, xs, rfl, .inr ha, q.lst n ra (n.lenT ha ra)⟩
  · exact q.elim
theorem sumP : C1P Γ sumD (fun vs H Q => rSum Γ.K vs H Q ∨ rSumTup Γ.K vs H Q) := by
  intro C W σ B H S Q x d n hx q
  unfold sumD at q
  split at q
  · obtain ⟨a, ns, rfl, ha, rfl, q2⟩ := q.ints n hx
    exact .inl ⟨a, ns, rfl, .inl (.inl ha), q2.val n (.int _)⟩
  · rename_i ds
    obtain ⟨a, vs, rfl, ha, ra⟩ := hx.tuple n.sh
    unfold overInts at q
    cases e : intsOf ds with
    | none => rw [e] at q; exact q.elim
    | some ns =>
      rw [e] at q
      have e2 := intsOf_map e
      subst e2
      rw [ra.ints_eq] at ha
      exact .inr ⟨a, ns, rfl, ha, q.val n (.int _)⟩
  · exact q.elim
theorem maxI_is : ∀ {ns : List Int} {m : Int}, m ∈ ns → (∀ y, y ∈ ns → y ≤ m) → m = maxI ns
  | [n], m, h, _ => by simpa [maxI] using h
  | n :: k :: r, m, h, g => by
    show m = max n (maxI (k :: r))
    have hrec : ∀ ks : List Int, ks ≠ [] → maxI ks ∈ ks ∧ ∀ y ∈ ks, y ≤ maxI ks := by
      intro ks
      induction ks with
      | nil => intro z; exact absurd rfl z
      | cons a t ih =>
        intro _
        cases t with
        | nil => simp [maxI]
        | cons b t =>
          obtain ⟨h1, h2⟩ := ih (by simp)
          have e : maxI (a :: b :: t) = max a (maxI (b :: t)) := rfl
          rw [e]
          refine ⟨?_, fun y hy => ?_⟩
          · rcases Int.le_total a (maxI (b :: t)) with q | q
            · rw [Int.max_eq_right q]; exact List.mem_cons_of_mem _ h1
            · rw [Int.max_eq_left q]; exact List.mem_cons_self
          · rcases List.mem_cons.mp hy with rfl | hy
            · omega
            · have := h2 y hy; omega
    obtain ⟨h1, h2⟩ := hrec (k :: r) (by simp)
    have g1 := g n List.mem_cons_self
    have g2 := g _ (List.mem_cons_of_mem _ h1)
    rcases List.mem_cons.mp h with rfl | h
    · omega
    · have := h2 m h; omega
theorem minI_is : ∀ {ns : List Int} {m : Int}, m ∈ ns → (∀ y, y ∈ ns → m ≤ y) → m = minI ns
  | [n], m, h, _ => by simpa [minI] using h
  | n :: k :: r, m, h, g => by
    show m = min n (minI (k :: r))
    have hrec : ∀ ks : List Int, ks ≠ [] → minI ks ∈ ks ∧ ∀ y ∈ ks, minI ks ≤ y := by
      intro ks
      induction ks with
      | nil => intro z; exact absurd rfl z
      | cons a t ih =>
        intro _
        cases t with
        | nil => simp [minI]
        | cons b t =>
          obtain ⟨h1, h2⟩ := ih (by simp)
          have e : minI (a :: b :: t) = min a (minI (b :: t)) := rfl
          rw [e]
          refine ⟨?_, fun y hy => ?_⟩
          · rcases Int.le_total a (minI (b :: t)) with q | q
            · rw [Int.min_eq_left q]; exact List.mem_cons_self
            · rw [Int.min_eq_right q]; exact List.mem_cons_of_mem _ h1
          · rcases List.mem_cons.mp hy with rfl | hy
            · omega
            · have := h2 y hy; omega
    obtain ⟨h1, h2⟩ := hrec (k :: r) (by simp)
    have g1 := g n List.mem_cons_self
    have g2 := g _ (List.mem_cons_of_mem _ h1)
    rcases List.mem_cons.mp h with rfl | h
    · omega
    · have := h2 m h; omega
theorem over_or {α : Type} {xs : List D} {f : List Int → M α} {g : M α} : (∃ ns, xs = ns.map PyData.int ∧ overOr xs f g = f ns) ∨ overOr xs f g = g := by
  unfold overOr
  cases e : intsOf xs with
  | none => exact .inr rfl
  | some ns => exact .inl ⟨ns, intsOf_map e, rfl⟩
theorem alikesB_ok {xs : List D} (h : alikesB xs = true) : ∀ x ∈ xs, ∀ y ∈ xs, PySem.W.alike x y = true := fun x hx y hy => List.all_eq_true.mp (List.all_eq_true.mp h x hx) y hy
theorem shallow_ok {xs : List D} (h : shallow xs = true) : ∀ d ∈ xs, d.depth ≤ 40 := fun d hd => of_decide_eq_true (List.all_eq_true.mp h d hd)
theorem depths_le {n : Nat} : ∀ {xs : List D}, (∀ d ∈ xs, d.depth ≤ n) → PyData.depthAll xs ≤ n
  | [], _ => Nat.zero_le _
  | x :: r, h => Nat.max_le.mpr ⟨h x List.mem_cons_self, depths_le fun d hd => h d (List.mem_cons_of_mem _ hd)⟩
theorem sortB_ok {xs : List D} (h : sortB xs = true) : PySem.W.AllAlike xs ∧ PySem.W.Sortable xs ∧ (∀ d ∈ xs, d.depth ≤ 40) ∧ PyData.canLayAll0 xs = true ∧ xs.length ≤ sizeLine := by
  unfold sortB at h
  simp only [Bool.and_eq_true, Bool.or_eq_true] at h
  obtain ⟨⟨⟨⟨h1, h2⟩, h3⟩, h4⟩, h5⟩ := h
  refine ⟨alikesB_ok h1, h2.elim (fun h => .inl fun d hd => ?_) (fun h => .inr fun d hd => ?_), shallow_ok h3, h4, of_decide_eq_true h5⟩
  · have q := List.all_eq_true.mp h d hd
    cases d with
    | tuple l => cases l with
      | nil => cases q
      | cons x r => exact ⟨x, r, rfl⟩
    | _ => cases q
  · have q := List.all_eq_true.mp h d hd
    cases d with
    | none => cases q
    | tuple l => cases q
    | _ => exact ⟨(fun z => by cases z), (fun l z => by cases z)⟩
theorem vals_at : ∀ {xs : List V} {us : List Value} {i : Nat} {u : Value}, Vals xs us → us[i]? = some u → ∃ x, xs[i]? = some x ∧ RelV x u
  | _, _, _, _, .nil, e => by simp at e
  | _, _, 0, _, .cons h _, e => by
    simp only [List.getElem?_cons_zero, Option.some.injEq] at e
    subst e
    exact ⟨_, rfl, h⟩
  | _, _, i + 1, _, .cons _ r, e => by
    obtain ⟨x, h1, h2⟩ := vals_at (i := i) r (by simpa using e)
    exact ⟨x, by simpa using h1, h2⟩
/-- the least | greatest of a list | tuple of data, the item as it stands -/
def rBestDat (S : Hp → Addr → List V → Prop) (K : PySem.W.Frag) (f : D → List D → D) : List V → Hp → VK → Prop := fun vs H Q => ∃ (a : Addr) (xs : List V) (x : D) (r : List D), vs = [V.ref a] ∧ S H a xs ∧ DpAll K H xs (x :: r) ∧ PySem.W.AlikeAll (x :: r) ∧ PyData.depthAll (x :: r) ≤ 40 ∧
  ∀ (i : Nat) (v : V), xs[i]? = some v → (x :: r)[i]? = some (f x r) → Q v H
theorem best_end {pins : List (Addr × Obj)} {σ : L2.St} {H : Hp} {s : Shared} {Q : VK} (I : Inv X pins σ H s) {its : List Value} {xs : List V} {x : D} {r : List D} {as : List Addr} {f : D → List D → D} (vi : Vals xs its) (rd : ReadsAll s.heap its (x :: r) as)
    (q : ∀ (i : Nat) (v : V), xs[i]? = some v → (x :: r)[i]? = some (f x r) → Q v H) (i : Nat) (v : Value) (h' : Heap) (tk : Nat) (bs : List Addr) (hv : its[i]? = some v) (r1 : Reads h' v (f x r) bs) (k : ∀ b o, s.heap.get? b = some o → h'.get? b = some o) : EP X pins σ Q v { s with heap := h', toks := tk } := by
  obtain ⟨as', r2, hi, _, _⟩ := PySem.W.readsAll_at rd i v hv
  obtain ⟨y, e1, ry⟩ := vals_at vi hv
  have e := (PyProof.Rows.reads_det (fun b o e _ => k b o e) r2 r1).1
  have e2 : (x :: r)[i]? = some (f x r) := by
    rw [e, List.getElem?_eq_getElem hi, List.getD_eq_getElem?_getD, List.getElem?_eq_getElem hi]
    rfl
  exact ⟨y, H, I.kept k, ry, q i y e1 e2⟩
theorem c_minDat (hc : X.calm = true) (hu : X.A.units + 64 < cLine) : CallR X (.builtin "min") (rBestDat (SqL X.K) X.K PySem.W.minD) := by
  intro pins s σ H vs us Q I rv h
  obtain ⟨a, xs, x, r, rfl, hs, hd, ha, hz, q⟩ := h
  obtain ⟨its, vi, hl, _⟩ := I.list hs
  rw [Vals.ref1 rv]
  obtain ⟨as, rd⟩ := Dp.readsAll I _ _ _ hd vi
  exact PySem.W.min_list_data (vs := its.toArray) (I.ok.hd hc) hl.isList (by simpa using rd) ha (by omega) fun i v h' tk bs hv r1 k => best_end I vi rd q i v h' tk bs (by simpa using hv) r1 k
theorem c_maxDat (hc : X.calm = true) (hu : X.A.units + 64 < cLine) : CallR X (.builtin "max") (rBestDat (SqL X.K) X.K PySem.W.maxD) := by
  intro pins s σ H vs us Q I rv h
  obtain ⟨a, xs, x, r, rfl, hs, hd, ha, hz, q⟩ := h
  obtain ⟨its, vi, hl, _⟩ := I.list hs
  rw [Vals.ref1 rv]
  obtain ⟨as, rd⟩ := Dp.readsAll I _ _ _ hd vi
  exact PySem.W.max_list_data (vs := its.toArray) (I.ok.hd hc) hl.isList (by simpa using rd) ha (by omega) fun i v h' tk bs hv r1 k => best_end I vi rd q i v h' tk bs (by simpa using hv) r1 k
theorem c_minDatT (hc : X.calm = true) (hu : X.A.units + 64 < cLine) : CallR X (.builtin "min") (rBestDat (SqT X.K) X.K PySem.W.minD) := by
  intro pins s σ H vs us Q I rv h
  obtain ⟨a, xs, x, r, rfl, hs, hd, ha, hz, q⟩ := h
  obtain ⟨its, vi, hl, _⟩ := I.tuple hs
  rw [Vals.ref1 rv]
  obtain ⟨as, rd⟩ := Dp.readsAll I _ _ _ hd vi
  exact PySem.W.min_tuple_data (vs := its.toArray) (I.ok.hd hc) hl (by simpa using rd) ha (by omega) fun i v h' tk bs hv r1 k => best_end I vi rd q i v h' tk bs (by simpa using hv) r1 k
theorem c_maxDatT (hc : X.calm = true) (hu : X.A.units + 64 < cLine) : CallR X (.builtin "max") (rBestDat (SqT X.K) X.K PySem.W.maxD) := by
  intro pins s σ H vs us Q I rv h
  obtain ⟨a, xs, x, r, rfl, hs, hd, ha, hz, q⟩ := h
  obtain ⟨its, vi, hl, _⟩ := I.tuple hs
  rw [Vals.ref1 rv]
  obtain ⟨as, rd⟩ := Dp.readsAll I _ _ _ hd vi
  exact PySem.W.max_tuple_data (vs := its.toArray) (I.ok.hd hc) hl (by simpa using rd) ha (by omega) fun i v h' tk bs hv r1 k => best_end I vi rd q i v h' tk bs (by simpa using hv) r1 k
def rMinA (K : PySem.W.Frag) : List V → Hp → VK → Prop := fun vs H Q => rMin K vs H Q ∨ (rBestDat (SqL K) K PySem.W.minD vs H Q ∨ rBestDat (SqT K) K PySem.W.minD vs H Q)
def rMaxA (K : PySem.W.Frag) : List V → Hp → VK → Prop := fun vs H Q => rMax K vs H Q ∨ (rBestDat (SqL K) K PySem.W.maxD vs H Q ∨ rBestDat (SqT K) K PySem.W.maxD vs H Q)
theorem c_min (hK : X.K = Γ.K) (hc : X.calm = true) (hu : X.A.units + 64 < cLine) : CallR X (.builtin "min") (rMinA Γ.K) := CallR.or (hK ▸ cr_min hc) (CallR.or (hK ▸ c_minDat hc hu) (hK ▸ c_minDatT hc hu))
theorem c_max (hK : X.K = Γ.K) (hc : X.calm = true) (hu : X.A.units + 64 < cLine) : CallR X (.builtin "max") (rMaxA Γ.K) := CallR.or (hK ▸ cr_max hc) (CallR.or (hK ▸ c_maxDat hc hu) (hK ▸ c_maxDatT hc hu))
theorem best_ok {x : D} {r : List D} (h : bestB (x :: r) = true) : PySem.W.AlikeAll (x :: r) ∧ PyData.depthAll (x :: r) ≤ 40 ∧ PyData.canLayAll0 (x :: r) = true := by
  unfold bestB at h
  simp only [Bool.and_eq_true] at h
  obtain ⟨⟨⟨h1, h2⟩, h3⟩, h4⟩ := h
  refine ⟨⟨alikesB_ok h1, fun d hd z => ?_⟩, depths_le (shallow_ok h3), h4⟩
  have q := List.all_eq_true.mp h2 d hd
  rw [z] at q
  cases q
theorem int_best {ns : List Int} {n : Int} {r : List Int} (h : ns = n :: r) : PySem.W.AlikeAll (ns.map PyData.int) ∧ PyData.depthAll (ns.map PyData.int) ≤ 40 ∧ PyData.canLayAll0 (ns.map PyData.int) = true := by
  refine ⟨⟨fun x hx y hy => ?_, fun x hx z => ?_⟩, by rw [PySem.W.depth_ints]; decide, ?_⟩
  · obtain ⟨i, _, rfl⟩ := List.mem_map.mp hx
    obtain ⟨j, _, rfl⟩ := List.mem_map.mp hy
    rfl
  · obtain ⟨i, _, rfl⟩ := List.mem_map.mp hx
    cases z
  · clear h
    induction ns with
    | nil => simp [PyData.canLayAll0]
    | cons a t i => rw [List.map_cons]; simp [PyData.canLayAll0, PyData.canLay0, i]
theorem foldmax_is : ∀ (r : List Int) (n : Int), r.foldl max n = maxI (n :: r)
  | [], _ => rfl
  | m :: r, n => by
    rw [List.foldl_cons, foldmax_is r (max n m)]
    cases r with
    | nil => rfl
    | cons k t =>
      show max (max n m) (maxI (k :: t)) = max n (max m (maxI (k :: t)))
      omega
theorem foldmin_is : ∀ (r : List Int) (n : Int), r.foldl min n = minI (n :: r)
  | [], _ => rfl
  | m :: r, n => by
    rw [List.foldl_cons, foldmin_is r (min n m)]
    cases r with
    | nil => rfl
    | cons k t =>
      show min (min n m) (minI (k :: t)) = min n (min m (minI (k :: t)))
      omega
/-- either of both, by its two readings -/
theorem bestP {f : D → M D} {I : List Int → Int} {F : D → List D → D} {rI : List V → Hp → VK → Prop} (hf : ∀ d, f d = (match d with
    | .list xs => overOr xs (fun ns => if ns = [] then bad else pure (.int (I ns))) (datOf F xs)
    | .tuple xs => overOr xs (fun ns => if ns = [] ∨ ns.length > sizeLine then bad else pure (.int (I ns))) (datOf F xs)
    | _ => bad)) (hF : ∀ n r, F (.int n) (r.map PyData.int) = .int (I (n :: r)))
    (hI : ∀ {a : Addr} {ns : List Int} {H : Hp} {Q : VK}, SqL Γ.K H a (ns.map V.int) → 0 < ns.length → Q (.int (I ns)) H → rI [V.ref a] H Q) : C1P Γ f (fun vs H Q => rI vs H Q ∨ (rBestDat (SqL Γ.K) Γ.K F vs H Q ∨ rBestDat (SqT Γ.K) Γ.K F vs H Q)) := by
  intro C W σ B H S Q x d n hx q
  rw [hf] at q
  split at q
  · rename_i ds
    rcases over_or (xs := ds) (f := fun ns => if ns = [] then (bad : M D) else pure (.int (I ns))) (g := datOf F ds) with ⟨ns, rfl, e⟩ | e
    · rw [e] at q
      obtain ⟨a, vs, rfl, ha, ra⟩ := hx.list n.sh
      rw [ra.ints_eq] at ha
      by_cases h : ns = []
      · rw [if_pos h] at q; exact q.elim
      · rw [if_neg h] at q
        exact .inl (hI (.inl (.inl ha)) (List.length_pos_iff.mpr h) (q.val n (.int _)))
    · rw [e] at q
      obtain ⟨a, vs, rfl, ha, ra⟩ := hx.list n.sh
      unfold datOf at q
      split at q
      · exact q.elim
      · rename_i x r
        split at q
        · rename_i h
          obtain ⟨b1, b2, b3⟩ := best_ok h
          refine .inr (.inl ⟨a, vs, x, r, rfl, .inl (.inl ha), RpAll.dp n.sh b3 ra, b1, b2, fun i v e1 e2 => ?_⟩)
          obtain ⟨v', e3, rv⟩ := ra.at e2
          rw [e1] at e3
          cases e3
          exact q.val n rv
        · exact q.elim
  · rename_i ds
    rcases over_or (xs := ds) (f := fun ns => if ns = [] ∨ ns.length > sizeLine then (bad : M D) else pure (.int (I ns))) (g := datOf F ds) with ⟨ns, rfl, e⟩ | e
    · rw [e] at q
      obtain ⟨a, vs, rfl, ha, ra⟩ := hx.tuple n.sh
      split at q
      · exact q.elim
      · rename_i h
        cases ns with
        | nil => exact (h (.inl rfl)).elim
        | cons m t =>
          obtain ⟨b1, b2, b3⟩ := int_best (ns := m :: t) rfl
          refine .inr (.inr ⟨a, vs, .int m, t.map PyData.int, rfl, ha, RpAll.dp n.sh b3 ra, b1, b2, fun i v e1 e2 => ?_⟩)
          rw [hF] at e2
          obtain ⟨v', e3, rv⟩ := ra.at e2
          rw [e1] at e3
          cases e3
          exact q.val n rv
    · rw [e] at q
      obtain ⟨a, vs, rfl, ha, ra⟩ := hx.tuple n.sh
      unfold datOf at q
      split at q
      · exact q.elim
      · rename_i x r
        split at q
        · rename_i h
          obtain ⟨b1, b2, b3⟩ := best_ok h
          refine .inr (.inr ⟨a, vs, x, r, rfl, ha, RpAll.dp n.sh b3 ra, b1, b2, fun i v e1 e2 => ?_⟩)
          obtain ⟨v', e3, rv⟩ := ra.at e2
          rw [e1] at e3
          cases e3
          exact q.val n rv
        · exact q.elim
  · exact q.elim
theorem maxP : C1P Γ maxD (rMaxA Γ.K) := bestP (I := maxI) (fun d => by cases d <;> rfl) (fun n r => by rw [PySem.W.maxD_ints, foldmax_is]) fun {a ns H Q} h h0 q => ⟨a, ns, rfl, h, h0, fun m h1 h2 => by rw [maxI_is h1 h2]; exact q⟩
theorem minP : C1P Γ minD (rMinA Γ.K) := bestP (I := minI) (fun d => by cases d <;> rfl) (fun n r => by rw [PySem.W.minD_ints, foldmin_is]) fun {a ns H Q} h h0 q => ⟨a, ns, rfl, h, h0, fun m h1 h2 => by rw [minI_is h1 h2]; exact q⟩
theorem allP : C1P Γ allD (rAll Γ.K) := by
  intro C W σ B H S Q x d n hx q
  unfold allD at q
  split at q
  · obtain ⟨a, ns, rfl, ha, rfl, q2⟩ := q.bools n hx
    exact ⟨a, ns, rfl, .inl (.inl ha), q2.val n (.bl _)⟩
  · exact q.elim
theorem anyP : C1P Γ anyD (rAny Γ.K) := by
  intro C W σ B H S Q x d n hx q
  unfold anyD at q
  split at q
  · obtain ⟨a, ns, rfl, ha, rfl, q2⟩ := q.bools n hx
    exact ⟨a, ns, rfl, .inl (.inl ha), q2.val n (.bl _)⟩
  · exact q.elim
theorem sortI_perm (ns : List Int) : (sortI ns).Perm ns := List.mergeSort_perm _ _
theorem sortI_pw (ns : List Int) : (sortI ns).Pairwise (· ≤ ·) := by
  have := List.pairwise_mergeSort (le := fun a b : Int => decide (a ≤ b)) (fun a b c h1 h2 => by simp only [decide_eq_true_eq] at *; omega) (fun a b => by simp only [Bool.or_eq_true, decide_eq_true_eq]; omega) ns
  exact this.imp fun h => by simpa using h
theorem sorted_uniq {ks ns : List Int} (h : ks.Perm ns) (p : ks.Pairwise (· ≤ ·)) : ks = sortI ns :=
  (h.trans (sortI_perm ns).symm).eq_of_pairwise (fun a b _ _ h1 h2 => by omega) p (sortI_pw ns)
/-- items and what they stand for, side by side -/
def rSortDat (K : PySem.W.Frag) : List V → Hp → VK → Prop := fun vs H Q => ∃ (a : Addr) (xs : List V) (ds : List D) (R : V → D → Prop), vs = [V.ref a] ∧ SqL K H a xs ∧ DpAll K H xs ds ∧ PySem.W.EachIs R xs ds ∧ PySem.W.AllAlike ds ∧ PySem.W.Sortable ds ∧ (∀ d ∈ ds, d.depth ≤ 40) ∧ ds.length ≤ sizeLine ∧
  ∀ (ys : List V) (p : Addr), PySem.W.EachIs R ys (sortDat ds) → H p = none → Q (.ref p) (upd H p (.lst ys))
theorem vals_each {R : V → D → Prop} : ∀ {xs : List V} {us : List Value} {ds : List D}, Vals xs us → PySem.W.EachIs R xs ds → PySem.W.EachIs (fun u d => ∃ v, RelV v u ∧ R v d) us ds
  | _, _, _, .nil, .nil => .nil
  | _, _, _, .cons h r, .cons g t => .cons ⟨_, h, g⟩ (vals_each r t)
theorem each_vals {R : V → D → Prop} : ∀ {us : List Value} {ds : List D}, PySem.W.EachIs (fun u d => ∃ v, RelV v u ∧ R v d) us ds → ∃ xs, Vals xs us ∧ PySem.W.EachIs R xs ds
  | _, _, .nil => ⟨[], .nil, .nil⟩
  | _, _, .cons ⟨v, h, g⟩ r => by
    obtain ⟨xs, h1, h2⟩ := each_vals r
    exact ⟨v :: xs, .cons h h1, .cons g h2⟩
theorem reads_each {h : Heap} : ∀ {us : List Value} {ds : List D} {as : List Addr}, ReadsAll h us ds as → PySem.W.EachIs (fun u d => ∃ as, Reads h u d as) us ds
  | _, _, _, .nil => .nil
  | _, _, _, .cons r rs => .cons ⟨_, r⟩ (reads_each rs)
theorem c_sortDat (hu : X.A.units + 64 < cLine) : CallR X (.builtin "sorted") (rSortDat X.K) := by
  intro pins s σ H vs us Q I rv h
  obtain ⟨a, xs, ds, R, rfl, hs, hd, he, h1, h2, h3, h4, q⟩ := h
  obtain ⟨its, vi, hl, _⟩ := I.list hs
  rw [Vals.ref1 rv]
  obtain ⟨as, rd⟩ := Dp.readsAll I _ _ _ hd vi
  refine PySem.W.sorted_data (enc := id) (bs := ds) (R := fun u d => ∃ v, RelV v u ∧ R v d) hl.isList (vals_each vi he) (reads_each rd) (by simpa using h1) (by simpa using h2) h4 (fun b hb => by have := h3 b hb; show _ + 2 + b.depth < _; omega) fun out h5 h6 => ?_
  obtain ⟨ys, v1, e1⟩ := each_vals h6
  obtain ⟨ep, he'⟩ := PyProof.Rows.sortedAll_at s.heap its out.toArray
  have hlen : ys.length ≤ sizeLine := by rw [v1.length, h5]; exact h4
  exact ⟨.ref _, upd H (s.heap.objs.size + 1) (.lst ys), I.laid (t' := s.toks) (fun _ _ => PyProof.Rows.sortedAll_old) (Nat.le_succ _) ⟨hlen, out, ep, v1, he'⟩, rfl, q ys _ e1 (I.hok.fresh (Nat.le_succ _))⟩
def rSortA (K : PySem.W.Frag) : List V → Hp → VK → Prop := fun vs H Q => rSortedI K vs H Q ∨ rSortDat K vs H Q ∨ rSortTupI K vs H Q
theorem c_sorted (hK : X.K = Γ.K) (hu : X.A.units + 64 < cLine) : CallR X (.builtin "sorted") (rSortA Γ.K) := CallR.or (hK ▸ cr_sortedI) (CallR.or (hK ▸ c_sortDat hu) (hK ▸ cr_sortTupI))
theorem RpAll.each {K : PySem.W.Frag} {B : Hp} : ∀ {vs : List V} {ds : List D}, RpAll K B vs ds → PySem.W.EachIs (Rp K B) vs ds
  | _, _, .nil => .nil
  | _, _, .cons h r => .cons h r.each
theorem RpAll.of_each {K : PySem.W.Frag} {B : Hp} : ∀ {vs : List V} {ds : List D}, PySem.W.EachIs (Rp K B) vs ds → RpAll K B vs ds
  | _, _, .nil => .nil
  | _, _, .cons h r => .cons h (RpAll.of_each r)
theorem sortDat_len (ds : List D) : (sortDat ds).length = ds.length := List.length_mergeSort _
theorem sortedP : C1P Γ sortedD (rSortA Γ.K) := by
  intro C W σ B H S Q x d n hx q
  unfold sortedD at q
  split at q
  · rename_i ds
    rcases over_or (xs := ds) (f := fun ns => (pure (.list ((sortI ns).map PyData.int)) : M D)) (g := if sortB ds = true then pure (.list (sortDat ds)) else bad) with ⟨ns, rfl, e⟩ | e
    · rw [e] at q
      obtain ⟨a, vs, rfl, ha, ra⟩ := hx.list n.sh
      rw [ra.ints_eq] at ha
      refine .inl ⟨a, ns, rfl, .inl (.inl ha), fun ks p h1 h2 np => ?_⟩
      rw [sorted_uniq h1 h2]
      exact q.lst n (RpAll.ints _) (by rw [List.length_map, (sortI_perm ns).length_eq]; have := n.ln _ _ ha; simpa [LenOk] using this) p np
    · rw [e] at q
      split at q
      · rename_i h
        obtain ⟨h1, h2, h3, h4, h5⟩ := sortB_ok h
        obtain ⟨a, vs, rfl, ha, ra⟩ := hx.list n.sh
        exact .inr (.inl ⟨a, vs, ds, Rp Γ.K B, rfl, .inl (.inl ha), RpAll.dp n.sh h4 ra, ra.each, h1, h2, h3, h5, fun ys p e np => q.lst n (.of_each e) (by rw [sortDat_len]; exact h5) p np⟩)
      · exact q.elim
  · rename_i ds
    obtain ⟨a, vs, rfl, ha, ra⟩ := hx.tuple n.sh
    unfold overInts at q
    cases e : intsOf ds with
    | none => rw [e] at q; exact q.elim
    | some ns =>
      rw [e] at q
      have e2 := intsOf_map e
      subst e2
      rw [ra.ints_eq] at ha
      dsimp only at q
      split at q
      · rename_i few
        refine .inr (.inr ⟨a, ns, rfl, ha, few, fun ks p h1 h2 np => ?_⟩)
        rw [sorted_uniq h1 h2]
        exact q.lst n (RpAll.ints _) (by rw [List.length_map, (sortI_perm ns).length_eq, sizeLine_eq]; omega) p np
      · exact q.elim
  · exact q.elim
/-- repr of what is no dict -/
def rReprA (K : PySem.W.Frag) : List V → Hp → VK → Prop := fun vs H Q => ∃ v d, vs = [v] ∧ Dp K H v d ∧ d.canLay0 = true ∧ d.showable = true ∧ d.depth ≤ 60 ∧ d.shown.length ≤ sizeLine ∧ Q (.str d.shown) H
theorem c_repr (hK : X.K = Γ.K) (hg : X.A.guards = some []) (hu : X.A.units + 64 < cLine) : CallR X (.builtin "repr") (rReprA Γ.K) := by
  intro pins s σ H xs us Q I rv h
  obtain ⟨v, d, rfl, hd, hc, hs, hz, hl, q⟩ := h
  obtain ⟨u, rfl, ru⟩ := vals1 rv
  rw [← hK] at hd
  have fin : ∀ (h' : Heap) (tk : Nat) (t : Tok), (∀ b o, s.heap.get? b = some o → h'.get? b = some o) → EP X pins σ Q (.str d.shown t) { s with heap := h', toks := tk } := fun h' tk t k => ⟨.str d.shown, H, I.kept k, ⟨t, rfl⟩, q⟩
  cases hd with
  | non => cases ru; simp only [PyData.shown] at fin; exact PySem.P.repr_of_none (fin s.heap _ _ fun _ _ e => e)
  | bl b => cases ru; simp only [PyData.shown] at fin; exact PySem.P.repr_of_bool (fin s.heap _ _ fun _ _ e => e)
  | int i =>
    obtain ⟨t, rfl⟩ := ru
    simp only [PyData.shown] at fin
    exact PySem.P.repr_of_int (by simpa [PyData.showable] using hs) (fin s.heap _ _ fun _ _ e => e)
  | str z =>
    obtain ⟨t, rfl⟩ := ru
    simp only [PyData.shown] at fin hl
    exact PySem.P.repr_of_str (fin s.heap _ _ fun _ _ e => e) hl
  | @lst a vs ds h1 h2 =>
    cases ru
    obtain ⟨as, rd⟩ := Dp.reads I _ _ _ (.lst h1 h2) (rfl : RelV (V.ref a) (Value.ref a))
    exact repr_of_reads' rd hs (PyData.noDict_hsm (PyData.hasDict_of_canLay _ hc)) hg (by omega) (fun _ _ e => e) (fun h' t tk k => fin h' tk t k) hl
  | @tup a vs ds h1 h2 =>
    cases ru
    obtain ⟨as, rd⟩ := Dp.reads I _ _ _ (.tup h1 h2) (rfl : RelV (V.ref a) (Value.ref a))
    exact repr_of_reads' rd hs (PyData.noDict_hsm (PyData.hasDict_of_canLay _ hc)) hg (by omega) (fun _ _ e => e) (fun h' t tk k => fin h' tk t k) hl
theorem reprP : C1P Γ reprD (rReprA Γ.K) := by
  intro C W σ B H S Q x d n hx q
  unfold reprD at q
  split at q
  · rename_i h
    exact ⟨x, d, rfl, hx.dp n.sh h.1, h.1, h.2.1, h.2.2.1, h.2.2.2, q.val n (.str _)⟩
  · exact q.elim
end Pv
namespace Pv
open PySem PySem.Spec PyProof.Rows L2
variable {Γ : Gm} {X : Cx} {W : WX} {pos p : Pos}
/-! slices -/
abbrev MO := Env → M (Option Int)
def asI : D → M Int
  | .int i => pure i
  | _ => bad
def oNo : MO := fun _ => pure none
def oYes (ma : ME) : MO := fun ρ => ma ρ >>= fun d => asI d >>= fun i => pure (some i)
def PostO (Γ : Gm) (C : Option Addr) (W : WX) (σ : L2.St) (B H : Hp) (Q : Option Int → Hp → Prop) : Res (Option Int) → Prop
  | .ok b S' => ∀ H' B', Nxt Γ C B H S' B' H' → Q b H'
  | .exc k S' => ∀ H' B', Nxt Γ C B H S' B' H' → W (Γ.cls k) none σ H'
  | .bad => False
def rdO (Γ : Gm) (W : WX) (m : MO) : TO := fun σ H Q => ∃ C B0 H0 ρ S B, Rel Γ C B0 H0 ρ S σ B H ∧ PostO Γ C W σ B H Q (m ρ S)
theorem PO.imp {e : Option Expr} {t t' : TO} (h : PO X e t) (i : ∀ σ H Q, t' σ H Q → t σ H Q) : PO X e t' := ⟨fun pins s σ H Q I q => h.run pins s σ H Q I (i σ H Q q)⟩
theorem d_ono : PO X none (rdO Γ W oNo) := PO.imp po_none fun σ H Q ⟨C, B0, H0, ρ, S, B, r, q⟩ => q H B r.nx.here
theorem d_oyes {e : Expr} {ma : ME} (ha : PE X e (rdE Γ W ma)) : PO X (some e) (rdO Γ W (oYes ma)) := PO.imp (po_some ha) fun σ H Q ⟨C, B0, H0, ρ, S, B, r, q⟩ => by
  refine ⟨C, B0, H0, ρ, S, B, r, ?_⟩
  unfold oYes at q
  rw [bind_at] at q
  cases e : ma ρ S with
  | ok d S' =>
    rw [e] at q
    intro v H' B' n x
    cases d with
    | int i => cases x; exact ⟨i, rfl, q H' B' n⟩
    | _ => exact q.elim
  | exc k S' => rw [e] at q; exact q
  | bad => rw [e] at q; exact q
theorem rdO_bind {R : RR} {C : Option Addr} {σ : L2.St} {B H B0 H0 : Hp} {S : SS} {ρ : Env} {m : MO} {f : Option Int → M D} {Q : VK} {Q' : Option Int → Hp → Prop} (r : Rel Γ C B0 H0 ρ S σ B H) (h : PostV R Γ C W σ B H Q ((m ρ >>= f) S))
    (k : ∀ d S1 H1 B1, Rel Γ C B0 H0 ρ S1 σ B1 H1 → Nxt Γ C B H S1 B1 H1 → PostV R Γ C W σ B1 H1 Q (f d S1) → Q' d H1) : rdO Γ W m σ H Q' := by
  refine ⟨C, B0, H0, ρ, S, B, r, ?_⟩
  rcases h.bind with ⟨d, S', e, h⟩ | ⟨k', S', e, h⟩
  · rw [e]
    exact fun H' B' n => k d S' H' B' (r.up n) n (h.up n)
  · rw [e]
    exact h
/-- .. the script, too -/
def RpS (K : PySem.W.Frag) (C : Option Addr) (B H : Hp) (v : V) (d : D) : Prop := RpT K C B H v d ∨ ∃ a xs ds, v = .ref a ∧ d = .list ds ∧ SqL K B a xs ∧ RpAll K B xs ds
abbrev rrS : RR := fun Γ C B H v d => RpS Γ.K C B H v d
theorem RpS.up {C : Option Addr} {B B1 H H1 : Hp} {S1 : SS} {v : V} {d : D} (n : Nxt Γ C B H S1 B1 H1) (h : RpS Γ.K C B H v d) : RpS Γ.K C B1 H1 v d := by
  rcases h with h | ⟨a, xs, ds, e1, e2, h, r⟩
  · exact .inl (h.up n)
  · exact .inr ⟨a, xs, ds, e1, e2, n.sb.sqL h, r.up n.sb⟩
theorem rd_weak {R R' : RR} (hR : ∀ {C B H v d}, R Γ C B H v d → R' Γ C B H v d) {e : Expr} {m : ME} (h : PE X e (rd R Γ W m)) : PE X e (rd R' Γ W m) := PE.imp h fun σ H Q ⟨C, B0, H0, ρ, S, B, r, p⟩ => by
  refine ⟨C, B0, H0, ρ, S, B, r, ?_⟩
  cases e : m ρ S with
  | ok d S' => rw [e] at p; exact fun v H' B' n x => p v H' B' n (hR x)
  | exc k S' => rw [e] at p; exact p
  | bad => rw [e] at p; exact p
theorem PE.toS {e : Expr} {m : ME} (h : PE X e (rdT Γ W m)) : PE X e (rd rrS Γ W m) := rd_weak (R := rrT) (fun x => .inl x) h
def vScr (i : Nat) : ME := fun ρ => match ρ.getD i .none with
  | .scr ds => pure (.list ds)
  | _ => bad
theorem d_scr {i : Nat} {x : Str} (hN : X.N[i]? = some x) (hv : Vis X.env.scope x) (hd : (x == ("__debug__" : Str)) = false) (hc : (x == ("__classdict__" : Str)) = false) : PE X (.Name x pos) (rd rrS Γ W (vScr i)) :=
  PE.imp (pe_var hN hv hd hc) fun σ H Q ⟨C, B0, H0, ρ, S, B, r, q⟩ => by
    unfold vScr at q
    cases e : ρ.getD i .none with
    | scr ds =>
      rw [e] at q
      obtain ⟨a, xs, e1, h, rp⟩ := r.at e
      exact ⟨_, e1, q _ H B r.nx.here (.inr ⟨a, xs, ds, rfl, rfl, h, rp⟩)⟩
    | _ => rw [e] at q; exact q.elim
def cutD (xs : List D) (lo hi : Option Int) : List D := (xs.drop (HT.sIx xs.length 0 lo)).take (HT.sIx xs.length xs.length hi - HT.sIx xs.length 0 lo)
def sliceD (d : D) (lo hi : Option Int) : M D := match d with
  | .list xs => pure (.list (cutD xs lo hi))
  | .tuple xs => pure (.tuple (cutD xs lo hi))
  | .str z => if z.length ≤ sizeLine then pure (.str (cutS z lo hi)) else bad
  | _ => bad
theorem RpAll.cut {K : PySem.W.Frag} {B : Hp} {vs : List V} {ds : List D} (r : RpAll K B vs ds) (lo hi : Option Int) : RpAll K B (cutV vs lo hi) (cutD ds lo hi) := by
  unfold cutV cutD
  rw [r.len]
  exact (r.drop _).take _
theorem cutD_len (ds : List D) (lo hi : Option Int) : (cutD ds lo hi).length ≤ ds.length := by
  unfold cutD
  rw [List.length_take, List.length_drop]
  omega
theorem cutD_all {ds : List D} {lo hi : Option Int} (h : HT.sIx ds.length 0 lo = 0 ∧ HT.sIx ds.length ds.length hi = ds.length) : cutD ds lo hi = ds := by
  unfold cutD
  rw [h.1, h.2]
  simp
def rSl (K : PySem.W.Frag) : V → Option Int → Option Int → Hp → VK → Prop := fun x lo hi H Q => (rSlL K x lo hi H Q ∨ rSlA K x lo hi H Q) ∨ rSlS x lo hi H Q
theorem sl_any (hK : X.K = Γ.K) : SlR X (rSl Γ.K) := SlR.or (SlR.or (hK ▸ sl_list) (hK ▸ sl_tupA)) sl_str
def vSl (ma : ME) (ml mh : MO) : ME := fun ρ => ma ρ >>= fun d => ml ρ >>= fun lo => mh ρ >>= fun hi => sliceD d lo hi
theorem slP {C : Option Addr} {σ : L2.St} {B H : Hp} {S : SS} {Q : VK} {x : V} {d : D} {lo hi : Option Int} (n : Nxt Γ C B H S B H) (hx : RpS Γ.K C B H x d) (q : PostV rrE Γ C W σ B H Q (sliceD d lo hi S)) : rSl Γ.K x lo hi H Q := by
  unfold sliceD at q
  split at q
  · rename_i ds
    have : ∃ a xs, x = .ref a ∧ SqL Γ.K H a xs ∧ RpAll Γ.K B xs ds ∧ ds.length ≤ sizeLine := by
      rcases hx with hx | ⟨a, xs, _, e1, e2, h, r⟩
      · obtain ⟨a, xs, e, ha, ra⟩ := hx.list n.sh
        exact ⟨a, xs, e, .inl (.inl ha), ra, n.lenL ha ra⟩
      · cases e2
        refine ⟨a, xs, e1, n.sh.sqL h, r, ?_⟩
        rw [← r.len]
        rcases h with (h | ⟨o, h⟩) | ⟨o, its, m, _, _, _, _, hz, rv⟩
        · exact n.ln a _ (n.sh _ _ h)
        · exact n.ln a _ (n.sh _ _ h)
        · have e := rv.length
          simp only [Array.length_toList] at e
          omega
    obtain ⟨a, xs, rfl, ha, ra, hz⟩ := this
    exact .inl (.inl ⟨a, xs, rfl, ha, q.lst n (ra.cut lo hi) (Nat.le_trans (cutD_len _ _ _) hz)⟩)
  · rename_i ds
    have hx' : Rp Γ.K B x (.tuple ds) := by
      rcases hx with (h | ⟨_, _, _, _, e, _⟩ | ⟨_, _, _, _, e, _⟩) | ⟨_, _, _, _, e, _⟩
      · exact h
      · cases e
      · cases e
      · cases e
    obtain ⟨a, xs, rfl, ha, ra⟩ := (show RpT Γ.K C B H x (.tuple ds) from .inl hx').tuple n.sh
    refine .inl (.inr ⟨a, xs, rfl, ha, fun z => ?_, fun _ => q.tup n (ra.cut lo hi) (Nat.le_trans (cutD_len _ _ _) (n.lenT ha ra))⟩)
    rw [ra.len] at z
    rw [cutD_all z] at q
    exact q.val n hx'
  · rename_i z
    split at q
    · rename_i h
      have hx' : RpT Γ.K C B H x (.str z) := by
        rcases hx with h | ⟨_, _, _, _, e, _⟩
        · exact h
        · cases e
      exact .inr ⟨_, hx'.str, h, q.val n (.str _)⟩
    · exact q.elim
  · exact q.elim
theorem d_sl {e : Expr} {lo hi : Option Expr} {ma : ME} {ml mh : MO} {p2 : Pos} (hK : X.K = Γ.K) (ha : PE X e (rd rrS Γ W ma)) (hl : PO X lo (rdO Γ W ml)) (hh : PO X hi (rdO Γ W mh)) : PE X (.Subscript e (.Slice lo hi none p2) pos) (rdE Γ W (vSl ma ml mh)) :=
  PE.imp (pe_slice (sl_any hK) ha hl hh) fun σ H Q ⟨C, B0, H0, ρ, S, B, r0, q⟩ => rd_bind r0 q fun d S1 v H1 B1 r1 n1 x1 p1 => rdO_bind r1 p1 fun lo S2 H2 B2 r2 n2 p2 => rdO_bind r2 p2 fun hi S3 H3 B3 r3 n3 p3 =>
    slP r3.nx.here ((x1.up n2).up n3) p3
/-! targets -/
abbrev TM := D → Env → Option Env
theorem getD_set (ρ : Env) (i j : Nat) (s : Slot) : (ρ.set i s).getD j .none = if i = j ∧ i < ρ.length then s else ρ.getD j .none := by
  simp only [List.getD_eq_getElem?_getD]
  by_cases h : i = j
  · subst h
    by_cases hl : i < ρ.length
    · rw [List.getElem?_set_self hl, if_pos ⟨rfl, hl⟩]; rfl
    · rw [List.getElem?_eq_none (by simpa using hl), if_neg (fun z => hl z.2), List.getElem?_eq_none (by omega)]
  · rw [List.getElem?_set_ne h, if_neg (fun z => h z.1)]
theorem SlotOk.val {K : PySem.W.Frag} {C : Option Addr} {H0 B H : Hp} {v : V} {d : D} (h : Rp K B v d) : SlotOk K C H0 B H (.val d) (some (some v)) := ⟨v, rfl, h⟩
theorem Rel.set {C : Option Addr} {B H B0 H0 : Hp} {S : SS} {ρ : Env} {σ : L2.St} {v : V} {d : D} (r : Rel Γ C B0 H0 ρ S σ B H) (i : Nat) (h : Rp Γ.K B v d) : Rel Γ C B0 H0 (ρ.set i (.val d)) S (σ.set i (some v)) B H := by
  refine ⟨r.nx, by rw [List.length_set, List.length_set]; exact r.len, fun j => ?_, fun j k a hjk hj hk e1 e2 => ?_⟩
  · rw [getD_set]
    split
    · rename_i z
      obtain ⟨rfl, hl⟩ := z
      rw [List.getElem?_set_self (by rw [← r.len]; exact hl)]
      exact .val h
    · rename_i z
      by_cases e : i = j
      · subst e
        have hl : ¬ i < ρ.length := fun hl => z ⟨rfl, hl⟩
        have e0 : ρ.getD i .none = .none := by rw [List.getD_eq_getElem?_getD, List.getElem?_eq_none (by omega)]; rfl
        rw [e0]
        trivial
      · rw [List.getElem?_set_ne e]
        exact r.slot j
  · rw [getD_set] at hj hk
    have nj : ¬ (i = j ∧ i < ρ.length) := fun z => by rw [if_pos z] at hj; cases hj
    have nk : ¬ (i = k ∧ i < ρ.length) := fun z => by rw [if_pos z] at hk; cases hk
    rw [if_neg nj] at hj
    rw [if_neg nk] at hk
    have out : ∀ {j : Nat}, ¬ (i = j ∧ i < ρ.length) → (ρ.getD j .none).isOwn = true → i ≠ j := fun {j} nj hj z => by
      subst z
      have hl : ¬ i < ρ.length := fun hl => nj ⟨rfl, hl⟩
      rw [List.getD_eq_getElem?_getD, List.getElem?_eq_none (by omega)] at hj
      cases hj
    rw [List.getElem?_set_ne (out nj hj)] at e1
    rw [List.getElem?_set_ne (out nk hk)] at e2
    exact r.dis j k a hjk hj hk e1 e2
def tN (i : Nat) : TM := fun d ρ => some (ρ.set i (.val d))
abbrev TMs := List D → Env → Option Env
def tsNil : TMs := fun ds ρ => match ds with
  | [] => some ρ
  | _ => none
def tsCons (t : TM) (u : TMs) : TMs := fun ds ρ => match ds with
  | d :: r => (t d ρ).bind (u r)
  | [] => none
def tT (n : Nat) (u : TMs) : TM := fun d ρ => match d with
  | .tuple ds => if ds.length = n then u ds ρ else none
  | _ => none
def rdP (Γ : Gm) (is : List Nat) (m : TM) : TG := fun v σ H Q => ∃ C B0 H0 ρ S B d ρ', Rel Γ C B0 H0 ρ S σ B H ∧ Rp Γ.K B v d ∧ m d ρ = some ρ' ∧ ∀ σ', Rel Γ C B0 H0 ρ' S σ' B H → σ'.length = σ.length → (∀ j, j ∉ is → σ'[j]? = σ[j]?) → Q σ' H
def rdPs (Γ : Gm) (is : List Nat) (m : TMs) : TGs := fun vs σ H Q => ∃ C B0 H0 ρ S B ds ρ', Rel Γ C B0 H0 ρ S σ B H ∧ RpAll Γ.K B vs ds ∧ m ds ρ = some ρ' ∧ ∀ σ', Rel Γ C B0 H0 ρ' S σ' B H → σ'.length = σ.length → (∀ j, j ∉ is → σ'[j]? = σ[j]?) → Q σ' H
theorem PG.imp {e : Expr} {t t' : TG} (h : PG X e t) (i : ∀ v σ H Q, t' v σ H Q → t v σ H Q) : PG X e t' := ⟨fun pins s σ H v u Q I r q => h.run pins s σ H v u Q I r (i v σ H Q q)⟩
theorem PGs.imp {es : List Expr} {t t' : TGs} (h : PGs X es t) (i : ∀ v σ H Q, t' v σ H Q → t v σ H Q) : PGs X es t' := ⟨fun pins s σ H v u Q I r q => h.run pins s σ H v u Q I r (i v σ H Q q)⟩
theorem d_tn {i : Nat} {x : Str} (hN : X.N.Nodup) (hi : X.N[i]? = some x) (hx : Loc X.env.scope x) (hf : X.fn x = true ∨ X.env.scope.names.lookup x = some .local) : PG X (.Name x pos) (rdP Γ [i] (tN i)) :=
  PG.imp (pg_name hN hi hx hf) fun v σ H Q ⟨C, B0, H0, ρ, S, B, d, ρ', r, h, e, q⟩ => by
    cases e
    exact q _ (r.set i h) (by rw [List.length_set]) fun j hj => List.getElem?_set_ne (fun z => hj (by simp [z]))
theorem d_tsnil : PGs X [] (rdPs Γ [] tsNil) := PGs.imp pgs_nil fun vs σ H Q ⟨C, B0, H0, ρ, S, B, ds, ρ', r, h, e, q⟩ => by
  cases h with
  | nil => cases e; exact ⟨rfl, q σ r rfl fun _ _ => rfl⟩
  | cons _ _ => cases e
theorem d_tscons {e : Expr} {es : List Expr} {is js : List Nat} {t : TM} {u : TMs} (h1 : PG X e (rdP Γ is t)) (h2 : PGs X es (rdPs Γ js u)) (hs : (assignEach (e :: es) X.env).map (·.2) = assign e X.env :: (assignEach es X.env).map (·.2)) : PGs X (e :: es) (rdPs Γ (is ++ js) (tsCons t u)) :=
  PGs.imp (pgs_cons h1 h2 hs) fun vs σ H Q ⟨C, B0, H0, ρ, S, B, ds, ρ', r, h, e, q⟩ => by
    cases h with
    | nil => cases e
    | @cons v vs d ds h hr =>
      unfold tsCons at e
      obtain ⟨ρ1, e1, e2⟩ := Option.bind_eq_some_iff.mp e
      refine ⟨v, vs, rfl, C, B0, H0, ρ, S, B, d, ρ1, r, h, e1, fun σ1 r1 l1 o1 => ⟨C, B0, H0, ρ1, S, B, ds, ρ', r1, hr, e2, fun σ2 r2 l2 o2 => q σ2 r2 (l2.trans l1) fun j hj => ?_⟩⟩
      rw [List.mem_append, not_or] at hj
      rw [o2 j hj.2, o1 j hj.1]
theorem d_tt {es : List Expr} {k n : Nat} {is : List Nat} {u : TMs} (hK : X.K = Γ.K) (hc : X.calm = true) (h : PGs X es (rdPs Γ is u)) (hn : (assignEach es X.env).length = n) (hst : (assignEach es X.env).findIdx? (·.1) = none) : PG X (.Tuple es k pos) (rdP Γ is (tT n u)) :=
  PG.imp (pg_tup hc h hn hst) fun v σ H Q ⟨C, B0, H0, ρ, S, B, d, ρ', r, hd, e, q⟩ => by
    unfold tT at e
    split at e
    · rename_i ds
      split at e
      · rename_i hl
        obtain ⟨a, xs, rfl, ha, ra⟩ := (show RpT Γ.K C B H v (.tuple ds) from .inl hd).tuple r.nx.sh
        exact ⟨a, xs, rfl, hK ▸ ha, by rw [ra.len]; exact hl, C, B0, H0, ρ, S, B, ds, ρ', r, ra, e, q⟩
      · cases e
    · cases e
end Pv
namespace Pv
open PySem PySem.Spec PyProof.Rows L2
variable {Γ : Gm} {X : Cx} {W : WX} {pos p : Pos}
/-! what is walked -/
abbrev PP := Gm → Option Addr → Hp → Hp → Hp → Hp → Prop
/-- values held for good; all that stood -/
abbrev pF : PP := fun _ _ B1 _ B H => Sub B1 B ∧ Sub B H
abbrev pT : PP := fun Γ C B1 H1 B H => ∃ S, Nxt Γ C B1 H1 S B H
structure WkD (Γ : Gm) (C : Option Addr) (P : Hp → Hp → Prop) (J : It) (ds : List D) : Prop where
  len : ds.length ≤ sizeLine
  ex : ∃ G Y, Walk J ds.length G Y ∧ (∀ B H, P B H → G H) ∧ ∀ (i : Nat) (B H : Hp) (S : SS) (x : V) (H' : Hp), i < ds.length → P B H → Nxt Γ C B H S B H → Y i H x H' → ∃ B' d, ds[i]? = some d ∧ Nxt Γ C B H S B' H' ∧ Rp Γ.K B' x d
abbrev MI := Env → M (List D)
def PostI (P : PP) (Γ : Gm) (C : Option Addr) (W : WX) (σ : L2.St) (B H : Hp) (R : It → Hp → Prop) : Res (List D) → Prop
  | .ok ds S' => ∀ H1 B1 J, Nxt Γ C B H S' B1 H1 → WkD Γ C (P Γ C B1 H1) J ds → R J H1
  | .exc k S' => ∀ H' B', Nxt Γ C B H S' B' H' → W (Γ.cls k) none σ H'
  | .bad => False
def rdI (P : PP) (Γ : Gm) (W : WX) (m : MI) : TI := fun σ H R => ∃ C B0 H0 ρ S B, Rel Γ C B0 H0 ρ S σ B H ∧ PostI P Γ C W σ B H R (m ρ S)
theorem PI.imp {tg e : Expr} {t t' : TI} (h : PI X tg e t) (i : ∀ σ H R, t' σ H R → t σ H R) : PI X tg e t' := ⟨fun pins s σ H R I q => h.run pins s σ H R I (i σ H R q)⟩
theorem PostI.up {P : PP} {C : Option Addr} {σ : L2.St} {B B1 H H1 : Hp} {S1 : SS} {R : It → Hp → Prop} {r : Res (List D)} (n : Nxt Γ C B H S1 B1 H1) (h : PostI P Γ C W σ B H R r) : PostI P Γ C W σ B1 H1 R r := by
  cases r with
  | ok d S' => exact fun H' B' J n' x => h H' B' J (n.trans n') x
  | exc k S' => exact fun H' B' n' => h H' B' (n.trans n')
  | bad => exact h
theorem rd_bindI {P : PP} {RQ : RR} {C : Option Addr} {σ : L2.St} {B H B0 H0 : Hp} {S : SS} {ρ : Env} {m : ME} {f : D → M (List D)} {R : It → Hp → Prop} {Q' : VK} (r : Rel Γ C B0 H0 ρ S σ B H) (h : PostI P Γ C W σ B H R ((m ρ >>= f) S))
    (k : ∀ d S1 v H1 B1, Rel Γ C B0 H0 ρ S1 σ B1 H1 → Nxt Γ C B H S1 B1 H1 → RQ Γ C B1 H1 v d → PostI P Γ C W σ B1 H1 R (f d S1) → Q' v H1) : rd RQ Γ W m σ H Q' := by
  refine ⟨C, B0, H0, ρ, S, B, r, ?_⟩
  rw [bind_at] at h
  cases e : m ρ S with
  | ok d S' => rw [e] at h; exact fun v H' B' n x => k d S' v H' B' (r.up n) n x (h.up n)
  | exc j S' => rw [e] at h; exact h
  | bad => rw [e] at h; exact h
/-- a list, a tuple, a text, by itself -/
def iAny (K : PySem.W.Frag) (tl : TE) : TI := fun σ H R => tl σ H fun x H1 => (∃ a xs, x = .ref a ∧ SqL K H1 a xs ∧ R (Itl K a) H1) ∨ (∃ a xs, x = .ref a ∧ SqT K H1 a xs ∧ R (Itt K a) H1) ∨ (∃ z, x = .str z ∧ R (Its z) H1)
theorem pi_any {tg l : Expr} {tl : TE} (hl : PE X l tl) : PI X tg l (iAny X.K tl) := by
  constructor
  intro pins s σ H R I h
  refine thn (hl.run pins s σ H _ I h) fun v s1 got => ?_
  obtain ⟨x, H1, I1, r1, q⟩ := got
  rcases q with ⟨a, xs, rfl, hq, q⟩ | ⟨a, xs, rfl, hq, q⟩ | ⟨z, rfl, q⟩
  · cases r1
    obtain ⟨its, _, pl, _⟩ := I1.list hq
    exact wpAny_pyIter_list pl.isList (pi_one (tk := s1.toks) I1 _ (turn_list a _) ⟨_, Heap.get?_push_size _ rfl, rfl, rfl⟩ q)
  · cases r1
    obtain ⟨its, _, pl, _⟩ := I1.tuple hq
    exact wpAny_pyIter_tuple (items := its.toArray) pl (pi_one (tk := s1.toks) I1 _ (turn_tuple a _) ⟨_, Heap.get?_push_size _ rfl, rfl, rfl⟩ q)
  · obtain ⟨t, rfl⟩ := r1
    cases ha : z.cps.all (· < 128) with
    | false => exact wpAny_pyIter_wide ha (pi_one (tk := s1.toks) I1 _ (turn_str _ z t _ (.inr rfl)) ⟨_, Heap.get?_push_size _ rfl, rfl, rfl⟩ q)
    | true => exact wpAny_pyIter_ascii ha (pi_one (tk := s1.toks) I1 _ (turn_str _ z t _ (.inl rfl)) ⟨_, Heap.get?_push_size _ rfl, rfl, rfl⟩ q)
def itemsD : D → M (List D)
  | .list xs => pure xs
  | .tuple xs => pure xs
  | .str z => if z.length ≤ sizeLine then pure (z.cps.toList.map fun c => .str ⟨#[c]⟩) else bad
  | _ => bad
def iSeq (ma : ME) : MI := fun ρ => ma ρ >>= itemsD
theorem wkL {C : Option Addr} {P : Hp → Hp → Prop} {a : Addr} {xs : List V} {ds : List D} {B1 : Hp} (hz : ds.length ≤ sizeLine) (r : RpAll Γ.K B1 xs ds) (hP : ∀ B H, P B H → SqL Γ.K H a xs ∧ Sub B1 B) : WkD Γ C P (Itl Γ.K a) ds := by
  refine ⟨hz, _, _, r.len ▸ walk_list (xs := xs), fun B H h => (hP B H h).1, fun i B H S x H' hi h n y => ?_⟩
  obtain ⟨rfl, y⟩ := y
  obtain ⟨v, e1, rv⟩ := r.at (d := ds[i]) (i := i) (by simp [hi])
  rw [y] at e1
  cases e1
  exact ⟨B, ds[i], by simp [hi], n, rv.up (hP B _ h).2⟩
theorem wkT {C : Option Addr} {P : Hp → Hp → Prop} {a : Addr} {xs : List V} {ds : List D} {B1 : Hp} (hz : ds.length ≤ sizeLine) (r : RpAll Γ.K B1 xs ds) (hP : ∀ B H, P B H → SqT Γ.K H a xs ∧ Sub B1 B) : WkD Γ C P (Itt Γ.K a) ds := by
  refine ⟨hz, _, _, r.len ▸ walk_tup (xs := xs), fun B H h => (hP B H h).1, fun i B H S x H' hi h n y => ?_⟩
  obtain ⟨rfl, y⟩ := y
  obtain ⟨v, e1, rv⟩ := r.at (d := ds[i]) (i := i) (by simp [hi])
  rw [y] at e1
  cases e1
  exact ⟨B, ds[i], by simp [hi], n, rv.up (hP B _ h).2⟩
theorem wkS {C : Option Addr} {P : Hp → Hp → Prop} {z : Str} (hz : z.length ≤ sizeLine) : WkD Γ C P (Its z) (z.cps.toList.map fun c => .str ⟨#[c]⟩) := by
  have e0 : (z.cps.toList.map fun c => PyData.str ⟨#[c]⟩).length = z.cps.size := by simp
  refine ⟨by rw [e0]; exact hz, _, _, e0 ▸ walk_str, fun _ _ _ => trivial, fun i B H S x H' hi h n y => ?_⟩
  obtain ⟨rfl, c, hc, rfl⟩ := y
  refine ⟨B, .str ⟨#[c]⟩, ?_, n, .str _⟩
  rw [List.getElem?_map, Array.getElem?_toList, hc]
  rfl
/-- for over a value held for good -/
theorem d_iseq {tg e : Expr} {ma : ME} (hK : X.K = Γ.K) (ha : PE X e (rdE Γ W ma)) : PI X tg e (rdI pF Γ W (iSeq ma)) :=
  PI.imp (pi_any ha) fun σ H R ⟨C, B0, H0, ρ, S, B, r, q⟩ => by
    rw [hK]
    refine rd_bindI r q fun d S1 v H1 B1 r1 n1 x1 p1 => ?_
    unfold itemsD at p1
    split at p1
    · cases x1 with
      | lst h ra => exact .inl ⟨_, _, rfl, .inl (.inl (r1.nx.sh _ _ h)), p1 H1 B1 _ r1.nx.here (wkL (r1.nx.here.lenL (r1.nx.sh _ _ h) ra) ra fun B H hp => ⟨.inl (.inl (hp.2 _ _ (hp.1 _ _ h))), hp.1⟩)⟩
    · cases x1 with
      | tup h ra => exact .inr (.inl ⟨_, _, rfl, r1.nx.sh.sqT h, p1 H1 B1 _ r1.nx.here (wkT (r1.nx.here.lenT (r1.nx.sh.sqT h) ra) ra fun B H hp => ⟨hp.2.sqT (hp.1.sqT h), hp.1⟩)⟩)
    · split at p1
      · rename_i hz
        cases x1
        exact .inr (.inr ⟨_, rfl, p1 H1 B1 _ r1.nx.here (wkS hz)⟩)
      · exact p1.elim
    · exact p1.elim
/-- in a comprehension: also one's own list, and the script -/
theorem d_iseqT {tg e : Expr} {ma : ME} (hK : X.K = Γ.K) (ha : PE X e (rd rrS Γ W ma)) : PI X tg e (rdI pT Γ W (iSeq ma)) :=
  PI.imp (pi_any ha) fun σ H R ⟨C, B0, H0, ρ, S, B, r, q⟩ => by
    rw [hK]
    refine rd_bindI r q fun d S1 v H1 B1 r1 n1 x1 p1 => ?_
    unfold itemsD at p1
    split at p1
    · rcases x1 with (x1 | ⟨a, xs, _, rfl, e, h, nb, nc, ra⟩ | ⟨_, _, _, _, e, _⟩) | ⟨a, xs, _, rfl, e, h, ra⟩
      · cases x1 with
        | lst h ra => exact .inl ⟨_, _, rfl, .inl (.inl (r1.nx.sh _ _ h)), p1 H1 B1 _ r1.nx.here (wkL (r1.nx.here.lenL (r1.nx.sh _ _ h) ra) ra fun B H ⟨S, hp⟩ => ⟨.inl (.inl (hp.sh _ _ (hp.sb _ _ h))), hp.sb⟩)⟩
      · cases e
        exact .inl ⟨_, _, rfl, .inl (.inl h), p1 H1 B1 _ r1.nx.here (wkL (r1.nx.here.lenL h ra) ra fun B H ⟨S, hp⟩ => ⟨.inl (.inl (hp.ex.keep _ _ h nc (by simp))), hp.sb⟩)⟩
      · cases e
      · cases e
        have hz : xs.length ≤ sizeLine := by
          rcases h with (h | ⟨o, h⟩) | ⟨o, its, m, _, _, _, _, hz, rv⟩
          · exact r1.nx.ln a _ (r1.nx.sh _ _ h)
          · exact r1.nx.ln a _ (r1.nx.sh _ _ h)
          · have e := rv.length
            simp only [Array.length_toList] at e
            omega
        exact .inl ⟨_, _, rfl, r1.nx.sh.sqL h, p1 H1 B1 _ r1.nx.here (wkL (by rw [← ra.len]; exact hz) ra fun B H ⟨S, hp⟩ => ⟨hp.sh.sqL (hp.sb.sqL h), hp.sb⟩)⟩
    · rcases x1 with (x1 | ⟨_, _, _, _, e, _⟩ | ⟨_, _, _, _, e, _⟩) | ⟨_, _, _, _, e, _⟩
      · cases x1 with
        | tup h ra => exact .inr (.inl ⟨_, _, rfl, r1.nx.sh.sqT h, p1 H1 B1 _ r1.nx.here (wkT (r1.nx.here.lenT (r1.nx.sh.sqT h) ra) ra fun B H ⟨S, hp⟩ => ⟨hp.sh.sqT (hp.sb.sqT h), hp.sb⟩)⟩)
      · cases e
      · cases e
      · cases e
    · split at p1
      · rename_i z hz
        rcases x1 with (x1 | ⟨_, _, _, _, e, _⟩ | ⟨_, _, _, _, e, _⟩) | ⟨_, _, _, _, e, _⟩
        · cases x1
          exact .inr (.inr ⟨_, rfl, p1 H1 B1 _ r1.nx.here (wkS hz)⟩)
        · cases e
        · cases e
        · cases e
      · exact p1.elim
    · exact p1.elim
/-! ranges -/
def rngL (lo hi : Int) : List D := (List.range (hi - lo).toNat).map fun i => PyData.int (lo + (i : Nat))
def rngM (lo hi : Int) : M (List D) := if (-(2 ^ 62) ≤ lo ∧ lo < 2 ^ 62 ∧ -(2 ^ 62) ≤ hi ∧ hi < 2 ^ 62) ∧ (hi - lo).toNat ≤ sizeLine then pure (rngL lo hi) else bad
theorem rngL_len (lo hi : Int) : (rngL lo hi).length = (hi - lo).toNat := by simp [rngL]
theorem rngL_at {lo hi : Int} {i : Nat} (h : i < (hi - lo).toNat) : (rngL lo hi)[i]? = some (.int (lo + (i : Nat))) := by simp [rngL, h]
theorem wkR {C : Option Addr} {P : Hp → Hp → Prop} {lo hi : Int} (hz : (hi - lo).toNat ≤ sizeLine) : WkD Γ C P (Itr lo (hi - lo).toNat) (rngL lo hi) := by
  refine ⟨by rw [rngL_len]; exact hz, _, _, (show Walk _ _ _ _ from by rw [rngL_len]; exact walk_range), fun _ _ _ => trivial, fun i B H S x H' hi' h n y => ?_⟩
  obtain ⟨rfl, rfl⟩ := y
  rw [rngL_len] at hi'
  exact ⟨B, _, rngL_at hi', n, .int _⟩
def iR1 (ma : ME) : MI := fun ρ => ma ρ >>= fun d => asI d >>= fun j => rngM 0 j
def iR2 (ma mb : ME) : MI := fun ρ => ma ρ >>= fun d => mb ρ >>= fun e => asI d >>= fun i => asI e >>= fun j => rngM i j
theorem d_ir1 {P : PP} {tg a : Expr} {ma : ME} {q : Pos} (hg : Gl X "range") (hm : X.mg "range" = none) (ha : PE X a (rdE Γ W ma)) (hf : plainE a = true) : PI X tg (.Call (.Name "range" p) [a] [] q) (rdI P Γ W (iR1 ma)) :=
  PI.imp (pi_range1 hg hm (pa_cons ha pa_nil (star_plain hf [] X.env)) (star_plain hf [] X.env)) fun σ H R ⟨C, B0, H0, ρ, S, B, r, q⟩ =>
    rd_bindI r q fun d S1 v H1 B1 r1 n1 x1 p1 => by
      cases d with
      | int j =>
        cases x1
        have p1 : PostI P Γ C W σ B1 H1 R (rngM 0 j S1) := p1
        unfold rngM at p1
        split at p1
        · rename_i h
          refine ⟨j, rfl, h.1.2.2.1, h.1.2.2.2, ?_⟩
          have w := wkR (Γ := Γ) (C := C) (P := P Γ C B1 H1) h.2
          rw [Int.sub_zero] at w
          exact p1 H1 B1 _ r1.nx.here w
        · exact p1.elim
      | _ => exact p1.elim
theorem d_ir2 {P : PP} {tg a b : Expr} {ma mb : ME} {q : Pos} (hg : Gl X "range") (hm : X.mg "range" = none) (ha : PE X a (rdE Γ W ma)) (hb : PE X b (rdE Γ W mb)) (hf : plainE a = true) (hf2 : plainE b = true) : PI X tg (.Call (.Name "range" p) [a, b] [] q) (rdI P Γ W (iR2 ma mb)) :=
  PI.imp (pi_range2 hg hm (pa_cons ha (pa_cons hb pa_nil (star_plain hf2 [] X.env)) (star_plain hf [b] X.env)) (by rw [star_plain hf, star_plain hf2]; rfl) (star_plain hf2 [] X.env)) fun σ H R ⟨C, B0, H0, ρ, S, B, r, q⟩ =>
    rd_bindI r q fun d S1 v H1 B1 r1 n1 x1 p1 => rd_bindI r1 p1 fun e S2 u H2 B2 r2 n2 x2 p2 => by
      cases d with
      | int i =>
        cases e with
        | int j =>
          cases x1
          cases x2
          have p2 : PostI P Γ C W σ B2 H2 R (rngM i j S2) := p2
          unfold rngM at p2
          split at p2
          · rename_i h
            exact ⟨i, j, rfl, h.1, p2 H2 B2 _ r2.nx.here (wkR h.2)⟩
          · exact p2.elim
        | _ => exact p2.elim
      | _ => exact p2.elim
/-! zip of two lists or of two tuples -/
def zipL (xs ys : List D) : List D := List.zipWith (fun x y => PyData.tuple [x, y]) xs ys
def zipD : D → D → M (List D)
  | .list xs, .list ys => pure (zipL xs ys)
  | .tuple xs, .tuple ys => pure (zipL xs ys)
  | _, _ => bad
def iZip (ma mb : ME) : MI := fun ρ => ma ρ >>= fun d => mb ρ >>= fun e => zipD d e
theorem zip_at {xs ys : List D} {i : Nat} {x y : D} (h1 : xs[i]? = some x) (h2 : ys[i]? = some y) : (zipL xs ys)[i]? = some (.tuple [x, y]) := by
  simp [zipL, List.getElem?_zipWith, h1, h2]
theorem pair_new {C : Option Addr} {B H H' : Hp} {S : SS} {v x y : V} {T : Addr} {d e : D} (n : Nxt Γ C B H S B H) (hx : Rp Γ.K B x d) (hy : Rp Γ.K B y e) (nT : H T = none) (eH : H' = upd H T (.tup [x, y])) (ev : v = .ref T) : ∃ B', Nxt Γ C B H S B' H' ∧ Rp Γ.K B' v (.tuple [d, e]) := by
  subst eH; subst ev
  have n' := n.new nT (.tup [x, y]) (by show 2 ≤ sizeLine; decide)
  exact ⟨_, n', .tup (.inl (.inl upd_same)) (.cons (hx.up n'.sb) (.cons (hy.up n'.sb) .nil))⟩
theorem wkZ {C : Option Addr} {P : Hp → Hp → Prop} {a b : Addr} {xs ys : List V} {ds es : List D} {B1 : Hp} (hz : ds.length ≤ sizeLine) (r : RpAll Γ.K B1 xs ds) (r' : RpAll Γ.K B1 ys es) (hP : ∀ B H, P B H → SqL Γ.K H a xs ∧ SqL Γ.K H b ys ∧ Sub B1 B) : WkD Γ C P (Itz Γ.K a b) (zipL ds es) := by
  have e0 : (zipL ds es).length = min xs.length ys.length := by simp [zipL, r.len, r'.len]
  refine ⟨by rw [e0, r.len]; omega, _, _, walk_zip e0, fun B H h => ⟨(hP B H h).1, (hP B H h).2.1⟩, fun i B H S x H' hi h n y => ?_⟩
  obtain ⟨T, u, v, ev, nT, eH, hu, hv⟩ := y
  rw [e0, r.len, r'.len] at hi
  have hu : xs[i]? = some u := hu
  have hv : ys[i]? = some v := hv
  have l1 : i < ds.length := by omega
  have l2 : i < es.length := by omega
  obtain ⟨u', e1, ru⟩ := r.at (d := ds[i]) (i := i) (by simp [l1])
  obtain ⟨v', e2, rv⟩ := r'.at (d := es[i]) (i := i) (by simp [l2])
  rw [hu] at e1
  rw [hv] at e2
  cases e1
  cases e2
  obtain ⟨B', n', rp⟩ := pair_new n (ru.up (hP B H h).2.2) (rv.up (hP B H h).2.2) nT eH ev
  exact ⟨B', _, zip_at (x := ds[i]) (y := es[i]) (by simp [l1]) (by simp [l2]), n', rp⟩
theorem walk_zipT {K : PySem.W.Frag} {a b : Addr} {xs ys : List V} {n : Nat} (hn : n = min xs.length ys.length) : Walk (RZ.ItzT K a b) n (fun H => SqT K H a xs ∧ SqT K H b ys) (YPair (fun i => xs[i]?) (fun i => ys[i]?)) := by
  subst hn
  constructor
  · intro i H hi q
    have l1 : i < xs.length := by omega
    have l2 : i < ys.length := by omega
    exact ⟨xs, ys, xs[i], ys[i], q.1, q.2, by simp [l1], by simp [l2]⟩
  · intro H q
    exact ⟨xs, ys, q.1, q.2, by omega⟩
  · intro i H v H' _ q ⟨T, x, z, h1, h2, h3, h4, h5⟩
    exact ⟨T, x, z, h1, h2, h3, h4 xs q.1, h5 ys q.2⟩
theorem wkZT {C : Option Addr} {P : Hp → Hp → Prop} {a b : Addr} {xs ys : List V} {ds es : List D} {B1 : Hp} (hz : ds.length ≤ sizeLine) (r : RpAll Γ.K B1 xs ds) (r' : RpAll Γ.K B1 ys es) (hP : ∀ B H, P B H → SqT Γ.K H a xs ∧ SqT Γ.K H b ys ∧ Sub B1 B) : WkD Γ C P (RZ.ItzT Γ.K a b) (zipL ds es) := by
  have e0 : (zipL ds es).length = min xs.length ys.length := by simp [zipL, r.len, r'.len]
  refine ⟨by rw [e0, r.len]; omega, _, _, walk_zipT e0, fun B H h => ⟨(hP B H h).1, (hP B H h).2.1⟩, fun i B H S x H' hi h n y => ?_⟩
  obtain ⟨T, u, v, ev, nT, eH, hu, hv⟩ := y
  rw [e0, r.len, r'.len] at hi
  have hu : xs[i]? = some u := hu
  have hv : ys[i]? = some v := hv
  have l1 : i < ds.length := by omega
  have l2 : i < es.length := by omega
  obtain ⟨u', e1, ru⟩ := r.at (d := ds[i]) (i := i) (by simp [l1])
  obtain ⟨v', e2, rv⟩ := r'.at (d := es[i]) (i := i) (by simp [l2])
  rw [hu] at e1
  rw [hv] at e2
  cases e1
  cases e2
  obtain ⟨B', n', rp⟩ := pair_new n (ru.up (hP B H h).2.2) (rv.up (hP B H h).2.2) nT eH ev
  exact ⟨B', _, zip_at (x := ds[i]) (y := es[i]) (by simp [l1]) (by simp [l2]), n', rp⟩
theorem d_izip {P : PP} (hPP : ∀ {C : Option Addr} {B1 H1 B H : Hp}, P Γ C B1 H1 B H → Sub B1 B ∧ Sub B H) {elts : List Expr} {k : Nat} {tp q : Pos} {a b : Expr} {ma mb : ME} (hK : X.K = Γ.K) (hg : Gl X "zip") (hm : X.mg "zip" = none) (ha : PE X a (rdE Γ W ma)) (hb : PE X b (rdE Γ W mb)) (hf : plainE a = true) (hf2 : plainE b = true) :
    PI X (.Tuple elts k tp) (.Call (.Name "zip" p) [a, b] [] q) (rdI P Γ W (iZip ma mb)) :=
  PI.imp (RZ.pi_zipA hg hm (pa_cons ha (pa_cons hb pa_nil (star_plain hf2 [] X.env)) (star_plain hf [b] X.env)) (star_plain hf [b] X.env) (stars_plain (es := [b]) (by simp [plains, hf2]) q X.env)) fun σ H R ⟨C, B0, H0, ρ, S, B, r, q⟩ => by
    rw [hK]
    refine rd_bindI r q fun d S1 v H1 B1 r1 n1 x1 p1 => rd_bindI r1 p1 fun e S2 u H2 B2 r2 n2 x2 p2 => ?_
    have x1 := x1.up n2.sb
    have n := r2.nx.here
    unfold zipD at p2
    split at p2
    · cases x1 with
      | lst h ra =>
        cases x2 with
        | lst h' ra' =>
          exact ⟨_, _, _, _, rfl, .inl ⟨.inl (.inl (n.sh _ _ h)), .inl (.inl (n.sh _ _ h')), p2 H2 B2 _ n (wkZ (n.lenL (n.sh _ _ h) ra) ra ra' fun B H hp => ⟨.inl (.inl ((hPP hp).2 _ _ ((hPP hp).1 _ _ h))), .inl (.inl ((hPP hp).2 _ _ ((hPP hp).1 _ _ h'))), (hPP hp).1⟩)⟩⟩
    · cases x1 with
      | tup h ra =>
        cases x2 with
        | tup h' ra' =>
          exact ⟨_, _, _, _, rfl, .inr ⟨n.sh.sqT h, n.sh.sqT h', p2 H2 B2 _ n (wkZT (n.lenT (n.sh.sqT h) ra) ra ra' fun B H hp => ⟨(hPP hp).2.sqT ((hPP hp).1.sqT h), (hPP hp).2.sqT ((hPP hp).1.sqT h'), (hPP hp).1⟩)⟩⟩
    · exact p2.elim
theorem pF_ok {C : Option Addr} {B1 H1 B H : Hp} (h : pF Γ C B1 H1 B H) : Sub B1 B ∧ Sub B H := h
theorem pT_ok {C : Option Addr} {B1 H1 B H : Hp} (h : pT Γ C B1 H1 B H) : Sub B1 B ∧ Sub B H := let ⟨_, n⟩ := h; ⟨n.sb, n.sh⟩
end Pv
namespace Pv
open PySem PySem.Spec PyProof.Rows L2
variable {Γ : Gm} {X : Cx} {W : WX} {pos p : Pos}
section
variable {C : Option Addr} {B B1 H H1 : Hp} {S : SS} {D0 : Addr} {o : HO}
/-- no code object, no table of such -/
def Plain : HO → Prop
  | .lst _ => True
  | .dK _ => True
  | _ => False
theorem Nxt.cell_ne (n : Nxt Γ C B H S B H) (h : H D0 = none) : C ≠ some D0 := fun z => by
  have ce := n.ce
  subst z
  unfold CellOk at ce
  split at ce
  · rename_i e; cases e
  · rename_i e
    cases e
    obtain ⟨_, xs, e1, _⟩ := ce
    rw [h] at e1
    cases e1
  · exact ce
/-- one's own object is laid or changed -/
theorem Nxt.put (n : Nxt Γ C B1 H1 S B H) (h0 : H1 D0 = none) (hB : B D0 = none) (hC : C ≠ some D0) (ht : ∀ u, H D0 = some u → Plain u) (lo : LenOk o) : Nxt Γ C B1 H1 S B (upd H D0 o) := by
  have keepB : ∀ a u, B a = some u → a ≠ D0 := fun a u e z => by subst z; rw [hB] at e; cases e
  refine ⟨n.sb, fun a u e => by rw [upd_ne (keepB a u e)]; exact n.sh a u e, ⟨fun a u e c t => ?_, fun a h => ?_⟩, n.nw, ?_, fun q hq => ?_, fun a u e => ?_, fun a ps e => ?_⟩
  · rw [upd_ne (fun z => by subst z; rw [h0] at e; cases e)]
    exact n.ex.keep a u e c t
  · by_cases e : a = D0
    · subst e; rw [upd_same]; simp
    · rw [upd_ne e]; exact n.ex.there a h
  · have ce := n.ce
    unfold CellOk at ce ⊢
    split
    · trivial
    · rename_i c ds
      obtain ⟨h1, xs, h2, h3⟩ := ce
      exact ⟨h1, xs, by rw [upd_ne (fun z => hC (by rw [z]))]; exact h2, h3⟩
    · rename_i h1 h2
      split at ce
      · exact h1 rfl rfl
      · exact h2 _ _ rfl rfl
      · exact ce
  · obtain ⟨ps, e1, e2, e3⟩ := n.tb q hq
    refine ⟨ps, ?_, e2, fun ps' cv hcv => ?_⟩
    · rw [upd_ne (fun z => by rw [z] at e1; exact ht _ e1)]
      exact e1
    · obtain ⟨c, h1, h2⟩ := e3 ps' cv hcv
      refine ⟨c, h1, ?_⟩
      rw [upd_ne (fun z => by rw [z] at h2; exact ht _ h2)]
      exact h2
  · by_cases hb : a = D0
    · subst hb; rw [upd_same] at e; cases e; exact lo
    · rw [upd_ne hb] at e; exact n.ln a u e
  · by_cases hb : a = D0
    · subst hb; exact hB
    · rw [upd_ne hb] at e; exact n.tc a ps e
/-- one's own object is held for good -/
theorem Nxt.freeze (n : Nxt Γ C B1 H1 S B H) (h0 : H1 D0 = none) (hB : B D0 = none) (hC : C ≠ some D0) (hD : H D0 = some o) (nt : ∀ ps, o ≠ .tbl ps := by intro _ z; cases z) : Nxt Γ C B1 H1 S (upd B D0 o) H := by
  have s : Sub B (upd B D0 o) := sub_upd hB
  refine ⟨fun a u e => s a u (n.sb a u e), fun a u e => ?_, n.ex, fun a h1 h2 => ?_, ?_, n.tb, n.ln, fun a ps e => ?_⟩
  · by_cases hb : a = D0
    · subst hb; rw [upd_same] at e; rw [← e]; exact hD
    · rw [upd_ne hb] at e; exact n.sh a u e
  · rw [upd_ne (fun z => h2 (by rw [z]; exact h0))]
    exact n.nw a h1 h2
  · have ce := n.ce
    unfold CellOk at ce ⊢
    split
    · trivial
    · rename_i c ds
      obtain ⟨h1, xs, h2, h3⟩ := ce
      exact ⟨by rw [upd_ne (fun z => hC (by rw [z]))]; exact h1, xs, h2, h3.up s⟩
    · rename_i h1 h2
      split at ce
      · exact h1 rfl rfl
      · exact h2 _ _ rfl rfl
      · exact ce
  · by_cases hb : a = D0
    · subst hb
      rw [hD] at e
      cases e
      exact (nt ps rfl).elim
    · rw [upd_ne hb]
      exact n.tc a ps e
end
/-! the slots of a comprehension's own names -/
def wipeE (ρ : Env) : List Nat → Env
  | [] => ρ
  | v :: vs => (wipeE ρ vs).set v .none
theorem wipeE_get {ρ : Env} (j : Nat) : ∀ {vs : List Nat}, (wipeE ρ vs).getD j .none = if j ∈ vs then .none else ρ.getD j .none
  | [] => by simp [wipeE]
  | v :: vs => by
    unfold wipeE
    rw [getD_set, wipeE_get]
    by_cases h : v = j
    · subst h
      by_cases hl : v < (wipeE ρ vs).length
      · simp [hl]
      · rw [if_neg (fun z => hl z.2)]
        have hl2 : ∀ vs : List Nat, (wipeE ρ vs).length = ρ.length := fun vs => by
          induction vs with
          | nil => rfl
          | cons a r ih => unfold wipeE; rw [List.length_set, ih]
        rw [hl2] at hl
        have e : ρ.getD v .none = .none := by rw [List.getD_eq_getElem?_getD, List.getElem?_eq_none (by omega)]; rfl
        by_cases hm : v ∈ vs
        · simp [hm]
        · simp only [hm, List.mem_cons, true_or, if_true, if_false]
          exact e
    · have h' : ¬ j = v := fun z => h z.symm
      simp [h, h']
theorem wipeE_len {ρ : Env} : ∀ {vs : List Nat}, (wipeE ρ vs).length = ρ.length
  | [] => rfl
  | v :: vs => by unfold wipeE; rw [List.length_set, wipeE_len]
theorem wipe_get {σ : L2.St} (j : Nat) : ∀ {vs : List Nat}, j ∉ vs → (wipe σ vs)[j]? = σ[j]?
  | [], _ => rfl
  | v :: vs, h => by
    simp only [List.mem_cons, not_or] at h
    unfold wipe
    rw [List.getElem?_set_ne (fun z => h.1 z.symm), wipe_get j h.2]
theorem wipe_in {σ : L2.St} (j : Nat) : ∀ {vs : List Nat}, j ∈ vs → j < σ.length → (wipe σ vs)[j]? = some none
  | v :: vs, h, hl => by
    unfold wipe
    by_cases e : v = j
    · subst e
      rw [List.getElem?_set_self (by rw [wipe_length]; exact hl)]
    · rw [List.getElem?_set_ne e]
      exact wipe_in j ((List.mem_cons.mp h).elim (fun z => absurd z.symm e) id) hl
theorem wipe_eq {σ σ' : L2.St} {vs : List Nat} (hl : σ'.length = σ.length) (h : ∀ j, j ∉ vs → σ'[j]? = σ[j]?) : wipe σ' vs = wipe σ vs := by
  apply List.ext_getElem?
  intro j
  by_cases hj : j ∈ vs
  · by_cases hs : j < σ.length
    · rw [wipe_in j hj hs, wipe_in j hj (by omega)]
    · rw [List.getElem?_eq_none (by rw [wipe_length]; omega), List.getElem?_eq_none (by rw [wipe_length]; omega)]
  · rw [wipe_get j hj, wipe_get j hj]
    exact h j hj
theorem Rel.wipe {C : Option Addr} {B H B0 H0 : Hp} {S : SS} {ρ : Env} {σ : L2.St} (r : Rel Γ C B0 H0 ρ S σ B H) (vs : List Nat) : Rel Γ C B0 H0 (wipeE ρ vs) S (L2.wipe σ vs) B H := by
  refine ⟨r.nx, by rw [wipeE_len, wipe_length]; exact r.len, fun i => ?_, fun i j a hij hi hj e1 e2 => ?_⟩
  · rw [wipeE_get]
    by_cases h : i ∈ vs
    · rw [if_pos h]; trivial
    · rw [if_neg h, wipe_get i h]
      exact r.slot i
  · rw [wipeE_get] at hi hj
    have n1 : i ∉ vs := fun h => by rw [if_pos h] at hi; cases hi
    have n2 : j ∉ vs := fun h => by rw [if_pos h] at hj; cases hj
    rw [if_neg n1] at hi
    rw [if_neg n2] at hj
    rw [wipe_get i n1] at e1
    rw [wipe_get j n2] at e2
    exact r.dis i j a hij hi hj e1 e2
theorem wipe_wipe {σ : L2.St} {vs : List Nat} : L2.wipe (L2.wipe σ vs) vs = L2.wipe σ vs := wipe_eq (wipe_length _ _) fun j hj => wipe_get j hj
/-! list comprehensions -/
def collect (f : D → M (Option D)) : List D → M (List D)
  | [] => pure []
  | d :: r => f d >>= fun o => collect f r >>= fun ys => pure (match o with
    | some y => y :: ys
    | none => ys)
def turnM (tm : TM) (mt me : ME) (ρ : Env) (d : D) : M (Option D) := match tm d ρ with
  | some ρ' => nox (mt ρ' >>= fun b => asB b >>= fun b => if b = true then me ρ' >>= fun y => pure (some y) else pure none)
  | none => bad
def vLc (own : List Nat) (mi : MI) (tm : TM) (mt me : ME) : ME := fun ρ => mi ρ >>= fun ds => collect (turnM tm mt me (wipeE ρ own)) ds >>= fun xs => pure (.list xs)
abbrev W0 : WX := fun _ _ _ _ => False
theorem nox_bind {α β : Type} {m : M α} {g : α → M β} {S : SS} : (nox m >>= g) S = (match m S with
    | .ok a S' => g a S'
    | _ => .bad) := by
  rw [bind_at]
  unfold nox
  cases m S <;> rfl
theorem PostV.noxb {R : RR} {C : Option Addr} {σ : L2.St} {B H : Hp} {Q : VK} {α : Type} {m : M α} {f : α → M D} {S : SS} (h : PostV R Γ C W σ B H Q ((nox m >>= f) S)) : ∃ a S', m S = .ok a S' ∧ PostV R Γ C W σ B H Q (f a S') := by
  rw [nox_bind] at h
  cases e : m S with
  | ok a S' => rw [e] at h; exact ⟨a, S', rfl, h⟩
  | exc k S' => rw [e] at h; exact h.elim
  | bad => rw [e] at h; exact h.elim
theorem ok_bind {α β : Type} {m : M α} {f : α → M β} {S S' : SS} {b : β} (h : (m >>= f) S = .ok b S') : ∃ a S1, m S = .ok a S1 ∧ f a S1 = .ok b S' := by
  rw [bind_at] at h
  cases e : m S with
  | ok a S1 => rw [e] at h; exact ⟨a, S1, rfl, h⟩
  | exc k S1 => rw [e] at h; cases h
  | bad => rw [e] at h; cases h
theorem asB_ok {d : D} {S S' : SS} {b : Bool} (h : asB d S = .ok b S') : d = .bool b ∧ S' = S := by
  cases d with
  | bool c => cases h; exact ⟨rfl, rfl⟩
  | _ => cases h
/-- the turns of a comprehension -/
theorem lc_turns {P : PP} {own : List Nat} {is : List Nat} {tm : TM} {mt me : ME} (hPP : ∀ {C : Option Addr} {B1 H1 : Hp} {S : SS} {B H : Hp}, Nxt Γ C B1 H1 S B H → P Γ C B1 H1 B H) (hi : ∀ i ∈ is, i ∈ own)
    {C : Option Addr} {B0 H0 B1 H1 : Hp} {ρ : Env} {S1 : SS} {σ : L2.St} {Q : VK} {J : It} {ds : List D} {D0 : Addr} (r1 : Rel Γ C B0 H0 ρ S1 σ B1 H1) (wk : WkD Γ C (P Γ C B1 H1) J ds) (nD : H1 D0 = none)
    (q : PostV rrE Γ C W σ B1 H1 Q ((collect (turnM tm mt me (wipeE ρ own)) ds >>= fun xs => pure (.list xs)) S1)) :
    ∃ Wv : Nat → Nat → Hp → Prop, (∃ m, Wv 0 m (upd H1 D0 (.lst []))) ∧ ∀ i m H, Wv i m H →
      (J.stop i H ∧ Q (.ref D0) H) ∨ (J.go i H ∧ ∃ Nx : Hp → Prop, (∀ H', Nx H' → ∃ m', m' < m ∧ Wv (i + 1) m' H') ∧ ∀ x H', J.yld i H x H' → rdP Γ is tm x (L2.wipe σ own) H' fun σ2 H2 => L2.wipe σ2 own = L2.wipe σ own ∧ rdB Γ W0 mt σ2 H2 fun b H3 =>
        if b = true then rdE Γ W0 me σ2 H3 fun y H4 => ∃ acc, H4 D0 = some (.lst acc) ∧ acc.length < sizeLine ∧ Nx (upd H4 D0 (.lst (acc ++ [y]))) else Nx H3) := by
  obtain ⟨hz, G, Y, wl, hG, hY⟩ := wk
  have nC := r1.nx.here.cell_ne nD
  have nB : B1 D0 = none := by
    cases e : B1 D0 with
    | none => rfl
    | some u => rw [r1.nx.sh _ _ e] at nD; cases nD
  refine lc_it wl (fun i H => ∃ B' S' vs xs, Nxt Γ C B1 H1 S' B' H ∧ H D0 = some (.lst vs) ∧ B' D0 = none ∧ RpAll Γ.K B' vs xs ∧ xs.length ≤ i ∧
    PostV rrE Γ C W σ B1 H1 Q ((collect (turnM tm mt me (wipeE ρ own)) (ds.drop i) >>= fun ys => pure (.list (xs ++ ys))) S')) ?_ ?_ ?_ ?_
  · refine ⟨B1, S1, [], [], r1.nx.here.put nD nB nC (fun u e => by rw [nD] at e; cases e) (Nat.zero_le _), upd_same, nB, .nil, Nat.zero_le _, ?_⟩
    simpa using q
  · rintro i H _ ⟨B', S', vs, xs, n, _⟩
    exact hG B' H (hPP n)
  · rintro i x H H' hlt ⟨B', S', vs, xs, n, hD, hB, hv, hl, q⟩ y
    obtain ⟨B2, d, hd, n2, rx⟩ := hY i B' H S' x H' hlt (hPP n) n.here y
    have n' := n.trans n2
    have hD2 : H' D0 = some (.lst vs) := n2.ex.keep _ _ hD nC (by simp)
    have hB2 : B2 D0 = none := n2.nw D0 hB (by rw [hD]; simp)
    have e0 : ds.drop i = d :: ds.drop (i + 1) := by
      obtain ⟨hi', rfl⟩ := List.getElem?_eq_some_iff.mp hd
      exact List.drop_eq_getElem_cons hi'
    rw [e0] at q
    simp only [collect, bnd_assoc, pure_bnd] at q
    have rw0 := (r1.up n').wipe own
    generalize hf : turnM tm mt me (wipeE ρ own) = f at q
    have ed := turnM.eq_def tm mt me (wipeE ρ own) d
    rw [hf] at ed
    rw [ed] at q
    cases et : tm d (wipeE ρ own) with
    | none => rw [et] at q; exact q.elim
    | some ρ' =>
      rw [et] at q
      obtain ⟨o, S3, e3, q⟩ := q.noxb
      obtain ⟨bd, S4, e4, e7⟩ := ok_bind e3
      obtain ⟨b, S5, e5, e8⟩ := ok_bind e7
      obtain ⟨rfl, rfl⟩ := asB_ok e5
      refine ⟨C, B0, H0, wipeE ρ own, S', B2, d, ρ', rw0, rx, et, fun σ2 r2 l2 o2 => ⟨?_, ?_⟩⟩
      · rw [wipe_eq l2 (fun j hj => o2 j fun z => hj (hi j z)), wipe_wipe]
      · refine ⟨C, B0, H0, ρ', S', B2, r2, ?_⟩
        rw [bind_at, e4]
        intro H3 B3 n3
        have hD3 : H3 D0 = some (.lst vs) := n3.ex.keep _ _ hD2 nC (by simp)
        have hB3 : B3 D0 = none := n3.nw D0 hB2 (by rw [hD2]; simp)
        cases b with
        | false =>
          cases e8
          rw [if_neg (by simp)]
          exact ⟨B3, _, vs, xs, n'.trans n3, hD3, hB3, (hv.up n2.sb).up n3.sb, by omega, q⟩
        | true =>
          rw [if_pos rfl] at e8 ⊢
          obtain ⟨y2, S6, e6, e9⟩ := ok_bind e8
          cases e9
          refine ⟨C, B0, H0, ρ', _, B3, r2.up n3, ?_⟩
          rw [e6]
          intro w H4 B4 n4 rw4
          have hD4 : H4 D0 = some (.lst vs) := n4.ex.keep _ _ hD3 nC (by simp)
          have hB4 : B4 D0 = none := n4.nw D0 hB3 (by rw [hD3]; simp)
          have n5 := (n'.trans n3).trans n4
          have hv4 := (((hv.up n2.sb).up n3.sb).up n4.sb)
          have lt : vs.length < sizeLine := by rw [hv4.len]; omega
          refine ⟨vs, hD4, lt, B4, _, vs ++ [w], xs ++ [y2], n5.put nD hB4 nC (fun u e => by rw [hD4] at e; cases e; trivial) (by show (vs ++ [w]).length ≤ sizeLine; rw [List.length_append]; exact lt), upd_same, hB4, hv4.app (.cons rw4 .nil), by rw [List.length_append]; show xs.length + 1 ≤ i + 1; omega, ?_⟩
          simpa using q
  · rintro H ⟨B', S', vs, xs, n, hD, hB, hv, hl, q⟩
    rw [List.drop_length] at q
    simp only [collect, pure_bnd, List.append_nil] at q
    have n' := n.freeze nD hB nC hD
    exact q.val n' (.lst upd_same (hv.up (sub_upd hB)))
theorem pF_of {C : Option Addr} {B1 H1 : Hp} {S : SS} {B H : Hp} (n : Nxt Γ C B1 H1 S B H) : pF Γ C B1 H1 B H := ⟨n.sb, n.sh⟩
theorem pT_of {C : Option Addr} {B1 H1 : Hp} {S : SS} {B H : Hp} (n : Nxt Γ C B1 H1 S B H) : pT Γ C B1 H1 B H := ⟨S, n⟩
section
variable {elt tg iter : Expr} {ifs : List Expr} {scope : Scope} {own : List (Str × Nat)} {mi : MI} {tm : TM} {mt me : ME} {is : List Nat}
/-- a comprehension's reading, by its answer -/
theorem post_lc (hi : ∀ i ∈ is, i ∈ own.map (·.2)) {σ : L2.St} {H : Hp} {Q : VK} (hq : rdE Γ W (vLc (own.map (·.2)) mi tm mt me) σ H Q) : tLc (rdI pT Γ W mi) (rdP Γ is tm) (rdB Γ W0 mt) (rdE Γ W0 me) (own.map (·.2)) σ H Q := by
  obtain ⟨C, B0, H0, ρ, S, B, r, q⟩ := hq
  refine ⟨C, B0, H0, ρ, S, B, r, ?_⟩
  rcases q.bind with ⟨ds, S1, e, q⟩ | ⟨k, S1, e, q⟩
  · rw [e]
    intro H1 B1 J n1 wk D0 nD
    exact lc_turns (P := pT) (fun n => pT_of n) hi (r.up n1) wk nD (q.up n1)
  · rw [e]
    exact q
theorem d_yes : PTs X [] (rdB Γ W (vC (.bool true))) := ⟨fun pins s σ H Q I ⟨C, B0, H0, ρ, S, B, r, q⟩ => pts_nil.run pins s σ H Q I (q H B r.nx.here)⟩
theorem d_if1 {c : Expr} {m : ME} (h : PT X c (rdB Γ W m)) : PTs X [c] (rdB Γ W m) := pts_one h
theorem d_lc (hc : X.calm = true) (hN : X.N.Nodup) (ok : BlkOk X.N X.env.scope scope own) (hpl : plainE iter = true) (his : ∀ i ∈ is, i ∈ own.map (·.2)) (hi : PI X tg iter (rdI pT Γ W mi))
    (hb : ∀ (s : Shared) (H : Hp) (C : Addr) (cl : List (Str × Addr)) (fp : List Addr), PG (X.blk s H scope (compEnvC scope cl C X.env) fp) tg (rdP Γ is tm) ∧ PTs (X.blk s H scope (compEnvC scope cl C X.env) fp) ifs (rdB Γ W0 mt) ∧ PE (X.blk s H scope (compEnvC scope cl C X.env) fp) elt (rdE Γ W0 me)) :
    PE X (.ListComp elt [⟨tg, iter, ifs, 0⟩] scope pos) (rdE Γ W (vLc (own.map (·.2)) mi tm mt me)) :=
  PE.imp (pe_lc hc hN hi ok (fun s H C cl fp => (hb s H C cl fp).1) (fun s H C cl fp => (hb s H C cl fp).2.1) (fun s H C cl fp => (hb s H C cl fp).2.2) (set_plain hpl X.env)) fun _ _ _ q => post_lc his q
end
end Pv
namespace Pv
open PySem PySem.Spec PyProof.Rows L2
variable {Γ : Gm} {X : Cx} {W : WX} {pos p : Pos}
/-! comprehensions of two clauses -/
/-- a target sets its own slots alone -/
def TmOk (is : List Nat) (tm : TM) : Prop := ∀ d ρ ρ', tm d ρ = some ρ' → ∀ j, (j ∉ is → ρ'.getD j .none = ρ.getD j .none) ∧ (j ∈ is → (∃ d', ρ'.getD j .none = .val d') ∨ ρ'.getD j .none = .none)
theorem walk_loop {J : It} {n : Nat} {G : Hp → Prop} {Y : Nat → Hp → V → Hp → Prop} (w : Walk J n G Y) {T : V → Hp → (Hp → Prop) → Prop} {H0 : Hp} {E : Hp → Prop} (Pv : Nat → Hp → Prop) (h0 : Pv 0 H0) (hG : ∀ i H, i ≤ n → Pv i H → G H)
    (turn : ∀ i x H H', i < n → Pv i H → Y i H x H' → T x H' (Pv (i + 1))) (done : ∀ H, Pv n H → E H) :
    ∃ U : Nat → Nat → Hp → Prop, (∃ m, U 0 m H0) ∧ ∀ i m H, U i m H → (J.stop i H ∧ E H) ∨ (J.go i H ∧ ∃ Nx : Hp → Prop, (∀ H', Nx H' → ∃ m', m' < m ∧ U (i + 1) m' H') ∧ ∀ x H', J.yld i H x H' → T x H' Nx) := by
  refine ⟨fun i m H => (m + i = n) ∧ Pv i H, ⟨n, Nat.add_zero n, h0⟩, fun i m H u => ?_⟩
  have le : i ≤ n := by have := u.1; omega
  have g := hG i H le u.2
  rcases Nat.lt_or_eq_of_le le with lt | rfl
  · exact .inr ⟨w.goes i H lt g, Pv (i + 1), fun H' z => ⟨n - (i + 1), by have := u.1; omega, by omega, z⟩, fun x H' y => turn i x H H' lt u.2 (w.yields i H x H' lt g y)⟩
  · exact .inl ⟨w.stops H g, done H u.2⟩
theorem Rel.mix {C : Option Addr} {B0 H0 B2 H2 B H : Hp} {S S2 : SS} {ρw ρ' : Env} {σw σ2 : L2.St} {is : List Nat} (rw0 : Rel Γ C B0 H0 ρw S σw B H) (r2 : Rel Γ C B0 H0 ρ' S2 σ2 B2 H2) (o2 : ∀ j, j ∉ is → σ2[j]? = σw[j]?)
    (ht : ∀ j, (j ∉ is → ρ'.getD j .none = ρw.getD j .none) ∧ (j ∈ is → (∃ d', ρ'.getD j .none = .val d') ∨ ρ'.getD j .none = .none)) (sb : Sub B2 B) : Rel Γ C B0 H0 ρ' S σ2 B H := by
  have no : ∀ j, (ρ'.getD j .none).isOwn = true → j ∉ is := fun j h m => by
    rcases (ht j).2 m with ⟨d, e⟩ | e <;> rw [e] at h <;> cases h
  refine ⟨rw0.nx, r2.len, fun j => ?_, fun i j a ne hi hj e1 e2 => ?_⟩
  · by_cases m : j ∈ is
    · have s := r2.slot j
      rcases (ht j).2 m with ⟨d, e⟩ | e
      · rw [e] at s ⊢
        obtain ⟨v, e1, rp⟩ := s
        exact ⟨v, e1, rp.up sb⟩
      · rw [e]
        trivial
    · rw [(ht j).1 m, o2 j m]
      exact rw0.slot j
  · have n1 := no i hi
    have n2 := no j hj
    rw [(ht i).1 n1] at hi
    rw [(ht j).1 n2] at hj
    rw [o2 i n1] at e1
    rw [o2 j n2] at e2
    exact rw0.dis i j a ne hi hj e1 e2
def collectL (f : D → M (List D)) : List D → M (List D)
  | [] => pure []
  | d :: r => f d >>= fun xs => collectL f r >>= fun ys => pure (xs ++ ys)
def turn2 (tm : TM) (mt : ME) (mi1 : MI) (tm1 : TM) (mt1 me : ME) (own1 : List Nat) (ρ : Env) (d : D) : M (List D) := match tm d ρ with
  | some ρ' => nox (mt ρ' >>= fun b => asB b >>= fun b => if b = true then (mi1 ρ' >>= fun ds => collect (turnM tm1 mt1 me (wipeE ρ' own1)) ds) else pure [])
  | none => bad
def vLc2 (own own1 : List Nat) (mi : MI) (tm : TM) (mt : ME) (mi1 : MI) (tm1 : TM) (mt1 me : ME) : ME := fun ρ => mi ρ >>= fun ds => nox (collectL (turn2 tm mt mi1 tm1 mt1 me own1 (wipeE ρ own)) ds) >>= fun xs => if xs.length ≤ sizeLine then pure (.list xs) else bad
theorem nox_ok {α : Type} {m : M α} {S S' : SS} {a : α} (h : nox m S = .ok a S') : m S = .ok a S' := by
  unfold nox at h
  cases e : m S with
  | ok b S1 => rw [e] at h; exact h
  | exc k S1 => rw [e] at h; cases h
  | bad => rw [e] at h; cases h
section
variable {C : Option Addr} {B0 H0 Bb Hb : Hp} {σ : L2.St} {ρ : Env} {S0 : SS} {own own1 is is1 : List Nat} {D0 : Addr}
/-- the inner turns -/
theorem inner_turns {tm1 : TM} {mt1 me : ME} (hi1 : ∀ i ∈ is1, i ∈ own1) {S Se : SS} {ρ' : Env} {σ2 : L2.St} {B2 H2 B H : Hp} {J1 : It} {ds1 zs xs : List D} {us : List V} {Nx : Hp → Prop} {S2 : SS}
    (r1 : Rel Γ C B0 H0 ρ S0 σ Bb Hb) (nD : Hb D0 = none) (n : Nxt Γ C Bb Hb S B H) (hD : H D0 = some (.lst us)) (hB : B D0 = none) (hv : RpAll Γ.K B us xs)
    (r2 : Rel Γ C B0 H0 ρ' S2 σ2 B2 H2) (s2 : Sub B2 B) (o2 : ∀ j, j ∉ is → σ2[j]? = (L2.wipe σ own)[j]?) (ht : ∀ j, (j ∉ is → ρ'.getD j .none = (wipeE ρ own).getD j .none) ∧ (j ∈ is → (∃ d', ρ'.getD j .none = .val d') ∨ ρ'.getD j .none = .none))
    (wk : WkD Γ C (pF Γ C B H) J1 ds1) (e : collect (turnM tm1 mt1 me (wipeE ρ' own1)) ds1 S = .ok zs Se) (hz : (xs ++ zs).length ≤ sizeLine)
    (fin : ∀ (H' B' : Hp) (us' : List V), Nxt Γ C Bb Hb Se B' H' → H' D0 = some (.lst us') → B' D0 = none → RpAll Γ.K B' us' (xs ++ zs) → Nx H') :
    ∃ W1 : Nat → Nat → Hp → Prop, (∃ m, W1 0 m H) ∧ ∀ j k H, W1 j k H → (J1.stop j H ∧ Nx H) ∨ (J1.go j H ∧ ∃ Nx1 : Hp → Prop, (∀ H', Nx1 H' → ∃ k', k' < k ∧ W1 (j + 1) k' H') ∧ ∀ x H', J1.yld j H x H' → rdP Γ is1 tm1 x (L2.wipe σ2 own1) H' fun σ3 H5 => L2.wipe σ3 own1 = L2.wipe σ2 own1 ∧ rdB Γ W0 mt1 σ3 H5 fun b H6 =>
        if b = true then rdE Γ W0 me σ3 H6 fun y H7 => ∃ acc, H7 D0 = some (.lst acc) ∧ acc.length < sizeLine ∧ Nx1 (upd H7 D0 (.lst (acc ++ [y]))) else Nx1 H6) := by
  obtain ⟨hz1, G, Y, wl, hG, hY⟩ := wk
  have nC := r1.nx.here.cell_ne nD
  refine walk_loop wl (T := fun x H' N => rdP Γ is1 tm1 x (L2.wipe σ2 own1) H' fun σ3 H5 => L2.wipe σ3 own1 = L2.wipe σ2 own1 ∧ rdB Γ W0 mt1 σ3 H5 fun b H6 =>
        if b = true then rdE Γ W0 me σ3 H6 fun y H7 => ∃ acc, H7 D0 = some (.lst acc) ∧ acc.length < sizeLine ∧ N (upd H7 D0 (.lst (acc ++ [y]))) else N H6)
    (fun i H' => ∃ B' S' vs xs' ys, Nxt Γ C Bb Hb S' B' H' ∧ Sub B B' ∧ H' D0 = some (.lst vs) ∧ B' D0 = none ∧ RpAll Γ.K B' vs xs' ∧ collect (turnM tm1 mt1 me (wipeE ρ' own1)) (ds1.drop i) S' = .ok ys Se ∧ xs' ++ ys = xs ++ zs) ?_ ?_ ?_ ?_
  · exact ⟨B, S, us, xs, zs, n, fun _ _ h => h, hD, hB, hv, e, rfl⟩
  · rintro i H' _ ⟨B', S', vs, xs', ys, n', sb, _⟩
    exact hG B' H' ⟨sb, n'.sh⟩
  · rintro i x Ha H' hlt ⟨B', S', vs, xs', ys, n', sb, hDa, hBa, hva, ea, tot⟩ y
    obtain ⟨B3, d, hd, n3, rx⟩ := hY i B' Ha S' x H' hlt ⟨sb, n'.sh⟩ n'.here y
    have nn := n'.trans n3
    have hD3 : H' D0 = some (.lst vs) := n3.ex.keep _ _ hDa nC (by simp)
    have hB3 : B3 D0 = none := n3.nw D0 hBa (by rw [hDa]; simp)
    have e0 : ds1.drop i = d :: ds1.drop (i + 1) := by
      obtain ⟨hi', rfl⟩ := List.getElem?_eq_some_iff.mp hd
      exact List.drop_eq_getElem_cons hi'
    rw [e0] at ea
    simp only [collect] at ea
    have base : Rel Γ C B0 H0 ρ' S' σ2 B3 H' := Rel.mix ((r1.up nn).wipe own) r2 o2 ht (fun a u h => n3.sb a u (sb a u (s2 a u h)))
    have rw1 := base.wipe own1
    obtain ⟨o, S3, e3, ea⟩ := ok_bind ea
    obtain ⟨ys', S9, e9, ea⟩ := ok_bind ea
    cases ea
    generalize hf : turnM tm1 mt1 me (wipeE ρ' own1) = f at e3 e9
    have ed := turnM.eq_def tm1 mt1 me (wipeE ρ' own1) d
    rw [hf] at ed
    rw [ed] at e3
    cases et : tm1 d (wipeE ρ' own1) with
    | none => rw [et] at e3; cases e3
    | some ρ2 =>
      rw [et] at e3
      have e3 := nox_ok e3
      obtain ⟨bd, S4, e4, e7⟩ := ok_bind e3
      obtain ⟨b, S5, e5, e8⟩ := ok_bind e7
      obtain ⟨rfl, rfl⟩ := asB_ok e5
      refine ⟨C, B0, H0, wipeE ρ' own1, S', B3, d, ρ2, rw1, rx, et, fun σ3 r3 l3 o3 => ⟨?_, ?_⟩⟩
      · rw [wipe_eq l3 (fun j hj => o3 j fun z => hj (hi1 j z)), wipe_wipe]
      · refine ⟨C, B0, H0, ρ2, S', B3, r3, ?_⟩
        rw [bind_at, e4]
        intro H6 B6 n6
        have hD6 : H6 D0 = some (.lst vs) := n6.ex.keep _ _ hD3 nC (by simp)
        have hB6 : B6 D0 = none := n6.nw D0 hB3 (by rw [hD3]; simp)
        have s6 : Sub B B6 := fun a u h => n6.sb a u (n3.sb a u (sb a u h))
        cases b with
        | false =>
          cases e8
          rw [if_neg (by simp)]
          exact ⟨B6, _, vs, xs', ys', nn.trans n6, s6, hD6, hB6, (hva.up n3.sb).up n6.sb, e9, tot⟩
        | true =>
          rw [if_pos rfl] at e8 ⊢
          obtain ⟨y2, S6, e6, e10⟩ := ok_bind e8
          cases e10
          refine ⟨C, B0, H0, ρ2, _, B6, r3.up n6, ?_⟩
          rw [e6]
          intro w H7 B7 n7 rw7
          have hD7 : H7 D0 = some (.lst vs) := n7.ex.keep _ _ hD6 nC (by simp)
          have hB7 : B7 D0 = none := n7.nw D0 hB6 (by rw [hD6]; simp)
          have n8 := (nn.trans n6).trans n7
          have hv7 := (((hva.up n3.sb).up n6.sb).up n7.sb)
          have lt : vs.length < sizeLine := by
            rw [← tot] at hz
            have := hv7.len
            simp only [List.length_append, List.length_cons] at hz
            omega
          refine ⟨vs, hD7, lt, B7, _, vs ++ [w], xs' ++ [y2], ys', n8.put nD hB7 nC (fun u e => by rw [hD7] at e; cases e; trivial) (by show (vs ++ [w]).length ≤ sizeLine; rw [List.length_append]; exact lt), fun a u h => n7.sb a u (s6 a u h), upd_same, hB7, hv7.app (.cons rw7 .nil), e9, ?_⟩
          rw [← tot]
          simp
  · rintro H' ⟨B', S', vs, xs', ys, n', sb, hDa, hBa, hva, ea, tot⟩
    rw [List.drop_length] at ea
    cases ea
    rw [List.append_nil] at tot
    subst tot
    exact fin H' B' vs n' hDa hBa hva
end
section
variable {elt tg iter tg1 iter1 : Expr} {ifs ifs1 : List Expr} {scope : Scope} {own : List (Str × Nat)} {own1 is is1 : List Nat} {mi mi1 : MI} {tm tm1 : TM} {mt mt1 me : ME}
theorem post_lc2 (hi : ∀ i ∈ is, i ∈ own.map (·.2)) (hi1 : ∀ i ∈ is1, i ∈ own1) (htm : TmOk is tm) {σ : L2.St} {H : Hp} {Q : VK} (hq : rdE Γ W (vLc2 (own.map (·.2)) own1 mi tm mt mi1 tm1 mt1 me) σ H Q) :
    tLc2 (rdI pT Γ W mi) (rdP Γ is tm) (rdB Γ W0 mt) (rdI pF Γ W0 mi1) (rdP Γ is1 tm1) (rdB Γ W0 mt1) (rdE Γ W0 me) (own.map (·.2)) own1 σ H Q := by
  obtain ⟨C, B0, H0, ρ, S, B, r, q⟩ := hq
  refine ⟨C, B0, H0, ρ, S, B, r, ?_⟩
  rcases q.bind with ⟨ds, S1, e, q⟩ | ⟨k, S1, e, q⟩
  · rw [e]
    intro H1 B1 J n1 wk D0 nD
    have r1 := r.up n1
    have q := q.up n1
    obtain ⟨total, Se, et, q⟩ := q.noxb
    obtain ⟨hz, G, Y, wl, hG, hY⟩ := wk
    have nC := r1.nx.here.cell_ne nD
    have nB : B1 D0 = none := by
      cases z : B1 D0 with
      | none => rfl
      | some u =>
        have := r1.nx.sh D0 u z
        rw [nD] at this
        cases this
    have few : total.length ≤ sizeLine := by
      by_cases c : total.length ≤ sizeLine
      · exact c
      · rw [if_neg c] at q
        exact q.elim
    rw [if_pos few] at q
    generalize hf : turn2 tm mt mi1 tm1 mt1 me own1 (wipeE ρ (own.map (·.2))) = f at et
    refine walk_loop wl (T := fun x H' N => rdP Γ is tm x (L2.wipe σ (own.map (·.2))) H' fun σ2 H2 => L2.wipe σ2 (own.map (·.2)) = L2.wipe σ (own.map (·.2)) ∧ rdB Γ W0 mt σ2 H2 fun b H3 =>
      if b = true then rdI pF Γ W0 mi1 σ2 H3 fun J1 H4 => ∃ W1 : Nat → Nat → Hp → Prop, (∃ m, W1 0 m H4) ∧ ∀ j k H, W1 j k H →
      (J1.stop j H ∧ N H) ∨ (J1.go j H ∧ ∃ Nx1 : Hp → Prop, (∀ H', Nx1 H' → ∃ k', k' < k ∧ W1 (j + 1) k' H') ∧ ∀ x H', J1.yld j H x H' → rdP Γ is1 tm1 x (L2.wipe σ2 own1) H' fun σ3 H5 => L2.wipe σ3 own1 = L2.wipe σ2 own1 ∧ rdB Γ W0 mt1 σ3 H5 fun b H6 =>
        if b = true then rdE Γ W0 me σ3 H6 fun y H7 => ∃ acc, H7 D0 = some (.lst acc) ∧ acc.length < sizeLine ∧ Nx1 (upd H7 D0 (.lst (acc ++ [y]))) else Nx1 H6)
      else N H3)
      (fun i H' => ∃ B' S' vs xs ys, Nxt Γ C B1 H1 S' B' H' ∧ H' D0 = some (.lst vs) ∧ B' D0 = none ∧ RpAll Γ.K B' vs xs ∧ collectL f (ds.drop i) S' = .ok ys Se ∧ xs ++ ys = total) ?_ ?_ ?_ ?_
    · exact ⟨B1, S1, [], [], total, r1.nx.here.put nD nB nC (fun u e => by rw [nD] at e; cases e) (Nat.zero_le _), upd_same, nB, .nil, et, rfl⟩
    · rintro i H' _ ⟨B', S', vs, xs, ys, n', _⟩
      exact hG B' H' (pT_of n')
    · rintro i x Ha H' hlt ⟨B', S', vs, xs, ys, n', hDa, hBa, hva, ea, tot⟩ y
      obtain ⟨B2, d, hd, n2, rx⟩ := hY i B' Ha S' x H' hlt (pT_of n') n'.here y
      have nn := n'.trans n2
      have hD2 : H' D0 = some (.lst vs) := n2.ex.keep _ _ hDa nC (by simp)
      have hB2 : B2 D0 = none := n2.nw D0 hBa (by rw [hDa]; simp)
      have e0 : ds.drop i = d :: ds.drop (i + 1) := by
        obtain ⟨hi', rfl⟩ := List.getElem?_eq_some_iff.mp hd
        exact List.drop_eq_getElem_cons hi'
      rw [e0] at ea
      simp only [collectL] at ea
      obtain ⟨zs, S3, e3, ea⟩ := ok_bind ea
      obtain ⟨ys', S9, e9, ea⟩ := ok_bind ea
      cases ea
      have ed := turn2.eq_def tm mt mi1 tm1 mt1 me own1 (wipeE ρ (own.map (·.2))) d
      rw [hf] at ed
      rw [ed] at e3
      have rw0 := (r1.up nn).wipe (own.map (·.2))
      cases eT : tm d (wipeE ρ (own.map (·.2))) with
      | none => rw [eT] at e3; cases e3
      | some ρ' =>
        rw [eT] at e3
        have e3 := nox_ok e3
        obtain ⟨bd, S4, e4, e7⟩ := ok_bind e3
        obtain ⟨b, S5, e5, e8⟩ := ok_bind e7
        obtain ⟨rfl, rfl⟩ := asB_ok e5
        refine ⟨C, B0, H0, wipeE ρ (own.map (·.2)), S', B2, d, ρ', rw0, rx, eT, fun σ2 r2 l2 o2 => ⟨?_, ?_⟩⟩
        · rw [wipe_eq l2 (fun j hj => o2 j fun z => hj (hi j z)), wipe_wipe]
        · refine ⟨C, B0, H0, ρ', S', B2, r2, ?_⟩
          rw [bind_at, e4]
          intro H3 B3 n3
          have hD3 : H3 D0 = some (.lst vs) := n3.ex.keep _ _ hD2 nC (by simp)
          have hB3 : B3 D0 = none := n3.nw D0 hB2 (by rw [hD2]; simp)
          have n4 := nn.trans n3
          have hv3 := (hva.up n2.sb).up n3.sb
          cases b with
          | false =>
            cases e8
            rw [if_neg (by simp)]
            exact ⟨B3, _, vs, xs, ys', n4, hD3, hB3, hv3, e9, tot⟩
          | true =>
            rw [if_pos rfl] at e8 ⊢
            obtain ⟨ds1, S6, e6, e10⟩ := ok_bind e8
            refine ⟨C, B0, H0, ρ', _, B3, r2.up n3, ?_⟩
            rw [e6]
            intro H4 B4 J1 n5 wk1
            have hD4 : H4 D0 = some (.lst vs) := n5.ex.keep _ _ hD3 nC (by simp)
            have hB4 : B4 D0 = none := n5.nw D0 hB3 (by rw [hD3]; simp)
            refine inner_turns (own := own.map (·.2)) (is := is) hi1 r1 nD (n4.trans n5) hD4 hB4 (hv3.up n5.sb) r2 (fun a u h => n5.sb a u (n3.sb a u h)) o2 (fun j => htm _ _ _ eT j) wk1 e10 ?_ fun Hx Bx us' nx hDx hBx hvx => ⟨Bx, S3, us', xs ++ zs, ys', nx, hDx, hBx, hvx, e9, ?_⟩
            · rw [← tot] at few
              simp only [List.length_append] at few ⊢
              omega
            · rw [← tot, List.append_assoc]
    · rintro H' ⟨B', S', vs, xs, ys, n', hDa, hBa, hva, ea, tot⟩
      rw [List.drop_length] at ea
      cases ea
      rw [List.append_nil] at tot
      subst tot
      have n9 := n'.freeze nD hBa nC hDa
      exact q.val n9 (.lst upd_same (hva.up (sub_upd hBa)))
  · rw [e]
    exact q
theorem d_lc2 (hc : X.calm = true) (hN : X.N.Nodup) (ok : BlkOk X.N X.env.scope scope own) (hpl : plainE iter = true) (hpl1 : plainE iter1 = true) (his : ∀ i ∈ is, i ∈ own.map (·.2)) (his1 : ∀ i ∈ is1, i ∈ own1) (ho : ∀ i ∈ own1, i ∈ own.map (·.2)) (htm : TmOk is tm) (hi : PI X tg iter (rdI pT Γ W mi))
    (hb : ∀ (s : Shared) (H : Hp) (C : Addr) (cl : List (Str × Addr)) (fp : List Addr), PG (X.blk s H scope (compEnvC scope cl C X.env) fp) tg (rdP Γ is tm) ∧ PTs (X.blk s H scope (compEnvC scope cl C X.env) fp) ifs (rdB Γ W0 mt) ∧ PI (X.blk s H scope (compEnvC scope cl C X.env) fp) tg1 iter1 (rdI pF Γ W0 mi1) ∧ PG (X.blk s H scope (compEnvC scope cl C X.env) fp) tg1 (rdP Γ is1 tm1) ∧ PTs (X.blk s H scope (compEnvC scope cl C X.env) fp) ifs1 (rdB Γ W0 mt1) ∧ PE (X.blk s H scope (compEnvC scope cl C X.env) fp) elt (rdE Γ W0 me)) :
    PE X (.ListComp elt [⟨tg, iter, ifs, 0⟩, ⟨tg1, iter1, ifs1, 0⟩] scope pos) (rdE Γ W (vLc2 (own.map (·.2)) own1 mi tm mt mi1 tm1 mt1 me)) :=
  PE.imp (pe_lc2 hc hN hi ok ho (fun s H C cl fp => (hb s H C cl fp).1) (fun s H C cl fp => (hb s H C cl fp).2.1) (fun s H C cl fp => (hb s H C cl fp).2.2.1) (fun s H C cl fp => (hb s H C cl fp).2.2.2.1) (fun s H C cl fp => (hb s H C cl fp).2.2.2.2.1) (fun s H C cl fp => (hb s H C cl fp).2.2.2.2.2) (set_plain hpl X.env) (fun env => set_plain hpl1 env)) fun _ _ _ q => post_lc2 his his1 htm q
end
end Pv
namespace Pv
open PySem PySem.Spec PyProof.Rows L2
variable {Γ : Gm} {X : Cx} {W : WX} {pos p : Pos}
/-! statements -/
inductive Fl where
  | nx (ρ : Env) | rt (d : D) | bk (ρ : Env) | ct (ρ : Env)
abbrev MS := Env → M Fl
def PostS (Γ : Gm) (C : Option Addr) (W : WX) (B0 H0 Bs : Hp) (E : Ends) : Res Fl → Prop
  | .ok (.nx ρ) S => ∀ σ B H, Rel Γ C B0 H0 ρ S σ B H → Sub Bs B → E.nx σ H
  | .ok (.rt d) S => ∀ v B H, Nxt Γ C B0 H0 S B H → Rp Γ.K B v d → E.rt v H
  | .ok (.bk ρ) S => ∀ σ B H, Rel Γ C B0 H0 ρ S σ B H → Sub Bs B → E.bk σ H
  | .ok (.ct ρ) S => ∀ σ B H, Rel Γ C B0 H0 ρ S σ B H → Sub Bs B → E.ct σ H
  | .exc k S => ∀ σ B H, Nxt Γ C B0 H0 S B H → W (Γ.cls k) none σ H
  | .bad => False
def rdS (Γ : Gm) (W : WX) (m : MS) : TS := fun E σ H => ∃ C B0 H0 ρ S B, Rel Γ C B0 H0 ρ S σ B H ∧ PostS Γ C W B0 H0 B E (m ρ S)
theorem PS.imp {e : Stmt} {t t' : TS} (h : PS X e t) (i : ∀ E σ H, t' E σ H → t E σ H) : PS X e t' := ⟨fun pins s σ H E I q => h.run pins s σ H E I (i E σ H q)⟩
theorem PSs.imp {e : List Stmt} {t t' : TS} (h : PSs X e t) (i : ∀ E σ H, t' E σ H → t E σ H) : PSs X e t' := ⟨fun pins s σ H E I q => h.run pins s σ H E I (i E σ H q)⟩
section
variable {C : Option Addr} {B0 H0 Bs B1 H1 B H : Hp} {S : SS} {ρ : Env} {σ : L2.St} {E : Ends}
theorem PostS.up {r : Res Fl} (s : Sub Bs B1) (h : PostS Γ C W B0 H0 Bs E r) : PostS Γ C W B0 H0 B1 E r := by
  cases r with
  | ok f S' =>
    cases f with
    | nx ρ => exact fun σ B H r q => h σ B H r fun a o e => q a o (s a o e)
    | rt d => exact h
    | bk ρ => exact fun σ B H r q => h σ B H r fun a o e => q a o (s a o e)
    | ct ρ => exact fun σ B H r q => h σ B H r fun a o e => q a o (s a o e)
  | exc k S' => exact h
  | bad => exact h
/-- an expression is asked, then the rest of the statement -/
theorem rd_bindS {R : RR} {m : ME} {f : D → M Fl} {Q : VK} (r : Rel Γ C B0 H0 ρ S σ B H) (h : PostS Γ C W B0 H0 B E ((m ρ >>= f) S))
    (k : ∀ d S1 v H1 B1, Rel Γ C B0 H0 ρ S1 σ B1 H1 → Nxt Γ C B H S1 B1 H1 → R Γ C B1 H1 v d → PostS Γ C W B0 H0 B1 E (f d S1) → Q v H1) : rd R Γ W m σ H Q := by
  refine ⟨C, B0, H0, ρ, S, B, r, ?_⟩
  rw [bind_at] at h
  cases e : m ρ S with
  | ok d S' => rw [e] at h; exact fun v H' B' n x => k d S' v H' B' (r.up n) n x (h.up n.sb)
  | exc j S' => rw [e] at h; exact fun H' B' n => h σ B' H' (r.nx.trans n)
  | bad => rw [e] at h; exact h
theorem rd_bindSB {m : ME} {f : Bool → M Fl} {Q : Bool → Hp → Prop} (r : Rel Γ C B0 H0 ρ S σ B H) (h : PostS Γ C W B0 H0 B E ((m ρ >>= fun d => asB d >>= f) S))
    (k : ∀ b S1 H1 B1, Rel Γ C B0 H0 ρ S1 σ B1 H1 → Nxt Γ C B H S1 B1 H1 → PostS Γ C W B0 H0 B1 E (f b S1) → Q b H1) : rdB Γ W m σ H Q := by
  refine ⟨C, B0, H0, ρ, S, B, r, ?_⟩
  rw [← bnd_assoc, bind_at] at h
  cases e : (m ρ >>= asB) S with
  | ok d S' => rw [e] at h; exact fun H' B' n => k d S' H' B' (r.up n) n (h.up n.sb)
  | exc j S' => rw [e] at h; exact fun H' B' n => h σ B' H' (r.nx.trans n)
  | bad => rw [e] at h; exact h
end
/-! blocks -/
def sNil : MS := fun ρ => pure (.nx ρ)
def flow (f : Fl) (n : MS) : M Fl := match f with
  | .nx ρ => n ρ
  | f => pure f
def sSeq (m n : MS) : MS := fun ρ => m ρ >>= fun f => flow f n
theorem d_nil : PSs X [] (rdS Γ W sNil) := PSs.imp pss_nil fun E σ H ⟨C, B0, H0, ρ, S, B, r, q⟩ => q σ B H r fun _ _ h => h
theorem rdS_seq {m n : MS} {E : Ends} {σ : L2.St} {H : Hp} (h : rdS Γ W (sSeq m n) E σ H) : rdS Γ W m { E with nx := rdS Γ W n E } σ H := by
  obtain ⟨C, B0, H0, ρ, S, B, r, q⟩ := h
  refine ⟨C, B0, H0, ρ, S, B, r, ?_⟩
  unfold sSeq at q
  rw [bind_at] at q
  cases e : m ρ S with
  | ok f S' =>
    rw [e] at q
    cases f with
    | nx ρ' => exact fun σ' B' H' r' s => ⟨C, B0, H0, ρ', S', B', r', q.up s⟩
    | rt d => exact q
    | bk ρ' => exact q
    | ct ρ' => exact q
  | exc k S' => rw [e] at q; exact q
  | bad => rw [e] at q; exact q
theorem d_cons {st : Stmt} {rest : List Stmt} {m n : MS} (h1 : PS X st (rdS Γ W m)) (h2 : PSs X rest (rdS Γ W n)) : PSs X (st :: rest) (rdS Γ W (sSeq m n)) := PSs.imp (pss_cons h1 h2) fun E σ H q => rdS_seq q
theorem d_one1 {st : Stmt} {m : MS} (h1 : PS X st (rdS Γ W m)) : PSs X [st] (rdS Γ W m) := pss_one h1
/-! small ones -/
def sRet (me : ME) : MS := fun ρ => me ρ >>= fun d => pure (.rt d)
def sDrop (me : ME) : MS := fun ρ => me ρ >>= fun _ => pure (.nx ρ)
def sIf (mc : ME) (a b : MS) : MS := fun ρ => mc ρ >>= fun d => asB d >>= fun c => if c = true then a ρ else b ρ
def sBrk : MS := fun ρ => pure (.bk ρ)
def sCt : MS := fun ρ => pure (.ct ρ)
def sRaise (k : Exn) : MS := fun _ => thr k
theorem d_ret {e : Expr} {me : ME} (h : PE X e (rdE Γ W me)) : PS X (.Return (some e) pos) (rdS Γ W (sRet me)) := PS.imp (ps_ret h) fun E σ H ⟨C, B0, H0, ρ, S, B, r, q⟩ =>
  rd_bindS r q fun d S1 v H1 B1 r1 n1 x1 p1 => p1 v B1 H1 r1.nx x1
theorem d_expr {e : Expr} {me : ME} (h : PE X e (rdE Γ W me)) (hf : notComp e = true) : PS X (.Expr e pos) (rdS Γ W (sDrop me)) := PS.imp (ps_expr h (swap_plain hf _ _ _)) fun E σ H ⟨C, B0, H0, ρ, S, B, r, q⟩ =>
  rd_bindS r q fun d S1 v H1 B1 r1 n1 x1 p1 => p1 σ B1 H1 r1 fun _ _ h => h
theorem d_if {c : Expr} {a b : List Stmt} {mc : ME} {ma mb : MS} (hc : PT X c (rdB Γ W mc)) (ha : PSs X a (rdS Γ W ma)) (hb : PSs X b (rdS Γ W mb)) : PS X (.If c a b pos) (rdS Γ W (sIf mc ma mb)) := PS.imp (ps_if hc ha hb) fun E σ H ⟨C, B0, H0, ρ, S, B, r, q⟩ =>
  rd_bindSB r q fun b S1 H1 B1 r1 n1 p1 => by
    cases b with
    | true => exact ⟨C, B0, H0, ρ, S1, B1, r1, p1⟩
    | false => exact ⟨C, B0, H0, ρ, S1, B1, r1, p1⟩
theorem d_brk : PS X (.Break pos) (rdS Γ W sBrk) := PS.imp ps_break fun E σ H ⟨C, B0, H0, ρ, S, B, r, q⟩ => q σ B H r fun _ _ h => h
theorem d_ct : PS X (.Continue pos) (rdS Γ W sCt) := PS.imp ps_continue fun E σ H ⟨C, B0, H0, ρ, S, B, r, q⟩ => q σ B H r fun _ _ h => h
theorem d_pass : PS X (.Pass pos) (rdS Γ W sNil) := PS.imp ps_pass fun E σ H ⟨C, B0, H0, ρ, S, B, r, q⟩ => q σ B H r fun _ _ h => h
theorem d_raise {e : Expr} {k : Exn} (hc : X.calm = true) (tk : L2N.Takes X W) (h : L2N.PMk X e (fun _ H Q => Q (Γ.cls k) none H)) : PS X (.Raise (some e) none pos) (rdS Γ W (sRaise k)) := PS.imp (L2N.ps_raise hc tk h) fun E σ H ⟨C, B0, H0, ρ, S, B, r, q⟩ => q σ B H r.nx
/-! stores -/
def sSet (i : Nat) (me : ME) : MS := fun ρ => me ρ >>= fun d => pure (.nx (ρ.set i (.val d)))
def sAsg (tm : TM) (me : ME) : MS := fun ρ => me ρ >>= fun d => match tm d ρ with
  | some ρ' => pure (.nx ρ')
  | none => bad
theorem post_set {i : Nat} {me : ME} {E : Ends} {σ : L2.St} {H : Hp} (h : rdS Γ W (sSet i me) E σ H) : tAsg (rdE Γ W me) (gName i) E σ H := by
  obtain ⟨C, B0, H0, ρ, S, B, r, q⟩ := h
  exact rd_bindS r q fun d S1 v H1 B1 r1 n1 x1 p1 => p1 _ B1 H1 (r1.set i x1) fun _ _ h => h
theorem d_set {i : Nat} {x : Str} {e : Expr} {me : ME} {q : Pos} (hN : X.N.Nodup) (hi : X.N[i]? = some x) (hx : Loc X.env.scope x) (hf : X.fn x = true ∨ X.env.scope.names.lookup x = some .local) (hp : notComp e = true) (h : PE X e (rdE Γ W me)) :
    PS X (.Assign [.Name x q] e pos) (rdS Γ W (sSet i me)) := PS.imp (ps_set hN hi hx h (swap_plain hp _ _ _) hf) fun _ _ _ q => post_set q
theorem d_setLc {i : Nat} {x : Str} {q spos : Pos} {elt tg iter : Expr} {ifs : List Expr} {scope : Scope} {own : List (Str × Nat)} {mi : MI} {tm : TM} {mt me : ME} {is : List Nat} (hc : X.calm = true) (hN : X.N.Nodup) (hy : X.N[i]? = some x) (hyl : X.env.scope.names.lookup x = some .local)
    (hsw : swapsWith (.ListComp elt [⟨tg, iter, ifs, 0⟩] scope pos) (some (.Name x q)) spos.line X.env = pure true) (ok : BlkOk X.N X.env.scope scope own) (hpl : plainE iter = true) (his : ∀ i ∈ is, i ∈ own.map (·.2)) (hi : PI X tg iter (rdI pT Γ W mi))
    (hb : ∀ (s : Shared) (H : Hp) (C : Addr) (cl : List (Str × Addr)) (fp : List Addr), PG (X.blk s H scope (compEnvC scope cl C X.env) fp) tg (rdP Γ is tm) ∧ PTs (X.blk s H scope (compEnvC scope cl C X.env) fp) ifs (rdB Γ W0 mt) ∧ PE (X.blk s H scope (compEnvC scope cl C X.env) fp) elt (rdE Γ W0 me)) :
    PS X (.Assign [.Name x q] (.ListComp elt [⟨tg, iter, ifs, 0⟩] scope pos) spos) (rdS Γ W (sSet i (vLc (own.map (·.2)) mi tm mt me))) :=
  PS.imp (ps_setLc hc hN hy hyl hsw hi ok (fun s H C cl fp => (hb s H C cl fp).1) (fun s H C cl fp => (hb s H C cl fp).2.1) (fun s H C cl fp => (hb s H C cl fp).2.2) (set_plain hpl X.env)) fun E σ H h => by
    obtain ⟨C, B0, H0, ρ, S, B, r, q⟩ := h
    refine post_lc his ?_
    exact rd_bindS r q fun d S1 v H1 B1 r1 n1 x1 p1 => p1 _ B1 H1 (r1.set i x1) fun _ _ h => h
theorem d_setLcF {i : Nat} {x : Str} {q spos : Pos} {elt tg iter : Expr} {ifs : List Expr} {scope : Scope} {me : ME} (hN : X.N.Nodup) (hy : X.N[i]? = some x) (hx : Loc X.env.scope x) (hf : X.fn x = true ∨ X.env.scope.names.lookup x = some .local)
    (hsw : swapsWith (.ListComp elt [⟨tg, iter, ifs, 0⟩] scope pos) (some (.Name x q)) spos.line X.env = pure false) (h : PE X (.ListComp elt [⟨tg, iter, ifs, 0⟩] scope pos) (rdE Γ W me)) :
    PS X (.Assign [.Name x q] (.ListComp elt [⟨tg, iter, ifs, 0⟩] scope pos) spos) (rdS Γ W (sSet i me)) := PS.imp (ps_set hN hy hx h hsw hf) fun _ _ _ q => post_set q
theorem post_asg {is : List Nat} {tm : TM} {me : ME} {E : Ends} {σ : L2.St} {H : Hp} (h : rdS Γ W (sAsg tm me) E σ H) : tAsg (rdE Γ W me) (rdP Γ is tm) E σ H := by
  obtain ⟨C, B0, H0, ρ, S, B, r, q⟩ := h
  refine rd_bindS r q fun d S1 v H1 B1 r1 n1 x1 p1 => ?_
  cases e : tm d ρ with
  | none => rw [e] at p1; exact p1.elim
  | some ρ' =>
    rw [e] at p1
    exact ⟨C, B0, H0, ρ, S1, B1, d, ρ', r1, x1, e, fun σ' r' _ _ => p1 σ' B1 H1 r' fun _ _ h => h⟩
def notTup : Expr → Bool
  | .Tuple .. => false
  | .List .. => false
  | _ => true
theorem stores_plain {t e : Expr} (h : notTup e = true) (env : PySem.Env) : swappedStores [t] e env = pure none := by
  cases e <;> first | (cases t <;> rfl) | exact absurd h (by simp [notTup])
/-- a, b = f(..) -/
theorem d_asg {es : List Expr} {k : Nat} {q : Pos} {e : Expr} {is : List Nat} {tm : TM} {me : ME} (hp : notComp e = true) (ht : notTup e = true) (h : PE X e (rdE Γ W me)) (hg : PG X (.Tuple es k q) (rdP Γ is tm)) :
    PS X (.Assign [.Tuple es k q] e pos) (rdS Γ W (sAsg tm me)) := PS.imp (ps_asg h hg (swap_plain hp (some (.Tuple es k q)) pos.line X.env) (stores_plain ht X.env) rfl) fun _ _ _ q => post_asg q
/-- a, b = x, y -/
def sPar (i j : Nat) (ma mb : ME) : MS := fun ρ => ma ρ >>= fun d => mb ρ >>= fun e => pure (.nx ((ρ.set i (.val d)).set j (.val e)))
theorem d_par {i j : Nat} {x y : Str} {a b : Expr} {ma mb : ME} {px py pt pt2 : Pos} {kt k2 : Nat} (hc : X.calm = true) (hN : X.N.Nodup) (hi : X.N[i]? = some x) (hj : X.N[j]? = some y) (hij : i ≠ j)
    (hx : X.env.scope.names.lookup x = some .local) (hy : X.env.scope.names.lookup y = some .local) (ha : PE X a (rdE Γ W ma)) (hb : PE X b (rdE Γ W mb)) (hf : plainE a = true) (hf2 : plainE b = true)
    (hw : swappedStores [.Tuple [.Name x px, .Name y py] kt pt] (.Tuple [a, b] k2 pt2) X.env = pure (some [x, y])) :
    PS X (.Assign [.Tuple [.Name x px, .Name y py] kt pt] (.Tuple [a, b] k2 pt2) pos) (rdS Γ W (sPar i j ma mb)) :=
  PS.imp (ps_par hc hN hi hj hij hx hy (pa_cons ha (pa_cons hb pa_nil (star_plain hf2 [] X.env)) (star_plain hf [b] X.env)) hw rfl) fun E σ H ⟨C, B0, H0, ρ, S, B, r, q⟩ =>
    rd_bindS r q fun d S1 v H1 B1 r1 n1 x1 p1 => rd_bindS r1 p1 fun e S2 u H2 B2 r2 n2 x2 p2 =>
      ⟨v, u, rfl, p2 _ B2 H2 ((r2.set i (x1.up n2.sb)).set j x2) fun _ _ h => h⟩
/-! loops -/
def again (f : Fl) (n : MS) : M Fl := match f with
  | .nx ρ => n ρ
  | .ct ρ => n ρ
  | .bk ρ => pure (.nx ρ)
  | .rt d => pure (.rt d)
def whileN (mc : ME) (mb : MS) : Nat → MS
  | 0 => fun _ => bad
  | n + 1 => fun ρ => mc ρ >>= fun d => asB d >>= fun c => if c = true then mb ρ >>= fun f => again f (whileN mc mb n) else pure (.nx ρ)
def sWhile (fuel : Env → Nat) (mc : ME) (mb : MS) : MS := fun ρ => whileN mc mb (fuel ρ) ρ
/-- behind a turn's body -/
theorem turn_end {mb n : MS} {C : Option Addr} {B0 H0 Bs B H : Hp} {ρ : Env} {S : SS} {σ : L2.St} {E : Ends} {N : L2.St → Hp → Prop} (r : Rel Γ C B0 H0 ρ S σ B H) (q : PostS Γ C W B0 H0 B E ((mb ρ >>= fun f => again f n) S)) (s : Sub Bs B)
    (k : ∀ ρ' S' σ' B' H', Rel Γ C B0 H0 ρ' S' σ' B' H' → Sub Bs B' → PostS Γ C W B0 H0 B' E (n ρ' S') → N σ' H') : rdS Γ W mb { E with nx := N, ct := N, bk := E.nx } σ H := by
  refine ⟨C, B0, H0, ρ, S, B, r, ?_⟩
  rw [bind_at] at q
  cases e : mb ρ S with
  | ok f S' =>
    rw [e] at q
    cases f with
    | nx ρ' => exact fun σ' B' H' r' s' => k ρ' S' σ' B' H' r' (fun a o h => s' a o (s a o h)) (q.up s')
    | ct ρ' => exact fun σ' B' H' r' s' => k ρ' S' σ' B' H' r' (fun a o h => s' a o (s a o h)) (q.up s')
    | bk ρ' => exact q
    | rt d => exact q
  | exc j S' => rw [e] at q; exact q
  | bad => rw [e] at q; exact q
theorem d_while {c : Expr} {body : List Stmt} {fuel : Env → Nat} {mc : ME} {mb : MS} (hp : PassesOwn (model X.prog X.w) X.A X.env X.xe) (hc : PT X c (rdB Γ W mc)) (hb : PSs X body (rdS Γ W mb)) : PS X (.While c body [] pos) (rdS Γ W (sWhile fuel mc mb)) :=
  PS.imp (ps_while hp hc hb) fun E σ H ⟨C, B0, H0, ρ, S, B, r, q⟩ => by
    refine ⟨fun n σ H => ∃ ρ S B, Rel Γ C B0 H0 ρ S σ B H ∧ PostS Γ C W B0 H0 B E (whileN mc mb n ρ S), ⟨fuel ρ, ρ, S, B, r, q⟩, ?_⟩
    rintro n σ1 H1 ⟨ρ1, S1, B1, r1, q1⟩
    cases n with
    | zero => exact q1.elim
    | succ n =>
      refine rd_bindSB r1 q1 fun b S2 H2 B2 r2 n2 p2 => ?_
      cases b with
      | false =>
        rw [if_neg (by simp)] at p2 ⊢
        exact p2 σ1 B2 H2 r2 fun _ _ h => h
      | true =>
        rw [if_pos rfl] at p2 ⊢
        exact ⟨fun σ' H' => ∃ ρ S B, Rel Γ C B0 H0 ρ S σ' B H' ∧ PostS Γ C W B0 H0 B E (whileN mc mb n ρ S), fun σ' H' h => ⟨n, Nat.lt_succ_self n, h⟩,
          turn_end (Bs := B2) r2 p2 (fun _ _ h => h) fun ρ' S' σ' B' H' r' _ q' => ⟨ρ', S', B', r', q'⟩⟩
def forN (tm : TM) (mb : MS) : List D → MS
  | [] => fun ρ => pure (.nx ρ)
  | d :: r => fun ρ => match tm d ρ with
    | some ρ' => mb ρ' >>= fun f => again f (forN tm mb r)
    | none => bad
def sFor (mi : MI) (tm : TM) (mb : MS) : MS := fun ρ => mi ρ >>= fun ds => forN tm mb ds ρ
theorem d_for {tg iter : Expr} {body : List Stmt} {mi : MI} {is : List Nat} {tm : TM} {mb : MS} (hp : PassesOwn (model X.prog X.w) X.A X.env X.xe) (hc : X.calm = true) (hpl : plainE iter = true) (hi : PI X tg iter (rdI pF Γ W mi)) (hg : PG X tg (rdP Γ is tm)) (hb : PSs X body (rdS Γ W mb)) :
    PS X (.For tg iter body [] pos) (rdS Γ W (sFor mi tm mb)) :=
  PS.imp (ps_for hp hc hi hg hb (set_plain hpl X.env)) fun E σ H ⟨C, B0, H0, ρ, S, B, r, q⟩ => by
    refine ⟨C, B0, H0, ρ, S, B, r, ?_⟩
    unfold sFor at q
    rw [bind_at] at q
    cases e : mi ρ S with
    | exc k S1 => rw [e] at q; exact fun H' B' n => q σ B' H' (r.nx.trans n)
    | bad => rw [e] at q; exact q
    | ok ds S1 =>
      rw [e] at q
      intro H1 B1 J n1 wk
      obtain ⟨hz, G, Y, wl, hG, hY⟩ := wk
      refine for_it wl (fun i σ H => ∃ ρ S B, Rel Γ C B0 H0 ρ S σ B H ∧ Sub B1 B ∧ PostS Γ C W B0 H0 B E (forN tm mb (ds.drop i) ρ S)) ?_ ?_ ?_ ?_
      · exact ⟨ρ, S1, B1, r.up n1, fun _ _ h => h, q.up n1.sb⟩
      · rintro i σ H _ ⟨ρ, S, B, r, s, _⟩
        exact hG B H ⟨s, r.nx.sh⟩
      · rintro i x σ H H' hlt ⟨ρ2, S2, B2, r2, s2, q2⟩ y
        obtain ⟨B3, d, hd, n3, rx⟩ := hY i B2 H S2 x H' hlt ⟨s2, r2.nx.sh⟩ r2.nx.here y
        have e0 : ds.drop i = d :: ds.drop (i + 1) := by
          obtain ⟨hi', rfl⟩ := List.getElem?_eq_some_iff.mp hd
          exact List.drop_eq_getElem_cons hi'
        rw [e0] at q2
        unfold forN at q2
        cases et : tm d ρ2 with
        | none => rw [et] at q2; exact q2.elim
        | some ρ' =>
          rw [et] at q2
          have q2 := q2.up n3.sb
          exact ⟨C, B0, H0, ρ2, S2, B3, d, ρ', r2.up n3, rx, et, fun σ' r' _ _ => turn_end r' q2 (fun a o h => n3.sb a o (s2 a o h)) fun ρ5 S5 σ5 B5 H5 r5 s5 q5 => ⟨ρ5, S5, B5, r5, s5, q5⟩⟩
      · rintro σ H ⟨ρ2, S2, B2, r2, s2, q2⟩
        rw [List.drop_length] at q2
        exact q2 σ B2 H r2 fun _ _ h => h
end Pv
namespace Pv
open PySem PySem.Spec PyProof.Rows L2
variable {Γ : Gm} {X : Cx} {W : WX} {pos p : Pos}
theorem d_setLc2 {i : Nat} {x : Str} {q spos : Pos} {elt tg iter tg1 iter1 : Expr} {ifs ifs1 : List Expr} {scope : Scope} {own : List (Str × Nat)} {own1 is is1 : List Nat} {mi mi1 : MI} {tm tm1 : TM} {mt mt1 me : ME} (hc : X.calm = true) (hN : X.N.Nodup) (hy : X.N[i]? = some x) (hyl : X.env.scope.names.lookup x = some .local)
    (hsw : swapsWith (.ListComp elt [⟨tg, iter, ifs, 0⟩, ⟨tg1, iter1, ifs1, 0⟩] scope pos) (some (.Name x q)) spos.line X.env = pure true) (ok : BlkOk X.N X.env.scope scope own) (hpl : plainE iter = true) (hpl1 : plainE iter1 = true) (his : ∀ i ∈ is, i ∈ own.map (·.2)) (his1 : ∀ i ∈ is1, i ∈ own1) (ho : ∀ i ∈ own1, i ∈ own.map (·.2)) (htm : TmOk is tm) (hi : PI X tg iter (rdI pT Γ W mi))
    (hb : ∀ (s : Shared) (H : Hp) (C : Addr) (cl : List (Str × Addr)) (fp : List Addr), PG (X.blk s H scope (compEnvC scope cl C X.env) fp) tg (rdP Γ is tm) ∧ PTs (X.blk s H scope (compEnvC scope cl C X.env) fp) ifs (rdB Γ W0 mt) ∧ PI (X.blk s H scope (compEnvC scope cl C X.env) fp) tg1 iter1 (rdI pF Γ W0 mi1) ∧ PG (X.blk s H scope (compEnvC scope cl C X.env) fp) tg1 (rdP Γ is1 tm1) ∧ PTs (X.blk s H scope (compEnvC scope cl C X.env) fp) ifs1 (rdB Γ W0 mt1) ∧ PE (X.blk s H scope (compEnvC scope cl C X.env) fp) elt (rdE Γ W0 me)) :
    PS X (.Assign [.Name x q] (.ListComp elt [⟨tg, iter, ifs, 0⟩, ⟨tg1, iter1, ifs1, 0⟩] scope pos) spos) (rdS Γ W (sSet i (vLc2 (own.map (·.2)) own1 mi tm mt mi1 tm1 mt1 me))) :=
  PS.imp (ps_setLc2 hc hN hy hyl hsw hi ok ho (fun s H C cl fp => (hb s H C cl fp).1) (fun s H C cl fp => (hb s H C cl fp).2.1) (fun s H C cl fp => (hb s H C cl fp).2.2.1) (fun s H C cl fp => (hb s H C cl fp).2.2.2.1) (fun s H C cl fp => (hb s H C cl fp).2.2.2.2.1) (fun s H C cl fp => (hb s H C cl fp).2.2.2.2.2) (set_plain hpl X.env) (fun env => set_plain hpl1 env)) fun E σ H h => by
    obtain ⟨C, B0, H0, ρ, S, B, r, q⟩ := h
    refine post_lc2 his his1 htm ?_
    exact rd_bindS r q fun d S1 v H1 B1 r1 n1 x1 p1 => p1 _ B1 H1 (r1.set i x1) fun _ _ h => h
end Pv
namespace Pv
open PySem PySem.Spec PyProof.Rows L2
variable {Γ : Gm} {X : Cx} {W : WX} {pos p : Pos}
/-! things of one's own: made, changed, held for good -/
section
variable {C : Option Addr} {B0 H0 B1 H1 B H : Hp} {S S1 : SS} {ρ : Env} {σ : L2.St}
theorem Ext.free {a : Addr} (e : Ext C H H1) (h : H1 a = none) : H a = none := by
  cases q : H a with
  | none => rfl
  | some u => exact absurd h (e.there a (by rw [q]; simp))
theorem sub_none {a : Addr} (s : Sub B H) (h : H a = none) : B a = none := by
  cases q : B a with
  | none => rfl
  | some u => rw [s _ _ q] at h; cases h
/-- a slot is filled -/
theorem Rel.setS {i : Nat} {s : Slot} {v : V} (r : Rel Γ C B0 H0 ρ S σ B H) (h : SlotOk Γ.K C H0 B H s (some (some v)))
    (hd : s.isOwn = true → ∀ (j : Nat) (a : Addr), i ≠ j → (ρ.getD j .none).isOwn = true → σ[j]? = some (some (V.ref a)) → v ≠ .ref a) : Rel Γ C B0 H0 (ρ.set i s) S (σ.set i (some v)) B H := by
  have out : ∀ {j : Nat}, ¬ (i = j ∧ i < ρ.length) → (ρ.getD j .none).isOwn = true → i ≠ j := fun {j} nj hj z => by
    subst z
    rw [List.getD_eq_getElem?_getD, List.getElem?_eq_none (by have : ¬ i < ρ.length := fun hl => nj ⟨rfl, hl⟩; omega)] at hj
    cases hj
  refine ⟨r.nx, by rw [List.length_set, List.length_set]; exact r.len, fun j => ?_, fun j k a hjk hj hk e1 e2 => ?_⟩
  · rw [getD_set]
    split
    · rename_i z
      obtain ⟨rfl, hl⟩ := z
      rw [List.getElem?_set_self (by rw [← r.len]; exact hl)]
      exact h
    · rename_i z
      by_cases e : i = j
      · subst e
        have e0 : ρ.getD i .none = .none := by
          rw [List.getD_eq_getElem?_getD, List.getElem?_eq_none (by have : ¬ i < ρ.length := fun hl => z ⟨rfl, hl⟩; omega)]
          rfl
        rw [e0]
        trivial
      · rw [List.getElem?_set_ne e]
        exact r.slot j
  · rw [getD_set] at hj hk
    by_cases cj : i = j ∧ i < ρ.length
    · rw [if_pos cj] at hj
      have ck : ¬ (i = k ∧ i < ρ.length) := fun z => hjk (cj.1.symm.trans z.1)
      rw [if_neg ck] at hk
      have nk := out ck hk
      rw [List.getElem?_set_ne nk] at e2
      obtain ⟨rfl, hl⟩ := cj
      rw [List.getElem?_set_self (by rw [← r.len]; exact hl)] at e1
      exact hd hj k a nk hk e2 (by simpa using e1)
    · rw [if_neg cj] at hj
      have nj := out cj hj
      rw [List.getElem?_set_ne nj] at e1
      by_cases ck : i = k ∧ i < ρ.length
      · rw [if_pos ck] at hk
        obtain ⟨rfl, hl⟩ := ck
        rw [List.getElem?_set_self (by rw [← r.len]; exact hl)] at e2
        exact hd hk j a nj hj e1 (by simpa using e2)
      · rw [if_neg ck] at hk
        rw [List.getElem?_set_ne (out ck hk)] at e2
        exact r.dis j k a hjk hj hk e1 e2
/-- one's own list at slot i is changed -/
theorem Rel.chg {i : Nat} {s : Slot} {a : Addr} {o : HO} (r : Rel Γ C B0 H0 ρ S σ B H) (hs : (ρ.getD i .none).isOwn = true) (hσ : σ[i]? = some (some (V.ref a))) (h0 : H0 a = none) (hB : B a = none) (hC : C ≠ some a) (hp : ∀ u, H a = some u → Plain u) (lo : LenOk o)
    (h : SlotOk Γ.K C H0 B (upd H a o) s (some (some (V.ref a)))) (ho : s.isOwn = true) : Rel Γ C B0 H0 (ρ.set i s) S σ B (upd H a o) := by
  have n := r.nx.put h0 hB hC hp lo
  refine ⟨n, by rw [List.length_set]; exact r.len, fun j => ?_, fun j k b hjk hj hk e1 e2 => ?_⟩
  · rw [getD_set]
    split
    · rename_i z
      rw [← z.1, hσ]
      exact h
    · rename_i z
      by_cases e : i = j
      · subst e
        have : ρ.getD i .none = .none := by
          rw [List.getD_eq_getElem?_getD, List.getElem?_eq_none (by have : ¬ i < ρ.length := fun hl => z ⟨rfl, hl⟩; omega)]
          rfl
        rw [this] at hs
        cases hs
      · have q := r.slot j
        have nj : ∀ b, (ρ.getD j .none).isOwn = true → σ[j]? = some (some (V.ref b)) → b ≠ a := fun b hb hσ' z => by
          subst z
          exact r.dis i j b e hs hb hσ hσ'
        cases es : ρ.getD j .none with
        | none => trivial
        | val d => rw [es] at q; exact q
        | cell => rw [es] at q; exact q
        | scr ds => rw [es] at q; exact q
        | own ds =>
          rw [es] at q nj
          obtain ⟨b, xs, e1, z0, z1, z2, hb, rb⟩ := q
          exact ⟨b, xs, e1, z0, z1, z2, by rw [upd_ne (nj b rfl e1)]; exact hb, rb⟩
        | ownd ds =>
          rw [es] at q nj
          obtain ⟨b, xs, e1, z0, z1, z2, hb, kb, rb⟩ := q
          exact ⟨b, xs, e1, z0, z1, z2, by rw [upd_ne (nj b rfl e1)]; exact hb, kb, rb⟩
        | lockd ds =>
          rw [es] at q nj
          obtain ⟨b, xs, e1, z0, z1, z2, ⟨od, hb⟩, kb, rb⟩ := q
          exact ⟨b, xs, e1, z0, z1, z2, ⟨od, by rw [upd_ne (nj b rfl e1)]; exact hb⟩, kb, rb⟩
  · have own : ∀ {j : Nat}, ((ρ.set i s).getD j .none).isOwn = true → (ρ.getD j .none).isOwn = true := fun {j} hj => by
      rw [getD_set] at hj
      split at hj
      · rename_i z
        rw [← z.1]
        exact hs
      · exact hj
    exact r.dis j k b hjk (own hj) (own hk) e1 e2
/-- one's own thing at slot i is held for good from now on -/
theorem Rel.keep {i : Nat} {d : D} {a : Addr} {o : HO} (r : Rel Γ C B0 H0 ρ S σ B H) (hs : (ρ.getD i .none).isOwn = true) (hσ : σ[i]? = some (some (V.ref a))) (h0 : H0 a = none) (hB : B a = none) (hC : C ≠ some a) (hH : H a = some o)
    (h : Rp Γ.K (upd B a o) (V.ref a) d) (nt : ∀ ps, o ≠ .tbl ps := by intro _ z; cases z) : Rel Γ C B0 H0 (ρ.set i (.val d)) S σ (upd B a o) H := by
  have n := r.nx.freeze h0 hB hC hH nt
  have s : Sub B (upd B a o) := sub_upd hB
  refine ⟨n, by rw [List.length_set]; exact r.len, fun j => ?_, fun j k b hjk hj hk e1 e2 => ?_⟩
  · rw [getD_set]
    split
    · rename_i z
      rw [← z.1, hσ]
      exact ⟨_, rfl, h⟩
    · rename_i z
      by_cases e : i = j
      · subst e
        have : ρ.getD i .none = .none := by
          rw [List.getD_eq_getElem?_getD, List.getElem?_eq_none (by have : ¬ i < ρ.length := fun hl => z ⟨rfl, hl⟩; omega)]
          rfl
        rw [this] at hs
        cases hs
      · have q := r.slot j
        have nj : ∀ b, (ρ.getD j .none).isOwn = true → σ[j]? = some (some (V.ref b)) → b ≠ a := fun b hb hσ' z => by
          subst z
          exact r.dis i j b e hs hb hσ hσ'
        cases es : ρ.getD j .none with
        | none => trivial
        | val d =>
          rw [es] at q
          obtain ⟨v, e1, rv⟩ := q
          exact ⟨v, e1, rv.up s⟩
        | cell => rw [es] at q; exact q
        | scr ds =>
          rw [es] at q
          obtain ⟨b, xs, e1, hb, rb⟩ := q
          exact ⟨b, xs, e1, s.sqL hb, rb.up s⟩
        | own ds =>
          rw [es] at q nj
          obtain ⟨b, xs, e1, z0, z1, z2, hb, rb⟩ := q
          exact ⟨b, xs, e1, z0, by rw [upd_ne (nj b rfl e1)]; exact z1, z2, hb, rb.up s⟩
        | ownd ds =>
          rw [es] at q nj
          obtain ⟨b, xs, e1, z0, z1, z2, hb, kb, rb⟩ := q
          exact ⟨b, xs, e1, z0, by rw [upd_ne (nj b rfl e1)]; exact z1, z2, hb, kb, rb.up s⟩
        | lockd ds =>
          rw [es] at q nj
          obtain ⟨b, xs, e1, z0, z1, z2, hb, kb, rb⟩ := q
          exact ⟨b, xs, e1, z0, by rw [upd_ne (nj b rfl e1)]; exact z1, z2, hb, kb, rb.up s⟩
  · have own : ∀ {j : Nat}, ((ρ.set i (.val d)).getD j .none).isOwn = true → (ρ.getD j .none).isOwn = true := fun {j} hj => by
      rw [getD_set] at hj
      split at hj
      · cases hj
      · exact hj
    exact r.dis j k b hjk (own hj) (own hk) e1 e2
/-- the shared cell is written -/
theorem Rel.cellW {c : Addr} {xs : List V} {ds : List D} (r : Rel Γ C B0 H0 ρ S σ B H) (hc : C = some c) (hH : ∃ o, H c = some o ∧ Plain o) (hl : xs.length ≤ sizeLine) (h : RpAll Γ.K B xs ds) : Rel Γ C B0 H0 ρ (some ds) σ B (upd H c (.lst xs)) := by
  subst hc
  obtain ⟨o, hH, pl⟩ := hH
  have n := r.nx
  have hBc : B c = none := by
    have ce := n.ce
    unfold CellOk at ce
    split at ce
    · rename_i e; cases e
    · rename_i e; cases e; exact ce.1
    · exact ce.elim
  have nB : ∀ a u, B a = some u → a ≠ c := fun a u e z => by subst z; rw [hBc] at e; cases e
  refine ⟨⟨n.sb, fun a u e => by rw [upd_ne (nB a u e)]; exact n.sh a u e, ⟨fun a u e c' t => ?_, fun a h => ?_⟩, n.nw, ⟨hBc, xs, upd_same, h⟩, fun q hq => ?_, fun a u e => ?_, fun a ps e => ?_⟩, r.len, fun j => ?_, r.dis⟩
  · rw [upd_ne (fun z => c' (by rw [z]))]
    exact n.ex.keep a u e c' t
  · by_cases e : a = c
    · subst e; rw [upd_same]; simp
    · rw [upd_ne e]; exact n.ex.there a h
  · obtain ⟨ps, e1, e2, e3⟩ := n.tb q hq
    refine ⟨ps, ?_, e2, fun ps' cv hcv => ?_⟩
    · rw [upd_ne (fun z => by rw [z, hH] at e1; cases e1; exact pl)]
      exact e1
    · obtain ⟨c', h1, h2⟩ := e3 ps' cv hcv
      refine ⟨c', h1, ?_⟩
      rw [upd_ne (fun z => by rw [z, hH] at h2; cases h2; exact pl)]
      exact h2
  · by_cases hb : a = c
    · subst hb; rw [upd_same] at e; cases e; exact hl
    · rw [upd_ne hb] at e; exact n.ln a u e
  · by_cases hb : a = c
    · subst hb; rw [upd_same] at e; cases e
    · rw [upd_ne hb] at e; exact n.tc a ps e
  · have q := r.slot j
    cases es : ρ.getD j .none with
    | none => trivial
    | val d => rw [es] at q; exact q
    | cell => rw [es] at q; exact q
    | scr ds => rw [es] at q; exact q
    | own ds =>
      rw [es] at q
      obtain ⟨b, xs, e1, z0, z1, z2, hb, rb⟩ := q
      exact ⟨b, xs, e1, z0, z1, z2, by rw [upd_ne (fun z => z2 (by rw [z]))]; exact hb, rb⟩
    | ownd ds =>
      rw [es] at q
      obtain ⟨b, xs, e1, z0, z1, z2, hb, kb, rb⟩ := q
      exact ⟨b, xs, e1, z0, z1, z2, by rw [upd_ne (fun z => z2 (by rw [z]))]; exact hb, kb, rb⟩
    | lockd ds =>
      rw [es] at q
      obtain ⟨b, xs, e1, z0, z1, z2, ⟨od, hb⟩, kb, rb⟩ := q
      exact ⟨b, xs, e1, z0, z1, z2, ⟨od, by rw [upd_ne (fun z => z2 (by rw [z]))]; exact hb⟩, kb, rb⟩
end
/-! new things of one's own -/
/-- what is new at a -/
def NewAt (Γ : Gm) (C : Option Addr) (B H B' H' : Hp) (v : V) : D → Prop
  | .list ds => ∃ a xs, v = .ref a ∧ H a = none ∧ B' a = none ∧ C ≠ some a ∧ H' a = some (.lst xs) ∧ RpAll Γ.K B' xs ds
  | .dict es => ∃ a kvs, v = .ref a ∧ H a = none ∧ B' a = none ∧ C ≠ some a ∧ H' a = some (.dK kvs) ∧ es.map (·.1) = kvs.map (fun kv => keyD kv.1) ∧ RpAll Γ.K B' (kvs.map (·.2)) (es.map (·.2))
  | _ => False
def newD : D → Bool
  | .list _ => true
  | .dict _ => true
  | _ => false
def PostN (Γ : Gm) (C : Option Addr) (W : WX) (σ : L2.St) (B H : Hp) (Q : VK) : Res D → Prop
  | .ok d S' => newD d = true ∧ ∀ v H' B', Nxt Γ C B H S' B' H' → NewAt Γ C B H B' H' v d → Q v H'
  | .exc k S' => ∀ H' B', Nxt Γ C B H S' B' H' → W (Γ.cls k) none σ H'
  | .bad => False
/-- an expression that makes a new list or dict -/
def rdF (Γ : Gm) (W : WX) (m : ME) : TE := fun σ H Q => ∃ C B0 H0 ρ S B, Rel Γ C B0 H0 ρ S σ B H ∧ PostN Γ C W σ B H Q (m ρ S)
theorem PostN.lst {C : Option Addr} {σ : L2.St} {B H B1 H1 : Hp} {S1 : SS} {Q : VK} {xs : List V} {ds : List D} (q : PostN Γ C W σ B H Q (.ok (.list ds) S1)) (n0 : Nxt Γ C B H S1 B1 H1) (r : RpAll Γ.K B1 xs ds) (hz : ds.length ≤ sizeLine) : ∀ p, H1 p = none → Q (.ref p) (upd H1 p (.lst xs)) := fun p np => by
  have f := n0.ex.free np
  have nC := n0.here.cell_ne np
  have nB := sub_none n0.sh np
  have n := n0.put (o := .lst xs) f nB nC (fun u e => by rw [np] at e; cases e) (by show xs.length ≤ sizeLine; rw [r.len]; exact hz)
  exact q.2 _ _ _ n ⟨p, xs, rfl, f, nB, nC, upd_same, r⟩
theorem d_lstF {n : Nat} {es : List Expr} {m : MA} (h : PA X es (rdN Γ W n m)) (hn : n ≤ 1000) : PE X (.List es pos) (rdF Γ W (vLst m)) :=
  PE.imp (pe_lst h) fun σ H Q ⟨C, B0, H0, ρ, S, B, r, q⟩ => by
    refine ⟨C, B0, H0, ρ, S, B, r, ?_⟩
    unfold vLst at q
    rw [bind_at] at q
    cases e : m ρ S with
    | ok d S' =>
      rw [e] at q
      exact fun v H' B' n' x => ⟨by rw [x.1.len, x.2]; exact thousand hn, PostN.lst q n' x.1 (by rw [x.2]; exact thousand hn)⟩
    | exc k S' => rw [e] at q; exact q
    | bad => rw [e] at q; exact q
theorem d_dictF : PE X (.Dict [] [] pos) (rdF Γ W (vC (.dict []))) :=
  PE.imp pe_dnewK fun σ H Q ⟨C, B0, H0, ρ, S, B, r, q⟩ => fun p np => by
    have n0 := r.nx.here
    have nC := n0.cell_ne np
    have nB := sub_none n0.sh np
    exact q.2 _ _ _ (n0.put (o := .dK []) np nB nC (fun u e => by rw [np] at e; cases e) trivial) ⟨p, [], rfl, np, nB, nC, upd_same, rfl, .nil⟩
theorem rd_bindN {R : RR} {C : Option Addr} {σ : L2.St} {B H B0 H0 : Hp} {S : SS} {ρ : Env} {m : ME} {f : D → M D} {Q Q' : VK} (r : Rel Γ C B0 H0 ρ S σ B H) (h : PostN Γ C W σ B H Q ((m ρ >>= f) S))
    (k : ∀ d S1 v H1 B1, Rel Γ C B0 H0 ρ S1 σ B1 H1 → Nxt Γ C B H S1 B1 H1 → R Γ C B1 H1 v d → PostN Γ C W σ B H Q (f d S1) → Q' v H1) : rd R Γ W m σ H Q' := by
  refine ⟨C, B0, H0, ρ, S, B, r, ?_⟩
  rw [bind_at] at h
  cases e : m ρ S with
  | ok d S' => rw [e] at h; exact fun v H' B' n x => k d S' v H' B' (r.up n) n x h
  | exc j S' => rw [e] at h; exact h
  | bad => rw [e] at h; exact h
/-- [x, ..] * n -/
theorem d_repF {a b : Expr} {ma mb : ME} (ha : PE X a (rdE Γ W ma)) (hb : PE X b (rdE Γ W mb)) : PE X (.BinOp a .Mult b pos) (rdF Γ W (v2 mulD ma mb)) :=
  PE.imp (pe_op op_mulL ha hb) fun σ H Q ⟨C, B0, H0, ρ, S, B, r0, q⟩ => by
    refine ⟨C, B0, H0, ρ, S, B, r0, ?_⟩
    unfold v2 at q
    rw [bind_at] at q
    cases e : ma ρ S with
    | exc k S' => rw [e] at q; exact q
    | bad => rw [e] at q; exact q
    | ok d S1 =>
      rw [e] at q
      intro v H1 B1 n1 x1
      refine ⟨C, B0, H0, ρ, S1, B1, r0.up n1, ?_⟩
      have q : PostN Γ C W σ B H Q ((mb ρ >>= mulD d) S1) := q
      rw [bind_at] at q
      cases e2 : mb ρ S1 with
      | exc k S' => rw [e2] at q; exact fun H' B' n => q H' B' (n1.trans n)
      | bad => rw [e2] at q; exact q
      | ok d2 S2 =>
        rw [e2] at q
        intro u H2 B2 n2 x2
        have n := n1.trans n2
        have x1 := x1.up n2.sb
        have q : PostN Γ C W σ B H Q (mulD d d2 S2) := q
        unfold mulD at q
        split at q
        · split at q
          · exact (Bool.false_ne_true q.1).elim
          · exact q.elim
        · split at q
          · rename_i h
            cases x1 with
            | lst ha ra =>
              cases x2
              refine .inr ⟨_, _, _, rfl, rfl, n2.sh _ _ ha, h.1, h.2.1, by rw [ra.len]; exact h.2.2, PostN.lst q n (flat_up ra _) (by rw [flat_len]; have := h.2.2; rw [Nat.mul_comm]; exact this)⟩
          · exact q.elim
        · split at q
          · exact (Bool.false_ne_true q.1).elim
          · split at q
            · exact (Bool.false_ne_true q.1).elim
            · exact q.elim
        · exact q.elim
end Pv
namespace Pv
open PySem PySem.Spec PyProof.Rows L2
variable {Γ : Gm} {X : Cx} {W : WX} {pos p : Pos}
/-! statements about one's own things -/
/-- a slot's new content, by a value that was just made: held for good, or one's own -/
abbrev MSl := Env → M Slot
def ownSl : D → M Slot
  | .list ds => pure (.own ds)
  | .dict es => pure (.ownd es)
  | _ => bad
def PostSl (Γ : Gm) (C : Option Addr) (W : WX) (σ : L2.St) (H0 B H : Hp) (Q : VK) : Res Slot → Prop
  | .ok s S' => ∀ v H' B', Nxt Γ C B H S' B' H' → SlotOk Γ.K C H0 B' H' s (some (some v)) → (s.isOwn = true → ∃ a, v = .ref a ∧ H a = none) → Q v H'
  | .exc k S' => ∀ H' B', Nxt Γ C B H S' B' H' → W (Γ.cls k) none σ H'
  | .bad => False
def rdSl (Γ : Gm) (W : WX) (m : MSl) : TE := fun σ H Q => ∃ C B0 H0 ρ S B, Rel Γ C B0 H0 ρ S σ B H ∧ PostSl Γ C W σ H0 B H Q (m ρ S)
def slV (me : ME) : MSl := fun ρ => me ρ >>= fun d => pure (.val d)
def slN (me : ME) : MSl := fun ρ => me ρ >>= ownSl
theorem d_slV {e : Expr} {me : ME} (h : PE X e (rdE Γ W me)) : PE X e (rdSl Γ W (slV me)) := PE.imp h fun σ H Q ⟨C, B0, H0, ρ, S, B, r, q⟩ => by
  refine ⟨C, B0, H0, ρ, S, B, r, ?_⟩
  unfold slV at q
  rw [bind_at] at q
  cases e : me ρ S with
  | ok d S' => rw [e] at q; exact fun v H' B' n x => q v H' B' n ⟨v, rfl, x⟩ (fun z => by cases z)
  | exc k S' => rw [e] at q; exact q
  | bad => rw [e] at q; exact q
theorem d_slN {e : Expr} {me : ME} (h : PE X e (rdF Γ W me)) : PE X e (rdSl Γ W (slN me)) := PE.imp h fun σ H Q ⟨C, B0, H0, ρ, S, B, r, q⟩ => by
  refine ⟨C, B0, H0, ρ, S, B, r, ?_⟩
  unfold slN at q
  rw [bind_at] at q
  cases e : me ρ S with
  | exc k S' => rw [e] at q; exact q
  | bad => rw [e] at q; exact q
  | ok d S' =>
    rw [e] at q
    cases d with
    | list ds =>
      refine ⟨rfl, fun v H' B' n x => ?_⟩
      obtain ⟨a, xs, rfl, h1, h2, h3, h4, h5⟩ := x
      exact q _ H' B' n ⟨a, xs, rfl, r.nx.ex.free h1, h2, h3, h4, h5⟩ fun _ => ⟨a, rfl, h1⟩
    | dict es =>
      refine ⟨rfl, fun v H' B' n x => ?_⟩
      obtain ⟨a, xs, rfl, h1, h2, h3, h4, h5, h6⟩ := x
      exact q _ H' B' n ⟨a, xs, rfl, r.nx.ex.free h1, h2, h3, h4, h5, h6⟩ fun _ => ⟨a, rfl, h1⟩
    | _ => exact q.elim
section
variable {C : Option Addr} {B0 H0 Bs B1 H1 B H : Hp} {S : SS} {ρ : Env} {σ : L2.St} {E : Ends}
theorem own_there (r : Rel Γ C B0 H0 ρ S σ B H) {j : Nat} {a : Addr} (h : (ρ.getD j .none).isOwn = true) (hσ : σ[j]? = some (some (V.ref a))) : H a ≠ none := by
  have q := r.slot j
  cases es : ρ.getD j .none with
  | own ds =>
    rw [es] at q
    obtain ⟨b, xs, e1, _, _, _, hb, _⟩ := q
    rw [hσ] at e1
    cases e1
    rw [hb]; simp
  | ownd ds =>
    rw [es] at q
    obtain ⟨b, xs, e1, _, _, _, hb, _⟩ := q
    rw [hσ] at e1
    cases e1
    rw [hb]; simp
  | lockd ds =>
    rw [es] at q
    obtain ⟨b, xs, e1, _, _, _, ⟨od, hb⟩, _⟩ := q
    rw [hσ] at e1
    cases e1
    rw [hb]; simp
  | _ => rw [es] at h; cases h
theorem rd_bindSl {m : MSl} {f : Slot → M Fl} {Q : VK} (r : Rel Γ C B0 H0 ρ S σ B H) (h : PostS Γ C W B0 H0 B E ((m ρ >>= f) S))
    (k : ∀ s S1 v H1 B1, Rel Γ C B0 H0 ρ S1 σ B1 H1 → Nxt Γ C B H S1 B1 H1 → SlotOk Γ.K C H0 B1 H1 s (some (some v)) → (s.isOwn = true → ∃ a, v = .ref a ∧ H a = none) → PostS Γ C W B0 H0 B1 E (f s S1) → Q v H1) : rdSl Γ W m σ H Q := by
  refine ⟨C, B0, H0, ρ, S, B, r, ?_⟩
  rw [bind_at] at h
  cases e : m ρ S with
  | ok d S' => rw [e] at h; exact fun v H' B' n x y => k d S' v H' B' (r.up n) n x y (h.up n.sb)
  | exc j S' => rw [e] at h; exact fun H' B' n => h σ B' H' (r.nx.trans n)
  | bad => rw [e] at h; exact h
end
def sNew (i : Nat) (m : MSl) : MS := fun ρ => m ρ >>= fun s => pure (.nx (ρ.set i s))
theorem d_new {i : Nat} {x : Str} {e : Expr} {m : MSl} {q : Pos} (hN : X.N.Nodup) (hi : X.N[i]? = some x) (hx : Loc X.env.scope x) (hf : X.fn x = true ∨ X.env.scope.names.lookup x = some .local) (hp : notComp e = true) (h : PE X e (rdSl Γ W m)) :
    PS X (.Assign [.Name x q] e pos) (rdS Γ W (sNew i m)) := PS.imp (ps_set hN hi hx h (swap_plain hp _ _ _) hf) fun E σ H ⟨C, B0, H0, ρ, S, B, r, q⟩ =>
  rd_bindSl r q fun s S1 v H1 B1 r1 n1 x1 f1 p1 => p1 _ B1 H1 (r1.setS x1 fun hs j a _ hj hσ z => by
    obtain ⟨b, rfl, hb⟩ := f1 hs
    cases z
    exact own_there r hj hσ hb) fun _ _ h => h
def sParN (i j : Nat) (ma mb : MSl) : MS := fun ρ => ma ρ >>= fun s => mb ρ >>= fun t => pure (.nx ((ρ.set i s).set j t))
theorem d_parN {i j : Nat} {x y : Str} {a b : Expr} {ma mb : MSl} {px py pt pt2 : Pos} {kt k2 : Nat} (hc : X.calm = true) (hN : X.N.Nodup) (hi : X.N[i]? = some x) (hj : X.N[j]? = some y) (hij : i ≠ j)
    (hx : X.env.scope.names.lookup x = some .local) (hy : X.env.scope.names.lookup y = some .local) (ha : PE X a (rdSl Γ W ma)) (hb : PE X b (rdSl Γ W mb)) (hf : plainE a = true) (hf2 : plainE b = true)
    (hw : swappedStores [.Tuple [.Name x px, .Name y py] kt pt] (.Tuple [a, b] k2 pt2) X.env = pure (some [x, y])) :
    PS X (.Assign [.Tuple [.Name x px, .Name y py] kt pt] (.Tuple [a, b] k2 pt2) pos) (rdS Γ W (sParN i j ma mb)) :=
  PS.imp (ps_par hc hN hi hj hij hx hy (pa_cons ha (pa_cons hb pa_nil (star_plain hf2 [] X.env)) (star_plain hf [b] X.env)) hw rfl) fun E σ H ⟨C, B0, H0, ρ, S, B, r, q⟩ =>
    rd_bindSl r q fun s S1 v H1 B1 r1 n1 x1 f1 p1 => rd_bindSl r1 p1 fun t S2 u H2 B2 r2 n2 x2 f2 p2 => by
      have vth : s.isOwn = true → ∃ a, v = .ref a ∧ H a = none ∧ H1 a ≠ none := fun hs => by
        obtain ⟨a, rfl, ha⟩ := f1 hs
        refine ⟨a, rfl, ha, ?_⟩
        cases s with
        | own ds =>
          obtain ⟨b, xs, e1, _, _, _, hb, _⟩ := x1
          cases e1
          rw [hb]; simp
        | ownd ds =>
          obtain ⟨b, xs, e1, _, _, _, hb, _⟩ := x1
          cases e1
          rw [hb]; simp
        | lockd ds =>
          obtain ⟨b, xs, e1, _, _, _, ⟨od, hb⟩, _⟩ := x1
          cases e1
          rw [hb]; simp
        | _ => cases hs
      refine ⟨v, u, rfl, p2 _ B2 H2 ((r2.setS (i := i) (x1.up n2) fun hs k a _ hk hσ z => ?_).setS (i := j) x2 fun ht k a hjk hk hσ z => ?_) fun _ _ h => h⟩
      · obtain ⟨a', rfl, ha', _⟩ := vth hs
        cases z
        exact own_there r hk hσ ha'
      · obtain ⟨a', rfl, ha'⟩ := f2 ht
        cases z
        rw [getD_set] at hk
        by_cases ck : i = k ∧ i < ρ.length
        · rw [if_pos ck] at hk
          obtain ⟨rfl, hl⟩ := ck
          rw [List.getElem?_set_self (by rw [← r.len]; exact hl)] at hσ
          obtain ⟨a2, rfl, _, h2⟩ := vth hk
          cases hσ
          exact h2 ha'
        · rw [if_neg ck] at hk
          by_cases e : i = k
          · subst e
            rw [List.getD_eq_getElem?_getD, List.getElem?_eq_none (by have : ¬ i < ρ.length := fun hl => ck ⟨rfl, hl⟩; omega)] at hk
            cases hk
          · rw [List.getElem?_set_ne e] at hσ
            exact own_there r1 hk hσ ha'
/-- one's own list is held for good from here on -/
def sKeep (i : Nat) (m : MS) : MS := fun ρ => match ρ.getD i .none with
  | .own ds => m (ρ.set i (.val (.list ds)))
  | .ownd es => m (ρ.set i (.val (.dict es)))
  | _ => m ρ
theorem rdS_keep {i : Nat} {m : MS} {E : Ends} {σ : L2.St} {H : Hp} (h : rdS Γ W (sKeep i m) E σ H) : rdS Γ W m E σ H := by
  obtain ⟨C, B0, H0, ρ, S, B, r, q⟩ := h
  unfold sKeep at q
  cases e : ρ.getD i .none with
  | own ds =>
    rw [e] at q
    obtain ⟨a, xs, e1, z0, z1, z2, hb, rb⟩ := r.at e
    exact ⟨C, B0, H0, _, S, _, r.keep (by rw [e]; rfl) e1 z0 z1 z2 hb (.lst upd_same (rb.up (sub_upd z1))), q.up (sub_upd z1)⟩
  | ownd es =>
    rw [e] at q
    obtain ⟨a, xs, e1, z0, z1, z2, hb, kb, rb⟩ := r.at e
    exact ⟨C, B0, H0, _, S, _, r.keep (by rw [e]; rfl) e1 z0 z1 z2 hb (.dct upd_same kb (rb.up (sub_upd z1))), q.up (sub_upd z1)⟩
  | none => rw [e] at q; exact ⟨C, B0, H0, ρ, S, B, r, q⟩
  | val d => rw [e] at q; exact ⟨C, B0, H0, ρ, S, B, r, q⟩
  | cell => rw [e] at q; exact ⟨C, B0, H0, ρ, S, B, r, q⟩
  | lockd es => rw [e] at q; exact ⟨C, B0, H0, ρ, S, B, r, q⟩
  | scr ds => rw [e] at q; exact ⟨C, B0, H0, ρ, S, B, r, q⟩
theorem d_keep {i : Nat} {st : Stmt} {m : MS} (h : PS X st (rdS Γ W m)) : PS X st (rdS Γ W (sKeep i m)) := PS.imp h fun _ _ _ q => rdS_keep q
theorem d_keeps {i : Nat} {st : List Stmt} {m : MS} (h : PSs X st (rdS Γ W m)) : PSs X st (rdS Γ W (sKeep i m)) := PSs.imp h fun _ _ _ q => rdS_keep q
/-- x.append(e) -/
def ownL (ρ : Env) (i : Nat) : M (List D) := match ρ.getD i .none with
  | .own ds => pure ds
  | _ => bad
def sApp (i : Nat) (me : ME) : MS := fun ρ => ownL ρ i >>= fun ds => me ρ >>= fun d => if ds.length < sizeLine then pure (.nx (ρ.set i (.own (ds ++ [d])))) else bad
theorem ownL_bind {C : Option Addr} {B0 H0 Bs B H : Hp} {S : SS} {ρ : Env} {σ : L2.St} {E : Ends} {i : Nat} {f : List D → M Fl} (r : Rel Γ C B0 H0 ρ S σ B H) (q : PostS Γ C W B0 H0 Bs E ((ownL ρ i >>= f) S)) :
    ∃ ds a xs, (ρ.getD i .none).isOwn = true ∧ σ[i]? = some (some (V.ref a)) ∧ H0 a = none ∧ B a = none ∧ C ≠ some a ∧ H a = some (.lst xs) ∧ RpAll Γ.K B xs ds ∧ ρ.getD i .none = .own ds ∧ PostS Γ C W B0 H0 Bs E (f ds S) := by
  unfold ownL at q
  cases e : ρ.getD i .none with
  | own ds =>
    rw [e] at q
    obtain ⟨a, xs, e1, z0, z1, z2, hb, rb⟩ := r.at e
    exact ⟨ds, a, xs, rfl, e1, z0, z1, z2, hb, rb, rfl, q⟩
  | _ => rw [e] at q; exact q.elim
theorem Rel.lst {C : Option Addr} {B0 H0 B H : Hp} {S : SS} {ρ : Env} {σ : L2.St} {i : Nat} {a : Addr} {xs vs : List V} {ds : List D} (r : Rel Γ C B0 H0 ρ S σ B H) (hs : (ρ.getD i .none).isOwn = true) (hσ : σ[i]? = some (some (V.ref a))) (h0 : H0 a = none) (hB : B a = none) (hC : C ≠ some a)
    (hH : H a = some (.lst xs)) (rv : RpAll Γ.K B vs ds) (hz : ds.length ≤ sizeLine) : Rel Γ C B0 H0 (ρ.set i (.own ds)) S σ B (upd H a (.lst vs)) :=
  r.chg hs hσ h0 hB hC (fun u e => by rw [hH] at e; cases e; trivial) (by show vs.length ≤ sizeLine; rw [rv.len]; exact hz) ⟨a, vs, rfl, h0, hB, hC, upd_same, rv⟩ rfl
theorem d_app {i : Nat} {x : Str} {e : Expr} {me : ME} {p1 apos cpos : Pos} (hN : X.N[i]? = some x) (hv : Vis X.env.scope x) (hd : (x == ("__debug__" : Str)) = false) (hc : (x == ("__classdict__" : Str)) = false) (h : PE X e (rdE Γ W me)) (hf : plainE e = true) (hl : (apos.endLine == cpos.line) = true) :
    PS X (.Expr (.Call (.Attribute (.Name x p1) "append" apos) [e] [] cpos) pos) (rdS Γ W (sApp i me)) :=
  PS.imp (ps_expr (pe_bm PySem.F.plainAttrs_list PySem.F.slot_list_append PySem.F.type_list_append mt_append (pe_var hN hv hd hc) (pa_cons h pa_nil (star_plain hf [] X.env)) rfl (by rw [star_plain hf]; rfl) hl (star_plain hf [] X.env) rfl) rfl) fun E σ H ⟨C, B0, H0, ρ, S, B, r, q⟩ => by
    unfold sApp at q
    obtain ⟨ds, a, xs, hs, hσ, h0, hB, hC, hH, ra, es, q⟩ := ownL_bind r q
    refine ⟨_, hσ, .inl ⟨rfl, xs, .inl (.inl hH)⟩, rd_bindS r q fun d S1 v H1 B1 r1 n1 x1 p1 => ?_⟩
    split at p1
    · rename_i hz
      have hH1 := n1.ex.keep _ _ hH hC (by simp)
      have hB1 := n1.nw a hB (by rw [hH]; simp)
      refine ⟨a, xs, v, rfl, rfl, hH1, by rw [ra.len]; exact hz, ?_⟩
      exact p1 σ B1 _ (r1.lst hs hσ h0 hB1 hC hH1 ((ra.up n1.sb).app (.cons x1 .nil)) (by rw [List.length_append]; exact hz)) fun _ _ h => h
    · exact p1.elim
/-- x.extend(e) -/
def sExt (i : Nat) (me : ME) : MS := fun ρ => ownL ρ i >>= fun ds => me ρ >>= fun d => match d with
  | .list es => if ds.length + es.length ≤ sizeLine then pure (.nx (ρ.set i (.own (ds ++ es)))) else bad
  | _ => bad
theorem d_ext {i : Nat} {x : Str} {e : Expr} {me : ME} {p1 apos cpos : Pos} (hN : X.N[i]? = some x) (hv : Vis X.env.scope x) (hd : (x == ("__debug__" : Str)) = false) (hc : (x == ("__classdict__" : Str)) = false) (h : PE X e (rdT Γ W me)) (hf : plainE e = true) (hl : (apos.endLine == cpos.line) = true) :
    PS X (.Expr (.Call (.Attribute (.Name x p1) "extend" apos) [e] [] cpos) pos) (rdS Γ W (sExt i me)) :=
  PS.imp (ps_expr (pe_bm PySem.F.plainAttrs_list PySem.F.slot_list_extend PySem.F.type_list_extend mt_extend (pe_var hN hv hd hc) (pa_cons h pa_nil (star_plain hf [] X.env)) rfl (by rw [star_plain hf]; rfl) hl (star_plain hf [] X.env) rfl) rfl) fun E σ H ⟨C, B0, H0, ρ, S, B, r, q⟩ => by
    unfold sExt at q
    obtain ⟨ds, a, xs, hs, hσ, h0, hB, hC, hH, ra, es, q⟩ := ownL_bind r q
    refine ⟨_, hσ, .inl ⟨rfl, xs, .inl (.inl hH)⟩, rd_bindS r q fun d S1 v H1 B1 r1 n1 x1 p1 => ?_⟩
    split at p1
    · split at p1
      · rename_i hz
        have hH1 := n1.ex.keep _ _ hH hC (by simp)
        have hB1 := n1.nw a hB (by rw [hH]; simp)
        obtain ⟨b, ys, rfl, hb, rb⟩ := x1.list r1.nx.sh
        refine ⟨a, b, xs, ys, rfl, rfl, hH1, hb, by rw [ra.len, rb.len]; exact hz, ?_⟩
        exact p1 σ B1 _ (r1.lst hs hσ h0 hB1 hC hH1 ((ra.up n1.sb).app rb) (by rw [List.length_append]; exact hz)) fun _ _ h => h
      · exact p1.elim
    · exact p1.elim
/-- t = x.pop() -/
def sPop (tm : TM) (i : Nat) : MS := fun ρ => ownL ρ i >>= fun ds => match ds.getLast? with
  | some d => (match tm d (ρ.set i (.own ds.dropLast)) with
    | some ρ' => pure (.nx ρ')
    | none => bad)
  | none => bad
theorem RpAll.dropLast {K : PySem.W.Frag} {B : Hp} {vs : List V} {ds : List D} (r : RpAll K B vs ds) : RpAll K B vs.dropLast ds.dropLast := by
  rw [List.dropLast_eq_take, List.dropLast_eq_take, r.len]
  exact r.take _
theorem post_pop {i : Nat} {is : List Nat} {tm : TM} {E : Ends} {σ : L2.St} {H : Hp} (h : rdS Γ W (sPop tm i) E σ H) : tAsg (tBM0 Γ.K "list" rPop (tVar i)) (rdP Γ is tm) E σ H := by
  obtain ⟨C, B0, H0, ρ, S, B, r, q⟩ := h
  unfold sPop at q
  obtain ⟨ds, a, xs, hs, hσ, h0, hB, hC, hH, ra, es, q⟩ := ownL_bind r q
  cases hd : ds.getLast? with
  | none => rw [hd] at q; exact q.elim
  | some d =>
    rw [hd] at q
    cases ht : tm d (ρ.set i (.own ds.dropLast)) with
    | none => simp only [ht] at q; exact q.elim
    | some ρ' =>
      simp only [ht] at q
      rw [List.getLast?_eq_getElem?] at hd
      obtain ⟨v, e1, rv⟩ := ra.at hd
      rw [← ra.len] at e1
      have hz := r.nx.ln _ _ hH
      have hz : xs.length ≤ sizeLine := hz
      have r2 := r.lst hs hσ h0 hB hC hH ra.dropLast (by rw [List.length_dropLast, ← ra.len]; omega)
      exact ⟨_, hσ, .inl ⟨rfl, xs, .inl (.inl hH)⟩, a, xs, v, rfl, rfl, hH, e1, C, B0, H0, _, S, B, d, ρ', r2, rv, ht, fun σ' r' _ _ => q σ' B _ r' fun _ _ h => h⟩
theorem d_popN {i j : Nat} {x y : Str} {p1 q apos cpos : Pos} (hK : X.K = Γ.K) (hNd : X.N.Nodup) (hy : X.N[j]? = some y) (hyl : Loc X.env.scope y) (hf : X.fn y = true ∨ X.env.scope.names.lookup y = some .local) (hN : X.N[i]? = some x) (hv : Vis X.env.scope x) (hd : (x == ("__debug__" : Str)) = false) (hc : (x == ("__classdict__" : Str)) = false) (hl : (apos.endLine == cpos.line) = true) :
    PS X (.Assign [.Name y q] (.Call (.Attribute (.Name x p1) "pop" apos) [] [] cpos) pos) (rdS Γ W (sPop (tN j) i)) :=
  PS.imp (ps_asg (pe_bm0 PySem.F.plainAttrs_list PySem.F.slot_list_pop PySem.F.type_list_pop mt_pop (pe_var hN hv hd hc) rfl hl) (d_tn (Γ := Γ) hNd hy hyl hf) rfl rfl rfl) fun _ _ _ q => by
    rw [hK]
    exact post_pop q
theorem d_popT {i : Nat} {x : Str} {es : List Expr} {k : Nat} {tm : TM} {is : List Nat} {p1 q apos cpos : Pos} (hK : X.K = Γ.K) (hg : PG X (.Tuple es k q) (rdP Γ is tm)) (hN : X.N[i]? = some x) (hv : Vis X.env.scope x) (hd : (x == ("__debug__" : Str)) = false) (hc : (x == ("__classdict__" : Str)) = false) (hl : (apos.endLine == cpos.line) = true) :
    PS X (.Assign [.Tuple es k q] (.Call (.Attribute (.Name x p1) "pop" apos) [] [] cpos) pos) (rdS Γ W (sPop tm i)) :=
  PS.imp (ps_asg (pe_bm0 PySem.F.plainAttrs_list PySem.F.slot_list_pop PySem.F.type_list_pop mt_pop (pe_var hN hv hd hc) rfl hl) hg rfl rfl rfl) fun _ _ _ q => by
    rw [hK]
    exact post_pop q
/-- x[k] = e -/
def onSome {α β : Type} (o : Option α) (f : α → M β) : M β := match o with
  | some a => f a
  | none => bad
theorem PostS.some {C : Option Addr} {B0 H0 Bs : Hp} {E : Ends} {α : Type} {o : Option α} {f : α → M Fl} {S : SS} (q : PostS Γ C W B0 H0 Bs E (onSome o f S)) : ∃ a, o = some a ∧ PostS Γ C W B0 H0 Bs E (f a S) := by
  cases o with
  | some a => exact ⟨a, rfl, q⟩
  | none => exact q.elim
def sIxSet (i : Nat) (mk me : ME) : MS := fun ρ => me ρ >>= fun d => ownL ρ i >>= fun ds => mk ρ >>= fun kd => asI kd >>= fun k => onSome (ixN ds.length k) fun j => pure (.nx (ρ.set i (.own (ds.set j d))))
theorem asI_bindS {C : Option Addr} {B0 H0 Bs : Hp} {E : Ends} {d : D} {f : Int → M Fl} {S : SS} (q : PostS Γ C W B0 H0 Bs E ((asI d >>= f) S)) : ∃ i, d = .int i ∧ PostS Γ C W B0 H0 Bs E (f i S) := by
  cases d with
  | int i => exact ⟨i, rfl, q⟩
  | _ => exact q.elim
theorem sub_plain {k : Expr} (h : plainE k = true) (o : Expr) (q : Pos) (env : PySem.Env) (v : Value) : assign (.Subscript o k q) env v = (do
      let ov ← holding [v] (eval o env)
      let iv ← holding [v, ov] (eval k env)
      standAt q
      holding [v, ov, iv] (setItem ov iv v)
      release [v, ov, iv] []) := by
  cases k <;> first | rfl | exact absurd h (by simp [plainE])
theorem d_ixset {i : Nat} {x : Str} {e k : Expr} {mk me : ME} {p1 q : Pos} (hN : X.N[i]? = some x) (hv : Vis X.env.scope x) (hd : (x == ("__debug__" : Str)) = false) (hc : (x == ("__classdict__" : Str)) = false) (hk : PE X k (rdE Γ W mk)) (h : PE X e (rdE Γ W me)) (hp : notComp e = true) (ht : notTup e = true) (hf : plainE k = true) :
    PS X (.Assign [.Subscript (.Name x p1) k q] e pos) (rdS Γ W (sIxSet i mk me)) :=
  PS.imp (ps_asg h (pg_sub (pe_var hN hv hd hc) hk set_list (sub_plain hf _ _ _)) (swap_plain hp (some (.Subscript (.Name x p1) k q)) pos.line X.env) (stores_plain ht X.env) rfl) fun E σ H ⟨C, B0, H0, ρ, S, B, r, q⟩ => by
    refine rd_bindS r q fun d S1 v H1 B1 r1 n1 x1 p1 => ?_
    obtain ⟨ds, a, xs, hs, hσ, h0, hB, hC, hH, ra, es, p1⟩ := ownL_bind r1 p1
    refine ⟨_, hσ, rd_bindS r1 p1 fun kd S2 u H2 B2 r2 n2 x2 p2 => ?_⟩
    obtain ⟨kk, rfl, p3⟩ := asI_bindS p2
    cases x2
    obtain ⟨j, hj, p3⟩ := p3.some
    · have hH2 := n2.ex.keep _ _ hH hC (by simp)
      have hB2 := n2.nw a hB (by rw [hH]; simp)
      have hz : xs.length ≤ sizeLine := r1.nx.ln _ _ hH
      refine ⟨a, xs, kk, j, rfl, rfl, hH2, by rw [ra.len]; exact hj, ?_⟩
      exact p3 σ B2 _ (r2.lst hs hσ h0 hB2 hC hH2 (RpAll.set (x1.up n2.sb) j (ra.up n2.sb)) (by rw [List.length_set, ← ra.len]; exact hz)) fun _ _ h => h
/-! the shared cell -/
def getS : M (List D) := fun s => match s with
  | some ds => .ok ds s
  | none => .bad
def putS (ds : List D) : M Unit := fun _ => .ok () (some ds)
def isCell (ρ : Env) (i : Nat) : M Unit := match ρ.getD i .none with
  | .cell => pure ()
  | _ => bad
def vCell (i : Nat) (mk : ME) : ME := fun ρ => isCell ρ i >>= fun _ => mk ρ >>= fun kd => asI kd >>= fun k => getS >>= fun ds => optM (atI ds k)
def sCell (i : Nat) (mk me : ME) : MS := fun ρ => me ρ >>= fun d => isCell ρ i >>= fun _ => mk ρ >>= fun kd => asI kd >>= fun k => getS >>= fun ds => onSome (ixN ds.length k) fun j => putS (ds.set j d) >>= fun _ => pure (.nx ρ)
theorem cell_of {C : Option Addr} {B H : Hp} {S : SS} {ds : List D} {a : Addr} (n : Nxt Γ C B H S B H) (hc : C = some a) (hS : S = some ds) : ∃ xs, H a = some (.lst xs) ∧ RpAll Γ.K B xs ds := by
  have ce := n.ce
  subst hc
  subst hS
  exact ce.2
theorem d_cellIx {i : Nat} {x : Str} {k : Expr} {mk : ME} {p1 : Pos} (hK : X.K = Γ.K) (hN : X.N[i]? = some x) (hv : Vis X.env.scope x) (hd : (x == ("__debug__" : Str)) = false) (hc : (x == ("__classdict__" : Str)) = false) (hk : PE X k (rdE Γ W mk)) (hf : plainE k = true) :
    PE X (.Subscript (.Name x p1) k pos) (rdE Γ W (vCell i mk)) :=
  PE.imp (pe_ix ix_list (pe_var hN hv hd hc) hk (ix_plain hf)) fun σ H Q ⟨C, B0, H0, ρ, S, B, r, q⟩ => by
    unfold vCell isCell at q
    cases e : ρ.getD i .none with
    | cell =>
      rw [e] at q
      obtain ⟨a, e1, e2⟩ := r.at e
      refine ⟨_, e2, rd_bind r q fun kd S1 v H1 B1 r1 n1 x1 p1 => ?_⟩
      cases kd with
      | int j =>
        cases x1
        cases S1 with
        | none => exact p1.elim
        | some ds =>
          obtain ⟨d, hd', p1⟩ := PostV.opt (S := some ds) (o := atI ds j) p1
          obtain ⟨xs, hH, ra⟩ := cell_of r1.nx.here e1 rfl
          obtain ⟨v, e3, rv⟩ := ra.atI hd'
          exact ⟨a, xs, j, v, rfl, rfl, .inl (.inl hH), e3, p1.val r1.nx.here rv⟩
      | _ => exact p1.elim
    | _ => rw [e] at q; exact q.elim
theorem d_cellSet {i : Nat} {x : Str} {e k : Expr} {mk me : ME} {p1 q : Pos} (hN : X.N[i]? = some x) (hv : Vis X.env.scope x) (hd : (x == ("__debug__" : Str)) = false) (hc : (x == ("__classdict__" : Str)) = false) (hk : PE X k (rdE Γ W mk)) (h : PE X e (rdE Γ W me)) (hp : notComp e = true) (ht : notTup e = true) (hf : plainE k = true) :
    PS X (.Assign [.Subscript (.Name x p1) k q] e pos) (rdS Γ W (sCell i mk me)) :=
  PS.imp (ps_asg h (pg_sub (pe_var hN hv hd hc) hk set_list (sub_plain hf _ _ _)) (swap_plain hp (some (.Subscript (.Name x p1) k q)) pos.line X.env) (stores_plain ht X.env) rfl) fun E σ H ⟨C, B0, H0, ρ, S, B, r, q⟩ => by
    refine rd_bindS r q fun d S1 v H1 B1 r1 n1 x1 p1 => ?_
    unfold isCell at p1
    cases e : ρ.getD i .none with
    | cell =>
      rw [e] at p1
      obtain ⟨a, e1, e2⟩ := r1.at e
      refine ⟨_, e2, rd_bindS r1 p1 fun kd S2 u H2 B2 r2 n2 x2 p2 => ?_⟩
      obtain ⟨kk, rfl, p3⟩ := asI_bindS p2
      cases x2
      cases S2 with
      | none => exact p3.elim
      | some ds =>
        obtain ⟨xs, hH, ra⟩ := cell_of r2.nx.here e1 rfl
        obtain ⟨j, hj, p4⟩ := PostS.some (S := some ds) (o := ixN ds.length kk) (f := fun j => putS (ds.set j d) >>= fun _ => pure (Fl.nx ρ)) p3
        · have hz : xs.length ≤ sizeLine := r2.nx.ln _ _ hH
          refine ⟨a, xs, kk, j, rfl, rfl, hH, by rw [ra.len]; exact hj, ?_⟩
          exact p4 σ B2 _ (r2.cellW e1 ⟨_, hH, trivial⟩ (by rw [List.length_set]; exact hz) (RpAll.set (x1.up n2.sb) j ra)) fun _ _ h => h
    | _ => rw [e] at p1; exact p1.elim
end Pv
namespace Pv
open PySem PySem.Spec PyProof.Rows L2
variable {Γ : Gm} {X : Cx} {W : WX} {pos p : Pos}
/-! a, b = x, y: by way of the pair, where a name is no plain local -/
theorem fm_few {α β : Type} (f : α → Option β) (u v : α) (h : f u = none ∨ f v = none) : ((List.filterMap f [u, v]).length != [u, v].length) = true := by
  rcases h with h | h
  · cases e : f v <;> simp [List.filterMap_cons, h, e]
  · cases e : f u <;> simp [List.filterMap_cons, h, e]
theorem stores_cell {x y : Str} {px py pt pt2 : Pos} {kt k2 : Nat} {a b : Expr} {env : PySem.Env} (h : env.scope.names.lookup x = some .cell ∨ env.scope.names.lookup y = some .cell) : swappedStores [.Tuple [.Name x px, .Name y py] kt pt] (.Tuple [a, b] k2 pt2) env = pure none := by
  have kf : ((some NameKind.cell : Option NameKind) == some NameKind.local) = false := rfl
  unfold swappedStores
  dsimp only
  split
  · rfl
  · split
    · rfl
    · have few := fm_few (fun e : Expr => match e with
        | .Name id pos => if (env.kindOf id == some .local && pos.line == ((([Expr.Name x px, Expr.Name y py] : List Expr).head?.map (·.pos.line)).getD 0)) = true then some id else none
        | _ => none) (Expr.Name x px) (Expr.Name y py) (by
        rcases h with h | h
        · have k : env.kindOf x = some .cell := h
          exact .inl (by simp only [k, kf, Bool.false_and]; rfl)
        · have k : env.kindOf y = some .cell := h
          exact .inr (by simp only [k, kf, Bool.false_and]; rfl))
      rw [if_pos (by
        rw [Bool.or_eq_true]
        exact .inl few)]
theorem d_parC {i j : Nat} {x y : Str} {a b : Expr} {ma mb : MSl} {px py pt pt2 : Pos} {kt k2 : Nat} (hc : X.calm = true) (hN : X.N.Nodup) (hi : X.N[i]? = some x) (hj : X.N[j]? = some y) (hij : i ≠ j)
    (hx : Loc X.env.scope x) (hy : Loc X.env.scope y) (fx : X.fn x = true ∨ X.env.scope.names.lookup x = some .local) (fy : X.fn y = true ∨ X.env.scope.names.lookup y = some .local) (ha : PE X a (rdSl Γ W ma)) (hb : PE X b (rdSl Γ W mb)) (hf : plainE a = true) (hf2 : plainE b = true)
    (hw : X.env.scope.names.lookup x = some .cell ∨ X.env.scope.names.lookup y = some .cell) :
    PS X (.Assign [.Tuple [.Name x px, .Name y py] kt pt] (.Tuple [a, b] k2 pt2) pos) (rdS Γ W (sParN i j ma mb)) :=
  PS.imp (ps_asg (pe_tup (pa_cons ha (pa_cons hb pa_nil (star_plain hf2 [] X.env)) (star_plain hf [b] X.env))) (pg_tup hc (pgs_cons (pg_name hN hi hx fx) (pgs_cons (pg_name hN hj hy fy) pgs_nil))) rfl (stores_cell hw)) fun E σ H ⟨C, B0, H0, ρ, S, B, r, q⟩ =>
    rd_bindSl r q fun s S1 v H1 B1 r1 n1 x1 f1 p1 => rd_bindSl r1 p1 fun t S2 u H2 B2 r2 n2 x2 f2 p2 => by
      have vth : s.isOwn = true → ∃ a, v = .ref a ∧ H a = none ∧ H1 a ≠ none := fun hs => by
        obtain ⟨a, rfl, ha⟩ := f1 hs
        refine ⟨a, rfl, ha, ?_⟩
        cases s with
        | own ds =>
          obtain ⟨b, xs, e1, _, _, _, hb, _⟩ := x1
          cases e1
          rw [hb]; simp
        | ownd ds =>
          obtain ⟨b, xs, e1, _, _, _, hb, _⟩ := x1
          cases e1
          rw [hb]; simp
        | lockd ds =>
          obtain ⟨b, xs, e1, _, _, _, ⟨od, hb⟩, _⟩ := x1
          cases e1
          rw [hb]; simp
        | _ => cases hs
      refine ⟨by show 2 ≤ sizeLine; rw [sizeLine_eq]; decide, fun q0 nq => ?_⟩
      have nB : B2 q0 = none := by
        cases e : B2 q0 with
        | none => rfl
        | some u => rw [r2.nx.sh _ _ e] at nq; cases nq
      have n3 : Nxt Γ C B2 H2 S2 B2 (upd H2 q0 (.tup [v, u])) := r2.nx.here.put nq nB (r2.nx.here.cell_ne nq) (fun u e => by rw [nq] at e; cases e) (by show 2 ≤ sizeLine; rw [sizeLine_eq]; decide)
      have r3 := r2.up n3
      refine ⟨q0, [v, u], rfl, .inl (.inl upd_same), rfl, v, [u], rfl, u, [], rfl, rfl, ?_⟩
      refine p2 _ B2 _ ((r3.setS (i := i) ((x1.up n2).up n3) fun hs k a _ hk hσ z => ?_).setS (i := j) (x2.up n3) fun ht k a hjk hk hσ z => ?_) fun _ _ h => h
      · obtain ⟨a', rfl, ha', _⟩ := vth hs
        cases z
        exact own_there r hk hσ ha'
      · obtain ⟨a', rfl, ha'⟩ := f2 ht
        cases z
        rw [getD_set] at hk
        by_cases ck : i = k ∧ i < ρ.length
        · rw [if_pos ck] at hk
          obtain ⟨rfl, hl⟩ := ck
          rw [List.getElem?_set_self (by rw [← r.len]; exact hl)] at hσ
          obtain ⟨a2, rfl, _, h2⟩ := vth hk
          cases hσ
          exact h2 ha'
        · rw [if_neg ck] at hk
          by_cases e : i = k
          · subst e
            rw [List.getD_eq_getElem?_getD, List.getElem?_eq_none (by have : ¬ i < ρ.length := fun hl => ck ⟨rfl, hl⟩; omega)] at hk
            cases hk
          · rw [List.getElem?_set_ne e] at hσ
            exact own_there r1 hk hσ ha'
end Pv
namespace Pv
open PySem PySem.Spec PyProof.Rows L2
variable {Γ : Gm} {X : Cx} {W : WX} {pos p : Pos}
/-! a dict of one's own -/
def keyO : D → Option Key
  | .int i => some (.inl i)
  | .str x => some (.inr x)
  | _ => none
def keyM (d : D) : M Key := match keyO d with
  | some k => pure k
  | none => bad
def dLook (es : List (D × D)) (k : Key) : Option D := (es.find? fun e => decide (keyO e.1 = some k)).map (·.2)
def dHas (es : List (D × D)) (k : Key) : Bool := es.any fun e => decide (keyO e.1 = some k)
def dPutL (es : List (D × D)) (k : Key) (d : D) : List (D × D) := if dHas es k = true then es.map (fun e => if keyO e.1 = some k then (e.1, d) else e) else es ++ [(keyD k, d)]
theorem keyO_D (k : Key) : keyO (keyD k) = some k := by cases k <;> rfl
/-- how the entries lie -/
def EntAll (K : PySem.W.Frag) (B : Hp) (kvs : List (Key × V)) (es : List (D × D)) : Prop := es.map (·.1) = kvs.map (fun kv => keyD kv.1) ∧ RpAll K B (kvs.map (·.2)) (es.map (·.2))
section
variable {K : PySem.W.Frag} {B : Hp}
theorem EntAll.cons_inv {kv : Key × V} {kvs : List (Key × V)} {e : D × D} {es : List (D × D)} (h : EntAll K B (kv :: kvs) (e :: es)) : e.1 = keyD kv.1 ∧ Rp K B kv.2 e.2 ∧ EntAll K B kvs es := by
  obtain ⟨h1, h2⟩ := h
  simp only [List.map_cons, List.cons.injEq] at h1
  cases h2 with
  | cons a b => exact ⟨h1.1, a, h1.2, b⟩
theorem EntAll.mk {kv : Key × V} {kvs : List (Key × V)} {e : D × D} {es : List (D × D)} (h1 : e.1 = keyD kv.1) (h2 : Rp K B kv.2 e.2) (h : EntAll K B kvs es) : EntAll K B (kv :: kvs) (e :: es) := ⟨by simp only [List.map_cons, h1, h.1], .cons h2 h.2⟩
theorem EntAll.nil_inv {kvs : List (Key × V)} (h : EntAll K B kvs []) : kvs = [] := by
  exact List.map_eq_nil_iff.mp h.1.symm
theorem EntAll.nil_inv' {es : List (D × D)} (h : EntAll K B [] es) : es = [] := by
  exact List.map_eq_nil_iff.mp h.1
theorem ent_look {k : Key} {d : D} : ∀ {kvs : List (Key × V)} {es : List (D × D)}, EntAll K B kvs es → dLook es k = some d → ∃ v, valV kvs k = some v ∧ Rp K B v d
  | [], es, h, e => by rw [h.nil_inv'] at e; cases e
  | kv :: kvs, [], h, e => by cases e
  | kv :: kvs, en :: es, h, e => by
    obtain ⟨h1, h2, h3⟩ := h.cons_inv
    by_cases hk : kv.1 = k
    · have : dLook (en :: es) k = some en.2 := by
        unfold dLook
        rw [List.find?_cons_of_pos (by rw [h1, keyO_D, hk]; simp)]
        rfl
      rw [this] at e
      cases e
      exact ⟨kv.2, valV_pos hk, h2⟩
    · have : dLook (en :: es) k = dLook es k := by
        unfold dLook
        rw [List.find?_cons_of_neg (by rw [h1, keyO_D]; simpa using hk)]
      rw [this] at e
      obtain ⟨v, h4, h5⟩ := ent_look h3 e
      exact ⟨v, by rw [valV_neg hk]; exact h4, h5⟩
theorem ent_has {k : Key} : ∀ {kvs : List (Key × V)} {es : List (D × D)}, EntAll K B kvs es → (kvs.any fun kv => decide (kv.1 = k)) = dHas es k
  | [], es, h => by rw [h.nil_inv']; rfl
  | kv :: kvs, [], h => by cases h.nil_inv
  | kv :: kvs, en :: es, h => by
    obtain ⟨h1, h2, h3⟩ := h.cons_inv
    unfold dHas
    rw [List.any_cons, List.any_cons, ent_has h3, h1, keyO_D]
    simp only [Option.some.injEq]
    rfl
theorem ent_map {k : Key} {v : V} {d : D} (r : Rp K B v d) : ∀ {kvs : List (Key × V)} {es : List (D × D)}, EntAll K B kvs es → EntAll K B (kvs.map fun kv => if kv.1 = k then (kv.1, v) else kv) (es.map fun e => if keyO e.1 = some k then (e.1, d) else e)
  | [], es, h => by rw [h.nil_inv']; exact ⟨rfl, .nil⟩
  | kv :: kvs, [], h => by cases h.nil_inv
  | kv :: kvs, en :: es, h => by
    obtain ⟨h1, h2, h3⟩ := h.cons_inv
    rw [List.map_cons, List.map_cons]
    by_cases hk : kv.1 = k
    · rw [if_pos hk, if_pos (by rw [h1, keyO_D, hk])]
      exact .mk h1 r (ent_map r h3)
    · rw [if_neg hk, if_neg (by rw [h1, keyO_D]; simpa using hk)]
      exact .mk h1 h2 (ent_map r h3)
theorem ent_put {k : Key} {v : V} {d : D} {kvs : List (Key × V)} {es : List (D × D)} (r : Rp K B v d) (h : EntAll K B kvs es) : EntAll K B (putK kvs k v) (dPutL es k d) := by
  unfold putK dPutL
  rw [ent_has h]
  split
  · exact ent_map r h
  · exact ⟨by rw [List.map_append, List.map_append, h.1]; rfl, by rw [List.map_append, List.map_append]; exact h.2.app (.cons r .nil)⟩
theorem EntAll.len {kvs : List (Key × V)} {es : List (D × D)} (h : EntAll K B kvs es) : kvs.length = es.length := by
  have := congrArg List.length h.1
  simpa using this.symm
end
/-- d[k], d one's own -/
def dictAt (ρ : Env) (i : Nat) : M (List (D × D)) := match ρ.getD i .none with
  | .ownd es => pure es
  | .lockd es => pure es
  | _ => bad
def vDget (i : Nat) (mk : ME) : ME := fun ρ => dictAt ρ i >>= fun es => mk ρ >>= fun kd => keyM kd >>= fun k => optM (dLook es k)
theorem keyM_bind {α : Type} {kd : D} {f : Key → M α} : (∃ k, kd = keyD k ∧ (keyM kd >>= f) = f k) ∨ (keyM kd >>= f) = bad := by
  cases kd with
  | int i => exact .inl ⟨.inl i, rfl, rfl⟩
  | str x => exact .inl ⟨.inr x, rfl, rfl⟩
  | _ => exact .inr rfl
theorem key_rel {K : PySem.W.Frag} {B : Hp} {u : V} {k : Key} (h : Rp K B u (keyD k)) : u = kV k := by
  cases k <;> cases h <;> rfl
theorem d_dget {i : Nat} {x : Str} {k : Expr} {mk : ME} (hu : X.A.units + 1 < cLine) (hN : X.N[i]? = some x) (hv : Vis X.env.scope x) (hd : (x == ("__debug__" : Str)) = false) (hc : (x == ("__classdict__" : Str)) = false) (hk : PE X k (rdE Γ W mk)) (hf : plainE k = true) :
    PE X (.Subscript (.Name x p) k pos) (rdE Γ W (vDget i mk)) :=
  PE.imp (pe_dget hu (pe_var hN hv hd hc) hk (ix_plain hf)) fun σ H Q ⟨C, B0, H0, ρ, S, B, r, q⟩ => by
    have go : ∀ (es : List (D × D)) (a : Addr) (kvs : List (Key × V)), σ[i]? = some (some (V.ref a)) → B a = none → C ≠ some a → Rd H a (.dK kvs) → EntAll Γ.K B kvs es → PostV rrE Γ C W σ B H Q ((mk ρ >>= fun kd => keyM kd >>= fun k => optM (dLook es k)) S) →
        (tVar i) σ H fun x H1 => (rdE Γ W mk) σ H1 fun y H2 => ∃ a v, x = .ref a ∧ DGet H2 a y (some v) ∧ Q v H2 := by
      intro es a kvs e1 z1 z2 hb ent q
      refine ⟨_, e1, rd_bind r q fun kd S1 u H1 B1 r1 n1 x1 p1 => ?_⟩
      rcases keyM_bind (kd := kd) (f := fun k => optM (dLook es k)) with ⟨k, rfl, e⟩ | e
      · rw [e] at p1
        obtain ⟨d, hd, p1⟩ := p1.opt
        obtain ⟨v, h1, h2⟩ := ent_look ent hd
        refine ⟨a, v, rfl, .inl ⟨kvs, k, ?_, key_rel x1, h1.symm⟩, p1.val r1.nx.here (h2.up n1.sb)⟩
        rcases hb with hb | ⟨od, hb⟩
        · exact .inl (n1.ex.keep _ _ hb z2 (by simp))
        · exact .inr ⟨od, n1.ex.keep _ _ hb z2 (by simp)⟩
      · rw [e] at p1
        exact p1.elim
    unfold vDget dictAt at q
    cases e : ρ.getD i .none with
    | ownd es =>
      rw [e] at q
      obtain ⟨a, kvs, e1, _, z1, z2, hb, kb, rb⟩ := r.at e
      exact go es a kvs e1 z1 z2 (.inl hb) ⟨kb, rb⟩ q
    | lockd es =>
      rw [e] at q
      obtain ⟨a, kvs, e1, _, z1, z2, ⟨od, hb⟩, kb, rb⟩ := r.at e
      exact go es a kvs e1 z1 z2 (.inr ⟨od, hb⟩) ⟨kb, rb⟩ q
    | _ => rw [e] at q; exact q.elim
/-- d[k] = e -/
def ownD (ρ : Env) (i : Nat) : M (List (D × D)) := match ρ.getD i .none with
  | .ownd es => pure es
  | _ => bad
def sDput (i : Nat) (mk me : ME) : MS := fun ρ => me ρ >>= fun d => ownD ρ i >>= fun es => mk ρ >>= fun kd => keyM kd >>= fun k => if es.length < sizeLine then pure (.nx (ρ.set i (.ownd (dPutL es k d)))) else bad
theorem ownD_bind {C : Option Addr} {B0 H0 Bs B H : Hp} {S : SS} {ρ : Env} {σ : L2.St} {E : Ends} {i : Nat} {f : List (D × D) → M Fl} (r : Rel Γ C B0 H0 ρ S σ B H) (q : PostS Γ C W B0 H0 Bs E ((ownD ρ i >>= f) S)) :
    ∃ es a kvs, (ρ.getD i .none).isOwn = true ∧ σ[i]? = some (some (V.ref a)) ∧ H0 a = none ∧ B a = none ∧ C ≠ some a ∧ H a = some (.dK kvs) ∧ EntAll Γ.K B kvs es ∧ PostS Γ C W B0 H0 Bs E (f es S) := by
  unfold ownD at q
  cases e : ρ.getD i .none with
  | ownd ds =>
    rw [e] at q
    obtain ⟨a, xs, e1, z0, z1, z2, hb, kb, rb⟩ := r.at e
    exact ⟨ds, a, xs, rfl, e1, z0, z1, z2, hb, ⟨kb, rb⟩, q⟩
  | _ => rw [e] at q; exact q.elim
theorem EntAll.up {K : PySem.W.Frag} {B B' : Hp} {kvs : List (Key × V)} {es : List (D × D)} (s : Sub B B') (h : EntAll K B kvs es) : EntAll K B' kvs es := ⟨h.1, h.2.up s⟩
theorem d_dput {i : Nat} {x : Str} {e k : Expr} {mk me : ME} {p1 q : Pos} (hu : X.A.units + 1 < cLine) (hN : X.N[i]? = some x) (hv : Vis X.env.scope x) (hd : (x == ("__debug__" : Str)) = false) (hc : (x == ("__classdict__" : Str)) = false) (hk : PE X k (rdE Γ W mk)) (h : PE X e (rdE Γ W me)) (hp : notComp e = true) :
    PS X (.Assign [.Subscript (.Name x p1) k q] e pos) (rdS Γ W (sDput i mk me)) :=
  PS.imp (ps_dput hu (pe_var hN hv hd hc) hk h (swap_plain hp _ _ _)) fun E σ H ⟨C, B0, H0, ρ, S, B, r, q⟩ => by
    refine rd_bindS r q fun d S1 v H1 B1 r1 n1 x1 p1 => ?_
    obtain ⟨es, a, kvs, hs, hσ, h0, hB, hC, hH, ent, p1⟩ := ownD_bind r1 p1
    refine ⟨_, hσ, rd_bindS r1 p1 fun kd S2 u H2 B2 r2 n2 x2 p2 => ?_⟩
    rcases keyM_bind (kd := kd) (f := fun k => if es.length < sizeLine then (pure (.nx (ρ.set i (.ownd (dPutL es k d)))) : M Fl) else bad) with ⟨k, rfl, e⟩ | e
    · rw [e] at p2
      split at p2
      · rename_i hz
        have hH2 := n2.ex.keep _ _ hH hC (by simp)
        have hB2 := n2.nw a hB (by rw [hH]; simp)
        have ent2 := ent_put (k := k) (x1.up n2.sb) (ent.up n2.sb)
        refine ⟨a, _, rfl, .inl ⟨kvs, k, hH2, key_rel x2, by rw [ent.len]; exact hz, rfl⟩, ?_⟩
        exact p2 σ B2 _ (r2.chg hs hσ h0 hB2 hC (fun u e => by rw [hH2] at e; cases e; trivial) trivial ⟨a, _, rfl, h0, hB2, hC, upd_same, ent2.1, ent2.2⟩ rfl) fun _ _ h => h
      · exact p2.elim
    · rw [e] at p2
      exact p2.elim
/-- [.. for k in d if ..], d one's own -/
def iKeysL (i : Nat) : MI := fun ρ => match ρ.getD i .none with
  | .lockd es => if es.length ≤ sizeLine then pure (es.map (·.1)) else bad
  | _ => bad
theorem d_ikeys {tg : Expr} {i : Nat} {x : Str} (hN : X.N[i]? = some x) (hv : Vis X.env.scope x) (hd : (x == ("__debug__" : Str)) = false) (hc : (x == ("__classdict__" : Str)) = false) : PI X tg (.Name x p) (rdI pT Γ W (iKeysL i)) :=
  PI.imp (pi_keys (pe_var hN hv hd hc)) fun σ H R ⟨C, B0, H0, ρ, S, B, r, q⟩ => by
    unfold iKeysL at q
    cases e : ρ.getD i .none with
    | lockd es =>
      rw [e] at q
      obtain ⟨a, kvs, e1, _, z1, z2, ⟨od, hb⟩, kb, rb⟩ := r.at e
      simp only at q
      split at q
      · rename_i hz
        have hl : (es.map (·.1)).length = kvs.length := by rw [kb, List.length_map]
        refine ⟨_, e1, a, od, rfl, .inl ⟨kvs, hb, q H B _ r.nx.here ⟨by rw [List.length_map]; exact hz, _, _, hl ▸ walk_keys, fun B' H' ⟨S', hp⟩ => hp.ex.keep _ _ hb z2 (by simp), fun j B' H' S' y H'' hj _ n y1 => ?_⟩⟩⟩
        obtain ⟨rfl, k, v, h1, rfl⟩ := y1
        refine ⟨B', keyD k, ?_, n, by cases k <;> constructor⟩
        rw [kb, List.getElem?_map, h1]
        rfl
      · exact q.elim
    | _ => rw [e] at q; exact q.elim
def vLcD (i : Nat) (own : List Nat) (tm : TM) (mt me : ME) : ME := fun ρ => match ρ.getD i .none with
  | .ownd es => nox (vLc own (iKeysL i) tm mt me (ρ.set i (.lockd es)))
  | _ => bad
theorem nxt_unlock {C : Option Addr} {B H B' H' : Hp} {S' : SS} {a : Addr} {od : Obj} {kvs : List (Key × V)} (hB : B a = none) (hC : C ≠ some a) (hH : H a = some (.dK kvs)) (n : Nxt Γ C B (upd H a (.frz od (.dK kvs))) S' B' H') : H' a = some (.frz od (.dK kvs)) ∧ Nxt Γ C B H S' B' (upd H' a (.dK kvs)) := by
  have ha : H' a = some (.frz od (.dK kvs)) := n.ex.keep _ _ upd_same hC (by simp)
  have hB' : B' a = none := n.nw a hB (by rw [upd_same]; simp)
  have nb : ∀ b o, B' b = some o → b ≠ a := fun b o e z => by subst z; rw [hB'] at e; cases e
  refine ⟨ha, n.sb, fun b o e => by rw [upd_ne (nb b o e)]; exact n.sh b o e, ⟨fun b o e c t => ?_, fun b h => ?_⟩, fun b h1 h2 => n.nw b h1 ?_, ?_, fun q hq => ?_, fun b o e => ?_, fun b ps e => ?_⟩
  · by_cases hb : b = a
    · subst hb; rw [hH] at e; cases e; exact upd_same
    · rw [upd_ne hb]; exact n.ex.keep b o (by rw [upd_ne hb]; exact e) c t
  · by_cases hb : b = a
    · subst hb; rw [upd_same]; simp
    · rw [upd_ne hb]; exact n.ex.there b (by rw [upd_ne hb]; exact h)
  · by_cases hb : b = a
    · subst hb; rw [upd_same]; simp
    · rw [upd_ne hb]; exact h2
  · have ce := n.ce
    unfold CellOk at ce ⊢
    split
    · trivial
    · rename_i c ds
      obtain ⟨h1, xs, h2, h3⟩ := ce
      exact ⟨h1, xs, by rw [upd_ne (fun z => hC (by rw [z]))]; exact h2, h3⟩
    · rename_i h1 h2
      split at ce
      · exact h1 rfl rfl
      · exact h2 _ _ rfl rfl
      · exact ce
  · obtain ⟨ps, e1, e2, e3⟩ := n.tb q hq
    refine ⟨ps, ?_, e2, fun ps' cv hcv => ?_⟩
    · rw [upd_ne (fun z => by rw [z, ha] at e1; cases e1)]
      exact e1
    · obtain ⟨c, h1, h2⟩ := e3 ps' cv hcv
      refine ⟨c, h1, ?_⟩
      rw [upd_ne (fun z => by rw [z, ha] at h2; cases h2)]
      exact h2
  · by_cases hb : b = a
    · subst hb; rw [upd_same] at e; cases e; trivial
    · rw [upd_ne hb] at e; exact n.ln b o e
  · by_cases hb : b = a
    · subst hb; exact hB'
    · rw [upd_ne hb] at e; exact n.tc b ps e
theorem d_lcD {own : List (Str × Nat)} {i : Nat} {x : Str} {is : List Nat} {tg elt : Expr} {ifs : List Expr} {scope : Scope} {tm : TM} {mt me : ME} (hc : X.calm = true) (hN : X.N.Nodup) (ok : BlkOk X.N X.env.scope scope own) (his : ∀ i ∈ is, i ∈ own.map (·.2))
    (hNx : X.N[i]? = some x) (hv : Vis X.env.scope x) (hd : (x == ("__debug__" : Str)) = false) (hcd : (x == ("__classdict__" : Str)) = false)
    (hb : ∀ (s : Shared) (H : Hp) (C : Addr) (cl : List (Str × Addr)) (fp : List Addr), PG (X.blk s H scope (compEnvC scope cl C X.env) fp) tg (rdP Γ is tm) ∧ PTs (X.blk s H scope (compEnvC scope cl C X.env) fp) ifs (rdB Γ W0 mt) ∧ PE (X.blk s H scope (compEnvC scope cl C X.env) fp) elt (rdE Γ W0 me)) :
    PE X (.ListComp elt [⟨tg, .Name x p, ifs, 0⟩] scope pos) (rdE Γ W (vLcD i (own.map (·.2)) tm mt me)) :=
  PE.imp (pe_lock (d_lc hc hN ok rfl his (d_ikeys (Γ := Γ) (W := W) hNx hv hd hcd) hb)) fun σ H Q ⟨C, B0, H0, ρ, S, B, r, q⟩ => by
    unfold vLcD at q
    cases e : ρ.getD i .none with
    | ownd es =>
      rw [e] at q
      obtain ⟨a, kvs, hσ, h0, hB, hC, hH, kb, rb⟩ := r.at e
      refine ⟨a, .dK kvs, hH, trivial, fun od => ⟨C, B0, H0, ρ.set i (.lockd es), S, B, r.chg (by rw [e]; rfl) hσ h0 hB hC (fun u z => by rw [hH] at z; cases z; trivial) trivial ⟨a, kvs, rfl, h0, hB, hC, ⟨od, upd_same⟩, kb, rb⟩ rfl, ?_⟩⟩
      have q : PostV rrE Γ C W σ B H Q (nox (vLc (own.map (·.2)) (iKeysL i) tm mt me (ρ.set i (.lockd es))) S) := q
      unfold nox at q
      cases z : vLc (own.map (·.2)) (iKeysL i) tm mt me (ρ.set i (.lockd es)) S with
      | ok d S' =>
        rw [z] at q
        intro v H' B' n y
        obtain ⟨h1, h2⟩ := nxt_unlock hB hC hH n
        exact ⟨h1, q v _ B' h2 y⟩
      | exc k S' => rw [z] at q; exact q.elim
      | bad => rw [z] at q; exact q.elim
    | _ => rw [e] at q; exact q.elim
end Pv
namespace Pv
open PySem PySem.Spec PyProof.Rows L2
variable {Γ : Gm} {X : Cx} {W : WX} {pos p : Pos}
/-! x.index(k), x.count(k): whole numbers -/
def onInts (f : List Int → Int → M D) : D → D → M D
  | .list xs, .int k => overInts xs fun ns => f ns k
  | _, _ => bad
def indexD : D → D → M D := onInts fun ns k => if k ∈ ns then pure (.int (ns.idxOf k)) else bad
def countD : D → D → M D := onInts fun ns k => pure (.int (ns.count k))
def MtP (Γ : Gm) (f : D → D → M D) (r : V → List V → Hp → VK → Prop) : Prop := ∀ {C : Option Addr} {W : WX} {σ : L2.St} {B H : Hp} {S : SS} {Q : VK} {x y : V} {d e : D},
  Nxt Γ C B H S B H → RpT Γ.K C B H x d → Rp Γ.K B y e → PostV rrE Γ C W σ B H Q (f d e S) → r x [y] H Q
theorem onInts_ok {f : List Int → Int → M D} {C : Option Addr} {σ : L2.St} {B H : Hp} {S : SS} {Q : VK} {x y : V} {d e : D} (n : Nxt Γ C B H S B H) (hx : RpT Γ.K C B H x d) (hy : Rp Γ.K B y e) (q : PostV rrE Γ C W σ B H Q (onInts f d e S)) :
    ∃ a ns k, x = .ref a ∧ y = .int k ∧ H a = some (.lst (ns.map V.int)) ∧ d = .list (ns.map PyData.int) ∧ PostV rrE Γ C W σ B H Q (f ns k S) := by
  unfold onInts at q
  split at q
  · cases hy
    obtain ⟨a, ns, rfl, ha, rfl, q2⟩ := q.ints n hx
    exact ⟨a, ns, _, rfl, rfl, ha, rfl, q2⟩
  · exact q.elim
theorem flat_ints : ∀ ns : List Int, (ns.map V.int).all flatV = true
  | [] => rfl
  | _ :: r => flat_ints r
theorem indexP : MtP Γ indexD (rIndex Γ.K) := fun n hx hy q => by
  obtain ⟨a, ns, k, rfl, rfl, ha, _, q⟩ := onInts_ok n hx hy q
  split at q
  · rename_i hk
    have hl := List.idxOf_lt_length_iff.mpr hk
    refine ⟨a, ns.map V.int, .int k, ns.idxOf k, .int k, rfl, rfl, .inl (.inl ha), rfl, flat_ints ns, ?_, by simp [eqV], fun m z hm hz => ?_, q.val n (.int _)⟩
    · rw [List.getElem?_map, List.getElem?_eq_getElem hl, List.getElem_idxOf]
      rfl
    · rw [List.getElem?_map, List.getElem?_eq_getElem (Nat.lt_trans hm hl)] at hz
      cases hz
      have := List.not_of_lt_findIdx (p := (· == k)) (xs := ns) (i := m) hm
      simpa [eqV] using this
  · exact q.elim
theorem countP : MtP Γ countD (rCntI Γ.K) := fun n hx hy q => by
  obtain ⟨a, ns, k, rfl, rfl, ha, _, q⟩ := onInts_ok n hx hy q
  exact ⟨a, ns, k, rfl, rfl, .inl (.inl ha), q.val n (.int _)⟩
/-- the receiver is a list -/
def isLst : D → M Unit
  | .list _ => pure ()
  | _ => bad
def vMeth (f : D → D → M D) (ma mb : ME) : ME := fun ρ => ma ρ >>= fun d => isLst d >>= fun _ => mb ρ >>= f d
theorem d_meth {f : D → D → M D} {e : Expr} {m : Str} {id : String} {a : Expr} {ma mb : ME} {r : V → List V → Hp → VK → Prop} {apos cpos : Pos} (slot : PySem.Slot "list" m id) (hty : typeOf (.builtin id) = pure (.type "method_descriptor")) (hm : MtR X id r) (hp : MtP Γ f r)
    (ha : PE X e (rdT Γ W ma)) (hb : PE X a (rdE Γ W mb)) (hf : plainE a = true) (hl : (apos.endLine == cpos.line) = true) (hbase : attributeBase e m X.env (eval e X.env) = eval e X.env) :
    PE X (.Call (.Attribute e m apos) [a] [] cpos) (rdE Γ W (vMeth f ma mb)) :=
  PE.imp (pe_bm PySem.F.plainAttrs_list slot hty hm ha (pa_cons hb pa_nil (star_plain hf [] X.env)) hbase (by rw [star_plain hf]; rfl) hl (star_plain hf [] X.env) rfl) fun σ H Q ⟨C, B0, H0, ρ, S, B, r0, q⟩ =>
    rd_bind r0 q fun d S1 v H1 B1 r1 n1 x1 p1 => by
      cases d with
      | list ds =>
        obtain ⟨a, xs, rfl, h, _⟩ := x1.list r1.nx.sh
        refine ⟨.inl ⟨rfl, xs, .inl (.inl h)⟩, ?_⟩
        exact rd_bind r1 p1 fun e S2 u H2 B2 r2 n2 x2 p2 => hp r2.nx.here (x1.up n2) x2 p2
      | _ => exact p1.elim
end Pv
namespace Pv
open PySem PySem.Spec PyProof.Rows L2
open PySem.AutoSeq1 (wpAny_loadPart')
/-! a set of the whole numbers of a list -/
abbrev setObj (w : World) : Obj := { cls := .type "set", dict := none, data := .set #[] 0 (.fresh 0 0 (!w.params.followText "set-order")) }
section
variable {P : Program} {w : World} {A : Around} {E : Value → Shared → Prop} {s : Shared}
theorem set_of_list {l : Addr} {its : Array Value} (ns : List Int) {Q : Value → Shared → Prop} (calm : A.handled = none) (isL : s.heap.IsList l its) (nums : IntsAre its.toList ns) (few : ns.length + 1 < scanBound)
    (fin : ∀ (h' : Heap) (tk c : Nat), SetR w h' s.heap.objs.size (fun j => decide (j ∈ ns)) c → c ≤ ns.length → (∀ b o, s.heap.get? b = some o → h'.get? b = some o) → Q (.ref s.heap.objs.size) { s with heap := h', toks := tk }) :
    wpAny (model P w) A (call (.type "set") [.ref l]) Q E s := by
  have size : its.size = ns.length := by
    rw [← Array.length_toList, IntsAre.length nums]
  obtain ⟨k0, k1, way⟩ := PySem.F.called_set.mro
  have made := PySem.F.called_set.made
  have below := PySem.F.called_set.sub
  refine wpAny_call (codeAny_of_tree ?_)
  show wpAny _ _ (callAny (.type "set") _) _ _ _
  refine wpAny_pure ⟨Code.quiet_builtin _ (by decide +kernel), codeAny_builtin PySem.F.entry_type_call ?_⟩
  rw [Around.under_plain (weight_type_call_type "set" [.ref l] []) rfl]
  have t1 := PySem.F.called_set.notType
  have t2 := PySem.F.called_set.canCreate
  have t3 := PySem.F.typeCall_set_1 (.ref l)
  repeat (any_goals (first | assumption | wp_step))
  let mid : Shared := { s with heap := s.heap.push (setObj w) }
  refine codeAny_mono (code_set_led1 (.ref l) (E := E) (Q₁ := fun u z => u = .ref s.heap.objs.size ∧ z = mid) ⟨rfl, rfl⟩) ?_
  rintro r z hr
  cases r with
  | error e => exact hr
  | ok fl =>
    cases fl with
    | ret u =>
      obtain ⟨rfl, rfl⟩ := hr
      have there : (s.heap.push (setObj w)).get? s.heap.objs.size = some (setObj w) := Heap.get?_push_size _ rfl
      have isS : Shared.TypeIs mid (.ref s.heap.objs.size) "set" := ⟨_, there, rfl⟩
      have i1 := PySem.F.called_set.init.lookup
      have i2 := PySem.F.called_set.init.bind (.ref s.heap.objs.size)
      repeat (any_goals (first | assumption | wp_step))
      refine codeAny_mono (codeAny_call_builtin (R := wants (fun u z => u = .none ∧ ∃ h' tk c, z = { s with heap := h', toks := tk } ∧ SetR w h' s.heap.objs.size (fun j => decide (j ∈ ns)) c ∧ c ≤ ns.length ∧ ∀ b o, s.heap.get? b = some o → h'.get? b = some o) E) PySem.F.called_set.init.plain PySem.F.entry_set_init (check_set_init_1 isS ?_)) ?_
      · obtain ⟨lo, atL, lc, ln, ld⟩ := isL
        obtain ⟨xc, xd, xdt, xs⟩ := lo
        simp only at lc ld
        subst lc
        subst ld
        have atL2 : (s.heap.push (setObj w)).get? l = some { cls := .type "list", dict := xd, data := .seq its ln, slots := xs } := Heap.get?_push_of_some _ atL
        have b1 := PySem.F.sub_list_set
        have b2 := PySem.F.sub_list_frozenset
        have b3 : (Value.type "list" == Value.type "dict") = false := by decide
        have isL2 : (s.heap.push (setObj w)).IsList l its := ⟨_, atL2, rfl, ln, rfl⟩
        unfold Builtin.«set.__init__» noKeywords Builtin.Frozenset.updateFrom
        generalize step : pyIter = walker
        wp_walk
        subst step
        refine wpAny_pyIter_list isL2 (wpAny_bind (wpAny_runValue ?_))
        have before : l < s.heap.objs.size := Heap.lt_size atL
        have calm3 : A.in1.in1.in1.handled = none := by simp [calm]
        have grown : (s.heap.push (setObj w)).objs.size = s.heap.objs.size + 1 := Heap.size_push ..
        have n1 : l ≠ (s.heap.push (setObj w)).objs.size := by rw [grown]; exact Nat.ne_of_lt (Nat.lt_succ_of_lt before)
        have n2 : s.heap.objs.size ∉ [(s.heap.push (setObj w)).objs.size, l] := by
          rw [grown]
          intro z
          rcases List.mem_cons.mp z with z | z
          · exact absurd z (Nat.ne_of_lt (Nat.lt_succ_self _))
          · exact absurd (List.mem_singleton.mp z) (Nat.ne_of_gt before)
        have each : ∀ (i : Nat) (v : Value), its[i]? = some v → ∃ k t, ns[i]? = some k ∧ v = .int k t := by
          intro i v hv
          have hi : i < ns.length := by
            rw [← size]
            exact (Array.getElem?_eq_some_iff.mp hv).1
          obtain ⟨t, e⟩ := IntsAre.int_at nums i v (by rw [Array.getElem?_toList]; exact hv)
          refine ⟨ns[i], t, List.getElem?_eq_getElem hi, ?_⟩
          rw [e, List.getD_eq_getElem?_getD, List.getElem?_eq_getElem hi]
          rfl
        refine set_update_ints ((Walks.list calm3 _ l n1 its).toS) s.heap.objs.size n2 ns size few each (its.size - 0) 0 _ (by omega) (Nat.zero_le _) ⟨⟨_, Heap.get?_push_size _ rfl, rfl, rfl⟩, isL2.push _⟩ ?fresh ?done
        case fresh => exact ⟨0, Nat.le_refl 0, setR_new_at (Heap.get?_push_of_some _ there)⟩
        case done =>
          intro z c moved hc hR
          obtain ⟨hz, gz, dz, tz, oz⟩ := z
          have e1 : gz = s.gens := moved.gens
          have e2 : dz = s.drawn := moved.drawn
          have e3 : oz = s.os := moved.os
          subst e1
          subst e2
          subst e3
          rw [size] at hc
          show wpAny _ _ _ _ _ _
          refine wpAny_pure ?_
          show wpAny _ _ (ret Value.none) _ _ _
          refine wpAny_pure ⟨rfl, hz, tz, c, rfl, hR, hc, ?_⟩
          intro b o e
          have lt := Heap.lt_size e
          refine moved.heap b o ?_ (Heap.get?_push_of_some _ (Heap.get?_push_of_some _ e))
          intro m
          rcases List.mem_cons.mp m with m | m
          · exact absurd m (Nat.ne_of_lt lt)
          · have m := List.mem_singleton.mp m
            rw [grown] at m
            exact absurd m (Nat.ne_of_lt (Nat.lt_succ_of_lt lt))
      · rintro r2 z2 hr2
        cases r2 with
        | error e => exact hr2
        | ok fl2 =>
          cases fl2 with
          | ret u2 =>
            obtain ⟨rfl, h', tk, c, rfl, hR, hc, kp⟩ := hr2
            repeat (any_goals (first | assumption | wp_step))
            exact fin _ _ _ hR hc kp
          | _ => exact hr2.elim
    | _ => exact hr.elim
end
/-! set(x), sorted(set(x)) of whole numbers -/
variable {Γ : Gm} {X : Cx} {W : WX} {pos p : Pos}
def rSetI (K : PySem.W.Frag) (w : World) : List V → Hp → VK → Prop := fun vs H Q => ∃ (l : Addr) (ns : List Int), vs = [V.ref l] ∧ (SqL K H l (ns.map V.int) ∨ SqT K H l (ns.map V.int)) ∧ ns.length ≤ 1000 ∧ ∀ (q : Addr) (c : Nat), H q = none → c ≤ ns.length → Q (.ref q) (upd H q (SetO w q (fun j => decide (j ∈ ns)) c))
theorem few_scan {n : Nat} (h : n ≤ 1000) : n + 1 < scanBound := Nat.lt_of_le_of_lt (Nat.succ_le_succ h) (by decide)
theorem c_setI (hc : X.calm = true) : CallR X (.type "set") (rSetI X.K X.w) := by
  intro pins s σ H vs us Q I rv h
  obtain ⟨l, ns, rfl, hs, hl, q⟩ := h
  rw [Vals.ref1 rv]
  have fin : ∀ (h' : Heap) (tk c : Nat), SetR X.w h' s.heap.objs.size (fun j => decide (j ∈ ns)) c → c ≤ ns.length → (∀ b o, s.heap.get? b = some o → h'.get? b = some o) → EP X pins σ Q (.ref s.heap.objs.size) { s with heap := h', toks := tk } := by
    intro h' tk c R hc k
    exact ⟨.ref _, upd H s.heap.objs.size (SetO X.w s.heap.objs.size (fun j => decide (j ∈ ns)) c), I.laid (t' := tk) k (Nat.le_refl _) (setO_new R), rfl, q _ c (I.hok.fresh (Nat.le_refl _)) hc⟩
  rcases hs with hs | hs
  · obtain ⟨its, vi, pl, _⟩ := I.list hs
    exact set_of_list ns (I.ok.hd hc) pl.isList (by simpa using vi.ints) (few_scan hl) fin
  · obtain ⟨its, vi, pl, _⟩ := I.tuple hs
    exact call_set_tupI (items := its.toArray) ns (I.ok.hd hc) pl (by simpa using vi.ints) (few_scan hl) fin
def dd : List Int → List Int
  | [] => []
  | x :: xs => if x ∈ xs then dd xs else x :: dd xs
theorem dd_mem : ∀ {ns : List Int} {k : Int}, k ∈ dd ns ↔ k ∈ ns
  | [], k => Iff.rfl
  | x :: xs, k => by
    unfold dd
    split
    · rename_i h
      rw [dd_mem, List.mem_cons]
      exact ⟨Or.inr, fun z => z.elim (fun e => e ▸ h) id⟩
    · rw [List.mem_cons, List.mem_cons, dd_mem]
theorem dd_nodup : ∀ (ns : List Int), (dd ns).Nodup
  | [] => List.nodup_nil
  | x :: xs => by
    unfold dd
    split
    · exact dd_nodup xs
    · rename_i h
      exact List.nodup_cons.mpr ⟨fun m => h (dd_mem.mp m), dd_nodup xs⟩
theorem dd_len : ∀ (ns : List Int), (dd ns).length ≤ ns.length
  | [] => Nat.le_refl _
  | x :: xs => by
    unfold dd
    split
    · exact Nat.le_trans (dd_len xs) (Nat.le_succ _)
    · exact Nat.succ_le_succ (dd_len xs)
def setI (ns : List Int) : List Int := sortI (dd ns)
theorem setI_mem {ns : List Int} {k : Int} : k ∈ setI ns ↔ k ∈ ns := by
  unfold setI
  rw [(sortI_perm _).mem_iff, dd_mem]
theorem setI_lt (ns : List Int) : (setI ns).Pairwise (· < ·) := by
  have h := sortI_pw (dd ns)
  have n : (setI ns).Nodup := (sortI_perm _).nodup_iff.mpr (dd_nodup ns)
  exact (h.and n).imp fun z => by have := z.1; have := z.2; omega
theorem strict_uniq : ∀ {xs ys : List Int}, xs.Pairwise (· < ·) → ys.Pairwise (· < ·) → (∀ k, k ∈ xs ↔ k ∈ ys) → xs = ys
  | [], [], _, _, _ => rfl
  | [], y :: ys, _, _, h => by have := (h y).mpr List.mem_cons_self; cases this
  | x :: xs, [], _, _, h => by have := (h x).mp List.mem_cons_self; cases this
  | x :: xs, y :: ys, h1, h2, h => by
    have p1 := List.pairwise_cons.mp h1
    have p2 := List.pairwise_cons.mp h2
    have e : x = y := by
      have a := (h x).mp List.mem_cons_self
      have b := (h y).mpr List.mem_cons_self
      rcases List.mem_cons.mp a with a | a
      · exact a
      · rcases List.mem_cons.mp b with b | b
        · exact b.symm
        · have := p2.1 x a
          have := p1.1 y b
          omega
    subst e
    rw [strict_uniq p1.2 p2.2 fun k => ?_]
    constructor
    · intro m
      have lt := p1.1 k m
      rcases List.mem_cons.mp ((h k).mp (List.mem_cons_of_mem _ m)) with z | z
      · omega
      · exact z
    · intro m
      have lt := p2.1 k m
      rcases List.mem_cons.mp ((h k).mpr (List.mem_cons_of_mem _ m)) with z | z
      · omega
      · exact z
end Pv
namespace Pv
open PySem PySem.Spec PyProof.Rows L2
/-! sorted(set(x)): whole numbers, of any count -/
section
variable {P : Program} {w : World} {A : Around} {E : Value → Shared → Prop} {s : Shared} {a : Addr}
theorem sorted_setN {S : Int → Bool} {n : Nat} {Q : Value → Shared → Prop} (led : SetR w s.heap a S n) (calm : A.handled = none) (few : n ≤ 100000)
    (fin : ∀ (s' : Shared) (p : Addr) (out : Array Value) (c : Nat) (ns : List Int), (∀ b o, s.heap.get? b = some o → s'.heap.get? b = some o) → s'.gens = s.gens → s'.os = s.os → s.heap.objs.size ≤ p → s'.heap.get? p = some (seqObj "list" out c) → IntsAre out.toList ns → ns.Pairwise (· < ·) → (∀ k, k ∈ ns ↔ S k = true) → ns.length = n → Q (.ref p) s') :
    wpAny (model P w) A (call (.builtin "sorted") [.ref a]) Q E s := by
  obtain ⟨o, es, ep, t, at1, exact1, dat, each, nodup, mem, bnd, fine, cnt, room, live⟩ := led
  refine Calls.call_function_entry kind_sorted plain_sorted entry_sorted (args_sorted1 _) ?_
  unfold Builtin.«sorted»
  refine wpAny_bind (m := checkCount "sorted" 1 1 _) (wpAny_pure ?_)
  refine wpAny_bind (collect_set (A := A.in1) calm ⟨o, at1, exact1.1, dat⟩ fine bnd room live ?_)
  intro s2 vs kept big gens os perm
  have count : vs.length = n := by
    rw [perm.length_eq, List.length_map, Array.length_toList]
    exact cnt
  have nums : IntsAre vs (vs.map Builtin.Re.reRawOf) := by
    refine ints_of vs fun v hv => ?_
    obtain ⟨e, he, rfl⟩ := List.mem_map.mp (perm.mem_iff.mp hv)
    obtain ⟨k, tk, z, _⟩ := each e he
    exact ⟨k, tk, z⟩
  have keys : (vs.map Builtin.Re.reRawOf).Perm (es.toList.map keyOf) := by
    have z := perm.map Builtin.Re.reRawOf
    rwa [List.map_map] at z
  have line : vs.length ≤ sizeLine := by rw [count, sizeLine_eq]; omega
  refine wpAny_bind (wpAny_newList ?_ line)
  have laid : (s2.heap.push (seqObj "list" vs.toArray 0)).get? s2.heap.objs.size = some (seqObj "list" vs.toArray 0) := Heap.get?_push_size _ rfl
  refine wpAny_bind (wpAny_holding (wpAny_call_entry slot_list_sort ⟨_, laid, rfl⟩ entry_list_sort ?_ (args_list_sort _)))
  refine SrtO.list_sort_ord SrtO.swo_int laid line (fun two => SrtO.ints_sortable nums two) fun out rising stable => ⟨_, rfl, ?_⟩
  obtain ⟨ns, are, prm, ord⟩ := SrtR.ints_outR (b := false) nums rising stable
  obtain ⟨c, at2⟩ := sortedHeap_at (vs := vs) (out := out.toArray) laid
  have all := prm.trans keys
  have up : ns.Pairwise (· ≤ ·) := ord
  have strict : ns.Pairwise (· < ·) := (up.and (all.nodup_iff.mpr nodup)).imp fun z => by have := z.1; have := z.2; omega
  refine wpAny_pure ⟨_, rfl, fin _ s2.heap.objs.size out.toArray c ns (fun b u e => ?_) gens os big at2 (by simpa using are) strict (fun k => by rw [all.mem_iff]; exact (mem k).symm) ?_⟩
  · have old := kept b u e
    have lt := Heap.lt_size old
    show (sortedHeap (s2.heap.push (seqObj "list" vs.toArray 0)) s2.heap.objs.size vs out.toArray).get? b = some u
    rw [sortedHeap_old (Nat.ne_of_lt lt) (by rw [size_push']; exact Nat.lt_succ_of_lt lt)]
    exact Heap.get?_push_of_some _ old
  · rw [prm.length_eq, List.length_map, count]
end
def rSortedSetN (w : World) : List V → Hp → VK → Prop := fun vs H Q => ∃ (a : Addr) (S : Int → Bool) (n : Nat), vs = [V.ref a] ∧ H a = some (SetO w a S n) ∧ n ≤ 100000 ∧ ∀ (ns : List Int) (p : Addr), ns.Pairwise (· < ·) → (∀ k : Int, k ∈ ns ↔ S k = true) → ns.length = n → H p = none → Q (.ref p) (upd H p (.lst (ns.map V.int)))
theorem cr_sortedSetN {X : Cx} (hc : X.calm = true) : CallR X (.builtin "sorted") (rSortedSetN X.w) := by
  rintro pins s σ H vs us Q I rv ⟨a, S, n, rfl, ha, few, q⟩
  have led := setO_get I ha
  rw [Vals.ref1 rv]
  refine sorted_setN led (I.ok.hd hc) few ?_
  intro s' p out c ns kept gens os new at1 are strict mem cnt
  have line : (ns.map V.int).length ≤ sizeLine := by rw [List.length_map, cnt, sizeLine_eq]; omega
  have free : H p = none := I.hok.fresh new
  have J : Inv X pins σ (upd H p (.lst (ns.map V.int))) { s with heap := s'.heap, gens := s'.gens, drawn := s'.drawn, toks := s'.toks } :=
    I.call (ch := []) (Un.laid kept new free) (I.hok.laid kept new ⟨line, out.toList, c, vals_of_ints are, at1⟩) (by rw [gens]; exact I.bare) (fun _ z => nomatch z)
  have same : s' = { s with heap := s'.heap, gens := s'.gens, drawn := s'.drawn, toks := s'.toks } := by
    cases s'; cases s; cases os; rfl
  rw [same]
  exact ⟨.ref p, _, J, rfl, q ns p strict mem cnt free⟩
end Pv
namespace Pv
open PySem PySem.Spec PyProof.Rows L2
variable {Γ : Gm} {X : Cx} {W : WX} {pos p : Pos}
def srtSetD : D → M D
  | .list xs => overInts xs fun ns => if ns.length ≤ 1000 then pure (.list ((setI ns).map PyData.int)) else bad
  | .tuple xs => overInts xs fun ns => if ns.length ≤ 1000 then pure (.list ((setI ns).map PyData.int)) else bad
  | _ => bad
theorem d_srtSet {a : Expr} {ma : ME} {p2 pos2 : Pos} (hK : X.K = Γ.K) (hc : X.calm = true) (hg : Gl X "sorted") (hm : X.mg "sorted" = none) (hg2 : Gl X "set") (hm2 : X.mg "set" = none) (ha : PE X a (rdT Γ W ma)) (hf : plainE a = true) :
    PE X (.Call (.Name "sorted" p) [.Call (.Name "set" p2) [a] [] pos2] [] pos) (rdE Γ W (v1 srtSetD ma)) := by
  have inner := pe_callTy (pos := pos2) (p := p2) (c_setI hc) hg2 hm2 rfl (pa_cons ha pa_nil (star_plain hf [] X.env)) (by decide) (by decide) (star_plain hf [] X.env) (stars_plain (es := []) rfl pos2 X.env)
  refine PE.imp (pe_callB (pos := pos) (p := p) (cr_sortedSetN hc) hg hm rfl (pa_cons inner pa_nil) (by decide) (by decide)) ?_
  rintro σ H Q ⟨C, B0, H0, ρ, S, B, r0, q⟩
  refine rd_bind r0 q fun d S1 v H1 B1 r1 n1 x1 p1 => ?_
  have go : ∀ (l : Addr) (ns : List Int), v = V.ref l → (SqL X.K H1 l (ns.map V.int) ∨ SqT X.K H1 l (ns.map V.int)) → PostV rrE Γ C W σ B1 H1 Q ((if ns.length ≤ 1000 then (pure (.list ((setI ns).map PyData.int)) : M D) else bad) S1) → rSetI X.K X.w [v] H1 fun x H2 => rSortedSetN X.w [x] H2 Q := by
    intro l ns e hs q
    split at q
    · rename_i h64
      subst e
      refine ⟨l, ns, rfl, hs, by omega, fun s0 c np hcn => ⟨s0, _, c, rfl, upd_same, by omega, fun ks t h1 h2 _ h3 => ?_⟩⟩
      have ek : ks = setI ns := strict_uniq h1 (setI_lt ns) fun k => by rw [h2, setI_mem]; simp
      subst ek
      have nb : B1 s0 = none := sub_none r1.nx.sh np
      have n2 := r1.nx.here.put (o := SetO X.w s0 (fun j => decide (j ∈ ns)) c) np nb (r1.nx.here.cell_ne np) (fun u e => by rw [np] at e; cases e) trivial
      have hz : ((setI ns).map PyData.int).length ≤ sizeLine := by
        rw [List.length_map]
        have : (setI ns).length ≤ ns.length := by
          unfold setI
          rw [(sortI_perm _).length_eq]
          exact dd_len ns
        rw [sizeLine_eq]
        omega
      exact (q.up n2).lst n2.here (RpAll.ints _) hz t h3
    · exact q.elim
  unfold srtSetD at p1
  split at p1
  · obtain ⟨l, ns, rfl, hl, rfl, p2⟩ := p1.ints r1.nx.here x1
    exact go l ns rfl (.inl (.inl (.inl hl))) p2
  · rename_i ds
    obtain ⟨l, vs, rfl, hl, rl⟩ := x1.tuple r1.nx.sh
    unfold overInts at p1
    cases e : intsOf ds with
    | none => rw [e] at p1; exact p1.elim
    | some ns =>
      rw [e] at p1
      have e2 := intsOf_map e
      subst e2
      rw [rl.ints_eq] at hl
      exact go l ns rfl (.inr (hK ▸ hl)) p1
  · exact p1.elim
end Pv
namespace Pv
open PySem PySem.Spec PyProof.Rows L2
variable {Γ : Gm} {X : Cx} {W : WX} {pos p : Pos}
/-! list(range(..)), tuple(range(..)) -/
def rgI (lo hi : Int) : List Int := (List.range (hi - lo).toNat).map fun i => lo + (i : Nat)
def rgM (t : Bool) (lo hi : Int) : M D := if -100000 ≤ lo ∧ lo ≤ 100000 ∧ -100000 ≤ hi ∧ hi ≤ 100000 then pure (if t = true then .tuple ((rgI lo hi).map PyData.int) else .list ((rgI lo hi).map PyData.int)) else bad
def vRg1 (t : Bool) (ma : ME) : ME := fun ρ => ma ρ >>= fun d => asI d >>= fun j => rgM t 0 j
def vRg2 (t : Bool) (ma mb : ME) : ME := fun ρ => ma ρ >>= fun d => mb ρ >>= fun e => asI d >>= fun i => asI e >>= fun j => rgM t i j
theorem rgV_ints (lo hi : Int) : rgV lo hi = (rgI lo hi).map V.int := by
  unfold rgV rgI
  rw [List.map_map]
  rfl
theorem rgI_len (lo hi : Int) : (rgI lo hi).length = (hi - lo).toNat := by simp [rgI]
def rgNm (t : Bool) : Str := if t = true then "tuple" else "list"
theorem pe_rg {e : Expr} {te : L2.St → Hp → (Int → Int → Hp → Prop) → Prop} (hc : X.calm = true) : ∀ (t : Bool), Gl X (rgNm t) → X.mg (rgNm t) = none → PRg X e te → plainE e = true → PE X (.Call (.Name (rgNm t) p) [e] [] pos) (if t = true then tTupRg te else tLstRg te)
  | true, h1, h2, h3, h4 => pe_tupRg hc h1 h2 h3 (star_plain h4 [] X.env)
  | false, h1, h2, h3, h4 => pe_listRg hc h1 h2 h3 (star_plain h4 [] X.env)
theorem rg_fin {C : Option Addr} {B H : Hp} {S : SS} {Q : VK} {σ : L2.St} {t : Bool} {i j : Int} (q : PostV rrE Γ C W σ B H Q (rgM t i j S)) (n : Nxt Γ C B H S B H) : RgOk i j ∧ ∀ q, H q = none → Q (.ref q) (upd H q (if t = true then .tup (rgV i j) else .lst (rgV i j))) := by
  unfold rgM at q
  split at q
  · rename_i h
    have hz : ((rgI i j).map PyData.int).length ≤ sizeLine := by
      rw [List.length_map, rgI_len, sizeLine_eq]
      omega
    refine ⟨⟨by omega, by omega, by omega, by omega, by omega⟩, fun b nb => ?_⟩
    rw [rgV_ints]
    cases t with
    | true => exact PostV.tup q n (RpAll.ints _) hz b nb
    | false => exact PostV.lst q n (RpAll.ints _) hz b nb
  · exact q.elim
theorem d_rg1 {t : Bool} {a : Expr} {ma : ME} {p2 pos2 : Pos} (hc : X.calm = true) (hg : Gl X (rgNm t)) (hm : X.mg (rgNm t) = none) (hg2 : Gl X "range") (hm2 : X.mg "range" = none) (ha : PE X a (rdE Γ W ma)) (hf : plainE a = true) :
    PE X (.Call (.Name (rgNm t) p) [.Call (.Name "range" p2) [a] [] pos2] [] pos) (rdE Γ W (vRg1 t ma)) := by
  refine PE.imp (pe_rg (pos := pos) (p := p) hc t hg hm (prg_1 (pos := pos2) (p := p2) hg2 hm2 ha (star_plain hf [] X.env)) rfl) ?_
  rintro σ H Q ⟨C, B0, H0, ρ, S, B, r0, q⟩
  have go : tRg1 (rdE Γ W ma) σ H fun a b H1 => RgOk a b ∧ ∀ q, H1 q = none → Q (.ref q) (upd H1 q (if t = true then .tup (rgV a b) else .lst (rgV a b))) := by
    refine rd_bind r0 q fun d S1 v H1 B1 r1 n1 x1 p1 => ?_
    cases d with
    | int j =>
      cases x1
      exact ⟨j, rfl, rg_fin p1 r1.nx.here⟩
    | _ => exact p1.elim
  cases t with
  | true => exact go
  | false => exact go
theorem d_rg2 {t : Bool} {a b : Expr} {ma mb : ME} {p2 pos2 : Pos} (hc : X.calm = true) (hg : Gl X (rgNm t)) (hm : X.mg (rgNm t) = none) (hg2 : Gl X "range") (hm2 : X.mg "range" = none) (ha : PE X a (rdE Γ W ma)) (hf : plainE a = true) (hb : PE X b (rdE Γ W mb)) (hf2 : plainE b = true) :
    PE X (.Call (.Name (rgNm t) p) [.Call (.Name "range" p2) [a, b] [] pos2] [] pos) (rdE Γ W (vRg2 t ma mb)) := by
  refine PE.imp (pe_rg (pos := pos) (p := p) hc t hg hm (prg_2 (pos := pos2) (p := p2) hg2 hm2 ha hb (star_plain hf [b] X.env) (star_plain hf2 [] X.env) (stars_plain (es := [b]) (by simp [plains, hf2]) pos2 X.env)) rfl) ?_
  rintro σ H Q ⟨C, B0, H0, ρ, S, B, r0, q⟩
  have go : tRg2 (rdE Γ W ma) (rdE Γ W mb) σ H fun a b H1 => RgOk a b ∧ ∀ q, H1 q = none → Q (.ref q) (upd H1 q (if t = true then .tup (rgV a b) else .lst (rgV a b))) := by
    refine rd_bind r0 q fun d S1 v H1 B1 r1 n1 x1 p1 => rd_bind r1 p1 fun e S2 u H2 B2 r2 n2 x2 p2 => ?_
    cases d with
    | int i =>
      cases e with
      | int j =>
        cases x1
        cases x2
        exact ⟨i, j, rfl, rfl, rg_fin p2 r2.nx.here⟩
      | _ => exact p2.elim
    | _ => exact p2.elim
  cases t with
  | true => exact go
  | false => exact go
end Pv
namespace Pv
open PySem PySem.Spec PyProof.Rows L2
variable {Γ : Gm}
/-! the meaning of a def -/
def outF (f : Fl) : M D := match f with
  | .rt d => pure d
  | .nx _ => pure .none
  | _ => bad
def startE (n : Nat) (args : List Arg) : Env := args.map Arg.slot ++ List.replicate (n - args.length) .none
def runB (n : Nat) (b : MS) : Fn := fun args => b (startE n args) >>= outF
theorem takesN0 {X : Cx} : L2N.Takes X W0 := fun _ _ ⟨_, _, _, _, _, _, _, _, _, _, _, _, _, _, _, _, z⟩ => z.elim
/-- a def's body, or a block in it: what the text's checks lean on -/
structure GoodX (Γ : Gm) (k : Nat) (N : List Str) (sc : Scope) (fnb : Str → Bool) (W : WX) (X : Cx) : Prop where
  ofs : Of Γ X
  nm : X.N = N
  nd : N.Nodup
  scE : X.env.scope = sc
  kd : sc.kind = .function
  fn : X.fn = fnb
  calm : X.calm = true
  tk : L2N.Takes X W
  po : PassesOwn (model X.prog X.w) X.A X.env X.xe
  rm : Room (k + 1) X.A
  gd : X.A.guards = some []
theorem good_blk {k : Nat} {N : List Str} {sc : Scope} {fnb : Str → Bool} {W : WX} {X : Cx} (g : GoodX Γ k N sc fnb W X) {scope : Scope} (hk : scope.kind = .function) (s : Shared) (H : Hp) (C : Addr) (cl : List (Str × Addr)) (fp : List Addr) :
    GoodX Γ k N (relS scope sc) (fun x => scope.names.lookup x == some .cell) W0 (X.blk s H scope (compEnvC scope cl C X.env) fp) where
  ofs := ⟨g.ofs.prog, g.ofs.w, g.ofs.K, g.ofs.mg, g.ofs.base⟩
  nm := g.nm
  nd := g.nd
  scE := by rw [← g.scE]; rfl
  kd := hk
  fn := rfl
  calm := g.calm
  tk := takesN0
  po := PassesOwn.never
  rm := g.rm
  gd := g.gd
theorem guards_deeper {A : Around} {env : PySem.Env} (h : A.guards = some []) : (A.deeper env).guards = some [] := h
/-- start: the arguments lie in the first slots -/
theorem args_slot {C : Option Addr} {B H0 H : Hp} : ∀ {vs : List V} {as : List Arg} (i : Nat), ArgsOk Γ.K C B vs as → SlotOk Γ.K C H0 B H ((as.map Arg.slot).getD i .none) ((vs.map some)[i]?)
  | _, _, _, .nil => trivial
  | _, _, 0, .cons (a := a) h r => by
    cases a with
    | d d => exact ⟨_, rfl, h⟩
    | cell => obtain ⟨c, e1, e2⟩ := h; exact ⟨c, e1, by subst e2; rfl⟩
    | scr ds => obtain ⟨c, xs, e1, e2, e3⟩ := h; exact ⟨c, xs, by subst e1; rfl, e2, e3⟩
  | _, _, i + 1, .cons h r => args_slot i r
theorem args_noown : ∀ {as : List Arg} (i : Nat), ((as.map Arg.slot).getD i .none).isOwn = false
  | [], _ => rfl
  | .d _ :: _, 0 => rfl
  | .cell :: _, 0 => rfl
  | .scr _ :: _, 0 => rfl
  | _ :: r, i + 1 => args_noown (as := r) i
theorem getD_app (xs : List Slot) (n i : Nat) : (xs ++ List.replicate n Slot.none).getD i .none = xs.getD i .none := by
  simp only [List.getD_eq_getElem?_getD]
  by_cases h : i < xs.length
  · rw [List.getElem?_append_left h]
  · rw [List.getElem?_append_right (by omega), List.getElem?_eq_none (l := xs) (by omega), List.getElem?_replicate]
    split <;> rfl
theorem rel_start {C : Option Addr} {B H : Hp} {S : SS} {vs : List V} {as : List Arg} {N : List Str} (n : Nxt Γ C B H S B H) (a : ArgsOk Γ.K C B vs as) (hl : as.length ≤ N.length) : Rel Γ C B H (startE N.length as) S (L2.start N vs) B H := by
  refine ⟨n, ?_, fun i => ?_, fun i j b _ hi _ _ _ => ?_⟩
  · unfold startE L2.start
    rw [List.length_append, List.length_append, List.length_map, List.length_map, List.length_replicate, List.length_replicate, a.len]
  · unfold startE
    rw [getD_app]
    have q := args_slot (H0 := H) (H := H) i a
    cases e : (as.map Arg.slot).getD i .none with
    | none => trivial
    | _ =>
      rw [e] at q
      have hi : i < vs.length := by
        cases Nat.lt_or_ge i vs.length with
        | inl h => exact h
        | inr h =>
          rw [List.getD_eq_getElem?_getD, List.getElem?_eq_none (by rw [List.length_map, ← a.len]; exact h)] at e
          cases e
      unfold L2.start
      rw [List.getElem?_append_left (by rw [List.length_map]; exact hi)]
      exact q
  · unfold startE at hi
    rw [getD_app, args_noown] at hi
    cases hi
/-- what is wanted at a body's end -/
theorem post_body {C : Option Addr} {B H : Hp} {S : SS} {Q : VK} {E : XK} {n : Nat} {b : MS} {as : List Arg} (q : PostF Γ C B H Q E (runB n b as S)) :
    PostS Γ C (fun cls d _ H' => E cls d H') B H B { nx := fun _ H' => Q .non H', rt := Q } (b (startE n as) S) := by
  unfold runB at q
  rw [bind_at] at q
  cases e : b (startE n as) S with
  | ok f S' =>
    rw [e] at q
    cases f with
    | nx ρ => exact fun σ B' H' r _ => q .non H' B' r.nx .non
    | rt d => exact fun v B' H' n x => q v H' B' n x
    | bk ρ => exact q.elim
    | ct ρ => exact q.elim
  | exc k S' => rw [e] at q; exact fun σ B' H' n => q H' B' n
  | bad => rw [e] at q; exact q.elim
/-- THE RULE: a def by its body's meaning -/
theorem fnG_of {k : Nat} {f : Addr} {fd : FuncData} {x q : Str} {params : Arguments} {body : List Stmt} {scope : Scope} {N ps : List Str} {b : MS} (F : FunD Γ.K x q params body scope [] [] f fd) (S : FnScope N ps scope) (hl : ps.length ≤ N.length)
    (hb : ∀ (W : WX) (X : Cx), GoodX Γ k N scope (fun _ => true) W X → X.env.code = fd.code → X.env.qual = q ++ ".<locals>." → PSs X body (rdS Γ W b)) : FnG Γ (k + 2) f fd ps (spF Γ ps.length (runB N.length b)) := by
  obtain ⟨oc, od, dV, kV, doc, pm, an, cdv, ct, osl, rfl, lk, hcd, _, _⟩ := F.ex
  have len : ∀ vs H Q E, spF Γ ps.length (runB N.length b) vs H Q E → vs.length = ps.length := fun vs H Q E ⟨C, B, S, as, n, a, l, _⟩ => by rw [a.len]; exact l
  constructor
  · exact len
  intro A outer s H args us vs Q E hr hg e0 hbt rv hsp
  have hlen := len vs H Q E hsp
  obtain ⟨C, B, S0, as, n, a, l, pq⟩ := hsp
  have old : ∀ b o, Γ.base.get? b = some o → s.heap.get? b = some o := fun b o e => (e0.bs b o e).1
  have KX : Γ.K.In s.heap := e0.mod.kin.keeps old
  have kinds : ∀ y ∈ ps.zip us, scope.names.lookup y.1 = some .local ∨ (scope.names.lookup y.1 = some .cell ∧ ((cellsFrom (s.heap.objs.size + 1) scope.names []).lookup y.1).isSome = true) := by
    rintro ⟨y, v⟩ hy
    cases S.par y (List.of_mem_zip hy).1 with
    | inl h => exact .inl h
    | inr h => exact .inr ⟨h, PySem.W.cellsFrom_some _ _ _ (.inl h)⟩
  refine codeAny_call_function hr.depth (KX _ _ lk) rfl S.co S.gen rfl (PySem.W.codeRec_of KX hcd) (hbt _ _ _ _ ?_)
  refine wpAny_newFunctionEnv_cells S.kind kinds fun env he s1 ic => ?_
  subst he
  refine ⟨(e0.mod.nolimit.keeps old).keeps ic.toInCall.keep, codeAny_func ?_⟩
  have I := inv_start (CX := L2N.CX Γ.prog Γ.w) (E := E) S hr.hd e0 hlen rv ic
  have good : GoodX Γ k N scope (fun _ => true) (fun cls d _ H' => E cls d H') (cxOf (L2N.CX Γ.prog Γ.w) Γ.prog Γ.w Γ.K Γ.mg Γ.base N q scope f cdv A outer s H E) :=
    { ofs := ⟨rfl, rfl, rfl, rfl, rfl⟩, nm := rfl, nd := S.nd, scE := rfl, kd := S.kind, fn := rfl, calm := rfl, tk := L2N.takes_of rfl rfl rfl rfl, po := passes_of rfl, rm := hr.deeper _, gd := guards_deeper hg }
  have rel := rel_start (N := N) n a (by omega)
  have run := (hb _ _ good rfl rfl).run [] s1 (L2.start N vs) H { nx := fun _ H' => Q .non H', rt := Q } I ⟨C, B, H, _, S0, B, rel, post_body pq⟩
  refine wpAny_mono run (fun fl s' hs => ?_) fun e s' hs => hs
  match fl, hs with
  | .ret u, ⟨v, σ', H', J, rv, q⟩ => exact ⟨v, H', J.os, J.bare, J.base, J.hok, rv, q⟩
  | .next, ⟨σ', H', J, q⟩ => exact ⟨V.non, H', J.os, J.bare, J.base, J.hok, rfl, q⟩
  | .brk, ⟨_, _, _, q⟩ => exact q.elim
  | .cont, ⟨_, _, _, q⟩ => exact q.elim
theorem FnG.mono {j k : Nat} {f : Addr} {fd : FuncData} {ps : List Str} {sp : Sp} (F : FnG Γ j f fd ps sp) (h : j ≤ k) : FnG Γ k f fd ps sp := ⟨F.len, fun A outer s H args us vs Q E hr => F.run A outer s H args us vs Q E (hr.mono h)⟩
theorem CalleeOk.mono {j k n : Nat} {x : Str} {f : Fn} (c : CalleeOk Γ j x n f) (h : j ≤ k) : CalleeOk Γ k x n f := by
  obtain ⟨fa, fd, ps, h1, h2, h3, h4, h5⟩ := c.ex
  exact ⟨fa, fd, ps, h1, h2, h3, h4, h5.mono h⟩
theorem callee_of {k : Nat} {f : Addr} {fd : FuncData} {x q : Str} {params : Arguments} {body : List Stmt} {scope : Scope} {N ps : List Str} {b : MS} (F : FunD Γ.K x q params body scope [] [] f fd) (S : FnScope N ps scope) (hl : ps.length ≤ N.length) (hm : Γ.mg x = some (.ref f)) (bd : Binds Γ.K fd ps [])
    (hb : ∀ (W : WX) (X : Cx), GoodX Γ k N scope (fun _ => true) W X → X.env.code = fd.code → X.env.qual = q ++ ".<locals>." → PSs X body (rdS Γ W b)) : CalleeOk Γ (k + 2) x ps.length (runB N.length b) :=
  ⟨f, fd, ps, rfl, hm, F.kp, bd, fnG_of F S hl hb⟩
end Pv
namespace Pv
open PySem PySem.Spec PyProof.Rows L2
open LamX (Tabs TabS ExtN CodeO TabB)
variable {Γ : Gm}
/-! a lambda is made -/
structure Made (T : List (Addr × Str)) (H H1 : Hp) (P c : Addr) (q : Str) : Prop where
  ext : ExtN H H1
  tabs : Tabs T H1
  there : ∀ b, H b ≠ none → H1 b ≠ none
  back : ∀ b o, H1 b = some o → H b = some o ∨ (∃ ps ps0, o = .tbl ps ∧ H b = some (.tbl ps0)) ∨ (H b = none ∧ ∃ q, o = CodeO b q)
  code : H1 c = some (CodeO c q)
section
variable {X : Cx} {pins : List (Addr × Obj)} {σ : L2.St} {H : Hp} {s : Shared}
abbrev lq (X : Cx) : Str := X.env.qual ++ "<lambda>"
theorem lam_new {T : List (Addr × Str)} {co P : Addr} {pr : Arguments} {bd : Expr} {scp : Scope} {lp : Pos} {E Q : Value → Shared → Prop} (I : Inv X pins σ H s) (TB : TabB X.base X.mg co P) (hco : X.env.code = .ref co)
    (mem : (P, lq X) ∈ T) (one : ∀ p ∈ T, p.1 = P → p.2 = lq X) (tabs : Tabs T H) (nodef : defaultsOf pr X.env = ([], [])) (caught : ∀ y ∈ scp.names, y.2 = .free → ∃ c, X.env.cells.lookup y.1 = some c)
    (k : ∀ (f c : Addr) (pm ct : Value) (H1 : Hp) (s1 : Shared), Inv X pins σ H1 s1 → Made T H H1 P c (lq X) → s1.heap.get? f = some (PySem.W.kla_obj "<lambda>" (lq X) pr bd scp (cloFrom X.env.cells scp.names []) pm c ct) → H1 f = none → f ∉ frs X.stack → Q (.ref f) s1) :
    wpAny (model X.prog X.w) X.A (eval (.Lambda pr bd scp lp) X.env) Q E s := by
  obtain ⟨ps, atP, tri, known⟩ := tabs _ mem
  have objP : s.heap.get? P = some { cls := .none, data := .fields ps } := I.hok P _ atP
  have bltP : s.heap.BuiltinsAt X.mg P := TB.bm.keeps I.bk
  have glb := I.mod.glob.keeps I.bk
  have cod := TB.code.keeps I.bk
  have off : ∀ f, s.heap.objs.size ≤ f → f ∉ frs X.stack := by
    intro f hf z
    cases List.mem_cons.mp (I.stkSub _ z) with
    | inl e => exact absurd (Nat.lt_of_lt_of_le (e ▸ I.lt) hf) (Nat.lt_irrefl _)
    | inr e => exact I.nofs hf e
  refine PySem.W.kla_eval nodef ?_
  cases found : codeAmong lp ps.toList with
  | some cv =>
    obtain ⟨c, rfl, there⟩ := known lp cv found
    refine PySem.W.kla_makeFunctionHit (mg := X.mg) (c := co) (P := P) (ps := ps) (closure_ok caught) I.ok.glob glb hco cod objP tri found bltP ?_
    intro ct h' tk kept big
    have J : Inv X pins σ H { s with heap := h'.push (PySem.W.kla_obj "<lambda>" (lq X) pr bd scp (cloFrom X.env.cells scp.names []) ((X.mg "__name__").getD .none) c ct), toks := tk } := I.kept fun b o e => Heap.get?_push_of_some _ (kept b o e)
    exact k h'.objs.size c _ ct H _ J ⟨.refl H, tabs, fun _ z => z, fun b o e => .inl e, there⟩ (Heap.get?_push_size _ rfl) (I.hok.fresh big) (off _ big)
  | none =>
    refine PySem.W.kla_makeFunction (mg := X.mg) (c := co) (P := P) (ps := ps) (closure_ok caught) I.ok.glob glb hco cod objP tri found TB.gP bltP ?_
    intro c ct h' tk kept high low rc tb'
    obtain ⟨c2, oc, vs, t, e2, hoc, hdt, hv⟩ := rc
    cases e2
    have free : H c = none := I.hok.fresh high
    have big : s.heap.objs.size ≤ h'.objs.size := Nat.le_trans high (Nat.le_of_lt low)
    have nPc : P ≠ c := ne_of_none atP free
    have J := LamX.inv_table (t' := tk) (more := #[rawInt lp.line, rawInt lp.col, .ref c]) (h' := h'.push (PySem.W.kla_obj "<lambda>" (lq X) pr bd scp (cloFrom X.env.cells scp.names []) ((X.mg "__name__").getD .none) c ct)) I atP
      (fun b o hb e => Heap.get?_push_of_some _ (kept b o hb e)) (Heap.get?_push_of_some _ tb') high ⟨oc, vs, t, Heap.get?_push_of_some _ hoc, hdt, hv⟩
    generalize hH1 : upd (upd H P (.tbl (ps ++ #[rawInt lp.line, rawInt lp.col, .ref c]))) c (CodeO c (lq X)) = H1 at J
    have at1 : ∀ b, b ≠ P → b ≠ c → H1 b = H b := fun b z1 z2 => by rw [← hH1, upd_ne z2, upd_ne z1]
    have atc : H1 c = some (CodeO c (lq X)) := by rw [← hH1, upd_same]
    have atP1 : H1 P = some (.tbl (ps ++ #[rawInt lp.line, rawInt lp.col, .ref c])) := by rw [← hH1, upd_ne nPc, upd_same]
    have ext : ExtN H H1 := by
      intro b o e n
      rw [at1 b (fun z => n ps (by rw [z, atP] at e; exact (Option.some.inj e).symm)) (ne_of_none e free)]
      exact e
    have eL : (ps ++ #[rawInt lp.line, rawInt lp.col, .ref c]).toList = ps.toList ++ [rawInt lp.line, rawInt lp.col, .ref c] := by simp
    refine k h'.objs.size c _ ct H1 _ J ⟨ext, ?_, ?_, ?_, atc⟩ (Heap.get?_push_size _ rfl) ?_ (off _ big)
    · intro p hp
      cases decEq p.1 P with
      | isTrue hb =>
        rw [one p hp hb, hb]
        refine ⟨_, atP1, by rw [eL]; exact PySem.TriplesOk_snoc _ _ _ _ tri, ?_⟩
        intro p' cv hcv
        rw [eL] at hcv
        cases LamX.among_app _ tri hcv with
        | inl z =>
          obtain ⟨c0, e1, e2⟩ := known p' cv z
          exact ⟨c0, e1, ext _ _ e2 LamX.codeO_ne⟩
        | inr z => exact ⟨c, z, atc⟩
      | isFalse hb =>
        obtain ⟨ps', a1, a2, a3⟩ := tabs p hp
        refine ⟨ps', by rw [at1 _ hb (ne_of_none a1 free)]; exact a1, a2, ?_⟩
        intro p' cv hcv
        obtain ⟨c0, e1, e2⟩ := a3 p' cv hcv
        exact ⟨c0, e1, ext _ _ e2 LamX.codeO_ne⟩
    · intro b hb
      cases decEq b P with
      | isTrue z => rw [z, atP1]; simp
      | isFalse z => rw [at1 b z (fun y => hb (by rw [y]; exact free))]; exact hb
    · intro b o e
      cases decEq b c with
      | isTrue z =>
        subst z
        rw [atc] at e
        cases e
        exact .inr (.inr ⟨free, _, rfl⟩)
      | isFalse z1 =>
        cases decEq b P with
        | isTrue z =>
          subst z
          rw [atP1] at e
          cases e
          exact .inr (.inl ⟨_, ps, rfl, atP⟩)
        | isFalse z2 => rw [at1 b z2 z1] at e; exact .inl e
    · have n1 : h'.objs.size ≠ c := Nat.ne_of_gt low
      have n2 : h'.objs.size ≠ P := Nat.ne_of_gt (Nat.lt_of_lt_of_le (Heap.lt_size objP) big)
      rw [at1 _ n2 n1]
      exact I.hok.fresh big
end
/-- the step, as steps are told here -/
theorem Made.nxt {C : Option Addr} {B H H1 : Hp} {S : SS} {P c : Addr} {q : Str} (m : Made Γ.T H H1 P c q) (n : Nxt Γ C B H S B H) : Nxt Γ C B H S B H1 := by
  have sub : ∀ a o, H a = some o → (∀ ps, o ≠ .tbl ps) → H1 a = some o := m.ext
  have notB : ∀ a o, B a = some o → ∀ ps, o ≠ .tbl ps := by
    intro a o e ps z
    subst z
    have := n.tc a ps (n.sh a _ e)
    rw [this] at e
    cases e
  refine ⟨fun _ _ h => h, fun a o e => sub a o (n.sh a o e) (notB a o e), ⟨fun a o e _ t => sub a o e t, m.there⟩, fun _ h _ => h, ?_, m.tabs, ?_, ?_⟩
  · have ce := n.ce
    unfold CellOk at ce ⊢
    split
    · trivial
    · rename_i c ds
      obtain ⟨h1, xs, h2, h3⟩ := ce
      exact ⟨h1, xs, sub _ _ h2 (by intro _ z; cases z), h3⟩
    · rename_i h1 h2
      split at ce
      · exact h1 rfl rfl
      · exact h2 _ _ rfl rfl
      · exact ce
  · intro a o e
    rcases m.back a o e with z | ⟨ps, ps0, rfl, _⟩ | ⟨_, q, rfl⟩
    · exact n.ln a o z
    · trivial
    · trivial
  · intro a ps e
    rcases m.back a _ e with z | ⟨_, ps0, _, z⟩ | ⟨_, q, z⟩
    · exact n.tc a ps z
    · exact n.tc a ps0 z
    · exact absurd z.symm (LamX.codeO_ne ps)
end Pv
namespace Pv
open PySem PySem.Spec PyProof.Rows L2
open LamX (Tabs TabS ExtN CodeO TabB)
variable {Γ : Gm}
/-! a lambda with one unused parameter, its default a whole number -/
abbrev dfArg (ag : PySem.Arg) (d : Expr) : Arguments := ⟨[], [ag], none, [], [], none, [d]⟩
section
variable {X : Cx} {pins : List (Addr × Obj)} {σ : L2.St} {H : Hp} {s : Shared}
/-- the table and the code object behind a making -/
theorem table_new {T : List (Addr × Str)} {P c : Addr} {q : Str} {ps : Array Value} {h' : Heap} {tk : Nat} {lp : Pos} (I : Inv X pins σ H s) (mem : (P, q) ∈ T) (one : ∀ p ∈ T, p.1 = P → p.2 = q) (tabs : Tabs T H) (atP : H P = some (.tbl ps)) (tri : TriplesOk ps.toList)
    (known : ∀ (pos : Pos) (cv : Value), codeAmong pos ps.toList = some cv → ∃ c, cv = .ref c ∧ H c = some (CodeO c q)) (high : s.heap.objs.size ≤ c)
    (kept : ∀ b o, b ≠ P → s.heap.get? b = some o → h'.get? b = some o) (tb' : h'.get? P = some { cls := .none, data := .fields (ps ++ #[rawInt lp.line, rawInt lp.col, .ref c]) }) (ho : ∃ (oc : Obj) (vs : Array Value) (t : Tok), h'.get? c = some oc ∧ oc.data = .fields vs ∧ vs[1]? = some (.str q t)) :
    ∃ H1, Inv X pins σ H1 { s with heap := h', toks := tk } ∧ Made T H H1 P c q ∧ ∀ b, H b = none → b ≠ c → H1 b = none := by
  have free : H c = none := I.hok.fresh high
  have nPc : P ≠ c := ne_of_none atP free
  have J := LamX.inv_table (t' := tk) (more := #[rawInt lp.line, rawInt lp.col, .ref c]) (h' := h') I atP kept tb' high ho
  refine ⟨_, J, ?_, ?_⟩
  · generalize hH1 : upd (upd H P (.tbl (ps ++ #[rawInt lp.line, rawInt lp.col, .ref c]))) c (CodeO c q) = H1
    have at1 : ∀ b, b ≠ P → b ≠ c → H1 b = H b := fun b z1 z2 => by rw [← hH1, upd_ne z2, upd_ne z1]
    have atc : H1 c = some (CodeO c q) := by rw [← hH1, upd_same]
    have atP1 : H1 P = some (.tbl (ps ++ #[rawInt lp.line, rawInt lp.col, .ref c])) := by rw [← hH1, upd_ne nPc, upd_same]
    have ext : ExtN H H1 := by
      intro b o e n
      rw [at1 b (fun z => n ps (by rw [z, atP] at e; exact (Option.some.inj e).symm)) (ne_of_none e free)]
      exact e
    have eL : (ps ++ #[rawInt lp.line, rawInt lp.col, .ref c]).toList = ps.toList ++ [rawInt lp.line, rawInt lp.col, .ref c] := by simp
    refine ⟨ext, ?_, ?_, ?_, atc⟩
    · intro p hp
      cases decEq p.1 P with
      | isTrue hb =>
        rw [one p hp hb, hb]
        refine ⟨_, atP1, by rw [eL]; exact PySem.TriplesOk_snoc _ _ _ _ tri, ?_⟩
        intro p' cv hcv
        rw [eL] at hcv
        cases LamX.among_app _ tri hcv with
        | inl z =>
          obtain ⟨c0, e1, e2⟩ := known p' cv z
          exact ⟨c0, e1, ext _ _ e2 LamX.codeO_ne⟩
        | inr z => exact ⟨c, z, atc⟩
      | isFalse hb =>
        obtain ⟨ps', a1, a2, a3⟩ := tabs p hp
        refine ⟨ps', by rw [at1 _ hb (ne_of_none a1 free)]; exact a1, a2, ?_⟩
        intro p' cv hcv
        obtain ⟨c0, e1, e2⟩ := a3 p' cv hcv
        exact ⟨c0, e1, ext _ _ e2 LamX.codeO_ne⟩
    · intro b hb
      cases decEq b P with
      | isTrue z => rw [z, atP1]; simp
      | isFalse z => rw [at1 b z (fun y => hb (by rw [y]; exact free))]; exact hb
    · intro b o e
      cases decEq b c with
      | isTrue z =>
        subst z
        rw [atc] at e
        cases e
        exact .inr (.inr ⟨free, _, rfl⟩)
      | isFalse z1 =>
        cases decEq b P with
        | isTrue z =>
          subst z
          rw [atP1] at e
          cases e
          exact .inr (.inl ⟨_, ps, rfl, atP⟩)
        | isFalse z2 => rw [at1 b z2 z1] at e; exact .inl e
  · intro b hb hc
    rw [upd_ne hc, upd_ne (fun z => by rw [z, atP] at hb; cases hb)]
    exact hb
theorem lam_newD {T : List (Addr × Str)} {co P : Addr} {ag : PySem.Arg} {i : Int} {n : Nat} {dp : Pos} {bd : Expr} {scp : Scope} {lp : Pos} {E Q : Value → Shared → Prop} (I : Inv X pins σ H s) (TB : TabB X.base X.mg co P) (hco : X.env.code = .ref co)
    (mem : (P, lq X) ∈ T) (one : ∀ p ∈ T, p.1 = P → p.2 = lq X) (tabs : Tabs T H) (caught : ∀ y ∈ scp.names, y.2 = .free → ∃ c, X.env.cells.lookup y.1 = some c)
    (k : ∀ (f c D : Addr) (pm ct doc u : Value) (H1 : Hp) (s1 : Shared), Inv X pins σ H1 s1 → Made T H H1 P c (lq X) → s1.heap.get? f = some (PySem.W.kdv_obj "<lambda>" (lq X) (dfArg ag (.Constant (.int i) n dp)) (.expr bd) scp (cloFrom X.env.cells scp.names []) (.ref D) doc pm c ct) → H1 f = none → f ∉ frs X.stack →
      s1.heap.get? D = some (PySem.W.kdv_tup [u]) → H1 D = none → D ∉ frs X.stack → Q (.ref f) s1)
    (hE : X.xe = E) :
    wpAny (model X.prog X.w) X.A (eval (.Lambda (dfArg ag (.Constant (.int i) n dp)) bd scp lp) X.env) Q E s := by
  obtain ⟨ps, atP, tri, known⟩ := tabs _ mem
  subst hE
  refine PySem.W.kdv_lam rfl rfl (PySem.W.kdv_all1 ?_)
  have num := (pe_int (X := X) (i := i) (j := n) (pos := dp)).run pins s σ H (fun v H1 => v = V.int i ∧ H1 = H) I ⟨rfl, rfl⟩
  refine thn num ?_
  rintro u s0 ⟨v, H0, I0, r0, rfl, rfl⟩
  refine PySem.W.kdv_all0 ?_
  have off : ∀ f, s0.heap.objs.size ≤ f → f ∉ frs X.stack := by
    intro f hf z
    cases List.mem_cons.mp (I0.stkSub _ z) with
    | inl e => exact absurd (Nat.lt_of_lt_of_le (e ▸ I0.lt) hf) (Nat.lt_irrefl _)
    | inr e => exact I0.nofs hf e
  rw [makeFunction_eq]
  simp only [List.zip_nil_right, List.filterMap_nil, List.isEmpty_nil, List.isEmpty_cons, if_true, pure_bind, Bool.false_eq_true, if_false]
  refine wpAny_bind (wpAny_newTextTuple ?_)
  have I2 : Inv X pins σ H0 { s0 with heap := s0.heap.push (PySem.W.kdv_tup [u]) } := I0.kept (t' := s0.toks) fun b o e => Heap.get?_push_of_some _ e
  have objP : s0.heap.get? P = some { cls := .none, data := .fields ps } := I0.hok P _ atP
  have objP2 : (s0.heap.push (PySem.W.kdv_tup [u])).get? P = some { cls := .none, data := .fields ps } := Heap.get?_push_of_some _ objP
  have tup : (s0.heap.push (PySem.W.kdv_tup [u])).get? s0.heap.objs.size = some (PySem.W.kdv_tup [u]) := Heap.get?_push_size _ rfl
  have freeD : H0 s0.heap.objs.size = none := I0.hok.fresh (Nat.le_refl _)
  have nPD : s0.heap.objs.size ≠ P := Nat.ne_of_gt (Heap.lt_size objP)
  have sz : (s0.heap.push (PySem.W.kdv_tup [u])).objs.size = s0.heap.objs.size + 1 := Heap.size_push _ _
  have bltP : (s0.heap.push (PySem.W.kdv_tup [u])).BuiltinsAt X.mg P := TB.bm.keeps I2.bk
  have glb := I2.mod.glob.keeps I2.bk
  have cod := TB.code.keeps I2.bk
  cases found : codeAmong lp ps.toList with
  | some cv =>
    obtain ⟨c, rfl, there⟩ := known lp cv found
    refine PySem.W.kdv_makeTailHit (mg := X.mg) (c := co) (P := P) (ps := ps) (closure_ok caught) I2.ok.glob glb hco cod objP2 tri found bltP ?_
    intro ct doc h' tk kept big
    have J : Inv X pins σ H0 { s0 with heap := h'.push (PySem.W.kdv_obj "<lambda>" (lq X) (dfArg ag (.Constant (.int i) n dp)) (.expr bd) scp (cloFrom X.env.cells scp.names []) (.ref s0.heap.objs.size) doc ((X.mg "__name__").getD .none) c ct), toks := tk } := I2.kept fun b o e => Heap.get?_push_of_some _ (kept b o e)
    have big2 : s0.heap.objs.size ≤ h'.objs.size := Nat.le_trans (by rw [sz]; exact Nat.le_succ _) big
    exact k h'.objs.size c s0.heap.objs.size _ ct doc u H0 _ J ⟨.refl H0, tabs, fun _ z => z, fun b o e => .inl e, there⟩ (Heap.get?_push_size _ rfl) (I2.hok.fresh big) (off _ big2) (Heap.get?_push_of_some _ (kept _ _ tup)) freeD (off _ (Nat.le_refl _))
  | none =>
    refine PySem.W.kdv_makeTail (mg := X.mg) (c := co) (P := P) (ps := ps) (closure_ok caught) I2.ok.glob glb hco cod objP2 tri found TB.gP bltP ?_
    intro c ct doc h' tk kept high low rc tb'
    obtain ⟨c2, oc, vs, t, e2, hoc, hdt, hv⟩ := rc
    cases e2
    have big : (s0.heap.push (PySem.W.kdv_tup [u])).objs.size ≤ h'.objs.size := Nat.le_trans high (Nat.le_of_lt low)
    have big2 : s0.heap.objs.size ≤ h'.objs.size := Nat.le_trans (by rw [sz]; exact Nat.le_succ _) big
    obtain ⟨H1, J, md, fr⟩ := table_new (lp := lp) (tk := tk) (h' := h'.push (PySem.W.kdv_obj "<lambda>" (lq X) (dfArg ag (.Constant (.int i) n dp)) (.expr bd) scp (cloFrom X.env.cells scp.names []) (.ref s0.heap.objs.size) doc ((X.mg "__name__").getD .none) c ct)) I2 mem one tabs atP tri known high
      (fun b o hb e => Heap.get?_push_of_some _ (kept b o hb e)) (Heap.get?_push_of_some _ tb') ⟨oc, vs, t, Heap.get?_push_of_some _ hoc, hdt, hv⟩
    have hc : s0.heap.objs.size < c := Nat.lt_of_lt_of_le (by rw [sz]; exact Nat.lt_succ_self _) high
    refine k h'.objs.size c s0.heap.objs.size _ ct doc u H1 _ J md (Heap.get?_push_size _ rfl) (fr _ (I2.hok.fresh big) (Nat.ne_of_gt low)) (off _ big2) (Heap.get?_push_of_some _ (kept _ _ nPD tup)) (fr _ freeD (Nat.ne_of_lt hc)) (off _ (Nat.le_refl _))
theorem bind_one {q : Str} {ag : PySem.Arg} {df bd : Expr} {scp : Scope} {cl : List (Str × Addr)} {D : Addr} {doc pm cv ct u : Value} (h : s.heap.get? D = some (PySem.W.kdv_tup [u])) : BindsTo s (PySem.W.kdv_fn "<lambda>" q (dfArg ag df) (.expr bd) scp cl (.ref D) doc pm cv ct) ⟨[], []⟩ [(ag.arg, u)] := by
  refine BindsTo.of_defaults rfl h rfl rfl ?_
  simp [List.lookup]
end
end Pv
namespace Pv
open PySem PySem.Spec PyProof.Rows L2
open LamX (Tabs TabS ExtN CodeO TabB lamEnv)
/-! sorted(x, key=lambda one: (len(one), one)) -/
/-- the lambda's parameters, its body -/
abbrev keyPar (a : PySem.Arg) : Arguments := ⟨[], [a], none, [], [], none, []⟩
abbrev keyBody (x : Str) (p1 p2 p3 p4 p5 : Pos) (n : Nat) : Expr := .Tuple [.Call (.Name "len" p1) [.Name x p2] [] p3, .Name x p4] n p5
structure KeyScope (scope : Scope) (x : Str) : Prop where
  kind : scope.kind = .function
  co : scope.isCoroutine = false
  gen : scope.isGenerator = false
  nocell : ∀ y ∈ scope.names, y.2 ≠ .cell
  nofree : ∀ y ∈ scope.names, y.2 ≠ .free
  par : scope.names.lookup x = some .local
  len : scope.names.lookup ("len" : Str) = some .globalImplicit
  nodbg : (x == ("__debug__" : Str)) = false
section
variable {prog : Program} {w : World} {A : Around} {s : Shared} {mg mb : Str → Option Value}
theorem reads_ints {h : Heap} : ∀ {vs : List Value} {ns : List Int}, IntsAre vs ns → ReadsAll h vs (ns.map PyData.int) []
  | _, _, .nil => .nil
  | _, _, .cons i t r => .cons (.int i t) (reads_ints r)
theorem key_call {f c t : Addr} {q : Str} {a : PySem.Arg} {scope : Scope} {cl : List (Str × Addr)} {pm ct : Value} {p1 p2 p3 p4 p5 : Pos} {n : Nat} {its : Array Value} {ns : List Int}
    (room : A.depth < recursionLimit) (K : KeyScope scope a.arg) (obj : s.heap.get? f = some (PySem.W.kla_obj "<lambda>" q (keyPar a) (keyBody a.arg p1 p2 p3 p4 p5 n) scope cl pm c ct)) (code : s.heap.CodeRec (.ref c) q)
    (glob : s.heap.Ns mainGlobals mg) (noLen : mg "len" = none) (blt : s.heap.Ns builtinsNs mb) (len : mb "len" = some (.builtin "len")) (lim : s.heap.NoLimit) (tup : IsTup s.heap t its) (nums : IntsAre its.toList ns) (hz : its.size ≤ sizeLine) :
    wpAny (model prog w) A (call (.ref f) [.ref t]) (PySem.W.KeyPure (.tuple [.int ns.length, .tuple (ns.map PyData.int)]) s) (fun _ _ => False) s := by
  have size : its.size = ns.length := by rw [← Array.length_toList, IntsAre.length nums]
  have go : codeAny (model prog w) A (.call (.ref f) ⟨[.ref t], []⟩) (fun r s' => ∃ v, r = .ok (.ret v) ∧ PySem.W.KeyPure (.tuple [.int ns.length, .tuple (ns.map PyData.int)]) s v s') s := by
    refine PySem.W.kla_callFunE room obj rfl K.co K.gen rfl code ?_
    have bound : bindArgs (PySem.W.kla_fn "<lambda>" q (keyPar a) (keyBody a.arg p1 p2 p3 p4 p5 n) scope cl pm (.ref c) ct) ⟨[.ref t], []⟩ = pure [(a.arg, .ref t)] := by
      have e : ([(a.arg, Value.ref t)] : List (Str × Value)).lookup a.arg = some (.ref t) := by simp [List.lookup]
      unfold bindArgs
      simp [keyPar, e, seqItems?]
      rfl
    rw [bound]
    refine wpAny_pure (wpAny_newFunctionEnv (fun y hy => K.nocell y hy) (fun y hy => ?_) (fun h₁ names sb => ⟨lim.fresh _ sb, ?_⟩) K.kind)
    · rw [List.mem_singleton.mp hy]
      exact K.par
    have kept : ∀ b o, s.heap.get? b = some o → h₁.get? b = some o := fun b o e => sb.extBut b o (Nat.ne_of_lt (Heap.lt_size e)) (Heap.get?_push_of_some _ e)
    refine PySem.W.kla_codeExpr ?_
    have nm : (fun y => ([(a.arg, Value.ref t)] : List (Str × Value)).reverse.lookup y) a.arg = some (.ref t) := by simp [List.lookup]
    have glob1 := glob.keeps kept
    have blt1 := blt.keeps kept
    have tup1 := tup.keeps kept
    refine wpAny_Tuple_spliced ?_
    refine PyProof.Rows.args_cons (PyProof.Rows.Call_ (Calls.Name_function_global K.kind K.len (Calls.loadGlobal_builtin glob1 noLen blt1 len (PyProof.Rows.callWith_builtin1 (PyProof.Rows.args_cons (wpAny_Name (wpAny_loadName_local K.kind K.par names nm (PyProof.Rows.args_nil ?_)) K.nodbg))))))
    refine PyProof.Rows.len_tuple tup1 ?_ ?_
    · have := line63
      omega
    refine PyProof.Rows.args_cons (wpAny_Name (wpAny_loadName_local K.kind K.par names nm (PyProof.Rows.args_nil ?_)) K.nodbg)
    refine ⟨by rw [sizeLine_eq]; simp, ?_⟩
    refine ⟨_, rfl, _, _, rfl, fun b o e => Heap.get?_push_of_some _ (kept b o e), ?_⟩
    obtain ⟨o, ho, hc, m, hd⟩ := tup1
    have inner : ∀ nn : Nat, nn = ns.length → Reads (h₁.push { cls := .type "tuple", data := .seq #[.int (nn : Nat) (s.toks + [(a.arg, Value.ref t)].length + 1), .ref t] }) (.ref h₁.objs.size) (.tuple [.int (ns.length : Nat), .tuple (ns.map PyData.int)]) [] := by
      rintro nn rfl
      exact .tuple (Heap.get?_push_size _ rfl) rfl rfl (.cons (.int _ _) (.cons (.tuple (Heap.get?_push_of_some _ ho) hc hd (reads_ints nums)) .nil))
    exact inner _ size
  refine wpAny_call (codeAny_mono go ?_)
  rintro r s' ⟨v, rfl, h⟩
  exact h
end
/-! its meaning -/
def tupsI : List D → Option (List (List Int))
  | [] => some []
  | .tuple ds :: r => match intsOf ds, tupsI r with
    | some ns, some ls => some (ns :: ls)
    | _, _ => none
  | _ :: _ => none
def tupI (ns : List Int) : D := .tuple (ns.map PyData.int)
def keyI (ns : List Int) : D := .tuple [.int (ns.length : Nat), tupI ns]
def sortLenD : D → M D
  | .list xs => match tupsI xs with
    | some ls => if ls.length ≤ 100000 then pure (.list ((ls.mergeSort (PySem.W.dataLe false keyI)).map tupI)) else bad
    | none => bad
  | _ => bad
theorem tupsI_map : ∀ {xs : List D} {ls : List (List Int)}, tupsI xs = some ls → xs = ls.map tupI
  | [], _, h => by cases h; rfl
  | x :: r, ls, h => by
    cases x with
    | tuple ds =>
      unfold tupsI at h
      cases e1 : intsOf ds with
      | none => rw [e1] at h; cases h
      | some ns =>
        cases e2 : tupsI r with
        | none => rw [e1, e2] at h; cases h
        | some l2 =>
          rw [e1, e2] at h
          cases h
          rw [List.map_cons, ← tupsI_map e2, intsOf_map e1]
          rfl
    | _ => cases h
theorem alike_ints : ∀ (a b : List Int), PySem.W.alikeAll (a.map PyData.int) (b.map PyData.int) = true
  | [], _ => by simp [PySem.W.alikeAll]
  | _ :: _, [] => by simp [PySem.W.alikeAll]
  | x :: a, y :: b => by simp [PySem.W.alikeAll, PySem.W.alike, alike_ints a b]
theorem depth_keyI (ns : List Int) : (keyI ns).depth ≤ 2 := by
  have e : PyData.depthAll (ns.map PyData.int) = 0 := by
    induction ns with
    | nil => simp [PyData.depthAll]
    | cons c r i => rw [List.map_cons]; simp [PyData.depthAll, PyData.depth, i]
  simp [keyI, tupI, PyData.depth, PyData.depthAll, e]
def keyScopeB (scope : Scope) (x : Str) : Bool :=
  (decide (scope.kind = .function) && (!scope.isCoroutine && !scope.isGenerator)) && (scope.names.all (fun y => !decide (y.2 = .cell) && !decide (y.2 = .free)) && (decide (scope.names.lookup x = some .local) && (decide (scope.names.lookup ("len" : Str) = some .globalImplicit) && !(x == ("__debug__" : Str)))))
theorem keyScope_by {scope : Scope} {x : Str} (h : keyScopeB scope x = true) : KeyScope scope x := by
  unfold keyScopeB at h
  simp only [Bool.and_eq_true, Bool.not_eq_true', decide_eq_true_eq, decide_eq_false_iff_not, List.all_eq_true] at h
  obtain ⟨⟨h1, h2, h3⟩, h4, h5, h6, h7⟩ := h
  exact ⟨h1, h2, h3, fun y hy => (h4 y hy).1, fun y hy => (h4 y hy).2, h5, h6, h7⟩
end Pv
namespace Pv
open PySem PySem.Spec PyProof.Rows L2
open LamX (Tabs TabS ExtN CodeO TabB LamS lamEnv lamCx)
variable {Γ : Gm}
/-! a lambda's body, asked from within the def that got it -/
def lamN (X : Cx) (A : Around) (outer : List PySem.Env) (s : Shared) (H : Hp) (E : XK) (scope : Scope) (f c : Addr) : Cx :=
  (lamCx X A outer s H E scope f c).tr [] fun e s' => wpAny (model X.prog X.w) (A.deeper (lamEnv X scope s.heap.objs.size f c)) (leaving (lamEnv X scope s.heap.objs.size f c) e) (fun _ s2 => L2N.CX X.prog X.w outer H s E e s2) (fun e2 s2 => L2N.CX X.prog X.w outer H s E e2 s2) s'
/-- the frame of the def that got it -/
abbrev toldCx (X : Cx) (Ng : List Str) (q : Str) (sg : Scope) (g : Addr) (cdg : Value) (s : Shared) (H : Hp) (Eg : XK) : Cx := cxOf (L2N.CX X.prog X.w) X.prog X.w X.K X.mg X.base Ng q sg g cdg X.A X.stack s H Eg
section
variable {X : Cx} {pins : List (Addr × Obj)} {σ : L2.St} {H : Hp} {s : Shared}
theorem act_pe {Ng : List Str} {q : Str} {sg : Scope} {g f c : Addr} {cdg pm ct : Value} {Eg : XK} {pr : Arguments} {bd : Expr} {scp : Scope} {k : Nat} {a : Str} {pn : List (Addr × Obj)} {xe : Value → Shared → Prop} {W : WX} {tb : XK → TE} {p1 p2 : Pos}
    (I : Inv X pins σ H s) (L : LamS X.env.scope scp) (obj : s.heap.get? f = some (PySem.W.kla_obj "<lambda>" (lq X) pr bd scp (cloFrom X.env.cells scp.names []) pm c ct)) (ff : H f = none) (fr : f ∉ frs X.stack)
    (noarg : bindArgs (PySem.W.kla_fn "<lambda>" (lq X) pr bd scp (cloFrom X.env.cells scp.names []) pm (.ref c) ct) ⟨[], []⟩ = pure [])
    (tk : L2N.Takes ((toldCx X Ng q sg g cdg s H Eg).tr pn xe) W) (room : Room (k + 1) (X.A.deeper (envOfC q sg s.heap.objs.size g cdg)))
    (body : ∀ (A : Around) (outer : List PySem.Env) (s : Shared) (H : Hp) (E : XK), A.guards = X.A.guards → Room k (A.deeper (lamEnv X scp s.heap.objs.size f c)) → PE (lamN X A outer s H E scp f c) bd (tb E))
    (hN : Ng[0]? = some a) (hv : Vis sg a) (hd : (a == ("__debug__" : Str)) = false) (hcd : (a == ("__classdict__" : Str)) = false) :
    PE ((toldCx X Ng q sg g cdg s H Eg).tr pn xe) (.Call (.Name a p1) [] [] p2) (fun σZ HZ Q => ∃ E : XK, σZ[0]? = some (some (V.ref f)) ∧ HZ c = some (CodeO c (lq X)) ∧ (∀ cls d H', E cls d H' → W cls d σZ H') ∧ tb E σ HZ Q) := by
  refine ⟨?_⟩
  rintro pinsZ sZ σZ HZ Q IZ ⟨E, hs, hc, hW, ht⟩
  have name := (pe_var (pos := p1) (i := 0) hN hv hd hcd).run pinsZ sZ σZ HZ (fun v H1 => v = V.ref f ∧ H1 = HZ) IZ ⟨V.ref f, hs, rfl, rfl⟩
  refine wpAny_Call_Name_kw (thn name ?_)
  rintro u s1 ⟨v, H1, I1, r1, rfl, rfl⟩
  cases r1
  have still : s1.heap.get? f = some (PySem.W.kla_obj "<lambda>" (lq X) pr bd scp (cloFrom X.env.cells scp.names []) pm c ct) := I1.base.keep f _ obj ff fr (List.not_mem_nil)
  refine PySem.W.callWith_F0 ⟨_, _, _, _, still⟩ ?_
  have un : Un (frs X.stack) [] H H1 s.heap s1.heap := I1.base
  obtain ⟨⟨oc, vs, t, hoc, hdc, hvc⟩, _, _⟩ := I1.hok c _ hc
  have asked : codeAny (model X.prog X.w) (X.A.deeper (envOfC q sg s.heap.objs.size g cdg)) (.call (.ref f) ⟨[], []⟩) (CR (L2N.CX X.prog X.w) (envOfC q sg s.heap.objs.size g cdg :: X.stack) X.prog X.w H1 s1 Q E) s1 := by
    refine PySem.W.kla_callFunE room.depth still rfl L.co L.gen rfl ⟨c, oc, vs, t, rfl, hoc, hdc, hvc⟩ ?_
    rw [noarg]
    refine wpAny_pure (wpAny_newFunctionEnv (fun y hy => (L.own y hy).2) (fun y hy => absurd hy (by simp)) (fun h₁ ns sb => ⟨I1.nolimit.fresh _ sb, ?_⟩) L.kind)
    show codeAny _ _ (.expr bd (lamEnv X scp s1.heap.objs.size f c)) _ _
    have kept : ∀ b o, s1.heap.get? b = some o → h₁.get? b = some o := fun b o e => sb.extBut b o (Nat.ne_of_lt (Heap.lt_size e)) (Heap.get?_push_of_some _ e)
    have J0 : Inv (lamCx X (X.A.deeper (envOfC q sg s.heap.objs.size g cdg)) (envOfC q sg s.heap.objs.size g cdg :: X.stack) s1 H1 E scp f c) [] σ H1 { s1 with heap := h₁, toks := s1.toks + ([] : List (Str × Value)).length } :=
      LamX.lam_start2 I L I1.env0 room.hd un ns kept
    have J : Inv (lamN X (X.A.deeper (envOfC q sg s.heap.objs.size g cdg)) (envOfC q sg s.heap.objs.size g cdg :: X.stack) s1 H1 E scp f c) [] σ H1 { s1 with heap := h₁, toks := s1.toks + ([] : List (Str × Value)).length } := J0.toTry _
    refine PySem.W.kla_codeExpr (wpAny_mono ((body (X.A.deeper (envOfC q sg s.heap.objs.size g cdg)) _ s1 H1 E rfl (room.deeper _)).run [] _ _ H1 Q J ht) ?_ fun e s' hq => hq)
    rintro v s' ⟨w', H', J', rv, qq⟩
    exact ⟨w', H', J'.os, J'.bare, J'.base, J'.hok, rv, qq⟩
  refine wpAny_call (codeAny_mono asked ?_)
  rintro (e | fl) s' hq
  · exact tk e s' (L2N.XE.of_call I1 (fun cls d H' h => hW cls d H' h) hq)
  · cases fl with
    | ret u => exact I1.after hq
    | next => exact hq.elim
    | brk => exact hq.elim
    | cont => exact hq.elim
end
end Pv
namespace Pv
open PySem PySem.Spec PyProof.Rows L2
open LamX (Tabs TabS ExtN CodeO TabB LamS lamEnv lamCx)
variable {Γ : Gm}
/-! the body of a lambda with one unused parameter -/
structure LamD (N : List Str) (sc scope : Scope) (a : Str) : Prop where
  kind : scope.kind = .function
  co : scope.isCoroutine = false
  gen : scope.isGenerator = false
  nocell : ∀ y ∈ scope.names, y.2 ≠ .cell
  loc : ∀ y ∈ scope.names, y.2 = .local → y.1 ∉ N
  free : ∀ y ∈ scope.names, y.2 = .free → sc.names.lookup y.1 = some .cell ∨ sc.names.lookup y.1 = some .free
  par : scope.names.lookup a = some .local
def lamDB (N : List Str) (sc scope : Scope) (a : Str) : Bool :=
  (decide (scope.kind = .function) && (!scope.isCoroutine && !scope.isGenerator)) && (scope.names.all (fun y => !decide (y.2 = .cell) && ((!decide (y.2 = .local) || !N.contains y.1) && (!decide (y.2 = .free) || (decide (sc.names.lookup y.1 = some .cell) || decide (sc.names.lookup y.1 = some .free))))) && decide (scope.names.lookup a = some .local))
theorem lamD_by {N : List Str} {sc scope : Scope} {a : Str} (h : lamDB N sc scope a = true) : LamD N sc scope a := by
  unfold lamDB at h
  simp only [Bool.and_eq_true, Bool.or_eq_true, Bool.not_eq_true', decide_eq_true_eq, decide_eq_false_iff_not, List.all_eq_true] at h
  obtain ⟨⟨h1, h2, h3⟩, h4, h5⟩ := h
  refine ⟨h1, h2, h3, fun y hy => (h4 y hy).1, fun y hy e z => ?_, fun y hy e => ?_, h5⟩
  · rcases (h4 y hy).2.1 with w | w
    · exact w e
    · have := List.contains_iff_mem.mpr z
      rw [w] at this
      cases this
  · rcases (h4 y hy).2.2 with w | w
    · exact absurd e w
    · exact w
section
variable {X : Cx} {pins : List (Addr × Obj)} {σ : L2.St} {H HZ : Hp} {s s1 : Shared}
theorem LamD.has {a : Str} {scope : Scope} (L : LamD X.N X.env.scope scope a) (ok : X.Ok) : ∀ y ∈ scope.names, y.2 = .free → ∃ c, X.env.cells.lookup y.1 = some c := by
  intro y hy e
  exact ok.has _ (L.free y hy e)
theorem lam_startD {A : Around} {outer : List PySem.Env} {E : XK} {scope : Scope} {f c : Addr} {h₁ : Heap} {tk : Nat} {a : Str} {m : Str → Option Value} (I : Inv X pins σ H s) (L : LamD X.N X.env.scope scope a) (e0 : Env0 X.prog X.w X.K X.mg X.base A outer s1 HZ) (calm : A.handled = none)
    (un : Un (frs X.stack) [] H HZ s.heap s1.heap) (names : h₁.Ns s1.heap.objs.size m) (kept : ∀ b o, s1.heap.get? b = some o → h₁.get? b = some o) : Inv (lamCx X A outer s1 HZ E scope f c) [] σ HZ { s1 with heap := h₁, toks := tk } := by
  have caught := L.has I.ok
  have inside : ∀ {y d}, (cloFrom X.env.cells scope.names []).lookup y = some d → X.env.cells.lookup y = some d := by
    intro y d e
    cases cloFrom_mem (PySem.mem_of_lookup e) with
    | inl z => cases z
    | inr z =>
      obtain ⟨z1, z2⟩ := z
      obtain ⟨d1, hd⟩ := caught _ z1 rfl
      have hd : X.env.cells.lookup y = some d1 := hd
      have same : d = d1 := by rw [z2, hd]; rfl
      rw [same]
      exact hd
  have there : ∀ {y}, scope.names.lookup y = some .free → ∃ d, (cloFrom X.env.cells scope.names []).lookup y = some d := by
    intro y z
    exact mem_lookup (cloFrom_has (cells := X.env.cells) (acc := []) (PySem.mem_of_lookup z))
  have cellAt : ∀ {d : Addr} {v : Option Value}, H d = none → s.heap.IsCell d v → h₁.IsCell d v := by
    rintro d v free ⟨o, ho, hd⟩
    obtain ⟨sl, q⟩ := un.any ho free (List.not_mem_nil)
    exact ⟨_, kept _ _ q, hd⟩
  have none_ex : ∀ {P : Prop} (b : Addr), b ∈ (lamCx X A outer s1 HZ E scope f c).ex → P := fun b z => (List.not_mem_nil (show b ∈ ([] : List Addr) from z)).elim
  refine { ok := ?ok, os := rfl, bare := e0.bare, base := Un.kept kept, loc := ⟨m, names, ?loc⟩, cell := ?cell, free := e0.hok.fresh (Nat.le_refl _), freeC := ?freeC, pin := ?pin, hok := e0.hok.kept kept, len := I.len }
  case ok =>
    refine { mod := e0.mod, kind := L.kind, glob := rfl, blt := rfl, above := Nat.le_refl _, inj := ?inj, has := ?has, cab := ?cab, hd := fun _ => calm, frames := Around.frames_deeper e0.frames, stk := .inr ⟨rfl, rfl⟩, exf := fun b z => none_ex b z, bs := e0.bs, bsz := e0.bsz, noex := fun b _ _ z => none_ex b z, exfs := fun b z => none_ex b z, funs := e0.funs, frf := e0.frf }
    case inj =>
      intro y z d e1 e2
      exact I.ok.inj y z d (inside e1) (inside e2)
    case has =>
      intro y hy
      have hy : scope.names.lookup y = some .cell ∨ scope.names.lookup y = some .free := hy
      cases hy with
      | inl z => exact absurd rfl (L.nocell _ (PySem.mem_of_lookup z))
      | inr z => exact there z
    case cab =>
      intro y d z
      exact (Bool.false_ne_true (show false = true from z)).elim
  case loc =>
    intro j y v e1 e2 vis
    have vis : Vis scope y := vis
    rcases vis with z | z | z
    · exact (L.loc _ (PySem.mem_of_lookup z) rfl (List.mem_of_getElem? (show X.N[j]? = some y from e1))).elim
    · exact absurd rfl (L.nocell _ (PySem.mem_of_lookup z))
    · obtain ⟨m0, _, look⟩ := I.loc
      have outerVis : Vis X.env.scope y := by
        cases L.free _ (PySem.mem_of_lookup z) rfl with
        | inl w => exact .inr (.inl w)
        | inr w => exact .inr (.inr w)
      obtain ⟨w, r, q⟩ := look j y v e1 e2 outerVis
      obtain ⟨d2, hd2⟩ := there z
      have d1 := inside hd2
      refine ⟨w, r, .inr ⟨.inr z, d2, hd2, ?_⟩⟩
      cases q with
      | inl q =>
        have isLoc : X.env.scope.names.lookup y = some .local := q.1
        cases L.free _ (PySem.mem_of_lookup z) rfl with
        | inl w => rw [show X.env.scope.names.lookup y = some .cell from w] at isLoc; cases isLoc
        | inr w => rw [show X.env.scope.names.lookup y = some .free from w] at isLoc; cases isLoc
      | inr q =>
        obtain ⟨_, d3, e3, at3⟩ := q
        rw [d1] at e3
        cases e3
        exact cellAt (I.freeC y _ d1) at3
  case cell =>
    intro y d e
    obtain ⟨w, at1⟩ := I.cell y d (inside e)
    exact ⟨w, cellAt (I.freeC y d (inside e)) at1⟩
  case freeC =>
    intro y d e
    obtain ⟨v, o, ho, hd⟩ := I.cell y d (inside e)
    exact un.free d o ho (I.freeC y d (inside e)) (List.not_mem_nil)
  case pin =>
    intro q hq
    exact (List.not_mem_nil (show q ∈ ([] : List (Addr × Obj)) from hq)).elim
theorem act_peD {Ng : List Str} {q : Str} {sg : Scope} {g f c D : Addr} {cdg pm ct doc u : Value} {Eg : XK} {ag : PySem.Arg} {df : Expr} {bd : Expr} {scp : Scope} {k : Nat} {a : Str} {pn : List (Addr × Obj)} {xe : Value → Shared → Prop} {W : WX} {tb : XK → TE} {p1 p2 : Pos}
    (I : Inv X pins σ H s) (L : LamD X.N X.env.scope scp ag.arg) (obj : s.heap.get? f = some (PySem.W.kdv_obj "<lambda>" (lq X) (dfArg ag df) (.expr bd) scp (cloFrom X.env.cells scp.names []) (.ref D) doc pm c ct)) (ff : H f = none) (fr : f ∉ frs X.stack)
    (tup : s.heap.get? D = some (PySem.W.kdv_tup [u])) (fD : H D = none) (frD : D ∉ frs X.stack)
    (tk : L2N.Takes ((toldCx X Ng q sg g cdg s H Eg).tr pn xe) W) (room : Room (k + 1) (X.A.deeper (envOfC q sg s.heap.objs.size g cdg)))
    (body : ∀ (A : Around) (outer : List PySem.Env) (s : Shared) (H : Hp) (E : XK), A.guards = X.A.guards → Room k (A.deeper (lamEnv X scp s.heap.objs.size f c)) → PE (lamN X A outer s H E scp f c) bd (tb E))
    (hN : Ng[0]? = some a) (hv : Vis sg a) (hd : (a == ("__debug__" : Str)) = false) (hcd : (a == ("__classdict__" : Str)) = false) :
    PE ((toldCx X Ng q sg g cdg s H Eg).tr pn xe) (.Call (.Name a p1) [] [] p2) (fun σZ HZ Q => ∃ E : XK, σZ[0]? = some (some (V.ref f)) ∧ HZ c = some (CodeO c (lq X)) ∧ (∀ cls d H', E cls d H' → W cls d σZ H') ∧ tb E σ HZ Q) := by
  refine ⟨?_⟩
  rintro pinsZ sZ σZ HZ Q IZ ⟨E, hs, hc, hW, ht⟩
  have name := (pe_var (pos := p1) (i := 0) hN hv hd hcd).run pinsZ sZ σZ HZ (fun v H1 => v = V.ref f ∧ H1 = HZ) IZ ⟨V.ref f, hs, rfl, rfl⟩
  refine wpAny_Call_Name_kw (thn name ?_)
  rintro u1 s1 ⟨v, H1, I1, r1, rfl, rfl⟩
  cases r1
  have still : s1.heap.get? f = some (PySem.W.kdv_obj "<lambda>" (lq X) (dfArg ag df) (.expr bd) scp (cloFrom X.env.cells scp.names []) (.ref D) doc pm c ct) := I1.base.keep f _ obj ff fr (List.not_mem_nil)
  have stillD : s1.heap.get? D = some (PySem.W.kdv_tup [u]) := I1.base.keep D _ tup fD frD (List.not_mem_nil)
  refine PySem.W.callWith_F0 ⟨_, _, _, _, still⟩ ?_
  have un : Un (frs X.stack) [] H H1 s.heap s1.heap := I1.base
  obtain ⟨⟨oc, vs, t, hoc, hdc, hvc⟩, _, _⟩ := I1.hok c _ hc
  have binds : BindsTo s1 (PySem.W.kdv_fn "<lambda>" (lq X) (dfArg ag df) (.expr bd) scp (cloFrom X.env.cells scp.names []) (.ref D) doc pm (.ref c) ct) ⟨[], []⟩ [(ag.arg, u)] := bind_one stillD
  have asked : codeAny (model X.prog X.w) (X.A.deeper (envOfC q sg s.heap.objs.size g cdg)) (.call (.ref f) ⟨[], []⟩) (CR (L2N.CX X.prog X.w) (envOfC q sg s.heap.objs.size g cdg :: X.stack) X.prog X.w H1 s1 Q E) s1 := by
    refine PySem.W.kla_callFunE room.depth still rfl L.co L.gen rfl ⟨c, oc, vs, t, rfl, hoc, hdc, hvc⟩ ?_
    refine binds _ _ _ _ (wpAny_newFunctionEnv (fun y hy => L.nocell y hy) (fun y hy => ?_) (fun h₁ ns sb => ⟨I1.nolimit.fresh _ sb, ?_⟩) L.kind)
    · rw [List.mem_singleton.mp hy]
      exact L.par
    show codeAny _ _ (.expr bd (lamEnv X scp s1.heap.objs.size f c)) _ _
    have kept : ∀ b o, s1.heap.get? b = some o → h₁.get? b = some o := fun b o e => sb.extBut b o (Nat.ne_of_lt (Heap.lt_size e)) (Heap.get?_push_of_some _ e)
    have J0 := lam_startD (A := X.A.deeper (envOfC q sg s.heap.objs.size g cdg)) (outer := envOfC q sg s.heap.objs.size g cdg :: X.stack) (E := E) (f := f) (c := c) (tk := s1.toks + [(ag.arg, u)].length) I L I1.env0 room.hd un ns kept
    have J : Inv (lamN X (X.A.deeper (envOfC q sg s.heap.objs.size g cdg)) (envOfC q sg s.heap.objs.size g cdg :: X.stack) s1 H1 E scp f c) [] σ H1 { s1 with heap := h₁, toks := s1.toks + [(ag.arg, u)].length } := J0.toTry _
    refine PySem.W.kla_codeExpr (wpAny_mono ((body (X.A.deeper (envOfC q sg s.heap.objs.size g cdg)) _ s1 H1 E rfl (room.deeper _)).run [] _ _ H1 Q J ht) ?_ fun e s' hq => hq)
    rintro v s' ⟨w', H', J', rv, qq⟩
    exact ⟨w', H', J'.os, J'.bare, J'.base, J'.hok, rv, qq⟩
  refine wpAny_call (codeAny_mono asked ?_)
  rintro (e | fl) s' hq
  · exact tk e s' (L2N.XE.of_call I1 (fun cls d H' h => hW cls d H' h) hq)
  · cases fl with
    | ret u => exact I1.after hq
    | next => exact hq.elim
    | brk => exact hq.elim
    | cont => exact hq.elim
end
end Pv
namespace Pv
open PySem PySem.Spec PyProof.Rows L2
/-- enumerate(x) -/
def enL (ds : List D) : List D := ds.mapIdx fun i d => PyData.tuple [.int (i : Nat), d]
def iEn (ma : ME) : MI := fun ρ => ma ρ >>= fun d => seqOf d >>= fun xs => pure (enL xs)
/-- a < b < c < d -/
def vChain3 (f g h : D → D → M D) (ma mb mc md : ME) : ME := fun ρ => ma ρ >>= fun x => mb ρ >>= fun y => f x y >>= fun e => asB e >>= fun k => if k = true then (mc ρ >>= fun u => g y u >>= fun e2 => asB e2 >>= fun k2 => if k2 = true then md ρ >>= h u else pure (.bool false)) else pure (.bool false)
/-- what the telling def tells -/
def Exn.ix : Exn → Nat
  | .na => 0
  | .tl => 1
  | .mi => 2
  | .bf _ => 3
  | .br _ => 4
def Exn.plain : Exn → Bool
  | .bf _ => false
  | .br _ => false
  | _ => true
def names5 : List Str := ["refused", "large", "missing", "form", "broken"]
def tellD : Res D → Res D
  | .ok d S => .ok (.tuple [.str "told", d]) S
  | .exc k S => if k.plain = true then .ok (.tuple [.str (names5.getD k.ix "")]) S else .bad
  | .bad => .bad
def vTold (m : ME) : ME := fun ρ s => tellD (m ρ s)
/-- texts joined -/
def fmtD : D → M D
  | .str y => if y.length ≤ sizeLine then pure (.str y) else bad
  | .int i => if i.natAbs.log2 < 1920 then pure (.str (toString i)) else bad
  | _ => bad
def jAll : List ME → Str → ME
  | [], acc => fun _ => pure (.str acc)
  | m :: r, acc => fun ρ => m ρ >>= fun d => match d with
    | .str y => if (acc ++ y).length ≤ sizeLine then jAll r (acc ++ y) ρ else bad
    | _ => bad
def vJs (ms : List ME) : ME := jAll ms Str.empty
/-! the code as a term of our own: its meaning, its look at the text, and that the look is enough -/
inductive Bop where
  | add | sub | mul | fdiv | mod | pow | shl | shr | and | or | xor
def Bop.op : Bop → Operator
  | .add => .Add | .sub => .Sub | .mul => .Mult | .fdiv => .FloorDiv | .mod => .Mod | .pow => .Pow | .shl => .LShift | .shr => .RShift | .and => .BitAnd | .or => .BitOr | .xor => .BitXor
def Bop.sem : Bop → D → D → M D
  | .add => addD | .sub => subD | .mul => mulD | .fdiv => fdivD | .mod => modD | .pow => powD | .shl => shlD | .shr => shrD | .and => andD | .or => orD | .xor => xorD
inductive Uop where
  | neg | inv
def Uop.op : Uop → UnaryOp
  | .neg => .USub | .inv => .Invert
def Uop.sem : Uop → D → M D
  | .neg => negD | .inv => invD
inductive Cop where
  | eq | ne | lt | le | gt | ge | isIn | notIn | isN | notN
def Cop.op : Cop → CmpOp
  | .eq => .Eq | .ne => .NotEq | .lt => .Lt | .le => .LtE | .gt => .Gt | .ge => .GtE | .isIn => .In | .notIn => .NotIn | .isN => .Is | .notN => .IsNot
def Cop.sem : Cop → D → D → M D
  | .eq => eqD | .ne => neD | .lt => ltD | .le => leD | .gt => gtD | .ge => geD | .isIn => inD | .notIn => notInD | .isN => isND | .notN => notND
inductive B1 where
  | len | abs | int | max | min | sum | all | any | sorted | str | repr | tuple | list
def B1.nm : B1 → Str
  | .len => "len" | .abs => "abs" | .int => "int" | .max => "max" | .min => "min" | .sum => "sum" | .all => "all" | .any => "any" | .sorted => "sorted" | .str => "str" | .repr => "repr" | .tuple => "tuple" | .list => "list"
def B1.sem : B1 → D → M D
  | .len => lenD | .abs => absD | .int => intD | .max => maxD | .min => minD | .sum => sumD | .all => allD | .any => anyD | .sorted => sortedD | .str => strD | .repr => reprD | .tuple => tupleD | .list => listD
inductive B2 where
  | max | min
def B2.nm : B2 → Str
  | .max => "max" | .min => "min"
def B2.sem : B2 → D → D → M D
  | .max => max2D | .min => min2D
inductive Mt where
  | index | count
def Mt.nm : Mt → Str
  | .index => "index" | .count => "count"
def Mt.sem : Mt → D → D → M D
  | .index => indexD | .count => countD
inductive T where
  | nm (i : Nat) | tup (is : List Nat)
mutual
inductive E where
  | var (i : Nat) | peek (i : Nat) | scr (i : Nat)
  | int (n : Int) | str (s : Str) | bl (b : Bool) | non | glob (x : Str) (d : D)
  | bin (o : Bop) (a b : E) | un (o : Uop) (a : E) | cmp (o : Cop) (a b : E) | chain (o o' : Cop) (a b c : E) | chain3 (o o' o2 : Cop) (a b c d : E)
  | not (a : E) | ands (es : Es) | ors (es : Es) | ite (c a b : E)
  | ix (a b : E) | cell (i : Nat) (k : E) | sl (a : E) (lo hi : Oe)
  | tup (es : Es) | lst (es : Es) | tupS (es : Es) | lstS (es : Es) | fmt (a : E) | fstr (es : Es) | dead | told (e : E) | toldD (e : E) | srtSet (a : E) | rg1 (t : Bool) (a : E) | rg2 (t : Bool) (a b : E) | sortLen (a : E) | lc2 (own own1 : List (Str × Nat)) (it : It) (t : T) (c : Oe) (it1 : It) (t1 : T) (c1 : Oe) (elt : E)
  | call (x : Str) (f : Fn) (as : As) | b1 (b : B1) (a : E) | b2 (b : B2) (a b' : E)
  | lc (own : List (Str × Nat)) (it : It) (t : T) (elt : E) | lcIf (own : List (Str × Nat)) (it : It) (t : T) (c elt : E)
  | dget (i : Nat) (k : E) | lcD (own : List (Str × Nat)) (i : Nat) (t : T) (c elt : E) | mth (m : Mt) (a b : E)
inductive Oe where
  | no | yes (e : E)
inductive Es where
  | nil | cons (e : E) (r : Es) | star (e : E) (r : Es)
inductive As where
  | nil | cons (e : E) (r : As) | cell (i : Nat) (r : As) | scr (i : Nat) (r : As)
inductive It where
  | seq (e : E) | r1 (a : E) | r2 (a b : E) | zip (a b : E) | en (a : E)
end
def T.ix : T → List Nat
  | .nm i => [i]
  | .tup is => is
def tsOf : List Nat → TMs
  | [] => tsNil
  | i :: r => tsCons (tN i) (tsOf r)
def T.den : T → TM
  | .nm i => tN i
  | .tup is => tT is.length (tsOf is)
mutual
def E.den : E → ME
  | .var i => vVar i
  | .peek i => vPeek i
  | .scr i => vScr i
  | .int n => vC (.int n)
  | .str s => vC (.str s)
  | .bl b => vC (.bool b)
  | .non => vC .none
  | .glob _ d => vC d
  | .bin o a b => v2 o.sem a.den b.den
  | .un o a => v1 o.sem a.den
  | .cmp o a b => v2 o.sem a.den b.den
  | .chain o o' a b c => vChain o.sem o'.sem a.den b.den c.den
  | .chain3 o o' o2 a b c d => vChain3 o.sem o'.sem o2.sem a.den b.den c.den d.den
  | .not a => vNot a.den
  | .ands es => es.denAnd
  | .ors es => es.denOr
  | .ite c a b => vIf c.den a.den b.den
  | .ix a b => v2 ixD a.den b.den
  | .cell i k => vCell i k.den
  | .sl a lo hi => vSl a.den lo.den hi.den
  | .tup es => vTup es.den
  | .lst es => vLst es.den
  | .tupS es => vTupS es.den
  | .lstS es => vLstS es.den
  | .dead => fun _ => bad
  | .told e => vTold e.den
  | .toldD e => vTold e.den
  | .srtSet a => v1 srtSetD a.den
  | .rg1 t a => vRg1 t a.den
  | .rg2 t a b => vRg2 t a.den b.den
  | .sortLen a => v1 sortLenD a.den
  | .lc2 own own1 it t c it1 t1 c1 elt => vLc2 (own.map (·.2)) (own1.map (·.2)) it.den t.den c.denC it1.den t1.den c1.denC elt.den
  | .fmt a => v1 fmtD a.den
  | .fstr es => vJs es.denL
  | .call _ f as => vCall f as.den
  | .b1 b a => v1 b.sem a.den
  | .b2 b a b' => v2 b.sem a.den b'.den
  | .lc own it t elt => vLc (own.map (·.2)) it.den t.den (vC (.bool true)) elt.den
  | .lcIf own it t c elt => vLc (own.map (·.2)) it.den t.den c.den elt.den
  | .dget i k => vDget i k.den
  | .lcD own i t c elt => vLcD i (own.map (·.2)) t.den c.den elt.den
  | .mth m a b => vMeth m.sem a.den b.den
def Es.denL : Es → List ME
  | .nil => []
  | .cons e r => e.den :: r.denL
  | .star _ _ => []
def Oe.denC : Oe → ME
  | .no => vC (.bool true)
  | .yes e => e.den
def Oe.den : Oe → MO
  | .no => oNo
  | .yes e => oYes e.den
def Es.den : Es → MA
  | .nil => aNil
  | .cons e r => aCons e.den r.den
  | .star e r => aStar e.den r.den
def Es.denAnd : Es → ME
  | .nil => fun _ => bad
  | .cons e .nil => e.den
  | .cons e r => vAnd e.den r.denAnd
  | .star _ _ => fun _ => bad
def Es.denOr : Es → ME
  | .nil => fun _ => bad
  | .cons e .nil => e.den
  | .cons e r => vOr e.den r.denOr
  | .star _ _ => fun _ => bad
def As.den : As → MG
  | .nil => gNil
  | .cons e r => gCons e.den r.den
  | .cell i r => gCell i r.den
  | .scr i r => gScr i r.den
def It.den : It → MI
  | .seq e => iSeq e.den
  | .r1 a => iR1 a.den
  | .r2 a b => iR2 a.den b.den
  | .zip a b => iZip a.den b.den
  | .en a => iEn a.den
end
/-! the look at the text -/
def noDbg (x : Str) : Bool := !(x == ("__debug__" : Str)) && !(x == ("__classdict__" : Str)) && !(x == ("__name__" : Str))
def visB (sc : Scope) (x : Str) : Bool := noDbg x && (match sc.names.lookup x with
  | some .local => true
  | some .cell => true
  | some .free => true
  | _ => false)
def glB (sc : Scope) (x : Str) : Bool := noDbg x && decide (sc.names.lookup x = some .globalImplicit)
def locB (sc : Scope) (fnb : Str → Bool) (x : Str) : Bool := match sc.names.lookup x with
  | some .local => true
  | some .cell => fnb x
  | _ => false
def nameB (N : List Str) (sc : Scope) (i : Nat) (x : Str) : Bool := decide (N[i]? = some x) && visB sc x
def tgB (N : List Str) (sc : Scope) (fnb : Str → Bool) (i : Nat) : Expr → Bool
  | .Name x _ => decide (N[i]? = some x) && locB sc fnb x
  | _ => false
def tgsB (N : List Str) (sc : Scope) (fnb : Str → Bool) : List Nat → List Expr → Bool
  | [], [] => true
  | i :: is, e :: es => tgB N sc fnb i e && tgsB N sc fnb is es
  | _, _ => false
def T.chk (N : List Str) (sc : Scope) (fnb : Str → Bool) : T → Expr → Bool
  | .nm i, e => tgB N sc fnb i e
  | .tup is, .Tuple es _ _ => tgsB N sc fnb is es
  | _, _ => false
def E.val : E → Bool
  | .peek _ => false
  | .scr _ => false
  | _ => true
def It.valB : It → Bool
  | .seq e => e.val
  | _ => true
mutual
def E.tok : E → Bool
  | .peek _ => false
  | .scr _ => false
  | .ite _ _ _ => false
  | .not a => a.tok
  | .ands es => es.toks
  | .ors es => es.toks
  | _ => true
def Es.toks : Es → Bool
  | .nil => true
  | .cons e r => e.tok && r.toks
  | .star _ _ => false
end
mutual
def E.chk (N : List Str) (sc : Scope) (fnb : Str → Bool) : E → Expr → Bool
  | .var i, .Name x _ => nameB N sc i x
  | .peek i, .Name x _ => nameB N sc i x
  | .scr i, .Name x _ => nameB N sc i x
  | .int n, .Constant (.int m) _ _ => decide (n = m)
  | .str s, .Constant (.str t) _ _ => decide (s = t)
  | .bl b, .Constant (.bool c) _ _ => decide (b = c)
  | .non, .Constant .none _ _ => true
  | .glob x _, .Name y _ => decide (x = y) && glB sc y
  | .bin o a b, .BinOp l op r _ => decide (op = o.op) && a.chk N sc fnb l && b.chk N sc fnb r && a.val' && b.val'
  | .un o a, .UnaryOp op l _ => decide (op = o.op) && a.chk N sc fnb l && a.val'
  | .cmp o a b, .Compare l [op] [r] _ => decide (op = o.op) && a.chk N sc fnb l && b.chk N sc fnb r && plainE r && a.val' && b.val'
  | .chain o o' a b c, .Compare l [op, op'] [r, t] _ => decide (op = o.op) && decide (op' = o'.op) && a.chk N sc fnb l && b.chk N sc fnb r && c.chk N sc fnb t && plainE t && a.val' && b.val' && c.val'
  | .chain3 o o' o2 a b c d, .Compare l [op, op', op2] [r, t, u] _ => decide (op = o.op) && decide (op' = o'.op) && decide (op2 = o2.op) && a.chk N sc fnb l && b.chk N sc fnb r && c.chk N sc fnb t && d.chk N sc fnb u && plainE u && a.val' && b.val' && c.val' && d.val'
  | .not a, .UnaryOp .Not l _ => a.chk N sc fnb l && a.val
  | .ands es, .BoolOp .And l _ => es.chk N sc fnb l && !l.isEmpty
  | .ors es, .BoolOp .Or l _ => es.chk N sc fnb l && !l.isEmpty
  | .ite c a b, .IfExp l m r _ => c.chk N sc fnb l && a.chk N sc fnb m && b.chk N sc fnb r && c.tok && a.val && b.val
  | .ix a b, .Subscript l r _ => a.chk N sc fnb l && b.chk N sc fnb r && plainE r && a.val' && b.val'
  | .cell i k, .Subscript (.Name x _) r _ => nameB N sc i x && k.chk N sc fnb r && plainE r && k.val
  | .sl a lo hi, .Subscript l (.Slice u v none _) _ => a.chk N sc fnb l && lo.chk N sc fnb u && hi.chk N sc fnb v
  | .tup es, .Tuple l _ _ => es.chk N sc fnb l && decide (l.length ≤ 1000)
  | .lst es, .List l _ => es.chk N sc fnb l && decide (l.length ≤ 1000)
  | .tupS es, .Tuple l _ _ => es.chkS N sc fnb l
  | .lstS es, .List l _ => es.chkS N sc fnb l
  | .dead, _ => true
  | .told e, .Call (.Name y _) [.Lambda ⟨[], [], none, [], [], none, []⟩ bd scope _] [] _ => decide (y = ("_law_told" : Str)) && glB sc y && LamX.lamSB sc scope && e.chk N scope (fun _ => false) bd && e.val
  | .toldD e, .Call (.Name y _) [.Lambda ⟨[], [ag], none, [], [], none, [.Constant (.int _) _ _]⟩ bd scope _] [] _ => decide (y = ("_law_told" : Str)) && glB sc y && lamDB N sc scope ag.arg && e.chk N scope (fun _ => false) bd && e.val
  | .srtSet a, .Call (.Name y _) [.Call (.Name z _) [l] [] _] [] _ => decide (y = ("sorted" : Str)) && decide (z = ("set" : Str)) && glB sc y && glB sc z && a.chk N sc fnb l && plainE l && a.val'
  | .rg1 t a, .Call (.Name y _) [.Call (.Name z _) [l] [] _] [] _ => decide (y = rgNm t) && decide (z = ("range" : Str)) && glB sc y && glB sc z && a.chk N sc fnb l && plainE l && a.val
  | .rg2 t a b, .Call (.Name y _) [.Call (.Name z _) [l, r] [] _] [] _ => decide (y = rgNm t) && decide (z = ("range" : Str)) && glB sc y && glB sc z && a.chk N sc fnb l && b.chk N sc fnb r && plainE l && plainE r && a.val && b.val
  | .sortLen a, .Call (.Name y _) [l] [⟨some kn, .Lambda ⟨[], [ag], none, [], [], none, []⟩ (.Tuple [.Call (.Name ln _) [.Name x1 _] [] _, .Name x2 _] _ _) scope _, _⟩] _ => decide (y = ("sorted" : Str)) && decide (kn = ("key" : Str)) && decide (ln = ("len" : Str)) && decide (x1 = ag.arg) && decide (x2 = ag.arg) && glB sc y && keyScopeB scope ag.arg && a.chk N sc fnb l && plainE l && a.val'
  | .lc2 own own1 it t c it1 t1 c1 elt, .ListComp el [⟨tg, iter, ifs, 0⟩, ⟨tg1, iter1, ifs1, 0⟩] scope _ => blkC N sc scope own && it.chkT N sc fnb tg iter && plainE iter && t.ix.all (fun i => (own.map (·.2)).contains i) && t.chk N (relS scope sc) (fun x => scope.names.lookup x == some .cell) tg && c.chkC N (relS scope sc) (fun x => scope.names.lookup x == some .cell) ifs && it1.chkT N (relS scope sc) (fun x => scope.names.lookup x == some .cell) tg1 iter1 && it1.valB && plainE iter1 && (own1.map (·.2)).all (fun i => (own.map (·.2)).contains i) && t1.ix.all (fun i => (own1.map (·.2)).contains i) && t1.chk N (relS scope sc) (fun x => scope.names.lookup x == some .cell) tg1 && c1.chkC N (relS scope sc) (fun x => scope.names.lookup x == some .cell) ifs1 && elt.chk N (relS scope sc) (fun x => scope.names.lookup x == some .cell) el && elt.val
  | .fmt a, .FormattedValue l (-1) none _ => a.chk N sc fnb l && a.val
  | .fstr es, .JoinedStr l _ => es.chk N sc fnb l && decide (2 ≤ l.length)
  | .call x _ as, .Call (.Name y _) l [] _ => decide (x = y) && glB sc y && as.chk N sc fnb l && plains l
  | .b1 b a, .Call (.Name y _) [l] [] _ => decide (y = b.nm) && glB sc y && a.chk N sc fnb l && plainE l && a.val'
  | .b2 b a b', .Call (.Name y _) [l, r] [] _ => decide (y = b.nm) && glB sc y && a.chk N sc fnb l && b'.chk N sc fnb r && plainE l && plainE r && a.val' && b'.val'
  | .lc own it t elt, .ListComp el [⟨tg, iter, [], 0⟩] scope _ => blkC N sc scope own && it.chkT N sc fnb tg iter && plainE iter && t.ix.all (fun i => (own.map (·.2)).contains i) && t.chk N (relS scope sc) (fun x => scope.names.lookup x == some .cell) tg && elt.chk N (relS scope sc) (fun x => scope.names.lookup x == some .cell) el && elt.val
  | .lcIf own it t c elt, .ListComp el [⟨tg, iter, [i1], 0⟩] scope _ => blkC N sc scope own && it.chkT N sc fnb tg iter && plainE iter && t.ix.all (fun i => (own.map (·.2)).contains i) && t.chk N (relS scope sc) (fun x => scope.names.lookup x == some .cell) tg && c.chk N (relS scope sc) (fun x => scope.names.lookup x == some .cell) i1 && c.tok && elt.chk N (relS scope sc) (fun x => scope.names.lookup x == some .cell) el && elt.val
  | .dget i k, .Subscript (.Name x _) r _ => nameB N sc i x && k.chk N sc fnb r && plainE r && k.val
  | .lcD own i t c elt, .ListComp el [⟨tg, .Name x _, [i1], 0⟩] scope _ => blkC N sc scope own && nameB N sc i x && t.ix.all (fun i => (own.map (·.2)).contains i) && t.chk N (relS scope sc) (fun x => scope.names.lookup x == some .cell) tg && c.chk N (relS scope sc) (fun x => scope.names.lookup x == some .cell) i1 && c.tok && elt.chk N (relS scope sc) (fun x => scope.names.lookup x == some .cell) el && elt.val
  | .mth m a b, .Call (.Attribute (.Name x xp) nm ap) [r] [] cp => decide (nm = m.nm) && a.chk N sc fnb (.Name x xp) && b.chk N sc fnb r && plainE r && a.val' && b.val && (ap.endLine == cp.line)
  | _, _ => false
/-- a value, or one's own list just read -/
def E.val' : E → Bool
  | .scr _ => false
  | _ => true
def Oe.chkC (N : List Str) (sc : Scope) (fnb : Str → Bool) : Oe → List Expr → Bool
  | .no, [] => true
  | .yes e, [l] => e.chk N sc fnb l && e.tok
  | _, _ => false
def Oe.chk (N : List Str) (sc : Scope) (fnb : Str → Bool) : Oe → Option Expr → Bool
  | .no, none => true
  | .yes e, some l => e.chk N sc fnb l && e.val
  | _, _ => false
def Es.chk (N : List Str) (sc : Scope) (fnb : Str → Bool) : Es → List Expr → Bool
  | .nil, [] => true
  | .cons e r, l :: ls => e.chk N sc fnb l && plainE l && e.val && r.chk N sc fnb ls
  | _, _ => false
def Es.chkS (N : List Str) (sc : Scope) (fnb : Str → Bool) : Es → List Expr → Bool
  | .nil, [] => true
  | .cons e r, l :: ls => e.chk N sc fnb l && plainE l && e.val && r.chkS N sc fnb ls
  | .star e r, .Starred l _ :: ls => e.chk N sc fnb l && e.val' && r.chkS N sc fnb ls
  | _, _ => false
def As.chk (N : List Str) (sc : Scope) (fnb : Str → Bool) : As → List Expr → Bool
  | .nil, [] => true
  | .cons e r, l :: ls => e.chk N sc fnb l && plainE l && e.val && r.chk N sc fnb ls
  | .cell i r, .Name x _ :: ls => nameB N sc i x && r.chk N sc fnb ls
  | .scr i r, .Name x _ :: ls => nameB N sc i x && r.chk N sc fnb ls
  | _, _ => false
/-- walked in a comprehension -/
def It.chkT (N : List Str) (sc : Scope) (fnb : Str → Bool) : It → Expr → Expr → Bool
  | .seq e, _, l => e.chk N sc fnb l
  | .r1 a, _, .Call (.Name y _) [l] [] _ => decide (y = ("range" : Str)) && glB sc y && a.chk N sc fnb l && plainE l && a.val
  | .r2 a b, _, .Call (.Name y _) [l, r] [] _ => decide (y = ("range" : Str)) && glB sc y && a.chk N sc fnb l && b.chk N sc fnb r && plainE l && plainE r && a.val && b.val
  | .zip a b, .Tuple _ _ _, .Call (.Name y _) [l, r] [] _ => decide (y = ("zip" : Str)) && glB sc y && a.chk N sc fnb l && b.chk N sc fnb r && plainE l && plainE r && a.val && b.val
  | .en a, .Tuple _ _ _, .Call (.Name y _) [l] [] _ => decide (y = ("enumerate" : Str)) && glB sc y && a.chk N sc fnb l && plainE l && a.val
  | _, _, _ => false
end
/-- walked in a for -/
def It.chkF (N : List Str) (sc : Scope) (fnb : Str → Bool) (it : It) (tg iter : Expr) : Bool := it.chkT N sc fnb tg iter && it.valB
/-! what is needed of the module -/
inductive Need where
  | call (x : Str) (n : Nat) (f : Fn) | glob (x : Str) (d : D) | exn (x : Str) (k : Exn) | tell | key | deep (n : Need) | inner (n : Need)
mutual
def E.needs : E → List Need
  | .glob x d => [.glob x d]
  | .bin _ a b => a.needs ++ b.needs
  | .un _ a => a.needs
  | .cmp _ a b => a.needs ++ b.needs
  | .chain _ _ a b c => a.needs ++ (b.needs ++ c.needs)
  | .chain3 _ _ _ a b c d => a.needs ++ (b.needs ++ (c.needs ++ d.needs))
  | .not a => a.needs
  | .ands es => es.needs
  | .ors es => es.needs
  | .ite c a b => c.needs ++ (a.needs ++ b.needs)
  | .ix a b => a.needs ++ b.needs
  | .cell _ k => k.needs
  | .sl a lo hi => a.needs ++ (lo.needs ++ hi.needs)
  | .tup es => es.needs
  | .lst es => es.needs
  | .tupS es => es.needs
  | .lstS es => es.needs
  | .fmt a => a.needs
  | .fstr es => es.needs
  | .call x f as => .call x as.len f :: as.needs
  | .b1 _ a => a.needs
  | .b2 _ a b => a.needs ++ b.needs
  | .lc _ it _ elt => it.needs ++ elt.needs.map .inner
  | .lcIf _ it _ c elt => it.needs ++ (c.needs.map .inner ++ elt.needs.map .inner)
  | .told e => .tell :: e.needs.map .deep
  | .toldD e => .tell :: e.needs.map .deep
  | .srtSet a => a.needs
  | .rg1 _ a => a.needs
  | .rg2 _ a b => a.needs ++ b.needs
  | .sortLen a => .key :: a.needs
  | .lc2 _ _ it _ c it1 _ c1 elt => it.needs ++ (c.needs.map .inner ++ (it1.needs.map .inner ++ (c1.needs.map .inner ++ elt.needs.map .inner)))
  | .dget _ k => k.needs
  | .lcD _ _ _ c elt => c.needs.map .inner ++ elt.needs.map .inner
  | .mth _ a b => a.needs ++ b.needs
  | _ => []
def Oe.needs : Oe → List Need
  | .no => []
  | .yes e => e.needs
def Es.needs : Es → List Need
  | .nil => []
  | .cons e r => e.needs ++ r.needs
  | .star e r => e.needs ++ r.needs
def As.needs : As → List Need
  | .nil => []
  | .cons e r => e.needs ++ r.needs
  | .cell _ r => r.needs
  | .scr _ r => r.needs
def As.len : As → Nat
  | .nil => 0
  | .cons _ r => r.len + 1
  | .cell _ r => r.len + 1
  | .scr _ r => r.len + 1
def It.needs : It → List Need
  | .seq e => e.needs
  | .r1 a => a.needs
  | .r2 a b => a.needs ++ b.needs
  | .zip a b => a.needs ++ b.needs
  | .en a => a.needs
end
/-- x = [.. for ..]: the list goes to x's slot at once -/
def swapB (sc : Scope) (x : Str) (px : Pos) : Expr → Bool
  | .ListComp _ _ scope pos => (match sc.names.lookup x with | some .local => px.line == pos.line && !(scope.names.any fun (n, k) => n == x && (k == .local || k == .cell)) | _ => false)
  | _ => false
def locOnly (N : List Str) (sc : Scope) (i : Nat) (x : Str) : Bool := decide (N[i]? = some x) && decide (sc.names.lookup x = some .local)
end Pv
namespace Pv
open PySem PySem.Spec PyProof.Rows L2
variable {Γ : Gm} {X : Cx} {W : WX} {pos p : Pos}
/-! the look is enough -/
def blts : List Str := ["len", "abs", "int", "max", "min", "sum", "all", "any", "sorted", "str", "repr", "tuple", "list", "range", "zip", "enumerate", "set", "isinstance"]
structure GmOk (Γ : Gm) : Prop where
  blt : ∀ x ∈ blts, Γ.mg x = none
structure EOk (Γ : Gm) (X : Cx) (W : WX) (e : E) (ex : Expr) : Prop where
  s : PE X ex (rd rrS Γ W e.den)
  t : e.val' = true → PE X ex (rdT Γ W e.den)
  v : e.val = true → PE X ex (rdE Γ W e.den)
  b : e.tok = true → PT X ex (rdB Γ W e.den)
theorem EOk.mk1 {e : E} {ex : Expr} (h : PE X ex (rdE Γ W e.den)) (hb : e.tok = true → PT X ex (rdB Γ W e.den)) : EOk Γ X W e ex := ⟨PE.toS (PE.toT h), fun _ => PE.toT h, fun _ => h, hb⟩
theorem EOk.of {e : E} {ex : Expr} (h : PE X ex (rdE Γ W e.den)) (hp : plainT ex = true) : EOk Γ X W e ex := .mk1 h fun _ => d_tst h hp
structure BOk (Γ : Gm) (X : Cx) (W : WX) (es : Es) (l : List Expr) : Prop where
  a : PA X l (rdN Γ W l.length es.den)
  pl : plains l = true
  an : ∀ pos, l.isEmpty = false → PE X (.BoolOp .And l pos) (rdE Γ W es.denAnd)
  on : ∀ pos, l.isEmpty = false → PE X (.BoolOp .Or l pos) (rdE Γ W es.denOr)
  at_ : ∀ pos, l.isEmpty = false → es.toks = true → PW X (.BoolOp .And l pos) (rdB Γ W es.denAnd)
  ot : ∀ pos, l.isEmpty = false → es.toks = true → PW X (.BoolOp .Or l pos) (rdB Γ W es.denOr)
  js : PJ X l (es.denL.map (rdE Γ W))
structure SOk (Γ : Gm) (X : Cx) (W : WX) (es : Es) (l : List Expr) : Prop where
  a : PA X l (rdA Γ W es.den)
structure GOk (Γ : Gm) (X : Cx) (W : WX) (as : As) (l : List Expr) : Prop where
  a : PA X l (rdG Γ W as.len as.den)
/-! small looks -/
theorem noDbg_1 {x : Str} (h : noDbg x = true) : (x == ("__debug__" : Str)) = false := by
  unfold noDbg at h; simp only [Bool.and_eq_true, Bool.not_eq_true'] at h; exact h.1.1
theorem noDbg_2 {x : Str} (h : noDbg x = true) : (x == ("__classdict__" : Str)) = false := by
  unfold noDbg at h; simp only [Bool.and_eq_true, Bool.not_eq_true'] at h; exact h.1.2
theorem noDbg_3 {x : Str} (h : noDbg x = true) : (x == ("__name__" : Str)) = false := by
  unfold noDbg at h; simp only [Bool.and_eq_true, Bool.not_eq_true'] at h; exact h.2
theorem visB_ok {sc : Scope} {x : Str} (h : visB sc x = true) : Vis sc x ∧ noDbg x = true := by
  unfold visB at h
  rw [Bool.and_eq_true] at h
  refine ⟨?_, h.1⟩
  have h2 := h.2
  unfold Vis
  split at h2
  · rename_i e; exact .inl e
  · rename_i e; exact .inr (.inl e)
  · rename_i e; exact .inr (.inr e)
  · cases h2
theorem locB_ok {sc : Scope} {fnb : Str → Bool} {x : Str} (h : locB sc fnb x = true) : L2.Loc sc x ∧ (fnb x = true ∨ sc.names.lookup x = some .local) := by
  unfold locB at h
  unfold L2.Loc
  split at h
  · rename_i e; exact ⟨.inl e, .inr e⟩
  · rename_i e; exact ⟨.inr e, .inl h⟩
  · cases h
theorem nameB_ok {N : List Str} {sc : Scope} {i : Nat} {x : Str} (h : nameB N sc i x = true) : N[i]? = some x ∧ Vis sc x ∧ noDbg x = true := by
  unfold nameB at h
  rw [Bool.and_eq_true] at h
  exact ⟨of_decide_eq_true h.1, visB_ok h.2⟩
theorem GoodX.vis {k : Nat} {N : List Str} {sc : Scope} {fnb : Str → Bool} (g : GoodX Γ k N sc fnb W X) {i : Nat} {x : Str} (h : nameB N sc i x = true) : X.N[i]? = some x ∧ Vis X.env.scope x ∧ (x == ("__debug__" : Str)) = false ∧ (x == ("__classdict__" : Str)) = false := by
  obtain ⟨h1, h2, h3⟩ := nameB_ok h
  rw [g.nm, g.scE]
  exact ⟨h1, h2, noDbg_1 h3, noDbg_2 h3⟩
theorem GoodX.gl {k : Nat} {N : List Str} {sc : Scope} {fnb : Str → Bool} (g : GoodX Γ k N sc fnb W X) {x : Str} (h : glB sc x = true) : Gl X x ∧ (x == ("__debug__" : Str)) = false ∧ (x == ("__name__" : Str)) = false := by
  unfold glB at h
  rw [Bool.and_eq_true] at h
  refine ⟨?_, noDbg_1 h.1, noDbg_3 h.1⟩
  have e := of_decide_eq_true h.2
  unfold Gl PySem.Env.kindOf
  rw [g.scE]
  exact e
/-- a text of several parts -/
theorem post_js {C : Option Addr} {B0 H0 : Hp} {ρ : Env} {σ : L2.St} {Q : VK} : ∀ (ms : List ME) (acc : Str) (S : SS) (B H : Hp), Rel Γ C B0 H0 ρ S σ B H → PostV rrE Γ C W σ B H Q (jAll ms acc ρ S) → tJs (ms.map (rdE Γ W)) acc σ H (fun out H1 => Q (.str out) H1)
  | [], acc, S, B, H, r, q => q _ H B r.nx.here (.str _)
  | m :: ms, acc, S, B, H, r, q => by
    unfold jAll at q
    refine rd_bind r q fun d S1 v H1 B1 r1 n1 x1 p1 => ?_
    cases d with
    | str y =>
      cases x1
      dsimp only at p1
      by_cases hl : (acc ++ y).length ≤ sizeLine
      · rw [if_pos hl] at p1
        exact ⟨y, rfl, hl, post_js ms _ S1 B1 H1 r1 p1⟩
      · rw [if_neg hl] at p1; exact p1.elim
    | _ => exact p1.elim
theorem d_fstr {v1 v2 : Expr} {rest : List Expr} {ms : List ME} (h : PJ X (v1 :: v2 :: rest) (ms.map (rdE Γ W))) : PE X (.JoinedStr (v1 :: v2 :: rest) pos) (rdE Γ W (vJs ms)) :=
  PE.imp (pe_joined h) fun σ H Q ⟨C, B0, H0, ρ, S, B, r, q⟩ => post_js ms _ S B H r q
theorem d_fmt {e : Expr} {ma : ME} (h : PE X e (rdE Γ W ma)) : PE X (.FormattedValue e (-1) none pos) (rdE Γ W (v1 fmtD ma)) :=
  PE.imp (pe_fmt h) fun σ H Q ⟨C, B0, H0, ρ, S, B, r, q⟩ => rd_bind r q fun d S1 v H1 B1 r1 n1 x1 p1 => by
    unfold fmtD at p1
    split at p1
    · cases x1
      split at p1
      · rename_i hl; exact .inl ⟨_, rfl, hl, p1.val r1.nx.here (.str _)⟩
      · exact p1.elim
    · cases x1
      split at p1
      · rename_i hl; exact .inr ⟨_, rfl, hl, p1.val r1.nx.here (.str _)⟩
      · exact p1.elim
    · exact p1.elim
/-! operators -/
theorem GoodX.u64 {k : Nat} {N : List Str} {sc : Scope} {fnb : Str → Bool} (g : GoodX Γ k N sc fnb W X) : X.A.units + 64 < cLine := g.rm.units
theorem GoodX.u65 {k : Nat} {N : List Str} {sc : Scope} {fnb : Str → Bool} (g : GoodX Γ k N sc fnb W X) : X.A.units + 65 < cLine := by have := g.rm.un; omega
section
variable {k : Nat} {N : List Str} {sc : Scope} {fnb : Str → Bool} {a b c : Expr} {ma mb mc : ME} {x : Str}
theorem g_bin (g : GoodX Γ k N sc fnb W X) (o : Bop) (ha : PE X a (rdT Γ W ma)) (hb : PE X b (rdT Γ W mb)) : PE X (.BinOp a o.op b pos) (rdE Γ W (v2 o.sem ma mb)) := by
  have hK := g.ofs.K
  cases o with
  | add => exact d_bin (op_addP Γ.K hK) addP ha hb
  | sub => exact d_bin op_sub subP ha hb
  | mul => exact d_bin (op_mulP Γ.K hK) mulP ha hb
  | fdiv => exact d_bin op_fdivP fdivP ha hb
  | mod => exact d_bin op_modN modP ha hb
  | pow => exact d_bin op_pow powP ha hb
  | shl => exact d_bin op_shl shlP ha hb
  | shr => exact d_bin op_shr shrP ha hb
  | and => exact d_bin op_and andP ha hb
  | or => exact d_bin op_or orP ha hb
  | xor => exact d_bin op_xor xorP ha hb
theorem g_un (o : Uop) (ha : PE X a (rdT Γ W ma)) : PE X (.UnaryOp o.op a pos) (rdE Γ W (v1 o.sem ma)) := by
  cases o with
  | neg => exact d_un un_neg negP ha
  | inv => exact d_un un_inv invP ha
theorem g_cop (g : GoodX Γ k N sc fnb W X) (o : Cop) : ∃ r, OpR X (compareOp o.op) r ∧ OpP Γ o.sem r := by
  have hK := g.ofs.K
  cases o with
  | eq => exact ⟨_, op_eqP Γ.K hK g.u64, eqP⟩
  | ne => exact ⟨_, op_neP Γ.K hK g.u64, neP⟩
  | lt => exact ⟨_, op_lt, ltP⟩
  | le => exact ⟨_, op_le, leP⟩
  | gt => exact ⟨_, op_gt, gtP⟩
  | ge => exact ⟨_, op_ge, geP⟩
  | isIn => exact ⟨_, op_inP Γ.K hK g.u65, inP⟩
  | notIn => exact ⟨_, op_notInP Γ.K hK g.u65, notInP⟩
  | isN => exact ⟨_, op_isN, isNP⟩
  | notN => exact ⟨_, op_notN, notNP⟩
theorem g_b1 (g : GoodX Γ k N sc fnb W X) (G0 : GmOk Γ) (o : B1) (hg : glB sc o.nm = true) (ha : PE X a (rdT Γ W ma)) (hf : plainE a = true) : PE X (.Call (.Name o.nm p) [a] [] pos) (rdE Γ W (v1 o.sem ma)) := by
  have hK := g.ofs.K
  obtain ⟨h1, h2, h3⟩ := g.gl hg
  have hm : ∀ x ∈ blts, X.mg x = none := fun x hx => by rw [g.ofs.mg]; exact G0.blt x hx
  cases o with
  | len => exact d_blt1 (c_len hK) lenP h1 (hm _ (by decide)) rfl (by decide) h2 ha hf
  | abs => exact d_blt1 call_abs absP h1 (hm _ (by decide)) rfl (by decide) h2 ha hf
  | int => exact d_ty1 call_int1 intP h1 (hm _ (by decide)) rfl (by decide) h2 ha hf
  | str => exact d_ty1 call_str_int strP h1 (hm _ (by decide)) rfl (by decide) h2 ha hf
  | repr => exact d_blt1 (c_repr hK g.gd g.u64) reprP h1 (hm _ (by decide)) rfl (by decide) h2 ha hf
  | max => exact d_blt1 (c_max hK g.calm g.u64) maxP h1 (hm _ (by decide)) rfl (by decide) h2 ha hf
  | min => exact d_blt1 (c_min hK g.calm g.u64) minP h1 (hm _ (by decide)) rfl (by decide) h2 ha hf
  | sum => exact d_blt1 (CallR.or (hK ▸ cr_sum g.calm) (hK ▸ cr_sumTup g.calm)) sumP h1 (hm _ (by decide)) rfl (by decide) h2 ha hf
  | all => exact d_blt1 (hK ▸ cr_all g.calm) allP h1 (hm _ (by decide)) rfl (by decide) h2 ha hf
  | any => exact d_blt1 (hK ▸ cr_any g.calm) anyP h1 (hm _ (by decide)) rfl (by decide) h2 ha hf
  | sorted => exact d_blt1 (c_sorted hK g.u64) sortedP h1 (hm _ (by decide)) rfl (by decide) h2 ha hf
  | tuple => exact d_ty1 (hK ▸ call_tuple_of) tupleP h1 (hm _ (by decide)) rfl (by decide) h2 ha hf
  | list => exact d_ty1 (hK ▸ call_list_of) listP h1 (hm _ (by decide)) rfl (by decide) h2 ha hf
theorem g_b2 (g : GoodX Γ k N sc fnb W X) (G0 : GmOk Γ) (o : B2) (hg : glB sc o.nm = true) (ha : PE X a (rdT Γ W ma)) (hb : PE X b (rdT Γ W mb)) (hf : plainE a = true) (hf2 : plainE b = true) : PE X (.Call (.Name o.nm p) [a, b] [] pos) (rdE Γ W (v2 o.sem ma mb)) := by
  have hK := g.ofs.K
  obtain ⟨h1, h2, h3⟩ := g.gl hg
  have hm : ∀ x ∈ blts, X.mg x = none := fun x hx => by rw [g.ofs.mg]; exact G0.blt x hx
  cases o with
  | max => exact d_blt2 (call_max2 g.calm) max2P h1 (hm _ (by decide)) rfl (by decide) h2 ha hb hf hf2
  | min => exact d_blt2 (call_min2 g.calm) min2P h1 (hm _ (by decide)) rfl (by decide) h2 ha hb hf hf2
end
/-! targets -/
section
variable {k : Nat} {N : List Str} {sc : Scope} {fnb : Str → Bool}
theorem tg_ok (g : GoodX Γ k N sc fnb W X) {i : Nat} {e : Expr} (h : tgB N sc fnb i e = true) : PG X e (rdP Γ [i] (tN i)) ∧ ∃ x q, e = .Name x q := by
  cases e with
  | Name x q =>
    unfold tgB at h
    rw [Bool.and_eq_true] at h
    obtain ⟨h2, h3⟩ := locB_ok h.2
    have nd := g.nd
    rw [← g.nm] at nd
    refine ⟨d_tn nd (by rw [g.nm]; exact of_decide_eq_true h.1) (by rw [g.scE]; exact h2) (by rw [g.fn, g.scE]; exact h3), x, q, rfl⟩
  | _ => cases h
theorem tgs_names (g : GoodX Γ k N sc fnb W X) : ∀ {is : List Nat} {es : List Expr}, tgsB N sc fnb is es = true → (assignEach es X.env).length = is.length ∧ (assignEach es X.env).findIdx? (·.1) = none ∧ PGs X es (rdPs Γ is (tsOf is))
  | [], [], _ => ⟨rfl, rfl, d_tsnil⟩
  | i :: is, e :: es, h => by
    unfold tgsB at h
    rw [Bool.and_eq_true] at h
    obtain ⟨h1, x, q, rfl⟩ := tg_ok g h.1
    obtain ⟨l, st, r⟩ := tgs_names g h.2
    have hs : assignEach (.Name x q :: es) X.env = (false, assign (.Name x q) X.env) :: assignEach es X.env := rfl
    refine ⟨by rw [hs, List.length_cons, l]; rfl, ?_, ?_⟩
    · rw [hs, List.findIdx?_cons]; simp [st]
    · exact d_tscons h1 r (by rw [hs]; rfl)
  | [], _ :: _, h => by cases h
  | _ :: _, [], h => by cases h
theorem t_ok (g : GoodX Γ k N sc fnb W X) {t : T} {e : Expr} (h : t.chk N sc fnb e = true) : PG X e (rdP Γ t.ix t.den) := by
  cases t with
  | nm i => exact (tg_ok g h).1
  | tup is =>
    cases e with
    | Tuple es c q =>
      obtain ⟨l, st, r⟩ := tgs_names g (is := is) (es := es) h
      exact d_tt g.ofs.K g.calm r l st
    | _ => cases h
/-- a target of a term sets its own slots alone -/
theorem tsOf_ok : ∀ (is : List Nat) (ds : List D) (ρ ρ' : Env), tsOf is ds ρ = some ρ' → ∀ j, (j ∉ is → ρ'.getD j .none = ρ.getD j .none) ∧ (j ∈ is → (∃ d', ρ'.getD j .none = .val d') ∨ ρ'.getD j .none = .none)
  | [], ds, ρ, ρ', h, j => by
    cases ds with
    | nil => cases h; exact ⟨fun _ => rfl, fun z => by cases z⟩
    | cons _ _ => cases h
  | i :: r, ds, ρ, ρ', h, j => by
    cases ds with
    | nil => cases h
    | cons d ds =>
      have h : tsOf r ds (ρ.set i (.val d)) = some ρ' := h
      have a := tsOf_ok r ds _ ρ' h j
      have g := getD_set ρ i j (.val d)
      refine ⟨fun n => ?_, fun m => ?_⟩
      · rw [a.1 fun z => n (List.mem_cons_of_mem _ z), g, if_neg fun z => n (by rw [z.1]; exact List.mem_cons_self)]
      · by_cases jr : j ∈ r
        · exact a.2 jr
        · rw [a.1 jr, g]
          have ij : i = j := by
            rcases List.mem_cons.mp m with z | z
            · exact z.symm
            · exact (jr z).elim
          by_cases c : i = j ∧ i < ρ.length
          · rw [if_pos c]
            exact .inl ⟨_, rfl⟩
          · rw [if_neg c]
            have l : ρ.length ≤ j := by
              cases Nat.lt_or_ge i ρ.length with
              | inl z => exact (c ⟨ij, z⟩).elim
              | inr z => omega
            rw [List.getD_eq_getElem?_getD, List.getElem?_eq_none l]
            exact .inr rfl
theorem tm_ok (t : T) : TmOk t.ix t.den := by
  intro d ρ ρ' h
  cases t with
  | nm i =>
    cases h
    exact tsOf_ok [i] [d] ρ _ rfl
  | tup is =>
    cases d with
    | tuple ds =>
      have h : (if ds.length = is.length then tsOf is ds ρ else none) = some ρ' := h
      split at h
      · exact tsOf_ok is ds ρ ρ' h
      · cases h
    | _ => cases h
end
end Pv
namespace Pv
open PySem PySem.Spec PyProof.Rows L2
open L2H (HotC Hot1 PIH PIEH TurnH)
variable {Γ : Gm}
/-! a list comprehension while an exception is handled -/
section
variable {X : Cx}
/-- the block's context, the handled exception borne -/
abbrev blkP (Y : Cx) (p : Addr × Obj) : Cx := { Y with pn := [p] }
theorem ok_pn {Y : Cx} (ok : Y.Ok) (p : Addr × Obj) : (blkP Y p).Ok := ok.toTry [p] Y.xe
theorem to_pin {Y : Cx} {p : Addr × Obj} {pins : List (Addr × Obj)} {σ : L2.St} {H : Hp} {s : Shared} (I : Inv Y pins σ H s) (hp : s.heap.get? p.1 = some p.2 ∧ H p.1 = none ∧ p.1 ≠ Y.env.locals ∧ p.1 ∉ Y.fs ∧ ∀ v, p.2.data ≠ .cell v) (hn : Y.pn = []) : Inv (blkP Y p) pins σ H s :=
  ⟨ok_pn I.ok p, I.os, I.bare, I.base, I.loc, I.cell, I.free, I.freeC, fun q hq => by
    cases List.mem_append.mp hq with
    | inl z => rw [List.mem_singleton.mp z]; exact hp
    | inr z => exact I.pin q (List.mem_append_right _ z), I.hok, I.len⟩
theorem of_pin {Y : Cx} {p : Addr × Obj} {pins : List (Addr × Obj)} {σ : L2.St} {H : Hp} {s : Shared} (I : Inv (blkP Y p) pins σ H s) (ok : Y.Ok) (hn : Y.pn = []) : Inv Y pins σ H s :=
  ⟨ok, I.os, I.bare, I.base, I.loc, I.cell, I.free, I.freeC, fun q hq => I.pin q (by rw [hn] at hq; exact List.mem_append_right _ hq), I.hok, I.len⟩
theorem lc_hot {pins : List (Addr × Obj)} {s : Shared} {σ : L2.St} {H : Hp} {Q : VK} {elt tg iter : Expr} {ifs : List Expr} {scope : Scope} {own : List (Str × Nat)} {pos pos' : Pos} {wi : TI} {g : TG} {tt : TT} {te : TE} {use : Option (Value → Sem Unit)} {Qf : Value → Shared → Prop}
    (hot : HotC X) (nodup : X.N.Nodup) (I : Inv X pins σ H s) (walk : PIH X tg iter wi) (bk : BlkOk X.N X.env.scope scope own)
    (pgs : ∀ (s : Shared) (H : Hp) (C : Addr) (cl : List (Str × Addr)) (fp : List Addr), PG (X.blk s H scope (compEnvC scope cl C X.env) fp) tg g) (pts : ∀ (s : Shared) (H : Hp) (C : Addr) (cl : List (Str × Addr)) (fp : List Addr), PTs (X.blk s H scope (compEnvC scope cl C X.env) fp) ifs tt)
    (pes : ∀ (s : Shared) (H : Hp) (C : Addr) (cl : List (Str × Addr)) (fp : List Addr), PE (X.blk s H scope (compEnvC scope cl C X.env) fp) elt te) (noset : ∀ x, foldedSetIterable iter X.env x = pure x)
    (ask : tLc wi g tt te (own.map (·.2)) σ H Q)
    (fin : ∀ D C s' m H', Inv X pins σ H' s' → Q (.ref D) H' → s'.heap.Ns C m → FpOk X pins H' C → compPost (model X.prog X.w) X.A X.xe use Qf (.ref D) C (.ok .next) s') :
    wpAny (model X.prog X.w) X.A (comprehension (.ListComp elt [⟨tg, iter, ifs, 0⟩] scope pos) scope X.env pos' (newList []) false (eval iter X.env) use) Qf X.xe s := by
  obtain ⟨p, hp1, hpm⟩ := hot
  have caught : ∀ y ∈ scope.names, y.2 = .free → ∃ c, X.env.cells.lookup y.1 = some c := by
    intro y hy e
    cases bk.free y hy e with
    | inl k => exact I.ok.has _ (.inl k)
    | inr k => exact I.ok.has _ (.inr k)
  refine wpAny_comprehension_free (use := use) rfl noset (closure_ok caught) bk.kind (fun y hy e => by rw [bk.uniq y hy, e])
    (thn (walk.run pins s σ H _ I ask) fun xv s1 hx => thn hx fun itv s2 h2 => ?_)
  obtain ⟨it, fp, tn, J, H2, rfl, I2, T, st2, f2, q⟩ := h2
  refine wpAny_newObj_type (newEnv_comp ?_) (by show 0 ≤ sizeLine; decide)
  obtain ⟨D, hD⟩ : ∃ D, D = s2.heap.objs.size := ⟨_, rfl⟩
  rw [← hD]
  have freeD : H2 D = none := I2.hok.fresh (Nat.le_of_eq hD.symm)
  obtain ⟨W, ⟨m0, w0⟩, turn⟩ := q D freeD
  obtain ⟨s3, hs3⟩ : ∃ s3 : Shared, s3 = { s2 with heap := s2.heap.push { cls := .type "list", data := .seq ([] : List Value).toArray } } := ⟨_, rfl⟩
  have I3 : Inv X pins σ (upd H2 D (.lst [])) s3 := by
    rw [hs3]
    refine I2.laid (t' := s2.toks) (fun b o e => Heap.get?_push_of_some _ e) (Nat.le_of_eq hD.symm) ⟨Nat.zero_le _, [], 0, .nil, ?_⟩
    rw [hD]
    exact Heap.get?_push_size _ rfl
  have h3 : s3.heap = s2.heap.push { cls := .type "list", data := .seq ([] : List Value).toArray } := by rw [hs3]
  have low : ∀ b ∈ fp, b < s2.heap.objs.size := by
    intro b hb
    obtain ⟨o, e, _⟩ := T.obj _ _ st2 b hb
    exact Heap.lt_size e
  have f3 : ∀ b ∈ fp, FpOk X pins (upd H2 D (.lst [])) b ∧ b < s3.heap.objs.size := by
    intro b hb
    have lt := low b hb
    refine ⟨⟨?_, (f2 b hb).2⟩, by rw [h3, Heap.size_push]; exact Nat.lt_succ_of_lt lt⟩
    rw [upd_ne (by rw [hD]; exact Nat.ne_of_lt lt)]
    exact (f2 b hb).1
  have st3 : tn 0 s3.heap := T.keep _ _ _ st2 fun b _ o e => by rw [h3]; exact Heap.get?_push_of_some _ e
  have I4 := block_start I3 bk nodup f3
  have pg := pgs s3 (upd H2 D (.lst [])) s3.heap.objs.size (cellsFrom (s3.heap.objs.size + 1) scope.names (cloFrom X.env.cells scope.names [])) fp
  have pt := pts s3 (upd H2 D (.lst [])) s3.heap.objs.size (cellsFrom (s3.heap.objs.size + 1) scope.names (cloFrom X.env.cells scope.names [])) fp
  have pe := pes s3 (upd H2 D (.lst [])) s3.heap.objs.size (cellsFrom (s3.heap.objs.size + 1) scope.names (cloFrom X.env.cells scope.names [])) fp
  rw [← hs3]
  show codeAny _ _ (.compStart (.ListComp elt [⟨tg, iter, ifs, 0⟩] scope pos) 0 (.ref it) (.ref D) (compEnvC scope (cellsFrom (s3.heap.objs.size + 1) scope.names (cloFrom X.env.cells scope.names [])) s3.heap.objs.size X.env)) (compPost (model X.prog X.w) X.A X.xe use Qf (.ref D) s3.heap.objs.size) { s3 with heap := pushCells (s3.heap.push { cls := .type "dict", data := .dict #[] }) scope.names }
  have pin3 := I3.pin p (List.mem_append_left _ hpm)
  have nf : ∀ b ∈ fp, (upd H2 D (.lst [])) b = none := fun b hb => (f3 b hb).1.1
  generalize hce : compEnvC scope (cellsFrom (s3.heap.objs.size + 1) scope.names (cloFrom X.env.cells scope.names [])) s3.heap.objs.size X.env = ce at I4 pg pt pe ⊢
  have cL : ce.locals = s3.heap.objs.size := by subst hce; rfl
  generalize hH3 : upd H2 D (.lst []) = H3 at I3 I4 pg pt pe w0 nf f3 pin3
  generalize hs4 : ({ s3 with heap := pushCells (s3.heap.push { cls := .type "dict", data := .dict #[] }) scope.names } : Shared) = s4 at I4 ⊢
  have st4 : tn 0 s4.heap := T.keep _ _ _ st3 fun b _ o e => by rw [← hs4]; exact pushCells_keeps _ _ _ _ (Heap.get?_push_of_some _ e)
  -- the handled exception stays where it is
  have nofr : p.1 ∉ frs X.stack := by
    intro z
    cases List.mem_cons.mp (I3.stkSub _ z) with
    | inl e => exact pin3.2.2.1 e
    | inr e => exact pin3.2.2.2.1 e
  have noit : ∀ b ∈ fp, p.1 ≠ b := fun b hb => (f3 b hb).1.2.2.2.2.2 p (List.mem_append_left _ hpm)
  have bears : ∀ {pi : List (Addr × Obj)} {σ' : L2.St} {H' : Hp} {s' : Shared}, Inv (X.blk s3 H3 scope ce fp) pi σ' H' s' → s'.heap.get? p.1 = some p.2 ∧ H' p.1 = none ∧ p.1 ≠ ce.locals ∧ p.1 ∉ frs X.stack ∧ ∀ v, p.2.data ≠ .cell v := by
    intro pi σ' H' s' J'
    refine ⟨J'.base.keep _ _ pin3.1 pin3.2.1 nofr (fun z => noit _ z rfl), J'.base.free _ _ pin3.1 pin3.2.1 (fun z => noit _ z rfl), ?_, nofr, pin3.2.2.2.2⟩
    rw [cL]
    exact Nat.ne_of_lt (Heap.lt_size pin3.1)
  have hotB : HotC (blkP (X.blk s3 H3 scope ce fp) p) := ⟨p, hp1, List.mem_singleton.mpr rfl⟩
  have stat : ∀ {σ' : L2.St} {H' : Hp} {s' : Shared}, Inv (X.blk s3 H3 scope ce fp) [] σ' H' s' → (∀ b ∈ fp, H' b = none) → ∀ b ∈ fp, FpOk (X.blk s3 H3 scope ce fp) [] H' b := by
    intro σ' H' s' I' hn b hb
    exact ⟨hn b hb, (I'.ok.exf b hb).1, I'.ok.exfs b hb, .inl hb, fun x c e => (I'.ok.exf b hb).2 x c e, fun _ z => absurd (show _ ∈ ([] : List (Addr × Obj)) ++ [] from z) (by simp)⟩
  have statP : ∀ {σ' : L2.St} {H' : Hp} {s' : Shared}, Inv (X.blk s3 H3 scope ce fp) [] σ' H' s' → (∀ b ∈ fp, H' b = none) → ∀ b ∈ fp, FpOk (blkP (X.blk s3 H3 scope ce fp) p) [] H' b := by
    intro σ' H' s' I' hn b hb
    exact ⟨hn b hb, (I'.ok.exf b hb).1, I'.ok.exfs b hb, .inl hb, fun x c e => (I'.ok.exf b hb).2 x c e, fun r z => by
      have z : r ∈ [p] ++ ([] : List (Addr × Obj)) := z
      rw [List.append_nil] at z
      rw [List.mem_singleton.mp z]
      exact noit b hb⟩
  have loop : codeAny (model X.prog X.w) X.A (.compLoop (.ListComp elt [⟨tg, iter, ifs, 0⟩] scope pos) 0 (.ref it) (.ref D) ce) (compPost (model X.prog X.w) X.A X.xe use Qf (.ref D) s3.heap.objs.size) s4 := by
    refine compLoop_any (fun n s' => ∃ i H', Inv (X.blk s3 H3 scope ce fp) [] (wipe σ (own.map (·.2))) H' s' ∧ tn i s'.heap ∧ (∀ b ∈ fp, H' b = none) ∧ W i n H') ?_ m0 ⟨0, H3, I4, st4, nf, w0⟩
    rintro n s5 ⟨i, H5, I5, st5, n5, w5⟩
    have I5p := to_pin (p := p) I5 (bears I5) rfl
    rcases turn i n H5 w5 with ⟨stop, qq⟩ | ⟨go, Nx, hNx, step⟩
    · have td := T.done (blkP (X.blk s3 H3 scope ce fp) p) rfl rfl rfl hotB i [] s5 _ H5 (fun _ _ => False) I5p (statP I5 n5) st5 stop
      refine thnF td ?_
      rintro r s6 ⟨rfl, I6p⟩
      have I6 := of_pin I6p I5.ok rfl
      have I7 : Inv X pins σ H5 s6 := I3.call' (ch := fp) I6.os I6.base I6.hok I6.bare fun b hb => ⟨(f3 b hb).1.2.2.2.1, (f3 b hb).1.2.1, (f3 b hb).1.2.2.2.2.1, (f3 b hb).1.2.2.2.2.2⟩
      have nC : H5 s3.heap.objs.size = none := by
        rw [← cL]
        exact I6.free
      obtain ⟨m, hn, _⟩ := I6.loc
      have hn : s6.heap.Ns ce.locals m := hn
      rw [cL] at hn
      exact fin D s3.heap.objs.size s6 m H5 I7 qq hn (I3.fpOk (Nat.le_refl _) nC)
    · have ti := T.item (blkP (X.blk s3 H3 scope ce fp) p) rfl rfl rfl hotB i [] s5 _ H5 (fun _ _ => False) I5p (statP I5 n5) st5 go
      refine thnF ti ?_
      rintro r s6 ⟨u, rfl, h6⟩
      refine thnF h6 ?_
      rintro _ s7 ⟨x, H7, I7p, r7, y7, st7, n7⟩
      have I7 := of_pin I7p I5.ok rfl
      have I7' := I7.pinned (stat I7 n7) (T.obj _ _ st7)
      refine thnF (pg.run _ s7 _ H7 x u _ I7' r7 (step x H7 y7)) ?_
      rintro _ s8 ⟨σ8, H8, I8, hw8, q8⟩
      refine thnF (pt.run _ s8 σ8 H8 _ I8 q8) ?_
      rintro b s9 ⟨H9, I9, q9⟩
      have next : ∀ {s' : Shared} {H' : Hp}, Inv (X.blk s3 H3 scope ce fp) ([] ++ pinsAt fp s7.heap) σ8 H' s' → Nx H' → ∃ m, m < n ∧ ∃ i H', Inv (X.blk s3 H3 scope ce fp) [] (wipe σ (own.map (·.2))) H' s' ∧ tn i s'.heap ∧ (∀ b ∈ fp, H' b = none) ∧ W i m H' := by
        intro s' H' I' nx
        obtain ⟨m', hm, w'⟩ := hNx H' nx
        have held : ∀ b ∈ fp, ∀ o, s7.heap.get? b = some o → s'.heap.get? b = some o ∧ H' b = none := by
          intro b hb o e
          have z := I'.pin (b, o) (List.mem_append_right _ (List.mem_append_right _ (mem_pinsAt hb e)))
          exact ⟨z.1, z.2.1⟩
        have same : (wipe σ (own.map (·.2))).length = σ8.length := by rw [← hw8, wipe_length]
        refine ⟨m', hm, i + 1, H', (I'.unpinned (pins := [])).weak same ?_, T.keep _ _ _ st7 fun b hb o e => (held b hb o e).1, ?_, w'⟩
        · intro j v e
          rw [← hw8] at e
          exact (wipe_some e).1
        · intro b hb
          obtain ⟨o, e, _⟩ := T.obj _ _ st7 b hb
          exact (held b hb o e).2
      cases b with
      | false =>
        simp only [Bool.false_eq_true, if_false] at q9 ⊢
        exact next I9 q9
      | true =>
        simp only [if_true] at q9 ⊢
        refine thnF (pe.run _ s9 σ8 H9 _ I9 q9) ?_
        rintro z s10 ⟨yv, H10, I10, r10, acc, hD10, hz10, nx⟩
        exact app_ok (X := X.blk s3 H3 scope ce fp) I10 hD10 hz10 r10 fun s11 I11 => next I11 nx
  exact codeAny_compStart_list loop (T.self X.A 0 _ _ _ st4 loop)
end
end Pv
namespace Pv
open PySem PySem.Spec PyProof.Rows L2
open L2H (HotC Hot1 PIH PIEH TurnH)
variable {Γ : Gm}
/-! the suite of the def that tells -/
section
variable {X : Cx} {W : WX}
theorem ps_setHot {i : Nat} {y : Str} {py : Pos} {elt tg iter : Expr} {ifs : List Expr} {scope : Scope} {own : List (Str × Nat)} {pos spos : Pos} {wi : TI} {g : TG} {tt : TT} {te : TE} (hot : HotC X) (nodup : X.N.Nodup) (at_ : X.N[i]? = some y) (isl : X.env.scope.names.lookup y = some .local)
    (sw : swapsWith (.ListComp elt [⟨tg, iter, ifs, 0⟩] scope pos) (some (.Name y py)) spos.line X.env = pure true) (walk : PIH X tg iter wi) (bk : BlkOk X.N X.env.scope scope own)
    (parts : ∀ (s : Shared) (H : Hp) (C : Addr) (cl : List (Str × Addr)) (fp : List Addr), PG (X.blk s H scope (compEnvC scope cl C X.env) fp) tg g ∧ PTs (X.blk s H scope (compEnvC scope cl C X.env) fp) ifs tt ∧ PE (X.blk s H scope (compEnvC scope cl C X.env) fp) elt te)
    (noset : ∀ x, foldedSetIterable iter X.env x = pure x) : PS X (.Assign [.Name y py] (.ListComp elt [⟨tg, iter, ifs, 0⟩] scope pos) spos) (tAsg (tLc wi g tt te (own.map (·.2))) (gName i)) := by
  refine ⟨fun pins s σ H D I ask => ?_⟩
  rw [exec_Assign_Name_used _ _ _ _ sw]
  refine wpAny_bind (wpAny_standAt (wpAny_bind ?_))
  show wpAny _ X.A (comprehension (.ListComp elt [⟨tg, iter, ifs, 0⟩] scope pos) scope X.env (firstIterPos [⟨tg, iter, ifs, 0⟩] pos) (newList []) false (eval iter X.env) (some (assign (.Name y py) X.env)) >>= fun _ => pure ()) _ _ s
  have ask : tLc wi g tt te (own.map (·.2)) σ H (fun x H1 => gName i x σ H1 D.nx) := ask
  refine wpAny_bind (thn (lc_hot (Qf := fun _ s' => SP X pins D .next s') hot nodup I walk bk (fun s H C cl fp => (parts s H C cl fp).1) (fun s H C cl fp => (parts s H C cl fp).2.1) (fun s H C cl fp => (parts s H C cl fp).2.2) noset ask ?_) fun _ s' hq => wpAny_pure (wpAny_pure hq))
  intro L C s' m H' I' q hn f
  show wpAny _ _ (assign (.Name y py) X.env (.ref L)) _ _ _
  refine wpAny_assign_Name (store_ok2 (v := V.ref L) I' nodup at_ (.inl isl) rfl ?_ (.inr isl))
  rintro s2 I2 ⟨a, sb, ha⟩
  obtain ⟨f0, f1, f2, f3, f4, f5⟩ := f
  have apart : C ≠ a := by
    rcases ha with z | z
    · rw [z]; exact f1
    · exact fun e => f4 y a z e.symm
  exact ⟨m, hn.sameBut sb apart, fun h3 sb3 => ⟨_, H', I2.turned (t' := s2.toks) (fun b o hb e => (sb3.2 b hb).trans e) f0 f1 f3 f4 f5, q⟩⟩
end
end Pv
namespace Pv
open PySem PySem.Spec PyProof.Rows L2
open L2H (HotC Hot1 PIH PIEH TurnH)
variable {Γ : Gm}
def toldN : List Str := ["call", "e", "kinds", "names", "k"]
/-- a context of the telling def: its frame, its suite, a block in it -/
structure GoodT (Γ : Gm) (sc : Scope) (fnb : Str → Bool) (X : Cx) : Prop where
  ofs : Of Γ X
  nm : X.N = toldN
  scE : X.env.scope = sc
  fn : X.fn = fnb
  u64 : X.A.units + 64 < cLine
section
variable {X : Cx} {sc : Scope} {fnb : Str → Bool} {W : WX} {pos p : Pos}
theorem GoodT.nd (g : GoodT Γ sc fnb X) : X.N.Nodup := by rw [g.nm]; decide
theorem GoodT.vis (g : GoodT Γ sc fnb X) {i : Nat} {x : Str} (h : nameB toldN sc i x = true) : X.N[i]? = some x ∧ Vis X.env.scope x ∧ (x == ("__debug__" : Str)) = false ∧ (x == ("__classdict__" : Str)) = false := by
  obtain ⟨h1, h2, h3⟩ := nameB_ok h
  rw [g.nm, g.scE]
  exact ⟨h1, h2, noDbg_1 h3, noDbg_2 h3⟩
theorem GoodT.gl (g : GoodT Γ sc fnb X) {x : Str} (h : glB sc x = true) : Gl X x ∧ (x == ("__debug__" : Str)) = false := by
  unfold glB at h
  rw [Bool.and_eq_true] at h
  refine ⟨?_, noDbg_1 h.1⟩
  unfold Gl PySem.Env.kindOf
  rw [g.scE]
  exact of_decide_eq_true h.2
/-- isinstance(e, C) in the suite -/
def tIs (a : Addr) (b : Bool) : TE := fun σ H Q => σ[1]? = some (some (V.ref a)) ∧ Q (.bl b) H
theorem isi_pe {Y : Cx} {a D C : Addr} {oe : Obj} {pn : List (Addr × Obj)} {x : Str} {b : Bool} {p1 p2 p3 : Pos} (g : GoodT Γ sc fnb (Y.suite a ((a, oe) :: pn))) (EC : ExcC Y.K D) (hz : Zc (.ref D) none oe) (hf : ∃ vs, oe.data = .fields vs) (hi : glB sc "isinstance" = true) (he : nameB toldN sc 1 "e" = true) (hx : glB sc x = true)
    (mi : Γ.mg "isinstance" = none) (mx : Γ.mg x = some (.ref C)) (kit : PySem.W.kitOne Γ.K (.ref D) (.ref C) = some b) : PE (Y.suite a ((a, oe) :: pn)) (.Call (.Name "isinstance" p1) [.Name "e" p2, .Name x p3] [] pos) (tIs a b) := by
  obtain ⟨v1, v2, v3, v4⟩ := g.vis he
  obtain ⟨x1, x2⟩ := g.gl hx
  have kk : (Y.suite a ((a, oe) :: pn)).K = Γ.K := g.ofs.K
  have mm : (Y.suite a ((a, oe) :: pn)).mg = Γ.mg := g.ofs.mg
  refine PE.imp (pe_callB (call_isE EC hz hf) (g.gl hi).1 (by rw [mm]; exact mi) rfl (pa_cons (pe_var v1 v2 v3 v4) (pa_cons (pe_glob (v := V.ref C) x1 (by rw [mm]; exact mx) rfl x2) pa_nil rfl) rfl) (by decide) (by decide) rfl rfl) ?_
  rintro σ H Q ⟨h1, h2⟩
  refine ⟨V.ref a, h1, ?_⟩
  refine ⟨V.ref C, .ref C, b, rfl, fun u r => r, ?_, h2⟩
  have kk : Y.K = Γ.K := kk
  rw [kk]
  exact kit
/-- kinds = [..]: five bools of one's own, held for good -/
theorem kinds_ps {a : Addr} {e1 e2 e3 e4 e5 : Expr} {b1 b2 b3 b4 b5 : Bool} {x : Str} {q pq : Pos} (g : GoodT Γ sc fnb X) (h1 : PE X e1 (tIs a b1)) (h2 : PE X e2 (tIs a b2)) (h3 : PE X e3 (tIs a b3)) (h4 : PE X e4 (tIs a b4)) (h5 : PE X e5 (tIs a b5))
    (pl : plains [e1, e2, e3, e4, e5] = true) (tg : tgB toldN sc fnb 2 (.Name x q) = true) : PS X (.Assign [.Name x q] (.List [e1, e2, e3, e4, e5] pq) pos) (fun E σ H => σ[1]? = some (some (V.ref a)) ∧ rdS Γ W (sSet 2 (vC (.list [.bool b1, .bool b2, .bool b3, .bool b4, .bool b5]))) E σ H) := by
  unfold tgB at tg
  rw [Bool.and_eq_true] at tg
  obtain ⟨lo, fo⟩ := locB_ok tg.2
  simp only [plains, List.all_cons, List.all_nil, Bool.and_true, Bool.and_eq_true] at pl
  obtain ⟨q1, q2, q3, q4, q5⟩ := pl
  have list := pe_lst (pos := pq) (pa_cons h1 (pa_cons h2 (pa_cons h3 (pa_cons h4 (pa_cons h5 pa_nil (star_plain q5 _ X.env)) (star_plain q4 _ X.env)) (star_plain q3 _ X.env)) (star_plain q2 _ X.env)) (star_plain q1 _ X.env))
  refine PS.imp (ps_set (pos' := q) g.nd (by rw [g.nm]; exact of_decide_eq_true tg.1) (by rw [g.scE]; exact lo) list rfl (by rw [g.fn, g.scE]; exact fo)) ?_
  rintro E σ H ⟨ha, C, B0, H0, ρ, S, B, r, w⟩
  refine ⟨ha, ha, ha, ha, ha, by show 5 ≤ sizeLine; decide, fun np free => ?_⟩
  have n := r.nx.here
  have n' := n.new free (.lst [.bl b1, .bl b2, .bl b3, .bl b4, .bl b5]) (by show 5 ≤ sizeLine; decide)
  refine w _ _ _ ((r.up n').set 2 (.lst upd_same ?_)) n'.sb
  exact .cons (.bl _) (.cons (.bl _) (.cons (.bl _) (.cons (.bl _) (.cons (.bl _) .nil))))
/-- [..][k] for k in range(5) if kinds[k] -/
def mNames (a b c d e : Str) : ME := vLc [4] (iR1 (vC (.int 5))) (tN 4) (v2 ixD (vVar 2) (vVar 4)) (v2 ixD (vLst (aCons (vC (.str a)) (aCons (vC (.str b)) (aCons (vC (.str c)) (aCons (vC (.str d)) (aCons (vC (.str e)) aNil)))))) (vVar 4))
theorem pih_imp {tg e : Expr} {t t' : TI} (h : PIH X tg e t) (i : ∀ σ H R, t' σ H R → t σ H R) : PIH X tg e t' := ⟨fun pins s σ H R I q => h.run pins s σ H R I (i σ H R q)⟩
theorem d_ir1H {P : PP} {tg a : Expr} {ma : ME} {q : Pos} (hg : Gl X "range") (hm : X.mg "range" = none) (ha : PE X a (rdE Γ W ma)) (hf : plainE a = true) : PIH X tg (.Call (.Name "range" p) [a] [] q) (rdI P Γ W (iR1 ma)) :=
  pih_imp (L2H.pi_range1H hg hm (pa_cons ha pa_nil (star_plain hf [] X.env)) (star_plain hf [] X.env)) fun σ H R ⟨C, B0, H0, ρ, S, B, r, w⟩ =>
    rd_bindI r w fun d S1 v H1 B1 r1 n1 x1 p1 => by
      cases d with
      | int j =>
        cases x1
        have p1 : PostI P Γ C W σ B1 H1 R (rngM 0 j S1) := p1
        unfold rngM at p1
        split at p1
        · rename_i h
          have w := wkR (Γ := Γ) (C := C) (P := P Γ C B1 H1) h.2
          rw [Int.sub_zero] at w
          exact ⟨j, rfl, h.1.2.2.1, h.1.2.2.2, p1 H1 B1 _ r1.nx.here w⟩
        · exact p1.elim
      | _ => exact p1.elim
theorem names_ps {y k0 kk : Str} {py pn pk1 pk2 pk3 pkk p1 p2 p3 pel pli spos pc : Pos} {scope : Scope} {a b c d e : Str} {j j1 j2 j3 j4 j5 : Nat} {q1 q2 q3 q4 q5 : Pos} (hot : HotC X) (g : GoodT Γ sc fnb X) (hy : locOnly toldN sc 3 y = true) (fun_ : sc.kind = .function)
    (sw : swapB sc y py (.ListComp (.Subscript (.List [.Constant (.str a) j1 q1, .Constant (.str b) j2 q2, .Constant (.str c) j3 q3, .Constant (.str d) j4 q4, .Constant (.str e) j5 q5] pli) (.Name k0 pk1) pel) [⟨.Name k0 pk2, .Call (.Name "range" p1) [.Constant (.int 5) j p2] [] p3, [.Subscript (.Name kk pkk) (.Name k0 pk3) pc], 0⟩] scope pn) = true)
    (gr : glB sc "range" = true) (mr : Γ.mg "range" = none) (bk : blkC toldN sc scope [(k0, 4)] = true) (tg : tgB toldN (relS scope sc) (fun x => scope.names.lookup x == some .cell) 4 (.Name k0 pk2) = true) (vk : nameB toldN (relS scope sc) 4 k0 = true) (vkk : nameB toldN (relS scope sc) 2 kk = true) :
    PS X (.Assign [.Name y py] (.ListComp (.Subscript (.List [.Constant (.str a) j1 q1, .Constant (.str b) j2 q2, .Constant (.str c) j3 q3, .Constant (.str d) j4 q4, .Constant (.str e) j5 q5] pli) (.Name k0 pk1) pel) [⟨.Name k0 pk2, .Call (.Name "range" p1) [.Constant (.int 5) j p2] [] p3, [.Subscript (.Name kk pkk) (.Name k0 pk3) pc], 0⟩] scope pn) spos)
      (rdS Γ W (sSet 3 (mNames a b c d e))) := by
  have bk := blkOk_by bk
  unfold locOnly at hy
  rw [Bool.and_eq_true] at hy
  have at_ : X.N[3]? = some y := by rw [g.nm]; exact of_decide_eq_true hy.1
  have isl : X.env.scope.names.lookup y = some .local := by rw [g.scE]; exact of_decide_eq_true hy.2
  have swt : ∀ l, swapsWith (.ListComp (.Subscript (.List [.Constant (.str a) j1 q1, .Constant (.str b) j2 q2, .Constant (.str c) j3 q3, .Constant (.str d) j4 q4, .Constant (.str e) j5 q5] pli) (.Name k0 pk1) pel) [⟨.Name k0 pk2, .Call (.Name "range" p1) [.Constant (.int 5) j p2] [] p3, [.Subscript (.Name kk pkk) (.Name k0 pk3) pc], 0⟩] scope pn) (some (.Name y py)) l X.env = pure true := by
    intro l
    unfold swapB at sw
    rw [of_decide_eq_true hy.2] at sw
    have sw := (Bool.and_eq_true _ _).mp sw
    exact sw_true (by rw [g.scE]; exact fun_) isl sw.1 (by simpa using sw.2)
  have walk : PIH X (.Name k0 pk2) (.Call (.Name "range" p1) [.Constant (.int 5) j p2] [] p3) (rdI pT Γ W (iR1 (vC (.int 5)))) := d_ir1H (g.gl gr).1 (by rw [g.ofs.mg]; exact mr) d_int rfl
  refine PS.imp (ps_setHot (own := [(k0, 4)]) (g := rdP Γ [4] (tN 4)) (tt := rdB Γ W0 (v2 ixD (vVar 2) (vVar 4))) (te := rdE Γ W0 (v2 ixD (vLst (aCons (vC (.str a)) (aCons (vC (.str b)) (aCons (vC (.str c)) (aCons (vC (.str d)) (aCons (vC (.str e)) aNil)))))) (vVar 4))) hot g.nd at_ isl (swt _) walk (by rw [g.nm, g.scE]; exact bk) ?_ (set_plain rfl X.env)) ?_
  · intro s H C cl fp
    have gb : GoodT Γ (relS scope sc) (fun x => scope.names.lookup x == some .cell) (X.blk s H scope (compEnvC scope cl C X.env) fp) := ⟨⟨g.ofs.prog, g.ofs.w, g.ofs.K, g.ofs.mg, g.ofs.base⟩, g.nm, by rw [← g.scE]; rfl, rfl, g.u64⟩
    obtain ⟨a1, a2, a3, a4⟩ := gb.vis vk
    obtain ⟨b1, b2, b3, b4⟩ := gb.vis vkk
    have kk := gb.ofs.K
    unfold tgB at tg
    rw [Bool.and_eq_true] at tg
    obtain ⟨lo, fo⟩ := locB_ok tg.2
    have six := ix_seq (X := X.blk s H scope (compEnvC scope cl C X.env) fp)
    rw [kk] at six
    refine ⟨d_tn gb.nd (by rw [gb.nm]; exact of_decide_eq_true tg.1) (by rw [gb.scE]; exact lo) (by rw [gb.fn, gb.scE]; exact fo), d_if1 (d_tst (d_ix six ixP (PE.toT (d_var b1 b2 b3 b4)) (PE.toT (d_var a1 a2 a3 a4)) rfl) rfl), ?_⟩
    exact d_ix six ixP (PE.toT (d_lst (n := 5) (d_acons d_str (d_acons d_str (d_acons d_str (d_acons d_str (d_acons d_str d_anil rfl) rfl) rfl) rfl) rfl) (by decide))) (PE.toT (d_var a1 a2 a3 a4)) rfl
  · intro E σ H h
    obtain ⟨C, B0, H0, ρ, S, B, r, w⟩ := h
    refine post_lc (own := [(k0, 4)]) (is := [4]) (by simp) ?_
    exact rd_bindS r w fun d S1 v H1 B1 r1 n1 x1 p1 => p1 _ B1 H1 (r1.set 3 x1) fun _ _ h => h
end
end Pv
namespace Pv
open PySem PySem.Spec PyProof.Rows L2
open L2H (HotC Hot1 PIH PIEH TurnH)
variable {Γ : Gm}
section
variable {X : Cx} {sc : Scope} {fnb : Str → Bool} {W : WX} {pos p : Pos}
/-- ([odd, (names + [''])[0]][int(len(names) == 1)],) -/
def mTold (odd nul : Str) : ME := vTup (aCons (v2 ixD (vLst (aCons (vC (.str odd)) (aCons (v2 ixD (v2 addD (vVar 3) (vLst (aCons (vC (.str nul)) aNil))) (vC (.int 0))) aNil))) (v1 intD (v2 eqD (v1 lenD (vVar 3)) (vC (.int 1))))) aNil)
theorem told_ret {y odd nul : Str} {n1 n2 p1 p2 p3 p4 p5 p6 p7 p8 p9 p10 p11 p12 p13 p14 p15 pr : Pos} {j1 j2 j3 j4 jt : Nat} (g : GoodT Γ sc fnb X) (hy : nameB toldN sc 3 y = true) (gi : glB sc "int" = true) (gl : glB sc "len" = true) (mi : Γ.mg "int" = none) (ml : Γ.mg "len" = none) :
    PS X (.Return (some (.Tuple [.Subscript (.List [.Constant (.str odd) j1 p1, .Subscript (.BinOp (.Name y n1) .Add (.List [.Constant (.str nul) j2 p2] p3) p4) (.Constant (.int 0) j3 p5) p6] p7) (.Call (.Name "int" p8) [.Compare (.Call (.Name "len" p9) [.Name y n2] [] p10) [.Eq] [.Constant (.int 1) j4 p11] p12] [] p13) p14] jt p15)) pr) (rdS Γ W (sRet (mTold odd nul))) := by
  obtain ⟨a1, a2, a3, a4⟩ := g.vis hy
  have kk := g.ofs.K
  have mm := g.ofs.mg
  have six := ix_seq (X := X)
  rw [kk] at six
  have nm : ∀ q, PE X (.Name y q) (rdE Γ W (vVar 3)) := fun q => d_var a1 a2 a3 a4
  have first : PE X (.Subscript (.BinOp (.Name y n1) .Add (.List [.Constant (.str nul) j2 p2] p3) p4) (.Constant (.int 0) j3 p5) p6) (rdE Γ W (v2 ixD (v2 addD (vVar 3) (vLst (aCons (vC (.str nul)) aNil))) (vC (.int 0)))) := d_ix six ixP (PE.toT (d_bin (op_addP Γ.K kk) addP (PE.toT (nm n1)) (PE.toT (d_lst (pos := p3) (n := 1) (d_acons (d_str (Γ := Γ) (W := W) (x := nul) (j := j2) (pos := p2)) d_anil rfl) (by decide))))) (PE.toT (d_int (i := 0) (j := j3))) rfl
  have len := d_blt1 (p := p9) (pos := p10) (c_len kk) lenP (g.gl gl).1 (by rw [mm]; exact ml) rfl (by decide) (by decide) (PE.toT (nm n2)) rfl
  have cmp := d_cmp (pos := p12) (b := .Constant (.int 1) j4 p11) (op_eqP Γ.K kk g.u64) eqP (PE.toT len) (PE.toT (d_int (i := 1) (j := j4))) rfl
  have int := d_ty1 (p := p8) (pos := p13) call_int1 intP (g.gl gi).1 (by rw [mm]; exact mi) rfl (by decide) (by decide) (PE.toT cmp) rfl
  have lst := d_lst (pos := p7) (n := 2) (d_acons (d_str (Γ := Γ) (W := W) (x := odd) (j := j1) (pos := p1)) (d_acons first d_anil rfl) rfl) (by decide)
  have pick := d_ix (pos := p14) six ixP (PE.toT lst) (PE.toT int) rfl
  exact d_ret (d_tup (n := 1) (d_acons pick d_anil rfl) (by decide))
end
/-! the whole suite: what it tells of a class -/
def pick5 (bs : List Bool) : List Str := (names5.zip bs).filterMap fun z => if z.2 = true then some z.1 else none
def told5 (bs : List Bool) : D := .tuple [.str (match pick5 bs with
  | [x] => x
  | _ => "odd")]
/-- one of five -/
def oneOf (j : Nat) : List Bool := (List.range 5).map fun i => i == j
def mSuite (bs : List D) : MS := sSeq (sSet 2 (vC (.list bs))) (sSeq (sSet 3 (mNames "refused" "large" "missing" "form" "broken")) (sSeq (sRet (mTold "odd" "")) sNil))
theorem suite_one {j : Nat} (hj : j < 5) (s0 s1 s2 s3 s4 : Slot) : mSuite ((oneOf j).map PyData.bool) [s0, s1, s2, s3, s4] = pure (.rt (.tuple [.str (names5.getD j "")])) := by
  have five : j = 0 ∨ j = 1 ∨ j = 2 ∨ j = 3 ∨ j = 4 := by omega
  rcases five with rfl | rfl | rfl | rfl | rfl <;> rfl
end Pv
namespace Pv
open PySem PySem.Spec PyProof.Rows L2
open L2H (HotC Hot1)
open LamX (Tabs TabS ExtN CodeO TabB LamS lamEnv)
variable {Γ : Gm}
/-! told(lambda: ..) -/
def clsN : List Str := ["NotAllowed", "TooLarge", "Missing", "BadForm", "Broken"]
def isA (x : Str) (p1 p2 p3 p4 : Pos) : Expr := .Call (.Name "isinstance" p1) [.Name "e" p2, .Name x p3] [] p4
/-- the telling def's text, but for where it stands -/
structure TPos where
  (a1 a2 a3 a4 a5 b1 b2 b3 b4 b5 b6 : Pos)
  (c1 c2 c3 c4 d1 d2 d3 d4 e1 e2 e3 e4 f1 f2 f3 f4 g1 g2 g3 g4 : Pos)
  (h1 h2 h3 h4 h5 h6 h7 h8 h9 h10 h11 h12 h13 h14 h15 h16 h17 h18 : Pos)
  (k1 k2 k3 k4 k5 k6 k7 k8 k9 k10 k11 k12 k13 k14 k15 k16 k17 k18 : Pos)
  (n1 n2 n3 n4 n5 n6 n7 n8 n9 n10 n11 n12 : Nat)
  sc : Scope
def TPos.el (t : TPos) : Expr := .Subscript (.List [.Constant (.str "refused") t.n3 t.h3, .Constant (.str "large") t.n4 t.h4, .Constant (.str "missing") t.n5 t.h5, .Constant (.str "form") t.n6 t.h6, .Constant (.str "broken") t.n7 t.h7] t.h8) (.Name "k" t.h9) t.h10
def TPos.comp (t : TPos) : Expr := .ListComp t.el [⟨.Name "k" t.h11, .Call (.Name "range" t.h12) [.Constant (.int 5) t.n8 t.h13] [] t.h14, [.Subscript (.Name "kinds" t.h15) (.Name "k" t.h16) t.h17], 0⟩] t.sc t.h18
def TPos.st1 (t : TPos) : Stmt := .Assign [.Name "kinds" t.b1] (.List [isA "NotAllowed" t.c1 t.c2 t.c3 t.c4, isA "TooLarge" t.d1 t.d2 t.d3 t.d4, isA "Missing" t.e1 t.e2 t.e3 t.e4, isA "BadForm" t.f1 t.f2 t.f3 t.f4, isA "Broken" t.g1 t.g2 t.g3 t.g4] t.b2) t.b3
def TPos.st2 (t : TPos) : Stmt := .Assign [.Name "names" t.h1] t.comp t.h2
def TPos.st3 (t : TPos) : Stmt := .Return (some (.Tuple [.Subscript (.List [.Constant (.str "odd") t.n9 t.k1, .Subscript (.BinOp (.Name "names" t.k2) .Add (.List [.Constant (.str "") t.n10 t.k3] t.k4) t.k5) (.Constant (.int 0) t.n11 t.k6) t.k7] t.k8) (.Call (.Name "int" t.k9) [.Compare (.Call (.Name "len" t.k10) [.Name "names" t.k11] [] t.k12) [.Eq] [.Constant (.int 1) t.n12 t.k13] t.k14] [] t.k15) t.k16] t.n2 t.k17)) t.k18
def TPos.body (t : TPos) : List Stmt := [.Try [.Return (some (.Tuple [.Constant (.str "told") t.n1 t.a1, .Call (.Name "call" t.a2) [] [] t.a3] t.n2 t.a4)) t.a5] [.ExceptHandler (some (.Name "MeetError" t.b4)) (some "e") [t.st1, t.st2, t.st3] t.b5] [] [] t.b6]
def toldC (sc : Scope) (t : TPos) : Bool :=
  (glB sc "NotAllowed" && glB sc "TooLarge" && glB sc "Missing" && glB sc "BadForm" && glB sc "Broken")
    && (tgB toldN sc (fun _ => true) 2 (.Name "kinds" t.b1) && locOnly toldN sc 3 "names" && swapB sc "names" t.h1 t.comp && blkC toldN sc t.sc [("k", 4)] && tgB toldN (relS t.sc sc) (fun x => t.sc.names.lookup x == some .cell) 4 (.Name "k" t.h11) && nameB toldN (relS t.sc sc) 4 "k" && nameB toldN (relS t.sc sc) 2 "kinds")
    && (glB sc "MeetError" && glB sc "isinstance" && glB sc "range" && glB sc "int" && glB sc "len" && nameB toldN sc 0 "call" && nameB toldN sc 1 "e" && nameB toldN sc 3 "names" && decide (sc.names.lookup ("e" : Str) = some .local) && (match sc.kind with | .function => true | _ => false))
/-- what is told of the classes -/
structure ToldOk (Γ : Gm) : Prop where
  me : ∃ ME, Γ.mg "MeetError" = some (.ref ME) ∧ ∀ k : Exn, k.plain = true → PySem.W.exmOne Γ.K (Γ.cls k) (.ref ME) = some true
  cl : ∀ i, i < 5 → ∃ C, Γ.mg (clsN.getD i "") = some (.ref C) ∧ ∀ k : Exn, k.plain = true → PySem.W.kitOne Γ.K (Γ.cls k) (.ref C) = some (i == k.ix)
  ex : ∀ k : Exn, k.plain = true → ∃ D, Γ.cls k = .ref D ∧ ExcC Γ.K D
  fn : ∃ (g : Addr) (fd : FuncData) (pr : Arguments) (body : List Stmt) (sc : Scope), FunD Γ.K "_law_told" "_law_told" pr body sc [] [] g fd ∧ Γ.mg "_law_told" = some (.ref g) ∧ Binds Γ.K fd ["call"] [] ∧ FnScope toldN ["call"] sc ∧ ∃ t : TPos, body = t.body ∧ toldC sc t = true
end Pv
namespace Pv
open PySem PySem.Spec PyProof.Rows L2
open L2H (HotC Hot1)
open LamX (Tabs TabS ExtN CodeO TabB LamS lamEnv)
variable {Γ : Gm}
/-- the suite, asked of an exception of a class k -/
def tsK (Γ : Gm) (a : Addr) (cls : Value) (d : Option Addr) : TS := fun D σ H => ∃ k : Exn, k.plain = true ∧ cls = Γ.cls k ∧ d = none ∧ σ[1]? = some (some (V.ref a)) ∧ rdS Γ W0 (mSuite ((oneOf k.ix).map PyData.bool)) D σ H
/-- the try's body: what it asks of the call -/
def tbK (f c : Addr) (q : Str) (σX : L2.St) (tb : XK → TE) (W : WX) : TS := fun D σ H => ∃ E : XK, σ[0]? = some (some (V.ref f)) ∧ H c = some (CodeO c q) ∧ (∀ cls d H', E cls d H' → W cls d σ H') ∧ tb E σX H fun v H1 => [V.str "told", v].length ≤ sizeLine ∧ ∀ p, H1 p = none → D.rt (.ref p) (upd H1 p (.tup [.str "told", v]))
theorem told_body {Y : Cx} {sc : Scope} {t : TPos} {f c : Addr} {q : Str} {σX : L2.St} {tb : XK → TE} (T : ToldOk Γ) (G0 : ∀ x ∈ blts, Γ.mg x = none) (ofs : Of Γ Y) (nm : Y.N = toldN) (scE : Y.env.scope = sc) (fn : Y.fn = fun _ => true) (u64 : Y.A.units + 64 < cLine)
    (stk : Y.stack = Y.env :: Y.outer) (frm : Y.env.frame = some Y.env.locals) (hb : toldC sc t = true)
    (act : ∀ (W : WX) (pn : List (Addr × Obj)) (xe : Value → Shared → Prop) (p1 p2 : Pos), L2N.Takes (Y.tr pn xe) W → PE (Y.tr pn xe) (.Call (.Name "call" p1) [] [] p2) (fun σZ HZ Q => ∃ E : XK, σZ[0]? = some (some (V.ref f)) ∧ HZ c = some (CodeO c q) ∧ (∀ cls d H', E cls d H' → W cls d σZ H') ∧ tb E σX HZ Q)) :
    ∃ ME, Γ.mg "MeetError" = some (.ref ME) ∧ (∀ k : Exn, k.plain = true → PySem.W.exmOne Γ.K (Γ.cls k) (.ref ME) = some true) ∧
      PSs Y.nox t.body (fun D σ H => tbK f c q σX tb (wAs Γ.K (.ref ME) 1 (tsK Γ) W0 D) D σ H) := by
  obtain ⟨ME, me1, me2⟩ := T.me
  refine ⟨ME, me1, me2, ?_⟩
  have kk := ofs.K
  have mm := ofs.mg
  unfold toldC at hb
  simp only [Bool.and_eq_true, decide_eq_true_eq] at hb
  obtain ⟨⟨⟨⟨⟨⟨i1, i2⟩, i3⟩, i4⟩, i5⟩, ⟨⟨⟨⟨⟨⟨g1, g2⟩, g3⟩, g4⟩, g5⟩, g6⟩, g7⟩⟩, ⟨⟨⟨⟨⟨⟨⟨⟨⟨n1, n2⟩, n3⟩, n4⟩, n5⟩, n6⟩, n7⟩, n8⟩, n9⟩, n10⟩⟩ := hb
  have kd : sc.kind = .function := by
    cases e : sc.kind <;> rw [e] at n10 <;> first | rfl | cases n10
  have nod : Y.nox.N.Nodup := by show Y.N.Nodup; rw [nm]; decide
  have glM : Gl Y.nox "MeetError" := by
    unfold glB at n1
    rw [Bool.and_eq_true] at n1
    show Y.env.scope.names.lookup _ = _
    rw [scE]
    exact of_decide_eq_true n1.2
  refine pss_one ?_
  have tr := L2N.ps_try_as (X := Y.nox) (c := .ref ME) (i := 1) (n := "e") (x := "MeetError") (body := [.Return (some (.Tuple [.Constant (.str "told") t.n1 t.a1, .Call (.Name "call" t.a2) [] [] t.a3] t.n2 t.a4)) t.a5]) (b₀ := t.st1) (suite := [t.st2, t.st3]) (np := t.b4) (pos := t.b6) (pos' := t.b5) (tb := fun W => tbK f c q σX tb W) (ts := tsK Γ) (Wout := W0) stk frm nod (by show Y.N[1]? = _; rw [nm]; rfl) (by show Y.env.scope.names.lookup _ = _; rw [scE]; exact n9) ⟨glM, rfl, .inl (by show Y.mg _ = _; rw [mm]; exact me1)⟩ takesN0 ?_ ?_
  · have e : Y.nox.K = Γ.K := kk
    rw [e] at tr
    exact tr
  · intro W pn xe tk po
    have call := act W pn xe t.a2 t.a3 tk
    have ret := pss_one (ps_ret (pos := t.a5) (pe_tup (x1 := t.n2) (pos := t.a4) (pa_cons (pe_str (x := "told") (j := t.n1) (pos := t.a1)) (pa_cons call pa_nil rfl) rfl)))
    refine PSs.imp ret ?_
    rintro D σ H ⟨E, h1, h2, h3, h4⟩
    exact ⟨E, h1, h2, h3, h4⟩
  · intro a oe cls d pn hz hf
    refine ⟨?_⟩
    rintro pins s σ H D I ⟨k, kp, rfl, rfl, ha, rd⟩
    obtain ⟨Dc, eD, EC⟩ := T.ex k kp
    rw [eD] at hz
    have gT : GoodT Γ sc (fun _ => true) (Y.nox.suite a ((a, oe) :: pn)) := ⟨⟨ofs.prog, ofs.w, ofs.K, ofs.mg, ofs.base⟩, nm, scE, fn, u64⟩
    have EC' : ExcC Y.nox.K Dc := by show ExcC Y.K Dc; rw [kk]; exact EC
    have isi : ∀ (i : Nat) (x : Str) (p1 p2 p3 p4 : Pos), i < 5 → clsN.getD i "" = x → glB sc x = true → PE (Y.nox.suite a ((a, oe) :: pn)) (isA x p1 p2 p3 p4) (tIs a (i == k.ix)) := by
      intro i x p1 p2 p3 p4 hi5 hx gx
      obtain ⟨C, c1, c2⟩ := T.cl i hi5
      rw [hx] at c1
      have kit := c2 k kp
      rw [eD] at kit
      exact isi_pe gT EC' hz.zc hf n2 n7 gx (G0 _ (by decide)) c1 kit
    have hot : HotC (Y.nox.suite a ((a, oe) :: pn)) := by
      obtain ⟨vs, hv⟩ := hf
      exact ⟨(a, oe), ⟨rfl, vs, hv, hz.2.2 vs hv⟩, List.mem_cons_self⟩
    have s1 := kinds_ps (W := W0) (pos := t.b3) (pq := t.b2) gT (isi 0 _ t.c1 t.c2 t.c3 t.c4 (by decide) rfl i1) (isi 1 _ t.d1 t.d2 t.d3 t.d4 (by decide) rfl i2) (isi 2 _ t.e1 t.e2 t.e3 t.e4 (by decide) rfl i3) (isi 3 _ t.f1 t.f2 t.f3 t.f4 (by decide) rfl i4) (isi 4 _ t.g1 t.g2 t.g3 t.g4 (by decide) rfl i5) rfl g1
    have s2 := names_ps (W := W0) (spos := t.h2) (pel := t.h10) hot gT g2 kd g3 n3 (G0 _ (by decide)) g4 g5 g6 g7
    have s3 := told_ret (W := W0) (pr := t.k18) (p15 := t.k17) (p14 := t.k16) (p13 := t.k15) (p12 := t.k14) (p11 := t.k13) (p10 := t.k12) (n2 := t.k11) (p9 := t.k10) (p8 := t.k9) (p7 := t.k8) (p6 := t.k7) (p5 := t.k6) (p4 := t.k5) (p3 := t.k4) (p2 := t.k3) (n1 := t.k2) (p1 := t.k1) (odd := "odd") (nul := "") (j1 := t.n9) (j2 := t.n10) (j3 := t.n11) (j4 := t.n12) (jt := t.n2) gT n8 n4 n5 (G0 _ (by decide)) (G0 _ (by decide))
    have all := pss_cons s1 (d_cons s2 (d_cons s3 d_nil))
    refine all.run pins s σ H D I ⟨ha, ?_⟩
    exact rdS_seq rd
end Pv
namespace Pv
open PySem PySem.Spec PyProof.Rows L2
open L2H (HotC Hot1)
open LamX (Tabs TabS ExtN CodeO TabB LamS lamEnv)
variable {Γ : Gm}
/-- where the maker's code objects are noted -/
structure TabG (Γ : Gm) (X : Cx) : Prop where
  ex : ∃ co P, TabB X.base X.mg co P ∧ X.env.code = .ref co ∧ (P, lq X) ∈ Γ.T ∧ ∀ p ∈ Γ.T, p.1 = P → p.2 = lq X
theorem nil_slots (i : Nat) : (List.replicate 5 Slot.none).getD i .none = .none := by
  rw [List.getD_eq_getElem?_getD, List.getElem?_replicate]
  split <;> rfl
/-- a fresh state of the telling def -/
theorem rel_told {C : Option Addr} {B H : Hp} {S : SS} {σ : L2.St} (n : Nxt Γ C B H S B H) (hl : σ.length = 5) : Rel Γ C B H (List.replicate 5 Slot.none) S σ B H :=
  ⟨n, by rw [List.length_replicate, hl], fun i => by rw [nil_slots]; trivial, fun i j a _ hi _ _ _ => by rw [nil_slots] at hi; cases hi⟩
theorem d_told {X : Cx} {W : WX} {k : Nat} {pr : Arguments} {bd : Expr} {scp : Scope} {lp p pos : Pos} {m : ME} (T : ToldOk Γ) (G0 : ∀ x ∈ blts, Γ.mg x = none) (ofs : Of Γ X) (gd : X.A.guards = some []) (room : Room (k + 2) X.A) (tabs : TabG Γ X) (gl : Gl X "_law_told")
    (L : LamS X.env.scope scp) (nodef : defaultsOf pr X.env = ([], []))
    (noarg : ∀ (q : Str) (cl : List (Str × Addr)) (pm cv ctv : Value), bindArgs (PySem.W.kla_fn "<lambda>" q pr bd scp cl pm cv ctv) ⟨[], []⟩ = pure [])
    (body : ∀ (A : Around) (outer : List PySem.Env) (s : Shared) (H : Hp) (E : XK) (f c : Addr), A.guards = some [] → Room k (A.deeper (lamEnv X scp s.heap.objs.size f c)) → PE (lamN X A outer s H E scp f c) bd (rdE Γ (fun cls d _ H' => E cls d H') m)) :
    PE X (.Call (.Name "_law_told" p) [.Lambda pr bd scp lp] [] pos) (rdE Γ W (vTold m)) := by
  obtain ⟨co, P, TB, hco, mem, one⟩ := tabs.ex
  obtain ⟨g, fd, pg, bg, sg, F, gm, bind, Sg, t, rfl, tc⟩ := T.fn
  have kk := ofs.K
  have mm := ofs.mg
  refine ⟨?_⟩
  rintro pins s σ H Q I ⟨C, B0, H0, ρ, S, B, r, post⟩
  have kg : PySem.W.keepIn X.K (.ref g) = true := by rw [kk]; exact F.kp
  refine wpAny_Call_Name_kw (ld_glob I gl (by rw [mm]; exact gm) ?_ rfl)
  refine PySem.W.callWith_K (h₀ := X.base) I.ok.mod.kin kg ?_ (by rfl) (by rfl)
  show wpAny _ _ (spliced ((false, eval (.Lambda pr bd scp lp) X.env) :: backTo pos (starEach [] X.env))) _ _ s
  refine Calls.spliced_cons (lam_new I TB hco mem one r.nx.tb nodef (L.has I.ok) ?_)
  intro f c pm ct H1 s1 I1 made obj ff fr
  refine Calls.spliced_nil ⟨I1.kIn, ?_⟩
  have n1 := made.nxt r.nx.here
  obtain ⟨oc, od, dV, kV, doc, pmg, an, cdv, ctg, osl, rfl, lk, hcd, _, _⟩ := F.ex
  have lk' : X.K.lookup g = some ⟨oc, od, .func (PySem.W.fnOf "_law_told" "_law_told" pg t.body sg dV kV doc pmg an cdv ctg), osl⟩ := by rw [kk]; exact lk
  have hcd' : PySem.W.codeIn X.K cdv "_law_told" = true := by rw [kk]; exact hcd
  have told : codeAny (model X.prog X.w) X.A (.call (.ref g) ⟨[.ref f], []⟩) (CR (L2N.CX X.prog X.w) X.stack X.prog X.w H1 s1 Q fun _ _ _ => False) s1 := by
    refine LamX.run_ofS (CX := L2N.CX X.prog X.w) (N := toldN) (ps := ["call"]) (us := [.ref f]) (vs := [V.ref f]) (mg := X.mg) (base := X.base) lk' hcd' Sg room I1.env0 (bind s1 [.ref f] (by have := I1.kIn; rwa [kk] at this) rfl) (.cons rfl .nil) rfl ?_
    intro room'
    obtain ⟨ME, me1, me2, run⟩ := told_body (Y := toldCx X toldN "_law_told" sg g cdv s1 H1 fun _ _ _ => False) (sc := sg) (t := t) (f := f) (c := c) (q := lq X) (σX := σ) (tb := fun E => rdE Γ (fun cls d _ H' => E cls d H') m) T G0 ⟨ofs.prog, ofs.w, ofs.K, ofs.mg, ofs.base⟩ rfl rfl rfl room'.units rfl rfl tc
      (fun W' pn xe p1 p2 tk => act_pe I1 L obj ff fr (noarg _ _ _ _ _) tk room' (fun A outer s' H' E ga ra => body A outer s' H' E f c (ga.trans gd) ra) rfl (by
        rcases Sg.par "call" (by simp) with z | z
        · exact .inl z
        · exact .inr (.inl z)) rfl rfl)
    refine ⟨_, run.nox, fun cls d H' => ∃ (j : Exn) (S' : SS) (B' : Hp), j.plain = true ∧ cls = Γ.cls j ∧ d = none ∧ Nxt Γ C B H1 S' B' H' ∧ PostV rrE Γ C W σ B H1 Q (.ok (.tuple [.str (names5.getD j.ix "")]) S'), rfl, made.code, ?_, ?_⟩
    · rintro cls d H' ⟨j, S', B', pl, rfl, rfl, n, q⟩
      refine ⟨true, me2 j pl, fun _ a na => ⟨j, pl, rfl, rfl, rfl, ?_⟩, fun z => by cases z⟩
      have hj : j.ix < 5 := by cases j <;> simp [Exn.ix]
      refine ⟨C, B', H', _, S', B', rel_told n.here rfl, ?_⟩
      have e : mSuite ((oneOf j.ix).map PyData.bool) (List.replicate 5 Slot.none) = pure (.rt (.tuple [.str (names5.getD j.ix "")])) := suite_one hj _ _ _ _ _
      rw [e]
      intro v B'' H'' n2 rv
      exact q v H'' B'' (n.trans n2) rv
    · refine ⟨C, B0, H0, ρ, S, B, r.up n1, ?_⟩
      have post := post.up n1
      unfold vTold at post
      cases e : m ρ S with
      | ok d S' =>
        rw [e] at post
        intro v H' B' n x
        refine ⟨by show 2 ≤ sizeLine; decide, fun np free => ?_⟩
        have n2 := n.here.new free (.tup [.str "told", v]) (by show 2 ≤ sizeLine; decide)
        exact post (.ref np) _ _ (n.trans n2) (.tup (.inl (.inl upd_same)) (.cons (.str _) (.cons (x.up n2.sb) .nil)))
      | exc j S' =>
        rw [e] at post
        intro H' B' n
        by_cases pl : j.plain = true
        · refine ⟨j, S', B', pl, rfl, rfl, n, ?_⟩
          have z : tellD (.exc j S') = .ok (.tuple [.str (names5.getD j.ix "")]) S' := if_pos pl
          rw [z] at post
          exact post
        · have z : tellD (.exc j S') = .bad := if_neg pl
          rw [z] at post
          exact post.elim
      | bad => rw [e] at post; exact post
  refine wpAny_call (codeAny_mono told ?_)
  rintro (e | fl) s2 hq
  · obtain ⟨_, _, _, _, _, _, _, _, _, _, _, _, no⟩ := hq
    exact no.elim
  · cases fl with
    | ret u => exact I1.after hq
    | next => exact hq.elim
    | brk => exact hq.elim
    | cont => exact hq.elim
end Pv
namespace Pv
open PySem PySem.Spec PyProof.Rows L2
open L2H (HotC Hot1)
open LamX (Tabs TabS ExtN CodeO TabB LamS lamEnv)
variable {Γ : Gm}
/-! told(lambda a=1: ..) -/
theorem d_toldD {X : Cx} {W : WX} {k : Nat} {ag : PySem.Arg} {di : Int} {dn : Nat} {dpos : Pos} {bd : Expr} {scp : Scope} {lp p pos : Pos} {m : ME} (T : ToldOk Γ) (G0 : ∀ x ∈ blts, Γ.mg x = none) (ofs : Of Γ X) (gd : X.A.guards = some []) (room : Room (k + 2) X.A) (tabs : TabG Γ X) (gl : Gl X "_law_told")
    (L : LamD X.N X.env.scope scp ag.arg)
    (body : ∀ (A : Around) (outer : List PySem.Env) (s : Shared) (H : Hp) (E : XK) (f c : Addr), A.guards = some [] → Room k (A.deeper (lamEnv X scp s.heap.objs.size f c)) → PE (lamN X A outer s H E scp f c) bd (rdE Γ (fun cls d _ H' => E cls d H') m)) :
    PE X (.Call (.Name "_law_told" p) [.Lambda (dfArg ag (.Constant (.int di) dn dpos)) bd scp lp] [] pos) (rdE Γ W (vTold m)) := by
  obtain ⟨co, P, TB, hco, mem, one⟩ := tabs.ex
  obtain ⟨g, fd, pg, bg, sg, F, gm, bind, Sg, t, rfl, tc⟩ := T.fn
  have kk := ofs.K
  have mm := ofs.mg
  refine ⟨?_⟩
  rintro pins s σ H Q I ⟨C, B0, H0, ρ, S, B, r, post⟩
  have kg : PySem.W.keepIn X.K (.ref g) = true := by rw [kk]; exact F.kp
  refine wpAny_Call_Name_kw (ld_glob I gl (by rw [mm]; exact gm) ?_ rfl)
  refine PySem.W.callWith_K (h₀ := X.base) I.ok.mod.kin kg ?_ (by rfl) (by rfl)
  show wpAny _ _ (spliced ((false, eval (.Lambda (dfArg ag (.Constant (.int di) dn dpos)) bd scp lp) X.env) :: backTo pos (starEach [] X.env))) _ _ s
  refine Calls.spliced_cons (lam_newD I TB hco mem one r.nx.tb (L.has I.ok) ?_ rfl)
  intro f c D pm ct doc u H1 s1 I1 made obj ff fr tup fD frD
  refine Calls.spliced_nil ⟨I1.kIn, ?_⟩
  have n1 := made.nxt r.nx.here
  obtain ⟨oc, od, dV, kV, doc, pmg, an, cdv, ctg, osl, rfl, lk, hcd, _, _⟩ := F.ex
  have lk' : X.K.lookup g = some ⟨oc, od, .func (PySem.W.fnOf "_law_told" "_law_told" pg t.body sg dV kV doc pmg an cdv ctg), osl⟩ := by rw [kk]; exact lk
  have hcd' : PySem.W.codeIn X.K cdv "_law_told" = true := by rw [kk]; exact hcd
  have told : codeAny (model X.prog X.w) X.A (.call (.ref g) ⟨[.ref f], []⟩) (CR (L2N.CX X.prog X.w) X.stack X.prog X.w H1 s1 Q fun _ _ _ => False) s1 := by
    refine LamX.run_ofS (CX := L2N.CX X.prog X.w) (N := toldN) (ps := ["call"]) (us := [.ref f]) (vs := [V.ref f]) (mg := X.mg) (base := X.base) lk' hcd' Sg room I1.env0 (bind s1 [.ref f] (by have := I1.kIn; rwa [kk] at this) rfl) (.cons rfl .nil) rfl ?_
    intro room'
    obtain ⟨ME, me1, me2, run⟩ := told_body (Y := toldCx X toldN "_law_told" sg g cdv s1 H1 fun _ _ _ => False) (sc := sg) (t := t) (f := f) (c := c) (q := lq X) (σX := σ) (tb := fun E => rdE Γ (fun cls d _ H' => E cls d H') m) T G0 ⟨ofs.prog, ofs.w, ofs.K, ofs.mg, ofs.base⟩ rfl rfl rfl room'.units rfl rfl tc
      (fun W' pn xe p1 p2 tk => act_peD I1 L obj ff fr tup fD frD tk room' (fun A outer s' H' E ga ra => body A outer s' H' E f c (ga.trans gd) ra) rfl (by
        rcases Sg.par "call" (by simp) with z | z
        · exact .inl z
        · exact .inr (.inl z)) rfl rfl)
    refine ⟨_, run.nox, fun cls d H' => ∃ (j : Exn) (S' : SS) (B' : Hp), j.plain = true ∧ cls = Γ.cls j ∧ d = none ∧ Nxt Γ C B H1 S' B' H' ∧ PostV rrE Γ C W σ B H1 Q (.ok (.tuple [.str (names5.getD j.ix "")]) S'), rfl, made.code, ?_, ?_⟩
    · rintro cls d H' ⟨j, S', B', pl, rfl, rfl, n, q⟩
      refine ⟨true, me2 j pl, fun _ a na => ⟨j, pl, rfl, rfl, rfl, ?_⟩, fun z => by cases z⟩
      have hj : j.ix < 5 := by cases j <;> simp [Exn.ix]
      refine ⟨C, B', H', _, S', B', rel_told n.here rfl, ?_⟩
      have e : mSuite ((oneOf j.ix).map PyData.bool) (List.replicate 5 Slot.none) = pure (.rt (.tuple [.str (names5.getD j.ix "")])) := suite_one hj _ _ _ _ _
      rw [e]
      intro v B'' H'' n2 rv
      exact q v H'' B'' (n.trans n2) rv
    · refine ⟨C, B0, H0, ρ, S, B, r.up n1, ?_⟩
      have post := post.up n1
      unfold vTold at post
      cases e : m ρ S with
      | ok d S' =>
        rw [e] at post
        intro v H' B' n x
        refine ⟨by show 2 ≤ sizeLine; decide, fun np free => ?_⟩
        have n2 := n.here.new free (.tup [.str "told", v]) (by show 2 ≤ sizeLine; decide)
        exact post (.ref np) _ _ (n.trans n2) (.tup (.inl (.inl upd_same)) (.cons (.str _) (.cons (x.up n2.sb) .nil)))
      | exc j S' =>
        rw [e] at post
        intro H' B' n
        by_cases pl : j.plain = true
        · refine ⟨j, S', B', pl, rfl, rfl, n, ?_⟩
          have z : tellD (.exc j S') = .ok (.tuple [.str (names5.getD j.ix "")]) S' := if_pos pl
          rw [z] at post
          exact post
        · have z : tellD (.exc j S') = .bad := if_neg pl
          rw [z] at post
          exact post.elim
      | bad => rw [e] at post; exact post
  refine wpAny_call (codeAny_mono told ?_)
  rintro (e | fl) s2 hq
  · obtain ⟨_, _, _, _, _, _, _, _, _, _, _, _, no⟩ := hq
    exact no.elim
  · cases fl with
    | ret u => exact I1.after hq
    | next => exact hq.elim
    | brk => exact hq.elim
    | cont => exact hq.elim
end Pv
namespace Pv
open PySem PySem.Spec PyProof.Rows L2
open PySem.W (EachIs)
open LamX (Tabs TabS ExtN CodeO TabB lamEnv)
/-! sorted with the key (len(one), one): the rule -/
variable {Γ : Gm} {X : Cx} {W : WX} {pos p : Pos}
def KeyR (Γ : Gm) (B : Hp) (h : Heap) (v : Value) (ns : List Int) : Prop := ∃ (x : V) (t : Addr) (its : Array Value), RelV x v ∧ Rp Γ.K B x (tupI ns) ∧ v = .ref t ∧ IsTup h t its ∧ IntsAre its.toList ns ∧ its.size ≤ sizeLine
theorem key_in {pins : List (Addr × Obj)} {σ : L2.St} {H B : Hp} {s : Shared} (I : Inv X pins σ H s) (hK : X.K = Γ.K) (sb : Sub B H) : ∀ {ls : List (List Int)} {xs : List V} {us : List Value}, Vals xs us → RpAll Γ.K B xs (ls.map tupI) → EachIs (KeyR Γ B s.heap) us ls
  | [], _, _, vs, ra => by
    cases ra
    cases vs
    exact .nil
  | ns :: ls, _, _, vs, ra => by
    rw [List.map_cons] at ra
    cases ra with
    | cons r1 r2 =>
      cases vs with
      | cons v1 v2 =>
        have rt : RpT Γ.K none B H _ (tupI ns) := .inl r1
        obtain ⟨t, ys, rfl, hq, ry⟩ := rt.tuple sb
        cases v1
        rw [ry.ints_eq] at hq
        obtain ⟨its, vi, tup, len⟩ := I.tuple (hK ▸ hq)
        refine .cons ⟨.ref t, t, its.toArray, rfl, r1, rfl, tup, by simpa using vi.ints, ?_⟩ (key_in I hK sb v2 r2)
        rw [List.size_toArray, ← vi.length]
        exact len
theorem key_out {B : Hp} {h : Heap} : ∀ {us : List Value} {ls : List (List Int)}, EachIs (KeyR Γ B h) us ls → ∃ xs, Vals xs us ∧ RpAll Γ.K B xs (ls.map tupI)
  | _, _, .nil => ⟨[], .nil, .nil⟩
  | _, _, .cons ⟨x, t, its, rv, rp, _⟩ r => by
    obtain ⟨xs, v, ra⟩ := key_out r
    exact ⟨x :: xs, .cons rv v, .cons rp ra⟩
theorem d_sortLen {k : Nat} {a : Expr} {ma : ME} {ag : PySem.Arg} {scp : Scope} {lp kp p1 p2 p3 p4 p5 : Pos} {n : Nat} (hK : X.K = Γ.K) (hm0 : X.mg = Γ.mg) (hc : X.calm = true) (hu : X.A.units + 64 < cLine) (room : Room (k + 3) X.A) (tabs : TabG Γ X) (hg : Gl X "sorted") (hm : X.mg "sorted" = none) (hml : X.mg "len" = none) (K : KeyScope scp ag.arg)
    (ha : PE X a (rdT Γ W ma)) (hf : plainE a = true) : PE X (.Call (.Name "sorted" p) [a] [⟨some "key", .Lambda (keyPar ag) (keyBody ag.arg p1 p2 p3 p4 p5 n) scp lp, kp⟩] pos) (rdE Γ W (v1 sortLenD ma)) := by
  obtain ⟨co, P, TB, hco, mem, one⟩ := tabs.ex
  refine ⟨?_⟩
  rintro pins s σ H Q I ⟨C, B0, H0, ρ, S, B, r, q⟩
  refine wpAny_Call_Name_kw (ld_blt I hg hm boot_sorted ?_)
  refine PyProof.Rows.callWith_kw ?_ (by rw [star_plain hf]; rfl) (by rw [star_plain hf]; rfl) rfl rfl
  rw [star_plain hf]
  refine Calls.spliced_cons ?_
  have asked := ha.run pins s σ H (fun v H1 => ∃ B1 S1 d, Rel Γ C B0 H0 ρ S1 σ B1 H1 ∧ RpT Γ.K C B1 H1 v d ∧ PostV rrE Γ C W σ B1 H1 Q (sortLenD d S1)) I (rd_bind r q fun d S1 v H1 B1 r1 n1 x1 w => ⟨B1, S1, d, r1, x1, w⟩)
  refine thn asked ?_
  rintro u s1 ⟨v, H1, I1, rv, B1, S1, d, rel1, x1, w1⟩
  refine Calls.spliced_nil ?_
  show wpAny _ _ (evalAll ((do let v ← eval (.Lambda (keyPar ag) (keyBody ag.arg p1 p2 p3 p4 p5 n) scp lp) X.env; standAt pos; pure v) :: [])) _ _ s1
  refine wpAny_evalAll_cons (wpAny_bind (lam_new I1 TB hco mem one rel1.nx.tb rfl (fun y hy e => absurd e (K.nofree y hy)) ?_))
  intro f c pm ct H2 s2 I2 made obj ff fr
  refine wpAny_bind (wpAny_standAt (wpAny_pure (wpAny_evalAll_nil ?_)))
  have n2 := made.nxt rel1.nx.here
  have w1 := w1.up n2
  unfold sortLenD at w1
  split at w1
  · rename_i ds w0
    cases et : tupsI ds with
    | none => rw [et] at w1; exact w1.elim
    | some ls =>
      rw [et] at w1
      have ed := tupsI_map et
      subst ed
      dsimp only at w1
      split at w1
      · rename_i few
        obtain ⟨l, xs, rfl, hl, ra⟩ := x1.list rel1.nx.sh
        cases rv
        have hl2 : SqL X.K H2 l xs := .inl (.inl (made.ext l _ hl (by intro _ z; cases z)))
        obtain ⟨its, vi, pl, hz⟩ := I2.list hl2
        have each := key_in (B := B1) I2 hK (fun a u h => n2.sh a u h) vi ra
        obtain ⟨⟨oc, vs, t, hoc, hdc, hvc⟩, _, _⟩ := I2.hok c _ made.code
        obtain ⟨mb, hb1, hb2⟩ := I2.mod.blt
        refine PySem.W.sorted_key_data (b := false) keyI pl.isList each (PySem.W.AllAlike.of fun _ _ => by simp [keyI, tupI, PySem.W.alike, PySem.W.alikeAll, alike_ints]) (PySem.W.Sortable.tuples fun _ => ⟨_, _, rfl⟩) (by rw [sizeLine_eq]; omega) (fun x _ => by have := depth_keyI x; omega) (ksk_s1 _ _) (fun _ => ksk_l1 _ _) (fun _ => ksk_t1 _ _) (fun v ns hR _ h tk kp => ?_) fun out cc h' tk kp fresh hD lo eo => ?_
        · obtain ⟨x, t0, its0, _, _, rfl, tup, nums, hz0⟩ := hR
          have R2 := Room.in1 (Room.in1 room)
          exact key_call (s := { s2 with heap := h, toks := tk }) (A := X.A.in1.in1) (mg := X.mg) (mb := mb) R2.depth K (kp _ _ obj) ⟨c, oc, vs, t, rfl, kp _ _ hoc, hdc, hvc⟩ ((I2.mod.glob.keeps I2.bk).keeps kp) hml ((hb1.keeps I2.bk).keeps kp) ((hb2 "len" (by decide)).trans boot_len) (I2.nolimit.keeps kp) (tup.keeps kp) nums hz0
        · obtain ⟨ys, vo, ro⟩ := key_out eo
          have hn : H2 (s2.heap.objs.size + 1) = none := I2.hok.fresh (Nat.le_succ _)
          have hz2 : ((ls.mergeSort (PySem.W.dataLe false keyI)).map tupI).length ≤ sizeLine := by
            rw [List.length_map, List.length_mergeSort, sizeLine_eq]
            omega
          have fin := PostV.lst w1 n2.here ro hz2 _ hn
          refine ⟨.ref _, upd H2 (s2.heap.objs.size + 1) (.lst ys), I2.laid (t' := tk) kp (Nat.le_succ _) (show ObjOk X.prog X.w _ _ _ (.lst ys) from ⟨?_, out, cc, vo, hD⟩), rfl, fin⟩
          rw [ro.len]
          exact hz2
      · exact w1.elim
  · exact w1.elim
end Pv
namespace Pv
open PySem PySem.Spec PyProof.Rows L2
variable {Γ : Gm} {X : Cx} {W : WX} {pos : Pos}
/-! a < b < c < d -/
def tLink (r : R2) (tb : TE) (k : V → TE) (x : V) : TE := fun σ H Q => tb σ H fun y H2 => r x y H2 fun z H3 => ∃ b, z = .bl b ∧ (if b = true then k y σ H3 Q else Q (.bl false) H3)
def tLast (r : R2) (tb : TE) (x : V) : TE := fun σ H Q => tb σ H fun y H2 => r x y H2 Q
def tChain3 (r r' r2 : R2) (ta tb tc td : TE) : TE := fun σ H Q => ta σ H fun x H1 => tLink r tb (tLink r' tc (tLast r2 td)) x σ H1 Q
section
variable {a b c d : Expr} {ta tb tc td : TE} {op op' op2 : CmpOp} {r r' r2 : R2}
theorem pe_chain3 (ho : OpR X (compareOp op) r) (ho' : OpR X (compareOp op') r') (ho2 : OpR X (compareOp op2) r2) (ha : PE X a ta) (hb : PE X b tb) (hc : PE X c tc) (hd : PE X d td) (hm : lastMarks [op, op', op2] [b, c, d] = false) :
    PE X (.Compare a [op, op', op2] [b, c, d] pos) (tChain3 r r' r2 ta tb tc td) := by
  refine ⟨fun pins s σ H Q I ask => ?_⟩
  refine Compare_chain (thn (ha.run pins s σ H _ I ask) ?_) hm
  rintro va s1 ⟨x, H1, I1, rx, q1⟩
  refine chain_link (thn (hb.run pins s1 σ H1 _ I1 q1) ?_)
  rintro vb s2 ⟨y, H2, I2, ry, q2⟩
  refine thn (ho pins s2 σ H2 x y va vb _ I2 rx ry q2) ?_
  rintro v3 s3 ⟨z, H3, I3, rz, k, rfl, q3⟩
  cases rz
  refine wpAny_truthy_bool ?_
  cases k with
  | false => exact ite_ff ⟨.bl false, H3, I3, rfl, q3⟩
  | true =>
    refine ite_tt (chain_link (thn (hc.run pins s3 σ H3 _ I3 q3) ?_))
    rintro vc s4 ⟨u, H4, I4, ru, q4⟩
    refine thn (ho' pins s4 σ H4 y u vb vc _ I4 ry ru q4) ?_
    rintro v5 s5 ⟨z5, H5, I5, rz5, k5, rfl, q5⟩
    cases rz5
    refine wpAny_truthy_bool ?_
    cases k5 with
    | false => exact ite_ff ⟨.bl false, H5, I5, rfl, q5⟩
    | true =>
      refine ite_tt (chain_last (thn (hd.run pins s5 σ H5 _ I5 q5) ?_))
      rintro vd s6 ⟨w, H6, I6, rw6, q6⟩
      exact ho2 pins s6 σ H6 u w vc vd Q I6 ru rw6 q6
theorem pt_chain3 (ho : OpR X (compareOp op) r) (ho' : OpR X (compareOp op') r') (ho2 : OpR X (compareOp op2) r2) (ha : PE X a ta) (hb : PE X b tb) (hc : PE X c tc) (hd : PE X d td) (hm : lastMarks [op, op', op2] [b, c, d] = false) :
    PT X (.Compare a [op, op', op2] [b, c, d] pos) (tTest (tChain3 r r' r2 ta tb tc td)) := by
  refine ⟨fun pins s σ H Q I ask => ?_⟩
  refine isTrue_chain (thn (ha.run pins s σ H _ I ask) ?_) hm
  rintro va s1 ⟨x, H1, I1, rx, q1⟩
  refine test_link (thn (hb.run pins s1 σ H1 _ I1 q1) ?_)
  rintro vb s2 ⟨y, H2, I2, ry, q2⟩
  refine thn (ho pins s2 σ H2 x y va vb _ I2 rx ry q2) ?_
  rintro v3 s3 ⟨z, H3, I3, rz, k, rfl, q3⟩
  cases rz
  refine wpAny_truthy_bool ?_
  cases k with
  | false =>
    obtain ⟨k', e', q'⟩ := q3
    cases e'
    exact ite_ff ⟨H3, I3, q'⟩
  | true =>
    refine ite_tt (test_link (thn (hc.run pins s3 σ H3 _ I3 q3) ?_))
    rintro vc s4 ⟨u, H4, I4, ru, q4⟩
    refine thn (ho' pins s4 σ H4 y u vb vc _ I4 ry ru q4) ?_
    rintro v5 s5 ⟨z5, H5, I5, rz5, k5, rfl, q5⟩
    cases rz5
    refine wpAny_truthy_bool ?_
    cases k5 with
    | false =>
      obtain ⟨k', e', q'⟩ := q5
      cases e'
      exact ite_ff ⟨H5, I5, q'⟩
    | true =>
      refine ite_tt (test_last (thn (hd.run pins s5 σ H5 _ I5 q5) ?_))
      rintro vd s6 ⟨w, H6, I6, rw6, q6⟩
      refine thn (ho2 pins s6 σ H6 u w vc vd _ I6 ru rw6 q6) ?_
      rintro v7 s7 ⟨z7, H7, I7, rz7, k7, rfl, q7⟩
      cases rz7
      exact wpAny_truthy_bool ⟨H7, I7, q7⟩
variable {f g h : D → D → M D} {ma mb mc md : ME}
theorem post_link {C : Option Addr} {B0 H0 B H : Hp} {ρ : Env} {S : SS} {σ : L2.St} {Q : VK} {x : V} {dx : D} {k : V → TE} {m : D → M D} (hp : OpP Γ f r) (r0 : Rel Γ C B0 H0 ρ S σ B H) (hx : RpT Γ.K C B H x dx)
    (q : PostV rrE Γ C W σ B H Q ((mb ρ >>= fun y => f dx y >>= fun e => asB e >>= fun k => if k = true then m y else pure (.bool false)) S))
    (next : ∀ y dy S1 B1 H1, Rel Γ C B0 H0 ρ S1 σ B1 H1 → RpT Γ.K C B1 H1 y dy → PostV rrE Γ C W σ B1 H1 Q (m dy S1) → k y σ H1 Q) : tLink r (rdT Γ W mb) k x σ H Q := by
  refine rd_bind r0 q fun dy S2 y H2 B2 r2 n2 y2 p2 => ?_
  rcases p2.bind with ⟨z, S3, e3, p3⟩ | ⟨j, S3, e3, p3⟩
  · refine hp (S := S2) (C := C) (B := B2) (W := W) (σ := σ) r2.nx.here (hx.up n2) y2 ?_
    rw [e3]
    intro w H' B' n v
    cases z with
    | bool b =>
      cases v
      refine ⟨b, rfl, ?_⟩
      cases b with
      | true => exact next y dy S3 B' H' (r2.up n) (y2.up n) (p3.up n)
      | false => exact (p3.up n).val (r2.up n).nx.here (.bl _)
    | _ => exact p3.elim
  · refine hp (S := S2) (C := C) (B := B2) (W := W) (σ := σ) r2.nx.here (hx.up n2) y2 ?_
    rw [e3]
    exact p3
theorem post_chain3 (hp : OpP Γ f r) (hp' : OpP Γ g r') (hp2 : OpP Γ h r2) {σ : L2.St} {H : Hp} {Q : VK} (hq : rdE Γ W (vChain3 f g h ma mb mc md) σ H Q) : tChain3 r r' r2 (rdT Γ W ma) (rdT Γ W mb) (rdT Γ W mc) (rdT Γ W md) σ H Q := by
  obtain ⟨C, B0, H0, ρ, S, B, r0, q⟩ := hq
  refine rd_bind r0 q fun dx S1 x H1 B1 r1 n1 x1 p1 => ?_
  refine post_link hp r1 x1 p1 fun y dy S3 B3 H3 r3 y3 p3 => ?_
  refine post_link hp' r3 y3 p3 fun u du S5 B5 H5 r5 u5 p5 => ?_
  exact rd_bind r5 p5 fun dw S6 w H6 B6 r6 n6 w6 p6 => hp2 r6.nx.here (u5.up n6) w6 p6
theorem marks3 (hd : plainE d = true) (op op' op2 : CmpOp) : lastMarks [op, op', op2] [b, c, d] = false := mark_plain hd op2
theorem d_chain3 (ho : OpR X (compareOp op) r) (ho' : OpR X (compareOp op') r') (ho2 : OpR X (compareOp op2) r2) (hp : OpP Γ f r) (hp' : OpP Γ g r') (hp2 : OpP Γ h r2) (ha : PE X a (rdT Γ W ma)) (hb : PE X b (rdT Γ W mb)) (hc : PE X c (rdT Γ W mc)) (hd : PE X d (rdT Γ W md)) (pd : plainE d = true) :
    PE X (.Compare a [op, op', op2] [b, c, d] pos) (rdE Γ W (vChain3 f g h ma mb mc md)) := PE.imp (pe_chain3 ho ho' ho2 ha hb hc hd (marks3 pd op op' op2)) fun _ _ _ q => post_chain3 hp hp' hp2 q
theorem d_tchain3 (ho : OpR X (compareOp op) r) (ho' : OpR X (compareOp op') r') (ho2 : OpR X (compareOp op2) r2) (hp : OpP Γ f r) (hp' : OpP Γ g r') (hp2 : OpP Γ h r2) (ha : PE X a (rdT Γ W ma)) (hb : PE X b (rdT Γ W mb)) (hc : PE X c (rdT Γ W mc)) (hd : PE X d (rdT Γ W md)) (pd : plainE d = true) :
    PT X (.Compare a [op, op', op2] [b, c, d] pos) (rdB Γ W (vChain3 f g h ma mb mc md)) := PT.imp (pt_chain3 ho ho' ho2 ha hb hc hd (marks3 pd op op' op2)) (toB fun q => post_chain3 hp hp' hp2 q)
end
end Pv
namespace PySem
open Sem (wp)
/-- enumerate(v): v told by how its iterator begins -/
theorem meets_enum1 {v : Value} {o : Obj} {P : Heap → Prop} (B : Begins v o P) :
    Meets (Builtin.«enumerate.__new__» ⟨[.type "enumerate", v], []⟩) (fun _ R s => P s.heap ∧
      R (.ok (.ret (.ref (s.heap.push o).objs.size))) { s with heap := (s.heap.push o).push { cls := .type "enumerate", data := .fields #[.none, .bool false, .ref s.heap.objs.size, rawInt 0, .none, .none] } }) :=
  .of_wp fun prog w A R s ask => by
    obtain ⟨hp, g, d, tk, os⟩ := s
    obtain ⟨h1, h⟩ := ask
    have hsub := sub_enumerate
    have begins : ∀ {A' : Around} {E : Value → Shared → Prop} {Q : Value → Shared → Prop}, Q (.ref hp.objs.size) ⟨hp.push o, g, d, tk, os⟩ → wpAny (model prog w) A' (pyIter v) Q E ⟨hp, g, d, tk, os⟩ :=
      fun q => B.iter prog w _ _ ⟨hp, g, d, tk, os⟩ _ h1 q
    wp_walk using begins
    refine wpAny_stack_any fun st => wpAny_pure ?_
    split
    · rename_i c _ _ _ _ _
      cases (c == Value.type "enumerate") <;> (wp_walk using begins; exact ⟨_, rfl, h⟩)
    · wp_walk using begins
      exact ⟨_, rfl, h⟩
theorem call_enum1 {prog : Program} {w : World} {A : Around} {E : Value → Shared → Prop} {s : Shared} {v : Value} {o : Obj} {P : Heap → Prop} {Q : Value → Shared → Prop} (B : Begins v o P) (h1 : P s.heap)
    (k : ∀ h', IsEnum h' (s.heap.objs.size + 1) s.heap.objs.size 0 .none → h'.get? s.heap.objs.size = some o → h'.objs.size = s.heap.objs.size + 2 → (∀ b u, s.heap.get? b = some u → h'.get? b = some u) → Q (.ref (s.heap.objs.size + 1)) { s with heap := h' }) :
    wpAny (model prog w) A (call (.type "enumerate") [v]) Q E s := by
  refine callType_new F.called_enumerate (by decide) (F.typeCall_enumerate_1 _) (F.newCall_enumerate_1 _) (fun obj => F.args_object_init_2 obj _) F.entry_enumerate_new (meets_enum1 B) ⟨h1, ?_⟩
  have sz : (s.heap.push o).objs.size = s.heap.objs.size + 1 := Heap.size_push ..
  show _ ∧ _
  rw [sz]
  have en : IsEnum ((s.heap.push o).push { cls := .type "enumerate", data := .fields #[.none, .bool false, .ref s.heap.objs.size, rawInt 0, .none, .none] }) (s.heap.objs.size + 1) s.heap.objs.size 0 .none := by
    have z := Heap.get?_push_size (s.heap.push o) (o := { cls := .type "enumerate", data := .fields #[.none, .bool false, .ref s.heap.objs.size, rawInt 0, .none, .none] }) rfl
    rw [sz] at z
    exact z
  exact ⟨⟨_, en, rfl⟩, k _ en (Heap.get?_push_of_some _ (Heap.get?_push_size _ B.free)) (by rw [Heap.size_push, sz]) fun b u x => Heap.get?_push_of_some _ (Heap.get?_push_of_some _ x)⟩
end PySem
namespace Pv
open PySem PySem.Spec PyProof.Rows L2
/-! enumerate over a tuple -/
def IteT (K : PySem.W.Frag) (a : Addr) : L2.It :=
  ⟨fun i H => ∃ (xs : List V) (x : V), SqT K H a xs ∧ xs[i]? = some x, fun i H v H' => ∃ T x, v = .ref T ∧ H T = none ∧ H' = upd H T (.tup [.int (i : Nat), x]) ∧ ∀ xs, SqT K H a xs → xs[i]? = some x, fun i H => ∃ xs : List V, SqT K H a xs ∧ xs.length ≤ i⟩
theorem turn_enT {P : Program} {w : World} {K : PySem.W.Frag} {elts : List Expr} {kk : Nat} {tpos : Pos} (a e it : Addr) :
    Turn P w K (.Tuple elts kk tpos) (IteT K a) [e, it] e (fun i h => (∃ old, IsEnum h e it ((i : Nat) : Int) old) ∧ h.IsTupleIter it a i ∧ e ≠ it ∧ a ≠ it ∧ e ≠ a) where
  mem := by simp
  obj := fun i h st b hb => by
    obtain ⟨⟨old, he⟩, ⟨o, ho, hc, hd⟩, _⟩ := st
    cases List.mem_cons.mp hb with
    | inl z => rw [z]; exact ⟨_, he, fun v q => nomatch q⟩
    | inr z => rw [List.mem_singleton.mp z]; exact ⟨o, ho, fun v q => by rw [hd] at q; cases q⟩
  keep := fun i h h' st k => by
    obtain ⟨⟨old, he⟩, hi, h1, h2, h3⟩ := st
    exact ⟨⟨old, k e (by simp) _ he⟩, hi.at fun o q => k it (by simp) o q, h1, h2, h3⟩
  item := by
    intro X hP hw hK hc i pins s σ H E I hf st hg
    subst hP hw hK
    obtain ⟨⟨old, he⟩, hit, hne, hta, hea⟩ := st
    obtain ⟨xs, x, hq, hx⟩ := hg
    obtain ⟨its, rv, p, hz⟩ := I.tuple hq
    obtain ⟨u, hu, ru⟩ := rv.get hx
    have hel : e < s.heap.objs.size := Heap.lt_size he
    have hil : it < s.heap.objs.size := by obtain ⟨_, q, _⟩ := hit; exact Heap.lt_size q
    have hd : X.A.in1.handled = none := I.ok.hd hc
    have li : i < its.toArray.size := by
      rw [List.size_toArray]
      exact (List.getElem?_eq_some_iff.mp hu).1
    refine wpAny_pyNext_enum_itemC (Draws.tuple (prog := X.prog) (w := X.w) (A := X.A.in1) hd it a hta its.toArray) he ⟨hit, p⟩ li hne (by simp [hne, hea]) ?_
    intro x' h' tk px ho st' hT hsz hk
    have ex : x' = u := by
      have z : its.toArray[i]? = some u := by simpa using hu
      rw [z] at px
      exact (Option.some.inj px).symm
    subst ex
    refine ⟨_, rfl, wpAny_letOwnedTupleGo_enum (s := { s with heap := h', toks := tk + 1 }) ho ?_⟩
    intro h'' he' sb
    have hT2 : h''.get? s.heap.objs.size = some { cls := .type "tuple", data := .seq #[.int i tk, x'] } := (sb.2 _ (Nat.ne_of_gt hel)).trans hT
    have new : ObjOk X.prog X.w (upd H s.heap.objs.size (.tup [.int (i : Nat), x])) h'' s.heap.objs.size (.tup [.int (i : Nat), x]) :=
      ⟨by show 2 ≤ sizeLine; decide, [.int i tk, x'], .cons ⟨_, rfl⟩ (.cons ru .nil), ⟨_, hT2, rfl, _, rfl⟩⟩
    have I1 : Inv X pins σ (upd H s.heap.objs.size (.tup [.int (i : Nat), x])) { s with heap := h'', toks := tk + 1 } :=
      I.turnedNew (ch := [e, it]) (fun b ob hb q => (sb.2 b (fun z => hb (by simp [z]))).trans (hk b ob (fun z => hb (by simp [z])) (fun z => hb (by simp [z])) q)) hf (Nat.le_refl _) new
    refine ⟨.ref s.heap.objs.size, _, I1, rfl, ⟨_, x, rfl, I.hok.fresh (Nat.le_refl _), rfl, fun ys hy => ?_⟩, ⟨⟨x', ?_⟩, st'.1.at fun o q => (sb.2 it (Ne.symm hne)).trans q, hne, hta, hea⟩, fun b hb => ?_⟩
    · rw [I.tuple_inj hy hq]; exact hx
    · have e1 : ((i + 1 : Nat) : Int) = (i : Int) + 1 := by omega
      rw [e1]
      exact he'
    · have hb' : b < s.heap.objs.size := by
        cases List.mem_cons.mp hb with
        | inl z => rw [z]; exact hel
        | inr z => rw [List.mem_singleton.mp z]; exact hil
      rw [upd_ne (Nat.ne_of_lt hb')]
      exact (hf b hb).1
  done := by
    intro X hP hw hK hc i pins s σ H E I hf st hg
    subst hP hw hK
    obtain ⟨⟨old, he⟩, hit, hne, hta, hea⟩ := st
    obtain ⟨xs, hq, hx⟩ := hg
    obtain ⟨its, rv, p, hz⟩ := I.tuple hq
    have hd : X.A.in1.handled = none := I.ok.hd hc
    have off : its.toArray[i]? = none := by
      have := rv.length
      simp
      omega
    have D : Draws X.prog X.w X.A.in1 it [it, a] i (fun _ _ => False) (fun j h => j = i ∧ h.IsTupleIter it a i ∧ h.IsTuple a its.toArray) :=
      { live := fun _ _ st => let ⟨o, ho, _⟩ := st.2.1; ⟨o, ho⟩
        frame := fun _ _ _ st hk => ⟨st.1, st.2.1.at fun o q => hk it (by simp) o q, st.2.2.at fun o q => hk a (by simp) o q⟩
        item := fun j s Q E hj st _ => absurd st.1 (Nat.ne_of_lt hj)
        done := fun s Q E st hE => wpAny_nextOf_tuple_end hd st.2.1 st.2.2 off hE }
    obtain ⟨f0, f1, f2, f3, f4, f5⟩ := hf it (by simp)
    exact wpAny_pyNext_enum_endD D he ⟨rfl, hit, p⟩ fun h' eb => ⟨rfl, I.turned (t' := s.toks) (fun b o hb q => eb b o hb q) f0 f1 f3 f4 f5⟩
  self := fun A i s Q E st h => let ⟨⟨_, he⟩, _⟩ := st; wpAny_pyIter_enum he h
end Pv
namespace Pv
open PySem PySem.Spec PyProof.Rows L2
variable {Γ : Gm} {X : Cx} {W : WX}
def iEnT (K : PySem.W.Frag) (ta : TA) : TI := fun σ H R => ta σ H fun vs H1 => ∃ a xs, vs = [.ref a] ∧ ((SqL K H1 a xs ∧ R (Ite K a) H1) ∨ (SqT K H1 a xs ∧ R (IteT K a) H1))
theorem pi_en {e : Expr} {ta : TA} {p pos tpos : Pos} {elts : List Expr} {kk : Nat} (hg : Gl X "enumerate") (hm : X.mg "enumerate" = none) (ha : PA X [e] ta) (hs : starEach [e] X.env = [(false, eval e X.env)]) :
    PI X (.Tuple elts kk tpos) (.Call (.Name "enumerate" p) [e] [] pos) (iEnT X.K ta) := by
  refine ⟨fun pins s σ H R I h => ?_⟩
  refine Call_ (ld_blt I hg hm boot_enumerate (PyProof.Rows.callWith_type1 (thn (ha.run pos pins s σ H _ I h) ?_) hs rfl))
  rintro us s1 ⟨vs, H1, I1, r1, a, xs, rfl, q⟩
  cases r1 with
  | cons r rr =>
    cases rr
    cases r
    have far : ∀ b ∈ [s1.heap.objs.size + 1, s1.heap.objs.size], FpOk X pins H1 b := by
      intro b hb
      have hle : s1.heap.objs.size ≤ b := by
        cases List.mem_cons.mp hb with
        | inl z => rw [z]; exact Nat.le_add_right _ _
        | inr z => rw [List.mem_singleton.mp z]; exact Nat.le_refl _
      exact I1.fpOk hle (I1.hok.fresh hle)
    rcases q with ⟨hq, q⟩ | ⟨hq, q⟩
    · obtain ⟨its, rv, p', hz⟩ := I1.list hq
      refine call_enumerate_list p'.isList ?_
      intro h' he hit hsz hk
      refine wpAny_pyIter_enum he ?_
      have I2 : Inv X pins σ H1 { s1 with heap := h' } := I1.kept (t' := s1.toks) hk
      exact ⟨s1.heap.objs.size + 1, [s1.heap.objs.size + 1, s1.heap.objs.size], _, _, H1, rfl, I2, turn_enum a (s1.heap.objs.size + 1) s1.heap.objs.size, ⟨⟨.none, he⟩, hit, Nat.succ_ne_self _⟩, far, q⟩
    · obtain ⟨its, rv, p', hz⟩ := I1.tuple hq
      have la : a < s1.heap.objs.size := by obtain ⟨o, z, _⟩ := p'; exact Heap.lt_size z
      refine call_enum1 (begins_tuple a its.toArray) p' ?_
      intro h' he hit hsz hk
      refine wpAny_pyIter_enum he ?_
      have I2 : Inv X pins σ H1 { s1 with heap := h' } := I1.kept (t' := s1.toks) hk
      exact ⟨s1.heap.objs.size + 1, [s1.heap.objs.size + 1, s1.heap.objs.size], _, _, H1, rfl, I2, turn_enT a (s1.heap.objs.size + 1) s1.heap.objs.size, ⟨⟨.none, he⟩, ⟨_, hit, rfl, rfl⟩, Nat.succ_ne_self _, Nat.ne_of_lt la, Nat.ne_of_gt (Nat.lt_succ_of_lt la)⟩, far, q⟩
theorem walk_enT {K : PySem.W.Frag} {a : Addr} {xs : List V} : Walk (IteT K a) xs.length (fun H => SqT K H a xs) (YPair (fun i => some (.int (i : Nat))) (fun i => xs[i]?)) := by
  constructor
  · intro i H hi q
    exact ⟨xs, xs[i], q, by simp [hi]⟩
  · intro H q
    exact ⟨xs, q, Nat.le_refl _⟩
  · rintro i H v H' _ q ⟨T, x, h1, h2, h3, h4⟩
    exact ⟨T, .int (i : Nat), x, h1, h2, h3, rfl, h4 xs q⟩
theorem enL_len (ds : List D) : (enL ds).length = ds.length := by simp [enL]
theorem enL_at {ds : List D} {i : Nat} {d : D} (h : ds[i]? = some d) : (enL ds)[i]? = some (.tuple [.int (i : Nat), d]) := by simp [enL, h]
theorem wkEn {C : Option Addr} {P : Hp → Hp → Prop} {xs : List V} {ds : List D} {B1 : Hp} {J : L2.It} {G : Hp → Prop} (hz : ds.length ≤ sizeLine) (r : RpAll Γ.K B1 xs ds) (w : Walk J xs.length G (YPair (fun i => some (.int (i : Nat))) (fun i => xs[i]?))) (hP : ∀ B H, P B H → G H ∧ Sub B1 B) : WkD Γ C P J (enL ds) := by
  refine ⟨by rw [enL_len]; exact hz, G, _, by rw [enL_len, ← r.len]; exact w, fun B H h => (hP B H h).1, ?_⟩
  rintro i B H S x H' hi h n ⟨T, u, v, ev, nT, eH, hu, hv⟩
  rw [enL_len] at hi
  have hu : some (V.int (i : Nat)) = some u := hu
  cases hu
  have hv : xs[i]? = some v := hv
  obtain ⟨v', e2, rv⟩ := r.at (d := ds[i]) (i := i) (by simp [hi])
  rw [hv] at e2
  cases e2
  obtain ⟨B', n', rp⟩ := pair_new n (.int _) (rv.up (hP B H h).2) nT eH ev
  exact ⟨B', _, enL_at (by simp [hi]), n', rp⟩
theorem d_ien {P : PP} (hPP : ∀ {C : Option Addr} {B1 H1 B H : Hp}, P Γ C B1 H1 B H → Sub B1 B ∧ Sub B H) {elts : List Expr} {k : Nat} {tp p q : Pos} {a : Expr} {ma : ME} (hK : X.K = Γ.K) (hg : Gl X "enumerate") (hm : X.mg "enumerate" = none) (ha : PE X a (rdE Γ W ma)) (hf : plainE a = true) :
    PI X (.Tuple elts k tp) (.Call (.Name "enumerate" p) [a] [] q) (rdI P Γ W (iEn ma)) :=
  PI.imp (pi_en hg hm (pa_cons ha pa_nil (star_plain hf [] X.env)) (star_plain hf [] X.env)) fun σ H R ⟨C, B0, H0, ρ, S, B, r, w⟩ => by
    rw [hK]
    refine rd_bindI r w fun d S1 v H1 B1 r1 n1 x1 p1 => ?_
    have n := r1.nx.here
    cases d with
    | list ds =>
      cases x1 with
      | lst h ra =>
        refine ⟨_, _, rfl, .inl ⟨.inl (.inl (n.sh _ _ h)), p1 H1 B1 _ n (wkEn (n.lenL (n.sh _ _ h) ra) ra (walk_enum (K := Γ.K)) fun B H hp => ⟨.inl (.inl ((hPP hp).2 _ _ ((hPP hp).1 _ _ h))), (hPP hp).1⟩)⟩⟩
    | tuple ds =>
      cases x1 with
      | tup h ra =>
        refine ⟨_, _, rfl, .inr ⟨n.sh.sqT h, p1 H1 B1 _ n (wkEn (n.lenT (n.sh.sqT h) ra) ra walk_enT fun B H hp => ⟨(hPP hp).2.sqT ((hPP hp).1.sqT h), (hPP hp).1⟩)⟩⟩
    | _ => exact p1.elim
end Pv
namespace Pv
open PySem PySem.Spec PyProof.Rows L2
variable {Γ : Gm}
/-! the look is enough: expressions -/
def NeedOk (Γ : Gm) : Nat → Prop → Need → Prop
  | k, _, .call x n f => CalleeOk Γ (k + 1) x n f
  | _, _, .glob x d => ∃ v u, Γ.mg x = some u ∧ RelV v u ∧ ∀ B, Rp Γ.K B v d
  | _, _, .exn x e => ∃ a, Γ.mg x = some (.ref a) ∧ Γ.cls e = .ref a ∧ PySem.W.excIn Γ.K a He.veBase "ValueError.__new__" = true ∧ PySem.W.keepIn Γ.K (.ref a) = true ∧ PySem.W.subIn Γ.K (.ref a) (.type "BaseException") = some true ∧ PySem.W.typeIn Γ.K (.ref a) = some (.type "type")
  | k, tl, .key => (∃ j, k = j + 2) ∧ tl
  | k, tl, .tell => (∃ j, k = j + 2 ∧ ToldOk Γ) ∧ tl
  | k, _, .deep n => ∃ j, k = j + 2 ∧ NeedOk Γ j False n
  | k, _, .inner n => NeedOk Γ k False n
theorem NeedOk.any {Γ : Gm} {tl : Prop} : ∀ {n : Need} {k : Nat}, NeedOk Γ k False n → NeedOk Γ k tl n
  | .call _ _ _, _, h => h
  | .glob _ _, _, h => h
  | .exn _ _, _, h => h
  | .tell, _, h => h.2.elim
  | .key, _, h => h.2.elim
  | .deep _, _, h => h
  | .inner _, _, h => h
def NeedsOk (Γ : Gm) (k : Nat) (tl : Prop) (l : List Need) : Prop := ∀ x ∈ l, NeedOk Γ k tl x
theorem NeedOk.mono {Γ : Gm} {tl tl' : Prop} (f : tl → tl') : ∀ {n : Need} {k : Nat}, NeedOk Γ k tl n → NeedOk Γ k tl' n
  | .call _ _ _, _, h => h
  | .glob _ _, _, h => h
  | .exn _ _, _, h => h
  | .tell, _, h => ⟨h.1, f h.2⟩
  | .key, _, h => ⟨h.1, f h.2⟩
  | .deep _, _, h => h
  | .inner _, _, h => h
theorem NeedsOk.mono {k : Nat} {tl tl' : Prop} {a : List Need} (f : tl → tl') (h : NeedsOk Γ k tl a) : NeedsOk Γ k tl' a := fun x z => (h x z).mono f
/-- a def's code object and its table -/
def TabF (Γ : Gm) (fd : FuncData) (q : Str) : Prop := ∃ co P, LamX.TabB Γ.base Γ.mg co P ∧ fd.code = .ref co ∧ (P, q ++ ".<locals>." ++ "<lambda>") ∈ Γ.T ∧ ∀ p ∈ Γ.T, p.1 = P → p.2 = q ++ ".<locals>." ++ "<lambda>"
theorem TabF.at {fd : FuncData} {q : Str} {X : Cx} (o : Of Γ X) (hc : X.env.code = fd.code) (hq : X.env.qual = q ++ ".<locals>.") (t : TabF Γ fd q) : TabG Γ X := by
  obtain ⟨co, P, tb, e, m, u⟩ := t
  have hl : lq X = q ++ ".<locals>." ++ "<lambda>" := by unfold lq; rw [hq]
  exact ⟨co, P, by rw [o.base, o.mg]; exact tb, by rw [hc]; exact e, by rw [hl]; exact m, by rw [hl]; exact u⟩
theorem NeedsOk.l {k : Nat} {tl : Prop} {a b : List Need} (h : NeedsOk Γ k tl (a ++ b)) : NeedsOk Γ k tl a := fun x z => h x (List.mem_append_left _ z)
theorem NeedsOk.r {k : Nat} {tl : Prop} {a b : List Need} (h : NeedsOk Γ k tl (a ++ b)) : NeedsOk Γ k tl b := fun x z => h x (List.mem_append_right _ z)
theorem NeedsOk.any {k : Nat} {tl tl' : Prop} {a : List Need} (h : NeedsOk Γ k tl (a.map .inner)) : NeedsOk Γ k tl' a := fun x z => NeedOk.any (h (.inner x) (List.mem_map.mpr ⟨x, z, rfl⟩))
theorem NeedsOk.low {j : Nat} {tl tl' : Prop} {a : List Need} (h : NeedsOk Γ (j + 2) tl (a.map .deep)) : NeedsOk Γ j tl' a := fun x z => by
  obtain ⟨j', e, q⟩ := h (.deep x) (List.mem_map.mpr ⟨x, z, rfl⟩)
  have : j = j' := by omega
  subst this
  exact q.any
theorem glOk {k : Nat} {N : List Str} {sc : Scope} {fnb : Str → Bool} {W : WX} {X : Cx} (g : GoodX Γ k N sc fnb W X) {x : Str} {d : D} {p : Pos} (h : glB sc x = true) {tl : Prop} (nd : NeedOk Γ k tl (.glob x d)) : PE X (.Name x p) (rdE Γ W (vC d)) := by
  obtain ⟨v, u, h1, h2, h3⟩ := nd
  obtain ⟨h4, h5, h6⟩ := g.gl h
  exact d_glob h4 (by rw [g.ofs.mg]; exact h1) h2 h5 h3
theorem d_yesW {X : Cx} {W : WX} : PTs X [] (rdB Γ W (vC (.bool true))) := ⟨fun pins s σ H Q I ⟨C, B0, H0, ρ, S, B, r, q⟩ => pts_nil.run pins s σ H Q I (q H B r.nx.here)⟩
theorem d_if1W {X : Cx} {W : WX} {c : Expr} {m : ME} (h : PT X c (rdB Γ W m)) : PTs X [c] (rdB Γ W m) := pts_one h
theorem PE.dead {R : RR} {W : WX} {X : Cx} {ex : Expr} : PE X ex (rd R Γ W fun _ => bad) := ⟨fun pins s σ H Q I ⟨C, B0, H0, ρ, S, B, r, q⟩ => q.elim⟩
theorem PT.dead {W : WX} {X : Cx} {ex : Expr} : PT X ex (rdB Γ W fun _ => bad) := ⟨fun pins s σ H Q I ⟨C, B0, H0, ρ, S, B, r, q⟩ => q.elim⟩
theorem fstr_ok {X : Cx} {W : WX} {pos : Pos} : ∀ {l : List Expr} {ms : List ME}, PJ X l (ms.map (rdE Γ W)) → 2 ≤ l.length → PE X (.JoinedStr l pos) (rdE Γ W (vJs ms))
  | v1 :: v2 :: rest, _, ha, _ => d_fstr ha
  | [_], _, _, h3 => absurd h3 (by simp)
  | [], _, _, h3 => absurd h3 (by simp)
theorem call_ok {k : Nat} {N : List Str} {sc : Scope} {fnb : Str → Bool} {W : WX} {X : Cx} {x : Str} {f : Fn} {as : As} {p pos : Pos} (c : CalleeOk Γ (k + 1) x as.len f) (g : GoodX Γ k N sc fnb W X) (h5 : Gl X x) (h6 : (x == ("__debug__" : Str)) = false) : ∀ {l : List Expr}, PA X l (rdG Γ W as.len as.den) → as.chk N sc fnb l = true → plains l = true → PE X (.Call (.Name x p) l [] pos) (rdE Γ W (vCall f as.den))
  | [], ha, h3, _ => by
    cases as with
    | nil => exact d_call0 c g.ofs g.tk g.rm g.gd h5 h6
    | cons _ _ => cases h3
    | cell _ _ => cases h3
    | scr _ _ => cases h3
  | e1 :: es, ha, _, h4 => d_call c g.ofs g.tk g.rm g.gd h5 h6 ha h4
theorem good_lam {k j : Nat} {N : List Str} {sc scope : Scope} {fnb : Str → Bool} {W : WX} {X : Cx} {A : Around} {outer : List PySem.Env} {s : Shared} {H : Hp} {E : XK} {f c : Addr} (g : GoodX Γ k N sc fnb W X) (kd : scope.kind = .function) (ga : A.guards = some []) (ra : Room (j + 1) (A.deeper (LamX.lamEnv X scope s.heap.objs.size f c))) :
    GoodX Γ j N scope (fun _ => false) (fun cls d _ H' => E cls d H') (lamN X A outer s H E scope f c) where
  ofs := ⟨g.ofs.prog, g.ofs.w, g.ofs.K, g.ofs.mg, g.ofs.base⟩
  nm := g.nm
  nd := g.nd
  scE := rfl
  kd := kd
  fn := rfl
  calm := rfl
  tk := L2N.takes_of rfl rfl rfl rfl
  po := passes_of rfl
  rm := ra
  gd := ga
mutual
theorem e_ok (G0 : GmOk Γ) {k : Nat} {N : List Str} (e : E) {sc : Scope} {fnb : Str → Bool} {W : WX} {X : Cx} (g : GoodX Γ k N sc fnb W X) (ex : Expr) (nd : NeedsOk Γ k (TabG Γ X) e.needs) (h : e.chk N sc fnb ex = true) : EOk Γ X W e ex := by
  match e with
  | .var i =>
    cases ex with
    | Name x q => obtain ⟨a, b, c, d⟩ := g.vis h; exact .of (d_var a b c d) rfl
    | _ => cases h
  | .peek i =>
    cases ex with
    | Name x q =>
      obtain ⟨a, b, c, d⟩ := g.vis h
      have t := d_peek (W := W) (Γ := Γ) (pos := q) a b c d
      exact ⟨PE.toS t, fun _ => t, fun z => (by cases z), fun z => (by cases z)⟩
    | _ => cases h
  | .scr i =>
    cases ex with
    | Name x q => obtain ⟨a, b, c, d⟩ := g.vis h; exact ⟨d_scr a b c d, fun z => (by cases z), fun z => (by cases z), fun z => (by cases z)⟩
    | _ => cases h
  | .int n =>
    unfold E.chk at h
    split at h <;> try contradiction
    rename_i heq
    cases heq
    cases of_decide_eq_true h; exact .of d_int rfl
  | .str n =>
    unfold E.chk at h
    split at h <;> try contradiction
    rename_i heq
    cases heq
    cases of_decide_eq_true h; exact .of d_str rfl
  | .bl n =>
    unfold E.chk at h
    split at h <;> try contradiction
    rename_i heq
    cases heq
    cases of_decide_eq_true h; exact .of d_bl rfl
  | .non =>
    unfold E.chk at h
    split at h <;> try contradiction
    rename_i heq
    cases heq
    exact .of d_non rfl
  | .glob x d =>
    unfold E.chk at h
    split at h <;> try contradiction
    rename_i heq
    cases heq
    simp only [Bool.and_eq_true] at h
    obtain ⟨h1, h2⟩ := h
    cases of_decide_eq_true h1
    exact .of (glOk g h2 (nd _ (List.mem_singleton.mpr rfl))) rfl
  | .bin o a b =>
    unfold E.chk at h
    split at h <;> try contradiction
    rename_i heq
    cases heq
    simp only [Bool.and_eq_true] at h
    obtain ⟨⟨⟨⟨h1, h2⟩, h3⟩, h4⟩, h5⟩ := h
    cases of_decide_eq_true h1
    exact .of (g_bin g o ((e_ok G0 a g _ nd.l h2).t h4) ((e_ok G0 b g _ nd.r h3).t h5)) rfl
  | .un o a =>
    unfold E.chk at h
    split at h <;> try contradiction
    rename_i heq
    cases heq
    simp only [Bool.and_eq_true] at h
    obtain ⟨⟨h1, h2⟩, h3⟩ := h
    cases of_decide_eq_true h1
    refine .of (g_un o ((e_ok G0 a g _ nd h2).t h3)) ?_
    cases o <;> rfl
  | .cmp o a b =>
    unfold E.chk at h
    split at h <;> try contradiction
    rename_i heq
    cases heq
    simp only [Bool.and_eq_true] at h
    obtain ⟨⟨⟨⟨⟨h1, h2⟩, h3⟩, hp⟩, h4⟩, h5⟩ := h
    cases of_decide_eq_true h1
    obtain ⟨r, ho, hr⟩ := g_cop g o
    exact .mk1 (d_cmp ho hr ((e_ok G0 a g _ nd.l h2).t h4) ((e_ok G0 b g _ nd.r h3).t h5) hp) fun _ => d_tcmp ho hr ((e_ok G0 a g _ nd.l h2).t h4) ((e_ok G0 b g _ nd.r h3).t h5) hp
  | .chain o o2 a b c =>
    unfold E.chk at h
    split at h <;> try contradiction
    rename_i heq
    cases heq
    simp only [Bool.and_eq_true] at h
    obtain ⟨⟨⟨⟨⟨⟨⟨⟨h1, h1'⟩, h2⟩, h3⟩, h4⟩, hp⟩, h5⟩, h6⟩, h7⟩ := h
    cases of_decide_eq_true h1
    cases of_decide_eq_true h1'
    obtain ⟨r, ho, hr⟩ := g_cop g o
    obtain ⟨r2, ho2, hr2⟩ := g_cop g o2
    have ha := (e_ok G0 a g _ nd.l h2).t h5
    have hb := (e_ok G0 b g _ nd.r.l h3).t h6
    have hc := (e_ok G0 c g _ nd.r.r h4).t h7
    exact .mk1 (d_chain ho ho2 hr hr2 ha hb hc hp) fun _ => d_tchain ho ho2 hr hr2 ha hb hc hp
  | .chain3 o o2 o3 a b c d =>
    unfold E.chk at h
    split at h <;> try contradiction
    rename_i heq
    cases heq
    simp only [Bool.and_eq_true] at h
    obtain ⟨⟨⟨⟨⟨⟨⟨⟨⟨⟨⟨h1, h1'⟩, h1''⟩, h2⟩, h3⟩, h4⟩, h4'⟩, hp⟩, h5⟩, h6⟩, h7⟩, h8⟩ := h
    cases of_decide_eq_true h1
    cases of_decide_eq_true h1'
    cases of_decide_eq_true h1''
    obtain ⟨r, ho, hr⟩ := g_cop g o
    obtain ⟨r2, ho2, hr2⟩ := g_cop g o2
    obtain ⟨r3, ho3, hr3⟩ := g_cop g o3
    have ha := (e_ok G0 a g _ nd.l h2).t h5
    have hb := (e_ok G0 b g _ nd.r.l h3).t h6
    have hc := (e_ok G0 c g _ nd.r.r.l h4).t h7
    have hd := (e_ok G0 d g _ nd.r.r.r h4').t h8
    exact .mk1 (d_chain3 ho ho2 ho3 hr hr2 hr3 ha hb hc hd hp) fun _ => d_tchain3 ho ho2 ho3 hr hr2 hr3 ha hb hc hd hp
  | .not a =>
    unfold E.chk at h
    split at h <;> try contradiction
    rename_i heq
    cases heq
    simp only [Bool.and_eq_true] at h
    obtain ⟨h2, h3⟩ := h
    have ha := e_ok G0 a g _ nd h2
    exact .mk1 (d_not (ha.v h3)) fun z => d_tnot (ha.b z)
  | .ands es =>
    unfold E.chk at h
    split at h <;> try contradiction
    rename_i heq
    cases heq
    simp only [Bool.and_eq_true] at h
    obtain ⟨h2, h3⟩ := h
    have ha := es_ok G0 es g _ nd h2
    have h3 := Bool.not_eq_true' _ |>.mp h3
    exact .mk1 (ha.an _ h3) fun z => PW.pt (ha.at_ _ h3 z)
  | .ors es =>
    unfold E.chk at h
    split at h <;> try contradiction
    rename_i heq
    cases heq
    simp only [Bool.and_eq_true] at h
    obtain ⟨h2, h3⟩ := h
    have ha := es_ok G0 es g _ nd h2
    have h3 := Bool.not_eq_true' _ |>.mp h3
    exact .mk1 (ha.on _ h3) fun z => PW.pt (ha.ot _ h3 z)
  | .ite c a b =>
    unfold E.chk at h
    split at h <;> try contradiction
    rename_i heq
    cases heq
    simp only [Bool.and_eq_true] at h
    obtain ⟨⟨⟨⟨⟨h1, h2⟩, h3⟩, h4⟩, h5⟩, h6⟩ := h
    exact .mk1 (d_ife ((e_ok G0 c g _ nd.l h1).b h4) ((e_ok G0 a g _ nd.r.l h2).v h5) ((e_ok G0 b g _ nd.r.r h3).v h6)) fun z => (by cases z)
  | .ix a b =>
    unfold E.chk at h
    split at h <;> try contradiction
    rename_i heq
    cases heq
    simp only [Bool.and_eq_true] at h
    obtain ⟨⟨⟨⟨h2, h3⟩, hp⟩, h4⟩, h5⟩ := h
    exact .of (d_ix (g.ofs.K ▸ ix_seq) ixP ((e_ok G0 a g _ nd.l h2).t h4) ((e_ok G0 b g _ nd.r h3).t h5) hp) rfl
  | .cell i k =>
    unfold E.chk at h
    split at h <;> try contradiction
    rename_i heq
    cases heq
    simp only [Bool.and_eq_true] at h
    obtain ⟨⟨⟨h2, h3⟩, hp⟩, h4⟩ := h
    obtain ⟨a, b, c, d⟩ := g.vis h2
    exact .of (d_cellIx g.ofs.K a b c d ((e_ok G0 k g _ nd h3).v h4) hp) rfl
  | .sl a lo hi =>
    unfold E.chk at h
    split at h <;> try contradiction
    rename_i heq
    cases heq
    simp only [Bool.and_eq_true] at h
    obtain ⟨⟨h2, h3⟩, h4⟩ := h
    exact .of (d_sl g.ofs.K (e_ok G0 a g _ nd.l h2).s (o_ok G0 lo g _ nd.r.l h3) (o_ok G0 hi g _ nd.r.r h4)) rfl
  | .tup es =>
    unfold E.chk at h
    split at h <;> try contradiction
    rename_i heq
    cases heq
    simp only [Bool.and_eq_true] at h
    obtain ⟨h2, h3⟩ := h
    exact .of (d_tup (es_ok G0 es g _ nd h2).a (of_decide_eq_true h3)) rfl
  | .lst es =>
    unfold E.chk at h
    split at h <;> try contradiction
    rename_i heq
    cases heq
    simp only [Bool.and_eq_true] at h
    obtain ⟨h2, h3⟩ := h
    exact .of (d_lst (es_ok G0 es g _ nd h2).a (of_decide_eq_true h3)) rfl
  | .tupS es =>
    unfold E.chk at h
    split at h <;> try contradiction
    rename_i heq
    cases heq
    exact .of (d_tupS (ss_ok G0 es g _ nd h)) rfl
  | .lstS es =>
    unfold E.chk at h
    split at h <;> try contradiction
    rename_i heq
    cases heq
    exact .of (d_lstS (ss_ok G0 es g _ nd h)) rfl
  | .dead => exact ⟨PE.dead, fun _ => PE.dead, fun _ => PE.dead, fun _ => PT.dead⟩
  | .fmt a =>
    unfold E.chk at h
    split at h <;> try contradiction
    rename_i heq
    cases heq
    simp only [Bool.and_eq_true] at h
    obtain ⟨h2, h3⟩ := h
    exact .of (d_fmt ((e_ok G0 a g _ nd h2).v h3)) rfl
  | .fstr es =>
    unfold E.chk at h
    split at h <;> try contradiction
    rename_i heq
    cases heq
    simp only [Bool.and_eq_true] at h
    obtain ⟨h2, h3⟩ := h
    exact .of (fstr_ok (es_ok G0 es g _ nd h2).js (of_decide_eq_true h3)) rfl
  | .call x f as =>
    unfold E.chk at h
    split at h <;> try contradiction
    rename_i heq
    cases heq
    simp only [Bool.and_eq_true] at h
    obtain ⟨⟨⟨h1, h2⟩, h3⟩, h4⟩ := h
    cases of_decide_eq_true h1
    have c : CalleeOk Γ (k + 1) x as.len f := nd _ List.mem_cons_self
    have ha := as_ok G0 as g _ (fun x z => nd x (List.mem_cons_of_mem _ z)) h3
    obtain ⟨h5, h6, h7⟩ := g.gl h2
    exact .of (call_ok c g h5 h6 ha h3 h4) rfl
  | .b1 o a =>
    unfold E.chk at h
    split at h <;> try contradiction
    rename_i heq
    cases heq
    simp only [Bool.and_eq_true] at h
    obtain ⟨⟨⟨⟨h1, h2⟩, h3⟩, h4⟩, h5⟩ := h
    cases of_decide_eq_true h1
    exact .of (g_b1 g G0 o h2 ((e_ok G0 a g _ nd h3).t h5) h4) rfl
  | .b2 o a b =>
    unfold E.chk at h
    split at h <;> try contradiction
    rename_i heq
    cases heq
    simp only [Bool.and_eq_true] at h
    obtain ⟨⟨⟨⟨⟨⟨⟨h1, h2⟩, h3⟩, h3'⟩, h4⟩, h4'⟩, h5⟩, h5'⟩ := h
    cases of_decide_eq_true h1
    exact .of (g_b2 g G0 o h2 ((e_ok G0 a g _ nd.l h3).t h5) ((e_ok G0 b g _ nd.r h3').t h5') h4 h4') rfl
  | .told e =>
    unfold E.chk at h
    split at h <;> try contradiction
    rename_i heq
    cases heq
    simp only [Bool.and_eq_true] at h
    obtain ⟨⟨⟨⟨h1, h2⟩, h3⟩, h4⟩, h5⟩ := h
    cases of_decide_eq_true h1
    obtain ⟨⟨j, rfl, T⟩, tab⟩ := nd .tell List.mem_cons_self
    have low : NeedsOk Γ (j + 2) (TabG Γ X) (e.needs.map .deep) := fun x z => nd x (List.mem_cons_of_mem _ z)
    have L := LamX.lamS_by h3
    rw [← g.scE] at L
    refine .of (d_told (k := j + 1) T G0.blt g.ofs g.gd g.rm tab (g.gl h2).1 L rfl (fun _ _ _ _ _ => rfl) fun A outer s H E f c ga ra => ?_) rfl
    have gl : GoodX Γ j N _ (fun _ => false) (fun cls d _ H' => E cls d H') (lamN X A outer s H E _ f c) := good_lam g L.kind ga ra
    exact (e_ok G0 e gl _ low.low h4).v h5
  | .toldD e =>
    unfold E.chk at h
    split at h <;> try contradiction
    rename_i heq
    cases heq
    simp only [Bool.and_eq_true] at h
    obtain ⟨⟨⟨⟨h1, h2⟩, h3⟩, h4⟩, h5⟩ := h
    cases of_decide_eq_true h1
    obtain ⟨⟨j, rfl, T⟩, tab⟩ := nd .tell List.mem_cons_self
    have low : NeedsOk Γ (j + 2) (TabG Γ X) (e.needs.map .deep) := fun x z => nd x (List.mem_cons_of_mem _ z)
    have L := lamD_by h3
    rw [← g.scE] at L
    refine .of (d_toldD (k := j + 1) T G0.blt g.ofs g.gd g.rm tab (g.gl h2).1 (g.nm ▸ L) fun A outer s H E f c ga ra => ?_) rfl
    have gl : GoodX Γ j N _ (fun _ => false) (fun cls d _ H' => E cls d H') (lamN X A outer s H E _ f c) := good_lam g L.kind ga ra
    exact (e_ok G0 e gl _ low.low h4).v h5
  | .srtSet a =>
    unfold E.chk at h
    split at h <;> try contradiction
    rename_i heq
    cases heq
    simp only [Bool.and_eq_true] at h
    obtain ⟨⟨⟨⟨⟨⟨h1, h2⟩, h3⟩, h4⟩, h5⟩, h6⟩, h7⟩ := h
    cases of_decide_eq_true h1
    cases of_decide_eq_true h2
    exact .of (d_srtSet g.ofs.K g.calm (g.gl h3).1 (by rw [g.ofs.mg]; exact G0.blt _ (by decide)) (g.gl h4).1 (by rw [g.ofs.mg]; exact G0.blt _ (by decide)) ((e_ok G0 a g _ nd h5).t h7) h6) rfl
  | .rg1 t a =>
    unfold E.chk at h
    split at h <;> try contradiction
    rename_i heq
    cases heq
    simp only [Bool.and_eq_true] at h
    obtain ⟨⟨⟨⟨⟨⟨h1, h2⟩, h3⟩, h4⟩, h5⟩, h6⟩, h7⟩ := h
    cases of_decide_eq_true h1
    cases of_decide_eq_true h2
    exact .of (d_rg1 g.calm (g.gl h3).1 (by rw [g.ofs.mg]; exact G0.blt _ (by cases t <;> decide)) (g.gl h4).1 (by rw [g.ofs.mg]; exact G0.blt _ (by decide)) ((e_ok G0 a g _ nd h5).v h7) h6) rfl
  | .rg2 t a b =>
    unfold E.chk at h
    split at h <;> try contradiction
    rename_i heq
    cases heq
    simp only [Bool.and_eq_true] at h
    obtain ⟨⟨⟨⟨⟨⟨⟨⟨⟨h1, h2⟩, h3⟩, h4⟩, h5⟩, h5'⟩, h6⟩, h6'⟩, h7⟩, h7'⟩ := h
    cases of_decide_eq_true h1
    cases of_decide_eq_true h2
    exact .of (d_rg2 g.calm (g.gl h3).1 (by rw [g.ofs.mg]; exact G0.blt _ (by cases t <;> decide)) (g.gl h4).1 (by rw [g.ofs.mg]; exact G0.blt _ (by decide)) ((e_ok G0 a g _ nd.l h5).v h7) h6 ((e_ok G0 b g _ nd.r h5').v h7') h6') rfl
  | .sortLen a =>
    unfold E.chk at h
    split at h <;> try contradiction
    rename_i heq
    cases heq
    simp only [Bool.and_eq_true] at h
    obtain ⟨⟨⟨⟨⟨⟨⟨⟨⟨h1, h2⟩, h3⟩, h4⟩, h5⟩, h6⟩, h7⟩, h8⟩, h9⟩, h10⟩ := h
    cases of_decide_eq_true h1
    cases of_decide_eq_true h2
    cases of_decide_eq_true h3
    cases of_decide_eq_true h4
    cases of_decide_eq_true h5
    obtain ⟨⟨j, rfl⟩, tab⟩ := nd .key List.mem_cons_self
    have low : NeedsOk Γ (j + 2) (TabG Γ X) a.needs := fun x z => nd x (List.mem_cons_of_mem _ z)
    exact .of (d_sortLen (k := j) g.ofs.K g.ofs.mg g.calm g.u64 g.rm tab (g.gl h6).1 (by rw [g.ofs.mg]; exact G0.blt _ (by decide)) (by rw [g.ofs.mg]; exact G0.blt _ (by decide)) (keyScope_by h7) ((e_ok G0 a g _ low h8).t h10) h9) rfl
  | .lc2 own own1 it t c it1 t1 c1 elt =>
    unfold E.chk at h
    split at h <;> try contradiction
    rename_i heq
    cases heq
    simp only [Bool.and_eq_true] at h
    obtain ⟨⟨⟨⟨⟨⟨⟨⟨⟨⟨⟨⟨⟨⟨h1, h2⟩, h3⟩, h4⟩, h5⟩, h6⟩, h7⟩, h8⟩, h9⟩, h10⟩, h11⟩, h12⟩, h13⟩, h14⟩, h15⟩ := h
    have bk := blkOk_by h1
    refine .of (d_lc2 (is := t.ix) (is1 := t1.ix) g.calm (by rw [g.nm]; exact g.nd) (by rw [g.nm, g.scE]; exact bk) h3 h9 (fun i hi => List.contains_iff_mem.mp (List.all_eq_true.mp h4 i hi)) (fun i hi => List.contains_iff_mem.mp (List.all_eq_true.mp h11 i hi)) (fun i hi => List.contains_iff_mem.mp (List.all_eq_true.mp h10 i hi)) (tm_ok t) (itT_ok G0 it g _ _ nd.l h2) fun s H C cl fp => ?_) rfl
    have g2 := good_blk g bk.kind s H C cl fp
    exact ⟨t_ok g2 h5, oc_ok G0 c g2 _ (NeedsOk.any nd.r.l) h6, itF_ok G0 it1 g2 _ _ (NeedsOk.any nd.r.r.l) h7 h8, t_ok g2 h12, oc_ok G0 c1 g2 _ (NeedsOk.any nd.r.r.r.l) h13, (e_ok G0 elt g2 _ (NeedsOk.any nd.r.r.r.r) h14).v h15⟩
  | .lc own it t elt =>
    unfold E.chk at h
    split at h <;> try contradiction
    rename_i heq
    cases heq
    simp only [Bool.and_eq_true] at h
    obtain ⟨⟨⟨⟨⟨⟨h1, h2⟩, h3⟩, h4⟩, h5⟩, h6⟩, h7⟩ := h
    have bk := blkOk_by h1
    refine .of (d_lc (is := t.ix) g.calm (by rw [g.nm]; exact g.nd) (by rw [g.nm, g.scE]; exact bk) h3 (fun i hi => List.contains_iff_mem.mp (List.all_eq_true.mp h4 i hi)) (itT_ok G0 it g _ _ nd.l h2) fun s H C cl fp => ?_) rfl
    have g2 := good_blk g bk.kind s H C cl fp
    exact ⟨t_ok g2 h5, d_yes, (e_ok G0 elt g2 _ (NeedsOk.any (NeedsOk.r nd)) h6).v h7⟩
  | .lcIf own it t c elt =>
    unfold E.chk at h
    split at h <;> try contradiction
    rename_i heq
    cases heq
    simp only [Bool.and_eq_true] at h
    obtain ⟨⟨⟨⟨⟨⟨⟨⟨h1, h2⟩, h3⟩, h4⟩, h5⟩, h8⟩, h9⟩, h6⟩, h7⟩ := h
    have bk := blkOk_by h1
    refine .of (d_lc (is := t.ix) g.calm (by rw [g.nm]; exact g.nd) (by rw [g.nm, g.scE]; exact bk) h3 (fun i hi => List.contains_iff_mem.mp (List.all_eq_true.mp h4 i hi)) (itT_ok G0 it g _ _ nd.l h2) fun s H C cl fp => ?_) rfl
    have g2 := good_blk g bk.kind s H C cl fp
    exact ⟨t_ok g2 h5, d_if1 ((e_ok G0 c g2 _ (NeedsOk.any (NeedsOk.l (NeedsOk.r nd))) h8).b h9), (e_ok G0 elt g2 _ (NeedsOk.any (NeedsOk.r (NeedsOk.r nd))) h6).v h7⟩
  | .dget i k =>
    unfold E.chk at h
    split at h <;> try contradiction
    rename_i heq
    cases heq
    simp only [Bool.and_eq_true] at h
    obtain ⟨⟨⟨h2, h3⟩, hp⟩, h4⟩ := h
    obtain ⟨a, b, c, d⟩ := g.vis h2
    exact .of (d_dget (by have := g.u64; omega) a b c d ((e_ok G0 k g _ nd h3).v h4) hp) rfl
  | .mth m a b =>
    unfold E.chk at h
    split at h <;> try contradiction
    rename_i heq
    cases heq
    simp only [Bool.and_eq_true] at h
    obtain ⟨⟨⟨⟨⟨⟨h1, h2⟩, h3⟩, hp⟩, h4⟩, h5⟩, h6⟩ := h
    cases of_decide_eq_true h1
    have ha := (e_ok G0 a g _ nd.l h2).t h4
    have hb := (e_ok G0 b g _ nd.r h3).v h5
    cases m with
    | index => exact .of (d_meth PySem.F.slot_list_index PySem.F.type_list_index (g.ofs.K ▸ mt_index) indexP ha hb hp h6 rfl) rfl
    | count => exact .of (d_meth PySem.F.slot_list_count PySem.F.type_list_count (g.ofs.K ▸ mt_lcount) countP ha hb hp h6 rfl) rfl
  | .lcD own i t c elt =>
    unfold E.chk at h
    split at h <;> try contradiction
    rename_i heq
    cases heq
    simp only [Bool.and_eq_true] at h
    obtain ⟨⟨⟨⟨⟨⟨⟨h1, h2⟩, h4⟩, h5⟩, h8⟩, h9⟩, h6⟩, h7⟩ := h
    have bk := blkOk_by h1
    obtain ⟨v1, v2, v3, v4⟩ := g.vis h2
    refine .of (d_lcD (is := t.ix) g.calm (by rw [g.nm]; exact g.nd) (by rw [g.nm, g.scE]; exact bk) (fun i hi => List.contains_iff_mem.mp (List.all_eq_true.mp h4 i hi)) v1 v2 v3 v4 fun s H C cl fp => ?_) rfl
    have g2 := good_blk g bk.kind s H C cl fp
    exact ⟨t_ok g2 h5, d_if1 ((e_ok G0 c g2 _ (NeedsOk.any (NeedsOk.l nd)) h8).b h9), (e_ok G0 elt g2 _ (NeedsOk.any (NeedsOk.r nd)) h6).v h7⟩
theorem oc_ok (G0 : GmOk Γ) {k : Nat} {N : List Str} (e : Oe) {sc : Scope} {fnb : Str → Bool} {W : WX} {X : Cx} (g : GoodX Γ k N sc fnb W X) (ex : List Expr) (nd : NeedsOk Γ k (TabG Γ X) e.needs) (h : e.chkC N sc fnb ex = true) : PTs X ex (rdB Γ W e.denC) := by
  match e, ex with
  | .no, [] => exact d_yesW
  | .yes e, [l] =>
    unfold Oe.chkC at h
    rw [Bool.and_eq_true] at h
    exact d_if1W ((e_ok G0 e g l nd h.1).b h.2)
  | .no, _ :: _ => cases h
  | .yes _, [] => cases h
  | .yes _, _ :: _ :: _ => cases h
theorem o_ok (G0 : GmOk Γ) {k : Nat} {N : List Str} (e : Oe) {sc : Scope} {fnb : Str → Bool} {W : WX} {X : Cx} (g : GoodX Γ k N sc fnb W X) (ex : Option Expr) (nd : NeedsOk Γ k (TabG Γ X) e.needs) (h : e.chk N sc fnb ex = true) : PO X ex (rdO Γ W e.den) := by
  match e, ex with
  | .no, none => exact d_ono
  | .yes e, some l =>
    unfold Oe.chk at h
    rw [Bool.and_eq_true] at h
    exact d_oyes ((e_ok G0 e g l nd h.1).v h.2)
  | .no, some _ => cases h
  | .yes _, none => cases h
theorem es_ok (G0 : GmOk Γ) {k : Nat} {N : List Str} (es : Es) {sc : Scope} {fnb : Str → Bool} {W : WX} {X : Cx} (g : GoodX Γ k N sc fnb W X) (l : List Expr) (nd : NeedsOk Γ k (TabG Γ X) es.needs) (h : es.chk N sc fnb l = true) : BOk Γ X W es l := by
  match es, l with
  | .nil, [] => exact ⟨d_anil, rfl, fun _ z => (by cases z), fun _ z => (by cases z), fun _ z => (by cases z), fun _ z => (by cases z), .nil⟩
  | .cons e r, l :: ls =>
    unfold Es.chk at h
    simp only [Bool.and_eq_true] at h
    obtain ⟨⟨⟨h1, h2⟩, h3⟩, h4⟩ := h
    have he := e_ok G0 e g l nd.l h1
    have hr := es_ok G0 r g ls nd.r h4
    have hv := he.v h3
    refine ⟨d_acons hv hr.a h2, by simp only [plains, List.all_cons, Bool.and_eq_true]; exact ⟨h2, hr.pl⟩, fun p _ => ?_, fun p _ => ?_, fun p _ z => ?_, fun p _ z => ?_, .cons hv hr.js⟩
    all_goals cases r with
      | nil =>
        cases ls with
        | nil => first | exact d_one hv | exact d_wand1 (he.b (by simpa [Es.toks] using z)) | exact d_wor1 (he.b (by simpa [Es.toks] using z))
        | cons _ _ => cases h4
      | star _ _ => cases h4
      | cons e2 r2 =>
        cases ls with
        | nil => cases h4
        | cons l2 ls2 => first | exact d_and hv (hr.an p rfl) | exact d_or hv (hr.on p rfl) | (have z := (Bool.and_eq_true _ _).mp z; exact d_wand (he.b z.1) (hr.at_ p rfl z.2)) | (have z := (Bool.and_eq_true _ _).mp z; exact d_wor (he.b z.1) (hr.ot p rfl z.2))
  | .nil, _ :: _ => cases h
  | .cons _ _, [] => cases h
  | .star _ _, _ => cases h
theorem ss_ok (G0 : GmOk Γ) {k : Nat} {N : List Str} (es : Es) {sc : Scope} {fnb : Str → Bool} {W : WX} {X : Cx} (g : GoodX Γ k N sc fnb W X) (l : List Expr) (nd : NeedsOk Γ k (TabG Γ X) es.needs) (h : es.chkS N sc fnb l = true) : PA X l (rdA Γ W es.den) := by
  match es with
  | .nil =>
    cases l with
    | nil => exact d_aN d_anil
    | cons _ _ => cases h
  | .cons e r =>
    unfold Es.chkS at h
    split at h <;> try contradiction
    rename_i heq
    cases heq
    simp only [Bool.and_eq_true] at h
    obtain ⟨⟨⟨h1, h2⟩, h3⟩, h4⟩ := h
    exact d_scons ((e_ok G0 e g _ nd.l h1).v h3) (ss_ok G0 r g _ nd.r h4) h2
  | .star e r =>
    unfold Es.chkS at h
    split at h <;> try contradiction
    rename_i heq
    cases heq
    simp only [Bool.and_eq_true] at h
    obtain ⟨⟨h1, h3⟩, h4⟩ := h
    exact d_astar ((e_ok G0 e g _ nd.l h1).t h3) (ss_ok G0 r g _ nd.r h4) g.ofs.K
theorem as_ok (G0 : GmOk Γ) {k : Nat} {N : List Str} (es : As) {sc : Scope} {fnb : Str → Bool} {W : WX} {X : Cx} (g : GoodX Γ k N sc fnb W X) (l : List Expr) (nd : NeedsOk Γ k (TabG Γ X) es.needs) (h : es.chk N sc fnb l = true) : PA X l (rdG Γ W es.len es.den) := by
  match es with
  | .nil =>
    cases l with
    | nil => exact d_gnil
    | cons _ _ => cases h
  | .cons e r =>
    unfold As.chk at h
    split at h <;> try contradiction
    rename_i heq
    cases heq
    simp only [Bool.and_eq_true] at h
    obtain ⟨⟨⟨h1, h2⟩, h3⟩, h4⟩ := h
    exact d_gcons ((e_ok G0 e g _ nd.l h1).v h3) (as_ok G0 r g _ nd.r h4) h2
  | .cell i r =>
    unfold As.chk at h
    split at h <;> try contradiction
    rename_i heq
    cases heq
    simp only [Bool.and_eq_true] at h
    obtain ⟨a, b, c, d⟩ := g.vis h.1
    exact d_gcell a b c d (as_ok G0 r g _ nd h.2)
  | .scr i r =>
    unfold As.chk at h
    split at h <;> try contradiction
    rename_i heq
    cases heq
    simp only [Bool.and_eq_true] at h
    obtain ⟨a, b, c, d⟩ := g.vis h.1
    exact d_gscr a b c d (as_ok G0 r g _ nd h.2)
theorem itT_ok (G0 : GmOk Γ) {k : Nat} {N : List Str} (it : It) {sc : Scope} {fnb : Str → Bool} {W : WX} {X : Cx} (g : GoodX Γ k N sc fnb W X) (tg l : Expr) (nd : NeedsOk Γ k (TabG Γ X) it.needs) (h : it.chkT N sc fnb tg l = true) : PI X tg l (rdI pT Γ W it.den) := by
  have hm : ∀ x ∈ blts, X.mg x = none := fun x hx => by rw [g.ofs.mg]; exact G0.blt x hx
  match it with
  | .seq e => exact d_iseqT g.ofs.K (e_ok G0 e g l nd h).s
  | .r1 a =>
    unfold It.chkT at h
    split at h <;> try contradiction
    rename_i heq
    cases heq
    simp only [Bool.and_eq_true] at h
    obtain ⟨⟨⟨⟨h1, h2⟩, h3⟩, h4⟩, h5⟩ := h
    cases of_decide_eq_true h1
    exact d_ir1 (g.gl h2).1 (hm _ (by decide)) ((e_ok G0 a g _ nd h3).v h5) h4
  | .r2 a b =>
    unfold It.chkT at h
    split at h <;> try contradiction
    rename_i heq
    cases heq
    simp only [Bool.and_eq_true] at h
    obtain ⟨⟨⟨⟨⟨⟨⟨h1, h2⟩, h3⟩, h3'⟩, h4⟩, h4'⟩, h5⟩, h5'⟩ := h
    cases of_decide_eq_true h1
    exact d_ir2 (g.gl h2).1 (hm _ (by decide)) ((e_ok G0 a g _ nd.l h3).v h5) ((e_ok G0 b g _ nd.r h3').v h5') h4 h4'
  | .zip a b =>
    unfold It.chkT at h
    split at h <;> try contradiction
    rename_i heq
    cases heq
    simp only [Bool.and_eq_true] at h
    obtain ⟨⟨⟨⟨⟨⟨⟨h1, h2⟩, h3⟩, h3'⟩, h4⟩, h4'⟩, h5⟩, h5'⟩ := h
    cases of_decide_eq_true h1
    exact d_izip pT_ok g.ofs.K (g.gl h2).1 (hm _ (by decide)) ((e_ok G0 a g _ nd.l h3).v h5) ((e_ok G0 b g _ nd.r h3').v h5') h4 h4'
  | .en a =>
    unfold It.chkT at h
    split at h <;> try contradiction
    rename_i heq
    cases heq
    simp only [Bool.and_eq_true] at h
    obtain ⟨⟨⟨⟨h1, h2⟩, h3⟩, h4⟩, h5⟩ := h
    cases of_decide_eq_true h1
    exact d_ien pT_ok g.ofs.K (g.gl h2).1 (hm _ (by decide)) ((e_ok G0 a g _ nd h3).v h5) h4
theorem itF_ok (G0 : GmOk Γ) {k : Nat} {N : List Str} (it : It) {sc : Scope} {fnb : Str → Bool} {W : WX} {X : Cx} (g : GoodX Γ k N sc fnb W X) (tg l : Expr) (nd : NeedsOk Γ k (TabG Γ X) it.needs) (h : it.chkT N sc fnb tg l = true) (hv : it.valB = true) : PI X tg l (rdI pF Γ W it.den) := by
  have hm : ∀ x ∈ blts, X.mg x = none := fun x hx => by rw [g.ofs.mg]; exact G0.blt x hx
  match it with
  | .seq e => exact d_iseq g.ofs.K ((e_ok G0 e g l nd h).v hv)
  | .r1 a =>
    unfold It.chkT at h
    split at h <;> try contradiction
    rename_i heq
    cases heq
    simp only [Bool.and_eq_true] at h
    obtain ⟨⟨⟨⟨h1, h2⟩, h3⟩, h4⟩, h5⟩ := h
    cases of_decide_eq_true h1
    exact d_ir1 (g.gl h2).1 (hm _ (by decide)) ((e_ok G0 a g _ nd h3).v h5) h4
  | .r2 a b =>
    unfold It.chkT at h
    split at h <;> try contradiction
    rename_i heq
    cases heq
    simp only [Bool.and_eq_true] at h
    obtain ⟨⟨⟨⟨⟨⟨⟨h1, h2⟩, h3⟩, h3'⟩, h4⟩, h4'⟩, h5⟩, h5'⟩ := h
    cases of_decide_eq_true h1
    exact d_ir2 (g.gl h2).1 (hm _ (by decide)) ((e_ok G0 a g _ nd.l h3).v h5) ((e_ok G0 b g _ nd.r h3').v h5') h4 h4'
  | .zip a b =>
    unfold It.chkT at h
    split at h <;> try contradiction
    rename_i heq
    cases heq
    simp only [Bool.and_eq_true] at h
    obtain ⟨⟨⟨⟨⟨⟨⟨h1, h2⟩, h3⟩, h3'⟩, h4⟩, h4'⟩, h5⟩, h5'⟩ := h
    cases of_decide_eq_true h1
    exact d_izip pF_ok g.ofs.K (g.gl h2).1 (hm _ (by decide)) ((e_ok G0 a g _ nd.l h3).v h5) ((e_ok G0 b g _ nd.r h3').v h5') h4 h4'
  | .en a =>
    unfold It.chkT at h
    split at h <;> try contradiction
    rename_i heq
    cases heq
    simp only [Bool.and_eq_true] at h
    obtain ⟨⟨⟨⟨h1, h2⟩, h3⟩, h4⟩, h5⟩ := h
    cases of_decide_eq_true h1
    exact d_ien pF_ok g.ofs.K (g.gl h2).1 (hm _ (by decide)) ((e_ok G0 a g _ nd h3).v h5) h4
end
theorem itF_okF (G0 : GmOk Γ) {k : Nat} {N : List Str} (it : It) {sc : Scope} {fnb : Str → Bool} {W : WX} {X : Cx} (g : GoodX Γ k N sc fnb W X) (tg l : Expr) (nd : NeedsOk Γ k (TabG Γ X) it.needs) (h : it.chkF N sc fnb tg l = true) : PI X tg l (rdI pF Γ W it.den) := by
  unfold It.chkF at h
  rw [Bool.and_eq_true] at h
  exact itF_ok G0 it g tg l nd h.1 h.2
end Pv
namespace Pv
open PySem PySem.Spec PyProof.Rows L2
variable {Γ : Gm}
/-! statements as terms -/
/-- a new slot's content: held for good, or one's own -/
inductive Sl where
  | val (e : E) | lst (es : Es) | rep (a b : E) | dct
def Sl.den : Sl → MSl
  | .val e => slV e.den
  | .lst es => slN (vLst es.den)
  | .rep a b => slN (v2 mulD a.den b.den)
  | .dct => slN (vC (.dict []))
def Sl.chk (N : List Str) (sc : Scope) (fnb : Str → Bool) : Sl → Expr → Bool
  | .val e, l => e.chk N sc fnb l && e.val
  | .lst es, .List l _ => es.chk N sc fnb l && decide (l.length ≤ 1000)
  | .rep a b, .BinOp l .Mult r _ => a.chk N sc fnb l && b.chk N sc fnb r && a.val && b.val
  | .dct, .Dict [] [] _ => true
  | _, _ => false
def Sl.needs : Sl → List Need
  | .val e => e.needs
  | .lst es => es.needs
  | .rep a b => a.needs ++ b.needs
  | .dct => []
theorem sl_ok (G0 : GmOk Γ) {k : Nat} {N : List Str} (s : Sl) {sc : Scope} {fnb : Str → Bool} {W : WX} {X : Cx} (g : GoodX Γ k N sc fnb W X) (ex : Expr) (nd : NeedsOk Γ k (TabG Γ X) s.needs) (h : s.chk N sc fnb ex = true) : PE X ex (rdSl Γ W s.den) := by
  cases s with
  | val e =>
    have h := (Bool.and_eq_true _ _).mp h
    exact d_slV ((e_ok G0 e g ex nd h.1).v h.2)
  | lst es =>
    unfold Sl.chk at h
    split at h <;> try contradiction
    rename_i heq
    cases heq
    simp only [Bool.and_eq_true] at h
    exact d_slN (d_lstF (es_ok G0 es g _ nd h.1).a (of_decide_eq_true h.2))
  | rep a b =>
    unfold Sl.chk at h
    split at h <;> try contradiction
    rename_i heq
    cases heq
    simp only [Bool.and_eq_true] at h
    obtain ⟨⟨⟨h1, h2⟩, h3⟩, h4⟩ := h
    exact d_slN (d_repF ((e_ok G0 a g _ nd.l h1).v h3) ((e_ok G0 b g _ nd.r h2).v h4))
  | dct =>
    unfold Sl.chk at h
    split at h <;> first | contradiction | (rename_i heq; cases heq; done) | skip
    rename_i heq
    exact d_slN d_dictF
theorem sw_cell {elt : Expr} {gs : List Comprehension} {scope : Scope} {pos py : Pos} {y : Str} {l : Nat} {env : PySem.Env} (hy : env.scope.names.lookup y = some .cell) : swapsWith (.ListComp elt gs scope pos) (some (.Name y py)) l env = pure false := by
  have ky : env.kindOf y = some .cell := hy
  have kn : (some NameKind.cell == some NameKind.local) = false := rfl
  unfold swapsWith
  simp only [ky, kn, Bool.and_false, Bool.false_and]
theorem d_setF {X : Cx} {W : WX} {pos : Pos} {i : Nat} {x : Str} {e : Expr} {me : ME} {q : Pos} (hN : X.N.Nodup) (hi : X.N[i]? = some x) (hx : L2.Loc X.env.scope x) (hf : X.fn x = true ∨ X.env.scope.names.lookup x = some .local) (hsw : swapsWith e (some (.Name x q)) pos.line X.env = pure false) (h : PE X e (rdE Γ W me)) :
    PS X (.Assign [.Name x q] e pos) (rdS Γ W (sSet i me)) := PS.imp (ps_set hN hi hx h hsw hf) fun _ _ _ q => post_set q
mutual
inductive St where
  | dead | pass | brk | ct | ret (e : E) | expr (e : E)
  | set (i : Nat) (e : E) | setC (i : Nat) (e : E) | setF (i : Nat) (e : E) | new (i : Nat) (s : Sl) | par (i j : Nat) (a b : Sl) | parC (i j : Nat) (a b : Sl) | asg (is : List Nat) (e : E)
  | app (i : Nat) (e : E) | ext (i : Nat) (e : E) | pop (t : T) (i : Nat) | ixset (i : Nat) (k e : E) | dput (i : Nat) (k e : E) | cell (i : Nat) (k e : E)
  | ite (c : E) (a b : Sts) | whl (f : Env → Nat) (c : E) (b : Sts) | for_ (it : It) (t : T) (b : Sts)
  | keep (i : Nat) (s : St) | raise (k : Exn) (x : Str)
inductive Sts where
  | nil | cons (s : St) (r : Sts)
end
mutual
def St.den : St → MS
  | .dead => fun _ => bad
  | .pass => sNil
  | .brk => sBrk
  | .ct => sCt
  | .ret e => sRet e.den
  | .expr e => sDrop e.den
  | .set i e => sSet i e.den
  | .setC i e => sSet i e.den
  | .setF i e => sSet i e.den
  | .new i s => sNew i s.den
  | .par i j a b => sParN i j a.den b.den
  | .parC i j a b => sParN i j a.den b.den
  | .asg is e => sAsg (T.tup is).den e.den
  | .app i e => sApp i e.den
  | .ext i e => sExt i e.den
  | .pop t i => sPop t.den i
  | .ixset i k e => sIxSet i k.den e.den
  | .dput i k e => sDput i k.den e.den
  | .cell i k e => sCell i k.den e.den
  | .ite c a b => sIf c.den a.den b.den
  | .whl f c b => sWhile f c.den b.den
  | .for_ it t b => sFor it.den t.den b.den
  | .keep i s => sKeep i s.den
  | .raise k _ => sRaise k
def Sts.den : Sts → MS
  | .nil => sNil
  | .cons s r => sSeq s.den r.den
end
mutual
def St.needs : St → List Need
  | .dead => []
  | .pass => []
  | .brk => []
  | .ct => []
  | .ret e => e.needs
  | .expr e => e.needs
  | .set _ e => e.needs
  | .setC _ e => e.needs
  | .setF _ e => e.needs
  | .new _ s => s.needs
  | .par _ _ a b => a.needs ++ b.needs
  | .parC _ _ a b => a.needs ++ b.needs
  | .asg _ e => e.needs
  | .app _ e => e.needs
  | .ext _ e => e.needs
  | .pop _ _ => []
  | .ixset _ k e => k.needs ++ e.needs
  | .dput _ k e => k.needs ++ e.needs
  | .cell _ k e => k.needs ++ e.needs
  | .ite c a b => c.needs ++ (a.needs ++ b.needs)
  | .whl _ c b => c.needs ++ b.needs
  | .for_ it _ b => it.needs ++ b.needs
  | .keep _ s => s.needs
  | .raise k x => [.exn x k]
def Sts.needs : Sts → List Need
  | .nil => []
  | .cons s r => s.needs ++ r.needs
end
/-- x, y = a, b by exchange -/
def parB (px py : Pos) (x y : Str) (l : List Expr) : Bool := (px.line == px.line) && (py.line == px.line) && !(x == y) && !(l.all (foldedForSure 8)) && !(l.all (constantsAlone 8))
/-- a tuple of constants: no exchange -/
def noPar : Expr → Bool
  | .Tuple l _ _ => l.all (foldedForSure 8)
  | .List .. => true
  | e => notTup e
mutual
def St.chk (N : List Str) (sc : Scope) (fnb : Str → Bool) : St → Stmt → Bool
  | .dead, _ => true
  | .pass, .Pass _ => true
  | .brk, .Break _ => true
  | .ct, .Continue _ => true
  | .ret e, .Return (some l) _ => e.chk N sc fnb l && e.val
  | .expr e, .Expr l _ => e.chk N sc fnb l && e.val && notComp l
  | .set i e, .Assign [t] l _ => tgB N sc fnb i t && e.chk N sc fnb l && e.val && notComp l
  | .setC i (.lc own it t elt), .Assign [.Name x px] (.ListComp el [⟨tg, iter, [], 0⟩] scope p) _ => locOnly N sc i x && swapB sc x px (.ListComp el [⟨tg, iter, [], 0⟩] scope p) && (E.lc own it t elt).chk N sc fnb (.ListComp el [⟨tg, iter, [], 0⟩] scope p)
  | .setC i (.lcIf own it t c elt), .Assign [.Name x px] (.ListComp el [⟨tg, iter, [i1], 0⟩] scope p) _ => locOnly N sc i x && swapB sc x px (.ListComp el [⟨tg, iter, [i1], 0⟩] scope p) && (E.lcIf own it t c elt).chk N sc fnb (.ListComp el [⟨tg, iter, [i1], 0⟩] scope p)
  | .setC i (.lc2 own own1 it t c it1 t1 c1 elt), .Assign [.Name x px] (.ListComp el [⟨tg, iter, ifs, 0⟩, ⟨tg1, iter1, ifs1, 0⟩] scope p) _ => locOnly N sc i x && swapB sc x px (.ListComp el [⟨tg, iter, ifs, 0⟩, ⟨tg1, iter1, ifs1, 0⟩] scope p) && (E.lc2 own own1 it t c it1 t1 c1 elt).chk N sc fnb (.ListComp el [⟨tg, iter, ifs, 0⟩, ⟨tg1, iter1, ifs1, 0⟩] scope p)
  | .setF i e, .Assign [.Name x px] (.ListComp el gs scope p) _ => tgB N sc fnb i (.Name x px) && decide (sc.names.lookup x = some .cell) && e.chk N sc fnb (.ListComp el gs scope p) && e.val
  | .new i s, .Assign [t] l _ => tgB N sc fnb i t && s.chk N sc fnb l && notComp l
  | .par i j a b, .Assign [.Tuple [.Name x px, .Name y py] _ _] (.Tuple [l, r] _ _) _ => locOnly N sc i x && locOnly N sc j y && !(i == j) && a.chk N sc fnb l && b.chk N sc fnb r && plainE l && plainE r && parB px py x y [l, r]
  | .parC i j a b, .Assign [.Tuple [.Name x px, .Name y py] _ _] (.Tuple [l, r] _ _) _ => tgB N sc fnb i (.Name x px) && tgB N sc fnb j (.Name y py) && !(i == j) && a.chk N sc fnb l && b.chk N sc fnb r && plainE l && plainE r && (decide (sc.names.lookup x = some .cell) || decide (sc.names.lookup y = some .cell))
  | .asg is e, .Assign [.Tuple ts k q] l _ => (T.tup is).chk N sc fnb (.Tuple ts k q) && e.chk N sc fnb l && e.val && notComp l && notTup l
  | .app i e, .Expr (.Call (.Attribute (.Name x _) m ap) [l] [] cp) _ => decide (m = ("append" : Str)) && nameB N sc i x && e.chk N sc fnb l && e.val && plainE l && (ap.endLine == cp.line)
  | .ext i e, .Expr (.Call (.Attribute (.Name x _) m ap) [l] [] cp) _ => decide (m = ("extend" : Str)) && nameB N sc i x && e.chk N sc fnb l && e.val' && plainE l && (ap.endLine == cp.line)
  | .pop (.nm j) i, .Assign [.Name y q] (.Call (.Attribute (.Name x _) m ap) [] [] cp) _ => decide (m = ("pop" : Str)) && nameB N sc i x && tgB N sc fnb j (.Name y q) && (ap.endLine == cp.line)
  | .pop (.tup is) i, .Assign [.Tuple ts k q] (.Call (.Attribute (.Name x _) m ap) [] [] cp) _ => decide (m = ("pop" : Str)) && nameB N sc i x && (T.tup is).chk N sc fnb (.Tuple ts k q) && (ap.endLine == cp.line)
  | .ixset i k e, .Assign [.Subscript (.Name x _) kl _] l _ => nameB N sc i x && k.chk N sc fnb kl && k.val && plainE kl && e.chk N sc fnb l && e.val && notComp l && notTup l
  | .dput i k e, .Assign [.Subscript (.Name x _) kl _] l _ => nameB N sc i x && k.chk N sc fnb kl && k.val && e.chk N sc fnb l && e.val && notComp l
  | .cell i k e, .Assign [.Subscript (.Name x _) kl _] l _ => nameB N sc i x && k.chk N sc fnb kl && k.val && plainE kl && e.chk N sc fnb l && e.val && notComp l && notTup l
  | .ite c a b, .If l m r _ => c.chk N sc fnb l && c.tok && a.chk N sc fnb m && b.chk N sc fnb r
  | .whl _ c b, .While l m [] _ => c.chk N sc fnb l && c.tok && b.chk N sc fnb m
  | .for_ it t b, .For tg iter m [] _ => it.chkF N sc fnb tg iter && plainE iter && t.chk N sc fnb tg && b.chk N sc fnb m
  | .keep _ s, l => s.chk N sc fnb l
  | .raise _ x, .Raise (some (.Call (.Name y _) [.Constant (.str _) _ _] [] _)) none _ => decide (x = y) && glB sc y
  | _, _ => false
def Sts.chk (N : List Str) (sc : Scope) (fnb : Str → Bool) : Sts → List Stmt → Bool
  | .nil, [] => true
  | .cons s r, l :: ls => s.chk N sc fnb l && r.chk N sc fnb ls
  | _, _ => false
end
end Pv
namespace Pv
open PySem PySem.Spec PyProof.Rows L2
variable {Γ : Gm}
/-! the look is enough: statements -/
section
variable {k : Nat} {N : List Str} {sc : Scope} {fnb : Str → Bool} {W : WX} {X : Cx}
theorem locOnly_ok (g : GoodX Γ k N sc fnb W X) {i : Nat} {x : Str} (h : locOnly N sc i x = true) : X.N[i]? = some x ∧ X.env.scope.names.lookup x = some .local := by
  unfold locOnly at h
  rw [Bool.and_eq_true] at h
  rw [g.nm, g.scE]
  exact ⟨of_decide_eq_true h.1, of_decide_eq_true h.2⟩
theorem tgN_ok (g : GoodX Γ k N sc fnb W X) {i : Nat} {e : Expr} (h : tgB N sc fnb i e = true) : ∃ x q, e = .Name x q ∧ X.N[i]? = some x ∧ L2.Loc X.env.scope x ∧ (X.fn x = true ∨ X.env.scope.names.lookup x = some .local) := by
  cases e with
  | Name x q =>
    unfold tgB at h
    rw [Bool.and_eq_true] at h
    obtain ⟨h2, h3⟩ := locB_ok h.2
    exact ⟨x, q, rfl, by rw [g.nm]; exact of_decide_eq_true h.1, by rw [g.scE]; exact h2, by rw [g.fn, g.scE]; exact h3⟩
  | _ => cases h
theorem swapB_ok (g : GoodX Γ k N sc fnb W X) {x : Str} {px p : Pos} {el : Expr} {gs : List Comprehension} {scope : Scope} {l : Nat} (h : swapB sc x px (.ListComp el gs scope p) = true) : swapsWith (.ListComp el gs scope p) (some (.Name x px)) l X.env = pure true := by
  unfold swapB at h
  cases e : sc.names.lookup x with
  | none => rw [e] at h; cases h
  | some z =>
    rw [e] at h
    cases z with
    | «local» =>
      have h := (Bool.and_eq_true _ _).mp h
      exact sw_true (by rw [g.scE]; exact g.kd) (by rw [g.scE]; exact e) h.1 (by simpa using h.2)
    | _ => cases h
theorem parB_ok (g : GoodX Γ k N sc fnb W X) {x y : Str} {i j : Nat} {px py pt pt2 : Pos} {kt k2 : Nat} {a b : Expr} (hx : X.env.scope.names.lookup x = some .local) (hy : X.env.scope.names.lookup y = some .local) (pa : plainE a = true) (pb : plainE b = true) (h : parB px py x y [a, b] = true) :
    swappedStores [.Tuple [.Name x px, .Name y py] kt pt] (.Tuple [a, b] k2 pt2) X.env = pure (some [x, y]) := by
  unfold parB at h
  simp only [Bool.and_eq_true, Bool.not_eq_true'] at h
  obtain ⟨⟨⟨⟨_, h1⟩, h2⟩, h3⟩, h4⟩ := h
  have kx : X.env.kindOf x = some .local := hx
  have ky : X.env.kindOf y = some .local := hy
  have hb : X.env.blockKind = .function := by unfold Env.blockKind; rw [g.scE, g.kd]; rfl
  have n1 : (y == x) = false := by
    cases e : y == x with
    | false => rfl
    | true => rw [eq_of_beq e] at h2; simp at h2
  have st : ([a, b].any fun | .Starred .. => true | _ => false) = false := by
    have : ∀ e : Expr, plainE e = true → (match e with | .Starred .. => true | _ => false) = false := fun e he => by cases e <;> first | rfl | exact absurd he (by simp [plainE])
    simp only [List.any_cons, List.any_nil, this a pa, this b pb, Bool.or_false]
  unfold swappedStores
  have e1 : Expr.pos (.Name x px) = px := rfl
  have e2 : Expr.pos (.Name y py) = py := rfl
  have er : [x, y].eraseDups = [x, y] := by simp [List.eraseDups_cons, n1]
  have k1 : (some NameKind.local == some NameKind.local) = true := rfl
  have k2 : (px.line == px.line) = true := beq_self_eq_true _
  simp only [hb, h3, h4, st, List.filterMap_cons, List.filterMap_nil, kx, ky, List.head?_cons, Option.map_some, Option.getD_some, e1, e2, h1, k1, k2, Bool.and_self, if_true, er]
  refine (if_neg (by simp)).trans ((if_neg fun z => Bool.noConfusion (st.symm.trans z)).trans ((if_neg (by simp)).trans ?_))
  rfl
end
mutual
theorem st_ok (G0 : GmOk Γ) {k : Nat} {N : List Str} (st : St) {sc : Scope} {fnb : Str → Bool} {W : WX} {X : Cx} (g : GoodX Γ k N sc fnb W X) (l : Stmt) (nd : NeedsOk Γ k (TabG Γ X) st.needs) (h : st.chk N sc fnb l = true) : PS X l (rdS Γ W st.den) := by
  have hNd : X.N.Nodup := by rw [g.nm]; exact g.nd
  match st with
  | .dead => exact ⟨fun pins s σ H Q I ⟨C, B0, H0, ρ, S, B, r, q⟩ => q.elim⟩
  | .keep i s =>
    unfold St.chk at h
    exact d_keep (st_ok G0 s g l nd h)
  | .pass =>
    cases l with
    | Pass _ => exact d_pass
    | _ => cases h
  | .brk =>
    cases l with
    | Break _ => exact d_brk
    | _ => cases h
  | .ct =>
    cases l with
    | Continue _ => exact d_ct
    | _ => cases h
  | .ret e =>
    unfold St.chk at h
    split at h <;> first | contradiction | (rename_i heq; cases heq; done) | skip
    rename_i heq
    cases heq
    simp only [Bool.and_eq_true] at h
    exact d_ret ((e_ok G0 e g _ nd h.1).v h.2)
  | .expr e =>
    unfold St.chk at h
    split at h <;> first | contradiction | (rename_i heq; cases heq; done) | skip
    rename_i heq
    cases heq
    simp only [Bool.and_eq_true] at h
    exact d_expr ((e_ok G0 e g _ nd h.1.1).v h.1.2) h.2
  | .set i e =>
    unfold St.chk at h
    split at h <;> first | contradiction | (rename_i heq; cases heq; done) | skip
    rename_i heq
    cases heq
    simp only [Bool.and_eq_true] at h
    obtain ⟨⟨⟨h1, h2⟩, h3⟩, h4⟩ := h
    obtain ⟨x, q, rfl, b1, b2, b3⟩ := tgN_ok g h1
    exact d_set hNd b1 b2 b3 h4 ((e_ok G0 e g _ nd h2).v h3)
  | .setC i (.lc own it t elt) =>
    unfold St.chk at h
    split at h <;> first | contradiction | (rename_i heq; cases heq; done) | skip
    rename_i heq
    cases heq
    simp only [Bool.and_eq_true] at h
    obtain ⟨⟨h1, h2⟩, h3⟩ := h
    obtain ⟨b1, b2⟩ := locOnly_ok g h1
    unfold E.chk at h3
    simp only [Bool.and_eq_true] at h3
    obtain ⟨⟨⟨⟨⟨⟨c1, c2⟩, c3⟩, c4⟩, c5⟩, c6⟩, c7⟩ := h3
    have bk := blkOk_by c1
    refine d_setLc (is := t.ix) g.calm hNd b1 b2 (swapB_ok g h2) (by rw [g.nm, g.scE]; exact bk) c3 (fun i hi => List.contains_iff_mem.mp (List.all_eq_true.mp c4 i hi)) (itT_ok G0 it g _ _ (NeedsOk.l nd) c2) fun s H C cl fp => ?_
    have g2 := good_blk g bk.kind s H C cl fp
    exact ⟨t_ok g2 c5, d_yes, (e_ok G0 elt g2 _ (NeedsOk.any (NeedsOk.r nd)) c6).v c7⟩
  | .setC i (.lcIf own it t c elt) =>
    unfold St.chk at h
    split at h <;> first | contradiction | (rename_i heq; cases heq; done) | skip
    rename_i heq
    cases heq
    simp only [Bool.and_eq_true] at h
    obtain ⟨⟨h1, h2⟩, h3⟩ := h
    obtain ⟨b1, b2⟩ := locOnly_ok g h1
    unfold E.chk at h3
    simp only [Bool.and_eq_true] at h3
    obtain ⟨⟨⟨⟨⟨⟨⟨⟨c1, c2⟩, c3⟩, c4⟩, c5⟩, c8⟩, c9⟩, c6⟩, c7⟩ := h3
    have bk := blkOk_by c1
    refine d_setLc (is := t.ix) g.calm hNd b1 b2 (swapB_ok g h2) (by rw [g.nm, g.scE]; exact bk) c3 (fun i hi => List.contains_iff_mem.mp (List.all_eq_true.mp c4 i hi)) (itT_ok G0 it g _ _ (NeedsOk.l nd) c2) fun s H C cl fp => ?_
    have g2 := good_blk g bk.kind s H C cl fp
    exact ⟨t_ok g2 c5, d_if1 ((e_ok G0 c g2 _ (NeedsOk.any (NeedsOk.l (NeedsOk.r nd))) c8).b c9), (e_ok G0 elt g2 _ (NeedsOk.any (NeedsOk.r (NeedsOk.r nd))) c6).v c7⟩
  | .setC i (.lc2 own own1 it t c it1 t1 c1 elt) =>
    unfold St.chk at h
    split at h <;> first | contradiction | (rename_i heq; cases heq; done) | skip
    rename_i heq
    cases heq
    simp only [Bool.and_eq_true] at h
    obtain ⟨⟨h1, h2⟩, h3⟩ := h
    obtain ⟨b1, b2⟩ := locOnly_ok g h1
    unfold E.chk at h3
    simp only [Bool.and_eq_true] at h3
    obtain ⟨⟨⟨⟨⟨⟨⟨⟨⟨⟨⟨⟨⟨⟨c1', c2⟩, c3⟩, c4⟩, c5⟩, c6⟩, c7⟩, c8⟩, c9⟩, c10⟩, c11⟩, c12⟩, c13⟩, c14⟩, c15⟩ := h3
    have bk := blkOk_by c1'
    refine d_setLc2 (is := t.ix) (is1 := t1.ix) g.calm hNd b1 b2 (swapB_ok g h2) (by rw [g.nm, g.scE]; exact bk) c3 c9 (fun i hi => List.contains_iff_mem.mp (List.all_eq_true.mp c4 i hi)) (fun i hi => List.contains_iff_mem.mp (List.all_eq_true.mp c11 i hi)) (fun i hi => List.contains_iff_mem.mp (List.all_eq_true.mp c10 i hi)) (tm_ok t) (itT_ok G0 it g _ _ (NeedsOk.l nd) c2) fun s H C cl fp => ?_
    have g2 := good_blk g bk.kind s H C cl fp
    exact ⟨t_ok g2 c5, oc_ok G0 c g2 _ (NeedsOk.any (NeedsOk.l (NeedsOk.r nd))) c6, itF_ok G0 it1 g2 _ _ (NeedsOk.any (NeedsOk.l (NeedsOk.r (NeedsOk.r nd)))) c7 c8, t_ok g2 c12, oc_ok G0 c1 g2 _ (NeedsOk.any (NeedsOk.l (NeedsOk.r (NeedsOk.r (NeedsOk.r nd))))) c13, (e_ok G0 elt g2 _ (NeedsOk.any (NeedsOk.r (NeedsOk.r (NeedsOk.r (NeedsOk.r nd))))) c14).v c15⟩
  | .setF i e =>
    unfold St.chk at h
    split at h <;> first | contradiction | (rename_i heq; cases heq; done) | skip
    rename_i heq
    cases heq
    simp only [Bool.and_eq_true] at h
    obtain ⟨⟨⟨h1, h2⟩, h3⟩, h4⟩ := h
    obtain ⟨x, q, e0, b1, b2, b3⟩ := tgN_ok g h1
    cases e0
    exact d_setF hNd b1 b2 b3 (sw_cell (by rw [g.scE]; exact of_decide_eq_true h2)) ((e_ok G0 e g _ nd h3).v h4)
  | .new i s =>
    unfold St.chk at h
    split at h <;> first | contradiction | (rename_i heq; cases heq; done) | skip
    rename_i heq
    cases heq
    simp only [Bool.and_eq_true] at h
    obtain ⟨⟨h1, h2⟩, h4⟩ := h
    obtain ⟨x, q, rfl, b1, b2, b3⟩ := tgN_ok g h1
    exact d_new hNd b1 b2 b3 h4 (sl_ok G0 s g _ nd h2)
  | .par i j a b =>
    unfold St.chk at h
    split at h <;> first | contradiction | (rename_i heq; cases heq; done) | skip
    rename_i heq
    cases heq
    simp only [Bool.and_eq_true] at h
    obtain ⟨⟨⟨⟨⟨⟨⟨h1, h2⟩, h3⟩, h4⟩, h5⟩, h6⟩, h7⟩, h8⟩ := h
    obtain ⟨b1, b2⟩ := locOnly_ok g h1
    obtain ⟨c1, c2⟩ := locOnly_ok g h2
    exact d_parN g.calm hNd b1 c1 (by simpa using h3) b2 c2 (sl_ok G0 a g _ nd.l h4) (sl_ok G0 b g _ nd.r h5) h6 h7 (parB_ok (i := i) (j := j) g b2 c2 h6 h7 h8)
  | .parC i j a b =>
    unfold St.chk at h
    split at h <;> first | contradiction | (rename_i heq; cases heq; done) | skip
    rename_i heq
    cases heq
    simp only [Bool.and_eq_true] at h
    obtain ⟨⟨⟨⟨⟨⟨⟨h1, h2⟩, h3⟩, h4⟩, h5⟩, h6⟩, h7⟩, h8⟩ := h
    obtain ⟨x1, q1, e1, b1, b2, b3⟩ := tgN_ok g h1
    obtain ⟨x2, q2, e2, c1, c2, c3⟩ := tgN_ok g h2
    cases e1
    cases e2
    exact d_parC g.calm hNd b1 c1 (by simpa using h3) b2 c2 b3 c3 (sl_ok G0 a g _ nd.l h4) (sl_ok G0 b g _ nd.r h5) h6 h7 (by rw [g.scE]; exact ((Bool.or_eq_true _ _).mp h8).imp of_decide_eq_true of_decide_eq_true)
  | .asg is e =>
    unfold St.chk at h
    split at h <;> first | contradiction | (rename_i heq; cases heq; done) | skip
    rename_i heq
    cases heq
    simp only [Bool.and_eq_true] at h
    obtain ⟨⟨⟨⟨h1, h2⟩, h3⟩, h4⟩, h5⟩ := h
    exact d_asg h4 h5 ((e_ok G0 e g _ nd h2).v h3) (t_ok g h1)
  | .app i e =>
    unfold St.chk at h
    split at h <;> first | contradiction | (rename_i heq; cases heq; done) | skip
    rename_i heq
    cases heq
    simp only [Bool.and_eq_true] at h
    obtain ⟨⟨⟨⟨⟨h1, h2⟩, h3⟩, h4⟩, h5⟩, h6⟩ := h
    cases of_decide_eq_true h1
    obtain ⟨a1, a2, a3, a4⟩ := g.vis h2
    exact d_app a1 a2 a3 a4 ((e_ok G0 e g _ nd h3).v h4) h5 h6
  | .ext i e =>
    unfold St.chk at h
    split at h <;> first | contradiction | (rename_i heq; cases heq; done) | skip
    rename_i heq
    cases heq
    simp only [Bool.and_eq_true] at h
    obtain ⟨⟨⟨⟨⟨h1, h2⟩, h3⟩, h4⟩, h5⟩, h6⟩ := h
    cases of_decide_eq_true h1
    obtain ⟨a1, a2, a3, a4⟩ := g.vis h2
    exact d_ext a1 a2 a3 a4 ((e_ok G0 e g _ nd h3).t h4) h5 h6
  | .pop (.nm j) i =>
    unfold St.chk at h
    split at h <;> first | contradiction | (rename_i heq; cases heq; done) | skip
    rename_i heq
    cases heq
    simp only [Bool.and_eq_true] at h
    obtain ⟨⟨⟨h1, h2⟩, h3⟩, h6⟩ := h
    cases of_decide_eq_true h1
    obtain ⟨a1, a2, a3, a4⟩ := g.vis h2
    obtain ⟨x, q, e, b1, b2, b3⟩ := tgN_ok g h3
    cases e
    exact d_popN g.ofs.K hNd b1 b2 b3 a1 a2 a3 a4 h6
  | .pop (.tup is) i =>
    unfold St.chk at h
    split at h <;> first | contradiction | (rename_i heq; cases heq; done) | skip
    rename_i heq
    cases heq
    simp only [Bool.and_eq_true] at h
    obtain ⟨⟨⟨h1, h2⟩, h3⟩, h6⟩ := h
    cases of_decide_eq_true h1
    obtain ⟨a1, a2, a3, a4⟩ := g.vis h2
    exact d_popT g.ofs.K (t_ok g h3) a1 a2 a3 a4 h6
  | .ixset i k e =>
    unfold St.chk at h
    split at h <;> first | contradiction | (rename_i heq; cases heq; done) | skip
    rename_i heq
    cases heq
    simp only [Bool.and_eq_true] at h
    obtain ⟨⟨⟨⟨⟨⟨⟨h1, h2⟩, h3⟩, h4⟩, h5⟩, h6⟩, h7⟩, h8⟩ := h
    obtain ⟨a1, a2, a3, a4⟩ := g.vis h1
    exact d_ixset a1 a2 a3 a4 ((e_ok G0 k g _ nd.l h2).v h3) ((e_ok G0 e g _ nd.r h5).v h6) h7 h8 h4
  | .dput i k e =>
    unfold St.chk at h
    split at h <;> first | contradiction | (rename_i heq; cases heq; done) | skip
    rename_i heq
    cases heq
    simp only [Bool.and_eq_true] at h
    obtain ⟨⟨⟨⟨⟨h1, h2⟩, h3⟩, h5⟩, h6⟩, h7⟩ := h
    obtain ⟨a1, a2, a3, a4⟩ := g.vis h1
    exact d_dput (by have := g.u64; omega) a1 a2 a3 a4 ((e_ok G0 k g _ nd.l h2).v h3) ((e_ok G0 e g _ nd.r h5).v h6) h7
  | .cell i k e =>
    unfold St.chk at h
    split at h <;> first | contradiction | (rename_i heq; cases heq; done) | skip
    rename_i heq
    cases heq
    simp only [Bool.and_eq_true] at h
    obtain ⟨⟨⟨⟨⟨⟨⟨h1, h2⟩, h3⟩, h4⟩, h5⟩, h6⟩, h7⟩, h8⟩ := h
    obtain ⟨a1, a2, a3, a4⟩ := g.vis h1
    exact d_cellSet a1 a2 a3 a4 ((e_ok G0 k g _ nd.l h2).v h3) ((e_ok G0 e g _ nd.r h5).v h6) h7 h8 h4
  | .ite c a b =>
    unfold St.chk at h
    split at h <;> first | contradiction | (rename_i heq; cases heq; done) | skip
    rename_i heq
    cases heq
    simp only [Bool.and_eq_true] at h
    obtain ⟨⟨⟨h1, h2⟩, h3⟩, h4⟩ := h
    exact d_if ((e_ok G0 c g _ nd.l h1).b h2) (sts_ok G0 a g _ nd.r.l h3) (sts_ok G0 b g _ nd.r.r h4)
  | .whl f c b =>
    unfold St.chk at h
    split at h <;> first | contradiction | (rename_i heq; cases heq; done) | skip
    rename_i heq
    cases heq
    simp only [Bool.and_eq_true] at h
    obtain ⟨⟨h1, h2⟩, h3⟩ := h
    exact d_while g.po ((e_ok G0 c g _ nd.l h1).b h2) (sts_ok G0 b g _ nd.r h3)
  | .for_ it t b =>
    unfold St.chk at h
    split at h <;> first | contradiction | (rename_i heq; cases heq; done) | skip
    rename_i heq
    cases heq
    simp only [Bool.and_eq_true] at h
    obtain ⟨⟨⟨h1, h2⟩, h3⟩, h4⟩ := h
    exact d_for g.po g.calm h2 (itF_okF G0 it g _ _ nd.l h1) (t_ok g h3) (sts_ok G0 b g _ nd.r h4)
  | .raise k0 x =>
    unfold St.chk at h
    split at h <;> first | contradiction | (rename_i heq; cases heq; done) | skip
    rename_i heq
    cases heq
    simp only [Bool.and_eq_true] at h
    obtain ⟨h1, h2⟩ := h
    cases of_decide_eq_true h1
    obtain ⟨a, e1, e2, e3, e4, e5, e6⟩ := nd _ (List.mem_singleton.mpr rfl)
    obtain ⟨g1, g2, g3⟩ := g.gl h2
    have kk := g.ofs.K
    refine d_raise g.calm g.tk ?_
    rw [e2]
    exact L2N.pmk_own (X := X) (C := a) PySem.F.excBase_ValueError (by rw [kk]; exact e3) (by rw [g.ofs.mg]; exact e1) (by rw [kk]; exact e4) (raises_own (by rw [kk]; exact e5) (by rw [kk]; exact e6)) g1 g2
  | .setC i (.var _) | .setC i (.peek _) | .setC i (.scr _) | .setC i (.int _) | .setC i (.str _) | .setC i (.bl _) | .setC i .non | .setC i (.glob _ _) | .setC i (.bin _ _ _) | .setC i (.un _ _) | .setC i (.cmp _ _ _) | .setC i (.chain _ _ _ _ _) | .setC i (.chain3 _ _ _ _ _ _ _) | .setC i (.not _) | .setC i (.ands _) | .setC i (.ors _) | .setC i (.ite _ _ _) | .setC i (.ix _ _) | .setC i (.cell _ _) | .setC i (.sl _ _ _) | .setC i (.tup _) | .setC i (.lst _) | .setC i (.tupS _) | .setC i (.lstS _) | .setC i (.fmt _) | .setC i (.fstr _) | .setC i .dead | .setC i (.told _) | .setC i (.toldD _) | .setC i (.srtSet _) | .setC i (.rg1 _ _) | .setC i (.rg2 _ _ _) | .setC i (.sortLen _) | .setC i (.call _ _ _) | .setC i (.b1 _ _) | .setC i (.b2 _ _ _) | .setC i (.dget _ _) | .setC i (.lcD _ _ _ _ _) | .setC i (.mth _ _ _) =>
    cases h
theorem sts_ok (G0 : GmOk Γ) {k : Nat} {N : List Str} (st : Sts) {sc : Scope} {fnb : Str → Bool} {W : WX} {X : Cx} (g : GoodX Γ k N sc fnb W X) (l : List Stmt) (nd : NeedsOk Γ k (TabG Γ X) st.needs) (h : st.chk N sc fnb l = true) : PSs X l (rdS Γ W st.den) := by
  match st, l with
  | .nil, [] => exact d_nil
  | .cons s r, l :: ls =>
    unfold Sts.chk at h
    rw [Bool.and_eq_true] at h
    exact d_cons (st_ok G0 s g l nd.l h.1) (sts_ok G0 r g ls nd.r h.2)
  | .nil, _ :: _ => cases h
  | .cons _ _, [] => cases h
end
end Pv
namespace Pv
open PySem PySem.Spec PyProof.Rows L2
/-! the law's own call -/
def Flat (a : Addr) (H : Hp) : Prop := ∀ b, H b = none ∨ (b = a ∧ ∃ o xs, H b = some (.frz o (.lst xs)) ∧ xs.length ≤ sizeLine)
theorem hid_free {h : Heap} {H : Hp} {b : Addr} {o : Obj} (e : h.get? b = some o) (n : H b = none) : (hidT h H).get? b = some o := hidT_get e n
theorem law_here {Γ : Gm} {mb : Str → Option Value} {k : Nat} {fa a : Addr} {fd : FuncData} {x : Str} {f : Fn} {s₁ : Shared} {vs : List Value} {ns : List Int} {H : Hp} {S' : SS}
    (KX : Γ.K.In s₁.heap) (hns : s₁.heap.Ns mainGlobals Γ.mg) (hb : s₁.heap.Ns builtinsNs mb) (hbb : ∀ x : Str, x ≠ "__name__" → mb x = bootBuiltins x) (hlim : s₁.heap.NoLimit) (hg : s₁.gens = #[])
    (ha : s₁.heap.get? a = some { cls := .type "list", data := .seq vs.toArray }) (hr : Room k callerA) (hT : Γ.T = [])
    (F : ∀ base : Heap, Γ.K.In base → base.Ns mainGlobals Γ.mg → FnG { Γ with base := base } k fa fd [x] (spF { Γ with base := base } 1 f)) (hbind : ∀ (s : Shared) (u : Value), BindsTo s fd ⟨[u], []⟩ [(x, u)])
    (hf : f [.scr (ns.map PyData.int)] none = .ok (.bool true) S') (fl : Flat a H) (hS : SqL Γ.K H a (ns.map V.int)) (hok : HOk Γ.prog Γ.w H s₁.heap) (hK : H a ≠ none → Γ.K.lookup a = none) :
    codeAny (model Γ.prog Γ.w) callerA (.call (.ref fa) ⟨[.ref a], []⟩) (fun r s' => r = .ok (.ret (.bool true)) ∧ OldK s₁.heap s'.heap ∧ s'.os = s₁.os ∧ AllBare s'.gens) s₁ := by
  have dictFree : ∀ {b : Addr} {o : Obj} {es : Array DictEntry} {ep : Nat}, s₁.heap.get? b = some o → o.data = .dict es ep → H b = none := by
    intro b o es ep e d
    rcases fl b with z | ⟨rfl, _⟩
    · exact z
    · rw [ha] at e
      cases e
      exact nomatch (show Data.seq vs.toArray _ = Data.dict es ep from d)
  have hides : ∀ {b : Addr} {m : Str → Option Value}, s₁.heap.Ns b m → (hidT s₁.heap H).Ns b m := by
    rintro b m ⟨o, es, ep, e, d, r⟩
    exact ⟨o, es, ep, hid_free e (dictFree e d), d, r⟩
  have kin : Γ.K.In (hidT s₁.heap H) := by
    intro b o e
    refine hid_free (KX b o e) ?_
    rcases fl b with z | ⟨rfl, ob, xs, z, _⟩
    · exact z
    · rw [hK (by rw [z]; simp)] at e
      cases e
  have md : Mod Γ.K Γ.mg (hidT s₁.heap H) := by
    obtain ⟨mc, l1, l2⟩ := hlim
    exact ⟨kin, hides hns, ⟨mb, hides hb, hbb⟩, mc, hides l1, l2⟩
  have noFrame : ∀ {b : Addr} {P : Prop}, b ∈ ([] : List Addr) → P := fun z => (List.not_mem_nil z).elim
  have env : Env0 Γ.prog Γ.w Γ.K Γ.mg (hidT s₁.heap H) callerA [] s₁ H :=
    { frames := rfl, mod := md, bs := fun b o e => of_hidT e, bsz := Nat.le_of_eq (hidT_size _ _), funs := trivial, frf := fun b z => noFrame (show b ∈ ([] : List Addr) from z), hok := hok, bare := .of_eq hg }
  have lens : Lens H := by
    intro b o e
    rcases fl b with z | ⟨_, ob, xs, z, l⟩
    · rw [z] at e; cases e
    · rw [z] at e; cases e; exact l
  have nx : Nxt { Γ with base := hidT s₁.heap H } none H H none H H := ⟨fun _ _ h => h, fun _ _ h => h, .refl, fun _ h _ => h, trivial, fun q hq => (by rw [hT] at hq; cases hq), lens, fun b ps e => by
    rcases fl b with z | ⟨_, ob, xs, z, _⟩
    · exact z
    · rw [z] at e; cases e⟩
  have args : ArgsOk Γ.K none H [V.ref a] [Arg.scr (ns.map PyData.int)] := .cons ⟨a, _, rfl, hS, RpAll.ints _⟩ .nil
  have asks : spF { Γ with base := hidT s₁.heap H } 1 f [V.ref a] H (fun v _ => v = .bl true) fun _ _ _ => False := by
    refine ⟨none, H, none, _, nx, args, rfl, ?_⟩
    rw [hf]
    intro v H' B' n r
    cases r
    rfl
  have run := (F _ kin (hides hns)).run callerA [] s₁ H ⟨[.ref a], []⟩ [.ref a] [.ref a] _ _ hr rfl env (hbind s₁ (.ref a)) (.cons rfl .nil) asks
  refine codeAny_mono run ?_
  rintro (e | fl') s' h
  · obtain ⟨_, _, _, _, _, _, _, _, _, _, _, _, no⟩ := h
    exact no.elim
  · cases fl' with
    | ret u =>
      obtain ⟨v, H', os, bare, un, ok', rv, q⟩ := h
      have q' : v = .bl true := q
      subst q'
      cases rv
      refine ⟨rfl, OldK.of_keep ?_, os, bare⟩
      intro b o e
      rcases fl b with z | ⟨_, ob, xs, z, _⟩
      · exact un.keep b o e z (fun t => noFrame (show b ∈ ([] : List Addr) from t)) (by simp)
      · obtain ⟨e1, _⟩ := hok b _ z
        obtain ⟨e2, _⟩ := ok' b _ (un.frzs b ob _ z)
        rw [e] at e1
        cases e1
        exact e2
    | next => exact h.elim
    | brk => exact h.elim
    | cont => exact h.elim
/-- where the script lies -/
theorem law_callG {Γ : Gm} {mb : Str → Option Value} {k : Nat} {fa a : Addr} {fd : FuncData} {x : Str} {f : Fn} {s₁ : Shared} {vs : List Value} {ns : List Int} {S' : SS}
    (KX : Γ.K.In s₁.heap) (hns : s₁.heap.Ns mainGlobals Γ.mg) (hb : s₁.heap.Ns builtinsNs mb) (hbb : ∀ x : Str, x ≠ "__name__" → mb x = bootBuiltins x) (hlim : s₁.heap.NoLimit) (hg : s₁.gens = #[])
    (ha : s₁.heap.get? a = some { cls := .type "list", data := .seq vs.toArray }) (hi : IntsAre vs ns) (hl : ns.length ≤ sizeLine) (hr : Room k callerA) (hT : Γ.T = [])
    (F : ∀ base : Heap, Γ.K.In base → base.Ns mainGlobals Γ.mg → FnG { Γ with base := base } k fa fd [x] (spF { Γ with base := base } 1 f)) (hbind : ∀ (s : Shared) (u : Value), BindsTo s fd ⟨[u], []⟩ [(x, u)])
    (hf : f [.scr (ns.map PyData.int)] none = .ok (.bool true) S') :
    codeAny (model Γ.prog Γ.w) callerA (.call (.ref fa) ⟨[.ref a], []⟩) (fun r s' => r = .ok (.ret (.bool true)) ∧ OldK s₁.heap s'.heap ∧ s'.os = s₁.os ∧ AllBare s'.gens) s₁ := by
  have rv := vals_ints hi
  have same := hi.length
  cases known : Γ.K.lookup a with
  | some o =>
    have e := (KX a o known).symm.trans ha
    cases e
    have sq : SqL Γ.K (fun _ => none) a (ns.map V.int) := by
      refine .inr ⟨_, vs.toArray, _, known, rfl, rfl, rfl, ?_, ?_⟩
      · rw [List.size_toArray, same]; exact hl
      · simpa using rv
    exact law_here KX hns hb hbb hlim hg ha hr hT F hbind hf (fun b => .inl rfl) sq (fun b u z => nomatch (show (none : Option HO) = some u from z)) fun z => (z rfl).elim
  | none =>
    have at_a : ∀ u : HO, (fun b => if b = a then some u else none : Hp) a = some u := fun u => if_pos rfl
    have off : ∀ (u : HO) {b : Addr}, b ≠ a → (fun b => if b = a then some u else none : Hp) b = none := fun u b z => if_neg z
    refine law_here (H := fun b => if b = a then some (.frz { cls := .type "list", data := .seq vs.toArray } (.lst (ns.map V.int))) else none) KX hns hb hbb hlim hg ha hr hT F hbind hf (fun b => ?_) (.inl (.inr ⟨_, at_a _⟩)) (fun b u z => ?_) fun _ => known
    · cases decEq b a with
      | isTrue t => subst t; exact .inr ⟨rfl, _, _, at_a _, by rw [List.length_map]; exact hl⟩
      | isFalse t => exact .inl (off _ t)
    · cases decEq b a with
      | isTrue t =>
        subst t
        have z := (at_a _).symm.trans z
        cases z
        refine ⟨ha, ?_, vs, _, rv, ha⟩
        rw [List.length_map]
        exact hl
      | isFalse t =>
        have z := (off _ t).symm.trans z
        cases z
/-- THE END: a law by its meaning -/
theorem walk_ofG {l : PySem.W.OpenLaw} {n k : Nat} {q : Program} {loose : List Str} {XP : (Str → Option Value) → Heap → Prop} {YP : World → Heap → Prop} {d : DefRec} {x : Str} {cls : PySem.W.Frag → Exn → Value} {f : Fn}
    (most : l.most = some n) (few : n ≤ sizeLine) (plain : d.params.defaults = []) (room : Room k callerA)
    (hf : ∀ ns : List Int, ns.length ≤ n → ∃ S', f [.scr (ns.map PyData.int)] none = .ok (.bool true) S')
    (F : ∀ (w : World) (globs : Str → Option Value) (fa : Addr) (hp : Heap), YP w hp → hp.Ns mainGlobals globs → globs d.name = some (.ref fa) →
      ∃ (K : PySem.W.Frag) (fd : FuncData), K.In hp ∧ (∀ (s : Shared) (u : Value), BindsTo s fd ⟨[u], []⟩ [(x, u)]) ∧ ∀ base : Heap, FnG ⟨l.prog, w, K, globs, base, [], cls K⟩ k fa fd [x] (spF ⟨l.prog, w, K, globs, base, [], cls K⟩ 1 f)) :
    PySem.W.WalkO q loose XP YP l.row.toRowW d [] fun g us => PySem.call g us := by
  refine Att.attach_call most plain ?_
  intro w s₀ s₁ mg mb fa o pm cd doc a vs ns G Y ho hd hcd hmg hobj hints hlen hg
  obtain ⟨K, fd, KX, bd, run⟩ := F w mg fa _ Y G.T.g hmg
  obtain ⟨S', e⟩ := hf ns hlen
  exact law_callG (Γ := ⟨l.prog, w, K, mg, s₁.heap, [], cls K⟩) KX G.T.g G.T.b G.T.builtins G.T.nolimit hg hobj hints (Nat.le_trans hlen few) room rfl (fun base _ _ => run base) bd e
/-- a def by its term -/
theorem fn_ok {Γ : Gm} (G0 : GmOk Γ) {k : Nat} {f : Addr} {fd : FuncData} {x q : Str} {params : Arguments} {body : List Stmt} {scope : Scope} {N ps : List Str} {b : Sts} (F : FunD Γ.K x q params body scope [] [] f fd) (S : FnScope N ps scope) (hl : ps.length ≤ N.length) (hm : Γ.mg x = some (.ref f)) (bd : Binds Γ.K fd ps [])
    (nd : NeedsOk Γ k (TabF Γ fd q) b.needs) (h : b.chk N scope (fun _ => true) body = true) : CalleeOk Γ (k + 2) x ps.length (runB N.length b.den) :=
  callee_of F S hl hm bd fun W X g hc hq => sts_ok G0 b g body (nd.mono (TabF.at g.ofs hc hq)) h
theorem fn_law {Γ : Gm} (G0 : GmOk Γ) {k : Nat} {f : Addr} {fd : FuncData} {x q : Str} {params : Arguments} {body : List Stmt} {scope : Scope} {N ps : List Str} {b : Sts} (F : FunD Γ.K x q params body scope [] [] f fd) (S : FnScope N ps scope) (hl : ps.length ≤ N.length)
    (nd : NeedsOk Γ k (TabF Γ fd q) b.needs) (h : b.chk N scope (fun _ => true) body = true) : FnG Γ (k + 2) f fd ps (spF Γ ps.length (runB N.length b.den)) :=
  fnG_of F S hl fun W X g hc hq => sts_ok G0 b g body (nd.mono (TabF.at g.ofs hc hq)) h
end Pv
namespace Pv
open PySem PySem.Spec PyProof.Rows L2
variable {Γ : Gm} {X : Cx} {W : WX} {pos p : Pos}
/-! the shared list is made, the rest is done, it is forgotten -/
def shut : Res Fl → Res Fl
  | .ok (.rt d) _ => .ok (.rt d) none
  | .exc k _ => .exc k none
  | _ => .bad
def inCell (n : MS) (ρ : Env) (ds : List D) : M Fl := fun s => match s with
  | none => shut (n ρ (some ds))
  | some _ => .bad
def sLaw (i : Nat) (m : MA) (n : MS) : MS := fun ρ => m ρ >>= inCell n (ρ.set i .cell)
theorem nxt_shut {B0 H0 B H : Hp} {S : SS} {c : Addr} (f : H0 c = none) (n : Nxt Γ (some c) B0 H0 S B H) : Nxt Γ none B0 H0 none B H :=
  ⟨n.sb, n.sh, ⟨fun a o e _ t => n.ex.keep a o e (fun z => by cases z; rw [f] at e; cases e) t, n.ex.there⟩, n.nw, trivial, n.tb, n.ln, n.tc⟩
theorem Rel.cellNew {B0 H0 B H : Hp} {ρ : Env} {S : SS} {σ : L2.St} {i : Nat} {c : Addr} {xs : List V} {ds : List D} (r : Rel Γ none B0 H0 ρ S σ B H) (np : H c = none) (rp : RpAll Γ.K B xs ds) (hz : xs.length ≤ sizeLine) :
    Rel Γ (some c) B0 H0 (ρ.set i .cell) (some ds) (σ.set i (some (.ref c))) B (upd H c (.lst xs)) := by
  have n := r.nx
  have nB := sub_none n.sh np
  have sH := sub_upd (o := .lst xs) np
  have nx : Nxt Γ (some c) B0 H0 (some ds) B (upd H c (.lst xs)) := by
    refine ⟨n.sb, fun a o e => sH a o (n.sh a o e), ⟨fun a o e _ t => sH a o (n.ex.keep a o e (by simp) t), fun a h => ?_⟩, n.nw, ⟨nB, xs, upd_same, rp⟩, fun q hq => (n.tb q hq).ext sH, fun b u e => ?_, fun b ps e => ?_⟩
    · have h2 := n.ex.there a h
      cases e : H a with
      | none => exact absurd e h2
      | some u => rw [sH a u e]; simp
    · by_cases hb : b = c
      · subst hb; rw [upd_same] at e; cases e; exact hz
      · rw [upd_ne hb] at e; exact n.ln _ _ e
    · by_cases hb : b = c
      · subst hb; rw [upd_same] at e; cases e
      · rw [upd_ne hb] at e; exact n.tc _ _ e
  have up : ∀ {s : Slot} {o : Option (Option V)}, SlotOk Γ.K none H0 B H s o → SlotOk Γ.K (some c) H0 B (upd H c (.lst xs)) s o := by
    intro s o h
    cases s with
    | none => trivial
    | val d => exact h
    | own es =>
      obtain ⟨a, ys, e, z, b, _, h, q⟩ := h
      exact ⟨a, ys, e, z, b, (fun t => by cases t; rw [np] at h; cases h), sH _ _ h, q⟩
    | ownd es =>
      obtain ⟨a, ys, e, z, b, _, h, q⟩ := h
      exact ⟨a, ys, e, z, b, (fun t => by cases t; rw [np] at h; cases h), sH _ _ h, q⟩
    | lockd es =>
      obtain ⟨a, ys, e, z, b, _, ⟨od, h⟩, q⟩ := h
      exact ⟨a, ys, e, z, b, (fun t => by cases t; rw [np] at h; cases h), ⟨od, sH _ _ h⟩, q⟩
    | cell => obtain ⟨a, e, _⟩ := h; cases e
    | scr es => exact h
  refine ⟨nx, by rw [List.length_set, List.length_set]; exact r.len, fun j => ?_, fun j k a hjk hj hk e1 e2 => ?_⟩
  · rw [getD_set]
    split
    · rename_i z
      obtain ⟨rfl, hl⟩ := z
      rw [List.getElem?_set_self (by rw [← r.len]; exact hl)]
      exact ⟨c, rfl, rfl⟩
    · rename_i z
      by_cases e : i = j
      · subst e
        have e0 : ρ.getD i .none = .none := by
          rw [List.getD_eq_getElem?_getD, List.getElem?_eq_none (Nat.le_of_not_lt fun hl => z ⟨rfl, hl⟩)]
          rfl
        rw [e0]
        trivial
      · rw [List.getElem?_set_ne e]
        exact up (r.slot j)
  · rw [getD_set] at hj hk
    have off : ∀ {j : Nat}, (if i = j ∧ i < ρ.length then Slot.cell else ρ.getD j .none).isOwn = true → i ≠ j ∧ (ρ.getD j .none).isOwn = true := by
      intro j hj
      split at hj
      · cases hj
      · rename_i z
        refine ⟨fun e => ?_, hj⟩
        subst e
        rw [List.getD_eq_getElem?_getD, List.getElem?_eq_none (Nat.le_of_not_lt fun hl => z ⟨rfl, hl⟩)] at hj
        cases hj
    obtain ⟨j1, j2⟩ := off hj
    obtain ⟨k1, k2⟩ := off hk
    rw [List.getElem?_set_ne j1] at e1
    rw [List.getElem?_set_ne k1] at e2
    exact r.dis j k a hjk j2 k2 e1 e2
theorem d_law {i n : Nat} {x : Str} {es : List Expr} {m : MA} {rest : List Stmt} {mn : MS} {q q2 : Pos} (hN : X.N.Nodup) (hi : X.N[i]? = some x) (hx : L2.Loc X.env.scope x) (hf : X.fn x = true ∨ X.env.scope.names.lookup x = some .local)
    (h : PA X es (rdN Γ W n m)) (hn : n ≤ 1000) (hr : PSs X rest (rdS Γ W mn)) : PSs X (.Assign [.Name x q] (.List es q2) pos :: rest) (rdS Γ W (sLaw i m mn)) :=
  PSs.imp (pss_cons (ps_set hN hi hx (pe_lst h) rfl hf) hr) fun E σ H ⟨C, B0, H0, ρ, S, B, r, w⟩ => by
    refine ⟨C, B0, H0, ρ, S, B, r, ?_⟩
    unfold sLaw at w
    rw [bind_at] at w
    cases e : m ρ S with
    | ok ds S1 =>
      rw [e] at w
      intro xs H1 B1 n1 rp
      have hz : xs.length ≤ sizeLine := by rw [rp.1.len, rp.2]; exact thousand hn
      refine ⟨hz, fun c np => ?_⟩
      cases S1 with
      | some _ => exact w.elim
      | none =>
        have c0 : C = none := by
          have ce := n1.ce
          cases C with
          | none => rfl
          | some _ => exact ce.elim
        subst c0
        have r1 := r.up n1
        have f := r1.nx.ex.free np
        refine ⟨some c, B0, H0, ρ.set i .cell, some ds, B1, r1.cellNew np rp.1 hz, ?_⟩
        cases t : mn (ρ.set i .cell) (some ds) with
        | ok fl S2 =>
          have w : PostS Γ none W B0 H0 B E (shut (mn (ρ.set i .cell) (some ds))) := w
          rw [t] at w
          cases fl with
          | rt d => exact fun v B' H' n' x => w v B' H' (nxt_shut f n') x
          | nx _ => exact w.elim
          | bk _ => exact w.elim
          | ct _ => exact w.elim
        | exc k S2 =>
          have w : PostS Γ none W B0 H0 B E (shut (mn (ρ.set i .cell) (some ds))) := w
          rw [t] at w
          exact fun σ' B' H' n' => w σ' B' H' (nxt_shut f n')
        | bad =>
          have w : PostS Γ none W B0 H0 B E (shut (mn (ρ.set i .cell) (some ds))) := w
          rw [t] at w
          exact w
    | exc k S1 => rw [e] at w; exact fun H' B' n' => w σ B' H' (r.nx.trans n')
    | bad => rw [e] at w; exact w
/-- a law's def -/
structure LawT where
  i : Nat
  es : Es
  rest : Sts
def LawT.den (l : LawT) : MS := sLaw l.i l.es.den l.rest.den
def LawT.chk (N : List Str) (sc : Scope) (l : LawT) : List Stmt → Bool
  | .Assign [t] (.List es _) _ :: rest => tgB N sc (fun _ => true) l.i t && l.es.chk N sc (fun _ => true) es && decide (es.length ≤ 1000) && l.rest.chk N sc (fun _ => true) rest
  | _ => false
def LawT.needs (l : LawT) : List Need := l.es.needs ++ l.rest.needs
theorem law_ok {Γ : Gm} (G0 : GmOk Γ) {k : Nat} {f : Addr} {fd : FuncData} {x q : Str} {params : Arguments} {body : List Stmt} {scope : Scope} {N ps : List Str} {b : LawT} (F : FunD Γ.K x q params body scope [] [] f fd) (S : FnScope N ps scope) (hl : ps.length ≤ N.length)
    (nd : NeedsOk Γ k (TabF Γ fd q) b.needs) (h : b.chk N scope body = true) : FnG Γ (k + 2) f fd ps (spF Γ ps.length (runB N.length b.den)) :=
  fnG_of F S hl fun W X g hc hq => by
    have nd := nd.mono (TabF.at g.ofs hc hq)
    unfold LawT.chk at h
    split at h
    · simp only [Bool.and_eq_true] at h
      obtain ⟨⟨⟨h1, h2⟩, h3⟩, h4⟩ := h
      obtain ⟨y, yq, rfl, b1, b2, b3⟩ := tgN_ok g h1
      exact d_law (by rw [g.nm]; exact g.nd) b1 b2 b3 (es_ok G0 b.es g _ nd.l h2).a (of_decide_eq_true h3) (sts_ok G0 b.rest g _ nd.r h4)
    · cases h
end Pv
namespace Pv
open PySem PySem.Spec PyProof.Rows L2
def NeedsAll (Γ : Gm) (k : Nat) (tl : Prop) : List Need → Prop
  | [] => True
  | x :: r => NeedOk Γ k tl x ∧ NeedsAll Γ k tl r
theorem NeedsOk.of {Γ : Gm} {k : Nat} {tl : Prop} : ∀ {l : List Need}, NeedsAll Γ k tl l → NeedsOk Γ k tl l
  | [], _ => fun _ h => (by cases h)
  | x :: r, h => fun y hy => by
    cases hy with
    | head => exact h.1
    | tail _ z => exact NeedsOk.of h.2 y z
end Pv
namespace Pv
open PySem PySem.Spec PyProof.Rows L2
/-! the law's own call, its code's tables beside the script -/
/-- what is known where the law is called: code objects and their tables -/
structure TabsAt (K : PySem.W.Frag) (h : Heap) (cs : List (Addr × Addr)) (T : List (Addr × Str)) : Prop where
  tab : ∀ p ∈ cs, h.get? p.2 = some { cls := .none, data := .fields #[] }
  new : ∀ p ∈ cs, K.lookup p.2 = none
  hd : ∀ p ∈ cs, PySem.W.CodeHd h p.1 p.2
  nm : ∀ q ∈ T, ∃ p ∈ cs, p.2 = q.1
def tabsOf (cs : List (Addr × Addr)) (b : Addr) : Bool := cs.any fun p => decide (p.2 = b)
theorem tabsOf_iff {cs : List (Addr × Addr)} {b : Addr} : tabsOf cs b = true ↔ ∃ p ∈ cs, p.2 = b := by
  unfold tabsOf
  rw [List.any_eq_true]
  simp only [decide_eq_true_eq]
def withT (cs : List (Addr × Addr)) (S : Hp) : Hp := fun b => if tabsOf cs b = true then some (.tbl #[]) else S b
theorem withT_cases (cs : List (Addr × Addr)) (S : Hp) (b : Addr) : (tabsOf cs b = true ∧ withT cs S b = some (.tbl #[])) ∨ (tabsOf cs b = false ∧ withT cs S b = S b) := by
  unfold withT
  cases h : tabsOf cs b with
  | true => exact .inl ⟨rfl, rfl⟩
  | false => exact .inr ⟨rfl, rfl⟩
theorem law_hereT {Γ : Gm} {mb : Str → Option Value} {k : Nat} {fa a : Addr} {cs : List (Addr × Addr)} {fd : FuncData} {x : Str} {f : Fn} {s₁ : Shared} {vs : List Value} {ns : List Int} {S : Hp} {S' : SS}
    (KX : Γ.K.In s₁.heap) (hns : s₁.heap.Ns mainGlobals Γ.mg) (hb : s₁.heap.Ns builtinsNs mb) (hbb : ∀ x : Str, x ≠ "__name__" → mb x = bootBuiltins x) (hlim : s₁.heap.NoLimit) (hg : s₁.gens = #[])
    (hbm : ∃ (bm : Addr) (ob : Obj), Γ.mg "__builtins__" = some (.ref bm) ∧ bm ≠ builtinsNs ∧ s₁.heap.get? bm = some ob ∧ ob.cls = .type "module" ∧ ob.dict = some builtinsNs ∧ ob.data = .plain)
    (ha : s₁.heap.get? a = some { cls := .type "list", data := .seq vs.toArray }) (hr : Room k callerA) (TA : TabsAt Γ.K s₁.heap cs Γ.T)
    (F : ∀ base : Heap, (∀ p ∈ cs, LamX.TabB base Γ.mg p.1 p.2) → FnG { Γ with base := base } k fa fd [x] (spF { Γ with base := base } 1 f)) (hbind : ∀ (s : Shared) (u : Value), BindsTo s fd ⟨[u], []⟩ [(x, u)])
    (hf : f [.scr (ns.map PyData.int)] none = .ok (.bool true) S') (fl : Flat a S) (hS : SqL Γ.K S a (ns.map V.int)) (hok : HOk Γ.prog Γ.w S s₁.heap) (hK : S a ≠ none → Γ.K.lookup a = none) :
    codeAny (model Γ.prog Γ.w) callerA (.call (.ref fa) ⟨[.ref a], []⟩) (fun r s' => r = .ok (.ret (.bool true)) ∧ OldK s₁.heap s'.heap ∧ s'.os = s₁.os ∧ AllBare s'.gens) s₁ := by
  have isTab : ∀ {b : Addr}, tabsOf cs b = true → s₁.heap.get? b = some { cls := .none, data := .fields #[] } := fun z => by
    obtain ⟨p, hp, rfl⟩ := tabsOf_iff.mp z
    exact TA.tab p hp
  have aNo : tabsOf cs a = false := by
    cases z : tabsOf cs a with
    | false => rfl
    | true =>
      have q := isTab z
      rw [ha] at q
      have q' : Data.seq vs.toArray _ = Data.fields #[] := congrArg Obj.data (Option.some.inj q)
      cases q'
  have flT : ∀ b, tabsOf cs b = true → S b = none := fun b z => by
    rcases fl b with h | ⟨rfl, _⟩
    · exact h
    · rw [aNo] at z; cases z
  have subS : ∀ b o, S b = some o → withT cs S b = some o := fun b o e => by
    rcases withT_cases cs S b with ⟨z, _⟩ | ⟨_, z⟩
    · rw [flT b z] at e; cases e
    · rw [z]; exact e
  -- what is neither a sequence nor a table is not followed
  have free : ∀ {b : Addr} {o : Obj}, s₁.heap.get? b = some o → (∀ its n, o.data ≠ .seq its n) → o.data ≠ .fields #[] → withT cs S b = none := fun {b o} e h1 h2 => by
    rcases withT_cases cs S b with ⟨z, _⟩ | ⟨_, z⟩
    · have q := isTab z
      rw [e] at q
      cases q
      exact (h2 rfl).elim
    · rw [z]
      rcases fl b with h | ⟨rfl, _⟩
      · exact h
      · rw [ha] at e
        cases e
        exact (h1 _ _ rfl).elim
  have hides : ∀ {b : Addr} {m : Str → Option Value}, s₁.heap.Ns b m → (hidT s₁.heap (withT cs S)).Ns b m := by
    rintro b m ⟨o, es, ep, e, d, r⟩
    exact ⟨o, es, ep, hid_free e (free e (fun _ _ z => by rw [d] at z; cases z) (fun z => by rw [d] at z; cases z)), d, r⟩
  have kin : Γ.K.In (hidT s₁.heap (withT cs S)) := by
    intro b o e
    refine hid_free (KX b o e) ?_
    rcases withT_cases cs S b with ⟨z, _⟩ | ⟨_, z⟩
    · obtain ⟨p, hp, rfl⟩ := tabsOf_iff.mp z
      rw [TA.new p hp] at e
      cases e
    · rw [z]
      rcases fl b with h | ⟨rfl, ob, xs, h, _⟩
      · exact h
      · rw [hK (by rw [h]; simp)] at e
        cases e
  have md : Mod Γ.K Γ.mg (hidT s₁.heap (withT cs S)) := by
    obtain ⟨mc, l1, l2⟩ := hlim
    exact ⟨kin, hides hns, ⟨mb, hides hb, hbb⟩, mc, hides l1, l2⟩
  have noFrame : ∀ {b : Addr} {P : Prop}, b ∈ ([] : List Addr) → P := fun z => (List.not_mem_nil z).elim
  have hokT : HOk Γ.prog Γ.w (withT cs S) s₁.heap := fun b u e => by
    rcases withT_cases cs S b with ⟨z, q⟩ | ⟨_, q⟩
    · rw [q] at e; cases e; exact isTab z
    · rw [q] at e
      rcases fl b with h | ⟨rfl, ob, xs, h, _⟩
      · rw [h] at e; cases e
      · rw [h] at e
        cases e
        have := hok _ _ h
        exact this
  have env : Env0 Γ.prog Γ.w Γ.K Γ.mg (hidT s₁.heap (withT cs S)) callerA [] s₁ (withT cs S) :=
    { frames := rfl, mod := md, bs := fun b o e => of_hidT e, bsz := Nat.le_of_eq (hidT_size _ _), funs := trivial, frf := fun b z => noFrame (show b ∈ ([] : List Addr) from z), hok := hokT, bare := .of_eq hg }
  have tabB : ∀ p ∈ cs, LamX.TabB (hidT s₁.heap (withT cs S)) Γ.mg p.1 p.2 := fun p hp => by
    have ht := TA.tab p hp
    refine ⟨?_, ?_, fun z => ?_⟩
    · obtain ⟨o, us, file, tf, flags, tg, inF, text, tt, e1, r1, r2, r3, rest⟩ := TA.hd p hp
      refine ⟨o, us, file, tf, flags, tg, inF, text, tt, hid_free e1 (free e1 (fun _ _ z => by rw [r2] at z; cases z) fun z => ?_), r1, r2, r3, rest⟩
      rw [r2] at z
      cases z
      simp at r3
    · obtain ⟨bm, ob, m1, m2, m3, m4, m5, m6⟩ := hbm
      refine ⟨bm, ob, m1, m2, fun z => ?_, fun z => ?_, hid_free m3 (free m3 (fun _ _ z => by rw [m6] at z; cases z) fun z => by rw [m6] at z; cases z), m4, m5, m6⟩
      · obtain ⟨o, es, ep, e, d, _⟩ := hns
        rw [z, e] at m3
        cases m3
        rw [d] at m6
        cases m6
      · rw [z, ht] at m3
        cases m3
        cases m6
    · obtain ⟨o, es, ep, e, d, _⟩ := hns
      rw [z, ht] at e
      cases e
      cases d
  have lens : Lens (withT cs S) := by
    intro b o e
    rcases withT_cases cs S b with ⟨_, q⟩ | ⟨_, q⟩
    · rw [q] at e; cases e; trivial
    · rw [q] at e
      rcases fl b with z | ⟨_, ob, xs, z, l⟩
      · rw [z] at e; cases e
      · rw [z] at e; cases e; exact l
  have nx : Nxt { Γ with base := hidT s₁.heap (withT cs S) } none S (withT cs S) none S (withT cs S) := ⟨fun _ _ h => h, subS, .refl, fun _ h _ => h, trivial, fun q hq => by
    obtain ⟨p, hp, e⟩ := TA.nm q hq
    refine ⟨#[], ?_, ?_, fun pos cv hc => ?_⟩
    · rcases withT_cases cs S q.1 with ⟨_, z⟩ | ⟨z, _⟩
      · exact z
      · rw [tabsOf_iff.mpr ⟨p, hp, e⟩] at z; cases z
    · simp [TriplesOk]
    · simp [codeAmong] at hc, lens, fun b ps e => by
    rcases withT_cases cs S b with ⟨z, _⟩ | ⟨_, q⟩
    · exact flT b z
    · rw [q] at e
      rcases fl b with z | ⟨_, ob, xs, z, _⟩
      · exact z
      · rw [z] at e; cases e⟩
  have args : ArgsOk Γ.K none S [V.ref a] [Arg.scr (ns.map PyData.int)] := .cons ⟨a, _, rfl, hS, RpAll.ints _⟩ .nil
  have asks : spF { Γ with base := hidT s₁.heap (withT cs S) } 1 f [V.ref a] (withT cs S) (fun v _ => v = .bl true) fun _ _ _ => False := by
    refine ⟨none, S, none, _, nx, args, rfl, ?_⟩
    rw [hf]
    intro v H' B' n r
    cases r
    rfl
  have run := (F _ tabB).run callerA [] s₁ (withT cs S) ⟨[.ref a], []⟩ [.ref a] [.ref a] _ _ hr rfl env (hbind s₁ (.ref a)) (.cons rfl .nil) asks
  refine codeAny_mono run ?_
  rintro (e | fl') s' h
  · obtain ⟨_, _, _, _, _, _, _, _, _, _, _, _, no⟩ := h
    exact no.elim
  · cases fl' with
    | ret u =>
      obtain ⟨v, H', os, bare, un, ok', rv, q⟩ := h
      have q' : v = .bl true := q
      subst q'
      cases rv
      have same : ∀ b o, tabsOf cs b = false → s₁.heap.get? b = some o → s'.heap.get? b = some o := fun b o nb e => by
        rcases withT_cases cs S b with ⟨z, _⟩ | ⟨_, w⟩
        · rw [nb] at z; cases z
        · rcases fl b with z | ⟨rfl, ob, xs, z, _⟩
          · exact un.keep b o e (w.trans z) (fun t => noFrame (show b ∈ ([] : List Addr) from t)) (by simp)
          · obtain ⟨e1, _⟩ := hokT b _ (w.trans z)
            obtain ⟨e2, _⟩ := ok' b _ (un.frzs b ob _ (w.trans z))
            rw [e] at e1
            cases e1
            exact e2
      have grew : ∀ b, tabsOf cs b = true → ∃ more : Array Value, s'.heap.get? b = some { cls := .none, data := .fields more } := fun b z => by
        rcases withT_cases cs S b with ⟨_, w⟩ | ⟨n, _⟩
        · obtain ⟨more, t⟩ := un.tbls b #[] w
          exact ⟨_, ok' b _ t⟩
        · rw [n] at z; cases z
      refine ⟨rfl, ⟨fun b o e => ?_, fun b o e => ?_⟩, os, bare⟩
      · cases z : tabsOf cs b with
        | false => exact .inl (same b o z e)
        | true =>
          obtain ⟨more, hm⟩ := grew b z
          obtain ⟨p, hp, rfl⟩ := tabsOf_iff.mp z
          rw [TA.tab p hp] at e
          cases e
          exact .inr (.inl ⟨((TA.hd p hp).tab (TA.tab p hp)).isCodeTable, rfl, #[], more, rfl, by rw [Array.empty_append]; exact hm⟩)
      · cases z : tabsOf cs b with
        | false => exact ⟨o, same b o z e⟩
        | true =>
          obtain ⟨more, hm⟩ := grew b z
          exact ⟨_, hm⟩
    | next => exact h.elim
    | brk => exact h.elim
    | cont => exact h.elim
/-- where the script lies -/
theorem law_callT {Γ : Gm} {mb : Str → Option Value} {k : Nat} {fa a : Addr} {cs : List (Addr × Addr)} {fd : FuncData} {x : Str} {f : Fn} {s₁ : Shared} {vs : List Value} {ns : List Int} {S' : SS}
    (KX : Γ.K.In s₁.heap) (hns : s₁.heap.Ns mainGlobals Γ.mg) (hb : s₁.heap.Ns builtinsNs mb) (hbb : ∀ x : Str, x ≠ "__name__" → mb x = bootBuiltins x) (hlim : s₁.heap.NoLimit) (hg : s₁.gens = #[])
    (hbm : ∃ (bm : Addr) (ob : Obj), Γ.mg "__builtins__" = some (.ref bm) ∧ bm ≠ builtinsNs ∧ s₁.heap.get? bm = some ob ∧ ob.cls = .type "module" ∧ ob.dict = some builtinsNs ∧ ob.data = .plain)
    (ha : s₁.heap.get? a = some { cls := .type "list", data := .seq vs.toArray }) (hi : IntsAre vs ns) (hl : ns.length ≤ sizeLine) (hr : Room k callerA) (TA : TabsAt Γ.K s₁.heap cs Γ.T)
    (F : ∀ base : Heap, (∀ p ∈ cs, LamX.TabB base Γ.mg p.1 p.2) → FnG { Γ with base := base } k fa fd [x] (spF { Γ with base := base } 1 f)) (hbind : ∀ (s : Shared) (u : Value), BindsTo s fd ⟨[u], []⟩ [(x, u)])
    (hf : f [.scr (ns.map PyData.int)] none = .ok (.bool true) S') :
    codeAny (model Γ.prog Γ.w) callerA (.call (.ref fa) ⟨[.ref a], []⟩) (fun r s' => r = .ok (.ret (.bool true)) ∧ OldK s₁.heap s'.heap ∧ s'.os = s₁.os ∧ AllBare s'.gens) s₁ := by
  have rv := vals_ints hi
  have same := hi.length
  cases known : Γ.K.lookup a with
  | some o =>
    have e := (KX a o known).symm.trans ha
    cases e
    have sq : SqL Γ.K (fun _ => none) a (ns.map V.int) := by
      refine .inr ⟨_, vs.toArray, _, known, rfl, rfl, rfl, ?_, ?_⟩
      · rw [List.size_toArray, same]; exact hl
      · simpa using rv
    exact law_hereT KX hns hb hbb hlim hg hbm ha hr TA F hbind hf (fun b => .inl rfl) sq (fun b u z => nomatch (show (none : Option HO) = some u from z)) fun z => (z rfl).elim
  | none =>
    have at_a : ∀ u : HO, (fun b => if b = a then some u else none : Hp) a = some u := fun u => if_pos rfl
    have off : ∀ (u : HO) {b : Addr}, b ≠ a → (fun b => if b = a then some u else none : Hp) b = none := fun u b z => if_neg z
    refine law_hereT (S := fun b => if b = a then some (.frz { cls := .type "list", data := .seq vs.toArray } (.lst (ns.map V.int))) else none) KX hns hb hbb hlim hg hbm ha hr TA F hbind hf (fun b => ?_) (.inl (.inr ⟨_, at_a _⟩)) (fun b u z => ?_) fun _ => known
    · cases decEq b a with
      | isTrue t => subst t; exact .inr ⟨rfl, _, _, at_a _, by rw [List.length_map]; exact hl⟩
      | isFalse t => exact .inl (off _ t)
    · cases decEq b a with
      | isTrue t =>
        subst t
        have z := (at_a _).symm.trans z
        cases z
        refine ⟨ha, ?_, vs, _, rv, ha⟩
        rw [List.length_map]
        exact hl
      | isFalse t =>
        have z := (off _ t).symm.trans z
        cases z
/-- THE END: a law by its meaning, its lambdas' tables known -/
theorem walk_ofT {l : PySem.W.OpenLaw} {n k : Nat} {q : Program} {loose : List Str} {XP : (Str → Option Value) → Heap → Prop} {YP : World → Heap → Prop} {d : DefRec} {x : Str} {f : Fn}
    (most : l.most = some n) (few : n ≤ sizeLine) (plain : d.params.defaults = []) (room : Room k callerA)
    (hf : ∀ ns : List Int, ns.length ≤ n → (∀ z ∈ ns, Builtin.Int.intBits z ≤ 1048576) → ∃ S', f [.scr (ns.map PyData.int)] none = .ok (.bool true) S')
    (F : ∀ (w : World) (s₀ : Shared) (globs mb : Str → Option Value) (fa : Addr) (hp : Heap), PySem.W.Ground q loose [] XP w s₀ globs mb hp → YP w hp → globs d.name = some (.ref fa) →
      ∃ (K : PySem.W.Frag) (fd : FuncData) (cs : List (Addr × Addr)) (T : List (Addr × Str)) (cls : Exn → Value), K.In hp ∧ TabsAt K hp cs T ∧ (∀ (s : Shared) (u : Value), BindsTo s fd ⟨[u], []⟩ [(x, u)]) ∧
        ∀ base : Heap, (∀ p ∈ cs, LamX.TabB base globs p.1 p.2) → FnG ⟨l.prog, w, K, globs, base, T, cls⟩ k fa fd [x] (spF ⟨l.prog, w, K, globs, base, T, cls⟩ 1 f)) :
    PySem.W.WalkO q loose XP YP l.row.toRowW d [] fun g us => PySem.call g us := by
  refine Att.attach_callB most plain ?_
  intro w s₀ s₁ mg mb fa o pm cd doc a vs ns G Y ho hd hcd hmg hobj hints hlen hbits hg
  obtain ⟨K, fd, cs, T, cls, KX, TA, bd, run⟩ := F w s₀ mg mb fa _ G Y hmg
  obtain ⟨S', e⟩ := hf ns hlen hbits
  exact law_callT (Γ := ⟨l.prog, w, K, mg, s₁.heap, T, cls⟩) KX G.T.g G.T.b G.T.builtins G.T.nolimit hg G.T.bmain hobj hints (Nat.le_trans hlen few) room TA run bd e
end Pv
namespace Pv
open PySem PySem.Spec PyProof.Rows L2
/-! what is read off the heap behind the top -/
def isTabO (o : Obj) : Bool := match o.cls, o.data with
  | .none, .fields _ => true
  | _, _ => false
/-- what the names reach in n steps, but for tables of code objects -/
def frX (n : Nat) (g : Addr → Option Obj) : PySem.W.Frag := (He.frG g (He.asD g n)).filter fun p => !isTabO p.2
theorem frX_at {g : Addr → Option Obj} {a : Addr} {o : Obj} : ∀ {l : PySem.W.Frag}, (∀ p ∈ l, g p.1 = some p.2) → l.lookup a = some o → g a = some o
  | [], _, e => by cases e
  | (b, ob) :: r, h, e => by
    by_cases z : a = b
    · subst z
      have := h _ List.mem_cons_self
      simp only [List.lookup, beq_self_eq_true] at e
      cases e
      exact this
    · have z' : (a == b) = false := by simpa using z
      simp only [List.lookup, z'] at e
      exact frX_at (fun p hp => h p (List.mem_cons_of_mem _ hp)) e
theorem frX_in {n : Nat} {h : Heap} : (frX n h.get?).In h := fun a o e => by
  refine frX_at (fun p hp => ?_) e
  have hp := (List.mem_filter.mp hp).1
  obtain ⟨b, hb, q⟩ := List.mem_filterMap.mp hp
  obtain ⟨o', e1, rfl⟩ := Option.map_eq_some_iff.mp q
  exact e1
abbrev AlX : Type := Bool × He.AlD
def obsX (fa : List He.Fa) (fn : List He.DefD) (ex : List (PySem.W.Frag → Bool)) (K : PySem.W.Frag) : AlX := (ex.all fun f => f K, He.obsD fa fn K)
def obsXG (n : Nat) (fa : List He.Fa) (fn : List He.DefD) (ex : List (PySem.W.Frag → Bool)) (g : Addr → Option Obj) : AlX := obsX fa fn ex (frX n g)
def SaysX (fa : List He.Fa) (fn : List He.DefD) (ex : List (PySem.W.Frag → Bool)) (K : PySem.W.Frag) : Prop := obsX fa fn ex K = (true, He.valD fn)
def hookX (n : Nat) (fa : List He.Fa) (fn : List He.DefD) (ex : List (PySem.W.Frag → Bool)) : PySem.W.Hook where
  α := AlX
  obs := fun s => obsXG n fa fn ex s.heap.get?
  val := fun _ => (true, He.valD fn)
  says := fun _ h => ∃ K : PySem.W.Frag, K.In h ∧ SaysX fa fn ex K
  of := fun _ _ e => ⟨_, frX_in, e⟩
  keeps := fun _ _ _ ⟨K, hK, c⟩ k => ⟨K, PySem.W.Frag.In.keeps hK k, c⟩
theorem obsX_eq {n : Nat} {fa : List He.Fa} {fn : List He.DefD} {ex : List (PySem.W.Frag → Bool)} {g : Addr → Option Obj} {s : Shared} (h : ∀ a, g a = s.heap.get? a) : obsXG n fa fn ex g = (hookX n fa fn ex).obs s := by
  have e : g = s.heap.get? := funext h
  rw [e]
  rfl
theorem SaysX.d {fa : List He.Fa} {fn : List He.DefD} {ex : List (PySem.W.Frag → Bool)} {K : PySem.W.Frag} (c : SaysX fa fn ex K) : He.SaysD fa fn K := congrArg (fun z : AlX => z.2) c
theorem SaysX.ex {fa : List He.Fa} {fn : List He.DefD} {ex : List (PySem.W.Frag → Bool)} {K : PySem.W.Frag} (c : SaysX fa fn ex K) (i : Nat) {f : PySem.W.Frag → Bool} (h : ex[i]? = some f := by rfl) : f K = true := by
  have c1 : (ex.all fun f => f K) = true := congrArg (fun z : AlX => z.1) c
  exact List.all_eq_true.mp c1 f (List.mem_of_getElem? h)
/-! the law's own table -/
def tabB (x : Str) (K : PySem.W.Frag) : Bool := match PySem.W.tabIn K x with
  | some (_, P) => (K.lookup P).isNone
  | none => false
theorem tabB_ok {x : Str} {K : PySem.W.Frag} (h : tabB x K = true) : ∃ c P, PySem.W.tabIn K x = some (c, P) ∧ K.lookup P = none := by
  unfold tabB at h
  split at h
  · rename_i c P e
    exact ⟨c, P, e, Option.isNone_iff_eq_none.mp h⟩
  · cases h
/-! the classes of errors -/
def exNm : Exn → Str
  | .na => "NotAllowed"
  | .tl => "TooLarge"
  | .mi => "Missing"
  | .bf _ => "BadForm"
  | .br _ => "Broken"
def clsK (K : PySem.W.Frag) (k : Exn) : Value := .ref (He.ga K (exNm k))
def excB (K : PySem.W.Frag) (D : Addr) : Bool :=
  decide (PySem.W.findIn K (.ref D) "__getattribute__" = some (some (.builtin "BaseException.__getattribute__"))) && (decide (PySem.W.findIn K (.ref D) "__getattr__" = some none) && (decide (PySem.W.subIn K (.ref D) (.type "BaseException") = some true) &&
    (PySem.W.hasDictIn K D && (decide (PySem.W.findIn K (.ref D) "__class__" = some (some (.builtin "object.__class__"))) && (decide (PySem.W.specialIn K (.builtin "object.__class__") "__get__" = some (some (.builtin "getset_descriptor.__get__"))) &&
      (decide (PySem.W.takesIn K (.builtin "object.__class__") = some true) && decide (PySem.W.mroIn K D (.type "object") = some true)))))))
theorem excB_ok {K : PySem.W.Frag} {D : Addr} (h : excB K D = true) : ExcC K D := by
  unfold excB at h
  simp only [Bool.and_eq_true, decide_eq_true_eq] at h
  obtain ⟨h1, h2, h3, h4, h5, h6, h7, h8⟩ := h
  exact ⟨h1, h2, h3, h4, h5, h6, h7, h8⟩
def plainN : List Str := ["NotAllowed", "TooLarge", "Missing"]
def kindB (K : PySem.W.Frag) (i : Nat) : Bool := (List.range 5).all fun j => decide (PySem.W.kitOne K (.ref (He.ga K (plainN.getD i ""))) (.ref (He.ga K (clsN.getD j ""))) = some (j == i))
def toldB (K : PySem.W.Frag) : Bool := (List.range 3).all fun i => excB K (He.ga K (plainN.getD i "")) && (decide (PySem.W.exmOne K (.ref (He.ga K (plainN.getD i ""))) (.ref (He.ga K "MeetError")) = some true) && kindB K i)
theorem plain_nm {k : Exn} (h : k.plain = true) : k.ix < 3 ∧ exNm k = plainN.getD k.ix "" := by
  cases k <;> first | exact ⟨by decide, rfl⟩ | cases h
structure ToldFn (K : PySem.W.Frag) (mg : Str → Option Value) : Prop where
  fn : ∃ (g : Addr) (fd : FuncData) (pr : Arguments) (body : List Stmt) (sc : Scope), FunD K "_law_told" "_law_told" pr body sc [] [] g fd ∧ mg "_law_told" = some (.ref g) ∧ Binds K fd ["call"] [] ∧ FnScope toldN ["call"] sc ∧ ∃ t : TPos, body = t.body ∧ toldC sc t = true
theorem told_ok {K : PySem.W.Frag} {h : Heap} {mg : Str → Option Value} {prog : Program} {w : World} {base : Heap} {T : List (Addr × Str)} (X : K.In h) (G : h.Ns mainGlobals mg) (g : ∀ x ∈ ("MeetError" : Str) :: clsN, (He.Fa.glo x).ok K = true) (t : toldB K = true) (f : ToldFn K mg) : ToldOk ⟨prog, w, K, mg, base, T, clsK K⟩ := by
  have part : ∀ k : Exn, k.plain = true → excB K (He.ga K (exNm k)) = true ∧ PySem.W.exmOne K (.ref (He.ga K (exNm k))) (.ref (He.ga K "MeetError")) = some true ∧ kindB K k.ix = true := fun k hk => by
    obtain ⟨h1, h2⟩ := plain_nm hk
    have q := List.all_eq_true.mp t k.ix (List.mem_range.mpr h1)
    simp only [Bool.and_eq_true, decide_eq_true_eq] at q
    rw [h2]
    exact ⟨q.1, q.2.1, q.2.2⟩
  refine ⟨⟨_, He.glo_ok X G (g _ List.mem_cons_self), fun k hk => (part k hk).2.1⟩, fun i hi => ⟨_, He.glo_ok X G (g _ (List.mem_cons_of_mem _ ?_)), fun k hk => ?_⟩, fun k hk => ⟨_, rfl, excB_ok (part k hk).1⟩, f.fn⟩
  · rw [List.getD_eq_getElem?_getD, List.getElem?_eq_getElem (show i < clsN.length from hi)]
    exact List.getElem_mem _
  · have q := List.all_eq_true.mp (part k hk).2.2 i (List.mem_range.mpr hi)
    have q := of_decide_eq_true q
    rw [← (plain_nm hk).2] at q
    exact q
/-! needs, one by one -/
section
variable {Γ : Gm} {k j n : Nat} {tl : Prop} {x : Str} {f : Fn} {d : D} {N : Need}
theorem nd_call (h : CalleeOk Γ j x n f) (hj : j ≤ k + 1) : NeedOk Γ k tl (.call x n f) := by
  unfold NeedOk
  exact h.mono hj
theorem nd_deep (h : NeedOk Γ j False N) : NeedOk Γ (j + 2) tl (.deep N) := ⟨j, rfl, h⟩
theorem nd_inner (h : NeedOk Γ k False N) : NeedOk Γ k tl (.inner N) := h
theorem nd_tell (T : ToldOk Γ) (t : tl) : NeedOk Γ (j + 2) tl .tell := ⟨⟨j, rfl, T⟩, t⟩
theorem nd_key (t : tl) : NeedOk Γ (j + 2) tl .key := ⟨⟨j, rfl⟩, t⟩
theorem nd_int {i : Int} (h : ∃ t, Γ.mg x = some (.int i t)) : NeedOk Γ k tl (.glob x (.int i)) := by
  obtain ⟨t, e⟩ := h
  exact ⟨.int i, _, e, ⟨t, rfl⟩, fun B => .int i⟩
theorem nd_str {s : Str} (h : ∃ t, Γ.mg x = some (.str s t)) : NeedOk Γ k tl (.glob x (.str s)) := by
  obtain ⟨t, e⟩ := h
  exact ⟨.str s, _, e, ⟨t, rfl⟩, fun B => .str s⟩
end
theorem nd_exn {K : PySem.W.Frag} {h : Heap} {mg : Str → Option Value} {prog : Program} {w : World} {base : Heap} {T : List (Addr × Str)} {k : Nat} {tl : Prop} {e : Exn} (X : K.In h) (G : h.Ns mainGlobals mg) (g : (He.Fa.glo (exNm e)).ok K = true) (c : (He.Fa.exc (exNm e)).ok K = true) :
    NeedOk ⟨prog, w, K, mg, base, T, clsK K⟩ k tl (.exn (exNm e) e) := by
  obtain ⟨h1, h2, h3, h4⟩ := He.exc_ok c
  exact ⟨_, He.glo_ok X G g, rfl, h1, h2, h3, h4⟩
end Pv
namespace Pv
open PySem PySem.Spec PyProof.Rows L2
/-! the facts of a law's head, by what they are of -/
def faOf (fn : List He.DefD) (more : List He.Fa) : List He.Fa := fn.map (fun d => He.Fa.glo d.name) ++ (blts.map He.Fa.free ++ more)
section
variable {fn : List He.DefD} {more : List He.Fa} {ex : List (PySem.W.Frag → Bool)} {K : PySem.W.Frag} {h : Heap} {mg : Str → Option Value}
theorem says_fact (c : SaysX (faOf fn more) fn ex K) {f : He.Fa} (m : f ∈ faOf fn more) : f.ok K = true := by
  obtain ⟨i, hi, e⟩ := List.getElem_of_mem m
  exact c.d.fact i (by rw [List.getElem?_eq_getElem hi, e])
theorem says_glo (c : SaysX (faOf fn more) fn ex K) {d : He.DefD} (m : d ∈ fn) : (He.Fa.glo d.name).ok K = true := says_fact c (List.mem_append_left _ (List.mem_map.mpr ⟨d, m, rfl⟩))
theorem says_more (c : SaysX (faOf fn more) fn ex K) {f : He.Fa} (m : f ∈ more) : f.ok K = true := says_fact c (List.mem_append_right _ (List.mem_append_right _ m))
theorem says_gm (c : SaysX (faOf fn more) fn ex K) (X : K.In h) (G : h.Ns mainGlobals mg) : ∀ x ∈ blts, mg x = none := fun x m => He.free_ok X G (says_fact c (List.mem_append_right _ (List.mem_append_left _ (List.mem_map.mpr ⟨x, m, rfl⟩))))
theorem says_def (c : SaysX (faOf fn more) fn ex K) (X : K.In h) (G : h.Ns mainGlobals mg) {i : Nat} {d : He.DefD} (e : fn[i]? = some d) : (∃ fd, FunD K d.name d.qual d.params d.body d.scope (d.dvs K) (d.kws K) (He.fAd K d.at_) fd) ∧ mg d.name = some (.ref (He.ga K d.name)) :=
  ⟨c.d.def_ i e, He.glo_ok X G (says_glo c (List.mem_of_getElem? e))⟩
theorem says_int (c : SaysX (faOf fn more) fn ex K) (X : K.In h) (G : h.Ns mainGlobals mg) {x : Str} {i : Int} (m : He.Fa.int x i ∈ more) : ∃ t, mg x = some (.int i t) := He.int_ok X G (says_more c m)
theorem says_str (c : SaysX (faOf fn more) fn ex K) (X : K.In h) (G : h.Ns mainGlobals mg) {x z : Str} (m : He.Fa.str x z ∈ more) : ∃ t, mg x = some (.str z t) := He.str_ok X G (says_more c m)
/-- the law's def and its table -/
theorem tabF_of {f : Addr} {fd : FuncData} {x : Str} {ps : Arguments} {body : List Stmt} {sc : Scope} {co P : Addr} {prog : Program} {w : World} {base : Heap} {cls : Exn → Value} (X : K.In h) (G : h.Ns mainGlobals mg) (F : FunD K x x ps body sc [] [] f fd) (hm : mg x = some (.ref f)) (ht : PySem.W.tabIn K x = some (co, P)) (tb : LamX.TabB base mg co P) :
    TabF ⟨prog, w, K, mg, base, [(P, x ++ ".<locals>." ++ "<lambda>")], cls⟩ fd x := by
  have e : fd.code = .ref co := by
    obtain ⟨oc, od, dV, kV, doc, pm, an, cdv, ct, osl, rfl, lk, _⟩ := F.ex
    exact PySem.W.law_code X G ht hm (X _ _ lk) rfl
  exact ⟨co, P, tb, e, List.mem_cons_self, fun p hp _ => by
    cases hp with
    | head => rfl
    | tail _ z => cases z⟩
end
end Pv
namespace Pv
open PySem PySem.Spec PyProof.Rows L2
/-! several defs with lambdas: their tables -/
def coP (K : PySem.W.Frag) (x : Str) : Addr × Addr := (PySem.W.tabIn K x).getD (0, 0)
def tabsB (xs : List Str) (K : PySem.W.Frag) : Bool := xs.all (fun x => tabB x K) && decide ((xs.map fun x => (coP K x).2).Nodup)
def csOf (K : PySem.W.Frag) (xs : List Str) : List (Addr × Addr) := xs.map (coP K)
def TOf (K : PySem.W.Frag) (xs : List Str) : List (Addr × Str) := xs.map fun x => ((coP K x).2, x ++ ".<locals>." ++ "<lambda>")
theorem nodup_inj {α β : Type} {f : α → β} : ∀ {xs : List α}, (xs.map f).Nodup → ∀ {a b : α}, a ∈ xs → b ∈ xs → f a = f b → a = b
  | x :: xs, h, a, b, ha, hb, e => by
    rw [List.map_cons, List.nodup_cons] at h
    rcases List.mem_cons.mp ha with ea | ma <;> rcases List.mem_cons.mp hb with eb | mb
    · rw [ea, eb]
    · exact (h.1 (List.mem_map.mpr ⟨b, mb, by rw [← e, ea]⟩)).elim
    · exact (h.1 (List.mem_map.mpr ⟨a, ma, by rw [e, eb]⟩)).elim
    · exact nodup_inj h.2 ma mb e
section
variable {xs : List Str} {K : PySem.W.Frag} {h : Heap} {mg : Str → Option Value}
theorem tabsB_at (ok : tabsB xs K = true) {x : Str} (hx : x ∈ xs) : PySem.W.tabIn K x = some (coP K x) ∧ K.lookup (coP K x).2 = none := by
  unfold tabsB at ok
  rw [Bool.and_eq_true] at ok
  obtain ⟨co, P, e, n⟩ := tabB_ok (List.all_eq_true.mp ok.1 x hx)
  have c : coP K x = (co, P) := by unfold coP; rw [e]; rfl
  rw [c]
  exact ⟨e, n⟩
theorem tabF_multi {f : Addr} {fd : FuncData} {x : Str} {ps : Arguments} {body : List Stmt} {sc : Scope} {prog : Program} {w : World} {base : Heap} {cls : Exn → Value} (X : K.In h) (G : h.Ns mainGlobals mg) (F : FunD K x x ps body sc [] [] f fd) (hm : mg x = some (.ref f)) (hx : x ∈ xs) (ok : tabsB xs K = true) (tb : ∀ p ∈ csOf K xs, LamX.TabB base mg p.1 p.2) :
    TabF ⟨prog, w, K, mg, base, TOf K xs, cls⟩ fd x := by
  obtain ⟨ht, _⟩ := tabsB_at ok hx
  have e : fd.code = .ref (coP K x).1 := by
    obtain ⟨oc, od, dV, kV, doc, pm, an, cdv, ct, osl, rfl, lk, _⟩ := F.ex
    exact PySem.W.law_code X G ht hm (X _ _ lk) rfl
  refine ⟨(coP K x).1, (coP K x).2, tb _ (List.mem_map.mpr ⟨x, hx, rfl⟩), e, List.mem_map.mpr ⟨x, hx, rfl⟩, fun p hp q => ?_⟩
  obtain ⟨y, hy, rfl⟩ := List.mem_map.mp hp
  unfold tabsB at ok
  rw [Bool.and_eq_true] at ok
  rw [nodup_inj (of_decide_eq_true ok.2) hy hx q]
theorem tabsAt_of (ok : tabsB xs K = true) (tb : ∀ x ∈ xs, PySem.W.CodeHd h (coP K x).1 (coP K x).2 ∧ h.get? (coP K x).2 = some { cls := .none, data := .fields #[] }) : TabsAt K h (csOf K xs) (TOf K xs) where
  tab := fun p hp => by
    obtain ⟨x, hx, rfl⟩ := List.mem_map.mp hp
    exact (tb x hx).2
  new := fun p hp => by
    obtain ⟨x, hx, rfl⟩ := List.mem_map.mp hp
    exact (tabsB_at ok hx).2
  hd := fun p hp => by
    obtain ⟨x, hx, rfl⟩ := List.mem_map.mp hp
    exact (tb x hx).1
  nm := fun q hq => by
    obtain ⟨x, hx, rfl⟩ := List.mem_map.mp hq
    exact ⟨_, List.mem_map.mpr ⟨x, hx, rfl⟩, rfl⟩
end
end Pv
namespace Pv
open PySem PySem.Spec PyProof.Rows L2
/-! reckoning with meanings -/
@[simp] theorem slot_d (d : D) : Arg.slot (.d d) = .val d := rfl
@[simp] theorem slot_cell : Arg.slot .cell = .cell := rfl
@[simp] theorem slot_scr (ds : List D) : Arg.slot (.scr ds) = .scr ds := rfl
@[simp] theorem flow_nx (ρ : Env) (n : MS) : flow (.nx ρ) n = n ρ := rfl
@[simp] theorem flow_bk (ρ : Env) (n : MS) : flow (.bk ρ) n = pure (.bk ρ) := rfl
@[simp] theorem flow_ct (ρ : Env) (n : MS) : flow (.ct ρ) n = pure (.ct ρ) := rfl
@[simp] theorem flow_rt (d : D) (n : MS) : flow (.rt d) n = pure (.rt d) := rfl
@[simp] theorem again_nx (ρ : Env) (n : MS) : again (.nx ρ) n = n ρ := rfl
@[simp] theorem again_ct (ρ : Env) (n : MS) : again (.ct ρ) n = n ρ := rfl
@[simp] theorem again_bk (ρ : Env) (n : MS) : again (.bk ρ) n = pure (.nx ρ) := rfl
@[simp] theorem again_rt (d : D) (n : MS) : again (.rt d) n = pure (.rt d) := rfl
@[simp] theorem outF_rt (d : D) : outF (.rt d) = pure d := rfl
@[simp] theorem outF_nx (ρ : Env) : outF (.nx ρ) = pure .none := rfl
@[simp] theorem asB_bool (b : Bool) : asB (.bool b) = pure b := rfl
@[simp] theorem asI_int (i : Int) : asI (.int i) = pure i := rfl
theorem whileN_succ (mc : ME) (mb : MS) (n : Nat) (ρ : Env) : whileN mc mb (n + 1) ρ = mc ρ >>= fun d => asB d >>= fun c => if c = true then mb ρ >>= fun f => again f (whileN mc mb n) else pure (.nx ρ) := rfl
@[simp] theorem forN_nil (t : TM) (mb : MS) (ρ : Env) : forN t mb [] ρ = pure (.nx ρ) := rfl
theorem forN_nm (i : Nat) (mb : MS) (d : D) (r : List D) (ρ : Env) : forN (tN i) mb (d :: r) ρ = mb (ρ.set i (.val d)) >>= fun f => again f (forN (tN i) mb r) := rfl
@[simp] theorem add_int (i j : Int) : addD (.int i) (.int j) = pure (.int (i + j)) := rfl
@[simp] theorem sub_int (i j : Int) : subD (.int i) (.int j) = pure (.int (i - j)) := rfl
theorem mul_int {i j : Int} (h : i.natAbs < BIG ∧ j.natAbs < BIG) : mulD (.int i) (.int j) = pure (.int (i * j)) := if_pos h
theorem fdiv_int {i j : Int} (h : j ≠ 0 ∧ j.natAbs < DB) : fdivD (.int i) (.int j) = pure (.int (i.fdiv j)) := if_pos h
theorem mod_int {i j : Int} (h : j ≠ 0) : modD (.int i) (.int j) = pure (.int (i.fmod j)) := if_pos h
@[simp] theorem neg_int (i : Int) : negD (.int i) = pure (.int (-i)) := rfl
@[simp] theorem lt_int (i j : Int) : ltD (.int i) (.int j) = pure (.bool (decide (i < j))) := rfl
@[simp] theorem le_int (i j : Int) : leD (.int i) (.int j) = pure (.bool (decide (i ≤ j))) := rfl
@[simp] theorem gt_int (i j : Int) : gtD (.int i) (.int j) = pure (.bool (decide (j < i))) := rfl
@[simp] theorem ge_int (i j : Int) : geD (.int i) (.int j) = pure (.bool (decide (j ≤ i))) := rfl
@[simp] theorem eq_int (i j : Int) : eqD (.int i) (.int j) = pure (.bool (i == j)) := rfl
@[simp] theorem eq_bool (i j : Bool) : eqD (.bool i) (.bool j) = pure (.bool (i == j)) := rfl
@[simp] theorem eq_str (i j : Str) : eqD (.str i) (.str j) = pure (.bool (i == j)) := rfl
@[simp] theorem ne_str (i j : Str) : neD (.str i) (.str j) = pure (.bool (!(i == j))) := rfl
@[simp] theorem ne_int (i j : Int) : neD (.int i) (.int j) = pure (.bool (!(i == j))) := rfl
@[simp] theorem ne_bool (i j : Bool) : neD (.bool i) (.bool j) = pure (.bool (!(i == j))) := rfl
@[simp] theorem abs_int (i : Int) : absD (.int i) = pure (.int i.natAbs) := rfl
@[simp] theorem int_int (i : Int) : intD (.int i) = pure (.int i) := rfl
@[simp] theorem int_bool (b : Bool) : intD (.bool b) = pure (.int (if b then 1 else 0)) := rfl
@[simp] theorem len_list (xs : List D) : lenD (.list xs) = pure (.int xs.length) := rfl
@[simp] theorem len_tuple (xs : List D) : lenD (.tuple xs) = pure (.int xs.length) := rfl
@[simp] theorem ix_list (xs : List D) (i : Int) : ixD (.list xs) (.int i) = optM (atI xs i) := rfl
@[simp] theorem ix_tuple (xs : List D) (i : Int) : ixD (.tuple xs) (.int i) = optM (atI xs i) := rfl
@[simp] theorem optM_some (d : D) : optM (some d) = pure d := rfl
@[simp] theorem items_list (xs : List D) : itemsD (.list xs) = pure xs := rfl
@[simp] theorem items_tuple (xs : List D) : itemsD (.tuple xs) = pure xs := rfl
@[simp] theorem seqOf_list (xs : List D) : seqOf (.list xs) = pure xs := rfl
@[simp] theorem seqOf_tuple (xs : List D) : seqOf (.tuple xs) = pure xs := rfl
@[simp] theorem zip_list (xs ys : List D) : zipD (.list xs) (.list ys) = pure (zipL xs ys) := rfl
@[simp] theorem zip_tuple (xs ys : List D) : zipD (.tuple xs) (.tuple ys) = pure (zipL xs ys) := rfl
@[simp] theorem onSome_some {α β : Type} (a : α) (f : α → M β) : onSome (some a) f = f a := rfl
@[simp] theorem slice_list (xs : List D) (lo hi : Option Int) : sliceD (.list xs) lo hi = pure (.list (cutD xs lo hi)) := rfl
@[simp] theorem slice_tuple (xs : List D) (lo hi : Option Int) : sliceD (.tuple xs) lo hi = pure (.tuple (cutD xs lo hi)) := rfl
@[simp] theorem ownSl_list (xs : List D) : ownSl (.list xs) = pure (.own xs) := rfl
@[simp] theorem max2_int (i j : Int) : max2D (.int i) (.int j) = pure (.int (max i j)) := rfl
@[simp] theorem min2_int (i j : Int) : min2D (.int i) (.int j) = pure (.int (min i j)) := rfl
@[simp] theorem ap_v1 (f : D → M D) (m : ME) (ρ : Env) : (v1 f m) ρ = m ρ >>= f := rfl
@[simp] theorem ap_v2 (f : D → D → M D) (m n : ME) (ρ : Env) : (v2 f m n) ρ = m ρ >>= fun x => n ρ >>= f x := rfl
@[simp] theorem ap_vC (d : D) (ρ : Env) : (vC d) ρ = pure d := rfl
@[simp] theorem ap_vNot (m : ME) (ρ : Env) : (vNot m) ρ = m ρ >>= fun d => asB d >>= fun b => pure (.bool (!b)) := rfl
@[simp] theorem ap_vAnd (m n : ME) (ρ : Env) : (vAnd m n) ρ = m ρ >>= fun d => asB d >>= fun b => if b = true then n ρ else pure (.bool false) := rfl
@[simp] theorem ap_vOr (m n : ME) (ρ : Env) : (vOr m n) ρ = m ρ >>= fun d => asB d >>= fun b => if b = true then pure (.bool true) else n ρ := rfl
@[simp] theorem ap_vIf (c m n : ME) (ρ : Env) : (vIf c m n) ρ = c ρ >>= fun d => asB d >>= fun b => if b = true then m ρ else n ρ := rfl
@[simp] theorem ap_vChain (f g : D → D → M D) (a b c : ME) (ρ : Env) : (vChain f g a b c) ρ = a ρ >>= fun x => b ρ >>= fun y => f x y >>= fun d => asB d >>= fun k => if k = true then c ρ >>= g y else pure (.bool false) := rfl
@[simp] theorem ap_vTup (m : MA) (ρ : Env) : (vTup m) ρ = m ρ >>= fun xs => pure (.tuple xs) := rfl
@[simp] theorem ap_vLst (m : MA) (ρ : Env) : (vLst m) ρ = m ρ >>= fun xs => pure (.list xs) := rfl
@[simp] theorem ap_aNil  (ρ : Env) : aNil ρ = pure [] := rfl
@[simp] theorem ap_aCons (m : ME) (r : MA) (ρ : Env) : (aCons m r) ρ = m ρ >>= fun x => r ρ >>= fun xs => pure (x :: xs) := rfl
@[simp] theorem ap_gNil  (ρ : Env) : gNil ρ = pure [] := rfl
@[simp] theorem ap_gCons (m : ME) (r : MG) (ρ : Env) : (gCons m r) ρ = m ρ >>= fun x => r ρ >>= fun xs => pure (.d x :: xs) := rfl
@[simp] theorem ap_vCall (f : Fn) (m : MG) (ρ : Env) : (vCall f m) ρ = m ρ >>= f := rfl
@[simp] theorem ap_oNo  (ρ : Env) : oNo ρ = pure none := rfl
@[simp] theorem ap_oYes (m : ME) (ρ : Env) : (oYes m) ρ = m ρ >>= fun d => asI d >>= fun i => pure (some i) := rfl
@[simp] theorem ap_vSl (m : ME) (l h : MO) (ρ : Env) : (vSl m l h) ρ = m ρ >>= fun d => l ρ >>= fun lo => h ρ >>= fun hi => sliceD d lo hi := rfl
@[simp] theorem ap_iSeq (m : ME) (ρ : Env) : (iSeq m) ρ = m ρ >>= itemsD := rfl
@[simp] theorem ap_iR1 (m : ME) (ρ : Env) : (iR1 m) ρ = m ρ >>= fun d => asI d >>= fun j => rngM 0 j := rfl
@[simp] theorem ap_iR2 (m n : ME) (ρ : Env) : (iR2 m n) ρ = m ρ >>= fun d => n ρ >>= fun e => asI d >>= fun i => asI e >>= fun j => rngM i j := rfl
@[simp] theorem ap_iZip (m n : ME) (ρ : Env) : (iZip m n) ρ = m ρ >>= fun d => n ρ >>= fun e => zipD d e := rfl
@[simp] theorem ap_iEn (m : ME) (ρ : Env) : (iEn m) ρ = m ρ >>= fun d => seqOf d >>= fun xs => pure (enL xs) := rfl
@[simp] theorem ap_vLc (own : List Nat) (i : MI) (t : TM) (mt me : ME) (ρ : Env) : (vLc own i t mt me) ρ = i ρ >>= fun ds => collect (turnM t mt me (wipeE ρ own)) ds >>= fun xs => pure (.list xs) := rfl
@[simp] theorem ap_sNil  (ρ : Env) : sNil ρ = pure (.nx ρ) := rfl
@[simp] theorem ap_sSeq (m n : MS) (ρ : Env) : (sSeq m n) ρ = m ρ >>= fun f => flow f n := rfl
@[simp] theorem ap_sRet (m : ME) (ρ : Env) : (sRet m) ρ = m ρ >>= fun d => pure (.rt d) := rfl
@[simp] theorem ap_sDrop (m : ME) (ρ : Env) : (sDrop m) ρ = m ρ >>= fun _ => pure (.nx ρ) := rfl
@[simp] theorem ap_sIf (c : ME) (a b : MS) (ρ : Env) : (sIf c a b) ρ = c ρ >>= fun d => asB d >>= fun c => if c = true then a ρ else b ρ := rfl
@[simp] theorem ap_sBrk  (ρ : Env) : sBrk ρ = pure (.bk ρ) := rfl
@[simp] theorem ap_sCt  (ρ : Env) : sCt ρ = pure (.ct ρ) := rfl
@[simp] theorem ap_sSet (i : Nat) (m : ME) (ρ : Env) : (sSet i m) ρ = m ρ >>= fun d => pure (.nx (ρ.set i (.val d))) := rfl
@[simp] theorem ap_slV (m : ME) (ρ : Env) : (slV m) ρ = m ρ >>= fun d => pure (.val d) := rfl
@[simp] theorem ap_slN (m : ME) (ρ : Env) : (slN m) ρ = m ρ >>= ownSl := rfl
@[simp] theorem ap_sNew (i : Nat) (m : MSl) (ρ : Env) : (sNew i m) ρ = m ρ >>= fun s => pure (.nx (ρ.set i s)) := rfl
@[simp] theorem ap_sParN (i j : Nat) (a b : MSl) (ρ : Env) : (sParN i j a b) ρ = a ρ >>= fun s => b ρ >>= fun t => pure (.nx ((ρ.set i s).set j t)) := rfl
@[simp] theorem ap_sWhile (f : Env → Nat) (c : ME) (b : MS) (ρ : Env) : (sWhile f c b) ρ = whileN c b (f ρ) ρ := rfl
@[simp] theorem ap_sFor (i : MI) (t : TM) (b : MS) (ρ : Env) : (sFor i t b) ρ = i ρ >>= fun ds => forN t b ds ρ := rfl
@[simp] theorem ap_sApp (i : Nat) (m : ME) (ρ : Env) : (sApp i m) ρ = ownL ρ i >>= fun ds => m ρ >>= fun d => if ds.length < sizeLine then pure (.nx (ρ.set i (.own (ds ++ [d])))) else bad := rfl
def slotV : Slot → M D
  | .val d => pure d
  | _ => bad
@[simp] theorem slotV_val (d : D) : slotV (.val d) = pure d := rfl
@[simp] theorem ap_vVar (i : Nat) (ρ : Env) : vVar i ρ = slotV (ρ.getD i .none) := rfl
def slotP : Slot → M D
  | .val d => pure d
  | .own ds => pure (.list ds)
  | .ownd es => pure (.dict es)
  | _ => bad
@[simp] theorem slotP_val (d : D) : slotP (.val d) = pure d := rfl
@[simp] theorem slotP_own (d : List D) : slotP (.own d) = pure (.list d) := rfl
@[simp] theorem ap_vPeek (i : Nat) (ρ : Env) : vPeek i ρ = slotP (ρ.getD i .none) := rfl
def slotC : Slot → M Unit
  | .cell => pure ()
  | _ => bad
@[simp] theorem slotC_cell : slotC .cell = pure () := rfl
@[simp] theorem ap_isCell (i : Nat) (ρ : Env) : isCell ρ i = slotC (ρ.getD i .none) := rfl
def slotS : Slot → M D
  | .scr ds => pure (.list ds)
  | _ => bad
@[simp] theorem slotS_scr (d : List D) : slotS (.scr d) = pure (.list d) := rfl
@[simp] theorem ap_vScr (i : Nat) (ρ : Env) : vScr i ρ = slotS (ρ.getD i .none) := rfl
def slotO : Slot → M (List D)
  | .own ds => pure ds
  | _ => bad
@[simp] theorem slotO_own (d : List D) : slotO (.own d) = pure d := rfl
@[simp] theorem ap_ownL (i : Nat) (ρ : Env) : ownL ρ i = slotO (ρ.getD i .none) := rfl
def slotK (i : Nat) (m : MS) (ρ : Env) : Slot → M Fl
  | .own ds => m (ρ.set i (.val (.list ds)))
  | .ownd es => m (ρ.set i (.val (.dict es)))
  | _ => m ρ
@[simp] theorem slotK_own (i : Nat) (m : MS) (ρ : Env) (d : List D) : slotK i m ρ (.own d) = m (ρ.set i (.val (.list d))) := rfl
@[simp] theorem slotK_val (i : Nat) (m : MS) (ρ : Env) (d : D) : slotK i m ρ (.val d) = m ρ := rfl
@[simp] theorem ap_sKeep (i : Nat) (m : MS) (ρ : Env) : sKeep i m ρ = slotK i m ρ (ρ.getD i .none) := rfl
def slotDa : Slot → M (List (D × D))
  | .ownd es => pure es
  | .lockd es => pure es
  | _ => bad
@[simp] theorem slotDa_own (d : List (D × D)) : slotDa (.ownd d) = pure d := rfl
@[simp] theorem slotDa_lock (d : List (D × D)) : slotDa (.lockd d) = pure d := rfl
@[simp] theorem ap_dictAt (i : Nat) (ρ : Env) : dictAt ρ i = slotDa (ρ.getD i .none) := rfl
def slotOd : Slot → M (List (D × D))
  | .ownd es => pure es
  | _ => bad
@[simp] theorem slotOd_own (d : List (D × D)) : slotOd (.ownd d) = pure d := rfl
@[simp] theorem ap_ownD (i : Nat) (ρ : Env) : ownD ρ i = slotOd (ρ.getD i .none) := rfl
def slotKl : Slot → M (List D)
  | .lockd es => if es.length ≤ sizeLine then pure (es.map (·.1)) else bad
  | _ => bad
@[simp] theorem slotKl_lock (es : List (D × D)) : slotKl (.lockd es) = if es.length ≤ sizeLine then pure (es.map (·.1)) else bad := rfl
@[simp] theorem ap_iKeysL (i : Nat) (ρ : Env) : iKeysL i ρ = slotKl (ρ.getD i .none) := rfl
def slotLd (f : List (D × D) → M D) : Slot → M D
  | .ownd es => nox (f es)
  | _ => bad
@[simp] theorem slotLd_own (f : List (D × D) → M D) (es : List (D × D)) : slotLd f (.ownd es) = nox (f es) := rfl
@[simp] theorem ap_vLcD (i : Nat) (own : List Nat) (tm : TM) (mt me : ME) (ρ : Env) : vLcD i own tm mt me ρ = slotLd (fun es => vLc own (iKeysL i) tm mt me (ρ.set i (.lockd es))) (ρ.getD i .none) := rfl
@[simp] theorem ap_vDget (i : Nat) (m : ME) (ρ : Env) : vDget i m ρ = (dictAt ρ i >>= fun es => m ρ >>= fun kd => keyM kd >>= fun k => optM (dLook es k)) := rfl
@[simp] theorem keyM_int (i : Int) : keyM (.int i) = pure (.inl i) := rfl
@[simp] theorem keyM_str (x : Str) : keyM (.str x) = pure (.inr x) := rfl
@[simp] theorem ap_sDput (i : Nat) (k m : ME) (ρ : Env) : sDput i k m ρ = (m ρ >>= fun d => ownD ρ i >>= fun es => k ρ >>= fun kd => keyM kd >>= fun k => if es.length < sizeLine then pure (.nx (ρ.set i (.ownd (dPutL es k d)))) else bad) := rfl
@[simp] theorem ap_vMeth (f : D → D → M D) (a b : ME) (ρ : Env) : vMeth f a b ρ = (a ρ >>= fun d => isLst d >>= fun _ => b ρ >>= f d) := rfl
@[simp] theorem isLst_list (ds : List D) : isLst (.list ds) = pure () := rfl
def cellG (m : MG) : Slot → M (List Arg) := fun _ => bad
def slotG (m : M (List Arg)) : Slot → M (List Arg)
  | .cell => m >>= fun xs => pure (.cell :: xs)
  | _ => bad
@[simp] theorem slotG_cell (m : M (List Arg)) : slotG m .cell = (m >>= fun xs => pure (.cell :: xs)) := rfl
@[simp] theorem ap_gCell (i : Nat) (m : MG) (ρ : Env) : (gCell i m) ρ = slotG (m ρ) (ρ.getD i .none) := rfl
def slotH (m : M (List Arg)) : Slot → M (List Arg)
  | .scr ds => m >>= fun xs => pure (.scr ds :: xs)
  | _ => bad
@[simp] theorem slotH_scr (m : M (List Arg)) (ds : List D) : slotH m (.scr ds) = (m >>= fun xs => pure (.scr ds :: xs)) := rfl
@[simp] theorem ap_gScr (i : Nat) (m : MG) (ρ : Env) : (gScr i m) ρ = slotH (m ρ) (ρ.getD i .none) := rfl
@[simp] theorem ap_vCell (i : Nat) (m : ME) (ρ : Env) : vCell i m ρ = (isCell ρ i >>= fun _ => m ρ >>= fun kd => asI kd >>= fun k => getS >>= fun ds => optM (atI ds k)) := rfl
@[simp] theorem ap_sCell (i : Nat) (k m : ME) (ρ : Env) : sCell i k m ρ = (m ρ >>= fun d => isCell ρ i >>= fun _ => k ρ >>= fun kd => asI kd >>= fun k => getS >>= fun ds => onSome (ixN ds.length k) fun j => putS (ds.set j d) >>= fun _ => pure (.nx ρ)) := rfl
@[simp] theorem den_E_var (i : Nat) : (E.var i).den = vVar i := rfl
@[simp] theorem den_E_peek (i : Nat) : (E.peek i).den = vPeek i := rfl
@[simp] theorem den_E_scr (i : Nat) : (E.scr i).den = vScr i := rfl
@[simp] theorem den_E_int (n : Int) : (E.int n).den = vC (.int n) := rfl
@[simp] theorem den_E_str (s : Str) : (E.str s).den = vC (.str s) := rfl
@[simp] theorem den_E_bl (b : Bool) : (E.bl b).den = vC (.bool b) := rfl
@[simp] theorem den_E_non  : (E.non ).den = vC .none := rfl
@[simp] theorem den_E_glob (x : Str) (d : D) : (E.glob x d).den = vC d := rfl
@[simp] theorem den_E_bin (o : Bop) (a b : E) : (E.bin o a b).den = v2 o.sem a.den b.den := rfl
@[simp] theorem den_E_un (o : Uop) (a : E) : (E.un o a).den = v1 o.sem a.den := rfl
@[simp] theorem den_E_cmp (o : Cop) (a b : E) : (E.cmp o a b).den = v2 o.sem a.den b.den := rfl
@[simp] theorem den_E_chain (o o' : Cop) (a b c : E) : (E.chain o o' a b c).den = vChain o.sem o'.sem a.den b.den c.den := rfl
@[simp] theorem den_E_chain3 (o o' o2 : Cop) (a b c d : E) : (E.chain3 o o' o2 a b c d).den = vChain3 o.sem o'.sem o2.sem a.den b.den c.den d.den := rfl
@[simp] theorem den_E_told (a : E) : (E.told a).den = vTold a.den := rfl
@[simp] theorem den_E_toldD (a : E) : (E.toldD a).den = vTold a.den := rfl
@[simp] theorem den_E_srtSet (a : E) : (E.srtSet a).den = v1 srtSetD a.den := rfl
@[simp] theorem den_E_sortLen (a : E) : (E.sortLen a).den = v1 sortLenD a.den := rfl
@[simp] theorem den_E_lc2 (o o1 : List (Str × Nat)) (it : It) (t : T) (c : Oe) (it1 : It) (t1 : T) (c1 : Oe) (e : E) : (E.lc2 o o1 it t c it1 t1 c1 e).den = vLc2 (o.map (·.2)) (o1.map (·.2)) it.den t.den c.denC it1.den t1.den c1.denC e.den := rfl
@[simp] theorem den_E_rg1 (t : Bool) (a : E) : (E.rg1 t a).den = vRg1 t a.den := rfl
@[simp] theorem den_E_rg2 (t : Bool) (a b : E) : (E.rg2 t a b).den = vRg2 t a.den b.den := rfl
@[simp] theorem den_E_not (a : E) : (E.not a).den = vNot a.den := rfl
@[simp] theorem den_E_ands (a : Es) : (E.ands a).den = a.denAnd := rfl
@[simp] theorem den_E_ors (a : Es) : (E.ors a).den = a.denOr := rfl
@[simp] theorem den_E_ite (c a b : E) : (E.ite c a b).den = vIf c.den a.den b.den := rfl
@[simp] theorem den_E_ix (a b : E) : (E.ix a b).den = v2 ixD a.den b.den := rfl
@[simp] theorem den_E_cell (i : Nat) (k : E) : (E.cell i k).den = vCell i k.den := rfl
@[simp] theorem den_E_sl (a : E) (l h : Oe) : (E.sl a l h).den = vSl a.den l.den h.den := rfl
@[simp] theorem den_E_tup (a : Es) : (E.tup a).den = vTup a.den := rfl
@[simp] theorem den_E_lst (a : Es) : (E.lst a).den = vLst a.den := rfl
@[simp] theorem den_E_tupS (a : Es) : (E.tupS a).den = vTupS a.den := rfl
@[simp] theorem den_E_lstS (a : Es) : (E.lstS a).den = vLstS a.den := rfl
@[simp] theorem den_E_fmt (a : E) : (E.fmt a).den = v1 fmtD a.den := rfl
@[simp] theorem den_E_fstr (a : Es) : (E.fstr a).den = vJs a.denL := rfl
@[simp] theorem den_E_call (x : Str) (f : Fn) (a : As) : (E.call x f a).den = vCall f a.den := rfl
@[simp] theorem den_E_b1 (b : B1) (a : E) : (E.b1 b a).den = v1 b.sem a.den := rfl
@[simp] theorem den_E_b2 (b : B2) (a c : E) : (E.b2 b a c).den = v2 b.sem a.den c.den := rfl
@[simp] theorem den_E_lc (o : List (Str × Nat)) (it : It) (t : T) (e : E) : (E.lc o it t e).den = vLc (o.map (·.2)) it.den t.den (vC (.bool true)) e.den := rfl
@[simp] theorem den_E_lcIf (o : List (Str × Nat)) (it : It) (t : T) (c e : E) : (E.lcIf o it t c e).den = vLc (o.map (·.2)) it.den t.den c.den e.den := rfl
@[simp] theorem den_E_dget (i : Nat) (k : E) : (E.dget i k).den = vDget i k.den := rfl
@[simp] theorem den_E_lcD (o : List (Str × Nat)) (i : Nat) (t : T) (c e : E) : (E.lcD o i t c e).den = vLcD i (o.map (·.2)) t.den c.den e.den := rfl
@[simp] theorem den_E_mth (m : Mt) (a b : E) : (E.mth m a b).den = vMeth m.sem a.den b.den := rfl
@[simp] theorem den_Oe_no  : (Oe.no ).den = oNo := rfl
@[simp] theorem den_Oe_yes (e : E) : (Oe.yes e).den = oYes e.den := rfl
@[simp] theorem den_Es_nil  : (Es.nil ).den = aNil := rfl
@[simp] theorem den_Es_cons (e : E) (r : Es) : (Es.cons e r).den = aCons e.den r.den := rfl
@[simp] theorem den_Es_star (e : E) (r : Es) : (Es.star e r).den = aStar e.den r.den := rfl
@[simp] theorem den_As_nil  : (As.nil ).den = gNil := rfl
@[simp] theorem den_As_cons (e : E) (r : As) : (As.cons e r).den = gCons e.den r.den := rfl
@[simp] theorem den_As_cell (i : Nat) (r : As) : (As.cell i r).den = gCell i r.den := rfl
@[simp] theorem den_As_scr (i : Nat) (r : As) : (As.scr i r).den = gScr i r.den := rfl
@[simp] theorem den_It_seq (e : E) : (It.seq e).den = iSeq e.den := rfl
@[simp] theorem den_It_r1 (e : E) : (It.r1 e).den = iR1 e.den := rfl
@[simp] theorem den_It_r2 (a b : E) : (It.r2 a b).den = iR2 a.den b.den := rfl
@[simp] theorem den_It_zip (a b : E) : (It.zip a b).den = iZip a.den b.den := rfl
@[simp] theorem den_It_en (e : E) : (It.en e).den = iEn e.den := rfl
@[simp] theorem den_T_nm (i : Nat) : (T.nm i).den = tN i := rfl
@[simp] theorem den_Sl_val (e : E) : (Sl.val e).den = slV e.den := rfl
@[simp] theorem den_Sl_lst (e : Es) : (Sl.lst e).den = slN (vLst e.den) := rfl
@[simp] theorem den_Sl_rep (a b : E) : (Sl.rep a b).den = slN (v2 mulD a.den b.den) := rfl
@[simp] theorem den_Sl_dct  : (Sl.dct ).den = slN (vC (.dict [])) := rfl
@[simp] theorem den_St_dput (i : Nat) (k e : E) : (St.dput i k e).den = sDput i k.den e.den := rfl
@[simp] theorem den_St_raise (k : Exn) (x : Str) : (St.raise k x).den = sRaise k := rfl
@[simp] theorem den_St_parC (i j : Nat) (a b : Sl) : (St.parC i j a b).den = sParN i j a.den b.den := rfl
@[simp] theorem den_St_pass  : (St.pass ).den = sNil := rfl
@[simp] theorem den_St_brk  : (St.brk ).den = sBrk := rfl
@[simp] theorem den_St_ct  : (St.ct ).den = sCt := rfl
@[simp] theorem den_St_ret (e : E) : (St.ret e).den = sRet e.den := rfl
@[simp] theorem den_St_expr (e : E) : (St.expr e).den = sDrop e.den := rfl
@[simp] theorem den_St_set (i : Nat) (e : E) : (St.set i e).den = sSet i e.den := rfl
@[simp] theorem den_St_setC (i : Nat) (e : E) : (St.setC i e).den = sSet i e.den := rfl
@[simp] theorem den_St_setF (i : Nat) (e : E) : (St.setF i e).den = sSet i e.den := rfl
@[simp] theorem den_St_new (i : Nat) (s : Sl) : (St.new i s).den = sNew i s.den := rfl
@[simp] theorem den_St_par (i j : Nat) (a b : Sl) : (St.par i j a b).den = sParN i j a.den b.den := rfl
@[simp] theorem den_St_asg (l : List Nat) (e : E) : (St.asg l e).den = sAsg (T.tup l).den e.den := rfl
@[simp] theorem den_St_app (i : Nat) (e : E) : (St.app i e).den = sApp i e.den := rfl
@[simp] theorem den_St_ext (i : Nat) (e : E) : (St.ext i e).den = sExt i e.den := rfl
@[simp] theorem den_St_pop (t : T) (i : Nat) : (St.pop t i).den = sPop t.den i := rfl
@[simp] theorem den_St_ixset (i : Nat) (k e : E) : (St.ixset i k e).den = sIxSet i k.den e.den := rfl
@[simp] theorem den_St_cell (i : Nat) (k e : E) : (St.cell i k e).den = sCell i k.den e.den := rfl
@[simp] theorem den_St_ite (c : E) (a b : Sts) : (St.ite c a b).den = sIf c.den a.den b.den := rfl
@[simp] theorem den_St_whl (f : Env → Nat) (c : E) (b : Sts) : (St.whl f c b).den = sWhile f c.den b.den := rfl
@[simp] theorem den_St_for_ (i : It) (t : T) (b : Sts) : (St.for_ i t b).den = sFor i.den t.den b.den := rfl
@[simp] theorem den_St_keep (i : Nat) (s : St) : (St.keep i s).den = sKeep i s.den := rfl
@[simp] theorem den_Sts_nil  : (Sts.nil ).den = sNil := rfl
@[simp] theorem den_Sts_cons (s : St) (r : Sts) : (Sts.cons s r).den = sSeq s.den r.den := rfl
@[simp] theorem denAnd_1 (e : E) : (Es.cons e .nil).denAnd = e.den := rfl
@[simp] theorem denAnd_2 (e f : E) (r : Es) : (Es.cons e (.cons f r)).denAnd = vAnd e.den (Es.cons f r).denAnd := rfl
@[simp] theorem denOr_1 (e : E) : (Es.cons e .nil).denOr = e.den := rfl
@[simp] theorem denOr_2 (e f : E) (r : Es) : (Es.cons e (.cons f r)).denOr = vOr e.den (Es.cons f r).denOr := rfl
@[simp] theorem denC_0 : Oe.no.denC = vC (.bool true) := rfl
@[simp] theorem denC_1 (e : E) : (Oe.yes e).denC = e.den := rfl
@[simp] theorem denL_0 : Es.nil.denL = [] := rfl
@[simp] theorem denL_1 (e : E) (r : Es) : (Es.cons e r).denL = e.den :: r.denL := rfl
@[simp] theorem bop_add : Bop.add.sem = addD := rfl
@[simp] theorem bop_sub : Bop.sub.sem = subD := rfl
@[simp] theorem bop_mul : Bop.mul.sem = mulD := rfl
@[simp] theorem bop_fdiv : Bop.fdiv.sem = fdivD := rfl
@[simp] theorem bop_mod : Bop.mod.sem = modD := rfl
@[simp] theorem bop_pow : Bop.pow.sem = powD := rfl
@[simp] theorem bop_shl : Bop.shl.sem = shlD := rfl
@[simp] theorem bop_shr : Bop.shr.sem = shrD := rfl
@[simp] theorem bop_and : Bop.and.sem = andD := rfl
@[simp] theorem bop_or : Bop.or.sem = orD := rfl
@[simp] theorem bop_xor : Bop.xor.sem = xorD := rfl
@[simp] theorem uop_neg : Uop.neg.sem = negD := rfl
@[simp] theorem uop_inv : Uop.inv.sem = invD := rfl
@[simp] theorem cop_eq : Cop.eq.sem = eqD := rfl
@[simp] theorem cop_ne : Cop.ne.sem = neD := rfl
@[simp] theorem cop_lt : Cop.lt.sem = ltD := rfl
@[simp] theorem cop_le : Cop.le.sem = leD := rfl
@[simp] theorem cop_gt : Cop.gt.sem = gtD := rfl
@[simp] theorem cop_ge : Cop.ge.sem = geD := rfl
@[simp] theorem cop_isIn : Cop.isIn.sem = inD := rfl
@[simp] theorem cop_notIn : Cop.notIn.sem = notInD := rfl
@[simp] theorem cop_isN : Cop.isN.sem = isND := rfl
@[simp] theorem cop_notN : Cop.notN.sem = notND := rfl
@[simp] theorem b1_len : B1.len.sem = lenD := rfl
@[simp] theorem b1_abs : B1.abs.sem = absD := rfl
@[simp] theorem b1_int : B1.int.sem = intD := rfl
@[simp] theorem b1_max : B1.max.sem = maxD := rfl
@[simp] theorem b1_min : B1.min.sem = minD := rfl
@[simp] theorem b1_sum : B1.sum.sem = sumD := rfl
@[simp] theorem b1_all : B1.all.sem = allD := rfl
@[simp] theorem b1_any : B1.any.sem = anyD := rfl
@[simp] theorem b1_sorted : B1.sorted.sem = sortedD := rfl
@[simp] theorem b1_str : B1.str.sem = strD := rfl
@[simp] theorem b1_repr : B1.repr.sem = reprD := rfl
@[simp] theorem b1_tuple : B1.tuple.sem = tupleD := rfl
@[simp] theorem b1_list : B1.list.sem = listD := rfl
@[simp] theorem mt_sem_index : Mt.index.sem = indexD := rfl
@[simp] theorem mt_sem_count : Mt.count.sem = countD := rfl
@[simp] theorem b2_max : B2.max.sem = max2D := rfl
@[simp] theorem b2_min : B2.min.sem = min2D := rfl
theorem runB_eq (n : Nat) (b : MS) (l : List Arg) : runB n b l = b (l.map Arg.slot ++ List.replicate (n - l.length) .none) >>= outF := rfl
theorem fold_nx {m : M Fl} (ρ : Env) (h : m = pure (.nx ρ)) : m = pure (.nx ρ) := h
end Pv
namespace Pv
open PySem PySem.Spec PyProof.Rows L2
/-! what may be shown -/
structure Sho (n w : Nat) (d : D) : Prop where
  lay : d.canLay0 = true
  sh : d.showable = true
  dp : d.depth ≤ n
  len : d.shown.length ≤ w
theorem Sho.up {n m w v : Nat} {d : D} (h : Sho n w d) (l : n ≤ m) (l2 : w ≤ v) : Sho m v d := ⟨h.lay, h.sh, Nat.le_trans h.dp l, Nat.le_trans h.len l2⟩
theorem sho_int {i : Int} {k : Nat} (h : i.natAbs < 2 ^ k) (h0 : 0 < k) (hk : k ≤ 1920) : Sho 0 (k + 1) (.int i) := by
  have l := PySem.Flt.log2_lt_of h0 h
  have l2 := int_text_length_le h0 l
  refine ⟨by simp only [PyData.canLay0], ?_, by simp [PyData.depth], ?_⟩
  · simp only [PyData.showable, decide_eq_true_eq]; omega
  · simp only [PyData.shown]
    show (Str.ofString (toString i)).length ≤ k + 1
    rw [PySem.ofString_length]
    exact l2
theorem sho_bool (b : Bool) : Sho 0 5 (.bool b) := by
  refine ⟨by simp only [PyData.canLay0], by simp only [PyData.showable], by simp [PyData.depth], ?_⟩
  simp only [PyData.shown]
  cases b <;> decide
structure ShoAll (n w : Nat) (ds : List D) : Prop where
  lay : PyData.canLayAll0 ds = true
  sh : PyData.showableAll ds = true
  dp : PyData.depthAll ds ≤ n
  len : ∀ t ∈ PyData.shownAll ds, t.length ≤ w
  ln : (PyData.shownAll ds).length = ds.length
theorem sho_all {n w : Nat} : ∀ {ds : List D}, (∀ d ∈ ds, Sho n w d) → ShoAll n w ds
  | [], _ => ⟨by simp only [PyData.canLayAll0], by simp only [PyData.showableAll], by simp [PyData.depthAll], fun t h => (by simp only [PyData.shownAll] at h; cases h), by simp [PyData.shownAll]⟩
  | d :: r, h => by
    have h1 := h d List.mem_cons_self
    have h2 := sho_all (ds := r) fun x hx => h x (List.mem_cons_of_mem _ hx)
    refine ⟨by simp only [PyData.canLayAll0, h1.lay, h2.lay, Bool.and_self], by simp only [PyData.showableAll, h1.sh, h2.sh, Bool.and_self], ?_, fun t ht => ?_, by simp only [PyData.shownAll, List.length_cons, h2.ln]⟩
    · have := h1.dp
      have := h2.dp
      simp only [PyData.depthAll]
      omega
    · simp only [PyData.shownAll] at ht
      cases ht with
      | head => exact h1.len
      | tail _ z => exact h2.len t z
theorem text_len (w : Nat) : ∀ (ts : List Str) (k : Nat) (acc : Str), (∀ t ∈ ts, t.length ≤ w) → (textFrom k acc ts).length ≤ acc.length + ts.length * (w + 2)
  | [], k, acc, _ => by unfold textFrom; omega
  | t :: r, k, acc, h => by
    have i := text_len w r (k + 1) (acc ++ (if k > 0 then ", " else "" : String) ++ t) fun x hx => h x (List.mem_cons_of_mem _ hx)
    have e : (acc ++ (if k > 0 then ", " else "" : String) ++ t).length ≤ acc.length + (w + 2) := by
      rw [strLen_append, strLen_append]
      have := h t List.mem_cons_self
      have : (((if k > 0 then ", " else "" : String) : Str)).length ≤ 2 := by split <;> decide
      omega
    unfold textFrom
    rw [List.length_cons, Nat.succ_mul]
    omega
theorem sho_list {n w : Nat} {ds : List D} (h : ∀ d ∈ ds, Sho n w d) : Sho (n + 1) (ds.length * (w + 2) + 2) (.list ds) := by
  have a := sho_all h
  refine ⟨by simp only [PyData.canLay0]; exact a.lay, by simp only [PyData.showable]; exact a.sh, by simp only [PyData.depth]; have := a.dp; omega, ?_⟩
  simp only [PyData.shown, listText]
  rw [strLen_append]
  have := text_len w (PyData.shownAll ds) 0 "[" a.len
  rw [a.ln] at this
  have e1 : ((("[" : String) : Str)).length = 1 := rfl
  have e2 : ((("]" : String) : Str)).length = 1 := rfl
  omega
theorem sho_tup {n w : Nat} {ds : List D} (h : ∀ d ∈ ds, Sho n w d) : Sho (n + 1) (ds.length * (w + 2) + 3) (.tuple ds) := by
  have a := sho_all h
  refine ⟨by simp only [PyData.canLay0]; exact a.lay, by simp only [PyData.showable]; exact a.sh, by simp only [PyData.depth]; have := a.dp; omega, ?_⟩
  simp only [PyData.shown, tupleText]
  rw [strLen_append, strLen_append]
  have j := StrLaws.join_length_le ", " (PyData.shownAll ds)
  have s : ∀ (ts : List Str), (∀ t ∈ ts, t.length ≤ w) → (ts.map (·.length)).sum ≤ ts.length * w := by
    intro ts
    induction ts with
    | nil => intro _; simp
    | cons t r ih =>
      intro h
      have i := ih fun x hx => h x (List.mem_cons_of_mem _ hx)
      have := h t List.mem_cons_self
      rw [List.map_cons, List.sum_cons, List.length_cons, Nat.succ_mul]
      omega
  have s := s _ a.len
  rw [a.ln] at j s
  have e0 : (((", " : String) : Str)).length = 2 := rfl
  rw [e0] at j
  have e1 : ((("(" : String) : Str)).length = 1 := rfl
  have e2 : (((if (PyData.shownAll ds).length == 1 then ",)" else ")" : String) : Str)).length ≤ 2 := by split <;> decide
  have : ds.length * (w + 2) = ds.length * w + ds.length * 2 := Nat.mul_add ..
  omega
theorem repr_ok {n w : Nat} {d : D} (h : Sho n w d) (hn : n ≤ 60) (hw : w ≤ 16777216) : reprD d = pure (.str d.shown) := by
  unfold reprD
  rw [if_pos ⟨h.lay, h.sh, Nat.le_trans h.dp hn, Nat.le_trans h.len (by show w ≤ sizeLine; rw [sizeLine_eq]; exact hw)⟩]
end Pv
namespace Pv
open PySem PySem.Spec PyProof.Rows L2
/-! texts that may be shown -/
def Signs (x : Str) : Prop := ∀ c ∈ x.cps.toList, c < 0x110000
theorem char_lt (c : Char) : c.toNat < 0x110000 := by
  have h := c.valid
  simp only [UInt32.isValidChar, Nat.isValidChar] at h
  have ht : c.toNat = c.val.toNat := rfl
  omega
theorem signs_app {x y : Str} (h : Signs x) (h2 : Signs y) : Signs (x ++ y) := by
  intro c hc
  have e : (x ++ y).cps.toList = x.cps.toList ++ y.cps.toList := Array.toList_append
  rw [e] at hc
  cases List.mem_append.mp hc with
  | inl z => exact h c z
  | inr z => exact h2 c z
theorem signs_of (s : String) : Signs (Str.ofString s) := by
  intro c hc
  rw [Str.ofString_eq_toList] at hc
  have hc : c ∈ s.toList.map Char.toNat := hc
  obtain ⟨d, _, rfl⟩ := List.mem_map.mp hc
  exact char_lt d
theorem sho_str {x : Str} {n : Nat} (h : Signs x) (hl : x.length ≤ n) : Sho 0 (10 * n + 2) (.str x) := by
  refine ⟨?_, by simp only [PyData.showable], by simp [PyData.depth], ?_⟩
  · simp only [PyData.canLay0]
    unfold PyData.strOk
    rw [Array.all_eq_true_iff_forall_mem]
    intro c hc
    exact decide_eq_true (h c (Array.mem_toList_iff.mpr hc))
  · simp only [PyData.shown]
    have z := StrLaws.reprText_len x fun c hc => Nat.lt_of_lt_of_le (h c hc) (by decide)
    omega
end Pv
namespace Pv.Sh
open PySem PySem.Spec PyProof.Rows L2
/-! the helpers that all laws share: their terms and what they do -/
def n__law_stream : List Str := ["script", "numbers", "cell", "rest", "k", "stirred"]
def b__law_stream : Sts := (.cons (.new 1 (.lst .nil))
 (.cons (.for_ (.seq (.sl (.scr 0) .no (.yes (.int 63)))) (.nm 2)
 (.cons (.set 3 (.b1 .abs (.b1 .int (.var 2))))
 (.cons (.ite (.cmp .ge (.var 3) (.bin .pow (.int 10) (.int 18)))
 (.cons (.for_ (.r1 (.int 60)) (.nm 4)
 (.cons (.app 1 (.bin .mod (.b1 .int (.var 3)) (.int 1009)))
 (.cons (.set 3 (.bin .fdiv (.var 3) (.int 1009)))
 (.cons (.ite (.cmp .eq (.var 3) (.int 0))
 (.cons .brk
 .nil)
 .nil)
 .nil))))
 .nil)
 (.cons (.set 5 (.bin .mod (.b1 .int (.var 3)) (.int 2147483647)))
 (.cons (.for_ (.r1 (.int 10)) (.nm 4)
 (.cons (.set 5 (.bin .mod (.b1 .int (.bin .add (.bin .add (.bin .mul (.var 5) (.int 48271)) (.bin .mul (.int 7) (.var 4))) (.int 11))) (.int 2147483647)))
 (.cons (.app 1 (.bin .mod (.bin .mod (.b1 .int (.bin .add (.bin .mul (.var 5) (.int 69621)) (.var 4))) (.int 2147483629)) (.int 1009)))
 .nil)))
 .nil)))
 .nil)))
 (.cons (.ite (.cmp .eq (.b1 .len (.peek 1)) (.int 0))
 (.cons (.app 1 (.int 0))
 .nil)
 .nil)
 (.cons (.keep 1 (.ret (.var 1)))
 .nil))))
def f__law_stream : Fn := runB n__law_stream.length b__law_stream.den
def n__law_same : List Str := ["told", "due"]
def b__law_same : Sts := (.cons (.ret (.cmp .eq (.b1 .repr (.lst (.cons (.var 0) .nil))) (.b1 .repr (.lst (.cons (.var 1) .nil)))))
 .nil)
def f__law_same : Fn := runB n__law_same.length b__law_same.den
def n__law_next : List Str := ["state", "many", "turn"]
def b__law_next : Sts := (.cons (.cell 0 (.int 1) (.bin .add (.cell 0 (.int 1)) (.int 1)))
 (.cons (.set 2 (.bin .fdiv (.cell 0 (.int 1)) (.b1 .len (.cell 0 (.int 0)))))
 (.cons (.ret (.bin .mod (.b1 .int (.bin .add (.bin .add (.ix (.cell 0 (.int 0)) (.bin .mod (.cell 0 (.int 1)) (.b1 .len (.cell 0 (.int 0))))) (.bin .mul (.var 2) (.int 389))) (.bin .mul (.bin .mul (.cell 0 (.int 1)) (.var 2)) (.int 17)))) (.var 1)))
 .nil)))
def f__law_next : Fn := runB n__law_next.length b__law_next.den
theorem fmod_nat (a b : Nat) : (a : Int).fmod (b : Int) = ((a % b : Nat) : Int) := by
  rw [Int.fmod_eq_emod_of_nonneg _ (by omega)]; rfl
@[simp] theorem at0 {α : Type} (a : α) (r : List α) : atI (a :: r) 0 = some a := by simp [atI, ixN]
@[simp] theorem at1 {α : Type} (a b : α) (r : List α) : atI (a :: b :: r) 1 = some b := by
  have h : (1 : Int) < (r.length : Int) + 1 + 1 := by omega
  simp [atI, ixN, h]
theorem at_nat {α : Type} (xs : List α) (i : Nat) : atI xs (i : Int) = xs[i]? := by
  unfold atI ixN
  rw [if_pos (by omega)]
  by_cases h : i < xs.length
  · rw [if_pos (by omega)]; rfl
  · rw [if_neg (by omega), List.getElem?_eq_none (by omega)]; rfl
@[simp] theorem cut1 (a : D) (r : List D) : cutD (a :: r) (some 1) none = r := by
  have h : (1 : Int) < (r.length : Int) + 1 + 1 := by omega
  simp [cutD, HT.sIx]
theorem collect_pure {f : D → M (Option D)} : ∀ {α : Type} (l : List α) (h g : α → D), (∀ a ∈ l, f (h a) = pure (some (g a))) → collect f (l.map h) = pure (l.map g)
  | _, [], _, _, _ => rfl
  | _, a :: r, h, g, e => by
    have i := collect_pure r h g fun x hx => e x (List.mem_cons_of_mem _ hx)
    rw [List.map_cons]
    unfold collect
    rw [e a List.mem_cons_self, pure_bnd, i]
    rfl
theorem fits {x : Str} {n : Nat} (h : x.length ≤ n) (hn : n ≤ 100000) : x.length ≤ sizeLine := by
  rw [sizeLine_eq]
  omega
theorem same_eq {d : D} {n w : Nat} (h : Sho n w d) (hn : n ≤ 59) (hw : w ≤ 16000000) : f__law_same [.d d, .d d] = pure (.bool true) := by
  have s : Sho (n + 1) (1 * (w + 2) + 2) (.list [d]) := sho_list (ds := [d]) fun x hx => by
    rw [List.mem_singleton.mp hx]
    exact h
  have r := repr_ok s (by omega) (by omega)
  simp [f__law_same, runB_eq, n__law_same, b__law_same, r]
def StOk (n : Nat) (S : SS) : Prop := ∃ (s : List Int) (t : Nat), S = some [.list (s.map PyData.int), .int t] ∧ s ≠ [] ∧ s.length ≤ 10000 ∧ t ≤ n
@[simp] theorem getS_at (ds : List D) : getS (some ds) = .ok ds (some ds) := rfl
@[simp] theorem putS_at (ds : List D) (S : SS) : putS ds S = .ok () (some ds) := rfl
@[simp] theorem pure_at {α : Type} (a : α) (S : SS) : (pure a : M α) S = .ok a S := rfl
theorem bind_ok2 {α β : Type} {m : M α} {f : α → M β} {S S' : SS} {a : α} (h : m S = .ok a S') : (m >>= f) S = f a S' := by
  rw [bind_at, h]
@[simp] theorem getS_bind {β : Type} (f : List D → M β) (ds : List D) : (getS >>= f) (some ds) = f ds (some ds) := rfl
@[simp] theorem putS_bind {β : Type} (f : Unit → M β) (ds : List D) (S : SS) : (putS ds >>= f) S = f () (some ds) := rfl
@[simp] theorem ixN1 : ixN 2 1 = some 1 := rfl
theorem big_small {n : Nat} (h : n < 2 ^ 200) : n < BIG := big_of h (by decide)
theorem next_eq {n many : Nat} {S : SS} (h : StOk n S) (hn : n ≤ 2 ^ 40) (hm : 0 < many) : ∃ (v : Nat) (S' : SS), v < many ∧ f__law_next [.cell, .d (.int many)] S = .ok (.int v) S' ∧ StOk (n + 1) S' := by
  obtain ⟨s, t, rfl, hs, hs2, ht⟩ := h
  have l0 : 0 < s.length := List.length_pos_iff.mpr hs
  have c : ((t : Int) + 1) = ((t + 1 : Nat) : Int) := by omega
  have f1 : fdivD (.int ((t : Int) + 1)) (.int (s.length : Int)) = pure (.int (((t + 1) / s.length : Nat) : Int)) := by
    rw [fdiv_int ⟨by omega, db_of (k := 200) (Nat.lt_of_le_of_lt (show (s.length : Int).natAbs ≤ 10000 by omega) (by decide)) (by decide)⟩, c, Int.fdiv_eq_ediv_of_nonneg _ (by omega)]
    rfl
  have m1 : modD (.int ((t : Int) + 1)) (.int (s.length : Int)) = pure (.int (((t + 1) % s.length : Nat) : Int)) := by
    rw [mod_int (by omega), c, fmod_nat]
  have r1 : (t + 1) % s.length < s.length := Nat.mod_lt _ l0
  have a1 : atI (s.map PyData.int) ((((t + 1) % s.length : Nat)) : Int) = some (.int s[(t + 1) % s.length]) := by
    rw [at_nat, List.getElem?_map, List.getElem?_eq_getElem r1]
    rfl
  have q1 : (t + 1) / s.length ≤ t + 1 := Nat.div_le_self _ _
  generalize hq : (t + 1) / s.length = q at *
  generalize hr : (t + 1) % s.length = r at *
  have b1 : ∀ m : Nat, m < 2 ^ 200 → ((m : Int)).natAbs < BIG := fun m h => by simpa using big_small h
  have n1 : t + 1 < 2 ^ 200 := Nat.lt_of_le_of_lt (show t + 1 ≤ 2 ^ 40 + 1 by omega) (by decide)
  have n2 : q < 2 ^ 200 := Nat.lt_of_le_of_lt q1 n1
  have n3 : (t + 1) * q < 2 ^ 200 := Nat.lt_of_le_of_lt (Nat.mul_le_mul (show t + 1 ≤ 2 ^ 40 + 1 by omega) (show q ≤ 2 ^ 40 + 1 by omega)) (by decide)
  have u1 : mulD (.int (q : Int)) (.int 389) = pure (.int ((q : Int) * 389)) := mul_int ⟨b1 q n2, b1 389 (by decide)⟩
  have u2 : mulD (.int ((t : Int) + 1)) (.int (q : Int)) = pure (.int (((t : Int) + 1) * q)) := by
    rw [c, mul_int ⟨b1 _ n1, b1 q n2⟩]
  have u3 : mulD (.int (((t : Int) + 1) * q)) (.int 17) = pure (.int (((t : Int) + 1) * q * 17)) := by
    rw [c, ← Int.natCast_mul]
    exact mul_int ⟨b1 _ n3, b1 17 (by decide)⟩
  have mm : (many : Int) ≠ 0 := by omega
  simp only [f__law_next, runB_eq, n__law_next, b__law_next]
  simp [f1, m1, a1, u1, u2, u3, mod_int mm]
  generalize s[r] + (q : Int) * 389 + ((t : Int) + 1) * q * 17 = z
  have z1 : 0 ≤ z % many := Int.emod_nonneg _ mm
  have z2 : z % many < many := Int.emod_lt_of_pos _ (by omega)
  refine ⟨(z % many).toNat, by omega, some [.list (s.map PyData.int), .int ((t : Int) + 1)], ?_, s, t + 1, rfl, hs, hs2, by omega⟩
  rw [Int.fmod_eq_emod_of_nonneg _ (by omega), Int.toNat_of_nonneg z1]
  exact ⟨rfl, rfl⟩
theorem next_lit {n : Nat} {m : Int} {S : SS} (h : StOk n S) (hn : n ≤ 2 ^ 40) (hm : 0 < m) : ∃ (v : Int) (S' : SS), 0 ≤ v ∧ v < m ∧ f__law_next [.cell, .d (.int m)] S = .ok (.int v) S' ∧ StOk (n + 1) S' := by
  obtain ⟨k, rfl⟩ := Int.eq_ofNat_of_zero_le (Int.le_of_lt hm)
  obtain ⟨v, S', a, b, c⟩ := next_eq h hn (many := k) (by omega)
  exact ⟨v, S', by omega, by omega, b, c⟩
theorem at_pick {α : Type} (a b : α) (P : Prop) [Decidable P] : atI [a, b] (if P then 1 else 0) = some (if P then b else a) := by split <;> simp
@[simp] theorem cut63 (xs : List D) : cutD xs none (some 63) = xs.take 63 := by
  have e : HT.sIx xs.length xs.length (some 63) = min 63 xs.length := HT.sIx_nat _ _ 63
  have e0 : HT.sIx xs.length 0 none = 0 := rfl
  unfold cutD
  rw [e, e0, List.drop_zero, Nat.sub_zero, List.take_eq_take_iff]
  omega
theorem rng60 : rngM 0 60 = pure ((List.range 60).map fun i => PyData.int (i : Nat)) := by
  unfold rngM rngL
  rw [if_pos ⟨by decide, by decide⟩]
  simp
theorem rng10 : rngM 0 10 = pure ((List.range 10).map fun i => PyData.int (i : Nat)) := by
  unfold rngM rngL
  rw [if_pos ⟨by decide, by decide⟩]
  simp
theorem long_loop (p : Slot) (q : Slot) (z : Slot) : ∀ (l : List Nat) (acc : List Int) (rest : Int) (s4 : Slot), acc.length + l.length ≤ 10000 → ∃ (acc' : List Int) (r' s' : Slot), acc'.length ≤ acc.length + l.length ∧ (l ≠ [] → acc' ≠ []) ∧ (acc ≠ [] → acc' ≠ []) ∧
    forN (tN 4) (sSeq (sApp 1 (v2 modD (v1 intD (vVar 3)) (vC (.int 1009)))) (sSeq (sSet 3 (v2 fdivD (vVar 3) (vC (.int 1009)))) (sSeq (sIf (v2 eqD (vVar 3) (vC (.int 0))) (sSeq sBrk sNil) sNil) sNil))) (l.map fun i => PyData.int (i : Nat)) [p, .own (acc.map PyData.int), q, .val (.int rest), s4, z] = pure (.nx [p, .own (acc'.map PyData.int), q, r', s', z])
  | [], acc, rest, s4, _ => ⟨acc, _, _, by simp, fun h => absurd rfl h, id, rfl⟩
  | k :: l, acc, rest, s4, hl => by
    rw [List.length_cons] at hl
    obtain ⟨acc', r', s', h1, h2, h3, z1⟩ := long_loop p q z l (acc ++ [rest.fmod 1009]) (rest.fdiv 1009) (.val (.int (k : Nat))) (by rw [List.length_append, List.length_singleton]; omega)
    rw [List.length_append, List.length_singleton] at h1
    have lt : (acc.map PyData.int).length < sizeLine := by rw [List.length_map, sizeLine_eq]; omega
    have m1 : modD (.int rest) (.int 1009) = pure (.int (rest.fmod 1009)) := mod_int (by decide)
    have f1 : fdivD (.int rest) (.int 1009) = pure (.int (rest.fdiv 1009)) := fdiv_int ⟨by decide, db_of (k := 200) (by decide) (by decide)⟩
    have ap : List.map PyData.int acc ++ [PyData.int (rest.fmod 1009)] = List.map PyData.int (acc ++ [rest.fmod 1009]) := by simp
    rw [List.length_map] at lt
    by_cases e : rest.fdiv 1009 = 0
    · refine ⟨acc ++ [rest.fmod 1009], .val (.int 0), .val (.int (k : Nat)), by simp, fun _ => by simp, fun _ => by simp, ?_⟩
      rw [List.map_cons, forN_nm]
      simp [m1, f1, e, lt]
    · refine ⟨acc', r', s', by rw [List.length_cons]; omega, fun _ => h3 (by simp), fun _ => h3 (by simp), ?_⟩
      rw [List.map_cons, forN_nm]
      simp [m1, f1, e, lt]
      simpa using z1
theorem short_loop (p : Slot) (q w : Slot) : ∀ (l : List Nat) (acc : List Int) (st : Int) (s4 : Slot), (∀ k ∈ l, k < 100) → 0 ≤ st → st < 2147483647 → acc.length + l.length ≤ 10000 → ∃ (acc' : List Int) (r' s' : Slot), acc'.length ≤ acc.length + l.length ∧ (l ≠ [] → acc' ≠ []) ∧ (acc ≠ [] → acc' ≠ []) ∧
    forN (tN 4) (sSeq (sSet 5 (v2 modD (v1 intD (v2 addD (v2 addD (v2 mulD (vVar 5) (vC (.int 48271))) (v2 mulD (vC (.int 7)) (vVar 4))) (vC (.int 11)))) (vC (.int 2147483647)))) (sSeq (sApp 1 (v2 modD (v2 modD (v1 intD (v2 addD (v2 mulD (vVar 5) (vC (.int 69621))) (vVar 4))) (vC (.int 2147483629))) (vC (.int 1009)))) sNil)) (l.map fun i => PyData.int (i : Nat)) [p, .own (acc.map PyData.int), q, w, s4, .val (.int st)] = pure (.nx [p, .own (acc'.map PyData.int), q, w, s', r'])
  | [], acc, st, s4, _, _, _, _ => ⟨acc, _, _, by simp, fun h => absurd rfl h, id, rfl⟩
  | k :: l, acc, st, s4, hk, g0, g1, hl => by
    rw [List.length_cons] at hl
    have k1 := hk k List.mem_cons_self
    have b1 : ∀ m : Int, 0 ≤ m → m < 2 ^ 100 → m.natAbs < BIG := fun m h h2 => big_of (k := 100) (by omega) (by decide)
    have u1 : mulD (.int st) (.int 48271) = pure (.int (st * 48271)) := mul_int ⟨b1 st g0 (by omega), b1 _ (by decide) (by decide)⟩
    have u2 : mulD (.int 7) (.int (k : Int)) = pure (.int (7 * (k : Int))) := mul_int ⟨b1 _ (by decide) (by decide), b1 _ (by omega) (by omega)⟩
    generalize hx : (st * 48271 + 7 * (k : Int) + 11).fmod 2147483647 = x
    have m1 : modD (.int (st * 48271 + 7 * (k : Int) + 11)) (.int 2147483647) = pure (.int x) := by rw [mod_int (by decide), hx]
    have x0 : 0 ≤ x := by rw [← hx, Int.fmod_eq_emod_of_nonneg _ (by decide)]; exact Int.emod_nonneg _ (by decide)
    have x1 : x < 2147483647 := by rw [← hx, Int.fmod_eq_emod_of_nonneg _ (by decide)]; exact Int.emod_lt_of_pos _ (by decide)
    have u3 : mulD (.int x) (.int 69621) = pure (.int (x * 69621)) := mul_int ⟨b1 x x0 (by omega), b1 _ (by decide) (by decide)⟩
    have m2 : modD (.int (x * 69621 + (k : Int))) (.int 2147483629) = pure (.int ((x * 69621 + (k : Int)).fmod 2147483629)) := mod_int (by decide)
    have m3 : ∀ y : Int, modD (.int y) (.int 1009) = pure (.int (y.fmod 1009)) := fun y => mod_int (by decide)
    generalize hy : ((x * 69621 + (k : Int)).fmod 2147483629).fmod 1009 = y
    obtain ⟨acc', r', s', h1, h2, h3, z1⟩ := short_loop p q w l (acc ++ [y]) x (.val (.int (k : Nat))) (fun j hj => hk j (List.mem_cons_of_mem _ hj)) x0 x1 (by rw [List.length_append, List.length_singleton]; omega)
    rw [List.length_append, List.length_singleton] at h1
    have lt : acc.length < sizeLine := by rw [sizeLine_eq]; omega
    refine ⟨acc', r', s', by rw [List.length_cons]; omega, fun _ => h3 (by simp), fun _ => h3 (by simp), ?_⟩
    rw [List.map_cons, forN_nm]
    simp [u1, u2, m1, u3, m2, m3, hy, lt]
    simpa using z1
theorem stream_loop (p : Slot) : ∀ (l : List Int) (acc : List Int) (s2 s3 s4 s5 : Slot), acc.length + l.length * 60 ≤ 9000 → ∃ (acc' : List Int) (t2 t3 t4 t5 : Slot), acc'.length ≤ acc.length + l.length * 60 ∧
    forN (tN 2) (sSeq (sSet 3 (v1 absD (v1 intD (vVar 2)))) (sSeq (sIf (v2 geD (vVar 3) (v2 powD (vC (.int 10)) (vC (.int 18)))) (sSeq (sFor (iR1 (vC (.int 60))) (tN 4) (sSeq (sApp 1 (v2 modD (v1 intD (vVar 3)) (vC (.int 1009)))) (sSeq (sSet 3 (v2 fdivD (vVar 3) (vC (.int 1009)))) (sSeq (sIf (v2 eqD (vVar 3) (vC (.int 0))) (sSeq sBrk sNil) sNil) sNil)))) sNil) (sSeq (sSet 5 (v2 modD (v1 intD (vVar 3)) (vC (.int 2147483647)))) (sSeq (sFor (iR1 (vC (.int 10))) (tN 4) (sSeq (sSet 5 (v2 modD (v1 intD (v2 addD (v2 addD (v2 mulD (vVar 5) (vC (.int 48271))) (v2 mulD (vC (.int 7)) (vVar 4))) (vC (.int 11)))) (vC (.int 2147483647)))) (sSeq (sApp 1 (v2 modD (v2 modD (v1 intD (v2 addD (v2 mulD (vVar 5) (vC (.int 69621))) (vVar 4))) (vC (.int 2147483629))) (vC (.int 1009)))) sNil))) sNil))) sNil)) (l.map PyData.int) [p, .own (acc.map PyData.int), s2, s3, s4, s5] = pure (.nx [p, .own (acc'.map PyData.int), t2, t3, t4, t5])
  | [], acc, s2, s3, s4, s5, _ => ⟨acc, _, _, _, _, by simp, rfl⟩
  | c :: l, acc, s2, s3, s4, s5, hl => by
    rw [List.length_cons, Nat.succ_mul] at hl
    have pw : powD (.int 10) (.int 18) = pure (.int 1000000000000000000) := rfl
    by_cases e : (1000000000000000000 : Int) ≤ (c.natAbs : Int)
    · obtain ⟨acc1, r1, s1, h1, _, _, z1⟩ := long_loop p (.val (.int c)) s5 (List.range 60) acc (c.natAbs : Int) s4 (by rw [List.length_range]; omega)
      rw [List.length_range] at h1
      obtain ⟨acc', t2, t3, t4, t5, h2, z2⟩ := stream_loop p l acc1 (.val (.int c)) r1 s1 s5 (by omega)
      refine ⟨acc', t2, t3, t4, t5, by rw [List.length_cons, Nat.succ_mul]; omega, ?_⟩
      rw [List.map_cons, forN_nm]
      simp [pw, e, rng60, z1]
      exact z2
    · have m1 : modD (.int (c.natAbs : Int)) (.int 2147483647) = pure (.int ((c.natAbs : Int).fmod 2147483647)) := mod_int (by decide)
      generalize hx : (c.natAbs : Int).fmod 2147483647 = x at m1
      have x0 : 0 ≤ x := by rw [← hx, Int.fmod_eq_emod_of_nonneg _ (by decide)]; exact Int.emod_nonneg _ (by decide)
      have x1 : x < 2147483647 := by rw [← hx, Int.fmod_eq_emod_of_nonneg _ (by decide)]; exact Int.emod_lt_of_pos _ (by decide)
      obtain ⟨acc1, r1, s1, h1, _, _, z1⟩ := short_loop p (.val (.int c)) (.val (.int (c.natAbs : Int))) (List.range 10) acc x s4 (fun k hk => by have := List.mem_range.mp hk; omega) x0 x1 (by rw [List.length_range]; omega)
      rw [List.length_range] at h1
      obtain ⟨acc', t2, t3, t4, t5, h2, z2⟩ := stream_loop p l acc1 (.val (.int c)) (.val (.int (c.natAbs : Int))) s1 r1 (by omega)
      refine ⟨acc', t2, t3, t4, t5, by rw [List.length_cons, Nat.succ_mul]; omega, ?_⟩
      rw [List.map_cons, forN_nm]
      simp [pw, e, rng10, m1, z1]
      exact z2
theorem stream_eq (ns : List Int) : ∃ s : List Int, s ≠ [] ∧ s.length ≤ 10000 ∧ f__law_stream [.scr (ns.map PyData.int)] = pure (.list (s.map PyData.int)) := by
  obtain ⟨acc, t2, t3, t4, t5, h, z⟩ := stream_loop (.scr (ns.map PyData.int)) (ns.take 63) [] .none .none .none .none (by have := List.length_take_le 63 ns; simp only [List.length_nil]; omega)
  have l63 := List.length_take_le 63 ns
  rw [List.length_nil] at h
  have lt : acc.length < sizeLine := by rw [sizeLine_eq]; omega
  by_cases e : acc = []
  · subst e
    refine ⟨[0], by simp, by simp, ?_⟩
    simp only [f__law_stream, runB_eq, n__law_stream, b__law_stream]
    simp [← List.map_take]
    simp at z
    have l0 : 0 < sizeLine := by rw [sizeLine_eq]; omega
    simp [z, l0]
  · refine ⟨acc, e, by omega, ?_⟩
    have e0 : (acc.length : Int) ≠ 0 := by have := List.length_pos_iff.mpr e; omega
    simp only [f__law_stream, runB_eq, n__law_stream, b__law_stream]
    simp [← List.map_take]
    simp at z
    simp [z, e]
theorem rng_nat (n : Nat) (h : n ≤ 1000) : rngM 0 (n : Int) = pure ((List.range' 0 n).map fun i => PyData.int (i : Nat)) := by
  unfold rngM rngL
  rw [if_pos ⟨by omega, by rw [sizeLine_eq]; omega⟩]
  simp [List.range_eq_range']
theorem seq_end {T : Res Fl → Prop} {m n : MS} {ρ ρ1 : Env} {S S1 : SS} (h : m ρ S = .ok (.nx ρ1) S1) (h2 : T (n ρ1 S1)) : T (sSeq m n ρ S) := by
  have e : sSeq m n ρ S = n ρ1 S1 := by
    show (m ρ >>= fun f => flow f n) S = n ρ1 S1
    rw [bind_ok2 h]
    rfl
  rw [e]
  exact h2
theorem StOk.up {n m : Nat} {S : SS} (h : StOk n S) (l : n ≤ m) : StOk m S := by
  obtain ⟨s, t, e, a, b, c⟩ := h
  exact ⟨s, t, e, a, b, by omega⟩
theorem for_r1 {e : E} {t : T} {b : Sts} {ρ ρ' : Env} {i : Int} {L : List D} {S : SS} (h : e.den ρ = pure (.int i)) (rg : rngM 0 i = pure L) (loop : forN t.den b.den L ρ = pure (.nx ρ')) : (St.for_ (.r1 e) t b).den ρ S = .ok (.nx ρ') S := by
  have z : (St.for_ (.r1 e) t b).den ρ = pure (.nx ρ') := by
    show (iR1 e.den ρ >>= fun ds => forN t.den b.den ds ρ) = _
    rw [ap_iR1, h, pure_bnd, asI_int, pure_bnd, rg, pure_bnd, loop]
  rw [z]
  rfl
end Pv.Sh
namespace Pv
open PySem PySem.Spec PyProof.Rows L2
open Pv.Sh
/-! tools for sums over meanings -/
theorem turn_ok {tm : TM} {mt me : ME} {ρ ρ' : Env} {d y : D} {b : Bool} (e : tm d ρ = some ρ') (h1 : mt ρ' = pure (.bool b)) (h2 : b = true → me ρ' = pure y) : turnM tm mt me ρ d = pure (if b = true then some y else none) := by
  unfold turnM
  rw [e]
  dsimp only
  rw [h1]
  cases b with
  | true => simp [h2 rfl]
  | false => simp
theorem collect_if {f : D → M (Option D)} : ∀ {α : Type} (l : List α) (h g : α → D) (p : α → Bool), (∀ a ∈ l, f (h a) = pure (if p a = true then some (g a) else none)) → collect f (l.map h) = pure ((l.filter p).map g)
  | _, [], _, _, _, _ => rfl
  | _, a :: r, h, g, p, e => by
    have i := collect_if r h g p fun x hx => e x (List.mem_cons_of_mem _ hx)
    rw [List.map_cons]
    unfold collect
    rw [e a List.mem_cons_self, pure_bnd, i]
    cases q : p a with
    | true => simp [q]
    | false => simp [q]
/-- a list comprehension by its turns -/
theorem lc_if {own : List Nat} {it : MI} {tm : TM} {mt me : ME} {ρ : Env} {α : Type} (l : List α) (h g : α → D) (p : α → Bool) (hi : it ρ = pure (l.map h))
    (ht : ∀ a ∈ l, turnM tm mt me (wipeE ρ own) (h a) = pure (if p a = true then some (g a) else none)) : vLc own it tm mt me ρ = pure (.list ((l.filter p).map g)) := by
  rw [ap_vLc, hi, pure_bnd, collect_if l h g p ht]
  rfl
theorem lc_all {own : List Nat} {it : MI} {tm : TM} {mt me : ME} {ρ : Env} {α : Type} (l : List α) (h g : α → D) (hi : it ρ = pure (l.map h))
    (ht : ∀ a ∈ l, turnM tm mt me (wipeE ρ own) (h a) = pure (some (g a))) : vLc own it tm mt me ρ = pure (.list (l.map g)) := by
  have z := lc_if (p := fun _ => true) l h g hi fun a ha => by rw [ht a ha]; rfl
  rw [z, List.filter_eq_self.mpr fun _ _ => rfl]
theorem turn_yes {tm : TM} {me : ME} {ρ ρ' : Env} {d y : D} (e : tm d ρ = some ρ') (h2 : me ρ' = pure y) : turnM tm (vC (.bool true)) me ρ d = pure (some y) := turn_ok (b := true) e rfl fun _ => h2
theorem rng_n (n : Nat) (h : n ≤ 1000) : rngM 0 (n : Int) = pure ((List.range n).map fun i => PyData.int (i : Nat)) := by rw [rng_nat n h, List.range_eq_range']
theorem r1_at {me : ME} {ρ : Env} {n : Nat} (h : me ρ = pure (.int (n : Int))) (hn : n ≤ 1000) : iR1 me ρ = pure ((List.range n).map fun i => PyData.int (i : Nat)) := by
  rw [ap_iR1, h, pure_bnd, asI_int, pure_bnd]
  exact rng_n n hn
theorem seq_at {me : ME} {ρ : Env} {ds : List D} (h : me ρ = pure (.tuple ds) ∨ me ρ = pure (.list ds)) : iSeq me ρ = pure ds := by
  rcases h with h | h <;> rw [ap_iSeq, h] <;> rfl
theorem for_at {it : MI} {t : TM} {mb : MS} {ρ : Env} {ds : List D} {r : M Fl} (h : it ρ = pure ds) (h2 : forN t mb ds ρ = r) : sFor it t mb ρ = r := by
  rw [ap_sFor, h, pure_bnd, h2]
/-! step by step -/
theorem run_of {m : MS} {ρ : Env} {d : D} (h : m ρ = pure (.rt d)) : (m ρ >>= outF) = pure d := by rw [h]; rfl
theorem run_thr {m : MS} {ρ : Env} {k : Exn} (h : m ρ = thr k) : (m ρ >>= outF) = thr k := by rw [h]; rfl
theorem seq_to {m n : MS} {ρ ρ1 : Env} {r : M Fl} (h : m ρ = pure (.nx ρ1)) (h2 : n ρ1 = r) : sSeq m n ρ = r := by
  rw [ap_sSeq, h, pure_bnd, flow_nx, h2]
theorem seq_rt {m n : MS} {ρ : Env} {d : D} (h : m ρ = pure (.rt d)) : sSeq m n ρ = pure (.rt d) := by
  rw [ap_sSeq, h, pure_bnd, flow_rt]
theorem set_to {i : Nat} {e : E} {d : D} {ρ : Env} (h : e.den ρ = pure d) : (St.set i e).den ρ = pure (.nx (ρ.set i (.val d))) := by rw [den_St_set, ap_sSet, h, pure_bnd]
theorem setC_to {i : Nat} {e : E} {d : D} {ρ : Env} (h : e.den ρ = pure d) : (St.setC i e).den ρ = pure (.nx (ρ.set i (.val d))) := by rw [den_St_setC, ap_sSet, h, pure_bnd]
theorem setF_to {i : Nat} {e : E} {d : D} {ρ : Env} (h : e.den ρ = pure d) : (St.setF i e).den ρ = pure (.nx (ρ.set i (.val d))) := by rw [den_St_setF, ap_sSet, h, pure_bnd]
theorem ret_to {e : E} {d : D} {ρ : Env} (h : e.den ρ = pure d) : (St.ret e).den ρ = pure (.rt d) := by rw [den_St_ret, ap_sRet, h, pure_bnd]
theorem b1_to {b : B1} {a : E} {d : D} {ρ : Env} {r : M D} (h : a.den ρ = pure d) (h2 : b.sem d = r) : (E.b1 b a).den ρ = r := by rw [den_E_b1, ap_v1, h, pure_bnd, h2]
theorem ite_to {c : E} {a b : Sts} {v : Bool} {ρ : Env} {r : M Fl} (h : c.den ρ = pure (.bool v)) (h2 : (if v = true then a.den ρ else b.den ρ) = r) : (St.ite c a b).den ρ = r := by
  rw [den_St_ite, ap_sIf, h, pure_bnd, asB_bool, pure_bnd, h2]
theorem cmp_to {o : Cop} {a b : E} {x y : D} {ρ : Env} {r : M D} (h : a.den ρ = pure x) (h2 : b.den ρ = pure y) (h3 : o.sem x y = r) : (E.cmp o a b).den ρ = r := by
  rw [den_E_cmp, ap_v2, h, pure_bnd, h2, pure_bnd, h3]
theorem bin_to {o : Bop} {a b : E} {x y : D} {ρ : Env} {r : M D} (h : a.den ρ = pure x) (h2 : b.den ρ = pure y) (h3 : o.sem x y = r) : (E.bin o a b).den ρ = r := by
  rw [den_E_bin, ap_v2, h, pure_bnd, h2, pure_bnd, h3]
theorem ix_to {a b : E} {x y : D} {ρ : Env} {r : M D} (h : a.den ρ = pure x) (h2 : b.den ρ = pure y) (h3 : ixD x y = r) : (E.ix a b).den ρ = r := by
  rw [den_E_ix, ap_v2, h, pure_bnd, h2, pure_bnd, h3]
theorem call1_to {x : Str} {f : Fn} {a : E} {u : D} {ρ : Env} {r : M D} (h : a.den ρ = pure u) (h3 : f [.d u] = r) : (E.call x f (.cons a .nil)).den ρ = r := by
  rw [den_E_call, ap_vCall, den_As_cons, ap_gCons, h, pure_bnd]
  exact h3
theorem call2_to {x : Str} {f : Fn} {a b : E} {u v : D} {ρ : Env} {r : M D} (h : a.den ρ = pure u) (h2 : b.den ρ = pure v) (h3 : f [.d u, .d v] = r) : (E.call x f (.cons a (.cons b .nil))).den ρ = r := by
  rw [den_E_call, ap_vCall, den_As_cons, ap_gCons, h, pure_bnd, den_As_cons, ap_gCons, h2, pure_bnd]
  exact h3
theorem expr_to {e : E} {d : D} {ρ : Env} (h : e.den ρ = pure d) : (St.expr e).den ρ = pure (.nx ρ) := by rw [den_St_expr, ap_sDrop, h, pure_bnd]
theorem new_to {i : Nat} {s : Sl} {v : Slot} {ρ : Env} (h : s.den ρ = pure v) : (St.new i s).den ρ = pure (.nx (ρ.set i v)) := by rw [den_St_new, ap_sNew, h, pure_bnd]
theorem not_to {a : E} {u : Bool} {ρ : Env} (h : a.den ρ = pure (.bool u)) : (E.not a).den ρ = pure (.bool (!u)) := by rw [den_E_not, ap_vNot, h, pure_bnd, asB_bool, pure_bnd]
theorem and2_to {a b : E} {u : Bool} {r : M D} {ρ : Env} (h : a.den ρ = pure (.bool u)) (h2 : (if u = true then b.den ρ else pure (.bool false)) = r) : (E.ands (.cons a (.cons b .nil))).den ρ = r := by
  rw [den_E_ands, denAnd_2, denAnd_1, ap_vAnd, h, pure_bnd, asB_bool, pure_bnd, h2]
theorem or2_to {a b : E} {u : Bool} {r : M D} {ρ : Env} (h : a.den ρ = pure (.bool u)) (h2 : (if u = true then pure (.bool true) else b.den ρ) = r) : (E.ors (.cons a (.cons b .nil))).den ρ = r := by
  rw [den_E_ors, denOr_2, denOr_1, ap_vOr, h, pure_bnd, asB_bool, pure_bnd, h2]
theorem or3_to {a b c : E} {u v : Bool} {r : M D} {ρ : Env} (h : a.den ρ = pure (.bool u)) (h2 : b.den ρ = pure (.bool v)) (h3 : (if u = true ∨ v = true then pure (.bool true) else c.den ρ) = r) : (E.ors (.cons a (.cons b (.cons c .nil)))).den ρ = r := by
  rw [den_E_ors, denOr_2, ap_vOr, h, pure_bnd, asB_bool, pure_bnd, denOr_2, denOr_1, ap_vOr, h2, pure_bnd, asB_bool, pure_bnd, ← h3]
  cases u <;> cases v <;> simp
theorem chain_le {a b c : E} {x y z : Int} {ρ : Env} (h : a.den ρ = pure (.int x)) (h2 : b.den ρ = pure (.int y)) (h3 : c.den ρ = pure (.int z)) : (E.chain .le .le a b c).den ρ = pure (.bool (decide (x ≤ y) && decide (y ≤ z))) := by
  rw [den_E_chain, ap_vChain, h, pure_bnd, h2, pure_bnd]
  by_cases e : x ≤ y
  · simp [e, h3]
  · simp [e]
theorem tup2_to {a b : E} {u v : D} {ρ : Env} (h : a.den ρ = pure u) (h2 : b.den ρ = pure v) : (E.tup (.cons a (.cons b .nil))).den ρ = pure (.tuple [u, v]) := by simp [h, h2]
theorem lst2_to {a b : E} {u v : D} {ρ : Env} (h : a.den ρ = pure u) (h2 : b.den ρ = pure v) : (E.lst (.cons a (.cons b .nil))).den ρ = pure (.list [u, v]) := by simp [h, h2]
theorem app_to {i : Nat} {e : E} {d : D} {ds : List D} {ρ : Env} (h : ρ.getD i .none = .own ds) (h2 : e.den ρ = pure d) (hl : ds.length < sizeLine) : (St.app i e).den ρ = pure (.nx (ρ.set i (.own (ds ++ [d])))) := by
  rw [den_St_app, ap_sApp, ap_ownL, h, slotO_own, pure_bnd, h2, pure_bnd, if_pos hl]
theorem nil_to {ρ : Env} : Sts.nil.den ρ = pure (.nx ρ) := rfl
theorem for_to {it : It} {t : T} {b : Sts} {ρ : Env} {ds : List D} {r : M Fl} (h : it.den ρ = pure ds) (h2 : forN t.den b.den ds ρ = r) : (St.for_ it t b).den ρ = r := by rw [den_St_for_]; exact for_at h h2
theorem lc_to {o : List (Str × Nat)} {it : It} {t : T} {e : E} {ρ : Env} {α : Type} (l : List α) (h g : α → D) (hi : it.den ρ = pure (l.map h))
    (ht : ∀ a ∈ l, turnM t.den (vC (.bool true)) e.den (wipeE ρ (o.map (·.2))) (h a) = pure (some (g a))) : (E.lc o it t e).den ρ = pure (.list (l.map g)) := by
  rw [den_E_lc]
  exact lc_all l h g hi ht
theorem lcIf_to {o : List (Str × Nat)} {it : It} {t : T} {c e : E} {ρ : Env} {α : Type} (l : List α) (h g : α → D) (p : α → Bool) (hi : it.den ρ = pure (l.map h))
    (ht : ∀ a ∈ l, turnM t.den c.den e.den (wipeE ρ (o.map (·.2))) (h a) = pure (if p a = true then some (g a) else none)) : (E.lcIf o it t c e).den ρ = pure (.list ((l.filter p).map g)) := by
  rw [den_E_lcIf]
  exact lc_if l h g p hi ht
/-- a for by what holds behind each turn -/
theorem for_inv {α : Type} {t : TM} {mb : MS} (h : α → D) (I : List α → Env → Prop) : ∀ (rest done : List α) (ρ : Env), I done ρ →
    (∀ (pre : List α) (a : α) (suf : List α) (ρ : Env), done ++ rest = pre ++ a :: suf → I pre ρ → ∃ ρ1 ρ2, t (h a) ρ = some ρ1 ∧ mb ρ1 = pure (.nx ρ2) ∧ I (pre ++ [a]) ρ2) →
    ∃ ρ', forN t mb (rest.map h) ρ = pure (.nx ρ') ∧ I (done ++ rest) ρ'
  | [], done, ρ, i, _ => ⟨ρ, rfl, by rw [List.append_nil]; exact i⟩
  | a :: r, done, ρ, i, st => by
    obtain ⟨ρ1, ρ2, e1, e2, i2⟩ := st done a r ρ rfl i
    obtain ⟨ρ', e3, i3⟩ := for_inv h I r (done ++ [a]) ρ2 i2 fun pre b suf ρ e => st pre b suf ρ (by rw [← e, List.append_assoc]; rfl)
    refine ⟨ρ', ?_, by rw [List.append_assoc] at i3; exact i3⟩
    rw [List.map_cons]
    show (match t (h a) ρ with | some ρ' => mb ρ' >>= fun f => again f (forN t mb (r.map h)) | none => bad) = _
    rw [e1]
    dsimp only
    rw [e2, pure_bnd, again_nx, e3]
theorem for_all {α : Type} {t : TM} {mb : MS} (h : α → D) (I : List α → Env → Prop) (l : List α) (ρ : Env) (i : I [] ρ)
    (st : ∀ (pre : List α) (a : α) (suf : List α) (ρ : Env), l = pre ++ a :: suf → I pre ρ → ∃ ρ1 ρ2, t (h a) ρ = some ρ1 ∧ mb ρ1 = pure (.nx ρ2) ∧ I (pre ++ [a]) ρ2) : ∃ ρ', forN t mb (l.map h) ρ = pure (.nx ρ') ∧ I l ρ' := for_inv h I l [] ρ i st
/-- .. with the shared list -/
theorem for_invS {α : Type} {t : TM} {mb : MS} (h : α → D) (I : List α → Env → SS → Prop) : ∀ (rest done : List α) (ρ : Env) (S : SS), I done ρ S →
    (∀ (pre : List α) (a : α) (suf : List α) (ρ : Env) (S : SS), done ++ rest = pre ++ a :: suf → I pre ρ S → ∃ ρ1 ρ2 S2, t (h a) ρ = some ρ1 ∧ mb ρ1 S = .ok (.nx ρ2) S2 ∧ I (pre ++ [a]) ρ2 S2) →
    ∃ ρ' S', forN t mb (rest.map h) ρ S = .ok (.nx ρ') S' ∧ I (done ++ rest) ρ' S'
  | [], done, ρ, S, i, _ => ⟨ρ, S, rfl, by rw [List.append_nil]; exact i⟩
  | a :: r, done, ρ, S, i, st => by
    obtain ⟨ρ1, ρ2, S2, e1, e2, i2⟩ := st done a r ρ S rfl i
    obtain ⟨ρ', S', e3, i3⟩ := for_invS h I r (done ++ [a]) ρ2 S2 i2 fun pre b suf ρ S e => st pre b suf ρ S (by rw [← e, List.append_assoc]; rfl)
    refine ⟨ρ', S', ?_, by rw [List.append_assoc] at i3; exact i3⟩
    rw [List.map_cons]
    show (match t (h a) ρ with | some ρ' => mb ρ' >>= fun f => again f (forN t mb (r.map h)) | none => bad) S = _
    rw [e1]
    dsimp only
    rw [bind_ok2 e2, again_nx, e3]
theorem for_allS {α : Type} {t : TM} {mb : MS} (h : α → D) (I : List α → Env → SS → Prop) (l : List α) (ρ : Env) (S : SS) (i : I [] ρ S)
    (st : ∀ (pre : List α) (a : α) (suf : List α) (ρ : Env) (S : SS), l = pre ++ a :: suf → I pre ρ S → ∃ ρ1 ρ2 S2, t (h a) ρ = some ρ1 ∧ mb ρ1 S = .ok (.nx ρ2) S2 ∧ I (pre ++ [a]) ρ2 S2) : ∃ ρ' S', forN t mb (l.map h) ρ S = .ok (.nx ρ') S' ∧ I l ρ' S' := for_invS h I l [] ρ S i st
/-- a for, then the rest -/
theorem for_seq {α : Type} (h : α → D) (I : List α → Env → Prop) (l : List α) {ρ : Env} {it : It} {t : T} {b : Sts} {n : MS} {r : M Fl} (hit : it.den ρ = pure (l.map h)) (i0 : I [] ρ)
    (st : ∀ (pre : List α) (a : α) (suf : List α) (ρ : Env), l = pre ++ a :: suf → I pre ρ → ∃ ρ1 ρ2, t.den (h a) ρ = some ρ1 ∧ b.den ρ1 = pure (.nx ρ2) ∧ I (pre ++ [a]) ρ2) (k : ∀ ρ', I l ρ' → n ρ' = r) : sSeq (St.for_ it t b).den n ρ = r := by
  obtain ⟨ρ', e, i⟩ := for_all h I l ρ i0 st
  exact seq_to (for_to hit e) (k ρ' i)
theorem den_tup (is : List Nat) : (T.tup is).den = tT is.length (tsOf is) := rfl
@[simp] theorem tT_tup (n : Nat) (u : TMs) (ds : List D) (ρ : Env) (h : ds.length = n) : tT n u (.tuple ds) ρ = u ds ρ := if_pos h
@[simp] theorem tsOf_nil : tsOf [] = tsNil := rfl
@[simp] theorem tsOf_cons (i : Nat) (r : List Nat) : tsOf (i :: r) = tsCons (tN i) (tsOf r) := rfl
@[simp] theorem tsNil_nil (ρ : Env) : tsNil [] ρ = some ρ := rfl
@[simp] theorem tsCons_N (i : Nat) (u : TMs) (d : D) (r : List D) (ρ : Env) : tsCons (tN i) u (d :: r) ρ = u r (ρ.set i (.val d)) := rfl
@[simp] theorem tN_at (i : Nat) (d : D) (ρ : Env) : tN i d ρ = some (ρ.set i (.val d)) := rfl
/-! lists of whole numbers -/
theorem all_bools (bs : List Bool) : allD (.list (bs.map PyData.bool)) = pure (.bool (bs.all id)) := by simp [allD, overBools]
theorem any_bools (bs : List Bool) : anyD (.list (bs.map PyData.bool)) = pure (.bool (bs.any id)) := by simp [anyD, overBools]
theorem max_ints {ns : List Int} (h : ns ≠ []) : maxD (.list (ns.map PyData.int)) = pure (.int (maxI ns)) := by simp [maxD, overOr, h]
theorem min_ints {ns : List Int} (h : ns ≠ []) : minD (.list (ns.map PyData.int)) = pure (.int (minI ns)) := by simp [minD, overOr, h]
theorem sorted_ints (ns : List Int) : sortedD (.list (ns.map PyData.int)) = pure (.list ((sortI ns).map PyData.int)) := by simp [sortedD, overOr]
theorem maxI_mem : ∀ {ns : List Int}, ns ≠ [] → maxI ns ∈ ns
  | [], h => absurd rfl h
  | [n], _ => List.mem_singleton.mpr rfl
  | n :: m :: r, _ => by
    have i := maxI_mem (ns := m :: r) (by simp)
    show max n (maxI (m :: r)) ∈ _
    by_cases h : n ≤ maxI (m :: r)
    · rw [Int.max_eq_right h]; exact List.mem_cons_of_mem _ i
    · rw [Int.max_eq_left (by omega)]; exact List.mem_cons_self
theorem maxI_ge : ∀ {ns : List Int} {y : Int}, y ∈ ns → y ≤ maxI ns
  | [n], y, h => by rw [List.mem_singleton.mp h]; exact Int.le_refl _
  | n :: m :: r, y, h => by
    show y ≤ max n (maxI (m :: r))
    cases h with
    | head => omega
    | tail _ z => have := maxI_ge z; omega
theorem minI_mem : ∀ {ns : List Int}, ns ≠ [] → minI ns ∈ ns
  | [], h => absurd rfl h
  | [n], _ => List.mem_singleton.mpr rfl
  | n :: m :: r, _ => by
    have i := minI_mem (ns := m :: r) (by simp)
    show min n (minI (m :: r)) ∈ _
    by_cases h : minI (m :: r) ≤ n
    · rw [Int.min_eq_right h]; exact List.mem_cons_of_mem _ i
    · rw [Int.min_eq_left (by omega)]; exact List.mem_cons_self
theorem minI_le : ∀ {ns : List Int} {y : Int}, y ∈ ns → minI ns ≤ y
  | [n], y, h => by rw [List.mem_singleton.mp h]; exact Int.le_refl _
  | n :: m :: r, y, h => by
    show min n (minI (m :: r)) ≤ y
    cases h with
    | head => omega
    | tail _ z => have := minI_le z; omega
theorem all_map {α : Type} (l : List α) (p : α → Bool) : allD (.list (l.map fun a => PyData.bool (p a))) = pure (.bool (l.all p)) := by
  have z := all_bools (l.map p)
  rw [List.map_map] at z
  have e : (l.map p).all id = l.all p := by rw [List.all_map]; rfl
  rw [e] at z
  exact z
theorem any_map {α : Type} (l : List α) (p : α → Bool) : anyD (.list (l.map fun a => PyData.bool (p a))) = pure (.bool (l.any p)) := by
  have z := any_bools (l.map p)
  rw [List.map_map] at z
  have e : (l.map p).any id = l.any p := by rw [List.any_map]; rfl
  rw [e] at z
  exact z
theorem max_map {α : Type} (l : List α) (p : α → Int) (h : l ≠ []) : maxD (.list (l.map fun a => PyData.int (p a))) = pure (.int (maxI (l.map p))) := by
  have z := max_ints (ns := l.map p) (fun e => h (List.map_eq_nil_iff.mp e))
  rw [List.map_map] at z
  exact z
theorem min_map {α : Type} (l : List α) (p : α → Int) (h : l ≠ []) : minD (.list (l.map fun a => PyData.int (p a))) = pure (.int (minI (l.map p))) := by
  have z := min_ints (ns := l.map p) (fun e => h (List.map_eq_nil_iff.mp e))
  rw [List.map_map] at z
  exact z
theorem sorted_map {α : Type} (l : List α) (p : α → Int) : sortedD (.list (l.map fun a => PyData.int (p a))) = pure (.list ((sortI (l.map p)).map PyData.int)) := by
  have z := sorted_ints (l.map p)
  rw [List.map_map] at z
  exact z
/-! with the shared list -/
theorem at_pure {α : Type} {m : M α} {a : α} {S : SS} (h : m = pure a) : m S = .ok a S := by rw [h]; rfl
theorem run_ofS {m : MS} {ρ : Env} {d : D} {S S' : SS} (h : m ρ S = .ok (.rt d) S') : (m ρ >>= outF) S = .ok d S' := by rw [bind_ok2 h]; rfl
theorem seqS {m n : MS} {ρ ρ1 : Env} {S S1 : SS} {r : Res Fl} (h : m ρ S = .ok (.nx ρ1) S1) (h2 : n ρ1 S1 = r) : sSeq m n ρ S = r := by
  rw [ap_sSeq, bind_ok2 h, flow_nx, h2]
theorem seqP {m n : MS} {ρ ρ1 : Env} {S : SS} {r : Res Fl} (h : m ρ = pure (.nx ρ1)) (h2 : n ρ1 S = r) : sSeq m n ρ S = r := seqS (at_pure h) h2
theorem seq_rtP {m n : MS} {ρ : Env} {d : D} {S : SS} (h : m ρ = pure (.rt d)) : sSeq m n ρ S = .ok (.rt d) S := at_pure (seq_rt h)
theorem setS_to {i : Nat} {e : E} {d : D} {ρ : Env} {S S' : SS} (h : e.den ρ S = .ok d S') : (St.set i e).den ρ S = .ok (.nx (ρ.set i (.val d))) S' := by rw [den_St_set, ap_sSet, bind_ok2 h]; rfl
theorem callc_to {x : Str} {f : Fn} {i : Nat} {e : E} {ρ : Env} {S : SS} {v : D} {r : Res D} (hc : ρ.getD i .none = .cell) (h : e.den ρ = pure v) (hn : f [.cell, .d v] S = r) : (E.call x f (.cell i (.cons e .nil))).den ρ S = r := by
  rw [den_E_call, ap_vCall, den_As_cell, ap_gCell, hc, slotG_cell, den_As_cons, ap_gCons, h, pure_bnd]
  exact hn
theorem callc0_to {x : Str} {f : Fn} {i : Nat} {ρ : Env} {S : SS} {r : Res D} (hc : ρ.getD i .none = .cell) (hn : f [.cell] S = r) : (E.call x f (.cell i .nil)).den ρ S = r := by
  rw [den_E_call, ap_vCall, den_As_cell, ap_gCell, hc, slotG_cell]
  exact hn
theorem b1S_to {b : B1} {a : E} {d : D} {ρ : Env} {r : Res D} {S S' : SS} (h : a.den ρ S = .ok d S') (h2 : b.sem d S' = r) : (E.b1 b a).den ρ S = r := by rw [den_E_b1, ap_v1, bind_ok2 h, h2]
theorem binS_to {o : Bop} {a b : E} {x y : D} {ρ : Env} {r : M D} {S S' : SS} (h : a.den ρ = pure x) (h2 : b.den ρ S = .ok y S') (h3 : o.sem x y = r) : (E.bin o a b).den ρ S = r S' := by
  rw [den_E_bin, ap_v2, h, pure_bnd, bind_ok2 h2, h3]
theorem ixS_to {a b : E} {x y : D} {ρ : Env} {r : M D} {S S' : SS} (h : a.den ρ = pure x) (h2 : b.den ρ S = .ok y S') (h3 : ixD x y = r) : (E.ix a b).den ρ S = r S' := by
  rw [den_E_ix, ap_v2, h, pure_bnd, bind_ok2 h2, h3]
theorem cmpS_to {o : Cop} {a b : E} {x y : D} {ρ : Env} {r : M D} {S S' : SS} (h : a.den ρ S = .ok x S') (h2 : b.den ρ = pure y) (h3 : o.sem x y = r) : (E.cmp o a b).den ρ S = r S' := by
  rw [den_E_cmp, ap_v2, bind_ok2 h, h2, pure_bnd, h3]
theorem iteS_to {c : E} {a b : Sts} {v : Bool} {ρ : Env} {r : Res Fl} {S S' : SS} (h : c.den ρ S = .ok (.bool v) S') (h2 : (if v = true then a.den ρ else b.den ρ) S' = r) : (St.ite c a b).den ρ S = r := by
  rw [den_St_ite, ap_sIf, bind_ok2 h, asB_bool, pure_bnd, h2]
theorem tupS_to {a b : E} {u v : D} {ρ : Env} {S S' : SS} (h : a.den ρ = pure u) (h2 : b.den ρ S = .ok v S') : (E.tup (.cons a (.cons b .nil))).den ρ S = .ok (.tuple [u, v]) S' := by
  rw [den_E_tup, ap_vTup, den_Es_cons, ap_aCons, h, pure_bnd, den_Es_cons, ap_aCons, bnd_assoc, bnd_assoc, bind_ok2 h2]
  rfl
theorem appS_to {i : Nat} {e : E} {d : D} {ds : List D} {ρ : Env} {S S' : SS} (h : ρ.getD i .none = .own ds) (h2 : e.den ρ S = .ok d S') (hl : ds.length < sizeLine) : (St.app i e).den ρ S = .ok (.nx (ρ.set i (.own (ds ++ [d])))) S' := by
  rw [den_St_app, ap_sApp, ap_ownL, h, slotO_own, pure_bnd, bind_ok2 h2, if_pos hl]
  rfl
theorem r1S_at {me : ME} {ρ : Env} {n : Nat} {S S' : SS} (h : me ρ S = .ok (.int (n : Int)) S') (hn : n ≤ 1000) : iR1 me ρ S = .ok ((List.range n).map fun i => PyData.int (i : Nat)) S' := by
  rw [ap_iR1, bind_ok2 h, asI_int, pure_bnd]
  exact at_pure (rng_n n hn)
theorem forS_to {it : It} {t : T} {b : Sts} {ρ : Env} {ds : List D} {r : Res Fl} {S S' : SS} (h : it.den ρ S = .ok ds S') (h2 : forN t.den b.den ds ρ S' = r) : (St.for_ it t b).den ρ S = r := by
  rw [den_St_for_, ap_sFor, bind_ok2 h, h2]
theorem lst4S_to {a b c d : E} {u v w x : D} {ρ : Env} {S S' : SS} (h : a.den ρ = pure u) (h2 : b.den ρ = pure v) (h3 : c.den ρ = pure w) (h4 : d.den ρ S = .ok x S') : (E.lst (.cons a (.cons b (.cons c (.cons d .nil))))).den ρ S = .ok (.list [u, v, w, x]) S' := by
  simp only [den_E_lst, ap_vLst, den_Es_cons, ap_aCons, h, h2, h3, pure_bnd, bnd_assoc]
  rw [bind_ok2 h4]
  rfl
theorem seqS_at {e : E} {ρ : Env} {ds : List D} {S S' : SS} (h : e.den ρ S = .ok (.list ds) S') : (It.seq e).den ρ S = .ok ds S' := by
  rw [den_It_seq, ap_iSeq, bind_ok2 h]
  rfl
theorem cut1_tup (xs : List D) : cutD xs (some 1) none = xs.drop 1 := by
  cases xs with
  | nil => rfl
  | cons a r => exact cut1 a r
theorem lst3_to {a b c : E} {u v w : D} {ρ : Env} (h : a.den ρ = pure u) (h2 : b.den ρ = pure v) (h3 : c.den ρ = pure w) : (E.lst (.cons a (.cons b (.cons c .nil)))).den ρ = pure (.list [u, v, w]) := by simp [h, h2, h3]
theorem index_to {a b : E} {ns : List Int} {k : Int} {ρ : Env} (h : a.den ρ = pure (.list (ns.map PyData.int))) (h2 : b.den ρ = pure (.int k)) (hk : k ∈ ns) : (E.mth .index a b).den ρ = pure (.int (ns.idxOf k)) := by
  rw [den_E_mth, ap_vMeth, h, pure_bnd, isLst_list, pure_bnd, h2, pure_bnd]
  show indexD (.list (ns.map PyData.int)) (.int k) = _
  simp only [indexD, onInts, overInts, intsOf_ints]
  rw [if_pos hk]
theorem max_tup {ns : List Int} (h : ns ≠ []) (h2 : ns.length ≤ 1000) : maxD (.tuple (ns.map PyData.int)) = pure (.int (maxI ns)) := by
  have n : ¬ (ns = [] ∨ ns.length > sizeLine) := by
    rw [sizeLine_eq]
    rintro (z | z)
    · exact h z
    · omega
  simp only [maxD, overOr, intsOf_ints]
  rw [if_neg n]
/-- three numbers are drawn in a comprehension -/
theorem collect_next (ρ : Env) (i j : Nat) (m : Int) (hm : 0 < m) (hc : ∀ d : D, (ρ.set i (.val d)).getD j .none = .cell) (x : Str) : ∀ (ds : List D) (n : Nat) (S : SS), StOk n S → n + ds.length ≤ 2 ^ 38 → ∃ (vs : List Int) (S' : SS), vs.length = ds.length ∧ (∀ v ∈ vs, 0 ≤ v ∧ v < m) ∧
    collect (turnM (tN i) (vC (.bool true)) (E.call x f__law_next (.cell j (.cons (.int m) .nil))).den ρ) ds S = .ok (vs.map PyData.int) S' ∧ StOk (n + ds.length) S'
  | [], n, S, h, _ => ⟨[], S, rfl, fun p hp => (by cases hp), rfl, h⟩
  | d :: r, n, S, h, hn => by
    rw [List.length_cons] at hn
    obtain ⟨v, S1, g0, g1, e1, h1⟩ := next_lit (m := m) h (by omega) hm
    obtain ⟨vs, S2, l2, f2, e2, h2⟩ := collect_next ρ i j m hm hc x r (n + 1) S1 h1 (by omega)
    refine ⟨v :: vs, S2, by rw [List.length_cons, List.length_cons, l2], fun q hq => ?_, ?_, by rw [List.length_cons]; have e : n + 1 + r.length = n + (r.length + 1) := (by omega); rw [← e]; exact h2⟩
    · cases hq with
      | head => exact ⟨g0, g1⟩
      | tail _ z => exact f2 q z
    · have t : turnM (tN i) (vC (.bool true)) (E.call x f__law_next (.cell j (.cons (.int m) .nil))).den ρ d S = .ok (some (.int v)) S1 := by
        have c : (E.call x f__law_next (.cell j (.cons (.int m) .nil))).den (ρ.set i (.val d)) S = .ok (.int v) S1 := callc_to (hc d) rfl e1
        simp only [turnM, tN]
        unfold nox
        rw [ap_vC, pure_bnd, asB_bool, pure_bnd, if_pos rfl, bind_ok2 c]
        rfl
      unfold collect
      rw [bind_ok2 t, bind_ok2 e2]
      rfl
/-- a law's run -/
theorem law_run {l : LawT} {ρ0 : Env} {ds : List D} {d : D} {S' : SS} (args : l.es.den ρ0 = pure ds) (body : l.rest.den (ρ0.set l.i .cell) (some ds) = .ok (.rt d) S') : (l.den ρ0 >>= outF) none = .ok d none := by
  have whole : l.den ρ0 none = .ok (.rt d) none := by
    show (l.es.den ρ0 >>= inCell l.rest.den (ρ0.set l.i .cell)) none = _
    rw [args, pure_bnd]
    show shut (l.rest.den _ _) = _
    rw [body]
    rfl
  rw [bind_ok2 whole]
  rfl
/-! sorted data -/
theorem alike_ii (a b c d : Int) : PySem.W.alike (.tuple [.int a, .int b]) (.tuple [.int c, .int d]) = true := rfl
theorem alike_iii (a b c d e f : Int) : PySem.W.alike (.tuple [.int a, .int b, .int c]) (.tuple [.int d, .int e, .int f]) = true := rfl
theorem noints {α : Type} {l : List α} {h : α → List D} (n : l ≠ []) : intsOf (l.map fun a => PyData.tuple (h a)) = none := by
  cases l with
  | nil => exact (n rfl).elim
  | cons a r => rfl
theorem sortB_of {α : Type} {l : List α} {f : α → D} (h1 : ∀ a ∈ l, ∀ b ∈ l, PySem.W.alike (f a) (f b) = true) (h2 : ∀ a ∈ l, isTupB (f a) = true) (h3 : ∀ a ∈ l, (f a).depth ≤ 40) (h4 : PyData.canLayAll0 (l.map f) = true) (h5 : l.length ≤ sizeLine) : sortB (l.map f) = true := by
  unfold sortB
  simp only [Bool.and_eq_true, Bool.or_eq_true]
  refine ⟨⟨⟨⟨?_, .inl ?_⟩, ?_⟩, h4⟩, by simpa using h5⟩
  · unfold alikesB
    simp only [List.all_eq_true, List.mem_map, forall_exists_index, and_imp, forall_apply_eq_imp_iff₂]
    exact h1
  · simp only [List.all_eq_true, List.mem_map, forall_exists_index, and_imp, forall_apply_eq_imp_iff₂]
    exact h2
  · unfold shallow
    simp only [List.all_eq_true, List.mem_map, forall_exists_index, and_imp, forall_apply_eq_imp_iff₂, decide_eq_true_eq]
    exact h3
theorem canLay_map {α : Type} {f : α → D} : ∀ {l : List α}, (∀ a ∈ l, (f a).canLay0 = true) → PyData.canLayAll0 (l.map f) = true
  | [], _ => by simp [PyData.canLayAll0]
  | a :: r, h => by
    rw [List.map_cons, PyData.canLayAll0, h a List.mem_cons_self, canLay_map fun b hb => h b (List.mem_cons_of_mem _ hb)]
    rfl
/-- sorted of tuples of whole numbers -/
theorem sorted_tups {α : Type} {l : List α} {h : α → List D} {le : α → α → Bool} (n : l ≠ []) (h1 : ∀ a ∈ l, ∀ b ∈ l, PySem.W.alike (.tuple (h a)) (.tuple (h b)) = true) (h2 : ∀ a ∈ l, h a ≠ []) (h3 : ∀ a ∈ l, (PyData.tuple (h a)).depth ≤ 40) (h4 : ∀ a ∈ l, (PyData.tuple (h a)).canLay0 = true) (h5 : l.length ≤ sizeLine)
    (hle : ∀ a ∈ l, ∀ b ∈ l, le a b = PySem.W.dataLe false id (PyData.tuple (h a)) (PyData.tuple (h b))) : sortedD (.list (l.map fun a => PyData.tuple (h a))) = pure (.list ((l.mergeSort le).map fun a => PyData.tuple (h a))) := by
  have sb : sortB (l.map fun a => PyData.tuple (h a)) = true := sortB_of h1 (fun a ha => by
    have := h2 a ha
    cases e : h a with
    | nil => exact (this e).elim
    | cons x r => rfl) h3 (canLay_map h4) h5
  unfold sortedD overOr
  simp only [noints n, if_pos sb]
  unfold sortDat
  rw [PySem.W.sort_maps (fun a => PyData.tuple (h a)) hle]
theorem dataLe_pairs {α : Type} (x y : α → Int) (a b : α) : PySem.W.dataLe false id (PyData.tuple [.int (x a), .int (y a)]) (PyData.tuple [.int (x b), .int (y b)]) = decide (x a < x b ∨ (x a = x b ∧ y a ≤ y b)) := by
  have z := congrFun (congrFun (PySem.W.dataLe_ii x y) a) b
  exact z
theorem dataLt_iii (a b c d e f : Int) : PySem.W.dataLt (.tuple [.int a, .int b, .int c]) (.tuple [.int d, .int e, .int f]) = decide (a < d ∨ (a = d ∧ (b < e ∨ (b = e ∧ c < f)))) := by
  have r : PyProof.Rows.lexLt PyProof.Rows.itemOrd (PySem.W.keyToksAll []) (PySem.W.keyToksAll []) = false := PyProof.Rows.lex_irrefl _
  rw [PySem.W.dataLt_tuple, PySem.W.dataLt_cons (by simp [PySem.W.alike]), PySem.W.dataLt_cons (by simp [PySem.W.alike]), PySem.W.dataLt_cons (by simp [PySem.W.alike]), r, PySem.W.dataLt_int, PySem.W.dataLt_int, PySem.W.dataLt_int]
  simp only [PyData.eqv, beq_iff_eq]
  by_cases h1 : a = d <;> by_cases h2 : b = e <;> by_cases h3 : c = f <;> simp [h1, h2, h3]
theorem dataLe_three {α : Type} (x y z : α → Int) (a b : α) : PySem.W.dataLe false id (PyData.tuple [.int (x a), .int (y a), .int (z a)]) (PyData.tuple [.int (x b), .int (y b), .int (z b)]) = decide (x a < x b ∨ (x a = x b ∧ (y a < y b ∨ (y a = y b ∧ z a ≤ z b)))) := by
  show (!PySem.W.dataLt (.tuple [.int (x b), .int (y b), .int (z b)]) (.tuple [.int (x a), .int (y a), .int (z a)])) = _
  rw [dataLt_iii, Bool.eq_iff_iff]
  simp only [Bool.not_eq_true', decide_eq_false_iff_not, decide_eq_true_eq]
  omega
/-! a dict of one's own -/
theorem lcD_to {o : List (Str × Nat)} {i : Nat} {t : T} {c e : E} {ρ : Env} {es : List (D × D)} {α : Type} (l : List α) (h g : α → D) (p : α → Bool) (hs : ρ.getD i .none = .ownd es) (hk : es.map (·.1) = l.map h) (hl : es.length ≤ sizeLine) (hi : (ρ.set i (.lockd es)).getD i .none = .lockd es)
    (ht : ∀ a ∈ l, turnM t.den c.den e.den (wipeE (ρ.set i (.lockd es)) (o.map (·.2))) (h a) = pure (if p a = true then some (g a) else none)) : (E.lcD o i t c e).den ρ = pure (.list ((l.filter p).map g)) := by
  rw [den_E_lcD, ap_vLcD, hs, slotLd_own, lc_if l h g p (by rw [ap_iKeysL, hi, slotKl_lock, if_pos hl, hk]) ht, nox_pure]
theorem dget_to {i : Nat} {k : E} {ρ : Env} {es : List (D × D)} {n : Int} {d : D} (hs : ρ.getD i .none = .ownd es ∨ ρ.getD i .none = .lockd es) (h : k.den ρ = pure (.int n)) (h2 : dLook es (.inl n) = some d) : (E.dget i k).den ρ = pure d := by
  rw [den_E_dget, ap_vDget, ap_dictAt]
  rcases hs with hs | hs <;> rw [hs]
  · rw [slotDa_own, pure_bnd, h, pure_bnd, keyM_int, pure_bnd, h2]; rfl
  · rw [slotDa_lock, pure_bnd, h, pure_bnd, keyM_int, pure_bnd, h2]; rfl
theorem dput_to {i : Nat} {k e : E} {ρ : Env} {es : List (D × D)} {n : Int} {d : D} (hs : ρ.getD i .none = .ownd es) (h : k.den ρ = pure (.int n)) (h2 : e.den ρ = pure d) (hl : es.length < sizeLine) : (St.dput i k e).den ρ = pure (.nx (ρ.set i (.ownd (dPutL es (.inl n) d)))) := by
  rw [den_St_dput, ap_sDput, h2, pure_bnd, ap_ownD, hs, slotOd_own, pure_bnd, h, pure_bnd, keyM_int, pure_bnd, if_pos hl]
theorem ixset_to {i : Nat} {k e : E} {ρ : Env} {ds : List D} {n : Nat} {d : D} (hs : ρ.getD i .none = .own ds) (h : k.den ρ = pure (.int (n : Int))) (h2 : e.den ρ = pure d) (hl : n < ds.length) : (St.ixset i k e).den ρ = pure (.nx (ρ.set i (.own (ds.set n d)))) := by
  have e0 : ixN ds.length (n : Int) = some n := by
    unfold ixN
    rw [if_pos (by omega), if_pos (by omega)]
    rfl
  show (e.den ρ >>= fun d => ownL ρ i >>= fun ds => k.den ρ >>= fun kd => asI kd >>= fun k => onSome (ixN ds.length k) fun j => (pure (Fl.nx (ρ.set i (.own (ds.set j d)))) : M Fl)) = _
  rw [h2, pure_bnd, ap_ownL, hs, slotO_own, pure_bnd, h, pure_bnd, asI_int, pure_bnd, e0, onSome_some]
/-- not in: whole numbers -/
theorem depth_nats (us : List Nat) : PyData.depthAll (us.map fun c => PyData.int (c : Nat)) = 0 := by
  induction us with
  | nil => simp [PyData.depthAll]
  | cons c r i => rw [List.map_cons]; simp [PyData.depthAll, PyData.depth, i]
theorem shaped_ints (us : List Nat) : SeqAt.shaped (.list (us.map fun c => PyData.int (c : Nat))) = true := by
  simp [SeqAt.shaped, PyData.canLay0, PyData.depth, depth_nats]
  exact canLay_map (f := fun c : Nat => PyData.int (c : Nat)) (l := us) fun a _ => by simp [PyData.canLay0]
theorem notin_ints (c : Nat) (us : List Nat) : notInD (.int (c : Nat)) (.list (us.map fun c => PyData.int (c : Nat))) = pure (.bool (!us.contains c)) := by
  have s : SeqAt.shaped (.int (c : Nat)) = true ∧ SeqAt.shaped (.list (us.map fun c => PyData.int (c : Nat))) = true := ⟨by simp [SeqAt.shaped, PyData.canLay0, PyData.depth], shaped_ints us⟩
  have e : ((us.map fun c => PyData.int (c : Nat)).any fun z => PyData.eqv z (.int (c : Nat))) = us.contains c := by
    rw [Bool.eq_iff_iff, List.any_eq_true, List.contains_iff_mem]
    constructor
    · rintro ⟨x, hx, q⟩
      obtain ⟨d, hd, rfl⟩ := List.mem_map.mp hx
      simp [PyData.eqv] at q
      have : d = c := by omega
      exact this ▸ hd
    · intro h
      exact ⟨_, List.mem_map.mpr ⟨c, h, rfl⟩, by simp [PyData.eqv]⟩
  have i : inD (.int (c : Nat)) (.list (us.map fun c => PyData.int (c : Nat))) = pure (.bool ((us.map fun c => PyData.int (c : Nat)).any fun z => PyData.eqv z (.int (c : Nat)))) := if_pos s
  unfold notInD
  rw [i, pure_bnd, asB_bool, pure_bnd, e]
theorem at_head {α : Type} (xs : List α) : atI xs 0 = xs[0]? := at_nat xs 0
/-- the least of tuples, by what is below all -/
theorem fold_least {α : Type} [DecidableEq α] {f : α → D} {m : α} (h2 : ∀ b, PySem.W.dataLt (f b) (f m) = false ∨ True) : ∀ (r : List α) (acc : α), (m = acc ∨ m ∈ r) → (∀ b ∈ acc :: r, b ≠ m → PySem.W.dataLt (f m) (f b) = true) → (∀ b ∈ acc :: r, PySem.W.dataLt (f b) (f m) = false) →
    (r.map f).foldl (fun a y => if PySem.W.dataLt y a = true then y else a) (f acc) = f m
  | [], acc, h, _, _ => by
    rcases h with rfl | h
    · rfl
    · cases h
  | y :: r, acc, h, h1, h3 => by
    rw [List.map_cons, List.foldl_cons]
    have step : ∀ z : α, (m = z ∨ m ∈ r) → (z = acc ∨ z = y) → (r.map f).foldl (fun a y => if PySem.W.dataLt y a = true then y else a) (f z) = f m := fun z hz hc => fold_least h2 r z hz (fun b hb => h1 b (by
      cases hb with
      | head => rcases hc with rfl | rfl <;> simp
      | tail _ q => exact List.mem_cons_of_mem _ (List.mem_cons_of_mem _ q))) fun b hb => h3 b (by
      cases hb with
      | head => rcases hc with rfl | rfl <;> simp
      | tail _ q => exact List.mem_cons_of_mem _ (List.mem_cons_of_mem _ q))
    by_cases e : m = acc
    · subst e
      rw [if_neg (by rw [h3 y (by simp)]; simp)]
      exact step m (.inl rfl) (.inl rfl)
    · by_cases e2 : m = y
      · subst e2
        rw [if_pos (h1 acc (by simp) fun z => e z.symm)]
        exact step m (.inl rfl) (.inr rfl)
      · have hr : m ∈ r := by
          rcases h with h | h
          · exact (e h).elim
          · cases h with
            | head => exact (e2 rfl).elim
            | tail _ q => exact q
        split
        · exact step y (.inr hr) (.inr rfl)
        · exact step acc (.inr hr) (.inl rfl)
theorem min_tups {α : Type} [DecidableEq α] {a : α} {r : List α} {h : α → List D} {m : α} (hm : m ∈ a :: r) (h1 : ∀ a' ∈ a :: r, ∀ b ∈ a :: r, PySem.W.alike (.tuple (h a')) (.tuple (h b)) = true) (h3 : ∀ b ∈ a :: r, (PyData.tuple (h b)).depth ≤ 40) (h4 : ∀ b ∈ a :: r, (PyData.tuple (h b)).canLay0 = true)
    (l1 : ∀ b ∈ a :: r, b ≠ m → PySem.W.dataLt (.tuple (h m)) (.tuple (h b)) = true) (l2 : ∀ b ∈ a :: r, PySem.W.dataLt (.tuple (h b)) (.tuple (h m)) = false) : minD (.list ((a :: r).map fun b => PyData.tuple (h b))) = pure (.tuple (h m)) := by
  have bb : bestB ((a :: r).map fun b => PyData.tuple (h b)) = true := by
    unfold bestB
    simp only [Bool.and_eq_true]
    refine ⟨⟨⟨?_, ?_⟩, ?_⟩, canLay_map h4⟩
    · unfold alikesB
      simp only [List.all_eq_true, List.mem_map, forall_exists_index, and_imp, forall_apply_eq_imp_iff₂]
      exact h1
    · unfold noNonB
      simp only [List.all_eq_true, List.mem_map, forall_exists_index, and_imp, forall_apply_eq_imp_iff₂]
      exact fun _ _ => trivial
    · unfold shallow
      simp only [List.all_eq_true, List.mem_map, forall_exists_index, and_imp, forall_apply_eq_imp_iff₂, decide_eq_true_eq]
      exact h3
  unfold minD overOr
  simp only [noints (l := a :: r) (h := h) (by simp)]
  rw [List.map_cons] at bb ⊢
  refine (if_pos bb).trans ?_
  have z := fold_least (f := fun b => PyData.tuple (h b)) (m := m) (fun _ => .inr trivial) r a (by
    cases hm with
    | head => exact .inl rfl
    | tail _ q => exact .inr q) l1 l2
  exact congrArg pure z
/-! pigeons -/
theorem nodup_le {α : Type} [DecidableEq α] : ∀ {xs ys : List α}, xs.Nodup → (∀ x ∈ xs, x ∈ ys) → xs.length ≤ ys.length
  | [], _, _, _ => Nat.zero_le _
  | x :: xs, ys, h, hs => by
    have h1 := List.nodup_cons.mp h
    have hx := hs x List.mem_cons_self
    have i := nodup_le (xs := xs) (ys := ys.erase x) h1.2 fun z hz => by
      refine (List.mem_erase_of_ne fun e => ?_).mpr (hs z (List.mem_cons_of_mem _ hz))
      subst e
      exact h1.1 hz
    have l := List.length_erase_of_mem hx
    have p := List.length_pos_of_mem hx
    rw [List.length_cons]
    omega
theorem nodup_map {α β : Type} {f : α → β} : ∀ {xs : List α}, xs.Nodup → (∀ a ∈ xs, ∀ b ∈ xs, f a = f b → a = b) → (xs.map f).Nodup
  | [], _, _ => List.nodup_nil
  | x :: xs, h, hi => by
    have h1 := List.nodup_cons.mp h
    rw [List.map_cons, List.nodup_cons]
    refine ⟨fun z => ?_, nodup_map h1.2 fun a ha b hb => hi a (List.mem_cons_of_mem _ ha) b (List.mem_cons_of_mem _ hb)⟩
    obtain ⟨y, hy, e⟩ := List.mem_map.mp z
    have := hi y (List.mem_cons_of_mem _ hy) x List.mem_cons_self e
    subst this
    exact h1.1 hy
end Pv
namespace Pv.Sw
open PySem PySem.Spec PyProof.Rows L2
open Pv.Sh
/-! sets as numbers: the helpers that the first laws share -/
def n__law_power : List Str := ["many"]
def b__law_power : Sts := (.cons (.ret (.ix (.lst (.cons (.int 1) (.cons (.int 2) (.cons (.int 4) (.cons (.int 8) (.cons (.int 16) (.cons (.int 32) (.cons (.int 64) (.cons (.int 128) .nil))))))))) (.var 0)))
 .nil)
def f__law_power : Fn := runB n__law_power.length b__law_power.den
def n__law_things : List Str := ["row", "thing"]
def b__law_things : Sts := (.cons (.ret (.lcIf [("thing", 1)] (.r1 (.int 7)) (.nm 1) (.cmp .eq (.bin .mod (.b1 .int (.bin .fdiv (.var 0) (.call "_law_power" f__law_power (.cons (.var 1) .nil)))) (.int 2)) (.int 1)) (.var 1)))
 .nil)
def f__law_things : Fn := runB n__law_things.length b__law_things.den
def n__law_size : List Str := ["row"]
def b__law_size : Sts := (.cons (.ret (.b1 .len (.call "_law_things" f__law_things (.cons (.var 0) .nil))))
 .nil)
def f__law_size : Fn := runB n__law_size.length b__law_size.den
def n__law_meet : List Str := ["one", "other", "thing"]
def b__law_meet : Sts := (.cons (.ret (.lcIf [("thing", 2)] (.seq (.call "_law_things" f__law_things (.cons (.var 0) .nil))) (.nm 2) (.cmp .isIn (.var 2) (.call "_law_things" f__law_things (.cons (.var 1) .nil))) (.var 2)))
 .nil)
def f__law_meet : Fn := runB n__law_meet.length b__law_meet.den
def n__law_row : List Str := ["things", "thing"]
def b__law_row : Sts := (.cons (.ret (.b1 .sum (.lc [("thing", 1)] (.seq (.srtSet (.var 0))) (.nm 1) (.call "_law_power" f__law_power (.cons (.var 1) .nil)))))
 .nil)
def f__law_row : Fn := runB n__law_row.length b__law_row.den
def n_known_things : List Str := ["row", "thing"]
def b_known_things : Sts := (.cons (.ret (.b1 .tuple (.lcIf [("thing", 1)] (.r1 (.glob "MAX_THINGS" (.int 7))) (.nm 1) (.cmp .eq (.bin .and (.bin .shr (.var 0) (.var 1)) (.int 1)) (.int 1)) (.var 1))))
 .nil)
def f_known_things : Fn := runB n_known_things.length b_known_things.den
def n_known_size : List Str := ["row"]
def b_known_size : Sts := (.cons (.ret (.b1 .len (.call "known_things" f_known_things (.cons (.var 0) .nil))))
 .nil)
def f_known_size : Fn := runB n_known_size.length b_known_size.den
def n_check_many : List Str := ["many"]
def b_check_many : Sts := (.cons (.ite (.not (.chain .le .le (.int 1) (.var 0) (.glob "MAX_THINGS" (.int 7))))
 (.cons (.raise .na "NotAllowed")
 .nil)
 .nil)
 .nil)
def f_check_many : Fn := runB n_check_many.length b_check_many.den
abbrev kN (n : Nat) : D := .int (n : Int)
abbrev lD (l : List Nat) : D := .list (l.map kN)
abbrev tD (l : List Nat) : D := .tuple (l.map kN)
def thP (r : Nat) : List Nat := (List.range 7).filter fun t => r.testBit t
theorem small {n : Nat} (h : n ≤ 100000) : n ≤ sizeLine := by rw [sizeLine_eq]; omega
theorem power_eq {t : Nat} (h : t ≤ 7) : f__law_power [.d (kN t)] = pure (kN (2 ^ t)) := by
  simp only [f__law_power, runB_eq, n__law_power, b__law_power]
  match t, h with
  | 0, _ | 1, _ | 2, _ | 3, _ | 4, _ | 5, _ | 6, _ | 7, _ => rfl
theorem bit_eq (r t : Nat) : r / 2 ^ t % 2 = if r.testBit t = true then 1 else 0 := by
  rw [Nat.testBit_eq_decide_div_mod_eq]
  have : r / 2 ^ t % 2 < 2 := Nat.mod_lt _ (by decide)
  by_cases h : r / 2 ^ t % 2 = 1
  · simp [h]
  · have h0 : r / 2 ^ t % 2 = 0 := by omega
    simp [h0]
theorem seq_thr {m n : MS} {ρ : Env} {k : Exn} (h : m ρ = thr k) : sSeq m n ρ = thr k := by
  rw [ap_sSeq, h]
  rfl
theorem things_eq (r : Nat) : f__law_things [.d (kN r)] = pure (lD (thP r)) := by
  simp only [f__law_things, runB_eq, n__law_things, b__law_things, den_Sts_cons, den_Sts_nil]
  refine run_of (seq_rt (ret_to (lcIf_to (List.range 7) kN kN (fun t => r.testBit t) (r1_at (n := 7) rfl (by decide)) fun t ht => turn_ok rfl ?_ fun _ => rfl)))
  have ht := List.mem_range.mp ht
  have p2 : 2 ^ t < 2 ^ 100 := Nat.pow_lt_pow_right (by decide) (by omega)
  have p0 : 0 < 2 ^ t := Nat.two_pow_pos t
  refine Eq.trans (cmp_to (x := kN (r / 2 ^ t % 2)) (y := .int 1) (bin_to (x := kN (r / 2 ^ t)) (y := .int 2) (b1_to (d := kN (r / 2 ^ t)) (bin_to (x := kN r) (y := kN (2 ^ t)) rfl (call1_to (u := kN t) rfl (power_eq (by omega))) ?_) rfl) rfl ?_) rfl rfl) ?_
  · show fdivD (.int (r : Int)) (.int ((2 ^ t : Nat) : Int)) = _
    rw [fdiv_int ⟨by omega, db_of (k := 200) (Nat.lt_of_lt_of_le (show ((2 ^ t : Nat) : Int).natAbs < 2 ^ 100 by rw [Int.natAbs_natCast]; exact p2) (by decide)) (by decide)⟩, Int.fdiv_eq_ediv_of_nonneg _ (by omega)]
    rfl
  · show modD (.int ((r / 2 ^ t : Nat) : Int)) (.int ((2 : Nat) : Int)) = _
    rw [mod_int (by decide), fmod_nat]
  · rw [bit_eq]
    cases r.testBit t <;> rfl
theorem size_eq (r : Nat) : f__law_size [.d (kN r)] = pure (kN (thP r).length) := by
  simp only [f__law_size, runB_eq, n__law_size, b__law_size, den_Sts_cons, den_Sts_nil]
  refine run_of (seq_rt (ret_to (b1_to (call1_to rfl (things_eq r)) ?_)))
  rw [b1_len, len_list, List.length_map]
theorem in_nats (c : Nat) (us : List Nat) : inD (kN c) (lD us) = pure (.bool (us.contains c)) := by
  have z := notin_ints c us
  have s : SeqAt.shaped (kN c) = true ∧ SeqAt.shaped (lD us) = true := ⟨by simp [SeqAt.shaped, PyData.canLay0, PyData.depth], shaped_ints us⟩
  have i : inD (kN c) (lD us) = pure (.bool ((us.map kN).any fun z => PyData.eqv z (kN c))) := if_pos s
  unfold notInD at z
  rw [i, pure_bnd, asB_bool, pure_bnd] at z
  have z := congrFun z none
  have e : (!(us.map kN).any fun z => PyData.eqv z (kN c)) = !us.contains c := by
    injection z with z1 z2
    injection z1
  rw [i]
  have : ∀ a b : Bool, (!a) = (!b) → a = b := by decide
  rw [this _ _ e]
def meetL (a b : Nat) : List Nat := (thP a).filter fun t => (thP b).contains t
theorem meet_eq (a b : Nat) : f__law_meet [.d (kN a), .d (kN b)] = pure (lD (meetL a b)) := by
  simp only [f__law_meet, runB_eq, n__law_meet, b__law_meet, den_Sts_cons, den_Sts_nil]
  exact run_of (seq_rt (ret_to (lcIf_to (thP a) kN kN (fun t => (thP b).contains t) (seq_at (.inr (call1_to rfl (things_eq a)))) fun t ht => turn_ok rfl (cmp_to rfl (call1_to rfl (things_eq b)) (in_nats t (thP b))) fun _ => rfl)))
theorem eq_nil (ds : List D) (h : SeqAt.shaped (.list ds) = true) : eqD (.list ds) (.list []) = pure (.bool ds.isEmpty) := by
  have s0 : SeqAt.shaped (.list []) = true := rfl
  have z : eqD (.list ds) (.list []) = pure (.bool (PyData.eqv (.list ds) (.list []))) := if_pos ⟨h, s0⟩
  rw [z]
  cases ds <;> simp [PyData.eqv, PyData.eqvAll]
theorem ne_nil (ds : List D) (h : SeqAt.shaped (.list ds) = true) : neD (.list ds) (.list []) = pure (.bool (!ds.isEmpty)) := by
  unfold neD
  rw [eq_nil ds h, pure_bnd, asB_bool, pure_bnd]
theorem emp_nats (l : List Nat) : (l.map kN).isEmpty = l.isEmpty := by cases l <;> rfl
def knP (r : Nat) : List Nat := (List.range 7).filter fun t => r.testBit t
theorem known_things_eq (r : Nat) : f_known_things [.d (kN r)] = pure (tD (thP r)) := by
  simp only [f_known_things, runB_eq, n_known_things, b_known_things, den_Sts_cons, den_Sts_nil]
  refine run_of (seq_rt (ret_to (b1_to (d := lD (thP r)) (lcIf_to (List.range 7) kN kN (fun t => r.testBit t) (r1_at (n := 7) rfl (by decide)) fun t ht => turn_ok rfl ?_ fun _ => rfl) rfl)))
  have e : shrD (kN r) (kN t) = pure (kN (r >>> t)) := by
    show (if (0 : Int) ≤ (t : Int) then pure (.int ((r : Int) / 2 ^ ((t : Int)).toNat)) else bad : M D) = _
    rw [if_pos (by omega), Int.toNat_natCast, Nat.shiftRight_eq_div_pow, show ((2 : Int) ^ t) = ((2 ^ t : Nat) : Int) from by simp]
    rfl
  have a : andD (kN (r >>> t)) (kN 1) = pure (kN ((r >>> t) &&& 1)) := rfl
  refine cmp_to (bin_to (bin_to rfl rfl e) (y := kN 1) rfl a) (y := kN 1) rfl ?_
  have b : ((r >>> t) &&& 1) = if r.testBit t = true then 1 else 0 := by
    rw [Nat.and_one_is_mod, Nat.shiftRight_eq_div_pow, bit_eq]
  rw [b]
  cases r.testBit t <;> rfl
theorem known_size_eq (r : Nat) : f_known_size [.d (kN r)] = pure (kN (thP r).length) := by
  simp only [f_known_size, runB_eq, n_known_size, b_known_size, den_Sts_cons, den_Sts_nil]
  refine run_of (seq_rt (ret_to (b1_to (call1_to rfl (known_things_eq r)) ?_)))
  rw [b1_len, len_tuple, List.length_map]
theorem and_nats (a b : Nat) : andD (kN a) (kN b) = pure (kN (a &&& b)) := rfl
theorem many_ok {n : Nat} (h : 1 ≤ n) (h2 : n ≤ 7) : f_check_many [.d (kN n)] = pure .none := by
  simp only [f_check_many, runB_eq, n_check_many, b_check_many, den_Sts_cons, den_Sts_nil]
  match n, h, h2 with
  | 1, _, _ | 2, _, _ | 3, _, _ | 4, _, _ | 5, _, _ | 6, _, _ | 7, _, _ => rfl
theorem many_bad {n : Nat} (h : n = 0 ∨ 7 < n) : f_check_many [.d (kN n)] = thr .na := by
  simp only [f_check_many, runB_eq, n_check_many, b_check_many, den_Sts_cons, den_Sts_nil]
  have c : (E.not (.chain .le .le (.int 1) (.var 0) (.glob "MAX_THINGS" (.int 7)))).den [.val (kN n)] = pure (.bool true) := by
    refine (not_to (chain_le (x := 1) (y := (n : Int)) (z := 7) rfl rfl rfl)).trans ?_
    congr 2
    simp
    omega
  exact run_thr (seq_thr (ite_to c rfl))
def n_choose : List Str := ["many", "few", "found", "at"]
def b_choose : Sts := (.cons (.ite (.ors (.cons (.cmp .lt (.var 1) (.int 0)) (.cons (.cmp .gt (.var 1) (.var 0)) .nil)))
 (.cons (.ret (.int 0))
 .nil)
 .nil)
 (.cons (.set 2 (.int 1))
 (.cons (.for_ (.r1 (.var 1)) (.nm 3)
 (.cons (.set 2 (.bin .fdiv (.bin .mul (.var 2) (.bin .sub (.var 0) (.var 3))) (.bin .add (.var 3) (.int 1))))
 .nil))
 (.cons (.ret (.var 2))
 .nil))))
def f_choose : Fn := runB n_choose.length b_choose.den
def n__law_ways : List Str := ["many", "few", "found", "k"]
def b__law_ways : Sts := (.cons (.ite (.ors (.cons (.cmp .lt (.var 1) (.int 0)) (.cons (.cmp .gt (.var 1) (.var 0)) .nil)))
 (.cons (.ret (.int 0))
 .nil)
 .nil)
 (.cons (.set 2 (.int 1))
 (.cons (.for_ (.r1 (.var 1)) (.nm 3)
 (.cons (.set 2 (.bin .fdiv (.bin .mul (.var 2) (.bin .sub (.var 0) (.var 3))) (.bin .add (.var 3) (.int 1))))
 .nil))
 (.cons (.ret (.var 2))
 .nil))))
def f__law_ways : Fn := runB n__law_ways.length b__law_ways.den
/-! how many choices -/
def binom : Nat → Nat → Nat
  | _, 0 => 1
  | 0, _ + 1 => 0
  | n + 1, k + 1 => binom n k + binom n (k + 1)
theorem binom_0 (n : Nat) : binom n 0 = 1 := by cases n <;> rfl
theorem binom_gt : ∀ {n k : Nat}, n < k → binom n k = 0
  | 0, _ + 1, _ => rfl
  | n + 1, k + 1, h => by
    show binom n k + binom n (k + 1) = 0
    rw [binom_gt (by omega), binom_gt (by omega)]
theorem binom_le : ∀ (n k : Nat), binom n k ≤ 2 ^ n
  | n, 0 => by rw [binom_0]; exact Nat.two_pow_pos n
  | 0, _ + 1 => Nat.zero_le _
  | n + 1, k + 1 => by
    show binom n k + binom n (k + 1) ≤ _
    have := binom_le n k
    have := binom_le n (k + 1)
    rw [Nat.pow_succ]
    omega
/-- the step of the product -/
theorem binom_step : ∀ (n k : Nat), binom n (k + 1) * (k + 1) = binom n k * (n - k)
  | 0, k => by cases k <;> simp [binom]
  | n + 1, 0 => by
    have i : binom n 1 * 1 = binom n 0 * n := binom_step n 0
    show (binom n 0 + binom n 1) * 1 = binom (n + 1) 0 * (n + 1)
    rw [binom_0] at i
    rw [binom_0, binom_0]
    omega
  | n + 1, k + 1 => by
    have i := binom_step n k
    have j := binom_step n (k + 1)
    show (binom n (k + 1) + binom n (k + 2)) * (k + 2) = (binom n k + binom n (k + 1)) * (n + 1 - (k + 1))
    rw [Nat.add_sub_add_right, Nat.add_mul, j, Nat.add_mul, ← i]
    by_cases h : k < n
    · have e : n - k = (n - (k + 1)) + 1 := by omega
      rw [e, Nat.mul_add, Nat.mul_add, Nat.mul_add]
      omega
    · rw [binom_gt (n := n) (k := k + 1) (by omega)]
      omega
theorem binom_next (n k : Nat) : binom n k * (n - k) / (k + 1) = binom n (k + 1) := by
  rw [← binom_step, Nat.mul_div_cancel _ (by omega)]
theorem pow_big {n k : Nat} (h : n ≤ 2 ^ k) (hk : k < 10000) : n < BIG := big_of (k := 10001) (Nat.lt_of_le_of_lt h (Nat.pow_lt_pow_right (by decide) (by omega))) (by decide)
theorem choose_eq {m f : Nat} (h : f ≤ m) (hm : m ≤ 1000) : f_choose [.d (kN m), .d (kN f)] = pure (kN (binom m f)) := by
  simp only [f_choose, runB_eq, n_choose, b_choose, den_Sts_cons, den_Sts_nil]
  refine run_of (seq_to (ite_to (v := false) (or2_to (u := false) (cmp_to (x := kN f) (y := kN 0) rfl rfl ?_) ?_) rfl) (seq_to (set_to (d := kN 1) rfl) ?_))
  · rw [cop_lt, lt_int, decide_eq_false (by omega)]
  · rw [if_neg (by simp)]
    refine cmp_to (x := kN f) (y := kN m) rfl rfl ?_
    rw [cop_gt, gt_int]
    congr 2
    simp
    omega
  refine for_seq kN (fun pre ρ => ∃ s3, ρ = [.val (kN m), .val (kN f), .val (kN (binom m pre.length)), s3]) (List.range f) (by exact r1_at (n := f) rfl (by omega)) ⟨.none, by rw [List.length_nil, binom_0]; rfl⟩ ?_ ?_
  · rintro pre a suf ρ hp ⟨s3, rfl⟩
    have lp := congrArg List.length hp
    rw [List.length_range, List.length_append, List.length_cons] at lp
    have ea : a = pre.length := by
      have g : (List.range f)[pre.length]? = (pre ++ a :: suf)[pre.length]? := by rw [hp]
      rw [List.getElem?_append_right (Nat.le_refl _), Nat.sub_self, List.getElem?_range (by omega)] at g
      simpa using g.symm
    subst ea
    refine ⟨_, [.val (kN m), .val (kN f), .val (kN (binom m (pre.length + 1))), .val (kN pre.length)], rfl, seq_to (set_to (d := kN (binom m (pre.length + 1))) ?_) rfl, ⟨_, by rw [List.length_append, List.length_singleton]⟩⟩
    have mu : mulD (kN (binom m pre.length)) (kN (m - pre.length)) = pure (kN (binom m pre.length * (m - pre.length))) := by
      rw [mul_int ⟨pow_big (k := m) (by rw [Int.natAbs_natCast]; exact binom_le m _) (by omega), by rw [Int.natAbs_natCast]; exact pow_big (k := 1000) (Nat.le_trans (show m - pre.length ≤ 2 ^ 10 by omega) (by decide)) (by decide)⟩, ← Int.natCast_mul]
    have sb : subD (kN m) (kN pre.length) = pure (kN (m - pre.length)) := by
      rw [sub_int, ← Int.ofNat_sub (by omega)]
    refine bin_to (x := kN (binom m pre.length * (m - pre.length))) (y := kN (pre.length + 1)) (bin_to (x := kN (binom m pre.length)) (y := kN (m - pre.length)) rfl (bin_to rfl rfl sb) mu) (bin_to (x := kN pre.length) (y := kN 1) rfl rfl (by rw [bop_add, add_int, ← Int.natCast_add])) ?_
    show fdivD (.int _) (.int ((pre.length + 1 : Nat) : Int)) = _
    rw [fdiv_int ⟨by omega, db_of (k := 200) (Nat.lt_of_le_of_lt (show ((pre.length + 1 : Nat) : Int).natAbs ≤ 1000 by rw [Int.natAbs_natCast]; omega) (by decide)) (by decide)⟩, Int.fdiv_eq_ediv_of_nonneg _ (by omega), ← Int.natCast_ediv, binom_next]
  · rintro ρ ⟨s3, rfl⟩
    rw [List.length_range]
    rfl
theorem ways_eq {m f : Nat} (h : f ≤ m) (hm : m ≤ 1000) : f__law_ways [.d (kN m), .d (kN f)] = pure (kN (binom m f)) := choose_eq h hm
/-! told -/
theorem told_is {e : E} {d : D} {ρ : Env} (h : e.den ρ = pure d) : vTold e.den ρ = pure (.tuple [.str "told", d]) := by
  funext S
  show tellD (e.den ρ S) = _
  rw [h]
  rfl
theorem told_thr {e : E} {k : Exn} {ρ : Env} (h : e.den ρ = thr k) (hk : k.plain = true) : vTold e.den ρ = pure (.tuple [.str (names5.getD k.ix "")]) := by
  funext S
  show tellD (e.den ρ S) = _
  rw [h]
  show (if k.plain = true then _ else _) = _
  rw [if_pos hk]
  rfl
theorem endS {m n : MS} {ρ ρ1 : Env} {S S1 : SS} {T : Res Fl → Prop} (h : m ρ S = .ok (.nx ρ1) S1) (h2 : T (n ρ1 S1)) : T (sSeq m n ρ S) := seq_end h h2
theorem endP {m n : MS} {ρ ρ1 : Env} {S : SS} {T : Res Fl → Prop} (h : m ρ = pure (.nx ρ1)) (h2 : T (n ρ1 S)) : T (sSeq m n ρ S) := seq_end (at_pure h) h2
/-! rows of sets -/
theorem setI_self {ns : List Int} (h : ns.Pairwise (· < ·)) : setI ns = ns := strict_uniq (setI_lt ns) h fun _ => setI_mem
theorem map_kN (l : List Nat) : l.map kN = (l.map fun n : Nat => (n : Int)).map PyData.int := by rw [List.map_map]; rfl
theorem sum_nats (l : List Nat) : sumD (lD l) = pure (kN l.sum) := by
  have e : (l.map fun n : Nat => (n : Int)).sum = ((l.sum : Nat) : Int) := by
    induction l with
    | nil => rfl
    | cons a r i => rw [List.map_cons, List.sum_cons, List.sum_cons, i, Int.natCast_add]
  show sumD (.list (l.map kN)) = _
  rw [map_kN]
  simp only [sumD, overInts, intsOf_ints]
  rw [e]
theorem row_eq {l : List Nat} (h : l.Pairwise (· < ·)) (h7 : ∀ t ∈ l, t ≤ 7) (h64 : l.length ≤ 1000) : f__law_row [.d (lD l)] = pure (kN (l.map fun t => 2 ^ t).sum) := by
  simp only [f__law_row, runB_eq, n__law_row, b__law_row, den_Sts_cons, den_Sts_nil]
  have st : (E.srtSet (.var 0)).den [.val (lD l), .none] = pure (lD l) := by
    show srtSetD (.list (l.map kN)) = _
    rw [map_kN]
    simp only [srtSetD, overInts, intsOf_ints]
    rw [if_pos (by simpa using h64), setI_self (by rw [List.pairwise_map]; exact h.imp fun z => by omega)]
    show _ = pure (PyData.list (l.map kN))
    rw [map_kN]
  have e := sum_nats (l.map fun t => 2 ^ t)
  have e : sumD (.list (l.map fun t => kN (2 ^ t))) = pure (kN (l.map fun t => 2 ^ t).sum) := by
    rw [← e]
    show _ = sumD (.list ((l.map fun t => 2 ^ t).map kN))
    rw [List.map_map]
    rfl
  exact run_of (seq_rt (ret_to (b1_to (lc_to l kN (fun t => kN (2 ^ t)) (seq_at (.inr st)) fun t ht => turn_yes rfl (call1_to rfl (power_eq (h7 t ht)))) e)))
/-! shapes -/
structure Lay (n : Nat) (d : D) : Prop where
  lay : d.canLay0 = true
  dp : d.depth ≤ n
theorem lay_int (n : Nat) (i : Int) : Lay n (.int i) := ⟨by simp [PyData.canLay0], by simp [PyData.depth]⟩
theorem depth_all {n : Nat} : ∀ {ds : List D}, (∀ d ∈ ds, d.depth ≤ n) → PyData.depthAll ds ≤ n
  | [], _ => by simp [PyData.depthAll]
  | d :: r, h => by
    have a := h d List.mem_cons_self
    have b := depth_all (ds := r) fun x hx => h x (List.mem_cons_of_mem _ hx)
    simp only [PyData.depthAll]
    omega
theorem lay_all {n : Nat} {ds : List D} (h : ∀ d ∈ ds, Lay n d) : PyData.canLayAll0 ds = true ∧ PyData.depthAll ds ≤ n := by
  refine ⟨?_, depth_all fun d hd => (h d hd).dp⟩
  have := canLay_map (f := id) (l := ds) fun a ha => (h a ha).lay
  rwa [List.map_id] at this
theorem lay_list {n : Nat} {ds : List D} (h : ∀ d ∈ ds, Lay n d) : Lay (n + 1) (.list ds) := by
  have a := lay_all h
  exact ⟨by simp only [PyData.canLay0]; exact a.1, by simp only [PyData.depth]; have := a.2; omega⟩
theorem lay_tup {n : Nat} {ds : List D} (h : ∀ d ∈ ds, Lay n d) : Lay (n + 1) (.tuple ds) := by
  have a := lay_all h
  exact ⟨by simp only [PyData.canLay0]; exact a.1, by simp only [PyData.depth]; have := a.2; omega⟩
theorem lay_lD (l : List Nat) : Lay 1 (lD l) := lay_list (n := 0) fun d hd => by
  obtain ⟨i, _, rfl⟩ := List.mem_map.mp hd
  exact lay_int 0 _
theorem lay_tD (l : List Nat) : Lay 1 (tD l) := lay_tup (n := 0) fun d hd => by
  obtain ⟨i, _, rfl⟩ := List.mem_map.mp hd
  exact lay_int 0 _
theorem Lay.up {n m : Nat} {d : D} (h : Lay n d) (l : n ≤ m) : Lay m d := ⟨h.lay, Nat.le_trans h.dp l⟩
theorem Lay.shaped {n : Nat} {d : D} (h : Lay n d) (l : n ≤ 64) : SeqAt.shaped d = true := by
  have a := h.lay
  have b := h.dp
  simp only [SeqAt.shaped, a, Bool.true_and, decide_eq_true_eq]
  omega
theorem rng_big (n : Nat) (h : n ≤ 100000) : rngM 0 (n : Int) = pure ((List.range n).map fun i => PyData.int (i : Nat)) := by
  unfold rngM rngL
  rw [if_pos ⟨by omega, by rw [sizeLine_eq]; omega⟩]
  simp
theorem r1_big {me : ME} {ρ : Env} {n : Nat} (h : me ρ = pure (.int (n : Int))) (hn : n ≤ 100000) : iR1 me ρ = pure ((List.range n).map fun i => PyData.int (i : Nat)) := by
  rw [ap_iR1, h, pure_bnd, asI_int, pure_bnd]
  exact rng_big n hn
/-! which sets meet -/
def hit (a b : Nat) : Bool := (a &&& b) % 128 != 0
theorem mem_thP {r t : Nat} : t ∈ thP r ↔ t < 7 ∧ r.testBit t = true := by simp [thP]
theorem hit_iff {a b : Nat} : hit a b = true ↔ ∃ t, t < 7 ∧ a.testBit t = true ∧ b.testBit t = true := by
  unfold hit
  rw [bne_iff_ne]
  constructor
  · intro h
    apply Classical.byContradiction
    intro n
    refine h (Nat.eq_of_testBit_eq fun t => ?_)
    rw [Nat.zero_testBit, show (128 : Nat) = 2 ^ 7 from rfl, Nat.testBit_mod_two_pow, Nat.testBit_and]
    apply Bool.eq_false_iff.mpr
    intro z
    simp only [Bool.and_eq_true, decide_eq_true_eq] at z
    exact n ⟨t, z.1, z.2.1, z.2.2⟩
  · rintro ⟨t, h, p, q⟩ z
    have e : ((a &&& b) % 128).testBit t = (0 : Nat).testBit t := by rw [z]
    rw [Nat.zero_testBit, show (128 : Nat) = 2 ^ 7 from rfl, Nat.testBit_mod_two_pow, Nat.testBit_and, p, q] at e
    simp at e
    omega
theorem meet_emp (a b : Nat) : (meetL a b).isEmpty = !hit a b := by
  rw [Bool.eq_iff_iff, List.isEmpty_iff, Bool.not_eq_true', Bool.eq_false_iff, ne_eq, hit_iff]
  unfold meetL
  rw [List.filter_eq_nil_iff]
  constructor
  · rintro h ⟨t, h7, p, q⟩
    exact h t (mem_thP.mpr ⟨h7, p⟩) (List.contains_iff_mem.mpr (mem_thP.mpr ⟨h7, q⟩))
  · intro h t ht z
    have m := mem_thP.mp ht
    exact h ⟨t, m.1, m.2, (mem_thP.mp (List.contains_iff_mem.mp z)).2⟩
theorem meet_ne_nil (a b : Nat) : neD (lD (meetL a b)) (.list []) = pure (.bool (hit a b)) := by
  rw [ne_nil _ ((lay_lD _).shaped (by decide)), emp_nats, meet_emp, Bool.not_not]
theorem meet_eq_nil (a b : Nat) : eqD (lD (meetL a b)) (.list []) = pure (.bool (!hit a b)) := by
  rw [eq_nil _ ((lay_lD _).shaped (by decide)), emp_nats, meet_emp]
/-! a <= b <= c <= d -/
theorem chain3_le {a b c d : E} {x y z w : Int} {ρ : Env} (h : a.den ρ = pure (.int x)) (h2 : b.den ρ = pure (.int y)) (h3 : c.den ρ = pure (.int z)) (h4 : d.den ρ = pure (.int w)) : (E.chain3 .le .le .le a b c d).den ρ = pure (.bool (decide (x ≤ y) && (decide (y ≤ z) && decide (z ≤ w)))) := by
  rw [den_E_chain3]
  show (a.den ρ >>= fun x => b.den ρ >>= fun y => leD x y >>= fun e => asB e >>= fun k => if k = true then (c.den ρ >>= fun u => leD y u >>= fun e2 => asB e2 >>= fun k2 => if k2 = true then d.den ρ >>= leD u else pure (.bool false)) else pure (.bool false)) = _
  rw [h, pure_bnd, h2, pure_bnd, le_int, pure_bnd, asB_bool, pure_bnd]
  by_cases e : x ≤ y
  · rw [if_pos (by simpa using e), h3, pure_bnd, le_int, pure_bnd, asB_bool, pure_bnd]
    by_cases e2 : y ≤ z
    · rw [if_pos (by simpa using e2), h4, pure_bnd, le_int]
      simp [e, e2]
    · rw [if_neg (by simpa using e2)]
      simp [e2]
  · rw [if_neg (by simpa using e)]
    simp [e]
theorem call3_to {x : Str} {f : Fn} {a b c : E} {u v w : D} {ρ : Env} {r : M D} (h : a.den ρ = pure u) (h2 : b.den ρ = pure v) (h3 : c.den ρ = pure w) (h4 : f [.d u, .d v, .d w] = r) : (E.call x f (.cons a (.cons b (.cons c .nil)))).den ρ = r := by
  rw [den_E_call, ap_vCall, den_As_cons, ap_gCons, h, pure_bnd, den_As_cons, ap_gCons, h2, pure_bnd, den_As_cons, ap_gCons, h3, pure_bnd]
  exact h4
theorem ifE_to {c a b : E} {v : Bool} {ρ : Env} {r : M D} (h : c.den ρ = pure (.bool v)) (h2 : (if v = true then a.den ρ else b.den ρ) = r) : (E.ite c a b).den ρ = r := by
  rw [den_E_ite, ap_vIf, h, pure_bnd, asB_bool, pure_bnd, h2]
theorem and3_to {a b c : E} {u v : Bool} {r : M D} {ρ : Env} (h : a.den ρ = pure (.bool u)) (h2 : b.den ρ = pure (.bool v)) (h3 : (if u = true ∧ v = true then c.den ρ else pure (.bool false)) = r) : (E.ands (.cons a (.cons b (.cons c .nil)))).den ρ = r := by
  rw [den_E_ands, denAnd_2, ap_vAnd, h, pure_bnd, asB_bool, pure_bnd, denAnd_2, denAnd_1, ap_vAnd, h2, pure_bnd, asB_bool, pure_bnd, ← h3]
  cases u <;> cases v <;> simp
/-- a row of sets by what is asked of each -/
theorem rows_to {o : List (Str × Nat)} {it : It} {t : T} {c e : E} {ρ : Env} {l : List Nat} (p : Nat → Bool) (hi : it.den ρ = pure (l.map kN)) (hc : ∀ r ∈ l, ∃ ρ', t.den (kN r) (wipeE ρ (o.map (·.2))) = some ρ' ∧ c.den ρ' = pure (.bool (p r)) ∧ e.den ρ' = pure (kN r)) : (E.lcIf o it t c e).den ρ = pure (lD (l.filter p)) :=
  lcIf_to l kN kN p hi fun r hr => by
    obtain ⟨ρ', e1, e2, e3⟩ := hc r hr
    exact turn_ok e1 e2 fun _ => e3
/-! what can be shown -/
theorem sho_name {s : String} (h : (Str.ofString s).length ≤ 20) : Sho 0 202 (.str (Str.ofString s)) := sho_str (n := 20) (signs_of s) h
theorem sho_nat {n k : Nat} (h : n < 2 ^ k) (h0 : 0 < k) (hk : k ≤ 1920) : Sho 0 (k + 1) (kN n) := sho_int (by rw [Int.natAbs_natCast]; exact h) h0 hk
theorem told_sho {n w : Nat} {d : D} (h : Sho n w d) (hw : 202 ≤ w) : Sho (n + 1) (2 * (w + 2) + 3) (.tuple [.str "told", d]) := sho_tup (n := n) (w := w) (ds := [.str "told", d]) fun x hx => by
  rcases List.mem_cons.mp hx with rfl | hx
  · exact (sho_name (s := "told") (by decide)).up (by omega) hw
  · rw [List.mem_singleton.mp hx]; exact h
theorem one_sho {s : String} (h : (Str.ofString s).length ≤ 20) : Sho 1 (1 * (202 + 2) + 3) (.tuple [.str (Str.ofString s)]) := sho_tup (n := 0) (w := 202) (ds := [.str (Str.ofString s)]) fun d hd => by
  rw [List.mem_singleton.mp hd]
  exact sho_name h
theorem sho_tD {l : List Nat} {k : Nat} (h : ∀ r ∈ l, r < 2 ^ k) (h0 : 0 < k) (hk : k ≤ 1920) : Sho 1 (l.length * (k + 1 + 2) + 3) (tD l) := by
  have z := sho_tup (n := 0) (w := k + 1) (ds := l.map kN) fun d hd => by
    obtain ⟨r, hr, rfl⟩ := List.mem_map.mp hd
    exact sho_nat (h r hr) h0 hk
  rw [List.length_map] at z
  exact z
theorem fam_sho {m : Nat} {l : List Nat} (hm : m < 128) (h : ∀ r ∈ l, r < 2 ^ 7) (hl : l.length ≤ 1000) : Sho 2 (2 * (10003 + 2) + 3) (.tuple [kN m, tD l]) := sho_tup (n := 1) (w := 10003) (ds := [kN m, tD l]) fun x hx => by
  rcases List.mem_cons.mp hx with rfl | hx
  · exact (sho_nat (k := 7) hm (by decide) (by decide)).up (by omega) (by omega)
  · rw [List.mem_singleton.mp hx]
    exact (sho_tD h (by decide) (by decide)).up (by omega) (by omega)
/-- a pair is assigned to two names -/
theorem asgS_to {i j : Nat} {e : E} {a b : D} {ρ : Env} {S S' : SS} (h : e.den ρ S = .ok (.tuple [a, b]) S') : (St.asg [i, j] e).den ρ S = .ok (.nx ((ρ.set i (.val a)).set j (.val b))) S' := by
  rw [den_St_asg]
  show (e.den ρ >>= _) S = _
  rw [bind_ok2 h]
  rfl
theorem emp_map {α β : Type} (f : α → β) (l : List α) : (l.map f).isEmpty = l.isEmpty := by cases l <;> rfl
def plainP (rows : List Nat) : Bool := ((List.range 7).filter fun t => rows.all fun r => (thP r).contains t).isEmpty
end Pv.Sw
namespace Pv.Ev
open PySem PySem.Spec PyProof.Rows L2
open Pv.Sh Pv.Sw
/-! meanings met step by step -/
section
variable {ρ : Env}
theorem var_at {i : Nat} {d : D} (h : ρ.getD i .none = .val d) : (E.var i).den ρ = pure d := by rw [den_E_var, ap_vVar, h]; rfl
theorem peek_own {i : Nat} {ds : List D} (h : ρ.getD i .none = .own ds) : (E.peek i).den ρ = pure (.list ds) := by rw [den_E_peek, ap_vPeek, h]; rfl
theorem int_nat (n : Nat) : (E.int (@OfNat.ofNat Int n _)).den ρ = pure (kN (@OfNat.ofNat Nat n _)) := rfl
theorem glob_nat (x : Str) (n : Nat) : (E.glob x (.int (@OfNat.ofNat Int n _))).den ρ = pure (kN (@OfNat.ofNat Nat n _)) := rfl
theorem glob_is (x : Str) (d : D) : (E.glob x d).den ρ = pure d := rfl
theorem str_is (x : Str) : (E.str x).den ρ = pure (.str x) := rfl
theorem bl_is (b : Bool) : (E.bl b).den ρ = pure (.bool b) := rfl
theorem non_is : (E.non).den ρ = pure (.none : D) := rfl
theorem int_is (n : Int) : (E.int n).den ρ = pure (.int n) := rfl
theorem and_one {a : E} {r : M D} (h : a.den ρ = r) : (E.ands (.cons a .nil)).den ρ = r := h
theorem and_more {a b : E} {r : Es} {u v : Bool} (h : a.den ρ = pure (.bool u)) (h2 : u = true → (E.ands (.cons b r)).den ρ = pure (.bool v)) : (E.ands (.cons a (.cons b r))).den ρ = pure (.bool (u && v)) := by
  rw [den_E_ands, denAnd_2, ap_vAnd, h, pure_bnd, asB_bool, pure_bnd]
  cases u with
  | true => rw [if_pos rfl]; exact h2 rfl
  | false => rfl
theorem or_one {a : E} {r : M D} (h : a.den ρ = r) : (E.ors (.cons a .nil)).den ρ = r := h
theorem or_more {a b : E} {r : Es} {u v : Bool} (h : a.den ρ = pure (.bool u)) (h2 : u = false → (E.ors (.cons b r)).den ρ = pure (.bool v)) : (E.ors (.cons a (.cons b r))).den ρ = pure (.bool (u || v)) := by
  rw [den_E_ors, denOr_2, ap_vOr, h, pure_bnd, asB_bool, pure_bnd]
  cases u with
  | true => rfl
  | false => rw [if_neg (by simp)]; exact h2 rfl
theorem un_to {o : Uop} {a : E} {x : D} {r : M D} (h : a.den ρ = pure x) (h2 : o.sem x = r) : (E.un o a).den ρ = r := by rw [den_E_un, ap_v1, h, pure_bnd, h2]
theorem b2_to {b : B2} {a c : E} {x y : D} {r : M D} (h : a.den ρ = pure x) (h2 : c.den ρ = pure y) (h3 : b.sem x y = r) : (E.b2 b a c).den ρ = r := by rw [den_E_b2, ap_v2, h, pure_bnd, h2, pure_bnd, h3]
theorem chain_to {o o' : Cop} {a b c : E} {x y z : D} {u v : Bool} (h : a.den ρ = pure x) (h2 : b.den ρ = pure y) (h3 : c.den ρ = pure z) (h4 : o.sem x y = pure (.bool u)) (h5 : o'.sem y z = pure (.bool v)) : (E.chain o o' a b c).den ρ = pure (.bool (u && v)) := by
  rw [den_E_chain, ap_vChain, h, pure_bnd, h2, pure_bnd, h4, pure_bnd, asB_bool, pure_bnd]
  cases u with
  | true => rw [if_pos rfl, h3, pure_bnd, h5]; rfl
  | false => rfl
theorem ite_N {c a b : E} {u : Bool} {x y : Nat} (h : c.den ρ = pure (.bool u)) (h2 : u = true → a.den ρ = pure (kN x)) (h3 : u = false → b.den ρ = pure (kN y)) : (E.ite c a b).den ρ = pure (kN (if u = true then x else y)) := by
  refine ifE_to h ?_
  cases u with
  | true => rw [if_pos rfl, if_pos rfl]; exact h2 rfl
  | false => rw [if_neg (by simp), if_neg (by simp)]; exact h3 rfl
theorem r1_to {a : E} {n : Nat} (h : a.den ρ = pure (kN n)) (hn : n ≤ 100000) : (It.r1 a).den ρ = pure ((List.range n).map kN) := r1_big h hn
theorem r2_to {a b : E} {m n : Nat} (h : a.den ρ = pure (kN m)) (h2 : b.den ρ = pure (kN n)) (hn : n ≤ 100000) (hm : m ≤ 100000) : (It.r2 a b).den ρ = pure ((List.range' m (n - m)).map kN) := by
  rw [den_It_r2, ap_iR2, h, pure_bnd, h2, pure_bnd, asI_int, pure_bnd, asI_int, pure_bnd]
  unfold rngM rngL
  rw [if_pos ⟨by omega, by rw [sizeLine_eq]; omega⟩]
  have e : ((n : Int) - (m : Int)).toNat = n - m := by omega
  rw [e, List.range'_eq_map_range, List.map_map]
  congr 1
theorem seq_to2 {a : E} {d : D} {ds : List D} (h : a.den ρ = pure d) (h2 : itemsD d = pure ds) : (It.seq a).den ρ = pure ds := by rw [den_It_seq, ap_iSeq, h, pure_bnd, h2]
theorem items_l {α : Type} (l : List α) (f : α → D) : itemsD (.list (l.map f)) = pure (l.map f) := rfl
theorem items_t {α : Type} (l : List α) (f : α → D) : itemsD (.tuple (l.map f)) = pure (l.map f) := rfl
theorem en_to {α : Type} {a : E} {d : D} {l : List α} {f : α → D} (h : a.den ρ = pure d) (h2 : seqOf d = pure (l.map f)) : (It.en a).den ρ = pure (l.zipIdx.map fun p => PyData.tuple [kN p.2, f p.1]) := by
  rw [den_It_en, ap_iEn, h, pure_bnd, h2, pure_bnd]
  congr 1
  unfold enL
  rw [List.mapIdx_eq_zipIdx_map, List.zipIdx_map, List.map_map]
  rfl
theorem sq_l {α : Type} (l : List α) (f : α → D) : seqOf (.list (l.map f)) = pure (l.map f) := rfl
theorem sq_t {α : Type} (l : List α) (f : α → D) : seqOf (.tuple (l.map f)) = pure (l.map f) := rfl
theorem lc_ev {o : List (Str × Nat)} {it : It} {t : T} {e : E} {α : Type} {l : List α} {h g : α → D} (hi : it.den ρ = pure (l.map h)) (ht : ∀ a ∈ l, turnM t.den (vC (.bool true)) e.den (wipeE ρ (o.map (·.2))) (h a) = pure (some (g a))) : (E.lc o it t e).den ρ = pure (.list (l.map g)) := lc_to l h g hi ht
theorem lcIf_ev {o : List (Str × Nat)} {it : It} {t : T} {c e : E} {α : Type} {l : List α} {h g : α → D} {p : α → Bool} (hi : it.den ρ = pure (l.map h)) (ht : ∀ a ∈ l, turnM t.den c.den e.den (wipeE ρ (o.map (·.2))) (h a) = pure (if p a = true then some (g a) else none)) : (E.lcIf o it t c e).den ρ = pure (.list ((l.filter p).map g)) := lcIf_to l h g p hi ht
end
section
/-! the operators at numbers from 0 on -/
theorem o_add (a b : Nat) : Bop.add.sem (kN a) (kN b) = pure (kN (a + b)) := by rw [bop_add, add_int, ← Int.natCast_add]
theorem o_sub {a b : Nat} (h : b ≤ a) : Bop.sub.sem (kN a) (kN b) = pure (kN (a - b)) := by rw [bop_sub, sub_int, ← Int.ofNat_sub h]
theorem o_subI (a b : Nat) : Bop.sub.sem (kN a) (kN b) = pure (.int ((a : Int) - (b : Int))) := rfl
theorem o_mul {a b : Nat} (h : a ≤ 2 ^ 200) (h2 : b ≤ 2 ^ 200) : Bop.mul.sem (kN a) (kN b) = pure (kN (a * b)) := by
  show mulD (kN a) (kN b) = _
  rw [mul_int ⟨by rw [Int.natAbs_natCast]; exact pow_big h (by decide), by rw [Int.natAbs_natCast]; exact pow_big h2 (by decide)⟩, ← Int.natCast_mul]
theorem o_and (a b : Nat) : Bop.and.sem (kN a) (kN b) = pure (kN (a &&& b)) := rfl
theorem bitOrN (a b : Nat) : Builtin.bitOr (a : Int) (b : Int) = ((a ||| b : Nat) : Int) := by
  have n : ∀ c : Nat, Builtin.bitNot (c : Int) = -(c : Int) - 1 := fun c => rfl
  unfold Builtin.bitOr Builtin.bitAnd
  rw [decide_eq_false (by rw [n]; omega), decide_eq_false (by rw [n]; omega)]
  show Builtin.bitNot (Builtin.bitNot _) = _
  have e : ∀ c : Nat, (Builtin.bitNot (Builtin.bitNot (c : Int))).toNat = c := fun c => by rw [n]; unfold Builtin.bitNot; omega
  have e2 : ∀ c : Nat, Builtin.bitNot (Builtin.bitNot (c : Int)) = c := fun c => by rw [n]; unfold Builtin.bitNot; omega
  rw [e, e, e2]
theorem o_or (a b : Nat) : Bop.or.sem (kN a) (kN b) = pure (kN (a ||| b)) := by
  show (pure (.int (Builtin.bitOr (a : Int) (b : Int))) : M D) = _
  rw [bitOrN]
theorem o_xor (a b : Nat) : Bop.xor.sem (kN a) (kN b) = pure (kN (a ^^^ b)) := by
  show (pure (.int (Builtin.bitOr (a : Int) (b : Int) - Builtin.bitAnd (a : Int) (b : Int))) : M D) = _
  have e : Builtin.bitAnd (a : Int) (b : Int) = ((a &&& b : Nat) : Int) := rfl
  rw [bitOrN, e]
  have h1 := nat_or_add_and a b
  have h2 := Bits.nat_xor_add_and a b
  congr 2
  omega
theorem o_shr (a b : Nat) : Bop.shr.sem (kN a) (kN b) = pure (kN (a >>> b)) := by
  show (if (0 : Int) ≤ (b : Int) then pure (.int ((a : Int) / 2 ^ ((b : Int)).toNat)) else bad : M D) = _
  rw [if_pos (by omega), Int.toNat_natCast, Nat.shiftRight_eq_div_pow, show ((2 : Int) ^ b) = ((2 ^ b : Nat) : Int) from by simp]
  rfl
theorem o_shl {a b : Nat} (h : b ≤ 100000) (h2 : a ≤ 1000000) : Bop.shl.sem (kN a) (kN b) = pure (kN (a * 2 ^ b)) := by
  show (if (0 : Int) ≤ (b : Int) ∧ (b : Int) ≤ 1000000 ∧ (a : Int).natAbs < 2 ^ 64 then pure (.int ((a : Int) * 2 ^ ((b : Int)).toNat)) else bad : M D) = _
  rw [if_pos ⟨by omega, by omega, by rw [Int.natAbs_natCast]; exact Nat.lt_of_le_of_lt h2 (by decide)⟩, Int.toNat_natCast, show ((2 : Int) ^ b) = ((2 ^ b : Nat) : Int) from by simp, ← Int.natCast_mul]
theorem o_shl1 {b : Nat} (h : b ≤ 100000) : Bop.shl.sem (kN 1) (kN b) = pure (kN (2 ^ b)) := by rw [o_shl h (by decide), Nat.one_mul]
theorem o_mod {a b : Nat} (h : b ≠ 0) : Bop.mod.sem (kN a) (kN b) = pure (kN (a % b)) := by
  show modD (.int (a : Int)) (.int (b : Int)) = _
  rw [mod_int (by omega), fmod_nat]
theorem o_div {a b : Nat} (h : b ≠ 0) (h2 : b ≤ 2 ^ 200) : Bop.fdiv.sem (kN a) (kN b) = pure (kN (a / b)) := by
  show fdivD (.int (a : Int)) (.int (b : Int)) = _
  rw [fdiv_int ⟨by omega, db_of (k := 201) (by rw [Int.natAbs_natCast]; exact Nat.lt_of_le_of_lt h2 (Nat.pow_lt_pow_right (by decide) (by decide))) (by decide)⟩, Int.fdiv_eq_ediv_of_nonneg _ (by omega)]
  rfl
theorem bitNot_nat (a : Nat) : Builtin.bitNot (a : Int) = -(a : Int) - 1 := by
  unfold Builtin.bitNot
  omega
theorem o_inv (a : Nat) : Uop.inv.sem (kN a) = pure (.int (Builtin.bitNot (a : Int))) := rfl
theorem o_neg (i : Int) : Uop.neg.sem (.int i) = pure (.int (-i)) := rfl
theorem c_eq (a b : Nat) : Cop.eq.sem (kN a) (kN b) = pure (.bool (a == b)) := by
  rw [cop_eq, eq_int]
  congr 2
  rw [Bool.eq_iff_iff, beq_iff_eq, beq_iff_eq]
  omega
theorem c_ne (a b : Nat) : Cop.ne.sem (kN a) (kN b) = pure (.bool (a != b)) := by
  rw [cop_ne, ne_int]
  congr 2
  rw [Bool.eq_iff_iff, Bool.not_eq_true', beq_eq_false_iff_ne, bne_iff_ne]
  omega
theorem c_lt (a b : Nat) : Cop.lt.sem (kN a) (kN b) = pure (.bool (decide (a < b))) := by
  rw [cop_lt, lt_int]; congr 2; simp
theorem c_le (a b : Nat) : Cop.le.sem (kN a) (kN b) = pure (.bool (decide (a ≤ b))) := by
  rw [cop_le, le_int]; congr 2; simp
theorem c_gt (a b : Nat) : Cop.gt.sem (kN a) (kN b) = pure (.bool (decide (b < a))) := by
  rw [cop_gt, gt_int]; congr 2; simp
theorem c_ge (a b : Nat) : Cop.ge.sem (kN a) (kN b) = pure (.bool (decide (b ≤ a))) := by
  rw [cop_ge, ge_int]; congr 2; simp
theorem c_in (c : Nat) (us : List Nat) : Cop.isIn.sem (kN c) (lD us) = pure (.bool (us.contains c)) := in_nats c us
theorem eqv_nats (us : List Nat) (c : Nat) : ((us.map kN).any fun z => PyData.eqv z (kN c)) = us.contains c := by
  rw [Bool.eq_iff_iff, List.any_eq_true, List.contains_iff_mem]
  constructor
  · rintro ⟨x, hx, q⟩
    obtain ⟨d, hd, rfl⟩ := List.mem_map.mp hx
    simp [PyData.eqv] at q
    have : d = c := by omega
    exact this ▸ hd
  · intro h
    exact ⟨_, List.mem_map.mpr ⟨c, h, rfl⟩, by simp [PyData.eqv]⟩
theorem in_tupN (c : Nat) (us : List Nat) : inD (kN c) (tD us) = pure (.bool (us.contains c)) := by
  have f : (us.map kN).all flatD = true := by
    rw [List.all_eq_true]
    rintro x hx
    obtain ⟨d, _, rfl⟩ := List.mem_map.mp hx
    rfl
  exact (if_pos ⟨rfl, f⟩).trans (by rw [eqv_nats])
theorem c_inT (c : Nat) (us : List Nat) : Cop.isIn.sem (kN c) (tD us) = pure (.bool (us.contains c)) := in_tupN c us
theorem c_nin (c : Nat) (us : List Nat) : Cop.notIn.sem (kN c) (lD us) = pure (.bool (!us.contains c)) := by
  show notInD (kN c) (lD us) = _
  unfold notInD
  rw [in_nats, pure_bnd, asB_bool, pure_bnd]
theorem c_ninT (c : Nat) (us : List Nat) : Cop.notIn.sem (kN c) (tD us) = pure (.bool (!us.contains c)) := by
  show notInD (kN c) (tD us) = _
  unfold notInD
  rw [in_tupN, pure_bnd, asB_bool, pure_bnd]
theorem b_lenL {α : Type} (l : List α) (f : α → D) : B1.len.sem (.list (l.map f)) = pure (kN l.length) := by rw [b1_len, len_list, List.length_map]
theorem b_lenT {α : Type} (l : List α) (f : α → D) : B1.len.sem (.tuple (l.map f)) = pure (kN l.length) := by rw [b1_len, len_tuple, List.length_map]
theorem b_tup (l : List D) : B1.tuple.sem (.list l) = pure (.tuple l) := rfl
theorem b_lst (l : List D) : B1.list.sem (.tuple l) = pure (.list l) := rfl
theorem b_intB (b : Bool) : B1.int.sem (.bool b) = pure (kN (if b = true then 1 else 0)) := by cases b <;> rfl
theorem b_intN (n : Nat) : B1.int.sem (kN n) = pure (kN n) := rfl
theorem b_all {α : Type} (l : List α) (f : α → Bool) : B1.all.sem (.list (l.map fun a => PyData.bool (f a))) = (pure (PyData.bool (l.all f)) : M D) := all_map l f
theorem b_any {α : Type} (l : List α) (f : α → Bool) : B1.any.sem (.list (l.map fun a => PyData.bool (f a))) = (pure (PyData.bool (l.any f)) : M D) := any_map l f
theorem b_sum {α : Type} (l : List α) (f : α → Nat) : B1.sum.sem (.list (l.map fun a => kN (f a))) = pure (kN (l.map f).sum) := by
  have z := sum_nats (l.map f)
  rw [show (l.map fun a => kN (f a)) = (l.map f).map kN from by rw [List.map_map]; rfl]
  exact z
theorem b_max2 (a b : Nat) : B2.max.sem (kN a) (kN b) = pure (kN (max a b)) := by
  show pure (PyData.int (max (a : Int) (b : Int))) = _
  congr 2
  omega
theorem b_min2 (a b : Nat) : B2.min.sem (kN a) (kN b) = pure (kN (min a b)) := by
  show pure (PyData.int (min (a : Int) (b : Int))) = _
  congr 2
  omega
theorem addL {α : Type} (f : α → D) (a b : List α) (h : a.length + b.length ≤ 100000) : Bop.add.sem (.list (a.map f)) (.list (b.map f)) = pure (.list ((a ++ b).map f)) := by
  rw [List.map_append]
  exact if_pos (by rw [List.length_map, List.length_map, sizeLine_eq]; omega)
theorem addT {α : Type} (f : α → D) (a b : List α) (h : a.length + b.length ≤ 100000) : Bop.add.sem (.tuple (a.map f)) (.tuple (b.map f)) = pure (.tuple ((a ++ b).map f)) := by
  rw [List.map_append]
  exact if_pos (by rw [List.length_map, List.length_map, sizeLine_eq]; omega)
theorem ixL {α : Type} (f : α → D) {l : List α} {i : Nat} {a : α} (h : l[i]? = some a) : ixD (.list (l.map f)) (kN i) = pure (f a) := by
  rw [ix_list, at_nat, List.getElem?_map, h]
  rfl
theorem ixT {α : Type} (f : α → D) {l : List α} {i : Nat} {a : α} (h : l[i]? = some a) : ixD (.tuple (l.map f)) (kN i) = pure (f a) := by
  rw [ix_tuple, at_nat, List.getElem?_map, h]
  rfl
theorem tup_1 {a : E} {u : D} {ρ : Env} (h : a.den ρ = pure u) : (E.tup (.cons a .nil)).den ρ = pure (.tuple [u]) := by simp [h]
theorem lst_1 {a : E} {u : D} {ρ : Env} (h : a.den ρ = pure u) : (E.lst (.cons a .nil)).den ρ = pure (.list [u]) := by simp [h]
theorem tup_0 {ρ : Env} : (E.tup .nil).den ρ = pure (.tuple []) := rfl
theorem lst_0 {ρ : Env} : (E.lst .nil).den ρ = pure (.list []) := rfl
theorem pair_0 (a b : D) : ixD (.tuple [a, b]) (kN 0) = pure a := by rw [ix_tuple]; exact congrArg optM (at0 a [b])
theorem pair_1 (a b : D) : ixD (.tuple [a, b]) (kN 1) = pure b := by rw [ix_tuple]; exact congrArg optM (at1 a b [])
theorem told_ev {e : E} {d : D} {ρ : Env} (h : e.den ρ = pure d) : (E.told e).den ρ = pure (.tuple [.str "told", d]) := by rw [den_E_told]; exact told_is h
theorem told_na {e : E} {ρ : Env} (h : e.den ρ = thr .na) : (E.told e).den ρ = pure (.tuple [.str "refused"]) := by rw [den_E_told]; exact told_thr h rfl
theorem told_mi {e : E} {ρ : Env} (h : e.den ρ = thr .mi) : (E.told e).den ρ = pure (.tuple [.str "missing"]) := by rw [den_E_told]; exact told_thr h rfl
theorem told_tl {e : E} {ρ : Env} (h : e.den ρ = thr .tl) : (E.told e).den ρ = pure (.tuple [.str "large"]) := by rw [den_E_told]; exact told_thr h rfl
end
end Pv.Ev
namespace Pv.Ev
open PySem PySem.Spec PyProof.Rows L2
open Pv.Sh Pv.Sw
section
variable {ρ : Env} {n : MS} {r : M Fl} {i : Nat} {e : E} {d : D}
theorem seq_ret (h : e.den ρ = pure d) : sSeq (St.ret e).den n ρ = pure (.rt d) := seq_rt (ret_to h)
theorem seq_set (h : e.den ρ = pure d) (h2 : n (ρ.set i (.val d)) = r) : sSeq (St.set i e).den n ρ = r := seq_to (set_to h) h2
theorem seq_setC (h : e.den ρ = pure d) (h2 : n (ρ.set i (.val d)) = r) : sSeq (St.setC i e).den n ρ = r := seq_to (setC_to h) h2
theorem seq_setF (h : e.den ρ = pure d) (h2 : n (ρ.set i (.val d)) = r) : sSeq (St.setF i e).den n ρ = r := seq_to (setF_to h) h2
theorem seq_expr (h : e.den ρ = pure d) (h2 : n ρ = r) : sSeq (St.expr e).den n ρ = r := seq_to (expr_to h) h2
theorem seq_new0 (h2 : n (ρ.set i (.own [])) = r) : sSeq (St.new i (.lst .nil)).den n ρ = r := seq_to (new_to rfl) h2
theorem seq_guard {c : E} {k : Exn} {x : Str} {u : Bool} (h : c.den ρ = pure (.bool u)) (hu : u = false) (h2 : n ρ = r) : sSeq (St.ite c (.cons (.raise k x) .nil) .nil).den n ρ = r := by
  subst hu
  exact seq_to (ite_to h rfl) h2
theorem seq_raise {c : E} {k : Exn} {x : Str} {u : Bool} (h : c.den ρ = pure (.bool u)) (hu : u = true) : sSeq (St.ite c (.cons (.raise k x) .nil) .nil).den n ρ = thr k := by
  subst hu
  exact seq_thr (ite_to h rfl)
theorem seq_exprT {k : Exn} (h : e.den ρ = thr k) : sSeq (St.expr e).den n ρ = thr k := seq_thr (by rw [den_St_expr, ap_sDrop, h]; rfl)
end
end Pv.Ev
namespace Pv.Ev
open PySem PySem.Spec PyProof.Rows L2
open Pv.Sh Pv.Sw
theorem b_len2 (a b : D) : B1.len.sem (.tuple [a, b]) = pure (kN 2) := rfl
theorem run_nx {m : MS} {ρ ρ' : Env} (h : m ρ = pure (.nx ρ')) : (m ρ >>= outF) = pure .none := by rw [h]; rfl
theorem cut_take (xs : List D) (k : Nat) : cutD xs none (some (k : Int)) = xs.take k := by
  have e : HT.sIx xs.length xs.length (some (k : Int)) = min k xs.length := HT.sIx_nat _ _ k
  have e0 : HT.sIx xs.length 0 none = 0 := rfl
  unfold cutD
  rw [e, e0, List.drop_zero, Nat.sub_zero, List.take_eq_take_iff]
  omega
theorem cut_drop (xs : List D) (k : Nat) : cutD xs (some (k : Int)) none = xs.drop k := by
  have e : HT.sIx xs.length 0 (some (k : Int)) = min k xs.length := HT.sIx_nat _ _ k
  have e0 : HT.sIx xs.length xs.length none = xs.length := rfl
  unfold cutD
  rw [e, e0]
  by_cases h : k ≤ xs.length
  · rw [Nat.min_eq_left h, List.take_of_length_le (by rw [List.length_drop]; exact Nat.le_refl _)]
  · rw [Nat.min_eq_right (by omega), List.drop_eq_nil_of_le (Nat.le_refl _), List.drop_eq_nil_of_le (by omega), List.take_nil]
section
variable {ρ : Env}
theorem sl_hi {a b : E} {d : D} {k : Nat} {r : M D} (h : a.den ρ = pure d) (h2 : b.den ρ = pure (kN k)) (h3 : sliceD d none (some (k : Int)) = r) : (E.sl a .no (.yes b)).den ρ = r := by
  rw [den_E_sl, ap_vSl, h, pure_bnd]
  show (oNo ρ >>= fun lo => oYes b.den ρ >>= fun hi => sliceD d lo hi) = r
  rw [ap_oNo, pure_bnd, ap_oYes, h2, pure_bnd, asI_int, pure_bnd, pure_bnd, h3]
theorem sl_lo {a b : E} {d : D} {k : Nat} {r : M D} (h : a.den ρ = pure d) (h2 : b.den ρ = pure (kN k)) (h3 : sliceD d (some (k : Int)) none = r) : (E.sl a (.yes b) .no).den ρ = r := by
  rw [den_E_sl, ap_vSl, h, pure_bnd]
  show (oYes b.den ρ >>= fun lo => oNo ρ >>= fun hi => sliceD d lo hi) = r
  rw [ap_oYes, h2, pure_bnd, asI_int, pure_bnd, pure_bnd, ap_oNo, pure_bnd, h3]
theorem s_takeL {α : Type} (l : List α) (f : α → D) (k : Nat) : sliceD (.list (l.map f)) none (some (k : Int)) = pure (.list ((l.take k).map f)) := by rw [slice_list, cut_take, List.map_take]
theorem s_takeT {α : Type} (l : List α) (f : α → D) (k : Nat) : sliceD (.tuple (l.map f)) none (some (k : Int)) = pure (.tuple ((l.take k).map f)) := by rw [slice_tuple, cut_take, List.map_take]
theorem s_dropL {α : Type} (l : List α) (f : α → D) (k : Nat) : sliceD (.list (l.map f)) (some (k : Int)) none = pure (.list ((l.drop k).map f)) := by rw [slice_list, cut_drop, List.map_drop]
theorem s_dropT {α : Type} (l : List α) (f : α → D) (k : Nat) : sliceD (.tuple (l.map f)) (some (k : Int)) none = pure (.tuple ((l.drop k).map f)) := by rw [slice_tuple, cut_drop, List.map_drop]
theorem zip_maps {α β : Type} (f : α → D) (g : β → D) : ∀ (l : List α) (m : List β), zipL (l.map f) (m.map g) = (l.zip m).map fun p => PyData.tuple [f p.1, g p.2]
  | [], _ => rfl
  | _ :: _, [] => rfl
  | a :: l, b :: m => by
    have i := zip_maps f g l m
    show PyData.tuple [f a, g b] :: zipL (l.map f) (m.map g) = _
    rw [i]
    rfl
theorem zip_to {a b : E} {d e : D} {ds : List D} (h : a.den ρ = pure d) (h2 : b.den ρ = pure e) (h3 : zipD d e = pure ds) : (It.zip a b).den ρ = pure ds := by rw [den_It_zip, ap_iZip, h, pure_bnd, h2, pure_bnd, h3]
theorem z_l {α β : Type} (l : List α) (m : List β) (f : α → D) (g : β → D) : zipD (.list (l.map f)) (.list (m.map g)) = pure ((l.zip m).map fun p => PyData.tuple [f p.1, g p.2]) := by rw [zip_list, zip_maps]
theorem z_t {α β : Type} (l : List α) (m : List β) (f : α → D) (g : β → D) : zipD (.tuple (l.map f)) (.tuple (m.map g)) = pure ((l.zip m).map fun p => PyData.tuple [f p.1, g p.2]) := by rw [zip_tuple, zip_maps]
end
end Pv.Ev
namespace Pv.Ev
open PySem PySem.Spec PyProof.Rows L2
open Pv.Sh Pv.Sw
section
variable {ρ : Env}
theorem peek_val {i : Nat} {d : D} (h : ρ.getD i .none = .val d) : (E.peek i).den ρ = pure d := by rw [den_E_peek, ap_vPeek, h]; rfl
theorem srtSet_to {a : E} {d : D} {r : M D} (h : a.den ρ = pure d) (h2 : srtSetD d = r) : (E.srtSet a).den ρ = r := by rw [den_E_srtSet, ap_v1, h, pure_bnd, h2]
theorem last_at {α : Type} (xs : List α) (h : xs ≠ []) : atI xs (-1) = some (xs.getLast h) := by
  have p := List.length_pos_iff.mpr h
  have e : ixN xs.length (-1) = some (xs.length - 1) := by
    unfold ixN
    rw [if_neg (by omega)]
    split
    · congr 1
      omega
    · omega
  unfold atI
  rw [e]
  show xs[xs.length - 1]? = _
  rw [List.getElem?_eq_getElem (by omega), List.getLast_eq_getElem]
theorem ixL_last {α : Type} (f : α → D) {l : List α} (h : l ≠ []) : ixD (.list (l.map f)) (.int (-1)) = pure (f (l.getLast h)) := by
  rw [ix_list, last_at _ (by simpa using h), List.getLast_map]
  rfl
theorem ixT_last {α : Type} (f : α → D) {l : List α} (h : l ≠ []) : ixD (.tuple (l.map f)) (.int (-1)) = pure (f (l.getLast h)) := by
  rw [ix_tuple, last_at _ (by simpa using h), List.getLast_map]
  rfl
theorem neg1_at : (E.un .neg (.int 1)).den ρ = pure (.int (-1)) := rfl
end
theorem draw {n m : Nat} {S : SS} (h : StOk n S) (hn : n ≤ 2 ^ 40) (hm : 0 < m) : ∃ (v : Nat) (S' : SS), v < m ∧ f__law_next [.cell, .d (kN m)] S = .ok (kN v) S' ∧ StOk (n + 1) S' := next_eq h hn hm
theorem callcE {ρ : Env} {i : Nat} {x : Str} {e : E} {k v : Nat} {S S' : SS} (hc : ρ.getD i .none = .cell) (h : e.den ρ = pure (kN k)) (hn : f__law_next [.cell, .d (kN k)] S = .ok (kN v) S') : (E.call x f__law_next (.cell i (.cons e .nil))).den ρ S = .ok (kN v) S' := callc_to hc h hn
theorem bin1S {ρ : Env} {e : E} {k v : Nat} {S S' : SS} (h : e.den ρ S = .ok (kN v) S') : (E.bin .add (.int (@OfNat.ofNat Int k _)) e).den ρ S = .ok (kN (k + v)) S' := by
  rw [binS_to (o := .add) (x := kN k) (y := kN v) (r := pure (kN (k + v))) rfl h (o_add k v)]
  rfl
theorem r1S_to {ρ : Env} {a : E} {n : Nat} {S S' : SS} (h : a.den ρ S = .ok (kN n) S') (hn : n ≤ 100000) : (It.r1 a).den ρ S = .ok ((List.range n).map kN) S' := by
  rw [den_It_r1, ap_iR1, bind_ok2 h]
  show (asI (.int (n : Int)) >>= fun j => rngM 0 j) S' = _
  rw [asI_int, pure_bnd, rng_big n hn]
  rfl
end Pv.Ev
namespace Pv.Ev
open PySem PySem.Spec PyProof.Rows L2
open Pv.Sw
theorem lD_map {α : Type} (l : List α) (f : α → Nat) : lD (l.map f) = .list (l.map fun a => kN (f a)) := by
  show PyData.list ((l.map f).map kN) = _
  rw [List.map_map]
  rfl
theorem tD_map {α : Type} (l : List α) (f : α → Nat) : tD (l.map f) = .tuple (l.map fun a => kN (f a)) := by
  show PyData.tuple ((l.map f).map kN) = _
  rw [List.map_map]
  rfl
end Pv.Ev
namespace Pv.Ev
open PySem PySem.Spec PyProof.Rows L2
open Pv.Sh Pv.Sw
section
variable {ρ : Env}
theorem es_nil : Es.nil.den ρ = pure [] := rfl
theorem es_cons {e : E} {r : Es} {d : D} {ds : List D} (h : e.den ρ = pure d) (h2 : r.den ρ = pure ds) : (Es.cons e r).den ρ = pure (d :: ds) := by rw [den_Es_cons, ap_aCons, h, pure_bnd, h2, pure_bnd]
theorem lst_es {es : Es} {ds : List D} (h : es.den ρ = pure ds) : (E.lst es).den ρ = pure (.list ds) := by rw [den_E_lst, ap_vLst, h, pure_bnd]
theorem tup_es {es : Es} {ds : List D} (h : es.den ρ = pure ds) : (E.tup es).den ρ = pure (.tuple ds) := by rw [den_E_tup, ap_vTup, h, pure_bnd]
theorem callc2S {x : Str} {f : Fn} {i : Nat} {a b : E} {S : SS} {u v : D} {r : Res D} (hc : ρ.getD i .none = .cell) (h : a.den ρ = pure u) (h2 : b.den ρ = pure v) (hn : f [.cell, .d u, .d v] S = r) : (E.call x f (.cell i (.cons a (.cons b .nil)))).den ρ S = r := by
  rw [den_E_call, ap_vCall, den_As_cell, ap_gCell, hc, slotG_cell, den_As_cons, ap_gCons, h, pure_bnd, den_As_cons, ap_gCons, h2, pure_bnd]
  exact hn
theorem cmp_thrL {o : Cop} {a b : E} {k : Exn} (h : a.den ρ = thr k) : (E.cmp o a b).den ρ = thr k := by
  rw [den_E_cmp, ap_v2, h]
  rfl
theorem ret_thr {e : E} {n : MS} {k : Exn} (h : e.den ρ = thr k) : sSeq (St.ret e).den n ρ = thr k := seq_thr (by rw [den_St_ret, ap_sRet, h]; rfl)
theorem lcS_to {o : List (Str × Nat)} {it : It} {t : T} {e : E} {ds vs : List D} {S S' : SS} (h : it.den ρ = pure ds) (h2 : collect (turnM t.den (vC (.bool true)) e.den (wipeE ρ (o.map (·.2)))) ds S = .ok vs S') : (E.lc o it t e).den ρ S = .ok (.list vs) S' := by
  rw [den_E_lc, ap_vLc, h, pure_bnd, bind_ok2 h2]
  rfl
end
/-- a word alone in a tuple -/
abbrev wd (s : String) : D := .tuple [.str (Str.ofString s)]
theorem lay_words (l : List String) (h : ∀ s ∈ l, (Str.ofString s).length ≤ 20) : Lay 2 (.list (l.map wd)) := lay_list (n := 1) fun d hd => by
  obtain ⟨s, hs, rfl⟩ := List.mem_map.mp hd
  exact lay_tup (n := 0) fun d hd => by
    rw [List.mem_singleton.mp hd]
    exact ⟨(sho_name (h s hs)).lay, (sho_name (h s hs)).dp⟩
theorem eqv_words : ∀ l : List String, PyData.eqvAll (l.map wd) (l.map wd) = true
  | [] => by simp [PyData.eqvAll]
  | s :: l => by
    have i := eqv_words l
    rw [List.map_cons]
    simp [PyData.eqvAll, PyData.eqv, i]
theorem ne_words (l : List String) (h : ∀ s ∈ l, (Str.ofString s).length ≤ 20) : Cop.ne.sem (.list (l.map wd)) (.list (l.map wd)) = pure (.bool false) := by
  have s := (lay_words l h).shaped (by decide)
  show neD (.list (l.map wd)) (.list (l.map wd)) = _
  unfold neD
  rw [show eqD (.list (l.map wd)) (.list (l.map wd)) = _ from if_pos ⟨s, s⟩, pure_bnd, asB_bool, pure_bnd]
  simp [PyData.eqv, eqv_words]
theorem rep_list (a : List D) {k : Nat} (h : a.length * k ≤ 100000) (hk : k ≤ 100000) : Bop.mul.sem (.list a) (kN k) = pure (.list (List.replicate k a).flatten) := by
  have e : (2 : Int) ^ 63 = 9223372036854775808 := by decide
  have c : -(2 ^ 63) ≤ (k : Int) ∧ (k : Int) < 2 ^ 63 ∧ a.length * ((k : Int)).toNat ≤ sizeLine := by
    rw [e, Int.toNat_natCast, sizeLine_eq]
    exact ⟨by omega, by omega, by omega⟩
  show mulD (.list a) (.int (k : Int)) = _
  simp only [mulD]
  rw [if_pos c, Int.toNat_natCast]
/-! all of a list can be shown -/
def ShoL (n w : Nat) (ds : List D) : Prop := ∀ d ∈ ds, Sho n w d
theorem sl_nil {n w : Nat} : ShoL n w [] := fun d h => by cases h
theorem sl_cons {n w n' w' : Nat} {d : D} {ds : List D} (h : Sho n' w' d) (r : ShoL n w ds) (l : n' ≤ n := by decide) (l2 : w' ≤ w := by decide) : ShoL n w (d :: ds) := fun x hx => by
  rcases List.mem_cons.mp hx with rfl | hx
  · exact h.up l l2
  · exact r x hx
theorem sl_map {α : Type} {n w : Nat} {l : List α} {f : α → D} (h : ∀ a ∈ l, Sho n w (f a)) : ShoL n w (l.map f) := fun d hd => by
  obtain ⟨a, ha, rfl⟩ := List.mem_map.mp hd
  exact h a ha
theorem sho_lst {n w : Nat} {ds : List D} (k : Nat) (h : ShoL n w ds) (hk : ds.length ≤ k) : Sho (n + 1) (k * (w + 2) + 2) (.list ds) := (sho_list h).up (Nat.le_refl _) (Nat.add_le_add_right (Nat.mul_le_mul_right _ hk) _)
theorem sho_tpl {n w : Nat} {ds : List D} (k : Nat) (h : ShoL n w ds) (hk : ds.length ≤ k) : Sho (n + 1) (k * (w + 2) + 3) (.tuple ds) := (sho_tup h).up (Nat.le_refl _) (Nat.add_le_add_right (Nat.mul_le_mul_right _ hk) _)
theorem sho_nats {l : List Nat} {b : Nat} (k : Nat) (h : ∀ r ∈ l, r < 2 ^ b) (hk : l.length ≤ k) (h0 : 0 < b := by decide) (hb : b ≤ 1920 := by decide) : Sho 1 (k * (b + 1 + 2) + 3) (tD l) := sho_tpl k (sl_map fun r hr => sho_nat (h r hr) h0 hb) (by rw [List.length_map]; exact hk)
theorem sho_natsL {l : List Nat} {b : Nat} (k : Nat) (h : ∀ r ∈ l, r < 2 ^ b) (hk : l.length ≤ k) (h0 : 0 < b := by decide) (hb : b ≤ 1920 := by decide) : Sho 1 (k * (b + 1 + 2) + 2) (lD l) := sho_lst k (sl_map fun r hr => sho_nat (h r hr) h0 hb) (by rw [List.length_map]; exact hk)
end Pv.Ev
namespace Pv.Fb
open PySem PySem.Spec PyProof.Rows L2
open Pv.Sh
open Pv.Sw (kN lD tD thP small in_nats mem_thP setI_self sum_nats map_kN Lay lay_int lay_list lay_tup lay_lD lay_tD eq_nil ne_nil emp_nats emp_map sho_name sho_nat told_sho one_sho sho_tD endS endP told_is told_thr seq_thr rng_big r1_big call3_to ifE_to)
open Pv.Ev
local macro_rules | `(tactic| and_intros) => `(tactic| first
  | ((with_reducible apply var_at); exact rfl)
  | ((with_reducible apply peek_own); exact rfl)
  | ((with_reducible apply peek_val); exact rfl)
  | with_reducible exact neg1_at
  | ((with_reducible apply srtSet_to) <;> and_intros)
  | with_reducible exact int_nat _
  | with_reducible exact glob_nat _ _
  | with_reducible exact str_is _
  | with_reducible exact bl_is _
  | with_reducible exact non_is
  | with_reducible exact int_is _
  | with_reducible exact glob_is _ _
  | with_reducible exact tup_0
  | with_reducible exact lst_0
  | ((with_reducible apply bin_to) <;> and_intros)
  | ((with_reducible apply cmp_to) <;> and_intros)
  | ((with_reducible apply ix_to) <;> and_intros)
  | ((with_reducible apply b1_to) <;> and_intros)
  | ((with_reducible apply call1_to) <;> and_intros)
  | ((with_reducible apply call2_to) <;> and_intros)
  | ((with_reducible apply call3_to) <;> and_intros)
  | ((with_reducible apply lcIf_ev) <;> and_intros)
  | ((with_reducible apply lc_ev) <;> and_intros)
  | ((with_reducible apply not_to) <;> and_intros)
  | ((with_reducible apply and_more) <;> and_intros)
  | ((with_reducible apply and_one) <;> and_intros)
  | ((with_reducible apply or_more) <;> and_intros)
  | ((with_reducible apply or_one) <;> and_intros)
  | ((with_reducible apply chain_to) <;> and_intros)
  | ((with_reducible apply un_to) <;> and_intros)
  | ((with_reducible apply b2_to) <;> and_intros)
  | ((with_reducible apply tup_es) <;> and_intros)
  | ((with_reducible apply lst_es) <;> and_intros)
  | ((with_reducible apply es_cons) <;> and_intros)
  | with_reducible exact es_nil
  | ((with_reducible apply told_ev) <;> and_intros)
  | ((with_reducible apply r1_to) <;> and_intros)
  | ((with_reducible apply r2_to) <;> and_intros)
  | ((with_reducible apply seq_to2) <;> and_intros)
  | ((with_reducible apply en_to) <;> and_intros)
  | ((with_reducible apply turn_yes); (first | exact rfl | skip); and_intros)
  | ((with_reducible apply turn_ok); (first | exact rfl | skip); and_intros; and_intros)
  | ((with_reducible apply run_of) <;> and_intros)
  | ((with_reducible apply seq_ret) <;> and_intros)
  | ((with_reducible apply seq_set) <;> and_intros)
  | ((with_reducible apply seq_setC) <;> and_intros)
  | ((with_reducible apply seq_setF) <;> and_intros)
  | ((with_reducible apply seq_expr) <;> and_intros)
  | ((with_reducible apply seq_new0) <;> and_intros)
  | with_reducible exact items_l _ _
  | with_reducible exact items_t _ _
  | with_reducible exact sq_l _ _
  | with_reducible exact sq_t _ _
  | with_reducible exact o_add _ _
  | with_reducible exact o_and _ _
  | with_reducible exact o_or _ _
  | with_reducible exact o_xor _ _
  | with_reducible exact o_shr _ _
  | ((with_reducible apply o_shl1); omega)
  | ((with_reducible apply o_mod); (first | omega | decide))
  | ((with_reducible apply o_div) <;> (first | omega | decide))
  | ((with_reducible apply o_sub); omega)
  | with_reducible exact o_inv _
  | with_reducible exact o_neg _
  | with_reducible exact c_eq _ _
  | with_reducible exact c_ne _ _
  | with_reducible exact c_lt _ _
  | with_reducible exact c_le _ _
  | with_reducible exact c_gt _ _
  | with_reducible exact c_ge _ _
  | with_reducible exact c_in _ _
  | with_reducible exact c_inT _ _
  | with_reducible exact c_nin _ _
  | with_reducible exact c_ninT _ _
  | with_reducible exact b_lenL _ _
  | with_reducible exact b_lenT _ _
  | with_reducible exact b_len2 _ _
  | ((with_reducible apply sl_hi) <;> and_intros)
  | ((with_reducible apply sl_lo) <;> and_intros)
  | with_reducible exact s_takeL _ _ _
  | with_reducible exact s_takeT _ _ _
  | with_reducible exact s_dropL _ _ _
  | with_reducible exact s_dropT _ _ _
  | ((with_reducible apply zip_to) <;> and_intros)
  | with_reducible exact z_l _ _ _ _
  | with_reducible exact z_t _ _ _ _
  | with_reducible exact b_tup _
  | with_reducible exact b_lst _
  | with_reducible exact b_intB _
  | with_reducible exact b_intN _
  | with_reducible exact b_all _ _
  | with_reducible exact b_any _ _
  | with_reducible exact b_sum _ _
  | with_reducible exact b_max2 _ _
  | with_reducible exact b_min2 _ _
  | with_reducible exact pair_0 _ _
  | with_reducible exact pair_1 _ _
  | infer_instance
  | (intro _; and_intros)
  | omega
  | skip)
/-! the later laws' shared helpers -/
def n_check_many : List Str := ["many"]
def b_check_many : Sts := (.cons (.ite (.not (.chain .le .le (.int 1) (.var 0) (.glob "MAX_THINGS" (.int 7))))
 (.cons (.raise .na "NotAllowed")
 .nil)
 .nil)
 .nil)
def f_check_many : Fn := runB n_check_many.length b_check_many.den
def n_check_family : List Str := ["family", "row", "one", "other"]
def b_check_family : Sts := (.cons (.ite (.cmp .ne (.b1 .len (.var 0)) (.int 2))
 (.cons (.raise .na "NotAllowed")
 .nil)
 .nil)
 (.cons (.expr (.call "check_many" f_check_many (.cons (.ix (.var 0) (.int 0)) .nil)))
 (.cons (.ite (.not (.b1 .all (.lc [("row", 1)] (.seq (.ix (.var 0) (.int 1))) (.nm 1) (.chain .le .lt (.int 0) (.var 1) (.bin .shl (.int 1) (.ix (.var 0) (.int 0)))))))
 (.cons (.raise .na "NotAllowed")
 .nil)
 .nil)
 (.cons (.ite (.not (.b1 .all (.lc [("one", 2), ("other", 3)] (.zip (.ix (.var 0) (.int 1)) (.sl (.ix (.var 0) (.int 1)) (.yes (.int 1)) .no)) (.tup [2, 3]) (.cmp .lt (.var 2) (.var 3)))))
 (.cons (.raise .na "NotAllowed")
 .nil)
 .nil)
 .nil))))
def f_check_family : Fn := runB n_check_family.length b_check_family.den
def n_known_things : List Str := ["row", "thing"]
def b_known_things : Sts := (.cons (.ret (.b1 .tuple (.lcIf [("thing", 1)] (.r1 (.glob "MAX_THINGS" (.int 7))) (.nm 1) (.cmp .eq (.bin .and (.bin .shr (.var 0) (.var 1)) (.int 1)) (.int 1)) (.var 1))))
 .nil)
def f_known_things : Fn := runB n_known_things.length b_known_things.den
def n_known_size : List Str := ["row"]
def b_known_size : Sts := (.cons (.ret (.b1 .len (.call "known_things" f_known_things (.cons (.var 0) .nil))))
 .nil)
def f_known_size : Fn := runB n_known_size.length b_known_size.den
def n__law_things : List Str := ["row", "thing"]
def b__law_things : Sts := (.cons (.ret (.lcIf [("thing", 1)] (.r1 (.int 7)) (.nm 1) (.cmp .eq (.bin .and (.bin .shr (.var 0) (.var 1)) (.int 1)) (.int 1)) (.var 1)))
 .nil)
def f__law_things : Fn := runB n__law_things.length b__law_things.den
def n__law_size : List Str := ["row"]
def b__law_size : Sts := (.cons (.ret (.b1 .len (.call "_law_things" f__law_things (.cons (.var 0) .nil))))
 .nil)
def f__law_size : Fn := runB n__law_size.length b__law_size.den
def n__law_choices : List Str := ["rows", "found", "row", "one"]
def b__law_choices : Sts := (.cons (.set 1 (.lst (.cons (.tup .nil) .nil)))
 (.cons (.for_ (.seq (.var 0)) (.nm 2)
 (.cons (.set 1 (.bin .add (.var 1) (.lc [("one", 3)] (.seq (.var 1)) (.nm 3) (.bin .add (.var 3) (.tup (.cons (.var 2) .nil))))))
 .nil))
 (.cons (.ret (.sortLen (.var 1)))
 .nil)))
def f__law_choices : Fn := runB n__law_choices.length b__law_choices.den
def n__law_bad_families : List Str := []
def b__law_bad_families : Sts := (.cons (.ret (.lst (.cons (.tup (.cons (.int 0) (.cons (.tup .nil) .nil))) (.cons (.tup (.cons (.int 8) (.cons (.tup .nil) .nil))) (.cons (.tup (.cons (.int 2) (.cons (.tup (.cons (.int 4) .nil)) .nil))) (.cons (.tup (.cons (.int 2) (.cons (.tup (.cons (.int 2) (.cons (.int 1) .nil))) .nil))) (.cons (.tup (.cons (.int 2) (.cons (.tup (.cons (.int 1) (.cons (.int 1) .nil))) .nil))) (.cons (.tup (.cons (.int 2) (.cons (.tup (.cons (.un .neg (.int 1)) .nil)) .nil))) (.cons (.tup (.cons (.int 3) (.cons (.tup (.cons (.int 0) (.cons (.int 8) .nil))) .nil))) .nil)))))))))
 .nil)
def f__law_bad_families : Fn := runB n__law_bad_families.length b__law_bad_families.den
def n__law_family : List Str := ["state", "most", "rows_most", "many", "pick", "whole", "rows", "k", "row"]
def b__law_family : Sts := (.cons (.set 3 (.bin .add (.int 1) (.call "_law_next" f__law_next (.cell 0 (.cons (.var 1) .nil)))))
 (.cons (.set 4 (.call "_law_next" f__law_next (.cell 0 (.cons (.int 5) .nil))))
 (.cons (.set 5 (.bin .shl (.int 1) (.var 3)))
 (.cons (.new 6 (.lst .nil))
 (.cons (.for_ (.r1 (.bin .add (.int 1) (.call "_law_next" f__law_next (.cell 0 (.cons (.var 2) .nil))))) (.nm 7)
 (.cons (.app 6 (.call "_law_next" f__law_next (.cell 0 (.cons (.var 5) .nil))))
 .nil))
 (.cons (.ite (.cmp .eq (.var 4) (.int 0))
 (.cons (.set 6 (.bin .add (.peek 6) (.lst (.cons (.bin .or (.ix (.peek 6) (.int 0)) (.ix (.peek 6) (.un .neg (.int 1)))) (.cons (.bin .and (.ix (.peek 6) (.int 0)) (.ix (.peek 6) (.un .neg (.int 1)))) .nil)))))
 .nil)
 .nil)
 (.cons (.ite (.cmp .eq (.var 4) (.int 1))
 (.cons (.set 6 (.sl (.lcIf [("row", 8)] (.r1 (.var 5)) (.nm 8) (.cmp .eq (.call "_law_size" f__law_size (.cons (.var 8) .nil)) (.bin .add (.int 1) (.bin .fdiv (.var 3) (.int 3)))) (.var 8)) .no (.yes (.var 2))))
 .nil)
 .nil)
 (.cons (.ite (.cmp .eq (.var 4) (.int 2))
 (.cons (.set 6 (.bin .add (.peek 6) (.lst (.cons (.bin .sub (.var 5) (.int 1)) .nil))))
 .nil)
 .nil)
 (.cons (.ret (.tup (.cons (.var 3) (.cons (.b1 .tuple (.srtSet (.peek 6))) .nil))))
 .nil)))))))))
def f__law_family : Fn := runB n__law_family.length b__law_family.den
local macro_rules | `(tactic| infer_instance) => `(tactic| with_reducible exact Pv.Sw.power_eq (by omega))
theorem known_things_eq (r : Nat) : f_known_things [.d (kN r)] = pure (tD (thP r)) := Pv.Sw.known_things_eq r
local macro_rules | `(tactic| infer_instance) => `(tactic| with_reducible exact known_things_eq _)
theorem known_size_eq (r : Nat) : f_known_size [.d (kN r)] = pure (kN (thP r).length) := Pv.Sw.known_size_eq r
local macro_rules | `(tactic| infer_instance) => `(tactic| with_reducible exact known_size_eq _)
theorem bit_and (r t : Nat) : ((r >>> t &&& 1) == 1) = r.testBit t := by
  rw [Nat.and_one_is_mod, Nat.shiftRight_eq_div_pow, Pv.Sw.bit_eq]
  cases r.testBit t <;> rfl
theorem bit_and0 (r t : Nat) : ((r >>> t &&& 1) == 0) = !r.testBit t := by
  rw [Nat.and_one_is_mod, Nat.shiftRight_eq_div_pow, Pv.Sw.bit_eq]
  cases r.testBit t <;> rfl
theorem things_eq (r : Nat) : f__law_things [.d (kN r)] = pure (lD (thP r)) := by
  simp only [f__law_things, runB_eq, n__law_things, b__law_things, den_Sts_cons, den_Sts_nil]
  apply Eq.trans
  · and_intros
  · simp only [bit_and]
    rfl
local macro_rules | `(tactic| infer_instance) => `(tactic| with_reducible exact things_eq _)
theorem size_eq (r : Nat) : f__law_size [.d (kN r)] = pure (kN (thP r).length) := by
  simp only [f__law_size, runB_eq, n__law_size, b__law_size, den_Sts_cons, den_Sts_nil]
  and_intros
local macro_rules | `(tactic| infer_instance) => `(tactic| with_reducible exact size_eq _)
theorem many_ok {n : Nat} (h : 1 ≤ n) (h2 : n ≤ 7) : f_check_many [.d (kN n)] = pure .none := Pv.Sw.many_ok h h2
/-! a family -/
abbrev fam (m : Nat) (l : List Nat) : D := .tuple [kN m, tD l]
structure Good (m : Nat) (l : List Nat) : Prop where
  one : 1 ≤ m
  few : m ≤ 7
  lt : ∀ r ∈ l, r < 2 ^ m
  up : l.Pairwise (· < ·)
theorem zip_up : ∀ {l : List Nat}, l.Pairwise (· < ·) → (l.zip (l.drop 1)).all (fun p => decide (p.1 < p.2)) = true
  | [], _ => rfl
  | [a], _ => rfl
  | a :: b :: r, h => by
    have h1 := List.pairwise_cons.mp h
    have i := zip_up (l := b :: r) h1.2
    show (decide (a < b) && ((b :: r).zip ((b :: r).drop 1)).all _) = true
    rw [decide_eq_true (h1.1 b (by simp)), Bool.true_and]
    exact i
theorem check_family_ok {m : Nat} {l : List Nat} (g : Good m l) : f_check_family [.d (fam m l)] = pure .none := by
  have h1 := g.one
  have h7 := g.few
  simp only [f_check_family, runB_eq, n_check_family, b_check_family, den_Sts_cons, den_Sts_nil]
  apply run_nx
  · apply seq_guard
    · and_intros
    · rfl
    apply seq_expr
    · apply call1_to
      · and_intros
      · exact many_ok h1 h7
    apply seq_guard
    · and_intros
    · simp only [Bool.not_eq_false', List.all_eq_true, Bool.and_eq_true, decide_eq_true_eq]
      exact fun r hr => ⟨Nat.zero_le _, g.lt r hr⟩
    apply seq_guard
    · and_intros
    · rw [Bool.not_eq_false']
      exact zip_up g.up
    · rfl
/-! sorted rows of numbers -/
theorem nonneg_map {l : List Int} (h : ∀ i ∈ l, 0 ≤ i) : (l.map Int.toNat).map kN = l.map PyData.int := by
  rw [List.map_map]
  refine List.map_congr_left fun i hi => ?_
  show PyData.int ((i.toNat : Nat) : Int) = _
  rw [Int.toNat_of_nonneg (h i hi)]
def setN (l : List Nat) : List Nat := (setI (l.map fun n : Nat => (n : Int))).map Int.toNat
theorem setI_nn (l : List Nat) : ∀ i ∈ setI (l.map fun n : Nat => (n : Int)), 0 ≤ i := fun i hi => by
  obtain ⟨n, _, rfl⟩ := List.mem_map.mp (setI_mem.mp hi)
  omega
theorem mem_setN {l : List Nat} {x : Nat} : x ∈ setN l ↔ x ∈ l := by
  unfold setN
  rw [List.mem_map]
  constructor
  · rintro ⟨i, hi, rfl⟩
    obtain ⟨n, hn, rfl⟩ := List.mem_map.mp (setI_mem.mp hi)
    exact hn
  · intro h
    exact ⟨(x : Int), setI_mem.mpr (List.mem_map.mpr ⟨x, h, rfl⟩), rfl⟩
theorem setN_up (l : List Nat) : (setN l).Pairwise (· < ·) := by
  unfold setN
  rw [List.pairwise_map]
  refine List.Pairwise.imp_of_mem ?_ (setI_lt _)
  intro a b ha hb h
  have := setI_nn l a ha
  omega
theorem setN_len (l : List Nat) : (setN l).length ≤ l.length := by
  have n : (setN l).Nodup := (setN_up l).imp fun h => Nat.ne_of_lt h
  exact nodup_le n fun x hx => mem_setN.mp hx
theorem srtSet_nats {l : List Nat} (h : l.length ≤ 1000) : srtSetD (lD l) = pure (lD (setN l)) := by
  show srtSetD (.list (l.map kN)) = _
  rw [map_kN]
  simp only [srtSetD, overInts, intsOf_ints]
  rw [if_pos (by simpa using h)]
  unfold setN
  rw [← nonneg_map (setI_nn l)]
theorem up_uniq : ∀ {a b : List Nat}, a.Pairwise (· < ·) → b.Pairwise (· < ·) → (∀ x, x ∈ a ↔ x ∈ b) → a = b := fun {a b} ha hb h => by
  have na : a.Nodup := ha.imp fun h => Nat.ne_of_lt h
  have nb : b.Nodup := hb.imp fun h => Nat.ne_of_lt h
  exact ((List.perm_ext_iff_of_nodup na nb).mpr h).eq_of_pairwise (fun x y _ _ h1 h2 => by omega) ha hb
def sortN (l : List Nat) : List Nat := l.mergeSort fun a b => decide (a ≤ b)
theorem sortN_perm (l : List Nat) : (sortN l).Perm l := List.mergeSort_perm _ _
theorem sortN_pw (l : List Nat) : (sortN l).Pairwise (· ≤ ·) := by
  have := List.pairwise_mergeSort (le := fun a b : Nat => decide (a ≤ b)) (fun a b c h1 h2 => by simp only [decide_eq_true_eq] at *; omega) (fun a b => by simp only [Bool.or_eq_true, decide_eq_true_eq]; omega) l
  exact this.imp fun h => by simpa using h
theorem sortN_up {l : List Nat} (h : l.Nodup) : (sortN l).Pairwise (· < ·) := by
  have n : (sortN l).Nodup := (sortN_perm l).nodup_iff.mpr h
  exact ((sortN_pw l).and n).imp fun z => Nat.lt_of_le_of_ne z.1 z.2
theorem sortI_nats (l : List Nat) : sortI (l.map fun n : Nat => (n : Int)) = (sortN l).map fun n : Nat => (n : Int) := by
  refine (sorted_uniq ((sortN_perm l).map _) ?_).symm
  rw [List.pairwise_map]
  exact (sortN_pw l).imp fun h => by omega
theorem sorted_nats (l : List Nat) : sortedD (lD l) = pure (lD (sortN l)) := by
  show sortedD (.list (l.map kN)) = _
  rw [map_kN]
  simp only [sortedD, overOr, intsOf_ints]
  rw [sortI_nats, ← map_kN]
theorem sorted_natsT {l : List Nat} (h : l.length ≤ 100000) : sortedD (tD l) = pure (lD (sortN l)) := by
  show sortedD (.tuple (l.map kN)) = _
  rw [map_kN]
  simp only [sortedD, overInts, intsOf_ints]
  rw [if_pos (by simpa using h), sortI_nats, ← map_kN]
theorem sortN_id {l : List Nat} (h : l.Pairwise (· ≤ ·)) : sortN l = l := ((sortN_perm l).eq_of_pairwise (fun x y _ _ h1 h2 => by omega) (sortN_pw l) h)
/-! all choices -/
def subsP : List Nat → List (List Nat) → List (List Nat)
  | [], F => F
  | r :: l, F => subsP l (F ++ F.map fun x => x ++ [r])
theorem subsP_len : ∀ (l : List Nat) (F : List (List Nat)), (subsP l F).length = F.length * 2 ^ l.length
  | [], F => by simp [subsP]
  | r :: l, F => by
    rw [subsP, subsP_len l, List.length_append, List.length_map, List.length_cons, Nat.pow_succ]
    have : F.length + F.length = F.length * 2 := by omega
    rw [this, Nat.mul_assoc, Nat.mul_comm 2]
theorem tupI_nats (l : List Nat) : tupI (l.map fun n : Nat => (n : Int)) = tD l := by
  unfold tupI
  rw [← map_kN]
theorem tupsI_nats : ∀ F : List (List Nat), tupsI (F.map tD) = some (F.map fun l => l.map fun n : Nat => (n : Int))
  | [] => rfl
  | l :: F => by
    have i := tupsI_nats F
    rw [List.map_cons, List.map_cons]
    show (match intsOf (l.map kN), tupsI (F.map tD) with
      | some ns, some ls => some (ns :: ls)
      | _, _ => none) = _
    rw [i, map_kN, intsOf_ints]
def chLe (a b : List Nat) : Bool := PySem.W.dataLe false keyI (a.map fun n : Nat => (n : Int)) (b.map fun n : Nat => (n : Int))
def chs (l : List Nat) : List (List Nat) := (subsP l [[]]).mergeSort chLe
theorem chs_perm (l : List Nat) : (chs l).Perm (subsP l [[]]) := List.mergeSort_perm _ _
theorem sortLen_nats {F : List (List Nat)} (h : F.length ≤ 100000) : sortLenD (.list (F.map tD)) = pure (.list ((F.mergeSort chLe).map tD)) := by
  simp only [sortLenD, tupsI_nats]
  rw [if_pos (by rw [List.length_map]; exact h), ← PySem.W.sort_maps (r := chLe) (fun l : List Nat => l.map fun n : Nat => (n : Int)) (fun a _ b _ => rfl), List.map_map]
  congr 2
  exact List.map_congr_left fun l _ => tupI_nats l
theorem choices_loop : ∀ (l : List Nat) (F : List (List Nat)) (d : D) (s2 s3 : Slot), F.length * 2 ^ l.length ≤ 100000 → (∀ x ∈ F, x.length + l.length ≤ 1000) → ∃ t2 t3, forN (T.nm 2).den (Sts.cons (.set 1 (.bin .add (.var 1) (.lc [("one", 3)] (.seq (.var 1)) (.nm 3) (.bin .add (.var 3) (.tup (.cons (.var 2) .nil)))))) .nil).den (l.map kN) [.val d, .val (.list (F.map tD)), s2, s3] = pure (.nx [.val d, .val (.list ((subsP l F).map tD)), t2, t3])
  | [], F, d, s2, s3, _, _ => ⟨s2, s3, rfl⟩
  | r :: l, F, d, s2, s3, h, hx => by
    rw [List.length_cons, Nat.pow_succ] at h
    have p0 : 0 < 2 ^ l.length := Nat.two_pow_pos _
    have h2 : F.length * 2 ≤ 100000 := Nat.le_trans (by rw [Nat.mul_comm (2 ^ l.length), ← Nat.mul_assoc]; exact Nat.le_mul_of_pos_right _ p0) h
    obtain ⟨t2, t3, e⟩ := choices_loop l (F ++ F.map fun x => x ++ [r]) d (.val (kN r)) s3 (by
      rw [List.length_append, List.length_map, show F.length + F.length = F.length * 2 from by omega, Nat.mul_assoc, Nat.mul_comm 2]
      exact h) (fun x hm => by
      rcases List.mem_append.mp hm with z | z
      · have := hx x z
        rw [List.length_cons] at this
        omega
      · obtain ⟨y, hy, rfl⟩ := List.mem_map.mp z
        have := hx y hy
        rw [List.length_cons] at this
        rw [List.length_append, List.length_singleton]
        omega)
    refine ⟨t2, t3, ?_⟩
    rw [List.map_cons]
    have b : (Sts.cons (.set 1 (.bin .add (.var 1) (.lc [("one", 3)] (.seq (.var 1)) (.nm 3) (.bin .add (.var 3) (.tup (.cons (.var 2) .nil)))))) .nil).den [.val d, .val (.list (F.map tD)), .val (kN r), s3] = pure (.nx [.val d, .val (.list ((F ++ F.map fun x => x ++ [r]).map tD)), .val (kN r), s3]) := by
      refine seq_to (set_to (d := .list ((F ++ F.map fun x => x ++ [r]).map tD)) (bin_to (x := .list (F.map tD)) (y := .list ((F.map fun x => x ++ [r]).map tD)) rfl ?_ (addL tD F _ (by rw [List.length_map]; omega)))) rfl
      rw [List.map_map]
      refine lc_ev (l := F) (h := tD) (g := fun x => tD (x ++ [r])) (seq_to2 (d := .list (F.map tD)) rfl rfl) fun x hm => turn_yes rfl (bin_to (x := tD x) (y := .tuple ([r].map kN)) rfl rfl (addT kN x [r] ?_))
      have := hx x hm
      rw [List.length_cons] at this
      rw [List.length_singleton]
      omega
    show (Sts.cons _ .nil).den [.val d, .val (.list (F.map tD)), .val (kN r), s3] >>= _ = _
    rw [b, pure_bnd, again_nx]
    exact e
theorem choices_eq {l : List Nat} (hl : l.length ≤ 16) {d : D} (hd : itemsD d = pure (l.map kN)) : f__law_choices [.d d] = pure (.list ((chs l).map tD)) := by
  have p : 2 ^ l.length ≤ 2 ^ 16 := Nat.pow_le_pow_right (by decide) hl
  have p16 : 2 ^ 16 = 65536 := by decide
  obtain ⟨t2, t3, e⟩ := choices_loop l [[]] d .none .none (by rw [List.length_singleton]; omega) (fun x hx => by rw [List.mem_singleton.mp hx, List.length_nil]; omega)
  simp only [f__law_choices, runB_eq, n__law_choices, b__law_choices, den_Sts_cons, den_Sts_nil]
  refine run_of (seq_to (ρ1 := [.val d, .val (.list (([[]] : List (List Nat)).map tD)), .none, .none]) rfl (seq_to (for_to (ds := l.map kN) (seq_to2 (d := d) rfl hd) e) (seq_rt (ret_to ?_))))
  rw [den_E_sortLen, ap_v1, den_E_var, ap_vVar]
  show sortLenD (.list ((subsP l [[]]).map tD)) = _
  exact sortLen_nats (by rw [subsP_len, List.length_singleton]; omega)
/-! a family is drawn -/
def famRest : Sts := (.cons (.ite (.cmp .eq (.var 4) (.int 0))
 (.cons (.set 6 (.bin .add (.peek 6) (.lst (.cons (.bin .or (.ix (.peek 6) (.int 0)) (.ix (.peek 6) (.un .neg (.int 1)))) (.cons (.bin .and (.ix (.peek 6) (.int 0)) (.ix (.peek 6) (.un .neg (.int 1)))) .nil)))))
 .nil)
 .nil)
 (.cons (.ite (.cmp .eq (.var 4) (.int 1))
 (.cons (.set 6 (.sl (.lcIf [("row", 8)] (.r1 (.var 5)) (.nm 8) (.cmp .eq (.call "_law_size" f__law_size (.cons (.var 8) .nil)) (.bin .add (.int 1) (.bin .fdiv (.var 3) (.int 3)))) (.var 8)) .no (.yes (.var 2))))
 .nil)
 .nil)
 (.cons (.ite (.cmp .eq (.var 4) (.int 2))
 (.cons (.set 6 (.bin .add (.peek 6) (.lst (.cons (.bin .sub (.var 5) (.int 1)) .nil))))
 .nil)
 .nil)
 (.cons (.ret (.tup (.cons (.var 3) (.cons (.b1 .tuple (.srtSet (.peek 6))) .nil))))
 .nil))))
theorem fam_end {m p w rm : Nat} {l : List Nat} (s : Slot) (hs : slotP s = pure (lD l)) (hl : l.length ≤ 1000) {s7 s8 : Slot} {d1 : D} : (Sts.cons (.ret (.tup (.cons (.var 3) (.cons (.b1 .tuple (.srtSet (.peek 6))) .nil)))) .nil).den [.cell, .val d1, .val (kN rm), .val (kN m), .val (kN p), .val (kN w), s, s7, s8] = pure (.rt (fam m (setN l))) := by
  refine seq_ret (tup2_to (u := kN m) rfl (b1_to (d := lD (setN l)) (srtSet_to (d := lD l) ?_ (srtSet_nats hl)) rfl))
  rw [den_E_peek, ap_vPeek]
  exact hs
theorem layer_ne : ∀ m, m < 8 → 1 ≤ m → ((List.range (2 ^ m)).filter fun r => (thP r).length == 1 + m / 3) ≠ [] := by decide +kernel
theorem fam_rest {m p rm : Nat} {acc : List Nat} (h1 : 1 ≤ m) (h7 : m ≤ 7) (hr : 1 ≤ rm) (hr9 : rm ≤ 100) (ne : acc ≠ []) (hl : acc.length ≤ rm) (lt : ∀ r ∈ acc, r < 2 ^ m) {s7 : Slot} {d1 : D} :
    ∃ L : List Nat, famRest.den [.cell, .val d1, .val (kN rm), .val (kN m), .val (kN p), .val (kN (2 ^ m)), .own (acc.map kN), s7, .none] = pure (.rt (fam m (setN L))) ∧ L ≠ [] ∧ L.length ≤ rm + 2 ∧ ∀ r ∈ L, r < 2 ^ m := by
  have p7 : 2 ^ m ≤ 2 ^ 7 := Nat.pow_le_pow_right (by decide) h7
  have p0 : 0 < 2 ^ m := Nat.two_pow_pos m
  have no : ∀ {q : Nat} {s : Slot} {a : Sts} {n : MS} {r : M Fl}, p ≠ q → n [.cell, .val d1, .val (kN rm), .val (kN m), .val (kN p), .val (kN (2 ^ m)), s, s7, .none] = r → sSeq (St.ite (.cmp .eq (.var 4) (.int (@OfNat.ofNat Int q _))) a .nil).den n [.cell, .val d1, .val (kN rm), .val (kN m), .val (kN p), .val (kN (2 ^ m)), s, s7, .none] = r := fun {q} {s} {a} {n} {r} hq h => by
    refine seq_to (ite_to (v := false) (cmp_to (x := kN p) (y := kN q) rfl rfl ((c_eq p q).trans ?_)) rfl) h
    rw [beq_eq_false_iff_ne.mpr hq]
  have yes : ∀ {q : Nat} {s s' : Slot} {a : Sts} {n : MS} {r : M Fl}, p = q → a.den [.cell, .val d1, .val (kN rm), .val (kN m), .val (kN p), .val (kN (2 ^ m)), s, s7, .none] = pure (.nx [.cell, .val d1, .val (kN rm), .val (kN m), .val (kN p), .val (kN (2 ^ m)), s', s7, .none]) → n [.cell, .val d1, .val (kN rm), .val (kN m), .val (kN p), .val (kN (2 ^ m)), s', s7, .none] = r → sSeq (St.ite (.cmp .eq (.var 4) (.int (@OfNat.ofNat Int q _))) a .nil).den n [.cell, .val d1, .val (kN rm), .val (kN m), .val (kN p), .val (kN (2 ^ m)), s, s7, .none] = r := fun {q} {s} {s'} {a} {n} {r} hq ha h => by
    refine seq_to (ite_to (v := true) (cmp_to (x := kN p) (y := kN q) rfl rfl ((c_eq p q).trans ?_)) ha) h
    rw [beq_iff_eq.mpr hq]
  simp only [famRest, den_Sts_cons]
  obtain ⟨a0, r0, rfl⟩ := List.exists_cons_of_ne_nil ne
  have g0 : (a0 :: r0)[0]? = some a0 := rfl
  have ml : (a0 :: r0).getLast ne ∈ a0 :: r0 := List.getLast_mem ne
  generalize hz : (a0 :: r0).getLast ne = z at ml
  by_cases c0 : p = 0
  · refine ⟨(a0 :: r0) ++ [a0 ||| z, a0 &&& z], ?_, by simp, by rw [List.length_append]; simp only [List.length_cons, List.length_nil] at *; omega, fun r hr => ?_⟩
    · refine yes (s' := .val (lD ((a0 :: r0) ++ [a0 ||| z, a0 &&& z]))) c0 (seq_to (set_to (bin_to (x := lD (a0 :: r0)) (y := lD [a0 ||| z, a0 &&& z]) rfl (lst2_to (bin_to (x := kN a0) (y := kN z) (ix_to (x := lD (a0 :: r0)) (y := kN 0) rfl rfl (ixL kN g0)) (ix_to (x := lD (a0 :: r0)) (y := .int (-1)) rfl rfl ((ixL_last kN ne).trans (by rw [hz]))) (o_or a0 z)) (bin_to (x := kN a0) (y := kN z) (ix_to (x := lD (a0 :: r0)) (y := kN 0) rfl rfl (ixL kN g0)) (ix_to (x := lD (a0 :: r0)) (y := .int (-1)) rfl rfl ((ixL_last kN ne).trans (by rw [hz]))) (o_and a0 z))) (addL kN (a0 :: r0) [a0 ||| z, a0 &&& z] (by simp only [List.length_cons, List.length_nil] at *; omega)))) rfl) ?_
      exact no (q := 1) (by omega) (no (q := 2) (by omega) (fam_end _ rfl (by rw [List.length_append]; simp only [List.length_cons, List.length_nil] at *; omega)))
    · rcases List.mem_append.mp hr with q | q
      · exact lt r q
      · have l1 := lt a0 (by simp)
        have l2 := lt z ml
        simp only [List.mem_cons, List.not_mem_nil, or_false] at q
        rcases q with rfl | rfl
        · exact Nat.or_lt_two_pow l1 l2
        · exact Nat.and_lt_two_pow _ l2
  by_cases c1 : p = 1
  · refine ⟨((List.range (2 ^ m)).filter fun r => (thP r).length == 1 + m / 3).take rm, ?_, ?_, by rw [List.length_take]; omega, fun r hr => ?_⟩
    · refine no c0 (yes (s' := .val (lD (((List.range (2 ^ m)).filter fun r => (thP r).length == 1 + m / 3).take rm))) c1 (seq_to (set_to (sl_hi (d := lD ((List.range (2 ^ m)).filter fun r => (thP r).length == 1 + m / 3)) (k := rm) ?_ rfl (s_takeL _ kN rm))) rfl) ?_)
      · and_intros
      · exact no (q := 2) (by omega) (fam_end _ rfl (by rw [List.length_take]; omega))
    · have := layer_ne m (by omega) h1
      rw [ne_eq, List.take_eq_nil_iff]
      rintro (z | z)
      · omega
      · exact this z
    · have := List.mem_of_mem_take hr
      exact List.mem_range.mp (List.mem_filter.mp this).1
  by_cases c2 : p = 2
  · refine ⟨(a0 :: r0) ++ [2 ^ m - 1], ?_, by simp, by rw [List.length_append]; simp only [List.length_cons, List.length_nil] at *; omega, fun r hr => ?_⟩
    · refine no c0 (no c1 (yes (s' := .val (lD ((a0 :: r0) ++ [2 ^ m - 1]))) c2 (seq_to (set_to (bin_to (x := lD (a0 :: r0)) (y := lD [2 ^ m - 1]) rfl (lst_1 (bin_to (x := kN (2 ^ m)) (y := kN 1) rfl rfl (o_sub (by omega)))) (addL kN (a0 :: r0) [2 ^ m - 1] (by simp only [List.length_cons, List.length_nil] at *; omega)))) rfl) ?_))
      exact fam_end _ rfl (by rw [List.length_append]; simp only [List.length_cons, List.length_nil] at *; omega)
    · rcases List.mem_append.mp hr with q | q
      · exact lt r q
      · rw [List.mem_singleton.mp q]
        omega
  · exact ⟨a0 :: r0, no c0 (no c1 (no c2 (fam_end _ rfl (by omega)))), by simp, by omega, lt⟩
theorem family_eq {n most rm : Nat} {S : SS} (h : StOk n S) (hn : n ≤ 2 ^ 29) (hm : 1 ≤ most) (hm7 : most ≤ 7) (hr : 1 ≤ rm) (hr9 : rm ≤ 100) : ∃ (m : Nat) (l : List Nat) (S' : SS), f__law_family [.cell, .d (kN most), .d (kN rm)] S = .ok (fam m l) S' ∧ Good m l ∧ m ≤ most ∧ l ≠ [] ∧ l.length ≤ rm + 2 ∧ StOk (n + 200) S' := by
  obtain ⟨v1, S1, a1, e1, h1⟩ := draw h (by omega) (m := most) (by omega)
  obtain ⟨v2, S2, a2, e2, h2⟩ := draw h1 (by omega) (m := 5) (by omega)
  obtain ⟨v3, S3, a3, e3, h3⟩ := draw h2 (by omega) (m := rm) (by omega)
  have p7 : 2 ^ (1 + v1) ≤ 2 ^ 7 := Nat.pow_le_pow_right (by decide) (by omega)
  have p0 : 0 < 2 ^ (1 + v1) := Nat.two_pow_pos _
  obtain ⟨ρ4, S4, e4, acc, s7, rfl, hl, lt, h4⟩ := for_allS (t := (T.nm 7).den) (mb := (Sts.cons (.app 6 (.call "_law_next" f__law_next (.cell 0 (.cons (.var 5) .nil)))) .nil).den) kN
    (fun pre ρ S => ∃ (acc : List Nat) (s7 : Slot), ρ = [.cell, .val (kN most), .val (kN rm), .val (kN (1 + v1)), .val (kN v2), .val (kN (2 ^ (1 + v1))), .own (acc.map kN), s7, .none] ∧ acc.length = pre.length ∧ (∀ r ∈ acc, r < 2 ^ (1 + v1)) ∧ StOk (n + 3 + pre.length) S) (List.range (1 + v3)) [.cell, .val (kN most), .val (kN rm), .val (kN (1 + v1)), .val (kN v2), .val (kN (2 ^ (1 + v1))), .own (([] : List Nat).map kN), .none, .none] S3 ⟨[], _, rfl, rfl, fun r hr => (by cases hr), h3⟩ (by
    rintro pre a suf ρ S hp ⟨acc, s7, rfl, hl, lt, hS⟩
    have lp := congrArg List.length hp
    rw [List.length_range, List.length_append, List.length_cons] at lp
    obtain ⟨v4, S4, a4, e4, h4⟩ := draw hS (by omega) (m := 2 ^ (1 + v1)) p0
    refine ⟨_, [.cell, .val (kN most), .val (kN rm), .val (kN (1 + v1)), .val (kN v2), .val (kN (2 ^ (1 + v1))), .own ((acc ++ [v4]).map kN), .val (kN a), .none], S4, rfl, ?_, acc ++ [v4], _, rfl, by rw [List.length_append, List.length_append, hl]; rfl, fun r hr => ?_, ?_⟩
    · refine seqS (appS_to (d := kN v4) rfl (callcE rfl rfl e4) (by rw [List.length_map, sizeLine_eq]; omega)) ?_
      rw [List.map_append]
      rfl
    · rcases List.mem_append.mp hr with q | q
      · exact lt r q
      · rw [List.mem_singleton.mp q]
        exact a4
    · rw [List.length_append, List.length_singleton]
      exact h4)
  rw [List.length_range] at hl h4
  obtain ⟨L, eL, ne, hL, ltL⟩ := fam_rest (m := 1 + v1) (p := v2) (rm := rm) (acc := acc) (s7 := s7) (d1 := kN most) (by omega) (by omega) hr hr9 (fun z => by rw [z] at hl; simp at hl; omega) (by omega) lt
  refine ⟨1 + v1, setN L, S4, ?_, ⟨by omega, by omega, fun r hr => ltL r (mem_setN.mp hr), setN_up L⟩, by omega, fun z => ?_, Nat.le_trans (setN_len L) hL, h4.up (by omega)⟩
  · simp only [f__law_family, runB_eq, n__law_family, b__law_family, den_Sts_cons, den_Sts_nil]
    show (sSeq _ _ ([.cell, .val (kN most), .val (kN rm), .none, .none, .none, .none, .none, .none] : Env) >>= outF) S = _
    refine run_ofS (seqS (S1 := S1) (ρ1 := [.cell, .val (kN most), .val (kN rm), .val (kN (1 + v1)), .none, .none, .none, .none, .none]) (setS_to (bin1S (callcE rfl rfl e1))) ?_)
    refine seqS (S1 := S2) (ρ1 := [.cell, .val (kN most), .val (kN rm), .val (kN (1 + v1)), .val (kN v2), .none, .none, .none, .none]) (setS_to (callcE rfl rfl e2)) ?_
    refine seqP (ρ1 := [.cell, .val (kN most), .val (kN rm), .val (kN (1 + v1)), .val (kN v2), .val (kN (2 ^ (1 + v1))), .none, .none, .none]) (set_to (bin_to (x := kN 1) (y := kN (1 + v1)) rfl rfl (o_shl1 (by omega)))) ?_
    refine seqP (ρ1 := [.cell, .val (kN most), .val (kN rm), .val (kN (1 + v1)), .val (kN v2), .val (kN (2 ^ (1 + v1))), .own (([] : List Nat).map kN), .none, .none]) rfl ?_
    refine seqS (forS_to (r1S_to (n := 1 + v3) (bin1S (callcE rfl rfl e3)) (by omega)) e4) ?_
    exact at_pure eL
  · obtain ⟨a, r, rfl⟩ := List.exists_cons_of_ne_nil ne
    have : a ∈ setN (a :: r) := mem_setN.mpr (by simp)
    rw [z] at this
    cases this
theorem bad_eq : f__law_bad_families [] = pure (.list [.tuple [.int 0, .tuple []], .tuple [.int 8, .tuple []], .tuple [.int 2, .tuple [.int 4]], .tuple [.int 2, .tuple [.int 2, .int 1]], .tuple [.int 2, .tuple [.int 1, .int 1]], .tuple [.int 2, .tuple [.int (-1)]], .tuple [.int 3, .tuple [.int 0, .int 8]]]) := rfl
theorem bad_family : ∀ d ∈ ([.tuple [.int 0, .tuple []], .tuple [.int 8, .tuple []], .tuple [.int 2, .tuple [.int 4]], .tuple [.int 2, .tuple [.int 2, .int 1]], .tuple [.int 2, .tuple [.int 1, .int 1]], .tuple [.int 2, .tuple [.int (-1)]], .tuple [.int 3, .tuple [.int 0, .int 8]]] : List D), f_check_family [.d d] = thr .na := by
  intro d hd
  simp only [List.mem_cons, List.not_mem_nil, or_false] at hd
  rcases hd with rfl | rfl | rfl | rfl | rfl | rfl | rfl <;> rfl
end Pv.Fb
namespace Pv.Fc
open PySem PySem.Spec PyProof.Rows L2
open Pv.Sh Pv.Ev
open Pv.Sw (kN lD tD small in_nats sum_nats map_kN Lay lay_int lay_list lay_tup lay_lD lay_tD eq_nil ne_nil emp_map)
/-! more that meanings share -/
/-- how a for ends that looks for the first of a kind -/
def endF {α : Type} (out : α → D) (ρ : Env) : Option α → Fl
  | some a => .rt (out a)
  | none => .nx ρ
/-- a for that ends at the first of a kind -/
theorem for_find {α : Type} {t : TM} {mb : MS} (h : α → D) (p : α → Bool) (out : α → D) (I : Env → Prop) (L : List α) (step : ∀ a ∈ L, ∀ ρ, I ρ → ∃ ρ1 ρ2, t (h a) ρ = some ρ1 ∧ mb ρ1 = pure (if p a = true then .rt (out a) else .nx ρ2) ∧ I ρ2) :
    ∀ (l : List α) (ρ : Env), (∀ a ∈ l, a ∈ L) → I ρ → ∃ ρ', forN t mb (l.map h) ρ = pure (endF out ρ' (l.find? p)) ∧ I ρ'
  | [], ρ, _, i => ⟨ρ, rfl, i⟩
  | a :: l, ρ, hl, i => by
    obtain ⟨ρ1, ρ2, e1, e2, i2⟩ := step a (hl a (by simp)) ρ i
    obtain ⟨ρ', e3, i3⟩ := for_find h p out I L step l ρ2 (fun b hb => hl b (by simp [hb])) i2
    refine ⟨ρ', ?_, i3⟩
    rw [List.map_cons, List.find?_cons]
    show (match t (h a) ρ with | some ρ' => mb ρ' >>= fun f => again f (forN t mb (l.map h)) | none => bad) = _
    rw [e1]
    dsimp only
    rw [e2]
    cases c : p a with
    | true =>
      rw [if_pos rfl, pure_bnd]
      rfl
    | false =>
      rw [if_neg (by simp), pure_bnd, again_nx, e3]
theorem for_findT {α : Type} {t : TM} {mb : MS} (h : α → D) (p : α → Bool) (out : α → D) (I : Env → Prop) (l : List α) (ρ : Env) (i : I ρ) (step : ∀ a ∈ l, ∀ ρ, I ρ → ∃ ρ1 ρ2, t (h a) ρ = some ρ1 ∧ mb ρ1 = pure (if p a = true then .rt (out a) else .nx ρ2) ∧ I ρ2) : ∃ ρ', forN t mb (l.map h) ρ = pure (endF out ρ' (l.find? p)) ∧ I ρ' := for_find h p out I l step l ρ (fun _ h => h) i
section
variable {ρ : Env}
theorem collectL_flat {f : D → M (List D)} : ∀ {α : Type} (l : List α) (h : α → D) (g : α → List D), (∀ a ∈ l, f (h a) = pure (g a)) → collectL f (l.map h) = pure (l.flatMap g)
  | _, [], _, _, _ => rfl
  | _, a :: l, h, g, e => by
    have i := collectL_flat l h g fun x hx => e x (List.mem_cons_of_mem _ hx)
    rw [List.map_cons]
    show (f (h a) >>= fun xs => collectL f (l.map h) >>= fun ys => pure (xs ++ ys)) = _
    rw [e a List.mem_cons_self, pure_bnd, i, pure_bnd, List.flatMap_cons]
theorem turn2_ok {tm : TM} {mt : ME} {mi1 : MI} {tm1 : TM} {mt1 me : ME} {own1 : List Nat} {ρ' : Env} {d : D} {α : Type} {k : List α} {h g : α → D} {p : α → Bool} {b : Bool} (e : tm d ρ = some ρ') (hb : mt ρ' = pure (.bool b)) (hi : b = true → mi1 ρ' = pure (k.map h)) (ht : b = true → ∀ a ∈ k, turnM tm1 mt1 me (wipeE ρ' own1) (h a) = pure (if p a = true then some (g a) else none)) : turn2 tm mt mi1 tm1 mt1 me own1 ρ d = pure (if b = true then (k.filter p).map g else []) := by
  unfold turn2
  rw [e]
  dsimp only
  rw [hb, pure_bnd, asB_bool, pure_bnd]
  cases b with
  | true => rw [if_pos rfl, if_pos rfl, hi rfl, pure_bnd, collect_if k h g p (ht rfl), nox_pure]
  | false => rw [if_neg (by simp), if_neg (by simp), nox_pure]
theorem lc2_ev {o o1 : List (Str × Nat)} {it it1 : It} {t t1 : T} {c c1 : Oe} {e : E} {α : Type} {l : List α} {h : α → D} {g : α → List D} (hi : it.den ρ = pure (l.map h)) (ht : ∀ a ∈ l, turn2 t.den c.denC it1.den t1.den c1.denC e.den (o1.map (·.2)) (wipeE ρ (o.map (·.2))) (h a) = pure (g a)) (few : (l.flatMap g).length ≤ 100000) : (E.lc2 o o1 it t c it1 t1 c1 e).den ρ = pure (.list (l.flatMap g)) := by
  rw [den_E_lc2]
  unfold vLc2
  rw [hi, pure_bnd, collectL_flat l h g ht, nox_pure, pure_bnd, if_pos (by rw [sizeLine_eq]; omega)]
theorem eqv_nats2 : ∀ a b : List Nat, PyData.eqvAll (a.map kN) (b.map kN) = (a == b)
  | [], [] => by simp [PyData.eqvAll]
  | [], _ :: _ => by simp [PyData.eqvAll]
  | _ :: _, [] => by simp [PyData.eqvAll]
  | x :: a, y :: b => by
    have i := eqv_nats2 a b
    have e : PyData.eqv (kN x) (kN y) = (x == y) := by
      simp only [PyData.eqv]
      rw [Bool.eq_iff_iff, beq_iff_eq, beq_iff_eq]
      omega
    rw [List.map_cons, List.map_cons]
    simp only [PyData.eqvAll, i, e]
    rfl
theorem eqv_tD (a b : List Nat) : PyData.eqv (tD a) (tD b) = (a == b) := by simp only [PyData.eqv, eqv_nats2]
theorem eq_tD (a b : List Nat) : eqD (tD a) (tD b) = pure (.bool (a == b)) := by
  have z : eqD (tD a) (tD b) = pure (.bool (PyData.eqv (tD a) (tD b))) := if_pos ⟨(lay_tD a).shaped (by decide), (lay_tD b).shaped (by decide)⟩
  rw [z, eqv_tD]
theorem lay_tups (L : List (List Nat)) : Lay 2 (.list (L.map tD)) := lay_list (n := 1) fun d hd => by
  obtain ⟨a, _, rfl⟩ := List.mem_map.mp hd
  exact lay_tD a
theorem in_tups (x : List Nat) (L : List (List Nat)) : Cop.isIn.sem (tD x) (.list (L.map tD)) = pure (.bool (L.contains x)) := by
  have s := (lay_tups L).shaped (by decide)
  refine (if_pos ⟨(lay_tD x).shaped (by decide), s⟩).trans ?_
  congr 2
  rw [Bool.eq_iff_iff, List.any_eq_true, List.contains_iff_mem]
  constructor
  · rintro ⟨d, hd, e⟩
    obtain ⟨y, hy, rfl⟩ := List.mem_map.mp hd
    rw [eqv_tD, beq_iff_eq] at e
    exact e ▸ hy
  · intro h
    exact ⟨tD x, List.mem_map.mpr ⟨x, h, rfl⟩, by rw [eqv_tD]; simp⟩
theorem count_to {a b : E} {l : List Nat} {k : Nat} (h : a.den ρ = pure (lD l)) (h2 : b.den ρ = pure (kN k)) : (E.mth .count a b).den ρ = pure (kN (l.count k)) := by
  rw [den_E_mth, ap_vMeth, h, pure_bnd, isLst_list, pure_bnd, h2, pure_bnd]
  show countD (.list (l.map kN)) (.int (k : Int)) = _
  rw [map_kN]
  simp only [countD, onInts, overInts, intsOf_ints]
  congr 2
  rw [List.count_eq_countP, List.countP_map, List.count_eq_countP]
  congr 2
  funext x
  show ((x : Int) == (k : Int)) = (x == k)
  rw [Bool.eq_iff_iff, beq_iff_eq, beq_iff_eq]
  omega
theorem idx_to {a b : E} {l : List Nat} {k : Nat} (h : a.den ρ = pure (lD l)) (h2 : b.den ρ = pure (kN k)) (hk : k ∈ l) : (E.mth .index a b).den ρ = pure (kN (l.idxOf k)) := by
  have z := index_to (a := a) (b := b) (ns := l.map fun n : Nat => (n : Int)) (k := (k : Int)) (ρ := ρ) (by rw [h]; show pure (PyData.list (l.map kN)) = _; rw [map_kN]) h2 (List.mem_map.mpr ⟨k, hk, rfl⟩)
  rw [z]
  congr 3
  unfold List.idxOf
  rw [List.findIdx_map]
  congr 1
  funext x
  show ((x : Int) == (k : Int)) = (x == k)
  rw [Bool.eq_iff_iff, beq_iff_eq, beq_iff_eq]
  omega
theorem par_to {i j : Nat} {a b : E} {x y : D} (h : a.den ρ = pure x) (h2 : b.den ρ = pure y) : (St.par i j (.val a) (.val b)).den ρ = pure (.nx ((ρ.set i (.val x)).set j (.val y))) := by
  rw [den_St_par, ap_sParN]
  show ((a.den ρ >>= fun d => pure (Slot.val d)) >>= fun s => (b.den ρ >>= fun d => pure (Slot.val d)) >>= fun t => (pure (Fl.nx ((ρ.set i s).set j t)) : M Fl)) = _
  rw [h, pure_bnd, pure_bnd, h2, pure_bnd, pure_bnd]
theorem par_newC {i j : Nat} {a : E} {x : D} (h : a.den ρ = pure x) : (St.parC i j (.val a) (.lst .nil)).den ρ = pure (.nx ((ρ.set i (.val x)).set j (.own []))) := by
  rw [den_St_parC, ap_sParN]
  show ((a.den ρ >>= fun d => pure (Slot.val d)) >>= fun s => _) = _
  rw [h, pure_bnd, pure_bnd]
  rfl
theorem par_new {i j : Nat} {a : E} {x : D} (h : a.den ρ = pure x) : (St.par i j (.val a) (.lst .nil)).den ρ = pure (.nx ((ρ.set i (.val x)).set j (.own []))) := by
  rw [den_St_par, ap_sParN]
  show ((a.den ρ >>= fun d => pure (Slot.val d)) >>= fun s => _) = _
  rw [h, pure_bnd, pure_bnd]
  rfl
theorem o_andNot (a b : Nat) : Bop.and.sem (kN a) (.int (Builtin.bitNot (b : Int))) = pure (kN (a - (a &&& b))) := by
  show (pure (.int (Builtin.bitAnd (a : Int) (Builtin.bitNot (b : Int)))) : M D) = _
  have e : Builtin.bitNot (b : Int) = -(b : Int) - 1 := rfl
  have e2 : (Builtin.bitNot (Builtin.bitNot (b : Int))).toNat = b := by rw [e]; unfold Builtin.bitNot; omega
  unfold Builtin.bitAnd
  rw [decide_eq_true (by omega), decide_eq_false (by rw [e]; omega)]
  dsimp only
  rw [e2, Int.toNat_natCast, ← Int.ofNat_sub Nat.and_le_left]
theorem rng_pos {n : Nat} {pre suf : List Nat} {a : Nat} (h : List.range n = pre ++ a :: suf) : a = pre.length ∧ pre.length < n := by
  have l := congrArg List.length h
  rw [List.length_range, List.length_append, List.length_cons] at l
  have lt : pre.length < n := by omega
  have g : (List.range n)[pre.length]? = some a := by rw [h, List.getElem?_append_right (Nat.le_refl _), Nat.sub_self]; rfl
  rw [List.getElem?_range lt] at g
  exact ⟨(Option.some.inj g).symm, lt⟩
/-- greatest of numbers -/
theorem b_maxN {α : Type} {l : List α} {f : α → Nat} {m : Nat} (hm : ∃ a ∈ l, f a = m) (h : ∀ a ∈ l, f a ≤ m) : B1.max.sem (.list (l.map fun a => kN (f a))) = pure (kN m) := by
  obtain ⟨a, ha, e⟩ := hm
  show maxD (.list (l.map fun a => kN (f a))) = _
  rw [show (l.map fun a => kN (f a)) = (l.map fun a => ((f a : Nat) : Int)).map PyData.int from by rw [List.map_map]; rfl]
  unfold maxD overOr
  simp only [intsOf_ints]
  have ne : (l.map fun a => ((f a : Nat) : Int)) ≠ [] := fun z => by
    rw [List.map_eq_nil_iff] at z
    rw [z] at ha
    cases ha
  rw [if_neg ne]
  congr 2
  refine (maxI_is (List.mem_map.mpr ⟨a, ha, by rw [e]⟩) fun y hy => ?_).symm
  obtain ⟨b, hb, rfl⟩ := List.mem_map.mp hy
  have := h b hb
  omega
/-- the first, or that there is none -/
def pickD {α : Type} (h : α → D) : List α → D
  | [] => wd "missing"
  | a :: _ => .tuple [.str "told", h a]
theorem pick_to {α : Type} {e e2 : E} {l : List α} {h : α → D} {n : Nat} (he : e.den ρ = pure (.list (l.map h))) (he2 : e2.den ρ = pure (.list (l.map h))) (ly : ∀ a ∈ l, Lay n (h a)) (hn : n ≤ 60) (few : l.length ≤ 90000) : (E.ix (.lst (.cons (.tup (.cons (.str "told") (.cons (.ix (.bin .add e (.lst (.cons (.int 0) .nil))) (.int 0)) .nil))) (.cons (.tup (.cons (.str "missing") .nil)) .nil))) (.b1 .int (.cmp .eq e2 (.lst .nil)))).den ρ = pure (pickD h l) := by
  have q : Cop.eq.sem (.list (l.map h)) (.list []) = pure (.bool l.isEmpty) := by
    rw [cop_eq, eq_nil _ ((lay_list fun d hd => by
      obtain ⟨a, ha, rfl⟩ := List.mem_map.mp hd
      exact ly a ha : Lay (n + 1) (.list (l.map h))).shaped (by omega)), emp_map]
  have ad : Bop.add.sem (.list (l.map h)) (.list [.int 0]) = pure (.list (l.map h ++ [.int 0])) := if_pos (by rw [List.length_map, sizeLine_eq, List.length_singleton]; omega)
  cases l with
  | nil => exact ix_to (x := .list [.tuple [.str "told", .int 0], wd "missing"]) (y := kN 1) (lst_es (es_cons (tup_es (es_cons rfl (es_cons (ix_to (x := .list [.int 0]) (y := kN 0) (bin_to he rfl ad) rfl rfl) es_nil))) (es_cons rfl es_nil))) (b1_to (cmp_to he2 rfl q) rfl) rfl
  | cons a r => exact ix_to (x := .list [.tuple [.str "told", h a], wd "missing"]) (y := kN 0) (lst_es (es_cons (tup_es (es_cons rfl (es_cons (ix_to (x := .list (h a :: (r.map h ++ [.int 0]))) (y := kN 0) (bin_to (y := .list [.int 0]) (r := pure (.list (h a :: (r.map h ++ [.int 0])))) he rfl ad) rfl (by rw [ix_list]; exact congrArg optM (at0 _ _))) es_nil))) (es_cons rfl es_nil))) (b1_to (cmp_to he2 rfl q) rfl) (by rw [ix_list]; exact congrArg optM (at0 _ _))
end
end Pv.Fc
namespace Pv.Fc
open PySem PySem.Spec PyProof.Rows L2
open Pv.Sh Pv.Ev
open Pv.Sw (kN lD tD small in_nats sum_nats map_kN Lay lay_int lay_list lay_tup lay_lD lay_tD eq_nil ne_nil emp_map)
section
variable {ρ : Env}
theorem es_star {e : E} {r : Es} {d : D} {xs ys : List D} (h : e.den ρ = pure d) (h2 : seqOf d = pure ys) (h3 : r.den ρ = pure xs) : (Es.star e r).den ρ = pure (ys ++ xs) := by
  rw [den_Es_star]
  unfold aStar
  rw [h, pure_bnd, h2, pure_bnd, h3, pure_bnd]
theorem lstS_es {es : Es} {ds : List D} (h : es.den ρ = pure ds) (few : ds.length ≤ 100000) : (E.lstS es).den ρ = pure (.list ds) := by
  rw [den_E_lstS]
  unfold vLstS
  rw [h, pure_bnd, if_pos (by rw [sizeLine_eq]; omega)]
theorem tupS_es {es : Es} {ds : List D} (h : es.den ρ = pure ds) (few : ds.length ≤ 100000) : (E.tupS es).den ρ = pure (.tuple ds) := by
  rw [den_E_tupS]
  unfold vTupS
  rw [h, pure_bnd, if_pos (by rw [sizeLine_eq]; omega)]
end
end Pv.Fc
/-! the text as terms -/
namespace Pv.K54
open PySem PySem.Spec PyProof.Rows L2
open Pv.Sh Pv.Fb
def w_divisor_0 : Env → Nat := fun ρ => match ρ.getD 1 .none with | .val (.int i) => i.natAbs + 1 | _ => 0
def w_greedy_cover_0 : Env → Nat := fun _ => 9
def n_chosen_rows : List Str := ["family", "rows", "mask", "chosen", "at", "row", "_"]
def b_chosen_rows : Sts := (.cons (.new 1 (.lst .nil))
 (.cons (.for_ (.r1 (.bin .shl (.int 1) (.b1 .len (.ix (.var 0) (.int 1))))) (.nm 2)
 (.cons (.set 3 (.b1 .tuple (.lcIf [("at", 4), ("row", 5)] (.en (.ix (.var 0) (.int 1))) (.tup [4, 5]) (.cmp .eq (.bin .and (.bin .shr (.var 2) (.var 4)) (.int 1)) (.int 1)) (.var 5))))
 (.cons (.app 1 (.tup (.cons (.b1 .len (.var 3)) (.cons (.var 3) .nil))))
 .nil)))
 (.cons (.ret (.lc [("_", 6), ("chosen", 3)] (.seq (.b1 .sorted (.peek 1))) (.tup [6, 3]) (.var 3)))
 .nil)))
def f_chosen_rows : Fn := runB n_chosen_rows.length b_chosen_rows.den
def n_are_apart : List Str := ["family", "rows", "row", "at", "one", "other"]
def b_are_apart : Sts := (.cons (.expr (.call "check_family" f_check_family (.cons (.var 0) .nil)))
 (.cons (.ite (.not (.b1 .all (.lc [("row", 2)] (.seq (.var 1)) (.nm 2) (.cmp .isIn (.var 2) (.ix (.var 0) (.int 1))))))
 (.cons (.raise .na "NotAllowed")
 .nil)
 .nil)
 (.cons (.ret (.b1 .all (.lc2 [("at", 3), ("one", 4), ("other", 5)] [("other", 5)] (.en (.var 1)) (.tup [3, 4]) .no (.seq (.sl (.var 1) .no (.yes (.var 3)))) (.nm 5) .no (.cmp .eq (.bin .and (.var 4) (.var 5)) (.int 0)))))
 .nil)))
def f_are_apart : Fn := runB n_are_apart.length b_are_apart.den
def n_check_few : List Str := ["family"]
def b_check_few : Sts := (.cons (.expr (.call "check_family" f_check_family (.cons (.var 0) .nil)))
 (.cons (.ite (.cmp .gt (.b1 .len (.ix (.var 0) (.int 1))) (.glob "MAX_COVERED" (.int 14)))
 (.cons (.raise .tl "TooLarge")
 .nil)
 .nil)
 .nil))
def f_check_few : Fn := runB n_check_few.length b_check_few.den
def n_most_apart : List Str := ["family", "rows", "chosen", "best"]
def b_most_apart : Sts := (.cons (.expr (.call "check_few" f_check_few (.cons (.var 0) .nil)))
 (.cons (.setC 1 (.lcIf [("chosen", 2)] (.seq (.call "chosen_rows" f_chosen_rows (.cons (.var 0) .nil))) (.nm 2) (.ands (.cons (.cmp .notIn (.int 0) (.var 2)) (.cons (.call "are_apart" f_are_apart (.cons (.var 0) (.cons (.var 2) .nil))) .nil))) (.var 2)))
 (.cons (.set 3 (.b1 .max (.lc [("chosen", 2)] (.seq (.var 1)) (.nm 2) (.b1 .len (.var 2)))))
 (.cons (.ret (.ix (.lcIf [("chosen", 2)] (.seq (.var 1)) (.nm 2) (.cmp .eq (.b1 .len (.var 2)) (.var 3)) (.var 2)) (.int 0)))
 .nil))))
def f_most_apart : Fn := runB n_most_apart.length b_most_apart.den
def n_full_of : List Str := ["family"]
def b_full_of : Sts := (.cons (.ret (.bin .sub (.bin .shl (.int 1) (.ix (.var 0) (.int 0))) (.int 1)))
 .nil)
def f_full_of : Fn := runB n_full_of.length b_full_of.den
def n_is_cover : List Str := ["family", "rows", "row", "found"]
def b_is_cover : Sts := (.cons (.expr (.call "check_family" f_check_family (.cons (.var 0) .nil)))
 (.cons (.ite (.not (.b1 .all (.lc [("row", 2)] (.seq (.var 1)) (.nm 2) (.cmp .isIn (.var 2) (.ix (.var 0) (.int 1))))))
 (.cons (.raise .na "NotAllowed")
 .nil)
 .nil)
 (.cons (.set 3 (.int 0))
 (.cons (.for_ (.seq (.var 1)) (.nm 2)
 (.cons (.set 3 (.bin .or (.var 3) (.var 2)))
 .nil))
 (.cons (.ret (.cmp .eq (.var 3) (.call "full_of" f_full_of (.cons (.var 0) .nil))))
 .nil)))))
def f_is_cover : Fn := runB n_is_cover.length b_is_cover.den
def n_fewest_cover : List Str := ["family", "chosen"]
def b_fewest_cover : Sts := (.cons (.expr (.call "check_few" f_check_few (.cons (.var 0) .nil)))
 (.cons (.for_ (.seq (.call "chosen_rows" f_chosen_rows (.cons (.var 0) .nil))) (.nm 1)
 (.cons (.ite (.call "is_cover" f_is_cover (.cons (.var 0) (.cons (.var 1) .nil)))
 (.cons (.ret (.var 1))
 .nil)
 .nil)
 .nil))
 (.cons (.raise .mi "Missing")
 .nil)))
def f_fewest_cover : Fn := runB n_fewest_cover.length b_fewest_cover.den
def n_common_of : List Str := ["rows", "found", "row"]
def b_common_of : Sts := (.cons (.set 1 (.bin .sub (.bin .shl (.int 1) (.int 7)) (.int 1)))
 (.cons (.for_ (.seq (.var 0)) (.nm 2)
 (.cons (.set 1 (.bin .and (.var 1) (.var 2)))
 .nil))
 (.cons (.ret (.var 1))
 .nil)))
def f_common_of : Fn := runB n_common_of.length b_common_of.den
def n_least_all_meet : List Str := ["family", "best", "mask", "chosen", "at", "row"]
def b_least_all_meet : Sts := (.cons (.expr (.call "check_family" f_check_family (.cons (.var 0) .nil)))
 (.cons (.ite (.not (.chain .le .le (.int 2) (.b1 .len (.ix (.var 0) (.int 1))) (.int 10)))
 (.cons (.raise .na "NotAllowed")
 .nil)
 .nil)
 (.cons (.set 1 (.int 1))
 (.cons (.for_ (.r2 (.int 1) (.bin .shl (.int 1) (.b1 .len (.ix (.var 0) (.int 1))))) (.nm 2)
 (.cons (.setF 3 (.lcIf [("at", 4), ("row", 5)] (.en (.ix (.var 0) (.int 1))) (.tup [4, 5]) (.cmp .eq (.bin .and (.bin .shr (.var 2) (.var 4)) (.int 1)) (.int 1)) (.var 5)))
 (.cons (.ite (.cmp .eq (.call "common_of" f_common_of (.cons (.var 3) .nil)) (.int 0))
 (.cons (.ite (.b1 .all (.lc [("at", 4)] (.r1 (.b1 .len (.var 3))) (.nm 4) (.cmp .ne (.call "common_of" f_common_of (.cons (.bin .add (.sl (.var 3) .no (.yes (.var 4))) (.sl (.var 3) (.yes (.bin .add (.var 4) (.int 1))) .no)) .nil)) (.int 0))))
 (.cons (.set 1 (.b2 .max (.var 1) (.b1 .len (.var 3))))
 .nil)
 .nil)
 .nil)
 .nil)
 .nil)))
 (.cons (.ret (.var 1))
 .nil)))))
def f_least_all_meet : Fn := runB n_least_all_meet.length b_least_all_meet.den
def n_divisor : List Str := ["first", "second"]
def b_divisor : Sts := (.cons (.par 0 1 (.val (.b1 .abs (.var 0))) (.val (.b1 .abs (.var 1))))
 (.cons (.whl w_divisor_0 (.cmp .gt (.var 1) (.int 0))
 (.cons (.par 0 1 (.val (.var 1)) (.val (.bin .mod (.var 0) (.var 1))))
 .nil))
 (.cons (.ret (.var 0))
 .nil)))
def f_divisor : Fn := runB n_divisor.length b_divisor.den
def n_ratio : List Str := ["top", "below", "common"]
def b_ratio : Sts := (.cons (.ite (.cmp .eq (.var 1) (.int 0))
 (.cons (.raise .na "NotAllowed")
 .nil)
 .nil)
 (.cons (.set 2 (.call "divisor" f_divisor (.cons (.var 0) (.cons (.var 1) .nil))))
 (.cons (.ite (.cmp .lt (.var 1) (.int 0))
 (.cons (.set 2 (.un .neg (.var 2)))
 .nil)
 .nil)
 (.cons (.ret (.tup (.cons (.bin .fdiv (.var 0) (.var 2)) (.cons (.bin .fdiv (.var 1) (.var 2)) .nil))))
 .nil))))
def f_ratio : Fn := runB n_ratio.length b_ratio.den
def n_added : List Str := ["first", "second"]
def b_added : Sts := (.cons (.ret (.call "ratio" f_ratio (.cons (.bin .add (.bin .mul (.ix (.var 0) (.int 0)) (.ix (.var 1) (.int 1))) (.bin .mul (.ix (.var 1) (.int 0)) (.ix (.var 0) (.int 1)))) (.cons (.bin .mul (.ix (.var 0) (.int 1)) (.ix (.var 1) (.int 1))) .nil))))
 .nil)
def f_added : Fn := runB n_added.length b_added.den
def n_greedy_bound : List Str := ["family", "most", "row", "found", "one"]
def b_greedy_bound : Sts := (.cons (.expr (.call "check_family" f_check_family (.cons (.var 0) .nil)))
 (.cons (.set 1 (.b1 .max (.lstS (.cons (.int 0) (.star (.lc [("row", 2)] (.seq (.ix (.var 0) (.int 1))) (.nm 2) (.call "known_size" f_known_size (.cons (.var 2) .nil))) .nil)))))
 (.cons (.set 3 (.tup (.cons (.int 0) (.cons (.int 1) .nil))))
 (.cons (.for_ (.r2 (.int 1) (.bin .add (.var 1) (.int 1))) (.nm 4)
 (.cons (.set 3 (.call "added" f_added (.cons (.var 3) (.cons (.tup (.cons (.int 1) (.cons (.var 4) .nil))) .nil))))
 .nil))
 (.cons (.ret (.var 3))
 .nil)))))
def f_greedy_bound : Fn := runB n_greedy_bound.length b_greedy_bound.den
def n_deepest : List Str := ["family", "rows", "row", "thing", "best"]
def b_deepest : Sts := (.cons (.expr (.call "check_family" f_check_family (.cons (.var 0) .nil)))
 (.cons (.setC 1 (.lc [("thing", 3)] (.r1 (.ix (.var 0) (.int 0))) (.nm 3) (.tup (.cons (.un .neg (.b1 .len (.lcIf [("row", 2)] (.seq (.ix (.var 0) (.int 1))) (.nm 2) (.cmp .eq (.bin .and (.bin .shr (.var 2) (.var 3)) (.int 1)) (.int 1)) (.var 2)))) (.cons (.var 3) .nil)))))
 (.cons (.set 4 (.b1 .min (.var 1)))
 (.cons (.ret (.tup (.cons (.un .neg (.ix (.var 4) (.int 0))) (.cons (.ix (.var 4) (.int 1)) .nil))))
 .nil))))
def f_deepest : Fn := runB n_deepest.length b_deepest.den
def n__law_common : List Str := ["rows", "found", "row"]
def b__law_common : Sts := (.cons (.set 1 (.int 127))
 (.cons (.for_ (.seq (.var 0)) (.nm 2)
 (.cons (.set 1 (.bin .and (.var 1) (.var 2)))
 .nil))
 (.cons (.ret (.var 1))
 .nil)))
def f__law_common : Fn := runB n__law_common.length b__law_common.den
def n__law_helly_holds : List Str := ["family", "most", "rows", "few", "some"]
def b__law_helly_holds : Sts := (.cons (.for_ (.seq (.call "_law_choices" f__law_choices (.cons (.ix (.var 0) (.int 1)) .nil))) (.nm 2)
 (.cons (.setC 3 (.lcIf [("some", 4)] (.seq (.call "_law_choices" f__law_choices (.cons (.var 2) .nil))) (.nm 4) (.ands (.cons (.cmp .eq (.b1 .len (.var 4)) (.b2 .min (.var 1) (.b1 .len (.var 2)))) (.cons (.cmp .eq (.call "_law_common" f__law_common (.cons (.var 4) .nil)) (.int 0)) .nil))) (.var 4)))
 (.cons (.ite (.ands (.cons (.cmp .eq (.var 3) (.lst .nil)) (.cons (.cmp .eq (.call "_law_common" f__law_common (.cons (.var 2) .nil)) (.int 0)) .nil)))
 (.cons (.ret (.bl false))
 .nil)
 .nil)
 .nil)))
 (.cons (.ret (.bl true))
 .nil))
def f__law_helly_holds : Fn := runB n__law_helly_holds.length b__law_helly_holds.den
def n__law_helly : List Str := ["family", "best", "rows", "k"]
def b__law_helly : Sts := (.cons (.set 1 (.int 1))
 (.cons (.for_ (.seq (.call "_law_choices" f__law_choices (.cons (.ix (.var 0) (.int 1)) .nil))) (.nm 2)
 (.cons (.ite (.ands (.cons (.cmp .ne (.var 2) (.tup .nil)) (.cons (.cmp .eq (.call "_law_common" f__law_common (.cons (.var 2) .nil)) (.int 0)) .nil)))
 (.cons (.ite (.cmp .eq (.b1 .len (.lcIf [("k", 3)] (.r1 (.b1 .len (.var 2))) (.nm 3) (.cmp .eq (.call "_law_common" f__law_common (.cons (.bin .add (.sl (.var 2) .no (.yes (.var 3))) (.sl (.var 2) (.yes (.bin .add (.var 3) (.int 1))) .no)) .nil)) (.int 0)) (.var 3))) (.int 0))
 (.cons (.set 1 (.b2 .max (.var 1) (.b1 .len (.var 2))))
 .nil)
 .nil)
 .nil)
 .nil)
 .nil))
 (.cons (.ret (.var 1))
 .nil)))
def f__law_helly : Fn := runB n__law_helly.length b__law_helly.den
def n__law_apart : List Str := ["rows", "k", "j"]
def b__law_apart : Sts := (.cons (.for_ (.r1 (.b1 .len (.var 0))) (.nm 1)
 (.cons (.ite (.cmp .gt (.b1 .len (.lcIf [("j", 2)] (.r1 (.var 1)) (.nm 2) (.cmp .ne (.bin .and (.ix (.var 0) (.var 2)) (.ix (.var 0) (.var 1))) (.int 0)) (.var 2))) (.int 0))
 (.cons (.ret (.bl false))
 .nil)
 .nil)
 .nil))
 (.cons (.ret (.bl true))
 .nil))
def f__law_apart : Fn := runB n__law_apart.length b__law_apart.den
def n__law_union : List Str := ["rows", "found", "row"]
def b__law_union : Sts := (.cons (.set 1 (.int 0))
 (.cons (.for_ (.seq (.var 0)) (.nm 2)
 (.cons (.set 1 (.bin .or (.var 1) (.var 2)))
 .nil))
 (.cons (.ret (.var 1))
 .nil)))
def f__law_union : Fn := runB n__law_union.length b__law_union.den
def n__law_greedy : List Str := ["family", "left", "found", "turn", "best", "row", "one"]
def b__law_greedy : Sts := (.cons (.set 1 (.bin .sub (.bin .shl (.int 1) (.ix (.var 0) (.int 0))) (.int 1)))
 (.cons (.new 2 (.lst .nil))
 (.cons (.for_ (.r1 (.int 8)) (.nm 3)
 (.cons (.ite (.cmp .ne (.var 1) (.int 0))
 (.cons (.set 4 (.b1 .max (.lc [("row", 5)] (.seq (.ix (.var 0) (.int 1))) (.nm 5) (.call "_law_size" f__law_size (.cons (.bin .and (.var 5) (.var 1)) .nil)))))
 (.cons (.ite (.cmp .eq (.var 4) (.int 0))
 (.cons (.ret .non)
 .nil)
 .nil)
 (.cons (.set 5 (.ix (.lcIf [("one", 6)] (.seq (.ix (.var 0) (.int 1))) (.nm 6) (.cmp .eq (.call "_law_size" f__law_size (.cons (.bin .and (.var 6) (.var 1)) .nil)) (.var 4)) (.var 6)) (.int 0)))
 (.cons (.app 2 (.var 5))
 (.cons (.set 1 (.bin .and (.var 1) (.un .inv (.var 5))))
 .nil)))))
 .nil)
 .nil))
 (.cons (.keep 2 (.ret (.var 2)))
 .nil))))
def f__law_greedy : Fn := runB n__law_greedy.length b__law_greedy.den
def n__law_gcd : List Str := ["one", "other", "turn"]
def b__law_gcd : Sts := (.cons (.for_ (.r1 (.int 400)) (.nm 2)
 (.cons (.ite (.cmp .eq (.var 1) (.int 0))
 (.cons .brk
 .nil)
 .nil)
 (.cons (.par 0 1 (.val (.var 1)) (.val (.bin .mod (.var 0) (.var 1))))
 .nil)))
 (.cons (.ret (.b1 .abs (.var 0)))
 .nil))
def f__law_gcd : Fn := runB n__law_gcd.length b__law_gcd.den
def n__law_fraction : List Str := ["top", "below", "part"]
def b__law_fraction : Sts := (.cons (.set 2 (.call "_law_gcd" f__law_gcd (.cons (.var 0) (.cons (.var 1) .nil))))
 (.cons (.ret (.tup (.cons (.bin .fdiv (.var 0) (.var 2)) (.cons (.bin .fdiv (.var 1) (.var 2)) .nil))))
 .nil))
def f__law_fraction : Fn := runB n__law_fraction.length b__law_fraction.den
def n__law_plus : List Str := ["one", "other"]
def b__law_plus : Sts := (.cons (.ret (.call "_law_fraction" f__law_fraction (.cons (.bin .add (.bin .mul (.ix (.var 0) (.int 0)) (.ix (.var 1) (.int 1))) (.bin .mul (.ix (.var 1) (.int 0)) (.ix (.var 0) (.int 1)))) (.cons (.bin .mul (.ix (.var 0) (.int 1)) (.ix (.var 1) (.int 1))) .nil))))
 .nil)
def f__law_plus : Fn := runB n__law_plus.length b__law_plus.den
def n_parted : List Str := ["family", "chosen"]
def b_parted : Sts := (.cons (.expr (.call "check_few" f_check_few (.cons (.var 0) .nil)))
 (.cons (.for_ (.seq (.call "chosen_rows" f_chosen_rows (.cons (.var 0) .nil))) (.nm 1)
 (.cons (.ite (.ands (.cons (.cmp .notIn (.int 0) (.var 1)) (.cons (.call "is_cover" f_is_cover (.cons (.var 0) (.cons (.var 1) .nil))) (.cons (.call "are_apart" f_are_apart (.cons (.var 0) (.cons (.var 1) .nil))) .nil))))
 (.cons (.ret (.var 1))
 .nil)
 .nil)
 .nil))
 (.cons (.raise .mi "Missing")
 .nil)))
def f_parted : Fn := runB n_parted.length b_parted.den
def n_greedy_cover : List Str := ["family", "left", "found", "fresh", "row"]
def b_greedy_cover : Sts := (.cons (.expr (.call "check_family" f_check_family (.cons (.var 0) .nil)))
 (.cons (.parC 1 2 (.val (.call "full_of" f_full_of (.cons (.var 0) .nil))) (.lst .nil))
 (.cons (.whl w_greedy_cover_0 (.cmp .ne (.var 1) (.int 0))
 (.cons (.setC 3 (.lc [("row", 4)] (.seq (.ix (.var 0) (.int 1))) (.nm 4) (.tup (.cons (.un .neg (.call "known_size" f_known_size (.cons (.bin .and (.var 4) (.var 1)) .nil))) (.cons (.var 4) .nil)))))
 (.cons (.ite (.ors (.cons (.cmp .eq (.b1 .len (.var 3)) (.int 0)) (.cons (.cmp .eq (.ix (.b1 .min (.var 3)) (.int 0)) (.int 0)) .nil)))
 (.cons (.raise .mi "Missing")
 .nil)
 .nil)
 (.cons (.set 4 (.ix (.b1 .min (.var 3)) (.int 1)))
 (.cons (.app 2 (.var 4))
 (.cons (.set 1 (.bin .and (.var 1) (.un .inv (.var 4))))
 .nil))))))
 (.cons (.keep 2 (.ret (.var 2)))
 .nil))))
def f_greedy_cover : Fn := runB n_greedy_cover.length b_greedy_cover.den
def n_cover_count : List Str := ["family", "best", "chosen"]
def b_cover_count : Sts := (.cons (.set 1 (.b1 .len (.call "fewest_cover" f_fewest_cover (.cons (.var 0) .nil))))
 (.cons (.ret (.b1 .len (.lcIf [("chosen", 2)] (.seq (.call "chosen_rows" f_chosen_rows (.cons (.var 0) .nil))) (.nm 2) (.ands (.cons (.cmp .eq (.b1 .len (.var 2)) (.var 1)) (.cons (.call "is_cover" f_is_cover (.cons (.var 0) (.cons (.var 2) .nil))) .nil))) (.var 2))))
 .nil))
def f_cover_count : Fn := runB n_cover_count.length b_cover_count.den
def n_law : List Str := ["script", "state", "turn", "family", "many", "full", "every", "covers", "rows", "packs", "most", "told", "exact", "bound", "size", "row", "best", "greedy", "due", "depths", "thing", "k", "number", "none", "odd"]
def b_law : LawT := ⟨1, (.cons (.call "_law_stream" f__law_stream (.scr 0 .nil)) (.cons (.int 0) .nil)),
 (.cons (.for_ (.r1 (.int 2)) (.nm 2)
 (.cons (.set 3 (.call "_law_family" f__law_family (.cell 1 (.cons (.int 6) (.cons (.int 6) .nil)))))
 (.cons (.set 4 (.ix (.var 3) (.int 0)))
 (.cons (.set 5 (.bin .sub (.bin .shl (.int 1) (.var 4)) (.int 1)))
 (.cons (.set 6 (.call "_law_choices" f__law_choices (.cons (.ix (.var 3) (.int 1)) .nil)))
 (.cons (.setC 7 (.lcIf [("rows", 8)] (.seq (.var 6)) (.nm 8) (.cmp .eq (.call "_law_union" f__law_union (.cons (.var 8) .nil)) (.var 5)) (.var 8)))
 (.cons (.setF 9 (.lcIf [("rows", 8)] (.seq (.var 6)) (.nm 8) (.ands (.cons (.cmp .notIn (.int 0) (.var 8)) (.cons (.call "_law_apart" f__law_apart (.cons (.var 8) .nil)) .nil))) (.var 8)))
 (.cons (.set 10 (.b1 .max (.lc [("rows", 8)] (.seq (.var 9)) (.nm 8) (.b1 .len (.var 8)))))
 (.cons (.ite (.not (.call "_law_same" f__law_same (.cons (.call "most_apart" f_most_apart (.cons (.var 3) .nil)) (.cons (.ix (.lcIf [("rows", 8)] (.seq (.var 9)) (.nm 8) (.cmp .eq (.b1 .len (.var 8)) (.var 10)) (.var 8)) (.int 0)) .nil))))
 (.cons (.ret (.bl false))
 .nil)
 .nil)
 (.cons (.set 11 (.lst (.cons (.told (.call "fewest_cover" f_fewest_cover (.cons (.var 3) .nil))) (.cons (.told (.call "cover_count" f_cover_count (.cons (.var 3) .nil))) (.cons (.told (.call "greedy_cover" f_greedy_cover (.cons (.var 3) .nil))) (.cons (.told (.call "parted" f_parted (.cons (.var 3) .nil))) .nil))))))
 (.cons (.setC 12 (.lcIf [("rows", 8)] (.seq (.var 7)) (.nm 8) (.cmp .isIn (.var 8) (.var 9)) (.var 8)))
 (.cons (.set 13 (.tup (.cons (.int 0) (.cons (.int 1) .nil))))
 (.cons (.for_ (.r2 (.int 1) (.bin .add (.b1 .max (.lc [("row", 15)] (.seq (.ix (.var 3) (.int 1))) (.nm 15) (.call "_law_size" f__law_size (.cons (.var 15) .nil)))) (.int 1))) (.nm 14)
 (.cons (.set 13 (.call "_law_plus" f__law_plus (.cons (.var 13) (.cons (.call "_law_fraction" f__law_fraction (.cons (.int 1) (.cons (.var 14) .nil))) .nil))))
 .nil))
 (.cons (.ite (.not (.call "_law_same" f__law_same (.cons (.call "greedy_bound" f_greedy_bound (.cons (.var 3) .nil)) (.cons (.var 13) .nil))))
 (.cons (.ret (.bl false))
 .nil)
 .nil)
 (.cons (.ite (.cmp .eq (.var 7) (.lst .nil))
 (.cons (.ite (.cmp .ne (.var 11) (.bin .mul (.lst (.cons (.tup (.cons (.str "missing") .nil)) .nil)) (.int 4)))
 (.cons (.ret (.bl false))
 .nil)
 .nil)
 .nil)
 (.cons (.set 16 (.ix (.var 7) (.int 0)))
 (.cons (.set 17 (.call "_law_greedy" f__law_greedy (.cons (.var 3) .nil)))
 (.cons (.set 18 (.lst (.cons (.tup (.cons (.str "told") (.cons (.var 16) .nil))) (.cons (.tup (.cons (.str "told") (.cons (.b1 .len (.lcIf [("rows", 8)] (.seq (.var 7)) (.nm 8) (.cmp .eq (.b1 .len (.var 8)) (.b1 .len (.var 16))) (.var 8))) .nil))) (.cons (.tup (.cons (.str "told") (.cons (.var 17) .nil))) (.cons (.ix (.lst (.cons (.tup (.cons (.str "told") (.cons (.ix (.bin .add (.var 12) (.lst (.cons (.int 0) .nil))) (.int 0)) .nil))) (.cons (.tup (.cons (.str "missing") .nil)) .nil))) (.b1 .int (.cmp .eq (.var 12) (.lst .nil)))) .nil))))))
 (.cons (.ite (.ors (.cons (.not (.call "_law_same" f__law_same (.cons (.var 11) (.cons (.var 18) .nil)))) (.cons (.cmp .gt (.bin .mul (.b1 .len (.var 17)) (.ix (.var 13) (.int 1))) (.bin .mul (.b1 .len (.var 16)) (.ix (.var 13) (.int 0)))) .nil)))
 (.cons (.ret (.bl false))
 .nil)
 .nil)
 .nil)))))
 (.cons (.setC 19 (.lc [("thing", 20)] (.r1 (.var 4)) (.nm 20) (.b1 .len (.lcIf [("row", 15)] (.seq (.ix (.var 3) (.int 1))) (.nm 15) (.cmp .eq (.bin .and (.bin .shr (.var 15) (.var 20)) (.int 1)) (.int 1)) (.var 15)))))
 (.cons (.ite (.not (.call "_law_same" f__law_same (.cons (.call "deepest" f_deepest (.cons (.var 3) .nil)) (.cons (.tup (.cons (.b1 .max (.var 19)) (.cons (.mth .index (.var 19) (.b1 .max (.var 19))) .nil))) .nil))))
 (.cons (.ret (.bl false))
 .nil)
 .nil)
 (.cons (.for_ (.r1 (.int 4)) (.nm 21)
 (.cons (.set 8 (.ix (.var 6) (.call "_law_next" f__law_next (.cell 1 (.cons (.b1 .len (.var 6)) .nil)))))
 (.cons (.ite (.not (.call "_law_same" f__law_same (.cons (.lst (.cons (.call "is_cover" f_is_cover (.cons (.var 3) (.cons (.var 8) .nil))) (.cons (.call "are_apart" f_are_apart (.cons (.var 3) (.cons (.var 8) .nil))) .nil))) (.cons (.lst (.cons (.cmp .eq (.call "_law_union" f__law_union (.cons (.var 8) .nil)) (.var 5)) (.cons (.call "_law_apart" f__law_apart (.cons (.var 8) .nil)) .nil))) .nil))))
 (.cons (.ret (.bl false))
 .nil)
 .nil)
 .nil)))
 (.cons (.ite (.cmp .gt (.b1 .len (.ix (.var 3) (.int 1))) (.int 1))
 (.cons (.set 22 (.call "_law_helly" f__law_helly (.cons (.var 3) .nil)))
 (.cons (.ite (.ors (.cons (.not (.call "_law_same" f__law_same (.cons (.call "least_all_meet" f_least_all_meet (.cons (.var 3) .nil)) (.cons (.var 22) .nil)))) (.cons (.not (.call "_law_helly_holds" f__law_helly_holds (.cons (.var 3) (.cons (.var 22) .nil)))) .nil)))
 (.cons (.ret (.bl false))
 .nil)
 .nil)
 .nil))
 (.cons (.ite (.cmp .ne (.told (.call "least_all_meet" f_least_all_meet (.cons (.var 3) .nil))) (.tup (.cons (.str "refused") .nil)))
 (.cons (.ret (.bl false))
 .nil)
 .nil)
 .nil))
 (.cons (.for_ (.seq (.call "_law_bad_families" f__law_bad_families .nil)) (.nm 23)
 (.cons (.set 24 (.lst (.cons (.told (.call "fewest_cover" f_fewest_cover (.cons (.var 23) .nil))) (.cons (.told (.call "deepest" f_deepest (.cons (.var 23) .nil))) (.cons (.told (.call "greedy_bound" f_greedy_bound (.cons (.var 23) .nil))) .nil)))))
 (.cons (.ite (.cmp .ne (.var 24) (.bin .mul (.lst (.cons (.tup (.cons (.str "refused") .nil)) .nil)) (.int 3)))
 (.cons (.ret (.bl false))
 .nil)
 .nil)
 .nil)))
 (.cons (.set 24 (.lst (.cons (.told (.call "is_cover" f_is_cover (.cons (.tup (.cons (.int 2) (.cons (.tup (.cons (.int 1) .nil)) .nil))) (.cons (.tup (.cons (.int 2) .nil)) .nil)))) (.cons (.told (.call "are_apart" f_are_apart (.cons (.tup (.cons (.int 2) (.cons (.tup (.cons (.int 1) .nil)) .nil))) (.cons (.tup (.cons (.int 3) .nil)) .nil)))) (.cons (.told (.call "least_all_meet" f_least_all_meet (.cons (.tup (.cons (.int 4) (.cons (.rg1 true (.int 11)) .nil))) .nil))) (.cons (.told (.call "fewest_cover" f_fewest_cover (.cons (.tup (.cons (.int 4) (.cons (.rg1 true (.int 15)) .nil))) .nil))) (.cons (.told (.call "most_apart" f_most_apart (.cons (.tup (.cons (.int 4) (.cons (.rg1 true (.int 15)) .nil))) .nil))) .nil)))))))
 (.cons (.ite (.cmp .ne (.var 24) (.bin .add (.bin .mul (.lst (.cons (.tup (.cons (.str "refused") .nil)) .nil)) (.int 3)) (.bin .mul (.lst (.cons (.tup (.cons (.str "large") .nil)) .nil)) (.int 2))))
 (.cons (.ret (.bl false))
 .nil)
 .nil)
 .nil))))))))))))))))))))))
 (.cons (.ret (.cmp .eq (.glob "MAX_COVERED" (.int 14)) (.int 14)))
 .nil))⟩
def f_law : Fn := runB n_law.length b_law.den
end Pv.K54
namespace Pv.K54
open PySem PySem.Spec PyProof.Rows L2
open Pv.Sh Pv.Fb Pv.Fc
open Pv.Sw (kN lD tD thP small in_nats mem_thP setI_self sum_nats map_kN Lay lay_int lay_list lay_tup lay_lD lay_tD eq_nil ne_nil emp_nats emp_map sho_name sho_nat told_sho one_sho sho_tD fam_sho endS endP told_is told_thr seq_thr rng_big r1_big call3_to ifE_to)
open Pv.Ev
local macro_rules | `(tactic| and_intros) => `(tactic| first
  | ((with_reducible apply var_at); exact rfl)
  | ((with_reducible apply peek_own); exact rfl)
  | ((with_reducible apply peek_val); exact rfl)
  | with_reducible exact neg1_at
  | ((with_reducible apply srtSet_to) <;> and_intros)
  | with_reducible exact int_nat _
  | with_reducible exact glob_nat _ _
  | with_reducible exact str_is _
  | with_reducible exact bl_is _
  | with_reducible exact non_is
  | with_reducible exact int_is _
  | with_reducible exact glob_is _ _
  | with_reducible exact tup_0
  | with_reducible exact lst_0
  | ((with_reducible apply bin_to) <;> and_intros)
  | ((with_reducible apply cmp_to) <;> and_intros)
  | ((with_reducible apply ix_to) <;> and_intros)
  | ((with_reducible apply b1_to) <;> and_intros)
  | ((with_reducible apply call1_to) <;> and_intros)
  | ((with_reducible apply call2_to) <;> and_intros)
  | ((with_reducible apply call3_to) <;> and_intros)
  | ((with_reducible apply lcIf_ev) <;> and_intros)
  | ((with_reducible apply lc_ev) <;> and_intros)
  | ((with_reducible apply not_to) <;> and_intros)
  | ((with_reducible apply and_more) <;> and_intros)
  | ((with_reducible apply and_one) <;> and_intros)
  | ((with_reducible apply or_more) <;> and_intros)
  | ((with_reducible apply or_one) <;> and_intros)
  | ((with_reducible apply chain_to) <;> and_intros)
  | ((with_reducible apply un_to) <;> and_intros)
  | ((with_reducible apply b2_to) <;> and_intros)
  | ((with_reducible apply tup_es) <;> and_intros)
  | ((with_reducible apply lst_es) <;> and_intros)
  | ((with_reducible apply es_cons) <;> and_intros)
  | with_reducible exact es_nil
  | ((with_reducible apply told_ev) <;> and_intros)
  | ((with_reducible apply r1_to) <;> and_intros)
  | ((with_reducible apply r2_to) <;> and_intros)
  | ((with_reducible apply seq_to2) <;> and_intros)
  | ((with_reducible apply en_to) <;> and_intros)
  | ((with_reducible apply turn_yes); (first | exact rfl | skip); and_intros)
  | ((with_reducible apply turn_ok); (first | exact rfl | skip); and_intros; and_intros)
  | ((with_reducible apply run_of) <;> and_intros)
  | ((with_reducible apply seq_ret) <;> and_intros)
  | ((with_reducible apply seq_set) <;> and_intros)
  | ((with_reducible apply seq_setC) <;> and_intros)
  | ((with_reducible apply seq_setF) <;> and_intros)
  | ((with_reducible apply seq_expr) <;> and_intros)
  | ((with_reducible apply seq_new0) <;> and_intros)
  | with_reducible exact items_l _ _
  | with_reducible exact items_t _ _
  | with_reducible exact sq_l _ _
  | with_reducible exact sq_t _ _
  | with_reducible exact o_add _ _
  | with_reducible exact o_and _ _
  | with_reducible exact o_or _ _
  | with_reducible exact o_xor _ _
  | with_reducible exact o_shr _ _
  | ((with_reducible apply o_shl1); omega)
  | ((with_reducible apply o_mod); (first | omega | decide))
  | ((with_reducible apply o_div) <;> (first | omega | decide))
  | ((with_reducible apply o_sub); omega)
  | with_reducible exact o_inv _
  | with_reducible exact o_neg _
  | with_reducible exact c_eq _ _
  | with_reducible exact c_ne _ _
  | with_reducible exact c_lt _ _
  | with_reducible exact c_le _ _
  | with_reducible exact c_gt _ _
  | with_reducible exact c_ge _ _
  | with_reducible exact c_in _ _
  | with_reducible exact c_inT _ _
  | with_reducible exact c_nin _ _
  | with_reducible exact c_ninT _ _
  | with_reducible exact b_lenL _ _
  | with_reducible exact b_lenT _ _
  | with_reducible exact b_len2 _ _
  | ((with_reducible apply sl_hi) <;> and_intros)
  | ((with_reducible apply sl_lo) <;> and_intros)
  | with_reducible exact s_takeL _ _ _
  | with_reducible exact s_takeT _ _ _
  | with_reducible exact s_dropL _ _ _
  | with_reducible exact s_dropT _ _ _
  | ((with_reducible apply zip_to) <;> and_intros)
  | with_reducible exact z_l _ _ _ _
  | with_reducible exact z_t _ _ _ _
  | with_reducible exact b_tup _
  | with_reducible exact b_lst _
  | with_reducible exact b_intB _
  | with_reducible exact b_intN _
  | with_reducible exact b_all _ _
  | with_reducible exact b_any _ _
  | with_reducible exact b_sum _ _
  | with_reducible exact b_max2 _ _
  | with_reducible exact b_min2 _ _
  | with_reducible exact pair_0 _ _
  | with_reducible exact pair_1 _ _
  | infer_instance
  | (intro _; and_intros)
  | omega
  | skip)
local macro_rules | `(tactic| infer_instance) => `(tactic| with_reducible exact known_things_eq _)
local macro_rules | `(tactic| infer_instance) => `(tactic| with_reducible exact known_size_eq _)
local macro_rules | `(tactic| infer_instance) => `(tactic| with_reducible exact things_eq _)
local macro_rules | `(tactic| infer_instance) => `(tactic| with_reducible exact size_eq _)
/-! sublists, masks -/
theorem subs_iff : ∀ (l : List Nat) (G : List (List Nat)) (s : List Nat), s ∈ subsP l G ↔ ∃ s0 ∈ G, ∃ y, y.Sublist l ∧ s = s0 ++ y
  | [], G, s => by
    rw [subsP]
    constructor
    · intro h
      exact ⟨s, h, [], List.Sublist.refl _, by simp⟩
    · rintro ⟨s0, h, y, hy, rfl⟩
      rw [List.sublist_nil.mp hy, List.append_nil]
      exact h
  | r :: l, G, s => by
    rw [subsP, subs_iff l]
    constructor
    · rintro ⟨s0, h, y, hy, rfl⟩
      rcases List.mem_append.mp h with h | h
      · exact ⟨s0, h, y, hy.cons r, rfl⟩
      · obtain ⟨u, hu, rfl⟩ := List.mem_map.mp h
        exact ⟨u, hu, r :: y, hy.cons₂ r, by simp⟩
    · rintro ⟨s0, h, y, hy, rfl⟩
      cases hy with
      | cons _ hy => exact ⟨s0, List.mem_append_left _ h, _, hy, rfl⟩
      | cons_cons _ hy => exact ⟨s0 ++ [r], List.mem_append_right _ (List.mem_map.mpr ⟨s0, h, rfl⟩), _, hy, by simp⟩
theorem mem_chs {l x : List Nat} : x ∈ chs l ↔ x.Sublist l := by
  rw [(chs_perm l).mem_iff, subs_iff]
  constructor
  · rintro ⟨s0, h, y, hy, rfl⟩
    rw [List.mem_singleton.mp h]
    exact hy
  · intro h
    exact ⟨[], by simp, x, h, rfl⟩
theorem subs_snoc : ∀ (l : List Nat) (r : Nat) (G : List (List Nat)), subsP (l ++ [r]) G = subsP l G ++ (subsP l G).map fun x => x ++ [r]
  | [], _, _ => rfl
  | a :: l, r, G => by
    show subsP (l ++ [r]) _ = _
    rw [subs_snoc l r]
    rfl
def pickP (l : List Nat) (mask : Nat) : List Nat := (l.zipIdx.filter fun p => mask.testBit p.2).map fun p => p.1
theorem pick_snoc (l : List Nat) (r mask : Nat) : pickP (l ++ [r]) mask = pickP l mask ++ if mask.testBit l.length = true then [r] else [] := by
  unfold pickP
  rw [List.zipIdx_append, List.filter_append, List.map_append]
  congr 1
  simp only [List.zipIdx_cons, List.zipIdx_nil, Nat.zero_add, List.filter_cons, List.filter_nil]
  split <;> rfl
theorem pick_congr {l : List Nat} {a b : Nat} (h : ∀ t, t < l.length → a.testBit t = b.testBit t) : pickP l a = pickP l b := by
  unfold pickP
  congr 1
  refine List.filter_congr fun p hp => ?_
  have := List.mem_zipIdx hp
  exact h _ (by omega)
theorem masks : ∀ (n : Nat) (l : List Nat), l.length = n → (List.range (2 ^ n)).map (pickP l) = subsP l [[]]
  | 0, l, h => by
    rw [List.length_eq_zero_iff.mp h]
    rfl
  | n + 1, l, h => by
    obtain ⟨l', r, rfl⟩ : ∃ l' r, l = l' ++ [r] := by
      rcases List.eq_nil_or_concat l with z | ⟨l', r, z⟩
      · rw [z] at h; cases h
      · exact ⟨l', r, by simpa using z⟩
    have hn : l'.length = n := by simpa using h
    have i := masks n l' hn
    rw [subs_snoc, ← i, Nat.pow_succ, Nat.mul_two, List.range_add, List.map_append, List.map_map, List.map_map]
    congr 1
    · refine List.map_congr_left fun a ha => ?_
      have ha := List.mem_range.mp ha
      rw [pick_snoc, hn, Nat.testBit_lt_two_pow ha, if_neg (by simp), List.append_nil]
    · refine List.map_congr_left fun a ha => ?_
      have ha := List.mem_range.mp ha
      show pickP (l' ++ [r]) (2 ^ n + a) = pickP l' a ++ [r]
      rw [pick_snoc, hn, Nat.testBit_two_pow_add_eq, Nat.testBit_lt_two_pow ha, if_pos (by simp)]
      congr 1
      refine pick_congr fun t ht => ?_
      rw [Nat.testBit_two_pow_add_gt (by omega)]
theorem pick_0 (l : List Nat) : pickP l 0 = [] := by
  unfold pickP
  rw [List.filter_eq_nil_iff.mpr fun p _ => by simp]
  rfl
/-! in some, in all -/
def unionP (rows : List Nat) : Nat := rows.foldl (fun a b => a ||| b) 0
def commonP (rows : List Nat) : Nat := rows.foldl (fun a b => a &&& b) 127
theorem fold_or (t : Nat) : ∀ (rows : List Nat) (z : Nat), (rows.foldl (fun a b => a ||| b) z).testBit t = (z.testBit t || rows.any fun r => r.testBit t)
  | [], z => by simp
  | r :: rows, z => by rw [List.foldl_cons, fold_or t rows, Nat.testBit_or, List.any_cons, Bool.or_assoc]
theorem fold_and (t : Nat) : ∀ (rows : List Nat) (z : Nat), (rows.foldl (fun a b => a &&& b) z).testBit t = (z.testBit t && rows.all fun r => r.testBit t)
  | [], z => by simp
  | r :: rows, z => by rw [List.foldl_cons, fold_and t rows, Nat.testBit_and, List.all_cons, Bool.and_assoc]
theorem union_bit (rows : List Nat) (t : Nat) : (unionP rows).testBit t = rows.any fun r => r.testBit t := by
  unfold unionP
  rw [fold_or, Nat.zero_testBit, Bool.false_or]
theorem common_zero {rows : List Nat} : commonP rows = 0 ↔ ∀ t, t < 7 → ∃ r ∈ rows, r.testBit t = false := by
  have b : ∀ t, (127 : Nat).testBit t = decide (t < 7) := fun t => by
    rw [show (127 : Nat) = 2 ^ 7 - 1 from rfl, Nat.testBit_two_pow_sub_one]
  constructor
  · intro h t ht
    have z := fold_and t rows 127
    rw [show rows.foldl (fun a b => a &&& b) 127 = 0 from h, Nat.zero_testBit, b, decide_eq_true ht, Bool.true_and] at z
    obtain ⟨r, hr, e⟩ := List.all_eq_false.mp z.symm
    exact ⟨r, hr, by simpa using e⟩
  · intro h
    refine Nat.eq_of_testBit_eq fun t => ?_
    unfold commonP
    rw [fold_and, b, Nat.zero_testBit]
    by_cases c : t < 7
    · obtain ⟨r, hr, e⟩ := h t c
      rw [List.all_eq_false.mpr ⟨r, hr, by simp [e]⟩, Bool.and_false]
    · rw [decide_eq_false c, Bool.false_and]
theorem common_up {x y : List Nat} (s : ∀ r ∈ y, r ∈ x) (h : commonP y = 0) : commonP x = 0 :=
  common_zero.mpr fun t ht => by
    obtain ⟨r, hr, e⟩ := common_zero.mp h t ht
    exact ⟨r, s r hr, e⟩
theorem common_nil : commonP [] = 127 := rfl
theorem full_bit (m t : Nat) : (2 ^ m - 1).testBit t = decide (t < m) := Nat.testBit_two_pow_sub_one m t
theorem union_full {m : Nat} {rows : List Nat} (lt : ∀ r ∈ rows, r < 2 ^ m) : unionP rows = 2 ^ m - 1 ↔ ∀ t, t < m → ∃ r ∈ rows, r.testBit t = true := by
  constructor
  · intro h t ht
    have z := union_bit rows t
    rw [h, full_bit, decide_eq_true ht] at z
    obtain ⟨r, hr, e⟩ := List.any_eq_true.mp z.symm
    exact ⟨r, hr, e⟩
  · intro h
    refine Nat.eq_of_testBit_eq fun t => ?_
    rw [union_bit, full_bit]
    by_cases c : t < m
    · obtain ⟨r, hr, e⟩ := h t c
      rw [decide_eq_true c, List.any_eq_true.mpr ⟨r, hr, e⟩]
    · rw [decide_eq_false c]
      refine List.any_eq_false.mpr fun r hr => ?_
      rw [Nat.testBit_lt_two_pow (Nat.lt_of_lt_of_le (lt r hr) (Nat.pow_le_pow_right (by decide) (by omega)))]
      simp
/-! the least that meet -/
def critP (x : List Nat) : Bool := commonP x == 0 && (List.range x.length).all fun k => commonP (x.take k ++ x.drop (k + 1)) != 0
def bestC (L : List (List Nat)) (b : Nat) : Nat := L.foldl (fun b x => if critP x = true then max b x.length else b) b
theorem best_perm {L K : List (List Nat)} (p : L.Perm K) (b : Nat) : bestC L b = bestC K b := by
  unfold bestC
  refine p.foldl_eq' (fun x _ y _ z => ?_) b
  split <;> split <;> omega
theorem best_ge : ∀ (L : List (List Nat)) (b : Nat), b ≤ bestC L b ∧ ∀ x ∈ L, critP x = true → x.length ≤ bestC L b
  | [], b => ⟨Nat.le_refl _, fun x h => by cases h⟩
  | y :: L, b => by
    have i := best_ge L (if critP y = true then max b y.length else b)
    have e : bestC (y :: L) b = bestC L (if critP y = true then max b y.length else b) := rfl
    rw [e]
    refine ⟨Nat.le_trans (by split <;> omega) i.1, fun x hx cx => ?_⟩
    rcases List.mem_cons.mp hx with rfl | hx
    · rw [if_pos cx] at i ⊢
      exact Nat.le_trans (by omega) i.1
    · exact i.2 x hx cx
theorem del_sub (x : List Nat) (k : Nat) : (x.take k ++ x.drop (k + 1)).Sublist x := by
  have : (x.take k ++ x.drop (k + 1)).Sublist (x.take k ++ x.drop k) := List.Sublist.append (List.Sublist.refl _) (by
    rw [show x.drop (k + 1) = (x.drop k).drop 1 from by rw [List.drop_drop]]
    exact List.drop_sublist _ _)
  rwa [List.take_append_drop] at this
theorem has_crit : ∀ (n : Nat) (x : List Nat), x.length ≤ n → commonP x = 0 → ∃ y, y.Sublist x ∧ critP y = true
  | 0, x, h, c => by
    rw [List.length_eq_zero_iff.mp (Nat.le_zero.mp h)] at c
    cases c
  | n + 1, x, h, c => by
    by_cases q : critP x = true
    · exact ⟨x, List.Sublist.refl _, q⟩
    · unfold critP at q
      rw [c, beq_self_eq_true, Bool.true_and] at q
      have : ∃ k ∈ List.range x.length, commonP (x.take k ++ x.drop (k + 1)) = 0 := by
        apply Classical.byContradiction
        intro z
        exact q (List.all_eq_true.mpr fun k hk => bne_iff_ne.mpr fun e => z ⟨k, hk, e⟩)
      obtain ⟨k, hk, e⟩ := this
      have hk := List.mem_range.mp hk
      obtain ⟨y, h1, h2⟩ := has_crit n (x.take k ++ x.drop (k + 1)) (by rw [List.length_append, List.length_take, List.length_drop]; omega) e
      exact ⟨y, h1.trans (del_sub x k), h2⟩
theorem between : ∀ {y x : List Nat}, y.Sublist x → ∀ k, y.length ≤ k → k ≤ x.length → ∃ z, y.Sublist z ∧ z.Sublist x ∧ z.length = k
  | _, _, .slnil, k, _, h => ⟨[], .slnil, .slnil, by simp at h; simp [h]⟩
  | y, a :: x, .cons _ s, k, h1, h2 => by
    rw [List.length_cons] at h2
    by_cases c : k ≤ x.length
    · obtain ⟨z, s1, s2, e⟩ := between s k h1 c
      exact ⟨z, s1, s2.cons a, e⟩
    · refine ⟨a :: x, s.cons a, List.Sublist.refl _, by rw [List.length_cons]; omega⟩
  | a :: y, _ :: x, .cons₂ _ s, k, h1, h2 => by
    rw [List.length_cons] at h1 h2
    obtain ⟨z, s1, s2, e⟩ := between s (k - 1) (by omega) (by omega)
    exact ⟨a :: z, s1.cons₂ a, s2.cons₂ a, by rw [List.length_cons]; omega⟩
theorem helly {l x : List Nat} (s : x.Sublist l) (c : commonP x = 0) : ∃ z ∈ chs x, z.length = min (bestC (chs l) 1) x.length ∧ commonP z = 0 := by
  obtain ⟨y, h1, h2⟩ := has_crit _ x (Nat.le_refl _) c
  have b := (best_ge (chs l) 1).2 y (mem_chs.mpr (h1.trans s)) h2
  have yl := h1.length_le
  obtain ⟨z, s1, s2, e⟩ := between h1 (min (bestC (chs l) 1) x.length) (by omega) (by omega)
  have cy : commonP y = 0 := by
    unfold critP at h2
    rw [Bool.and_eq_true, beq_iff_eq] at h2
    exact h2.1
  exact ⟨z, mem_chs.mpr s2, e, common_up (fun r hr => s1.subset hr) cy⟩
/-! the greedy one -/
def szP (x : Nat) : Nat := (thP x).length
def topP (l : List Nat) (left : Nat) : Nat := (l.map fun r => szP (r &&& left)).foldl max 0
def rowP (l : List Nat) (left : Nat) : Nat := (l.filter fun r => szP (r &&& left) == topP l left).headD 0
def grP (l : List Nat) : Nat → Nat → List Nat → Option (List Nat)
  | 0, _, acc => some acc
  | n + 1, left, acc => if left = 0 then some acc else if topP l left = 0 then none else grP l n (left - (left &&& rowP l left)) (acc ++ [rowP l left])
theorem fold_max : ∀ (k : List Nat) (z : Nat), z ≤ k.foldl max z ∧ (∀ a ∈ k, a ≤ k.foldl max z) ∧ (k.foldl max z = z ∨ k.foldl max z ∈ k)
  | [], z => ⟨Nat.le_refl _, fun a h => (by cases h), .inl rfl⟩
  | b :: k, z => by
    obtain ⟨h1, h2, h3⟩ := fold_max k (max z b)
    rw [List.foldl_cons]
    refine ⟨by omega, fun a ha => ?_, ?_⟩
    · rcases List.mem_cons.mp ha with rfl | ha
      · omega
      · exact h2 a ha
    · rcases h3 with h | h
      · rw [h]
        by_cases c : b ≤ z
        · exact .inl (by omega)
        · exact .inr (by simp; left; omega)
      · exact .inr (List.mem_cons_of_mem _ h)
theorem top_ge {l : List Nat} {left r : Nat} (h : r ∈ l) : szP (r &&& left) ≤ topP l left := (fold_max _ 0).2.1 _ (List.mem_map.mpr ⟨r, h, rfl⟩)
theorem row_is {l : List Nat} {left : Nat} (h : topP l left ≠ 0) : rowP l left ∈ l ∧ szP (rowP l left &&& left) = topP l left := by
  rcases (fold_max (l.map fun r => szP (r &&& left)) 0).2.2 with z | z
  · exact (h z).elim
  · obtain ⟨r, hr, e⟩ := List.mem_map.mp z
    have : r ∈ l.filter fun r => szP (r &&& left) == topP l left := List.mem_filter.mpr ⟨hr, beq_iff_eq.mpr e⟩
    obtain ⟨a, k, ek⟩ := List.exists_cons_of_ne_nil (List.ne_nil_of_mem this)
    unfold rowP
    rw [ek]
    have ma : a ∈ l.filter fun r => szP (r &&& left) == topP l left := by rw [ek]; simp
    have := List.mem_filter.mp ma
    exact ⟨this.1, beq_iff_eq.mp this.2⟩
theorem minus_bit (a b t : Nat) : (a - (a &&& b)).testBit t = (a.testBit t && !b.testBit t) := by
  have e := Bits.nat_xor_add_and a (a &&& b)
  rw [← Nat.and_assoc, Nat.and_self] at e
  have le : a &&& b ≤ a := Nat.and_le_left
  have : a - (a &&& b) = a ^^^ (a &&& b) := by omega
  rw [this, Nat.testBit_xor, Nat.testBit_and]
  cases a.testBit t <;> cases b.testBit t <;> rfl
theorem sz_split (s a b : Nat) : szP (s &&& a) = szP (s &&& (a - (a &&& b))) + szP (s &&& (a &&& b)) := by
  unfold szP thP
  have : ∀ k : List Nat, (k.filter fun t => (s &&& a).testBit t).length = (k.filter fun t => (s &&& (a - (a &&& b))).testBit t).length + (k.filter fun t => (s &&& (a &&& b)).testBit t).length := by
    intro k
    induction k with
    | nil => rfl
    | cons t k i =>
      simp only [List.filter_cons, Nat.testBit_and, minus_bit] at i ⊢
      cases s.testBit t <;> cases a.testBit t <;> cases b.testBit t <;> simp at i ⊢ <;> omega
  exact this _
theorem sz_union (x : Nat) : ∀ B : List Nat, (∀ t, t < 7 → x.testBit t = true → ∃ s ∈ B, s.testBit t = true) → szP x ≤ (B.map fun s => szP (s &&& x)).sum := by
  have gen : ∀ (k : List Nat) (B : List Nat), (∀ t ∈ k, x.testBit t = true → ∃ s ∈ B, s.testBit t = true) → (k.filter fun t => x.testBit t).length ≤ (B.map fun s => (k.filter fun t => (s &&& x).testBit t).length).sum := by
    intro k B
    induction k with
    | nil => intro _; simp
    | cons t k i =>
      intro h
      have i := i fun u hu => h u (by simp [hu])
      have step : ∀ B : List Nat, (B.map fun s => ((t :: k).filter fun t => (s &&& x).testBit t).length).sum = (B.map fun s => (if (s &&& x).testBit t = true then 1 else 0)).sum + (B.map fun s => (k.filter fun t => (s &&& x).testBit t).length).sum := by
        intro B
        induction B with
        | nil => rfl
        | cons s B j =>
          rw [List.map_cons, List.sum_cons, j, List.map_cons, List.sum_cons, List.map_cons, List.sum_cons, List.filter_cons]
          split <;> simp <;> omega
      rw [step, List.filter_cons]
      split
      · rename_i hx
        obtain ⟨s, hs, e⟩ := h t (by simp) hx
        have one : ∀ B : List Nat, s ∈ B → 1 ≤ (B.map fun s => (if (s &&& x).testBit t = true then 1 else 0)).sum := by
          intro B
          induction B with
          | nil => intro hs; cases hs
          | cons c B j =>
            intro hs
            rw [List.map_cons, List.sum_cons]
            rcases List.mem_cons.mp hs with rfl | hs
            · rw [if_pos (by rw [Nat.testBit_and, e, hx]; rfl)]
              omega
            · have := j hs
              omega
        have one := one B hs
        rw [List.length_cons]
        omega
      · omega
  intro B h
  exact gen (List.range 7) B fun t ht => h t (List.mem_range.mp ht)
def HH : Nat → Nat
  | 0 => 0 | 1 => 60 | 2 => 90 | 3 => 110 | 4 => 125 | 5 => 137 | 6 => 147 | _ => 147
theorem HH_all : ((List.range 7).all fun c => (List.range (c + 1)).all fun a => (List.range (a + 1)).all fun d => decide (60 * d ≤ c * (HH a - HH (a - d))) && decide (HH d ≤ HH a)) = true := by decide
theorem HH_mono (a : Nat) (ha : a < 7) (b : Nat) (hb : b < 7) (h : a ≤ b) : HH a ≤ HH b := by
  have z := HH_all
  simp only [List.all_eq_true, List.mem_range, Bool.and_eq_true, decide_eq_true_eq] at z
  exact (z b hb b (by omega) a (by omega)).2
theorem HH_step (c : Nat) (hc : c < 7) (a : Nat) (_ : a < 7) (h : a ≤ c) (d : Nat) (_ : d < 7) (hd : d ≤ a) : 60 * d ≤ c * (HH a - HH (a - d)) ∧ HH (a - d) ≤ HH a := by
  have z := HH_all
  simp only [List.all_eq_true, List.mem_range, Bool.and_eq_true, decide_eq_true_eq] at z
  exact ⟨(z c hc a (by omega) d (by omega)).1, HH_mono _ (by omega) _ (by omega) (by omega)⟩
def potP (B : List Nat) (left : Nat) : Nat := (B.map fun s => HH (szP (s &&& left))).sum
theorem sz_le6 {m x : Nat} (hm : m ≤ 6) (h : x < 2 ^ m) : szP x ≤ m := by
  have : (thP x).length ≤ (List.range m).length := nodup_le (List.nodup_range.filter _) fun t ht => by
    have := mem_thP.mp ht
    refine List.mem_range.mpr (Classical.byContradiction fun z => ?_)
    rw [Nat.testBit_lt_two_pow (Nat.lt_of_lt_of_le h (Nat.pow_le_pow_right (by decide) (by omega)))] at this
    exact absurd this.2 (by simp)
  unfold szP
  simpa using this
theorem pot_step {m : Nat} {l B : List Nat} {left : Nat} (hm : m ≤ 6) (hl : left < 2 ^ m) (lt : ∀ r ∈ l, r < 2 ^ m) (sub : ∀ s ∈ B, s ∈ l) (cov : ∀ t, t < m → ∃ s ∈ B, s.testBit t = true) (nz : topP l left ≠ 0) : potP B (left - (left &&& rowP l left)) + 60 ≤ potP B left := by
  obtain ⟨hr, hc⟩ := row_is nz
  generalize hrr : rowP l left = r at *
  generalize hcc : topP l left = c at *
  have c6 : c ≤ 6 := by
    have : szP (r &&& left) ≤ m := sz_le6 hm (Nat.and_lt_two_pow _ hl)
    omega
  have each : ∀ K : List Nat, (∀ s ∈ K, s ∈ l) → 60 * (K.map fun s => szP (s &&& (left &&& r))).sum + c * potP K (left - (left &&& r)) ≤ c * potP K left := by
    intro K
    induction K with
    | nil => intro _; simp [potP]
    | cons s K i =>
      intro hK
      have i := i fun x hx => hK x (by simp [hx])
      have sp := sz_split s left r
      have sl : szP (s &&& left) ≤ c := hcc ▸ top_ge (hK s (by simp))
      have st := HH_step c (by omega) (szP (s &&& left)) (by omega) sl (szP (s &&& (left &&& r))) (by omega) (by omega)
      have e : szP (s &&& left) - szP (s &&& (left &&& r)) = szP (s &&& (left - (left &&& r))) := by omega
      rw [e] at st
      have p1 : potP (s :: K) left = HH (szP (s &&& left)) + potP K left := rfl
      have p2 : potP (s :: K) (left - (left &&& r)) = HH (szP (s &&& (left - (left &&& r)))) + potP K (left - (left &&& r)) := rfl
      rw [p1, p2, List.map_cons, List.sum_cons, Nat.mul_add, Nat.mul_add, Nat.mul_add]
      have q : c * (HH (szP (s &&& left)) - HH (szP (s &&& (left - (left &&& r))))) = c * HH (szP (s &&& left)) - c * HH (szP (s &&& (left - (left &&& r)))) := Nat.mul_sub _ _ _
      have q2 : c * HH (szP (s &&& (left - (left &&& r)))) ≤ c * HH (szP (s &&& left)) := Nat.mul_le_mul_left _ st.2
      rw [q] at st
      omega
  have tot := each B sub
  have un := sz_union (left &&& r) B fun t ht e => by
    rw [Nat.testBit_and, Bool.and_eq_true] at e
    have tm : t < m := Classical.byContradiction fun z => by
      rw [Nat.testBit_lt_two_pow (Nat.lt_of_lt_of_le hl (Nat.pow_le_pow_right (by decide) (by omega)))] at e
      cases e.1
    exact cov t tm
  have sc : szP (left &&& r) = c := by rw [Nat.and_comm]; exact hc
  rw [sc] at un
  have c0 : 0 < c := by omega
  have fin : c * (potP B (left - (left &&& r)) + 60) ≤ c * potP B left := by
    rw [Nat.mul_add, Nat.mul_comm c 60]
    have := Nat.mul_le_mul_left 60 un
    omega
  exact Nat.le_of_mul_le_mul_left fin c0
theorem minus_lt {a b m : Nat} (h : a < 2 ^ m) : a - (a &&& b) < 2 ^ m := by omega
theorem gr_len {m : Nat} {l B : List Nat} (hm : m ≤ 6) (lt : ∀ r ∈ l, r < 2 ^ m) (sub : ∀ s ∈ B, s ∈ l) (cov : ∀ t, t < m → ∃ s ∈ B, s.testBit t = true) : ∀ (n left : Nat) (acc res : List Nat), left < 2 ^ m → grP l n left acc = some res → 60 * (res.length - acc.length) ≤ potP B left ∧ acc.length ≤ res.length
  | 0, left, acc, res, _, e => by
    cases e
    exact ⟨by simp, Nat.le_refl _⟩
  | n + 1, left, acc, res, hl, e => by
    rw [grP] at e
    split at e
    · cases e
      exact ⟨by simp, Nat.le_refl _⟩
    · split at e
      · cases e
      · rename_i nz
        have i := gr_len hm lt sub cov n _ _ res (minus_lt hl) e
        have p := pot_step hm hl lt sub cov nz
        rw [List.length_append, List.length_singleton] at i
        omega
theorem pot_top {B l : List Nat} {m left k : Nat} (hm : m ≤ 6) (hl : left < 2 ^ m) (sub : ∀ s ∈ B, s ∈ l) (hk : ∀ r ∈ l, szP r ≤ k) (k6 : k ≤ 6) : potP B left ≤ B.length * HH k := by
  unfold potP
  induction B with
  | nil => simp
  | cons s B i =>
    have i := i fun x hx => sub x (by simp [hx])
    have le : szP (s &&& left) ≤ szP s := by
      unfold szP thP
      have : ∀ k : List Nat, (k.filter fun t => (s &&& left).testBit t).length ≤ (k.filter fun t => s.testBit t).length := by
        intro k
        induction k with
        | nil => simp
        | cons t k i =>
          simp only [List.filter_cons, Nat.testBit_and]
          cases s.testBit t <;> cases left.testBit t <;> simp at i ⊢ <;> omega
      exact this _
    have hs := hk s (sub s (by simp))
    have := HH_mono (szP (s &&& left)) (by omega) k (by omega) (by omega)
    rw [List.map_cons, List.sum_cons, List.length_cons, Nat.succ_mul]
    omega
/-- all things are hit just if it comes to an end -/
theorem gr_none {l : List Nat} : ∀ (n left : Nat) (acc : List Nat), left < 2 ^ 7 → grP l n left acc = none → ∃ t, t < 7 ∧ left.testBit t = true ∧ ∀ r ∈ l, r.testBit t = false
  | 0, _, _, _, e => by cases e
  | n + 1, left, acc, hl, e => by
    rw [grP] at e
    split at e
    · cases e
    · split at e
      · rename_i nz z
        obtain ⟨t, ht⟩ := Nat.exists_testBit_of_ne_zero nz
        have t7 : t < 7 := Classical.byContradiction fun q => by
          rw [Nat.testBit_lt_two_pow (Nat.lt_of_lt_of_le hl (Nat.pow_le_pow_right (by decide) (by omega)))] at ht
          cases ht
        refine ⟨t, t7, ht, fun r hr => ?_⟩
        have g := top_ge (left := left) hr
        rw [z] at g
        unfold szP at g
        have g := List.length_eq_zero_iff.mp (Nat.le_zero.mp g)
        have : t ∉ thP (r &&& left) := by rw [g]; simp
        rw [mem_thP, Nat.testBit_and, ht, Bool.and_true] at this
        exact Bool.eq_false_iff.mpr fun q => this ⟨t7, q⟩
      · obtain ⟨t, t7, h1, h2⟩ := gr_none n _ _ (minus_lt hl) e
        rw [minus_bit, Bool.and_eq_true] at h1
        exact ⟨t, t7, h1.1, h2⟩
end Pv.K54
namespace Pv.K54
open PySem PySem.Spec PyProof.Rows L2
open Pv.Sh Pv.Fb Pv.Fc
open Pv.Sw (kN lD tD thP small in_nats mem_thP setI_self sum_nats map_kN Lay lay_int lay_list lay_tup lay_lD lay_tD eq_nil ne_nil emp_nats emp_map sho_name sho_nat told_sho one_sho sho_tD fam_sho endS endP told_is told_thr seq_thr rng_big r1_big call3_to ifE_to)
open Pv.Ev
local macro_rules | `(tactic| and_intros) => `(tactic| first
  | ((with_reducible apply var_at); exact rfl)
  | ((with_reducible apply peek_own); exact rfl)
  | ((with_reducible apply peek_val); exact rfl)
  | with_reducible exact neg1_at
  | ((with_reducible apply srtSet_to) <;> and_intros)
  | with_reducible exact int_nat _
  | with_reducible exact glob_nat _ _
  | with_reducible exact str_is _
  | with_reducible exact bl_is _
  | with_reducible exact non_is
  | with_reducible exact int_is _
  | with_reducible exact glob_is _ _
  | with_reducible exact tup_0
  | with_reducible exact lst_0
  | ((with_reducible apply bin_to) <;> and_intros)
  | ((with_reducible apply cmp_to) <;> and_intros)
  | ((with_reducible apply ix_to) <;> and_intros)
  | ((with_reducible apply b1_to) <;> and_intros)
  | ((with_reducible apply call1_to) <;> and_intros)
  | ((with_reducible apply call2_to) <;> and_intros)
  | ((with_reducible apply call3_to) <;> and_intros)
  | ((with_reducible apply lcIf_ev) <;> and_intros)
  | ((with_reducible apply lc_ev) <;> and_intros)
  | ((with_reducible apply not_to) <;> and_intros)
  | ((with_reducible apply and_more) <;> and_intros)
  | ((with_reducible apply and_one) <;> and_intros)
  | ((with_reducible apply or_more) <;> and_intros)
  | ((with_reducible apply or_one) <;> and_intros)
  | ((with_reducible apply chain_to) <;> and_intros)
  | ((with_reducible apply un_to) <;> and_intros)
  | ((with_reducible apply b2_to) <;> and_intros)
  | ((with_reducible apply tup_es) <;> and_intros)
  | ((with_reducible apply lst_es) <;> and_intros)
  | ((with_reducible apply es_cons) <;> and_intros)
  | with_reducible exact es_nil
  | ((with_reducible apply told_ev) <;> and_intros)
  | ((with_reducible apply r1_to) <;> and_intros)
  | ((with_reducible apply r2_to) <;> and_intros)
  | ((with_reducible apply seq_to2) <;> and_intros)
  | ((with_reducible apply en_to) <;> and_intros)
  | ((with_reducible apply turn_yes); (first | exact rfl | skip); and_intros)
  | ((with_reducible apply turn_ok); (first | exact rfl | skip); and_intros; and_intros)
  | ((with_reducible apply run_of) <;> and_intros)
  | ((with_reducible apply seq_ret) <;> and_intros)
  | ((with_reducible apply seq_set) <;> and_intros)
  | ((with_reducible apply seq_setC) <;> and_intros)
  | ((with_reducible apply seq_setF) <;> and_intros)
  | ((with_reducible apply seq_expr) <;> and_intros)
  | ((with_reducible apply seq_new0) <;> and_intros)
  | with_reducible exact items_l _ _
  | with_reducible exact items_t _ _
  | with_reducible exact sq_l _ _
  | with_reducible exact sq_t _ _
  | with_reducible exact o_add _ _
  | with_reducible exact o_and _ _
  | with_reducible exact o_or _ _
  | with_reducible exact o_xor _ _
  | with_reducible exact o_shr _ _
  | ((with_reducible apply o_shl1); omega)
  | ((with_reducible apply o_mod); (first | omega | decide))
  | ((with_reducible apply o_div) <;> (first | omega | decide))
  | ((with_reducible apply o_sub); omega)
  | with_reducible exact o_inv _
  | with_reducible exact o_neg _
  | with_reducible exact c_eq _ _
  | with_reducible exact c_ne _ _
  | with_reducible exact c_lt _ _
  | with_reducible exact c_le _ _
  | with_reducible exact c_gt _ _
  | with_reducible exact c_ge _ _
  | with_reducible exact c_in _ _
  | with_reducible exact c_inT _ _
  | with_reducible exact c_nin _ _
  | with_reducible exact c_ninT _ _
  | with_reducible exact b_lenL _ _
  | with_reducible exact b_lenT _ _
  | with_reducible exact b_len2 _ _
  | ((with_reducible apply sl_hi) <;> and_intros)
  | ((with_reducible apply sl_lo) <;> and_intros)
  | with_reducible exact s_takeL _ _ _
  | with_reducible exact s_takeT _ _ _
  | with_reducible exact s_dropL _ _ _
  | with_reducible exact s_dropT _ _ _
  | ((with_reducible apply zip_to) <;> and_intros)
  | with_reducible exact z_l _ _ _ _
  | with_reducible exact z_t _ _ _ _
  | with_reducible exact b_tup _
  | with_reducible exact b_lst _
  | with_reducible exact b_intB _
  | with_reducible exact b_intN _
  | with_reducible exact b_all _ _
  | with_reducible exact b_any _ _
  | with_reducible exact b_sum _ _
  | with_reducible exact b_max2 _ _
  | with_reducible exact b_min2 _ _
  | with_reducible exact pair_0 _ _
  | with_reducible exact pair_1 _ _
  | infer_instance
  | (intro _; and_intros)
  | omega
  | skip)
local macro_rules | `(tactic| infer_instance) => `(tactic| with_reducible exact known_things_eq _)
local macro_rules | `(tactic| infer_instance) => `(tactic| with_reducible exact known_size_eq _)
local macro_rules | `(tactic| infer_instance) => `(tactic| with_reducible exact things_eq _)
local macro_rules | `(tactic| infer_instance) => `(tactic| with_reducible exact size_eq _)
/-! the chosen sets -/
def encC (x : List Nat) : D := .tuple [kN x.length, tD x]
theorem enc_key (x : List Nat) : encC x = keyI (x.map fun n : Nat => (n : Int)) := by
  unfold encC keyI
  rw [tupI_nats, List.length_map]
theorem sort_enc {F : List (List Nat)} (ne : F ≠ []) (h : F.length ≤ 100000) : sortedD (.list (F.map encC)) = pure (.list ((F.mergeSort chLe).map encC)) := by
  have z := sorted_tups (l := F) (h := fun x : List Nat => [.int ((x.map fun n : Nat => (n : Int)).length : Nat), tupI (x.map fun n : Nat => (n : Int))]) (le := chLe) ne
    (fun a _ b _ => by
      generalize (a.map fun n : Nat => (n : Int)) = u
      generalize (b.map fun n : Nat => (n : Int)) = v
      simp [tupI, PySem.W.alike, PySem.W.alikeAll, PySem.W.alike_ints]) (fun a _ => by simp) (fun a _ => Nat.le_trans (depth_keyI _) (by decide)) (fun a _ => by
      show (keyI _).canLay0 = true
      rw [← enc_key]
      exact (lay_tup (n := 1) fun d hd => by
        rcases List.mem_cons.mp hd with rfl | hd
        · exact lay_int 1 _
        · rw [List.mem_singleton.mp hd]
          exact lay_tD a : Lay 2 (encC a)).lay) (by rw [sizeLine_eq]; omega) (fun a _ b _ => rfl)
  have e : (fun x : List Nat => PyData.tuple [.int ((x.map fun n : Nat => (n : Int)).length : Nat), tupI (x.map fun n : Nat => (n : Int))]) = encC := funext fun x => (enc_key x).symm
  rw [e] at z
  exact z
theorem pick_map {d : D} {m : Nat} {l : List Nat} {s1 : Slot} {mask : Nat} {s3 s4 s5 s6 : Slot} : (E.lcIf [("at", 4), ("row", 5)] (.en (.ix (.var 0) (.int 1))) (.tup [4, 5]) (.cmp .eq (.bin .and (.bin .shr (.var 2) (.var 4)) (.int 1)) (.int 1)) (.var 5)).den [.val (fam m l), s1, .val (kN mask), s3, s4, s5, s6] = pure (lD (pickP l mask)) := by
  apply Eq.trans
  · and_intros
  · simp only [bit_and]
    unfold pickP
    rw [lD_map]
theorem pick_map6 {m : Nat} {l : List Nat} {s1 : Slot} {mask : Nat} {s3 s4 s5 : Slot} : (E.lcIf [("at", 4), ("row", 5)] (.en (.ix (.var 0) (.int 1))) (.tup [4, 5]) (.cmp .eq (.bin .and (.bin .shr (.var 2) (.var 4)) (.int 1)) (.int 1)) (.var 5)).den [.val (fam m l), s1, .val (kN mask), s3, s4, s5] = pure (lD (pickP l mask)) := by
  apply Eq.trans
  · and_intros
  · simp only [bit_and]
    unfold pickP
    rw [lD_map]
theorem pick_len (l : List Nat) (mask : Nat) : (pickP l mask).length ≤ l.length := by
  unfold pickP
  rw [List.length_map]
  exact Nat.le_trans (List.length_filter_le _ _) (by simp)
theorem chosen_eq {m : Nat} {l : List Nat} (hl : l.length ≤ 14) : f_chosen_rows [.d (fam m l)] = pure (.list ((chs l).map tD)) := by
  have p : 2 ^ l.length ≤ 2 ^ 14 := Nat.pow_le_pow_right (by decide) hl
  have p14 : 2 ^ 14 = 16384 := by decide
  have lf : (subsP l [[]]).length = 2 ^ l.length := by rw [subsP_len, List.length_singleton, Nat.one_mul]
  have ne : subsP l [[]] ≠ [] := fun z => by
    rw [z, List.length_nil] at lf
    have := Nat.two_pow_pos l.length
    omega
  simp only [f_chosen_rows, runB_eq, n_chosen_rows, b_chosen_rows, den_Sts_cons, den_Sts_nil]
  refine run_of (seq_to (ρ1 := [.val (fam m l), .own (([] : List Nat).map fun k => encC (pickP l k)), .none, .none, .none, .none, .none]) rfl ?_)
  refine for_seq kN (fun pre ρ => ∃ s2 s3 s4 s5, ρ = [.val (fam m l), .own (pre.map fun k => encC (pickP l k)), s2, s3, s4, s5, .none]) (List.range (2 ^ l.length)) (r1_to (bin_to (x := kN 1) (y := kN l.length) rfl (b1_to (d := tD l) (ix_to (x := fam m l) (y := kN 1) rfl rfl (pair_1 _ _)) (b_lenT l kN)) (o_shl1 (by omega))) (by omega)) ⟨_, _, _, _, rfl⟩ ?_ ?_
  · rintro pre a suf ρ hp ⟨s2, s3, s4, s5, rfl⟩
    obtain ⟨_, lt⟩ := rng_pos hp
    refine ⟨_, [.val (fam m l), .own ((pre ++ [a]).map fun k => encC (pickP l k)), .val (kN a), .val (tD (pickP l a)), s4, s5, .none], rfl, ?_, _, _, _, _, rfl⟩
    refine seq_to (ρ1 := [.val (fam m l), .own (pre.map fun k => encC (pickP l k)), .val (kN a), .val (tD (pickP l a)), s4, s5, .none]) (set_to (b1_to (d := lD (pickP l a)) (pick_map (d := .none)) rfl)) (seq_to (app_to (d := encC (pickP l a)) rfl (tup_es (es_cons (b1_to (d := tD (pickP l a)) rfl (b_lenT _ kN)) (es_cons rfl es_nil))) (by rw [List.length_map, sizeLine_eq]; omega)) ?_)
    rw [List.map_append]
    rfl
  · rintro ρ ⟨s2, s3, s4, s5, rfl⟩
    refine seq_ret (lc_ev (l := chs l) (h := encC) (g := tD) (seq_to2 (d := .list ((chs l).map encC)) (b1_to (d := .list ((subsP l [[]]).map encC)) ?_ (sort_enc ne (by rw [lf]; omega))) rfl) fun x hx => turn_yes rfl rfl)
    rw [← masks l.length l rfl, List.map_map]
    rfl
def inB (l x : List Nat) : Bool := x.all fun r => l.contains r
theorem in_sub {l x : List Nat} (h : x.Sublist l) : inB l x = true := List.all_eq_true.mpr fun r hr => List.contains_iff_mem.mpr (h.subset hr)
theorem full_eq (m : Nat) (l : List Nat) (hm : m ≤ 7) : f_full_of [.d (fam m l)] = pure (kN (2 ^ m - 1)) := by
  have p0 : 0 < 2 ^ m := Nat.two_pow_pos m
  simp only [f_full_of, runB_eq, n_full_of, b_full_of, den_Sts_cons, den_Sts_nil]
  exact run_of (seq_ret (bin_to (x := kN (2 ^ m)) (y := kN 1) (bin_to (x := kN 1) (y := kN m) rfl (ix_to (x := fam m l) (y := kN 0) rfl rfl (pair_0 _ _)) (o_shl1 (by omega))) rfl (o_sub (by omega))))
/-- or, and along a row -/
theorem fold_loop {mb : MS} {i : Nat} (f : Nat → Nat → Nat) (ρ0 : Nat → Slot → Env) (st : ∀ z r s, mb ((ρ0 z s).set i (.val (kN r))) = pure (.nx (ρ0 (f z r) (.val (kN r))))) : ∀ (x : List Nat) (z : Nat) (s : Slot), ∃ t, forN (T.nm i).den mb (x.map kN) (ρ0 z s) = pure (.nx (ρ0 (x.foldl f z) t))
  | [], z, s => ⟨s, rfl⟩
  | r :: x, z, s => by
    obtain ⟨t, e⟩ := fold_loop f ρ0 st x (f z r) (.val (kN r))
    refine ⟨t, ?_⟩
    rw [List.map_cons]
    show mb ((ρ0 z s).set i (.val (kN r))) >>= _ = _
    rw [st, pure_bnd, again_nx]
    exact e
theorem cover_eq {m : Nat} {l x : List Nat} (g : Good m l) (h : x.Sublist l) : f_is_cover [.d (fam m l), .d (tD x)] = pure (.bool (unionP x == 2 ^ m - 1)) := by
  simp only [f_is_cover, runB_eq, n_is_cover, b_is_cover, den_Sts_cons, den_Sts_nil]
  obtain ⟨t, e⟩ := fold_loop (mb := (Sts.cons (.set 3 (.bin .or (.var 3) (.var 2))) .nil).den) (i := 2) (fun a b => a ||| b) (fun z s => [.val (fam m l), .val (tD x), s, .val (kN z)]) (fun z r s => seq_to (set_to (bin_to (x := kN z) (y := kN r) rfl rfl (o_or z r))) rfl) x 0 .none
  refine run_of (seq_to (expr_to (call1_to rfl (check_family_ok g))) ?_)
  apply seq_guard
  · and_intros
  · rw [show (x.all fun a => l.contains a) = inB l x from rfl, in_sub h]
    rfl
  exact seq_to (ρ1 := [.val (fam m l), .val (tD x), .none, .val (kN 0)]) rfl (seq_to (for_to (seq_to2 (d := tD x) rfl rfl) e) (seq_ret (cmp_to (x := kN (unionP x)) (y := kN (2 ^ m - 1)) rfl (call1_to rfl (full_eq m l g.few)) (c_eq _ _))))
theorem all_mem {α : Type} {p q : α → Bool} : ∀ {l : List α}, (∀ a ∈ l, p a = q a) → l.all p = l.all q
  | [], _ => rfl
  | a :: l, h => by rw [List.all_cons, List.all_cons, h a (by simp), all_mem fun b hb => h b (by simp [hb])]
theorem find_some_any {α : Type} {p : α → Bool} {l : List α} {a : α} (e : l.find? p = some a) : l.any p = true := List.any_eq_true.mpr ⟨a, List.mem_of_find?_eq_some e, List.find?_some e⟩
theorem find_none_any {α : Type} {p : α → Bool} {l : List α} (e : l.find? p = none) : l.any p = false := List.any_eq_false.mpr (List.find?_eq_none.mp e)
def apartP (x : List Nat) : Bool := (List.range x.length).all fun k => (List.range k).all fun j => (x.getD k 0 &&& x.getD j 0) == 0
theorem apart_zip (x : List Nat) : ((x.zipIdx.flatMap fun p => (x.take p.2).map fun o => (p.1 &&& o) == 0).all fun b => b) = apartP x := by
  rw [List.all_flatMap]
  unfold apartP
  rw [show x.zipIdx = (List.range x.length).map fun k => (x.getD k 0, k) from by
    refine List.ext_getElem (by simp) fun i h1 h2 => ?_
    rw [List.getElem_zipIdx, List.getElem_map, List.getElem_range]
    rw [List.length_zipIdx] at h1
    rw [List.getD_eq_getElem?_getD, List.getElem?_eq_getElem h1]
    simp, List.all_map]
  refine all_mem fun k hk => ?_
  have hk := List.mem_range.mp hk
  show ((x.take k).map fun o => (x.getD k 0 &&& o) == 0).all (fun b => b) = _
  rw [List.all_map, show x.take k = (List.range k).map fun j => x.getD j 0 from by
    refine List.ext_getElem (by rw [List.length_take, List.length_map, List.length_range]; omega) fun i h1 h2 => ?_
    rw [List.length_map, List.length_range] at h2
    rw [List.getElem_take, List.getElem_map, List.getElem_range, List.getD_eq_getElem?_getD, List.getElem?_eq_getElem (by omega)]
    rfl, List.all_map]
  rfl
theorem are_apart_eq {m : Nat} {l x : List Nat} (g : Good m l) (h : x.Sublist l) (hl : x.length ≤ 100) : f_are_apart [.d (fam m l), .d (tD x)] = pure (.bool (apartP x)) := by
  simp only [f_are_apart, runB_eq, n_are_apart, b_are_apart, den_Sts_cons, den_Sts_nil]
  refine run_of (seq_to (expr_to (call1_to rfl (check_family_ok g))) ?_)
  apply seq_guard
  · and_intros
  · rw [show (x.all fun a => l.contains a) = inB l x from rfl, in_sub h]
    rfl
  have few : (x.zipIdx.flatMap fun p => (x.take p.2).map fun o => PyData.bool ((p.1 &&& o) == 0)).length ≤ 100000 := by
    rw [List.length_flatMap]
    have : ∀ (k : List (Nat × Nat)), (k.map fun p => ((x.take p.2).map fun o => PyData.bool ((p.1 &&& o) == 0)).length).sum ≤ k.length * x.length := by
      intro k
      induction k with
      | nil => simp
      | cons p k i =>
        rw [List.map_cons, List.sum_cons, List.length_cons, Nat.succ_mul, List.length_map, List.length_take]
        omega
    refine Nat.le_trans (this _) ?_
    rw [List.length_zipIdx]
    exact Nat.le_trans (Nat.mul_le_mul hl hl) (by decide)
  refine seq_ret (b1_to (d := .list (x.zipIdx.flatMap fun p => (x.take p.2).map fun o => PyData.bool ((p.1 &&& o) == 0))) (lc2_ev (l := x.zipIdx) (h := fun p => PyData.tuple [kN p.2, kN p.1]) (g := fun p => (x.take p.2).map fun o => PyData.bool ((p.1 &&& o) == 0)) (en_to (d := tD x) rfl rfl) (fun p hp => ?_) few) ?_)
  · have z := turn2_ok (k := x.take p.2) (h := kN) (g := fun o => PyData.bool ((p.1 &&& o) == 0)) (p := fun _ => true) (b := true) (tm := (T.tup [3, 4]).den) (mt := Oe.no.denC) (mi1 := (It.seq (.sl (.var 1) .no (.yes (.var 3)))).den) (tm1 := (T.nm 5).den) (mt1 := Oe.no.denC) (me := (E.cmp .eq (.bin .and (.var 4) (.var 5)) (.int 0)).den) (own1 := [("other", 5)].map (·.2)) (ρ := wipeE [.val (fam m l), .val (tD x), .none, .none, .none, .none] ([("at", 3), ("one", 4), ("other", 5)].map (·.2))) (d := .tuple [kN p.2, kN p.1]) (ρ' := [.val (fam m l), .val (tD x), .none, .val (kN p.2), .val (kN p.1), .none]) rfl rfl (fun _ => seq_to2 (d := tD (x.take p.2)) (sl_hi (d := tD x) (k := p.2) rfl rfl (s_takeT x kN p.2)) rfl) fun _ o ho => turn_ok (b := true) rfl rfl fun _ => cmp_to (x := kN (p.1 &&& o)) (y := kN 0) (bin_to (x := kN p.1) (y := kN o) rfl rfl (o_and _ _)) rfl (c_eq _ _)
    rw [if_pos rfl, List.filter_eq_self.mpr fun _ _ => rfl] at z
    exact z
  · have e : (x.zipIdx.flatMap fun p => (x.take p.2).map fun o => PyData.bool ((p.1 &&& o) == 0)) = (x.zipIdx.flatMap fun p => (x.take p.2).map fun o => (p.1 &&& o) == 0).map PyData.bool := by
      rw [List.map_flatMap]
      congr 1
      funext p
      rw [List.map_map]
      rfl
    rw [e, ← apart_zip]
    exact b_all _ fun b => b
theorem law_apart_eq {x : List Nat} (hl : x.length ≤ 100) : f__law_apart [.d (tD x)] = pure (.bool (apartP x)) := by
  simp only [f__law_apart, runB_eq, n__law_apart, b__law_apart, den_Sts_cons, den_Sts_nil]
  obtain ⟨ρ', e, t1, rfl⟩ := for_findT (t := (T.nm 1).den) (mb := (Sts.cons (.ite (.cmp .gt (.b1 .len (.lcIf [("j", 2)] (.r1 (.var 1)) (.nm 2) (.cmp .ne (.bin .and (.ix (.var 0) (.var 2)) (.ix (.var 0) (.var 1))) (.int 0)) (.var 2))) (.int 0)) (.cons (.ret (.bl false)) .nil) .nil) .nil).den) kN (fun k => decide (0 < ((List.range k).filter fun j => (x.getD j 0 &&& x.getD k 0) != 0).length)) (fun _ => .bool false) (fun ρ => ∃ t1, ρ = [.val (tD x), t1, .none]) (List.range x.length) [.val (tD x), .none, .none] ⟨_, rfl⟩ (by
    rintro k hk ρ ⟨t1, rfl⟩
    have hk := List.mem_range.mp hk
    have at_ : ∀ i, i < x.length → x[i]? = some (x.getD i 0) := fun i hi => by
      rw [List.getD_eq_getElem?_getD, List.getElem?_eq_getElem hi]
      rfl
    refine ⟨_, [.val (tD x), .val (kN k), .none], rfl, ?_, _, rfl⟩
    have c : (E.cmp .gt (.b1 .len (.lcIf [("j", 2)] (.r1 (.var 1)) (.nm 2) (.cmp .ne (.bin .and (.ix (.var 0) (.var 2)) (.ix (.var 0) (.var 1))) (.int 0)) (.var 2))) (.int 0)).den [.val (tD x), .val (kN k), .none] = pure (.bool (decide (0 < ((List.range k).filter fun j => (x.getD j 0 &&& x.getD k 0) != 0).length))) := by
      refine cmp_to (x := kN ((List.range k).filter fun j => (x.getD j 0 &&& x.getD k 0) != 0).length) (y := kN 0) (b1_to (d := lD ((List.range k).filter fun j => (x.getD j 0 &&& x.getD k 0) != 0)) (lcIf_ev (l := List.range k) (h := kN) (g := kN) (r1_to (n := k) rfl (by omega)) fun j hj => turn_ok rfl (cmp_to (x := kN (x.getD j 0 &&& x.getD k 0)) (y := kN 0) (bin_to (x := kN (x.getD j 0)) (y := kN (x.getD k 0)) (ix_to (x := tD x) (y := kN j) rfl rfl (ixT kN (at_ j (by have := List.mem_range.mp hj; omega)))) (ix_to (x := tD x) (y := kN k) rfl rfl (ixT kN (at_ k hk))) (o_and _ _)) rfl (c_ne _ _)) fun _ => rfl) (b_lenL _ kN)) rfl (c_gt _ _)
    generalize decide (0 < ((List.range k).filter fun j => (x.getD j 0 &&& x.getD k 0) != 0).length) = b at c
    cases b with
    | true => exact seq_rt (ite_to c rfl)
    | false => exact seq_to (ite_to c rfl) rfl)
  have it : (It.r1 (.b1 .len (.var 0))).den [.val (tD x), .none, .none] = pure ((List.range x.length).map kN) := r1_to (b1_to (d := tD x) rfl (b_lenT x kN)) (by omega)
  have fin : apartP x = !(List.range x.length).any (fun k => decide (0 < ((List.range k).filter fun j => (x.getD j 0 &&& x.getD k 0) != 0).length)) := by
    unfold apartP
    rw [Bool.eq_iff_iff, Bool.not_eq_true', List.any_eq_false, List.all_eq_true]
    refine forall_congr' fun k => forall_congr' fun _ => ?_
    rw [List.all_eq_true, decide_eq_true_eq, Nat.not_lt, Nat.le_zero, List.length_eq_zero_iff, List.filter_eq_nil_iff]
    refine forall_congr' fun j => forall_congr' fun _ => ?_
    rw [bne_iff_ne, Decidable.not_not, beq_iff_eq, Nat.and_comm]
  cases f : (List.range x.length).find? (fun k => decide (0 < ((List.range k).filter fun j => (x.getD j 0 &&& x.getD k 0) != 0).length)) with
  | some a =>
    rw [f] at e
    rw [fin, find_some_any f]
    exact run_of (seq_rt (for_to it e))
  | none =>
    rw [f] at e
    rw [fin, find_none_any f]
    exact run_of (seq_to (for_to it e) (seq_ret rfl))
end Pv.K54
namespace Pv.K54
open PySem PySem.Spec PyProof.Rows L2
open Pv.Sh Pv.Fb Pv.Fc
open Pv.Sw (kN lD tD thP small in_nats mem_thP setI_self sum_nats map_kN Lay lay_int lay_list lay_tup lay_lD lay_tD eq_nil ne_nil emp_nats emp_map sho_name sho_nat told_sho one_sho sho_tD fam_sho endS endP told_is told_thr seq_thr rng_big r1_big call3_to ifE_to)
open Pv.Ev
local macro_rules | `(tactic| and_intros) => `(tactic| first
  | ((with_reducible apply var_at); exact rfl)
  | ((with_reducible apply peek_own); exact rfl)
  | ((with_reducible apply peek_val); exact rfl)
  | with_reducible exact neg1_at
  | ((with_reducible apply srtSet_to) <;> and_intros)
  | with_reducible exact int_nat _
  | with_reducible exact glob_nat _ _
  | with_reducible exact str_is _
  | with_reducible exact bl_is _
  | with_reducible exact non_is
  | with_reducible exact int_is _
  | with_reducible exact glob_is _ _
  | with_reducible exact tup_0
  | with_reducible exact lst_0
  | ((with_reducible apply bin_to) <;> and_intros)
  | ((with_reducible apply cmp_to) <;> and_intros)
  | ((with_reducible apply ix_to) <;> and_intros)
  | ((with_reducible apply b1_to) <;> and_intros)
  | ((with_reducible apply call1_to) <;> and_intros)
  | ((with_reducible apply call2_to) <;> and_intros)
  | ((with_reducible apply call3_to) <;> and_intros)
  | ((with_reducible apply lcIf_ev) <;> and_intros)
  | ((with_reducible apply lc_ev) <;> and_intros)
  | ((with_reducible apply not_to) <;> and_intros)
  | ((with_reducible apply and_more) <;> and_intros)
  | ((with_reducible apply and_one) <;> and_intros)
  | ((with_reducible apply or_more) <;> and_intros)
  | ((with_reducible apply or_one) <;> and_intros)
  | ((with_reducible apply chain_to) <;> and_intros)
  | ((with_reducible apply un_to) <;> and_intros)
  | ((with_reducible apply b2_to) <;> and_intros)
  | ((with_reducible apply tup_es) <;> and_intros)
  | ((with_reducible apply lst_es) <;> and_intros)
  | ((with_reducible apply es_cons) <;> and_intros)
  | with_reducible exact es_nil
  | ((with_reducible apply told_ev) <;> and_intros)
  | ((with_reducible apply r1_to) <;> and_intros)
  | ((with_reducible apply r2_to) <;> and_intros)
  | ((with_reducible apply seq_to2) <;> and_intros)
  | ((with_reducible apply en_to) <;> and_intros)
  | ((with_reducible apply turn_yes); (first | exact rfl | skip); and_intros)
  | ((with_reducible apply turn_ok); (first | exact rfl | skip); and_intros; and_intros)
  | ((with_reducible apply run_of) <;> and_intros)
  | ((with_reducible apply seq_ret) <;> and_intros)
  | ((with_reducible apply seq_set) <;> and_intros)
  | ((with_reducible apply seq_setC) <;> and_intros)
  | ((with_reducible apply seq_setF) <;> and_intros)
  | ((with_reducible apply seq_expr) <;> and_intros)
  | ((with_reducible apply seq_new0) <;> and_intros)
  | with_reducible exact items_l _ _
  | with_reducible exact items_t _ _
  | with_reducible exact sq_l _ _
  | with_reducible exact sq_t _ _
  | with_reducible exact o_add _ _
  | with_reducible exact o_and _ _
  | with_reducible exact o_or _ _
  | with_reducible exact o_xor _ _
  | with_reducible exact o_shr _ _
  | ((with_reducible apply o_shl1); omega)
  | ((with_reducible apply o_mod); (first | omega | decide))
  | ((with_reducible apply o_div) <;> (first | omega | decide))
  | ((with_reducible apply o_sub); omega)
  | with_reducible exact o_inv _
  | with_reducible exact o_neg _
  | with_reducible exact c_eq _ _
  | with_reducible exact c_ne _ _
  | with_reducible exact c_lt _ _
  | with_reducible exact c_le _ _
  | with_reducible exact c_gt _ _
  | with_reducible exact c_ge _ _
  | with_reducible exact c_in _ _
  | with_reducible exact c_inT _ _
  | with_reducible exact c_nin _ _
  | with_reducible exact c_ninT _ _
  | with_reducible exact b_lenL _ _
  | with_reducible exact b_lenT _ _
  | with_reducible exact b_len2 _ _
  | ((with_reducible apply sl_hi) <;> and_intros)
  | ((with_reducible apply sl_lo) <;> and_intros)
  | with_reducible exact s_takeL _ _ _
  | with_reducible exact s_takeT _ _ _
  | with_reducible exact s_dropL _ _ _
  | with_reducible exact s_dropT _ _ _
  | ((with_reducible apply zip_to) <;> and_intros)
  | with_reducible exact z_l _ _ _ _
  | with_reducible exact z_t _ _ _ _
  | with_reducible exact b_tup _
  | with_reducible exact b_lst _
  | with_reducible exact b_intB _
  | with_reducible exact b_intN _
  | with_reducible exact b_all _ _
  | with_reducible exact b_any _ _
  | with_reducible exact b_sum _ _
  | with_reducible exact b_max2 _ _
  | with_reducible exact b_min2 _ _
  | with_reducible exact pair_0 _ _
  | with_reducible exact pair_1 _ _
  | infer_instance
  | (intro _; and_intros)
  | omega
  | skip)
local macro_rules | `(tactic| infer_instance) => `(tactic| with_reducible exact known_things_eq _)
local macro_rules | `(tactic| infer_instance) => `(tactic| with_reducible exact known_size_eq _)
local macro_rules | `(tactic| infer_instance) => `(tactic| with_reducible exact things_eq _)
local macro_rules | `(tactic| infer_instance) => `(tactic| with_reducible exact size_eq _)
/-! covers, packings -/
theorem b1_thr {b : B1} {a : E} {k : Exn} {ρ : Env} (h : a.den ρ = thr k) : (E.b1 b a).den ρ = thr k := by
  rw [den_E_b1, ap_v1, h]
  rfl
theorem set_thr {i : Nat} {a : E} {k : Exn} {ρ : Env} (h : a.den ρ = thr k) : (St.set i a).den ρ = thr k := by
  rw [den_St_set, ap_sSet, h]
  rfl
theorem check_few_ok {m : Nat} {l : List Nat} (g : Good m l) (hl : l.length ≤ 14) : f_check_few [.d (fam m l)] = pure .none := by
  simp only [f_check_few, runB_eq, n_check_few, b_check_few, den_Sts_cons, den_Sts_nil]
  apply run_nx
  apply seq_expr
  · exact call1_to rfl (check_family_ok g)
  · apply seq_guard
    · and_intros
    · rw [decide_eq_false (by omega)]
    · rfl
theorem few_large {m : Nat} {l : List Nat} (g : Good m l) (hl : 14 < l.length) : f_check_few [.d (fam m l)] = thr .tl := by
  simp only [f_check_few, runB_eq, n_check_few, b_check_few, den_Sts_cons, den_Sts_nil]
  refine run_thr ?_
  apply seq_expr
  · exact call1_to rfl (check_family_ok g)
  · apply seq_raise
    · and_intros
    · rw [decide_eq_true hl]
def resF : Option (List Nat) → M D
  | some x => pure (tD x)
  | none => thr .mi
def isCov (m : Nat) (x : List Nat) : Bool := unionP x == 2 ^ m - 1
def fewP (m : Nat) (l : List Nat) : Option (List Nat) := (chs l).find? (isCov m)
theorem first_loop {m : Nat} {l : List Nat} {c : E} (p : List Nat → Bool) (hc : ∀ x, x.Sublist l → c.den [.val (fam m l), .val (tD x)] = pure (.bool (p x))) : ∃ t, forN (T.nm 1).den (Sts.cons (.ite c (.cons (.ret (.var 1)) .nil) .nil) .nil).den ((chs l).map tD) [.val (fam m l), .none] = pure (endF tD [.val (fam m l), t] ((chs l).find? p)) := by
  obtain ⟨ρ', e, t, rfl⟩ := for_findT (t := (T.nm 1).den) (mb := (Sts.cons (.ite c (.cons (.ret (.var 1)) .nil) .nil) .nil).den) tD p tD (fun ρ => ∃ t, ρ = [.val (fam m l), t]) (chs l) [.val (fam m l), .none] ⟨_, rfl⟩ (by
    rintro x hx ρ ⟨t, rfl⟩
    refine ⟨_, [.val (fam m l), .val (tD x)], rfl, ?_, _, rfl⟩
    have h := hc x (mem_chs.mp hx)
    cases q : p x with
    | true => exact seq_rt (ite_to (h.trans (by rw [q])) rfl)
    | false => exact seq_to (ite_to (h.trans (by rw [q])) rfl) rfl)
  exact ⟨t, e⟩
theorem fewest_eq {m : Nat} {l : List Nat} (g : Good m l) (hl : l.length ≤ 14) : f_fewest_cover [.d (fam m l)] = resF (fewP m l) := by
  simp only [f_fewest_cover, runB_eq, n_fewest_cover, b_fewest_cover, den_Sts_cons, den_Sts_nil]
  obtain ⟨t, e⟩ := first_loop (m := m) (l := l) (c := .call "is_cover" f_is_cover (.cons (.var 0) (.cons (.var 1) .nil))) (isCov m) fun x hx => call2_to rfl rfl (cover_eq g hx)
  have it : (It.seq (.call "chosen_rows" f_chosen_rows (.cons (.var 0) .nil))).den [.val (fam m l), .none] = pure ((chs l).map tD) := seq_to2 (call1_to rfl (chosen_eq hl)) rfl
  have c0 : (St.expr (.call "check_few" f_check_few (.cons (.var 0) .nil))).den [.val (fam m l), .none] = pure (.nx [.val (fam m l), .none]) := expr_to (call1_to rfl (check_few_ok g hl))
  unfold fewP
  cases f : (chs l).find? (isCov m) with
  | some x =>
    rw [f] at e
    exact run_of (seq_to c0 (seq_rt (for_to it e)))
  | none =>
    rw [f] at e
    exact run_thr (seq_to c0 (seq_to (for_to it e) rfl))
theorem count_eq {m : Nat} {l : List Nat} (g : Good m l) (hl : l.length ≤ 14) : f_cover_count [.d (fam m l)] = (match fewP m l with
    | some b => pure (kN ((chs l).filter fun x => (x.length == b.length) && isCov m x).length)
    | none => thr .mi) := by
  simp only [f_cover_count, runB_eq, n_cover_count, b_cover_count, den_Sts_cons, den_Sts_nil]
  have z := fewest_eq g hl
  cases f : fewP m l with
  | some b =>
    rw [f] at z
    refine run_of (seq_to (set_to (d := kN b.length) (b1_to (d := tD b) (call1_to rfl z) (b_lenT _ kN))) (seq_ret (b1_to (d := .list (((chs l).filter fun x => (x.length == b.length) && isCov m x).map tD)) (lcIf_ev (l := chs l) (h := tD) (g := tD) (p := fun x => (x.length == b.length) && isCov m x) (seq_to2 (call1_to rfl (chosen_eq hl)) rfl) fun x hx => turn_ok rfl (and_more (cmp_to (x := kN x.length) (y := kN b.length) (b1_to (d := tD x) rfl (b_lenT x kN)) rfl (c_eq _ _)) fun _ => and_one (call2_to rfl rfl (cover_eq g (mem_chs.mp hx)))) fun _ => rfl) (b_lenL _ tD))))
  | none =>
    rw [f] at z
    exact run_thr (seq_thr (set_thr (b1_thr (call1_to rfl z))))
def isPack (x : List Nat) : Bool := !x.contains 0 && apartP x
def packP (l : List Nat) : List (List Nat) := (chs l).filter isPack
def mostN (l : List Nat) : Nat := ((packP l).map fun x => x.length).foldl max 0
def mostP (l : List Nat) : List Nat := ((packP l).filter fun x => x.length == mostN l).headD []
theorem pack_nil (l : List Nat) : [] ∈ packP l := List.mem_filter.mpr ⟨mem_chs.mpr (List.nil_sublist l), rfl⟩
theorem most_is (l : List Nat) : (∃ x ∈ packP l, x.length = mostN l) ∧ ∀ x ∈ packP l, x.length ≤ mostN l := by
  obtain ⟨h1, h2, h3⟩ := fold_max ((packP l).map fun x => x.length) 0
  refine ⟨?_, fun x hx => h2 _ (List.mem_map.mpr ⟨x, hx, rfl⟩)⟩
  rcases h3 with z | z
  · exact ⟨[], pack_nil l, z.symm⟩
  · obtain ⟨x, hx, e⟩ := List.mem_map.mp z
    exact ⟨x, hx, e⟩
theorem most_head (l : List Nat) : ((packP l).filter fun x => x.length == mostN l)[0]? = some (mostP l) := by
  obtain ⟨x, hx, e⟩ := (most_is l).1
  have : x ∈ (packP l).filter fun x => x.length == mostN l := List.mem_filter.mpr ⟨hx, beq_iff_eq.mpr e⟩
  obtain ⟨a, k, ek⟩ := List.exists_cons_of_ne_nil (List.ne_nil_of_mem this)
  unfold mostP
  rw [ek]
  rfl
/-- the most of them: two comprehensions -/
theorem most_to {i k : Nat} {ρ : Env} {l : List Nat} {o : List (Str × Nat)} (hi : ρ.getD i .none = .val (.list ((packP l).map tD))) (hv : ∀ d : D, ((wipeE ρ (o.map (·.2))).set k (.val d)).getD k .none = .val d) : (E.b1 .max (.lc o (.seq (.var i)) (.nm k) (.b1 .len (.var k)))).den ρ = pure (kN (mostN l)) := by
  have z : (E.lc o (.seq (.var i)) (.nm k) (.b1 .len (.var k))).den ρ = pure (.list ((packP l).map fun x => kN x.length)) := by
    refine lc_ev (l := packP l) (h := tD) (g := fun x => kN x.length) (seq_to2 (d := .list ((packP l).map tD)) (var_at hi) rfl) fun x _ => ?_
    exact turn_yes (ρ' := (wipeE ρ (o.map (·.2))).set k (.val (tD x))) rfl (b1_to (d := tD x) (var_at (hv (tD x))) (b_lenT x kN))
  exact b1_to z (b_maxN (most_is l).1 (most_is l).2)
theorem most2_to {i j k : Nat} {ρ : Env} {l : List Nat} {o : List (Str × Nat)} (hi : ρ.getD i .none = .val (.list ((packP l).map tD))) (hv : ∀ d : D, ((wipeE ρ (o.map (·.2))).set k (.val d)).getD k .none = .val d) (hj : ∀ d : D, ((wipeE ρ (o.map (·.2))).set k (.val d)).getD j .none = .val (kN (mostN l))) : (E.ix (.lcIf o (.seq (.var i)) (.nm k) (.cmp .eq (.b1 .len (.var k)) (.var j)) (.var k)) (.int 0)).den ρ = pure (tD (mostP l)) :=
  ix_to (x := .list (((packP l).filter fun x => x.length == mostN l).map tD)) (y := kN 0) (lcIf_ev (l := packP l) (h := tD) (g := tD) (p := fun x => x.length == mostN l) (seq_to2 (var_at hi) rfl) fun x _ => turn_ok rfl (cmp_to (x := kN x.length) (y := kN (mostN l)) (b1_to (d := tD x) (var_at (hv _)) (b_lenT x kN)) (var_at (hj _)) (c_eq _ _)) fun _ => var_at (hv _)) rfl (ixL tD (most_head l))
theorem sub_len {l x : List Nat} (h : x ∈ chs l) : x.length ≤ l.length := (mem_chs.mp h).length_le
theorem most_apart_eq {m : Nat} {l : List Nat} (g : Good m l) (hl : l.length ≤ 14) : f_most_apart [.d (fam m l)] = pure (tD (mostP l)) := by
  simp only [f_most_apart, runB_eq, n_most_apart, b_most_apart, den_Sts_cons, den_Sts_nil]
  refine run_of (seq_to (expr_to (call1_to rfl (check_few_ok g hl))) (seq_to (ρ1 := [.val (fam m l), .val (.list ((packP l).map tD)), .none, .none]) (setC_to (lcIf_ev (l := chs l) (h := tD) (g := tD) (p := isPack) (seq_to2 (call1_to rfl (chosen_eq hl)) rfl) fun x hx => turn_ok rfl (and_more (cmp_to (x := kN 0) (y := tD x) rfl rfl (c_ninT 0 x)) fun _ => and_one (call2_to rfl rfl (are_apart_eq g (mem_chs.mp hx) (by have := sub_len hx; omega)))) fun _ => rfl)) (seq_to (ρ1 := [.val (fam m l), .val (.list ((packP l).map tD)), .none, .val (kN (mostN l))]) (set_to (most_to rfl fun _ => rfl)) (seq_ret (most2_to rfl (fun _ => rfl) fun _ => rfl)))))
def isPart (m : Nat) (x : List Nat) : Bool := !x.contains 0 && (isCov m x && apartP x)
theorem parted_eq {m : Nat} {l : List Nat} (g : Good m l) (hl : l.length ≤ 14) : f_parted [.d (fam m l)] = resF ((chs l).find? (isPart m)) := by
  simp only [f_parted, runB_eq, n_parted, b_parted, den_Sts_cons, den_Sts_nil]
  obtain ⟨t, e⟩ := first_loop (m := m) (l := l) (c := .ands (.cons (.cmp .notIn (.int 0) (.var 1)) (.cons (.call "is_cover" f_is_cover (.cons (.var 0) (.cons (.var 1) .nil))) (.cons (.call "are_apart" f_are_apart (.cons (.var 0) (.cons (.var 1) .nil))) .nil)))) (isPart m) fun x hx => and_more (cmp_to (x := kN 0) (y := tD x) rfl rfl (c_ninT 0 x)) fun _ => and_more (call2_to rfl rfl (cover_eq g hx)) fun _ => and_one (call2_to rfl rfl (are_apart_eq g hx (by have := hx.length_le; omega)))
  have it : (It.seq (.call "chosen_rows" f_chosen_rows (.cons (.var 0) .nil))).den [.val (fam m l), .none] = pure ((chs l).map tD) := seq_to2 (call1_to rfl (chosen_eq hl)) rfl
  have c0 : (St.expr (.call "check_few" f_check_few (.cons (.var 0) .nil))).den [.val (fam m l), .none] = pure (.nx [.val (fam m l), .none]) := expr_to (call1_to rfl (check_few_ok g hl))
  cases f : (chs l).find? (isPart m) with
  | some x =>
    rw [f] at e
    exact run_of (seq_to c0 (seq_rt (for_to it e)))
  | none =>
    rw [f] at e
    exact run_thr (seq_to c0 (seq_to (for_to it e) rfl))
/-! the deepest -/
def depP (l : List Nat) (t : Nat) : Nat := (l.filter fun r => r.testBit t).length
def depsP (m : Nat) (l : List Nat) : List Nat := (List.range m).map (depP l)
def depN (m : Nat) (l : List Nat) : Nat := (depsP m l).foldl max 0
theorem dep_is {m : Nat} {l : List Nat} (h : 1 ≤ m) : depN m l ∈ depsP m l ∧ ∀ a ∈ depsP m l, a ≤ depN m l := by
  obtain ⟨h1, h2, h3⟩ := fold_max (depsP m l) 0
  refine ⟨?_, h2⟩
  rcases h3 with z | z
  · have : depP l 0 ∈ depsP m l := List.mem_map.mpr ⟨0, List.mem_range.mpr (by omega), rfl⟩
    have q := h2 _ this
    rw [z] at q
    have : depN m l = depP l 0 := by
      show (depsP m l).foldl max 0 = _
      omega
    rw [this]
    assumption
  · exact z
theorem deepest_eq {m : Nat} {l : List Nat} (g : Good m l) : f_deepest [.d (fam m l)] = pure (.tuple [kN (depN m l), kN ((depsP m l).idxOf (depN m l))]) := by
  obtain ⟨d1, d2⟩ := dep_is (l := l) g.one
  have lt := List.idxOf_lt_length_iff.mpr d1
  have at1 : (depsP m l)[(depsP m l).idxOf (depN m l)] = depN m l := List.getElem_idxOf lt
  have first : ∀ j, j < (depsP m l).idxOf (depN m l) → ∀ hj : j < (depsP m l).length, (depsP m l)[j] ≠ depN m l := fun j hj hl => by
    have := List.not_of_lt_findIdx (p := (· == depN m l)) (xs := depsP m l) (i := j) hj
    simpa using this
  generalize hk : (depsP m l).idxOf (depN m l) = k at lt at1 first
  have lm : (depsP m l).length = m := by simp [depsP]
  have atj : ∀ j (hj : j < (depsP m l).length), (depsP m l)[j] = depP l j := fun j hj => by simp [depsP]
  rw [atj] at at1
  obtain ⟨m', rfl⟩ : ∃ m', m = m' + 1 := ⟨m - 1, by have := g.one; omega⟩
  simp only [f_deepest, runB_eq, n_deepest, b_deepest, den_Sts_cons, den_Sts_nil]
  refine run_of (seq_to (expr_to (call1_to rfl (check_family_ok g))) (seq_to (ρ1 := [.val (fam (m' + 1) l), .val (.list ((List.range (m' + 1)).map fun t => .tuple [.int (-((depP l t : Nat) : Int)), .int (t : Nat)])), .none, .none, .none]) (setC_to (lc_ev (l := List.range (m' + 1)) (h := kN) (r1_to (n := m' + 1) (ix_to (x := fam (m' + 1) l) (y := kN 0) rfl rfl (pair_0 _ _)) (by have := g.few; omega)) fun t ht => turn_yes rfl (tup_es (es_cons (un_to (x := kN (depP l t)) (b1_to (d := lD (l.filter fun r => r.testBit t)) ?_ (b_lenL _ kN)) rfl) (es_cons rfl es_nil))))) (seq_to (ρ1 := [.val (fam (m' + 1) l), .val (.list ((List.range (m' + 1)).map fun t => .tuple [.int (-((depP l t : Nat) : Int)), .int (t : Nat)])), .none, .none, .val (.tuple [.int (-((depP l k : Nat) : Int)), .int (k : Nat)])]) (set_to (b1_to rfl ?_)) (seq_ret (tup_es (es_cons (un_to (x := .int (-((depP l k : Nat) : Int))) (ix_to (x := .tuple [.int (-((depP l k : Nat) : Int)), .int (k : Nat)]) (y := kN 0) rfl rfl (pair_0 _ _)) (by rw [at1]; show pure (PyData.int (-(-_))) = pure _; rw [Int.neg_neg])) (es_cons (ix_to (x := .tuple [.int (-((depP l k : Nat) : Int)), .int (k : Nat)]) (y := kN 1) rfl rfl (pair_1 _ _)) es_nil)))))))
  · apply Eq.trans
    · and_intros
    · simp only [bit_and]
  · rw [show B1.min.sem = minD from rfl]
    have dl : ∀ t, PySem.W.dataLt (.tuple [.int (-((depP l k : Nat) : Int)), .int (k : Nat)]) (.tuple [.int (-((depP l t : Nat) : Int)), .int (t : Nat)]) = decide (-((depP l k : Nat) : Int) < -((depP l t : Nat) : Int) ∨ (-((depP l k : Nat) : Int) = -((depP l t : Nat) : Int) ∧ (k : Int) < (t : Int))) := fun t => PySem.W.dataLt_ii _ _ _ _
    have dl2 : ∀ t, PySem.W.dataLt (.tuple [.int (-((depP l t : Nat) : Int)), .int (t : Nat)]) (.tuple [.int (-((depP l k : Nat) : Int)), .int (k : Nat)]) = decide (-((depP l t : Nat) : Int) < -((depP l k : Nat) : Int) ∨ (-((depP l t : Nat) : Int) = -((depP l k : Nat) : Int) ∧ (t : Int) < (k : Int))) := fun t => PySem.W.dataLt_ii _ _ _ _
    have le : ∀ t, t < m' + 1 → depP l t ≤ depP l k ∧ (depP l t = depP l k → k ≤ t) := fun t ht => by
      refine ⟨?_, fun e => ?_⟩
      · rw [at1]
        exact d2 _ (List.mem_map.mpr ⟨t, List.mem_range.mpr ht, rfl⟩)
      · apply Classical.byContradiction
        intro z
        have := first t (by omega) (by omega)
        rw [atj, e, at1] at this
        exact this rfl
    have km : k ∈ 0 :: (List.range m').map Nat.succ := by
      rw [← List.range_succ_eq_map]
      exact List.mem_range.mpr (by omega)
    rw [List.range_succ_eq_map]
    refine min_tups (h := fun t : Nat => [.int (-((depP l t : Nat) : Int)), .int (t : Nat)]) km (fun _ _ _ _ => alike_ii _ _ _ _) (fun _ _ => by simp [PyData.depth, PyData.depthAll]) (fun _ _ => by simp [PyData.canLay0, PyData.canLayAll0]) (fun b hb ne => ?_) (fun b hb => ?_)
    · rw [← List.range_succ_eq_map] at hb
      have := le b (List.mem_range.mp hb)
      rw [dl, decide_eq_true_eq]
      by_cases c : depP l b = depP l k
      · have := this.2 c
        omega
      · omega
    · rw [← List.range_succ_eq_map] at hb
      have := le b (List.mem_range.mp hb)
      rw [dl2, decide_eq_false_iff_not]
      rintro (z | ⟨z, w⟩)
      · omega
      · have := this.2 (by omega)
        omega
end Pv.K54
namespace Pv.K54
open PySem PySem.Spec PyProof.Rows L2
open Pv.Sh Pv.Fb Pv.Fc
open Pv.Sw (kN lD tD thP small in_nats mem_thP setI_self sum_nats map_kN Lay lay_int lay_list lay_tup lay_lD lay_tD eq_nil ne_nil emp_nats emp_map sho_name sho_nat told_sho one_sho sho_tD fam_sho endS endP told_is told_thr seq_thr rng_big r1_big call3_to ifE_to)
open Pv.Ev
local macro_rules | `(tactic| and_intros) => `(tactic| first
  | ((with_reducible apply var_at); exact rfl)
  | ((with_reducible apply peek_own); exact rfl)
  | ((with_reducible apply peek_val); exact rfl)
  | with_reducible exact neg1_at
  | ((with_reducible apply srtSet_to) <;> and_intros)
  | with_reducible exact int_nat _
  | with_reducible exact glob_nat _ _
  | with_reducible exact str_is _
  | with_reducible exact bl_is _
  | with_reducible exact non_is
  | with_reducible exact int_is _
  | with_reducible exact glob_is _ _
  | with_reducible exact tup_0
  | with_reducible exact lst_0
  | ((with_reducible apply bin_to) <;> and_intros)
  | ((with_reducible apply cmp_to) <;> and_intros)
  | ((with_reducible apply ix_to) <;> and_intros)
  | ((with_reducible apply b1_to) <;> and_intros)
  | ((with_reducible apply call1_to) <;> and_intros)
  | ((with_reducible apply call2_to) <;> and_intros)
  | ((with_reducible apply call3_to) <;> and_intros)
  | ((with_reducible apply lcIf_ev) <;> and_intros)
  | ((with_reducible apply lc_ev) <;> and_intros)
  | ((with_reducible apply not_to) <;> and_intros)
  | ((with_reducible apply and_more) <;> and_intros)
  | ((with_reducible apply and_one) <;> and_intros)
  | ((with_reducible apply or_more) <;> and_intros)
  | ((with_reducible apply or_one) <;> and_intros)
  | ((with_reducible apply chain_to) <;> and_intros)
  | ((with_reducible apply un_to) <;> and_intros)
  | ((with_reducible apply b2_to) <;> and_intros)
  | ((with_reducible apply tup_es) <;> and_intros)
  | ((with_reducible apply lst_es) <;> and_intros)
  | ((with_reducible apply es_cons) <;> and_intros)
  | with_reducible exact es_nil
  | ((with_reducible apply told_ev) <;> and_intros)
  | ((with_reducible apply r1_to) <;> and_intros)
  | ((with_reducible apply r2_to) <;> and_intros)
  | ((with_reducible apply seq_to2) <;> and_intros)
  | ((with_reducible apply en_to) <;> and_intros)
  | ((with_reducible apply turn_yes); (first | exact rfl | skip); and_intros)
  | ((with_reducible apply turn_ok); (first | exact rfl | skip); and_intros; and_intros)
  | ((with_reducible apply run_of) <;> and_intros)
  | ((with_reducible apply seq_ret) <;> and_intros)
  | ((with_reducible apply seq_set) <;> and_intros)
  | ((with_reducible apply seq_setC) <;> and_intros)
  | ((with_reducible apply seq_setF) <;> and_intros)
  | ((with_reducible apply seq_expr) <;> and_intros)
  | ((with_reducible apply seq_new0) <;> and_intros)
  | with_reducible exact items_l _ _
  | with_reducible exact items_t _ _
  | with_reducible exact sq_l _ _
  | with_reducible exact sq_t _ _
  | with_reducible exact o_add _ _
  | with_reducible exact o_and _ _
  | with_reducible exact o_or _ _
  | with_reducible exact o_xor _ _
  | with_reducible exact o_shr _ _
  | ((with_reducible apply o_shl1); omega)
  | ((with_reducible apply o_mod); (first | omega | decide))
  | ((with_reducible apply o_div) <;> (first | omega | decide))
  | ((with_reducible apply o_sub); omega)
  | with_reducible exact o_inv _
  | with_reducible exact o_neg _
  | with_reducible exact c_eq _ _
  | with_reducible exact c_ne _ _
  | with_reducible exact c_lt _ _
  | with_reducible exact c_le _ _
  | with_reducible exact c_gt _ _
  | with_reducible exact c_ge _ _
  | with_reducible exact c_in _ _
  | with_reducible exact c_inT _ _
  | with_reducible exact c_nin _ _
  | with_reducible exact c_ninT _ _
  | with_reducible exact b_lenL _ _
  | with_reducible exact b_lenT _ _
  | with_reducible exact b_len2 _ _
  | ((with_reducible apply sl_hi) <;> and_intros)
  | ((with_reducible apply sl_lo) <;> and_intros)
  | with_reducible exact s_takeL _ _ _
  | with_reducible exact s_takeT _ _ _
  | with_reducible exact s_dropL _ _ _
  | with_reducible exact s_dropT _ _ _
  | ((with_reducible apply zip_to) <;> and_intros)
  | with_reducible exact z_l _ _ _ _
  | with_reducible exact z_t _ _ _ _
  | with_reducible exact b_tup _
  | with_reducible exact b_lst _
  | with_reducible exact b_intB _
  | with_reducible exact b_intN _
  | with_reducible exact b_all _ _
  | with_reducible exact b_any _ _
  | with_reducible exact b_sum _ _
  | with_reducible exact b_max2 _ _
  | with_reducible exact b_min2 _ _
  | with_reducible exact pair_0 _ _
  | with_reducible exact pair_1 _ _
  | infer_instance
  | (intro _; and_intros)
  | omega
  | skip)
local macro_rules | `(tactic| infer_instance) => `(tactic| with_reducible exact known_things_eq _)
local macro_rules | `(tactic| infer_instance) => `(tactic| with_reducible exact known_size_eq _)
local macro_rules | `(tactic| infer_instance) => `(tactic| with_reducible exact things_eq _)
local macro_rules | `(tactic| infer_instance) => `(tactic| with_reducible exact size_eq _)
/-! unions, common parts -/
theorem law_union_eq {d : D} {x : List Nat} (hd : itemsD d = pure (x.map kN)) : f__law_union [.d d] = pure (kN (unionP x)) := by
  simp only [f__law_union, runB_eq, n__law_union, b__law_union, den_Sts_cons, den_Sts_nil]
  obtain ⟨t, e⟩ := fold_loop (mb := (Sts.cons (.set 1 (.bin .or (.var 1) (.var 2))) .nil).den) (i := 2) (fun a b => a ||| b) (fun z s => [.val d, .val (kN z), s]) (fun z r s => seq_to (set_to (bin_to (x := kN z) (y := kN r) rfl rfl (o_or z r))) rfl) x 0 .none
  exact run_of (seq_to (ρ1 := [.val d, .val (kN 0), .none]) rfl (seq_to (for_to (seq_to2 (d := d) rfl hd) e) (seq_ret rfl)))
theorem law_common_eq {d : D} {x : List Nat} (hd : itemsD d = pure (x.map kN)) : f__law_common [.d d] = pure (kN (commonP x)) := by
  simp only [f__law_common, runB_eq, n__law_common, b__law_common, den_Sts_cons, den_Sts_nil]
  obtain ⟨t, e⟩ := fold_loop (mb := (Sts.cons (.set 1 (.bin .and (.var 1) (.var 2))) .nil).den) (i := 2) (fun a b => a &&& b) (fun z s => [.val d, .val (kN z), s]) (fun z r s => seq_to (set_to (bin_to (x := kN z) (y := kN r) rfl rfl (o_and z r))) rfl) x 127 .none
  exact run_of (seq_to (ρ1 := [.val d, .val (kN 127), .none]) rfl (seq_to (for_to (seq_to2 (d := d) rfl hd) e) (seq_ret rfl)))
theorem common_eq {d : D} {x : List Nat} (hd : itemsD d = pure (x.map kN)) : f_common_of [.d d] = pure (kN (commonP x)) := by
  simp only [f_common_of, runB_eq, n_common_of, b_common_of, den_Sts_cons, den_Sts_nil]
  obtain ⟨t, e⟩ := fold_loop (mb := (Sts.cons (.set 1 (.bin .and (.var 1) (.var 2))) .nil).den) (i := 2) (fun a b => a &&& b) (fun z s => [.val d, .val (kN z), s]) (fun z r s => seq_to (set_to (bin_to (x := kN z) (y := kN r) rfl rfl (o_and z r))) rfl) x 127 .none
  exact run_of (seq_to (ρ1 := [.val d, .val (kN 127), .none]) (set_to (bin_to (x := kN 128) (y := kN 1) (bin_to (x := kN 1) (y := kN 7) rfl rfl (o_shl1 (by decide))) rfl (o_sub (by decide)))) (seq_to (for_to (seq_to2 (d := d) rfl hd) e) (seq_ret rfl)))
/-! the least that all meet -/
theorem best_snoc (L : List (List Nat)) (x : List Nat) (b : Nat) : bestC (L ++ [x]) b = if critP x = true then max (bestC L b) x.length else bestC L b := by
  unfold bestC
  rw [List.foldl_append]
  rfl
theorem crit_split (x : List Nat) : critP x = ((commonP x == 0) && ((List.range x.length).all fun k => commonP (x.take k ++ x.drop (k + 1)) != 0)) := rfl
def lamB : Sts := (.cons (.setF 3 (.lcIf [("at", 4), ("row", 5)] (.en (.ix (.var 0) (.int 1))) (.tup [4, 5]) (.cmp .eq (.bin .and (.bin .shr (.var 2) (.var 4)) (.int 1)) (.int 1)) (.var 5)))
 (.cons (.ite (.cmp .eq (.call "common_of" f_common_of (.cons (.var 3) .nil)) (.int 0))
 (.cons (.ite (.b1 .all (.lc [("at", 4)] (.r1 (.b1 .len (.var 3))) (.nm 4) (.cmp .ne (.call "common_of" f_common_of (.cons (.bin .add (.sl (.var 3) .no (.yes (.var 4))) (.sl (.var 3) (.yes (.bin .add (.var 4) (.int 1))) .no)) .nil)) (.int 0))))
 (.cons (.set 1 (.b2 .max (.var 1) (.b1 .len (.var 3))))
 .nil)
 .nil)
 .nil)
 .nil)
 .nil))
theorem lam_step {m : Nat} {l : List Nat} (hl : l.length ≤ 100) (b a : Nat) (s3 s4 s5 : Slot) : lamB.den [.val (fam m l), .val (kN b), .val (kN a), s3, s4, s5] = pure (.nx [.val (fam m l), .val (kN (if critP (pickP l a) = true then max b (pickP l a).length else b)), .val (kN a), .val (lD (pickP l a)), s4, s5]) := by
  have pl := pick_len l a
  simp only [lamB, den_Sts_cons, den_Sts_nil]
  refine seq_to (setF_to pick_map6) ?_
  generalize pickP l a = x at *
  have c1 : (E.cmp .eq (.call "common_of" f_common_of (.cons (.var 3) .nil)) (.int 0)).den [.val (fam m l), .val (kN b), .val (kN a), .val (lD x), s4, s5] = pure (.bool (commonP x == 0)) := cmp_to (x := kN (commonP x)) (y := kN 0) (call1_to (u := lD x) rfl (common_eq rfl)) rfl (c_eq _ _)
  have c2 : (E.b1 .all (.lc [("at", 4)] (.r1 (.b1 .len (.var 3))) (.nm 4) (.cmp .ne (.call "common_of" f_common_of (.cons (.bin .add (.sl (.var 3) .no (.yes (.var 4))) (.sl (.var 3) (.yes (.bin .add (.var 4) (.int 1))) .no)) .nil)) (.int 0)))).den [.val (fam m l), .val (kN b), .val (kN a), .val (lD x), s4, s5] = pure (.bool ((List.range x.length).all fun k => commonP (x.take k ++ x.drop (k + 1)) != 0)) := by
    refine b1_to (lc_ev (l := List.range x.length) (h := kN) (g := fun k => .bool (commonP (x.take k ++ x.drop (k + 1)) != 0)) (r1_to (b1_to (d := lD x) rfl (b_lenL x kN)) (by omega)) fun k hk => turn_yes rfl (cmp_to (x := kN (commonP (x.take k ++ x.drop (k + 1)))) (y := kN 0) (call1_to (u := lD (x.take k ++ x.drop (k + 1))) (bin_to (x := lD (x.take k)) (y := lD (x.drop (k + 1))) (sl_hi (d := lD x) (k := k) rfl rfl (s_takeL x kN k)) (sl_lo (d := lD x) (k := k + 1) rfl (bin_to (x := kN k) (y := kN 1) rfl rfl (o_add k 1)) (s_dropL x kN (k + 1))) (addL kN _ _ (by rw [List.length_take, List.length_drop]; omega))) (common_eq rfl)) rfl (c_ne _ _))) (b_all _ _)
  rw [crit_split]
  cases q1 : (commonP x == 0)
  · rw [q1] at c1
    exact seq_to (ite_to c1 rfl) rfl
  · rw [q1] at c1
    rw [Bool.true_and]
    refine seq_to (ite_to c1 ?_) rfl
    rw [if_pos rfl]
    cases q2 : ((List.range x.length).all fun k => commonP (x.take k ++ x.drop (k + 1)) != 0)
    · rw [q2] at c2
      exact seq_to (ite_to c2 rfl) rfl
    · rw [q2] at c2
      exact seq_to (ite_to c2 (seq_to (set_to (b2_to (x := kN b) (y := kN x.length) rfl (b1_to (d := lD x) rfl (b_lenL x kN)) (b_max2 _ _))) rfl)) rfl
def hellyP (l : List Nat) : Nat := bestC (chs l) 1
theorem meet_eq {m : Nat} {l : List Nat} (g : Good m l) (h2 : 2 ≤ l.length) (h10 : l.length ≤ 10) : f_least_all_meet [.d (fam m l)] = pure (kN (hellyP l)) := by
  have p : 2 ^ l.length ≤ 2 ^ 10 := Nat.pow_le_pow_right (by decide) h10
  have p0 : 0 < 2 ^ l.length := Nat.two_pow_pos _
  simp only [f_least_all_meet, runB_eq, n_least_all_meet, b_least_all_meet, den_Sts_cons, den_Sts_nil]
  refine run_of (seq_to (expr_to (call1_to rfl (check_family_ok g))) ?_)
  apply seq_guard
  · and_intros
  · rw [decide_eq_true h2, decide_eq_true h10]
    rfl
  refine seq_to (ρ1 := [.val (fam m l), .val (kN 1), .none, .none, .none, .none]) rfl ?_
  refine for_seq kN (fun pre ρ => ∃ s2 s3, ρ = [.val (fam m l), .val (kN (bestC (pre.map (pickP l)) 1)), s2, s3, .none, .none]) (List.range' 1 (2 ^ l.length - 1)) (r2_to (m := 1) (n := 2 ^ l.length) rfl (bin_to (x := kN 1) (y := kN l.length) rfl (b1_to (d := tD l) (ix_to (x := fam m l) (y := kN 1) rfl rfl (pair_1 _ _)) (b_lenT l kN)) (o_shl1 (by omega))) (by omega) (by decide)) ⟨_, _, rfl⟩ ?_ ?_
  · rintro pre a suf ρ hp ⟨s2, s3, rfl⟩
    refine ⟨_, [.val (fam m l), .val (kN (bestC ((pre ++ [a]).map (pickP l)) 1)), .val (kN a), .val (lD (pickP l a)), .none, .none], rfl, ?_, _, _, rfl⟩
    rw [List.map_append, show [a].map (pickP l) = [pickP l a] from rfl, best_snoc]
    exact lam_step (by omega) _ a s3 .none .none
  · rintro ρ ⟨s2, s3, rfl⟩
    refine seq_ret ?_
    have e : bestC ((List.range' 1 (2 ^ l.length - 1)).map (pickP l)) 1 = hellyP l := by
      unfold hellyP
      rw [best_perm (chs_perm l), ← masks l.length l rfl]
      have : List.range (2 ^ l.length) = 0 :: List.range' 1 (2 ^ l.length - 1) := by
        rw [List.range_eq_range', show 2 ^ l.length = (2 ^ l.length - 1) + 1 from by omega, List.range'_succ]
        rfl
      rw [this, List.map_cons, pick_0]
      rfl
    rw [e]
    rfl
theorem law_helly_eq {m : Nat} {l : List Nat} (hl : l.length ≤ 16) : f__law_helly [.d (fam m l)] = pure (kN (hellyP l)) := by
  simp only [f__law_helly, runB_eq, n__law_helly, b__law_helly, den_Sts_cons, den_Sts_nil]
  refine run_of (seq_to (ρ1 := [.val (fam m l), .val (kN 1), .none, .none]) rfl ?_)
  refine for_seq tD (fun pre ρ => ∃ s2, ρ = [.val (fam m l), .val (kN (bestC pre 1)), s2, .none]) (chs l) (seq_to2 (call1_to (ix_to (x := fam m l) (y := kN 1) rfl rfl (pair_1 _ _)) (choices_eq hl rfl)) rfl) ⟨_, rfl⟩ ?_ ?_
  · rintro pre x suf ρ hp ⟨s2, rfl⟩
    have xl := sub_len (show x ∈ chs l from by rw [hp]; simp)
    refine ⟨_, [.val (fam m l), .val (kN (bestC (pre ++ [x]) 1)), .val (tD x), .none], rfl, ?_, _, rfl⟩
    rw [best_snoc, crit_split]
    generalize bestC pre 1 = b
    have c1 : (E.ands (.cons (.cmp .ne (.var 2) (.tup .nil)) (.cons (.cmp .eq (.call "_law_common" f__law_common (.cons (.var 2) .nil)) (.int 0)) .nil))).den [.val (fam m l), .val (kN b), .val (tD x), .none] = pure (.bool (!(x == []) && (commonP x == 0))) := by
      refine and_more (cmp_to (x := tD x) (y := tD []) rfl rfl ?_) fun _ => and_one (cmp_to (x := kN (commonP x)) (y := kN 0) (call1_to (u := tD x) rfl (law_common_eq rfl)) rfl (c_eq _ _))
      rw [show Cop.ne.sem = neD from rfl]
      unfold neD
      rw [eq_tD, pure_bnd, asB_bool, pure_bnd]
    have c2 : (E.cmp .eq (.b1 .len (.lcIf [("k", 3)] (.r1 (.b1 .len (.var 2))) (.nm 3) (.cmp .eq (.call "_law_common" f__law_common (.cons (.bin .add (.sl (.var 2) .no (.yes (.var 3))) (.sl (.var 2) (.yes (.bin .add (.var 3) (.int 1))) .no)) .nil)) (.int 0)) (.var 3))) (.int 0)).den [.val (fam m l), .val (kN b), .val (tD x), .none] = pure (.bool ((List.range x.length).all fun k => commonP (x.take k ++ x.drop (k + 1)) != 0)) := by
      refine cmp_to (x := kN ((List.range x.length).filter fun k => commonP (x.take k ++ x.drop (k + 1)) == 0).length) (y := kN 0) (b1_to (d := lD ((List.range x.length).filter fun k => commonP (x.take k ++ x.drop (k + 1)) == 0)) (lcIf_ev (l := List.range x.length) (h := kN) (g := kN) (p := fun k => commonP (x.take k ++ x.drop (k + 1)) == 0) (r1_to (b1_to (d := tD x) rfl (b_lenT x kN)) (by omega)) fun k hk => turn_ok rfl (cmp_to (x := kN (commonP (x.take k ++ x.drop (k + 1)))) (y := kN 0) (call1_to (u := tD (x.take k ++ x.drop (k + 1))) (bin_to (x := tD (x.take k)) (y := tD (x.drop (k + 1))) (sl_hi (d := tD x) (k := k) rfl rfl (s_takeT x kN k)) (sl_lo (d := tD x) (k := k + 1) rfl (bin_to (x := kN k) (y := kN 1) rfl rfl (o_add k 1)) (s_dropT x kN (k + 1))) (addT kN _ _ (by rw [List.length_take, List.length_drop]; omega))) (law_common_eq rfl)) rfl (c_eq _ _)) fun _ => rfl) (b_lenL _ kN)) rfl ((c_eq _ _).trans ?_)
      congr 2
      rw [Bool.eq_iff_iff, beq_iff_eq, List.length_eq_zero_iff, List.filter_eq_nil_iff, List.all_eq_true]
      refine forall_congr' fun k => forall_congr' fun _ => ?_
      rw [bne_iff_ne, beq_iff_eq]
    have nil : (x == []) = true → (commonP x == 0) = false := fun z => by
      rw [beq_iff_eq] at z
      rw [z]
      rfl
    cases q1 : (commonP x == 0)
    · rw [q1, Bool.and_false] at c1
      exact seq_to (ite_to c1 rfl) rfl
    · have n : (x == []) = false := by
        cases z : (x == []) with
        | false => rfl
        | true => rw [nil z] at q1; cases q1
      rw [q1, n] at c1
      rw [Bool.true_and]
      refine seq_to (ite_to c1 ?_) rfl
      show (if true = true then _ else _) = _
      rw [if_pos rfl]
      cases q2 : ((List.range x.length).all fun k => commonP (x.take k ++ x.drop (k + 1)) != 0)
      · rw [q2] at c2
        exact seq_to (ite_to c2 rfl) rfl
      · rw [q2] at c2
        exact seq_to (ite_to c2 (seq_to (set_to (b2_to (x := kN b) (y := kN x.length) rfl (b1_to (d := tD x) rfl (b_lenT x kN)) (b_max2 _ _))) rfl)) rfl
  · rintro ρ ⟨s2, rfl⟩
    exact seq_ret rfl
theorem holds_eq {m : Nat} {l : List Nat} (hl : l.length ≤ 16) : f__law_helly_holds [.d (fam m l), .d (kN (hellyP l))] = pure (.bool true) := by
  simp only [f__law_helly_holds, runB_eq, n__law_helly_holds, b__law_helly_holds, den_Sts_cons, den_Sts_nil]
  refine run_of ?_
  refine for_seq tD (fun pre ρ => ∃ s2 s3, ρ = [.val (fam m l), .val (kN (hellyP l)), s2, s3, .none]) (chs l) (seq_to2 (call1_to (ix_to (x := fam m l) (y := kN 1) rfl rfl (pair_1 _ _)) (choices_eq hl rfl)) rfl) ⟨_, _, rfl⟩ ?_ ?_
  · rintro pre x suf ρ hp ⟨s2, s3, rfl⟩
    have xm : x ∈ chs l := by rw [hp]; simp
    have xl := sub_len xm
    generalize hF : ((chs x).filter fun z => (z.length == min (hellyP l) x.length) && (commonP z == 0)) = F
    refine ⟨_, [.val (fam m l), .val (kN (hellyP l)), .val (tD x), .val (.list (F.map tD)), .none], rfl, ?_, _, _, rfl⟩
    refine seq_to (ρ1 := [.val (fam m l), .val (kN (hellyP l)), .val (tD x), .val (.list (F.map tD)), .none]) (setC_to ?_) (seq_to (ite_to (v := false) ?_ rfl) rfl)
    · rw [← hF]
      exact lcIf_ev (l := chs x) (h := tD) (g := tD) (p := fun z => (z.length == min (hellyP l) x.length) && (commonP z == 0)) (seq_to2 (call1_to (u := tD x) rfl (choices_eq (by omega) rfl)) rfl) fun z hz => turn_ok rfl (and_more (cmp_to (x := kN z.length) (y := kN (min (hellyP l) x.length)) (b1_to (d := tD z) rfl (b_lenT z kN)) (b2_to (x := kN (hellyP l)) (y := kN x.length) rfl (b1_to (d := tD x) rfl (b_lenT x kN)) (b_min2 _ _)) (c_eq _ _)) fun _ => and_one (cmp_to (x := kN (commonP z)) (y := kN 0) (call1_to (u := tD z) rfl (law_common_eq rfl)) rfl (c_eq _ _))) fun _ => rfl
    · have e : (F.isEmpty && (commonP x == 0)) = false := by
        cases q : (commonP x == 0)
        · rw [Bool.and_false]
        · obtain ⟨z, h1, h2, h3⟩ := helly (mem_chs.mp xm) (beq_iff_eq.mp q)
          have : z ∈ F := by
            rw [← hF]
            exact List.mem_filter.mpr ⟨h1, by rw [h2, h3]; simp [hellyP]⟩
          cases F with
          | nil => cases this
          | cons a r => rfl
      refine Eq.trans (and_more (u := F.isEmpty) (v := commonP x == 0) (cmp_to (x := .list (F.map tD)) (y := .list []) rfl rfl ?_) fun _ => and_one (cmp_to (x := kN (commonP x)) (y := kN 0) (call1_to (u := tD x) rfl (law_common_eq rfl)) rfl (c_eq _ _))) (by rw [e])
      rw [cop_eq, eq_nil _ ((lay_tups F).shaped (by decide)), emp_map]
  · rintro ρ ⟨s2, s3, rfl⟩
    exact seq_ret rfl
end Pv.K54
namespace Pv.K54
open PySem PySem.Spec PyProof.Rows L2
open Pv.Sh Pv.Fb Pv.Fc
open Pv.Sw (kN lD tD thP small in_nats mem_thP setI_self sum_nats map_kN Lay lay_int lay_list lay_tup lay_lD lay_tD eq_nil ne_nil emp_nats emp_map sho_name sho_nat told_sho one_sho sho_tD fam_sho endS endP told_is told_thr seq_thr rng_big r1_big call3_to ifE_to)
open Pv.Ev
local macro_rules | `(tactic| and_intros) => `(tactic| first
  | ((with_reducible apply var_at); exact rfl)
  | ((with_reducible apply peek_own); exact rfl)
  | ((with_reducible apply peek_val); exact rfl)
  | with_reducible exact neg1_at
  | ((with_reducible apply srtSet_to) <;> and_intros)
  | with_reducible exact int_nat _
  | with_reducible exact glob_nat _ _
  | with_reducible exact str_is _
  | with_reducible exact bl_is _
  | with_reducible exact non_is
  | with_reducible exact int_is _
  | with_reducible exact glob_is _ _
  | with_reducible exact tup_0
  | with_reducible exact lst_0
  | ((with_reducible apply bin_to) <;> and_intros)
  | ((with_reducible apply cmp_to) <;> and_intros)
  | ((with_reducible apply ix_to) <;> and_intros)
  | ((with_reducible apply b1_to) <;> and_intros)
  | ((with_reducible apply call1_to) <;> and_intros)
  | ((with_reducible apply call2_to) <;> and_intros)
  | ((with_reducible apply call3_to) <;> and_intros)
  | ((with_reducible apply lcIf_ev) <;> and_intros)
  | ((with_reducible apply lc_ev) <;> and_intros)
  | ((with_reducible apply not_to) <;> and_intros)
  | ((with_reducible apply and_more) <;> and_intros)
  | ((with_reducible apply and_one) <;> and_intros)
  | ((with_reducible apply or_more) <;> and_intros)
  | ((with_reducible apply or_one) <;> and_intros)
  | ((with_reducible apply chain_to) <;> and_intros)
  | ((with_reducible apply un_to) <;> and_intros)
  | ((with_reducible apply b2_to) <;> and_intros)
  | ((with_reducible apply tup_es) <;> and_intros)
  | ((with_reducible apply lst_es) <;> and_intros)
  | ((with_reducible apply es_cons) <;> and_intros)
  | with_reducible exact es_nil
  | ((with_reducible apply told_ev) <;> and_intros)
  | ((with_reducible apply r1_to) <;> and_intros)
  | ((with_reducible apply r2_to) <;> and_intros)
  | ((with_reducible apply seq_to2) <;> and_intros)
  | ((with_reducible apply en_to) <;> and_intros)
  | ((with_reducible apply turn_yes); (first | exact rfl | skip); and_intros)
  | ((with_reducible apply turn_ok); (first | exact rfl | skip); and_intros; and_intros)
  | ((with_reducible apply run_of) <;> and_intros)
  | ((with_reducible apply seq_ret) <;> and_intros)
  | ((with_reducible apply seq_set) <;> and_intros)
  | ((with_reducible apply seq_setC) <;> and_intros)
  | ((with_reducible apply seq_setF) <;> and_intros)
  | ((with_reducible apply seq_expr) <;> and_intros)
  | ((with_reducible apply seq_new0) <;> and_intros)
  | with_reducible exact items_l _ _
  | with_reducible exact items_t _ _
  | with_reducible exact sq_l _ _
  | with_reducible exact sq_t _ _
  | with_reducible exact o_add _ _
  | with_reducible exact o_and _ _
  | with_reducible exact o_or _ _
  | with_reducible exact o_xor _ _
  | with_reducible exact o_shr _ _
  | ((with_reducible apply o_shl1); omega)
  | ((with_reducible apply o_mod); (first | omega | decide))
  | ((with_reducible apply o_div) <;> (first | omega | decide))
  | ((with_reducible apply o_sub); omega)
  | with_reducible exact o_inv _
  | with_reducible exact o_neg _
  | with_reducible exact c_eq _ _
  | with_reducible exact c_ne _ _
  | with_reducible exact c_lt _ _
  | with_reducible exact c_le _ _
  | with_reducible exact c_gt _ _
  | with_reducible exact c_ge _ _
  | with_reducible exact c_in _ _
  | with_reducible exact c_inT _ _
  | with_reducible exact c_nin _ _
  | with_reducible exact c_ninT _ _
  | with_reducible exact b_lenL _ _
  | with_reducible exact b_lenT _ _
  | with_reducible exact b_len2 _ _
  | ((with_reducible apply sl_hi) <;> and_intros)
  | ((with_reducible apply sl_lo) <;> and_intros)
  | with_reducible exact s_takeL _ _ _
  | with_reducible exact s_takeT _ _ _
  | with_reducible exact s_dropL _ _ _
  | with_reducible exact s_dropT _ _ _
  | ((with_reducible apply zip_to) <;> and_intros)
  | with_reducible exact z_l _ _ _ _
  | with_reducible exact z_t _ _ _ _
  | with_reducible exact b_tup _
  | with_reducible exact b_lst _
  | with_reducible exact b_intB _
  | with_reducible exact b_intN _
  | with_reducible exact b_all _ _
  | with_reducible exact b_any _ _
  | with_reducible exact b_sum _ _
  | with_reducible exact b_max2 _ _
  | with_reducible exact b_min2 _ _
  | with_reducible exact pair_0 _ _
  | with_reducible exact pair_1 _ _
  | infer_instance
  | (intro _; and_intros)
  | omega
  | skip)
local macro_rules | `(tactic| infer_instance) => `(tactic| with_reducible exact known_things_eq _)
local macro_rules | `(tactic| infer_instance) => `(tactic| with_reducible exact known_size_eq _)
local macro_rules | `(tactic| infer_instance) => `(tactic| with_reducible exact things_eq _)
local macro_rules | `(tactic| infer_instance) => `(tactic| with_reducible exact size_eq _)
/-! the greedy cover -/
theorem sz_zero {x : Nat} (hx : x < 2 ^ 7) (h : szP x = 0) : x = 0 := by
  apply Classical.byContradiction
  intro n
  obtain ⟨t, ht⟩ := Nat.exists_testBit_of_ne_zero n
  have t7 : t < 7 := Classical.byContradiction fun q => by
    rw [Nat.testBit_lt_two_pow (Nat.lt_of_lt_of_le hx (Nat.pow_le_pow_right (by decide) (by omega)))] at ht
    cases ht
  unfold szP at h
  have : t ∈ thP x := mem_thP.mpr ⟨t7, ht⟩
  rw [List.length_eq_zero_iff.mp h] at this
  cases this
theorem row_all {l : List Nat} {left : Nat} (ne : l ≠ []) (up : l.Pairwise (· < ·)) : rowP l left ∈ l ∧ szP (rowP l left &&& left) = topP l left ∧ ∀ b ∈ l, szP (b &&& left) = topP l left → rowP l left ≤ b := by
  have ex : ∃ r ∈ l, szP (r &&& left) = topP l left := by
    by_cases z : topP l left = 0
    · obtain ⟨a, k, rfl⟩ := List.exists_cons_of_ne_nil ne
      refine ⟨a, by simp, ?_⟩
      have := top_ge (l := a :: k) (left := left) (r := a) (by simp)
      omega
    · obtain ⟨h1, h2⟩ := row_is z
      exact ⟨_, h1, h2⟩
  obtain ⟨r, hr, e⟩ := ex
  have : r ∈ l.filter fun r => szP (r &&& left) == topP l left := List.mem_filter.mpr ⟨hr, beq_iff_eq.mpr e⟩
  obtain ⟨a, k, ek⟩ := List.exists_cons_of_ne_nil (List.ne_nil_of_mem this)
  have ma : a ∈ l.filter fun r => szP (r &&& left) == topP l left := by rw [ek]; simp
  have ma := List.mem_filter.mp ma
  have pw := List.Pairwise.filter (fun r => szP (r &&& left) == topP l left) up
  rw [ek] at pw
  have pw := List.pairwise_cons.mp pw
  unfold rowP
  rw [ek]
  refine ⟨ma.1, beq_iff_eq.mp ma.2, fun b hb eb => ?_⟩
  have mb : b ∈ l.filter fun r => szP (r &&& left) == topP l left := List.mem_filter.mpr ⟨hb, beq_iff_eq.mpr eb⟩
  rw [ek] at mb
  show a ≤ b
  rcases List.mem_cons.mp mb with rfl | mb
  · exact Nat.le_refl _
  · exact Nat.le_of_lt (pw.1 b mb)
def frD (left r : Nat) : List D := [.int (-((szP (r &&& left) : Nat) : Int)), .int (r : Nat)]
theorem min_fresh {l : List Nat} {left : Nat} (ne : l ≠ []) (up : l.Pairwise (· < ·)) : B1.min.sem (.list (l.map fun r => .tuple (frD left r))) = pure (.tuple [.int (-((topP l left : Nat) : Int)), kN (rowP l left)]) := by
  obtain ⟨h1, h2, h3⟩ := row_all (left := left) ne up
  obtain ⟨a, k, ek⟩ := List.exists_cons_of_ne_nil ne
  rw [show B1.min.sem = minD from rfl, ← h2]
  generalize rowP l left = r at *
  have dl : ∀ b c, PySem.W.dataLt (.tuple (frD left b)) (.tuple (frD left c)) = decide (-((szP (b &&& left) : Nat) : Int) < -((szP (c &&& left) : Nat) : Int) ∨ (-((szP (b &&& left) : Nat) : Int) = -((szP (c &&& left) : Nat) : Int) ∧ (b : Int) < (c : Int))) := fun b c => PySem.W.dataLt_ii _ _ _ _
  rw [ek] at h1 ⊢
  refine min_tups (h := frD left) h1 (fun _ _ _ _ => alike_ii _ _ _ _) (fun _ _ => by simp [frD, PyData.depth, PyData.depthAll]) (fun _ _ => by simp [frD, PyData.canLay0, PyData.canLayAll0]) (fun b hb nb => ?_) (fun b hb => ?_)
  · rw [← ek] at hb
    have t := top_ge (left := left) hb
    rw [dl, decide_eq_true_eq]
    by_cases c : szP (b &&& left) = topP l left
    · have := h3 b hb c
      omega
    · omega
  · rw [← ek] at hb
    have t := top_ge (left := left) hb
    rw [dl, decide_eq_false_iff_not]
    rintro (z | ⟨z, w⟩)
    · omega
    · have := h3 b hb (by omega)
      omega
def gcC : E := .cmp .ne (.var 1) (.int 0)
def gcB : Sts := (.cons (.setC 3 (.lc [("row", 4)] (.seq (.ix (.var 0) (.int 1))) (.nm 4) (.tup (.cons (.un .neg (.call "known_size" f_known_size (.cons (.bin .and (.var 4) (.var 1)) .nil))) (.cons (.var 4) .nil)))))
 (.cons (.ite (.ors (.cons (.cmp .eq (.b1 .len (.var 3)) (.int 0)) (.cons (.cmp .eq (.ix (.b1 .min (.var 3)) (.int 0)) (.int 0)) .nil)))
 (.cons (.raise .mi "Missing")
 .nil)
 .nil)
 (.cons (.set 4 (.ix (.b1 .min (.var 3)) (.int 1)))
 (.cons (.app 2 (.var 4))
 (.cons (.set 1 (.bin .and (.var 1) (.un .inv (.var 4))))
 .nil)))))
theorem gc_step {m : Nat} {l : List Nat} (ne : l ≠ []) (up : l.Pairwise (· < ·)) (left : Nat) (acc : List Nat) (ha : acc.length ≤ 1000) (s3 s4 : Slot) :
    (topP l left = 0 → gcB.den [.val (fam m l), .val (kN left), .own (acc.map kN), s3, s4] = thr .mi) ∧
    (topP l left ≠ 0 → ∃ t3 t4, gcB.den [.val (fam m l), .val (kN left), .own (acc.map kN), s3, s4] = pure (.nx [.val (fam m l), .val (kN (left - (left &&& rowP l left))), .own ((acc ++ [rowP l left]).map kN), t3, t4])) := by
  have mf := min_fresh (left := left) ne up
  have l0 : (l.length == 0) = false := beq_eq_false_iff_ne.mpr fun z => ne (List.length_eq_zero_iff.mp z)
  have fr : (E.lc [("row", 4)] (.seq (.ix (.var 0) (.int 1))) (.nm 4) (.tup (.cons (.un .neg (.call "known_size" f_known_size (.cons (.bin .and (.var 4) (.var 1)) .nil))) (.cons (.var 4) .nil)))).den [.val (fam m l), .val (kN left), .own (acc.map kN), s3, s4] = pure (.list (l.map fun r => .tuple (frD left r))) := lc_ev (l := l) (h := kN) (g := fun r => .tuple (frD left r)) (seq_to2 (d := tD l) (ix_to (x := fam m l) (y := kN 1) rfl rfl (pair_1 _ _)) rfl) fun r hr => turn_yes rfl (tup_es (es_cons (un_to (x := kN (szP (r &&& left))) (call1_to (u := kN (r &&& left)) (bin_to (x := kN r) (y := kN left) rfl rfl (o_and _ _)) (known_size_eq _)) rfl) (es_cons rfl es_nil)))
  have cd : (E.ors (.cons (.cmp .eq (.b1 .len (.var 3)) (.int 0)) (.cons (.cmp .eq (.ix (.b1 .min (.var 3)) (.int 0)) (.int 0)) .nil))).den [.val (fam m l), .val (kN left), .own (acc.map kN), .val (.list (l.map fun r => .tuple (frD left r))), s4] = pure (.bool (false || ((-((topP l left : Nat) : Int)) == 0))) := or_more ((cmp_to (x := kN l.length) (y := kN 0) (b1_to rfl (b_lenL l _)) rfl (c_eq _ _)).trans (by rw [l0])) fun _ => or_one (cmp_to (x := .int (-((topP l left : Nat) : Int))) (y := .int 0) (ix_to (x := .tuple [.int (-((topP l left : Nat) : Int)), kN (rowP l left)]) (y := kN 0) (b1_to rfl mf) rfl (pair_0 _ _)) rfl rfl)
  simp only [gcB, den_Sts_cons, den_Sts_nil]
  constructor
  · intro z
    exact seq_to (setC_to fr) (seq_raise cd (by rw [z]; rfl))
  · intro z
    have z2 : (false || ((-((topP l left : Nat) : Int)) == 0)) = false := by
      rw [Bool.false_or, beq_eq_false_iff_ne]
      omega
    refine ⟨.val (.list (l.map fun r => .tuple (frD left r))), .val (kN (rowP l left)), ?_⟩
    refine seq_to (setC_to fr) (seq_guard cd z2 (seq_to (ρ1 := [.val (fam m l), .val (kN left), .own (acc.map kN), .val (.list (l.map fun r => .tuple (frD left r))), .val (kN (rowP l left))]) (set_to (ix_to (x := .tuple [.int (-((topP l left : Nat) : Int)), kN (rowP l left)]) (y := kN 1) (b1_to rfl mf) rfl (pair_1 _ _))) (seq_to (ρ1 := [.val (fam m l), .val (kN left), .own ((acc ++ [rowP l left]).map kN), .val (.list (l.map fun r => .tuple (frD left r))), .val (kN (rowP l left))]) ((app_to (d := kN (rowP l left)) rfl rfl (by rw [List.length_map, sizeLine_eq]; omega)).trans (by rw [List.map_append]; rfl)) (seq_to (set_to (bin_to (x := kN left) (y := .int (Builtin.bitNot ((rowP l left : Nat) : Int))) rfl (un_to (x := kN (rowP l left)) rfl (o_inv _)) (o_andNot _ _))) rfl))))
theorem sz_minus {l : List Nat} {left : Nat} (z : topP l left ≠ 0) : szP (left - (left &&& rowP l left)) < szP left := by
  obtain ⟨_, h⟩ := row_is z
  have sp := sz_split left left (rowP l left)
  rw [Nat.and_self] at sp
  have e1 : left &&& (left - (left &&& rowP l left)) = left - (left &&& rowP l left) := Nat.eq_of_testBit_eq fun t => by
    rw [Nat.testBit_and, minus_bit]
    cases left.testBit t <;> rfl
  have e2 : left &&& (left &&& rowP l left) = rowP l left &&& left := by rw [← Nat.and_assoc, Nat.and_self, Nat.and_comm]
  rw [e1, e2] at sp
  omega
theorem gc_loop {m : Nat} {l : List Nat} (ne : l ≠ []) (up : l.Pairwise (· < ·)) : ∀ (n left : Nat) (acc : List Nat) (s3 s4 : Slot) (k : Nat), szP left ≤ n → n < k → left < 2 ^ 7 → acc.length + n ≤ 1000 →
    (grP l n left acc = none → whileN gcC.den gcB.den k [.val (fam m l), .val (kN left), .own (acc.map kN), s3, s4] = thr .mi) ∧
    ∀ res, grP l n left acc = some res → ∃ t3 t4, whileN gcC.den gcB.den k [.val (fam m l), .val (kN left), .own (acc.map kN), s3, s4] = pure (.nx [.val (fam m l), .val (kN 0), .own (res.map kN), t3, t4])
  | n, left, acc, s3, s4, k, hs, hk, hl, ha => by
    obtain ⟨k, rfl⟩ : ∃ k', k = k' + 1 := ⟨k - 1, by omega⟩
    have c : gcC.den [.val (fam m l), .val (kN left), .own (acc.map kN), s3, s4] = pure (.bool (left != 0)) := cmp_to (x := kN left) (y := kN 0) rfl rfl (c_ne _ _)
    rw [whileN_succ, c, pure_bnd, asB_bool, pure_bnd]
    by_cases z : left = 0
    · subst z
      have e : grP l n 0 acc = some acc := by cases n <;> simp [grP]
      rw [e, if_neg (by simp)]
      exact ⟨fun w => (by cases w), fun res w => by cases w; exact ⟨s3, s4, rfl⟩⟩
    · rw [if_pos (by simpa using z)]
      cases n with
      | zero => exact (z (sz_zero hl (by omega))).elim
      | succ n =>
        obtain ⟨g1, g2⟩ := gc_step (m := m) ne up left acc (by omega) s3 s4
        rw [grP, if_neg z]
        by_cases q : topP l left = 0
        · rw [if_pos q, g1 q]
          exact ⟨fun _ => rfl, fun res w => by cases w⟩
        · obtain ⟨t3, t4, e⟩ := g2 q
          rw [if_neg q, e, pure_bnd, again_nx]
          have := sz_minus q
          exact gc_loop ne up n _ _ t3 t4 k (by omega) (by omega) (minus_lt hl) (by rw [List.length_append, List.length_singleton]; omega)
def greedP (m : Nat) (l : List Nat) : Option (List Nat) := grP l 7 (2 ^ m - 1) []
def resL : Option (List Nat) → M D
  | some x => pure (lD x)
  | none => thr .mi
theorem sz_le7 (x : Nat) : szP x ≤ 7 := by
  unfold szP
  have := List.length_filter_le (fun t => x.testBit t) (List.range 7)
  rw [List.length_range] at this
  exact this
theorem greedy_eq {m : Nat} {l : List Nat} (g : Good m l) (ne : l ≠ []) : f_greedy_cover [.d (fam m l)] = resL (greedP m l) := by
  have p7 : 2 ^ m ≤ 2 ^ 7 := Nat.pow_le_pow_right (by decide) g.few
  obtain ⟨h1, h2⟩ := gc_loop (m := m) ne g.up 7 (2 ^ m - 1) [] .none .none 9 (sz_le7 _) (by decide) (by have := Nat.two_pow_pos m; omega) (by simp)
  simp only [f_greedy_cover, runB_eq, n_greedy_cover, b_greedy_cover, den_Sts_cons, den_Sts_nil]
  have c0 : (St.expr (.call "check_family" f_check_family (.cons (.var 0) .nil))).den [.val (fam m l), .none, .none, .none, .none] = pure (.nx [.val (fam m l), .none, .none, .none, .none]) := expr_to (call1_to rfl (check_family_ok g))
  have c1 : (St.parC 1 2 (.val (.call "full_of" f_full_of (.cons (.var 0) .nil))) (.lst .nil)).den [.val (fam m l), .none, .none, .none, .none] = pure (.nx [.val (fam m l), .val (kN (2 ^ m - 1)), .own (([] : List Nat).map kN), .none, .none]) := par_newC (call1_to rfl (full_eq m l g.few))
  unfold greedP
  cases e : grP l 7 (2 ^ m - 1) [] with
  | none =>
    exact run_thr (seq_to c0 (seq_to c1 (seq_thr (h1 e))))
  | some res =>
    obtain ⟨t3, t4, w⟩ := h2 res e
    exact run_of (seq_to c0 (seq_to c1 (seq_to (ρ1 := [.val (fam m l), .val (kN 0), .own (res.map kN), t3, t4]) w (seq_rt rfl))))
def lgB : Sts := (.cons (.ite (.cmp .ne (.var 1) (.int 0))
 (.cons (.set 4 (.b1 .max (.lc [("row", 5)] (.seq (.ix (.var 0) (.int 1))) (.nm 5) (.call "_law_size" f__law_size (.cons (.bin .and (.var 5) (.var 1)) .nil)))))
 (.cons (.ite (.cmp .eq (.var 4) (.int 0))
 (.cons (.ret .non)
 .nil)
 .nil)
 (.cons (.set 5 (.ix (.lcIf [("one", 6)] (.seq (.ix (.var 0) (.int 1))) (.nm 6) (.cmp .eq (.call "_law_size" f__law_size (.cons (.bin .and (.var 6) (.var 1)) .nil)) (.var 4)) (.var 6)) (.int 0)))
 (.cons (.app 2 (.var 5))
 (.cons (.set 1 (.bin .and (.var 1) (.un .inv (.var 5))))
 .nil)))))
 .nil)
 .nil)
theorem lg_loop {m : Nat} {l : List Nat} (ne : l ≠ []) (up : l.Pairwise (· < ·)) : ∀ (ts : List Nat) (n left : Nat) (acc res : List Nat) (s3 s4 s5 s6 : Slot), n ≤ ts.length → szP left ≤ n → left < 2 ^ 7 → acc.length + n ≤ 1000 → grP l n left acc = some res →
    ∃ t3 t4 t5, forN (T.nm 3).den lgB.den (ts.map kN) [.val (fam m l), .val (kN left), .own (acc.map kN), s3, s4, s5, s6] = pure (.nx [.val (fam m l), .val (kN 0), .own (res.map kN), t3, t4, t5, s6])
  | [], n, left, acc, res, s3, s4, s5, s6, hn, hs, hl, ha, e => by
    have n0 : n = 0 := by simpa using hn
    subst n0
    have z := sz_zero hl (by omega)
    subst z
    cases e
    exact ⟨s3, s4, s5, rfl⟩
  | a :: ts, n, left, acc, res, s3, s4, s5, s6, hn, hs, hl, ha, e => by
    rw [List.map_cons]
    have c : (E.cmp .ne (.var 1) (.int 0)).den [.val (fam m l), .val (kN left), .own (acc.map kN), .val (kN a), s4, s5, s6] = pure (.bool (left != 0)) := cmp_to (x := kN left) (y := kN 0) rfl rfl (c_ne _ _)
    by_cases z : left = 0
    · subst z
      have e2 : grP l n 0 acc = some acc := by cases n <;> simp [grP]
      rw [e2] at e
      cases e
      obtain ⟨t3, t4, t5, w⟩ := lg_loop ne up ts 0 0 acc acc (.val (kN a)) s4 s5 s6 (Nat.zero_le _) (Nat.le_of_eq rfl) (by decide) (by omega) rfl
      refine ⟨t3, t4, t5, ?_⟩
      show lgB.den [.val (fam m l), .val (kN 0), .own (acc.map kN), .val (kN a), s4, s5, s6] >>= _ = _
      rw [show lgB.den [.val (fam m l), .val (kN 0), .own (acc.map kN), .val (kN a), s4, s5, s6] = pure (.nx [.val (fam m l), .val (kN 0), .own (acc.map kN), .val (kN a), s4, s5, s6]) from seq_to (ite_to (v := false) c rfl) rfl, pure_bnd, again_nx]
      exact w
    · cases n with
      | zero => exact (z (sz_zero hl (by omega))).elim
      | succ n =>
        rw [grP, if_neg z] at e
        by_cases q : topP l left = 0
        · rw [if_pos q] at e
          cases e
        · rw [if_neg q] at e
          have sm := sz_minus q
          rw [List.length_cons] at hn
          obtain ⟨r1, r2, r3⟩ := row_all (left := left) ne up
          have hd : (l.filter fun r => szP (r &&& left) == topP l left)[0]? = some (rowP l left) := by
            have : rowP l left ∈ l.filter fun r => szP (r &&& left) == topP l left := List.mem_filter.mpr ⟨r1, beq_iff_eq.mpr r2⟩
            obtain ⟨b, k, ek⟩ := List.exists_cons_of_ne_nil (List.ne_nil_of_mem this)
            unfold rowP
            rw [ek]
            rfl
          have step : lgB.den [.val (fam m l), .val (kN left), .own (acc.map kN), .val (kN a), s4, s5, s6] = pure (.nx [.val (fam m l), .val (kN (left - (left &&& rowP l left))), .own ((acc ++ [rowP l left]).map kN), .val (kN a), .val (kN (topP l left)), .val (kN (rowP l left)), s6]) := by
            refine seq_to (ite_to (v := true) (c.trans (by rw [bne_iff_ne.mpr z])) ?_) rfl
            rw [if_pos rfl]
            refine seq_to (ρ1 := [.val (fam m l), .val (kN left), .own (acc.map kN), .val (kN a), .val (kN (topP l left)), s5, s6]) (set_to (b1_to (d := .list (l.map fun r => kN (szP (r &&& left)))) (lc_ev (l := l) (h := kN) (g := fun r => kN (szP (r &&& left))) (seq_to2 (d := tD l) (ix_to (x := fam m l) (y := kN 1) rfl rfl (pair_1 _ _)) rfl) fun r hr => turn_yes rfl (call1_to (u := kN (r &&& left)) (bin_to (x := kN r) (y := kN left) rfl rfl (o_and _ _)) (size_eq _))) (b_maxN ⟨_, r1, r2⟩ fun b hb => top_ge hb))) ?_
            refine seq_to (ite_to (v := false) (cmp_to (x := kN (topP l left)) (y := kN 0) rfl rfl ((c_eq _ _).trans (by rw [beq_eq_false_iff_ne.mpr q]))) rfl) ?_
            refine seq_to (ρ1 := [.val (fam m l), .val (kN left), .own (acc.map kN), .val (kN a), .val (kN (topP l left)), .val (kN (rowP l left)), s6]) (set_to (ix_to (x := lD (l.filter fun r => szP (r &&& left) == topP l left)) (y := kN 0) (lcIf_ev (l := l) (h := kN) (g := kN) (p := fun r => szP (r &&& left) == topP l left) (seq_to2 (d := tD l) (ix_to (x := fam m l) (y := kN 1) rfl rfl (pair_1 _ _)) rfl) fun r hr => turn_ok rfl (cmp_to (x := kN (szP (r &&& left))) (y := kN (topP l left)) (call1_to (u := kN (r &&& left)) (bin_to (x := kN r) (y := kN left) rfl rfl (o_and _ _)) (size_eq _)) rfl (c_eq _ _)) fun _ => rfl) rfl (ixL kN hd))) ?_
            refine seq_to (ρ1 := [.val (fam m l), .val (kN left), .own ((acc ++ [rowP l left]).map kN), .val (kN a), .val (kN (topP l left)), .val (kN (rowP l left)), s6]) ((app_to (d := kN (rowP l left)) rfl rfl (by rw [List.length_map, sizeLine_eq]; omega)).trans (by rw [List.map_append]; rfl)) ?_
            exact seq_to (set_to (bin_to (x := kN left) (y := .int (Builtin.bitNot ((rowP l left : Nat) : Int))) rfl (un_to (x := kN (rowP l left)) rfl (o_inv _)) (o_andNot _ _))) rfl
          obtain ⟨t3, t4, t5, w⟩ := lg_loop ne up ts n _ _ res (.val (kN a)) (.val (kN (topP l left))) (.val (kN (rowP l left))) s6 (by omega) (by omega) (minus_lt hl) (by rw [List.length_append, List.length_singleton]; omega) e
          refine ⟨t3, t4, t5, ?_⟩
          show lgB.den [.val (fam m l), .val (kN left), .own (acc.map kN), .val (kN a), s4, s5, s6] >>= _ = _
          rw [step, pure_bnd, again_nx]
          exact w
theorem law_greedy_eq {m : Nat} {l res : List Nat} (g : Good m l) (ne : l ≠ []) (h : greedP m l = some res) : f__law_greedy [.d (fam m l)] = pure (lD res) := by
  have p7 : 2 ^ m ≤ 2 ^ 7 := Nat.pow_le_pow_right (by decide) g.few
  have p0 := Nat.two_pow_pos m
  obtain ⟨t3, t4, t5, w⟩ := lg_loop (m := m) ne g.up (List.range 8) 7 (2 ^ m - 1) [] res .none .none .none .none (by simp) (sz_le7 _) (by omega) (by simp) h
  simp only [f__law_greedy, runB_eq, n__law_greedy, b__law_greedy, den_Sts_cons, den_Sts_nil]
  exact run_of (seq_to (ρ1 := [.val (fam m l), .val (kN (2 ^ m - 1)), .none, .none, .none, .none, .none]) (set_to (bin_to (x := kN (2 ^ m)) (y := kN 1) (bin_to (x := kN 1) (y := kN m) rfl (ix_to (x := fam m l) (y := kN 0) rfl rfl (pair_0 _ _)) (o_shl1 (by have := g.few; omega))) rfl (o_sub (by omega)))) (seq_to (ρ1 := [.val (fam m l), .val (kN (2 ^ m - 1)), .own (([] : List Nat).map kN), .none, .none, .none, .none]) rfl (seq_to (for_to (r1_to (n := 8) rfl (by decide)) w) (seq_rt rfl))))
/-! the bound -/
def bdP : Nat → Nat × Nat
  | 0 => (0, 1) | 1 => (1, 1) | 2 => (3, 2) | 3 => (11, 6) | 4 => (25, 12) | 5 => (137, 60) | _ => (49, 20)
abbrev prN (p : Nat × Nat) : D := .tuple [kN p.1, kN p.2]
theorem HH_bd : ∀ k, k < 7 → HH k * (bdP k).2 = 60 * (bdP k).1 := by decide
theorem add_all : ((List.range 6).map fun k => f_added [.d (prN (bdP k)), .d (prN (1, k + 1))]) = (List.range 6).map fun k => (pure (prN (bdP (k + 1))) : M D) := by kernel_rfl
theorem plus_all : ((List.range 6).map fun k => f__law_plus [.d (prN (bdP k)), .d (prN (1, k + 1))]) = (List.range 6).map fun k => (pure (prN (bdP (k + 1))) : M D) := by kernel_rfl
theorem frac_all : ((List.range 6).map fun k => f__law_fraction [.d (kN 1), .d (kN (k + 1))]) = (List.range 6).map fun k => (pure (prN (1, k + 1)) : M D) := by kernel_rfl
theorem map_at {α β : Type} {f g : α → β} : ∀ {l : List α}, l.map f = l.map g → ∀ a ∈ l, f a = g a
  | _ :: l, h, a, ha => by
    rw [List.map_cons, List.map_cons] at h
    injection h with h1 h2
    rcases List.mem_cons.mp ha with rfl | ha
    · exact h1
    · exact map_at h2 a ha
def topS (l : List Nat) : Nat := (l.map szP).foldl max 0
theorem topS_ge {l : List Nat} {r : Nat} (h : r ∈ l) : szP r ≤ topS l := (fold_max _ 0).2.1 _ (List.mem_map.mpr ⟨r, h, rfl⟩)
theorem topS_le {l : List Nat} {m : Nat} (hm : m ≤ 6) (lt : ∀ r ∈ l, r < 2 ^ m) : topS l ≤ m := by
  rcases (fold_max (l.map szP) 0).2.2 with z | z
  · show (l.map szP).foldl max 0 ≤ m
    omega
  · obtain ⟨r, hr, e⟩ := List.mem_map.mp z
    have := sz_le6 hm (lt r hr)
    show (l.map szP).foldl max 0 ≤ m
    omega
theorem rng1_pos {n : Nat} {pre suf : List Nat} {a : Nat} (h : List.range' 1 n = pre ++ a :: suf) : a = pre.length + 1 ∧ pre.length < n := by
  have l := congrArg List.length h
  rw [List.length_range', List.length_append, List.length_cons] at l
  have lt : pre.length < n := by omega
  have g : (List.range' 1 n)[pre.length]? = some a := by rw [h, List.getElem?_append_right (Nat.le_refl _), Nat.sub_self]; rfl
  rw [List.getElem?_range' lt] at g
  have := Option.some.inj g
  omega
theorem star_max {ρ : Env} {e : E} {l : List Nat} (hl : l.length ≤ 1000) (h : e.den ρ = pure (.list (l.map fun r => kN (szP r)))) : (E.b1 .max (.lstS (.cons (.int 0) (.star e .nil)))).den ρ = pure (kN (topS l)) := by
  have z : (E.lstS (.cons (.int 0) (.star e .nil))).den ρ = pure (.list ((0 :: l.map szP).map fun n => kN n)) := by
    refine (lstS_es (es_cons (d := kN 0) rfl (es_star h rfl es_nil)) (by simp; omega)).trans ?_
    rw [List.append_nil, List.map_cons, List.map_map]
    rfl
  refine b1_to z (b_maxN (l := 0 :: l.map szP) (f := fun n => n) ?_ fun a ha => ?_)
  · rcases (fold_max (l.map szP) 0).2.2 with q | q
    · exact ⟨0, by simp, q.symm⟩
    · exact ⟨_, List.mem_cons_of_mem _ q, rfl⟩
  · rcases List.mem_cons.mp ha with rfl | ha
    · exact Nat.zero_le _
    · exact (fold_max _ 0).2.1 _ ha
theorem bound_eq {m : Nat} {l : List Nat} (g : Good m l) (hm : m ≤ 6) (hl : l.length ≤ 1000) : f_greedy_bound [.d (fam m l)] = pure (prN (bdP (topS l))) := by
  have tl := topS_le hm g.lt
  simp only [f_greedy_bound, runB_eq, n_greedy_bound, b_greedy_bound, den_Sts_cons, den_Sts_nil]
  refine run_of (seq_to (expr_to (call1_to rfl (check_family_ok g))) (seq_to (ρ1 := [.val (fam m l), .val (kN (topS l)), .none, .none, .none]) (set_to (star_max hl (lc_ev (l := l) (h := kN) (g := fun r => kN (szP r)) (seq_to2 (d := tD l) (ix_to (x := fam m l) (y := kN 1) rfl rfl (pair_1 _ _)) rfl) fun r hr => turn_yes rfl (call1_to (u := kN r) rfl (known_size_eq r))))) (seq_to (ρ1 := [.val (fam m l), .val (kN (topS l)), .none, .val (prN (bdP 0)), .none]) rfl ?_)))
  refine for_seq kN (fun pre ρ => ∃ s4, ρ = [.val (fam m l), .val (kN (topS l)), .none, .val (prN (bdP pre.length)), s4]) (List.range' 1 (topS l)) ((r2_to (m := 1) (n := topS l + 1) rfl (bin_to (x := kN (topS l)) (y := kN 1) rfl rfl (o_add _ 1)) (by omega) (by decide)).trans (by rw [Nat.add_sub_cancel])) ⟨_, rfl⟩ ?_ ?_
  · rintro pre a suf ρ hp ⟨s4, rfl⟩
    obtain ⟨rfl, lt⟩ := rng1_pos hp
    refine ⟨_, [.val (fam m l), .val (kN (topS l)), .none, .val (prN (bdP (pre.length + 1))), .val (kN (pre.length + 1))], rfl, seq_to (set_to (call2_to (u := prN (bdP pre.length)) (v := prN (1, pre.length + 1)) rfl (tup_es (es_cons rfl (es_cons rfl es_nil))) (map_at add_all pre.length (List.mem_range.mpr (by omega))))) rfl, _, by rw [List.length_append, List.length_singleton]⟩
  · rintro ρ ⟨s4, rfl⟩
    refine seq_ret ?_
    rw [List.length_range']
    rfl
/-! covers and the greedy one -/
theorem gr_cov {l : List Nat} : ∀ (n left : Nat) (acc res : List Nat), szP left ≤ n → left < 2 ^ 7 → grP l n left acc = some res → ∀ t, t < 7 → left.testBit t = true → ∃ r ∈ l, r.testBit t = true
  | n, left, acc, res, hs, hl, e, t, t7, ht => by
    by_cases z : left = 0
    · rw [z, Nat.zero_testBit] at ht
      cases ht
    · cases n with
      | zero => exact (z (sz_zero hl (by omega))).elim
      | succ n =>
        rw [grP, if_neg z] at e
        split at e
        · cases e
        · rename_i q
          by_cases c : (rowP l left).testBit t = true
          · exact ⟨_, (row_is q).1, c⟩
          · have sm := sz_minus q
            exact gr_cov n _ _ res (by omega) (minus_lt hl) e t t7 (by rw [minus_bit, ht, Bool.eq_false_iff.mpr c]; rfl)
theorem few_some {m : Nat} {l b : List Nat} (g : Good m l) (hm : m ≤ 6) (h : fewP m l = some b) : ∃ res, greedP m l = some res ∧ res.length ≤ 7 ∧ (∀ r ∈ res, r ∈ l) ∧ res.length * (bdP (topS l)).2 ≤ b.length * (bdP (topS l)).1 := by
  have p7 : 2 ^ m ≤ 2 ^ 7 := Nat.pow_le_pow_right (by decide) g.few
  have p0 := Nat.two_pow_pos m
  have bs := mem_chs.mp (List.mem_of_find?_eq_some h)
  have bc := List.find?_some h
  unfold isCov at bc
  rw [beq_iff_eq] at bc
  have cov := (union_full fun r hr => g.lt r (bs.subset hr)).mp bc
  cases e : greedP m l with
  | none =>
    obtain ⟨t, t7, h1, h2⟩ := gr_none 7 (2 ^ m - 1) [] (by omega) e
    rw [full_bit, decide_eq_true_eq] at h1
    obtain ⟨r, hr, hb⟩ := cov t h1
    rw [h2 r (bs.subset hr)] at hb
    cases hb
  | some res =>
    have gl := gr_len hm g.lt (B := b) (fun s hs => bs.subset hs) cov 7 (2 ^ m - 1) [] res (by omega) e
    have tl := topS_le hm g.lt
    have pt := pot_top (B := b) (l := l) (m := m) (left := 2 ^ m - 1) (k := topS l) hm (by omega) (fun s hs => bs.subset hs) (fun r hr => topS_ge hr) (by omega)
    have hh := HH_bd (topS l) (by omega)
    have lens : ∀ (n left : Nat) (acc res : List Nat), grP l n left acc = some res → (∀ r ∈ acc, r ∈ l) → res.length ≤ acc.length + n ∧ ∀ r ∈ res, r ∈ l := by
      intro n
      induction n with
      | zero => intro left acc res e ha; cases e; exact ⟨by omega, ha⟩
      | succ n i =>
        intro left acc res e ha
        rw [grP] at e
        split at e
        · cases e; exact ⟨by omega, ha⟩
        · split at e
          · cases e
          · rename_i q
            have := i _ _ _ e fun r hr => by
              rcases List.mem_append.mp hr with z | z
              · exact ha r z
              · rw [List.mem_singleton.mp z]
                exact (row_is q).1
            rw [List.length_append, List.length_singleton] at this
            exact ⟨by omega, this.2⟩
    have ll := lens 7 (2 ^ m - 1) [] res e (fun r hr => by cases hr)
    refine ⟨res, rfl, by simpa using ll.1, ll.2, ?_⟩
    rw [List.length_nil, Nat.sub_zero] at gl
    have c1 : 60 * res.length * (bdP (topS l)).2 ≤ b.length * HH (topS l) * (bdP (topS l)).2 := Nat.mul_le_mul_right _ (Nat.le_trans gl.1 pt)
    rw [Nat.mul_assoc b.length, hh, Nat.mul_assoc 60] at c1
    have c2 : b.length * (60 * (bdP (topS l)).1) = 60 * (b.length * (bdP (topS l)).1) := by rw [← Nat.mul_assoc, Nat.mul_comm b.length 60, Nat.mul_assoc]
    rw [c2] at c1
    exact Nat.le_of_mul_le_mul_left c1 (by decide)
theorem few_none {m : Nat} {l : List Nat} (g : Good m l) (h : fewP m l = none) : greedP m l = none ∧ (chs l).find? (isPart m) = none ∧ (chs l).filter (isCov m) = [] := by
  have p7 : 2 ^ m ≤ 2 ^ 7 := Nat.pow_le_pow_right (by decide) g.few
  have p0 := Nat.two_pow_pos m
  have no := List.find?_eq_none.mp h
  refine ⟨?_, List.find?_eq_none.mpr fun x hx z => ?_, List.filter_eq_nil_iff.mpr no⟩
  · cases e : greedP m l with
    | none => rfl
    | some res =>
      exfalso
      have c := gr_cov 7 (2 ^ m - 1) [] res (sz_le7 _) (by omega) e
      refine no l (mem_chs.mpr (List.Sublist.refl l)) ?_
      unfold isCov
      rw [beq_iff_eq]
      refine (union_full g.lt).mpr fun t ht => c t (by have := g.few; omega) ?_
      rw [full_bit, decide_eq_true ht]
  · unfold isPart at z
    simp only [Bool.and_eq_true] at z
    exact no x hx z.2.1
end Pv.K54
namespace Pv.K54
open PySem PySem.Spec PyProof.Rows L2
open Pv.Sh Pv.Fb Pv.Fc
open Pv.Sw (kN lD tD thP small in_nats mem_thP setI_self sum_nats map_kN Lay lay_int lay_list lay_tup lay_lD lay_tD eq_nil ne_nil emp_nats emp_map sho_name sho_nat told_sho one_sho sho_tD fam_sho endS endP told_is told_thr seq_thr rng_big r1_big call3_to ifE_to)
open Pv.Ev
local macro_rules | `(tactic| and_intros) => `(tactic| first
  | ((with_reducible apply var_at); exact rfl)
  | ((with_reducible apply peek_own); exact rfl)
  | ((with_reducible apply peek_val); exact rfl)
  | with_reducible exact neg1_at
  | ((with_reducible apply srtSet_to) <;> and_intros)
  | with_reducible exact int_nat _
  | with_reducible exact glob_nat _ _
  | with_reducible exact str_is _
  | with_reducible exact bl_is _
  | with_reducible exact non_is
  | with_reducible exact int_is _
  | with_reducible exact glob_is _ _
  | with_reducible exact tup_0
  | with_reducible exact lst_0
  | ((with_reducible apply bin_to) <;> and_intros)
  | ((with_reducible apply cmp_to) <;> and_intros)
  | ((with_reducible apply ix_to) <;> and_intros)
  | ((with_reducible apply b1_to) <;> and_intros)
  | ((with_reducible apply call1_to) <;> and_intros)
  | ((with_reducible apply call2_to) <;> and_intros)
  | ((with_reducible apply call3_to) <;> and_intros)
  | ((with_reducible apply lcIf_ev) <;> and_intros)
  | ((with_reducible apply lc_ev) <;> and_intros)
  | ((with_reducible apply not_to) <;> and_intros)
  | ((with_reducible apply and_more) <;> and_intros)
  | ((with_reducible apply and_one) <;> and_intros)
  | ((with_reducible apply or_more) <;> and_intros)
  | ((with_reducible apply or_one) <;> and_intros)
  | ((with_reducible apply chain_to) <;> and_intros)
  | ((with_reducible apply un_to) <;> and_intros)
  | ((with_reducible apply b2_to) <;> and_intros)
  | ((with_reducible apply tup_es) <;> and_intros)
  | ((with_reducible apply lst_es) <;> and_intros)
  | ((with_reducible apply es_cons) <;> and_intros)
  | with_reducible exact es_nil
  | ((with_reducible apply told_ev) <;> and_intros)
  | ((with_reducible apply r1_to) <;> and_intros)
  | ((with_reducible apply r2_to) <;> and_intros)
  | ((with_reducible apply seq_to2) <;> and_intros)
  | ((with_reducible apply en_to) <;> and_intros)
  | ((with_reducible apply turn_yes); (first | exact rfl | skip); and_intros)
  | ((with_reducible apply turn_ok); (first | exact rfl | skip); and_intros; and_intros)
  | ((with_reducible apply run_of) <;> and_intros)
  | ((with_reducible apply seq_ret) <;> and_intros)
  | ((with_reducible apply seq_set) <;> and_intros)
  | ((with_reducible apply seq_setC) <;> and_intros)
  | ((with_reducible apply seq_setF) <;> and_intros)
  | ((with_reducible apply seq_expr) <;> and_intros)
  | ((with_reducible apply seq_new0) <;> and_intros)
  | with_reducible exact items_l _ _
  | with_reducible exact items_t _ _
  | with_reducible exact sq_l _ _
  | with_reducible exact sq_t _ _
  | with_reducible exact o_add _ _
  | with_reducible exact o_and _ _
  | with_reducible exact o_or _ _
  | with_reducible exact o_xor _ _
  | with_reducible exact o_shr _ _
  | ((with_reducible apply o_shl1); omega)
  | ((with_reducible apply o_mod); (first | omega | decide))
  | ((with_reducible apply o_div) <;> (first | omega | decide))
  | ((with_reducible apply o_sub); omega)
  | with_reducible exact o_inv _
  | with_reducible exact o_neg _
  | with_reducible exact c_eq _ _
  | with_reducible exact c_ne _ _
  | with_reducible exact c_lt _ _
  | with_reducible exact c_le _ _
  | with_reducible exact c_gt _ _
  | with_reducible exact c_ge _ _
  | with_reducible exact c_in _ _
  | with_reducible exact c_inT _ _
  | with_reducible exact c_nin _ _
  | with_reducible exact c_ninT _ _
  | with_reducible exact b_lenL _ _
  | with_reducible exact b_lenT _ _
  | with_reducible exact b_len2 _ _
  | ((with_reducible apply sl_hi) <;> and_intros)
  | ((with_reducible apply sl_lo) <;> and_intros)
  | with_reducible exact s_takeL _ _ _
  | with_reducible exact s_takeT _ _ _
  | with_reducible exact s_dropL _ _ _
  | with_reducible exact s_dropT _ _ _
  | ((with_reducible apply zip_to) <;> and_intros)
  | with_reducible exact z_l _ _ _ _
  | with_reducible exact z_t _ _ _ _
  | with_reducible exact b_tup _
  | with_reducible exact b_lst _
  | with_reducible exact b_intB _
  | with_reducible exact b_intN _
  | with_reducible exact b_all _ _
  | with_reducible exact b_any _ _
  | with_reducible exact b_sum _ _
  | with_reducible exact b_max2 _ _
  | with_reducible exact b_min2 _ _
  | with_reducible exact pair_0 _ _
  | with_reducible exact pair_1 _ _
  | infer_instance
  | (intro _; and_intros)
  | omega
  | skip)
local macro_rules | `(tactic| infer_instance) => `(tactic| with_reducible exact known_things_eq _)
local macro_rules | `(tactic| infer_instance) => `(tactic| with_reducible exact known_size_eq _)
local macro_rules | `(tactic| infer_instance) => `(tactic| with_reducible exact things_eq _)
local macro_rules | `(tactic| infer_instance) => `(tactic| with_reducible exact size_eq _)
/-! what is told -/
def toldF : Option D → D
  | some d => .tuple [.str "told", d]
  | none => wd "missing"
def resD : Option D → M D
  | some d => pure d
  | none => thr .mi
theorem told_res {e : E} {o : Option D} {ρ : Env} (h : e.den ρ = resD o) : (E.told e).den ρ = pure (toldF o) := by
  cases o with
  | some d => exact told_ev h
  | none => exact told_mi h
theorem resF_D (o : Option (List Nat)) : resF o = resD (o.map tD) := by cases o <;> rfl
theorem resL_D (o : Option (List Nat)) : resL o = resD (o.map lD) := by cases o <;> rfl
def covP (m : Nat) (l : List Nat) : List (List Nat) := (chs l).filter (isCov m)
def cntP (m : Nat) (l b : List Nat) : Nat := ((chs l).filter fun x => (x.length == b.length) && isCov m x).length
theorem count_D {m : Nat} {l : List Nat} (g : Good m l) (hl : l.length ≤ 14) : f_cover_count [.d (fam m l)] = resD ((fewP m l).map fun b => kN (cntP m l b)) := by
  rw [count_eq g hl]
  cases fewP m l <;> rfl
theorem cov_head {m : Nat} {l b : List Nat} (h : fewP m l = some b) : (covP m l)[0]? = some b := by
  have := List.head?_filter (p := isCov m) (l := chs l)
  unfold covP
  rw [← List.head?_eq_getElem?, this]
  exact h
theorem cov_cnt (m : Nat) (l b : List Nat) : ((covP m l).filter fun x => x.length == b.length).length = cntP m l b := by
  unfold covP cntP
  rw [List.filter_filter]
theorem exact_is (m : Nat) (l : List Nat) : pickD tD ((covP m l).filter fun x => (packP l).contains x) = toldF (((chs l).find? (isPart m)).map tD) := by
  have e : ((covP m l).filter fun x => (packP l).contains x) = (chs l).filter (isPart m) := by
    unfold covP
    rw [List.filter_filter]
    refine List.filter_congr fun x hx => ?_
    have : (packP l).contains x = isPack x := by
      rw [Bool.eq_iff_iff, List.contains_iff_mem]
      unfold packP
      rw [List.mem_filter]
      exact ⟨fun z => z.2, fun z => ⟨hx, z⟩⟩
    rw [this]
    unfold isPack isPart
    cases x.contains 0 <;> cases isCov m x <;> cases apartP x <;> rfl
  rw [e, ← List.head?_filter]
  cases (chs l).filter (isPart m) <;> rfl
theorem topS_at {l : List Nat} (ne : l ≠ []) : ∃ r ∈ l, szP r = topS l := by
  rcases (fold_max (l.map szP) 0).2.2 with z | z
  · obtain ⟨a, k, rfl⟩ := List.exists_cons_of_ne_nil ne
    refine ⟨a, by simp, ?_⟩
    have h := topS_ge (l := a :: k) (r := a) (by simp)
    have e : topS (a :: k) = 0 := z
    omega
  · obtain ⟨r, hr, e⟩ := List.mem_map.mp z
    exact ⟨r, hr, e⟩
theorem row_sho {l x : List Nat} (h : x ∈ chs l) (hl : l.length ≤ 8) (lt : ∀ r ∈ l, r < 2 ^ 7) : Sho 1 1000 (tD x) := (sho_nats (b := 7) 8 (fun r hr => lt r ((mem_chs.mp h).subset hr)) (by have := sub_len h; omega)).up (by decide) (by decide)
theorem toldF_sho {n w : Nat} {o : Option D} (h : ∀ d, o = some d → Sho n w d) (hw : 202 ≤ w) : Sho (n + 1) (2 * (w + 2) + 3) (toldF o) := by
  cases o with
  | some d => exact told_sho (h d rfl) hw
  | none => exact (one_sho (s := "missing") (by decide)).up (by omega) (by omega)
theorem chs_lenP (l : List Nat) : (chs l).length = 2 ^ l.length := by rw [(chs_perm l).length_eq, subsP_len, List.length_singleton, Nat.one_mul]
theorem isMem_told {x : List Nat} {m : Nat} {l : List Nat} (h : (chs l).find? (isPart m) = some x) : x ∈ chs l := List.mem_of_find?_eq_some h
def bads : List D := [.tuple [.int 0, .tuple []], .tuple [.int 8, .tuple []], .tuple [.int 2, .tuple [.int 4]], .tuple [.int 2, .tuple [.int 2, .int 1]], .tuple [.int 2, .tuple [.int 1, .int 1]], .tuple [.int 2, .tuple [.int (-1)]], .tuple [.int 3, .tuple [.int 0, .int 8]]]
theorem few_bad {d : D} (h : d ∈ bads) : f_fewest_cover [.d d] = thr .na := by
  have c : f_check_few [.d d] = thr .na := by
    simp only [f_check_few, runB_eq, n_check_few, b_check_few, den_Sts_cons, den_Sts_nil]
    exact run_thr (seq_exprT (call1_to rfl (bad_family d h)))
  simp only [f_fewest_cover, runB_eq, n_fewest_cover, b_fewest_cover, den_Sts_cons, den_Sts_nil]
  exact run_thr (seq_exprT (call1_to rfl c))
theorem deep_bad {d : D} (h : d ∈ bads) : f_deepest [.d d] = thr .na := by
  simp only [f_deepest, runB_eq, n_deepest, b_deepest, den_Sts_cons, den_Sts_nil]
  exact run_thr (seq_exprT (call1_to rfl (bad_family d h)))
theorem bound_bad {d : D} (h : d ∈ bads) : f_greedy_bound [.d d] = thr .na := by
  simp only [f_greedy_bound, runB_eq, n_greedy_bound, b_greedy_bound, den_Sts_cons, den_Sts_nil]
  exact run_thr (seq_exprT (call1_to rfl (bad_family d h)))
theorem good15 : Good 4 (List.range 15) := ⟨by decide, by decide, by decide, by decide⟩
theorem good11 : Good 4 (List.range 11) := ⟨by decide, by decide, by decide, by decide⟩
theorem odd1 : f_is_cover [.d (.tuple [.int 2, .tuple [.int 1]]), .d (.tuple [.int 2])] = thr .na := rfl
theorem odd2 : f_are_apart [.d (.tuple [.int 2, .tuple [.int 1]]), .d (.tuple [.int 3])] = thr .na := rfl
theorem meet_bad {m : Nat} {l : List Nat} (g : Good m l) (h : ¬ (2 ≤ l.length ∧ l.length ≤ 10)) : f_least_all_meet [.d (fam m l)] = thr .na := by
  simp only [f_least_all_meet, runB_eq, n_least_all_meet, b_least_all_meet, den_Sts_cons, den_Sts_nil]
  refine run_thr ?_
  apply seq_expr
  · exact call1_to rfl (check_family_ok g)
  · apply seq_raise
    · and_intros
    · rw [Bool.not_eq_true', Bool.and_eq_false_iff]
      simp only [decide_eq_false_iff_not]
      omega
theorem odd4 : f_fewest_cover [.d (fam 4 (List.range 15))] = thr .tl := by
  simp only [f_fewest_cover, runB_eq, n_fewest_cover, b_fewest_cover, den_Sts_cons, den_Sts_nil]
  exact run_thr (seq_exprT (call1_to rfl (few_large good15 (by decide))))
theorem odd5 : f_most_apart [.d (fam 4 (List.range 15))] = thr .tl := by
  simp only [f_most_apart, runB_eq, n_most_apart, b_most_apart, den_Sts_cons, den_Sts_nil]
  exact run_thr (seq_exprT (call1_to rfl (few_large good15 (by decide))))
theorem rg_tup {n : Nat} {ρ : Env} (h : n ≤ 1000) : (E.tup (.cons (.int 4) (.cons (.rg1 true (.int (n : Int))) .nil))).den ρ = pure (fam 4 (List.range n)) := by
  refine tup_es (es_cons rfl (es_cons ?_ es_nil))
  rw [den_E_rg1]
  show (vC (.int (n : Int)) ρ >>= fun d => asI d >>= fun j => rgM true 0 j) = _
  rw [ap_vC, pure_bnd, asI_int, pure_bnd]
  unfold rgM
  rw [if_pos ⟨by omega, by omega, by omega, by omega⟩, if_pos rfl]
  unfold rgI
  rw [Int.sub_zero, Int.toNat_natCast, List.map_map]
  congr 3
  funext i
  show PyData.int (0 + (i : Int)) = _
  rw [Int.zero_add]
theorem ne_wd (s : String) (h : (Str.ofString s).length ≤ 20) : Cop.ne.sem (wd s) (wd s) = pure (.bool false) := by
  have s1 : SeqAt.shaped (wd s) = true := (lay_tup (n := 0) (ds := [.str (Str.ofString s)]) fun d hd => by
    rw [List.mem_singleton.mp hd]
    exact ⟨(sho_name h).lay, (sho_name h).dp⟩ : Lay 1 (wd s)).shaped (by decide)
  show neD (wd s) (wd s) = _
  unfold neD
  rw [show eqD (wd s) (wd s) = _ from if_pos ⟨s1, s1⟩, pure_bnd, asB_bool, pure_bnd]
  simp [PyData.eqv, PyData.eqvAll]
end Pv.K54
namespace Pv.K54
open PySem PySem.Spec PyProof.Rows L2
open Pv.Sh Pv.Fb Pv.Fc
open Pv.Sw (kN lD tD thP small in_nats mem_thP setI_self sum_nats map_kN Lay lay_int lay_list lay_tup lay_lD lay_tD eq_nil ne_nil emp_nats emp_map sho_name sho_nat told_sho one_sho sho_tD fam_sho endS endP told_is told_thr seq_thr rng_big r1_big call3_to ifE_to)
open Pv.Ev
local macro_rules | `(tactic| and_intros) => `(tactic| first
  | ((with_reducible apply var_at); exact rfl)
  | ((with_reducible apply peek_own); exact rfl)
  | ((with_reducible apply peek_val); exact rfl)
  | with_reducible exact neg1_at
  | ((with_reducible apply srtSet_to) <;> and_intros)
  | with_reducible exact int_nat _
  | with_reducible exact glob_nat _ _
  | with_reducible exact str_is _
  | with_reducible exact bl_is _
  | with_reducible exact non_is
  | with_reducible exact int_is _
  | with_reducible exact glob_is _ _
  | with_reducible exact tup_0
  | with_reducible exact lst_0
  | ((with_reducible apply bin_to) <;> and_intros)
  | ((with_reducible apply cmp_to) <;> and_intros)
  | ((with_reducible apply ix_to) <;> and_intros)
  | ((with_reducible apply b1_to) <;> and_intros)
  | ((with_reducible apply call1_to) <;> and_intros)
  | ((with_reducible apply call2_to) <;> and_intros)
  | ((with_reducible apply call3_to) <;> and_intros)
  | ((with_reducible apply lcIf_ev) <;> and_intros)
  | ((with_reducible apply lc_ev) <;> and_intros)
  | ((with_reducible apply not_to) <;> and_intros)
  | ((with_reducible apply and_more) <;> and_intros)
  | ((with_reducible apply and_one) <;> and_intros)
  | ((with_reducible apply or_more) <;> and_intros)
  | ((with_reducible apply or_one) <;> and_intros)
  | ((with_reducible apply chain_to) <;> and_intros)
  | ((with_reducible apply un_to) <;> and_intros)
  | ((with_reducible apply b2_to) <;> and_intros)
  | ((with_reducible apply tup_es) <;> and_intros)
  | ((with_reducible apply lst_es) <;> and_intros)
  | ((with_reducible apply es_cons) <;> and_intros)
  | with_reducible exact es_nil
  | ((with_reducible apply told_ev) <;> and_intros)
  | ((with_reducible apply r1_to) <;> and_intros)
  | ((with_reducible apply r2_to) <;> and_intros)
  | ((with_reducible apply seq_to2) <;> and_intros)
  | ((with_reducible apply en_to) <;> and_intros)
  | ((with_reducible apply turn_yes); (first | exact rfl | skip); and_intros)
  | ((with_reducible apply turn_ok); (first | exact rfl | skip); and_intros; and_intros)
  | ((with_reducible apply run_of) <;> and_intros)
  | ((with_reducible apply seq_ret) <;> and_intros)
  | ((with_reducible apply seq_set) <;> and_intros)
  | ((with_reducible apply seq_setC) <;> and_intros)
  | ((with_reducible apply seq_setF) <;> and_intros)
  | ((with_reducible apply seq_expr) <;> and_intros)
  | ((with_reducible apply seq_new0) <;> and_intros)
  | with_reducible exact items_l _ _
  | with_reducible exact items_t _ _
  | with_reducible exact sq_l _ _
  | with_reducible exact sq_t _ _
  | with_reducible exact o_add _ _
  | with_reducible exact o_and _ _
  | with_reducible exact o_or _ _
  | with_reducible exact o_xor _ _
  | with_reducible exact o_shr _ _
  | ((with_reducible apply o_shl1); omega)
  | ((with_reducible apply o_mod); (first | omega | decide))
  | ((with_reducible apply o_div) <;> (first | omega | decide))
  | ((with_reducible apply o_sub); omega)
  | with_reducible exact o_inv _
  | with_reducible exact o_neg _
  | with_reducible exact c_eq _ _
  | with_reducible exact c_ne _ _
  | with_reducible exact c_lt _ _
  | with_reducible exact c_le _ _
  | with_reducible exact c_gt _ _
  | with_reducible exact c_ge _ _
  | with_reducible exact c_in _ _
  | with_reducible exact c_inT _ _
  | with_reducible exact c_nin _ _
  | with_reducible exact c_ninT _ _
  | with_reducible exact b_lenL _ _
  | with_reducible exact b_lenT _ _
  | with_reducible exact b_len2 _ _
  | ((with_reducible apply sl_hi) <;> and_intros)
  | ((with_reducible apply sl_lo) <;> and_intros)
  | with_reducible exact s_takeL _ _ _
  | with_reducible exact s_takeT _ _ _
  | with_reducible exact s_dropL _ _ _
  | with_reducible exact s_dropT _ _ _
  | ((with_reducible apply zip_to) <;> and_intros)
  | with_reducible exact z_l _ _ _ _
  | with_reducible exact z_t _ _ _ _
  | with_reducible exact b_tup _
  | with_reducible exact b_lst _
  | with_reducible exact b_intB _
  | with_reducible exact b_intN _
  | with_reducible exact b_all _ _
  | with_reducible exact b_any _ _
  | with_reducible exact b_sum _ _
  | with_reducible exact b_max2 _ _
  | with_reducible exact b_min2 _ _
  | with_reducible exact pair_0 _ _
  | with_reducible exact pair_1 _ _
  | infer_instance
  | (intro _; and_intros)
  | omega
  | skip)
local macro_rules | `(tactic| infer_instance) => `(tactic| with_reducible exact known_things_eq _)
local macro_rules | `(tactic| infer_instance) => `(tactic| with_reducible exact known_size_eq _)
local macro_rules | `(tactic| infer_instance) => `(tactic| with_reducible exact things_eq _)
local macro_rules | `(tactic| infer_instance) => `(tactic| with_reducible exact size_eq _)
/-! the turn -/
def turnT : Sts := (.cons (.set 3 (.call "_law_family" f__law_family (.cell 1 (.cons (.int 6) (.cons (.int 6) .nil)))))
 (.cons (.set 4 (.ix (.var 3) (.int 0)))
 (.cons (.set 5 (.bin .sub (.bin .shl (.int 1) (.var 4)) (.int 1)))
 (.cons (.set 6 (.call "_law_choices" f__law_choices (.cons (.ix (.var 3) (.int 1)) .nil)))
 (.cons (.setC 7 (.lcIf [("rows", 8)] (.seq (.var 6)) (.nm 8) (.cmp .eq (.call "_law_union" f__law_union (.cons (.var 8) .nil)) (.var 5)) (.var 8)))
 (.cons (.setF 9 (.lcIf [("rows", 8)] (.seq (.var 6)) (.nm 8) (.ands (.cons (.cmp .notIn (.int 0) (.var 8)) (.cons (.call "_law_apart" f__law_apart (.cons (.var 8) .nil)) .nil))) (.var 8)))
 (.cons (.set 10 (.b1 .max (.lc [("rows", 8)] (.seq (.var 9)) (.nm 8) (.b1 .len (.var 8)))))
 (.cons (.ite (.not (.call "_law_same" f__law_same (.cons (.call "most_apart" f_most_apart (.cons (.var 3) .nil)) (.cons (.ix (.lcIf [("rows", 8)] (.seq (.var 9)) (.nm 8) (.cmp .eq (.b1 .len (.var 8)) (.var 10)) (.var 8)) (.int 0)) .nil))))
 (.cons (.ret (.bl false))
 .nil)
 .nil)
 (.cons (.set 11 (.lst (.cons (.told (.call "fewest_cover" f_fewest_cover (.cons (.var 3) .nil))) (.cons (.told (.call "cover_count" f_cover_count (.cons (.var 3) .nil))) (.cons (.told (.call "greedy_cover" f_greedy_cover (.cons (.var 3) .nil))) (.cons (.told (.call "parted" f_parted (.cons (.var 3) .nil))) .nil))))))
 (.cons (.setC 12 (.lcIf [("rows", 8)] (.seq (.var 7)) (.nm 8) (.cmp .isIn (.var 8) (.var 9)) (.var 8)))
 (.cons (.set 13 (.tup (.cons (.int 0) (.cons (.int 1) .nil))))
 (.cons (.for_ (.r2 (.int 1) (.bin .add (.b1 .max (.lc [("row", 15)] (.seq (.ix (.var 3) (.int 1))) (.nm 15) (.call "_law_size" f__law_size (.cons (.var 15) .nil)))) (.int 1))) (.nm 14)
 (.cons (.set 13 (.call "_law_plus" f__law_plus (.cons (.var 13) (.cons (.call "_law_fraction" f__law_fraction (.cons (.int 1) (.cons (.var 14) .nil))) .nil))))
 .nil))
 (.cons (.ite (.not (.call "_law_same" f__law_same (.cons (.call "greedy_bound" f_greedy_bound (.cons (.var 3) .nil)) (.cons (.var 13) .nil))))
 (.cons (.ret (.bl false))
 .nil)
 .nil)
 (.cons (.ite (.cmp .eq (.var 7) (.lst .nil))
 (.cons (.ite (.cmp .ne (.var 11) (.bin .mul (.lst (.cons (.tup (.cons (.str "missing") .nil)) .nil)) (.int 4)))
 (.cons (.ret (.bl false))
 .nil)
 .nil)
 .nil)
 (.cons (.set 16 (.ix (.var 7) (.int 0)))
 (.cons (.set 17 (.call "_law_greedy" f__law_greedy (.cons (.var 3) .nil)))
 (.cons (.set 18 (.lst (.cons (.tup (.cons (.str "told") (.cons (.var 16) .nil))) (.cons (.tup (.cons (.str "told") (.cons (.b1 .len (.lcIf [("rows", 8)] (.seq (.var 7)) (.nm 8) (.cmp .eq (.b1 .len (.var 8)) (.b1 .len (.var 16))) (.var 8))) .nil))) (.cons (.tup (.cons (.str "told") (.cons (.var 17) .nil))) (.cons (.ix (.lst (.cons (.tup (.cons (.str "told") (.cons (.ix (.bin .add (.var 12) (.lst (.cons (.int 0) .nil))) (.int 0)) .nil))) (.cons (.tup (.cons (.str "missing") .nil)) .nil))) (.b1 .int (.cmp .eq (.var 12) (.lst .nil)))) .nil))))))
 (.cons (.ite (.ors (.cons (.not (.call "_law_same" f__law_same (.cons (.var 11) (.cons (.var 18) .nil)))) (.cons (.cmp .gt (.bin .mul (.b1 .len (.var 17)) (.ix (.var 13) (.int 1))) (.bin .mul (.b1 .len (.var 16)) (.ix (.var 13) (.int 0)))) .nil)))
 (.cons (.ret (.bl false))
 .nil)
 .nil)
 .nil)))))
 (.cons (.setC 19 (.lc [("thing", 20)] (.r1 (.var 4)) (.nm 20) (.b1 .len (.lcIf [("row", 15)] (.seq (.ix (.var 3) (.int 1))) (.nm 15) (.cmp .eq (.bin .and (.bin .shr (.var 15) (.var 20)) (.int 1)) (.int 1)) (.var 15)))))
 (.cons (.ite (.not (.call "_law_same" f__law_same (.cons (.call "deepest" f_deepest (.cons (.var 3) .nil)) (.cons (.tup (.cons (.b1 .max (.var 19)) (.cons (.mth .index (.var 19) (.b1 .max (.var 19))) .nil))) .nil))))
 (.cons (.ret (.bl false))
 .nil)
 .nil)
 (.cons (.for_ (.r1 (.int 4)) (.nm 21)
 (.cons (.set 8 (.ix (.var 6) (.call "_law_next" f__law_next (.cell 1 (.cons (.b1 .len (.var 6)) .nil)))))
 (.cons (.ite (.not (.call "_law_same" f__law_same (.cons (.lst (.cons (.call "is_cover" f_is_cover (.cons (.var 3) (.cons (.var 8) .nil))) (.cons (.call "are_apart" f_are_apart (.cons (.var 3) (.cons (.var 8) .nil))) .nil))) (.cons (.lst (.cons (.cmp .eq (.call "_law_union" f__law_union (.cons (.var 8) .nil)) (.var 5)) (.cons (.call "_law_apart" f__law_apart (.cons (.var 8) .nil)) .nil))) .nil))))
 (.cons (.ret (.bl false))
 .nil)
 .nil)
 .nil)))
 (.cons (.ite (.cmp .gt (.b1 .len (.ix (.var 3) (.int 1))) (.int 1))
 (.cons (.set 22 (.call "_law_helly" f__law_helly (.cons (.var 3) .nil)))
 (.cons (.ite (.ors (.cons (.not (.call "_law_same" f__law_same (.cons (.call "least_all_meet" f_least_all_meet (.cons (.var 3) .nil)) (.cons (.var 22) .nil)))) (.cons (.not (.call "_law_helly_holds" f__law_helly_holds (.cons (.var 3) (.cons (.var 22) .nil)))) .nil)))
 (.cons (.ret (.bl false))
 .nil)
 .nil)
 .nil))
 (.cons (.ite (.cmp .ne (.told (.call "least_all_meet" f_least_all_meet (.cons (.var 3) .nil))) (.tup (.cons (.str "refused") .nil)))
 (.cons (.ret (.bl false))
 .nil)
 .nil)
 .nil))
 (.cons (.for_ (.seq (.call "_law_bad_families" f__law_bad_families .nil)) (.nm 23)
 (.cons (.set 24 (.lst (.cons (.told (.call "fewest_cover" f_fewest_cover (.cons (.var 23) .nil))) (.cons (.told (.call "deepest" f_deepest (.cons (.var 23) .nil))) (.cons (.told (.call "greedy_bound" f_greedy_bound (.cons (.var 23) .nil))) .nil)))))
 (.cons (.ite (.cmp .ne (.var 24) (.bin .mul (.lst (.cons (.tup (.cons (.str "refused") .nil)) .nil)) (.int 3)))
 (.cons (.ret (.bl false))
 .nil)
 .nil)
 .nil)))
 (.cons (.set 24 (.lst (.cons (.told (.call "is_cover" f_is_cover (.cons (.tup (.cons (.int 2) (.cons (.tup (.cons (.int 1) .nil)) .nil))) (.cons (.tup (.cons (.int 2) .nil)) .nil)))) (.cons (.told (.call "are_apart" f_are_apart (.cons (.tup (.cons (.int 2) (.cons (.tup (.cons (.int 1) .nil)) .nil))) (.cons (.tup (.cons (.int 3) .nil)) .nil)))) (.cons (.told (.call "least_all_meet" f_least_all_meet (.cons (.tup (.cons (.int 4) (.cons (.rg1 true (.int 11)) .nil))) .nil))) (.cons (.told (.call "fewest_cover" f_fewest_cover (.cons (.tup (.cons (.int 4) (.cons (.rg1 true (.int 15)) .nil))) .nil))) (.cons (.told (.call "most_apart" f_most_apart (.cons (.tup (.cons (.int 4) (.cons (.rg1 true (.int 15)) .nil))) .nil))) .nil)))))))
 (.cons (.ite (.cmp .ne (.var 24) (.bin .add (.bin .mul (.lst (.cons (.tup (.cons (.str "refused") .nil)) .nil)) (.int 3)) (.bin .mul (.lst (.cons (.tup (.cons (.str "large") .nil)) .nil)) (.int 2))))
 (.cons (.ret (.bl false))
 .nil)
 .nil)
 .nil)))))))))))))))))))))
theorem law_rest : b_law.rest.den = sSeq ((St.for_ (.r1 (.int 2)) (.nm 2) turnT).den) (sSeq (St.ret (.cmp .eq (.glob "MAX_COVERED" (.int 14)) (.int 14))).den sNil) := rfl
def lpB1 : Sts := (.cons (.set 13 (.call "_law_plus" f__law_plus (.cons (.var 13) (.cons (.call "_law_fraction" f__law_fraction (.cons (.int 1) (.cons (.var 14) .nil))) .nil))))
 .nil)
def lpB2 : Sts := (.cons (.set 8 (.ix (.var 6) (.call "_law_next" f__law_next (.cell 1 (.cons (.b1 .len (.var 6)) .nil)))))
 (.cons (.ite (.not (.call "_law_same" f__law_same (.cons (.lst (.cons (.call "is_cover" f_is_cover (.cons (.var 3) (.cons (.var 8) .nil))) (.cons (.call "are_apart" f_are_apart (.cons (.var 3) (.cons (.var 8) .nil))) .nil))) (.cons (.lst (.cons (.cmp .eq (.call "_law_union" f__law_union (.cons (.var 8) .nil)) (.var 5)) (.cons (.call "_law_apart" f__law_apart (.cons (.var 8) .nil)) .nil))) .nil))))
 (.cons (.ret (.bl false))
 .nil)
 .nil)
 .nil))
def lpB3 : Sts := (.cons (.set 24 (.lst (.cons (.told (.call "fewest_cover" f_fewest_cover (.cons (.var 23) .nil))) (.cons (.told (.call "deepest" f_deepest (.cons (.var 23) .nil))) (.cons (.told (.call "greedy_bound" f_greedy_bound (.cons (.var 23) .nil))) .nil)))))
 (.cons (.ite (.cmp .ne (.var 24) (.bin .mul (.lst (.cons (.tup (.cons (.str "refused") .nil)) .nil)) (.int 3)))
 (.cons (.ret (.bl false))
 .nil)
 .nil)
 .nil))
def midS : St := (.ite (.cmp .eq (.var 7) (.lst .nil))
 (.cons (.ite (.cmp .ne (.var 11) (.bin .mul (.lst (.cons (.tup (.cons (.str "missing") .nil)) .nil)) (.int 4)))
 (.cons (.ret (.bl false))
 .nil)
 .nil)
 .nil)
 (.cons (.set 16 (.ix (.var 7) (.int 0)))
 (.cons (.set 17 (.call "_law_greedy" f__law_greedy (.cons (.var 3) .nil)))
 (.cons (.set 18 (.lst (.cons (.tup (.cons (.str "told") (.cons (.var 16) .nil))) (.cons (.tup (.cons (.str "told") (.cons (.b1 .len (.lcIf [("rows", 8)] (.seq (.var 7)) (.nm 8) (.cmp .eq (.b1 .len (.var 8)) (.b1 .len (.var 16))) (.var 8))) .nil))) (.cons (.tup (.cons (.str "told") (.cons (.var 17) .nil))) (.cons (.ix (.lst (.cons (.tup (.cons (.str "told") (.cons (.ix (.bin .add (.var 12) (.lst (.cons (.int 0) .nil))) (.int 0)) .nil))) (.cons (.tup (.cons (.str "missing") .nil)) .nil))) (.b1 .int (.cmp .eq (.var 12) (.lst .nil)))) .nil))))))
 (.cons (.ite (.ors (.cons (.not (.call "_law_same" f__law_same (.cons (.var 11) (.cons (.var 18) .nil)))) (.cons (.cmp .gt (.bin .mul (.b1 .len (.var 17)) (.ix (.var 13) (.int 1))) (.bin .mul (.b1 .len (.var 16)) (.ix (.var 13) (.int 0)))) .nil)))
 (.cons (.ret (.bl false))
 .nil)
 .nil)
 .nil)))))
def helS : St := (.ite (.cmp .gt (.b1 .len (.ix (.var 3) (.int 1))) (.int 1))
 (.cons (.set 22 (.call "_law_helly" f__law_helly (.cons (.var 3) .nil)))
 (.cons (.ite (.ors (.cons (.not (.call "_law_same" f__law_same (.cons (.call "least_all_meet" f_least_all_meet (.cons (.var 3) .nil)) (.cons (.var 22) .nil)))) (.cons (.not (.call "_law_helly_holds" f__law_helly_holds (.cons (.var 3) (.cons (.var 22) .nil)))) .nil)))
 (.cons (.ret (.bl false))
 .nil)
 .nil)
 .nil))
 (.cons (.ite (.cmp .ne (.told (.call "least_all_meet" f_least_all_meet (.cons (.var 3) .nil))) (.tup (.cons (.str "refused") .nil)))
 (.cons (.ret (.bl false))
 .nil)
 .nil)
 .nil))
def TurnEnd (s0 s2 : Slot) (n : Nat) (r : Res Fl) : Prop := ∃ (s3 s4 s5 s6 s7 s8 s9 s10 s11 s12 s13 s14 s15 s16 s17 s18 s19 s20 s21 s22 s23 s24 : Slot) (S' : SS), r = .ok (.nx [s0, .cell, s2, s3, s4, s5, s6, s7, s8, s9, s10, s11, s12, s13, s14, s15, s16, s17, s18, s19, s20, s21, s22, s23, s24]) S' ∧ StOk (n + 300) S'
theorem bd_small (k : Nat) : (bdP k).1 ≤ 2 ^ 8 ∧ (bdP k).2 ≤ 2 ^ 8 := by
  match k with
  | 0 | 1 | 2 | 3 | 4 | 5 => decide
  | k + 6 => exact ⟨by show 49 ≤ 2 ^ 8; decide, by show 20 ≤ 2 ^ 8; decide⟩
theorem mid_end {m : Nat} {l : List Nat} (g : Good m l) (hm : m ≤ 6) (ne : l ≠ []) (hl : l.length ≤ 8) (s0 s2 s4 s5 s6 s8 s9 s10 s14 s15 s16 s17 s18 s19 s20 s21 s22 s23 s24 : Slot) : ∃ t16 t17 t18, midS.den [s0, .cell, s2, .val (fam m l), s4, s5, s6, .val (.list ((covP m l).map tD)), s8, s9, s10, .val (.list [toldF ((fewP m l).map tD), toldF ((fewP m l).map fun b => kN (cntP m l b)), toldF ((greedP m l).map lD), toldF (((chs l).find? (isPart m)).map tD)]), .val (.list (((covP m l).filter fun x => (packP l).contains x).map tD)), .val (prN (bdP (topS l))), s14, s15, s16, s17, s18, s19, s20, s21, s22, s23, s24] = pure (.nx [s0, .cell, s2, .val (fam m l), s4, s5, s6, .val (.list ((covP m l).map tD)), s8, s9, s10, .val (.list [toldF ((fewP m l).map tD), toldF ((fewP m l).map fun b => kN (cntP m l b)), toldF ((greedP m l).map lD), toldF (((chs l).find? (isPart m)).map tD)]), .val (.list (((covP m l).filter fun x => (packP l).contains x).map tD)), .val (prN (bdP (topS l))), s14, s15, t16, t17, t18, s19, s20, s21, s22, s23, s24]) := by
  have ce : (E.cmp .eq (.var 7) (.lst .nil)).den [s0, .cell, s2, .val (fam m l), s4, s5, s6, .val (.list ((covP m l).map tD)), s8, s9, s10, .val (.list [toldF ((fewP m l).map tD), toldF ((fewP m l).map fun b => kN (cntP m l b)), toldF ((greedP m l).map lD), toldF (((chs l).find? (isPart m)).map tD)]), .val (.list (((covP m l).filter fun x => (packP l).contains x).map tD)), .val (prN (bdP (topS l))), s14, s15, s16, s17, s18, s19, s20, s21, s22, s23, s24] = pure (.bool (covP m l).isEmpty) := cmp_to (x := .list ((covP m l).map tD)) (y := .list []) rfl rfl (by rw [cop_eq, eq_nil _ ((lay_tups _).shaped (by decide)), emp_map])
  have l7 : ∀ r ∈ l, r < 2 ^ 7 := fun r hr => Nat.lt_of_lt_of_le (g.lt r hr) (Nat.pow_le_pow_right (by decide) g.few)
  have p8 : 2 ^ l.length ≤ 2 ^ 8 := Nat.pow_le_pow_right (by decide) hl
  have cl := chs_lenP l
  cases hf : fewP m l with
  | none =>
    obtain ⟨h1, h2, h3⟩ := few_none g hf
    have h3 : covP m l = [] := h3
    rw [h3] at ce ⊢
    rw [hf, h1, h2] at ce
    rw [h1, h2]
    refine ⟨s16, s17, s18, ite_to ce ?_⟩
    exact seq_to (ite_to (v := false) (cmp_to (x := .list (["missing", "missing", "missing", "missing"].map wd)) (y := .list (["missing", "missing", "missing", "missing"].map wd)) rfl (bin_to (x := .list [wd "missing"]) (y := kN 4) rfl rfl (rep_list _ (by decide) (by decide))) (ne_words _ (by decide))) rfl) rfl
  | some b =>
    obtain ⟨res, h1, h2, h4, h3⟩ := few_some g hm hf
    have hd := cov_head hf
    have cn : (covP m l).isEmpty = false := by
      cases z : covP m l with
      | nil => rw [z] at hd; cases hd
      | cons a r => rfl
    have bm : b ∈ chs l := List.mem_of_find?_eq_some hf
    rw [cn, hf, h1] at ce
    rw [h1]
    refine ⟨.val (tD b), .val (lD res), .val (.list [toldF (some (tD b)), toldF (some (kN (cntP m l b))), toldF (some (lD res)), toldF (((chs l).find? (isPart m)).map tD)]), ite_to ce ?_⟩
    rw [if_neg (by simp)]
    refine seq_to (ρ1 := [s0, .cell, s2, .val (fam m l), s4, s5, s6, .val (.list ((covP m l).map tD)), s8, s9, s10, .val (.list [toldF (some (tD b)), toldF (some (kN (cntP m l b))), toldF (some (lD res)), toldF (((chs l).find? (isPart m)).map tD)]), .val (.list (((covP m l).filter fun x => (packP l).contains x).map tD)), .val (prN (bdP (topS l))), s14, s15, .val (tD b), s17, s18, s19, s20, s21, s22, s23, s24]) (set_to (ix_to (x := .list ((covP m l).map tD)) (y := kN 0) rfl rfl (ixL tD hd))) ?_
    refine seq_to (ρ1 := [s0, .cell, s2, .val (fam m l), s4, s5, s6, .val (.list ((covP m l).map tD)), s8, s9, s10, .val (.list [toldF (some (tD b)), toldF (some (kN (cntP m l b))), toldF (some (lD res)), toldF (((chs l).find? (isPart m)).map tD)]), .val (.list (((covP m l).filter fun x => (packP l).contains x).map tD)), .val (prN (bdP (topS l))), s14, s15, .val (tD b), .val (lD res), s18, s19, s20, s21, s22, s23, s24]) (set_to (call1_to (u := fam m l) rfl (law_greedy_eq g ne h1))) ?_
    refine seq_to (ρ1 := [s0, .cell, s2, .val (fam m l), s4, s5, s6, .val (.list ((covP m l).map tD)), s8, s9, s10, .val (.list [toldF (some (tD b)), toldF (some (kN (cntP m l b))), toldF (some (lD res)), toldF (((chs l).find? (isPart m)).map tD)]), .val (.list (((covP m l).filter fun x => (packP l).contains x).map tD)), .val (prN (bdP (topS l))), s14, s15, .val (tD b), .val (lD res), .val (.list [toldF (some (tD b)), toldF (some (kN (cntP m l b))), toldF (some (lD res)), toldF (((chs l).find? (isPart m)).map tD)]), s19, s20, s21, s22, s23, s24]) (set_to (lst_es (es_cons rfl (es_cons (tup_es (es_cons rfl (es_cons (b1_to (d := .list (((covP m l).filter fun x => x.length == b.length).map tD)) (lcIf_ev (l := covP m l) (h := tD) (g := tD) (p := fun x => x.length == b.length) (seq_to2 (d := .list ((covP m l).map tD)) rfl rfl) fun x hx => turn_ok rfl (cmp_to (x := kN x.length) (y := kN b.length) (b1_to (d := tD x) rfl (b_lenT x kN)) (b1_to (d := tD b) rfl (b_lenT b kN)) (c_eq _ _)) fun _ => rfl) ((b_lenL _ tD).trans (by rw [cov_cnt]))) es_nil))) (es_cons rfl (es_cons ((pick_to (l := (covP m l).filter fun x => (packP l).contains x) (h := tD) (n := 1) rfl rfl (fun _ _ => lay_tD _) (by decide) (Nat.le_trans (List.length_filter_le _ _) (Nat.le_trans (List.length_filter_le _ _) (by omega)))).trans (by rw [exact_is])) es_nil)))))) ?_
    refine seq_to (ite_to (v := false) (or_more (u := false) (not_to (u := true) ?_) fun _ => or_one ?_) rfl) rfl
    · refine call2_to (u := .list [toldF (some (tD b)), toldF (some (kN (cntP m l b))), toldF (some (lD res)), toldF (((chs l).find? (isPart m)).map tD)]) (v := .list [toldF (some (tD b)), toldF (some (kN (cntP m l b))), toldF (some (lD res)), toldF (((chs l).find? (isPart m)).map tD)]) rfl rfl (same_eq (sho_lst (n := 3) (w := 3000) 4 (sl_cons (told_sho (row_sho bm hl l7) (by decide)) (sl_cons (told_sho ((sho_nat (k := 250) (n := cntP m l b) ?_ (by decide) (by decide))) (by decide)) (sl_cons (told_sho ((sho_natsL (b := 7) 7 (fun r hr => l7 r (h4 r hr)) h2).up (Nat.le_refl _) (show _ ≤ 300 by decide)) (by decide)) (sl_cons (toldF_sho (n := 1) (w := 1000) (fun d hd => ?_) (by decide)) sl_nil)))) (by simp)) (by decide) (by decide))
      · have : cntP m l b ≤ (chs l).length := List.length_filter_le _ _
        exact Nat.lt_of_le_of_lt (show _ ≤ 2 ^ 9 by omega) (Nat.pow_lt_pow_right (by decide) (by decide))
      · obtain ⟨x, hx, rfl⟩ := Option.map_eq_some_iff.mp hd
        exact row_sho (isMem_told hx) hl l7
    · refine cmp_to (x := kN (res.length * (bdP (topS l)).2)) (y := kN (b.length * (bdP (topS l)).1)) (bin_to (x := kN res.length) (y := kN (bdP (topS l)).2) (b1_to (d := lD res) rfl (b_lenL _ kN)) (ix_to (x := prN (bdP (topS l))) (y := kN 1) rfl rfl (pair_1 _ _)) (o_mul (Nat.le_trans (show _ ≤ 2 ^ 3 by omega) (Nat.pow_le_pow_right (by decide) (by decide))) (Nat.le_trans (bd_small _).2 (Nat.pow_le_pow_right (by decide) (by decide))))) (bin_to (x := kN b.length) (y := kN (bdP (topS l)).1) (b1_to (d := tD b) rfl (b_lenT _ kN)) (ix_to (x := prN (bdP (topS l))) (y := kN 0) rfl rfl (pair_0 _ _)) (o_mul (Nat.le_trans (show _ ≤ 2 ^ 4 by have := sub_len bm; omega) (Nat.pow_le_pow_right (by decide) (by decide))) (Nat.le_trans (bd_small _).1 (Nat.pow_le_pow_right (by decide) (by decide))))) ((c_gt _ _).trans (by rw [decide_eq_false (by omega)]))
theorem best_small {l : List Nat} : ∀ (L : List (List Nat)) (b : Nat), (∀ x ∈ L, x.length ≤ l.length) → bestC L b ≤ max b l.length
  | [], b, _ => by simp [bestC]; omega
  | x :: L, b, h => by
    have hx := h x (by simp)
    have i := best_small (l := l) L (if critP x = true then max b x.length else b) fun y hy => h y (by simp [hy])
    have e : bestC (x :: L) b = bestC L (if critP x = true then max b x.length else b) := rfl
    rw [e]
    have q : (if critP x = true then max b x.length else b) ≤ max b x.length := by split <;> omega
    generalize (if critP x = true then max b x.length else b) = z at *
    omega
theorem helly_small (l : List Nat) (hl : l.length ≤ 8) : hellyP l < 2 ^ 100 := by
  have := best_small (l := l) (chs l) 1 fun x hx => sub_len hx
  exact Nat.lt_of_le_of_lt (show hellyP l ≤ 2 ^ 4 by unfold hellyP; omega) (Nat.pow_lt_pow_right (by decide) (by decide))
theorem hel_end {m : Nat} {l : List Nat} (g : Good m l) (hl : l.length ≤ 8) (ne : l ≠ []) (s0 s2 s4 s5 s6 s7 s8 s9 s10 s11 s12 s13 s14 s15 s16 s17 s18 s19 s20 s21 s22 s23 s24 : Slot) : ∃ t22, helS.den [s0, .cell, s2, .val (fam m l), s4, s5, s6, s7, s8, s9, s10, s11, s12, s13, s14, s15, s16, s17, s18, s19, s20, s21, s22, s23, s24] = pure (.nx [s0, .cell, s2, .val (fam m l), s4, s5, s6, s7, s8, s9, s10, s11, s12, s13, s14, s15, s16, s17, s18, s19, s20, s21, t22, s23, s24]) := by
  have lp : 0 < l.length := List.length_pos_iff.mpr ne
  have c : (E.cmp .gt (.b1 .len (.ix (.var 3) (.int 1))) (.int 1)).den [s0, .cell, s2, .val (fam m l), s4, s5, s6, s7, s8, s9, s10, s11, s12, s13, s14, s15, s16, s17, s18, s19, s20, s21, s22, s23, s24] = pure (.bool (decide (1 < l.length))) := cmp_to (x := kN l.length) (y := kN 1) (b1_to (d := tD l) (ix_to (x := fam m l) (y := kN 1) rfl rfl (pair_1 _ _)) (b_lenT l kN)) rfl (c_gt _ _)
  by_cases h : 1 < l.length
  · rw [decide_eq_true h] at c
    refine ⟨.val (kN (hellyP l)), ite_to c ?_⟩
    rw [if_pos rfl]
    refine seq_to (ρ1 := [s0, .cell, s2, .val (fam m l), s4, s5, s6, s7, s8, s9, s10, s11, s12, s13, s14, s15, s16, s17, s18, s19, s20, s21, .val (kN (hellyP l)), s23, s24]) (set_to (call1_to (u := fam m l) rfl (law_helly_eq (by omega)))) (seq_to (ite_to (v := false) (or_more (u := false) (not_to (u := true) (call2_to (u := kN (hellyP l)) (v := kN (hellyP l)) (call1_to (u := fam m l) rfl (meet_eq g (by omega) (by omega))) rfl (same_eq (sho_nat (k := 100) (helly_small l hl) (by decide) (by decide)) (by decide) (by decide)))) fun _ => or_one (not_to (u := true) (call2_to (u := fam m l) (v := kN (hellyP l)) rfl rfl (holds_eq (by omega))))) rfl) rfl)
  · rw [decide_eq_false h] at c
    refine ⟨s22, ite_to c ?_⟩
    rw [if_neg (by simp)]
    exact seq_to (ite_to (v := false) (cmp_to (x := wd "refused") (y := wd "refused") (told_na (call1_to (u := fam m l) rfl (meet_bad g (by omega)))) rfl (ne_wd _ (by decide))) rfl) rfl
theorem loop3_end (s0 s2 s3 s4 s5 s6 s7 s8 s9 s10 s11 s12 s13 s14 s15 s16 s17 s18 s19 s20 s21 s22 s23 s24 : Slot) : ∃ t23 t24, forN (T.nm 23).den lpB3.den bads [s0, .cell, s2, s3, s4, s5, s6, s7, s8, s9, s10, s11, s12, s13, s14, s15, s16, s17, s18, s19, s20, s21, s22, s23, s24] = pure (.nx [s0, .cell, s2, s3, s4, s5, s6, s7, s8, s9, s10, s11, s12, s13, s14, s15, s16, s17, s18, s19, s20, s21, s22, t23, t24]) := by
  obtain ⟨ρ, e, t23, t24, rfl⟩ := for_all (t := (T.nm 23).den) (mb := lpB3.den) (fun d : D => d) (fun pre ρ => ∃ t23 t24, ρ = [s0, .cell, s2, s3, s4, s5, s6, s7, s8, s9, s10, s11, s12, s13, s14, s15, s16, s17, s18, s19, s20, s21, s22, t23, t24]) bads [s0, .cell, s2, s3, s4, s5, s6, s7, s8, s9, s10, s11, s12, s13, s14, s15, s16, s17, s18, s19, s20, s21, s22, s23, s24] ⟨_, _, rfl⟩ (by
    rintro pre a suf ρ hp ⟨t23, t24, rfl⟩
    have ha : a ∈ bads := by rw [hp]; simp
    refine ⟨_, [s0, .cell, s2, s3, s4, s5, s6, s7, s8, s9, s10, s11, s12, s13, s14, s15, s16, s17, s18, s19, s20, s21, s22, .val a, .val (.list (["refused", "refused", "refused"].map wd))], rfl, ?_, _, _, rfl⟩
    refine seq_to (set_to (lst_es (es_cons (told_na (call1_to rfl (few_bad ha))) (es_cons (told_na (call1_to rfl (deep_bad ha))) (es_cons (told_na (call1_to rfl (bound_bad ha))) es_nil))))) (seq_to (ite_to (v := false) (cmp_to (x := .list (["refused", "refused", "refused"].map wd)) (y := .list (["refused", "refused", "refused"].map wd)) rfl (bin_to (x := .list [wd "refused"]) (y := kN 3) rfl rfl (rep_list _ (by decide) (by decide))) (ne_words _ (by decide))) rfl) rfl))
  rw [List.map_id'] at e
  exact ⟨t23, t24, e⟩
theorem loop1_end {k : Nat} (hk : k ≤ 6) (s0 s2 s3 s4 s5 s6 s7 s8 s9 s10 s11 s12 s14 s15 s16 s17 s18 s19 s20 s21 s22 s23 s24 : Slot) : ∃ t14, forN (T.nm 14).den lpB1.den ((List.range' 1 k).map kN) [s0, .cell, s2, s3, s4, s5, s6, s7, s8, s9, s10, s11, s12, .val (prN (bdP 0)), s14, s15, s16, s17, s18, s19, s20, s21, s22, s23, s24] = pure (.nx [s0, .cell, s2, s3, s4, s5, s6, s7, s8, s9, s10, s11, s12, .val (prN (bdP k)), t14, s15, s16, s17, s18, s19, s20, s21, s22, s23, s24]) := by
  obtain ⟨ρ, e, t14, rfl⟩ := for_all (t := (T.nm 14).den) (mb := lpB1.den) kN (fun pre ρ => ∃ t14, ρ = [s0, .cell, s2, s3, s4, s5, s6, s7, s8, s9, s10, s11, s12, .val (prN (bdP pre.length)), t14, s15, s16, s17, s18, s19, s20, s21, s22, s23, s24]) (List.range' 1 k) [s0, .cell, s2, s3, s4, s5, s6, s7, s8, s9, s10, s11, s12, .val (prN (bdP 0)), s14, s15, s16, s17, s18, s19, s20, s21, s22, s23, s24] ⟨_, rfl⟩ (by
    rintro pre a suf ρ hp ⟨t14, rfl⟩
    obtain ⟨rfl, lt⟩ := rng1_pos hp
    refine ⟨_, [s0, .cell, s2, s3, s4, s5, s6, s7, s8, s9, s10, s11, s12, .val (prN (bdP (pre.length + 1))), .val (kN (pre.length + 1)), s15, s16, s17, s18, s19, s20, s21, s22, s23, s24], rfl, ?_, _, by rw [List.length_append, List.length_singleton]⟩
    exact seq_to (set_to (call2_to (u := prN (bdP pre.length)) (v := prN (1, pre.length + 1)) rfl (call2_to (u := kN 1) (v := kN (pre.length + 1)) rfl rfl (map_at frac_all pre.length (List.mem_range.mpr (by omega)))) (map_at plus_all pre.length (List.mem_range.mpr (by omega))))) rfl)
  rw [List.length_range'] at e
  exact ⟨t14, e⟩
theorem loop2_end {m : Nat} {l : List Nat} (g : Good m l) (hl : l.length ≤ 8) {n : Nat} {S : SS} (h : StOk n S) (hn : n ≤ 2 ^ 29) (s0 s2 s4 s7 s8 s9 s10 s11 s12 s13 s14 s15 s16 s17 s18 s19 s20 s21 s22 s23 s24 : Slot) : ∃ t8 t21 S', forN (T.nm 21).den lpB2.den ((List.range 4).map kN) [s0, .cell, s2, .val (fam m l), s4, .val (kN (2 ^ m - 1)), .val (.list ((chs l).map tD)), s7, s8, s9, s10, s11, s12, s13, s14, s15, s16, s17, s18, s19, s20, s21, s22, s23, s24] S = .ok (.nx [s0, .cell, s2, .val (fam m l), s4, .val (kN (2 ^ m - 1)), .val (.list ((chs l).map tD)), s7, t8, s9, s10, s11, s12, s13, s14, s15, s16, s17, s18, s19, s20, t21, s22, s23, s24]) S' ∧ StOk (n + 4) S' := by
  have p8 : 2 ^ l.length ≤ 2 ^ 8 := Nat.pow_le_pow_right (by decide) hl
  have p0 := Nat.two_pow_pos l.length
  have cl := chs_lenP l
  obtain ⟨ρ, S', e, ⟨t8, t21, rfl⟩, h'⟩ := for_allS (t := (T.nm 21).den) (mb := lpB2.den) kN (fun pre ρ S => (∃ t8 t21, ρ = [s0, .cell, s2, .val (fam m l), s4, .val (kN (2 ^ m - 1)), .val (.list ((chs l).map tD)), s7, t8, s9, s10, s11, s12, s13, s14, s15, s16, s17, s18, s19, s20, t21, s22, s23, s24]) ∧ StOk (n + pre.length) S) (List.range 4) [s0, .cell, s2, .val (fam m l), s4, .val (kN (2 ^ m - 1)), .val (.list ((chs l).map tD)), s7, s8, s9, s10, s11, s12, s13, s14, s15, s16, s17, s18, s19, s20, s21, s22, s23, s24] S ⟨⟨_, _, rfl⟩, h⟩ (by
    rintro pre a suf ρ S hp ⟨⟨t8, t21, rfl⟩, hS⟩
    have lp := congrArg List.length hp
    rw [List.length_range, List.length_append, List.length_cons] at lp
    obtain ⟨v, S1, v1, e1, h1⟩ := draw (m := (chs l).length) hS (by omega) (by omega)
    obtain ⟨x, hx⟩ : ∃ x, (chs l)[v]? = some x := ⟨_, List.getElem?_eq_getElem v1⟩
    have xm : x ∈ chs l := List.mem_of_getElem? hx
    have xl := sub_len xm
    refine ⟨_, [s0, .cell, s2, .val (fam m l), s4, .val (kN (2 ^ m - 1)), .val (.list ((chs l).map tD)), s7, .val (tD x), s9, s10, s11, s12, s13, s14, s15, s16, s17, s18, s19, s20, .val (kN a), s22, s23, s24], S1, rfl, ?_, ⟨_, _, rfl⟩, by rw [List.length_append, List.length_singleton]; exact h1⟩
    refine seqS (S1 := S1) (ρ1 := [s0, .cell, s2, .val (fam m l), s4, .val (kN (2 ^ m - 1)), .val (.list ((chs l).map tD)), s7, .val (tD x), s9, s10, s11, s12, s13, s14, s15, s16, s17, s18, s19, s20, .val (kN a), s22, s23, s24]) (setS_to ((ixS_to (x := .list ((chs l).map tD)) rfl (callcE (k := (chs l).length) rfl (b1_to (d := .list ((chs l).map tD)) rfl (b_lenL _ tD)) e1) (ixL tD hx)).trans rfl)) ?_
    exact at_pure (seq_to (ite_to (v := false) (not_to (u := true) (call2_to (u := .list [.bool (isCov m x), .bool (apartP x)]) (v := .list [.bool (isCov m x), .bool (apartP x)]) (lst_es (es_cons (call2_to (u := fam m l) (v := tD x) rfl rfl (cover_eq g (mem_chs.mp xm))) (es_cons (call2_to (u := fam m l) (v := tD x) rfl rfl (are_apart_eq g (mem_chs.mp xm) (by omega))) es_nil))) (lst_es (es_cons (cmp_to (x := kN (unionP x)) (y := kN (2 ^ m - 1)) (call1_to (u := tD x) rfl (law_union_eq rfl)) rfl (c_eq _ _)) (es_cons (call1_to (u := tD x) rfl (law_apart_eq (by omega))) es_nil))) (same_eq (sho_lst (n := 0) (w := 5) 2 (sl_cons (sho_bool _) (sl_cons (sho_bool _) sl_nil)) (by simp)) (by decide) (by decide)))) rfl) rfl))
  rw [List.length_range] at h'
  exact ⟨t8, t21, S', e, h'⟩
theorem most_mem (l : List Nat) : mostP l ∈ chs l := by
  have := List.mem_of_getElem? (most_head l)
  exact (List.mem_filter.mp (List.mem_filter.mp this).1).1
theorem max_deps {m : Nat} {l : List Nat} {ρ : Env} {i : Nat} (d1 : depN m l ∈ depsP m l) (d2 : ∀ a ∈ depsP m l, a ≤ depN m l) (h : ρ.getD i .none = .val (lD (depsP m l))) : (E.b1 .max (.var i)).den ρ = pure (kN (depN m l)) := b1_to (d := .list ((depsP m l).map fun a => kN a)) (var_at h) (b_maxN ⟨_, d1, rfl⟩ d2)
theorem deps_small {m : Nat} {l : List Nat} (d1 : depN m l ∈ depsP m l) (hl : l.length ≤ 8) : depN m l < 2 ^ 9 := by
  obtain ⟨t, _, e⟩ := List.mem_map.mp d1
  have : depP l t ≤ l.length := List.length_filter_le _ _
  omega
theorem turn_end {n : Nat} {S : SS} (h : StOk n S) (hn : n ≤ 2 ^ 28) (s0 s2 s3 s4 s5 s6 s7 s8 s9 s10 s11 s12 s13 s14 s15 s16 s17 s18 s19 s20 s21 s22 s23 s24 : Slot) : TurnEnd s0 s2 n (turnT.den [s0, .cell, s2, s3, s4, s5, s6, s7, s8, s9, s10, s11, s12, s13, s14, s15, s16, s17, s18, s19, s20, s21, s22, s23, s24] S) := by
  obtain ⟨m, l, S1, e1, g, hm, ne, hl, h1⟩ := family_eq h (by omega) (most := 6) (rm := 6) (by decide) (by decide) (by decide) (by decide)
  have m1 := g.one
  have l7 : ∀ r ∈ l, r < 2 ^ 7 := fun r hr => Nat.lt_of_lt_of_le (g.lt r hr) (Nat.pow_le_pow_right (by decide) g.few)
  have p0 := Nat.two_pow_pos m
  have tl := topS_le hm g.lt
  obtain ⟨d1, d2⟩ := dep_is (l := l) m1
  simp only [turnT, den_Sts_cons, den_Sts_nil]
  refine endS (ρ1 := [s0, .cell, s2, .val (fam m l), s4, s5, s6, s7, s8, s9, s10, s11, s12, s13, s14, s15, s16, s17, s18, s19, s20, s21, s22, s23, s24]) (S1 := S1) (setS_to (callc2S rfl (u := kN 6) (v := kN 6) rfl rfl e1)) ?_
  refine endP (ρ1 := [s0, .cell, s2, .val (fam m l), .val (kN m), s5, s6, s7, s8, s9, s10, s11, s12, s13, s14, s15, s16, s17, s18, s19, s20, s21, s22, s23, s24]) (set_to (ix_to (x := fam m l) (y := kN 0) rfl rfl (pair_0 _ _))) ?_
  refine endP (ρ1 := [s0, .cell, s2, .val (fam m l), .val (kN m), .val (kN (2 ^ m - 1)), s6, s7, s8, s9, s10, s11, s12, s13, s14, s15, s16, s17, s18, s19, s20, s21, s22, s23, s24]) (set_to (bin_to (x := kN (2 ^ m)) (y := kN 1) (bin_to (x := kN 1) (y := kN m) rfl rfl (o_shl1 (by omega))) rfl (o_sub (by omega)))) ?_
  refine endP (ρ1 := [s0, .cell, s2, .val (fam m l), .val (kN m), .val (kN (2 ^ m - 1)), .val (.list ((chs l).map tD)), s7, s8, s9, s10, s11, s12, s13, s14, s15, s16, s17, s18, s19, s20, s21, s22, s23, s24]) (set_to (call1_to (ix_to (x := fam m l) (y := kN 1) rfl rfl (pair_1 _ _)) (choices_eq (by omega) rfl))) ?_
  refine endP (ρ1 := [s0, .cell, s2, .val (fam m l), .val (kN m), .val (kN (2 ^ m - 1)), .val (.list ((chs l).map tD)), .val (.list ((covP m l).map tD)), s8, s9, s10, s11, s12, s13, s14, s15, s16, s17, s18, s19, s20, s21, s22, s23, s24]) (setC_to (lcIf_ev (l := chs l) (h := tD) (g := tD) (p := isCov m) (seq_to2 (d := .list ((chs l).map tD)) rfl rfl) fun x hx => turn_ok rfl (cmp_to (x := kN (unionP x)) (y := kN (2 ^ m - 1)) (call1_to (u := tD x) rfl (law_union_eq rfl)) rfl (c_eq _ _)) fun _ => rfl)) ?_
  refine endP (ρ1 := [s0, .cell, s2, .val (fam m l), .val (kN m), .val (kN (2 ^ m - 1)), .val (.list ((chs l).map tD)), .val (.list ((covP m l).map tD)), s8, .val (.list ((packP l).map tD)), s10, s11, s12, s13, s14, s15, s16, s17, s18, s19, s20, s21, s22, s23, s24]) (setF_to (lcIf_ev (l := chs l) (h := tD) (g := tD) (p := isPack) (seq_to2 (d := .list ((chs l).map tD)) rfl rfl) fun x hx => turn_ok rfl (and_more (cmp_to (x := kN 0) (y := tD x) rfl rfl (c_ninT 0 x)) fun _ => and_one (call1_to (u := tD x) rfl (law_apart_eq (by have := sub_len hx; omega)))) fun _ => rfl)) ?_
  refine endP (ρ1 := [s0, .cell, s2, .val (fam m l), .val (kN m), .val (kN (2 ^ m - 1)), .val (.list ((chs l).map tD)), .val (.list ((covP m l).map tD)), s8, .val (.list ((packP l).map tD)), .val (kN (mostN l)), s11, s12, s13, s14, s15, s16, s17, s18, s19, s20, s21, s22, s23, s24]) (set_to (most_to (k := 8) (i := 9) rfl fun _ => rfl)) ?_
  refine endP (ρ1 := [s0, .cell, s2, .val (fam m l), .val (kN m), .val (kN (2 ^ m - 1)), .val (.list ((chs l).map tD)), .val (.list ((covP m l).map tD)), s8, .val (.list ((packP l).map tD)), .val (kN (mostN l)), s11, s12, s13, s14, s15, s16, s17, s18, s19, s20, s21, s22, s23, s24]) (ite_to (v := false) (not_to (u := true) (call2_to (u := tD (mostP l)) (v := tD (mostP l)) (call1_to (u := fam m l) rfl (most_apart_eq g (by omega))) (most2_to (k := 8) (i := 9) (j := 10) rfl (fun _ => rfl) fun _ => rfl) (same_eq (row_sho (most_mem l) hl l7) (by decide) (by decide)))) rfl) ?_
  refine endP (ρ1 := [s0, .cell, s2, .val (fam m l), .val (kN m), .val (kN (2 ^ m - 1)), .val (.list ((chs l).map tD)), .val (.list ((covP m l).map tD)), s8, .val (.list ((packP l).map tD)), .val (kN (mostN l)), .val (.list [toldF ((fewP m l).map tD), toldF ((fewP m l).map fun b => kN (cntP m l b)), toldF ((greedP m l).map lD), toldF (((chs l).find? (isPart m)).map tD)]), s12, s13, s14, s15, s16, s17, s18, s19, s20, s21, s22, s23, s24]) (set_to (lst_es (es_cons (told_res (call1_to (u := fam m l) rfl ((fewest_eq g (by omega)).trans (resF_D _)))) (es_cons (told_res (call1_to (u := fam m l) rfl (count_D g (by omega)))) (es_cons (told_res (call1_to (u := fam m l) rfl ((greedy_eq g ne).trans (resL_D _)))) (es_cons (told_res (call1_to (u := fam m l) rfl ((parted_eq g (by omega)).trans (resF_D _)))) es_nil)))))) ?_
  refine endP (ρ1 := [s0, .cell, s2, .val (fam m l), .val (kN m), .val (kN (2 ^ m - 1)), .val (.list ((chs l).map tD)), .val (.list ((covP m l).map tD)), s8, .val (.list ((packP l).map tD)), .val (kN (mostN l)), .val (.list [toldF ((fewP m l).map tD), toldF ((fewP m l).map fun b => kN (cntP m l b)), toldF ((greedP m l).map lD), toldF (((chs l).find? (isPart m)).map tD)]), .val (.list (((covP m l).filter fun x => (packP l).contains x).map tD)), s13, s14, s15, s16, s17, s18, s19, s20, s21, s22, s23, s24]) (setC_to (lcIf_ev (l := covP m l) (h := tD) (g := tD) (p := fun x => (packP l).contains x) (seq_to2 (d := .list ((covP m l).map tD)) rfl rfl) fun x hx => turn_ok rfl (cmp_to (x := tD x) (y := .list ((packP l).map tD)) rfl rfl (in_tups x _)) fun _ => rfl)) ?_
  refine endP (ρ1 := [s0, .cell, s2, .val (fam m l), .val (kN m), .val (kN (2 ^ m - 1)), .val (.list ((chs l).map tD)), .val (.list ((covP m l).map tD)), s8, .val (.list ((packP l).map tD)), .val (kN (mostN l)), .val (.list [toldF ((fewP m l).map tD), toldF ((fewP m l).map fun b => kN (cntP m l b)), toldF ((greedP m l).map lD), toldF (((chs l).find? (isPart m)).map tD)]), .val (.list (((covP m l).filter fun x => (packP l).contains x).map tD)), .val (prN (bdP 0)), s14, s15, s16, s17, s18, s19, s20, s21, s22, s23, s24]) (set_to (tup_es (es_cons rfl (es_cons rfl es_nil)))) ?_
  obtain ⟨t14, e2⟩ := loop1_end (k := topS l) (by omega) (s0) (s2) (.val (fam m l)) (.val (kN m)) (.val (kN (2 ^ m - 1))) (.val (.list ((chs l).map tD))) (.val (.list ((covP m l).map tD))) (s8) (.val (.list ((packP l).map tD))) (.val (kN (mostN l))) (.val (.list [toldF ((fewP m l).map tD), toldF ((fewP m l).map fun b => kN (cntP m l b)), toldF ((greedP m l).map lD), toldF (((chs l).find? (isPart m)).map tD)])) (.val (.list (((covP m l).filter fun x => (packP l).contains x).map tD))) (s14) (s15) (s16) (s17) (s18) (s19) (s20) (s21) (s22) (s23) (s24)
  refine endP (ρ1 := [s0, .cell, s2, .val (fam m l), .val (kN m), .val (kN (2 ^ m - 1)), .val (.list ((chs l).map tD)), .val (.list ((covP m l).map tD)), s8, .val (.list ((packP l).map tD)), .val (kN (mostN l)), .val (.list [toldF ((fewP m l).map tD), toldF ((fewP m l).map fun b => kN (cntP m l b)), toldF ((greedP m l).map lD), toldF (((chs l).find? (isPart m)).map tD)]), .val (.list (((covP m l).filter fun x => (packP l).contains x).map tD)), .val (prN (bdP (topS l))), t14, s15, s16, s17, s18, s19, s20, s21, s22, s23, s24]) (for_to ((r2_to (m := 1) (n := topS l + 1) rfl (bin_to (x := kN (topS l)) (y := kN 1) (b1_to (d := .list (l.map fun r => kN (szP r))) (lc_ev (l := l) (h := kN) (g := fun r => kN (szP r)) (seq_to2 (d := tD l) (ix_to (x := fam m l) (y := kN 1) rfl rfl (pair_1 _ _)) rfl) fun r hr => turn_yes rfl (call1_to (u := kN r) rfl (size_eq r))) (b_maxN (topS_at ne) fun a ha => topS_ge ha)) rfl (o_add _ 1)) (by omega) (by decide)).trans (by rw [Nat.add_sub_cancel])) e2) ?_
  refine endP (ρ1 := [s0, .cell, s2, .val (fam m l), .val (kN m), .val (kN (2 ^ m - 1)), .val (.list ((chs l).map tD)), .val (.list ((covP m l).map tD)), s8, .val (.list ((packP l).map tD)), .val (kN (mostN l)), .val (.list [toldF ((fewP m l).map tD), toldF ((fewP m l).map fun b => kN (cntP m l b)), toldF ((greedP m l).map lD), toldF (((chs l).find? (isPart m)).map tD)]), .val (.list (((covP m l).filter fun x => (packP l).contains x).map tD)), .val (prN (bdP (topS l))), t14, s15, s16, s17, s18, s19, s20, s21, s22, s23, s24]) (ite_to (v := false) (not_to (u := true) (call2_to (u := prN (bdP (topS l))) (v := prN (bdP (topS l))) (call1_to (u := fam m l) rfl (bound_eq g hm (by omega))) rfl (same_eq (sho_tpl (n := 0) (w := 10) 2 (sl_cons (sho_nat (k := 9) (Nat.lt_of_le_of_lt (bd_small _).1 (by decide)) (by decide) (by decide)) (sl_cons (sho_nat (k := 9) (Nat.lt_of_le_of_lt (bd_small _).2 (by decide)) (by decide) (by decide)) sl_nil)) (by simp)) (by decide) (by decide)))) rfl) ?_
  obtain ⟨t16, t17, t18, e3⟩ := mid_end g hm ne hl (s0) (s2) (.val (kN m)) (.val (kN (2 ^ m - 1))) (.val (.list ((chs l).map tD))) (s8) (.val (.list ((packP l).map tD))) (.val (kN (mostN l))) (t14) (s15) (s16) (s17) (s18) (s19) (s20) (s21) (s22) (s23) (s24)
  refine endP (ρ1 := [s0, .cell, s2, .val (fam m l), .val (kN m), .val (kN (2 ^ m - 1)), .val (.list ((chs l).map tD)), .val (.list ((covP m l).map tD)), s8, .val (.list ((packP l).map tD)), .val (kN (mostN l)), .val (.list [toldF ((fewP m l).map tD), toldF ((fewP m l).map fun b => kN (cntP m l b)), toldF ((greedP m l).map lD), toldF (((chs l).find? (isPart m)).map tD)]), .val (.list (((covP m l).filter fun x => (packP l).contains x).map tD)), .val (prN (bdP (topS l))), t14, s15, t16, t17, t18, s19, s20, s21, s22, s23, s24]) e3 ?_
  refine endP (ρ1 := [s0, .cell, s2, .val (fam m l), .val (kN m), .val (kN (2 ^ m - 1)), .val (.list ((chs l).map tD)), .val (.list ((covP m l).map tD)), s8, .val (.list ((packP l).map tD)), .val (kN (mostN l)), .val (.list [toldF ((fewP m l).map tD), toldF ((fewP m l).map fun b => kN (cntP m l b)), toldF ((greedP m l).map lD), toldF (((chs l).find? (isPart m)).map tD)]), .val (.list (((covP m l).filter fun x => (packP l).contains x).map tD)), .val (prN (bdP (topS l))), t14, s15, t16, t17, t18, .val (lD (depsP m l)), s20, s21, s22, s23, s24]) (setC_to ?_) ?_
  · unfold depsP
    rw [lD_map]
    refine lc_ev (l := List.range m) (h := kN) (g := fun t => kN (depP l t)) (r1_to (n := m) rfl (by omega)) fun t ht => turn_yes rfl (b1_to (d := lD (l.filter fun r => r.testBit t)) ?_ (b_lenL _ kN))
    apply Eq.trans
    · and_intros
    · simp only [bit_and]
  refine endP (ρ1 := [s0, .cell, s2, .val (fam m l), .val (kN m), .val (kN (2 ^ m - 1)), .val (.list ((chs l).map tD)), .val (.list ((covP m l).map tD)), s8, .val (.list ((packP l).map tD)), .val (kN (mostN l)), .val (.list [toldF ((fewP m l).map tD), toldF ((fewP m l).map fun b => kN (cntP m l b)), toldF ((greedP m l).map lD), toldF (((chs l).find? (isPart m)).map tD)]), .val (.list (((covP m l).filter fun x => (packP l).contains x).map tD)), .val (prN (bdP (topS l))), t14, s15, t16, t17, t18, .val (lD (depsP m l)), s20, s21, s22, s23, s24]) (ite_to (v := false) (not_to (u := true) (call2_to (u := .tuple [kN (depN m l), kN ((depsP m l).idxOf (depN m l))]) (v := .tuple [kN (depN m l), kN ((depsP m l).idxOf (depN m l))]) (call1_to (u := fam m l) rfl (deepest_eq g)) (tup_es (es_cons (max_deps d1 d2 rfl) (es_cons (idx_to (l := depsP m l) (k := depN m l) rfl (max_deps d1 d2 rfl) d1) es_nil))) (same_eq (sho_tpl (n := 0) (w := 10) 2 (sl_cons (sho_nat (k := 9) (deps_small d1 hl) (by decide) (by decide)) (sl_cons (sho_nat (k := 9) (Nat.lt_of_le_of_lt (List.idxOf_le_length) (by simp [depsP]; omega)) (by decide) (by decide)) sl_nil)) (by simp)) (by decide) (by decide)))) rfl) ?_
  obtain ⟨t8, t21, S2, e4, h2⟩ := loop2_end g hl h1 (by omega) (s0) (s2) (.val (kN m)) (.val (.list ((covP m l).map tD))) (s8) (.val (.list ((packP l).map tD))) (.val (kN (mostN l))) (.val (.list [toldF ((fewP m l).map tD), toldF ((fewP m l).map fun b => kN (cntP m l b)), toldF ((greedP m l).map lD), toldF (((chs l).find? (isPart m)).map tD)])) (.val (.list (((covP m l).filter fun x => (packP l).contains x).map tD))) (.val (prN (bdP (topS l)))) (t14) (s15) (t16) (t17) (t18) (.val (lD (depsP m l))) (s20) (s21) (s22) (s23) (s24)
  refine endS (ρ1 := [s0, .cell, s2, .val (fam m l), .val (kN m), .val (kN (2 ^ m - 1)), .val (.list ((chs l).map tD)), .val (.list ((covP m l).map tD)), t8, .val (.list ((packP l).map tD)), .val (kN (mostN l)), .val (.list [toldF ((fewP m l).map tD), toldF ((fewP m l).map fun b => kN (cntP m l b)), toldF ((greedP m l).map lD), toldF (((chs l).find? (isPart m)).map tD)]), .val (.list (((covP m l).filter fun x => (packP l).contains x).map tD)), .val (prN (bdP (topS l))), t14, s15, t16, t17, t18, .val (lD (depsP m l)), s20, t21, s22, s23, s24]) (S1 := S2) (forS_to (at_pure (r1_to (n := 4) rfl (by decide))) e4) ?_
  obtain ⟨t22, e5⟩ := hel_end g hl ne (s0) (s2) (.val (kN m)) (.val (kN (2 ^ m - 1))) (.val (.list ((chs l).map tD))) (.val (.list ((covP m l).map tD))) (t8) (.val (.list ((packP l).map tD))) (.val (kN (mostN l))) (.val (.list [toldF ((fewP m l).map tD), toldF ((fewP m l).map fun b => kN (cntP m l b)), toldF ((greedP m l).map lD), toldF (((chs l).find? (isPart m)).map tD)])) (.val (.list (((covP m l).filter fun x => (packP l).contains x).map tD))) (.val (prN (bdP (topS l)))) (t14) (s15) (t16) (t17) (t18) (.val (lD (depsP m l))) (s20) (t21) (s22) (s23) (s24)
  refine endP (ρ1 := [s0, .cell, s2, .val (fam m l), .val (kN m), .val (kN (2 ^ m - 1)), .val (.list ((chs l).map tD)), .val (.list ((covP m l).map tD)), t8, .val (.list ((packP l).map tD)), .val (kN (mostN l)), .val (.list [toldF ((fewP m l).map tD), toldF ((fewP m l).map fun b => kN (cntP m l b)), toldF ((greedP m l).map lD), toldF (((chs l).find? (isPart m)).map tD)]), .val (.list (((covP m l).filter fun x => (packP l).contains x).map tD)), .val (prN (bdP (topS l))), t14, s15, t16, t17, t18, .val (lD (depsP m l)), s20, t21, t22, s23, s24]) e5 ?_
  obtain ⟨t23, t24, e6⟩ := loop3_end (s0) (s2) (.val (fam m l)) (.val (kN m)) (.val (kN (2 ^ m - 1))) (.val (.list ((chs l).map tD))) (.val (.list ((covP m l).map tD))) (t8) (.val (.list ((packP l).map tD))) (.val (kN (mostN l))) (.val (.list [toldF ((fewP m l).map tD), toldF ((fewP m l).map fun b => kN (cntP m l b)), toldF ((greedP m l).map lD), toldF (((chs l).find? (isPart m)).map tD)])) (.val (.list (((covP m l).filter fun x => (packP l).contains x).map tD))) (.val (prN (bdP (topS l)))) (t14) (s15) (t16) (t17) (t18) (.val (lD (depsP m l))) (s20) (t21) (t22) (s23) (s24)
  refine endP (ρ1 := [s0, .cell, s2, .val (fam m l), .val (kN m), .val (kN (2 ^ m - 1)), .val (.list ((chs l).map tD)), .val (.list ((covP m l).map tD)), t8, .val (.list ((packP l).map tD)), .val (kN (mostN l)), .val (.list [toldF ((fewP m l).map tD), toldF ((fewP m l).map fun b => kN (cntP m l b)), toldF ((greedP m l).map lD), toldF (((chs l).find? (isPart m)).map tD)]), .val (.list (((covP m l).filter fun x => (packP l).contains x).map tD)), .val (prN (bdP (topS l))), t14, s15, t16, t17, t18, .val (lD (depsP m l)), s20, t21, t22, t23, t24]) (for_to (ds := bads) (seq_to2 (d := .list bads) rfl rfl) e6) ?_
  refine endP (ρ1 := [s0, .cell, s2, .val (fam m l), .val (kN m), .val (kN (2 ^ m - 1)), .val (.list ((chs l).map tD)), .val (.list ((covP m l).map tD)), t8, .val (.list ((packP l).map tD)), .val (kN (mostN l)), .val (.list [toldF ((fewP m l).map tD), toldF ((fewP m l).map fun b => kN (cntP m l b)), toldF ((greedP m l).map lD), toldF (((chs l).find? (isPart m)).map tD)]), .val (.list (((covP m l).filter fun x => (packP l).contains x).map tD)), .val (prN (bdP (topS l))), t14, s15, t16, t17, t18, .val (lD (depsP m l)), s20, t21, t22, t23, .val (.list (["refused", "refused", "refused", "large", "large"].map wd))]) (set_to (lst_es (es_cons (told_na (call2_to rfl rfl odd1)) (es_cons (told_na (call2_to rfl rfl odd2)) (es_cons (told_na (call1_to (rg_tup (n := 11) (by decide)) (meet_bad good11 (by decide)))) (es_cons (told_tl (call1_to (rg_tup (n := 15) (by decide)) odd4)) (es_cons (told_tl (call1_to (rg_tup (n := 15) (by decide)) odd5)) es_nil))))))) ?_
  refine endP (ρ1 := [s0, .cell, s2, .val (fam m l), .val (kN m), .val (kN (2 ^ m - 1)), .val (.list ((chs l).map tD)), .val (.list ((covP m l).map tD)), t8, .val (.list ((packP l).map tD)), .val (kN (mostN l)), .val (.list [toldF ((fewP m l).map tD), toldF ((fewP m l).map fun b => kN (cntP m l b)), toldF ((greedP m l).map lD), toldF (((chs l).find? (isPart m)).map tD)]), .val (.list (((covP m l).filter fun x => (packP l).contains x).map tD)), .val (prN (bdP (topS l))), t14, s15, t16, t17, t18, .val (lD (depsP m l)), s20, t21, t22, t23, .val (.list (["refused", "refused", "refused", "large", "large"].map wd))]) (ite_to (v := false) (cmp_to (x := .list (["refused", "refused", "refused", "large", "large"].map wd)) (y := .list (["refused", "refused", "refused", "large", "large"].map wd)) rfl (bin_to (x := .list (["refused", "refused", "refused"].map wd)) (y := .list (["large", "large"].map wd)) (bin_to (x := .list [wd "refused"]) (y := kN 3) rfl rfl (rep_list _ (by decide) (by decide))) (bin_to (x := .list [wd "large"]) (y := kN 2) rfl rfl (rep_list _ (by decide) (by decide))) (addL wd ["refused", "refused", "refused"] ["large", "large"] (by decide))) (ne_words _ (by decide))) rfl) ?_
  exact ⟨_, _, _, _, _, _, _, _, _, _, _, _, _, _, _, _, _, _, _, _, _, _, S2, rfl, h2.up (by omega)⟩
theorem law_true (ns : List Int) (hn : ns.length ≤ 63) (hb : ∀ z ∈ ns, Builtin.Int.intBits z ≤ 1048576) : ∃ S', f_law [.scr (ns.map PyData.int)] none = .ok (.bool true) S' := by
  obtain ⟨s, hs, hl, e⟩ := stream_eq ns
  obtain ⟨ρ', S', e4, ⟨s2, s3, s4, s5, s6, s7, s8, s9, s10, s11, s12, s13, s14, s15, s16, s17, s18, s19, s20, s21, s22, s23, s24, rfl⟩, _⟩ := for_allS (t := (T.nm 2).den) (mb := turnT.den) kN (fun pre ρ S => (∃ s2 s3 s4 s5 s6 s7 s8 s9 s10 s11 s12 s13 s14 s15 s16 s17 s18 s19 s20 s21 s22 s23 s24, ρ = [.scr (ns.map PyData.int), .cell, s2, s3, s4, s5, s6, s7, s8, s9, s10, s11, s12, s13, s14, s15, s16, s17, s18, s19, s20, s21, s22, s23, s24]) ∧ StOk (300 * pre.length) S) (List.range 2) [.scr (ns.map PyData.int), .cell, .none, .none, .none, .none, .none, .none, .none, .none, .none, .none, .none, .none, .none, .none, .none, .none, .none, .none, .none, .none, .none, .none, .none] (some [.list (s.map PyData.int), .int 0]) ⟨⟨_, _, _, _, _, _, _, _, _, _, _, _, _, _, _, _, _, _, _, _, _, _, _, rfl⟩, s, 0, rfl, hs, hl, by simp⟩ (by
    rintro pre a suf ρ S hp ⟨⟨s2, s3, s4, s5, s6, s7, s8, s9, s10, s11, s12, s13, s14, s15, s16, s17, s18, s19, s20, s21, s22, s23, s24, rfl⟩, hS⟩
    have lp := congrArg List.length hp
    rw [List.length_range, List.length_append, List.length_cons] at lp
    obtain ⟨t3, t4, t5, t6, t7, t8, t9, t10, t11, t12, t13, t14, t15, t16, t17, t18, t19, t20, t21, t22, t23, t24, S', e, h'⟩ := turn_end hS (by omega) (.scr (ns.map PyData.int)) (.val (kN a)) s3 s4 s5 s6 s7 s8 s9 s10 s11 s12 s13 s14 s15 s16 s17 s18 s19 s20 s21 s22 s23 s24
    refine ⟨_, _, S', rfl, e, ⟨_, _, _, _, _, _, _, _, _, _, _, _, _, _, _, _, _, _, _, _, _, _, _, rfl⟩, ?_⟩
    rw [List.length_append, List.length_singleton]
    exact h'.up (by omega))
  refine ⟨none, law_run (l := b_law) (ds := [.list (s.map PyData.int), .int 0]) ?_ ?_ (S' := S')⟩
  · show b_law.es.den [.scr (ns.map PyData.int), .none, .none, .none, .none, .none, .none, .none, .none, .none, .none, .none, .none, .none, .none, .none, .none, .none, .none, .none, .none, .none, .none, .none, .none] = _
    simp [b_law, e]
  · rw [law_rest]
    exact seqS (forS_to (at_pure (r1_to (n := 2) rfl (by decide))) e4) (seq_rtP (ret_to rfl))
end Pv.K54
/-! the looks at the text; the end -/
namespace Pv.K54
open PySem PySem.Spec PyProof.Rows L2
open Pv.Sh Pv.Fb
def top (i : Nat) : Stmt := PySem.Challenge.pw_setsmeet_k54_whole_covers_and_packings.main.body.getD i (.Pass ⟨0, 0, 0, 0⟩)
def dd (x : Str) (i : Nat) : He.DefD := ⟨(x, none), x, x, defArgs (top i), defBody (top i), defScope (top i), [], []⟩
def fn : List He.DefD := [dd "_law_stream" 35, dd "chosen_rows" 23, dd "check_many" 9, dd "check_family" 10, dd "are_apart" 22, dd "check_few" 19, dd "most_apart" 26, dd "full_of" 20, dd "is_cover" 21, dd "fewest_cover" 24, dd "common_of" 32, dd "least_all_meet" 31, dd "_law_bad_families" 45, dd "divisor" 14, dd "ratio" 15, dd "added" 16, dd "known_things" 11, dd "known_size" 12, dd "greedy_bound" 28, dd "deepest" 30, dd "_law_choices" 44, dd "_law_common" 47, dd "_law_helly_holds" 51, dd "_law_same" 34, dd "_law_helly" 50, dd "_law_apart" 48, dd "_law_union" 46, dd "_law_next" 36, dd "_law_things" 42, dd "_law_size" 43, dd "_law_greedy" 49, dd "_law_gcd" 38, dd "_law_fraction" 39, dd "_law_plus" 40, dd "parted" 29, dd "greedy_cover" 27, dd "cover_count" 25, dd "_law_family" 41, dd "law" 52, dd "_law_told" 37]
def more : List He.Fa := [.int "MAX_COVERED" 14, .int "MAX_THINGS" 7, .glo "MeetError", .glo "NotAllowed", .glo "TooLarge", .glo "Missing", .glo "BadForm", .glo "Broken", .exc "Missing", .exc "NotAllowed", .exc "TooLarge"]
def ex : List (PySem.W.Frag → Bool) := [tabsB ["_law_choices", "law"], toldB]
structure Ctx (Γ : Gm) : Prop where
  g0 : GmOk Γ
  d : ∀ (i : Nat) (x : Str) (j : Nat), fn[i]? = some (dd x j) → ∃ f fd, FunD Γ.K x x (defArgs (top j)) (defBody (top j)) (defScope (top j)) [] [] f fd ∧ Γ.mg x = some (.ref f)
  v0 : ∃ t, Γ.mg "MAX_COVERED" = some (.int 14 t)
  v1 : ∃ t, Γ.mg "MAX_THINGS" = some (.int 7 t)
  e0 : ∀ (k : Nat) (tl : Prop), NeedOk Γ k tl (.exn "Missing" .mi)
  e1 : ∀ (k : Nat) (tl : Prop), NeedOk Γ k tl (.exn "NotAllowed" .na)
  e2 : ∀ (k : Nat) (tl : Prop), NeedOk Γ k tl (.exn "TooLarge" .tl)
  td : ToldOk Γ
  t__law_choices : ∀ f fd, FunD Γ.K "_law_choices" "_law_choices" (defArgs (top 44)) (defBody (top 44)) (defScope (top 44)) [] [] f fd → Γ.mg "_law_choices" = some (.ref f) → TabF Γ fd "_law_choices"
  t_law : ∀ f fd, FunD Γ.K "law" "law" (defArgs (top 52)) (defBody (top 52)) (defScope (top 52)) [] [] f fd → Γ.mg "law" = some (.ref f) → TabF Γ fd "law"
theorem sc__law_stream : FnScope n__law_stream ["script"] (defScope (top 35)) := ⟨rfl, rfl, rfl, by decide +kernel, rfl, by decide +kernel, by decide +kernel⟩
theorem k__law_stream : b__law_stream.chk n__law_stream (defScope (top 35)) (fun _ => true) (defBody (top 35)) = true := by decide +kernel
theorem nd__law_stream {Γ : Gm} {tl : Prop} (c : Ctx Γ) : NeedsOk Γ 0 tl b__law_stream.needs := by
  refine NeedsOk.of ?_
  repeat first | exact trivial | apply And.intro | exact nd_int c.v0 | exact nd_int c.v1 | exact c.e0 _ _ | exact c.e1 _ _ | exact c.e2 _ _ | apply nd_deep | apply nd_inner
theorem c__law_stream {Γ : Gm} (c : Ctx Γ) : CalleeOk Γ 2 "_law_stream" 1 f__law_stream := by
  obtain ⟨f, fd, F, m⟩ := c.d 0 _ _ rfl
  exact fn_ok c.g0 F sc__law_stream (by decide) m (F.bindsN fun _ _ _ _ _ _ us hl => match us, hl with | [_], _ => rfl) (nd__law_stream c) k__law_stream
theorem sc_chosen_rows : FnScope n_chosen_rows ["family"] (defScope (top 23)) := ⟨rfl, rfl, rfl, by decide +kernel, rfl, by decide +kernel, by decide +kernel⟩
theorem k_chosen_rows : b_chosen_rows.chk n_chosen_rows (defScope (top 23)) (fun _ => true) (defBody (top 23)) = true := by decide +kernel
theorem nd_chosen_rows {Γ : Gm} {tl : Prop} (c : Ctx Γ) : NeedsOk Γ 0 tl b_chosen_rows.needs := by
  refine NeedsOk.of ?_
  repeat first | exact trivial | apply And.intro | exact nd_int c.v0 | exact nd_int c.v1 | exact c.e0 _ _ | exact c.e1 _ _ | exact c.e2 _ _ | apply nd_deep | apply nd_inner
theorem c_chosen_rows {Γ : Gm} (c : Ctx Γ) : CalleeOk Γ 2 "chosen_rows" 1 f_chosen_rows := by
  obtain ⟨f, fd, F, m⟩ := c.d 1 _ _ rfl
  exact fn_ok c.g0 F sc_chosen_rows (by decide) m (F.bindsN fun _ _ _ _ _ _ us hl => match us, hl with | [_], _ => rfl) (nd_chosen_rows c) k_chosen_rows
theorem sc_check_many : FnScope n_check_many ["many"] (defScope (top 9)) := ⟨rfl, rfl, rfl, by decide +kernel, rfl, by decide +kernel, by decide +kernel⟩
theorem k_check_many : b_check_many.chk n_check_many (defScope (top 9)) (fun _ => true) (defBody (top 9)) = true := by decide +kernel
theorem nd_check_many {Γ : Gm} {tl : Prop} (c : Ctx Γ) : NeedsOk Γ 0 tl b_check_many.needs := by
  refine NeedsOk.of ?_
  repeat first | exact trivial | apply And.intro | exact nd_int c.v0 | exact nd_int c.v1 | exact c.e0 _ _ | exact c.e1 _ _ | exact c.e2 _ _ | apply nd_deep | apply nd_inner
theorem c_check_many {Γ : Gm} (c : Ctx Γ) : CalleeOk Γ 2 "check_many" 1 f_check_many := by
  obtain ⟨f, fd, F, m⟩ := c.d 2 _ _ rfl
  exact fn_ok c.g0 F sc_check_many (by decide) m (F.bindsN fun _ _ _ _ _ _ us hl => match us, hl with | [_], _ => rfl) (nd_check_many c) k_check_many
theorem sc_check_family : FnScope n_check_family ["family"] (defScope (top 10)) := ⟨rfl, rfl, rfl, by decide +kernel, rfl, by decide +kernel, by decide +kernel⟩
theorem k_check_family : b_check_family.chk n_check_family (defScope (top 10)) (fun _ => true) (defBody (top 10)) = true := by decide +kernel
theorem nd_check_family {Γ : Gm} {tl : Prop} (c : Ctx Γ) : NeedsOk Γ 1 tl b_check_family.needs := by
  refine NeedsOk.of ?_
  repeat first | exact trivial | apply And.intro | exact nd_call (c_check_many c) (by decide) | exact nd_int c.v0 | exact nd_int c.v1 | exact c.e0 _ _ | exact c.e1 _ _ | exact c.e2 _ _ | apply nd_deep | apply nd_inner
theorem c_check_family {Γ : Gm} (c : Ctx Γ) : CalleeOk Γ 3 "check_family" 1 f_check_family := by
  obtain ⟨f, fd, F, m⟩ := c.d 3 _ _ rfl
  exact fn_ok c.g0 F sc_check_family (by decide) m (F.bindsN fun _ _ _ _ _ _ us hl => match us, hl with | [_], _ => rfl) (nd_check_family c) k_check_family
theorem sc_are_apart : FnScope n_are_apart ["family", "rows"] (defScope (top 22)) := ⟨rfl, rfl, rfl, by decide +kernel, rfl, by decide +kernel, by decide +kernel⟩
theorem k_are_apart : b_are_apart.chk n_are_apart (defScope (top 22)) (fun _ => true) (defBody (top 22)) = true := by decide +kernel
theorem nd_are_apart {Γ : Gm} {tl : Prop} (c : Ctx Γ) : NeedsOk Γ 2 tl b_are_apart.needs := by
  refine NeedsOk.of ?_
  repeat first | exact trivial | apply And.intro | exact nd_call (c_check_family c) (by decide) | exact nd_int c.v0 | exact nd_int c.v1 | exact c.e0 _ _ | exact c.e1 _ _ | exact c.e2 _ _ | apply nd_deep | apply nd_inner
theorem c_are_apart {Γ : Gm} (c : Ctx Γ) : CalleeOk Γ 4 "are_apart" 2 f_are_apart := by
  obtain ⟨f, fd, F, m⟩ := c.d 4 _ _ rfl
  exact fn_ok c.g0 F sc_are_apart (by decide) m (F.bindsN fun _ _ _ _ _ _ us hl => match us, hl with | [_, _], _ => rfl) (nd_are_apart c) k_are_apart
theorem sc_check_few : FnScope n_check_few ["family"] (defScope (top 19)) := ⟨rfl, rfl, rfl, by decide +kernel, rfl, by decide +kernel, by decide +kernel⟩
theorem k_check_few : b_check_few.chk n_check_few (defScope (top 19)) (fun _ => true) (defBody (top 19)) = true := by decide +kernel
theorem nd_check_few {Γ : Gm} {tl : Prop} (c : Ctx Γ) : NeedsOk Γ 2 tl b_check_few.needs := by
  refine NeedsOk.of ?_
  repeat first | exact trivial | apply And.intro | exact nd_call (c_check_family c) (by decide) | exact nd_int c.v0 | exact nd_int c.v1 | exact c.e0 _ _ | exact c.e1 _ _ | exact c.e2 _ _ | apply nd_deep | apply nd_inner
theorem c_check_few {Γ : Gm} (c : Ctx Γ) : CalleeOk Γ 4 "check_few" 1 f_check_few := by
  obtain ⟨f, fd, F, m⟩ := c.d 5 _ _ rfl
  exact fn_ok c.g0 F sc_check_few (by decide) m (F.bindsN fun _ _ _ _ _ _ us hl => match us, hl with | [_], _ => rfl) (nd_check_few c) k_check_few
theorem sc_most_apart : FnScope n_most_apart ["family"] (defScope (top 26)) := ⟨rfl, rfl, rfl, by decide +kernel, rfl, by decide +kernel, by decide +kernel⟩
theorem k_most_apart : b_most_apart.chk n_most_apart (defScope (top 26)) (fun _ => true) (defBody (top 26)) = true := by decide +kernel
theorem nd_most_apart {Γ : Gm} {tl : Prop} (c : Ctx Γ) : NeedsOk Γ 3 tl b_most_apart.needs := by
  refine NeedsOk.of ?_
  repeat first | exact trivial | apply And.intro | exact nd_call (c_chosen_rows c) (by decide) | exact nd_call (c_are_apart c) (by decide) | exact nd_call (c_check_few c) (by decide) | exact nd_int c.v0 | exact nd_int c.v1 | exact c.e0 _ _ | exact c.e1 _ _ | exact c.e2 _ _ | apply nd_deep | apply nd_inner
theorem c_most_apart {Γ : Gm} (c : Ctx Γ) : CalleeOk Γ 5 "most_apart" 1 f_most_apart := by
  obtain ⟨f, fd, F, m⟩ := c.d 6 _ _ rfl
  exact fn_ok c.g0 F sc_most_apart (by decide) m (F.bindsN fun _ _ _ _ _ _ us hl => match us, hl with | [_], _ => rfl) (nd_most_apart c) k_most_apart
theorem sc_full_of : FnScope n_full_of ["family"] (defScope (top 20)) := ⟨rfl, rfl, rfl, by decide +kernel, rfl, by decide +kernel, by decide +kernel⟩
theorem k_full_of : b_full_of.chk n_full_of (defScope (top 20)) (fun _ => true) (defBody (top 20)) = true := by decide +kernel
theorem nd_full_of {Γ : Gm} {tl : Prop} (c : Ctx Γ) : NeedsOk Γ 0 tl b_full_of.needs := by
  refine NeedsOk.of ?_
  repeat first | exact trivial | apply And.intro | exact nd_int c.v0 | exact nd_int c.v1 | exact c.e0 _ _ | exact c.e1 _ _ | exact c.e2 _ _ | apply nd_deep | apply nd_inner
theorem c_full_of {Γ : Gm} (c : Ctx Γ) : CalleeOk Γ 2 "full_of" 1 f_full_of := by
  obtain ⟨f, fd, F, m⟩ := c.d 7 _ _ rfl
  exact fn_ok c.g0 F sc_full_of (by decide) m (F.bindsN fun _ _ _ _ _ _ us hl => match us, hl with | [_], _ => rfl) (nd_full_of c) k_full_of
theorem sc_is_cover : FnScope n_is_cover ["family", "rows"] (defScope (top 21)) := ⟨rfl, rfl, rfl, by decide +kernel, rfl, by decide +kernel, by decide +kernel⟩
theorem k_is_cover : b_is_cover.chk n_is_cover (defScope (top 21)) (fun _ => true) (defBody (top 21)) = true := by decide +kernel
theorem nd_is_cover {Γ : Gm} {tl : Prop} (c : Ctx Γ) : NeedsOk Γ 2 tl b_is_cover.needs := by
  refine NeedsOk.of ?_
  repeat first | exact trivial | apply And.intro | exact nd_call (c_full_of c) (by decide) | exact nd_call (c_check_family c) (by decide) | exact nd_int c.v0 | exact nd_int c.v1 | exact c.e0 _ _ | exact c.e1 _ _ | exact c.e2 _ _ | apply nd_deep | apply nd_inner
theorem c_is_cover {Γ : Gm} (c : Ctx Γ) : CalleeOk Γ 4 "is_cover" 2 f_is_cover := by
  obtain ⟨f, fd, F, m⟩ := c.d 8 _ _ rfl
  exact fn_ok c.g0 F sc_is_cover (by decide) m (F.bindsN fun _ _ _ _ _ _ us hl => match us, hl with | [_, _], _ => rfl) (nd_is_cover c) k_is_cover
theorem sc_fewest_cover : FnScope n_fewest_cover ["family"] (defScope (top 24)) := ⟨rfl, rfl, rfl, by decide +kernel, rfl, by decide +kernel, by decide +kernel⟩
theorem k_fewest_cover : b_fewest_cover.chk n_fewest_cover (defScope (top 24)) (fun _ => true) (defBody (top 24)) = true := by decide +kernel
theorem nd_fewest_cover {Γ : Gm} {tl : Prop} (c : Ctx Γ) : NeedsOk Γ 3 tl b_fewest_cover.needs := by
  refine NeedsOk.of ?_
  repeat first | exact trivial | apply And.intro | exact nd_call (c_chosen_rows c) (by decide) | exact nd_call (c_is_cover c) (by decide) | exact nd_call (c_check_few c) (by decide) | exact nd_int c.v0 | exact nd_int c.v1 | exact c.e0 _ _ | exact c.e1 _ _ | exact c.e2 _ _ | apply nd_deep | apply nd_inner
theorem c_fewest_cover {Γ : Gm} (c : Ctx Γ) : CalleeOk Γ 5 "fewest_cover" 1 f_fewest_cover := by
  obtain ⟨f, fd, F, m⟩ := c.d 9 _ _ rfl
  exact fn_ok c.g0 F sc_fewest_cover (by decide) m (F.bindsN fun _ _ _ _ _ _ us hl => match us, hl with | [_], _ => rfl) (nd_fewest_cover c) k_fewest_cover
theorem sc_common_of : FnScope n_common_of ["rows"] (defScope (top 32)) := ⟨rfl, rfl, rfl, by decide +kernel, rfl, by decide +kernel, by decide +kernel⟩
theorem k_common_of : b_common_of.chk n_common_of (defScope (top 32)) (fun _ => true) (defBody (top 32)) = true := by decide +kernel
theorem nd_common_of {Γ : Gm} {tl : Prop} (c : Ctx Γ) : NeedsOk Γ 0 tl b_common_of.needs := by
  refine NeedsOk.of ?_
  repeat first | exact trivial | apply And.intro | exact nd_int c.v0 | exact nd_int c.v1 | exact c.e0 _ _ | exact c.e1 _ _ | exact c.e2 _ _ | apply nd_deep | apply nd_inner
theorem c_common_of {Γ : Gm} (c : Ctx Γ) : CalleeOk Γ 2 "common_of" 1 f_common_of := by
  obtain ⟨f, fd, F, m⟩ := c.d 10 _ _ rfl
  exact fn_ok c.g0 F sc_common_of (by decide) m (F.bindsN fun _ _ _ _ _ _ us hl => match us, hl with | [_], _ => rfl) (nd_common_of c) k_common_of
theorem sc_least_all_meet : FnScope n_least_all_meet ["family"] (defScope (top 31)) := ⟨rfl, rfl, rfl, by decide +kernel, rfl, by decide +kernel, by decide +kernel⟩
theorem k_least_all_meet : b_least_all_meet.chk n_least_all_meet (defScope (top 31)) (fun _ => true) (defBody (top 31)) = true := by decide +kernel
theorem nd_least_all_meet {Γ : Gm} {tl : Prop} (c : Ctx Γ) : NeedsOk Γ 2 tl b_least_all_meet.needs := by
  refine NeedsOk.of ?_
  repeat first | exact trivial | apply And.intro | exact nd_call (c_common_of c) (by decide) | exact nd_call (c_check_family c) (by decide) | exact nd_int c.v0 | exact nd_int c.v1 | exact c.e0 _ _ | exact c.e1 _ _ | exact c.e2 _ _ | apply nd_deep | apply nd_inner
theorem c_least_all_meet {Γ : Gm} (c : Ctx Γ) : CalleeOk Γ 4 "least_all_meet" 1 f_least_all_meet := by
  obtain ⟨f, fd, F, m⟩ := c.d 11 _ _ rfl
  exact fn_ok c.g0 F sc_least_all_meet (by decide) m (F.bindsN fun _ _ _ _ _ _ us hl => match us, hl with | [_], _ => rfl) (nd_least_all_meet c) k_least_all_meet
theorem sc__law_bad_families : FnScope n__law_bad_families [] (defScope (top 45)) := ⟨rfl, rfl, rfl, by decide +kernel, rfl, by decide +kernel, by decide +kernel⟩
theorem k__law_bad_families : b__law_bad_families.chk n__law_bad_families (defScope (top 45)) (fun _ => true) (defBody (top 45)) = true := by decide +kernel
theorem nd__law_bad_families {Γ : Gm} {tl : Prop} (c : Ctx Γ) : NeedsOk Γ 0 tl b__law_bad_families.needs := by
  refine NeedsOk.of ?_
  repeat first | exact trivial | apply And.intro | exact nd_int c.v0 | exact nd_int c.v1 | exact c.e0 _ _ | exact c.e1 _ _ | exact c.e2 _ _ | apply nd_deep | apply nd_inner
theorem c__law_bad_families {Γ : Gm} (c : Ctx Γ) : CalleeOk Γ 2 "_law_bad_families" 0 f__law_bad_families := by
  obtain ⟨f, fd, F, m⟩ := c.d 12 _ _ rfl
  exact fn_ok c.g0 F sc__law_bad_families (by decide) m (F.bindsN fun _ _ _ _ _ _ us hl => match us, hl with | [], _ => rfl) (nd__law_bad_families c) k__law_bad_families
theorem sc_divisor : FnScope n_divisor ["first", "second"] (defScope (top 14)) := ⟨rfl, rfl, rfl, by decide +kernel, rfl, by decide +kernel, by decide +kernel⟩
theorem k_divisor : b_divisor.chk n_divisor (defScope (top 14)) (fun _ => true) (defBody (top 14)) = true := by decide +kernel
theorem nd_divisor {Γ : Gm} {tl : Prop} (c : Ctx Γ) : NeedsOk Γ 0 tl b_divisor.needs := by
  refine NeedsOk.of ?_
  repeat first | exact trivial | apply And.intro | exact nd_int c.v0 | exact nd_int c.v1 | exact c.e0 _ _ | exact c.e1 _ _ | exact c.e2 _ _ | apply nd_deep | apply nd_inner
theorem c_divisor {Γ : Gm} (c : Ctx Γ) : CalleeOk Γ 2 "divisor" 2 f_divisor := by
  obtain ⟨f, fd, F, m⟩ := c.d 13 _ _ rfl
  exact fn_ok c.g0 F sc_divisor (by decide) m (F.bindsN fun _ _ _ _ _ _ us hl => match us, hl with | [_, _], _ => rfl) (nd_divisor c) k_divisor
theorem sc_ratio : FnScope n_ratio ["top", "below"] (defScope (top 15)) := ⟨rfl, rfl, rfl, by decide +kernel, rfl, by decide +kernel, by decide +kernel⟩
theorem k_ratio : b_ratio.chk n_ratio (defScope (top 15)) (fun _ => true) (defBody (top 15)) = true := by decide +kernel
theorem nd_ratio {Γ : Gm} {tl : Prop} (c : Ctx Γ) : NeedsOk Γ 1 tl b_ratio.needs := by
  refine NeedsOk.of ?_
  repeat first | exact trivial | apply And.intro | exact nd_call (c_divisor c) (by decide) | exact nd_int c.v0 | exact nd_int c.v1 | exact c.e0 _ _ | exact c.e1 _ _ | exact c.e2 _ _ | apply nd_deep | apply nd_inner
theorem c_ratio {Γ : Gm} (c : Ctx Γ) : CalleeOk Γ 3 "ratio" 2 f_ratio := by
  obtain ⟨f, fd, F, m⟩ := c.d 14 _ _ rfl
  exact fn_ok c.g0 F sc_ratio (by decide) m (F.bindsN fun _ _ _ _ _ _ us hl => match us, hl with | [_, _], _ => rfl) (nd_ratio c) k_ratio
theorem sc_added : FnScope n_added ["first", "second"] (defScope (top 16)) := ⟨rfl, rfl, rfl, by decide +kernel, rfl, by decide +kernel, by decide +kernel⟩
theorem k_added : b_added.chk n_added (defScope (top 16)) (fun _ => true) (defBody (top 16)) = true := by decide +kernel
theorem nd_added {Γ : Gm} {tl : Prop} (c : Ctx Γ) : NeedsOk Γ 2 tl b_added.needs := by
  refine NeedsOk.of ?_
  repeat first | exact trivial | apply And.intro | exact nd_call (c_ratio c) (by decide) | exact nd_int c.v0 | exact nd_int c.v1 | exact c.e0 _ _ | exact c.e1 _ _ | exact c.e2 _ _ | apply nd_deep | apply nd_inner
theorem c_added {Γ : Gm} (c : Ctx Γ) : CalleeOk Γ 4 "added" 2 f_added := by
  obtain ⟨f, fd, F, m⟩ := c.d 15 _ _ rfl
  exact fn_ok c.g0 F sc_added (by decide) m (F.bindsN fun _ _ _ _ _ _ us hl => match us, hl with | [_, _], _ => rfl) (nd_added c) k_added
theorem sc_known_things : FnScope n_known_things ["row"] (defScope (top 11)) := ⟨rfl, rfl, rfl, by decide +kernel, rfl, by decide +kernel, by decide +kernel⟩
theorem k_known_things : b_known_things.chk n_known_things (defScope (top 11)) (fun _ => true) (defBody (top 11)) = true := by decide +kernel
theorem nd_known_things {Γ : Gm} {tl : Prop} (c : Ctx Γ) : NeedsOk Γ 0 tl b_known_things.needs := by
  refine NeedsOk.of ?_
  repeat first | exact trivial | apply And.intro | exact nd_int c.v0 | exact nd_int c.v1 | exact c.e0 _ _ | exact c.e1 _ _ | exact c.e2 _ _ | apply nd_deep | apply nd_inner
theorem c_known_things {Γ : Gm} (c : Ctx Γ) : CalleeOk Γ 2 "known_things" 1 f_known_things := by
  obtain ⟨f, fd, F, m⟩ := c.d 16 _ _ rfl
  exact fn_ok c.g0 F sc_known_things (by decide) m (F.bindsN fun _ _ _ _ _ _ us hl => match us, hl with | [_], _ => rfl) (nd_known_things c) k_known_things
theorem sc_known_size : FnScope n_known_size ["row"] (defScope (top 12)) := ⟨rfl, rfl, rfl, by decide +kernel, rfl, by decide +kernel, by decide +kernel⟩
theorem k_known_size : b_known_size.chk n_known_size (defScope (top 12)) (fun _ => true) (defBody (top 12)) = true := by decide +kernel
theorem nd_known_size {Γ : Gm} {tl : Prop} (c : Ctx Γ) : NeedsOk Γ 1 tl b_known_size.needs := by
  refine NeedsOk.of ?_
  repeat first | exact trivial | apply And.intro | exact nd_call (c_known_things c) (by decide) | exact nd_int c.v0 | exact nd_int c.v1 | exact c.e0 _ _ | exact c.e1 _ _ | exact c.e2 _ _ | apply nd_deep | apply nd_inner
theorem c_known_size {Γ : Gm} (c : Ctx Γ) : CalleeOk Γ 3 "known_size" 1 f_known_size := by
  obtain ⟨f, fd, F, m⟩ := c.d 17 _ _ rfl
  exact fn_ok c.g0 F sc_known_size (by decide) m (F.bindsN fun _ _ _ _ _ _ us hl => match us, hl with | [_], _ => rfl) (nd_known_size c) k_known_size
theorem sc_greedy_bound : FnScope n_greedy_bound ["family"] (defScope (top 28)) := ⟨rfl, rfl, rfl, by decide +kernel, rfl, by decide +kernel, by decide +kernel⟩
theorem k_greedy_bound : b_greedy_bound.chk n_greedy_bound (defScope (top 28)) (fun _ => true) (defBody (top 28)) = true := by decide +kernel
theorem nd_greedy_bound {Γ : Gm} {tl : Prop} (c : Ctx Γ) : NeedsOk Γ 3 tl b_greedy_bound.needs := by
  refine NeedsOk.of ?_
  repeat first | exact trivial | apply And.intro | exact nd_call (c_added c) (by decide) | exact nd_call (c_known_size c) (by decide) | exact nd_call (c_check_family c) (by decide) | exact nd_int c.v0 | exact nd_int c.v1 | exact c.e0 _ _ | exact c.e1 _ _ | exact c.e2 _ _ | apply nd_deep | apply nd_inner
theorem c_greedy_bound {Γ : Gm} (c : Ctx Γ) : CalleeOk Γ 5 "greedy_bound" 1 f_greedy_bound := by
  obtain ⟨f, fd, F, m⟩ := c.d 18 _ _ rfl
  exact fn_ok c.g0 F sc_greedy_bound (by decide) m (F.bindsN fun _ _ _ _ _ _ us hl => match us, hl with | [_], _ => rfl) (nd_greedy_bound c) k_greedy_bound
theorem sc_deepest : FnScope n_deepest ["family"] (defScope (top 30)) := ⟨rfl, rfl, rfl, by decide +kernel, rfl, by decide +kernel, by decide +kernel⟩
theorem k_deepest : b_deepest.chk n_deepest (defScope (top 30)) (fun _ => true) (defBody (top 30)) = true := by decide +kernel
theorem nd_deepest {Γ : Gm} {tl : Prop} (c : Ctx Γ) : NeedsOk Γ 2 tl b_deepest.needs := by
  refine NeedsOk.of ?_
  repeat first | exact trivial | apply And.intro | exact nd_call (c_check_family c) (by decide) | exact nd_int c.v0 | exact nd_int c.v1 | exact c.e0 _ _ | exact c.e1 _ _ | exact c.e2 _ _ | apply nd_deep | apply nd_inner
theorem c_deepest {Γ : Gm} (c : Ctx Γ) : CalleeOk Γ 4 "deepest" 1 f_deepest := by
  obtain ⟨f, fd, F, m⟩ := c.d 19 _ _ rfl
  exact fn_ok c.g0 F sc_deepest (by decide) m (F.bindsN fun _ _ _ _ _ _ us hl => match us, hl with | [_], _ => rfl) (nd_deepest c) k_deepest
theorem sc__law_choices : FnScope n__law_choices ["rows"] (defScope (top 44)) := ⟨rfl, rfl, rfl, by decide +kernel, rfl, by decide +kernel, by decide +kernel⟩
theorem k__law_choices : b__law_choices.chk n__law_choices (defScope (top 44)) (fun _ => true) (defBody (top 44)) = true := by decide +kernel
theorem nd__law_choices {Γ : Gm} {fd : FuncData} (c : Ctx Γ) (tab : TabF Γ fd "_law_choices") : NeedsOk Γ 2 (TabF Γ fd "_law_choices") b__law_choices.needs := by
  refine NeedsOk.of ?_
  repeat first | exact trivial | exact nd_tell c.td tab | exact nd_key tab | apply And.intro | exact nd_int c.v0 | exact nd_int c.v1 | exact c.e0 _ _ | exact c.e1 _ _ | exact c.e2 _ _ | apply nd_deep | apply nd_inner
theorem c__law_choices {Γ : Gm} (c : Ctx Γ) : CalleeOk Γ 4 "_law_choices" 1 f__law_choices := by
  obtain ⟨f, fd, F, m⟩ := c.d 20 _ _ rfl
  exact fn_ok c.g0 F sc__law_choices (by decide) m (F.bindsN fun _ _ _ _ _ _ us hl => match us, hl with | [_], _ => rfl) (nd__law_choices c (c.t__law_choices _ _ F m)) k__law_choices
theorem sc__law_common : FnScope n__law_common ["rows"] (defScope (top 47)) := ⟨rfl, rfl, rfl, by decide +kernel, rfl, by decide +kernel, by decide +kernel⟩
theorem k__law_common : b__law_common.chk n__law_common (defScope (top 47)) (fun _ => true) (defBody (top 47)) = true := by decide +kernel
theorem nd__law_common {Γ : Gm} {tl : Prop} (c : Ctx Γ) : NeedsOk Γ 0 tl b__law_common.needs := by
  refine NeedsOk.of ?_
  repeat first | exact trivial | apply And.intro | exact nd_int c.v0 | exact nd_int c.v1 | exact c.e0 _ _ | exact c.e1 _ _ | exact c.e2 _ _ | apply nd_deep | apply nd_inner
theorem c__law_common {Γ : Gm} (c : Ctx Γ) : CalleeOk Γ 2 "_law_common" 1 f__law_common := by
  obtain ⟨f, fd, F, m⟩ := c.d 21 _ _ rfl
  exact fn_ok c.g0 F sc__law_common (by decide) m (F.bindsN fun _ _ _ _ _ _ us hl => match us, hl with | [_], _ => rfl) (nd__law_common c) k__law_common
theorem sc__law_helly_holds : FnScope n__law_helly_holds ["family", "most"] (defScope (top 51)) := ⟨rfl, rfl, rfl, by decide +kernel, rfl, by decide +kernel, by decide +kernel⟩
theorem k__law_helly_holds : b__law_helly_holds.chk n__law_helly_holds (defScope (top 51)) (fun _ => true) (defBody (top 51)) = true := by decide +kernel
theorem nd__law_helly_holds {Γ : Gm} {tl : Prop} (c : Ctx Γ) : NeedsOk Γ 3 tl b__law_helly_holds.needs := by
  refine NeedsOk.of ?_
  repeat first | exact trivial | apply And.intro | exact nd_call (c__law_choices c) (by decide) | exact nd_call (c__law_common c) (by decide) | exact nd_int c.v0 | exact nd_int c.v1 | exact c.e0 _ _ | exact c.e1 _ _ | exact c.e2 _ _ | apply nd_deep | apply nd_inner
theorem c__law_helly_holds {Γ : Gm} (c : Ctx Γ) : CalleeOk Γ 5 "_law_helly_holds" 2 f__law_helly_holds := by
  obtain ⟨f, fd, F, m⟩ := c.d 22 _ _ rfl
  exact fn_ok c.g0 F sc__law_helly_holds (by decide) m (F.bindsN fun _ _ _ _ _ _ us hl => match us, hl with | [_, _], _ => rfl) (nd__law_helly_holds c) k__law_helly_holds
theorem sc__law_same : FnScope n__law_same ["told", "due"] (defScope (top 34)) := ⟨rfl, rfl, rfl, by decide +kernel, rfl, by decide +kernel, by decide +kernel⟩
theorem k__law_same : b__law_same.chk n__law_same (defScope (top 34)) (fun _ => true) (defBody (top 34)) = true := by decide +kernel
theorem nd__law_same {Γ : Gm} {tl : Prop} (c : Ctx Γ) : NeedsOk Γ 0 tl b__law_same.needs := by
  refine NeedsOk.of ?_
  repeat first | exact trivial | apply And.intro | exact nd_int c.v0 | exact nd_int c.v1 | exact c.e0 _ _ | exact c.e1 _ _ | exact c.e2 _ _ | apply nd_deep | apply nd_inner
theorem c__law_same {Γ : Gm} (c : Ctx Γ) : CalleeOk Γ 2 "_law_same" 2 f__law_same := by
  obtain ⟨f, fd, F, m⟩ := c.d 23 _ _ rfl
  exact fn_ok c.g0 F sc__law_same (by decide) m (F.bindsN fun _ _ _ _ _ _ us hl => match us, hl with | [_, _], _ => rfl) (nd__law_same c) k__law_same
theorem sc__law_helly : FnScope n__law_helly ["family"] (defScope (top 50)) := ⟨rfl, rfl, rfl, by decide +kernel, rfl, by decide +kernel, by decide +kernel⟩
theorem k__law_helly : b__law_helly.chk n__law_helly (defScope (top 50)) (fun _ => true) (defBody (top 50)) = true := by decide +kernel
theorem nd__law_helly {Γ : Gm} {tl : Prop} (c : Ctx Γ) : NeedsOk Γ 3 tl b__law_helly.needs := by
  refine NeedsOk.of ?_
  repeat first | exact trivial | apply And.intro | exact nd_call (c__law_choices c) (by decide) | exact nd_call (c__law_common c) (by decide) | exact nd_int c.v0 | exact nd_int c.v1 | exact c.e0 _ _ | exact c.e1 _ _ | exact c.e2 _ _ | apply nd_deep | apply nd_inner
theorem c__law_helly {Γ : Gm} (c : Ctx Γ) : CalleeOk Γ 5 "_law_helly" 1 f__law_helly := by
  obtain ⟨f, fd, F, m⟩ := c.d 24 _ _ rfl
  exact fn_ok c.g0 F sc__law_helly (by decide) m (F.bindsN fun _ _ _ _ _ _ us hl => match us, hl with | [_], _ => rfl) (nd__law_helly c) k__law_helly
theorem sc__law_apart : FnScope n__law_apart ["rows"] (defScope (top 48)) := ⟨rfl, rfl, rfl, by decide +kernel, rfl, by decide +kernel, by decide +kernel⟩
theorem k__law_apart : b__law_apart.chk n__law_apart (defScope (top 48)) (fun _ => true) (defBody (top 48)) = true := by decide +kernel
theorem nd__law_apart {Γ : Gm} {tl : Prop} (c : Ctx Γ) : NeedsOk Γ 0 tl b__law_apart.needs := by
  refine NeedsOk.of ?_
  repeat first | exact trivial | apply And.intro | exact nd_int c.v0 | exact nd_int c.v1 | exact c.e0 _ _ | exact c.e1 _ _ | exact c.e2 _ _ | apply nd_deep | apply nd_inner
theorem c__law_apart {Γ : Gm} (c : Ctx Γ) : CalleeOk Γ 2 "_law_apart" 1 f__law_apart := by
  obtain ⟨f, fd, F, m⟩ := c.d 25 _ _ rfl
  exact fn_ok c.g0 F sc__law_apart (by decide) m (F.bindsN fun _ _ _ _ _ _ us hl => match us, hl with | [_], _ => rfl) (nd__law_apart c) k__law_apart
theorem sc__law_union : FnScope n__law_union ["rows"] (defScope (top 46)) := ⟨rfl, rfl, rfl, by decide +kernel, rfl, by decide +kernel, by decide +kernel⟩
theorem k__law_union : b__law_union.chk n__law_union (defScope (top 46)) (fun _ => true) (defBody (top 46)) = true := by decide +kernel
theorem nd__law_union {Γ : Gm} {tl : Prop} (c : Ctx Γ) : NeedsOk Γ 0 tl b__law_union.needs := by
  refine NeedsOk.of ?_
  repeat first | exact trivial | apply And.intro | exact nd_int c.v0 | exact nd_int c.v1 | exact c.e0 _ _ | exact c.e1 _ _ | exact c.e2 _ _ | apply nd_deep | apply nd_inner
theorem c__law_union {Γ : Gm} (c : Ctx Γ) : CalleeOk Γ 2 "_law_union" 1 f__law_union := by
  obtain ⟨f, fd, F, m⟩ := c.d 26 _ _ rfl
  exact fn_ok c.g0 F sc__law_union (by decide) m (F.bindsN fun _ _ _ _ _ _ us hl => match us, hl with | [_], _ => rfl) (nd__law_union c) k__law_union
theorem sc__law_next : FnScope n__law_next ["state", "many"] (defScope (top 36)) := ⟨rfl, rfl, rfl, by decide +kernel, rfl, by decide +kernel, by decide +kernel⟩
theorem k__law_next : b__law_next.chk n__law_next (defScope (top 36)) (fun _ => true) (defBody (top 36)) = true := by decide +kernel
theorem nd__law_next {Γ : Gm} {tl : Prop} (c : Ctx Γ) : NeedsOk Γ 0 tl b__law_next.needs := by
  refine NeedsOk.of ?_
  repeat first | exact trivial | apply And.intro | exact nd_int c.v0 | exact nd_int c.v1 | exact c.e0 _ _ | exact c.e1 _ _ | exact c.e2 _ _ | apply nd_deep | apply nd_inner
theorem c__law_next {Γ : Gm} (c : Ctx Γ) : CalleeOk Γ 2 "_law_next" 2 f__law_next := by
  obtain ⟨f, fd, F, m⟩ := c.d 27 _ _ rfl
  exact fn_ok c.g0 F sc__law_next (by decide) m (F.bindsN fun _ _ _ _ _ _ us hl => match us, hl with | [_, _], _ => rfl) (nd__law_next c) k__law_next
theorem sc__law_things : FnScope n__law_things ["row"] (defScope (top 42)) := ⟨rfl, rfl, rfl, by decide +kernel, rfl, by decide +kernel, by decide +kernel⟩
theorem k__law_things : b__law_things.chk n__law_things (defScope (top 42)) (fun _ => true) (defBody (top 42)) = true := by decide +kernel
theorem nd__law_things {Γ : Gm} {tl : Prop} (c : Ctx Γ) : NeedsOk Γ 0 tl b__law_things.needs := by
  refine NeedsOk.of ?_
  repeat first | exact trivial | apply And.intro | exact nd_int c.v0 | exact nd_int c.v1 | exact c.e0 _ _ | exact c.e1 _ _ | exact c.e2 _ _ | apply nd_deep | apply nd_inner
theorem c__law_things {Γ : Gm} (c : Ctx Γ) : CalleeOk Γ 2 "_law_things" 1 f__law_things := by
  obtain ⟨f, fd, F, m⟩ := c.d 28 _ _ rfl
  exact fn_ok c.g0 F sc__law_things (by decide) m (F.bindsN fun _ _ _ _ _ _ us hl => match us, hl with | [_], _ => rfl) (nd__law_things c) k__law_things
theorem sc__law_size : FnScope n__law_size ["row"] (defScope (top 43)) := ⟨rfl, rfl, rfl, by decide +kernel, rfl, by decide +kernel, by decide +kernel⟩
theorem k__law_size : b__law_size.chk n__law_size (defScope (top 43)) (fun _ => true) (defBody (top 43)) = true := by decide +kernel
theorem nd__law_size {Γ : Gm} {tl : Prop} (c : Ctx Γ) : NeedsOk Γ 1 tl b__law_size.needs := by
  refine NeedsOk.of ?_
  repeat first | exact trivial | apply And.intro | exact nd_call (c__law_things c) (by decide) | exact nd_int c.v0 | exact nd_int c.v1 | exact c.e0 _ _ | exact c.e1 _ _ | exact c.e2 _ _ | apply nd_deep | apply nd_inner
theorem c__law_size {Γ : Gm} (c : Ctx Γ) : CalleeOk Γ 3 "_law_size" 1 f__law_size := by
  obtain ⟨f, fd, F, m⟩ := c.d 29 _ _ rfl
  exact fn_ok c.g0 F sc__law_size (by decide) m (F.bindsN fun _ _ _ _ _ _ us hl => match us, hl with | [_], _ => rfl) (nd__law_size c) k__law_size
theorem sc__law_greedy : FnScope n__law_greedy ["family"] (defScope (top 49)) := ⟨rfl, rfl, rfl, by decide +kernel, rfl, by decide +kernel, by decide +kernel⟩
theorem k__law_greedy : b__law_greedy.chk n__law_greedy (defScope (top 49)) (fun _ => true) (defBody (top 49)) = true := by decide +kernel
theorem nd__law_greedy {Γ : Gm} {tl : Prop} (c : Ctx Γ) : NeedsOk Γ 2 tl b__law_greedy.needs := by
  refine NeedsOk.of ?_
  repeat first | exact trivial | apply And.intro | exact nd_call (c__law_size c) (by decide) | exact nd_int c.v0 | exact nd_int c.v1 | exact c.e0 _ _ | exact c.e1 _ _ | exact c.e2 _ _ | apply nd_deep | apply nd_inner
theorem c__law_greedy {Γ : Gm} (c : Ctx Γ) : CalleeOk Γ 4 "_law_greedy" 1 f__law_greedy := by
  obtain ⟨f, fd, F, m⟩ := c.d 30 _ _ rfl
  exact fn_ok c.g0 F sc__law_greedy (by decide) m (F.bindsN fun _ _ _ _ _ _ us hl => match us, hl with | [_], _ => rfl) (nd__law_greedy c) k__law_greedy
theorem sc__law_gcd : FnScope n__law_gcd ["one", "other"] (defScope (top 38)) := ⟨rfl, rfl, rfl, by decide +kernel, rfl, by decide +kernel, by decide +kernel⟩
theorem k__law_gcd : b__law_gcd.chk n__law_gcd (defScope (top 38)) (fun _ => true) (defBody (top 38)) = true := by decide +kernel
theorem nd__law_gcd {Γ : Gm} {tl : Prop} (c : Ctx Γ) : NeedsOk Γ 0 tl b__law_gcd.needs := by
  refine NeedsOk.of ?_
  repeat first | exact trivial | apply And.intro | exact nd_int c.v0 | exact nd_int c.v1 | exact c.e0 _ _ | exact c.e1 _ _ | exact c.e2 _ _ | apply nd_deep | apply nd_inner
theorem c__law_gcd {Γ : Gm} (c : Ctx Γ) : CalleeOk Γ 2 "_law_gcd" 2 f__law_gcd := by
  obtain ⟨f, fd, F, m⟩ := c.d 31 _ _ rfl
  exact fn_ok c.g0 F sc__law_gcd (by decide) m (F.bindsN fun _ _ _ _ _ _ us hl => match us, hl with | [_, _], _ => rfl) (nd__law_gcd c) k__law_gcd
theorem sc__law_fraction : FnScope n__law_fraction ["top", "below"] (defScope (top 39)) := ⟨rfl, rfl, rfl, by decide +kernel, rfl, by decide +kernel, by decide +kernel⟩
theorem k__law_fraction : b__law_fraction.chk n__law_fraction (defScope (top 39)) (fun _ => true) (defBody (top 39)) = true := by decide +kernel
theorem nd__law_fraction {Γ : Gm} {tl : Prop} (c : Ctx Γ) : NeedsOk Γ 1 tl b__law_fraction.needs := by
  refine NeedsOk.of ?_
  repeat first | exact trivial | apply And.intro | exact nd_call (c__law_gcd c) (by decide) | exact nd_int c.v0 | exact nd_int c.v1 | exact c.e0 _ _ | exact c.e1 _ _ | exact c.e2 _ _ | apply nd_deep | apply nd_inner
theorem c__law_fraction {Γ : Gm} (c : Ctx Γ) : CalleeOk Γ 3 "_law_fraction" 2 f__law_fraction := by
  obtain ⟨f, fd, F, m⟩ := c.d 32 _ _ rfl
  exact fn_ok c.g0 F sc__law_fraction (by decide) m (F.bindsN fun _ _ _ _ _ _ us hl => match us, hl with | [_, _], _ => rfl) (nd__law_fraction c) k__law_fraction
theorem sc__law_plus : FnScope n__law_plus ["one", "other"] (defScope (top 40)) := ⟨rfl, rfl, rfl, by decide +kernel, rfl, by decide +kernel, by decide +kernel⟩
theorem k__law_plus : b__law_plus.chk n__law_plus (defScope (top 40)) (fun _ => true) (defBody (top 40)) = true := by decide +kernel
theorem nd__law_plus {Γ : Gm} {tl : Prop} (c : Ctx Γ) : NeedsOk Γ 2 tl b__law_plus.needs := by
  refine NeedsOk.of ?_
  repeat first | exact trivial | apply And.intro | exact nd_call (c__law_fraction c) (by decide) | exact nd_int c.v0 | exact nd_int c.v1 | exact c.e0 _ _ | exact c.e1 _ _ | exact c.e2 _ _ | apply nd_deep | apply nd_inner
theorem c__law_plus {Γ : Gm} (c : Ctx Γ) : CalleeOk Γ 4 "_law_plus" 2 f__law_plus := by
  obtain ⟨f, fd, F, m⟩ := c.d 33 _ _ rfl
  exact fn_ok c.g0 F sc__law_plus (by decide) m (F.bindsN fun _ _ _ _ _ _ us hl => match us, hl with | [_, _], _ => rfl) (nd__law_plus c) k__law_plus
theorem sc_parted : FnScope n_parted ["family"] (defScope (top 29)) := ⟨rfl, rfl, rfl, by decide +kernel, rfl, by decide +kernel, by decide +kernel⟩
theorem k_parted : b_parted.chk n_parted (defScope (top 29)) (fun _ => true) (defBody (top 29)) = true := by decide +kernel
theorem nd_parted {Γ : Gm} {tl : Prop} (c : Ctx Γ) : NeedsOk Γ 3 tl b_parted.needs := by
  refine NeedsOk.of ?_
  repeat first | exact trivial | apply And.intro | exact nd_call (c_chosen_rows c) (by decide) | exact nd_call (c_are_apart c) (by decide) | exact nd_call (c_is_cover c) (by decide) | exact nd_call (c_check_few c) (by decide) | exact nd_int c.v0 | exact nd_int c.v1 | exact c.e0 _ _ | exact c.e1 _ _ | exact c.e2 _ _ | apply nd_deep | apply nd_inner
theorem c_parted {Γ : Gm} (c : Ctx Γ) : CalleeOk Γ 5 "parted" 1 f_parted := by
  obtain ⟨f, fd, F, m⟩ := c.d 34 _ _ rfl
  exact fn_ok c.g0 F sc_parted (by decide) m (F.bindsN fun _ _ _ _ _ _ us hl => match us, hl with | [_], _ => rfl) (nd_parted c) k_parted
theorem sc_greedy_cover : FnScope n_greedy_cover ["family"] (defScope (top 27)) := ⟨rfl, rfl, rfl, by decide +kernel, rfl, by decide +kernel, by decide +kernel⟩
theorem k_greedy_cover : b_greedy_cover.chk n_greedy_cover (defScope (top 27)) (fun _ => true) (defBody (top 27)) = true := by decide +kernel
theorem nd_greedy_cover {Γ : Gm} {tl : Prop} (c : Ctx Γ) : NeedsOk Γ 2 tl b_greedy_cover.needs := by
  refine NeedsOk.of ?_
  repeat first | exact trivial | apply And.intro | exact nd_call (c_known_size c) (by decide) | exact nd_call (c_full_of c) (by decide) | exact nd_call (c_check_family c) (by decide) | exact nd_int c.v0 | exact nd_int c.v1 | exact c.e0 _ _ | exact c.e1 _ _ | exact c.e2 _ _ | apply nd_deep | apply nd_inner
theorem c_greedy_cover {Γ : Gm} (c : Ctx Γ) : CalleeOk Γ 4 "greedy_cover" 1 f_greedy_cover := by
  obtain ⟨f, fd, F, m⟩ := c.d 35 _ _ rfl
  exact fn_ok c.g0 F sc_greedy_cover (by decide) m (F.bindsN fun _ _ _ _ _ _ us hl => match us, hl with | [_], _ => rfl) (nd_greedy_cover c) k_greedy_cover
theorem sc_cover_count : FnScope n_cover_count ["family"] (defScope (top 25)) := ⟨rfl, rfl, rfl, by decide +kernel, rfl, by decide +kernel, by decide +kernel⟩
theorem k_cover_count : b_cover_count.chk n_cover_count (defScope (top 25)) (fun _ => true) (defBody (top 25)) = true := by decide +kernel
theorem nd_cover_count {Γ : Gm} {tl : Prop} (c : Ctx Γ) : NeedsOk Γ 4 tl b_cover_count.needs := by
  refine NeedsOk.of ?_
  repeat first | exact trivial | apply And.intro | exact nd_call (c_chosen_rows c) (by decide) | exact nd_call (c_is_cover c) (by decide) | exact nd_call (c_fewest_cover c) (by decide) | exact nd_int c.v0 | exact nd_int c.v1 | exact c.e0 _ _ | exact c.e1 _ _ | exact c.e2 _ _ | apply nd_deep | apply nd_inner
theorem c_cover_count {Γ : Gm} (c : Ctx Γ) : CalleeOk Γ 6 "cover_count" 1 f_cover_count := by
  obtain ⟨f, fd, F, m⟩ := c.d 36 _ _ rfl
  exact fn_ok c.g0 F sc_cover_count (by decide) m (F.bindsN fun _ _ _ _ _ _ us hl => match us, hl with | [_], _ => rfl) (nd_cover_count c) k_cover_count
theorem sc__law_family : FnScope n__law_family ["state", "most", "rows_most"] (defScope (top 41)) := ⟨rfl, rfl, rfl, by decide +kernel, rfl, by decide +kernel, by decide +kernel⟩
theorem k__law_family : b__law_family.chk n__law_family (defScope (top 41)) (fun _ => true) (defBody (top 41)) = true := by decide +kernel
theorem nd__law_family {Γ : Gm} {tl : Prop} (c : Ctx Γ) : NeedsOk Γ 2 tl b__law_family.needs := by
  refine NeedsOk.of ?_
  repeat first | exact trivial | apply And.intro | exact nd_call (c__law_size c) (by decide) | exact nd_call (c__law_next c) (by decide) | exact nd_int c.v0 | exact nd_int c.v1 | exact c.e0 _ _ | exact c.e1 _ _ | exact c.e2 _ _ | apply nd_deep | apply nd_inner
theorem c__law_family {Γ : Gm} (c : Ctx Γ) : CalleeOk Γ 4 "_law_family" 3 f__law_family := by
  obtain ⟨f, fd, F, m⟩ := c.d 37 _ _ rfl
  exact fn_ok c.g0 F sc__law_family (by decide) m (F.bindsN fun _ _ _ _ _ _ us hl => match us, hl with | [_, _, _], _ => rfl) (nd__law_family c) k__law_family
theorem sc_law : FnScope n_law ["script"] (defScope (top 52)) := ⟨rfl, rfl, rfl, by decide +kernel, rfl, by decide +kernel, by decide +kernel⟩
theorem k_law : b_law.chk n_law (defScope (top 52)) (defBody (top 52)) = true := by decide +kernel
theorem nd_law {Γ : Gm} {fd : FuncData} (c : Ctx Γ) (tab : TabF Γ fd "law") : NeedsOk Γ 7 (TabF Γ fd "law") b_law.needs := by
  refine NeedsOk.of ?_
  repeat first | exact trivial | exact nd_tell c.td tab | exact nd_key tab | apply And.intro | exact nd_call (c__law_stream c) (by decide) | exact nd_call (c_most_apart c) (by decide) | exact nd_call (c_fewest_cover c) (by decide) | exact nd_call (c_least_all_meet c) (by decide) | exact nd_call (c_are_apart c) (by decide) | exact nd_call (c_is_cover c) (by decide) | exact nd_call (c__law_bad_families c) (by decide) | exact nd_call (c_greedy_bound c) (by decide) | exact nd_call (c_deepest c) (by decide) | exact nd_call (c__law_helly_holds c) (by decide) | exact nd_call (c__law_same c) (by decide) | exact nd_call (c__law_helly c) (by decide) | exact nd_call (c__law_apart c) (by decide) | exact nd_call (c__law_union c) (by decide) | exact nd_call (c__law_next c) (by decide) | exact nd_call (c__law_greedy c) (by decide) | exact nd_call (c__law_size c) (by decide) | exact nd_call (c__law_plus c) (by decide) | exact nd_call (c__law_fraction c) (by decide) | exact nd_call (c_parted c) (by decide) | exact nd_call (c_greedy_cover c) (by decide) | exact nd_call (c_cover_count c) (by decide) | exact nd_call (c__law_choices c) (by decide) | exact nd_call (c__law_family c) (by decide) | exact nd_int c.v0 | exact nd_int c.v1 | exact c.e0 _ _ | exact c.e1 _ _ | exact c.e2 _ _ | apply nd_deep | apply nd_inner
theorem fnG_law {Γ : Gm} (c : Ctx Γ) {f : Addr} {fd : FuncData} (F : FunD Γ.K "law" "law" (defArgs (top 52)) (defBody (top 52)) (defScope (top 52)) [] [] f fd) (tab : TabF Γ fd "law") : FnG Γ 9 f fd ["script"] (spF Γ 1 f_law) :=
  law_ok c.g0 F sc_law (by decide) (nd_law c tab) k_law
abbrev R : PySem.W.OpenRow := PySem.W.OpenLaw.row PySem.Challenge.rw_setsmeet_k54_whole_covers_and_packings
abbrev hk : PySem.W.Hook := hookX 3 (faOf fn more) fn ex
def ob (s : PySem.W.SharedT) : AlX := obsXG 3 (faOf fn more) fn ex (HandSHeadRun.getT s)
theorem ob_eq (s : PySem.W.SharedT) : ob s = hk.obs s.abs := obsX_eq (HandSHeadRun.getT_eq s)
def loose0 : List Str := ["MeetError", "NotAllowed", "TooLarge", "Missing", "BadForm", "Broken", "MAX_THINGS", "check_many", "check_family", "known_things", "known_size", "divisor", "ratio", "added", "MAX_COVERED", "check_few", "full_of", "is_cover", "are_apart", "chosen_rows", "fewest_cover", "cover_count", "most_apart", "greedy_cover"]
def loose1 : List Str := ["greedy_bound", "parted", "deepest", "least_all_meet", "common_of", "_law_same", "_law_stream", "_law_next", "_law_told", "_law_gcd", "_law_fraction", "_law_plus", "_law_family", "_law_things", "_law_size", "_law_bad_families", "_law_union", "_law_common", "_law_apart", "_law_greedy", "_law_helly", "_law_helly_holds"]
def loose : List Str := loose0 ++ loose1
theorem run (w : World) : HandSHeadRun.RunEq R (PySem.W.view R.prog [44, 52]) hk ob 5300 loose w := by
  intro os
  kernel_rfl
theorem sc_told : FnScope toldN ["call"] (defScope (top 37)) := ⟨rfl, rfl, rfl, by decide +kernel, rfl, by decide +kernel, by decide +kernel⟩
theorem t_told : ∃ t : TPos, defBody (top 37) = t.body ∧ toldC (defScope (top 37)) t = true := ⟨⟨_, _, _, _, _, _, _, _, _, _, _, _, _, _, _, _, _, _, _, _, _, _, _, _, _, _, _, _, _, _, _, _, _, _, _, _, _, _, _, _, _, _, _, _, _, _, _, _, _, _, _, _, _, _, _, _, _, _, _, _, _, _, _, _, _, _, _, _, _, _, _, _, _, _, _, _, _, _, _, _⟩, rfl, by decide +kernel⟩
theorem toldFn {K : PySem.W.Frag} {h : Heap} {mg : Str → Option Value} (X : K.In h) (G : h.Ns mainGlobals mg) (c : SaysX (faOf fn more) fn ex K) : ToldFn K mg := by
  obtain ⟨⟨fd, F⟩, m⟩ := says_def c X G (i := 39) (d := dd "_law_told" 37) rfl
  obtain ⟨t, h1, h2⟩ := t_told
  exact ⟨_, fd, _, _, _, F, m, F.bindsN fun _ _ _ _ _ _ us hl => match us, hl with | [_], _ => rfl, sc_told, t, h1, h2⟩
theorem ctx {w : World} {K : PySem.W.Frag} {h : Heap} {mg : Str → Option Value} {base : Heap} (X : K.In h) (G : h.Ns mainGlobals mg) (c : SaysX (faOf fn more) fn ex K) (tb : ∀ p ∈ csOf K ["_law_choices", "law"], LamX.TabB base mg p.1 p.2) : Ctx ⟨R.prog, w, K, mg, base, TOf K ["_law_choices", "law"], clsK K⟩ where
  g0 := ⟨says_gm c X G⟩
  d := fun i x j e => by
    obtain ⟨⟨fd, F⟩, m⟩ := says_def c X G e
    exact ⟨_, fd, F, m⟩
  v0 := says_int c X G (by simp [more])
  v1 := says_int c X G (by simp [more])
  e0 := fun k tl => nd_exn (e := .mi) X G (says_more c (by simp [more, exNm])) (says_more c (by simp [more, exNm]))
  e1 := fun k tl => nd_exn (e := .na) X G (says_more c (by simp [more, exNm])) (says_more c (by simp [more, exNm]))
  e2 := fun k tl => nd_exn (e := .tl) X G (says_more c (by simp [more, exNm])) (says_more c (by simp [more, exNm]))
  td := told_ok X G (fun x hx => says_more c (by revert x; simp [more, clsN])) (c.ex 1) (toldFn X G c)
  t__law_choices := fun f fd F m => tabF_multi X G F m (by simp) (c.ex 0) tb
  t_law := fun f fd F m => tabF_multi X G F m (by simp) (c.ex 0) tb
theorem facts {w : World} {K : PySem.W.Frag} {h : Heap} {mg : Str → Option Value} {f : Addr} (X : K.In h) (G : h.Ns mainGlobals mg) (hfa : mg ("law" : Str) = some (.ref f)) (c : SaysX (faOf fn more) fn ex K) :
    ∃ (fd : FuncData), (∀ (s : Shared) (v : Value), BindsTo s fd ⟨[v], []⟩ [("script", v)]) ∧ ∀ base : Heap, (∀ p ∈ csOf K ["_law_choices", "law"], LamX.TabB base mg p.1 p.2) → FnG ⟨R.prog, w, K, mg, base, TOf K ["_law_choices", "law"], clsK K⟩ 9 f fd ["script"] (spF ⟨R.prog, w, K, mg, base, TOf K ["_law_choices", "law"], clsK K⟩ 1 f_law) := by
  obtain ⟨⟨fd, F⟩, m⟩ := says_def c X G (i := 38) (d := dd "law" 52) rfl
  have e := hfa.symm.trans m
  cases e
  have b := FunD.bindsA (ps := ["script"]) F fun _ _ _ _ _ _ us hl => match us, hl with | [_], _ => rfl
  exact ⟨fd, fun s v => b s [v] rfl, fun base tb => fnG_law (ctx X G c tb) F ((ctx X G c tb).t_law _ _ F m)⟩
end Pv.K54
open PySem PySem.W PySem.Calls PyProof.Rows
theorem PySem.Challenge.cw_setsmeet_k54_whole_covers_and_packings_holds : PySem.Challenge.rw_setsmeet_k54_whole_covers_and_packings.Holds := by
  w_on; o_law
  refine HandSHeadRun.head_any (r := OpenLaw.row PySem.Challenge.rw_setsmeet_k54_whole_covers_and_packings) (q := view (OpenLaw.row PySem.Challenge.rw_setsmeet_k54_whole_covers_and_packings).prog [44, 52]) (H := Pv.K54.hk) (ob := Pv.K54.ob) (M := 5300) (loose := Pv.K54.loose) (d := HandSHeadRun.topDef (OpenLaw.row PySem.Challenge.rw_setsmeet_k54_whole_covers_and_packings).prog 52) (kwd := []) Pv.K54.ob_eq
    (by kernel_rfl) (fun s => by kernel_rfl) Pv.K54.run (by kernel_rfl) (by kernel_rfl) (by kernel_rfl) (by rfl) (by first | assumption | decide +kernel) (by decide +kernel) ⟨rfl, rfl, rfl, rfl, rfl, by decide +kernel⟩ ?hw ?hc
  case hw => w_witness2
  case hc =>
    refine Pv.walk_ofT (l := PySem.Challenge.rw_setsmeet_k54_whole_covers_and_packings) (n := 63) (k := 9) (x := "script") (f := Pv.K54.f_law) rfl (by decide) (by kernel_rfl) ⟨rfl, by decide, by decide⟩ (fun ns hn hb => Pv.K54.law_true ns hn hb) ?_
    intro w s₀ mg mb fa h G Y hmg0
    obtain ⟨K, KX, c⟩ := Y
    have hmg : mg ("law" : PySem.Str) = some (.ref fa) := by
      have e : (HandSHeadRun.topDef (OpenLaw.row PySem.Challenge.rw_setsmeet_k54_whole_covers_and_packings).prog 52).name = ("law" : PySem.Str) := by kernel_rfl
      rw [← e]
      exact hmg0
    obtain ⟨fd, hb, hF⟩ := Pv.K54.facts (w := w) KX G.T.g hmg c
    have tb0 := PySem.W.tab_of (x := "_law_choices") (d := HandSHeadRun.topDef (OpenLaw.row PySem.Challenge.rw_setsmeet_k54_whole_covers_and_packings).prog 44) G.T KX (by kernel_rfl) (Pv.tabsB_at (xs := ["_law_choices", "law"]) (c.ex 0) (by simp)).1
    have tb1 := PySem.W.tab_of (x := "law") (d := HandSHeadRun.topDef (OpenLaw.row PySem.Challenge.rw_setsmeet_k54_whole_covers_and_packings).prog 52) G.T KX (by kernel_rfl) (Pv.tabsB_at (xs := ["_law_choices", "law"]) (c.ex 0) (by simp)).1
    refine ⟨K, fd, Pv.csOf K ["_law_choices", "law"], Pv.TOf K ["_law_choices", "law"], Pv.clsK K, KX, Pv.tabsAt_of (c.ex 0) (fun x hx => ?_), hb, fun base tb => hF base tb⟩
    simp only [List.mem_cons, List.not_mem_nil, or_false] at hx
    first | (rcases hx with rfl | rfl <;> first | exact tb0 | exact tb1)
