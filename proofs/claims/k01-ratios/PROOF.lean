import PyProof.Rows.All
import Wide.All
import OpenK.AllK
import Wide.FinOn
import HandS.ForMost
import HandS.ForExc
import HandS.Lambda
import HandS.Defaults
import HandS.Wide
import HandS.WideBits
import HandS.Star
import HandS.Zip
import HandS.TupAny
import HandS.TupMul
import HandS.Conv
import HandS.SortInts
import HandS.Deep
import HandS.RaiseMore
import HandS.FStr
import HandS.Head0
import HandS.Head1
import HandS.Head2
import HandS.HeadEnd
import HandS.HeadHook1
import HandS.HeadHook2
import HandS.Walk
import HandS.TupLen
import HandS.Style
import PySem.Challenge.RW_setsmeet_k01_ratios
import Lean
set_option Elab.async false
set_option linter.all false
set_option maxRecDepth 100000
set_option maxHeartbeats 0
namespace Pv
open PySem PySem.Spec PyProof.Rows L2

/-! values, results, the monad -/
abbrev D := PyData
abbrev SS := Option (List D)
inductive Exn where
  | na | tl | mi | bf (i : Int) | br (x : Str)
  deriving DecidableEq
inductive Res (α : Type) where
  | ok (a : α) (s : SS) | exc (k : Exn) (s : SS) | bad
def M (α : Type) := SS → Res α
namespace M
variable {α β γ : Type}
def ret (a : α) : M α := fun s => .ok a s
def bnd (m : M α) (f : α → M β) : M β := fun s => match m s with
  | .ok a s' => f a s'
  | .exc k s' => .exc k s'
  | .bad => .bad
end M
instance : Monad M where
  pure := M.ret
  bind := M.bnd
section
variable {α β γ : Type}
def thr (k : Exn) : M α := fun s => .exc k s
def bad : M α := fun _ => .bad
theorem pure_at (a : α) (s : SS) : (pure a : M α) s = .ok a s := rfl
theorem bind_at (m : M α) (f : α → M β) (s : SS) : (m >>= f) s = (match m s with | .ok a s' => f a s' | .exc k s' => .exc k s' | .bad => .bad) := rfl
@[simp] theorem pure_bnd (a : α) (f : α → M β) : (pure a >>= f) = f a := rfl
@[simp] theorem thr_bnd (k : Exn) (f : α → M β) : (thr k >>= f) = thr k := rfl
@[simp] theorem bad_bnd (f : α → M β) : (bad >>= f) = bad := rfl
@[simp] theorem bnd_assoc (m : M α) (f : α → M β) (g : β → M γ) : ((m >>= f) >>= g) = (m >>= fun a => f a >>= g) := by
  funext s
  show (match (match m s with | .ok a s' => f a s' | .exc k s' => .exc k s' | .bad => .bad) with | .ok a s' => g a s' | .exc k s' => .exc k s' | .bad => .bad) = (match m s with | .ok a s' => (f a >>= g) s' | .exc k s' => .exc k s' | .bad => .bad)
  cases m s <;> rfl
@[simp] theorem bnd_pure (m : M α) : (m >>= fun a => pure a) = m := by
  funext s
  show (match m s with | .ok a s' => .ok a s' | .exc k s' => .exc k s' | .bad => .bad) = m s
  cases m s <;> rfl
end
/-- what may not raise here -/
def nox {α : Type} (m : M α) : M α := fun s => match m s with
  | .exc _ _ => .bad
  | r => r
@[simp] theorem nox_pure {α : Type} (a : α) : nox (pure a : M α) = pure a := rfl

inductive Slot where
  | none | val (d : D) | own (ds : List D) | ownd (es : List (D × D)) | cell | scr (ds : List D)
def Slot.isOwn : Slot → Bool
  | .own _ => true
  | .ownd _ => true
  | _ => false
abbrev Env := List Slot
abbrev ME := Env → M D
inductive Arg where
  | d (x : D) | cell | scr (ds : List D)
def Arg.slot : Arg → Slot
  | .d x => .val x
  | .cell => .cell
  | .scr ds => .scr ds
abbrev Fn := List Arg → M D

/-! how values lie -/
def keyD : Key → D
  | .inl i => .int i
  | .inr x => .str x
mutual
inductive Rp (K : PySem.W.Frag) (B : Hp) : V → D → Prop
  | non : Rp K B .non .none
  | bl (b : Bool) : Rp K B (.bl b) (.bool b)
  | int (i : Int) : Rp K B (.int i) (.int i)
  | str (x : Str) : Rp K B (.str x) (.str x)
  | lst {a : Addr} {xs : List V} {ds : List D} : B a = some (.lst xs) → RpAll K B xs ds → Rp K B (.ref a) (.list ds)
  | tup {a : Addr} {xs : List V} {ds : List D} : SqT K B a xs → RpAll K B xs ds → Rp K B (.ref a) (.tuple ds)
  | dct {a : Addr} {kvs : List (Key × V)} {es : List (D × D)} : B a = some (.dK kvs) → es.map (·.1) = kvs.map (fun kv => keyD kv.1) → RpAll K B (kvs.map (·.2)) (es.map (·.2)) → Rp K B (.ref a) (.dict es)
  | dctT {a : Addr} {kvs : List (List Key × V)} {es : List (D × D)} : B a = some (.dT kvs) → kvs ≠ [] → es.map (·.1) = kvs.map (fun kv => .tuple (kv.1.map keyD)) → RpAll K B (kvs.map (·.2)) (es.map (·.2)) → Rp K B (.ref a) (.dict es)
inductive RpAll (K : PySem.W.Frag) (B : Hp) : List V → List D → Prop
  | nil : RpAll K B [] []
  | cons {v : V} {vs : List V} {d : D} {ds : List D} : Rp K B v d → RpAll K B vs ds → RpAll K B (v :: vs) (d :: ds)
end
section
variable {K : PySem.W.Frag} {B B' H : Hp}
abbrev Sub (B H : Hp) : Prop := ∀ a o, B a = some o → H a = some o
theorem Sub.rd {a : Addr} {u : HO} (s : Sub B B') (h : Rd B a u) : Rd B' a u := by
  rcases h with h | ⟨o, h⟩
  · exact .inl (s _ _ h)
  · exact .inr ⟨o, s _ _ h⟩
theorem Sub.sqL {a : Addr} {xs : List V} (s : Sub B B') (h : SqL K B a xs) : SqL K B' a xs := h.elim (fun h => .inl (s.rd h)) .inr
theorem Sub.sqT {a : Addr} {xs : List V} (s : Sub B B') (h : SqT K B a xs) : SqT K B' a xs := h.elim (fun h => .inl (s.rd h)) .inr
mutual
theorem Rp.up (s : Sub B B') : ∀ {v : V} {d : D}, Rp K B v d → Rp K B' v d
  | _, _, .non => .non
  | _, _, .bl b => .bl b
  | _, _, .int i => .int i
  | _, _, .str x => .str x
  | _, _, .lst h r => .lst (s _ _ h) (RpAll.up s r)
  | _, _, .tup h r => .tup (s.sqT h) (RpAll.up s r)
  | _, _, .dct h e r => .dct (s _ _ h) e (RpAll.up s r)
  | _, _, .dctT h n e r => .dctT (s _ _ h) n e (RpAll.up s r)
theorem RpAll.up (s : Sub B B') : ∀ {vs : List V} {ds : List D}, RpAll K B vs ds → RpAll K B' vs ds
  | _, _, .nil => .nil
  | _, _, .cons h r => .cons (Rp.up s h) (RpAll.up s r)
end
theorem RpAll.len : ∀ {vs : List V} {ds : List D}, RpAll K B vs ds → vs.length = ds.length
  | _, _, .nil => rfl
  | _, _, .cons _ r => congrArg Nat.succ (RpAll.len r)
theorem RpAll.at : ∀ {vs : List V} {ds : List D} {i : Nat} {d : D}, RpAll K B vs ds → ds[i]? = some d → ∃ v, vs[i]? = some v ∧ Rp K B v d
  | _, _, _, _, .nil, e => by simp at e
  | _, _, 0, _, .cons h r, e => by
    simp only [List.getElem?_cons_zero, Option.some.injEq] at e
    subst e
    exact ⟨_, rfl, h⟩
  | _, _, i + 1, _, .cons h r, e => by
    obtain ⟨v, h1, h2⟩ := RpAll.at (i := i) r (by simpa using e)
    exact ⟨v, by simpa using h1, h2⟩
theorem RpAll.app : ∀ {vs ws : List V} {ds es : List D}, RpAll K B vs ds → RpAll K B ws es → RpAll K B (vs ++ ws) (ds ++ es)
  | _, _, _, _, .nil, s => s
  | _, _, _, _, .cons h r, s => .cons h (RpAll.app r s)
theorem RpAll.take : ∀ {vs : List V} {ds : List D} (n : Nat), RpAll K B vs ds → RpAll K B (vs.take n) (ds.take n)
  | _, _, 0, _ => by simp only [List.take_zero]; exact .nil
  | _, _, _ + 1, .nil => .nil
  | _, _, n + 1, .cons h r => .cons h (RpAll.take n r)
theorem RpAll.drop : ∀ {vs : List V} {ds : List D} (n : Nat), RpAll K B vs ds → RpAll K B (vs.drop n) (ds.drop n)
  | _, _, 0, r => r
  | _, _, _ + 1, .nil => .nil
  | _, _, n + 1, .cons _ r => RpAll.drop n r
theorem RpAll.set {v : V} {d : D} (h : Rp K B v d) : ∀ {vs : List V} {ds : List D} (n : Nat), RpAll K B vs ds → RpAll K B (vs.set n v) (ds.set n d)
  | _, _, _, .nil => .nil
  | _, _, 0, .cons _ r => .cons h r
  | _, _, n + 1, .cons g r => .cons g (RpAll.set h n r)
theorem RpAll.rev : ∀ {vs : List V} {ds : List D}, RpAll K B vs ds → RpAll K B vs.reverse ds.reverse
  | _, _, .nil => .nil
  | _, _, .cons h r => by
    rw [List.reverse_cons, List.reverse_cons]
    exact RpAll.app (RpAll.rev r) (.cons h .nil)
/-- ints lie as ints -/
theorem RpAll.ints : ∀ (ns : List Int), RpAll K B (ns.map V.int) (ns.map PyData.int)
  | [] => .nil
  | n :: ns => .cons (.int n) (RpAll.ints ns)
theorem RpAll.ints_eq : ∀ {vs : List V} {ns : List Int}, RpAll K B vs (ns.map PyData.int) → vs = ns.map V.int
  | _, [], .nil => rfl
  | _, n :: ns, .cons h r => by
    cases h
    rw [RpAll.ints_eq r]
    rfl
mutual
theorem Rp.dp (s : Sub B H) : ∀ {v : V} {d : D}, d.canLay0 = true → Rp K B v d → Dp K H v d
  | _, _, _, .non => .non
  | _, _, _, .bl b => .bl b
  | _, _, _, .int i => .int i
  | _, _, _, .str x => .str x
  | _, .list ds, hc, .lst h r => .lst (.inl (.inl (s _ _ h))) (RpAll.dp s (by simpa [PyData.canLay0] using hc) r)
  | _, .tuple ds, hc, .tup h r => .tup (s.sqT h) (RpAll.dp s (by simpa [PyData.canLay0] using hc) r)
  | _, .dict _, hc, _ => by simp [PyData.canLay0] at hc
theorem RpAll.dp (s : Sub B H) : ∀ {vs : List V} {ds : List D}, PyData.canLayAll0 ds = true → RpAll K B vs ds → DpAll K H vs ds
  | _, _, _, .nil => .nil
  | _, _, hc, .cons h r => by
    simp only [PyData.canLayAll0, Bool.and_eq_true] at hc
    exact .cons (Rp.dp s hc.1 h) (RpAll.dp s hc.2 r)
end
end

/-! the heap's steps -/
open LamX (Tabs)
structure Ext (C : Option Addr) (H H' : Hp) : Prop where
  keep : ∀ a o, H a = some o → C ≠ some a → (∀ ps, o ≠ .tbl ps) → H' a = some o
  there : ∀ a, H a ≠ none → H' a ≠ none
theorem Ext.refl {C : Option Addr} {H : Hp} : Ext C H H := ⟨fun _ _ h _ _ => h, fun _ h => h⟩
theorem Ext.trans {C : Option Addr} {H H1 H2 : Hp} (a : Ext C H H1) (b : Ext C H1 H2) : Ext C H H2 := ⟨fun x o h c t => b.keep x o (a.keep x o h c t) c t, fun x h => b.there x (a.there x h)⟩
def CellOk (K : PySem.W.Frag) (C : Option Addr) (S : SS) (B H : Hp) : Prop :=
  match C, S with
  | none, none => True
  | some c, some ds => B c = none ∧ ∃ xs, H c = some (.lst xs) ∧ RpAll K B xs ds
  | _, _ => False
/-- the globals that all share -/
structure Gm where
  prog : Program
  w : World
  K : PySem.W.Frag
  mg : Str → Option Value
  base : Heap
  T : List (Addr × Str)
  cls : Exn → Value
/-- a list, a tuple is not too long -/
def LenOk : HO → Prop
  | .lst xs => xs.length ≤ sizeLine
  | .tup xs => xs.length ≤ sizeLine
  | .frz _ u => LenOk u
  | _ => True
def Lens (H : Hp) : Prop := ∀ a o, H a = some o → LenOk o
structure Nxt (Γ : Gm) (C : Option Addr) (B H : Hp) (S' : SS) (B' H' : Hp) : Prop where
  sb : Sub B B'
  sh : Sub B' H'
  ex : Ext C H H'
  nw : ∀ a, B a = none → H a ≠ none → B' a = none
  ce : CellOk Γ.K C S' B' H'
  tb : Tabs Γ.T H'
  ln : Lens H'
section
variable {Γ : Gm} {C : Option Addr} {B B1 B2 H H1 H2 : Hp} {S S1 S2 : SS}
theorem Nxt.trans (a : Nxt Γ C B H S1 B1 H1) (b : Nxt Γ C B1 H1 S2 B2 H2) : Nxt Γ C B H S2 B2 H2 :=
  ⟨fun x o h => b.sb x o (a.sb x o h), b.sh, a.ex.trans b.ex, fun x h1 h2 => b.nw x (a.nw x h1 h2) (a.ex.there x h2), b.ce, b.tb, b.ln⟩
theorem Nxt.here (a : Nxt Γ C B H S1 B1 H1) : Nxt Γ C B1 H1 S1 B1 H1 :=
  ⟨fun _ _ h => h, a.sh, .refl, fun _ h _ => h, a.ce, a.tb, a.ln⟩
theorem sub_upd {H : Hp} {p : Addr} {o : HO} (h : H p = none) : Sub H (upd H p o) := fun b u e => by rw [upd_ne (ne_of_none e h)]; exact e
/-- a new object, kept for good -/
theorem Nxt.new (a : Nxt Γ C B H S1 B1 H1) {p : Addr} (np : H1 p = none) (o : HO) (lo : LenOk o) : Nxt Γ C B1 H1 S1 (upd B1 p o) (upd H1 p o) := by
  have nb : B1 p = none := by
    cases q : B1 p with
    | none => rfl
    | some u => rw [a.sh _ _ q] at np; cases np
  have sH := sub_upd (o := o) np
  have sB := sub_upd (o := o) nb
  refine ⟨sB, fun b u e => ?_, ⟨fun b u e _ _ => sH b u e, fun b h => ?_⟩, fun b h1 h2 => ?_, ?_, fun q hq => (a.tb q hq).ext sH, fun b u e => ?_⟩
  · by_cases hb : b = p
    · subst hb; rw [upd_same] at e ⊢; exact e
    · rw [upd_ne hb] at e ⊢; exact a.sh _ _ e
  · cases e : H1 b with
    | none => exact absurd e h
    | some u => rw [sH b u e]; simp
  · rw [upd_ne (fun z => h2 (by rw [z]; exact np))]; exact h1
  · have ce := a.ce
    unfold CellOk at ce ⊢
    split
    · trivial
    · rename_i c ds
      obtain ⟨h1, xs, h2, h3⟩ := ce
      have hc : c ≠ p := ne_of_none h2 np
      exact ⟨by rw [upd_ne hc]; exact h1, xs, sH _ _ h2, h3.up sB⟩
    · rename_i h1 h2
      split at ce
      · exact h1 rfl rfl
      · exact h2 _ _ rfl rfl
      · exact ce
  · by_cases hb : b = p
    · subst hb
      rw [upd_same] at e
      cases e
      exact lo
    · rw [upd_ne hb] at e
      exact a.ln _ _ e

def SlotOk (K : PySem.W.Frag) (C : Option Addr) (H0 B H : Hp) (s : Slot) (o : Option (Option V)) : Prop :=
  match s with
  | .none => True
  | .val d => ∃ v, o = some (some v) ∧ Rp K B v d
  | .own ds => ∃ a xs, o = some (some (.ref a)) ∧ H0 a = none ∧ B a = none ∧ C ≠ some a ∧ H a = some (.lst xs) ∧ RpAll K B xs ds
  | .ownd es => ∃ a kvs, o = some (some (.ref a)) ∧ H0 a = none ∧ B a = none ∧ C ≠ some a ∧ H a = some (.dK kvs) ∧ es.map (·.1) = kvs.map (fun kv => keyD kv.1) ∧ RpAll K B (kvs.map (·.2)) (es.map (·.2))
  | .cell => ∃ a, C = some a ∧ o = some (some (.ref a))
  | .scr ds => ∃ a xs, o = some (some (.ref a)) ∧ SqL K B a xs ∧ RpAll K B xs ds
structure Rel (Γ : Gm) (C : Option Addr) (B0 H0 : Hp) (ρ : Env) (S : SS) (σ : L2.St) (B H : Hp) : Prop where
  nx : Nxt Γ C B0 H0 S B H
  len : ρ.length = σ.length
  slot : ∀ i, SlotOk Γ.K C H0 B H (ρ.getD i .none) σ[i]?
  dis : ∀ i j a, i ≠ j → (ρ.getD i .none).isOwn = true → (ρ.getD j .none).isOwn = true → σ[i]? = some (some (V.ref a)) → σ[j]? = some (some (V.ref a)) → False
theorem SlotOk.up {H0 : Hp} {s : Slot} {o : Option (Option V)} (n : Nxt Γ C B H S1 B1 H1) (h : SlotOk Γ.K C H0 B H s o) : SlotOk Γ.K C H0 B1 H1 s o := by
  cases s with
  | none => trivial
  | val d =>
    obtain ⟨v, e, r⟩ := h
    exact ⟨v, e, r.up n.sb⟩
  | own ds =>
    obtain ⟨a, xs, e, z, b, c, h, r⟩ := h
    exact ⟨a, xs, e, z, n.nw a b (by rw [h]; simp), c, n.ex.keep _ _ h c (by simp), r.up n.sb⟩
  | ownd es =>
    obtain ⟨a, xs, e, z, b, c, h, k, r⟩ := h
    exact ⟨a, xs, e, z, n.nw a b (by rw [h]; simp), c, n.ex.keep _ _ h c (by simp), k, r.up n.sb⟩
  | cell => exact h
  | scr ds =>
    obtain ⟨a, xs, e, h, r⟩ := h
    exact ⟨a, xs, e, n.sb.sqL h, r.up n.sb⟩
theorem Rel.up {B0 H0 : Hp} {ρ : Env} {σ : L2.St} (R : Rel Γ C B0 H0 ρ S σ B H) (n : Nxt Γ C B H S1 B1 H1) : Rel Γ C B0 H0 ρ S1 σ B1 H1 :=
  ⟨R.nx.trans n, R.len, fun i => (R.slot i).up n, R.dis⟩
end

/-! expressions: what holds behind one -/
section
variable {Γ : Gm} {C : Option Addr} {W : WX} {σ : L2.St} {B B1 B2 H H1 H2 : Hp} {S S1 S2 : SS}
/-- a value held for good, or a list or dict of one's own just read -/
def RpT (K : PySem.W.Frag) (C : Option Addr) (B H : Hp) (v : V) (d : D) : Prop :=
  Rp K B v d ∨ (∃ a xs ds, v = .ref a ∧ d = .list ds ∧ H a = some (.lst xs) ∧ B a = none ∧ C ≠ some a ∧ RpAll K B xs ds) ∨
    (∃ a kvs es, v = .ref a ∧ d = .dict es ∧ H a = some (.dK kvs) ∧ B a = none ∧ C ≠ some a ∧ es.map (·.1) = kvs.map (fun kv => keyD kv.1) ∧ RpAll K B (kvs.map (·.2)) (es.map (·.2)))
theorem RpT.up {v : V} {d : D} (n : Nxt Γ C B H S1 B1 H1) (h : RpT Γ.K C B H v d) : RpT Γ.K C B1 H1 v d := by
  rcases h with h | ⟨a, xs, ds, e1, e2, h, b, c, r⟩ | ⟨a, xs, ds, e1, e2, h, b, c, k, r⟩
  · exact .inl (h.up n.sb)
  · exact .inr (.inl ⟨a, xs, ds, e1, e2, n.ex.keep _ _ h c (by simp), n.nw a b (by rw [h]; simp), c, r.up n.sb⟩)
  · exact .inr (.inr ⟨a, xs, ds, e1, e2, n.ex.keep _ _ h c (by simp), n.nw a b (by rw [h]; simp), c, k, r.up n.sb⟩)
abbrev RR := Gm → Option Addr → Hp → Hp → V → D → Prop
abbrev rrE : RR := fun Γ _ B _ v d => Rp Γ.K B v d
abbrev rrT : RR := fun Γ C B H v d => RpT Γ.K C B H v d
def PostV (R : RR) (Γ : Gm) (C : Option Addr) (W : WX) (σ : L2.St) (B H : Hp) (Q : VK) : Res D → Prop
  | .ok d S' => ∀ v H' B', Nxt Γ C B H S' B' H' → R Γ C B' H' v d → Q v H'
  | .exc k S' => ∀ H' B', Nxt Γ C B H S' B' H' → W (Γ.cls k) none σ H'
  | .bad => False
def rd (R : RR) (Γ : Gm) (W : WX) (m : ME) : TE := fun σ H Q => ∃ C B0 H0 ρ S B, Rel Γ C B0 H0 ρ S σ B H ∧ PostV R Γ C W σ B H Q (m ρ S)
abbrev rdE := rd rrE
abbrev rdT := rd rrT
theorem PostV.up {R : RR} {Q : VK} {r : Res D} (n : Nxt Γ C B H S1 B1 H1) (h : PostV R Γ C W σ B H Q r) : PostV R Γ C W σ B1 H1 Q r := by
  cases r with
  | ok d S' => exact fun v H' B' n' x => h v H' B' (n.trans n') x
  | exc k S' => exact fun H' B' n' => h H' B' (n.trans n')
  | bad => exact h
theorem PostV.bind {R : RR} {Q : VK} {α : Type} {m : M α} {f : α → M D} {S : SS} (h : PostV R Γ C W σ B H Q ((m >>= f) S)) : (∃ a S', m S = .ok a S' ∧ PostV R Γ C W σ B H Q (f a S')) ∨ (∃ k S', m S = .exc k S' ∧ PostV R Γ C W σ B H Q (.exc k S')) := by
  rw [bind_at] at h
  cases e : m S with
  | ok a S' => rw [e] at h; exact .inl ⟨a, S', rfl, h⟩
  | exc k S' => rw [e] at h; exact .inr ⟨k, S', rfl, h⟩
  | bad => rw [e] at h; exact h.elim
/-- a part is asked, then the rest -/
theorem rd_bind {R R' : RR} {m : ME} {f : D → M D} {Q Q' : VK} {B0 H0 : Hp} {ρ : Env} (r : Rel Γ C B0 H0 ρ S σ B H) (h : PostV R' Γ C W σ B H Q ((m ρ >>= f) S))
    (k : ∀ d S1 v H1 B1, Rel Γ C B0 H0 ρ S1 σ B1 H1 → Nxt Γ C B H S1 B1 H1 → R Γ C B1 H1 v d → PostV R' Γ C W σ B1 H1 Q (f d S1) → Q' v H1) : rd R Γ W m σ H Q' := by
  refine ⟨C, B0, H0, ρ, S, B, r, ?_⟩
  rcases h.bind with ⟨d, S', e, h⟩ | ⟨k', S', e, h⟩
  · rw [e]
    exact fun v H' B' n x => k d S' v H' B' (r.up n) n x (h.up n)
  · rw [e]
    exact h
theorem PE.imp {X : Cx} {e : Expr} {t t' : TE} (h : PE X e t) (i : ∀ σ H Q, t' σ H Q → t σ H Q) : PE X e t' := ⟨fun pins s σ H Q I q => h.run pins s σ H Q I (i σ H Q q)⟩
theorem PE.toT {X : Cx} {e : Expr} {m : ME} (h : PE X e (rdE Γ W m)) : PE X e (rdT Γ W m) := PE.imp h fun σ H Q ⟨C, B0, H0, ρ, S, B, r, p⟩ => by
  refine ⟨C, B0, H0, ρ, S, B, r, ?_⟩
  cases e : m ρ S with
  | ok d S' => rw [e] at p; exact fun v H' B' n x => p v H' B' n (.inl x)
  | exc k S' => rw [e] at p; exact p
  | bad => rw [e] at p; exact p
/-- the value at hand -/
theorem PostV.val {Q : VK} {d : D} {v : V} {H' B' : Hp} {S' : SS} (h : PostV rrE Γ C W σ B H Q ((pure d : M D) S')) (n : Nxt Γ C B H S' B' H') (x : Rp Γ.K B' v d) : Q v H' := h v H' B' n x
end
end Pv
namespace Pv
open PySem PySem.Spec PyProof.Rows L2
/-! forms -/
def plainE : Expr → Bool
  | .Starred .. => false
  | .Slice .. => false
  | .Set .. => false
  | .NamedExpr .. => false
  | _ => true
def plainT : Expr → Bool
  | .UnaryOp .Not _ _ => false
  | .BoolOp .. => false
  | .IfExp .. => false
  | .Compare .. => false
  | _ => true
def notComp : Expr → Bool
  | .ListComp .. => false
  | .SetComp .. => false
  | .DictComp .. => false
  | _ => true
theorem star_plain {e : Expr} (h : plainE e = true) (es : List Expr) (env : PySem.Env) : starEach (e :: es) env = (false, eval e env) :: starEach es env := by
  cases e <;> first | rfl | exact absurd h (by simp [plainE])
theorem mark_plain {e : Expr} (h : plainE e = true) (op : CmpOp) : behindInMarks op e = false := by
  cases e <;> first | rfl | exact absurd h (by simp [plainE])
theorem ix_plain {e : Expr} (h : plainE e = true) : PlainIx e := by
  intro o i
  cases e <;> first | rfl | exact absurd h (by simp [plainE])
theorem set_plain {e : Expr} (h : plainE e = true) (env : PySem.Env) (x : Value) : foldedSetIterable e env x = pure x := by
  cases e <;> first | rfl | exact absurd h (by simp [plainE])
theorem tst_plain {e : Expr} (h : plainT e = true) (env : PySem.Env) (w : Sem Value) : isTrue e env w = (do let v ← w; standAt e.pos; holding [v] (truthy v)) := by
  cases e with
  | UnaryOp op a p => cases op <;> first | rfl | exact absurd h (by simp [plainT])
  | _ => first | rfl | exact absurd h (by simp [plainT])
theorem swap_plain {e : Expr} (h : notComp e = true) (t : Option Expr) (n : Nat) (env : PySem.Env) : swapsWith e t n env = pure false := by
  cases e <;> first | rfl | exact absurd h (by simp [notComp])

variable {Γ : Gm} {X : Cx} {W : WX} {pos p : Pos}
/-! names, constants -/
def vVar (i : Nat) : ME := fun ρ => match ρ.getD i .none with
  | .val d => pure d
  | _ => bad
def vPeek (i : Nat) : ME := fun ρ => match ρ.getD i .none with
  | .val d => pure d
  | .own ds => pure (.list ds)
  | .ownd es => pure (.dict es)
  | _ => bad
theorem Rel.at {Γ : Gm} {C : Option Addr} {B0 H0 B H : Hp} {ρ : Env} {S : SS} {σ : L2.St} (r : Rel Γ C B0 H0 ρ S σ B H) {i : Nat} {s : Slot} (e : ρ.getD i .none = s) : SlotOk Γ.K C H0 B H s σ[i]? := e ▸ r.slot i
theorem d_var {i : Nat} {x : Str} (hN : X.N[i]? = some x) (hv : Vis X.env.scope x) (hd : (x == ("__debug__" : Str)) = false) (hc : (x == ("__classdict__" : Str)) = false) : PE X (.Name x pos) (rdE Γ W (vVar i)) :=
  PE.imp (pe_var hN hv hd hc) fun σ H Q ⟨C, B0, H0, ρ, S, B, r, q⟩ => by
    unfold vVar at q
    cases e : ρ.getD i .none with
    | val d =>
      rw [e] at q
      obtain ⟨v, e1, rp⟩ := r.at e
      exact ⟨v, e1, q v H B r.nx.here rp⟩
    | _ => rw [e] at q; exact q.elim
theorem d_peek {i : Nat} {x : Str} (hN : X.N[i]? = some x) (hv : Vis X.env.scope x) (hd : (x == ("__debug__" : Str)) = false) (hc : (x == ("__classdict__" : Str)) = false) : PE X (.Name x pos) (rdT Γ W (vPeek i)) :=
  PE.imp (pe_var hN hv hd hc) fun σ H Q ⟨C, B0, H0, ρ, S, B, r, q⟩ => by
    unfold vPeek at q
    cases e : ρ.getD i .none with
    | val d =>
      rw [e] at q
      obtain ⟨v, e1, rp⟩ := r.at e
      exact ⟨v, e1, q v H B r.nx.here (.inl rp)⟩
    | own ds =>
      rw [e] at q
      obtain ⟨a, xs, e1, _, nb, nc, h, rp⟩ := r.at e
      exact ⟨_, e1, q _ H B r.nx.here (.inr (.inl ⟨a, xs, ds, rfl, rfl, h, nb, nc, rp⟩))⟩
    | ownd es =>
      rw [e] at q
      obtain ⟨a, xs, e1, _, nb, nc, h, k, rp⟩ := r.at e
      exact ⟨_, e1, q _ H B r.nx.here (.inr (.inr ⟨a, xs, es, rfl, rfl, h, nb, nc, k, rp⟩))⟩
    | _ => rw [e] at q; exact q.elim
def vC (d : D) : ME := fun _ => pure d
theorem d_const {e : Expr} {v : V} {d : D} (h : PE X e (tC v)) (hr : ∀ B, Rp Γ.K B v d) : PE X e (rdE Γ W (vC d)) :=
  PE.imp h fun σ H Q ⟨C, B0, H0, ρ, S, B, r, q⟩ => q v H B r.nx.here (hr B)
theorem d_int {i : Int} {j : Nat} : PE X (.Constant (.int i) j pos) (rdE Γ W (vC (.int i))) := d_const pe_int fun _ => .int i
theorem d_str {x : Str} {j : Nat} : PE X (.Constant (.str x) j pos) (rdE Γ W (vC (.str x))) := d_const pe_str fun _ => .str x
theorem d_bl {b : Bool} {j : Nat} : PE X (.Constant (.bool b) j pos) (rdE Γ W (vC (.bool b))) := d_const pe_bl fun _ => .bl b
theorem d_non {j : Nat} : PE X (.Constant .none j pos) (rdE Γ W (vC .none)) := d_const pe_non fun _ => .non
theorem d_glob {x : Str} {v : V} {u : Value} {d : D} (hg : Gl X x) (hm : X.mg x = some u) (r : RelV v u) (hd : (x == ("__debug__" : Str)) = false) (hr : ∀ B, Rp Γ.K B v d) : PE X (.Name x pos) (rdE Γ W (vC d)) := d_const (pe_glob hg hm r hd) hr

/-! what a value read must be -/
section
variable {K : PySem.W.Frag} {C : Option Addr} {B H : Hp} {v : V}
theorem RpT.int {i : Int} (h : RpT K C B H v (.int i)) : v = .int i := by
  rcases h with h | ⟨_, _, _, _, e, _⟩ | ⟨_, _, _, _, e, _⟩
  · cases h; rfl
  · cases e
  · cases e
theorem RpT.bool {b : Bool} (h : RpT K C B H v (.bool b)) : v = .bl b := by
  rcases h with h | ⟨_, _, _, _, e, _⟩ | ⟨_, _, _, _, e, _⟩
  · cases h; rfl
  · cases e
  · cases e
theorem RpT.str {x : Str} (h : RpT K C B H v (.str x)) : v = .str x := by
  rcases h with h | ⟨_, _, _, _, e, _⟩ | ⟨_, _, _, _, e, _⟩
  · cases h; rfl
  · cases e
  · cases e
theorem RpT.none (h : RpT K C B H v .none) : v = .non := by
  rcases h with h | ⟨_, _, _, _, e, _⟩ | ⟨_, _, _, _, e, _⟩
  · cases h; rfl
  · cases e
  · cases e
theorem RpT.list {ds : List D} (s : Sub B H) (h : RpT K C B H v (.list ds)) : ∃ a xs, v = .ref a ∧ H a = some (.lst xs) ∧ RpAll K B xs ds := by
  rcases h with h | ⟨a, xs, _, e1, e, h, _, _, r⟩ | ⟨_, _, _, _, e, _⟩
  · cases h with
    | lst h r => exact ⟨_, _, rfl, s _ _ h, r⟩
  · cases e; exact ⟨a, xs, e1, h, r⟩
  · cases e
theorem RpT.tuple {ds : List D} (s : Sub B H) (h : RpT K C B H v (.tuple ds)) : ∃ a xs, v = .ref a ∧ SqT K H a xs ∧ RpAll K B xs ds := by
  rcases h with h | ⟨_, _, _, _, e, _⟩ | ⟨_, _, _, _, e, _⟩
  · cases h with
    | tup h r => exact ⟨_, _, rfl, s.sqT h, r⟩
  · cases e
  · cases e
theorem RpT.dp {d : D} (s : Sub B H) (hc : d.canLay0 = true) (h : RpT K C B H v d) : Dp K H v d := by
  rcases h with h | ⟨a, xs, ds, e1, e, h, _, _, r⟩ | ⟨_, _, _, _, e, _⟩
  · exact Rp.dp s hc h
  · subst e; subst e1
    exact .lst (.inl (.inl h)) (RpAll.dp s (by simpa [PyData.canLay0] using hc) r)
  · subst e; simp [PyData.canLay0] at hc
end

/-! operators -/
/-- the operator's reading follows from f's answer -/
def OpP (Γ : Gm) (f : D → D → M D) (r : R2) : Prop := ∀ {C : Option Addr} {W : WX} {σ : L2.St} {B H : Hp} {S : SS} {Q : VK} {x y : V} {d e : D},
  Nxt Γ C B H S B H → RpT Γ.K C B H x d → RpT Γ.K C B H y e → PostV rrE Γ C W σ B H Q (f d e S) → r x y H Q
def UnP (Γ : Gm) (f : D → M D) (r : V → Hp → VK → Prop) : Prop := ∀ {C : Option Addr} {W : WX} {σ : L2.St} {B H : Hp} {S : SS} {Q : VK} {x : V} {d : D},
  Nxt Γ C B H S B H → RpT Γ.K C B H x d → PostV rrE Γ C W σ B H Q (f d S) → r x H Q
def v1 (f : D → M D) (ma : ME) : ME := fun ρ => ma ρ >>= f
def v2 (f : D → D → M D) (ma mb : ME) : ME := fun ρ => ma ρ >>= fun x => mb ρ >>= f x
variable {a b : Expr} {ma mb mc : ME} {f : D → D → M D} {r : R2}
theorem post2 (hp : OpP Γ f r) : ∀ {σ : L2.St} {H : Hp} {Q : VK}, rdE Γ W (v2 f ma mb) σ H Q → rdT Γ W ma σ H fun x H1 => rdT Γ W mb σ H1 fun y H2 => r x y H2 Q := fun ⟨C, B0, H0, ρ, S, B, r0, q⟩ =>
  rd_bind r0 q fun d S1 v H1 B1 r1 n1 x1 p1 => rd_bind r1 p1 fun e S2 u H2 B2 r2 n2 x2 p2 => hp r2.nx.here (x1.up n2) x2 p2
theorem d_bin {op : Operator} (ho : OpR X (binaryOp op) r) (hp : OpP Γ f r) (ha : PE X a (rdT Γ W ma)) (hb : PE X b (rdT Γ W mb)) : PE X (.BinOp a op b pos) (rdE Γ W (v2 f ma mb)) :=
  PE.imp (pe_op ho ha hb) fun _ _ _ q => post2 hp q
theorem d_un {op : UnaryOp} {g : D → M D} {r : V → Hp → VK → Prop} (ho : UnR X (unaryOp op) r) (hp : UnP Γ g r) (ha : PE X a (rdT Γ W ma)) : PE X (.UnaryOp op a pos) (rdE Γ W (v1 g ma)) :=
  PE.imp (pe_un ho ha) fun σ H Q ⟨C, B0, H0, ρ, S, B, r0, q⟩ => rd_bind r0 q fun d S1 v H1 B1 r1 n1 x1 p1 => hp r1.nx.here x1 p1
theorem d_cmp {op : CmpOp} (ho : OpR X (compareOp op) r) (hp : OpP Γ f r) (ha : PE X a (rdT Γ W ma)) (hb : PE X b (rdT Γ W mb)) (hf : plainE b = true) : PE X (.Compare a [op] [b] pos) (rdE Γ W (v2 f ma mb)) :=
  PE.imp (pe_cmpR ho ha hb (mark_plain hf op)) fun _ _ _ q => post2 hp q
theorem d_ix (ho : IxR X r) (hp : OpP Γ f r) (ha : PE X a (rdT Γ W ma)) (hb : PE X b (rdT Γ W mb)) (hf : plainE b = true) : PE X (.Subscript a b pos) (rdE Γ W (v2 f ma mb)) :=
  PE.imp (pe_ix ho ha hb (ix_plain hf)) fun _ _ _ q => post2 hp q

/-! tests -/
def asB : D → M Bool
  | .bool b => pure b
  | _ => bad
def PostB (Γ : Gm) (C : Option Addr) (W : WX) (σ : L2.St) (B H : Hp) (Q : Bool → Hp → Prop) : Res Bool → Prop
  | .ok b S' => ∀ H' B', Nxt Γ C B H S' B' H' → Q b H'
  | .exc k S' => ∀ H' B', Nxt Γ C B H S' B' H' → W (Γ.cls k) none σ H'
  | .bad => False
def rdB (Γ : Gm) (W : WX) (m : ME) : TT := fun σ H Q => ∃ C B0 H0 ρ S B, Rel Γ C B0 H0 ρ S σ B H ∧ PostB Γ C W σ B H Q ((m ρ >>= asB) S)
theorem PT.imp {e : Expr} {t t' : TT} (h : PT X e t) (i : ∀ σ H Q, t' σ H Q → t σ H Q) : PT X e t' := ⟨fun pins s σ H Q I q => h.run pins s σ H Q I (i σ H Q q)⟩
theorem PW.imp {e : Expr} {t t' : TT} (h : PW X e t) (i : ∀ σ H Q, t' σ H Q → t σ H Q) : PW X e t' := ⟨fun w pins s σ H Q I q => h.run w pins s σ H Q I (i σ H Q q)⟩
theorem PostB.up {C : Option Addr} {σ : L2.St} {B B1 H H1 : Hp} {S1 : SS} {Q : Bool → Hp → Prop} {r : Res Bool} (n : Nxt Γ C B H S1 B1 H1) (h : PostB Γ C W σ B H Q r) : PostB Γ C W σ B1 H1 Q r := by
  cases r with
  | ok d S' => exact fun H' B' n' => h H' B' (n.trans n')
  | exc k S' => exact fun H' B' n' => h H' B' (n.trans n')
  | bad => exact h
/-- a part is asked, then the rest (a test's) -/
theorem rd_bindB {R : RR} {C : Option Addr} {σ : L2.St} {B H B0 H0 : Hp} {S : SS} {ρ : Env} {m : ME} {f : D → M Bool} {Q : Bool → Hp → Prop} {Q' : VK} (r : Rel Γ C B0 H0 ρ S σ B H) (h : PostB Γ C W σ B H Q ((m ρ >>= f) S))
    (k : ∀ d S1 v H1 B1, Rel Γ C B0 H0 ρ S1 σ B1 H1 → Nxt Γ C B H S1 B1 H1 → R Γ C B1 H1 v d → PostB Γ C W σ B1 H1 Q (f d S1) → Q' v H1) : rd R Γ W m σ H Q' := by
  refine ⟨C, B0, H0, ρ, S, B, r, ?_⟩
  rw [bind_at] at h
  cases e : m ρ S with
  | ok d S' => rw [e] at h; exact fun v H' B' n x => k d S' v H' B' (r.up n) n x (h.up n)
  | exc j S' => rw [e] at h; exact h
  | bad => rw [e] at h; exact h
theorem d_tst {e : Expr} {m : ME} (h : PE X e (rdE Γ W m)) (hf : plainT e = true) : PT X e (rdB Γ W m) :=
  PT.imp (pt_val h (tst_plain hf X.env)) fun σ H Q ⟨C, B0, H0, ρ, S, B, r, q⟩ => rd_bindB r q fun d S1 v H1 B1 r1 n1 x1 p1 => by
    cases d with
    | bool b => cases x1; exact ⟨b, rfl, p1 H1 B1 r1.nx.here⟩
    | _ => exact p1.elim
theorem toB {t : TE} {m : ME} (i : ∀ {σ : L2.St} {H : Hp} {Q : VK}, rdE Γ W m σ H Q → t σ H Q) : ∀ (σ : L2.St) (H : Hp) (Q : Bool → Hp → Prop), rdB Γ W m σ H Q → tTest t σ H Q := fun σ H Q ⟨C, B0, H0, ρ, S, B, r, q⟩ => by
  refine i ⟨C, B0, H0, ρ, S, B, r, ?_⟩
  rw [bind_at] at q
  cases e : m ρ S with
  | ok d S' =>
    rw [e] at q
    intro v H' B' n x
    cases d with
    | bool b => cases x; exact ⟨b, rfl, q H' B' n⟩
    | _ => exact q.elim
  | exc j S' => rw [e] at q; exact q
  | bad => rw [e] at q; exact q
theorem d_tcmp {op : CmpOp} (ho : OpR X (compareOp op) r) (hp : OpP Γ f r) (ha : PE X a (rdT Γ W ma)) (hb : PE X b (rdT Γ W mb)) (hf : plainE b = true) : PT X (.Compare a [op] [b] pos) (rdB Γ W (v2 f ma mb)) :=
  PT.imp (pt_cmpR ho ha hb (mark_plain hf op)) (toB fun q => post2 hp q)
def vNot (ma : ME) : ME := fun ρ => ma ρ >>= fun d => asB d >>= fun b => pure (.bool (!b))
def vAnd (ma mb : ME) : ME := fun ρ => ma ρ >>= fun d => asB d >>= fun b => if b = true then mb ρ else pure (.bool false)
def vOr (ma mb : ME) : ME := fun ρ => ma ρ >>= fun d => asB d >>= fun b => if b = true then pure (.bool true) else mb ρ
def vIf (mc ma mb : ME) : ME := fun ρ => mc ρ >>= fun d => asB d >>= fun b => if b = true then ma ρ else mb ρ
/-- a test is asked, then the rest -/
theorem rdB_bind {C : Option Addr} {σ : L2.St} {B H B0 H0 : Hp} {S : SS} {ρ : Env} {m : ME} {g : Bool → M D} {R : RR} {Q : VK} {Q' : Bool → Hp → Prop} (r : Rel Γ C B0 H0 ρ S σ B H) (h : PostV R Γ C W σ B H Q ((m ρ >>= fun d => asB d >>= g) S))
    (k : ∀ b S1 H1 B1, Rel Γ C B0 H0 ρ S1 σ B1 H1 → Nxt Γ C B H S1 B1 H1 → PostV R Γ C W σ B1 H1 Q (g b S1) → Q' b H1) : rdB Γ W m σ H Q' := by
  refine ⟨C, B0, H0, ρ, S, B, r, ?_⟩
  rw [← bnd_assoc, bind_at] at h
  cases e : (m ρ >>= asB) S with
  | ok d S' => rw [e] at h; exact fun H' B' n => k d S' H' B' (r.up n) n (h.up n)
  | exc j S' => rw [e] at h; exact h
  | bad => rw [e] at h; exact h
theorem rdB_bindB {C : Option Addr} {σ : L2.St} {B H B0 H0 : Hp} {S : SS} {ρ : Env} {m : ME} {g : Bool → M Bool} {Q : Bool → Hp → Prop} {Q' : Bool → Hp → Prop} (r : Rel Γ C B0 H0 ρ S σ B H) (h : PostB Γ C W σ B H Q ((m ρ >>= fun d => asB d >>= g) S))
    (k : ∀ b S1 H1 B1, Rel Γ C B0 H0 ρ S1 σ B1 H1 → Nxt Γ C B H S1 B1 H1 → PostB Γ C W σ B1 H1 Q (g b S1) → Q' b H1) : rdB Γ W m σ H Q' := by
  refine ⟨C, B0, H0, ρ, S, B, r, ?_⟩
  rw [← bnd_assoc, bind_at] at h
  cases e : (m ρ >>= asB) S with
  | ok d S' => rw [e] at h; exact fun H' B' n => k d S' H' B' (r.up n) n (h.up n)
  | exc j S' => rw [e] at h; exact h
  | bad => rw [e] at h; exact h
theorem d_tnot (ha : PT X a (rdB Γ W ma)) : PT X (.UnaryOp .Not a pos) (rdB Γ W (vNot ma)) :=
  PT.imp (pt_not ha) fun σ H Q ⟨C, B0, H0, ρ, S, B, r, q⟩ => by
    unfold vNot at q
    simp only [bnd_assoc, pure_bnd] at q
    exact rdB_bindB r q fun b S1 H1 B1 r1 n1 p1 => p1 H1 B1 r1.nx.here
theorem d_not (ha : PE X a (rdE Γ W ma)) : PE X (.UnaryOp .Not a pos) (rdE Γ W (vNot ma)) :=
  PE.imp (pe_not ha) fun σ H Q ⟨C, B0, H0, ρ, S, B, r, q⟩ => rd_bind r q fun d S1 v H1 B1 r1 n1 x1 p1 => by
    cases d with
    | bool b => cases x1; exact ⟨b, rfl, p1.val r1.nx.here (.bl _)⟩
    | _ => exact p1.elim
theorem d_ife {c : Expr} (hc : PT X c (rdB Γ W mc)) (ha : PE X a (rdE Γ W ma)) (hb : PE X b (rdE Γ W mb)) : PE X (.IfExp c a b pos) (rdE Γ W (vIf mc ma mb)) :=
  PE.imp (pe_ifExp hc ha hb) fun σ H Q ⟨C, B0, H0, ρ, S, B, r, q⟩ => rdB_bind r q fun d S1 H1 B1 r1 n1 p1 => by
    cases d with
    | true => exact ⟨C, B0, H0, ρ, S1, B1, r1, p1⟩
    | false => exact ⟨C, B0, H0, ρ, S1, B1, r1, p1⟩
theorem d_one {op : BoolOp} (ha : PE X a (rdE Γ W ma)) : PE X (.BoolOp op [a] pos) (rdE Γ W ma) := pe_one ha
theorem d_and {rest : List Expr} (ha : PE X a (rdE Γ W ma)) (hb : PE X (.BoolOp .And (b :: rest) pos) (rdE Γ W mb)) : PE X (.BoolOp .And (a :: b :: rest) pos) (rdE Γ W (vAnd ma mb)) :=
  PE.imp (pe_and ha hb) fun σ H Q ⟨C, B0, H0, ρ, S, B, r, q⟩ => rd_bind r q fun d S1 v H1 B1 r1 n1 x1 p1 => by
    cases d with
    | bool c =>
      cases x1
      refine ⟨c, rfl, ?_⟩
      cases c with
      | true => exact ⟨C, B0, H0, ρ, S1, B1, r1, p1⟩
      | false => exact p1.val r1.nx.here (.bl _)
    | _ => exact p1.elim
theorem d_or {rest : List Expr} (ha : PE X a (rdE Γ W ma)) (hb : PE X (.BoolOp .Or (b :: rest) pos) (rdE Γ W mb)) : PE X (.BoolOp .Or (a :: b :: rest) pos) (rdE Γ W (vOr ma mb)) :=
  PE.imp (pe_or ha hb) fun σ H Q ⟨C, B0, H0, ρ, S, B, r, q⟩ => rd_bind r q fun d S1 v H1 B1 r1 n1 x1 p1 => by
    cases d with
    | bool c =>
      cases x1
      refine ⟨c, rfl, ?_⟩
      cases c with
      | false => exact ⟨C, B0, H0, ρ, S1, B1, r1, p1⟩
      | true => exact p1.val r1.nx.here (.bl _)
    | _ => exact p1.elim
theorem d_wand1 (ha : PT X a (rdB Γ W ma)) : PW X (.BoolOp .And [a] pos) (rdB Γ W ma) := pw_and1 ha
theorem d_wor1 (ha : PT X a (rdB Γ W ma)) : PW X (.BoolOp .Or [a] pos) (rdB Γ W ma) := pw_or1 ha
theorem d_wand {rest : List Expr} (ha : PT X a (rdB Γ W ma)) (hb : PW X (.BoolOp .And (b :: rest) pos) (rdB Γ W mb)) : PW X (.BoolOp .And (a :: b :: rest) pos) (rdB Γ W (vAnd ma mb)) :=
  PW.imp (pw_and ha hb) fun σ H Q ⟨C, B0, H0, ρ, S, B, r, q⟩ => by
    unfold vAnd at q
    simp only [bnd_assoc] at q
    refine rdB_bindB r q fun c S1 H1 B1 r1 n1 p1 => ?_
    cases c with
    | true => exact ⟨C, B0, H0, ρ, S1, B1, r1, p1⟩
    | false => exact p1 H1 B1 r1.nx.here
theorem d_wor {rest : List Expr} (ha : PT X a (rdB Γ W ma)) (hb : PW X (.BoolOp .Or (b :: rest) pos) (rdB Γ W mb)) : PW X (.BoolOp .Or (a :: b :: rest) pos) (rdB Γ W (vOr ma mb)) :=
  PW.imp (pw_or ha hb) fun σ H Q ⟨C, B0, H0, ρ, S, B, r, q⟩ => by
    unfold vOr at q
    simp only [bnd_assoc] at q
    refine rdB_bindB r q fun c S1 H1 B1 r1 n1 p1 => ?_
    cases c with
    | false => exact ⟨C, B0, H0, ρ, S1, B1, r1, p1⟩
    | true => exact p1 H1 B1 r1.nx.here
/-- a < b < c -/
def vChain (f g : D → D → M D) (ma mb mc : ME) : ME := fun ρ => ma ρ >>= fun x => mb ρ >>= fun y => f x y >>= fun d => asB d >>= fun k => if k = true then mc ρ >>= g y else pure (.bool false)
theorem post_chain {c : Expr} {g : D → D → M D} {r' : R2} (hp : OpP Γ f r) (hp' : OpP Γ g r') {σ : L2.St} {H : Hp} {Q : VK} (hq : rdE Γ W (vChain f g ma mb mc) σ H Q) : tChain r r' (rdT Γ W ma) (rdT Γ W mb) (rdT Γ W mc) σ H Q := by
  obtain ⟨C, B0, H0, ρ, S, B, r0, q⟩ := hq
  refine rd_bind r0 q fun d S1 v H1 B1 r1 n1 x1 p1 => rd_bind r1 p1 fun e S2 u H2 B2 r2 n2 x2 p2 => ?_
  rcases p2.bind with ⟨z, S3, e3, p3⟩ | ⟨k, S3, e3, p3⟩
  · refine hp (S := S2) (C := C) (B := B2) (W := W) (σ := σ) r2.nx.here (x1.up n2) x2 ?_
    rw [e3]
    intro w' H' B' n x
    cases z with
    | bool k =>
      cases x
      refine ⟨k, rfl, ?_⟩
      cases k with
      | true => exact rd_bind (r2.up n) (p3.up n) fun z2 S4 u4 H4 B4 r4 n4 x4 p4 => hp' r4.nx.here ((x2.up n).up n4) x4 p4
      | false => exact (p3.up n).val (r2.up n).nx.here (.bl _)
    | _ => exact p3.elim
  · refine hp (S := S2) (C := C) (B := B2) (W := W) (σ := σ) r2.nx.here (x1.up n2) x2 ?_
    rw [e3]
    exact p3
theorem marks_plain {b c : Expr} (hc : plainE c = true) (op op' : CmpOp) : lastMarks [op, op'] [b, c] = false := mark_plain hc op'
theorem d_chain {c : Expr} {op op' : CmpOp} {g : D → D → M D} {r' : R2} (ho : OpR X (compareOp op) r) (ho' : OpR X (compareOp op') r') (hp : OpP Γ f r) (hp' : OpP Γ g r') (ha : PE X a (rdT Γ W ma)) (hb : PE X b (rdT Γ W mb)) (hc : PE X c (rdT Γ W mc)) (hf : plainE c = true) :
    PE X (.Compare a [op, op'] [b, c] pos) (rdE Γ W (vChain f g ma mb mc)) := PE.imp (pe_chain ho ho' ha hb hc (marks_plain hf op op')) fun _ _ _ q => post_chain (c := c) hp hp' q
theorem d_tchain {c : Expr} {op op' : CmpOp} {g : D → D → M D} {r' : R2} (ho : OpR X (compareOp op) r) (ho' : OpR X (compareOp op') r') (hp : OpP Γ f r) (hp' : OpP Γ g r') (ha : PE X a (rdT Γ W ma)) (hb : PE X b (rdT Γ W mb)) (hc : PE X c (rdT Γ W mc)) (hf : plainE c = true) :
    PT X (.Compare a [op, op'] [b, c] pos) (rdB Γ W (vChain f g ma mb mc)) := PT.imp (pt_chain ho ho' ha hb hc (marks_plain hf op op')) (toB fun q => post_chain (c := c) hp hp' q)
end Pv
namespace Pv
open PySem PySem.Spec PyProof.Rows L2
variable {Γ : Gm} {X : Cx} {W : WX} {pos p : Pos}
/-! new things -/
section
variable {C : Option Addr} {B H : Hp} {S : SS} {Q : VK} {σ : L2.St} {xs : List V} {ds : List D}
theorem PostV.lst (q : PostV rrE Γ C W σ B H Q ((pure (.list ds) : M D) S)) (n : Nxt Γ C B H S B H) (r : RpAll Γ.K B xs ds) (hz : ds.length ≤ sizeLine) : ∀ p, H p = none → Q (.ref p) (upd H p (.lst xs)) := fun p np =>
  have n' := n.new np (.lst xs) (by show xs.length ≤ sizeLine; rw [r.len]; exact hz)
  q _ _ _ n' (.lst upd_same (r.up n'.sb))
theorem PostV.tup (q : PostV rrE Γ C W σ B H Q ((pure (.tuple ds) : M D) S)) (n : Nxt Γ C B H S B H) (r : RpAll Γ.K B xs ds) (hz : ds.length ≤ sizeLine) : ∀ p, H p = none → Q (.ref p) (upd H p (.tup xs)) := fun p np =>
  have n' := n.new np (.tup xs) (by show xs.length ≤ sizeLine; rw [r.len]; exact hz)
  q _ _ _ n' (.tup (.inl (.inl upd_same)) (r.up n'.sb))
theorem Nxt.lenL {a : Addr} (n : Nxt Γ C B H S B H) (h : H a = some (.lst xs)) (r : RpAll Γ.K B xs ds) : ds.length ≤ sizeLine := by
  rw [← r.len]
  exact n.ln a _ h
theorem Nxt.lenT {a : Addr} (n : Nxt Γ C B H S B H) (h : SqT Γ.K H a xs) (r : RpAll Γ.K B xs ds) : ds.length ≤ sizeLine := by
  rw [← r.len]
  rcases h with (h | ⟨o, h⟩) | ⟨o, its, m, _, _, _, hz, rv⟩
  · exact n.ln a _ h
  · exact n.ln a _ h
  · have e := rv.length
    simp only [Array.length_toList] at e
    omega
end
/-! arithmetic -/
@[irreducible] def BIG : Nat := 2 ^ 100000
theorem big_of {n k : Nat} (h : n < 2 ^ k) (hk : k ≤ 100000) : n < BIG := by
  unfold BIG
  exact Nat.lt_of_lt_of_le h (Nat.pow_le_pow_right (by decide) hk)
theorem big_log {n : Nat} (h : n < BIG) : n.log2 ≤ 100000 := by
  unfold BIG at h
  by_cases h0 : n = 0
  · subst h0; simp
  · have := (Nat.log2_lt h0).mpr h
    omega
def addD : D → D → M D
  | .int i, .int j => pure (.int (i + j))
  | .str a, .str b => if a.length + b.length ≤ sizeLine then pure (.str (a ++ b)) else bad
  | .list a, .list b => if a.length + b.length ≤ sizeLine then pure (.list (a ++ b)) else bad
  | .tuple a, .tuple b => if a.length + b.length ≤ sizeLine then pure (.tuple (a ++ b)) else bad
  | _, _ => bad
def subD : D → D → M D
  | .int i, .int j => pure (.int (i - j))
  | _, _ => bad
def mulD : D → D → M D
  | .int i, .int j => if i.natAbs < BIG ∧ j.natAbs < BIG then pure (.int (i * j)) else bad
  | .list a, .int k => if -(2 ^ 63) ≤ k ∧ k < 2 ^ 63 ∧ a.length * k.toNat ≤ sizeLine then pure (.list (List.replicate k.toNat a).flatten) else bad
  | _, _ => bad
/-- what one may divide by -/
@[irreducible] def DB : Nat := 2 ^ 8000
theorem db_of {n k : Nat} (h : n < 2 ^ k) (hk : k ≤ 8000) : n < DB := by
  unfold DB
  exact Nat.lt_of_lt_of_le h (Nat.pow_le_pow_right (by decide) hk)
theorem db_log {n : Nat} (h : n < DB) : n.log2 < 9000 := by
  unfold DB at h
  exact Nat.lt_of_lt_of_le (PySem.Flt.log2_lt_of (k := 8000) (by decide) h) (by decide)
def fdivD : D → D → M D
  | .int i, .int j => if j ≠ 0 ∧ j.natAbs < DB then pure (.int (i.fdiv j)) else bad
  | _, _ => bad
def modD : D → D → M D
  | .int i, .int j => if j ≠ 0 then pure (.int (i.fmod j)) else bad
  | _, _ => bad
def powD : D → D → M D
  | .int i, .int j => if 0 ≤ j ∧ j ≤ 1000000 ∧ i.natAbs < 2 ^ 64 then pure (.int (i ^ j.toNat)) else bad
  | _, _ => bad
def shlD : D → D → M D
  | .int i, .int j => if 0 ≤ j ∧ j ≤ 1000000 ∧ i.natAbs < 2 ^ 64 then pure (.int (i * 2 ^ j.toNat)) else bad
  | _, _ => bad
def shrD : D → D → M D
  | .int i, .int j => if 0 ≤ j then pure (.int (i / 2 ^ j.toNat)) else bad
  | _, _ => bad
def andD : D → D → M D
  | .int i, .int j => pure (.int (Builtin.bitAnd i j))
  | _, _ => bad
def orD : D → D → M D
  | .int i, .int j => pure (.int (Builtin.bitOr i j))
  | _, _ => bad
def xorD : D → D → M D
  | .int i, .int j => pure (.int (Builtin.bitXor i j))
  | _, _ => bad
def negD : D → M D
  | .int i => pure (.int (-i))
  | _ => bad
def invD : D → M D
  | .int i => pure (.int (Builtin.bitNot i))
  | _ => bad
theorem flat_len (ds : List D) : ∀ n : Nat, (List.replicate n ds).flatten.length = n * ds.length
  | 0 => by simp
  | n + 1 => by
    rw [List.replicate_succ, List.flatten_cons, List.length_append, flat_len ds n, Nat.succ_mul, Nat.add_comm]
theorem flat_up {vs : List V} {ds : List D} {K : PySem.W.Frag} {B : Hp} (r : RpAll K B vs ds) : ∀ n : Nat, RpAll K B (List.replicate n vs).flatten (List.replicate n ds).flatten
  | 0 => .nil
  | n + 1 => by
    rw [List.replicate_succ, List.replicate_succ, List.flatten_cons, List.flatten_cons]
    exact r.app (flat_up r n)
/-- int op int -/
theorem opp_int {f : D → D → M D} {Cd : Int → Int → Prop} {g : Int → Int → Int} (h : ∀ d e, (∃ i j, d = .int i ∧ e = .int j) ∨ f d e = bad) (h2 : ∀ i j, (Cd i j ∧ f (.int i) (.int j) = pure (.int (g i j))) ∨ f (.int i) (.int j) = bad) :
    OpP Γ f (rI Cd fun i j => .int (g i j)) := by
  intro C W σ B H S Q x y d e n hx hy q
  rcases h d e with ⟨i, j, rfl, rfl⟩ | z
  · rcases h2 i j with ⟨c, z⟩ | z
    · rw [z] at q
      exact ⟨i, j, hx.int, hy.int, c, q.val n (.int _)⟩
    · rw [z] at q; exact q.elim
  · rw [z] at q; exact q.elim
theorem opp_int0 {f : D → D → M D} {g : Int → Int → Int} (h : ∀ d e, (∃ i j, d = .int i ∧ e = .int j) ∨ f d e = bad) (h2 : ∀ i j, f (.int i) (.int j) = pure (.int (g i j))) :
    OpP Γ f (rI0 fun i j => .int (g i j)) := by
  intro C W σ B H S Q x y d e n hx hy q
  rcases h d e with ⟨i, j, rfl, rfl⟩ | z
  · rw [h2] at q
    exact ⟨i, j, hx.int, hy.int, q.val n (.int _)⟩
  · rw [z] at q; exact q.elim
theorem two_int {f : D → D → M D} (h : ∀ d e, (∀ i j, d = .int i → e = .int j → False) → f d e = bad) (d e : D) : (∃ i j, d = .int i ∧ e = .int j) ∨ f d e = bad := by
  cases d with
  | int i =>
    cases e with
    | int j => exact .inl ⟨i, j, rfl, rfl⟩
    | _ => exact .inr (h _ _ fun _ _ _ z => by cases z)
  | _ => exact .inr (h _ _ fun _ _ z => by cases z)
theorem unp_int {f : D → M D} {g : Int → Int} (h : ∀ d, (∃ i, d = .int i) ∨ f d = bad) (h2 : ∀ i, f (.int i) = pure (.int (g i))) : UnP Γ f (rU fun i => .int (g i)) := by
  intro C W σ B H S Q x d n hx q
  rcases h d with ⟨i, rfl⟩ | z
  · rw [h2] at q
    exact ⟨i, hx.int, q.val n (.int _)⟩
  · rw [z] at q; exact q.elim
theorem op_addP (K : PySem.W.Frag) (hK : X.K = K) : OpR X (binaryOp .Add) (fun x y H Q => ((rI0 (fun i j => .int (i + j)) x y H Q ∨ (∃ i j, x = .str i ∧ y = .str j ∧ i.length + j.length ≤ sizeLine ∧ Q (.str (i ++ j)) H)) ∨ rCat x y H Q) ∨ rCatA K x y H Q) :=
  OpR.or (OpR.or (OpR.or op_add op_add_str) op_cat) (hK ▸ op_catA)
theorem addP : OpP Γ addD (fun x y H Q => ((rI0 (fun i j => .int (i + j)) x y H Q ∨ (∃ i j, x = .str i ∧ y = .str j ∧ i.length + j.length ≤ sizeLine ∧ Q (.str (i ++ j)) H)) ∨ rCat x y H Q) ∨ rCatA Γ.K x y H Q) := by
  intro C W σ B H S Q x y d e n hx hy q
  unfold addD at q
  split at q
  · exact .inl (.inl (.inl ⟨_, _, hx.int, hy.int, q.val n (.int _)⟩))
  · split at q
    · rename_i h
      exact .inl (.inl (.inr ⟨_, _, hx.str, hy.str, h, q.val n (.str _)⟩))
    · exact q.elim
  · split at q
    · rename_i h
      obtain ⟨a, xs, rfl, ha, ra⟩ := hx.list n.sh
      obtain ⟨b, ys, rfl, hb, rb⟩ := hy.list n.sh
      refine .inl (.inr ⟨a, b, xs, ys, rfl, rfl, ha, hb, by rw [ra.len, rb.len]; exact h, q.lst n (ra.app rb) (by rw [List.length_append]; exact h)⟩)
    · exact q.elim
  · rename_i ta tb
    split at q
    · rename_i h
      have hx0 := hx
      have hy0 := hy
      obtain ⟨a, xs, rfl, ha, ra⟩ := hx.tuple n.sh
      obtain ⟨b, ys, rfl, hb, rb⟩ := hy.tuple n.sh
      have px : ∀ {v : V} {ts : List D}, RpT Γ.K C B H v (.tuple ts) → Rp Γ.K B v (.tuple ts) := fun h => by
        rcases h with h | ⟨_, _, _, _, e, _⟩ | ⟨_, _, _, _, e, _⟩
        · exact h
        · cases e
        · cases e
      refine .inr ⟨a, b, xs, ys, rfl, rfl, ha, hb, by rw [ra.len, rb.len]; exact h, fun z => ?_, fun _ z => ?_, fun _ _ => q.tup n (ra.app rb) (by rw [List.length_append]; exact h)⟩
      · subst z
        have e1 := ra.len
        cases ta with
        | nil => exact q.val n (px hy0)
        | cons _ _ => simp at e1
      · subst z
        have e1 := rb.len
        cases tb with
        | nil =>
          have e2 : ta ++ [] = ta := List.append_nil _
          rw [e2] at q
          exact q.val n (px hx0)
        | cons _ _ => simp at e1
    · exact q.elim
  · exact q.elim
theorem subP : OpP Γ subD (rI0 fun i j => .int (i - j)) := opp_int0 (two_int fun d e h => by unfold subD; split <;> first | rfl | exact (h _ _ rfl rfl).elim) fun _ _ => rfl
theorem op_mulP : OpR X (binaryOp .Mult) (fun x y H Q => rI CMulW (fun i j => .int (i * j)) x y H Q ∨ rRep x y H Q) := OpR.or op_mulW op_rep
theorem mulP : OpP Γ mulD (fun x y H Q => rI CMulW (fun i j => .int (i * j)) x y H Q ∨ rRep x y H Q) := by
  intro C W σ B H S Q x y d e n hx hy q
  unfold mulD at q
  split at q
  · split at q
    · rename_i h
      refine .inl ⟨_, _, hx.int, hy.int, ?_, q.val n (.int _)⟩
      have h1 := big_log h.1
      have h2 := big_log h.2
      unfold CMulW
      omega
    · exact q.elim
  · split at q
    · rename_i h
      obtain ⟨a, xs, rfl, ha, ra⟩ := hx.list n.sh
      exact .inr ⟨a, _, xs, rfl, hy.int, ha, h.1, h.2.1, by rw [ra.len]; exact h.2.2, q.lst n (flat_up ra _) (by rw [flat_len]; have := h.2.2; rw [Nat.mul_comm]; exact this)⟩
    · exact q.elim
  · exact q.elim
theorem op_fdivP : OpR X (binaryOp .FloorDiv) (rI (fun _ j => j ≠ 0 ∧ j.natAbs < DB) fun i j => .int (i.fdiv j)) := opI fun _ _ _ _ _ _ _ hc q => floordiv_int hc.1 q (.inl (PyProof.noPylong_of_log2 (db_log hc.2)))
theorem fdivP : OpP Γ fdivD (rI (fun _ j => j ≠ 0 ∧ j.natAbs < DB) fun i j => .int (i.fdiv j)) := opp_int (two_int fun d e h => by unfold fdivD; split <;> first | rfl | exact (h _ _ rfl rfl).elim) fun i j => by
  by_cases h : j ≠ 0 ∧ j.natAbs < DB
  · exact .inl ⟨h, if_pos h⟩
  · exact .inr (if_neg h)
theorem modP : OpP Γ modD (rI (fun _ j => j ≠ 0) fun i j => .int (i.fmod j)) := opp_int (two_int fun d e h => by unfold modD; split <;> first | rfl | exact (h _ _ rfl rfl).elim) fun i j => by
  by_cases h : j ≠ 0
  · exact .inl ⟨h, if_pos h⟩
  · exact .inr (if_neg h)
theorem powP : OpP Γ powD (rI CPow fun i j => .int (i ^ j.toNat)) := opp_int (two_int fun d e h => by unfold powD; split <;> first | rfl | exact (h _ _ rfl rfl).elim) fun i j => by
  by_cases h : 0 ≤ j ∧ j ≤ 1000000 ∧ i.natAbs < 2 ^ 64
  · exact .inl ⟨h, if_pos h⟩
  · exact .inr (if_neg h)
theorem shlP : OpP Γ shlD (rI CPow fun i j => .int (i * 2 ^ j.toNat)) := opp_int (two_int fun d e h => by unfold shlD; split <;> first | rfl | exact (h _ _ rfl rfl).elim) fun i j => by
  by_cases h : 0 ≤ j ∧ j ≤ 1000000 ∧ i.natAbs < 2 ^ 64
  · exact .inl ⟨h, if_pos h⟩
  · exact .inr (if_neg h)
theorem shrP : OpP Γ shrD (rI (fun _ j => 0 ≤ j) fun i j => .int (i / 2 ^ j.toNat)) := opp_int (two_int fun d e h => by unfold shrD; split <;> first | rfl | exact (h _ _ rfl rfl).elim) fun i j => by
  by_cases h : 0 ≤ j
  · exact .inl ⟨h, if_pos h⟩
  · exact .inr (if_neg h)
theorem andP : OpP Γ andD (rI0 fun i j => .int (Builtin.bitAnd i j)) := opp_int0 (two_int fun d e h => by unfold andD; split <;> first | rfl | exact (h _ _ rfl rfl).elim) fun _ _ => rfl
theorem orP : OpP Γ orD (rI0 fun i j => .int (Builtin.bitOr i j)) := opp_int0 (two_int fun d e h => by unfold orD; split <;> first | rfl | exact (h _ _ rfl rfl).elim) fun _ _ => rfl
theorem xorP : OpP Γ xorD (rI0 fun i j => .int (Builtin.bitXor i j)) := opp_int0 (two_int fun d e h => by unfold xorD; split <;> first | rfl | exact (h _ _ rfl rfl).elim) fun _ _ => rfl
theorem negP : UnP Γ negD (rU fun i => .int (-i)) := unp_int (f := negD) (g := fun i => -i) (fun d => by
  cases d with
  | int i => exact .inl ⟨i, rfl⟩
  | _ => exact .inr rfl) fun _ => rfl
theorem invP : UnP Γ invD (rU fun i => .int (Builtin.bitNot i)) := unp_int (f := invD) (g := fun i => Builtin.bitNot i) (fun d => by
  cases d with
  | int i => exact .inl ⟨i, rfl⟩
  | _ => exact .inr rfl) fun _ => rfl
/-! comparisons -/
def eqD : D → D → M D
  | .int i, .int j => pure (.bool (i == j))
  | .bool i, .bool j => pure (.bool (i == j))
  | .str i, .str j => pure (.bool (i == j))
  | d, e => if SeqAt.shaped d = true ∧ SeqAt.shaped e = true then pure (.bool (PyData.eqv d e)) else bad
def neD (d e : D) : M D := eqD d e >>= fun b => asB b >>= fun b => pure (.bool (!b))
def rEqA (K : PySem.W.Frag) : R2 := fun x y H Q => rEq x y H Q ∨ rEqD K x y H Q
def rNeA (K : PySem.W.Frag) : R2 := fun x y H Q => rNe x y H Q ∨ rNeD K x y H Q
theorem op_eqP (K : PySem.W.Frag) (hK : X.K = K) (hu : X.A.units + 64 < cLine) : OpR X (compareOp .Eq) (rEqA K) := OpR.or op_eq (hK ▸ op_eqD hu)
theorem op_neP (K : PySem.W.Frag) (hK : X.K = K) (hu : X.A.units + 64 < cLine) : OpR X (compareOp .NotEq) (rNeA K) := OpR.or op_ne (hK ▸ op_neD hu)
theorem canLay_shaped {d : D} (h : SeqAt.shaped d = true) : d.canLay0 = true := SeqAt.canLay_of_shaped h
theorem eqP : OpP Γ eqD (rEqA Γ.K) := by
  intro C W σ B H S Q x y d e n hx hy q
  unfold eqD at q
  split at q
  · rename_i i j
    have e1 := hx.int
    have e2 := hy.int
    subst e1; subst e2
    refine .inl ⟨rfl, ?_⟩
    rw [dec_int]
    exact q.val n (.bl _)
  · rename_i i j
    have e1 := hx.bool
    have e2 := hy.bool
    subst e1; subst e2
    refine .inl ⟨rfl, ?_⟩
    rw [dec_bl]
    exact q.val n (.bl _)
  · rename_i i j
    have e1 := hx.str
    have e2 := hy.str
    subst e1; subst e2
    refine .inl ⟨rfl, ?_⟩
    rw [dec_str]
    exact q.val n (.bl _)
  · split at q
    · rename_i h
      exact .inr ⟨d, e, hx.dp n.sh (canLay_shaped h.1), hy.dp n.sh (canLay_shaped h.2), h.1, h.2, q.val n (.bl _)⟩
    · exact q.elim
theorem neP : OpP Γ neD (rNeA Γ.K) := by
  intro C W σ B H S Q x y d e n hx hy q
  unfold neD eqD at q
  split at q
  · rename_i i j
    have e1 := hx.int
    have e2 := hy.int
    subst e1; subst e2
    refine .inl ⟨rfl, ?_⟩
    rw [dec_int]
    exact q.val n (.bl _)
  · rename_i i j
    have e1 := hx.bool
    have e2 := hy.bool
    subst e1; subst e2
    refine .inl ⟨rfl, ?_⟩
    rw [dec_bl]
    exact q.val n (.bl _)
  · rename_i i j
    have e1 := hx.str
    have e2 := hy.str
    subst e1; subst e2
    refine .inl ⟨rfl, ?_⟩
    rw [dec_str]
    exact q.val n (.bl _)
  · split at q
    · rename_i h
      exact .inr ⟨d, e, hx.dp n.sh (canLay_shaped h.1), hy.dp n.sh (canLay_shaped h.2), h.1, h.2, q.val n (.bl _)⟩
    · exact q.elim
def ltD : D → D → M D
  | .int i, .int j => pure (.bool (decide (i < j)))
  | _, _ => bad
def leD : D → D → M D
  | .int i, .int j => pure (.bool (decide (i ≤ j)))
  | _, _ => bad
def gtD : D → D → M D
  | .int i, .int j => pure (.bool (decide (j < i)))
  | _, _ => bad
def geD : D → D → M D
  | .int i, .int j => pure (.bool (decide (j ≤ i)))
  | _, _ => bad
theorem opp_cmp {f : D → D → M D} {g : Int → Int → Bool} (h : ∀ d e, (∃ i j, d = .int i ∧ e = .int j) ∨ f d e = bad) (h2 : ∀ i j, f (.int i) (.int j) = pure (.bool (g i j))) :
    OpP Γ f (rI0 fun i j => .bl (g i j)) := by
  intro C W σ B H S Q x y d e n hx hy q
  rcases h d e with ⟨i, j, rfl, rfl⟩ | z
  · rw [h2] at q
    exact ⟨i, j, hx.int, hy.int, q.val n (.bl _)⟩
  · rw [z] at q; exact q.elim
theorem ltP : OpP Γ ltD (rI0 fun i j => .bl (decide (i < j))) := opp_cmp (two_int fun d e h => by unfold ltD; split <;> first | rfl | exact (h _ _ rfl rfl).elim) fun _ _ => rfl
theorem leP : OpP Γ leD (rI0 fun i j => .bl (decide (i ≤ j))) := opp_cmp (two_int fun d e h => by unfold leD; split <;> first | rfl | exact (h _ _ rfl rfl).elim) fun _ _ => rfl
theorem gtP : OpP Γ gtD (rI0 fun i j => .bl (decide (j < i))) := opp_cmp (two_int fun d e h => by unfold gtD; split <;> first | rfl | exact (h _ _ rfl rfl).elim) fun _ _ => rfl
theorem geP : OpP Γ geD (rI0 fun i j => .bl (decide (j ≤ i))) := opp_cmp (two_int fun d e h => by unfold geD; split <;> first | rfl | exact (h _ _ rfl rfl).elim) fun _ _ => rfl
/-- is None -/
def isNone : D → Bool
  | .none => true
  | _ => false
def isND : D → D → M D
  | d, .none => pure (.bool (isNone d))
  | _, _ => bad
def notND : D → D → M D
  | d, .none => pure (.bool (!isNone d))
  | _, _ => bad
theorem non_of {K : PySem.W.Frag} {C : Option Addr} {B H : Hp} {v : V} {d : D} (h : RpT K C B H v d) : decide (v = .non) = isNone d := by
  rcases h with h | ⟨_, _, _, e1, e, _⟩ | ⟨_, _, _, e1, e, _⟩
  · cases h <;> rfl
  · subst e; subst e1; rfl
  · subst e; subst e1; rfl
theorem isNP : OpP Γ isND (fun x y H Q => y = .non ∧ Q (.bl (decide (x = .non))) H) := by
  intro C W σ B H S Q x y d e n hx hy q
  unfold isND at q
  split at q
  · refine ⟨hy.none, ?_⟩
    rw [non_of hx]
    exact q.val n (.bl _)
  · exact q.elim
theorem notNP : OpP Γ notND (fun x y H Q => y = .non ∧ Q (.bl (!decide (x = .non))) H) := by
  intro C W σ B H S Q x y d e n hx hy q
  unfold notND at q
  split at q
  · refine ⟨hy.none, ?_⟩
    rw [non_of hx]
    exact q.val n (.bl _)
  · exact q.elim
/-! items -/
def optM : Option D → M D
  | some d => pure d
  | none => bad
def ixD : D → D → M D
  | .list xs, .int i => optM (atI xs i)
  | .tuple xs, .int i => optM (atI xs i)
  | .str z, .int i => if z.length ≤ sizeLine then optM ((atI z.cps.toList i).map fun c => .str ⟨#[c]⟩) else bad
  | _, _ => bad
theorem PostV.opt {R : RR} {C : Option Addr} {σ : L2.St} {B H : Hp} {S : SS} {Q : VK} {o : Option D} (q : PostV R Γ C W σ B H Q (optM o S)) : ∃ d, o = some d ∧ PostV R Γ C W σ B H Q ((pure d : M D) S) := by
  cases o with
  | some d => exact ⟨d, rfl, q⟩
  | none => exact q.elim
theorem RpAll.atI {K : PySem.W.Frag} {B : Hp} {vs : List V} {ds : List D} {i : Int} {d : D} (r : RpAll K B vs ds) (h : L2.atI ds i = some d) : ∃ v, L2.atI vs i = some v ∧ Rp K B v d := by
  unfold L2.atI at h ⊢
  rw [r.len]
  cases e : ixN ds.length i with
  | none => rw [e] at h; cases h
  | some j =>
    rw [e] at h
    exact r.at h
theorem ixP : OpP Γ ixD (rIx Γ.K) := by
  intro C W σ B H S Q x y d e n hx hy q
  unfold ixD at q
  split at q
  · obtain ⟨d, h, q⟩ := q.opt
    obtain ⟨a, xs, rfl, ha, ra⟩ := hx.list n.sh
    obtain ⟨v, e1, rv⟩ := ra.atI h
    exact .inl ⟨a, xs, _, v, rfl, hy.int, .inl (.inl ha), e1, q.val n rv⟩
  · obtain ⟨d, h, q⟩ := q.opt
    obtain ⟨a, xs, rfl, ha, ra⟩ := hx.tuple n.sh
    obtain ⟨v, e1, rv⟩ := ra.atI h
    exact .inr (.inl ⟨a, xs, _, v, rfl, hy.int, ha, e1, q.val n rv⟩)
  · split at q
    · rename_i hl
      obtain ⟨d, h, q⟩ := q.opt
      obtain ⟨c, hc, rfl⟩ := Option.map_eq_some_iff.mp h
      exact .inr (.inr ⟨_, _, c, hx.str, hy.int, hl, hc, q.val n (.str _)⟩)
    · exact q.elim
  · exact q.elim
/-! in -/
def flatD : D → Bool
  | .none => true
  | .bool _ => true
  | .int _ => true
  | .str _ => true
  | _ => false
def inD : D → D → M D
  | x, .list ys => if SeqAt.shaped x = true ∧ SeqAt.shaped (.list ys) = true then pure (.bool (ys.any fun z => PyData.eqv z x)) else bad
  | x, .tuple ys => if flatD x = true ∧ ys.all flatD = true then pure (.bool (ys.any fun z => PyData.eqv z x)) else bad
  | _, _ => bad
def notInD (d e : D) : M D := inD d e >>= fun b => asB b >>= fun b => pure (.bool (!b))
theorem flat_of {K : PySem.W.Frag} {B : Hp} {v : V} {d : D} (f : flatD d = true) (h : Rp K B v d) : flatV v = true := by
  cases h <;> first | rfl | exact (Bool.false_ne_true f).elim
theorem eqv_of {K : PySem.W.Frag} {B : Hp} {u v : V} {d e : D} (f : flatD d = true) (g : flatD e = true) (h : Rp K B u d) (h' : Rp K B v e) : eqV u v = PyData.eqv d e := by
  cases h <;> first | exact (Bool.false_ne_true f).elim | (cases h' <;> first | exact (Bool.false_ne_true g).elim | rfl | (simp only [eqV, PyData.eqv]))
theorem flats_of {K : PySem.W.Frag} {B : Hp} : ∀ {vs : List V} {ds : List D}, ds.all flatD = true → RpAll K B vs ds → vs.all flatV = true
  | _, _, _, .nil => rfl
  | _, _, f, .cons h r => by
    simp only [List.all_cons, Bool.and_eq_true] at f ⊢
    exact ⟨flat_of f.1 h, flats_of f.2 r⟩
theorem anyv_of {K : PySem.W.Frag} {B : Hp} {v : V} {e : D} (g : flatD e = true) (h' : Rp K B v e) : ∀ {vs : List V} {ds : List D}, ds.all flatD = true → RpAll K B vs ds → (vs.any fun y => eqV y v) = ds.any fun z => PyData.eqv z e
  | _, _, _, .nil => rfl
  | _, _, f, .cons h r => by
    simp only [List.all_cons, Bool.and_eq_true] at f
    simp only [List.any_cons]
    rw [eqv_of f.1 g h h', anyv_of g h' f.2 r]
theorem RpT.flat {K : PySem.W.Frag} {C : Option Addr} {B H : Hp} {v : V} {d : D} (f : flatD d = true) (h : RpT K C B H v d) : Rp K B v d := by
  rcases h with h | ⟨_, _, _, _, e, _⟩ | ⟨_, _, _, _, e, _⟩
  · exact h
  · subst e; cases f
  · subst e; cases f
def rInA (K : PySem.W.Frag) : R2 := fun x y H Q => rInD K x y H Q ∨ rIn K false x y H Q
def rNotInA (K : PySem.W.Frag) : R2 := fun x y H Q => rNotInD K x y H Q ∨ rIn K true x y H Q
theorem op_inP (K : PySem.W.Frag) (hK : X.K = K) (hu : X.A.units + 65 < cLine) : OpR X (compareOp .In) (rInA K) := OpR.or (hK ▸ op_inD hu) (hK ▸ op_in_seq)
theorem op_notInP (K : PySem.W.Frag) (hK : X.K = K) (hu : X.A.units + 65 < cLine) : OpR X (compareOp .NotIn) (rNotInA K) := OpR.or (hK ▸ op_notInD hu) (hK ▸ op_notIn_seq)
theorem inP : OpP Γ inD (rInA Γ.K) := by
  intro C W σ B H S Q x y d e n hx hy q
  unfold inD at q
  split at q
  · split at q
    · rename_i h
      exact .inl ⟨_, _, hx.dp n.sh (canLay_shaped h.1), hy.dp n.sh (canLay_shaped h.2), h.1, h.2, q.val n (.bl _)⟩
    · exact q.elim
  · split at q
    · rename_i h
      obtain ⟨a, xs, rfl, ha, ra⟩ := hy.tuple n.sh
      have hx' := hx.flat h.1
      refine .inr ⟨a, xs, rfl, .inr ha, flat_of h.1 hx', flats_of h.2 ra, ?_⟩
      show Q (.bl (inV x xs)) H
      unfold inV
      rw [anyv_of h.1 hx' h.2 ra]
      exact q.val n (.bl _)
    · exact q.elim
  · exact q.elim
theorem notInP : OpP Γ notInD (rNotInA Γ.K) := by
  intro C W σ B H S Q x y d e n hx hy q
  unfold notInD inD at q
  split at q
  · split at q
    · rename_i h
      exact .inl ⟨_, _, hx.dp n.sh (canLay_shaped h.1), hy.dp n.sh (canLay_shaped h.2), h.1, h.2, q.val n (.bl _)⟩
    · exact q.elim
  · split at q
    · rename_i h
      obtain ⟨a, xs, rfl, ha, ra⟩ := hy.tuple n.sh
      have hx' := hx.flat h.1
      refine .inr ⟨a, xs, rfl, .inr ha, flat_of h.1 hx', flats_of h.2 ra, ?_⟩
      show Q (.bl (!inV x xs)) H
      unfold inV
      rw [anyv_of h.1 hx' h.2 ra]
      exact q.val n (.bl _)
    · exact q.elim
  · exact q.elim
end Pv
namespace Pv
open PySem PySem.Spec PyProof.Rows L2
variable {Γ : Gm} {X : Cx} {W : WX} {pos p : Pos}
/-! argument lists -/
def PostL {α β : Type} (R : Hp → Hp → List β → α → Prop) (Γ : Gm) (C : Option Addr) (W : WX) (σ : L2.St) (B H : Hp) (Q : List β → Hp → Prop) : Res α → Prop
  | .ok d S' => ∀ v H' B', Nxt Γ C B H S' B' H' → R B' H' v d → Q v H'
  | .exc k S' => ∀ H' B', Nxt Γ C B H S' B' H' → W (Γ.cls k) none σ H'
  | .bad => False
theorem PostL.up {α β : Type} {R : Hp → Hp → List β → α → Prop} {C : Option Addr} {σ : L2.St} {B B1 H H1 : Hp} {S1 : SS} {Q : List β → Hp → Prop} {r : Res α} (n : Nxt Γ C B H S1 B1 H1) (h : PostL R Γ C W σ B H Q r) : PostL R Γ C W σ B1 H1 Q r := by
  cases r with
  | ok d S' => exact fun v H' B' n' x => h v H' B' (n.trans n') x
  | exc k S' => exact fun H' B' n' => h H' B' (n.trans n')
  | bad => exact h
def ArgOk (K : PySem.W.Frag) (C : Option Addr) (B : Hp) (v : V) : Arg → Prop
  | .d d => Rp K B v d
  | .cell => ∃ a, C = some a ∧ v = .ref a
  | .scr ds => ∃ a xs, v = .ref a ∧ SqL K B a xs ∧ RpAll K B xs ds
inductive ArgsOk (K : PySem.W.Frag) (C : Option Addr) (B : Hp) : List V → List Arg → Prop
  | nil : ArgsOk K C B [] []
  | cons {v : V} {vs : List V} {a : Arg} {as : List Arg} : ArgOk K C B v a → ArgsOk K C B vs as → ArgsOk K C B (v :: vs) (a :: as)
theorem ArgOk.up {K : PySem.W.Frag} {C : Option Addr} {B B1 : Hp} {v : V} {a : Arg} (s : Sub B B1) (h : ArgOk K C B v a) : ArgOk K C B1 v a := by
  cases a with
  | d d => exact Rp.up s h
  | cell => exact h
  | scr ds =>
    obtain ⟨a, xs, e, q, r⟩ := h
    exact ⟨a, xs, e, s.sqL q, r.up s⟩
theorem ArgsOk.up {K : PySem.W.Frag} {C : Option Addr} {B B1 : Hp} (s : Sub B B1) : ∀ {vs : List V} {as : List Arg}, ArgsOk K C B vs as → ArgsOk K C B1 vs as
  | _, _, .nil => .nil
  | _, _, .cons h r => .cons (h.up s) (ArgsOk.up s r)
theorem ArgsOk.len {K : PySem.W.Frag} {C : Option Addr} {B : Hp} : ∀ {vs : List V} {as : List Arg}, ArgsOk K C B vs as → vs.length = as.length
  | _, _, .nil => rfl
  | _, _, .cons _ r => congrArg Nat.succ (ArgsOk.len r)
abbrev MA := Env → M (List D)
abbrev MG := Env → M (List Arg)
def rdA (Γ : Gm) (W : WX) (m : MA) : TA := fun σ H Q => ∃ C B0 H0 ρ S B, Rel Γ C B0 H0 ρ S σ B H ∧ PostL (fun B' _ => RpAll Γ.K B') Γ C W σ B H Q (m ρ S)
def rdG (Γ : Gm) (W : WX) (n : Nat) (m : MG) : TA := fun σ H Q => ∃ C B0 H0 ρ S B, Rel Γ C B0 H0 ρ S σ B H ∧ PostL (fun B' _ vs as => ArgsOk Γ.K C B' vs as ∧ as.length = n) Γ C W σ B H Q (m ρ S)
theorem PA.imp {es : List Expr} {t t' : TA} (h : PA X es t) (i : ∀ σ H Q, t' σ H Q → t σ H Q) : PA X es t' := ⟨fun ps pins s σ H Q I q => h.run ps pins s σ H Q I (i σ H Q q)⟩
/-- a value is asked, then the other arguments -/
theorem rd_bindL {α β : Type} {P : Hp → Hp → List β → α → Prop} {R : RR} {C : Option Addr} {σ : L2.St} {B H B0 H0 : Hp} {S : SS} {ρ : Env} {m : ME} {f : D → M α} {Q : List β → Hp → Prop} {Q' : VK} (r : Rel Γ C B0 H0 ρ S σ B H) (h : PostL P Γ C W σ B H Q ((m ρ >>= f) S))
    (k : ∀ d S1 v H1 B1, Rel Γ C B0 H0 ρ S1 σ B1 H1 → Nxt Γ C B H S1 B1 H1 → R Γ C B1 H1 v d → PostL P Γ C W σ B1 H1 Q (f d S1) → Q' v H1) : rd R Γ W m σ H Q' := by
  refine ⟨C, B0, H0, ρ, S, B, r, ?_⟩
  rw [bind_at] at h
  cases e : m ρ S with
  | ok d S' => rw [e] at h; exact fun v H' B' n x => k d S' v H' B' (r.up n) n x (h.up n)
  | exc j S' => rw [e] at h; exact h
  | bad => rw [e] at h; exact h
/-- all are asked, then a list is made of them and x -/
theorem postL_map {α β γ : Type} {P : Hp → Hp → List β → α → Prop} {P' : Hp → Hp → List β → γ → Prop} {C : Option Addr} {σ : L2.St} {B H : Hp} {S : SS} {m : M α} {g : α → γ} {Q Q' : List β → Hp → Prop} (h : PostL P' Γ C W σ B H Q ((m >>= fun a => pure (g a)) S))
    (k : ∀ a S' v H' B', Nxt Γ C B H S' B' H' → P B' H' v a → (∀ w, P' B' H' w (g a) → Q w H') → Q' v H') : PostL P Γ C W σ B H Q' (m S) := by
  rw [bind_at] at h
  cases e : m S with
  | ok a S' => rw [e] at h; exact fun v H' B' n x => k a S' v H' B' n x fun w y => h w H' B' n y
  | exc j S' => rw [e] at h; exact h
  | bad => rw [e] at h; exact h
def aNil : MA := fun _ => pure []
def aCons (ma : ME) (mr : MA) : MA := fun ρ => ma ρ >>= fun x => mr ρ >>= fun xs => pure (x :: xs)
def seqOf : D → M (List D)
  | .list xs => pure xs
  | .tuple xs => pure xs
  | _ => bad
def aStar (ma : ME) (mr : MA) : MA := fun ρ => ma ρ >>= fun x => seqOf x >>= fun ys => mr ρ >>= fun xs => pure (ys ++ xs)
def rdN (Γ : Gm) (W : WX) (n : Nat) (m : MA) : TA := fun σ H Q => ∃ C B0 H0 ρ S B, Rel Γ C B0 H0 ρ S σ B H ∧ PostL (fun B' _ vs ds => RpAll Γ.K B' vs ds ∧ ds.length = n) Γ C W σ B H Q (m ρ S)
theorem d_anil : PA X [] (rdN Γ W 0 aNil) := PA.imp pa_nil fun σ H Q ⟨C, B0, H0, ρ, S, B, r, q⟩ => q [] H B r.nx.here ⟨.nil, rfl⟩
theorem d_acons {n : Nat} {e : Expr} {es : List Expr} {ma : ME} {mr : MA} (ha : PE X e (rdE Γ W ma)) (hr : PA X es (rdN Γ W n mr)) (hf : plainE e = true) : PA X (e :: es) (rdN Γ W (n + 1) (aCons ma mr)) :=
  PA.imp (pa_cons ha hr (star_plain hf es X.env)) fun σ H Q ⟨C, B0, H0, ρ, S, B, r, q⟩ => rd_bindL r q fun d S1 v H1 B1 r1 n1 x1 p1 =>
    ⟨C, B0, H0, ρ, S1, B1, r1, postL_map p1 fun a S' vs H' B' n y k => k _ ⟨.cons (x1.up n.sb) y.1, congrArg Nat.succ y.2⟩⟩
theorem d_aN {n : Nat} {es : List Expr} {m : MA} (h : PA X es (rdN Γ W n m)) : PA X es (rdA Γ W m) :=
  PA.imp h fun σ H Q ⟨C, B0, H0, ρ, S, B, r, q⟩ => by
    refine ⟨C, B0, H0, ρ, S, B, r, ?_⟩
    cases e : m ρ S with
    | ok a S' => rw [e] at q; exact fun v H' B' n x => q v H' B' n x.1
    | exc j S' => rw [e] at q; exact q
    | bad => rw [e] at q; exact q
theorem d_scons {e : Expr} {es : List Expr} {ma : ME} {mr : MA} (ha : PE X e (rdE Γ W ma)) (hr : PA X es (rdA Γ W mr)) (hf : plainE e = true) : PA X (e :: es) (rdA Γ W (aCons ma mr)) :=
  PA.imp (pa_cons ha hr (star_plain hf es X.env)) fun σ H Q ⟨C, B0, H0, ρ, S, B, r, q⟩ => rd_bindL r q fun d S1 v H1 B1 r1 n1 x1 p1 =>
    ⟨C, B0, H0, ρ, S1, B1, r1, postL_map p1 fun a S' vs H' B' n y k => k _ (.cons (x1.up n.sb) y)⟩
theorem d_astar {e : Expr} {es : List Expr} {ma : ME} {mr : MA} {q : Pos} (ha : PE X e (rdT Γ W ma)) (hr : PA X es (rdA Γ W mr)) (hK : X.K = Γ.K) : PA X (.Starred e q :: es) (rdA Γ W (aStar ma mr)) :=
  PA.imp (StX.pa_star ha hr) fun σ H Q ⟨C, B0, H0, ρ, S, B, r, q⟩ => rd_bindL r q fun d S1 v H1 B1 r1 n1 x1 p1 => by
    cases d with
    | list ds =>
      obtain ⟨a, xs, rfl, ha, ra⟩ := x1.list r1.nx.sh
      exact ⟨a, xs, rfl, .inr (.inl (.inl ha)), C, B0, H0, ρ, S1, B1, r1, postL_map p1 fun a S' vs H' B' n y k => k _ ((ra.up n.sb).app y)⟩
    | tuple ds =>
      obtain ⟨a, xs, rfl, ha, ra⟩ := x1.tuple r1.nx.sh
      exact ⟨a, xs, rfl, .inl (hK ▸ ha), C, B0, H0, ρ, S1, B1, r1, postL_map p1 fun a S' vs H' B' n y k => k _ ((ra.up n.sb).app y)⟩
    | _ => exact p1.elim
def vTup (m : MA) : ME := fun ρ => m ρ >>= fun xs => pure (.tuple xs)
def vLst (m : MA) : ME := fun ρ => m ρ >>= fun xs => pure (.list xs)
def vTupS (m : MA) : ME := fun ρ => m ρ >>= fun xs => if xs.length ≤ sizeLine then pure (.tuple xs) else bad
def vLstS (m : MA) : ME := fun ρ => m ρ >>= fun xs => if xs.length ≤ sizeLine then pure (.list xs) else bad
theorem rdA_bind {C : Option Addr} {σ : L2.St} {B H B0 H0 : Hp} {S : SS} {ρ : Env} {m : MA} {f : List D → M D} {Q : VK} {Q' : List V → Hp → Prop} (r : Rel Γ C B0 H0 ρ S σ B H) (h : PostV rrE Γ C W σ B H Q ((m ρ >>= f) S))
    (k : ∀ d S1 v H1 B1, Rel Γ C B0 H0 ρ S1 σ B1 H1 → Nxt Γ C B H S1 B1 H1 → RpAll Γ.K B1 v d → PostV rrE Γ C W σ B1 H1 Q (f d S1) → Q' v H1) : rdA Γ W m σ H Q' := by
  refine ⟨C, B0, H0, ρ, S, B, r, ?_⟩
  rcases h.bind with ⟨d, S', e, h⟩ | ⟨k', S', e, h⟩
  · rw [e]
    exact fun v H' B' n x => k d S' v H' B' (r.up n) n x (h.up n)
  · rw [e]
    exact h
theorem rdN_bind {n : Nat} {C : Option Addr} {σ : L2.St} {B H B0 H0 : Hp} {S : SS} {ρ : Env} {m : MA} {f : List D → M D} {Q : VK} {Q' : List V → Hp → Prop} (r : Rel Γ C B0 H0 ρ S σ B H) (h : PostV rrE Γ C W σ B H Q ((m ρ >>= f) S))
    (k : ∀ d S1 v H1 B1, Rel Γ C B0 H0 ρ S1 σ B1 H1 → Nxt Γ C B H S1 B1 H1 → RpAll Γ.K B1 v d → d.length = n → PostV rrE Γ C W σ B1 H1 Q (f d S1) → Q' v H1) : rdN Γ W n m σ H Q' := by
  refine ⟨C, B0, H0, ρ, S, B, r, ?_⟩
  rcases h.bind with ⟨d, S', e, h⟩ | ⟨k', S', e, h⟩
  · rw [e]
    exact fun v H' B' n x => k d S' v H' B' (r.up n) n x.1 x.2 (h.up n)
  · rw [e]
    exact h
theorem thousand {n : Nat} (h : n ≤ 1000) : n ≤ sizeLine := Nat.le_trans h (by decide)
theorem d_tup {n : Nat} {es : List Expr} {m : MA} {k : Nat} (h : PA X es (rdN Γ W n m)) (hn : n ≤ 1000) : PE X (.Tuple es k pos) (rdE Γ W (vTup m)) :=
  PE.imp (pe_tup h) fun σ H Q ⟨C, B0, H0, ρ, S, B, r, q⟩ => rdN_bind r q fun d S1 v H1 B1 r1 n1 x1 l1 p1 =>
    ⟨by rw [x1.len, l1]; exact thousand hn, p1.tup r1.nx.here x1 (by rw [l1]; exact thousand hn)⟩
theorem d_lst {n : Nat} {es : List Expr} {m : MA} (h : PA X es (rdN Γ W n m)) (hn : n ≤ 1000) : PE X (.List es pos) (rdE Γ W (vLst m)) :=
  PE.imp (pe_lst h) fun σ H Q ⟨C, B0, H0, ρ, S, B, r, q⟩ => rdN_bind r q fun d S1 v H1 B1 r1 n1 x1 l1 p1 =>
    ⟨by rw [x1.len, l1]; exact thousand hn, p1.lst r1.nx.here x1 (by rw [l1]; exact thousand hn)⟩
theorem d_tupS {es : List Expr} {m : MA} {k : Nat} (h : PA X es (rdA Γ W m)) : PE X (.Tuple es k pos) (rdE Γ W (vTupS m)) :=
  PE.imp (pe_tup h) fun σ H Q ⟨C, B0, H0, ρ, S, B, r, q⟩ => rdA_bind r q fun d S1 v H1 B1 r1 n1 x1 p1 => by
    by_cases hz : d.length ≤ sizeLine
    · rw [if_pos hz] at p1
      exact ⟨by rw [x1.len]; exact hz, p1.tup r1.nx.here x1 hz⟩
    · rw [if_neg hz] at p1; exact p1.elim
theorem d_lstS {es : List Expr} {m : MA} (h : PA X es (rdA Γ W m)) : PE X (.List es pos) (rdE Γ W (vLstS m)) :=
  PE.imp (pe_lst h) fun σ H Q ⟨C, B0, H0, ρ, S, B, r, q⟩ => rdA_bind r q fun d S1 v H1 B1 r1 n1 x1 p1 => by
    by_cases hz : d.length ≤ sizeLine
    · rw [if_pos hz] at p1
      exact ⟨by rw [x1.len]; exact hz, p1.lst r1.nx.here x1 hz⟩
    · rw [if_neg hz] at p1; exact p1.elim
/-! arguments of own defs -/
def gNil : MG := fun _ => pure []
def gCons (ma : ME) (mr : MG) : MG := fun ρ => ma ρ >>= fun x => mr ρ >>= fun xs => pure (.d x :: xs)
def gCell (i : Nat) (mr : MG) : MG := fun ρ => match ρ.getD i .none with
  | .cell => mr ρ >>= fun xs => pure (.cell :: xs)
  | _ => bad
def gScr (i : Nat) (mr : MG) : MG := fun ρ => match ρ.getD i .none with
  | .scr ds => mr ρ >>= fun xs => pure (.scr ds :: xs)
  | _ => bad
theorem d_gnil : PA X [] (rdG Γ W 0 gNil) := PA.imp pa_nil fun σ H Q ⟨C, B0, H0, ρ, S, B, r, q⟩ => q [] H B r.nx.here ⟨.nil, rfl⟩
theorem d_gcons {n : Nat} {e : Expr} {es : List Expr} {ma : ME} {mr : MG} (ha : PE X e (rdE Γ W ma)) (hr : PA X es (rdG Γ W n mr)) (hf : plainE e = true) : PA X (e :: es) (rdG Γ W (n + 1) (gCons ma mr)) :=
  PA.imp (pa_cons ha hr (star_plain hf es X.env)) fun σ H Q ⟨C, B0, H0, ρ, S, B, r, q⟩ => rd_bindL r q fun d S1 v H1 B1 r1 n1 x1 p1 =>
    ⟨C, B0, H0, ρ, S1, B1, r1, postL_map p1 fun a S' vs H' B' n y k => k _ ⟨.cons (show ArgOk Γ.K C B' v (.d d) from x1.up n.sb) y.1, congrArg Nat.succ y.2⟩⟩
theorem d_gcell {n i : Nat} {x : Str} {es : List Expr} {mr : MG} (hN : X.N[i]? = some x) (hv : Vis X.env.scope x) (hd : (x == ("__debug__" : Str)) = false) (hc : (x == ("__classdict__" : Str)) = false) (hr : PA X es (rdG Γ W n mr)) :
    PA X (.Name x pos :: es) (rdG Γ W (n + 1) (gCell i mr)) :=
  PA.imp (pa_cons (pe_var hN hv hd hc) hr (star_plain rfl es X.env)) fun σ H Q ⟨C, B0, H0, ρ, S, B, r, q⟩ => by
    unfold gCell at q
    cases e : ρ.getD i .none with
    | cell =>
      rw [e] at q
      obtain ⟨a, e1, e2⟩ := r.at e
      exact ⟨_, e2, C, B0, H0, ρ, S, B, r, postL_map q fun as S' vs H' B' n y k => k _ ⟨.cons ⟨a, e1, rfl⟩ y.1, congrArg Nat.succ y.2⟩⟩
    | _ => rw [e] at q; exact q.elim
theorem d_gscr {n i : Nat} {x : Str} {es : List Expr} {mr : MG} (hN : X.N[i]? = some x) (hv : Vis X.env.scope x) (hd : (x == ("__debug__" : Str)) = false) (hc : (x == ("__classdict__" : Str)) = false) (hr : PA X es (rdG Γ W n mr)) :
    PA X (.Name x pos :: es) (rdG Γ W (n + 1) (gScr i mr)) :=
  PA.imp (pa_cons (pe_var hN hv hd hc) hr (star_plain rfl es X.env)) fun σ H Q ⟨C, B0, H0, ρ, S, B, r, q⟩ => by
    unfold gScr at q
    cases e : ρ.getD i .none with
    | scr ds =>
      rw [e] at q
      obtain ⟨a, xs, e1, e2, e3⟩ := r.at e
      exact ⟨_, e1, C, B0, H0, ρ, S, B, r, postL_map q fun as S' vs H' B' n y k => k _ ⟨.cons ⟨a, xs, rfl, n.sb.sqL e2, e3.up n.sb⟩ y.1, congrArg Nat.succ y.2⟩⟩
    | _ => rw [e] at q; exact q.elim

/-! own defs -/
/-- what a def of the meaning f promises -/
def PostF (Γ : Gm) (C : Option Addr) (B H : Hp) (Q : VK) (E : XK) : Res D → Prop
  | .ok d S' => ∀ v H' B', Nxt Γ C B H S' B' H' → Rp Γ.K B' v d → Q v H'
  | .exc k S' => ∀ H' B', Nxt Γ C B H S' B' H' → E (Γ.cls k) none H'
  | .bad => False
def spF (Γ : Gm) (n : Nat) (f : Fn) : Sp := fun vs H Q E => ∃ C B S args, Nxt Γ C B H S B H ∧ ArgsOk Γ.K C B vs args ∧ args.length = n ∧ PostF Γ C B H Q E (f args S)
/-- a def's promise, where no text is being shown -/
structure FnG (Γ : Gm) (k : Nat) (f : Addr) (fd : FuncData) (ps : List Str) (sp : Sp) : Prop where
  len : ∀ vs H Q E, sp vs H Q E → vs.length = ps.length
  run : ∀ (A : Around) (outer : List PySem.Env) (s : Shared) (H : Hp) (args : Args) (us : List Value) (vs : List V) (Q : VK) (E : XK),
    Room k A → A.guards = some [] → Env0 Γ.prog Γ.w Γ.K Γ.mg Γ.base A outer s H → BindsTo s fd args (ps.zip us) → Vals vs us → sp vs H Q E →
    codeAny (model Γ.prog Γ.w) A (.call (.ref f) args) (CR (L2.CX Γ.prog Γ.w) outer Γ.prog Γ.w H s Q E) s
structure CalleeOk (Γ : Gm) (k : Nat) (x : Str) (n : Nat) (f : Fn) : Prop where
  ex : ∃ fa fd ps, ps.length = n ∧ Γ.mg x = some (.ref fa) ∧ PySem.W.keepIn Γ.K (.ref fa) = true ∧ Binds Γ.K fd ps [] ∧ FnG Γ k fa fd ps (spF Γ n f)
/-- the context is of our globals -/
structure Of (Γ : Gm) (X : Cx) : Prop where
  prog : X.prog = Γ.prog
  w : X.w = Γ.w
  K : X.K = Γ.K
  mg : X.mg = Γ.mg
  base : X.base = Γ.base
theorem rooms {k L : Nat} {A : Around} (h : k ≤ L) (r : Room L A) : Room k A := r.mono h
def vCall (f : Fn) (m : MG) : ME := fun ρ => m ρ >>= f
theorem run_call {k : Nat} {f : Fn} {fa : Addr} {fd : FuncData} {ps : List Str} (G : Of Γ X) (tk : Takes X W) (hr : Room k X.A) (hg : X.A.guards = some []) (hb : Binds Γ.K fd ps []) (F : FnG Γ k fa fd ps (spF Γ ps.length f))
    {pins : List (Addr × Obj)} {s : Shared} {σ : L2.St} {H : Hp} {Q : VK} {us : List Value} {vs : List V} {C : Option Addr} {B : Hp} {S : SS} {args : List Arg} (I : Inv X pins σ H s) (rv : Vals vs us) (n : Nxt Γ C B H S B H) (a : ArgsOk Γ.K C B vs args) (hl : args.length = ps.length) (q : PostV rrE Γ C W σ B H Q (f args S)) :
    wpAny (model X.prog X.w) X.A (call (.ref fa) us) (EP X pins σ Q) X.xe s := by
  obtain ⟨e1, e2, e3, e4, e5⟩ := G
  have hsp : spF Γ ps.length f vs H Q (fun cls d H' => W cls d σ H') := by
    refine ⟨C, B, S, args, n, a, hl, ?_⟩
    cases e : f args S with
    | ok d S' => rw [e] at q; exact q
    | exc k S' => rw [e] at q; exact q
    | bad => rw [e] at q; exact q
  have hlen : (us ++ ([] : List Value)).length = ps.length := by rw [List.append_nil, ← rv.length, a.len]; exact hl
  have hbt := hb s us (by have := I.kIn; rwa [e3] at this) hlen
  rw [List.append_nil] at hbt
  have h0 := I.env0
  rw [e1, e2, e3, e4, e5] at h0
  have run := F.run X.A X.stack s H ⟨us, []⟩ us vs Q (fun cls d H' => W cls d σ H') hr hg h0 hbt rv hsp
  rw [← e1, ← e2] at run
  refine wpAny_call (codeAny_mono run fun r s' hq => ?_)
  match r, hq with
  | .error e, hq => exact tk e s' (XE.of_call I (fun _ _ _ h => h) hq)
  | .ok (.ret u), hq => exact I.after hq
  | .ok .next, hq => exact hq.elim
  | .ok .brk, hq => exact hq.elim
  | .ok .cont, hq => exact hq.elim
theorem rdG_run {n : Nat} {C : Option Addr} {σ : L2.St} {B H B0 H0 : Hp} {S : SS} {ρ : Env} {m : MG} {f : Fn} {Q : VK} {Q' : List V → Hp → Prop} (r : Rel Γ C B0 H0 ρ S σ B H) (h : PostV rrE Γ C W σ B H Q ((m ρ >>= f) S))
    (k : ∀ d S1 v H1 B1, Rel Γ C B0 H0 ρ S1 σ B1 H1 → Nxt Γ C B H S1 B1 H1 → ArgsOk Γ.K C B1 v d → d.length = n → PostV rrE Γ C W σ B1 H1 Q (f d S1) → Q' v H1) : rdG Γ W n m σ H Q' := by
  refine ⟨C, B0, H0, ρ, S, B, r, ?_⟩
  rcases h.bind with ⟨d, S', e, h⟩ | ⟨k', S', e, h⟩
  · rw [e]
    exact fun v H' B' n x => k d S' v H' B' (r.up n) n x.1 x.2 (h.up n)
  · rw [e]
    exact h
/-- all arguments are plain -/
def plains (es : List Expr) : Bool := es.all plainE
theorem stars_plain {es : List Expr} (h : plains es = true) (pos : Pos) (env : PySem.Env) : (backTo pos (starEach es env)).any (·.1) = false := by
  have z : (starEach es env).all (fun p => !p.1) = true := by
    induction es with
    | nil => rfl
    | cons e es ih =>
      simp only [plains, List.all_cons, Bool.and_eq_true] at h
      rw [star_plain h.1]
      simp only [List.all_cons, Bool.not_false, Bool.true_and]
      exact ih h.2
  have back : ∀ (l : List (Bool × Sem Value)), l.all (fun p => !p.1) = true → (backTo pos l).any (·.1) = false := by
    intro l hl
    cases q : (backTo pos l).any (·.1) with
    | false => rfl
    | true =>
      exfalso
      obtain ⟨y, hy, hy2⟩ := List.any_eq_true.mp q
      have : ∃ z ∈ l, z.1 = y.1 := by
        unfold backTo at hy
        obtain ⟨z, hz, ez⟩ := List.mem_map.mp hy
        exact ⟨z, hz, by rw [← ez]⟩
      obtain ⟨z, hz, ez⟩ := this
      have := List.all_eq_true.mp hl z hz
      rw [ez, hy2] at this
      cases this
  exact back _ z
theorem d_call {k n : Nat} {x : Str} {f : Fn} {e : Expr} {es : List Expr} {m : MG} (c : CalleeOk Γ k x n f) (G : Of Γ X) (tk : Takes X W) (hr : Room k X.A) (hg : X.A.guards = some []) (hgl : Gl X x) (hdb : (x == ("__debug__" : Str)) = false) (ha : PA X (e :: es) (rdG Γ W n m)) (hp : plains (e :: es) = true) :
    PE X (.Call (.Name x p) (e :: es) [] pos) (rdE Γ W (vCall f m)) := by
  obtain ⟨fa, fd, ps, hn, hm, hk, hb, F⟩ := c.ex
  subst hn
  have hm' : X.mg x = some (.ref fa) := by rw [G.mg]; exact hm
  have hk' : PySem.W.keepIn X.K (.ref fa) = true := by rw [G.K]; exact hk
  simp only [plains, List.all_cons, Bool.and_eq_true] at hp
  refine ⟨fun pins s σ H Q I ⟨C, B0, H0, ρ, S, B, r, q⟩ => ?_⟩
  refine wpAny_Call_Name_kw (ld_glob I hgl hm' ?_ hdb)
  have ask := ha.run pos pins s σ H (fun vs H1 => ∃ B1 S1 as, Nxt Γ C B1 H1 S1 B1 H1 ∧ ArgsOk Γ.K C B1 vs as ∧ as.length = ps.length ∧ PostV rrE Γ C W σ B1 H1 Q (f as S1)) I
    (rdG_run r q fun d S1 v H1 B1 r1 n1 a1 l1 p1 => ⟨B1, S1, d, r1.nx.here, a1, l1, p1⟩)
  refine PySem.W.callWith_K (h₀ := X.base) I.ok.mod.kin hk' (thn ask fun us s1 ⟨vs, H1, I1, rv, B1, S1, as, n1, a1, l1, q1⟩ => ⟨I1.kIn, ?_⟩) (star_plain hp.1 es X.env) (stars_plain hp.2 pos X.env)
  exact run_call G tk hr hg hb F I1 rv n1 a1 l1 q1
theorem d_call0 {k : Nat} {x : Str} {f : Fn} (c : CalleeOk Γ k x 0 f) (G : Of Γ X) (tk : Takes X W) (hr : Room k X.A) (hg : X.A.guards = some []) (hgl : Gl X x) (hdb : (x == ("__debug__" : Str)) = false) :
    PE X (.Call (.Name x p) [] [] pos) (rdE Γ W (vCall f gNil)) := by
  obtain ⟨fa, fd, ps, hn, hm, hk, hb, F⟩ := c.ex
  have hm' : X.mg x = some (.ref fa) := by rw [G.mg]; exact hm
  have hk' : PySem.W.keepIn X.K (.ref fa) = true := by rw [G.K]; exact hk
  rw [← hn] at F
  refine ⟨fun pins s σ H Q I ⟨C, B0, H0, ρ, S, B, r, q⟩ => ?_⟩
  refine wpAny_Call_Name_kw (ld_glob I hgl hm' ?_ hdb)
  exact PySem.W.callWith_K0 I.kIn hk' (run_call (vs := []) (args := []) G tk hr hg hb F I .nil r.nx.here .nil (by rw [hn]; rfl) q)
end Pv
namespace Pv
open PySem PySem.Spec PyProof.Rows L2
variable {Γ : Gm} {X : Cx} {W : WX} {pos p : Pos}
/-! built-in functions of one and of two values -/
def C1P (Γ : Gm) (f : D → M D) (r : List V → Hp → VK → Prop) : Prop := ∀ {C : Option Addr} {W : WX} {σ : L2.St} {B H : Hp} {S : SS} {Q : VK} {x : V} {d : D},
  Nxt Γ C B H S B H → RpT Γ.K C B H x d → PostV rrE Γ C W σ B H Q (f d S) → r [x] H Q
def C2P (Γ : Gm) (f : D → D → M D) (r : List V → Hp → VK → Prop) : Prop := ∀ {C : Option Addr} {W : WX} {σ : L2.St} {B H : Hp} {S : SS} {Q : VK} {x y : V} {d e : D},
  Nxt Γ C B H S B H → RpT Γ.K C B H x d → RpT Γ.K C B H y e → PostV rrE Γ C W σ B H Q (f d e S) → r [x, y] H Q
section
variable {a b : Expr} {ma mb : ME} {r : List V → Hp → VK → Prop} {x : Str} {id T : String}
theorem post_c1 {f : D → M D} (hp : C1P Γ f r) : ∀ (σ : L2.St) (H : Hp) (Q : VK), rdE Γ W (v1 f ma) σ H Q → tCB r (tCons (rdT Γ W ma) tNil) σ H Q := fun σ H Q ⟨C, B0, H0, ρ, S, B, r0, q⟩ =>
  rd_bind r0 q fun d S1 v H1 B1 r1 n1 x1 p1 => hp r1.nx.here x1 p1
theorem post_c2 {f : D → D → M D} (hp : C2P Γ f r) : ∀ (σ : L2.St) (H : Hp) (Q : VK), rdE Γ W (v2 f ma mb) σ H Q → tCB r (tCons (rdT Γ W ma) (tCons (rdT Γ W mb) tNil)) σ H Q := fun σ H Q ⟨C, B0, H0, ρ, S, B, r0, q⟩ =>
  rd_bind r0 q fun d S1 v H1 B1 r1 n1 x1 p1 => rd_bind r1 p1 fun e S2 u H2 B2 r2 n2 x2 p2 => hp r2.nx.here (x1.up n2) x2 p2
theorem d_blt1 {f : D → M D} (hc : CallR X (.builtin id) r) (hp : C1P Γ f r) (hg : Gl X x) (hm : X.mg x = none) (hv : bootBuiltins x = some (.builtin id)) (hn : x ≠ "__name__") (hdb : (x == ("__debug__" : Str)) = false) (ha : PE X a (rdT Γ W ma)) (hf : plainE a = true) :
    PE X (.Call (.Name x p) [a] [] pos) (rdE Γ W (v1 f ma)) :=
  PE.imp (pe_callB hc hg hm hv (pa_cons ha pa_nil (star_plain hf [] X.env)) hn hdb (star_plain hf [] X.env) rfl) (post_c1 hp)
theorem d_ty1 {f : D → M D} (hc : CallR X (.type T) r) (hp : C1P Γ f r) (hg : Gl X x) (hm : X.mg x = none) (hv : bootBuiltins x = some (.type T)) (hn : x ≠ "__name__") (hdb : (x == ("__debug__" : Str)) = false) (ha : PE X a (rdT Γ W ma)) (hf : plainE a = true) :
    PE X (.Call (.Name x p) [a] [] pos) (rdE Γ W (v1 f ma)) :=
  PE.imp (pe_callTy hc hg hm hv (pa_cons ha pa_nil (star_plain hf [] X.env)) hn hdb (star_plain hf [] X.env) rfl) (post_c1 hp)
theorem d_blt2 {f : D → D → M D} (hc : CallR X (.builtin id) r) (hp : C2P Γ f r) (hg : Gl X x) (hm : X.mg x = none) (hv : bootBuiltins x = some (.builtin id)) (hn : x ≠ "__name__") (hdb : (x == ("__debug__" : Str)) = false) (ha : PE X a (rdT Γ W ma)) (hb : PE X b (rdT Γ W mb)) (hf : plainE a = true) (hf2 : plainE b = true) :
    PE X (.Call (.Name x p) [a, b] [] pos) (rdE Γ W (v2 f ma mb)) :=
  PE.imp (pe_callB hc hg hm hv (pa_cons ha (pa_cons hb pa_nil (star_plain hf2 [] X.env)) (star_plain hf [b] X.env)) hn hdb (star_plain hf [b] X.env) (stars_plain (es := [b]) (by simp [plains, hf2]) pos X.env)) (post_c2 hp)
end
/-! what they do -/
def lenD : D → M D
  | .list xs => pure (.int xs.length)
  | .tuple xs => pure (.int xs.length)
  | .str z => if z.length ≤ sizeLine then pure (.int z.length) else bad
  | .dict es => pure (.int es.length)
  | _ => bad
def absD : D → M D
  | .int i => pure (.int i.natAbs)
  | _ => bad
def intD : D → M D
  | .int i => pure (.int i)
  | .bool b => pure (.int (if b then 1 else 0))
  | _ => bad
def max2D : D → D → M D
  | .int i, .int j => pure (.int (max i j))
  | _, _ => bad
def min2D : D → D → M D
  | .int i, .int j => pure (.int (min i j))
  | _, _ => bad
def strD : D → M D
  | .int i => if i.natAbs.log2 < 1920 then pure (.str (toString i)) else bad
  | _ => bad
def tupleD : D → M D
  | .list xs => pure (.tuple xs)
  | .tuple xs => pure (.tuple xs)
  | _ => bad
def listD : D → M D
  | .list xs => pure (.list xs)
  | .tuple xs => pure (.list xs)
  | _ => bad
def intsOf : List D → Option (List Int)
  | [] => some []
  | .int i :: r => (intsOf r).map (i :: ·)
  | _ :: _ => none
def boolsOf : List D → Option (List Bool)
  | [] => some []
  | .bool i :: r => (boolsOf r).map (i :: ·)
  | _ :: _ => none
def overInts {α : Type} (xs : List D) (f : List Int → M α) : M α := match intsOf xs with
  | some ns => f ns
  | none => bad
def overBools {α : Type} (xs : List D) (f : List Bool → M α) : M α := match boolsOf xs with
  | some ns => f ns
  | none => bad
def sumD : D → M D
  | .list xs => overInts xs fun ns => pure (.int ns.sum)
  | _ => bad
def maxI : List Int → Int
  | [] => 0
  | [n] => n
  | n :: r => max n (maxI r)
def minI : List Int → Int
  | [] => 0
  | [n] => n
  | n :: r => min n (minI r)
def maxD : D → M D
  | .list xs => overInts xs fun ns => if ns = [] then bad else pure (.int (maxI ns))
  | _ => bad
def minD : D → M D
  | .list xs => overInts xs fun ns => if ns = [] then bad else pure (.int (minI ns))
  | _ => bad
def allD : D → M D
  | .list xs => overBools xs fun ns => pure (.bool (ns.all id))
  | _ => bad
def anyD : D → M D
  | .list xs => overBools xs fun ns => pure (.bool (ns.any id))
  | _ => bad
def sortI (ns : List Int) : List Int := ns.mergeSort (fun a b => decide (a ≤ b))
def sortedD : D → M D
  | .list xs => overInts xs fun ns => pure (.list ((sortI ns).map PyData.int))
  | _ => bad
def reprD (d : D) : M D := if d.canLay0 = true ∧ d.showable = true ∧ d.depth ≤ 60 ∧ d.shown.length ≤ sizeLine then pure (.str d.shown) else bad
theorem intsOf_map : ∀ {xs : List D} {ns : List Int}, intsOf xs = some ns → xs = ns.map PyData.int
  | [], ns, h => by cases h; rfl
  | .int i :: r, ns, h => by
    unfold intsOf at h
    obtain ⟨ms, h1, rfl⟩ := Option.map_eq_some_iff.mp h
    rw [intsOf_map h1]
    rfl
  | .none :: r, _, h => by simp [intsOf] at h
  | .bool _ :: r, _, h => by simp [intsOf] at h
  | .str _ :: r, _, h => by simp [intsOf] at h
  | .list _ :: r, _, h => by simp [intsOf] at h
  | .tuple _ :: r, _, h => by simp [intsOf] at h
  | .dict _ :: r, _, h => by simp [intsOf] at h
theorem boolsOf_map : ∀ {xs : List D} {ns : List Bool}, boolsOf xs = some ns → xs = ns.map PyData.bool
  | [], ns, h => by cases h; rfl
  | .bool i :: r, ns, h => by
    unfold boolsOf at h
    obtain ⟨ms, h1, rfl⟩ := Option.map_eq_some_iff.mp h
    rw [boolsOf_map h1]
    rfl
  | .none :: r, _, h => by simp [boolsOf] at h
  | .int _ :: r, _, h => by simp [boolsOf] at h
  | .str _ :: r, _, h => by simp [boolsOf] at h
  | .list _ :: r, _, h => by simp [boolsOf] at h
  | .tuple _ :: r, _, h => by simp [boolsOf] at h
  | .dict _ :: r, _, h => by simp [boolsOf] at h
@[simp] theorem intsOf_ints : ∀ ns : List Int, intsOf (ns.map PyData.int) = some ns
  | [] => rfl
  | n :: r => by simp [intsOf, intsOf_ints r]
@[simp] theorem boolsOf_bools : ∀ ns : List Bool, boolsOf (ns.map PyData.bool) = some ns
  | [] => rfl
  | n :: r => by simp [boolsOf, boolsOf_bools r]
theorem RpAll.bools_eq {K : PySem.W.Frag} {B : Hp} : ∀ {vs : List V} {ns : List Bool}, RpAll K B vs (ns.map PyData.bool) → vs = ns.map V.bl
  | _, [], .nil => rfl
  | _, n :: ns, .cons h r => by
    cases h
    rw [RpAll.bools_eq r]
    rfl
section
variable {C : Option Addr} {B H : Hp} {S : SS} {Q : VK} {σ : L2.St} {x : V} {xs : List D}
theorem PostV.ints {f : List Int → M D} (n : Nxt Γ C B H S B H) (hx : RpT Γ.K C B H x (.list xs)) (q : PostV rrE Γ C W σ B H Q (overInts xs f S)) : ∃ a ns, x = .ref a ∧ H a = some (.lst (ns.map V.int)) ∧ xs = ns.map PyData.int ∧ PostV rrE Γ C W σ B H Q (f ns S) := by
  unfold overInts at q
  cases e : intsOf xs with
  | none => rw [e] at q; exact q.elim
  | some ns =>
    rw [e] at q
    have e2 := intsOf_map e
    subst e2
    obtain ⟨a, vs, rfl, ha, ra⟩ := hx.list n.sh
    rw [ra.ints_eq] at ha
    exact ⟨a, ns, rfl, ha, rfl, q⟩
theorem PostV.bools {f : List Bool → M D} (n : Nxt Γ C B H S B H) (hx : RpT Γ.K C B H x (.list xs)) (q : PostV rrE Γ C W σ B H Q (overBools xs f S)) : ∃ a ns, x = .ref a ∧ H a = some (.lst (ns.map V.bl)) ∧ xs = ns.map PyData.bool ∧ PostV rrE Γ C W σ B H Q (f ns S) := by
  unfold overBools at q
  cases e : boolsOf xs with
  | none => rw [e] at q; exact q.elim
  | some ns =>
    rw [e] at q
    have e2 := boolsOf_map e
    subst e2
    obtain ⟨a, vs, rfl, ha, ra⟩ := hx.list n.sh
    rw [ra.bools_eq] at ha
    exact ⟨a, ns, rfl, ha, rfl, q⟩
end
theorem CallR.or {f : Value} {r r' : List V → Hp → VK → Prop} (h : CallR X f r) (h' : CallR X f r') : CallR X f (fun xs H Q => r xs H Q ∨ r' xs H Q) := fun pins s σ H xs us Q I rv q =>
  q.elim (fun q => h pins s σ H xs us Q I rv q) fun q => h' pins s σ H xs us Q I rv q
def rLenA (K : PySem.W.Frag) : List V → Hp → VK → Prop := fun xs H Q => (∃ x n, xs = [x] ∧ LenV K x H n ∧ Q (.int n) H) ∨ ((∃ a kvs, xs = [V.ref a] ∧ H a = some (.dK kvs) ∧ Q (.int kvs.length) H) ∨ rLenT xs H Q)
theorem c_len (hK : X.K = Γ.K) : CallR X (.builtin "len") (rLenA Γ.K) := CallR.or (hK ▸ call_len) (CallR.or call_lenD call_len_dT)
theorem lenP : C1P Γ lenD (rLenA Γ.K) := by
  intro C W σ B H S Q x d n hx q
  unfold lenD at q
  split at q
  · obtain ⟨a, xs, rfl, ha, ra⟩ := hx.list n.sh
    refine .inl ⟨_, _, rfl, .inl ⟨xs, .inl (.inl ha), rfl⟩, ?_⟩
    rw [ra.len]
    exact q.val n (.int _)
  · obtain ⟨a, xs, rfl, ha, ra⟩ := hx.tuple n.sh
    refine .inl ⟨_, _, rfl, .inr ⟨xs, ha, rfl⟩, ?_⟩
    rw [ra.len]
    exact q.val n (.int _)
  · split at q
    · rename_i h
      rw [hx.str]
      exact .inl ⟨_, _, rfl, ⟨h, rfl⟩, q.val n (.int _)⟩
    · exact q.elim
  · refine .inr ?_
    rcases hx with h | ⟨_, _, _, _, e, _⟩ | ⟨a, kvs, es, e1, e, h, _, _, k, r⟩
    · cases h with
      | dct h k r =>
        refine .inl ⟨_, _, rfl, n.sh _ _ h, ?_⟩
        have e := congrArg List.length k
        simp only [List.length_map] at e
        rw [← e]
        exact q.val n (.int _)
      | dctT h _ k r =>
        refine .inr ⟨_, _, rfl, n.sh _ _ h, ?_⟩
        have e := congrArg List.length k
        simp only [List.length_map] at e
        rw [← e]
        exact q.val n (.int _)
    · cases e
    · cases e
      subst e1
      refine .inl ⟨_, _, rfl, h, ?_⟩
      have e := congrArg List.length k
      simp only [List.length_map] at e
      rw [← e]
      exact q.val n (.int _)
  · exact q.elim
theorem absP : C1P Γ absD (fun xs H Q => ∃ i, xs = [.int i] ∧ Q (.int (if i < 0 then -i else i)) H) := by
  intro C W σ B H S Q x d n hx q
  unfold absD at q
  split at q
  · rename_i i
    rw [hx.int]
    refine ⟨i, rfl, ?_⟩
    rw [show (if i < 0 then -i else i) = (i.natAbs : Int) by split <;> omega]
    exact q.val n (.int _)
  · exact q.elim
theorem intP : C1P Γ intD (fun xs H Q => (∃ i, xs = [.int i] ∧ Q (.int i) H) ∨ ∃ k, xs = [.bl k] ∧ Q (.int (if k then 1 else 0)) H) := by
  intro C W σ B H S Q x d n hx q
  unfold intD at q
  split at q
  · rw [hx.int]; exact .inl ⟨_, rfl, q.val n (.int _)⟩
  · rw [hx.bool]; exact .inr ⟨_, rfl, q.val n (.int _)⟩
  · exact q.elim
theorem max2P : C2P Γ max2D (fun xs H Q => ∃ i j, xs = [.int i, .int j] ∧ Q (.int (if j > i then j else i)) H) := by
  intro C W σ B H S Q x y d e n hx hy q
  unfold max2D at q
  split at q
  · rename_i i j
    rw [hx.int, hy.int]
    refine ⟨i, j, rfl, ?_⟩
    rw [show (if j > i then j else i) = max i j by omega]
    exact q.val n (.int _)
  · exact q.elim
theorem min2P : C2P Γ min2D (fun xs H Q => ∃ i j, xs = [.int i, .int j] ∧ Q (.int (if j < i then j else i)) H) := by
  intro C W σ B H S Q x y d e n hx hy q
  unfold min2D at q
  split at q
  · rename_i i j
    rw [hx.int, hy.int]
    refine ⟨i, j, rfl, ?_⟩
    rw [show (if j < i then j else i) = min i j by omega]
    exact q.val n (.int _)
  · exact q.elim
theorem strP : C1P Γ strD (fun xs H Q => ∃ i, xs = [.int i] ∧ i.natAbs.log2 < 1920 ∧ Q (.str (toString i)) H) := by
  intro C W σ B H S Q x d n hx q
  unfold strD at q
  split at q
  · split at q
    · rename_i h
      rw [hx.int]; exact ⟨_, rfl, h, q.val n (.str _)⟩
    · exact q.elim
  · exact q.elim
theorem tupleP : C1P Γ tupleD (fun xs H Q => ∃ p ys, xs = [.ref p] ∧ ((SqL Γ.K H p ys ∧ ∀ l, H l = none → Q (.ref l) (upd H l (.tup ys))) ∨ (SqT Γ.K H p ys ∧ Q (.ref p) H))) := by
  intro C W σ B H S Q x d n hx q
  unfold tupleD at q
  split at q
  · obtain ⟨a, xs, rfl, ha, ra⟩ := hx.list n.sh
    exact ⟨a, xs, rfl, .inl ⟨.inl (.inl ha), q.tup n ra (n.lenL ha ra)⟩⟩
  · have hx0 := hx
    obtain ⟨a, xs, rfl, ha, ra⟩ := hx.tuple n.sh
    refine ⟨a, xs, rfl, .inr ⟨ha, q.val n ?_⟩⟩
    rcases hx0 with h | ⟨_, _, _, _, e, _⟩ | ⟨_, _, _, _, e, _⟩
    · exact h
    · cases e
    · cases e
  · exact q.elim
theorem listP : C1P Γ listD (fun xs H Q => ∃ p ys, xs = [.ref p] ∧ (SqL Γ.K H p ys ∨ SqT Γ.K H p ys) ∧ ∀ l, H l = none → Q (.ref l) (upd H l (.lst ys))) := by
  intro C W σ B H S Q x d n hx q
  unfold listD at q
  split at q
  · obtain ⟨a, xs, rfl, ha, ra⟩ := hx.list n.sh
    exact ⟨a, xs, rfl, .inl (.inl (.inl ha)), q.lst n ra (n.lenL ha ra)⟩
  · obtain ⟨a, xs, rfl, ha, ra⟩ := hx.tuple n.sh
    exact ⟨a, xs, rfl, .inr ha, q.lst n ra (n.lenT ha ra)⟩
  · exact q.elim
theorem sumP : C1P Γ sumD (rSum Γ.K) := by
  intro C W σ B H S Q x d n hx q
  unfold sumD at q
  split at q
  · obtain ⟨a, ns, rfl, ha, rfl, q2⟩ := q.ints n hx
    exact ⟨a, ns, rfl, .inl (.inl ha), q2.val n (.int _)⟩
  · exact q.elim
theorem maxI_is : ∀ {ns : List Int} {m : Int}, m ∈ ns → (∀ y, y ∈ ns → y ≤ m) → m = maxI ns
  | [n], m, h, _ => by simpa [maxI] using h
  | n :: k :: r, m, h, g => by
    show m = max n (maxI (k :: r))
    have hrec : ∀ ks : List Int, ks ≠ [] → maxI ks ∈ ks ∧ ∀ y ∈ ks, y ≤ maxI ks := by
      intro ks
      induction ks with
      | nil => intro z; exact absurd rfl z
      | cons a t ih =>
        intro _
        cases t with
        | nil => simp [maxI]
        | cons b t =>
          obtain ⟨h1, h2⟩ := ih (by simp)
          have e : maxI (a :: b :: t) = max a (maxI (b :: t)) := rfl
          rw [e]
          refine ⟨?_, fun y hy => ?_⟩
          · rcases Int.le_total a (maxI (b :: t)) with q | q
            · rw [Int.max_eq_right q]; exact List.mem_cons_of_mem _ h1
            · rw [Int.max_eq_left q]; exact List.mem_cons_self
          · rcases List.mem_cons.mp hy with rfl | hy
            · omega
            · have := h2 y hy; omega
    obtain ⟨h1, h2⟩ := hrec (k :: r) (by simp)
    have g1 := g n List.mem_cons_self
    have g2 := g _ (List.mem_cons_of_mem _ h1)
    rcases List.mem_cons.mp h with rfl | h
    · omega
    · have := h2 m h; omega
theorem minI_is : ∀ {ns : List Int} {m : Int}, m ∈ ns → (∀ y, y ∈ ns → m ≤ y) → m = minI ns
  | [n], m, h, _ => by simpa [minI] using h
  | n :: k :: r, m, h, g => by
    show m = min n (minI (k :: r))
    have hrec : ∀ ks : List Int, ks ≠ [] → minI ks ∈ ks ∧ ∀ y ∈ ks, minI ks ≤ y := by
      intro ks
      induction ks with
      | nil => intro z; exact absurd rfl z
      | cons a t ih =>
        intro _
        cases t with
        | nil => simp [minI]
        | cons b t =>
          obtain ⟨h1, h2⟩ := ih (by simp)
          have e : minI (a :: b :: t) = min a (minI (b :: t)) := rfl
          rw [e]
          refine ⟨?_, fun y hy => ?_⟩
          · rcases Int.le_total a (minI (b :: t)) with q | q
            · rw [Int.min_eq_left q]; exact List.mem_cons_self
            · rw [Int.min_eq_right q]; exact List.mem_cons_of_mem _ h1
          · rcases List.mem_cons.mp hy with rfl | hy
            · omega
            · have := h2 y hy; omega
    obtain ⟨h1, h2⟩ := hrec (k :: r) (by simp)
    have g1 := g n List.mem_cons_self
    have g2 := g _ (List.mem_cons_of_mem _ h1)
    rcases List.mem_cons.mp h with rfl | h
    · omega
    · have := h2 m h; omega
theorem maxP : C1P Γ maxD (rMax Γ.K) := by
  intro C W σ B H S Q x d n hx q
  unfold maxD at q
  split at q
  · obtain ⟨a, ns, rfl, ha, rfl, q2⟩ := q.ints n hx
    by_cases h : ns = []
    · rw [if_pos h] at q2; exact q2.elim
    · rw [if_neg h] at q2
      exact ⟨a, ns, rfl, .inl (.inl ha), List.length_pos_iff.mpr h, fun m h1 h2 => by rw [maxI_is h1 h2]; exact q2.val n (.int _)⟩
  · exact q.elim
theorem minP : C1P Γ minD (rMin Γ.K) := by
  intro C W σ B H S Q x d n hx q
  unfold minD at q
  split at q
  · obtain ⟨a, ns, rfl, ha, rfl, q2⟩ := q.ints n hx
    by_cases h : ns = []
    · rw [if_pos h] at q2; exact q2.elim
    · rw [if_neg h] at q2
      exact ⟨a, ns, rfl, .inl (.inl ha), List.length_pos_iff.mpr h, fun m h1 h2 => by rw [minI_is h1 h2]; exact q2.val n (.int _)⟩
  · exact q.elim
theorem allP : C1P Γ allD (rAll Γ.K) := by
  intro C W σ B H S Q x d n hx q
  unfold allD at q
  split at q
  · obtain ⟨a, ns, rfl, ha, rfl, q2⟩ := q.bools n hx
    exact ⟨a, ns, rfl, .inl (.inl ha), q2.val n (.bl _)⟩
  · exact q.elim
theorem anyP : C1P Γ anyD (rAny Γ.K) := by
  intro C W σ B H S Q x d n hx q
  unfold anyD at q
  split at q
  · obtain ⟨a, ns, rfl, ha, rfl, q2⟩ := q.bools n hx
    exact ⟨a, ns, rfl, .inl (.inl ha), q2.val n (.bl _)⟩
  · exact q.elim
theorem sortI_perm (ns : List Int) : (sortI ns).Perm ns := List.mergeSort_perm _ _
theorem sortI_pw (ns : List Int) : (sortI ns).Pairwise (· ≤ ·) := by
  have := List.pairwise_mergeSort (le := fun a b : Int => decide (a ≤ b)) (fun a b c h1 h2 => by simp only [decide_eq_true_eq] at *; omega) (fun a b => by simp only [Bool.or_eq_true, decide_eq_true_eq]; omega) ns
  exact this.imp fun h => by simpa using h
theorem sorted_uniq {ks ns : List Int} (h : ks.Perm ns) (p : ks.Pairwise (· ≤ ·)) : ks = sortI ns :=
  (h.trans (sortI_perm ns).symm).eq_of_pairwise (fun a b _ _ h1 h2 => by omega) p (sortI_pw ns)
theorem sortedP : C1P Γ sortedD (rSortedI Γ.K) := by
  intro C W σ B H S Q x d n hx q
  unfold sortedD at q
  split at q
  · obtain ⟨a, ns, rfl, ha, rfl, q2⟩ := q.ints n hx
    refine ⟨a, ns, rfl, .inl (.inl ha), fun ks p h1 h2 np => ?_⟩
    rw [sorted_uniq h1 h2]
    exact q2.lst n (RpAll.ints _) (by rw [List.length_map, (sortI_perm ns).length_eq]; have := n.ln _ _ ha; simpa [LenOk] using this) p np
  · exact q.elim
/-- repr of what is no dict -/
def rReprA (K : PySem.W.Frag) : List V → Hp → VK → Prop := fun vs H Q => ∃ v d, vs = [v] ∧ Dp K H v d ∧ d.canLay0 = true ∧ d.showable = true ∧ d.depth ≤ 60 ∧ d.shown.length ≤ sizeLine ∧ Q (.str d.shown) H
theorem c_repr (hK : X.K = Γ.K) (hg : X.A.guards = some []) (hu : X.A.units + 64 < cLine) : CallR X (.builtin "repr") (rReprA Γ.K) := by
  intro pins s σ H xs us Q I rv h
  obtain ⟨v, d, rfl, hd, hc, hs, hz, hl, q⟩ := h
  obtain ⟨u, rfl, ru⟩ := vals1 rv
  rw [← hK] at hd
  have fin : ∀ (h' : Heap) (tk : Nat) (t : Tok), (∀ b o, s.heap.get? b = some o → h'.get? b = some o) → EP X pins σ Q (.str d.shown t) { s with heap := h', toks := tk } := fun h' tk t k => ⟨.str d.shown, H, I.kept k, ⟨t, rfl⟩, q⟩
  cases hd with
  | non => cases ru; simp only [PyData.shown] at fin; exact PySem.P.repr_of_none (fin s.heap _ _ fun _ _ e => e)
  | bl b => cases ru; simp only [PyData.shown] at fin; exact PySem.P.repr_of_bool (fin s.heap _ _ fun _ _ e => e)
  | int i =>
    obtain ⟨t, rfl⟩ := ru
    simp only [PyData.shown] at fin
    exact PySem.P.repr_of_int (by simpa [PyData.showable] using hs) (fin s.heap _ _ fun _ _ e => e)
  | str z =>
    obtain ⟨t, rfl⟩ := ru
    simp only [PyData.shown] at fin hl
    exact PySem.P.repr_of_str (fin s.heap _ _ fun _ _ e => e) hl
  | @lst a vs ds h1 h2 =>
    cases ru
    obtain ⟨as, rd⟩ := Dp.reads I _ _ _ (.lst h1 h2) (rfl : RelV (V.ref a) (Value.ref a))
    exact repr_of_reads' rd hs (PyData.noDict_hsm (PyData.hasDict_of_canLay _ hc)) hg (by omega) (fun _ _ e => e) (fun h' t tk k => fin h' tk t k) hl
  | @tup a vs ds h1 h2 =>
    cases ru
    obtain ⟨as, rd⟩ := Dp.reads I _ _ _ (.tup h1 h2) (rfl : RelV (V.ref a) (Value.ref a))
    exact repr_of_reads' rd hs (PyData.noDict_hsm (PyData.hasDict_of_canLay _ hc)) hg (by omega) (fun _ _ e => e) (fun h' t tk k => fin h' tk t k) hl
theorem reprP : C1P Γ reprD (rReprA Γ.K) := by
  intro C W σ B H S Q x d n hx q
  unfold reprD at q
  split at q
  · rename_i h
    exact ⟨x, d, rfl, hx.dp n.sh h.1, h.1, h.2.1, h.2.2.1, h.2.2.2, q.val n (.str _)⟩
  · exact q.elim
end Pv
namespace Pv
open PySem PySem.Spec PyProof.Rows L2
variable {Γ : Gm} {X : Cx} {W : WX} {pos p : Pos}
/-! slices -/
abbrev MO := Env → M (Option Int)
def asI : D → M Int
  | .int i => pure i
  | _ => bad
def oNo : MO := fun _ => pure none
def oYes (ma : ME) : MO := fun ρ => ma ρ >>= fun d => asI d >>= fun i => pure (some i)
def PostO (Γ : Gm) (C : Option Addr) (W : WX) (σ : L2.St) (B H : Hp) (Q : Option Int → Hp → Prop) : Res (Option Int) → Prop
  | .ok b S' => ∀ H' B', Nxt Γ C B H S' B' H' → Q b H'
  | .exc k S' => ∀ H' B', Nxt Γ C B H S' B' H' → W (Γ.cls k) none σ H'
  | .bad => False
def rdO (Γ : Gm) (W : WX) (m : MO) : TO := fun σ H Q => ∃ C B0 H0 ρ S B, Rel Γ C B0 H0 ρ S σ B H ∧ PostO Γ C W σ B H Q (m ρ S)
theorem PO.imp {e : Option Expr} {t t' : TO} (h : PO X e t) (i : ∀ σ H Q, t' σ H Q → t σ H Q) : PO X e t' := ⟨fun pins s σ H Q I q => h.run pins s σ H Q I (i σ H Q q)⟩
theorem d_ono : PO X none (rdO Γ W oNo) := PO.imp po_none fun σ H Q ⟨C, B0, H0, ρ, S, B, r, q⟩ => q H B r.nx.here
theorem d_oyes {e : Expr} {ma : ME} (ha : PE X e (rdE Γ W ma)) : PO X (some e) (rdO Γ W (oYes ma)) := PO.imp (po_some ha) fun σ H Q ⟨C, B0, H0, ρ, S, B, r, q⟩ => by
  refine ⟨C, B0, H0, ρ, S, B, r, ?_⟩
  unfold oYes at q
  rw [bind_at] at q
  cases e : ma ρ S with
  | ok d S' =>
    rw [e] at q
    intro v H' B' n x
    cases d with
    | int i => cases x; exact ⟨i, rfl, q H' B' n⟩
    | _ => exact q.elim
  | exc k S' => rw [e] at q; exact q
  | bad => rw [e] at q; exact q
theorem rdO_bind {R : RR} {C : Option Addr} {σ : L2.St} {B H B0 H0 : Hp} {S : SS} {ρ : Env} {m : MO} {f : Option Int → M D} {Q : VK} {Q' : Option Int → Hp → Prop} (r : Rel Γ C B0 H0 ρ S σ B H) (h : PostV R Γ C W σ B H Q ((m ρ >>= f) S))
    (k : ∀ d S1 H1 B1, Rel Γ C B0 H0 ρ S1 σ B1 H1 → Nxt Γ C B H S1 B1 H1 → PostV R Γ C W σ B1 H1 Q (f d S1) → Q' d H1) : rdO Γ W m σ H Q' := by
  refine ⟨C, B0, H0, ρ, S, B, r, ?_⟩
  rcases h.bind with ⟨d, S', e, h⟩ | ⟨k', S', e, h⟩
  · rw [e]
    exact fun H' B' n => k d S' H' B' (r.up n) n (h.up n)
  · rw [e]
    exact h
/-- .. the script, too -/
def RpS (K : PySem.W.Frag) (C : Option Addr) (B H : Hp) (v : V) (d : D) : Prop := RpT K C B H v d ∨ ∃ a xs ds, v = .ref a ∧ d = .list ds ∧ SqL K B a xs ∧ RpAll K B xs ds
abbrev rrS : RR := fun Γ C B H v d => RpS Γ.K C B H v d
theorem RpS.up {C : Option Addr} {B B1 H H1 : Hp} {S1 : SS} {v : V} {d : D} (n : Nxt Γ C B H S1 B1 H1) (h : RpS Γ.K C B H v d) : RpS Γ.K C B1 H1 v d := by
  rcases h with h | ⟨a, xs, ds, e1, e2, h, r⟩
  · exact .inl (h.up n)
  · exact .inr ⟨a, xs, ds, e1, e2, n.sb.sqL h, r.up n.sb⟩
theorem rd_weak {R R' : RR} (hR : ∀ {C B H v d}, R Γ C B H v d → R' Γ C B H v d) {e : Expr} {m : ME} (h : PE X e (rd R Γ W m)) : PE X e (rd R' Γ W m) := PE.imp h fun σ H Q ⟨C, B0, H0, ρ, S, B, r, p⟩ => by
  refine ⟨C, B0, H0, ρ, S, B, r, ?_⟩
  cases e : m ρ S with
  | ok d S' => rw [e] at p; exact fun v H' B' n x => p v H' B' n (hR x)
  | exc k S' => rw [e] at p; exact p
  | bad => rw [e] at p; exact p
theorem PE.toS {e : Expr} {m : ME} (h : PE X e (rdT Γ W m)) : PE X e (rd rrS Γ W m) := rd_weak (R := rrT) (fun x => .inl x) h
def vScr (i : Nat) : ME := fun ρ => match ρ.getD i .none with
  | .scr ds => pure (.list ds)
  | _ => bad
theorem d_scr {i : Nat} {x : Str} (hN : X.N[i]? = some x) (hv : Vis X.env.scope x) (hd : (x == ("__debug__" : Str)) = false) (hc : (x == ("__classdict__" : Str)) = false) : PE X (.Name x pos) (rd rrS Γ W (vScr i)) :=
  PE.imp (pe_var hN hv hd hc) fun σ H Q ⟨C, B0, H0, ρ, S, B, r, q⟩ => by
    unfold vScr at q
    cases e : ρ.getD i .none with
    | scr ds =>
      rw [e] at q
      obtain ⟨a, xs, e1, h, rp⟩ := r.at e
      exact ⟨_, e1, q _ H B r.nx.here (.inr ⟨a, xs, ds, rfl, rfl, h, rp⟩)⟩
    | _ => rw [e] at q; exact q.elim
def cutD (xs : List D) (lo hi : Option Int) : List D := (xs.drop (HT.sIx xs.length 0 lo)).take (HT.sIx xs.length xs.length hi - HT.sIx xs.length 0 lo)
def sliceD (d : D) (lo hi : Option Int) : M D := match d with
  | .list xs => pure (.list (cutD xs lo hi))
  | .tuple xs => pure (.tuple (cutD xs lo hi))
  | .str z => if z.length ≤ sizeLine then pure (.str (cutS z lo hi)) else bad
  | _ => bad
theorem RpAll.cut {K : PySem.W.Frag} {B : Hp} {vs : List V} {ds : List D} (r : RpAll K B vs ds) (lo hi : Option Int) : RpAll K B (cutV vs lo hi) (cutD ds lo hi) := by
  unfold cutV cutD
  rw [r.len]
  exact (r.drop _).take _
theorem cutD_len (ds : List D) (lo hi : Option Int) : (cutD ds lo hi).length ≤ ds.length := by
  unfold cutD
  rw [List.length_take, List.length_drop]
  omega
theorem cutD_all {ds : List D} {lo hi : Option Int} (h : HT.sIx ds.length 0 lo = 0 ∧ HT.sIx ds.length ds.length hi = ds.length) : cutD ds lo hi = ds := by
  unfold cutD
  rw [h.1, h.2]
  simp
def rSl (K : PySem.W.Frag) : V → Option Int → Option Int → Hp → VK → Prop := fun x lo hi H Q => (rSlL K x lo hi H Q ∨ rSlA K x lo hi H Q) ∨ rSlS x lo hi H Q
theorem sl_any (hK : X.K = Γ.K) : SlR X (rSl Γ.K) := SlR.or (SlR.or (hK ▸ sl_list) (hK ▸ sl_tupA)) sl_str
def vSl (ma : ME) (ml mh : MO) : ME := fun ρ => ma ρ >>= fun d => ml ρ >>= fun lo => mh ρ >>= fun hi => sliceD d lo hi
theorem slP {C : Option Addr} {σ : L2.St} {B H : Hp} {S : SS} {Q : VK} {x : V} {d : D} {lo hi : Option Int} (n : Nxt Γ C B H S B H) (hx : RpS Γ.K C B H x d) (q : PostV rrE Γ C W σ B H Q (sliceD d lo hi S)) : rSl Γ.K x lo hi H Q := by
  unfold sliceD at q
  split at q
  · rename_i ds
    have : ∃ a xs, x = .ref a ∧ SqL Γ.K H a xs ∧ RpAll Γ.K B xs ds ∧ ds.length ≤ sizeLine := by
      rcases hx with hx | ⟨a, xs, _, e1, e2, h, r⟩
      · obtain ⟨a, xs, e, ha, ra⟩ := hx.list n.sh
        exact ⟨a, xs, e, .inl (.inl ha), ra, n.lenL ha ra⟩
      · cases e2
        refine ⟨a, xs, e1, n.sh.sqL h, r, ?_⟩
        rw [← r.len]
        rcases h with (h | ⟨o, h⟩) | ⟨o, its, m, _, _, _, _, hz, rv⟩
        · exact n.ln a _ (n.sh _ _ h)
        · exact n.ln a _ (n.sh _ _ h)
        · have e := rv.length
          simp only [Array.length_toList] at e
          omega
    obtain ⟨a, xs, rfl, ha, ra, hz⟩ := this
    exact .inl (.inl ⟨a, xs, rfl, ha, q.lst n (ra.cut lo hi) (Nat.le_trans (cutD_len _ _ _) hz)⟩)
  · rename_i ds
    have hx' : Rp Γ.K B x (.tuple ds) := by
      rcases hx with (h | ⟨_, _, _, _, e, _⟩ | ⟨_, _, _, _, e, _⟩) | ⟨_, _, _, _, e, _⟩
      · exact h
      · cases e
      · cases e
      · cases e
    obtain ⟨a, xs, rfl, ha, ra⟩ := (show RpT Γ.K C B H x (.tuple ds) from .inl hx').tuple n.sh
    refine .inl (.inr ⟨a, xs, rfl, ha, fun z => ?_, fun _ => q.tup n (ra.cut lo hi) (Nat.le_trans (cutD_len _ _ _) (n.lenT ha ra))⟩)
    rw [ra.len] at z
    rw [cutD_all z] at q
    exact q.val n hx'
  · rename_i z
    split at q
    · rename_i h
      have hx' : RpT Γ.K C B H x (.str z) := by
        rcases hx with h | ⟨_, _, _, _, e, _⟩
        · exact h
        · cases e
      exact .inr ⟨_, hx'.str, h, q.val n (.str _)⟩
    · exact q.elim
  · exact q.elim
theorem d_sl {e : Expr} {lo hi : Option Expr} {ma : ME} {ml mh : MO} {p2 : Pos} (hK : X.K = Γ.K) (ha : PE X e (rd rrS Γ W ma)) (hl : PO X lo (rdO Γ W ml)) (hh : PO X hi (rdO Γ W mh)) : PE X (.Subscript e (.Slice lo hi none p2) pos) (rdE Γ W (vSl ma ml mh)) :=
  PE.imp (pe_slice (sl_any hK) ha hl hh) fun σ H Q ⟨C, B0, H0, ρ, S, B, r0, q⟩ => rd_bind r0 q fun d S1 v H1 B1 r1 n1 x1 p1 => rdO_bind r1 p1 fun lo S2 H2 B2 r2 n2 p2 => rdO_bind r2 p2 fun hi S3 H3 B3 r3 n3 p3 =>
    slP r3.nx.here ((x1.up n2).up n3) p3
/-! targets -/
abbrev TM := D → Env → Option Env
theorem getD_set (ρ : Env) (i j : Nat) (s : Slot) : (ρ.set i s).getD j .none = if i = j ∧ i < ρ.length then s else ρ.getD j .none := by
  simp only [List.getD_eq_getElem?_getD]
  by_cases h : i = j
  · subst h
    by_cases hl : i < ρ.length
    · rw [List.getElem?_set_self hl, if_pos ⟨rfl, hl⟩]; rfl
    · rw [List.getElem?_eq_none (by simpa using hl), if_neg (fun z => hl z.2), List.getElem?_eq_none (by omega)]
  · rw [List.getElem?_set_ne h, if_neg (fun z => h z.1)]
theorem SlotOk.val {K : PySem.W.Frag} {C : Option Addr} {H0 B H : Hp} {v : V} {d : D} (h : Rp K B v d) : SlotOk K C H0 B H (.val d) (some (some v)) := ⟨v, rfl, h⟩
theorem Rel.set {C : Option Addr} {B H B0 H0 : Hp} {S : SS} {ρ : Env} {σ : L2.St} {v : V} {d : D} (r : Rel Γ C B0 H0 ρ S σ B H) (i : Nat) (h : Rp Γ.K B v d) : Rel Γ C B0 H0 (ρ.set i (.val d)) S (σ.set i (some v)) B H := by
  refine ⟨r.nx, by rw [List.length_set, List.length_set]; exact r.len, fun j => ?_, fun j k a hjk hj hk e1 e2 => ?_⟩
  · rw [getD_set]
    split
    · rename_i z
      obtain ⟨rfl, hl⟩ := z
      rw [List.getElem?_set_self (by rw [← r.len]; exact hl)]
      exact .val h
    · rename_i z
      by_cases e : i = j
      · subst e
        have hl : ¬ i < ρ.length := fun hl => z ⟨rfl, hl⟩
        have e0 : ρ.getD i .none = .none := by rw [List.getD_eq_getElem?_getD, List.getElem?_eq_none (by omega)]; rfl
        rw [e0]
        trivial
      · rw [List.getElem?_set_ne e]
        exact r.slot j
  · rw [getD_set] at hj hk
    have nj : ¬ (i = j ∧ i < ρ.length) := fun z => by rw [if_pos z] at hj; cases hj
    have nk : ¬ (i = k ∧ i < ρ.length) := fun z => by rw [if_pos z] at hk; cases hk
    rw [if_neg nj] at hj
    rw [if_neg nk] at hk
    have out : ∀ {j : Nat}, ¬ (i = j ∧ i < ρ.length) → (ρ.getD j .none).isOwn = true → i ≠ j := fun {j} nj hj z => by
      subst z
      have hl : ¬ i < ρ.length := fun hl => nj ⟨rfl, hl⟩
      rw [List.getD_eq_getElem?_getD, List.getElem?_eq_none (by omega)] at hj
      cases hj
    rw [List.getElem?_set_ne (out nj hj)] at e1
    rw [List.getElem?_set_ne (out nk hk)] at e2
    exact r.dis j k a hjk hj hk e1 e2
def tN (i : Nat) : TM := fun d ρ => some (ρ.set i (.val d))
abbrev TMs := List D → Env → Option Env
def tsNil : TMs := fun ds ρ => match ds with
  | [] => some ρ
  | _ => none
def tsCons (t : TM) (u : TMs) : TMs := fun ds ρ => match ds with
  | d :: r => (t d ρ).bind (u r)
  | [] => none
def tT (n : Nat) (u : TMs) : TM := fun d ρ => match d with
  | .tuple ds => if ds.length = n then u ds ρ else none
  | _ => none
def rdP (Γ : Gm) (is : List Nat) (m : TM) : TG := fun v σ H Q => ∃ C B0 H0 ρ S B d ρ', Rel Γ C B0 H0 ρ S σ B H ∧ Rp Γ.K B v d ∧ m d ρ = some ρ' ∧ ∀ σ', Rel Γ C B0 H0 ρ' S σ' B H → σ'.length = σ.length → (∀ j, j ∉ is → σ'[j]? = σ[j]?) → Q σ' H
def rdPs (Γ : Gm) (is : List Nat) (m : TMs) : TGs := fun vs σ H Q => ∃ C B0 H0 ρ S B ds ρ', Rel Γ C B0 H0 ρ S σ B H ∧ RpAll Γ.K B vs ds ∧ m ds ρ = some ρ' ∧ ∀ σ', Rel Γ C B0 H0 ρ' S σ' B H → σ'.length = σ.length → (∀ j, j ∉ is → σ'[j]? = σ[j]?) → Q σ' H
theorem PG.imp {e : Expr} {t t' : TG} (h : PG X e t) (i : ∀ v σ H Q, t' v σ H Q → t v σ H Q) : PG X e t' := ⟨fun pins s σ H v u Q I r q => h.run pins s σ H v u Q I r (i v σ H Q q)⟩
theorem PGs.imp {es : List Expr} {t t' : TGs} (h : PGs X es t) (i : ∀ v σ H Q, t' v σ H Q → t v σ H Q) : PGs X es t' := ⟨fun pins s σ H v u Q I r q => h.run pins s σ H v u Q I r (i v σ H Q q)⟩
theorem d_tn {i : Nat} {x : Str} (hN : X.N.Nodup) (hi : X.N[i]? = some x) (hx : Loc X.env.scope x) (hf : X.fn x = true ∨ X.env.scope.names.lookup x = some .local) : PG X (.Name x pos) (rdP Γ [i] (tN i)) :=
  PG.imp (pg_name hN hi hx hf) fun v σ H Q ⟨C, B0, H0, ρ, S, B, d, ρ', r, h, e, q⟩ => by
    cases e
    exact q _ (r.set i h) (by rw [List.length_set]) fun j hj => List.getElem?_set_ne (fun z => hj (by simp [z]))
theorem d_tsnil : PGs X [] (rdPs Γ [] tsNil) := PGs.imp pgs_nil fun vs σ H Q ⟨C, B0, H0, ρ, S, B, ds, ρ', r, h, e, q⟩ => by
  cases h with
  | nil => cases e; exact ⟨rfl, q σ r rfl fun _ _ => rfl⟩
  | cons _ _ => cases e
theorem d_tscons {e : Expr} {es : List Expr} {is js : List Nat} {t : TM} {u : TMs} (h1 : PG X e (rdP Γ is t)) (h2 : PGs X es (rdPs Γ js u)) (hs : (assignEach (e :: es) X.env).map (·.2) = assign e X.env :: (assignEach es X.env).map (·.2)) : PGs X (e :: es) (rdPs Γ (is ++ js) (tsCons t u)) :=
  PGs.imp (pgs_cons h1 h2 hs) fun vs σ H Q ⟨C, B0, H0, ρ, S, B, ds, ρ', r, h, e, q⟩ => by
    cases h with
    | nil => cases e
    | @cons v vs d ds h hr =>
      unfold tsCons at e
      obtain ⟨ρ1, e1, e2⟩ := Option.bind_eq_some_iff.mp e
      refine ⟨v, vs, rfl, C, B0, H0, ρ, S, B, d, ρ1, r, h, e1, fun σ1 r1 l1 o1 => ⟨C, B0, H0, ρ1, S, B, ds, ρ', r1, hr, e2, fun σ2 r2 l2 o2 => q σ2 r2 (l2.trans l1) fun j hj => ?_⟩⟩
      rw [List.mem_append, not_or] at hj
      rw [o2 j hj.2, o1 j hj.1]
theorem d_tt {es : List Expr} {k n : Nat} {is : List Nat} {u : TMs} (hK : X.K = Γ.K) (hc : X.calm = true) (h : PGs X es (rdPs Γ is u)) (hn : (assignEach es X.env).length = n) (hst : (assignEach es X.env).findIdx? (·.1) = none) : PG X (.Tuple es k pos) (rdP Γ is (tT n u)) :=
  PG.imp (pg_tup hc h hn hst) fun v σ H Q ⟨C, B0, H0, ρ, S, B, d, ρ', r, hd, e, q⟩ => by
    unfold tT at e
    split at e
    · rename_i ds
      split at e
      · rename_i hl
        obtain ⟨a, xs, rfl, ha, ra⟩ := (show RpT Γ.K C B H v (.tuple ds) from .inl hd).tuple r.nx.sh
        exact ⟨a, xs, rfl, hK ▸ ha, by rw [ra.len]; exact hl, C, B0, H0, ρ, S, B, ds, ρ', r, ra, e, q⟩
      · cases e
    · cases e
end Pv
namespace Pv
open PySem PySem.Spec PyProof.Rows L2
variable {Γ : Gm} {X : Cx} {W : WX} {pos p : Pos}
/-! what is walked -/
abbrev PP := Gm → Option Addr → Hp → Hp → Hp → Hp → Prop
/-- values held for good; all that stood -/
abbrev pF : PP := fun _ _ B1 _ B H => Sub B1 B ∧ Sub B H
abbrev pT : PP := fun Γ C B1 H1 B H => ∃ S, Nxt Γ C B1 H1 S B H
structure WkD (Γ : Gm) (C : Option Addr) (P : Hp → Hp → Prop) (J : It) (ds : List D) : Prop where
  len : ds.length ≤ sizeLine
  ex : ∃ G Y, Walk J ds.length G Y ∧ (∀ B H, P B H → G H) ∧ ∀ (i : Nat) (B H : Hp) (S : SS) (x : V) (H' : Hp), i < ds.length → P B H → Nxt Γ C B H S B H → Y i H x H' → ∃ B' d, ds[i]? = some d ∧ Nxt Γ C B H S B' H' ∧ Rp Γ.K B' x d
abbrev MI := Env → M (List D)
def PostI (P : PP) (Γ : Gm) (C : Option Addr) (W : WX) (σ : L2.St) (B H : Hp) (R : It → Hp → Prop) : Res (List D) → Prop
  | .ok ds S' => ∀ H1 B1 J, Nxt Γ C B H S' B1 H1 → WkD Γ C (P Γ C B1 H1) J ds → R J H1
  | .exc k S' => ∀ H' B', Nxt Γ C B H S' B' H' → W (Γ.cls k) none σ H'
  | .bad => False
def rdI (P : PP) (Γ : Gm) (W : WX) (m : MI) : TI := fun σ H R => ∃ C B0 H0 ρ S B, Rel Γ C B0 H0 ρ S σ B H ∧ PostI P Γ C W σ B H R (m ρ S)
theorem PI.imp {tg e : Expr} {t t' : TI} (h : PI X tg e t) (i : ∀ σ H R, t' σ H R → t σ H R) : PI X tg e t' := ⟨fun pins s σ H R I q => h.run pins s σ H R I (i σ H R q)⟩
theorem PostI.up {P : PP} {C : Option Addr} {σ : L2.St} {B B1 H H1 : Hp} {S1 : SS} {R : It → Hp → Prop} {r : Res (List D)} (n : Nxt Γ C B H S1 B1 H1) (h : PostI P Γ C W σ B H R r) : PostI P Γ C W σ B1 H1 R r := by
  cases r with
  | ok d S' => exact fun H' B' J n' x => h H' B' J (n.trans n') x
  | exc k S' => exact fun H' B' n' => h H' B' (n.trans n')
  | bad => exact h
theorem rd_bindI {P : PP} {RQ : RR} {C : Option Addr} {σ : L2.St} {B H B0 H0 : Hp} {S : SS} {ρ : Env} {m : ME} {f : D → M (List D)} {R : It → Hp → Prop} {Q' : VK} (r : Rel Γ C B0 H0 ρ S σ B H) (h : PostI P Γ C W σ B H R ((m ρ >>= f) S))
    (k : ∀ d S1 v H1 B1, Rel Γ C B0 H0 ρ S1 σ B1 H1 → Nxt Γ C B H S1 B1 H1 → RQ Γ C B1 H1 v d → PostI P Γ C W σ B1 H1 R (f d S1) → Q' v H1) : rd RQ Γ W m σ H Q' := by
  refine ⟨C, B0, H0, ρ, S, B, r, ?_⟩
  rw [bind_at] at h
  cases e : m ρ S with
  | ok d S' => rw [e] at h; exact fun v H' B' n x => k d S' v H' B' (r.up n) n x (h.up n)
  | exc j S' => rw [e] at h; exact h
  | bad => rw [e] at h; exact h
/-- a list, a tuple, a text, by itself -/
def iAny (K : PySem.W.Frag) (tl : TE) : TI := fun σ H R => tl σ H fun x H1 => (∃ a xs, x = .ref a ∧ SqL K H1 a xs ∧ R (Itl K a) H1) ∨ (∃ a xs, x = .ref a ∧ SqT K H1 a xs ∧ R (Itt K a) H1) ∨ (∃ z, x = .str z ∧ R (Its z) H1)
theorem pi_any {tg l : Expr} {tl : TE} (hl : PE X l tl) : PI X tg l (iAny X.K tl) := by
  constructor
  intro pins s σ H R I h
  refine thn (hl.run pins s σ H _ I h) fun v s1 got => ?_
  obtain ⟨x, H1, I1, r1, q⟩ := got
  rcases q with ⟨a, xs, rfl, hq, q⟩ | ⟨a, xs, rfl, hq, q⟩ | ⟨z, rfl, q⟩
  · cases r1
    obtain ⟨its, _, pl, _⟩ := I1.list hq
    exact wpAny_pyIter_list pl.isList (pi_one (tk := s1.toks) I1 _ (turn_list a _) ⟨_, Heap.get?_push_size _ rfl, rfl, rfl⟩ q)
  · cases r1
    obtain ⟨its, _, pl, _⟩ := I1.tuple hq
    exact wpAny_pyIter_tuple (items := its.toArray) pl (pi_one (tk := s1.toks) I1 _ (turn_tuple a _) ⟨_, Heap.get?_push_size _ rfl, rfl, rfl⟩ q)
  · obtain ⟨t, rfl⟩ := r1
    cases ha : z.cps.all (· < 128) with
    | false => exact wpAny_pyIter_wide ha (pi_one (tk := s1.toks) I1 _ (turn_str _ z t _ (.inr rfl)) ⟨_, Heap.get?_push_size _ rfl, rfl, rfl⟩ q)
    | true => exact wpAny_pyIter_ascii ha (pi_one (tk := s1.toks) I1 _ (turn_str _ z t _ (.inl rfl)) ⟨_, Heap.get?_push_size _ rfl, rfl, rfl⟩ q)
def itemsD : D → M (List D)
  | .list xs => pure xs
  | .tuple xs => pure xs
  | .str z => if z.length ≤ sizeLine then pure (z.cps.toList.map fun c => .str ⟨#[c]⟩) else bad
  | _ => bad
def iSeq (ma : ME) : MI := fun ρ => ma ρ >>= itemsD
theorem wkL {C : Option Addr} {P : Hp → Hp → Prop} {a : Addr} {xs : List V} {ds : List D} {B1 : Hp} (hz : ds.length ≤ sizeLine) (r : RpAll Γ.K B1 xs ds) (hP : ∀ B H, P B H → SqL Γ.K H a xs ∧ Sub B1 B) : WkD Γ C P (Itl Γ.K a) ds := by
  refine ⟨hz, _, _, r.len ▸ walk_list (xs := xs), fun B H h => (hP B H h).1, fun i B H S x H' hi h n y => ?_⟩
  obtain ⟨rfl, y⟩ := y
  obtain ⟨v, e1, rv⟩ := r.at (d := ds[i]) (i := i) (by simp [hi])
  rw [y] at e1
  cases e1
  exact ⟨B, ds[i], by simp [hi], n, rv.up (hP B _ h).2⟩
theorem wkT {C : Option Addr} {P : Hp → Hp → Prop} {a : Addr} {xs : List V} {ds : List D} {B1 : Hp} (hz : ds.length ≤ sizeLine) (r : RpAll Γ.K B1 xs ds) (hP : ∀ B H, P B H → SqT Γ.K H a xs ∧ Sub B1 B) : WkD Γ C P (Itt Γ.K a) ds := by
  refine ⟨hz, _, _, r.len ▸ walk_tup (xs := xs), fun B H h => (hP B H h).1, fun i B H S x H' hi h n y => ?_⟩
  obtain ⟨rfl, y⟩ := y
  obtain ⟨v, e1, rv⟩ := r.at (d := ds[i]) (i := i) (by simp [hi])
  rw [y] at e1
  cases e1
  exact ⟨B, ds[i], by simp [hi], n, rv.up (hP B _ h).2⟩
theorem wkS {C : Option Addr} {P : Hp → Hp → Prop} {z : Str} (hz : z.length ≤ sizeLine) : WkD Γ C P (Its z) (z.cps.toList.map fun c => .str ⟨#[c]⟩) := by
  have e0 : (z.cps.toList.map fun c => PyData.str ⟨#[c]⟩).length = z.cps.size := by simp
  refine ⟨by rw [e0]; exact hz, _, _, e0 ▸ walk_str, fun _ _ _ => trivial, fun i B H S x H' hi h n y => ?_⟩
  obtain ⟨rfl, c, hc, rfl⟩ := y
  refine ⟨B, .str ⟨#[c]⟩, ?_, n, .str _⟩
  rw [List.getElem?_map, Array.getElem?_toList, hc]
  rfl
/-- for over a value held for good -/
theorem d_iseq {tg e : Expr} {ma : ME} (hK : X.K = Γ.K) (ha : PE X e (rdE Γ W ma)) : PI X tg e (rdI pF Γ W (iSeq ma)) :=
  PI.imp (pi_any ha) fun σ H R ⟨C, B0, H0, ρ, S, B, r, q⟩ => by
    rw [hK]
    refine rd_bindI r q fun d S1 v H1 B1 r1 n1 x1 p1 => ?_
    unfold itemsD at p1
    split at p1
    · cases x1 with
      | lst h ra => exact .inl ⟨_, _, rfl, .inl (.inl (r1.nx.sh _ _ h)), p1 H1 B1 _ r1.nx.here (wkL (r1.nx.here.lenL (r1.nx.sh _ _ h) ra) ra fun B H hp => ⟨.inl (.inl (hp.2 _ _ (hp.1 _ _ h))), hp.1⟩)⟩
    · cases x1 with
      | tup h ra => exact .inr (.inl ⟨_, _, rfl, r1.nx.sh.sqT h, p1 H1 B1 _ r1.nx.here (wkT (r1.nx.here.lenT (r1.nx.sh.sqT h) ra) ra fun B H hp => ⟨hp.2.sqT (hp.1.sqT h), hp.1⟩)⟩)
    · split at p1
      · rename_i hz
        cases x1
        exact .inr (.inr ⟨_, rfl, p1 H1 B1 _ r1.nx.here (wkS hz)⟩)
      · exact p1.elim
    · exact p1.elim
/-- in a comprehension: also one's own list, and the script -/
theorem d_iseqT {tg e : Expr} {ma : ME} (hK : X.K = Γ.K) (ha : PE X e (rd rrS Γ W ma)) : PI X tg e (rdI pT Γ W (iSeq ma)) :=
  PI.imp (pi_any ha) fun σ H R ⟨C, B0, H0, ρ, S, B, r, q⟩ => by
    rw [hK]
    refine rd_bindI r q fun d S1 v H1 B1 r1 n1 x1 p1 => ?_
    unfold itemsD at p1
    split at p1
    · rcases x1 with (x1 | ⟨a, xs, _, rfl, e, h, nb, nc, ra⟩ | ⟨_, _, _, _, e, _⟩) | ⟨a, xs, _, rfl, e, h, ra⟩
      · cases x1 with
        | lst h ra => exact .inl ⟨_, _, rfl, .inl (.inl (r1.nx.sh _ _ h)), p1 H1 B1 _ r1.nx.here (wkL (r1.nx.here.lenL (r1.nx.sh _ _ h) ra) ra fun B H ⟨S, hp⟩ => ⟨.inl (.inl (hp.sh _ _ (hp.sb _ _ h))), hp.sb⟩)⟩
      · cases e
        exact .inl ⟨_, _, rfl, .inl (.inl h), p1 H1 B1 _ r1.nx.here (wkL (r1.nx.here.lenL h ra) ra fun B H ⟨S, hp⟩ => ⟨.inl (.inl (hp.ex.keep _ _ h nc (by simp))), hp.sb⟩)⟩
      · cases e
      · cases e
        have hz : xs.length ≤ sizeLine := by
          rcases h with (h | ⟨o, h⟩) | ⟨o, its, m, _, _, _, _, hz, rv⟩
          · exact r1.nx.ln a _ (r1.nx.sh _ _ h)
          · exact r1.nx.ln a _ (r1.nx.sh _ _ h)
          · have e := rv.length
            simp only [Array.length_toList] at e
            omega
        exact .inl ⟨_, _, rfl, r1.nx.sh.sqL h, p1 H1 B1 _ r1.nx.here (wkL (by rw [← ra.len]; exact hz) ra fun B H ⟨S, hp⟩ => ⟨hp.sh.sqL (hp.sb.sqL h), hp.sb⟩)⟩
    · rcases x1 with (x1 | ⟨_, _, _, _, e, _⟩ | ⟨_, _, _, _, e, _⟩) | ⟨_, _, _, _, e, _⟩
      · cases x1 with
        | tup h ra => exact .inr (.inl ⟨_, _, rfl, r1.nx.sh.sqT h, p1 H1 B1 _ r1.nx.here (wkT (r1.nx.here.lenT (r1.nx.sh.sqT h) ra) ra fun B H ⟨S, hp⟩ => ⟨hp.sh.sqT (hp.sb.sqT h), hp.sb⟩)⟩)
      · cases e
      · cases e
      · cases e
    · split at p1
      · rename_i z hz
        rcases x1 with (x1 | ⟨_, _, _, _, e, _⟩ | ⟨_, _, _, _, e, _⟩) | ⟨_, _, _, _, e, _⟩
        · cases x1
          exact .inr (.inr ⟨_, rfl, p1 H1 B1 _ r1.nx.here (wkS hz)⟩)
        · cases e
        · cases e
        · cases e
      · exact p1.elim
    · exact p1.elim
/-! ranges -/
def rngL (lo hi : Int) : List D := (List.range (hi - lo).toNat).map fun i => PyData.int (lo + (i : Nat))
def rngM (lo hi : Int) : M (List D) := if (-(2 ^ 62) ≤ lo ∧ lo < 2 ^ 62 ∧ -(2 ^ 62) ≤ hi ∧ hi < 2 ^ 62) ∧ (hi - lo).toNat ≤ sizeLine then pure (rngL lo hi) else bad
theorem rngL_len (lo hi : Int) : (rngL lo hi).length = (hi - lo).toNat := by simp [rngL]
theorem rngL_at {lo hi : Int} {i : Nat} (h : i < (hi - lo).toNat) : (rngL lo hi)[i]? = some (.int (lo + (i : Nat))) := by simp [rngL, h]
theorem wkR {C : Option Addr} {P : Hp → Hp → Prop} {lo hi : Int} (hz : (hi - lo).toNat ≤ sizeLine) : WkD Γ C P (Itr lo (hi - lo).toNat) (rngL lo hi) := by
  refine ⟨by rw [rngL_len]; exact hz, _, _, (show Walk _ _ _ _ from by rw [rngL_len]; exact walk_range), fun _ _ _ => trivial, fun i B H S x H' hi' h n y => ?_⟩
  obtain ⟨rfl, rfl⟩ := y
  rw [rngL_len] at hi'
  exact ⟨B, _, rngL_at hi', n, .int _⟩
def iR1 (ma : ME) : MI := fun ρ => ma ρ >>= fun d => asI d >>= fun j => rngM 0 j
def iR2 (ma mb : ME) : MI := fun ρ => ma ρ >>= fun d => mb ρ >>= fun e => asI d >>= fun i => asI e >>= fun j => rngM i j
theorem d_ir1 {P : PP} {tg a : Expr} {ma : ME} {q : Pos} (hg : Gl X "range") (hm : X.mg "range" = none) (ha : PE X a (rdE Γ W ma)) (hf : plainE a = true) : PI X tg (.Call (.Name "range" p) [a] [] q) (rdI P Γ W (iR1 ma)) :=
  PI.imp (pi_range1 hg hm (pa_cons ha pa_nil (star_plain hf [] X.env)) (star_plain hf [] X.env)) fun σ H R ⟨C, B0, H0, ρ, S, B, r, q⟩ =>
    rd_bindI r q fun d S1 v H1 B1 r1 n1 x1 p1 => by
      cases d with
      | int j =>
        cases x1
        have p1 : PostI P Γ C W σ B1 H1 R (rngM 0 j S1) := p1
        unfold rngM at p1
        split at p1
        · rename_i h
          refine ⟨j, rfl, h.1.2.2.1, h.1.2.2.2, ?_⟩
          have w := wkR (Γ := Γ) (C := C) (P := P Γ C B1 H1) h.2
          rw [Int.sub_zero] at w
          exact p1 H1 B1 _ r1.nx.here w
        · exact p1.elim
      | _ => exact p1.elim
theorem d_ir2 {P : PP} {tg a b : Expr} {ma mb : ME} {q : Pos} (hg : Gl X "range") (hm : X.mg "range" = none) (ha : PE X a (rdE Γ W ma)) (hb : PE X b (rdE Γ W mb)) (hf : plainE a = true) (hf2 : plainE b = true) : PI X tg (.Call (.Name "range" p) [a, b] [] q) (rdI P Γ W (iR2 ma mb)) :=
  PI.imp (pi_range2 hg hm (pa_cons ha (pa_cons hb pa_nil (star_plain hf2 [] X.env)) (star_plain hf [b] X.env)) (by rw [star_plain hf, star_plain hf2]; rfl) (star_plain hf2 [] X.env)) fun σ H R ⟨C, B0, H0, ρ, S, B, r, q⟩ =>
    rd_bindI r q fun d S1 v H1 B1 r1 n1 x1 p1 => rd_bindI r1 p1 fun e S2 u H2 B2 r2 n2 x2 p2 => by
      cases d with
      | int i =>
        cases e with
        | int j =>
          cases x1
          cases x2
          have p2 : PostI P Γ C W σ B2 H2 R (rngM i j S2) := p2
          unfold rngM at p2
          split at p2
          · rename_i h
            exact ⟨i, j, rfl, h.1, p2 H2 B2 _ r2.nx.here (wkR h.2)⟩
          · exact p2.elim
        | _ => exact p2.elim
      | _ => exact p2.elim
/-! zip of two lists or of two tuples -/
def zipL (xs ys : List D) : List D := List.zipWith (fun x y => PyData.tuple [x, y]) xs ys
def zipD : D → D → M (List D)
  | .list xs, .list ys => pure (zipL xs ys)
  | .tuple xs, .tuple ys => pure (zipL xs ys)
  | _, _ => bad
def iZip (ma mb : ME) : MI := fun ρ => ma ρ >>= fun d => mb ρ >>= fun e => zipD d e
theorem zip_at {xs ys : List D} {i : Nat} {x y : D} (h1 : xs[i]? = some x) (h2 : ys[i]? = some y) : (zipL xs ys)[i]? = some (.tuple [x, y]) := by
  simp [zipL, List.getElem?_zipWith, h1, h2]
theorem pair_new {C : Option Addr} {B H H' : Hp} {S : SS} {v x y : V} {T : Addr} {d e : D} (n : Nxt Γ C B H S B H) (hx : Rp Γ.K B x d) (hy : Rp Γ.K B y e) (nT : H T = none) (eH : H' = upd H T (.tup [x, y])) (ev : v = .ref T) : ∃ B', Nxt Γ C B H S B' H' ∧ Rp Γ.K B' v (.tuple [d, e]) := by
  subst eH; subst ev
  have n' := n.new nT (.tup [x, y]) (by show 2 ≤ sizeLine; decide)
  exact ⟨_, n', .tup (.inl (.inl upd_same)) (.cons (hx.up n'.sb) (.cons (hy.up n'.sb) .nil))⟩
theorem wkZ {C : Option Addr} {P : Hp → Hp → Prop} {a b : Addr} {xs ys : List V} {ds es : List D} {B1 : Hp} (hz : ds.length ≤ sizeLine) (r : RpAll Γ.K B1 xs ds) (r' : RpAll Γ.K B1 ys es) (hP : ∀ B H, P B H → SqL Γ.K H a xs ∧ SqL Γ.K H b ys ∧ Sub B1 B) : WkD Γ C P (Itz Γ.K a b) (zipL ds es) := by
  have e0 : (zipL ds es).length = min xs.length ys.length := by simp [zipL, r.len, r'.len]
  refine ⟨by rw [e0, r.len]; omega, _, _, walk_zip e0, fun B H h => ⟨(hP B H h).1, (hP B H h).2.1⟩, fun i B H S x H' hi h n y => ?_⟩
  obtain ⟨T, u, v, ev, nT, eH, hu, hv⟩ := y
  rw [e0, r.len, r'.len] at hi
  have hu : xs[i]? = some u := hu
  have hv : ys[i]? = some v := hv
  have l1 : i < ds.length := by omega
  have l2 : i < es.length := by omega
  obtain ⟨u', e1, ru⟩ := r.at (d := ds[i]) (i := i) (by simp [l1])
  obtain ⟨v', e2, rv⟩ := r'.at (d := es[i]) (i := i) (by simp [l2])
  rw [hu] at e1
  rw [hv] at e2
  cases e1
  cases e2
  obtain ⟨B', n', rp⟩ := pair_new n (ru.up (hP B H h).2.2) (rv.up (hP B H h).2.2) nT eH ev
  exact ⟨B', _, zip_at (x := ds[i]) (y := es[i]) (by simp [l1]) (by simp [l2]), n', rp⟩
theorem walk_zipT {K : PySem.W.Frag} {a b : Addr} {xs ys : List V} {n : Nat} (hn : n = min xs.length ys.length) : Walk (RZ.ItzT K a b) n (fun H => SqT K H a xs ∧ SqT K H b ys) (YPair (fun i => xs[i]?) (fun i => ys[i]?)) := by
  subst hn
  constructor
  · intro i H hi q
    have l1 : i < xs.length := by omega
    have l2 : i < ys.length := by omega
    exact ⟨xs, ys, xs[i], ys[i], q.1, q.2, by simp [l1], by simp [l2]⟩
  · intro H q
    exact ⟨xs, ys, q.1, q.2, by omega⟩
  · intro i H v H' _ q ⟨T, x, z, h1, h2, h3, h4, h5⟩
    exact ⟨T, x, z, h1, h2, h3, h4 xs q.1, h5 ys q.2⟩
theorem wkZT {C : Option Addr} {P : Hp → Hp → Prop} {a b : Addr} {xs ys : List V} {ds es : List D} {B1 : Hp} (hz : ds.length ≤ sizeLine) (r : RpAll Γ.K B1 xs ds) (r' : RpAll Γ.K B1 ys es) (hP : ∀ B H, P B H → SqT Γ.K H a xs ∧ SqT Γ.K H b ys ∧ Sub B1 B) : WkD Γ C P (RZ.ItzT Γ.K a b) (zipL ds es) := by
  have e0 : (zipL ds es).length = min xs.length ys.length := by simp [zipL, r.len, r'.len]
  refine ⟨by rw [e0, r.len]; omega, _, _, walk_zipT e0, fun B H h => ⟨(hP B H h).1, (hP B H h).2.1⟩, fun i B H S x H' hi h n y => ?_⟩
  obtain ⟨T, u, v, ev, nT, eH, hu, hv⟩ := y
  rw [e0, r.len, r'.len] at hi
  have hu : xs[i]? = some u := hu
  have hv : ys[i]? = some v := hv
  have l1 : i < ds.length := by omega
  have l2 : i < es.length := by omega
  obtain ⟨u', e1, ru⟩ := r.at (d := ds[i]) (i := i) (by simp [l1])
  obtain ⟨v', e2, rv⟩ := r'.at (d := es[i]) (i := i) (by simp [l2])
  rw [hu] at e1
  rw [hv] at e2
  cases e1
  cases e2
  obtain ⟨B', n', rp⟩ := pair_new n (ru.up (hP B H h).2.2) (rv.up (hP B H h).2.2) nT eH ev
  exact ⟨B', _, zip_at (x := ds[i]) (y := es[i]) (by simp [l1]) (by simp [l2]), n', rp⟩
theorem d_izip {P : PP} (hPP : ∀ {C : Option Addr} {B1 H1 B H : Hp}, P Γ C B1 H1 B H → Sub B1 B ∧ Sub B H) {elts : List Expr} {k : Nat} {tp q : Pos} {a b : Expr} {ma mb : ME} (hK : X.K = Γ.K) (hg : Gl X "zip") (hm : X.mg "zip" = none) (ha : PE X a (rdE Γ W ma)) (hb : PE X b (rdE Γ W mb)) (hf : plainE a = true) (hf2 : plainE b = true) :
    PI X (.Tuple elts k tp) (.Call (.Name "zip" p) [a, b] [] q) (rdI P Γ W (iZip ma mb)) :=
  PI.imp (RZ.pi_zipA hg hm (pa_cons ha (pa_cons hb pa_nil (star_plain hf2 [] X.env)) (star_plain hf [b] X.env)) (star_plain hf [b] X.env) (stars_plain (es := [b]) (by simp [plains, hf2]) q X.env)) fun σ H R ⟨C, B0, H0, ρ, S, B, r, q⟩ => by
    rw [hK]
    refine rd_bindI r q fun d S1 v H1 B1 r1 n1 x1 p1 => rd_bindI r1 p1 fun e S2 u H2 B2 r2 n2 x2 p2 => ?_
    have x1 := x1.up n2.sb
    have n := r2.nx.here
    unfold zipD at p2
    split at p2
    · cases x1 with
      | lst h ra =>
        cases x2 with
        | lst h' ra' =>
          exact ⟨_, _, _, _, rfl, .inl ⟨.inl (.inl (n.sh _ _ h)), .inl (.inl (n.sh _ _ h')), p2 H2 B2 _ n (wkZ (n.lenL (n.sh _ _ h) ra) ra ra' fun B H hp => ⟨.inl (.inl ((hPP hp).2 _ _ ((hPP hp).1 _ _ h))), .inl (.inl ((hPP hp).2 _ _ ((hPP hp).1 _ _ h'))), (hPP hp).1⟩)⟩⟩
    · cases x1 with
      | tup h ra =>
        cases x2 with
        | tup h' ra' =>
          exact ⟨_, _, _, _, rfl, .inr ⟨n.sh.sqT h, n.sh.sqT h', p2 H2 B2 _ n (wkZT (n.lenT (n.sh.sqT h) ra) ra ra' fun B H hp => ⟨(hPP hp).2.sqT ((hPP hp).1.sqT h), (hPP hp).2.sqT ((hPP hp).1.sqT h'), (hPP hp).1⟩)⟩⟩
    · exact p2.elim
theorem pF_ok {C : Option Addr} {B1 H1 B H : Hp} (h : pF Γ C B1 H1 B H) : Sub B1 B ∧ Sub B H := h
theorem pT_ok {C : Option Addr} {B1 H1 B H : Hp} (h : pT Γ C B1 H1 B H) : Sub B1 B ∧ Sub B H := let ⟨_, n⟩ := h; ⟨n.sb, n.sh⟩
end Pv
namespace Pv
open PySem PySem.Spec PyProof.Rows L2
variable {Γ : Gm} {X : Cx} {W : WX} {pos p : Pos}
section
variable {C : Option Addr} {B B1 H H1 : Hp} {S : SS} {D0 : Addr} {o : HO}
/-- no code object, no table of such -/
def Plain : HO → Prop
  | .lst _ => True
  | .dK _ => True
  | _ => False
theorem Nxt.cell_ne (n : Nxt Γ C B H S B H) (h : H D0 = none) : C ≠ some D0 := fun z => by
  have ce := n.ce
  subst z
  unfold CellOk at ce
  split at ce
  · rename_i e; cases e
  · rename_i e
    cases e
    obtain ⟨_, xs, e1, _⟩ := ce
    rw [h] at e1
    cases e1
  · exact ce
/-- one's own object is laid or changed -/
theorem Nxt.put (n : Nxt Γ C B1 H1 S B H) (h0 : H1 D0 = none) (hB : B D0 = none) (hC : C ≠ some D0) (ht : ∀ u, H D0 = some u → Plain u) (lo : LenOk o) : Nxt Γ C B1 H1 S B (upd H D0 o) := by
  have keepB : ∀ a u, B a = some u → a ≠ D0 := fun a u e z => by subst z; rw [hB] at e; cases e
  refine ⟨n.sb, fun a u e => by rw [upd_ne (keepB a u e)]; exact n.sh a u e, ⟨fun a u e c t => ?_, fun a h => ?_⟩, n.nw, ?_, fun q hq => ?_, fun a u e => ?_⟩
  · rw [upd_ne (fun z => by subst z; rw [h0] at e; cases e)]
    exact n.ex.keep a u e c t
  · by_cases e : a = D0
    · subst e; rw [upd_same]; simp
    · rw [upd_ne e]; exact n.ex.there a h
  · have ce := n.ce
    unfold CellOk at ce ⊢
    split
    · trivial
    · rename_i c ds
      obtain ⟨h1, xs, h2, h3⟩ := ce
      exact ⟨h1, xs, by rw [upd_ne (fun z => hC (by rw [z]))]; exact h2, h3⟩
    · rename_i h1 h2
      split at ce
      · exact h1 rfl rfl
      · exact h2 _ _ rfl rfl
      · exact ce
  · obtain ⟨ps, e1, e2, e3⟩ := n.tb q hq
    refine ⟨ps, ?_, e2, fun ps' cv hcv => ?_⟩
    · rw [upd_ne (fun z => by rw [z] at e1; exact ht _ e1)]
      exact e1
    · obtain ⟨c, h1, h2⟩ := e3 ps' cv hcv
      refine ⟨c, h1, ?_⟩
      rw [upd_ne (fun z => by rw [z] at h2; exact ht _ h2)]
      exact h2
  · by_cases hb : a = D0
    · subst hb; rw [upd_same] at e; cases e; exact lo
    · rw [upd_ne hb] at e; exact n.ln a u e
/-- one's own object is held for good -/
theorem Nxt.freeze (n : Nxt Γ C B1 H1 S B H) (h0 : H1 D0 = none) (hB : B D0 = none) (hC : C ≠ some D0) (hD : H D0 = some o) : Nxt Γ C B1 H1 S (upd B D0 o) H := by
  have s : Sub B (upd B D0 o) := sub_upd hB
  refine ⟨fun a u e => s a u (n.sb a u e), fun a u e => ?_, n.ex, fun a h1 h2 => ?_, ?_, n.tb, n.ln⟩
  · by_cases hb : a = D0
    · subst hb; rw [upd_same] at e; rw [← e]; exact hD
    · rw [upd_ne hb] at e; exact n.sh a u e
  · rw [upd_ne (fun z => h2 (by rw [z]; exact h0))]
    exact n.nw a h1 h2
  · have ce := n.ce
    unfold CellOk at ce ⊢
    split
    · trivial
    · rename_i c ds
      obtain ⟨h1, xs, h2, h3⟩ := ce
      exact ⟨by rw [upd_ne (fun z => hC (by rw [z]))]; exact h1, xs, h2, h3.up s⟩
    · rename_i h1 h2
      split at ce
      · exact h1 rfl rfl
      · exact h2 _ _ rfl rfl
      · exact ce
end
/-! the slots of a comprehension's own names -/
def wipeE (ρ : Env) : List Nat → Env
  | [] => ρ
  | v :: vs => (wipeE ρ vs).set v .none
theorem wipeE_get {ρ : Env} (j : Nat) : ∀ {vs : List Nat}, (wipeE ρ vs).getD j .none = if j ∈ vs then .none else ρ.getD j .none
  | [] => by simp [wipeE]
  | v :: vs => by
    unfold wipeE
    rw [getD_set, wipeE_get]
    by_cases h : v = j
    · subst h
      by_cases hl : v < (wipeE ρ vs).length
      · simp [hl]
      · rw [if_neg (fun z => hl z.2)]
        have hl2 : ∀ vs : List Nat, (wipeE ρ vs).length = ρ.length := fun vs => by
          induction vs with
          | nil => rfl
          | cons a r ih => unfold wipeE; rw [List.length_set, ih]
        rw [hl2] at hl
        have e : ρ.getD v .none = .none := by rw [List.getD_eq_getElem?_getD, List.getElem?_eq_none (by omega)]; rfl
        by_cases hm : v ∈ vs
        · simp [hm]
        · simp only [hm, List.mem_cons, true_or, if_true, if_false]
          exact e
    · have h' : ¬ j = v := fun z => h z.symm
      simp [h, h']
theorem wipeE_len {ρ : Env} : ∀ {vs : List Nat}, (wipeE ρ vs).length = ρ.length
  | [] => rfl
  | v :: vs => by unfold wipeE; rw [List.length_set, wipeE_len]
theorem wipe_get {σ : L2.St} (j : Nat) : ∀ {vs : List Nat}, j ∉ vs → (wipe σ vs)[j]? = σ[j]?
  | [], _ => rfl
  | v :: vs, h => by
    simp only [List.mem_cons, not_or] at h
    unfold wipe
    rw [List.getElem?_set_ne (fun z => h.1 z.symm), wipe_get j h.2]
theorem wipe_in {σ : L2.St} (j : Nat) : ∀ {vs : List Nat}, j ∈ vs → j < σ.length → (wipe σ vs)[j]? = some none
  | v :: vs, h, hl => by
    unfold wipe
    by_cases e : v = j
    · subst e
      rw [List.getElem?_set_self (by rw [wipe_length]; exact hl)]
    · rw [List.getElem?_set_ne e]
      exact wipe_in j ((List.mem_cons.mp h).elim (fun z => absurd z.symm e) id) hl
theorem wipe_eq {σ σ' : L2.St} {vs : List Nat} (hl : σ'.length = σ.length) (h : ∀ j, j ∉ vs → σ'[j]? = σ[j]?) : wipe σ' vs = wipe σ vs := by
  apply List.ext_getElem?
  intro j
  by_cases hj : j ∈ vs
  · by_cases hs : j < σ.length
    · rw [wipe_in j hj hs, wipe_in j hj (by omega)]
    · rw [List.getElem?_eq_none (by rw [wipe_length]; omega), List.getElem?_eq_none (by rw [wipe_length]; omega)]
  · rw [wipe_get j hj, wipe_get j hj]
    exact h j hj
theorem Rel.wipe {C : Option Addr} {B H B0 H0 : Hp} {S : SS} {ρ : Env} {σ : L2.St} (r : Rel Γ C B0 H0 ρ S σ B H) (vs : List Nat) : Rel Γ C B0 H0 (wipeE ρ vs) S (L2.wipe σ vs) B H := by
  refine ⟨r.nx, by rw [wipeE_len, wipe_length]; exact r.len, fun i => ?_, fun i j a hij hi hj e1 e2 => ?_⟩
  · rw [wipeE_get]
    by_cases h : i ∈ vs
    · rw [if_pos h]; trivial
    · rw [if_neg h, wipe_get i h]
      exact r.slot i
  · rw [wipeE_get] at hi hj
    have n1 : i ∉ vs := fun h => by rw [if_pos h] at hi; cases hi
    have n2 : j ∉ vs := fun h => by rw [if_pos h] at hj; cases hj
    rw [if_neg n1] at hi
    rw [if_neg n2] at hj
    rw [wipe_get i n1] at e1
    rw [wipe_get j n2] at e2
    exact r.dis i j a hij hi hj e1 e2
theorem wipe_wipe {σ : L2.St} {vs : List Nat} : L2.wipe (L2.wipe σ vs) vs = L2.wipe σ vs := wipe_eq (wipe_length _ _) fun j hj => wipe_get j hj
/-! list comprehensions -/
def collect (f : D → M (Option D)) : List D → M (List D)
  | [] => pure []
  | d :: r => f d >>= fun o => collect f r >>= fun ys => pure (match o with
    | some y => y :: ys
    | none => ys)
def turnM (tm : TM) (mt me : ME) (ρ : Env) (d : D) : M (Option D) := match tm d ρ with
  | some ρ' => nox (mt ρ' >>= fun b => asB b >>= fun b => if b = true then me ρ' >>= fun y => pure (some y) else pure none)
  | none => bad
def vLc (own : List Nat) (mi : MI) (tm : TM) (mt me : ME) : ME := fun ρ => mi ρ >>= fun ds => collect (turnM tm mt me (wipeE ρ own)) ds >>= fun xs => pure (.list xs)
abbrev W0 : WX := fun _ _ _ _ => False
theorem nox_bind {α β : Type} {m : M α} {g : α → M β} {S : SS} : (nox m >>= g) S = (match m S with
    | .ok a S' => g a S'
    | _ => .bad) := by
  rw [bind_at]
  unfold nox
  cases m S <;> rfl
theorem PostV.noxb {R : RR} {C : Option Addr} {σ : L2.St} {B H : Hp} {Q : VK} {α : Type} {m : M α} {f : α → M D} {S : SS} (h : PostV R Γ C W σ B H Q ((nox m >>= f) S)) : ∃ a S', m S = .ok a S' ∧ PostV R Γ C W σ B H Q (f a S') := by
  rw [nox_bind] at h
  cases e : m S with
  | ok a S' => rw [e] at h; exact ⟨a, S', rfl, h⟩
  | exc k S' => rw [e] at h; exact h.elim
  | bad => rw [e] at h; exact h.elim
theorem ok_bind {α β : Type} {m : M α} {f : α → M β} {S S' : SS} {b : β} (h : (m >>= f) S = .ok b S') : ∃ a S1, m S = .ok a S1 ∧ f a S1 = .ok b S' := by
  rw [bind_at] at h
  cases e : m S with
  | ok a S1 => rw [e] at h; exact ⟨a, S1, rfl, h⟩
  | exc k S1 => rw [e] at h; cases h
  | bad => rw [e] at h; cases h
theorem asB_ok {d : D} {S S' : SS} {b : Bool} (h : asB d S = .ok b S') : d = .bool b ∧ S' = S := by
  cases d with
  | bool c => cases h; exact ⟨rfl, rfl⟩
  | _ => cases h
/-- the turns of a comprehension -/
theorem lc_turns {P : PP} {own : List Nat} {is : List Nat} {tm : TM} {mt me : ME} (hPP : ∀ {C : Option Addr} {B1 H1 : Hp} {S : SS} {B H : Hp}, Nxt Γ C B1 H1 S B H → P Γ C B1 H1 B H) (hi : ∀ i ∈ is, i ∈ own)
    {C : Option Addr} {B0 H0 B1 H1 : Hp} {ρ : Env} {S1 : SS} {σ : L2.St} {Q : VK} {J : It} {ds : List D} {D0 : Addr} (r1 : Rel Γ C B0 H0 ρ S1 σ B1 H1) (wk : WkD Γ C (P Γ C B1 H1) J ds) (nD : H1 D0 = none)
    (q : PostV rrE Γ C W σ B1 H1 Q ((collect (turnM tm mt me (wipeE ρ own)) ds >>= fun xs => pure (.list xs)) S1)) :
    ∃ Wv : Nat → Nat → Hp → Prop, (∃ m, Wv 0 m (upd H1 D0 (.lst []))) ∧ ∀ i m H, Wv i m H →
      (J.stop i H ∧ Q (.ref D0) H) ∨ (J.go i H ∧ ∃ Nx : Hp → Prop, (∀ H', Nx H' → ∃ m', m' < m ∧ Wv (i + 1) m' H') ∧ ∀ x H', J.yld i H x H' → rdP Γ is tm x (L2.wipe σ own) H' fun σ2 H2 => L2.wipe σ2 own = L2.wipe σ own ∧ rdB Γ W0 mt σ2 H2 fun b H3 =>
        if b = true then rdE Γ W0 me σ2 H3 fun y H4 => ∃ acc, H4 D0 = some (.lst acc) ∧ acc.length < sizeLine ∧ Nx (upd H4 D0 (.lst (acc ++ [y]))) else Nx H3) := by
  obtain ⟨hz, G, Y, wl, hG, hY⟩ := wk
  have nC := r1.nx.here.cell_ne nD
  have nB : B1 D0 = none := by
    cases e : B1 D0 with
    | none => rfl
    | some u => rw [r1.nx.sh _ _ e] at nD; cases nD
  refine lc_it wl (fun i H => ∃ B' S' vs xs, Nxt Γ C B1 H1 S' B' H ∧ H D0 = some (.lst vs) ∧ B' D0 = none ∧ RpAll Γ.K B' vs xs ∧ xs.length ≤ i ∧
    PostV rrE Γ C W σ B1 H1 Q ((collect (turnM tm mt me (wipeE ρ own)) (ds.drop i) >>= fun ys => pure (.list (xs ++ ys))) S')) ?_ ?_ ?_ ?_
  · refine ⟨B1, S1, [], [], r1.nx.here.put nD nB nC (fun u e => by rw [nD] at e; cases e) (Nat.zero_le _), upd_same, nB, .nil, Nat.zero_le _, ?_⟩
    simpa using q
  · rintro i H _ ⟨B', S', vs, xs, n, _⟩
    exact hG B' H (hPP n)
  · rintro i x H H' hlt ⟨B', S', vs, xs, n, hD, hB, hv, hl, q⟩ y
    obtain ⟨B2, d, hd, n2, rx⟩ := hY i B' H S' x H' hlt (hPP n) n.here y
    have n' := n.trans n2
    have hD2 : H' D0 = some (.lst vs) := n2.ex.keep _ _ hD nC (by simp)
    have hB2 : B2 D0 = none := n2.nw D0 hB (by rw [hD]; simp)
    have e0 : ds.drop i = d :: ds.drop (i + 1) := by
      obtain ⟨hi', rfl⟩ := List.getElem?_eq_some_iff.mp hd
      exact List.drop_eq_getElem_cons hi'
    rw [e0] at q
    simp only [collect, bnd_assoc, pure_bnd] at q
    have rw0 := (r1.up n').wipe own
    generalize hf : turnM tm mt me (wipeE ρ own) = f at q
    have ed := turnM.eq_def tm mt me (wipeE ρ own) d
    rw [hf] at ed
    rw [ed] at q
    cases et : tm d (wipeE ρ own) with
    | none => rw [et] at q; exact q.elim
    | some ρ' =>
      rw [et] at q
      obtain ⟨o, S3, e3, q⟩ := q.noxb
      obtain ⟨bd, S4, e4, e7⟩ := ok_bind e3
      obtain ⟨b, S5, e5, e8⟩ := ok_bind e7
      obtain ⟨rfl, rfl⟩ := asB_ok e5
      refine ⟨C, B0, H0, wipeE ρ own, S', B2, d, ρ', rw0, rx, et, fun σ2 r2 l2 o2 => ⟨?_, ?_⟩⟩
      · rw [wipe_eq l2 (fun j hj => o2 j fun z => hj (hi j z)), wipe_wipe]
      · refine ⟨C, B0, H0, ρ', S', B2, r2, ?_⟩
        rw [bind_at, e4]
        intro H3 B3 n3
        have hD3 : H3 D0 = some (.lst vs) := n3.ex.keep _ _ hD2 nC (by simp)
        have hB3 : B3 D0 = none := n3.nw D0 hB2 (by rw [hD2]; simp)
        cases b with
        | false =>
          cases e8
          rw [if_neg (by simp)]
          exact ⟨B3, _, vs, xs, n'.trans n3, hD3, hB3, (hv.up n2.sb).up n3.sb, by omega, q⟩
        | true =>
          rw [if_pos rfl] at e8 ⊢
          obtain ⟨y2, S6, e6, e9⟩ := ok_bind e8
          cases e9
          refine ⟨C, B0, H0, ρ', _, B3, r2.up n3, ?_⟩
          rw [e6]
          intro w H4 B4 n4 rw4
          have hD4 : H4 D0 = some (.lst vs) := n4.ex.keep _ _ hD3 nC (by simp)
          have hB4 : B4 D0 = none := n4.nw D0 hB3 (by rw [hD3]; simp)
          have n5 := (n'.trans n3).trans n4
          have hv4 := (((hv.up n2.sb).up n3.sb).up n4.sb)
          have lt : vs.length < sizeLine := by rw [hv4.len]; omega
          refine ⟨vs, hD4, lt, B4, _, vs ++ [w], xs ++ [y2], n5.put nD hB4 nC (fun u e => by rw [hD4] at e; cases e; trivial) (by show (vs ++ [w]).length ≤ sizeLine; rw [List.length_append]; exact lt), upd_same, hB4, hv4.app (.cons rw4 .nil), by rw [List.length_append]; show xs.length + 1 ≤ i + 1; omega, ?_⟩
          simpa using q
  · rintro H ⟨B', S', vs, xs, n, hD, hB, hv, hl, q⟩
    rw [List.drop_length] at q
    simp only [collect, pure_bnd, List.append_nil] at q
    have n' := n.freeze nD hB nC hD
    exact q.val n' (.lst upd_same (hv.up (sub_upd hB)))
theorem pF_of {C : Option Addr} {B1 H1 : Hp} {S : SS} {B H : Hp} (n : Nxt Γ C B1 H1 S B H) : pF Γ C B1 H1 B H := ⟨n.sb, n.sh⟩
theorem pT_of {C : Option Addr} {B1 H1 : Hp} {S : SS} {B H : Hp} (n : Nxt Γ C B1 H1 S B H) : pT Γ C B1 H1 B H := ⟨S, n⟩
section
variable {elt tg iter : Expr} {ifs : List Expr} {scope : Scope} {own : List (Str × Nat)} {mi : MI} {tm : TM} {mt me : ME} {is : List Nat}
/-- a comprehension's reading, by its answer -/
theorem post_lc (hi : ∀ i ∈ is, i ∈ own.map (·.2)) {σ : L2.St} {H : Hp} {Q : VK} (hq : rdE Γ W (vLc (own.map (·.2)) mi tm mt me) σ H Q) : tLc (rdI pT Γ W mi) (rdP Γ is tm) (rdB Γ W0 mt) (rdE Γ W0 me) (own.map (·.2)) σ H Q := by
  obtain ⟨C, B0, H0, ρ, S, B, r, q⟩ := hq
  refine ⟨C, B0, H0, ρ, S, B, r, ?_⟩
  rcases q.bind with ⟨ds, S1, e, q⟩ | ⟨k, S1, e, q⟩
  · rw [e]
    intro H1 B1 J n1 wk D0 nD
    exact lc_turns (P := pT) (fun n => pT_of n) hi (r.up n1) wk nD (q.up n1)
  · rw [e]
    exact q
theorem d_yes : PTs X [] (rdB Γ W (vC (.bool true))) := ⟨fun pins s σ H Q I ⟨C, B0, H0, ρ, S, B, r, q⟩ => pts_nil.run pins s σ H Q I (q H B r.nx.here)⟩
theorem d_if1 {c : Expr} {m : ME} (h : PT X c (rdB Γ W m)) : PTs X [c] (rdB Γ W m) := pts_one h
theorem d_lc (hc : X.calm = true) (hN : X.N.Nodup) (ok : BlkOk X.N X.env.scope scope own) (hpl : plainE iter = true) (his : ∀ i ∈ is, i ∈ own.map (·.2)) (hi : PI X tg iter (rdI pT Γ W mi))
    (hb : ∀ (s : Shared) (H : Hp) (C : Addr) (cl : List (Str × Addr)) (fp : List Addr), PG (X.blk s H scope (compEnvC scope cl C X.env) fp) tg (rdP Γ is tm) ∧ PTs (X.blk s H scope (compEnvC scope cl C X.env) fp) ifs (rdB Γ W0 mt) ∧ PE (X.blk s H scope (compEnvC scope cl C X.env) fp) elt (rdE Γ W0 me)) :
    PE X (.ListComp elt [⟨tg, iter, ifs, 0⟩] scope pos) (rdE Γ W (vLc (own.map (·.2)) mi tm mt me)) :=
  PE.imp (pe_lc hc hN hi ok (fun s H C cl fp => (hb s H C cl fp).1) (fun s H C cl fp => (hb s H C cl fp).2.1) (fun s H C cl fp => (hb s H C cl fp).2.2) (set_plain hpl X.env)) fun _ _ _ q => post_lc his q
end
end Pv
namespace Pv
open PySem PySem.Spec PyProof.Rows L2
variable {Γ : Gm} {X : Cx} {W : WX} {pos p : Pos}
/-! statements -/
inductive Fl where
  | nx (ρ : Env) | rt (d : D) | bk (ρ : Env) | ct (ρ : Env)
abbrev MS := Env → M Fl
def PostS (Γ : Gm) (C : Option Addr) (W : WX) (B0 H0 Bs : Hp) (E : Ends) : Res Fl → Prop
  | .ok (.nx ρ) S => ∀ σ B H, Rel Γ C B0 H0 ρ S σ B H → Sub Bs B → E.nx σ H
  | .ok (.rt d) S => ∀ v B H, Nxt Γ C B0 H0 S B H → Rp Γ.K B v d → E.rt v H
  | .ok (.bk ρ) S => ∀ σ B H, Rel Γ C B0 H0 ρ S σ B H → Sub Bs B → E.bk σ H
  | .ok (.ct ρ) S => ∀ σ B H, Rel Γ C B0 H0 ρ S σ B H → Sub Bs B → E.ct σ H
  | .exc k S => ∀ σ B H, Nxt Γ C B0 H0 S B H → W (Γ.cls k) none σ H
  | .bad => False
def rdS (Γ : Gm) (W : WX) (m : MS) : TS := fun E σ H => ∃ C B0 H0 ρ S B, Rel Γ C B0 H0 ρ S σ B H ∧ PostS Γ C W B0 H0 B E (m ρ S)
theorem PS.imp {e : Stmt} {t t' : TS} (h : PS X e t) (i : ∀ E σ H, t' E σ H → t E σ H) : PS X e t' := ⟨fun pins s σ H E I q => h.run pins s σ H E I (i E σ H q)⟩
theorem PSs.imp {e : List Stmt} {t t' : TS} (h : PSs X e t) (i : ∀ E σ H, t' E σ H → t E σ H) : PSs X e t' := ⟨fun pins s σ H E I q => h.run pins s σ H E I (i E σ H q)⟩
section
variable {C : Option Addr} {B0 H0 Bs B1 H1 B H : Hp} {S : SS} {ρ : Env} {σ : L2.St} {E : Ends}
theorem PostS.up {r : Res Fl} (s : Sub Bs B1) (h : PostS Γ C W B0 H0 Bs E r) : PostS Γ C W B0 H0 B1 E r := by
  cases r with
  | ok f S' =>
    cases f with
    | nx ρ => exact fun σ B H r q => h σ B H r fun a o e => q a o (s a o e)
    | rt d => exact h
    | bk ρ => exact fun σ B H r q => h σ B H r fun a o e => q a o (s a o e)
    | ct ρ => exact fun σ B H r q => h σ B H r fun a o e => q a o (s a o e)
  | exc k S' => exact h
  | bad => exact h
/-- an expression is asked, then the rest of the statement -/
theorem rd_bindS {R : RR} {m : ME} {f : D → M Fl} {Q : VK} (r : Rel Γ C B0 H0 ρ S σ B H) (h : PostS Γ C W B0 H0 B E ((m ρ >>= f) S))
    (k : ∀ d S1 v H1 B1, Rel Γ C B0 H0 ρ S1 σ B1 H1 → Nxt Γ C B H S1 B1 H1 → R Γ C B1 H1 v d → PostS Γ C W B0 H0 B1 E (f d S1) → Q v H1) : rd R Γ W m σ H Q := by
  refine ⟨C, B0, H0, ρ, S, B, r, ?_⟩
  rw [bind_at] at h
  cases e : m ρ S with
  | ok d S' => rw [e] at h; exact fun v H' B' n x => k d S' v H' B' (r.up n) n x (h.up n.sb)
  | exc j S' => rw [e] at h; exact fun H' B' n => h σ B' H' (r.nx.trans n)
  | bad => rw [e] at h; exact h
theorem rd_bindSB {m : ME} {f : Bool → M Fl} {Q : Bool → Hp → Prop} (r : Rel Γ C B0 H0 ρ S σ B H) (h : PostS Γ C W B0 H0 B E ((m ρ >>= fun d => asB d >>= f) S))
    (k : ∀ b S1 H1 B1, Rel Γ C B0 H0 ρ S1 σ B1 H1 → Nxt Γ C B H S1 B1 H1 → PostS Γ C W B0 H0 B1 E (f b S1) → Q b H1) : rdB Γ W m σ H Q := by
  refine ⟨C, B0, H0, ρ, S, B, r, ?_⟩
  rw [← bnd_assoc, bind_at] at h
  cases e : (m ρ >>= asB) S with
  | ok d S' => rw [e] at h; exact fun H' B' n => k d S' H' B' (r.up n) n (h.up n.sb)
  | exc j S' => rw [e] at h; exact fun H' B' n => h σ B' H' (r.nx.trans n)
  | bad => rw [e] at h; exact h
end
/-! blocks -/
def sNil : MS := fun ρ => pure (.nx ρ)
def flow (f : Fl) (n : MS) : M Fl := match f with
  | .nx ρ => n ρ
  | f => pure f
def sSeq (m n : MS) : MS := fun ρ => m ρ >>= fun f => flow f n
theorem d_nil : PSs X [] (rdS Γ W sNil) := PSs.imp pss_nil fun E σ H ⟨C, B0, H0, ρ, S, B, r, q⟩ => q σ B H r fun _ _ h => h
theorem rdS_seq {m n : MS} {E : Ends} {σ : L2.St} {H : Hp} (h : rdS Γ W (sSeq m n) E σ H) : rdS Γ W m { E with nx := rdS Γ W n E } σ H := by
  obtain ⟨C, B0, H0, ρ, S, B, r, q⟩ := h
  refine ⟨C, B0, H0, ρ, S, B, r, ?_⟩
  unfold sSeq at q
  rw [bind_at] at q
  cases e : m ρ S with
  | ok f S' =>
    rw [e] at q
    cases f with
    | nx ρ' => exact fun σ' B' H' r' s => ⟨C, B0, H0, ρ', S', B', r', q.up s⟩
    | rt d => exact q
    | bk ρ' => exact q
    | ct ρ' => exact q
  | exc k S' => rw [e] at q; exact q
  | bad => rw [e] at q; exact q
theorem d_cons {st : Stmt} {rest : List Stmt} {m n : MS} (h1 : PS X st (rdS Γ W m)) (h2 : PSs X rest (rdS Γ W n)) : PSs X (st :: rest) (rdS Γ W (sSeq m n)) := PSs.imp (pss_cons h1 h2) fun E σ H q => rdS_seq q
theorem d_one1 {st : Stmt} {m : MS} (h1 : PS X st (rdS Γ W m)) : PSs X [st] (rdS Γ W m) := pss_one h1
/-! small ones -/
def sRet (me : ME) : MS := fun ρ => me ρ >>= fun d => pure (.rt d)
def sDrop (me : ME) : MS := fun ρ => me ρ >>= fun _ => pure (.nx ρ)
def sIf (mc : ME) (a b : MS) : MS := fun ρ => mc ρ >>= fun d => asB d >>= fun c => if c = true then a ρ else b ρ
def sBrk : MS := fun ρ => pure (.bk ρ)
def sCt : MS := fun ρ => pure (.ct ρ)
def sRaise (k : Exn) : MS := fun _ => thr k
theorem d_ret {e : Expr} {me : ME} (h : PE X e (rdE Γ W me)) : PS X (.Return (some e) pos) (rdS Γ W (sRet me)) := PS.imp (ps_ret h) fun E σ H ⟨C, B0, H0, ρ, S, B, r, q⟩ =>
  rd_bindS r q fun d S1 v H1 B1 r1 n1 x1 p1 => p1 v B1 H1 r1.nx x1
theorem d_expr {e : Expr} {me : ME} (h : PE X e (rdE Γ W me)) (hf : notComp e = true) : PS X (.Expr e pos) (rdS Γ W (sDrop me)) := PS.imp (ps_expr h (swap_plain hf _ _ _)) fun E σ H ⟨C, B0, H0, ρ, S, B, r, q⟩ =>
  rd_bindS r q fun d S1 v H1 B1 r1 n1 x1 p1 => p1 σ B1 H1 r1 fun _ _ h => h
theorem d_if {c : Expr} {a b : List Stmt} {mc : ME} {ma mb : MS} (hc : PT X c (rdB Γ W mc)) (ha : PSs X a (rdS Γ W ma)) (hb : PSs X b (rdS Γ W mb)) : PS X (.If c a b pos) (rdS Γ W (sIf mc ma mb)) := PS.imp (ps_if hc ha hb) fun E σ H ⟨C, B0, H0, ρ, S, B, r, q⟩ =>
  rd_bindSB r q fun b S1 H1 B1 r1 n1 p1 => by
    cases b with
    | true => exact ⟨C, B0, H0, ρ, S1, B1, r1, p1⟩
    | false => exact ⟨C, B0, H0, ρ, S1, B1, r1, p1⟩
theorem d_brk : PS X (.Break pos) (rdS Γ W sBrk) := PS.imp ps_break fun E σ H ⟨C, B0, H0, ρ, S, B, r, q⟩ => q σ B H r fun _ _ h => h
theorem d_ct : PS X (.Continue pos) (rdS Γ W sCt) := PS.imp ps_continue fun E σ H ⟨C, B0, H0, ρ, S, B, r, q⟩ => q σ B H r fun _ _ h => h
theorem d_pass : PS X (.Pass pos) (rdS Γ W sNil) := PS.imp ps_pass fun E σ H ⟨C, B0, H0, ρ, S, B, r, q⟩ => q σ B H r fun _ _ h => h
theorem d_raise {e : Expr} {k : Exn} (hc : X.calm = true) (tk : Takes X W) (h : PMk X e (fun _ H Q => Q (Γ.cls k) none H)) : PS X (.Raise (some e) none pos) (rdS Γ W (sRaise k)) := PS.imp (ps_raise hc tk h) fun E σ H ⟨C, B0, H0, ρ, S, B, r, q⟩ => q σ B H r.nx
/-! stores -/
def sSet (i : Nat) (me : ME) : MS := fun ρ => me ρ >>= fun d => pure (.nx (ρ.set i (.val d)))
def sAsg (tm : TM) (me : ME) : MS := fun ρ => me ρ >>= fun d => match tm d ρ with
  | some ρ' => pure (.nx ρ')
  | none => bad
theorem post_set {i : Nat} {me : ME} {E : Ends} {σ : L2.St} {H : Hp} (h : rdS Γ W (sSet i me) E σ H) : tAsg (rdE Γ W me) (gName i) E σ H := by
  obtain ⟨C, B0, H0, ρ, S, B, r, q⟩ := h
  exact rd_bindS r q fun d S1 v H1 B1 r1 n1 x1 p1 => p1 _ B1 H1 (r1.set i x1) fun _ _ h => h
theorem d_set {i : Nat} {x : Str} {e : Expr} {me : ME} {q : Pos} (hN : X.N.Nodup) (hi : X.N[i]? = some x) (hx : Loc X.env.scope x) (hf : X.fn x = true ∨ X.env.scope.names.lookup x = some .local) (hp : notComp e = true) (h : PE X e (rdE Γ W me)) :
    PS X (.Assign [.Name x q] e pos) (rdS Γ W (sSet i me)) := PS.imp (ps_set hN hi hx h (swap_plain hp _ _ _) hf) fun _ _ _ q => post_set q
theorem d_setLc {i : Nat} {x : Str} {q spos : Pos} {elt tg iter : Expr} {ifs : List Expr} {scope : Scope} {own : List (Str × Nat)} {mi : MI} {tm : TM} {mt me : ME} {is : List Nat} (hc : X.calm = true) (hN : X.N.Nodup) (hy : X.N[i]? = some x) (hyl : X.env.scope.names.lookup x = some .local)
    (hsw : swapsWith (.ListComp elt [⟨tg, iter, ifs, 0⟩] scope pos) (some (.Name x q)) spos.line X.env = pure true) (ok : BlkOk X.N X.env.scope scope own) (hpl : plainE iter = true) (his : ∀ i ∈ is, i ∈ own.map (·.2)) (hi : PI X tg iter (rdI pT Γ W mi))
    (hb : ∀ (s : Shared) (H : Hp) (C : Addr) (cl : List (Str × Addr)) (fp : List Addr), PG (X.blk s H scope (compEnvC scope cl C X.env) fp) tg (rdP Γ is tm) ∧ PTs (X.blk s H scope (compEnvC scope cl C X.env) fp) ifs (rdB Γ W0 mt) ∧ PE (X.blk s H scope (compEnvC scope cl C X.env) fp) elt (rdE Γ W0 me)) :
    PS X (.Assign [.Name x q] (.ListComp elt [⟨tg, iter, ifs, 0⟩] scope pos) spos) (rdS Γ W (sSet i (vLc (own.map (·.2)) mi tm mt me))) :=
  PS.imp (ps_setLc hc hN hy hyl hsw hi ok (fun s H C cl fp => (hb s H C cl fp).1) (fun s H C cl fp => (hb s H C cl fp).2.1) (fun s H C cl fp => (hb s H C cl fp).2.2) (set_plain hpl X.env)) fun E σ H h => by
    obtain ⟨C, B0, H0, ρ, S, B, r, q⟩ := h
    refine post_lc his ?_
    exact rd_bindS r q fun d S1 v H1 B1 r1 n1 x1 p1 => p1 _ B1 H1 (r1.set i x1) fun _ _ h => h
theorem d_setLcF {i : Nat} {x : Str} {q spos : Pos} {elt tg iter : Expr} {ifs : List Expr} {scope : Scope} {me : ME} (hN : X.N.Nodup) (hy : X.N[i]? = some x) (hx : Loc X.env.scope x) (hf : X.fn x = true ∨ X.env.scope.names.lookup x = some .local)
    (hsw : swapsWith (.ListComp elt [⟨tg, iter, ifs, 0⟩] scope pos) (some (.Name x q)) spos.line X.env = pure false) (h : PE X (.ListComp elt [⟨tg, iter, ifs, 0⟩] scope pos) (rdE Γ W me)) :
    PS X (.Assign [.Name x q] (.ListComp elt [⟨tg, iter, ifs, 0⟩] scope pos) spos) (rdS Γ W (sSet i me)) := PS.imp (ps_set hN hy hx h hsw hf) fun _ _ _ q => post_set q
theorem post_asg {is : List Nat} {tm : TM} {me : ME} {E : Ends} {σ : L2.St} {H : Hp} (h : rdS Γ W (sAsg tm me) E σ H) : tAsg (rdE Γ W me) (rdP Γ is tm) E σ H := by
  obtain ⟨C, B0, H0, ρ, S, B, r, q⟩ := h
  refine rd_bindS r q fun d S1 v H1 B1 r1 n1 x1 p1 => ?_
  cases e : tm d ρ with
  | none => rw [e] at p1; exact p1.elim
  | some ρ' =>
    rw [e] at p1
    exact ⟨C, B0, H0, ρ, S1, B1, d, ρ', r1, x1, e, fun σ' r' _ _ => p1 σ' B1 H1 r' fun _ _ h => h⟩
def notTup : Expr → Bool
  | .Tuple .. => false
  | .List .. => false
  | _ => true
theorem stores_plain {t e : Expr} (h : notTup e = true) (env : PySem.Env) : swappedStores [t] e env = pure none := by
  cases e <;> first | (cases t <;> rfl) | exact absurd h (by simp [notTup])
/-- a, b = f(..) -/
theorem d_asg {es : List Expr} {k : Nat} {q : Pos} {e : Expr} {is : List Nat} {tm : TM} {me : ME} (hp : notComp e = true) (ht : notTup e = true) (h : PE X e (rdE Γ W me)) (hg : PG X (.Tuple es k q) (rdP Γ is tm)) :
    PS X (.Assign [.Tuple es k q] e pos) (rdS Γ W (sAsg tm me)) := PS.imp (ps_asg h hg (swap_plain hp (some (.Tuple es k q)) pos.line X.env) (stores_plain ht X.env) rfl) fun _ _ _ q => post_asg q
/-- a, b = x, y -/
def sPar (i j : Nat) (ma mb : ME) : MS := fun ρ => ma ρ >>= fun d => mb ρ >>= fun e => pure (.nx ((ρ.set i (.val d)).set j (.val e)))
theorem d_par {i j : Nat} {x y : Str} {a b : Expr} {ma mb : ME} {px py pt pt2 : Pos} {kt k2 : Nat} (hc : X.calm = true) (hN : X.N.Nodup) (hi : X.N[i]? = some x) (hj : X.N[j]? = some y) (hij : i ≠ j)
    (hx : X.env.scope.names.lookup x = some .local) (hy : X.env.scope.names.lookup y = some .local) (ha : PE X a (rdE Γ W ma)) (hb : PE X b (rdE Γ W mb)) (hf : plainE a = true) (hf2 : plainE b = true)
    (hw : swappedStores [.Tuple [.Name x px, .Name y py] kt pt] (.Tuple [a, b] k2 pt2) X.env = pure (some [x, y])) :
    PS X (.Assign [.Tuple [.Name x px, .Name y py] kt pt] (.Tuple [a, b] k2 pt2) pos) (rdS Γ W (sPar i j ma mb)) :=
  PS.imp (ps_par hc hN hi hj hij hx hy (pa_cons ha (pa_cons hb pa_nil (star_plain hf2 [] X.env)) (star_plain hf [b] X.env)) hw rfl) fun E σ H ⟨C, B0, H0, ρ, S, B, r, q⟩ =>
    rd_bindS r q fun d S1 v H1 B1 r1 n1 x1 p1 => rd_bindS r1 p1 fun e S2 u H2 B2 r2 n2 x2 p2 =>
      ⟨v, u, rfl, p2 _ B2 H2 ((r2.set i (x1.up n2.sb)).set j x2) fun _ _ h => h⟩
/-! loops -/
def again (f : Fl) (n : MS) : M Fl := match f with
  | .nx ρ => n ρ
  | .ct ρ => n ρ
  | .bk ρ => pure (.nx ρ)
  | .rt d => pure (.rt d)
def whileN (mc : ME) (mb : MS) : Nat → MS
  | 0 => fun _ => bad
  | n + 1 => fun ρ => mc ρ >>= fun d => asB d >>= fun c => if c = true then mb ρ >>= fun f => again f (whileN mc mb n) else pure (.nx ρ)
def sWhile (fuel : Env → Nat) (mc : ME) (mb : MS) : MS := fun ρ => whileN mc mb (fuel ρ) ρ
/-- behind a turn's body -/
theorem turn_end {mb n : MS} {C : Option Addr} {B0 H0 Bs B H : Hp} {ρ : Env} {S : SS} {σ : L2.St} {E : Ends} {N : L2.St → Hp → Prop} (r : Rel Γ C B0 H0 ρ S σ B H) (q : PostS Γ C W B0 H0 B E ((mb ρ >>= fun f => again f n) S)) (s : Sub Bs B)
    (k : ∀ ρ' S' σ' B' H', Rel Γ C B0 H0 ρ' S' σ' B' H' → Sub Bs B' → PostS Γ C W B0 H0 B' E (n ρ' S') → N σ' H') : rdS Γ W mb { E with nx := N, ct := N, bk := E.nx } σ H := by
  refine ⟨C, B0, H0, ρ, S, B, r, ?_⟩
  rw [bind_at] at q
  cases e : mb ρ S with
  | ok f S' =>
    rw [e] at q
    cases f with
    | nx ρ' => exact fun σ' B' H' r' s' => k ρ' S' σ' B' H' r' (fun a o h => s' a o (s a o h)) (q.up s')
    | ct ρ' => exact fun σ' B' H' r' s' => k ρ' S' σ' B' H' r' (fun a o h => s' a o (s a o h)) (q.up s')
    | bk ρ' => exact q
    | rt d => exact q
  | exc j S' => rw [e] at q; exact q
  | bad => rw [e] at q; exact q
theorem d_while {c : Expr} {body : List Stmt} {fuel : Env → Nat} {mc : ME} {mb : MS} (hp : PassesOwn (model X.prog X.w) X.A X.env X.xe) (hc : PT X c (rdB Γ W mc)) (hb : PSs X body (rdS Γ W mb)) : PS X (.While c body [] pos) (rdS Γ W (sWhile fuel mc mb)) :=
  PS.imp (ps_while hp hc hb) fun E σ H ⟨C, B0, H0, ρ, S, B, r, q⟩ => by
    refine ⟨fun n σ H => ∃ ρ S B, Rel Γ C B0 H0 ρ S σ B H ∧ PostS Γ C W B0 H0 B E (whileN mc mb n ρ S), ⟨fuel ρ, ρ, S, B, r, q⟩, ?_⟩
    rintro n σ1 H1 ⟨ρ1, S1, B1, r1, q1⟩
    cases n with
    | zero => exact q1.elim
    | succ n =>
      refine rd_bindSB r1 q1 fun b S2 H2 B2 r2 n2 p2 => ?_
      cases b with
      | false =>
        rw [if_neg (by simp)] at p2 ⊢
        exact p2 σ1 B2 H2 r2 fun _ _ h => h
      | true =>
        rw [if_pos rfl] at p2 ⊢
        exact ⟨fun σ' H' => ∃ ρ S B, Rel Γ C B0 H0 ρ S σ' B H' ∧ PostS Γ C W B0 H0 B E (whileN mc mb n ρ S), fun σ' H' h => ⟨n, Nat.lt_succ_self n, h⟩,
          turn_end (Bs := B2) r2 p2 (fun _ _ h => h) fun ρ' S' σ' B' H' r' _ q' => ⟨ρ', S', B', r', q'⟩⟩
def forN (tm : TM) (mb : MS) : List D → MS
  | [] => fun ρ => pure (.nx ρ)
  | d :: r => fun ρ => match tm d ρ with
    | some ρ' => mb ρ' >>= fun f => again f (forN tm mb r)
    | none => bad
def sFor (mi : MI) (tm : TM) (mb : MS) : MS := fun ρ => mi ρ >>= fun ds => forN tm mb ds ρ
theorem d_for {tg iter : Expr} {body : List Stmt} {mi : MI} {is : List Nat} {tm : TM} {mb : MS} (hp : PassesOwn (model X.prog X.w) X.A X.env X.xe) (hc : X.calm = true) (hpl : plainE iter = true) (hi : PI X tg iter (rdI pF Γ W mi)) (hg : PG X tg (rdP Γ is tm)) (hb : PSs X body (rdS Γ W mb)) :
    PS X (.For tg iter body [] pos) (rdS Γ W (sFor mi tm mb)) :=
  PS.imp (ps_for hp hc hi hg hb (set_plain hpl X.env)) fun E σ H ⟨C, B0, H0, ρ, S, B, r, q⟩ => by
    refine ⟨C, B0, H0, ρ, S, B, r, ?_⟩
    unfold sFor at q
    rw [bind_at] at q
    cases e : mi ρ S with
    | exc k S1 => rw [e] at q; exact fun H' B' n => q σ B' H' (r.nx.trans n)
    | bad => rw [e] at q; exact q
    | ok ds S1 =>
      rw [e] at q
      intro H1 B1 J n1 wk
      obtain ⟨hz, G, Y, wl, hG, hY⟩ := wk
      refine for_it wl (fun i σ H => ∃ ρ S B, Rel Γ C B0 H0 ρ S σ B H ∧ Sub B1 B ∧ PostS Γ C W B0 H0 B E (forN tm mb (ds.drop i) ρ S)) ?_ ?_ ?_ ?_
      · exact ⟨ρ, S1, B1, r.up n1, fun _ _ h => h, q.up n1.sb⟩
      · rintro i σ H _ ⟨ρ, S, B, r, s, _⟩
        exact hG B H ⟨s, r.nx.sh⟩
      · rintro i x σ H H' hlt ⟨ρ2, S2, B2, r2, s2, q2⟩ y
        obtain ⟨B3, d, hd, n3, rx⟩ := hY i B2 H S2 x H' hlt ⟨s2, r2.nx.sh⟩ r2.nx.here y
        have e0 : ds.drop i = d :: ds.drop (i + 1) := by
          obtain ⟨hi', rfl⟩ := List.getElem?_eq_some_iff.mp hd
          exact List.drop_eq_getElem_cons hi'
        rw [e0] at q2
        unfold forN at q2
        cases et : tm d ρ2 with
        | none => rw [et] at q2; exact q2.elim
        | some ρ' =>
          rw [et] at q2
          have q2 := q2.up n3.sb
          exact ⟨C, B0, H0, ρ2, S2, B3, d, ρ', r2.up n3, rx, et, fun σ' r' _ _ => turn_end r' q2 (fun a o h => n3.sb a o (s2 a o h)) fun ρ5 S5 σ5 B5 H5 r5 s5 q5 => ⟨ρ5, S5, B5, r5, s5, q5⟩⟩
      · rintro σ H ⟨ρ2, S2, B2, r2, s2, q2⟩
        rw [List.drop_length] at q2
        exact q2 σ B2 H r2 fun _ _ h => h
end Pv
namespace Pv
open PySem PySem.Spec PyProof.Rows L2
variable {Γ : Gm} {X : Cx} {W : WX} {pos p : Pos}
/-! things of one's own: made, changed, held for good -/
section
variable {C : Option Addr} {B0 H0 B1 H1 B H : Hp} {S S1 : SS} {ρ : Env} {σ : L2.St}
theorem Ext.free {a : Addr} (e : Ext C H H1) (h : H1 a = none) : H a = none := by
  cases q : H a with
  | none => rfl
  | some u => exact absurd h (e.there a (by rw [q]; simp))
theorem sub_none {a : Addr} (s : Sub B H) (h : H a = none) : B a = none := by
  cases q : B a with
  | none => rfl
  | some u => rw [s _ _ q] at h; cases h
/-- a slot is filled -/
theorem Rel.setS {i : Nat} {s : Slot} {v : V} (r : Rel Γ C B0 H0 ρ S σ B H) (h : SlotOk Γ.K C H0 B H s (some (some v)))
    (hd : s.isOwn = true → ∀ (j : Nat) (a : Addr), i ≠ j → (ρ.getD j .none).isOwn = true → σ[j]? = some (some (V.ref a)) → v ≠ .ref a) : Rel Γ C B0 H0 (ρ.set i s) S (σ.set i (some v)) B H := by
  have out : ∀ {j : Nat}, ¬ (i = j ∧ i < ρ.length) → (ρ.getD j .none).isOwn = true → i ≠ j := fun {j} nj hj z => by
    subst z
    rw [List.getD_eq_getElem?_getD, List.getElem?_eq_none (by have : ¬ i < ρ.length := fun hl => nj ⟨rfl, hl⟩; omega)] at hj
    cases hj
  refine ⟨r.nx, by rw [List.length_set, List.length_set]; exact r.len, fun j => ?_, fun j k a hjk hj hk e1 e2 => ?_⟩
  · rw [getD_set]
    split
    · rename_i z
      obtain ⟨rfl, hl⟩ := z
      rw [List.getElem?_set_self (by rw [← r.len]; exact hl)]
      exact h
    · rename_i z
      by_cases e : i = j
      · subst e
        have e0 : ρ.getD i .none = .none := by
          rw [List.getD_eq_getElem?_getD, List.getElem?_eq_none (by have : ¬ i < ρ.length := fun hl => z ⟨rfl, hl⟩; omega)]
          rfl
        rw [e0]
        trivial
      · rw [List.getElem?_set_ne e]
        exact r.slot j
  · rw [getD_set] at hj hk
    by_cases cj : i = j ∧ i < ρ.length
    · rw [if_pos cj] at hj
      have ck : ¬ (i = k ∧ i < ρ.length) := fun z => hjk (cj.1.symm.trans z.1)
      rw [if_neg ck] at hk
      have nk := out ck hk
      rw [List.getElem?_set_ne nk] at e2
      obtain ⟨rfl, hl⟩ := cj
      rw [List.getElem?_set_self (by rw [← r.len]; exact hl)] at e1
      exact hd hj k a nk hk e2 (by simpa using e1)
    · rw [if_neg cj] at hj
      have nj := out cj hj
      rw [List.getElem?_set_ne nj] at e1
      by_cases ck : i = k ∧ i < ρ.length
      · rw [if_pos ck] at hk
        obtain ⟨rfl, hl⟩ := ck
        rw [List.getElem?_set_self (by rw [← r.len]; exact hl)] at e2
        exact hd hk j a nj hj e1 (by simpa using e2)
      · rw [if_neg ck] at hk
        rw [List.getElem?_set_ne (out ck hk)] at e2
        exact r.dis j k a hjk hj hk e1 e2
/-- one's own list at slot i is changed -/
theorem Rel.chg {i : Nat} {s : Slot} {a : Addr} {o : HO} (r : Rel Γ C B0 H0 ρ S σ B H) (hs : (ρ.getD i .none).isOwn = true) (hσ : σ[i]? = some (some (V.ref a))) (h0 : H0 a = none) (hB : B a = none) (hC : C ≠ some a) (hp : ∀ u, H a = some u → Plain u) (lo : LenOk o)
    (h : SlotOk Γ.K C H0 B (upd H a o) s (some (some (V.ref a)))) (ho : s.isOwn = true) : Rel Γ C B0 H0 (ρ.set i s) S σ B (upd H a o) := by
  have n := r.nx.put h0 hB hC hp lo
  refine ⟨n, by rw [List.length_set]; exact r.len, fun j => ?_, fun j k b hjk hj hk e1 e2 => ?_⟩
  · rw [getD_set]
    split
    · rename_i z
      rw [← z.1, hσ]
      exact h
    · rename_i z
      by_cases e : i = j
      · subst e
        have : ρ.getD i .none = .none := by
          rw [List.getD_eq_getElem?_getD, List.getElem?_eq_none (by have : ¬ i < ρ.length := fun hl => z ⟨rfl, hl⟩; omega)]
          rfl
        rw [this] at hs
        cases hs
      · have q := r.slot j
        have nj : ∀ b, (ρ.getD j .none).isOwn = true → σ[j]? = some (some (V.ref b)) → b ≠ a := fun b hb hσ' z => by
          subst z
          exact r.dis i j b e hs hb hσ hσ'
        cases es : ρ.getD j .none with
        | none => trivial
        | val d => rw [es] at q; exact q
        | cell => rw [es] at q; exact q
        | scr ds => rw [es] at q; exact q
        | own ds =>
          rw [es] at q nj
          obtain ⟨b, xs, e1, z0, z1, z2, hb, rb⟩ := q
          exact ⟨b, xs, e1, z0, z1, z2, by rw [upd_ne (nj b rfl e1)]; exact hb, rb⟩
        | ownd ds =>
          rw [es] at q nj
          obtain ⟨b, xs, e1, z0, z1, z2, hb, kb, rb⟩ := q
          exact ⟨b, xs, e1, z0, z1, z2, by rw [upd_ne (nj b rfl e1)]; exact hb, kb, rb⟩
  · have own : ∀ {j : Nat}, ((ρ.set i s).getD j .none).isOwn = true → (ρ.getD j .none).isOwn = true := fun {j} hj => by
      rw [getD_set] at hj
      split at hj
      · rename_i z
        rw [← z.1]
        exact hs
      · exact hj
    exact r.dis j k b hjk (own hj) (own hk) e1 e2
/-- one's own thing at slot i is held for good from now on -/
theorem Rel.keep {i : Nat} {d : D} {a : Addr} {o : HO} (r : Rel Γ C B0 H0 ρ S σ B H) (hs : (ρ.getD i .none).isOwn = true) (hσ : σ[i]? = some (some (V.ref a))) (h0 : H0 a = none) (hB : B a = none) (hC : C ≠ some a) (hH : H a = some o)
    (h : Rp Γ.K (upd B a o) (V.ref a) d) : Rel Γ C B0 H0 (ρ.set i (.val d)) S σ (upd B a o) H := by
  have n := r.nx.freeze h0 hB hC hH
  have s : Sub B (upd B a o) := sub_upd hB
  refine ⟨n, by rw [List.length_set]; exact r.len, fun j => ?_, fun j k b hjk hj hk e1 e2 => ?_⟩
  · rw [getD_set]
    split
    · rename_i z
      rw [← z.1, hσ]
      exact ⟨_, rfl, h⟩
    · rename_i z
      by_cases e : i = j
      · subst e
        have : ρ.getD i .none = .none := by
          rw [List.getD_eq_getElem?_getD, List.getElem?_eq_none (by have : ¬ i < ρ.length := fun hl => z ⟨rfl, hl⟩; omega)]
          rfl
        rw [this] at hs
        cases hs
      · have q := r.slot j
        have nj : ∀ b, (ρ.getD j .none).isOwn = true → σ[j]? = some (some (V.ref b)) → b ≠ a := fun b hb hσ' z => by
          subst z
          exact r.dis i j b e hs hb hσ hσ'
        cases es : ρ.getD j .none with
        | none => trivial
        | val d =>
          rw [es] at q
          obtain ⟨v, e1, rv⟩ := q
          exact ⟨v, e1, rv.up s⟩
        | cell => rw [es] at q; exact q
        | scr ds =>
          rw [es] at q
          obtain ⟨b, xs, e1, hb, rb⟩ := q
          exact ⟨b, xs, e1, s.sqL hb, rb.up s⟩
        | own ds =>
          rw [es] at q nj
          obtain ⟨b, xs, e1, z0, z1, z2, hb, rb⟩ := q
          exact ⟨b, xs, e1, z0, by rw [upd_ne (nj b rfl e1)]; exact z1, z2, hb, rb.up s⟩
        | ownd ds =>
          rw [es] at q nj
          obtain ⟨b, xs, e1, z0, z1, z2, hb, kb, rb⟩ := q
          exact ⟨b, xs, e1, z0, by rw [upd_ne (nj b rfl e1)]; exact z1, z2, hb, kb, rb.up s⟩
  · have own : ∀ {j : Nat}, ((ρ.set i (.val d)).getD j .none).isOwn = true → (ρ.getD j .none).isOwn = true := fun {j} hj => by
      rw [getD_set] at hj
      split at hj
      · cases hj
      · exact hj
    exact r.dis j k b hjk (own hj) (own hk) e1 e2
/-- the shared cell is written -/
theorem Rel.cellW {c : Addr} {xs : List V} {ds : List D} (r : Rel Γ C B0 H0 ρ S σ B H) (hc : C = some c) (hH : ∃ o, H c = some o ∧ Plain o) (hl : xs.length ≤ sizeLine) (h : RpAll Γ.K B xs ds) : Rel Γ C B0 H0 ρ (some ds) σ B (upd H c (.lst xs)) := by
  subst hc
  obtain ⟨o, hH, pl⟩ := hH
  have n := r.nx
  have hBc : B c = none := by
    have ce := n.ce
    unfold CellOk at ce
    split at ce
    · rename_i e; cases e
    · rename_i e; cases e; exact ce.1
    · exact ce.elim
  have nB : ∀ a u, B a = some u → a ≠ c := fun a u e z => by subst z; rw [hBc] at e; cases e
  refine ⟨⟨n.sb, fun a u e => by rw [upd_ne (nB a u e)]; exact n.sh a u e, ⟨fun a u e c' t => ?_, fun a h => ?_⟩, n.nw, ⟨hBc, xs, upd_same, h⟩, fun q hq => ?_, fun a u e => ?_⟩, r.len, fun j => ?_, r.dis⟩
  · rw [upd_ne (fun z => c' (by rw [z]))]
    exact n.ex.keep a u e c' t
  · by_cases e : a = c
    · subst e; rw [upd_same]; simp
    · rw [upd_ne e]; exact n.ex.there a h
  · obtain ⟨ps, e1, e2, e3⟩ := n.tb q hq
    refine ⟨ps, ?_, e2, fun ps' cv hcv => ?_⟩
    · rw [upd_ne (fun z => by rw [z, hH] at e1; cases e1; exact pl)]
      exact e1
    · obtain ⟨c', h1, h2⟩ := e3 ps' cv hcv
      refine ⟨c', h1, ?_⟩
      rw [upd_ne (fun z => by rw [z, hH] at h2; cases h2; exact pl)]
      exact h2
  · by_cases hb : a = c
    · subst hb; rw [upd_same] at e; cases e; exact hl
    · rw [upd_ne hb] at e; exact n.ln a u e
  · have q := r.slot j
    cases es : ρ.getD j .none with
    | none => trivial
    | val d => rw [es] at q; exact q
    | cell => rw [es] at q; exact q
    | scr ds => rw [es] at q; exact q
    | own ds =>
      rw [es] at q
      obtain ⟨b, xs, e1, z0, z1, z2, hb, rb⟩ := q
      exact ⟨b, xs, e1, z0, z1, z2, by rw [upd_ne (fun z => z2 (by rw [z]))]; exact hb, rb⟩
    | ownd ds =>
      rw [es] at q
      obtain ⟨b, xs, e1, z0, z1, z2, hb, kb, rb⟩ := q
      exact ⟨b, xs, e1, z0, z1, z2, by rw [upd_ne (fun z => z2 (by rw [z]))]; exact hb, kb, rb⟩
end
/-! new things of one's own -/
/-- what is new at a -/
def NewAt (Γ : Gm) (C : Option Addr) (B H B' H' : Hp) (v : V) : D → Prop
  | .list ds => ∃ a xs, v = .ref a ∧ H a = none ∧ B' a = none ∧ C ≠ some a ∧ H' a = some (.lst xs) ∧ RpAll Γ.K B' xs ds
  | .dict es => ∃ a kvs, v = .ref a ∧ H a = none ∧ B' a = none ∧ C ≠ some a ∧ H' a = some (.dK kvs) ∧ es.map (·.1) = kvs.map (fun kv => keyD kv.1) ∧ RpAll Γ.K B' (kvs.map (·.2)) (es.map (·.2))
  | _ => False
def newD : D → Bool
  | .list _ => true
  | .dict _ => true
  | _ => false
def PostN (Γ : Gm) (C : Option Addr) (W : WX) (σ : L2.St) (B H : Hp) (Q : VK) : Res D → Prop
  | .ok d S' => newD d = true ∧ ∀ v H' B', Nxt Γ C B H S' B' H' → NewAt Γ C B H B' H' v d → Q v H'
  | .exc k S' => ∀ H' B', Nxt Γ C B H S' B' H' → W (Γ.cls k) none σ H'
  | .bad => False
/-- an expression that makes a new list or dict -/
def rdF (Γ : Gm) (W : WX) (m : ME) : TE := fun σ H Q => ∃ C B0 H0 ρ S B, Rel Γ C B0 H0 ρ S σ B H ∧ PostN Γ C W σ B H Q (m ρ S)
theorem PostN.lst {C : Option Addr} {σ : L2.St} {B H B1 H1 : Hp} {S1 : SS} {Q : VK} {xs : List V} {ds : List D} (q : PostN Γ C W σ B H Q (.ok (.list ds) S1)) (n0 : Nxt Γ C B H S1 B1 H1) (r : RpAll Γ.K B1 xs ds) (hz : ds.length ≤ sizeLine) : ∀ p, H1 p = none → Q (.ref p) (upd H1 p (.lst xs)) := fun p np => by
  have f := n0.ex.free np
  have nC := n0.here.cell_ne np
  have nB := sub_none n0.sh np
  have n := n0.put (o := .lst xs) f nB nC (fun u e => by rw [np] at e; cases e) (by show xs.length ≤ sizeLine; rw [r.len]; exact hz)
  exact q.2 _ _ _ n ⟨p, xs, rfl, f, nB, nC, upd_same, r⟩
theorem d_lstF {n : Nat} {es : List Expr} {m : MA} (h : PA X es (rdN Γ W n m)) (hn : n ≤ 1000) : PE X (.List es pos) (rdF Γ W (vLst m)) :=
  PE.imp (pe_lst h) fun σ H Q ⟨C, B0, H0, ρ, S, B, r, q⟩ => by
    refine ⟨C, B0, H0, ρ, S, B, r, ?_⟩
    unfold vLst at q
    rw [bind_at] at q
    cases e : m ρ S with
    | ok d S' =>
      rw [e] at q
      exact fun v H' B' n' x => ⟨by rw [x.1.len, x.2]; exact thousand hn, PostN.lst q n' x.1 (by rw [x.2]; exact thousand hn)⟩
    | exc k S' => rw [e] at q; exact q
    | bad => rw [e] at q; exact q
theorem d_dictF : PE X (.Dict [] [] pos) (rdF Γ W (vC (.dict []))) :=
  PE.imp pe_dnewK fun σ H Q ⟨C, B0, H0, ρ, S, B, r, q⟩ => fun p np => by
    have n0 := r.nx.here
    have nC := n0.cell_ne np
    have nB := sub_none n0.sh np
    exact q.2 _ _ _ (n0.put (o := .dK []) np nB nC (fun u e => by rw [np] at e; cases e) trivial) ⟨p, [], rfl, np, nB, nC, upd_same, rfl, .nil⟩
theorem rd_bindN {R : RR} {C : Option Addr} {σ : L2.St} {B H B0 H0 : Hp} {S : SS} {ρ : Env} {m : ME} {f : D → M D} {Q Q' : VK} (r : Rel Γ C B0 H0 ρ S σ B H) (h : PostN Γ C W σ B H Q ((m ρ >>= f) S))
    (k : ∀ d S1 v H1 B1, Rel Γ C B0 H0 ρ S1 σ B1 H1 → Nxt Γ C B H S1 B1 H1 → R Γ C B1 H1 v d → PostN Γ C W σ B H Q (f d S1) → Q' v H1) : rd R Γ W m σ H Q' := by
  refine ⟨C, B0, H0, ρ, S, B, r, ?_⟩
  rw [bind_at] at h
  cases e : m ρ S with
  | ok d S' => rw [e] at h; exact fun v H' B' n x => k d S' v H' B' (r.up n) n x h
  | exc j S' => rw [e] at h; exact h
  | bad => rw [e] at h; exact h
/-- [x, ..] * n -/
theorem d_repF {a b : Expr} {ma mb : ME} (ha : PE X a (rdE Γ W ma)) (hb : PE X b (rdE Γ W mb)) : PE X (.BinOp a .Mult b pos) (rdF Γ W (v2 mulD ma mb)) :=
  PE.imp (pe_op op_mulP ha hb) fun σ H Q ⟨C, B0, H0, ρ, S, B, r0, q⟩ => by
    refine ⟨C, B0, H0, ρ, S, B, r0, ?_⟩
    unfold v2 at q
    rw [bind_at] at q
    cases e : ma ρ S with
    | exc k S' => rw [e] at q; exact q
    | bad => rw [e] at q; exact q
    | ok d S1 =>
      rw [e] at q
      intro v H1 B1 n1 x1
      refine ⟨C, B0, H0, ρ, S1, B1, r0.up n1, ?_⟩
      have q : PostN Γ C W σ B H Q ((mb ρ >>= mulD d) S1) := q
      rw [bind_at] at q
      cases e2 : mb ρ S1 with
      | exc k S' => rw [e2] at q; exact fun H' B' n => q H' B' (n1.trans n)
      | bad => rw [e2] at q; exact q
      | ok d2 S2 =>
        rw [e2] at q
        intro u H2 B2 n2 x2
        have n := n1.trans n2
        have x1 := x1.up n2.sb
        have q : PostN Γ C W σ B H Q (mulD d d2 S2) := q
        unfold mulD at q
        split at q
        · split at q
          · exact (Bool.false_ne_true q.1).elim
          · exact q.elim
        · split at q
          · rename_i h
            cases x1 with
            | lst ha ra =>
              cases x2
              refine .inr ⟨_, _, _, rfl, rfl, n2.sh _ _ ha, h.1, h.2.1, by rw [ra.len]; exact h.2.2, PostN.lst q n (flat_up ra _) (by rw [flat_len]; have := h.2.2; rw [Nat.mul_comm]; exact this)⟩
          · exact q.elim
        · exact q.elim
end Pv
namespace Pv
open PySem PySem.Spec PyProof.Rows L2
variable {Γ : Gm} {X : Cx} {W : WX} {pos p : Pos}
/-! statements about one's own things -/
/-- a slot's new content, by a value that was just made: held for good, or one's own -/
abbrev MSl := Env → M Slot
def ownSl : D → M Slot
  | .list ds => pure (.own ds)
  | .dict es => pure (.ownd es)
  | _ => bad
def PostSl (Γ : Gm) (C : Option Addr) (W : WX) (σ : L2.St) (H0 B H : Hp) (Q : VK) : Res Slot → Prop
  | .ok s S' => ∀ v H' B', Nxt Γ C B H S' B' H' → SlotOk Γ.K C H0 B' H' s (some (some v)) → (s.isOwn = true → ∃ a, v = .ref a ∧ H a = none) → Q v H'
  | .exc k S' => ∀ H' B', Nxt Γ C B H S' B' H' → W (Γ.cls k) none σ H'
  | .bad => False
def rdSl (Γ : Gm) (W : WX) (m : MSl) : TE := fun σ H Q => ∃ C B0 H0 ρ S B, Rel Γ C B0 H0 ρ S σ B H ∧ PostSl Γ C W σ H0 B H Q (m ρ S)
def slV (me : ME) : MSl := fun ρ => me ρ >>= fun d => pure (.val d)
def slN (me : ME) : MSl := fun ρ => me ρ >>= ownSl
theorem d_slV {e : Expr} {me : ME} (h : PE X e (rdE Γ W me)) : PE X e (rdSl Γ W (slV me)) := PE.imp h fun σ H Q ⟨C, B0, H0, ρ, S, B, r, q⟩ => by
  refine ⟨C, B0, H0, ρ, S, B, r, ?_⟩
  unfold slV at q
  rw [bind_at] at q
  cases e : me ρ S with
  | ok d S' => rw [e] at q; exact fun v H' B' n x => q v H' B' n ⟨v, rfl, x⟩ (fun z => by cases z)
  | exc k S' => rw [e] at q; exact q
  | bad => rw [e] at q; exact q
theorem d_slN {e : Expr} {me : ME} (h : PE X e (rdF Γ W me)) : PE X e (rdSl Γ W (slN me)) := PE.imp h fun σ H Q ⟨C, B0, H0, ρ, S, B, r, q⟩ => by
  refine ⟨C, B0, H0, ρ, S, B, r, ?_⟩
  unfold slN at q
  rw [bind_at] at q
  cases e : me ρ S with
  | exc k S' => rw [e] at q; exact q
  | bad => rw [e] at q; exact q
  | ok d S' =>
    rw [e] at q
    cases d with
    | list ds =>
      refine ⟨rfl, fun v H' B' n x => ?_⟩
      obtain ⟨a, xs, rfl, h1, h2, h3, h4, h5⟩ := x
      exact q _ H' B' n ⟨a, xs, rfl, r.nx.ex.free h1, h2, h3, h4, h5⟩ fun _ => ⟨a, rfl, h1⟩
    | dict es =>
      refine ⟨rfl, fun v H' B' n x => ?_⟩
      obtain ⟨a, xs, rfl, h1, h2, h3, h4, h5, h6⟩ := x
      exact q _ H' B' n ⟨a, xs, rfl, r.nx.ex.free h1, h2, h3, h4, h5, h6⟩ fun _ => ⟨a, rfl, h1⟩
    | _ => exact q.elim
section
variable {C : Option Addr} {B0 H0 Bs B1 H1 B H : Hp} {S : SS} {ρ : Env} {σ : L2.St} {E : Ends}
theorem own_there (r : Rel Γ C B0 H0 ρ S σ B H) {j : Nat} {a : Addr} (h : (ρ.getD j .none).isOwn = true) (hσ : σ[j]? = some (some (V.ref a))) : H a ≠ none := by
  have q := r.slot j
  cases es : ρ.getD j .none with
  | own ds =>
    rw [es] at q
    obtain ⟨b, xs, e1, _, _, _, hb, _⟩ := q
    rw [hσ] at e1
    cases e1
    rw [hb]; simp
  | ownd ds =>
    rw [es] at q
    obtain ⟨b, xs, e1, _, _, _, hb, _⟩ := q
    rw [hσ] at e1
    cases e1
    rw [hb]; simp
  | _ => rw [es] at h; cases h
theorem rd_bindSl {m : MSl} {f : Slot → M Fl} {Q : VK} (r : Rel Γ C B0 H0 ρ S σ B H) (h : PostS Γ C W B0 H0 B E ((m ρ >>= f) S))
    (k : ∀ s S1 v H1 B1, Rel Γ C B0 H0 ρ S1 σ B1 H1 → Nxt Γ C B H S1 B1 H1 → SlotOk Γ.K C H0 B1 H1 s (some (some v)) → (s.isOwn = true → ∃ a, v = .ref a ∧ H a = none) → PostS Γ C W B0 H0 B1 E (f s S1) → Q v H1) : rdSl Γ W m σ H Q := by
  refine ⟨C, B0, H0, ρ, S, B, r, ?_⟩
  rw [bind_at] at h
  cases e : m ρ S with
  | ok d S' => rw [e] at h; exact fun v H' B' n x y => k d S' v H' B' (r.up n) n x y (h.up n.sb)
  | exc j S' => rw [e] at h; exact fun H' B' n => h σ B' H' (r.nx.trans n)
  | bad => rw [e] at h; exact h
end
def sNew (i : Nat) (m : MSl) : MS := fun ρ => m ρ >>= fun s => pure (.nx (ρ.set i s))
theorem d_new {i : Nat} {x : Str} {e : Expr} {m : MSl} {q : Pos} (hN : X.N.Nodup) (hi : X.N[i]? = some x) (hx : Loc X.env.scope x) (hf : X.fn x = true ∨ X.env.scope.names.lookup x = some .local) (hp : notComp e = true) (h : PE X e (rdSl Γ W m)) :
    PS X (.Assign [.Name x q] e pos) (rdS Γ W (sNew i m)) := PS.imp (ps_set hN hi hx h (swap_plain hp _ _ _) hf) fun E σ H ⟨C, B0, H0, ρ, S, B, r, q⟩ =>
  rd_bindSl r q fun s S1 v H1 B1 r1 n1 x1 f1 p1 => p1 _ B1 H1 (r1.setS x1 fun hs j a _ hj hσ z => by
    obtain ⟨b, rfl, hb⟩ := f1 hs
    cases z
    exact own_there r hj hσ hb) fun _ _ h => h
def sParN (i j : Nat) (ma mb : MSl) : MS := fun ρ => ma ρ >>= fun s => mb ρ >>= fun t => pure (.nx ((ρ.set i s).set j t))
theorem d_parN {i j : Nat} {x y : Str} {a b : Expr} {ma mb : MSl} {px py pt pt2 : Pos} {kt k2 : Nat} (hc : X.calm = true) (hN : X.N.Nodup) (hi : X.N[i]? = some x) (hj : X.N[j]? = some y) (hij : i ≠ j)
    (hx : X.env.scope.names.lookup x = some .local) (hy : X.env.scope.names.lookup y = some .local) (ha : PE X a (rdSl Γ W ma)) (hb : PE X b (rdSl Γ W mb)) (hf : plainE a = true) (hf2 : plainE b = true)
    (hw : swappedStores [.Tuple [.Name x px, .Name y py] kt pt] (.Tuple [a, b] k2 pt2) X.env = pure (some [x, y])) :
    PS X (.Assign [.Tuple [.Name x px, .Name y py] kt pt] (.Tuple [a, b] k2 pt2) pos) (rdS Γ W (sParN i j ma mb)) :=
  PS.imp (ps_par hc hN hi hj hij hx hy (pa_cons ha (pa_cons hb pa_nil (star_plain hf2 [] X.env)) (star_plain hf [b] X.env)) hw rfl) fun E σ H ⟨C, B0, H0, ρ, S, B, r, q⟩ =>
    rd_bindSl r q fun s S1 v H1 B1 r1 n1 x1 f1 p1 => rd_bindSl r1 p1 fun t S2 u H2 B2 r2 n2 x2 f2 p2 => by
      have vth : s.isOwn = true → ∃ a, v = .ref a ∧ H a = none ∧ H1 a ≠ none := fun hs => by
        obtain ⟨a, rfl, ha⟩ := f1 hs
        refine ⟨a, rfl, ha, ?_⟩
        cases s with
        | own ds =>
          obtain ⟨b, xs, e1, _, _, _, hb, _⟩ := x1
          cases e1
          rw [hb]; simp
        | ownd ds =>
          obtain ⟨b, xs, e1, _, _, _, hb, _⟩ := x1
          cases e1
          rw [hb]; simp
        | _ => cases hs
      refine ⟨v, u, rfl, p2 _ B2 H2 ((r2.setS (i := i) (x1.up n2) fun hs k a _ hk hσ z => ?_).setS (i := j) x2 fun ht k a hjk hk hσ z => ?_) fun _ _ h => h⟩
      · obtain ⟨a', rfl, ha', _⟩ := vth hs
        cases z
        exact own_there r hk hσ ha'
      · obtain ⟨a', rfl, ha'⟩ := f2 ht
        cases z
        rw [getD_set] at hk
        by_cases ck : i = k ∧ i < ρ.length
        · rw [if_pos ck] at hk
          obtain ⟨rfl, hl⟩ := ck
          rw [List.getElem?_set_self (by rw [← r.len]; exact hl)] at hσ
          obtain ⟨a2, rfl, _, h2⟩ := vth hk
          cases hσ
          exact h2 ha'
        · rw [if_neg ck] at hk
          by_cases e : i = k
          · subst e
            rw [List.getD_eq_getElem?_getD, List.getElem?_eq_none (by have : ¬ i < ρ.length := fun hl => ck ⟨rfl, hl⟩; omega)] at hk
            cases hk
          · rw [List.getElem?_set_ne e] at hσ
            exact own_there r1 hk hσ ha'
/-- one's own list is held for good from here on -/
def sKeep (i : Nat) (m : MS) : MS := fun ρ => match ρ.getD i .none with
  | .own ds => m (ρ.set i (.val (.list ds)))
  | .ownd es => m (ρ.set i (.val (.dict es)))
  | _ => m ρ
theorem rdS_keep {i : Nat} {m : MS} {E : Ends} {σ : L2.St} {H : Hp} (h : rdS Γ W (sKeep i m) E σ H) : rdS Γ W m E σ H := by
  obtain ⟨C, B0, H0, ρ, S, B, r, q⟩ := h
  unfold sKeep at q
  cases e : ρ.getD i .none with
  | own ds =>
    rw [e] at q
    obtain ⟨a, xs, e1, z0, z1, z2, hb, rb⟩ := r.at e
    exact ⟨C, B0, H0, _, S, _, r.keep (by rw [e]; rfl) e1 z0 z1 z2 hb (.lst upd_same (rb.up (sub_upd z1))), q.up (sub_upd z1)⟩
  | ownd es =>
    rw [e] at q
    obtain ⟨a, xs, e1, z0, z1, z2, hb, kb, rb⟩ := r.at e
    exact ⟨C, B0, H0, _, S, _, r.keep (by rw [e]; rfl) e1 z0 z1 z2 hb (.dct upd_same kb (rb.up (sub_upd z1))), q.up (sub_upd z1)⟩
  | none => rw [e] at q; exact ⟨C, B0, H0, ρ, S, B, r, q⟩
  | val d => rw [e] at q; exact ⟨C, B0, H0, ρ, S, B, r, q⟩
  | cell => rw [e] at q; exact ⟨C, B0, H0, ρ, S, B, r, q⟩
  | scr ds => rw [e] at q; exact ⟨C, B0, H0, ρ, S, B, r, q⟩
theorem d_keep {i : Nat} {st : Stmt} {m : MS} (h : PS X st (rdS Γ W m)) : PS X st (rdS Γ W (sKeep i m)) := PS.imp h fun _ _ _ q => rdS_keep q
theorem d_keeps {i : Nat} {st : List Stmt} {m : MS} (h : PSs X st (rdS Γ W m)) : PSs X st (rdS Γ W (sKeep i m)) := PSs.imp h fun _ _ _ q => rdS_keep q
/-- x.append(e) -/
def ownL (ρ : Env) (i : Nat) : M (List D) := match ρ.getD i .none with
  | .own ds => pure ds
  | _ => bad
def sApp (i : Nat) (me : ME) : MS := fun ρ => ownL ρ i >>= fun ds => me ρ >>= fun d => if ds.length < sizeLine then pure (.nx (ρ.set i (.own (ds ++ [d])))) else bad
theorem ownL_bind {C : Option Addr} {B0 H0 Bs B H : Hp} {S : SS} {ρ : Env} {σ : L2.St} {E : Ends} {i : Nat} {f : List D → M Fl} (r : Rel Γ C B0 H0 ρ S σ B H) (q : PostS Γ C W B0 H0 Bs E ((ownL ρ i >>= f) S)) :
    ∃ ds a xs, (ρ.getD i .none).isOwn = true ∧ σ[i]? = some (some (V.ref a)) ∧ H0 a = none ∧ B a = none ∧ C ≠ some a ∧ H a = some (.lst xs) ∧ RpAll Γ.K B xs ds ∧ ρ.getD i .none = .own ds ∧ PostS Γ C W B0 H0 Bs E (f ds S) := by
  unfold ownL at q
  cases e : ρ.getD i .none with
  | own ds =>
    rw [e] at q
    obtain ⟨a, xs, e1, z0, z1, z2, hb, rb⟩ := r.at e
    exact ⟨ds, a, xs, rfl, e1, z0, z1, z2, hb, rb, rfl, q⟩
  | _ => rw [e] at q; exact q.elim
theorem Rel.lst {C : Option Addr} {B0 H0 B H : Hp} {S : SS} {ρ : Env} {σ : L2.St} {i : Nat} {a : Addr} {xs vs : List V} {ds : List D} (r : Rel Γ C B0 H0 ρ S σ B H) (hs : (ρ.getD i .none).isOwn = true) (hσ : σ[i]? = some (some (V.ref a))) (h0 : H0 a = none) (hB : B a = none) (hC : C ≠ some a)
    (hH : H a = some (.lst xs)) (rv : RpAll Γ.K B vs ds) (hz : ds.length ≤ sizeLine) : Rel Γ C B0 H0 (ρ.set i (.own ds)) S σ B (upd H a (.lst vs)) :=
  r.chg hs hσ h0 hB hC (fun u e => by rw [hH] at e; cases e; trivial) (by show vs.length ≤ sizeLine; rw [rv.len]; exact hz) ⟨a, vs, rfl, h0, hB, hC, upd_same, rv⟩ rfl
theorem d_app {i : Nat} {x : Str} {e : Expr} {me : ME} {p1 apos cpos : Pos} (hN : X.N[i]? = some x) (hv : Vis X.env.scope x) (hd : (x == ("__debug__" : Str)) = false) (hc : (x == ("__classdict__" : Str)) = false) (h : PE X e (rdE Γ W me)) (hf : plainE e = true) (hl : (apos.endLine == cpos.line) = true) :
    PS X (.Expr (.Call (.Attribute (.Name x p1) "append" apos) [e] [] cpos) pos) (rdS Γ W (sApp i me)) :=
  PS.imp (ps_expr (pe_bm PySem.F.plainAttrs_list PySem.F.slot_list_append PySem.F.type_list_append mt_append (pe_var hN hv hd hc) (pa_cons h pa_nil (star_plain hf [] X.env)) rfl (by rw [star_plain hf]; rfl) hl (star_plain hf [] X.env) rfl) rfl) fun E σ H ⟨C, B0, H0, ρ, S, B, r, q⟩ => by
    unfold sApp at q
    obtain ⟨ds, a, xs, hs, hσ, h0, hB, hC, hH, ra, es, q⟩ := ownL_bind r q
    refine ⟨_, hσ, .inl ⟨rfl, xs, .inl (.inl hH)⟩, rd_bindS r q fun d S1 v H1 B1 r1 n1 x1 p1 => ?_⟩
    split at p1
    · rename_i hz
      have hH1 := n1.ex.keep _ _ hH hC (by simp)
      have hB1 := n1.nw a hB (by rw [hH]; simp)
      refine ⟨a, xs, v, rfl, rfl, hH1, by rw [ra.len]; exact hz, ?_⟩
      exact p1 σ B1 _ (r1.lst hs hσ h0 hB1 hC hH1 ((ra.up n1.sb).app (.cons x1 .nil)) (by rw [List.length_append]; exact hz)) fun _ _ h => h
    · exact p1.elim
/-- x.extend(e) -/
def sExt (i : Nat) (me : ME) : MS := fun ρ => ownL ρ i >>= fun ds => me ρ >>= fun d => match d with
  | .list es => if ds.length + es.length ≤ sizeLine then pure (.nx (ρ.set i (.own (ds ++ es)))) else bad
  | _ => bad
theorem d_ext {i : Nat} {x : Str} {e : Expr} {me : ME} {p1 apos cpos : Pos} (hN : X.N[i]? = some x) (hv : Vis X.env.scope x) (hd : (x == ("__debug__" : Str)) = false) (hc : (x == ("__classdict__" : Str)) = false) (h : PE X e (rdT Γ W me)) (hf : plainE e = true) (hl : (apos.endLine == cpos.line) = true) :
    PS X (.Expr (.Call (.Attribute (.Name x p1) "extend" apos) [e] [] cpos) pos) (rdS Γ W (sExt i me)) :=
  PS.imp (ps_expr (pe_bm PySem.F.plainAttrs_list PySem.F.slot_list_extend PySem.F.type_list_extend mt_extend (pe_var hN hv hd hc) (pa_cons h pa_nil (star_plain hf [] X.env)) rfl (by rw [star_plain hf]; rfl) hl (star_plain hf [] X.env) rfl) rfl) fun E σ H ⟨C, B0, H0, ρ, S, B, r, q⟩ => by
    unfold sExt at q
    obtain ⟨ds, a, xs, hs, hσ, h0, hB, hC, hH, ra, es, q⟩ := ownL_bind r q
    refine ⟨_, hσ, .inl ⟨rfl, xs, .inl (.inl hH)⟩, rd_bindS r q fun d S1 v H1 B1 r1 n1 x1 p1 => ?_⟩
    split at p1
    · split at p1
      · rename_i hz
        have hH1 := n1.ex.keep _ _ hH hC (by simp)
        have hB1 := n1.nw a hB (by rw [hH]; simp)
        obtain ⟨b, ys, rfl, hb, rb⟩ := x1.list r1.nx.sh
        refine ⟨a, b, xs, ys, rfl, rfl, hH1, hb, by rw [ra.len, rb.len]; exact hz, ?_⟩
        exact p1 σ B1 _ (r1.lst hs hσ h0 hB1 hC hH1 ((ra.up n1.sb).app rb) (by rw [List.length_append]; exact hz)) fun _ _ h => h
      · exact p1.elim
    · exact p1.elim
/-- t = x.pop() -/
def sPop (tm : TM) (i : Nat) : MS := fun ρ => ownL ρ i >>= fun ds => match ds.getLast? with
  | some d => (match tm d (ρ.set i (.own ds.dropLast)) with
    | some ρ' => pure (.nx ρ')
    | none => bad)
  | none => bad
theorem RpAll.dropLast {K : PySem.W.Frag} {B : Hp} {vs : List V} {ds : List D} (r : RpAll K B vs ds) : RpAll K B vs.dropLast ds.dropLast := by
  rw [List.dropLast_eq_take, List.dropLast_eq_take, r.len]
  exact r.take _
theorem post_pop {i : Nat} {is : List Nat} {tm : TM} {E : Ends} {σ : L2.St} {H : Hp} (h : rdS Γ W (sPop tm i) E σ H) : tAsg (tBM0 Γ.K "list" rPop (tVar i)) (rdP Γ is tm) E σ H := by
  obtain ⟨C, B0, H0, ρ, S, B, r, q⟩ := h
  unfold sPop at q
  obtain ⟨ds, a, xs, hs, hσ, h0, hB, hC, hH, ra, es, q⟩ := ownL_bind r q
  cases hd : ds.getLast? with
  | none => rw [hd] at q; exact q.elim
  | some d =>
    rw [hd] at q
    cases ht : tm d (ρ.set i (.own ds.dropLast)) with
    | none => simp only [ht] at q; exact q.elim
    | some ρ' =>
      simp only [ht] at q
      rw [List.getLast?_eq_getElem?] at hd
      obtain ⟨v, e1, rv⟩ := ra.at hd
      rw [← ra.len] at e1
      have hz := r.nx.ln _ _ hH
      have hz : xs.length ≤ sizeLine := hz
      have r2 := r.lst hs hσ h0 hB hC hH ra.dropLast (by rw [List.length_dropLast, ← ra.len]; omega)
      exact ⟨_, hσ, .inl ⟨rfl, xs, .inl (.inl hH)⟩, a, xs, v, rfl, rfl, hH, e1, C, B0, H0, _, S, B, d, ρ', r2, rv, ht, fun σ' r' _ _ => q σ' B _ r' fun _ _ h => h⟩
theorem d_popN {i j : Nat} {x y : Str} {p1 q apos cpos : Pos} (hK : X.K = Γ.K) (hNd : X.N.Nodup) (hy : X.N[j]? = some y) (hyl : Loc X.env.scope y) (hf : X.fn y = true ∨ X.env.scope.names.lookup y = some .local) (hN : X.N[i]? = some x) (hv : Vis X.env.scope x) (hd : (x == ("__debug__" : Str)) = false) (hc : (x == ("__classdict__" : Str)) = false) (hl : (apos.endLine == cpos.line) = true) :
    PS X (.Assign [.Name y q] (.Call (.Attribute (.Name x p1) "pop" apos) [] [] cpos) pos) (rdS Γ W (sPop (tN j) i)) :=
  PS.imp (ps_asg (pe_bm0 PySem.F.plainAttrs_list PySem.F.slot_list_pop PySem.F.type_list_pop mt_pop (pe_var hN hv hd hc) rfl hl) (d_tn (Γ := Γ) hNd hy hyl hf) rfl rfl rfl) fun _ _ _ q => by
    rw [hK]
    exact post_pop q
theorem d_popT {i : Nat} {x : Str} {es : List Expr} {k : Nat} {tm : TM} {is : List Nat} {p1 q apos cpos : Pos} (hK : X.K = Γ.K) (hg : PG X (.Tuple es k q) (rdP Γ is tm)) (hN : X.N[i]? = some x) (hv : Vis X.env.scope x) (hd : (x == ("__debug__" : Str)) = false) (hc : (x == ("__classdict__" : Str)) = false) (hl : (apos.endLine == cpos.line) = true) :
    PS X (.Assign [.Tuple es k q] (.Call (.Attribute (.Name x p1) "pop" apos) [] [] cpos) pos) (rdS Γ W (sPop tm i)) :=
  PS.imp (ps_asg (pe_bm0 PySem.F.plainAttrs_list PySem.F.slot_list_pop PySem.F.type_list_pop mt_pop (pe_var hN hv hd hc) rfl hl) hg rfl rfl rfl) fun _ _ _ q => by
    rw [hK]
    exact post_pop q
/-- x[k] = e -/
def onSome {α β : Type} (o : Option α) (f : α → M β) : M β := match o with
  | some a => f a
  | none => bad
theorem PostS.some {C : Option Addr} {B0 H0 Bs : Hp} {E : Ends} {α : Type} {o : Option α} {f : α → M Fl} {S : SS} (q : PostS Γ C W B0 H0 Bs E (onSome o f S)) : ∃ a, o = some a ∧ PostS Γ C W B0 H0 Bs E (f a S) := by
  cases o with
  | some a => exact ⟨a, rfl, q⟩
  | none => exact q.elim
def sIxSet (i : Nat) (mk me : ME) : MS := fun ρ => me ρ >>= fun d => ownL ρ i >>= fun ds => mk ρ >>= fun kd => asI kd >>= fun k => onSome (ixN ds.length k) fun j => pure (.nx (ρ.set i (.own (ds.set j d))))
theorem asI_bindS {C : Option Addr} {B0 H0 Bs : Hp} {E : Ends} {d : D} {f : Int → M Fl} {S : SS} (q : PostS Γ C W B0 H0 Bs E ((asI d >>= f) S)) : ∃ i, d = .int i ∧ PostS Γ C W B0 H0 Bs E (f i S) := by
  cases d with
  | int i => exact ⟨i, rfl, q⟩
  | _ => exact q.elim
theorem sub_plain {k : Expr} (h : plainE k = true) (o : Expr) (q : Pos) (env : PySem.Env) (v : Value) : assign (.Subscript o k q) env v = (do
      let ov ← holding [v] (eval o env)
      let iv ← holding [v, ov] (eval k env)
      standAt q
      holding [v, ov, iv] (setItem ov iv v)
      release [v, ov, iv] []) := by
  cases k <;> first | rfl | exact absurd h (by simp [plainE])
theorem d_ixset {i : Nat} {x : Str} {e k : Expr} {mk me : ME} {p1 q : Pos} (hN : X.N[i]? = some x) (hv : Vis X.env.scope x) (hd : (x == ("__debug__" : Str)) = false) (hc : (x == ("__classdict__" : Str)) = false) (hk : PE X k (rdE Γ W mk)) (h : PE X e (rdE Γ W me)) (hp : notComp e = true) (ht : notTup e = true) (hf : plainE k = true) :
    PS X (.Assign [.Subscript (.Name x p1) k q] e pos) (rdS Γ W (sIxSet i mk me)) :=
  PS.imp (ps_asg h (pg_sub (pe_var hN hv hd hc) hk set_list (sub_plain hf _ _ _)) (swap_plain hp (some (.Subscript (.Name x p1) k q)) pos.line X.env) (stores_plain ht X.env) rfl) fun E σ H ⟨C, B0, H0, ρ, S, B, r, q⟩ => by
    refine rd_bindS r q fun d S1 v H1 B1 r1 n1 x1 p1 => ?_
    obtain ⟨ds, a, xs, hs, hσ, h0, hB, hC, hH, ra, es, p1⟩ := ownL_bind r1 p1
    refine ⟨_, hσ, rd_bindS r1 p1 fun kd S2 u H2 B2 r2 n2 x2 p2 => ?_⟩
    obtain ⟨kk, rfl, p3⟩ := asI_bindS p2
    cases x2
    obtain ⟨j, hj, p3⟩ := p3.some
    · have hH2 := n2.ex.keep _ _ hH hC (by simp)
      have hB2 := n2.nw a hB (by rw [hH]; simp)
      have hz : xs.length ≤ sizeLine := r1.nx.ln _ _ hH
      refine ⟨a, xs, kk, j, rfl, rfl, hH2, by rw [ra.len]; exact hj, ?_⟩
      exact p3 σ B2 _ (r2.lst hs hσ h0 hB2 hC hH2 (RpAll.set (x1.up n2.sb) j (ra.up n2.sb)) (by rw [List.length_set, ← ra.len]; exact hz)) fun _ _ h => h
/-! the shared cell -/
def getS : M (List D) := fun s => match s with
  | some ds => .ok ds s
  | none => .bad
def putS (ds : List D) : M Unit := fun _ => .ok () (some ds)
def isCell (ρ : Env) (i : Nat) : M Unit := match ρ.getD i .none with
  | .cell => pure ()
  | _ => bad
def vCell (i : Nat) (mk : ME) : ME := fun ρ => isCell ρ i >>= fun _ => mk ρ >>= fun kd => asI kd >>= fun k => getS >>= fun ds => optM (atI ds k)
def sCell (i : Nat) (mk me : ME) : MS := fun ρ => me ρ >>= fun d => isCell ρ i >>= fun _ => mk ρ >>= fun kd => asI kd >>= fun k => getS >>= fun ds => onSome (ixN ds.length k) fun j => putS (ds.set j d) >>= fun _ => pure (.nx ρ)
theorem cell_of {C : Option Addr} {B H : Hp} {S : SS} {ds : List D} {a : Addr} (n : Nxt Γ C B H S B H) (hc : C = some a) (hS : S = some ds) : ∃ xs, H a = some (.lst xs) ∧ RpAll Γ.K B xs ds := by
  have ce := n.ce
  subst hc
  subst hS
  exact ce.2
theorem d_cellIx {i : Nat} {x : Str} {k : Expr} {mk : ME} {p1 : Pos} (hK : X.K = Γ.K) (hN : X.N[i]? = some x) (hv : Vis X.env.scope x) (hd : (x == ("__debug__" : Str)) = false) (hc : (x == ("__classdict__" : Str)) = false) (hk : PE X k (rdE Γ W mk)) (hf : plainE k = true) :
    PE X (.Subscript (.Name x p1) k pos) (rdE Γ W (vCell i mk)) :=
  PE.imp (pe_ix ix_list (pe_var hN hv hd hc) hk (ix_plain hf)) fun σ H Q ⟨C, B0, H0, ρ, S, B, r, q⟩ => by
    unfold vCell isCell at q
    cases e : ρ.getD i .none with
    | cell =>
      rw [e] at q
      obtain ⟨a, e1, e2⟩ := r.at e
      refine ⟨_, e2, rd_bind r q fun kd S1 v H1 B1 r1 n1 x1 p1 => ?_⟩
      cases kd with
      | int j =>
        cases x1
        cases S1 with
        | none => exact p1.elim
        | some ds =>
          obtain ⟨d, hd', p1⟩ := PostV.opt (S := some ds) (o := atI ds j) p1
          obtain ⟨xs, hH, ra⟩ := cell_of r1.nx.here e1 rfl
          obtain ⟨v, e3, rv⟩ := ra.atI hd'
          exact ⟨a, xs, j, v, rfl, rfl, .inl (.inl hH), e3, p1.val r1.nx.here rv⟩
      | _ => exact p1.elim
    | _ => rw [e] at q; exact q.elim
theorem d_cellSet {i : Nat} {x : Str} {e k : Expr} {mk me : ME} {p1 q : Pos} (hN : X.N[i]? = some x) (hv : Vis X.env.scope x) (hd : (x == ("__debug__" : Str)) = false) (hc : (x == ("__classdict__" : Str)) = false) (hk : PE X k (rdE Γ W mk)) (h : PE X e (rdE Γ W me)) (hp : notComp e = true) (ht : notTup e = true) (hf : plainE k = true) :
    PS X (.Assign [.Subscript (.Name x p1) k q] e pos) (rdS Γ W (sCell i mk me)) :=
  PS.imp (ps_asg h (pg_sub (pe_var hN hv hd hc) hk set_list (sub_plain hf _ _ _)) (swap_plain hp (some (.Subscript (.Name x p1) k q)) pos.line X.env) (stores_plain ht X.env) rfl) fun E σ H ⟨C, B0, H0, ρ, S, B, r, q⟩ => by
    refine rd_bindS r q fun d S1 v H1 B1 r1 n1 x1 p1 => ?_
    unfold isCell at p1
    cases e : ρ.getD i .none with
    | cell =>
      rw [e] at p1
      obtain ⟨a, e1, e2⟩ := r1.at e
      refine ⟨_, e2, rd_bindS r1 p1 fun kd S2 u H2 B2 r2 n2 x2 p2 => ?_⟩
      obtain ⟨kk, rfl, p3⟩ := asI_bindS p2
      cases x2
      cases S2 with
      | none => exact p3.elim
      | some ds =>
        obtain ⟨xs, hH, ra⟩ := cell_of r2.nx.here e1 rfl
        obtain ⟨j, hj, p4⟩ := PostS.some (S := some ds) (o := ixN ds.length kk) (f := fun j => putS (ds.set j d) >>= fun _ => pure (Fl.nx ρ)) p3
        · have hz : xs.length ≤ sizeLine := r2.nx.ln _ _ hH
          refine ⟨a, xs, kk, j, rfl, rfl, hH, by rw [ra.len]; exact hj, ?_⟩
          exact p4 σ B2 _ (r2.cellW e1 ⟨_, hH, trivial⟩ (by rw [List.length_set]; exact hz) (RpAll.set (x1.up n2.sb) j ra)) fun _ _ h => h
    | _ => rw [e] at p1; exact p1.elim
end Pv
namespace Pv
open PySem PySem.Spec PyProof.Rows L2
variable {Γ : Gm}
/-! the meaning of a def -/
def outF (f : Fl) : M D := match f with
  | .rt d => pure d
  | .nx _ => pure .none
  | _ => bad
def startE (n : Nat) (args : List Arg) : Env := args.map Arg.slot ++ List.replicate (n - args.length) .none
def runB (n : Nat) (b : MS) : Fn := fun args => b (startE n args) >>= outF
/-- a def's body, or a block in it: what the text's checks lean on -/
structure GoodX (Γ : Gm) (k : Nat) (N : List Str) (sc : Scope) (fnb : Str → Bool) (W : WX) (X : Cx) : Prop where
  ofs : Of Γ X
  nm : X.N = N
  nd : N.Nodup
  scE : X.env.scope = sc
  kd : sc.kind = .function
  fn : X.fn = fnb
  calm : X.calm = true
  tk : Takes X W
  po : PassesOwn (model X.prog X.w) X.A X.env X.xe
  rm : Room (k + 1) X.A
  gd : X.A.guards = some []
theorem good_blk {k : Nat} {N : List Str} {sc : Scope} {fnb : Str → Bool} {W : WX} {X : Cx} (g : GoodX Γ k N sc fnb W X) {scope : Scope} (hk : scope.kind = .function) (s : Shared) (H : Hp) (C : Addr) (cl : List (Str × Addr)) (fp : List Addr) :
    GoodX Γ k N (relS scope sc) (fun x => scope.names.lookup x == some .cell) W0 (X.blk s H scope (compEnvC scope cl C X.env) fp) where
  ofs := ⟨g.ofs.prog, g.ofs.w, g.ofs.K, g.ofs.mg, g.ofs.base⟩
  nm := g.nm
  nd := g.nd
  scE := by rw [← g.scE]; rfl
  kd := hk
  fn := rfl
  calm := g.calm
  tk := takes0
  po := PassesOwn.never
  rm := g.rm
  gd := g.gd
theorem guards_deeper {A : Around} {env : PySem.Env} (h : A.guards = some []) : (A.deeper env).guards = some [] := h
/-- start: the arguments lie in the first slots -/
theorem args_slot {C : Option Addr} {B H0 H : Hp} : ∀ {vs : List V} {as : List Arg} (i : Nat), ArgsOk Γ.K C B vs as → SlotOk Γ.K C H0 B H ((as.map Arg.slot).getD i .none) ((vs.map some)[i]?)
  | _, _, _, .nil => trivial
  | _, _, 0, .cons (a := a) h r => by
    cases a with
    | d d => exact ⟨_, rfl, h⟩
    | cell => obtain ⟨c, e1, e2⟩ := h; exact ⟨c, e1, by subst e2; rfl⟩
    | scr ds => obtain ⟨c, xs, e1, e2, e3⟩ := h; exact ⟨c, xs, by subst e1; rfl, e2, e3⟩
  | _, _, i + 1, .cons h r => args_slot i r
theorem args_noown : ∀ {as : List Arg} (i : Nat), ((as.map Arg.slot).getD i .none).isOwn = false
  | [], _ => rfl
  | .d _ :: _, 0 => rfl
  | .cell :: _, 0 => rfl
  | .scr _ :: _, 0 => rfl
  | _ :: r, i + 1 => args_noown (as := r) i
theorem getD_app (xs : List Slot) (n i : Nat) : (xs ++ List.replicate n Slot.none).getD i .none = xs.getD i .none := by
  simp only [List.getD_eq_getElem?_getD]
  by_cases h : i < xs.length
  · rw [List.getElem?_append_left h]
  · rw [List.getElem?_append_right (by omega), List.getElem?_eq_none (l := xs) (by omega), List.getElem?_replicate]
    split <;> rfl
theorem rel_start {C : Option Addr} {B H : Hp} {S : SS} {vs : List V} {as : List Arg} {N : List Str} (n : Nxt Γ C B H S B H) (a : ArgsOk Γ.K C B vs as) (hl : as.length ≤ N.length) : Rel Γ C B H (startE N.length as) S (L2.start N vs) B H := by
  refine ⟨n, ?_, fun i => ?_, fun i j b _ hi _ _ _ => ?_⟩
  · unfold startE L2.start
    rw [List.length_append, List.length_append, List.length_map, List.length_map, List.length_replicate, List.length_replicate, a.len]
  · unfold startE
    rw [getD_app]
    have q := args_slot (H0 := H) (H := H) i a
    cases e : (as.map Arg.slot).getD i .none with
    | none => trivial
    | _ =>
      rw [e] at q
      have hi : i < vs.length := by
        cases Nat.lt_or_ge i vs.length with
        | inl h => exact h
        | inr h =>
          rw [List.getD_eq_getElem?_getD, List.getElem?_eq_none (by rw [List.length_map, ← a.len]; exact h)] at e
          cases e
      unfold L2.start
      rw [List.getElem?_append_left (by rw [List.length_map]; exact hi)]
      exact q
  · unfold startE at hi
    rw [getD_app, args_noown] at hi
    cases hi
/-- what is wanted at a body's end -/
theorem post_body {C : Option Addr} {B H : Hp} {S : SS} {Q : VK} {E : XK} {n : Nat} {b : MS} {as : List Arg} (q : PostF Γ C B H Q E (runB n b as S)) :
    PostS Γ C (fun cls d _ H' => E cls d H') B H B { nx := fun _ H' => Q .non H', rt := Q } (b (startE n as) S) := by
  unfold runB at q
  rw [bind_at] at q
  cases e : b (startE n as) S with
  | ok f S' =>
    rw [e] at q
    cases f with
    | nx ρ => exact fun σ B' H' r _ => q .non H' B' r.nx .non
    | rt d => exact fun v B' H' n x => q v H' B' n x
    | bk ρ => exact q.elim
    | ct ρ => exact q.elim
  | exc k S' => rw [e] at q; exact fun σ B' H' n => q H' B' n
  | bad => rw [e] at q; exact q.elim
/-- THE RULE: a def by its body's meaning -/
theorem fnG_of {k : Nat} {f : Addr} {fd : FuncData} {x q : Str} {params : Arguments} {body : List Stmt} {scope : Scope} {N ps : List Str} {b : MS} (F : FunD Γ.K x q params body scope [] [] f fd) (S : FnScope N ps scope) (hl : ps.length ≤ N.length)
    (hb : ∀ (W : WX) (X : Cx), GoodX Γ k N scope (fun _ => true) W X → PSs X body (rdS Γ W b)) : FnG Γ (k + 2) f fd ps (spF Γ ps.length (runB N.length b)) := by
  obtain ⟨oc, od, dV, kV, doc, pm, an, cdv, ct, osl, rfl, lk, hcd, _, _⟩ := F.ex
  have len : ∀ vs H Q E, spF Γ ps.length (runB N.length b) vs H Q E → vs.length = ps.length := fun vs H Q E ⟨C, B, S, as, n, a, l, _⟩ => by rw [a.len]; exact l
  constructor
  · exact len
  intro A outer s H args us vs Q E hr hg e0 hbt rv hsp
  have hlen := len vs H Q E hsp
  obtain ⟨C, B, S0, as, n, a, l, pq⟩ := hsp
  have old : ∀ b o, Γ.base.get? b = some o → s.heap.get? b = some o := fun b o e => (e0.bs b o e).1
  have KX : Γ.K.In s.heap := e0.mod.kin.keeps old
  have kinds : ∀ y ∈ ps.zip us, scope.names.lookup y.1 = some .local ∨ (scope.names.lookup y.1 = some .cell ∧ ((cellsFrom (s.heap.objs.size + 1) scope.names []).lookup y.1).isSome = true) := by
    rintro ⟨y, v⟩ hy
    cases S.par y (List.of_mem_zip hy).1 with
    | inl h => exact .inl h
    | inr h => exact .inr ⟨h, PySem.W.cellsFrom_some _ _ _ (.inl h)⟩
  refine codeAny_call_function hr.depth (KX _ _ lk) rfl S.co S.gen rfl (PySem.W.codeRec_of KX hcd) (hbt _ _ _ _ ?_)
  refine wpAny_newFunctionEnv_cells S.kind kinds fun env he s1 ic => ?_
  subst he
  refine ⟨(e0.mod.nolimit.keeps old).keeps ic.toInCall.keep, codeAny_func ?_⟩
  have I := inv_start (CX := L2.CX Γ.prog Γ.w) (E := E) S hr.hd e0 hlen rv ic
  have good : GoodX Γ k N scope (fun _ => true) (fun cls d _ H' => E cls d H') (cxOf (L2.CX Γ.prog Γ.w) Γ.prog Γ.w Γ.K Γ.mg Γ.base N q scope f cdv A outer s H E) :=
    { ofs := ⟨rfl, rfl, rfl, rfl, rfl⟩, nm := rfl, nd := S.nd, scE := rfl, kd := S.kind, fn := rfl, calm := rfl, tk := takes_of rfl rfl rfl rfl, po := passes_of rfl, rm := hr.deeper _, gd := guards_deeper hg }
  have rel := rel_start (N := N) n a (by omega)
  have run := (hb _ _ good).run [] s1 (L2.start N vs) H { nx := fun _ H' => Q .non H', rt := Q } I ⟨C, B, H, _, S0, B, rel, post_body pq⟩
  refine wpAny_mono run (fun fl s' hs => ?_) fun e s' hs => hs
  match fl, hs with
  | .ret u, ⟨v, σ', H', J, rv, q⟩ => exact ⟨v, H', J.os, J.bare, J.base, J.hok, rv, q⟩
  | .next, ⟨σ', H', J, q⟩ => exact ⟨V.non, H', J.os, J.bare, J.base, J.hok, rfl, q⟩
  | .brk, ⟨_, _, _, q⟩ => exact q.elim
  | .cont, ⟨_, _, _, q⟩ => exact q.elim
theorem FnG.mono {j k : Nat} {f : Addr} {fd : FuncData} {ps : List Str} {sp : Sp} (F : FnG Γ j f fd ps sp) (h : j ≤ k) : FnG Γ k f fd ps sp := ⟨F.len, fun A outer s H args us vs Q E hr => F.run A outer s H args us vs Q E (hr.mono h)⟩
theorem CalleeOk.mono {j k n : Nat} {x : Str} {f : Fn} (c : CalleeOk Γ j x n f) (h : j ≤ k) : CalleeOk Γ k x n f := by
  obtain ⟨fa, fd, ps, h1, h2, h3, h4, h5⟩ := c.ex
  exact ⟨fa, fd, ps, h1, h2, h3, h4, h5.mono h⟩
theorem callee_of {k : Nat} {f : Addr} {fd : FuncData} {x q : Str} {params : Arguments} {body : List Stmt} {scope : Scope} {N ps : List Str} {b : MS} (F : FunD Γ.K x q params body scope [] [] f fd) (S : FnScope N ps scope) (hl : ps.length ≤ N.length) (hm : Γ.mg x = some (.ref f)) (bd : Binds Γ.K fd ps [])
    (hb : ∀ (W : WX) (X : Cx), GoodX Γ k N scope (fun _ => true) W X → PSs X body (rdS Γ W b)) : CalleeOk Γ (k + 2) x ps.length (runB N.length b) :=
  ⟨f, fd, ps, rfl, hm, F.kp, bd, fnG_of F S hl hb⟩
end Pv
namespace Pv
open PySem PySem.Spec PyProof.Rows L2
/-- texts joined -/
def fmtD : D → M D
  | .str y => if y.length ≤ sizeLine then pure (.str y) else bad
  | .int i => if i.natAbs.log2 < 1920 then pure (.str (toString i)) else bad
  | _ => bad
def jAll : List ME → Str → ME
  | [], acc => fun _ => pure (.str acc)
  | m :: r, acc => fun ρ => m ρ >>= fun d => match d with
    | .str y => if (acc ++ y).length ≤ sizeLine then jAll r (acc ++ y) ρ else bad
    | _ => bad
def vJs (ms : List ME) : ME := jAll ms Str.empty
/-! the code as a term of our own: its meaning, its look at the text, and that the look is enough -/
inductive Bop where
  | add | sub | mul | fdiv | mod | pow | shl | shr | and | or | xor
def Bop.op : Bop → Operator
  | .add => .Add | .sub => .Sub | .mul => .Mult | .fdiv => .FloorDiv | .mod => .Mod | .pow => .Pow | .shl => .LShift | .shr => .RShift | .and => .BitAnd | .or => .BitOr | .xor => .BitXor
def Bop.sem : Bop → D → D → M D
  | .add => addD | .sub => subD | .mul => mulD | .fdiv => fdivD | .mod => modD | .pow => powD | .shl => shlD | .shr => shrD | .and => andD | .or => orD | .xor => xorD
inductive Uop where
  | neg | inv
def Uop.op : Uop → UnaryOp
  | .neg => .USub | .inv => .Invert
def Uop.sem : Uop → D → M D
  | .neg => negD | .inv => invD
inductive Cop where
  | eq | ne | lt | le | gt | ge | isIn | notIn | isN | notN
def Cop.op : Cop → CmpOp
  | .eq => .Eq | .ne => .NotEq | .lt => .Lt | .le => .LtE | .gt => .Gt | .ge => .GtE | .isIn => .In | .notIn => .NotIn | .isN => .Is | .notN => .IsNot
def Cop.sem : Cop → D → D → M D
  | .eq => eqD | .ne => neD | .lt => ltD | .le => leD | .gt => gtD | .ge => geD | .isIn => inD | .notIn => notInD | .isN => isND | .notN => notND
inductive B1 where
  | len | abs | int | max | min | sum | all | any | sorted | str | repr | tuple | list
def B1.nm : B1 → Str
  | .len => "len" | .abs => "abs" | .int => "int" | .max => "max" | .min => "min" | .sum => "sum" | .all => "all" | .any => "any" | .sorted => "sorted" | .str => "str" | .repr => "repr" | .tuple => "tuple" | .list => "list"
def B1.sem : B1 → D → M D
  | .len => lenD | .abs => absD | .int => intD | .max => maxD | .min => minD | .sum => sumD | .all => allD | .any => anyD | .sorted => sortedD | .str => strD | .repr => reprD | .tuple => tupleD | .list => listD
inductive B2 where
  | max | min
def B2.nm : B2 → Str
  | .max => "max" | .min => "min"
def B2.sem : B2 → D → D → M D
  | .max => max2D | .min => min2D
inductive T where
  | nm (i : Nat) | tup (is : List Nat)
mutual
inductive E where
  | var (i : Nat) | peek (i : Nat) | scr (i : Nat)
  | int (n : Int) | str (s : Str) | bl (b : Bool) | non | glob (x : Str) (d : D)
  | bin (o : Bop) (a b : E) | un (o : Uop) (a : E) | cmp (o : Cop) (a b : E) | chain (o o' : Cop) (a b c : E)
  | not (a : E) | ands (es : Es) | ors (es : Es) | ite (c a b : E)
  | ix (a b : E) | cell (i : Nat) (k : E) | sl (a : E) (lo hi : Oe)
  | tup (es : Es) | lst (es : Es) | tupS (es : Es) | lstS (es : Es) | fmt (a : E) | fstr (es : Es) | dead
  | call (x : Str) (f : Fn) (as : As) | b1 (b : B1) (a : E) | b2 (b : B2) (a b' : E)
  | lc (own : List (Str × Nat)) (it : It) (t : T) (elt : E) | lcIf (own : List (Str × Nat)) (it : It) (t : T) (c elt : E)
inductive Oe where
  | no | yes (e : E)
inductive Es where
  | nil | cons (e : E) (r : Es) | star (e : E) (r : Es)
inductive As where
  | nil | cons (e : E) (r : As) | cell (i : Nat) (r : As) | scr (i : Nat) (r : As)
inductive It where
  | seq (e : E) | r1 (a : E) | r2 (a b : E) | zip (a b : E)
end
def T.ix : T → List Nat
  | .nm i => [i]
  | .tup is => is
def tsOf : List Nat → TMs
  | [] => tsNil
  | i :: r => tsCons (tN i) (tsOf r)
def T.den : T → TM
  | .nm i => tN i
  | .tup is => tT is.length (tsOf is)
mutual
def E.den : E → ME
  | .var i => vVar i
  | .peek i => vPeek i
  | .scr i => vScr i
  | .int n => vC (.int n)
  | .str s => vC (.str s)
  | .bl b => vC (.bool b)
  | .non => vC .none
  | .glob _ d => vC d
  | .bin o a b => v2 o.sem a.den b.den
  | .un o a => v1 o.sem a.den
  | .cmp o a b => v2 o.sem a.den b.den
  | .chain o o' a b c => vChain o.sem o'.sem a.den b.den c.den
  | .not a => vNot a.den
  | .ands es => es.denAnd
  | .ors es => es.denOr
  | .ite c a b => vIf c.den a.den b.den
  | .ix a b => v2 ixD a.den b.den
  | .cell i k => vCell i k.den
  | .sl a lo hi => vSl a.den lo.den hi.den
  | .tup es => vTup es.den
  | .lst es => vLst es.den
  | .tupS es => vTupS es.den
  | .lstS es => vLstS es.den
  | .dead => fun _ => bad
  | .fmt a => v1 fmtD a.den
  | .fstr es => vJs es.denL
  | .call _ f as => vCall f as.den
  | .b1 b a => v1 b.sem a.den
  | .b2 b a b' => v2 b.sem a.den b'.den
  | .lc own it t elt => vLc (own.map (·.2)) it.den t.den (vC (.bool true)) elt.den
  | .lcIf own it t c elt => vLc (own.map (·.2)) it.den t.den c.den elt.den
def Es.denL : Es → List ME
  | .nil => []
  | .cons e r => e.den :: r.denL
  | .star _ _ => []
def Oe.den : Oe → MO
  | .no => oNo
  | .yes e => oYes e.den
def Es.den : Es → MA
  | .nil => aNil
  | .cons e r => aCons e.den r.den
  | .star e r => aStar e.den r.den
def Es.denAnd : Es → ME
  | .nil => fun _ => bad
  | .cons e .nil => e.den
  | .cons e r => vAnd e.den r.denAnd
  | .star _ _ => fun _ => bad
def Es.denOr : Es → ME
  | .nil => fun _ => bad
  | .cons e .nil => e.den
  | .cons e r => vOr e.den r.denOr
  | .star _ _ => fun _ => bad
def As.den : As → MG
  | .nil => gNil
  | .cons e r => gCons e.den r.den
  | .cell i r => gCell i r.den
  | .scr i r => gScr i r.den
def It.den : It → MI
  | .seq e => iSeq e.den
  | .r1 a => iR1 a.den
  | .r2 a b => iR2 a.den b.den
  | .zip a b => iZip a.den b.den
end
/-! the look at the text -/
def noDbg (x : Str) : Bool := !(x == ("__debug__" : Str)) && !(x == ("__classdict__" : Str)) && !(x == ("__name__" : Str))
def visB (sc : Scope) (x : Str) : Bool := noDbg x && (match sc.names.lookup x with
  | some .local => true
  | some .cell => true
  | some .free => true
  | _ => false)
def glB (sc : Scope) (x : Str) : Bool := noDbg x && decide (sc.names.lookup x = some .globalImplicit)
def locB (sc : Scope) (fnb : Str → Bool) (x : Str) : Bool := match sc.names.lookup x with
  | some .local => true
  | some .cell => fnb x
  | _ => false
def nameB (N : List Str) (sc : Scope) (i : Nat) (x : Str) : Bool := decide (N[i]? = some x) && visB sc x
def tgB (N : List Str) (sc : Scope) (fnb : Str → Bool) (i : Nat) : Expr → Bool
  | .Name x _ => decide (N[i]? = some x) && locB sc fnb x
  | _ => false
def tgsB (N : List Str) (sc : Scope) (fnb : Str → Bool) : List Nat → List Expr → Bool
  | [], [] => true
  | i :: is, e :: es => tgB N sc fnb i e && tgsB N sc fnb is es
  | _, _ => false
def T.chk (N : List Str) (sc : Scope) (fnb : Str → Bool) : T → Expr → Bool
  | .nm i, e => tgB N sc fnb i e
  | .tup is, .Tuple es _ _ => tgsB N sc fnb is es
  | _, _ => false
def E.val : E → Bool
  | .peek _ => false
  | .scr _ => false
  | _ => true
mutual
def E.tok : E → Bool
  | .peek _ => false
  | .scr _ => false
  | .ite _ _ _ => false
  | .not a => a.tok
  | .ands es => es.toks
  | .ors es => es.toks
  | _ => true
def Es.toks : Es → Bool
  | .nil => true
  | .cons e r => e.tok && r.toks
  | .star _ _ => false
end
mutual
def E.chk (N : List Str) (sc : Scope) (fnb : Str → Bool) : E → Expr → Bool
  | .var i, .Name x _ => nameB N sc i x
  | .peek i, .Name x _ => nameB N sc i x
  | .scr i, .Name x _ => nameB N sc i x
  | .int n, .Constant (.int m) _ _ => decide (n = m)
  | .str s, .Constant (.str t) _ _ => decide (s = t)
  | .bl b, .Constant (.bool c) _ _ => decide (b = c)
  | .non, .Constant .none _ _ => true
  | .glob x _, .Name y _ => decide (x = y) && glB sc y
  | .bin o a b, .BinOp l op r _ => decide (op = o.op) && a.chk N sc fnb l && b.chk N sc fnb r && a.val' && b.val'
  | .un o a, .UnaryOp op l _ => decide (op = o.op) && a.chk N sc fnb l && a.val'
  | .cmp o a b, .Compare l [op] [r] _ => decide (op = o.op) && a.chk N sc fnb l && b.chk N sc fnb r && plainE r && a.val' && b.val'
  | .chain o o' a b c, .Compare l [op, op'] [r, t] _ => decide (op = o.op) && decide (op' = o'.op) && a.chk N sc fnb l && b.chk N sc fnb r && c.chk N sc fnb t && plainE t && a.val' && b.val' && c.val'
  | .not a, .UnaryOp .Not l _ => a.chk N sc fnb l && a.val
  | .ands es, .BoolOp .And l _ => es.chk N sc fnb l && !l.isEmpty
  | .ors es, .BoolOp .Or l _ => es.chk N sc fnb l && !l.isEmpty
  | .ite c a b, .IfExp l m r _ => c.chk N sc fnb l && a.chk N sc fnb m && b.chk N sc fnb r && c.tok && a.val && b.val
  | .ix a b, .Subscript l r _ => a.chk N sc fnb l && b.chk N sc fnb r && plainE r && a.val' && b.val'
  | .cell i k, .Subscript (.Name x _) r _ => nameB N sc i x && k.chk N sc fnb r && plainE r && k.val
  | .sl a lo hi, .Subscript l (.Slice u v none _) _ => a.chk N sc fnb l && lo.chk N sc fnb u && hi.chk N sc fnb v
  | .tup es, .Tuple l _ _ => es.chk N sc fnb l && decide (l.length ≤ 1000)
  | .lst es, .List l _ => es.chk N sc fnb l && decide (l.length ≤ 1000)
  | .tupS es, .Tuple l _ _ => es.chkS N sc fnb l
  | .lstS es, .List l _ => es.chkS N sc fnb l
  | .dead, _ => true
  | .fmt a, .FormattedValue l (-1) none _ => a.chk N sc fnb l && a.val
  | .fstr es, .JoinedStr l _ => es.chk N sc fnb l && decide (2 ≤ l.length)
  | .call x _ as, .Call (.Name y _) l [] _ => decide (x = y) && glB sc y && as.chk N sc fnb l && plains l
  | .b1 b a, .Call (.Name y _) [l] [] _ => decide (y = b.nm) && glB sc y && a.chk N sc fnb l && plainE l && a.val'
  | .b2 b a b', .Call (.Name y _) [l, r] [] _ => decide (y = b.nm) && glB sc y && a.chk N sc fnb l && b'.chk N sc fnb r && plainE l && plainE r && a.val' && b'.val'
  | .lc own it t elt, .ListComp el [⟨tg, iter, [], 0⟩] scope _ => blkC N sc scope own && it.chkT N sc fnb tg iter && plainE iter && t.ix.all (fun i => (own.map (·.2)).contains i) && t.chk N (relS scope sc) (fun x => scope.names.lookup x == some .cell) tg && elt.chk N (relS scope sc) (fun x => scope.names.lookup x == some .cell) el && elt.val
  | .lcIf own it t c elt, .ListComp el [⟨tg, iter, [i1], 0⟩] scope _ => blkC N sc scope own && it.chkT N sc fnb tg iter && plainE iter && t.ix.all (fun i => (own.map (·.2)).contains i) && t.chk N (relS scope sc) (fun x => scope.names.lookup x == some .cell) tg && c.chk N (relS scope sc) (fun x => scope.names.lookup x == some .cell) i1 && c.tok && elt.chk N (relS scope sc) (fun x => scope.names.lookup x == some .cell) el && elt.val
  | _, _ => false
/-- a value, or one's own list just read -/
def E.val' : E → Bool
  | .scr _ => false
  | _ => true
def Oe.chk (N : List Str) (sc : Scope) (fnb : Str → Bool) : Oe → Option Expr → Bool
  | .no, none => true
  | .yes e, some l => e.chk N sc fnb l && e.val
  | _, _ => false
def Es.chk (N : List Str) (sc : Scope) (fnb : Str → Bool) : Es → List Expr → Bool
  | .nil, [] => true
  | .cons e r, l :: ls => e.chk N sc fnb l && plainE l && e.val && r.chk N sc fnb ls
  | _, _ => false
def Es.chkS (N : List Str) (sc : Scope) (fnb : Str → Bool) : Es → List Expr → Bool
  | .nil, [] => true
  | .cons e r, l :: ls => e.chk N sc fnb l && plainE l && e.val && r.chkS N sc fnb ls
  | .star e r, .Starred l _ :: ls => e.chk N sc fnb l && e.val' && r.chkS N sc fnb ls
  | _, _ => false
def As.chk (N : List Str) (sc : Scope) (fnb : Str → Bool) : As → List Expr → Bool
  | .nil, [] => true
  | .cons e r, l :: ls => e.chk N sc fnb l && plainE l && e.val && r.chk N sc fnb ls
  | .cell i r, .Name x _ :: ls => nameB N sc i x && r.chk N sc fnb ls
  | .scr i r, .Name x _ :: ls => nameB N sc i x && r.chk N sc fnb ls
  | _, _ => false
/-- walked in a comprehension -/
def It.chkT (N : List Str) (sc : Scope) (fnb : Str → Bool) : It → Expr → Expr → Bool
  | .seq e, _, l => e.chk N sc fnb l
  | .r1 a, _, .Call (.Name y _) [l] [] _ => decide (y = ("range" : Str)) && glB sc y && a.chk N sc fnb l && plainE l && a.val
  | .r2 a b, _, .Call (.Name y _) [l, r] [] _ => decide (y = ("range" : Str)) && glB sc y && a.chk N sc fnb l && b.chk N sc fnb r && plainE l && plainE r && a.val && b.val
  | .zip a b, .Tuple _ _ _, .Call (.Name y _) [l, r] [] _ => decide (y = ("zip" : Str)) && glB sc y && a.chk N sc fnb l && b.chk N sc fnb r && plainE l && plainE r && a.val && b.val
  | _, _, _ => false
end
/-- walked in a for -/
def It.chkF (N : List Str) (sc : Scope) (fnb : Str → Bool) (it : It) (tg iter : Expr) : Bool := it.chkT N sc fnb tg iter && (match it with
  | .seq e => e.val
  | _ => true)
/-! what is needed of the module -/
inductive Need where
  | call (x : Str) (n : Nat) (f : Fn) | glob (x : Str) (d : D) | exn (x : Str) (k : Exn)
mutual
def E.needs : E → List Need
  | .glob x d => [.glob x d]
  | .bin _ a b => a.needs ++ b.needs
  | .un _ a => a.needs
  | .cmp _ a b => a.needs ++ b.needs
  | .chain _ _ a b c => a.needs ++ (b.needs ++ c.needs)
  | .not a => a.needs
  | .ands es => es.needs
  | .ors es => es.needs
  | .ite c a b => c.needs ++ (a.needs ++ b.needs)
  | .ix a b => a.needs ++ b.needs
  | .cell _ k => k.needs
  | .sl a lo hi => a.needs ++ (lo.needs ++ hi.needs)
  | .tup es => es.needs
  | .lst es => es.needs
  | .tupS es => es.needs
  | .lstS es => es.needs
  | .fmt a => a.needs
  | .fstr es => es.needs
  | .call x f as => .call x as.len f :: as.needs
  | .b1 _ a => a.needs
  | .b2 _ a b => a.needs ++ b.needs
  | .lc _ it _ elt => it.needs ++ elt.needs
  | .lcIf _ it _ c elt => it.needs ++ (c.needs ++ elt.needs)
  | _ => []
def Oe.needs : Oe → List Need
  | .no => []
  | .yes e => e.needs
def Es.needs : Es → List Need
  | .nil => []
  | .cons e r => e.needs ++ r.needs
  | .star e r => e.needs ++ r.needs
def As.needs : As → List Need
  | .nil => []
  | .cons e r => e.needs ++ r.needs
  | .cell _ r => r.needs
  | .scr _ r => r.needs
def As.len : As → Nat
  | .nil => 0
  | .cons _ r => r.len + 1
  | .cell _ r => r.len + 1
  | .scr _ r => r.len + 1
def It.needs : It → List Need
  | .seq e => e.needs
  | .r1 a => a.needs
  | .r2 a b => a.needs ++ b.needs
  | .zip a b => a.needs ++ b.needs
end
end Pv
namespace Pv
open PySem PySem.Spec PyProof.Rows L2
variable {Γ : Gm} {X : Cx} {W : WX} {pos p : Pos}
/-! the look is enough -/
def blts : List Str := ["len", "abs", "int", "max", "min", "sum", "all", "any", "sorted", "str", "repr", "tuple", "list", "range", "zip", "enumerate", "set", "isinstance"]
def NeedOk (Γ : Gm) (k : Nat) : Need → Prop
  | .call x n f => CalleeOk Γ (k + 1) x n f
  | .glob x d => ∃ v u, Γ.mg x = some u ∧ RelV v u ∧ ∀ B, Rp Γ.K B v d
  | .exn x e => ∃ a, Γ.mg x = some (.ref a) ∧ Γ.cls e = .ref a
def NeedsOk (Γ : Gm) (k : Nat) (l : List Need) : Prop := ∀ x ∈ l, NeedOk Γ k x
theorem NeedsOk.l {k : Nat} {a b : List Need} (h : NeedsOk Γ k (a ++ b)) : NeedsOk Γ k a := fun x z => h x (List.mem_append_left _ z)
theorem NeedsOk.r {k : Nat} {a b : List Need} (h : NeedsOk Γ k (a ++ b)) : NeedsOk Γ k b := fun x z => h x (List.mem_append_right _ z)
structure GmOk (Γ : Gm) : Prop where
  blt : ∀ x ∈ blts, Γ.mg x = none
structure EOk (Γ : Gm) (X : Cx) (W : WX) (e : E) (ex : Expr) : Prop where
  s : PE X ex (rd rrS Γ W e.den)
  t : e.val' = true → PE X ex (rdT Γ W e.den)
  v : e.val = true → PE X ex (rdE Γ W e.den)
  b : e.tok = true → PT X ex (rdB Γ W e.den)
theorem EOk.mk1 {e : E} {ex : Expr} (h : PE X ex (rdE Γ W e.den)) (hb : e.tok = true → PT X ex (rdB Γ W e.den)) : EOk Γ X W e ex := ⟨PE.toS (PE.toT h), fun _ => PE.toT h, fun _ => h, hb⟩
theorem EOk.of {e : E} {ex : Expr} (h : PE X ex (rdE Γ W e.den)) (hp : plainT ex = true) : EOk Γ X W e ex := .mk1 h fun _ => d_tst h hp
structure BOk (Γ : Gm) (X : Cx) (W : WX) (es : Es) (l : List Expr) : Prop where
  a : PA X l (rdN Γ W l.length es.den)
  pl : plains l = true
  an : ∀ pos, l.isEmpty = false → PE X (.BoolOp .And l pos) (rdE Γ W es.denAnd)
  on : ∀ pos, l.isEmpty = false → PE X (.BoolOp .Or l pos) (rdE Γ W es.denOr)
  at_ : ∀ pos, l.isEmpty = false → es.toks = true → PW X (.BoolOp .And l pos) (rdB Γ W es.denAnd)
  ot : ∀ pos, l.isEmpty = false → es.toks = true → PW X (.BoolOp .Or l pos) (rdB Γ W es.denOr)
  js : PJ X l (es.denL.map (rdE Γ W))
structure SOk (Γ : Gm) (X : Cx) (W : WX) (es : Es) (l : List Expr) : Prop where
  a : PA X l (rdA Γ W es.den)
structure GOk (Γ : Gm) (X : Cx) (W : WX) (as : As) (l : List Expr) : Prop where
  a : PA X l (rdG Γ W as.len as.den)
/-! small looks -/
theorem noDbg_1 {x : Str} (h : noDbg x = true) : (x == ("__debug__" : Str)) = false := by
  unfold noDbg at h; simp only [Bool.and_eq_true, Bool.not_eq_true'] at h; exact h.1.1
theorem noDbg_2 {x : Str} (h : noDbg x = true) : (x == ("__classdict__" : Str)) = false := by
  unfold noDbg at h; simp only [Bool.and_eq_true, Bool.not_eq_true'] at h; exact h.1.2
theorem noDbg_3 {x : Str} (h : noDbg x = true) : (x == ("__name__" : Str)) = false := by
  unfold noDbg at h; simp only [Bool.and_eq_true, Bool.not_eq_true'] at h; exact h.2
theorem visB_ok {sc : Scope} {x : Str} (h : visB sc x = true) : Vis sc x ∧ noDbg x = true := by
  unfold visB at h
  rw [Bool.and_eq_true] at h
  refine ⟨?_, h.1⟩
  have h2 := h.2
  unfold Vis
  split at h2
  · rename_i e; exact .inl e
  · rename_i e; exact .inr (.inl e)
  · rename_i e; exact .inr (.inr e)
  · cases h2
theorem locB_ok {sc : Scope} {fnb : Str → Bool} {x : Str} (h : locB sc fnb x = true) : L2.Loc sc x ∧ (fnb x = true ∨ sc.names.lookup x = some .local) := by
  unfold locB at h
  unfold L2.Loc
  split at h
  · rename_i e; exact ⟨.inl e, .inr e⟩
  · rename_i e; exact ⟨.inr e, .inl h⟩
  · cases h
theorem nameB_ok {N : List Str} {sc : Scope} {i : Nat} {x : Str} (h : nameB N sc i x = true) : N[i]? = some x ∧ Vis sc x ∧ noDbg x = true := by
  unfold nameB at h
  rw [Bool.and_eq_true] at h
  exact ⟨of_decide_eq_true h.1, visB_ok h.2⟩
theorem GoodX.vis {k : Nat} {N : List Str} {sc : Scope} {fnb : Str → Bool} (g : GoodX Γ k N sc fnb W X) {i : Nat} {x : Str} (h : nameB N sc i x = true) : X.N[i]? = some x ∧ Vis X.env.scope x ∧ (x == ("__debug__" : Str)) = false ∧ (x == ("__classdict__" : Str)) = false := by
  obtain ⟨h1, h2, h3⟩ := nameB_ok h
  rw [g.nm, g.scE]
  exact ⟨h1, h2, noDbg_1 h3, noDbg_2 h3⟩
theorem GoodX.gl {k : Nat} {N : List Str} {sc : Scope} {fnb : Str → Bool} (g : GoodX Γ k N sc fnb W X) {x : Str} (h : glB sc x = true) : Gl X x ∧ (x == ("__debug__" : Str)) = false ∧ (x == ("__name__" : Str)) = false := by
  unfold glB at h
  rw [Bool.and_eq_true] at h
  refine ⟨?_, noDbg_1 h.1, noDbg_3 h.1⟩
  have e := of_decide_eq_true h.2
  unfold Gl PySem.Env.kindOf
  rw [g.scE]
  exact e
/-- a text of several parts -/
theorem post_js {C : Option Addr} {B0 H0 : Hp} {ρ : Env} {σ : L2.St} {Q : VK} : ∀ (ms : List ME) (acc : Str) (S : SS) (B H : Hp), Rel Γ C B0 H0 ρ S σ B H → PostV rrE Γ C W σ B H Q (jAll ms acc ρ S) → tJs (ms.map (rdE Γ W)) acc σ H (fun out H1 => Q (.str out) H1)
  | [], acc, S, B, H, r, q => q _ H B r.nx.here (.str _)
  | m :: ms, acc, S, B, H, r, q => by
    unfold jAll at q
    refine rd_bind r q fun d S1 v H1 B1 r1 n1 x1 p1 => ?_
    cases d with
    | str y =>
      cases x1
      dsimp only at p1
      by_cases hl : (acc ++ y).length ≤ sizeLine
      · rw [if_pos hl] at p1
        exact ⟨y, rfl, hl, post_js ms _ S1 B1 H1 r1 p1⟩
      · rw [if_neg hl] at p1; exact p1.elim
    | _ => exact p1.elim
theorem d_fstr {v1 v2 : Expr} {rest : List Expr} {ms : List ME} (h : PJ X (v1 :: v2 :: rest) (ms.map (rdE Γ W))) : PE X (.JoinedStr (v1 :: v2 :: rest) pos) (rdE Γ W (vJs ms)) :=
  PE.imp (pe_joined h) fun σ H Q ⟨C, B0, H0, ρ, S, B, r, q⟩ => post_js ms _ S B H r q
theorem d_fmt {e : Expr} {ma : ME} (h : PE X e (rdE Γ W ma)) : PE X (.FormattedValue e (-1) none pos) (rdE Γ W (v1 fmtD ma)) :=
  PE.imp (pe_fmt h) fun σ H Q ⟨C, B0, H0, ρ, S, B, r, q⟩ => rd_bind r q fun d S1 v H1 B1 r1 n1 x1 p1 => by
    unfold fmtD at p1
    split at p1
    · cases x1
      split at p1
      · rename_i hl; exact .inl ⟨_, rfl, hl, p1.val r1.nx.here (.str _)⟩
      · exact p1.elim
    · cases x1
      split at p1
      · rename_i hl; exact .inr ⟨_, rfl, hl, p1.val r1.nx.here (.str _)⟩
      · exact p1.elim
    · exact p1.elim
/-! operators -/
theorem GoodX.u64 {k : Nat} {N : List Str} {sc : Scope} {fnb : Str → Bool} (g : GoodX Γ k N sc fnb W X) : X.A.units + 64 < cLine := g.rm.units
theorem GoodX.u65 {k : Nat} {N : List Str} {sc : Scope} {fnb : Str → Bool} (g : GoodX Γ k N sc fnb W X) : X.A.units + 65 < cLine := by have := g.rm.un; omega
section
variable {k : Nat} {N : List Str} {sc : Scope} {fnb : Str → Bool} {a b c : Expr} {ma mb mc : ME} {x : Str}
theorem g_bin (g : GoodX Γ k N sc fnb W X) (o : Bop) (ha : PE X a (rdT Γ W ma)) (hb : PE X b (rdT Γ W mb)) : PE X (.BinOp a o.op b pos) (rdE Γ W (v2 o.sem ma mb)) := by
  have hK := g.ofs.K
  cases o with
  | add => exact d_bin (op_addP Γ.K hK) addP ha hb
  | sub => exact d_bin op_sub subP ha hb
  | mul => exact d_bin op_mulP mulP ha hb
  | fdiv => exact d_bin op_fdivP fdivP ha hb
  | mod => exact d_bin op_modN modP ha hb
  | pow => exact d_bin op_pow powP ha hb
  | shl => exact d_bin op_shl shlP ha hb
  | shr => exact d_bin op_shr shrP ha hb
  | and => exact d_bin op_and andP ha hb
  | or => exact d_bin op_or orP ha hb
  | xor => exact d_bin op_xor xorP ha hb
theorem g_un (o : Uop) (ha : PE X a (rdT Γ W ma)) : PE X (.UnaryOp o.op a pos) (rdE Γ W (v1 o.sem ma)) := by
  cases o with
  | neg => exact d_un un_neg negP ha
  | inv => exact d_un un_inv invP ha
theorem g_cop (g : GoodX Γ k N sc fnb W X) (o : Cop) : ∃ r, OpR X (compareOp o.op) r ∧ OpP Γ o.sem r := by
  have hK := g.ofs.K
  cases o with
  | eq => exact ⟨_, op_eqP Γ.K hK g.u64, eqP⟩
  | ne => exact ⟨_, op_neP Γ.K hK g.u64, neP⟩
  | lt => exact ⟨_, op_lt, ltP⟩
  | le => exact ⟨_, op_le, leP⟩
  | gt => exact ⟨_, op_gt, gtP⟩
  | ge => exact ⟨_, op_ge, geP⟩
  | isIn => exact ⟨_, op_inP Γ.K hK g.u65, inP⟩
  | notIn => exact ⟨_, op_notInP Γ.K hK g.u65, notInP⟩
  | isN => exact ⟨_, op_isN, isNP⟩
  | notN => exact ⟨_, op_notN, notNP⟩
theorem g_b1 (g : GoodX Γ k N sc fnb W X) (G0 : GmOk Γ) (o : B1) (hg : glB sc o.nm = true) (ha : PE X a (rdT Γ W ma)) (hf : plainE a = true) : PE X (.Call (.Name o.nm p) [a] [] pos) (rdE Γ W (v1 o.sem ma)) := by
  have hK := g.ofs.K
  obtain ⟨h1, h2, h3⟩ := g.gl hg
  have hm : ∀ x ∈ blts, X.mg x = none := fun x hx => by rw [g.ofs.mg]; exact G0.blt x hx
  cases o with
  | len => exact d_blt1 (c_len hK) lenP h1 (hm _ (by decide)) rfl (by decide) h2 ha hf
  | abs => exact d_blt1 call_abs absP h1 (hm _ (by decide)) rfl (by decide) h2 ha hf
  | int => exact d_ty1 call_int1 intP h1 (hm _ (by decide)) rfl (by decide) h2 ha hf
  | str => exact d_ty1 call_str_int strP h1 (hm _ (by decide)) rfl (by decide) h2 ha hf
  | repr => exact d_blt1 (c_repr hK g.gd g.u64) reprP h1 (hm _ (by decide)) rfl (by decide) h2 ha hf
  | max => exact d_blt1 (hK ▸ cr_max g.calm) maxP h1 (hm _ (by decide)) rfl (by decide) h2 ha hf
  | min => exact d_blt1 (hK ▸ cr_min g.calm) minP h1 (hm _ (by decide)) rfl (by decide) h2 ha hf
  | sum => exact d_blt1 (hK ▸ cr_sum g.calm) sumP h1 (hm _ (by decide)) rfl (by decide) h2 ha hf
  | all => exact d_blt1 (hK ▸ cr_all g.calm) allP h1 (hm _ (by decide)) rfl (by decide) h2 ha hf
  | any => exact d_blt1 (hK ▸ cr_any g.calm) anyP h1 (hm _ (by decide)) rfl (by decide) h2 ha hf
  | sorted => exact d_blt1 (hK ▸ cr_sortedI) sortedP h1 (hm _ (by decide)) rfl (by decide) h2 ha hf
  | tuple => exact d_ty1 (hK ▸ call_tuple_of) tupleP h1 (hm _ (by decide)) rfl (by decide) h2 ha hf
  | list => exact d_ty1 (hK ▸ call_list_of) listP h1 (hm _ (by decide)) rfl (by decide) h2 ha hf
theorem g_b2 (g : GoodX Γ k N sc fnb W X) (G0 : GmOk Γ) (o : B2) (hg : glB sc o.nm = true) (ha : PE X a (rdT Γ W ma)) (hb : PE X b (rdT Γ W mb)) (hf : plainE a = true) (hf2 : plainE b = true) : PE X (.Call (.Name o.nm p) [a, b] [] pos) (rdE Γ W (v2 o.sem ma mb)) := by
  have hK := g.ofs.K
  obtain ⟨h1, h2, h3⟩ := g.gl hg
  have hm : ∀ x ∈ blts, X.mg x = none := fun x hx => by rw [g.ofs.mg]; exact G0.blt x hx
  cases o with
  | max => exact d_blt2 (call_max2 g.calm) max2P h1 (hm _ (by decide)) rfl (by decide) h2 ha hb hf hf2
  | min => exact d_blt2 (call_min2 g.calm) min2P h1 (hm _ (by decide)) rfl (by decide) h2 ha hb hf hf2
end
/-! targets -/
section
variable {k : Nat} {N : List Str} {sc : Scope} {fnb : Str → Bool}
theorem tg_ok (g : GoodX Γ k N sc fnb W X) {i : Nat} {e : Expr} (h : tgB N sc fnb i e = true) : PG X e (rdP Γ [i] (tN i)) ∧ ∃ x q, e = .Name x q := by
  cases e with
  | Name x q =>
    unfold tgB at h
    rw [Bool.and_eq_true] at h
    obtain ⟨h2, h3⟩ := locB_ok h.2
    have nd := g.nd
    rw [← g.nm] at nd
    refine ⟨d_tn nd (by rw [g.nm]; exact of_decide_eq_true h.1) (by rw [g.scE]; exact h2) (by rw [g.fn, g.scE]; exact h3), x, q, rfl⟩
  | _ => cases h
theorem tgs_names (g : GoodX Γ k N sc fnb W X) : ∀ {is : List Nat} {es : List Expr}, tgsB N sc fnb is es = true → (assignEach es X.env).length = is.length ∧ (assignEach es X.env).findIdx? (·.1) = none ∧ PGs X es (rdPs Γ is (tsOf is))
  | [], [], _ => ⟨rfl, rfl, d_tsnil⟩
  | i :: is, e :: es, h => by
    unfold tgsB at h
    rw [Bool.and_eq_true] at h
    obtain ⟨h1, x, q, rfl⟩ := tg_ok g h.1
    obtain ⟨l, st, r⟩ := tgs_names g h.2
    have hs : assignEach (.Name x q :: es) X.env = (false, assign (.Name x q) X.env) :: assignEach es X.env := rfl
    refine ⟨by rw [hs, List.length_cons, l]; rfl, ?_, ?_⟩
    · rw [hs, List.findIdx?_cons]; simp [st]
    · exact d_tscons h1 r (by rw [hs]; rfl)
  | [], _ :: _, h => by cases h
  | _ :: _, [], h => by cases h
theorem t_ok (g : GoodX Γ k N sc fnb W X) {t : T} {e : Expr} (h : t.chk N sc fnb e = true) : PG X e (rdP Γ t.ix t.den) := by
  cases t with
  | nm i => exact (tg_ok g h).1
  | tup is =>
    cases e with
    | Tuple es c q =>
      obtain ⟨l, st, r⟩ := tgs_names g (is := is) (es := es) h
      exact d_tt g.ofs.K g.calm r l st
    | _ => cases h
end
end Pv
namespace Pv
open PySem PySem.Spec PyProof.Rows L2
variable {Γ : Gm}
/-! the look is enough: expressions -/
theorem glOk {k : Nat} {N : List Str} {sc : Scope} {fnb : Str → Bool} {W : WX} {X : Cx} (g : GoodX Γ k N sc fnb W X) {x : Str} {d : D} {p : Pos} (h : glB sc x = true) (nd : NeedOk Γ k (.glob x d)) : PE X (.Name x p) (rdE Γ W (vC d)) := by
  obtain ⟨v, u, h1, h2, h3⟩ := nd
  obtain ⟨h4, h5, h6⟩ := g.gl h
  exact d_glob h4 (by rw [g.ofs.mg]; exact h1) h2 h5 h3
theorem PE.dead {R : RR} {W : WX} {X : Cx} {ex : Expr} : PE X ex (rd R Γ W fun _ => bad) := ⟨fun pins s σ H Q I ⟨C, B0, H0, ρ, S, B, r, q⟩ => q.elim⟩
theorem PT.dead {W : WX} {X : Cx} {ex : Expr} : PT X ex (rdB Γ W fun _ => bad) := ⟨fun pins s σ H Q I ⟨C, B0, H0, ρ, S, B, r, q⟩ => q.elim⟩
theorem fstr_ok {X : Cx} {W : WX} {pos : Pos} : ∀ {l : List Expr} {ms : List ME}, PJ X l (ms.map (rdE Γ W)) → 2 ≤ l.length → PE X (.JoinedStr l pos) (rdE Γ W (vJs ms))
  | v1 :: v2 :: rest, _, ha, _ => d_fstr ha
  | [_], _, _, h3 => absurd h3 (by simp)
  | [], _, _, h3 => absurd h3 (by simp)
theorem call_ok {k : Nat} {N : List Str} {sc : Scope} {fnb : Str → Bool} {W : WX} {X : Cx} {x : Str} {f : Fn} {as : As} {p pos : Pos} (c : CalleeOk Γ (k + 1) x as.len f) (g : GoodX Γ k N sc fnb W X) (h5 : Gl X x) (h6 : (x == ("__debug__" : Str)) = false) : ∀ {l : List Expr}, PA X l (rdG Γ W as.len as.den) → as.chk N sc fnb l = true → plains l = true → PE X (.Call (.Name x p) l [] pos) (rdE Γ W (vCall f as.den))
  | [], ha, h3, _ => by
    cases as with
    | nil => exact d_call0 c g.ofs g.tk g.rm g.gd h5 h6
    | cons _ _ => cases h3
    | cell _ _ => cases h3
    | scr _ _ => cases h3
  | e1 :: es, ha, _, h4 => d_call c g.ofs g.tk g.rm g.gd h5 h6 ha h4
mutual
theorem e_ok (G0 : GmOk Γ) {k : Nat} {N : List Str} (e : E) {sc : Scope} {fnb : Str → Bool} {W : WX} {X : Cx} (g : GoodX Γ k N sc fnb W X) (ex : Expr) (nd : NeedsOk Γ k e.needs) (h : e.chk N sc fnb ex = true) : EOk Γ X W e ex := by
  match e with
  | .var i =>
    cases ex with
    | Name x q => obtain ⟨a, b, c, d⟩ := g.vis h; exact .of (d_var a b c d) rfl
    | _ => cases h
  | .peek i =>
    cases ex with
    | Name x q =>
      obtain ⟨a, b, c, d⟩ := g.vis h
      have t := d_peek (W := W) (Γ := Γ) (pos := q) a b c d
      exact ⟨PE.toS t, fun _ => t, fun z => (by cases z), fun z => (by cases z)⟩
    | _ => cases h
  | .scr i =>
    cases ex with
    | Name x q => obtain ⟨a, b, c, d⟩ := g.vis h; exact ⟨d_scr a b c d, fun z => (by cases z), fun z => (by cases z), fun z => (by cases z)⟩
    | _ => cases h
  | .int n =>
    unfold E.chk at h
    split at h <;> try contradiction
    rename_i heq
    cases heq
    cases of_decide_eq_true h; exact .of d_int rfl
  | .str n =>
    unfold E.chk at h
    split at h <;> try contradiction
    rename_i heq
    cases heq
    cases of_decide_eq_true h; exact .of d_str rfl
  | .bl n =>
    unfold E.chk at h
    split at h <;> try contradiction
    rename_i heq
    cases heq
    cases of_decide_eq_true h; exact .of d_bl rfl
  | .non =>
    unfold E.chk at h
    split at h <;> try contradiction
    rename_i heq
    cases heq
    exact .of d_non rfl
  | .glob x d =>
    unfold E.chk at h
    split at h <;> try contradiction
    rename_i heq
    cases heq
    simp only [Bool.and_eq_true] at h
    obtain ⟨h1, h2⟩ := h
    cases of_decide_eq_true h1
    exact .of (glOk g h2 (nd _ (List.mem_singleton.mpr rfl))) rfl
  | .bin o a b =>
    unfold E.chk at h
    split at h <;> try contradiction
    rename_i heq
    cases heq
    simp only [Bool.and_eq_true] at h
    obtain ⟨⟨⟨⟨h1, h2⟩, h3⟩, h4⟩, h5⟩ := h
    cases of_decide_eq_true h1
    exact .of (g_bin g o ((e_ok G0 a g _ nd.l h2).t h4) ((e_ok G0 b g _ nd.r h3).t h5)) rfl
  | .un o a =>
    unfold E.chk at h
    split at h <;> try contradiction
    rename_i heq
    cases heq
    simp only [Bool.and_eq_true] at h
    obtain ⟨⟨h1, h2⟩, h3⟩ := h
    cases of_decide_eq_true h1
    refine .of (g_un o ((e_ok G0 a g _ nd h2).t h3)) ?_
    cases o <;> rfl
  | .cmp o a b =>
    unfold E.chk at h
    split at h <;> try contradiction
    rename_i heq
    cases heq
    simp only [Bool.and_eq_true] at h
    obtain ⟨⟨⟨⟨⟨h1, h2⟩, h3⟩, hp⟩, h4⟩, h5⟩ := h
    cases of_decide_eq_true h1
    obtain ⟨r, ho, hr⟩ := g_cop g o
    exact .mk1 (d_cmp ho hr ((e_ok G0 a g _ nd.l h2).t h4) ((e_ok G0 b g _ nd.r h3).t h5) hp) fun _ => d_tcmp ho hr ((e_ok G0 a g _ nd.l h2).t h4) ((e_ok G0 b g _ nd.r h3).t h5) hp
  | .chain o o2 a b c =>
    unfold E.chk at h
    split at h <;> try contradiction
    rename_i heq
    cases heq
    simp only [Bool.and_eq_true] at h
    obtain ⟨⟨⟨⟨⟨⟨⟨⟨h1, h1'⟩, h2⟩, h3⟩, h4⟩, hp⟩, h5⟩, h6⟩, h7⟩ := h
    cases of_decide_eq_true h1
    cases of_decide_eq_true h1'
    obtain ⟨r, ho, hr⟩ := g_cop g o
    obtain ⟨r2, ho2, hr2⟩ := g_cop g o2
    have ha := (e_ok G0 a g _ nd.l h2).t h5
    have hb := (e_ok G0 b g _ nd.r.l h3).t h6
    have hc := (e_ok G0 c g _ nd.r.r h4).t h7
    exact .mk1 (d_chain ho ho2 hr hr2 ha hb hc hp) fun _ => d_tchain ho ho2 hr hr2 ha hb hc hp
  | .not a =>
    unfold E.chk at h
    split at h <;> try contradiction
    rename_i heq
    cases heq
    simp only [Bool.and_eq_true] at h
    obtain ⟨h2, h3⟩ := h
    have ha := e_ok G0 a g _ nd h2
    exact .mk1 (d_not (ha.v h3)) fun z => d_tnot (ha.b z)
  | .ands es =>
    unfold E.chk at h
    split at h <;> try contradiction
    rename_i heq
    cases heq
    simp only [Bool.and_eq_true] at h
    obtain ⟨h2, h3⟩ := h
    have ha := es_ok G0 es g _ nd h2
    have h3 := Bool.not_eq_true' _ |>.mp h3
    exact .mk1 (ha.an _ h3) fun z => PW.pt (ha.at_ _ h3 z)
  | .ors es =>
    unfold E.chk at h
    split at h <;> try contradiction
    rename_i heq
    cases heq
    simp only [Bool.and_eq_true] at h
    obtain ⟨h2, h3⟩ := h
    have ha := es_ok G0 es g _ nd h2
    have h3 := Bool.not_eq_true' _ |>.mp h3
    exact .mk1 (ha.on _ h3) fun z => PW.pt (ha.ot _ h3 z)
  | .ite c a b =>
    unfold E.chk at h
    split at h <;> try contradiction
    rename_i heq
    cases heq
    simp only [Bool.and_eq_true] at h
    obtain ⟨⟨⟨⟨⟨h1, h2⟩, h3⟩, h4⟩, h5⟩, h6⟩ := h
    exact .mk1 (d_ife ((e_ok G0 c g _ nd.l h1).b h4) ((e_ok G0 a g _ nd.r.l h2).v h5) ((e_ok G0 b g _ nd.r.r h3).v h6)) fun z => (by cases z)
  | .ix a b =>
    unfold E.chk at h
    split at h <;> try contradiction
    rename_i heq
    cases heq
    simp only [Bool.and_eq_true] at h
    obtain ⟨⟨⟨⟨h2, h3⟩, hp⟩, h4⟩, h5⟩ := h
    exact .of (d_ix (g.ofs.K ▸ ix_seq) ixP ((e_ok G0 a g _ nd.l h2).t h4) ((e_ok G0 b g _ nd.r h3).t h5) hp) rfl
  | .cell i k =>
    unfold E.chk at h
    split at h <;> try contradiction
    rename_i heq
    cases heq
    simp only [Bool.and_eq_true] at h
    obtain ⟨⟨⟨h2, h3⟩, hp⟩, h4⟩ := h
    obtain ⟨a, b, c, d⟩ := g.vis h2
    exact .of (d_cellIx g.ofs.K a b c d ((e_ok G0 k g _ nd h3).v h4) hp) rfl
  | .sl a lo hi =>
    unfold E.chk at h
    split at h <;> try contradiction
    rename_i heq
    cases heq
    simp only [Bool.and_eq_true] at h
    obtain ⟨⟨h2, h3⟩, h4⟩ := h
    exact .of (d_sl g.ofs.K (e_ok G0 a g _ nd.l h2).s (o_ok G0 lo g _ nd.r.l h3) (o_ok G0 hi g _ nd.r.r h4)) rfl
  | .tup es =>
    unfold E.chk at h
    split at h <;> try contradiction
    rename_i heq
    cases heq
    simp only [Bool.and_eq_true] at h
    obtain ⟨h2, h3⟩ := h
    exact .of (d_tup (es_ok G0 es g _ nd h2).a (of_decide_eq_true h3)) rfl
  | .lst es =>
    unfold E.chk at h
    split at h <;> try contradiction
    rename_i heq
    cases heq
    simp only [Bool.and_eq_true] at h
    obtain ⟨h2, h3⟩ := h
    exact .of (d_lst (es_ok G0 es g _ nd h2).a (of_decide_eq_true h3)) rfl
  | .tupS es =>
    unfold E.chk at h
    split at h <;> try contradiction
    rename_i heq
    cases heq
    exact .of (d_tupS (ss_ok G0 es g _ nd h)) rfl
  | .lstS es =>
    unfold E.chk at h
    split at h <;> try contradiction
    rename_i heq
    cases heq
    exact .of (d_lstS (ss_ok G0 es g _ nd h)) rfl
  | .dead => exact ⟨PE.dead, fun _ => PE.dead, fun _ => PE.dead, fun _ => PT.dead⟩
  | .fmt a =>
    unfold E.chk at h
    split at h <;> try contradiction
    rename_i heq
    cases heq
    simp only [Bool.and_eq_true] at h
    obtain ⟨h2, h3⟩ := h
    exact .of (d_fmt ((e_ok G0 a g _ nd h2).v h3)) rfl
  | .fstr es =>
    unfold E.chk at h
    split at h <;> try contradiction
    rename_i heq
    cases heq
    simp only [Bool.and_eq_true] at h
    obtain ⟨h2, h3⟩ := h
    exact .of (fstr_ok (es_ok G0 es g _ nd h2).js (of_decide_eq_true h3)) rfl
  | .call x f as =>
    unfold E.chk at h
    split at h <;> try contradiction
    rename_i heq
    cases heq
    simp only [Bool.and_eq_true] at h
    obtain ⟨⟨⟨h1, h2⟩, h3⟩, h4⟩ := h
    cases of_decide_eq_true h1
    have c : CalleeOk Γ (k + 1) x as.len f := nd _ List.mem_cons_self
    have ha := as_ok G0 as g _ (fun x z => nd x (List.mem_cons_of_mem _ z)) h3
    obtain ⟨h5, h6, h7⟩ := g.gl h2
    exact .of (call_ok c g h5 h6 ha h3 h4) rfl
  | .b1 o a =>
    unfold E.chk at h
    split at h <;> try contradiction
    rename_i heq
    cases heq
    simp only [Bool.and_eq_true] at h
    obtain ⟨⟨⟨⟨h1, h2⟩, h3⟩, h4⟩, h5⟩ := h
    cases of_decide_eq_true h1
    exact .of (g_b1 g G0 o h2 ((e_ok G0 a g _ nd h3).t h5) h4) rfl
  | .b2 o a b =>
    unfold E.chk at h
    split at h <;> try contradiction
    rename_i heq
    cases heq
    simp only [Bool.and_eq_true] at h
    obtain ⟨⟨⟨⟨⟨⟨⟨h1, h2⟩, h3⟩, h3'⟩, h4⟩, h4'⟩, h5⟩, h5'⟩ := h
    cases of_decide_eq_true h1
    exact .of (g_b2 g G0 o h2 ((e_ok G0 a g _ nd.l h3).t h5) ((e_ok G0 b g _ nd.r h3').t h5') h4 h4') rfl
  | .lc own it t elt =>
    unfold E.chk at h
    split at h <;> try contradiction
    rename_i heq
    cases heq
    simp only [Bool.and_eq_true] at h
    obtain ⟨⟨⟨⟨⟨⟨h1, h2⟩, h3⟩, h4⟩, h5⟩, h6⟩, h7⟩ := h
    have bk := blkOk_by h1
    refine .of (d_lc (is := t.ix) g.calm (by rw [g.nm]; exact g.nd) (by rw [g.nm, g.scE]; exact bk) h3 (fun i hi => List.contains_iff_mem.mp (List.all_eq_true.mp h4 i hi)) (itT_ok G0 it g _ _ nd.l h2) fun s H C cl fp => ?_) rfl
    have g2 := good_blk g bk.kind s H C cl fp
    exact ⟨t_ok g2 h5, d_yes, (e_ok G0 elt g2 _ nd.r h6).v h7⟩
  | .lcIf own it t c elt =>
    unfold E.chk at h
    split at h <;> try contradiction
    rename_i heq
    cases heq
    simp only [Bool.and_eq_true] at h
    obtain ⟨⟨⟨⟨⟨⟨⟨⟨h1, h2⟩, h3⟩, h4⟩, h5⟩, h8⟩, h9⟩, h6⟩, h7⟩ := h
    have bk := blkOk_by h1
    refine .of (d_lc (is := t.ix) g.calm (by rw [g.nm]; exact g.nd) (by rw [g.nm, g.scE]; exact bk) h3 (fun i hi => List.contains_iff_mem.mp (List.all_eq_true.mp h4 i hi)) (itT_ok G0 it g _ _ nd.l h2) fun s H C cl fp => ?_) rfl
    have g2 := good_blk g bk.kind s H C cl fp
    exact ⟨t_ok g2 h5, d_if1 ((e_ok G0 c g2 _ nd.r.l h8).b h9), (e_ok G0 elt g2 _ nd.r.r h6).v h7⟩
theorem o_ok (G0 : GmOk Γ) {k : Nat} {N : List Str} (e : Oe) {sc : Scope} {fnb : Str → Bool} {W : WX} {X : Cx} (g : GoodX Γ k N sc fnb W X) (ex : Option Expr) (nd : NeedsOk Γ k e.needs) (h : e.chk N sc fnb ex = true) : PO X ex (rdO Γ W e.den) := by
  match e, ex with
  | .no, none => exact d_ono
  | .yes e, some l =>
    unfold Oe.chk at h
    rw [Bool.and_eq_true] at h
    exact d_oyes ((e_ok G0 e g l nd h.1).v h.2)
  | .no, some _ => cases h
  | .yes _, none => cases h
theorem es_ok (G0 : GmOk Γ) {k : Nat} {N : List Str} (es : Es) {sc : Scope} {fnb : Str → Bool} {W : WX} {X : Cx} (g : GoodX Γ k N sc fnb W X) (l : List Expr) (nd : NeedsOk Γ k es.needs) (h : es.chk N sc fnb l = true) : BOk Γ X W es l := by
  match es, l with
  | .nil, [] => exact ⟨d_anil, rfl, fun _ z => (by cases z), fun _ z => (by cases z), fun _ z => (by cases z), fun _ z => (by cases z), .nil⟩
  | .cons e r, l :: ls =>
    unfold Es.chk at h
    simp only [Bool.and_eq_true] at h
    obtain ⟨⟨⟨h1, h2⟩, h3⟩, h4⟩ := h
    have he := e_ok G0 e g l nd.l h1
    have hr := es_ok G0 r g ls nd.r h4
    have hv := he.v h3
    refine ⟨d_acons hv hr.a h2, by simp only [plains, List.all_cons, Bool.and_eq_true]; exact ⟨h2, hr.pl⟩, fun p _ => ?_, fun p _ => ?_, fun p _ z => ?_, fun p _ z => ?_, .cons hv hr.js⟩
    all_goals cases r with
      | nil =>
        cases ls with
        | nil => first | exact d_one hv | exact d_wand1 (he.b (by simpa [Es.toks] using z)) | exact d_wor1 (he.b (by simpa [Es.toks] using z))
        | cons _ _ => cases h4
      | star _ _ => cases h4
      | cons e2 r2 =>
        cases ls with
        | nil => cases h4
        | cons l2 ls2 => first | exact d_and hv (hr.an p rfl) | exact d_or hv (hr.on p rfl) | (have z := (Bool.and_eq_true _ _).mp z; exact d_wand (he.b z.1) (hr.at_ p rfl z.2)) | (have z := (Bool.and_eq_true _ _).mp z; exact d_wor (he.b z.1) (hr.ot p rfl z.2))
  | .nil, _ :: _ => cases h
  | .cons _ _, [] => cases h
  | .star _ _, _ => cases h
theorem ss_ok (G0 : GmOk Γ) {k : Nat} {N : List Str} (es : Es) {sc : Scope} {fnb : Str → Bool} {W : WX} {X : Cx} (g : GoodX Γ k N sc fnb W X) (l : List Expr) (nd : NeedsOk Γ k es.needs) (h : es.chkS N sc fnb l = true) : PA X l (rdA Γ W es.den) := by
  match es with
  | .nil =>
    cases l with
    | nil => exact d_aN d_anil
    | cons _ _ => cases h
  | .cons e r =>
    unfold Es.chkS at h
    split at h <;> try contradiction
    rename_i heq
    cases heq
    simp only [Bool.and_eq_true] at h
    obtain ⟨⟨⟨h1, h2⟩, h3⟩, h4⟩ := h
    exact d_scons ((e_ok G0 e g _ nd.l h1).v h3) (ss_ok G0 r g _ nd.r h4) h2
  | .star e r =>
    unfold Es.chkS at h
    split at h <;> try contradiction
    rename_i heq
    cases heq
    simp only [Bool.and_eq_true] at h
    obtain ⟨⟨h1, h3⟩, h4⟩ := h
    exact d_astar ((e_ok G0 e g _ nd.l h1).t h3) (ss_ok G0 r g _ nd.r h4) g.ofs.K
theorem as_ok (G0 : GmOk Γ) {k : Nat} {N : List Str} (es : As) {sc : Scope} {fnb : Str → Bool} {W : WX} {X : Cx} (g : GoodX Γ k N sc fnb W X) (l : List Expr) (nd : NeedsOk Γ k es.needs) (h : es.chk N sc fnb l = true) : PA X l (rdG Γ W es.len es.den) := by
  match es with
  | .nil =>
    cases l with
    | nil => exact d_gnil
    | cons _ _ => cases h
  | .cons e r =>
    unfold As.chk at h
    split at h <;> try contradiction
    rename_i heq
    cases heq
    simp only [Bool.and_eq_true] at h
    obtain ⟨⟨⟨h1, h2⟩, h3⟩, h4⟩ := h
    exact d_gcons ((e_ok G0 e g _ nd.l h1).v h3) (as_ok G0 r g _ nd.r h4) h2
  | .cell i r =>
    unfold As.chk at h
    split at h <;> try contradiction
    rename_i heq
    cases heq
    simp only [Bool.and_eq_true] at h
    obtain ⟨a, b, c, d⟩ := g.vis h.1
    exact d_gcell a b c d (as_ok G0 r g _ nd h.2)
  | .scr i r =>
    unfold As.chk at h
    split at h <;> try contradiction
    rename_i heq
    cases heq
    simp only [Bool.and_eq_true] at h
    obtain ⟨a, b, c, d⟩ := g.vis h.1
    exact d_gscr a b c d (as_ok G0 r g _ nd h.2)
theorem itT_ok (G0 : GmOk Γ) {k : Nat} {N : List Str} (it : It) {sc : Scope} {fnb : Str → Bool} {W : WX} {X : Cx} (g : GoodX Γ k N sc fnb W X) (tg l : Expr) (nd : NeedsOk Γ k it.needs) (h : it.chkT N sc fnb tg l = true) : PI X tg l (rdI pT Γ W it.den) := by
  have hm : ∀ x ∈ blts, X.mg x = none := fun x hx => by rw [g.ofs.mg]; exact G0.blt x hx
  match it with
  | .seq e => exact d_iseqT g.ofs.K (e_ok G0 e g l nd h).s
  | .r1 a =>
    unfold It.chkT at h
    split at h <;> try contradiction
    rename_i heq
    cases heq
    simp only [Bool.and_eq_true] at h
    obtain ⟨⟨⟨⟨h1, h2⟩, h3⟩, h4⟩, h5⟩ := h
    cases of_decide_eq_true h1
    exact d_ir1 (g.gl h2).1 (hm _ (by decide)) ((e_ok G0 a g _ nd h3).v h5) h4
  | .r2 a b =>
    unfold It.chkT at h
    split at h <;> try contradiction
    rename_i heq
    cases heq
    simp only [Bool.and_eq_true] at h
    obtain ⟨⟨⟨⟨⟨⟨⟨h1, h2⟩, h3⟩, h3'⟩, h4⟩, h4'⟩, h5⟩, h5'⟩ := h
    cases of_decide_eq_true h1
    exact d_ir2 (g.gl h2).1 (hm _ (by decide)) ((e_ok G0 a g _ nd.l h3).v h5) ((e_ok G0 b g _ nd.r h3').v h5') h4 h4'
  | .zip a b =>
    unfold It.chkT at h
    split at h <;> try contradiction
    rename_i heq
    cases heq
    simp only [Bool.and_eq_true] at h
    obtain ⟨⟨⟨⟨⟨⟨⟨h1, h2⟩, h3⟩, h3'⟩, h4⟩, h4'⟩, h5⟩, h5'⟩ := h
    cases of_decide_eq_true h1
    exact d_izip pT_ok g.ofs.K (g.gl h2).1 (hm _ (by decide)) ((e_ok G0 a g _ nd.l h3).v h5) ((e_ok G0 b g _ nd.r h3').v h5') h4 h4'
end
theorem itF_ok (G0 : GmOk Γ) {k : Nat} {N : List Str} (it : It) {sc : Scope} {fnb : Str → Bool} {W : WX} {X : Cx} (g : GoodX Γ k N sc fnb W X) (tg l : Expr) (nd : NeedsOk Γ k it.needs) (h : it.chkF N sc fnb tg l = true) : PI X tg l (rdI pF Γ W it.den) := by
  have hm : ∀ x ∈ blts, X.mg x = none := fun x hx => by rw [g.ofs.mg]; exact G0.blt x hx
  unfold It.chkF at h
  rw [Bool.and_eq_true] at h
  obtain ⟨h, hv⟩ := h
  match it with
  | .seq e => exact d_iseq g.ofs.K ((e_ok G0 e g l nd h).v hv)
  | .r1 a =>
    unfold It.chkT at h
    split at h <;> try contradiction
    rename_i heq
    cases heq
    simp only [Bool.and_eq_true] at h
    obtain ⟨⟨⟨⟨h1, h2⟩, h3⟩, h4⟩, h5⟩ := h
    cases of_decide_eq_true h1
    exact d_ir1 (g.gl h2).1 (hm _ (by decide)) ((e_ok G0 a g _ nd h3).v h5) h4
  | .r2 a b =>
    unfold It.chkT at h
    split at h <;> try contradiction
    rename_i heq
    cases heq
    simp only [Bool.and_eq_true] at h
    obtain ⟨⟨⟨⟨⟨⟨⟨h1, h2⟩, h3⟩, h3'⟩, h4⟩, h4'⟩, h5⟩, h5'⟩ := h
    cases of_decide_eq_true h1
    exact d_ir2 (g.gl h2).1 (hm _ (by decide)) ((e_ok G0 a g _ nd.l h3).v h5) ((e_ok G0 b g _ nd.r h3').v h5') h4 h4'
  | .zip a b =>
    unfold It.chkT at h
    split at h <;> try contradiction
    rename_i heq
    cases heq
    simp only [Bool.and_eq_true] at h
    obtain ⟨⟨⟨⟨⟨⟨⟨h1, h2⟩, h3⟩, h3'⟩, h4⟩, h4'⟩, h5⟩, h5'⟩ := h
    cases of_decide_eq_true h1
    exact d_izip pF_ok g.ofs.K (g.gl h2).1 (hm _ (by decide)) ((e_ok G0 a g _ nd.l h3).v h5) ((e_ok G0 b g _ nd.r h3').v h5') h4 h4'
end Pv
namespace Pv
open PySem PySem.Spec PyProof.Rows L2
variable {Γ : Gm}
/-! statements as terms -/
/-- a new slot's content: held for good, or one's own -/
inductive Sl where
  | val (e : E) | lst (es : Es) | rep (a b : E)
def Sl.den : Sl → MSl
  | .val e => slV e.den
  | .lst es => slN (vLst es.den)
  | .rep a b => slN (v2 mulD a.den b.den)
def Sl.chk (N : List Str) (sc : Scope) (fnb : Str → Bool) : Sl → Expr → Bool
  | .val e, l => e.chk N sc fnb l && e.val
  | .lst es, .List l _ => es.chk N sc fnb l && decide (l.length ≤ 1000)
  | .rep a b, .BinOp l .Mult r _ => a.chk N sc fnb l && b.chk N sc fnb r && a.val && b.val
  | _, _ => false
def Sl.needs : Sl → List Need
  | .val e => e.needs
  | .lst es => es.needs
  | .rep a b => a.needs ++ b.needs
theorem sl_ok (G0 : GmOk Γ) {k : Nat} {N : List Str} (s : Sl) {sc : Scope} {fnb : Str → Bool} {W : WX} {X : Cx} (g : GoodX Γ k N sc fnb W X) (ex : Expr) (nd : NeedsOk Γ k s.needs) (h : s.chk N sc fnb ex = true) : PE X ex (rdSl Γ W s.den) := by
  cases s with
  | val e =>
    have h := (Bool.and_eq_true _ _).mp h
    exact d_slV ((e_ok G0 e g ex nd h.1).v h.2)
  | lst es =>
    unfold Sl.chk at h
    split at h <;> try contradiction
    rename_i heq
    cases heq
    simp only [Bool.and_eq_true] at h
    exact d_slN (d_lstF (es_ok G0 es g _ nd h.1).a (of_decide_eq_true h.2))
  | rep a b =>
    unfold Sl.chk at h
    split at h <;> try contradiction
    rename_i heq
    cases heq
    simp only [Bool.and_eq_true] at h
    obtain ⟨⟨⟨h1, h2⟩, h3⟩, h4⟩ := h
    exact d_slN (d_repF ((e_ok G0 a g _ nd.l h1).v h3) ((e_ok G0 b g _ nd.r h2).v h4))
mutual
inductive St where
  | dead | pass | brk | ct | ret (e : E) | expr (e : E)
  | set (i : Nat) (e : E) | setC (i : Nat) (e : E) | new (i : Nat) (s : Sl) | par (i j : Nat) (a b : Sl) | asg (is : List Nat) (e : E)
  | app (i : Nat) (e : E) | ext (i : Nat) (e : E) | pop (t : T) (i : Nat) | ixset (i : Nat) (k e : E) | cell (i : Nat) (k e : E)
  | ite (c : E) (a b : Sts) | whl (f : Env → Nat) (c : E) (b : Sts) | for_ (it : It) (t : T) (b : Sts)
  | keep (i : Nat) (s : St)
inductive Sts where
  | nil | cons (s : St) (r : Sts)
end
mutual
def St.den : St → MS
  | .dead => fun _ => bad
  | .pass => sNil
  | .brk => sBrk
  | .ct => sCt
  | .ret e => sRet e.den
  | .expr e => sDrop e.den
  | .set i e => sSet i e.den
  | .setC i e => sSet i e.den
  | .new i s => sNew i s.den
  | .par i j a b => sParN i j a.den b.den
  | .asg is e => sAsg (T.tup is).den e.den
  | .app i e => sApp i e.den
  | .ext i e => sExt i e.den
  | .pop t i => sPop t.den i
  | .ixset i k e => sIxSet i k.den e.den
  | .cell i k e => sCell i k.den e.den
  | .ite c a b => sIf c.den a.den b.den
  | .whl f c b => sWhile f c.den b.den
  | .for_ it t b => sFor it.den t.den b.den
  | .keep i s => sKeep i s.den
def Sts.den : Sts → MS
  | .nil => sNil
  | .cons s r => sSeq s.den r.den
end
mutual
def St.needs : St → List Need
  | .dead => []
  | .pass => []
  | .brk => []
  | .ct => []
  | .ret e => e.needs
  | .expr e => e.needs
  | .set _ e => e.needs
  | .setC _ e => e.needs
  | .new _ s => s.needs
  | .par _ _ a b => a.needs ++ b.needs
  | .asg _ e => e.needs
  | .app _ e => e.needs
  | .ext _ e => e.needs
  | .pop _ _ => []
  | .ixset _ k e => k.needs ++ e.needs
  | .cell _ k e => k.needs ++ e.needs
  | .ite c a b => c.needs ++ (a.needs ++ b.needs)
  | .whl _ c b => c.needs ++ b.needs
  | .for_ it _ b => it.needs ++ b.needs
  | .keep _ s => s.needs
def Sts.needs : Sts → List Need
  | .nil => []
  | .cons s r => s.needs ++ r.needs
end
/-- x = [.. for ..]: the list goes to x's slot at once -/
def swapB (sc : Scope) (x : Str) (px : Pos) : Expr → Bool
  | .ListComp _ _ scope pos => (match sc.names.lookup x with | some .local => px.line == pos.line && !(scope.names.any fun (n, k) => n == x && (k == .local || k == .cell)) | _ => false)
  | _ => false
/-- x, y = a, b by exchange -/
def parB (px py : Pos) (x y : Str) (l : List Expr) : Bool := (px.line == px.line) && (py.line == px.line) && !(x == y) && !(l.all (foldedForSure 8)) && !(l.all (constantsAlone 8))
/-- a tuple of constants: no exchange -/
def noPar : Expr → Bool
  | .Tuple l _ _ => l.all (foldedForSure 8)
  | .List .. => true
  | e => notTup e
def locOnly (N : List Str) (sc : Scope) (i : Nat) (x : Str) : Bool := decide (N[i]? = some x) && decide (sc.names.lookup x = some .local)
mutual
def St.chk (N : List Str) (sc : Scope) (fnb : Str → Bool) : St → Stmt → Bool
  | .dead, _ => true
  | .pass, .Pass _ => true
  | .brk, .Break _ => true
  | .ct, .Continue _ => true
  | .ret e, .Return (some l) _ => e.chk N sc fnb l && e.val
  | .expr e, .Expr l _ => e.chk N sc fnb l && e.val && notComp l
  | .set i e, .Assign [t] l _ => tgB N sc fnb i t && e.chk N sc fnb l && e.val && notComp l
  | .setC i (.lc own it t elt), .Assign [.Name x px] (.ListComp el [⟨tg, iter, [], 0⟩] scope p) _ => locOnly N sc i x && swapB sc x px (.ListComp el [⟨tg, iter, [], 0⟩] scope p) && (E.lc own it t elt).chk N sc fnb (.ListComp el [⟨tg, iter, [], 0⟩] scope p)
  | .setC i (.lcIf own it t c elt), .Assign [.Name x px] (.ListComp el [⟨tg, iter, [i1], 0⟩] scope p) _ => locOnly N sc i x && swapB sc x px (.ListComp el [⟨tg, iter, [i1], 0⟩] scope p) && (E.lcIf own it t c elt).chk N sc fnb (.ListComp el [⟨tg, iter, [i1], 0⟩] scope p)
  | .new i s, .Assign [t] l _ => tgB N sc fnb i t && s.chk N sc fnb l && notComp l
  | .par i j a b, .Assign [.Tuple [.Name x px, .Name y py] _ _] (.Tuple [l, r] _ _) _ => locOnly N sc i x && locOnly N sc j y && !(i == j) && a.chk N sc fnb l && b.chk N sc fnb r && plainE l && plainE r && parB px py x y [l, r]
  | .asg is e, .Assign [.Tuple ts k q] l _ => (T.tup is).chk N sc fnb (.Tuple ts k q) && e.chk N sc fnb l && e.val && notComp l && notTup l
  | .app i e, .Expr (.Call (.Attribute (.Name x _) m ap) [l] [] cp) _ => decide (m = ("append" : Str)) && nameB N sc i x && e.chk N sc fnb l && e.val && plainE l && (ap.endLine == cp.line)
  | .ext i e, .Expr (.Call (.Attribute (.Name x _) m ap) [l] [] cp) _ => decide (m = ("extend" : Str)) && nameB N sc i x && e.chk N sc fnb l && e.val' && plainE l && (ap.endLine == cp.line)
  | .pop (.nm j) i, .Assign [.Name y q] (.Call (.Attribute (.Name x _) m ap) [] [] cp) _ => decide (m = ("pop" : Str)) && nameB N sc i x && tgB N sc fnb j (.Name y q) && (ap.endLine == cp.line)
  | .pop (.tup is) i, .Assign [.Tuple ts k q] (.Call (.Attribute (.Name x _) m ap) [] [] cp) _ => decide (m = ("pop" : Str)) && nameB N sc i x && (T.tup is).chk N sc fnb (.Tuple ts k q) && (ap.endLine == cp.line)
  | .ixset i k e, .Assign [.Subscript (.Name x _) kl _] l _ => nameB N sc i x && k.chk N sc fnb kl && k.val && plainE kl && e.chk N sc fnb l && e.val && notComp l && notTup l
  | .cell i k e, .Assign [.Subscript (.Name x _) kl _] l _ => nameB N sc i x && k.chk N sc fnb kl && k.val && plainE kl && e.chk N sc fnb l && e.val && notComp l && notTup l
  | .ite c a b, .If l m r _ => c.chk N sc fnb l && c.tok && a.chk N sc fnb m && b.chk N sc fnb r
  | .whl _ c b, .While l m [] _ => c.chk N sc fnb l && c.tok && b.chk N sc fnb m
  | .for_ it t b, .For tg iter m [] _ => it.chkF N sc fnb tg iter && plainE iter && t.chk N sc fnb tg && b.chk N sc fnb m
  | .keep _ s, l => s.chk N sc fnb l
  | _, _ => false
def Sts.chk (N : List Str) (sc : Scope) (fnb : Str → Bool) : Sts → List Stmt → Bool
  | .nil, [] => true
  | .cons s r, l :: ls => s.chk N sc fnb l && r.chk N sc fnb ls
  | _, _ => false
end
end Pv
namespace Pv
open PySem PySem.Spec PyProof.Rows L2
variable {Γ : Gm}
/-! the look is enough: statements -/
section
variable {k : Nat} {N : List Str} {sc : Scope} {fnb : Str → Bool} {W : WX} {X : Cx}
theorem locOnly_ok (g : GoodX Γ k N sc fnb W X) {i : Nat} {x : Str} (h : locOnly N sc i x = true) : X.N[i]? = some x ∧ X.env.scope.names.lookup x = some .local := by
  unfold locOnly at h
  rw [Bool.and_eq_true] at h
  rw [g.nm, g.scE]
  exact ⟨of_decide_eq_true h.1, of_decide_eq_true h.2⟩
theorem tgN_ok (g : GoodX Γ k N sc fnb W X) {i : Nat} {e : Expr} (h : tgB N sc fnb i e = true) : ∃ x q, e = .Name x q ∧ X.N[i]? = some x ∧ L2.Loc X.env.scope x ∧ (X.fn x = true ∨ X.env.scope.names.lookup x = some .local) := by
  cases e with
  | Name x q =>
    unfold tgB at h
    rw [Bool.and_eq_true] at h
    obtain ⟨h2, h3⟩ := locB_ok h.2
    exact ⟨x, q, rfl, by rw [g.nm]; exact of_decide_eq_true h.1, by rw [g.scE]; exact h2, by rw [g.fn, g.scE]; exact h3⟩
  | _ => cases h
theorem swapB_ok (g : GoodX Γ k N sc fnb W X) {x : Str} {px p : Pos} {el tg iter : Expr} {ifs : List Expr} {scope : Scope} {l : Nat} (h : swapB sc x px (.ListComp el [⟨tg, iter, ifs, 0⟩] scope p) = true) : swapsWith (.ListComp el [⟨tg, iter, ifs, 0⟩] scope p) (some (.Name x px)) l X.env = pure true := by
  unfold swapB at h
  cases e : sc.names.lookup x with
  | none => rw [e] at h; cases h
  | some z =>
    rw [e] at h
    cases z with
    | «local» =>
      have h := (Bool.and_eq_true _ _).mp h
      exact sw_true (by rw [g.scE]; exact g.kd) (by rw [g.scE]; exact e) h.1 (by simpa using h.2)
    | _ => cases h
theorem parB_ok (g : GoodX Γ k N sc fnb W X) {x y : Str} {i j : Nat} {px py pt pt2 : Pos} {kt k2 : Nat} {a b : Expr} (hx : X.env.scope.names.lookup x = some .local) (hy : X.env.scope.names.lookup y = some .local) (pa : plainE a = true) (pb : plainE b = true) (h : parB px py x y [a, b] = true) :
    swappedStores [.Tuple [.Name x px, .Name y py] kt pt] (.Tuple [a, b] k2 pt2) X.env = pure (some [x, y]) := by
  unfold parB at h
  simp only [Bool.and_eq_true, Bool.not_eq_true'] at h
  obtain ⟨⟨⟨⟨_, h1⟩, h2⟩, h3⟩, h4⟩ := h
  have kx : X.env.kindOf x = some .local := hx
  have ky : X.env.kindOf y = some .local := hy
  have hb : X.env.blockKind = .function := by unfold Env.blockKind; rw [g.scE, g.kd]; rfl
  have n1 : (y == x) = false := by
    cases e : y == x with
    | false => rfl
    | true => rw [eq_of_beq e] at h2; simp at h2
  have st : ([a, b].any fun | .Starred .. => true | _ => false) = false := by
    have : ∀ e : Expr, plainE e = true → (match e with | .Starred .. => true | _ => false) = false := fun e he => by cases e <;> first | rfl | exact absurd he (by simp [plainE])
    simp only [List.any_cons, List.any_nil, this a pa, this b pb, Bool.or_false]
  unfold swappedStores
  have e1 : Expr.pos (.Name x px) = px := rfl
  have e2 : Expr.pos (.Name y py) = py := rfl
  have er : [x, y].eraseDups = [x, y] := by simp [List.eraseDups_cons, n1]
  have k1 : (some NameKind.local == some NameKind.local) = true := rfl
  have k2 : (px.line == px.line) = true := beq_self_eq_true _
  simp only [hb, h3, h4, st, List.filterMap_cons, List.filterMap_nil, kx, ky, List.head?_cons, Option.map_some, Option.getD_some, e1, e2, h1, k1, k2, Bool.and_self, if_true, er]
  refine (if_neg (by simp)).trans ((if_neg fun z => Bool.noConfusion (st.symm.trans z)).trans ((if_neg (by simp)).trans ?_))
  rfl
end
mutual
theorem st_ok (G0 : GmOk Γ) {k : Nat} {N : List Str} (st : St) {sc : Scope} {fnb : Str → Bool} {W : WX} {X : Cx} (g : GoodX Γ k N sc fnb W X) (l : Stmt) (nd : NeedsOk Γ k st.needs) (h : st.chk N sc fnb l = true) : PS X l (rdS Γ W st.den) := by
  have hNd : X.N.Nodup := by rw [g.nm]; exact g.nd
  match st with
  | .dead => exact ⟨fun pins s σ H Q I ⟨C, B0, H0, ρ, S, B, r, q⟩ => q.elim⟩
  | .keep i s =>
    unfold St.chk at h
    exact d_keep (st_ok G0 s g l nd h)
  | .pass =>
    cases l with
    | Pass _ => exact d_pass
    | _ => cases h
  | .brk =>
    cases l with
    | Break _ => exact d_brk
    | _ => cases h
  | .ct =>
    cases l with
    | Continue _ => exact d_ct
    | _ => cases h
  | .ret e =>
    unfold St.chk at h
    split at h <;> first | contradiction | (rename_i heq; cases heq; done) | skip
    rename_i heq
    cases heq
    simp only [Bool.and_eq_true] at h
    exact d_ret ((e_ok G0 e g _ nd h.1).v h.2)
  | .expr e =>
    unfold St.chk at h
    split at h <;> first | contradiction | (rename_i heq; cases heq; done) | skip
    rename_i heq
    cases heq
    simp only [Bool.and_eq_true] at h
    exact d_expr ((e_ok G0 e g _ nd h.1.1).v h.1.2) h.2
  | .set i e =>
    unfold St.chk at h
    split at h <;> first | contradiction | (rename_i heq; cases heq; done) | skip
    rename_i heq
    cases heq
    simp only [Bool.and_eq_true] at h
    obtain ⟨⟨⟨h1, h2⟩, h3⟩, h4⟩ := h
    obtain ⟨x, q, rfl, b1, b2, b3⟩ := tgN_ok g h1
    exact d_set hNd b1 b2 b3 h4 ((e_ok G0 e g _ nd h2).v h3)
  | .setC i (.lc own it t elt) =>
    unfold St.chk at h
    split at h <;> first | contradiction | (rename_i heq; cases heq; done) | skip
    rename_i heq
    cases heq
    simp only [Bool.and_eq_true] at h
    obtain ⟨⟨h1, h2⟩, h3⟩ := h
    obtain ⟨b1, b2⟩ := locOnly_ok g h1
    unfold E.chk at h3
    simp only [Bool.and_eq_true] at h3
    obtain ⟨⟨⟨⟨⟨⟨c1, c2⟩, c3⟩, c4⟩, c5⟩, c6⟩, c7⟩ := h3
    have bk := blkOk_by c1
    refine d_setLc (is := t.ix) g.calm hNd b1 b2 (swapB_ok g h2) (by rw [g.nm, g.scE]; exact bk) c3 (fun i hi => List.contains_iff_mem.mp (List.all_eq_true.mp c4 i hi)) (itT_ok G0 it g _ _ (NeedsOk.l nd) c2) fun s H C cl fp => ?_
    have g2 := good_blk g bk.kind s H C cl fp
    exact ⟨t_ok g2 c5, d_yes, (e_ok G0 elt g2 _ (NeedsOk.r nd) c6).v c7⟩
  | .setC i (.lcIf own it t c elt) =>
    unfold St.chk at h
    split at h <;> first | contradiction | (rename_i heq; cases heq; done) | skip
    rename_i heq
    cases heq
    simp only [Bool.and_eq_true] at h
    obtain ⟨⟨h1, h2⟩, h3⟩ := h
    obtain ⟨b1, b2⟩ := locOnly_ok g h1
    unfold E.chk at h3
    simp only [Bool.and_eq_true] at h3
    obtain ⟨⟨⟨⟨⟨⟨⟨⟨c1, c2⟩, c3⟩, c4⟩, c5⟩, c8⟩, c9⟩, c6⟩, c7⟩ := h3
    have bk := blkOk_by c1
    refine d_setLc (is := t.ix) g.calm hNd b1 b2 (swapB_ok g h2) (by rw [g.nm, g.scE]; exact bk) c3 (fun i hi => List.contains_iff_mem.mp (List.all_eq_true.mp c4 i hi)) (itT_ok G0 it g _ _ (NeedsOk.l nd) c2) fun s H C cl fp => ?_
    have g2 := good_blk g bk.kind s H C cl fp
    exact ⟨t_ok g2 c5, d_if1 ((e_ok G0 c g2 _ (NeedsOk.l (NeedsOk.r nd)) c8).b c9), (e_ok G0 elt g2 _ (NeedsOk.r (NeedsOk.r nd)) c6).v c7⟩
  | .new i s =>
    unfold St.chk at h
    split at h <;> first | contradiction | (rename_i heq; cases heq; done) | skip
    rename_i heq
    cases heq
    simp only [Bool.and_eq_true] at h
    obtain ⟨⟨h1, h2⟩, h4⟩ := h
    obtain ⟨x, q, rfl, b1, b2, b3⟩ := tgN_ok g h1
    exact d_new hNd b1 b2 b3 h4 (sl_ok G0 s g _ nd h2)
  | .par i j a b =>
    unfold St.chk at h
    split at h <;> first | contradiction | (rename_i heq; cases heq; done) | skip
    rename_i heq
    cases heq
    simp only [Bool.and_eq_true] at h
    obtain ⟨⟨⟨⟨⟨⟨⟨h1, h2⟩, h3⟩, h4⟩, h5⟩, h6⟩, h7⟩, h8⟩ := h
    obtain ⟨b1, b2⟩ := locOnly_ok g h1
    obtain ⟨c1, c2⟩ := locOnly_ok g h2
    exact d_parN g.calm hNd b1 c1 (by simpa using h3) b2 c2 (sl_ok G0 a g _ nd.l h4) (sl_ok G0 b g _ nd.r h5) h6 h7 (parB_ok (i := i) (j := j) g b2 c2 h6 h7 h8)
  | .asg is e =>
    unfold St.chk at h
    split at h <;> first | contradiction | (rename_i heq; cases heq; done) | skip
    rename_i heq
    cases heq
    simp only [Bool.and_eq_true] at h
    obtain ⟨⟨⟨⟨h1, h2⟩, h3⟩, h4⟩, h5⟩ := h
    exact d_asg h4 h5 ((e_ok G0 e g _ nd h2).v h3) (t_ok g h1)
  | .app i e =>
    unfold St.chk at h
    split at h <;> first | contradiction | (rename_i heq; cases heq; done) | skip
    rename_i heq
    cases heq
    simp only [Bool.and_eq_true] at h
    obtain ⟨⟨⟨⟨⟨h1, h2⟩, h3⟩, h4⟩, h5⟩, h6⟩ := h
    cases of_decide_eq_true h1
    obtain ⟨a1, a2, a3, a4⟩ := g.vis h2
    exact d_app a1 a2 a3 a4 ((e_ok G0 e g _ nd h3).v h4) h5 h6
  | .ext i e =>
    unfold St.chk at h
    split at h <;> first | contradiction | (rename_i heq; cases heq; done) | skip
    rename_i heq
    cases heq
    simp only [Bool.and_eq_true] at h
    obtain ⟨⟨⟨⟨⟨h1, h2⟩, h3⟩, h4⟩, h5⟩, h6⟩ := h
    cases of_decide_eq_true h1
    obtain ⟨a1, a2, a3, a4⟩ := g.vis h2
    exact d_ext a1 a2 a3 a4 ((e_ok G0 e g _ nd h3).t h4) h5 h6
  | .pop (.nm j) i =>
    unfold St.chk at h
    split at h <;> first | contradiction | (rename_i heq; cases heq; done) | skip
    rename_i heq
    cases heq
    simp only [Bool.and_eq_true] at h
    obtain ⟨⟨⟨h1, h2⟩, h3⟩, h6⟩ := h
    cases of_decide_eq_true h1
    obtain ⟨a1, a2, a3, a4⟩ := g.vis h2
    obtain ⟨x, q, e, b1, b2, b3⟩ := tgN_ok g h3
    cases e
    exact d_popN g.ofs.K hNd b1 b2 b3 a1 a2 a3 a4 h6
  | .pop (.tup is) i =>
    unfold St.chk at h
    split at h <;> first | contradiction | (rename_i heq; cases heq; done) | skip
    rename_i heq
    cases heq
    simp only [Bool.and_eq_true] at h
    obtain ⟨⟨⟨h1, h2⟩, h3⟩, h6⟩ := h
    cases of_decide_eq_true h1
    obtain ⟨a1, a2, a3, a4⟩ := g.vis h2
    exact d_popT g.ofs.K (t_ok g h3) a1 a2 a3 a4 h6
  | .ixset i k e =>
    unfold St.chk at h
    split at h <;> first | contradiction | (rename_i heq; cases heq; done) | skip
    rename_i heq
    cases heq
    simp only [Bool.and_eq_true] at h
    obtain ⟨⟨⟨⟨⟨⟨⟨h1, h2⟩, h3⟩, h4⟩, h5⟩, h6⟩, h7⟩, h8⟩ := h
    obtain ⟨a1, a2, a3, a4⟩ := g.vis h1
    exact d_ixset a1 a2 a3 a4 ((e_ok G0 k g _ nd.l h2).v h3) ((e_ok G0 e g _ nd.r h5).v h6) h7 h8 h4
  | .cell i k e =>
    unfold St.chk at h
    split at h <;> first | contradiction | (rename_i heq; cases heq; done) | skip
    rename_i heq
    cases heq
    simp only [Bool.and_eq_true] at h
    obtain ⟨⟨⟨⟨⟨⟨⟨h1, h2⟩, h3⟩, h4⟩, h5⟩, h6⟩, h7⟩, h8⟩ := h
    obtain ⟨a1, a2, a3, a4⟩ := g.vis h1
    exact d_cellSet a1 a2 a3 a4 ((e_ok G0 k g _ nd.l h2).v h3) ((e_ok G0 e g _ nd.r h5).v h6) h7 h8 h4
  | .ite c a b =>
    unfold St.chk at h
    split at h <;> first | contradiction | (rename_i heq; cases heq; done) | skip
    rename_i heq
    cases heq
    simp only [Bool.and_eq_true] at h
    obtain ⟨⟨⟨h1, h2⟩, h3⟩, h4⟩ := h
    exact d_if ((e_ok G0 c g _ nd.l h1).b h2) (sts_ok G0 a g _ nd.r.l h3) (sts_ok G0 b g _ nd.r.r h4)
  | .whl f c b =>
    unfold St.chk at h
    split at h <;> first | contradiction | (rename_i heq; cases heq; done) | skip
    rename_i heq
    cases heq
    simp only [Bool.and_eq_true] at h
    obtain ⟨⟨h1, h2⟩, h3⟩ := h
    exact d_while g.po ((e_ok G0 c g _ nd.l h1).b h2) (sts_ok G0 b g _ nd.r h3)
  | .for_ it t b =>
    unfold St.chk at h
    split at h <;> first | contradiction | (rename_i heq; cases heq; done) | skip
    rename_i heq
    cases heq
    simp only [Bool.and_eq_true] at h
    obtain ⟨⟨⟨h1, h2⟩, h3⟩, h4⟩ := h
    exact d_for g.po g.calm h2 (itF_ok G0 it g _ _ nd.l h1) (t_ok g h3) (sts_ok G0 b g _ nd.r h4)
  | .setC i (.var _) | .setC i (.peek _) | .setC i (.scr _) | .setC i (.int _) | .setC i (.str _) | .setC i (.bl _) | .setC i .non | .setC i (.glob _ _) | .setC i (.bin _ _ _) | .setC i (.un _ _) | .setC i (.cmp _ _ _) | .setC i (.chain _ _ _ _ _) | .setC i (.not _) | .setC i (.ands _) | .setC i (.ors _) | .setC i (.ite _ _ _) | .setC i (.ix _ _) | .setC i (.cell _ _) | .setC i (.sl _ _ _) | .setC i (.tup _) | .setC i (.lst _) | .setC i (.tupS _) | .setC i (.lstS _) | .setC i (.fmt _) | .setC i (.fstr _) | .setC i .dead | .setC i (.call _ _ _) | .setC i (.b1 _ _) | .setC i (.b2 _ _ _) =>
    cases h
theorem sts_ok (G0 : GmOk Γ) {k : Nat} {N : List Str} (st : Sts) {sc : Scope} {fnb : Str → Bool} {W : WX} {X : Cx} (g : GoodX Γ k N sc fnb W X) (l : List Stmt) (nd : NeedsOk Γ k st.needs) (h : st.chk N sc fnb l = true) : PSs X l (rdS Γ W st.den) := by
  match st, l with
  | .nil, [] => exact d_nil
  | .cons s r, l :: ls =>
    unfold Sts.chk at h
    rw [Bool.and_eq_true] at h
    exact d_cons (st_ok G0 s g l nd.l h.1) (sts_ok G0 r g ls nd.r h.2)
  | .nil, _ :: _ => cases h
  | .cons _ _, [] => cases h
end
end Pv
namespace Pv
open PySem PySem.Spec PyProof.Rows L2
/-! the law's own call -/
def Flat (a : Addr) (H : Hp) : Prop := ∀ b, H b = none ∨ (b = a ∧ ∃ o xs, H b = some (.frz o (.lst xs)) ∧ xs.length ≤ sizeLine)
theorem hid_free {h : Heap} {H : Hp} {b : Addr} {o : Obj} (e : h.get? b = some o) (n : H b = none) : (hidT h H).get? b = some o := hidT_get e n
theorem law_here {Γ : Gm} {mb : Str → Option Value} {k : Nat} {fa a : Addr} {fd : FuncData} {x : Str} {f : Fn} {s₁ : Shared} {vs : List Value} {ns : List Int} {H : Hp} {S' : SS}
    (KX : Γ.K.In s₁.heap) (hns : s₁.heap.Ns mainGlobals Γ.mg) (hb : s₁.heap.Ns builtinsNs mb) (hbb : ∀ x : Str, x ≠ "__name__" → mb x = bootBuiltins x) (hlim : s₁.heap.NoLimit) (hg : s₁.gens = #[])
    (ha : s₁.heap.get? a = some { cls := .type "list", data := .seq vs.toArray }) (hr : Room k callerA) (hT : Γ.T = [])
    (F : ∀ base : Heap, Γ.K.In base → base.Ns mainGlobals Γ.mg → FnG { Γ with base := base } k fa fd [x] (spF { Γ with base := base } 1 f)) (hbind : ∀ (s : Shared) (u : Value), BindsTo s fd ⟨[u], []⟩ [(x, u)])
    (hf : f [.scr (ns.map PyData.int)] none = .ok (.bool true) S') (fl : Flat a H) (hS : SqL Γ.K H a (ns.map V.int)) (hok : HOk Γ.prog Γ.w H s₁.heap) (hK : H a ≠ none → Γ.K.lookup a = none) :
    codeAny (model Γ.prog Γ.w) callerA (.call (.ref fa) ⟨[.ref a], []⟩) (fun r s' => r = .ok (.ret (.bool true)) ∧ OldK s₁.heap s'.heap ∧ s'.os = s₁.os ∧ AllBare s'.gens) s₁ := by
  have dictFree : ∀ {b : Addr} {o : Obj} {es : Array DictEntry} {ep : Nat}, s₁.heap.get? b = some o → o.data = .dict es ep → H b = none := by
    intro b o es ep e d
    rcases fl b with z | ⟨rfl, _⟩
    · exact z
    · rw [ha] at e
      cases e
      exact nomatch (show Data.seq vs.toArray _ = Data.dict es ep from d)
  have hides : ∀ {b : Addr} {m : Str → Option Value}, s₁.heap.Ns b m → (hidT s₁.heap H).Ns b m := by
    rintro b m ⟨o, es, ep, e, d, r⟩
    exact ⟨o, es, ep, hid_free e (dictFree e d), d, r⟩
  have kin : Γ.K.In (hidT s₁.heap H) := by
    intro b o e
    refine hid_free (KX b o e) ?_
    rcases fl b with z | ⟨rfl, ob, xs, z, _⟩
    · exact z
    · rw [hK (by rw [z]; simp)] at e
      cases e
  have md : Mod Γ.K Γ.mg (hidT s₁.heap H) := by
    obtain ⟨mc, l1, l2⟩ := hlim
    exact ⟨kin, hides hns, ⟨mb, hides hb, hbb⟩, mc, hides l1, l2⟩
  have noFrame : ∀ {b : Addr} {P : Prop}, b ∈ ([] : List Addr) → P := fun z => (List.not_mem_nil z).elim
  have env : Env0 Γ.prog Γ.w Γ.K Γ.mg (hidT s₁.heap H) callerA [] s₁ H :=
    { frames := rfl, mod := md, bs := fun b o e => of_hidT e, bsz := Nat.le_of_eq (hidT_size _ _), funs := trivial, frf := fun b z => noFrame (show b ∈ ([] : List Addr) from z), hok := hok, bare := .of_eq hg }
  have lens : Lens H := by
    intro b o e
    rcases fl b with z | ⟨_, ob, xs, z, l⟩
    · rw [z] at e; cases e
    · rw [z] at e; cases e; exact l
  have nx : Nxt { Γ with base := hidT s₁.heap H } none H H none H H := ⟨fun _ _ h => h, fun _ _ h => h, .refl, fun _ h _ => h, trivial, fun q hq => (by rw [hT] at hq; cases hq), lens⟩
  have args : ArgsOk Γ.K none H [V.ref a] [Arg.scr (ns.map PyData.int)] := .cons ⟨a, _, rfl, hS, RpAll.ints _⟩ .nil
  have asks : spF { Γ with base := hidT s₁.heap H } 1 f [V.ref a] H (fun v _ => v = .bl true) fun _ _ _ => False := by
    refine ⟨none, H, none, _, nx, args, rfl, ?_⟩
    rw [hf]
    intro v H' B' n r
    cases r
    rfl
  have run := (F _ kin (hides hns)).run callerA [] s₁ H ⟨[.ref a], []⟩ [.ref a] [.ref a] _ _ hr rfl env (hbind s₁ (.ref a)) (.cons rfl .nil) asks
  refine codeAny_mono run ?_
  rintro (e | fl') s' h
  · obtain ⟨_, _, _, _, _, _, _, _, _, _, _, _, no⟩ := h
    exact no.elim
  · cases fl' with
    | ret u =>
      obtain ⟨v, H', os, bare, un, ok', rv, q⟩ := h
      have q' : v = .bl true := q
      subst q'
      cases rv
      refine ⟨rfl, OldK.of_keep ?_, os, bare⟩
      intro b o e
      rcases fl b with z | ⟨_, ob, xs, z, _⟩
      · exact un.keep b o e z (fun t => noFrame (show b ∈ ([] : List Addr) from t)) (by simp)
      · obtain ⟨e1, _⟩ := hok b _ z
        obtain ⟨e2, _⟩ := ok' b _ (un.frzs b ob _ z)
        rw [e] at e1
        cases e1
        exact e2
    | next => exact h.elim
    | brk => exact h.elim
    | cont => exact h.elim
/-- where the script lies -/
theorem law_callG {Γ : Gm} {mb : Str → Option Value} {k : Nat} {fa a : Addr} {fd : FuncData} {x : Str} {f : Fn} {s₁ : Shared} {vs : List Value} {ns : List Int} {S' : SS}
    (KX : Γ.K.In s₁.heap) (hns : s₁.heap.Ns mainGlobals Γ.mg) (hb : s₁.heap.Ns builtinsNs mb) (hbb : ∀ x : Str, x ≠ "__name__" → mb x = bootBuiltins x) (hlim : s₁.heap.NoLimit) (hg : s₁.gens = #[])
    (ha : s₁.heap.get? a = some { cls := .type "list", data := .seq vs.toArray }) (hi : IntsAre vs ns) (hl : ns.length ≤ sizeLine) (hr : Room k callerA) (hT : Γ.T = [])
    (F : ∀ base : Heap, Γ.K.In base → base.Ns mainGlobals Γ.mg → FnG { Γ with base := base } k fa fd [x] (spF { Γ with base := base } 1 f)) (hbind : ∀ (s : Shared) (u : Value), BindsTo s fd ⟨[u], []⟩ [(x, u)])
    (hf : f [.scr (ns.map PyData.int)] none = .ok (.bool true) S') :
    codeAny (model Γ.prog Γ.w) callerA (.call (.ref fa) ⟨[.ref a], []⟩) (fun r s' => r = .ok (.ret (.bool true)) ∧ OldK s₁.heap s'.heap ∧ s'.os = s₁.os ∧ AllBare s'.gens) s₁ := by
  have rv := vals_ints hi
  have same := hi.length
  cases known : Γ.K.lookup a with
  | some o =>
    have e := (KX a o known).symm.trans ha
    cases e
    have sq : SqL Γ.K (fun _ => none) a (ns.map V.int) := by
      refine .inr ⟨_, vs.toArray, _, known, rfl, rfl, rfl, ?_, ?_⟩
      · rw [List.size_toArray, same]; exact hl
      · simpa using rv
    exact law_here KX hns hb hbb hlim hg ha hr hT F hbind hf (fun b => .inl rfl) sq (fun b u z => nomatch (show (none : Option HO) = some u from z)) fun z => (z rfl).elim
  | none =>
    have at_a : ∀ u : HO, (fun b => if b = a then some u else none : Hp) a = some u := fun u => if_pos rfl
    have off : ∀ (u : HO) {b : Addr}, b ≠ a → (fun b => if b = a then some u else none : Hp) b = none := fun u b z => if_neg z
    refine law_here (H := fun b => if b = a then some (.frz { cls := .type "list", data := .seq vs.toArray } (.lst (ns.map V.int))) else none) KX hns hb hbb hlim hg ha hr hT F hbind hf (fun b => ?_) (.inl (.inr ⟨_, at_a _⟩)) (fun b u z => ?_) fun _ => known
    · cases decEq b a with
      | isTrue t => subst t; exact .inr ⟨rfl, _, _, at_a _, by rw [List.length_map]; exact hl⟩
      | isFalse t => exact .inl (off _ t)
    · cases decEq b a with
      | isTrue t =>
        subst t
        have z := (at_a _).symm.trans z
        cases z
        exact ⟨ha, by rw [List.length_map]; exact hl, vs, _, rv, ha⟩
      | isFalse t =>
        have z := (off _ t).symm.trans z
        cases z
/-- THE END: a law by its meaning -/
theorem walk_ofG {l : PySem.W.OpenLaw} {n k : Nat} {q : Program} {loose : List Str} {XP : (Str → Option Value) → Heap → Prop} {YP : World → Heap → Prop} {d : DefRec} {x : Str} {cls : PySem.W.Frag → Exn → Value} {f : Fn}
    (hn : l.most = some n) (hn2 : n ≤ sizeLine) (hdf : d.params.defaults = []) (hr : Room k callerA)
    (hf : ∀ ns : List Int, ns.length ≤ n → ∃ S', f [.scr (ns.map PyData.int)] none = .ok (.bool true) S')
    (F : ∀ (w : World) (mg : Str → Option Value) (fa : Addr) (h : Heap), YP w h → h.Ns mainGlobals mg → mg d.name = some (.ref fa) →
      ∃ (K : PySem.W.Frag) (fd : FuncData), K.In h ∧ (∀ (s : Shared) (u : Value), BindsTo s fd ⟨[u], []⟩ [(x, u)]) ∧ ∀ base : Heap, FnG ⟨l.prog, w, K, mg, base, [], cls K⟩ k fa fd [x] (spF ⟨l.prog, w, K, mg, base, [], cls K⟩ 1 f)) :
    PySem.W.WalkO q loose XP YP l.row.toRowW d [] (fun f vs => PySem.call f vs) := by
  refine Att.attach_call hn hdf ?_
  intro w s₀ s₁ mg mb fa o pm cd doc a vs ns G Y ho hd hcd hmg hobj hints hlen hg
  obtain ⟨K, fd, KX, bd, run⟩ := F w mg fa _ Y G.T.g hmg
  obtain ⟨S', e⟩ := hf ns hlen
  exact law_callG (Γ := ⟨l.prog, w, K, mg, s₁.heap, [], cls K⟩) KX G.T.g G.T.b G.T.builtins G.T.nolimit hg hobj hints (Nat.le_trans hlen hn2) hr rfl (fun base _ _ => run base) bd e
/-- a def by its term -/
theorem fn_ok {Γ : Gm} (G0 : GmOk Γ) {k : Nat} {f : Addr} {fd : FuncData} {x q : Str} {params : Arguments} {body : List Stmt} {scope : Scope} {N ps : List Str} {b : Sts} (F : FunD Γ.K x q params body scope [] [] f fd) (S : FnScope N ps scope) (hl : ps.length ≤ N.length) (hm : Γ.mg x = some (.ref f)) (bd : Binds Γ.K fd ps [])
    (nd : NeedsOk Γ k b.needs) (h : b.chk N scope (fun _ => true) body = true) : CalleeOk Γ (k + 2) x ps.length (runB N.length b.den) :=
  callee_of F S hl hm bd fun W X g => sts_ok G0 b g body nd h
theorem fn_law {Γ : Gm} (G0 : GmOk Γ) {k : Nat} {f : Addr} {fd : FuncData} {x q : Str} {params : Arguments} {body : List Stmt} {scope : Scope} {N ps : List Str} {b : Sts} (F : FunD Γ.K x q params body scope [] [] f fd) (S : FnScope N ps scope) (hl : ps.length ≤ N.length)
    (nd : NeedsOk Γ k b.needs) (h : b.chk N scope (fun _ => true) body = true) : FnG Γ (k + 2) f fd ps (spF Γ ps.length (runB N.length b.den)) :=
  fnG_of F S hl fun W X g => sts_ok G0 b g body nd h
end Pv
namespace Pv
open PySem PySem.Spec PyProof.Rows L2
variable {Γ : Gm} {X : Cx} {W : WX} {pos p : Pos}
/-! the shared list is made, the rest is done, it is forgotten -/
def shut : Res Fl → Res Fl
  | .ok (.rt d) _ => .ok (.rt d) none
  | .exc k _ => .exc k none
  | _ => .bad
def inCell (n : MS) (ρ : Env) (ds : List D) : M Fl := fun s => match s with
  | none => shut (n ρ (some ds))
  | some _ => .bad
def sLaw (i : Nat) (m : MA) (n : MS) : MS := fun ρ => m ρ >>= inCell n (ρ.set i .cell)
theorem nxt_shut {B0 H0 B H : Hp} {S : SS} {c : Addr} (f : H0 c = none) (n : Nxt Γ (some c) B0 H0 S B H) : Nxt Γ none B0 H0 none B H :=
  ⟨n.sb, n.sh, ⟨fun a o e _ t => n.ex.keep a o e (fun z => by cases z; rw [f] at e; cases e) t, n.ex.there⟩, n.nw, trivial, n.tb, n.ln⟩
theorem Rel.cellNew {B0 H0 B H : Hp} {ρ : Env} {S : SS} {σ : L2.St} {i : Nat} {c : Addr} {xs : List V} {ds : List D} (r : Rel Γ none B0 H0 ρ S σ B H) (np : H c = none) (rp : RpAll Γ.K B xs ds) (hz : xs.length ≤ sizeLine) :
    Rel Γ (some c) B0 H0 (ρ.set i .cell) (some ds) (σ.set i (some (.ref c))) B (upd H c (.lst xs)) := by
  have n := r.nx
  have nB := sub_none n.sh np
  have sH := sub_upd (o := .lst xs) np
  have nx : Nxt Γ (some c) B0 H0 (some ds) B (upd H c (.lst xs)) := by
    refine ⟨n.sb, fun a o e => sH a o (n.sh a o e), ⟨fun a o e _ t => sH a o (n.ex.keep a o e (by simp) t), fun a h => ?_⟩, n.nw, ⟨nB, xs, upd_same, rp⟩, fun q hq => (n.tb q hq).ext sH, fun b u e => ?_⟩
    · have h2 := n.ex.there a h
      cases e : H a with
      | none => exact absurd e h2
      | some u => rw [sH a u e]; simp
    · by_cases hb : b = c
      · subst hb; rw [upd_same] at e; cases e; exact hz
      · rw [upd_ne hb] at e; exact n.ln _ _ e
  have up : ∀ {s : Slot} {o : Option (Option V)}, SlotOk Γ.K none H0 B H s o → SlotOk Γ.K (some c) H0 B (upd H c (.lst xs)) s o := by
    intro s o h
    cases s with
    | none => trivial
    | val d => exact h
    | own es =>
      obtain ⟨a, ys, e, z, b, _, h, q⟩ := h
      exact ⟨a, ys, e, z, b, (fun t => by cases t; rw [np] at h; cases h), sH _ _ h, q⟩
    | ownd es =>
      obtain ⟨a, ys, e, z, b, _, h, q⟩ := h
      exact ⟨a, ys, e, z, b, (fun t => by cases t; rw [np] at h; cases h), sH _ _ h, q⟩
    | cell => obtain ⟨a, e, _⟩ := h; cases e
    | scr es => exact h
  refine ⟨nx, by rw [List.length_set, List.length_set]; exact r.len, fun j => ?_, fun j k a hjk hj hk e1 e2 => ?_⟩
  · rw [getD_set]
    split
    · rename_i z
      obtain ⟨rfl, hl⟩ := z
      rw [List.getElem?_set_self (by rw [← r.len]; exact hl)]
      exact ⟨c, rfl, rfl⟩
    · rename_i z
      by_cases e : i = j
      · subst e
        have e0 : ρ.getD i .none = .none := by
          rw [List.getD_eq_getElem?_getD, List.getElem?_eq_none (Nat.le_of_not_lt fun hl => z ⟨rfl, hl⟩)]
          rfl
        rw [e0]
        trivial
      · rw [List.getElem?_set_ne e]
        exact up (r.slot j)
  · rw [getD_set] at hj hk
    have off : ∀ {j : Nat}, (if i = j ∧ i < ρ.length then Slot.cell else ρ.getD j .none).isOwn = true → i ≠ j ∧ (ρ.getD j .none).isOwn = true := by
      intro j hj
      split at hj
      · cases hj
      · rename_i z
        refine ⟨fun e => ?_, hj⟩
        subst e
        rw [List.getD_eq_getElem?_getD, List.getElem?_eq_none (Nat.le_of_not_lt fun hl => z ⟨rfl, hl⟩)] at hj
        cases hj
    obtain ⟨j1, j2⟩ := off hj
    obtain ⟨k1, k2⟩ := off hk
    rw [List.getElem?_set_ne j1] at e1
    rw [List.getElem?_set_ne k1] at e2
    exact r.dis j k a hjk j2 k2 e1 e2
theorem d_law {i n : Nat} {x : Str} {es : List Expr} {m : MA} {rest : List Stmt} {mn : MS} {q q2 : Pos} (hN : X.N.Nodup) (hi : X.N[i]? = some x) (hx : L2.Loc X.env.scope x) (hf : X.fn x = true ∨ X.env.scope.names.lookup x = some .local)
    (h : PA X es (rdN Γ W n m)) (hn : n ≤ 1000) (hr : PSs X rest (rdS Γ W mn)) : PSs X (.Assign [.Name x q] (.List es q2) pos :: rest) (rdS Γ W (sLaw i m mn)) :=
  PSs.imp (pss_cons (ps_set hN hi hx (pe_lst h) rfl hf) hr) fun E σ H ⟨C, B0, H0, ρ, S, B, r, w⟩ => by
    refine ⟨C, B0, H0, ρ, S, B, r, ?_⟩
    unfold sLaw at w
    rw [bind_at] at w
    cases e : m ρ S with
    | ok ds S1 =>
      rw [e] at w
      intro xs H1 B1 n1 rp
      have hz : xs.length ≤ sizeLine := by rw [rp.1.len, rp.2]; exact thousand hn
      refine ⟨hz, fun c np => ?_⟩
      cases S1 with
      | some _ => exact w.elim
      | none =>
        have c0 : C = none := by
          have ce := n1.ce
          cases C with
          | none => rfl
          | some _ => exact ce.elim
        subst c0
        have r1 := r.up n1
        have f := r1.nx.ex.free np
        refine ⟨some c, B0, H0, ρ.set i .cell, some ds, B1, r1.cellNew np rp.1 hz, ?_⟩
        cases t : mn (ρ.set i .cell) (some ds) with
        | ok fl S2 =>
          have w : PostS Γ none W B0 H0 B E (shut (mn (ρ.set i .cell) (some ds))) := w
          rw [t] at w
          cases fl with
          | rt d => exact fun v B' H' n' x => w v B' H' (nxt_shut f n') x
          | nx _ => exact w.elim
          | bk _ => exact w.elim
          | ct _ => exact w.elim
        | exc k S2 =>
          have w : PostS Γ none W B0 H0 B E (shut (mn (ρ.set i .cell) (some ds))) := w
          rw [t] at w
          exact fun σ' B' H' n' => w σ' B' H' (nxt_shut f n')
        | bad =>
          have w : PostS Γ none W B0 H0 B E (shut (mn (ρ.set i .cell) (some ds))) := w
          rw [t] at w
          exact w
    | exc k S1 => rw [e] at w; exact fun H' B' n' => w σ B' H' (r.nx.trans n')
    | bad => rw [e] at w; exact w
/-- a law's def -/
structure LawT where
  i : Nat
  es : Es
  rest : Sts
def LawT.den (l : LawT) : MS := sLaw l.i l.es.den l.rest.den
def LawT.chk (N : List Str) (sc : Scope) (l : LawT) : List Stmt → Bool
  | .Assign [t] (.List es _) _ :: rest => tgB N sc (fun _ => true) l.i t && l.es.chk N sc (fun _ => true) es && decide (es.length ≤ 1000) && l.rest.chk N sc (fun _ => true) rest
  | _ => false
def LawT.needs (l : LawT) : List Need := l.es.needs ++ l.rest.needs
theorem law_ok {Γ : Gm} (G0 : GmOk Γ) {k : Nat} {f : Addr} {fd : FuncData} {x q : Str} {params : Arguments} {body : List Stmt} {scope : Scope} {N ps : List Str} {b : LawT} (F : FunD Γ.K x q params body scope [] [] f fd) (S : FnScope N ps scope) (hl : ps.length ≤ N.length)
    (nd : NeedsOk Γ k b.needs) (h : b.chk N scope body = true) : FnG Γ (k + 2) f fd ps (spF Γ ps.length (runB N.length b.den)) :=
  fnG_of F S hl fun W X g => by
    unfold LawT.chk at h
    split at h
    · simp only [Bool.and_eq_true] at h
      obtain ⟨⟨⟨h1, h2⟩, h3⟩, h4⟩ := h
      obtain ⟨y, q, rfl, b1, b2, b3⟩ := tgN_ok g h1
      exact d_law (by rw [g.nm]; exact g.nd) b1 b2 b3 (es_ok G0 b.es g _ nd.l h2).a (of_decide_eq_true h3) (sts_ok G0 b.rest g _ nd.r h4)
    · cases h
end Pv
namespace Pv
open PySem PySem.Spec PyProof.Rows L2
def NeedsAll (Γ : Gm) (k : Nat) : List Need → Prop
  | [] => True
  | x :: r => NeedOk Γ k x ∧ NeedsAll Γ k r
theorem NeedsOk.of {Γ : Gm} {k : Nat} : ∀ {l : List Need}, NeedsAll Γ k l → NeedsOk Γ k l
  | [], _ => fun _ h => (by cases h)
  | x :: r, h => fun y hy => by
    cases hy with
    | head => exact h.1
    | tail _ z => exact NeedsOk.of h.2 y z
end Pv
namespace Pv
open PySem PySem.Spec PyProof.Rows L2
/-! reckoning with meanings -/
@[simp] theorem slot_d (d : D) : Arg.slot (.d d) = .val d := rfl
@[simp] theorem slot_cell : Arg.slot .cell = .cell := rfl
@[simp] theorem slot_scr (ds : List D) : Arg.slot (.scr ds) = .scr ds := rfl
@[simp] theorem flow_nx (ρ : Env) (n : MS) : flow (.nx ρ) n = n ρ := rfl
@[simp] theorem flow_bk (ρ : Env) (n : MS) : flow (.bk ρ) n = pure (.bk ρ) := rfl
@[simp] theorem flow_ct (ρ : Env) (n : MS) : flow (.ct ρ) n = pure (.ct ρ) := rfl
@[simp] theorem flow_rt (d : D) (n : MS) : flow (.rt d) n = pure (.rt d) := rfl
@[simp] theorem again_nx (ρ : Env) (n : MS) : again (.nx ρ) n = n ρ := rfl
@[simp] theorem again_ct (ρ : Env) (n : MS) : again (.ct ρ) n = n ρ := rfl
@[simp] theorem again_bk (ρ : Env) (n : MS) : again (.bk ρ) n = pure (.nx ρ) := rfl
@[simp] theorem again_rt (d : D) (n : MS) : again (.rt d) n = pure (.rt d) := rfl
@[simp] theorem outF_rt (d : D) : outF (.rt d) = pure d := rfl
@[simp] theorem outF_nx (ρ : Env) : outF (.nx ρ) = pure .none := rfl
@[simp] theorem asB_bool (b : Bool) : asB (.bool b) = pure b := rfl
@[simp] theorem asI_int (i : Int) : asI (.int i) = pure i := rfl
theorem whileN_succ (mc : ME) (mb : MS) (n : Nat) (ρ : Env) : whileN mc mb (n + 1) ρ = mc ρ >>= fun d => asB d >>= fun c => if c = true then mb ρ >>= fun f => again f (whileN mc mb n) else pure (.nx ρ) := rfl
@[simp] theorem forN_nil (t : TM) (mb : MS) (ρ : Env) : forN t mb [] ρ = pure (.nx ρ) := rfl
theorem forN_nm (i : Nat) (mb : MS) (d : D) (r : List D) (ρ : Env) : forN (tN i) mb (d :: r) ρ = mb (ρ.set i (.val d)) >>= fun f => again f (forN (tN i) mb r) := rfl
@[simp] theorem add_int (i j : Int) : addD (.int i) (.int j) = pure (.int (i + j)) := rfl
@[simp] theorem sub_int (i j : Int) : subD (.int i) (.int j) = pure (.int (i - j)) := rfl
theorem mul_int {i j : Int} (h : i.natAbs < BIG ∧ j.natAbs < BIG) : mulD (.int i) (.int j) = pure (.int (i * j)) := if_pos h
theorem fdiv_int {i j : Int} (h : j ≠ 0 ∧ j.natAbs < DB) : fdivD (.int i) (.int j) = pure (.int (i.fdiv j)) := if_pos h
theorem mod_int {i j : Int} (h : j ≠ 0) : modD (.int i) (.int j) = pure (.int (i.fmod j)) := if_pos h
@[simp] theorem neg_int (i : Int) : negD (.int i) = pure (.int (-i)) := rfl
@[simp] theorem lt_int (i j : Int) : ltD (.int i) (.int j) = pure (.bool (decide (i < j))) := rfl
@[simp] theorem le_int (i j : Int) : leD (.int i) (.int j) = pure (.bool (decide (i ≤ j))) := rfl
@[simp] theorem gt_int (i j : Int) : gtD (.int i) (.int j) = pure (.bool (decide (j < i))) := rfl
@[simp] theorem ge_int (i j : Int) : geD (.int i) (.int j) = pure (.bool (decide (j ≤ i))) := rfl
@[simp] theorem eq_int (i j : Int) : eqD (.int i) (.int j) = pure (.bool (i == j)) := rfl
@[simp] theorem eq_bool (i j : Bool) : eqD (.bool i) (.bool j) = pure (.bool (i == j)) := rfl
@[simp] theorem eq_str (i j : Str) : eqD (.str i) (.str j) = pure (.bool (i == j)) := rfl
@[simp] theorem ne_str (i j : Str) : neD (.str i) (.str j) = pure (.bool (!(i == j))) := rfl
@[simp] theorem ne_int (i j : Int) : neD (.int i) (.int j) = pure (.bool (!(i == j))) := rfl
@[simp] theorem ne_bool (i j : Bool) : neD (.bool i) (.bool j) = pure (.bool (!(i == j))) := rfl
@[simp] theorem abs_int (i : Int) : absD (.int i) = pure (.int i.natAbs) := rfl
@[simp] theorem int_int (i : Int) : intD (.int i) = pure (.int i) := rfl
@[simp] theorem int_bool (b : Bool) : intD (.bool b) = pure (.int (if b then 1 else 0)) := rfl
@[simp] theorem len_list (xs : List D) : lenD (.list xs) = pure (.int xs.length) := rfl
@[simp] theorem len_tuple (xs : List D) : lenD (.tuple xs) = pure (.int xs.length) := rfl
@[simp] theorem ix_list (xs : List D) (i : Int) : ixD (.list xs) (.int i) = optM (atI xs i) := rfl
@[simp] theorem ix_tuple (xs : List D) (i : Int) : ixD (.tuple xs) (.int i) = optM (atI xs i) := rfl
@[simp] theorem optM_some (d : D) : optM (some d) = pure d := rfl
@[simp] theorem items_list (xs : List D) : itemsD (.list xs) = pure xs := rfl
@[simp] theorem items_tuple (xs : List D) : itemsD (.tuple xs) = pure xs := rfl
@[simp] theorem zip_list (xs ys : List D) : zipD (.list xs) (.list ys) = pure (zipL xs ys) := rfl
@[simp] theorem zip_tuple (xs ys : List D) : zipD (.tuple xs) (.tuple ys) = pure (zipL xs ys) := rfl
@[simp] theorem onSome_some {α β : Type} (a : α) (f : α → M β) : onSome (some a) f = f a := rfl
@[simp] theorem slice_list (xs : List D) (lo hi : Option Int) : sliceD (.list xs) lo hi = pure (.list (cutD xs lo hi)) := rfl
@[simp] theorem slice_tuple (xs : List D) (lo hi : Option Int) : sliceD (.tuple xs) lo hi = pure (.tuple (cutD xs lo hi)) := rfl
@[simp] theorem ownSl_list (xs : List D) : ownSl (.list xs) = pure (.own xs) := rfl
@[simp] theorem max2_int (i j : Int) : max2D (.int i) (.int j) = pure (.int (max i j)) := rfl
@[simp] theorem min2_int (i j : Int) : min2D (.int i) (.int j) = pure (.int (min i j)) := rfl
@[simp] theorem ap_v1 (f : D → M D) (m : ME) (ρ : Env) : (v1 f m) ρ = m ρ >>= f := rfl
@[simp] theorem ap_v2 (f : D → D → M D) (m n : ME) (ρ : Env) : (v2 f m n) ρ = m ρ >>= fun x => n ρ >>= f x := rfl
@[simp] theorem ap_vC (d : D) (ρ : Env) : (vC d) ρ = pure d := rfl
@[simp] theorem ap_vNot (m : ME) (ρ : Env) : (vNot m) ρ = m ρ >>= fun d => asB d >>= fun b => pure (.bool (!b)) := rfl
@[simp] theorem ap_vAnd (m n : ME) (ρ : Env) : (vAnd m n) ρ = m ρ >>= fun d => asB d >>= fun b => if b = true then n ρ else pure (.bool false) := rfl
@[simp] theorem ap_vOr (m n : ME) (ρ : Env) : (vOr m n) ρ = m ρ >>= fun d => asB d >>= fun b => if b = true then pure (.bool true) else n ρ := rfl
@[simp] theorem ap_vIf (c m n : ME) (ρ : Env) : (vIf c m n) ρ = c ρ >>= fun d => asB d >>= fun b => if b = true then m ρ else n ρ := rfl
@[simp] theorem ap_vChain (f g : D → D → M D) (a b c : ME) (ρ : Env) : (vChain f g a b c) ρ = a ρ >>= fun x => b ρ >>= fun y => f x y >>= fun d => asB d >>= fun k => if k = true then c ρ >>= g y else pure (.bool false) := rfl
@[simp] theorem ap_vTup (m : MA) (ρ : Env) : (vTup m) ρ = m ρ >>= fun xs => pure (.tuple xs) := rfl
@[simp] theorem ap_vLst (m : MA) (ρ : Env) : (vLst m) ρ = m ρ >>= fun xs => pure (.list xs) := rfl
@[simp] theorem ap_aNil  (ρ : Env) : aNil ρ = pure [] := rfl
@[simp] theorem ap_aCons (m : ME) (r : MA) (ρ : Env) : (aCons m r) ρ = m ρ >>= fun x => r ρ >>= fun xs => pure (x :: xs) := rfl
@[simp] theorem ap_gNil  (ρ : Env) : gNil ρ = pure [] := rfl
@[simp] theorem ap_gCons (m : ME) (r : MG) (ρ : Env) : (gCons m r) ρ = m ρ >>= fun x => r ρ >>= fun xs => pure (.d x :: xs) := rfl
@[simp] theorem ap_vCall (f : Fn) (m : MG) (ρ : Env) : (vCall f m) ρ = m ρ >>= f := rfl
@[simp] theorem ap_oNo  (ρ : Env) : oNo ρ = pure none := rfl
@[simp] theorem ap_oYes (m : ME) (ρ : Env) : (oYes m) ρ = m ρ >>= fun d => asI d >>= fun i => pure (some i) := rfl
@[simp] theorem ap_vSl (m : ME) (l h : MO) (ρ : Env) : (vSl m l h) ρ = m ρ >>= fun d => l ρ >>= fun lo => h ρ >>= fun hi => sliceD d lo hi := rfl
@[simp] theorem ap_iSeq (m : ME) (ρ : Env) : (iSeq m) ρ = m ρ >>= itemsD := rfl
@[simp] theorem ap_iR1 (m : ME) (ρ : Env) : (iR1 m) ρ = m ρ >>= fun d => asI d >>= fun j => rngM 0 j := rfl
@[simp] theorem ap_iR2 (m n : ME) (ρ : Env) : (iR2 m n) ρ = m ρ >>= fun d => n ρ >>= fun e => asI d >>= fun i => asI e >>= fun j => rngM i j := rfl
@[simp] theorem ap_iZip (m n : ME) (ρ : Env) : (iZip m n) ρ = m ρ >>= fun d => n ρ >>= fun e => zipD d e := rfl
@[simp] theorem ap_vLc (own : List Nat) (i : MI) (t : TM) (mt me : ME) (ρ : Env) : (vLc own i t mt me) ρ = i ρ >>= fun ds => collect (turnM t mt me (wipeE ρ own)) ds >>= fun xs => pure (.list xs) := rfl
@[simp] theorem ap_sNil  (ρ : Env) : sNil ρ = pure (.nx ρ) := rfl
@[simp] theorem ap_sSeq (m n : MS) (ρ : Env) : (sSeq m n) ρ = m ρ >>= fun f => flow f n := rfl
@[simp] theorem ap_sRet (m : ME) (ρ : Env) : (sRet m) ρ = m ρ >>= fun d => pure (.rt d) := rfl
@[simp] theorem ap_sDrop (m : ME) (ρ : Env) : (sDrop m) ρ = m ρ >>= fun _ => pure (.nx ρ) := rfl
@[simp] theorem ap_sIf (c : ME) (a b : MS) (ρ : Env) : (sIf c a b) ρ = c ρ >>= fun d => asB d >>= fun c => if c = true then a ρ else b ρ := rfl
@[simp] theorem ap_sBrk  (ρ : Env) : sBrk ρ = pure (.bk ρ) := rfl
@[simp] theorem ap_sCt  (ρ : Env) : sCt ρ = pure (.ct ρ) := rfl
@[simp] theorem ap_sSet (i : Nat) (m : ME) (ρ : Env) : (sSet i m) ρ = m ρ >>= fun d => pure (.nx (ρ.set i (.val d))) := rfl
@[simp] theorem ap_slV (m : ME) (ρ : Env) : (slV m) ρ = m ρ >>= fun d => pure (.val d) := rfl
@[simp] theorem ap_slN (m : ME) (ρ : Env) : (slN m) ρ = m ρ >>= ownSl := rfl
@[simp] theorem ap_sNew (i : Nat) (m : MSl) (ρ : Env) : (sNew i m) ρ = m ρ >>= fun s => pure (.nx (ρ.set i s)) := rfl
@[simp] theorem ap_sParN (i j : Nat) (a b : MSl) (ρ : Env) : (sParN i j a b) ρ = a ρ >>= fun s => b ρ >>= fun t => pure (.nx ((ρ.set i s).set j t)) := rfl
@[simp] theorem ap_sWhile (f : Env → Nat) (c : ME) (b : MS) (ρ : Env) : (sWhile f c b) ρ = whileN c b (f ρ) ρ := rfl
@[simp] theorem ap_sFor (i : MI) (t : TM) (b : MS) (ρ : Env) : (sFor i t b) ρ = i ρ >>= fun ds => forN t b ds ρ := rfl
@[simp] theorem ap_sApp (i : Nat) (m : ME) (ρ : Env) : (sApp i m) ρ = ownL ρ i >>= fun ds => m ρ >>= fun d => if ds.length < sizeLine then pure (.nx (ρ.set i (.own (ds ++ [d])))) else bad := rfl
def slotV : Slot → M D
  | .val d => pure d
  | _ => bad
@[simp] theorem slotV_val (d : D) : slotV (.val d) = pure d := rfl
@[simp] theorem ap_vVar (i : Nat) (ρ : Env) : vVar i ρ = slotV (ρ.getD i .none) := rfl
def slotP : Slot → M D
  | .val d => pure d
  | .own ds => pure (.list ds)
  | .ownd es => pure (.dict es)
  | _ => bad
@[simp] theorem slotP_val (d : D) : slotP (.val d) = pure d := rfl
@[simp] theorem slotP_own (d : List D) : slotP (.own d) = pure (.list d) := rfl
@[simp] theorem ap_vPeek (i : Nat) (ρ : Env) : vPeek i ρ = slotP (ρ.getD i .none) := rfl
def slotC : Slot → M Unit
  | .cell => pure ()
  | _ => bad
@[simp] theorem slotC_cell : slotC .cell = pure () := rfl
@[simp] theorem ap_isCell (i : Nat) (ρ : Env) : isCell ρ i = slotC (ρ.getD i .none) := rfl
def slotS : Slot → M D
  | .scr ds => pure (.list ds)
  | _ => bad
@[simp] theorem slotS_scr (d : List D) : slotS (.scr d) = pure (.list d) := rfl
@[simp] theorem ap_vScr (i : Nat) (ρ : Env) : vScr i ρ = slotS (ρ.getD i .none) := rfl
def slotO : Slot → M (List D)
  | .own ds => pure ds
  | _ => bad
@[simp] theorem slotO_own (d : List D) : slotO (.own d) = pure d := rfl
@[simp] theorem ap_ownL (i : Nat) (ρ : Env) : ownL ρ i = slotO (ρ.getD i .none) := rfl
def slotK (i : Nat) (m : MS) (ρ : Env) : Slot → M Fl
  | .own ds => m (ρ.set i (.val (.list ds)))
  | .ownd es => m (ρ.set i (.val (.dict es)))
  | _ => m ρ
@[simp] theorem slotK_own (i : Nat) (m : MS) (ρ : Env) (d : List D) : slotK i m ρ (.own d) = m (ρ.set i (.val (.list d))) := rfl
@[simp] theorem slotK_val (i : Nat) (m : MS) (ρ : Env) (d : D) : slotK i m ρ (.val d) = m ρ := rfl
@[simp] theorem ap_sKeep (i : Nat) (m : MS) (ρ : Env) : sKeep i m ρ = slotK i m ρ (ρ.getD i .none) := rfl
def cellG (m : MG) : Slot → M (List Arg) := fun _ => bad
def slotG (m : M (List Arg)) : Slot → M (List Arg)
  | .cell => m >>= fun xs => pure (.cell :: xs)
  | _ => bad
@[simp] theorem slotG_cell (m : M (List Arg)) : slotG m .cell = (m >>= fun xs => pure (.cell :: xs)) := rfl
@[simp] theorem ap_gCell (i : Nat) (m : MG) (ρ : Env) : (gCell i m) ρ = slotG (m ρ) (ρ.getD i .none) := rfl
def slotH (m : M (List Arg)) : Slot → M (List Arg)
  | .scr ds => m >>= fun xs => pure (.scr ds :: xs)
  | _ => bad
@[simp] theorem slotH_scr (m : M (List Arg)) (ds : List D) : slotH m (.scr ds) = (m >>= fun xs => pure (.scr ds :: xs)) := rfl
@[simp] theorem ap_gScr (i : Nat) (m : MG) (ρ : Env) : (gScr i m) ρ = slotH (m ρ) (ρ.getD i .none) := rfl
@[simp] theorem ap_vCell (i : Nat) (m : ME) (ρ : Env) : vCell i m ρ = (isCell ρ i >>= fun _ => m ρ >>= fun kd => asI kd >>= fun k => getS >>= fun ds => optM (atI ds k)) := rfl
@[simp] theorem ap_sCell (i : Nat) (k m : ME) (ρ : Env) : sCell i k m ρ = (m ρ >>= fun d => isCell ρ i >>= fun _ => k ρ >>= fun kd => asI kd >>= fun k => getS >>= fun ds => onSome (ixN ds.length k) fun j => putS (ds.set j d) >>= fun _ => pure (.nx ρ)) := rfl
@[simp] theorem den_E_var (i : Nat) : (E.var i).den = vVar i := rfl
@[simp] theorem den_E_peek (i : Nat) : (E.peek i).den = vPeek i := rfl
@[simp] theorem den_E_scr (i : Nat) : (E.scr i).den = vScr i := rfl
@[simp] theorem den_E_int (n : Int) : (E.int n).den = vC (.int n) := rfl
@[simp] theorem den_E_str (s : Str) : (E.str s).den = vC (.str s) := rfl
@[simp] theorem den_E_bl (b : Bool) : (E.bl b).den = vC (.bool b) := rfl
@[simp] theorem den_E_non  : (E.non ).den = vC .none := rfl
@[simp] theorem den_E_glob (x : Str) (d : D) : (E.glob x d).den = vC d := rfl
@[simp] theorem den_E_bin (o : Bop) (a b : E) : (E.bin o a b).den = v2 o.sem a.den b.den := rfl
@[simp] theorem den_E_un (o : Uop) (a : E) : (E.un o a).den = v1 o.sem a.den := rfl
@[simp] theorem den_E_cmp (o : Cop) (a b : E) : (E.cmp o a b).den = v2 o.sem a.den b.den := rfl
@[simp] theorem den_E_chain (o o' : Cop) (a b c : E) : (E.chain o o' a b c).den = vChain o.sem o'.sem a.den b.den c.den := rfl
@[simp] theorem den_E_not (a : E) : (E.not a).den = vNot a.den := rfl
@[simp] theorem den_E_ands (a : Es) : (E.ands a).den = a.denAnd := rfl
@[simp] theorem den_E_ors (a : Es) : (E.ors a).den = a.denOr := rfl
@[simp] theorem den_E_ite (c a b : E) : (E.ite c a b).den = vIf c.den a.den b.den := rfl
@[simp] theorem den_E_ix (a b : E) : (E.ix a b).den = v2 ixD a.den b.den := rfl
@[simp] theorem den_E_cell (i : Nat) (k : E) : (E.cell i k).den = vCell i k.den := rfl
@[simp] theorem den_E_sl (a : E) (l h : Oe) : (E.sl a l h).den = vSl a.den l.den h.den := rfl
@[simp] theorem den_E_tup (a : Es) : (E.tup a).den = vTup a.den := rfl
@[simp] theorem den_E_lst (a : Es) : (E.lst a).den = vLst a.den := rfl
@[simp] theorem den_E_tupS (a : Es) : (E.tupS a).den = vTupS a.den := rfl
@[simp] theorem den_E_lstS (a : Es) : (E.lstS a).den = vLstS a.den := rfl
@[simp] theorem den_E_fmt (a : E) : (E.fmt a).den = v1 fmtD a.den := rfl
@[simp] theorem den_E_fstr (a : Es) : (E.fstr a).den = vJs a.denL := rfl
@[simp] theorem den_E_call (x : Str) (f : Fn) (a : As) : (E.call x f a).den = vCall f a.den := rfl
@[simp] theorem den_E_b1 (b : B1) (a : E) : (E.b1 b a).den = v1 b.sem a.den := rfl
@[simp] theorem den_E_b2 (b : B2) (a c : E) : (E.b2 b a c).den = v2 b.sem a.den c.den := rfl
@[simp] theorem den_E_lc (o : List (Str × Nat)) (it : It) (t : T) (e : E) : (E.lc o it t e).den = vLc (o.map (·.2)) it.den t.den (vC (.bool true)) e.den := rfl
@[simp] theorem den_E_lcIf (o : List (Str × Nat)) (it : It) (t : T) (c e : E) : (E.lcIf o it t c e).den = vLc (o.map (·.2)) it.den t.den c.den e.den := rfl
@[simp] theorem den_Oe_no  : (Oe.no ).den = oNo := rfl
@[simp] theorem den_Oe_yes (e : E) : (Oe.yes e).den = oYes e.den := rfl
@[simp] theorem den_Es_nil  : (Es.nil ).den = aNil := rfl
@[simp] theorem den_Es_cons (e : E) (r : Es) : (Es.cons e r).den = aCons e.den r.den := rfl
@[simp] theorem den_Es_star (e : E) (r : Es) : (Es.star e r).den = aStar e.den r.den := rfl
@[simp] theorem den_As_nil  : (As.nil ).den = gNil := rfl
@[simp] theorem den_As_cons (e : E) (r : As) : (As.cons e r).den = gCons e.den r.den := rfl
@[simp] theorem den_As_cell (i : Nat) (r : As) : (As.cell i r).den = gCell i r.den := rfl
@[simp] theorem den_As_scr (i : Nat) (r : As) : (As.scr i r).den = gScr i r.den := rfl
@[simp] theorem den_It_seq (e : E) : (It.seq e).den = iSeq e.den := rfl
@[simp] theorem den_It_r1 (e : E) : (It.r1 e).den = iR1 e.den := rfl
@[simp] theorem den_It_r2 (a b : E) : (It.r2 a b).den = iR2 a.den b.den := rfl
@[simp] theorem den_It_zip (a b : E) : (It.zip a b).den = iZip a.den b.den := rfl
@[simp] theorem den_T_nm (i : Nat) : (T.nm i).den = tN i := rfl
@[simp] theorem den_Sl_val (e : E) : (Sl.val e).den = slV e.den := rfl
@[simp] theorem den_Sl_lst (e : Es) : (Sl.lst e).den = slN (vLst e.den) := rfl
@[simp] theorem den_Sl_rep (a b : E) : (Sl.rep a b).den = slN (v2 mulD a.den b.den) := rfl
@[simp] theorem den_St_pass  : (St.pass ).den = sNil := rfl
@[simp] theorem den_St_brk  : (St.brk ).den = sBrk := rfl
@[simp] theorem den_St_ct  : (St.ct ).den = sCt := rfl
@[simp] theorem den_St_ret (e : E) : (St.ret e).den = sRet e.den := rfl
@[simp] theorem den_St_expr (e : E) : (St.expr e).den = sDrop e.den := rfl
@[simp] theorem den_St_set (i : Nat) (e : E) : (St.set i e).den = sSet i e.den := rfl
@[simp] theorem den_St_setC (i : Nat) (e : E) : (St.setC i e).den = sSet i e.den := rfl
@[simp] theorem den_St_new (i : Nat) (s : Sl) : (St.new i s).den = sNew i s.den := rfl
@[simp] theorem den_St_par (i j : Nat) (a b : Sl) : (St.par i j a b).den = sParN i j a.den b.den := rfl
@[simp] theorem den_St_asg (l : List Nat) (e : E) : (St.asg l e).den = sAsg (T.tup l).den e.den := rfl
@[simp] theorem den_St_app (i : Nat) (e : E) : (St.app i e).den = sApp i e.den := rfl
@[simp] theorem den_St_ext (i : Nat) (e : E) : (St.ext i e).den = sExt i e.den := rfl
@[simp] theorem den_St_pop (t : T) (i : Nat) : (St.pop t i).den = sPop t.den i := rfl
@[simp] theorem den_St_ixset (i : Nat) (k e : E) : (St.ixset i k e).den = sIxSet i k.den e.den := rfl
@[simp] theorem den_St_cell (i : Nat) (k e : E) : (St.cell i k e).den = sCell i k.den e.den := rfl
@[simp] theorem den_St_ite (c : E) (a b : Sts) : (St.ite c a b).den = sIf c.den a.den b.den := rfl
@[simp] theorem den_St_whl (f : Env → Nat) (c : E) (b : Sts) : (St.whl f c b).den = sWhile f c.den b.den := rfl
@[simp] theorem den_St_for_ (i : It) (t : T) (b : Sts) : (St.for_ i t b).den = sFor i.den t.den b.den := rfl
@[simp] theorem den_St_keep (i : Nat) (s : St) : (St.keep i s).den = sKeep i s.den := rfl
@[simp] theorem den_Sts_nil  : (Sts.nil ).den = sNil := rfl
@[simp] theorem den_Sts_cons (s : St) (r : Sts) : (Sts.cons s r).den = sSeq s.den r.den := rfl
@[simp] theorem denAnd_1 (e : E) : (Es.cons e .nil).denAnd = e.den := rfl
@[simp] theorem denAnd_2 (e f : E) (r : Es) : (Es.cons e (.cons f r)).denAnd = vAnd e.den (Es.cons f r).denAnd := rfl
@[simp] theorem denOr_1 (e : E) : (Es.cons e .nil).denOr = e.den := rfl
@[simp] theorem denOr_2 (e f : E) (r : Es) : (Es.cons e (.cons f r)).denOr = vOr e.den (Es.cons f r).denOr := rfl
@[simp] theorem denL_0 : Es.nil.denL = [] := rfl
@[simp] theorem denL_1 (e : E) (r : Es) : (Es.cons e r).denL = e.den :: r.denL := rfl
@[simp] theorem bop_add : Bop.add.sem = addD := rfl
@[simp] theorem bop_sub : Bop.sub.sem = subD := rfl
@[simp] theorem bop_mul : Bop.mul.sem = mulD := rfl
@[simp] theorem bop_fdiv : Bop.fdiv.sem = fdivD := rfl
@[simp] theorem bop_mod : Bop.mod.sem = modD := rfl
@[simp] theorem bop_pow : Bop.pow.sem = powD := rfl
@[simp] theorem bop_shl : Bop.shl.sem = shlD := rfl
@[simp] theorem bop_shr : Bop.shr.sem = shrD := rfl
@[simp] theorem bop_and : Bop.and.sem = andD := rfl
@[simp] theorem bop_or : Bop.or.sem = orD := rfl
@[simp] theorem bop_xor : Bop.xor.sem = xorD := rfl
@[simp] theorem uop_neg : Uop.neg.sem = negD := rfl
@[simp] theorem uop_inv : Uop.inv.sem = invD := rfl
@[simp] theorem cop_eq : Cop.eq.sem = eqD := rfl
@[simp] theorem cop_ne : Cop.ne.sem = neD := rfl
@[simp] theorem cop_lt : Cop.lt.sem = ltD := rfl
@[simp] theorem cop_le : Cop.le.sem = leD := rfl
@[simp] theorem cop_gt : Cop.gt.sem = gtD := rfl
@[simp] theorem cop_ge : Cop.ge.sem = geD := rfl
@[simp] theorem cop_isIn : Cop.isIn.sem = inD := rfl
@[simp] theorem cop_notIn : Cop.notIn.sem = notInD := rfl
@[simp] theorem cop_isN : Cop.isN.sem = isND := rfl
@[simp] theorem cop_notN : Cop.notN.sem = notND := rfl
@[simp] theorem b1_len : B1.len.sem = lenD := rfl
@[simp] theorem b1_abs : B1.abs.sem = absD := rfl
@[simp] theorem b1_int : B1.int.sem = intD := rfl
@[simp] theorem b1_max : B1.max.sem = maxD := rfl
@[simp] theorem b1_min : B1.min.sem = minD := rfl
@[simp] theorem b1_sum : B1.sum.sem = sumD := rfl
@[simp] theorem b1_all : B1.all.sem = allD := rfl
@[simp] theorem b1_any : B1.any.sem = anyD := rfl
@[simp] theorem b1_sorted : B1.sorted.sem = sortedD := rfl
@[simp] theorem b1_str : B1.str.sem = strD := rfl
@[simp] theorem b1_repr : B1.repr.sem = reprD := rfl
@[simp] theorem b1_tuple : B1.tuple.sem = tupleD := rfl
@[simp] theorem b1_list : B1.list.sem = listD := rfl
@[simp] theorem b2_max : B2.max.sem = max2D := rfl
@[simp] theorem b2_min : B2.min.sem = min2D := rfl
theorem runB_eq (n : Nat) (b : MS) (l : List Arg) : runB n b l = b (l.map Arg.slot ++ List.replicate (n - l.length) .none) >>= outF := rfl
theorem fold_nx {m : M Fl} (ρ : Env) (h : m = pure (.nx ρ)) : m = pure (.nx ρ) := h
end Pv
namespace Pv
open PySem PySem.Spec PyProof.Rows L2
/-! what may be shown -/
structure Sho (n w : Nat) (d : D) : Prop where
  lay : d.canLay0 = true
  sh : d.showable = true
  dp : d.depth ≤ n
  len : d.shown.length ≤ w
theorem Sho.up {n m w v : Nat} {d : D} (h : Sho n w d) (l : n ≤ m) (l2 : w ≤ v) : Sho m v d := ⟨h.lay, h.sh, Nat.le_trans h.dp l, Nat.le_trans h.len l2⟩
theorem sho_int {i : Int} {k : Nat} (h : i.natAbs < 2 ^ k) (h0 : 0 < k) (hk : k ≤ 1920) : Sho 0 (k + 1) (.int i) := by
  have l := PySem.Flt.log2_lt_of h0 h
  have l2 := int_text_length_le h0 l
  refine ⟨by simp only [PyData.canLay0], ?_, by simp [PyData.depth], ?_⟩
  · simp only [PyData.showable, decide_eq_true_eq]; omega
  · simp only [PyData.shown]
    show (Str.ofString (toString i)).length ≤ k + 1
    rw [PySem.ofString_length]
    exact l2
theorem sho_bool (b : Bool) : Sho 0 5 (.bool b) := by
  refine ⟨by simp only [PyData.canLay0], by simp only [PyData.showable], by simp [PyData.depth], ?_⟩
  simp only [PyData.shown]
  cases b <;> decide
structure ShoAll (n w : Nat) (ds : List D) : Prop where
  lay : PyData.canLayAll0 ds = true
  sh : PyData.showableAll ds = true
  dp : PyData.depthAll ds ≤ n
  len : ∀ t ∈ PyData.shownAll ds, t.length ≤ w
  ln : (PyData.shownAll ds).length = ds.length
theorem sho_all {n w : Nat} : ∀ {ds : List D}, (∀ d ∈ ds, Sho n w d) → ShoAll n w ds
  | [], _ => ⟨by simp only [PyData.canLayAll0], by simp only [PyData.showableAll], by simp [PyData.depthAll], fun t h => (by simp only [PyData.shownAll] at h; cases h), by simp [PyData.shownAll]⟩
  | d :: r, h => by
    have h1 := h d List.mem_cons_self
    have h2 := sho_all (ds := r) fun x hx => h x (List.mem_cons_of_mem _ hx)
    refine ⟨by simp only [PyData.canLayAll0, h1.lay, h2.lay, Bool.and_self], by simp only [PyData.showableAll, h1.sh, h2.sh, Bool.and_self], ?_, fun t ht => ?_, by simp only [PyData.shownAll, List.length_cons, h2.ln]⟩
    · have := h1.dp
      have := h2.dp
      simp only [PyData.depthAll]
      omega
    · simp only [PyData.shownAll] at ht
      cases ht with
      | head => exact h1.len
      | tail _ z => exact h2.len t z
theorem text_len (w : Nat) : ∀ (ts : List Str) (k : Nat) (acc : Str), (∀ t ∈ ts, t.length ≤ w) → (textFrom k acc ts).length ≤ acc.length + ts.length * (w + 2)
  | [], k, acc, _ => by unfold textFrom; omega
  | t :: r, k, acc, h => by
    have i := text_len w r (k + 1) (acc ++ (if k > 0 then ", " else "" : String) ++ t) fun x hx => h x (List.mem_cons_of_mem _ hx)
    have e : (acc ++ (if k > 0 then ", " else "" : String) ++ t).length ≤ acc.length + (w + 2) := by
      rw [strLen_append, strLen_append]
      have := h t List.mem_cons_self
      have : (((if k > 0 then ", " else "" : String) : Str)).length ≤ 2 := by split <;> decide
      omega
    unfold textFrom
    rw [List.length_cons, Nat.succ_mul]
    omega
theorem sho_list {n w : Nat} {ds : List D} (h : ∀ d ∈ ds, Sho n w d) : Sho (n + 1) (ds.length * (w + 2) + 2) (.list ds) := by
  have a := sho_all h
  refine ⟨by simp only [PyData.canLay0]; exact a.lay, by simp only [PyData.showable]; exact a.sh, by simp only [PyData.depth]; have := a.dp; omega, ?_⟩
  simp only [PyData.shown, listText]
  rw [strLen_append]
  have := text_len w (PyData.shownAll ds) 0 "[" a.len
  rw [a.ln] at this
  have e1 : ((("[" : String) : Str)).length = 1 := rfl
  have e2 : ((("]" : String) : Str)).length = 1 := rfl
  omega
theorem sho_tup {n w : Nat} {ds : List D} (h : ∀ d ∈ ds, Sho n w d) : Sho (n + 1) (ds.length * (w + 2) + 3) (.tuple ds) := by
  have a := sho_all h
  refine ⟨by simp only [PyData.canLay0]; exact a.lay, by simp only [PyData.showable]; exact a.sh, by simp only [PyData.depth]; have := a.dp; omega, ?_⟩
  simp only [PyData.shown, tupleText]
  rw [strLen_append, strLen_append]
  have j := StrLaws.join_length_le ", " (PyData.shownAll ds)
  have s : ∀ (ts : List Str), (∀ t ∈ ts, t.length ≤ w) → (ts.map (·.length)).sum ≤ ts.length * w := by
    intro ts
    induction ts with
    | nil => intro _; simp
    | cons t r ih =>
      intro h
      have i := ih fun x hx => h x (List.mem_cons_of_mem _ hx)
      have := h t List.mem_cons_self
      rw [List.map_cons, List.sum_cons, List.length_cons, Nat.succ_mul]
      omega
  have s := s _ a.len
  rw [a.ln] at j s
  have e0 : (((", " : String) : Str)).length = 2 := rfl
  rw [e0] at j
  have e1 : ((("(" : String) : Str)).length = 1 := rfl
  have e2 : (((if (PyData.shownAll ds).length == 1 then ",)" else ")" : String) : Str)).length ≤ 2 := by split <;> decide
  have : ds.length * (w + 2) = ds.length * w + ds.length * 2 := Nat.mul_add ..
  omega
theorem repr_ok {n w : Nat} {d : D} (h : Sho n w d) (hn : n ≤ 60) (hw : w ≤ 16777216) : reprD d = pure (.str d.shown) := by
  unfold reprD
  rw [if_pos ⟨h.lay, h.sh, Nat.le_trans h.dp hn, Nat.le_trans h.len (by show w ≤ sizeLine; rw [sizeLine_eq]; exact hw)⟩]
end Pv
namespace Pv
open PySem PySem.Spec PyProof.Rows L2
/-! texts that may be shown -/
def Signs (x : Str) : Prop := ∀ c ∈ x.cps.toList, c < 0x110000
theorem char_lt (c : Char) : c.toNat < 0x110000 := by
  have h := c.valid
  simp only [UInt32.isValidChar, Nat.isValidChar] at h
  have ht : c.toNat = c.val.toNat := rfl
  omega
theorem signs_app {x y : Str} (h : Signs x) (h2 : Signs y) : Signs (x ++ y) := by
  intro c hc
  have e : (x ++ y).cps.toList = x.cps.toList ++ y.cps.toList := Array.toList_append
  rw [e] at hc
  cases List.mem_append.mp hc with
  | inl z => exact h c z
  | inr z => exact h2 c z
theorem signs_of (s : String) : Signs (Str.ofString s) := by
  intro c hc
  rw [Str.ofString_eq_toList] at hc
  have hc : c ∈ s.toList.map Char.toNat := hc
  obtain ⟨d, _, rfl⟩ := List.mem_map.mp hc
  exact char_lt d
theorem sho_str {x : Str} {n : Nat} (h : Signs x) (hl : x.length ≤ n) : Sho 0 (10 * n + 2) (.str x) := by
  refine ⟨?_, by simp only [PyData.showable], by simp [PyData.depth], ?_⟩
  · simp only [PyData.canLay0]
    unfold PyData.strOk
    rw [Array.all_eq_true_iff_forall_mem]
    intro c hc
    exact decide_eq_true (h c (Array.mem_toList_iff.mpr hc))
  · simp only [PyData.shown]
    have z := StrLaws.reprText_len x fun c hc => Nat.lt_of_lt_of_le (h c hc) (by decide)
    omega
end Pv
/-! the text as terms -/
namespace Pv.K01
open PySem PySem.Spec PyProof.Rows L2
def w_divisor_0 : Env → Nat := fun ρ => match ρ.getD 1 .none with | .val (.int i) => i.natAbs + 1 | _ => 0
def w__law_divisor_0 : Env → Nat := fun ρ => match ρ.getD 1 .none with | .val (.int i) => i.natAbs + 1 | _ => 0
def n__law_stream : List Str := ["script", "numbers", "cell", "rest", "k", "stirred"]
def b__law_stream : Sts := (.cons (.new 1 (.lst .nil))
 (.cons (.for_ (.seq (.sl (.scr 0) .no (.yes (.int 63)))) (.nm 2)
 (.cons (.set 3 (.b1 .abs (.b1 .int (.var 2))))
 (.cons (.ite (.cmp .ge (.var 3) (.bin .pow (.int 10) (.int 18)))
 (.cons (.for_ (.r1 (.int 60)) (.nm 4)
 (.cons (.app 1 (.bin .mod (.b1 .int (.var 3)) (.int 1009)))
 (.cons (.set 3 (.bin .fdiv (.var 3) (.int 1009)))
 (.cons (.ite (.cmp .eq (.var 3) (.int 0))
 (.cons .brk
 .nil)
 .nil)
 .nil))))
 .nil)
 (.cons (.set 5 (.bin .mod (.b1 .int (.var 3)) (.int 2147483647)))
 (.cons (.for_ (.r1 (.int 10)) (.nm 4)
 (.cons (.set 5 (.bin .mod (.b1 .int (.bin .add (.bin .add (.bin .mul (.var 5) (.int 48271)) (.bin .mul (.int 7) (.var 4))) (.int 11))) (.int 2147483647)))
 (.cons (.app 1 (.bin .mod (.bin .mod (.b1 .int (.bin .add (.bin .mul (.var 5) (.int 69621)) (.var 4))) (.int 2147483629)) (.int 1009)))
 .nil)))
 .nil)))
 .nil)))
 (.cons (.ite (.cmp .eq (.b1 .len (.peek 1)) (.int 0))
 (.cons (.app 1 (.int 0))
 .nil)
 .nil)
 (.cons (.keep 1 (.ret (.var 1)))
 .nil))))
def f__law_stream : Fn := runB n__law_stream.length b__law_stream.den
def n__law_same : List Str := ["told", "due"]
def b__law_same : Sts := (.cons (.ret (.cmp .eq (.b1 .repr (.lst (.cons (.var 0) .nil))) (.b1 .repr (.lst (.cons (.var 1) .nil)))))
 .nil)
def f__law_same : Fn := runB n__law_same.length b__law_same.den
def n_ratio_text : List Str := ["value"]
def b_ratio_text : Sts := (.cons (.ret (.ite (.cmp .eq (.ix (.var 0) (.int 1)) (.int 1)) (.b1 .str (.ix (.var 0) (.int 0))) (.fstr (.cons (.fmt (.ix (.var 0) (.int 0))) (.cons (.str "/") (.cons (.fmt (.ix (.var 0) (.int 1))) .nil))))))
 .nil)
def f_ratio_text : Fn := runB n_ratio_text.length b_ratio_text.den
def n__law_divisor : List Str := ["first", "second"]
def b__law_divisor : Sts := (.cons (.set 0 (.b2 .max (.var 0) (.bin .sub (.int 0) (.var 0))))
 (.cons (.set 1 (.b2 .max (.var 1) (.bin .sub (.int 0) (.var 1))))
 (.cons (.whl w__law_divisor_0 (.cmp .gt (.var 1) (.int 0))
 (.cons (.par 0 1 (.val (.var 1)) (.val (.bin .mod (.b1 .int (.var 0)) (.var 1))))
 .nil))
 (.cons (.ret (.var 0))
 .nil))))
def f__law_divisor : Fn := runB n__law_divisor.length b__law_divisor.den
def n__law_ratio : List Str := ["top", "below", "common"]
def b__law_ratio : Sts := (.cons (.set 2 (.call "_law_divisor" f__law_divisor (.cons (.var 0) (.cons (.var 1) .nil))))
 (.cons (.ite (.cmp .lt (.var 1) (.int 0))
 (.cons (.set 2 (.bin .sub (.int 0) (.var 2)))
 .nil)
 .nil)
 (.cons (.ret (.tup (.cons (.bin .fdiv (.var 0) (.var 2)) (.cons (.bin .fdiv (.var 1) (.var 2)) .nil))))
 .nil)))
def f__law_ratio : Fn := runB n__law_ratio.length b__law_ratio.den
def n__law_plus : List Str := ["first", "second"]
def b__law_plus : Sts := (.cons (.ret (.call "_law_ratio" f__law_ratio (.cons (.bin .add (.bin .mul (.ix (.var 0) (.int 0)) (.ix (.var 1) (.int 1))) (.bin .mul (.ix (.var 1) (.int 0)) (.ix (.var 0) (.int 1)))) (.cons (.bin .mul (.ix (.var 0) (.int 1)) (.ix (.var 1) (.int 1))) .nil))))
 .nil)
def f__law_plus : Fn := runB n__law_plus.length b__law_plus.den
def n__law_sum : List Str := ["values", "total", "value"]
def b__law_sum : Sts := (.cons (.set 1 (.tup (.cons (.int 0) (.cons (.int 1) .nil))))
 (.cons (.for_ (.seq (.var 0)) (.nm 2)
 (.cons (.set 1 (.call "_law_plus" f__law_plus (.cons (.var 1) (.cons (.var 2) .nil))))
 .nil))
 (.cons (.ret (.var 1))
 .nil)))
def f__law_sum : Fn := runB n__law_sum.length b__law_sum.den
def n_divisor : List Str := ["first", "second"]
def b_divisor : Sts := (.cons (.par 0 1 (.val (.b1 .abs (.var 0))) (.val (.b1 .abs (.var 1))))
 (.cons (.whl w_divisor_0 (.cmp .gt (.var 1) (.int 0))
 (.cons (.par 0 1 (.val (.var 1)) (.val (.bin .mod (.var 0) (.var 1))))
 .nil))
 (.cons (.ret (.var 0))
 .nil)))
def f_divisor : Fn := runB n_divisor.length b_divisor.den
def n_ratio : List Str := ["top", "below", "common"]
def b_ratio : Sts := (.cons (.ite (.cmp .eq (.var 1) (.int 0))
 (.cons .dead
 .nil)
 .nil)
 (.cons (.set 2 (.call "divisor" f_divisor (.cons (.var 0) (.cons (.var 1) .nil))))
 (.cons (.ite (.cmp .lt (.var 1) (.int 0))
 (.cons (.set 2 (.un .neg (.var 2)))
 .nil)
 .nil)
 (.cons (.ret (.tup (.cons (.bin .fdiv (.var 0) (.var 2)) (.cons (.bin .fdiv (.var 1) (.var 2)) .nil))))
 .nil))))
def f_ratio : Fn := runB n_ratio.length b_ratio.den
def n_added : List Str := ["first", "second"]
def b_added : Sts := (.cons (.ret (.call "ratio" f_ratio (.cons (.bin .add (.bin .mul (.ix (.var 0) (.int 0)) (.ix (.var 1) (.int 1))) (.bin .mul (.ix (.var 1) (.int 0)) (.ix (.var 0) (.int 1)))) (.cons (.bin .mul (.ix (.var 0) (.int 1)) (.ix (.var 1) (.int 1))) .nil))))
 .nil)
def f_added : Fn := runB n_added.length b_added.den
def n_summed : List Str := ["values", "total", "value"]
def b_summed : Sts := (.cons (.set 1 (.tup (.cons (.int 0) (.cons (.int 1) .nil))))
 (.cons (.for_ (.seq (.var 0)) (.nm 2)
 (.cons (.set 1 (.call "added" f_added (.cons (.var 1) (.cons (.var 2) .nil))))
 .nil))
 (.cons (.ret (.var 1))
 .nil)))
def f_summed : Fn := runB n_summed.length b_summed.den
def n_times : List Str := ["first", "second"]
def b_times : Sts := (.cons (.ret (.call "ratio" f_ratio (.cons (.bin .mul (.ix (.var 0) (.int 0)) (.ix (.var 1) (.int 0))) (.cons (.bin .mul (.ix (.var 0) (.int 1)) (.ix (.var 1) (.int 1))) .nil))))
 .nil)
def f_times : Fn := runB n_times.length b_times.den
def n_weighed : List Str := ["values", "others", "value", "other"]
def b_weighed : Sts := (.cons (.ret (.call "summed" f_summed (.cons (.lc [("value", 2), ("other", 3)] (.zip (.var 0) (.var 1)) (.tup [2, 3]) (.call "times" f_times (.cons (.var 2) (.cons (.var 3) .nil)))) .nil)))
 .nil)
def f_weighed : Fn := runB n_weighed.length b_weighed.den
def n_less : List Str := ["first", "second"]
def b_less : Sts := (.cons (.ret (.cmp .lt (.bin .mul (.ix (.var 0) (.int 0)) (.ix (.var 1) (.int 1))) (.bin .mul (.ix (.var 1) (.int 0)) (.ix (.var 0) (.int 1)))))
 .nil)
def f_less : Fn := runB n_less.length b_less.den
def n_greatest : List Str := ["values", "best", "value"]
def b_greatest : Sts := (.cons (.set 1 (.ix (.var 0) (.int 0)))
 (.cons (.for_ (.seq (.sl (.var 0) (.yes (.int 1)) .no)) (.nm 2)
 (.cons (.set 1 (.ite (.call "less" f_less (.cons (.var 1) (.cons (.var 2) .nil))) (.var 2) (.var 1)))
 .nil))
 (.cons (.ret (.var 1))
 .nil)))
def f_greatest : Fn := runB n_greatest.length b_greatest.den
def n__law_less : List Str := ["first", "second"]
def b__law_less : Sts := (.cons (.ret (.cmp .lt (.bin .mul (.ix (.var 0) (.int 0)) (.ix (.var 1) (.int 1))) (.bin .mul (.ix (.var 1) (.int 0)) (.ix (.var 0) (.int 1)))))
 .nil)
def f__law_less : Fn := runB n__law_less.length b__law_less.den
def n_over : List Str := ["first", "second"]
def b_over : Sts := (.cons (.ret (.call "ratio" f_ratio (.cons (.bin .mul (.ix (.var 0) (.int 0)) (.ix (.var 1) (.int 1))) (.cons (.bin .mul (.ix (.var 0) (.int 1)) (.ix (.var 1) (.int 0))) .nil))))
 .nil)
def f_over : Fn := runB n_over.length b_over.den
def n_negative : List Str := ["value"]
def b_negative : Sts := (.cons (.ret (.tup (.cons (.un .neg (.ix (.var 0) (.int 0))) (.cons (.ix (.var 0) (.int 1)) .nil))))
 .nil)
def f_negative : Fn := runB n_negative.length b_negative.den
def n_is_ratio : List Str := ["value"]
def b_is_ratio : Sts := (.cons (.ret (.ands (.cons (.cmp .eq (.b1 .len (.var 0)) (.int 2)) (.cons (.cmp .ge (.ix (.var 0) (.int 1)) (.int 1)) (.cons (.cmp .eq (.call "divisor" f_divisor (.cons (.ix (.var 0) (.int 0)) (.cons (.ix (.var 0) (.int 1)) .nil))) (.int 1)) .nil)))))
 .nil)
def f_is_ratio : Fn := runB n_is_ratio.length b_is_ratio.den
def n__law_next : List Str := ["state", "many", "turn"]
def b__law_next : Sts := (.cons (.cell 0 (.int 1) (.bin .add (.cell 0 (.int 1)) (.int 1)))
 (.cons (.set 2 (.bin .fdiv (.cell 0 (.int 1)) (.b1 .len (.cell 0 (.int 0)))))
 (.cons (.ret (.bin .mod (.b1 .int (.bin .add (.bin .add (.ix (.cell 0 (.int 0)) (.bin .mod (.cell 0 (.int 1)) (.b1 .len (.cell 0 (.int 0))))) (.bin .mul (.var 2) (.int 389))) (.bin .mul (.bin .mul (.cell 0 (.int 1)) (.var 2)) (.int 17)))) (.var 1)))
 .nil)))
def f__law_next : Fn := runB n__law_next.length b__law_next.den
def n__law_drawn : List Str := ["state", "top"]
def b__law_drawn : Sts := (.cons (.set 1 (.bin .sub (.call "_law_next" f__law_next (.cell 0 (.cons (.int 400) .nil))) (.int 200)))
 (.cons (.ret (.call "_law_ratio" f__law_ratio (.cons (.bin .mul (.var 1) (.ix (.lst (.cons (.int 1) (.cons (.bin .pow (.int 10) (.int 6)) .nil))) (.b1 .int (.cmp .eq (.call "_law_next" f__law_next (.cell 0 (.cons (.int 5) .nil))) (.int 0))))) (.cons (.bin .add (.int 1) (.call "_law_next" f__law_next (.cell 0 (.cons (.int 60) .nil)))) .nil))))
 .nil))
def f__law_drawn : Fn := runB n__law_drawn.length b__law_drawn.den
def n_law : List Str := ["script", "state", "turn", "top", "below", "one", "other", "rows", "k", "more", "row", "due", "best", "total", "text"]
def b_law : LawT := ⟨1, (.cons (.call "_law_stream" f__law_stream (.scr 0 .nil)) (.cons (.int 0) .nil)),
 (.cons (.for_ (.r1 (.int 12)) (.nm 2)
 (.cons (.set 3 (.bin .sub (.call "_law_next" f__law_next (.cell 1 (.cons (.int 900) .nil))) (.int 450)))
 (.cons (.set 4 (.ix (.lst (.cons (.bin .add (.int 1) (.call "_law_next" f__law_next (.cell 1 (.cons (.int 80) .nil)))) (.cons (.bin .sub (.bin .sub (.int 0) (.int 1)) (.call "_law_next" f__law_next (.cell 1 (.cons (.int 80) .nil)))) .nil))) (.call "_law_next" f__law_next (.cell 1 (.cons (.int 2) .nil)))))
 (.cons (.set 5 (.call "_law_drawn" f__law_drawn (.cell 1 .nil)))
 (.cons (.set 6 (.call "_law_drawn" f__law_drawn (.cell 1 .nil)))
 (.cons (.setC 7 (.lc [("k", 8)] (.r1 (.bin .add (.int 1) (.call "_law_next" f__law_next (.cell 1 (.cons (.int 5) .nil))))) (.nm 8) (.call "_law_drawn" f__law_drawn (.cell 1 .nil))))
 (.cons (.setC 9 (.lc [("row", 10)] (.seq (.var 7)) (.nm 10) (.call "_law_drawn" f__law_drawn (.cell 1 .nil))))
 (.cons (.ite (.not (.call "_law_same" f__law_same (.cons (.lst (.cons (.call "ratio" f_ratio (.cons (.var 3) (.cons (.var 4) .nil))) (.cons (.call "is_ratio" f_is_ratio (.cons (.var 5) .nil)) (.cons (.call "is_ratio" f_is_ratio (.cons (.tup (.cons (.bin .mul (.int 2) (.ix (.var 5) (.int 0))) (.cons (.bin .mul (.int 2) (.ix (.var 5) (.int 1))) .nil))) .nil)) (.cons (.call "is_ratio" f_is_ratio (.cons (.tup (.cons (.int 1) (.cons (.int 0) .nil))) .nil)) (.cons (.call "is_ratio" f_is_ratio (.cons (.tup (.cons (.int 3) (.cons (.un .neg (.int 1)) .nil))) .nil)) .nil)))))) (.cons (.lst (.cons (.call "_law_ratio" f__law_ratio (.cons (.var 3) (.cons (.var 4) .nil))) (.cons (.bl true) (.cons (.bl false) (.cons (.bl false) (.cons (.bl false) .nil)))))) .nil))))
 (.cons (.ret (.bl false))
 .nil)
 .nil)
 (.cons (.set 11 (.lst (.cons (.call "_law_plus" f__law_plus (.cons (.var 5) (.cons (.var 6) .nil))) (.cons (.tup (.cons (.bin .sub (.int 0) (.ix (.var 5) (.int 0))) (.cons (.ix (.var 5) (.int 1)) .nil))) (.cons (.call "_law_ratio" f__law_ratio (.cons (.bin .mul (.ix (.var 5) (.int 0)) (.ix (.var 6) (.int 0))) (.cons (.bin .mul (.ix (.var 5) (.int 1)) (.ix (.var 6) (.int 1))) .nil))) (.cons (.call "_law_less" f__law_less (.cons (.var 5) (.cons (.var 6) .nil))) .nil))))))
 (.cons (.ite (.not (.call "_law_same" f__law_same (.cons (.lst (.cons (.call "added" f_added (.cons (.var 5) (.cons (.var 6) .nil))) (.cons (.call "negative" f_negative (.cons (.var 5) .nil)) (.cons (.call "times" f_times (.cons (.var 5) (.cons (.var 6) .nil))) (.cons (.call "less" f_less (.cons (.var 5) (.cons (.var 6) .nil))) .nil))))) (.cons (.var 11) .nil))))
 (.cons (.ret (.bl false))
 .nil)
 .nil)
 (.cons (.ite (.ands (.cons (.cmp .ne (.ix (.var 6) (.int 0)) (.int 0)) (.cons (.not (.call "_law_same" f__law_same (.cons (.call "over" f_over (.cons (.var 5) (.cons (.var 6) .nil))) (.cons (.call "_law_ratio" f__law_ratio (.cons (.bin .mul (.ix (.var 5) (.int 0)) (.ix (.var 6) (.int 1))) (.cons (.bin .mul (.ix (.var 5) (.int 1)) (.ix (.var 6) (.int 0))) .nil))) .nil)))) .nil)))
 (.cons (.ret (.bl false))
 .nil)
 .nil)
 (.cons (.set 12 (.ix (.var 7) (.int 0)))
 (.cons (.set 13 (.tup (.cons (.int 0) (.cons (.int 1) .nil))))
 (.cons (.for_ (.r1 (.b1 .len (.var 7))) (.nm 8)
 (.cons (.set 12 (.ix (.lst (.cons (.var 12) (.cons (.ix (.var 7) (.var 8)) .nil))) (.b1 .int (.call "_law_less" f__law_less (.cons (.var 12) (.cons (.ix (.var 7) (.var 8)) .nil))))))
 (.cons (.set 13 (.call "_law_plus" f__law_plus (.cons (.var 13) (.cons (.call "_law_ratio" f__law_ratio (.cons (.bin .mul (.ix (.ix (.var 7) (.var 8)) (.int 0)) (.ix (.ix (.var 9) (.var 8)) (.int 0))) (.cons (.bin .mul (.ix (.ix (.var 7) (.var 8)) (.int 1)) (.ix (.ix (.var 9) (.var 8)) (.int 1))) .nil))) .nil))))
 .nil)))
 (.cons (.ite (.not (.call "_law_same" f__law_same (.cons (.lst (.cons (.call "greatest" f_greatest (.cons (.var 7) .nil)) (.cons (.call "summed" f_summed (.cons (.var 7) .nil)) (.cons (.call "weighed" f_weighed (.cons (.var 7) (.cons (.var 9) .nil))) .nil)))) (.cons (.lst (.cons (.var 12) (.cons (.call "_law_sum" f__law_sum (.cons (.var 7) .nil)) (.cons (.var 13) .nil)))) .nil))))
 (.cons (.ret (.bl false))
 .nil)
 .nil)
 (.cons (.set 14 (.b1 .str (.ix (.var 5) (.int 0))))
 (.cons (.ite (.cmp .ne (.ix (.var 5) (.int 1)) (.int 1))
 (.cons (.set 14 (.bin .add (.bin .add (.var 14) (.str "/")) (.b1 .str (.ix (.var 5) (.int 1)))))
 .nil)
 .nil)
 (.cons (.ite (.not (.call "_law_same" f__law_same (.cons (.call "ratio_text" f_ratio_text (.cons (.var 5) .nil)) (.cons (.var 14) .nil))))
 (.cons (.ret (.bl false))
 .nil)
 .nil)
 .nil))))))))))))))))))
 (.cons (.ret (.bl true))
 .nil))⟩
def f_law : Fn := runB n_law.length b_law.den
end Pv.K01
namespace Pv.K01
open PySem PySem.Spec PyProof.Rows L2
/-! the sums -/
theorem fmod_nat (a b : Nat) : (a : Int).fmod (b : Int) = ((a % b : Nat) : Int) := by
  rw [Int.fmod_eq_emod_of_nonneg _ (by omega)]; rfl
theorem gcd_loop (f : D → M D) (hf : ∀ i : Int, f (.int i) = pure (.int i)) : ∀ (n a b : Nat), b < n → whileN (v2 gtD (vVar 1) (vC (.int 0))) (sSeq (sParN 0 1 (slV (vVar 1)) (slV (v2 modD (v1 f (vVar 0)) (vVar 1)))) sNil) n [.val (.int a), .val (.int b)] = pure (.nx [.val (.int (Nat.gcd a b)), .val (.int 0)])
  | 0, _, _, h => by omega
  | n + 1, a, b, h => by
    rw [whileN_succ]
    cases b with
    | zero => simp
    | succ b =>
      have e : ((b + 1 : Nat) : Int) ≠ 0 := by omega
      have p : (0 : Int) < ((b + 1 : Nat) : Int) := by omega
      have z := gcd_loop f hf n (b + 1) (a % (b + 1)) (by have := Nat.mod_lt a (Nat.succ_pos b); simp only [Nat.succ_eq_add_one] at this; omega)
      rw [Nat.gcd_comm a, Nat.gcd_rec, Nat.gcd_comm]
      simp only [ap_v2, ap_vVar, ap_v1, ap_vC, ap_sSeq, ap_sParN, ap_slV, ap_sNil, List.getD_cons_succ, List.getD_cons_zero, slotV_val, pure_bnd, gt_int, asB_bool, decide_eq_true p, if_true, bnd_assoc, hf, mod_int e, fmod_nat, List.set_cons_zero, List.set_cons_succ, flow_nx, again_nx]
      exact z
theorem gcd_loop0 (n a b : Nat) (h : b < n) : whileN (v2 gtD (vVar 1) (vC (.int 0))) (sSeq (sParN 0 1 (slV (vVar 1)) (slV (v2 modD (vVar 0) (vVar 1)))) sNil) n [.val (.int a), .val (.int b)] = pure (.nx [.val (.int (Nat.gcd a b)), .val (.int 0)]) := by
  have z := gcd_loop pure (fun _ => rfl) n a b h
  have e : v1 pure (vVar 0) = vVar 0 := funext fun ρ => bnd_pure _
  rw [e] at z
  exact z
theorem divisor_eq (a b : Int) : f_divisor [.d (.int a), .d (.int b)] = pure (.int (Int.gcd a b)) := by
  have z := gcd_loop0 (b.natAbs + 1) a.natAbs b.natAbs (by omega)
  simp [f_divisor, runB_eq, n_divisor, b_divisor, w_divisor_0, z]
  rfl
theorem max_abs (a : Int) : max a (-a) = (a.natAbs : Int) := by omega
theorem law_divisor_eq (a b : Int) : f__law_divisor [.d (.int a), .d (.int b)] = pure (.int (Int.gcd a b)) := by
  have z := gcd_loop intD (fun _ => rfl) (b.natAbs + 1) a.natAbs b.natAbs (by omega)
  simp [f__law_divisor, runB_eq, n__law_divisor, b__law_divisor, w__law_divisor_0, z, max_abs]
  rfl
def prD (p : Int × Int) : D := .tuple [.int p.1, .int p.2]
def ratP (top below : Int) : Int × Int :=
  let c : Int := if below < 0 then -(Int.gcd top below : Int) else Int.gcd top below
  (top.fdiv c, below.fdiv c)
theorem gcd_ne {a b : Int} (h : b ≠ 0) : (Int.gcd a b : Int) ≠ 0 := by
  intro z
  have : Int.gcd a b = 0 := by omega
  exact h (Int.gcd_eq_zero_iff.mp this).2
theorem ratio_eq {a b : Int} (h : b ≠ 0) (hb : Int.gcd a b < DB) : f_ratio [.d (.int a), .d (.int b)] = pure (prD (ratP a b)) := by
  have g := gcd_ne (a := a) h
  have h' : (b == 0) = false := by simpa using h
  have f1 : ∀ x : Int, fdivD (.int x) (.int (Int.gcd a b)) = pure (.int (x.fdiv (Int.gcd a b))) := fun x => fdiv_int ⟨g, by simpa using hb⟩
  have f2 : ∀ x : Int, fdivD (.int x) (.int (-(Int.gcd a b : Int))) = pure (.int (x.fdiv (-(Int.gcd a b : Int)))) := fun x => fdiv_int ⟨by omega, by simpa using hb⟩
  by_cases hn : b < 0
  · simp [f_ratio, runB_eq, n_ratio, b_ratio, divisor_eq, h, hn, f2, prD, ratP]
  · simp [f_ratio, runB_eq, n_ratio, b_ratio, divisor_eq, h, hn, f1, prD, ratP]
theorem law_ratio_eq {a b : Int} (h : b ≠ 0) (hb : Int.gcd a b < DB) : f__law_ratio [.d (.int a), .d (.int b)] = pure (prD (ratP a b)) := by
  have g := gcd_ne (a := a) h
  have f1 : ∀ x : Int, fdivD (.int x) (.int (Int.gcd a b)) = pure (.int (x.fdiv (Int.gcd a b))) := fun x => fdiv_int ⟨g, by simpa using hb⟩
  have f2 : ∀ x : Int, fdivD (.int x) (.int (-(Int.gcd a b : Int))) = pure (.int (x.fdiv (-(Int.gcd a b : Int)))) := fun x => fdiv_int ⟨by omega, by simpa using hb⟩
  by_cases hn : b < 0
  · simp [f__law_ratio, runB_eq, n__law_ratio, b__law_ratio, law_divisor_eq, hn, f2, prD, ratP]
  · simp [f__law_ratio, runB_eq, n__law_ratio, b__law_ratio, law_divisor_eq, hn, f1, prD, ratP]
@[simp] theorem at0 {α : Type} (a : α) (r : List α) : atI (a :: r) 0 = some a := by simp [atI, ixN]
@[simp] theorem at1 {α : Type} (a b : α) (r : List α) : atI (a :: b :: r) 1 = some b := by
  have h : (1 : Int) < (r.length : Int) + 1 + 1 := by omega
  simp [atI, ixN, h]
theorem at_nat {α : Type} (xs : List α) (i : Nat) : atI xs (i : Int) = xs[i]? := by
  unfold atI ixN
  rw [if_pos (by omega)]
  by_cases h : i < xs.length
  · rw [if_pos (by omega)]; rfl
  · rw [if_neg (by omega), List.getElem?_eq_none (by omega)]; rfl
theorem ratP_spec {a b : Int} (h : b ≠ 0) : ∃ s t c : Int, c ≠ 0 ∧ a = c * t ∧ b = c * s ∧ ratP a b = (t, s) ∧ 0 < s ∧ Int.gcd t s = 1 := by
  have g := gcd_ne (a := a) h
  obtain ⟨c, hc, hs⟩ : ∃ c : Int, ratP a b = (a.fdiv c, b.fdiv c) ∧ ((b < 0 ∧ c = -(Int.gcd a b : Int)) ∨ (¬ b < 0 ∧ c = Int.gcd a b)) := by
    by_cases hn : b < 0
    · exact ⟨-(Int.gcd a b : Int), by simp [ratP, hn], .inl ⟨hn, rfl⟩⟩
    · exact ⟨Int.gcd a b, by simp [ratP, hn], .inr ⟨hn, rfl⟩⟩
  have c0 : c ≠ 0 := by rcases hs with ⟨_, e⟩ | ⟨_, e⟩ <;> omega
  have ca : c.natAbs = Int.gcd a b := by rcases hs with ⟨_, e⟩ | ⟨_, e⟩ <;> (rw [e]; simp)
  have da : c ∣ a := by rw [← Int.natAbs_dvd, ca]; exact Int.gcd_dvd_left ..
  have db : c ∣ b := by rw [← Int.natAbs_dvd, ca]; exact Int.gcd_dvd_right ..
  obtain ⟨t, et⟩ := da
  obtain ⟨s, es⟩ := db
  have e1 : a.fdiv c = t := by rw [et]; exact Int.mul_fdiv_cancel_left _ c0
  have e2 : b.fdiv c = s := by rw [es]; exact Int.mul_fdiv_cancel_left _ c0
  rw [e1, e2] at hc
  refine ⟨s, t, c, c0, et, es, hc, ?_, ?_⟩
  · rcases hs with ⟨hn, e⟩ | ⟨hn, e⟩
    · have cn : c < 0 := by omega
      rw [es, Int.mul_comm] at hn
      exact Int.pos_of_mul_neg_left hn cn
    · have cp : 0 < c := by omega
      have bp : 0 < c * s := by rw [← es]; omega
      exact Int.pos_of_mul_pos_right bp cp
  · have z : Int.gcd a b = c.natAbs * Int.gcd t s := by
      conv => lhs; rw [et, es]
      exact Int.gcd_mul_left ..
    rw [← ca] at z
    have cp : 0 < c.natAbs := by omega
    exact Nat.eq_of_mul_eq_mul_left cp (by omega)
def Fit (k : Nat) (p : Int × Int) : Prop := p.1.natAbs < 2 ^ k ∧ 0 < p.2 ∧ p.2.natAbs < 2 ^ k ∧ Int.gcd p.1 p.2 = 1
theorem ratP_fit {a b : Int} {k : Nat} (h : b ≠ 0) (ha : a.natAbs < 2 ^ k) (hb : b.natAbs < 2 ^ k) : Fit k (ratP a b) := by
  obtain ⟨s, t, c, c0, ea, eb, e, hs, hg⟩ := ratP_spec (a := a) h
  rw [e]
  have cp : 1 ≤ c.natAbs := by omega
  have l : ∀ x : Int, x.natAbs ≤ (c * x).natAbs := fun x => by rw [Int.natAbs_mul]; exact Nat.le_mul_of_pos_left _ cp
  exact ⟨Nat.lt_of_le_of_lt (by rw [ea]; exact l t) ha, hs, Nat.lt_of_le_of_lt (by rw [eb]; exact l s) hb, hg⟩
theorem gcd_db {a b : Int} {k : Nat} (h : b ≠ 0) (hb : b.natAbs < 2 ^ k) (hk : k ≤ 8000) : Int.gcd a b < DB := by
  refine db_of (Nat.lt_of_le_of_lt ?_ hb) hk
  exact Nat.le_of_dvd (by omega) (Int.natAbs_dvd_natAbs.mpr (Int.gcd_dvd_right ..) |> fun z => by simpa using z)
theorem Fit.up {j k : Nat} {p : Int × Int} (h : Fit j p) (l : j ≤ k) : Fit k p := ⟨Nat.lt_of_lt_of_le h.1 (Nat.pow_le_pow_right (by decide) l), h.2.1, Nat.lt_of_lt_of_le h.2.2.1 (Nat.pow_le_pow_right (by decide) l), h.2.2.2⟩
theorem mul_fit {a b : Int} {j k : Nat} (ha : a.natAbs < 2 ^ j) (hb : b.natAbs < 2 ^ k) : (a * b).natAbs < 2 ^ (j + k) := wide_lt ha hb
theorem mul_ok {a b : Int} {j k : Nat} (ha : a.natAbs < 2 ^ j) (hb : b.natAbs < 2 ^ k) (hj : j ≤ 4000) (hk : k ≤ 4000) : mulD (.int a) (.int b) = pure (.int (a * b)) := mul_int ⟨big_of ha (by omega), big_of hb (by omega)⟩
def timesP (p q : Int × Int) : Int × Int := ratP (p.1 * q.1) (p.2 * q.2)
def plusP (p q : Int × Int) : Int × Int := ratP (p.1 * q.2 + q.1 * p.2) (p.2 * q.2)
section
variable {p q : Int × Int} {j k : Nat}
theorem below_ne (hp : Fit j p) (hq : Fit k q) : p.2 * q.2 ≠ 0 := by
  have := Int.mul_pos hp.2.1 hq.2.1
  omega
theorem times_fit (hp : Fit j p) (hq : Fit k q) : Fit (j + k) (timesP p q) := ratP_fit (below_ne hp hq) (mul_fit hp.1 hq.1) (mul_fit hp.2.2.1 hq.2.2.1)
theorem sum_fit {a b : Int} {m : Nat} (ha : a.natAbs < 2 ^ m) (hb : b.natAbs < 2 ^ m) : (a + b).natAbs < 2 ^ (m + 1) := by
  rw [Nat.pow_succ]
  omega
theorem plus_fit (hp : Fit j p) (hq : Fit k q) : Fit (j + k + 1) (plusP p q) := ratP_fit (below_ne hp hq) (sum_fit (mul_fit hp.1 hq.2.2.1) (Nat.add_comm k j ▸ mul_fit hq.1 hp.2.2.1)) (Nat.lt_trans (mul_fit hp.2.2.1 hq.2.2.1) (Nat.pow_lt_pow_right (by decide) (by omega)))
theorem times_eq (hp : Fit j p) (hq : Fit k q) (hj : j ≤ 2000) (hk : k ≤ 2000) : f_times [.d (prD p), .d (prD q)] = pure (prD (timesP p q)) := by
  have hb := below_ne hp hq
  have r := ratio_eq (a := p.1 * q.1) hb (gcd_db hb (mul_fit hp.2.2.1 hq.2.2.1) (by omega))
  have m1 := mul_ok hp.1 hq.1 (by omega) (by omega)
  have m2 := mul_ok hp.2.2.1 hq.2.2.1 (by omega) (by omega)
  simp [f_times, runB_eq, n_times, b_times, prD, m1, m2]
  simp [r, timesP]
  rfl
theorem added_eq (hp : Fit j p) (hq : Fit k q) (hj : j ≤ 2000) (hk : k ≤ 2000) : f_added [.d (prD p), .d (prD q)] = pure (prD (plusP p q)) := by
  have hb := below_ne hp hq
  have r := ratio_eq (a := p.1 * q.2 + q.1 * p.2) hb (gcd_db hb (mul_fit hp.2.2.1 hq.2.2.1) (by omega))
  have m1 := mul_ok hp.1 hq.2.2.1 (by omega) (by omega)
  have m2 := mul_ok hp.2.2.1 hq.2.2.1 (by omega) (by omega)
  have m3 := mul_ok hq.1 hp.2.2.1 (by omega) (by omega)
  simp [f_added, runB_eq, n_added, b_added, prD, m1, m2, m3]
  simp [r, plusP]
  rfl
theorem law_plus_eq (hp : Fit j p) (hq : Fit k q) (hj : j ≤ 2000) (hk : k ≤ 2000) : f__law_plus [.d (prD p), .d (prD q)] = pure (prD (plusP p q)) := by
  have hb := below_ne hp hq
  have r := law_ratio_eq (a := p.1 * q.2 + q.1 * p.2) hb (gcd_db hb (mul_fit hp.2.2.1 hq.2.2.1) (by omega))
  have m1 := mul_ok hp.1 hq.2.2.1 (by omega) (by omega)
  have m2 := mul_ok hp.2.2.1 hq.2.2.1 (by omega) (by omega)
  have m3 := mul_ok hq.1 hp.2.2.1 (by omega) (by omega)
  simp [f__law_plus, runB_eq, n__law_plus, b__law_plus, prD, m1, m2, m3]
  simp [r, plusP]
  rfl
def lessB (p q : Int × Int) : Bool := decide (p.1 * q.2 < q.1 * p.2)
theorem less_eq (hp : Fit j p) (hq : Fit k q) (hj : j ≤ 2000) (hk : k ≤ 2000) : f_less [.d (prD p), .d (prD q)] = pure (.bool (lessB p q)) := by
  have m1 := mul_ok hp.1 hq.2.2.1 (by omega) (by omega)
  have m3 := mul_ok hq.1 hp.2.2.1 (by omega) (by omega)
  simp [f_less, runB_eq, n_less, b_less, prD, m1, m3, lessB]
theorem law_less_eq (hp : Fit j p) (hq : Fit k q) (hj : j ≤ 2000) (hk : k ≤ 2000) : f__law_less [.d (prD p), .d (prD q)] = pure (.bool (lessB p q)) := by
  have m1 := mul_ok hp.1 hq.2.2.1 (by omega) (by omega)
  have m3 := mul_ok hq.1 hp.2.2.1 (by omega) (by omega)
  simp [f__law_less, runB_eq, n__law_less, b__law_less, prD, m1, m3, lessB]
theorem over_eq (hp : Fit j p) (hq : Fit k q) (h0 : q.1 ≠ 0) (hj : j ≤ 2000) (hk : k ≤ 2000) : f_over [.d (prD p), .d (prD q)] = pure (prD (ratP (p.1 * q.2) (p.2 * q.1))) := by
  have hb : p.2 * q.1 ≠ 0 := Int.mul_ne_zero (by have := hp.2.1; omega) h0
  have r := ratio_eq (a := p.1 * q.2) hb (gcd_db hb (mul_fit hp.2.2.1 hq.1) (by omega))
  have m1 := mul_ok hp.1 hq.2.2.1 (by omega) (by omega)
  have m2 := mul_ok hp.2.2.1 hq.1 (by omega) (by omega)
  simp [f_over, runB_eq, n_over, b_over, prD, m1, m2]
  simp [r, prD]
theorem negative_eq : f_negative [.d (prD p)] = pure (prD (-p.1, p.2)) := by
  simp [f_negative, runB_eq, n_negative, b_negative, prD]
theorem is_ratio_eq (a b : Int) : f_is_ratio [.d (prD (a, b))] = pure (.bool (decide (1 ≤ b) && Int.gcd a b == 1)) := by
  by_cases h : 1 ≤ b
  · simp [f_is_ratio, runB_eq, n_is_ratio, b_is_ratio, prD, divisor_eq, h]
    by_cases e : Int.gcd a b = 1
    · simp [e]
    · have e2 : ((Int.gcd a b : Int) == 1) = false := by simpa using fun z : (Int.gcd a b : Int) = 1 => e (by omega)
      rw [e2, show (Int.gcd a b == 1) = false from by simpa using e]
  · simp [f_is_ratio, runB_eq, n_is_ratio, b_is_ratio, prD, divisor_eq, h]
end
/-! sums over rows -/
def sumP (l : List (Int × Int)) : Int × Int := l.foldl plusP (0, 1)
theorem fit01 : Fit 1 (0, 1) := ⟨by decide, by decide, by decide, by decide⟩
theorem fold_fit {k : Nat} : ∀ (l : List (Int × Int)) (m : Nat) (a : Int × Int), (∀ p ∈ l, Fit k p) → Fit m a → Fit (m + l.length * (k + 1)) (l.foldl plusP a)
  | [], m, a, _, h => by simpa using h
  | p :: r, m, a, hl, h => by
    have z := fold_fit r (m + k + 1) (plusP a p) (fun q hq => hl q (List.mem_cons_of_mem _ hq)) (plus_fit h (hl p List.mem_cons_self))
    refine z.up ?_
    rw [List.length_cons, Nat.succ_mul]
    omega
theorem sum_loop {f : Fn} {k : Nat} (hf : ∀ {p q : Int × Int} {i j : Nat}, Fit i p → Fit j q → i ≤ 2000 → j ≤ 2000 → f [.d (prD p), .d (prD q)] = pure (prD (plusP p q))) : ∀ (l : List (Int × Int)) (m : Nat) (a : Int × Int) (v s : Slot), (∀ p ∈ l, Fit k p) → Fit m a → k ≤ 2000 → m + l.length * (k + 1) ≤ 2000 →
    ∃ s', forN (tN 2) (sSeq (sSet 1 (vCall f (gCons (vVar 1) (gCons (vVar 2) gNil)))) sNil) (l.map prD) [v, .val (prD a), s] = pure (.nx [v, .val (prD (l.foldl plusP a)), s'])
  | [], m, a, v, s, _, _, _, _ => ⟨s, rfl⟩
  | p :: r, m, a, v, s, hl, h, hk, hm => by
    rw [List.length_cons, Nat.succ_mul] at hm
    have e := hf h (hl p List.mem_cons_self) (by omega) hk
    obtain ⟨s', z⟩ := sum_loop hf r (m + k + 1) (plusP a p) v (.val (prD p)) (fun q hq => hl q (List.mem_cons_of_mem _ hq)) (plus_fit h (hl p List.mem_cons_self)) hk (by omega)
    refine ⟨s', ?_⟩
    rw [List.map_cons, forN_nm]
    simp [e]
    exact z
theorem summed_eq {l : List (Int × Int)} {k : Nat} (hl : ∀ p ∈ l, Fit k p) (hk : k ≤ 2000) (hm : 1 + l.length * (k + 1) ≤ 2000) : f_summed [.d (.list (l.map prD))] = pure (prD (sumP l)) := by
  obtain ⟨s', z⟩ := sum_loop (f := f_added) added_eq l 1 (0, 1) (.val (.list (l.map prD))) .none hl fit01 hk hm
  have e : (PyData.tuple [.int 0, .int 1]) = prD (0, 1) := rfl
  simp [f_summed, runB_eq, n_summed, b_summed, e, z, sumP]
theorem law_sum_eq {l : List (Int × Int)} {k : Nat} (hl : ∀ p ∈ l, Fit k p) (hk : k ≤ 2000) (hm : 1 + l.length * (k + 1) ≤ 2000) : f__law_sum [.d (.list (l.map prD))] = pure (prD (sumP l)) := by
  obtain ⟨s', z⟩ := sum_loop (f := f__law_plus) law_plus_eq l 1 (0, 1) (.val (.list (l.map prD))) .none hl fit01 hk hm
  have e : (PyData.tuple [.int 0, .int 1]) = prD (0, 1) := rfl
  simp [f__law_sum, runB_eq, n__law_sum, b__law_sum, e, z, sumP]
theorem collect_pure {f : D → M (Option D)} : ∀ {α : Type} (l : List α) (h g : α → D), (∀ a ∈ l, f (h a) = pure (some (g a))) → collect f (l.map h) = pure (l.map g)
  | _, [], _, _, _ => rfl
  | _, a :: r, h, g, e => by
    have i := collect_pure r h g fun x hx => e x (List.mem_cons_of_mem _ hx)
    rw [List.map_cons]
    unfold collect
    rw [e a List.mem_cons_self, pure_bnd, i]
    rfl
theorem zip_pairs : ∀ (xs ys : List (Int × Int)), zipL (xs.map prD) (ys.map prD) = (xs.zip ys).map fun z => PyData.tuple [prD z.1, prD z.2]
  | [], _ => by simp [zipL]
  | _ :: _, [] => by simp [zipL]
  | x :: xs, y :: ys => by
    have i := zip_pairs xs ys
    simp only [zipL] at i ⊢
    simp [i]
theorem weighed_eq {xs ys : List (Int × Int)} {k : Nat} (hx : ∀ p ∈ xs, Fit k p) (hy : ∀ p ∈ ys, Fit k p) (hk : k ≤ 900) (hm : 1 + xs.length * (k + k + 1) ≤ 2000) :
    f_weighed [.d (.list (xs.map prD)), .d (.list (ys.map prD))] = pure (prD (sumP ((xs.zip ys).map fun z => timesP z.1 z.2))) := by
  have fit : ∀ z ∈ xs.zip ys, Fit k z.1 ∧ Fit k z.2 := fun z hz => ⟨hx _ (List.of_mem_zip hz).1, hy _ (List.of_mem_zip hz).2⟩
  have s := summed_eq (l := (xs.zip ys).map fun z => timesP z.1 z.2) (k := k + k) (fun p hp => by
    obtain ⟨z, hz, rfl⟩ := List.mem_map.mp hp
    exact times_fit (fit z hz).1 (fit z hz).2) (by omega) (by
      rw [List.length_map, List.length_zip]
      have : min xs.length ys.length * (k + k + 1) ≤ xs.length * (k + k + 1) := Nat.mul_le_mul_right _ (Nat.min_le_left ..)
      omega)
  have c : ∀ ρ : Env, ρ.length = 4 → collect (turnM (T.tup [2, 3]).den (vC (.bool true)) (vCall f_times (gCons (vVar 2) (gCons (vVar 3) gNil))) ρ) ((xs.zip ys).map fun z => PyData.tuple [prD z.1, prD z.2]) = pure ((xs.zip ys).map fun z => prD (timesP z.1 z.2)) := by
    intro ρ hρ
    match ρ, hρ with
    | [a, b, c, d], _ =>
      refine collect_pure _ _ _ fun z hz => ?_
      have e := times_eq (fit z hz).1 (fit z hz).2 (by omega) (by omega)
      simp [turnM, T.den, tT, tsOf, tsCons, tsNil, tN, e]
  simp [f_weighed, runB_eq, n_weighed, b_weighed, zip_pairs]
  rw [c _ (by simp [wipeE])]
  rw [List.map_map] at s
  exact s
def bestP (b : Int × Int) (l : List (Int × Int)) : Int × Int := l.foldl (fun b v => if lessB b v = true then v else b) b
theorem best_fit {k : Nat} : ∀ (l : List (Int × Int)) (b : Int × Int), (∀ p ∈ l, Fit k p) → Fit k b → Fit k (bestP b l)
  | [], _, _, h => h
  | p :: r, b, hl, h => best_fit r _ (fun q hq => hl q (List.mem_cons_of_mem _ hq)) (by show Fit k (if lessB b p = true then p else b); split; exact hl p List.mem_cons_self; exact h)
@[simp] theorem cut1 (a : D) (r : List D) : cutD (a :: r) (some 1) none = r := by
  have h : (1 : Int) < (r.length : Int) + 1 + 1 := by omega
  simp [cutD, HT.sIx]
theorem best_loop {k : Nat} (hk : k ≤ 2000) : ∀ (l : List (Int × Int)) (b : Int × Int) (v s : Slot), (∀ p ∈ l, Fit k p) → Fit k b →
    ∃ s', forN (tN 2) (sSeq (sSet 1 (vIf (vCall f_less (gCons (vVar 1) (gCons (vVar 2) gNil))) (vVar 2) (vVar 1))) sNil) (l.map prD) [v, .val (prD b), s] = pure (.nx [v, .val (prD (bestP b l)), s'])
  | [], b, v, s, _, _ => ⟨s, rfl⟩
  | p :: r, b, v, s, hl, h => by
    have e := less_eq h (hl p List.mem_cons_self) hk hk
    obtain ⟨s', z⟩ := best_loop hk r (if lessB b p = true then p else b) v (.val (prD p)) (fun q hq => hl q (List.mem_cons_of_mem _ hq)) (by split; exact hl p List.mem_cons_self; exact h)
    refine ⟨s', ?_⟩
    rw [List.map_cons, forN_nm]
    cases c : lessB b p with
    | true =>
      rw [c] at z
      simp [e, c]
      simpa [bestP, c] using z
    | false =>
      rw [c] at z
      simp [e, c]
      simpa [bestP, c] using z
theorem greatest_eq {p : Int × Int} {l : List (Int × Int)} {k : Nat} (hp : Fit k p) (hl : ∀ p ∈ l, Fit k p) (hk : k ≤ 2000) : f_greatest [.d (.list ((p :: l).map prD))] = pure (prD (bestP p l)) := by
  obtain ⟨s', z⟩ := best_loop hk l p (.val (.list ((p :: l).map prD))) .none hl hp
  rw [List.map_cons] at z ⊢
  simp [f_greatest, runB_eq, n_greatest, b_greatest, z]
def txt (i : Int) : Str := Str.ofString (toString i)
theorem txt_len {i : Int} {k : Nat} (h : i.natAbs < 2 ^ k) (h0 : 0 < k) : (txt i).length ≤ k + 1 := by
  unfold txt
  rw [PySem.ofString_length]
  exact int_text_length_le h0 (PySem.Flt.log2_lt_of h0 h)
theorem str_int {i : Int} {k : Nat} (h : i.natAbs < 2 ^ k) (h0 : 0 < k) (hk : k ≤ 1900) : strD (.int i) = pure (.str (txt i)) := by
  have l := PySem.Flt.log2_lt_of h0 h
  have l2 : i.natAbs.log2 < 1920 := by omega
  simp [strD, l2]
  rfl
theorem fmt_int {i : Int} {k : Nat} (h : i.natAbs < 2 ^ k) (h0 : 0 < k) (hk : k ≤ 1900) : fmtD (.int i) = pure (.str (txt i)) := by
  have l := PySem.Flt.log2_lt_of h0 h
  have l2 : i.natAbs.log2 < 1920 := by omega
  simp [fmtD, l2]
  rfl
theorem fmt_str {x : Str} (h : x.length ≤ sizeLine) : fmtD (.str x) = pure (.str x) := by simp [fmtD, h]
theorem jAll_nil (acc : Str) (ρ : Env) : jAll [] acc ρ = pure (.str acc) := rfl
theorem jAll_cons (m : ME) (r : List ME) (acc : Str) (ρ : Env) : jAll (m :: r) acc ρ = (m ρ >>= fun d => match d with
    | .str y => if (acc ++ y).length ≤ sizeLine then jAll r (acc ++ y) ρ else bad
    | _ => bad) := rfl
theorem jAll_str {m : ME} {r : List ME} {acc y : Str} {ρ : Env} (h : m ρ = pure (.str y)) (hl : (acc ++ y).length ≤ sizeLine) : jAll (m :: r) acc ρ = jAll r (acc ++ y) ρ := by
  rw [jAll_cons, h, pure_bnd]
  exact if_pos hl
theorem empty_app (x : Str) : Str.empty ++ x = x := by
  cases x with
  | mk c => exact congrArg Str.mk (Array.empty_append)
def textP (p : Int × Int) : Str := if p.2 = 1 then txt p.1 else txt p.1 ++ "/" ++ txt p.2
theorem fits {x : Str} {n : Nat} (h : x.length ≤ n) (hn : n ≤ 100000) : x.length ≤ sizeLine := by
  rw [sizeLine_eq]
  omega
theorem slash_len : ((("/" : String) : Str)).length = 1 := rfl
theorem text_eq {p : Int × Int} {k : Nat} (h : Fit k p) (h0 : 0 < k) (hk : k ≤ 1900) : f_ratio_text [.d (prD p)] = pure (.str (textP p)) := by
  have s1 := str_int h.1 h0 hk
  have t1 := fmt_int h.1 h0 hk
  have t2 := fmt_int h.2.2.1 h0 hk
  have l1 := txt_len h.1 h0
  have l2 := txt_len h.2.2.1 h0
  by_cases e : p.2 = 1
  · simp [f_ratio_text, runB_eq, n_ratio_text, b_ratio_text, prD, e, s1, textP]
  · have e2 : (p.2 == 1) = false := by simpa using e
    simp [f_ratio_text, runB_eq, n_ratio_text, b_ratio_text, prD, e, textP, vJs]
    rw [jAll_str (y := txt p.1) (by simp [t1]) ?_, jAll_str (y := "/") (by simp) ?_, jAll_str (y := txt p.2) (by simp [t2]) ?_, jAll_nil, empty_app]
    all_goals rw [empty_app]
    all_goals try simp only [strLen_append, slash_len]
    all_goals rw [sizeLine_eq]
    all_goals omega
theorem same_eq {d : D} {n w : Nat} (h : Sho n w d) (hn : n ≤ 59) (hw : w ≤ 16000000) : f__law_same [.d d, .d d] = pure (.bool true) := by
  have s : Sho (n + 1) (1 * (w + 2) + 2) (.list [d]) := sho_list (ds := [d]) fun x hx => by
    rw [List.mem_singleton.mp hx]
    exact h
  have r := repr_ok s (by omega) (by omega)
  simp [f__law_same, runB_eq, n__law_same, b__law_same, r]
/-! the told numbers -/
def StOk (n : Nat) (S : SS) : Prop := ∃ (s : List Int) (t : Nat), S = some [.list (s.map PyData.int), .int t] ∧ s ≠ [] ∧ s.length ≤ 10000 ∧ t ≤ n
@[simp] theorem getS_at (ds : List D) : getS (some ds) = .ok ds (some ds) := rfl
@[simp] theorem putS_at (ds : List D) (S : SS) : putS ds S = .ok () (some ds) := rfl
@[simp] theorem pure_at {α : Type} (a : α) (S : SS) : (pure a : M α) S = .ok a S := rfl
theorem bind_ok2 {α β : Type} {m : M α} {f : α → M β} {S S' : SS} {a : α} (h : m S = .ok a S') : (m >>= f) S = f a S' := by
  rw [bind_at, h]
@[simp] theorem getS_bind {β : Type} (f : List D → M β) (ds : List D) : (getS >>= f) (some ds) = f ds (some ds) := rfl
@[simp] theorem putS_bind {β : Type} (f : Unit → M β) (ds : List D) (S : SS) : (putS ds >>= f) S = f () (some ds) := rfl
@[simp] theorem ixN1 : ixN 2 1 = some 1 := rfl
theorem big_small {n : Nat} (h : n < 2 ^ 200) : n < BIG := big_of h (by decide)
theorem next_eq {n many : Nat} {S : SS} (h : StOk n S) (hn : n ≤ 2 ^ 40) (hm : 0 < many) : ∃ (v : Nat) (S' : SS), v < many ∧ f__law_next [.cell, .d (.int many)] S = .ok (.int v) S' ∧ StOk (n + 1) S' := by
  obtain ⟨s, t, rfl, hs, hs2, ht⟩ := h
  have l0 : 0 < s.length := List.length_pos_iff.mpr hs
  have c : ((t : Int) + 1) = ((t + 1 : Nat) : Int) := by omega
  have f1 : fdivD (.int ((t : Int) + 1)) (.int (s.length : Int)) = pure (.int (((t + 1) / s.length : Nat) : Int)) := by
    rw [fdiv_int ⟨by omega, db_of (k := 200) (Nat.lt_of_le_of_lt (show (s.length : Int).natAbs ≤ 10000 by omega) (by decide)) (by decide)⟩, c, Int.fdiv_eq_ediv_of_nonneg _ (by omega)]
    rfl
  have m1 : modD (.int ((t : Int) + 1)) (.int (s.length : Int)) = pure (.int (((t + 1) % s.length : Nat) : Int)) := by
    rw [mod_int (by omega), c, fmod_nat]
  have r1 : (t + 1) % s.length < s.length := Nat.mod_lt _ l0
  have a1 : atI (s.map PyData.int) ((((t + 1) % s.length : Nat)) : Int) = some (.int s[(t + 1) % s.length]) := by
    rw [at_nat, List.getElem?_map, List.getElem?_eq_getElem r1]
    rfl
  have q1 : (t + 1) / s.length ≤ t + 1 := Nat.div_le_self _ _
  generalize hq : (t + 1) / s.length = q at *
  generalize hr : (t + 1) % s.length = r at *
  have b1 : ∀ m : Nat, m < 2 ^ 200 → ((m : Int)).natAbs < BIG := fun m h => by simpa using big_small h
  have n1 : t + 1 < 2 ^ 200 := Nat.lt_of_le_of_lt (show t + 1 ≤ 2 ^ 40 + 1 by omega) (by decide)
  have n2 : q < 2 ^ 200 := Nat.lt_of_le_of_lt q1 n1
  have n3 : (t + 1) * q < 2 ^ 200 := Nat.lt_of_le_of_lt (Nat.mul_le_mul (show t + 1 ≤ 2 ^ 40 + 1 by omega) (show q ≤ 2 ^ 40 + 1 by omega)) (by decide)
  have u1 : mulD (.int (q : Int)) (.int 389) = pure (.int ((q : Int) * 389)) := mul_int ⟨b1 q n2, b1 389 (by decide)⟩
  have u2 : mulD (.int ((t : Int) + 1)) (.int (q : Int)) = pure (.int (((t : Int) + 1) * q)) := by
    rw [c, mul_int ⟨b1 _ n1, b1 q n2⟩]
  have u3 : mulD (.int (((t : Int) + 1) * q)) (.int 17) = pure (.int (((t : Int) + 1) * q * 17)) := by
    rw [c, ← Int.natCast_mul]
    exact mul_int ⟨b1 _ n3, b1 17 (by decide)⟩
  have mm : (many : Int) ≠ 0 := by omega
  simp only [f__law_next, runB_eq, n__law_next, b__law_next]
  simp [f1, m1, a1, u1, u2, u3, mod_int mm]
  generalize s[r] + (q : Int) * 389 + ((t : Int) + 1) * q * 17 = z
  have z1 : 0 ≤ z % many := Int.emod_nonneg _ mm
  have z2 : z % many < many := Int.emod_lt_of_pos _ (by omega)
  refine ⟨(z % many).toNat, by omega, some [.list (s.map PyData.int), .int ((t : Int) + 1)], ?_, s, t + 1, rfl, hs, hs2, by omega⟩
  rw [Int.fmod_eq_emod_of_nonneg _ (by omega), Int.toNat_of_nonneg z1]
  exact ⟨rfl, rfl⟩
theorem next_lit {n : Nat} {m : Int} {S : SS} (h : StOk n S) (hn : n ≤ 2 ^ 40) (hm : 0 < m) : ∃ (v : Int) (S' : SS), 0 ≤ v ∧ v < m ∧ f__law_next [.cell, .d (.int m)] S = .ok (.int v) S' ∧ StOk (n + 1) S' := by
  obtain ⟨k, rfl⟩ := Int.eq_ofNat_of_zero_le (Int.le_of_lt hm)
  obtain ⟨v, S', a, b, c⟩ := next_eq h hn (many := k) (by omega)
  exact ⟨v, S', by omega, by omega, b, c⟩
theorem at_pick {α : Type} (a b : α) (P : Prop) [Decidable P] : atI [a, b] (if P then 1 else 0) = some (if P then b else a) := by split <;> simp
theorem drawn_eq {n : Nat} {S : SS} (h : StOk n S) (hn : n ≤ 2 ^ 39) : ∃ (p : Int × Int) (S' : SS), Fit 28 p ∧ f__law_drawn [.cell] S = .ok (prD p) S' ∧ StOk (n + 3) S' := by
  obtain ⟨v1, S1, k1, l1, e1, h1⟩ := next_lit (m := 400) h (by omega) (by decide)
  obtain ⟨v2, S2, k2, l2, e2, h2⟩ := next_lit (m := 5) h1 (by omega) (by decide)
  obtain ⟨v3, S3, k3, l3, e3, h3⟩ := next_lit (m := 60) h2 (by omega) (by decide)
  simp only [f__law_drawn, runB_eq, n__law_drawn, b__law_drawn]
  have pw : powD (.int 10) (.int 6) = pure (.int 1000000) := rfl
  have mu : mulD (.int (v1 - 200)) (if v2 = 0 then .int 1000000 else .int 1) = pure (.int ((v1 - 200) * (if v2 = 0 then 1000000 else 1))) := by
    have b0 : (v1 - 200).natAbs < BIG := big_small (Nat.lt_of_le_of_lt (show _ ≤ 400 by omega) (by decide))
    split
    · exact mul_int ⟨b0, big_small (by decide)⟩
    · exact mul_int ⟨b0, big_small (by decide)⟩
  have b3 : (1 + v3 : Int) ≠ 0 := by omega
  have q3 : (1 + v3 : Int).natAbs < 2 ^ 28 := Nat.lt_of_le_of_lt (show _ ≤ 60 by omega) (by decide)
  have r := fun a => law_ratio_eq (a := a) b3 (gcd_db b3 q3 (by decide))
  simp [bind_ok2 e1, bind_ok2 e2, pw, at_pick, mu, bind_ok2 e3, r]
  refine ⟨_, _, ?_, S3, ⟨rfl, rfl⟩, h3⟩
  refine ratP_fit b3 ?_ q3
  split
  · exact Nat.lt_of_le_of_lt (show _ ≤ 200000000 by omega) (by decide)
  · exact Nat.lt_of_le_of_lt (show _ ≤ 200000000 by omega) (by decide)
/-! the stream -/
@[simp] theorem cut63 (xs : List D) : cutD xs none (some 63) = xs.take 63 := by
  have e : HT.sIx xs.length xs.length (some 63) = min 63 xs.length := HT.sIx_nat _ _ 63
  have e0 : HT.sIx xs.length 0 none = 0 := rfl
  unfold cutD
  rw [e, e0, List.drop_zero, Nat.sub_zero, List.take_eq_take_iff]
  omega
theorem rng60 : rngM 0 60 = pure ((List.range 60).map fun i => PyData.int (i : Nat)) := by
  unfold rngM rngL
  rw [if_pos ⟨by decide, by decide⟩]
  simp
theorem rng10 : rngM 0 10 = pure ((List.range 10).map fun i => PyData.int (i : Nat)) := by
  unfold rngM rngL
  rw [if_pos ⟨by decide, by decide⟩]
  simp
theorem long_loop (p : Slot) (q : Slot) (z : Slot) : ∀ (l : List Nat) (acc : List Int) (rest : Int) (s4 : Slot), acc.length + l.length ≤ 10000 → ∃ (acc' : List Int) (r' s' : Slot), acc'.length ≤ acc.length + l.length ∧ (l ≠ [] → acc' ≠ []) ∧ (acc ≠ [] → acc' ≠ []) ∧
    forN (tN 4) (sSeq (sApp 1 (v2 modD (v1 intD (vVar 3)) (vC (.int 1009)))) (sSeq (sSet 3 (v2 fdivD (vVar 3) (vC (.int 1009)))) (sSeq (sIf (v2 eqD (vVar 3) (vC (.int 0))) (sSeq sBrk sNil) sNil) sNil))) (l.map fun i => PyData.int (i : Nat)) [p, .own (acc.map PyData.int), q, .val (.int rest), s4, z] = pure (.nx [p, .own (acc'.map PyData.int), q, r', s', z])
  | [], acc, rest, s4, _ => ⟨acc, _, _, by simp, fun h => absurd rfl h, id, rfl⟩
  | k :: l, acc, rest, s4, hl => by
    rw [List.length_cons] at hl
    obtain ⟨acc', r', s', h1, h2, h3, z1⟩ := long_loop p q z l (acc ++ [rest.fmod 1009]) (rest.fdiv 1009) (.val (.int (k : Nat))) (by rw [List.length_append, List.length_singleton]; omega)
    rw [List.length_append, List.length_singleton] at h1
    have lt : (acc.map PyData.int).length < sizeLine := by rw [List.length_map, sizeLine_eq]; omega
    have m1 : modD (.int rest) (.int 1009) = pure (.int (rest.fmod 1009)) := mod_int (by decide)
    have f1 : fdivD (.int rest) (.int 1009) = pure (.int (rest.fdiv 1009)) := fdiv_int ⟨by decide, db_of (k := 200) (by decide) (by decide)⟩
    have ap : List.map PyData.int acc ++ [PyData.int (rest.fmod 1009)] = List.map PyData.int (acc ++ [rest.fmod 1009]) := by simp
    rw [List.length_map] at lt
    by_cases e : rest.fdiv 1009 = 0
    · refine ⟨acc ++ [rest.fmod 1009], .val (.int 0), .val (.int (k : Nat)), by simp, fun _ => by simp, fun _ => by simp, ?_⟩
      rw [List.map_cons, forN_nm]
      simp [m1, f1, e, lt]
    · refine ⟨acc', r', s', by rw [List.length_cons]; omega, fun _ => h3 (by simp), fun _ => h3 (by simp), ?_⟩
      rw [List.map_cons, forN_nm]
      simp [m1, f1, e, lt]
      simpa using z1
theorem short_loop (p : Slot) (q w : Slot) : ∀ (l : List Nat) (acc : List Int) (st : Int) (s4 : Slot), (∀ k ∈ l, k < 100) → 0 ≤ st → st < 2147483647 → acc.length + l.length ≤ 10000 → ∃ (acc' : List Int) (r' s' : Slot), acc'.length ≤ acc.length + l.length ∧ (l ≠ [] → acc' ≠ []) ∧ (acc ≠ [] → acc' ≠ []) ∧
    forN (tN 4) (sSeq (sSet 5 (v2 modD (v1 intD (v2 addD (v2 addD (v2 mulD (vVar 5) (vC (.int 48271))) (v2 mulD (vC (.int 7)) (vVar 4))) (vC (.int 11)))) (vC (.int 2147483647)))) (sSeq (sApp 1 (v2 modD (v2 modD (v1 intD (v2 addD (v2 mulD (vVar 5) (vC (.int 69621))) (vVar 4))) (vC (.int 2147483629))) (vC (.int 1009)))) sNil)) (l.map fun i => PyData.int (i : Nat)) [p, .own (acc.map PyData.int), q, w, s4, .val (.int st)] = pure (.nx [p, .own (acc'.map PyData.int), q, w, s', r'])
  | [], acc, st, s4, _, _, _, _ => ⟨acc, _, _, by simp, fun h => absurd rfl h, id, rfl⟩
  | k :: l, acc, st, s4, hk, g0, g1, hl => by
    rw [List.length_cons] at hl
    have k1 := hk k List.mem_cons_self
    have b1 : ∀ m : Int, 0 ≤ m → m < 2 ^ 100 → m.natAbs < BIG := fun m h h2 => big_of (k := 100) (by omega) (by decide)
    have u1 : mulD (.int st) (.int 48271) = pure (.int (st * 48271)) := mul_int ⟨b1 st g0 (by omega), b1 _ (by decide) (by decide)⟩
    have u2 : mulD (.int 7) (.int (k : Int)) = pure (.int (7 * (k : Int))) := mul_int ⟨b1 _ (by decide) (by decide), b1 _ (by omega) (by omega)⟩
    generalize hx : (st * 48271 + 7 * (k : Int) + 11).fmod 2147483647 = x
    have m1 : modD (.int (st * 48271 + 7 * (k : Int) + 11)) (.int 2147483647) = pure (.int x) := by rw [mod_int (by decide), hx]
    have x0 : 0 ≤ x := by rw [← hx, Int.fmod_eq_emod_of_nonneg _ (by decide)]; exact Int.emod_nonneg _ (by decide)
    have x1 : x < 2147483647 := by rw [← hx, Int.fmod_eq_emod_of_nonneg _ (by decide)]; exact Int.emod_lt_of_pos _ (by decide)
    have u3 : mulD (.int x) (.int 69621) = pure (.int (x * 69621)) := mul_int ⟨b1 x x0 (by omega), b1 _ (by decide) (by decide)⟩
    have m2 : modD (.int (x * 69621 + (k : Int))) (.int 2147483629) = pure (.int ((x * 69621 + (k : Int)).fmod 2147483629)) := mod_int (by decide)
    have m3 : ∀ y : Int, modD (.int y) (.int 1009) = pure (.int (y.fmod 1009)) := fun y => mod_int (by decide)
    generalize hy : ((x * 69621 + (k : Int)).fmod 2147483629).fmod 1009 = y
    obtain ⟨acc', r', s', h1, h2, h3, z1⟩ := short_loop p q w l (acc ++ [y]) x (.val (.int (k : Nat))) (fun j hj => hk j (List.mem_cons_of_mem _ hj)) x0 x1 (by rw [List.length_append, List.length_singleton]; omega)
    rw [List.length_append, List.length_singleton] at h1
    have lt : acc.length < sizeLine := by rw [sizeLine_eq]; omega
    refine ⟨acc', r', s', by rw [List.length_cons]; omega, fun _ => h3 (by simp), fun _ => h3 (by simp), ?_⟩
    rw [List.map_cons, forN_nm]
    simp [u1, u2, m1, u3, m2, m3, hy, lt]
    simpa using z1
theorem stream_loop (p : Slot) : ∀ (l : List Int) (acc : List Int) (s2 s3 s4 s5 : Slot), acc.length + l.length * 60 ≤ 9000 → ∃ (acc' : List Int) (t2 t3 t4 t5 : Slot), acc'.length ≤ acc.length + l.length * 60 ∧
    forN (tN 2) (sSeq (sSet 3 (v1 absD (v1 intD (vVar 2)))) (sSeq (sIf (v2 geD (vVar 3) (v2 powD (vC (.int 10)) (vC (.int 18)))) (sSeq (sFor (iR1 (vC (.int 60))) (tN 4) (sSeq (sApp 1 (v2 modD (v1 intD (vVar 3)) (vC (.int 1009)))) (sSeq (sSet 3 (v2 fdivD (vVar 3) (vC (.int 1009)))) (sSeq (sIf (v2 eqD (vVar 3) (vC (.int 0))) (sSeq sBrk sNil) sNil) sNil)))) sNil) (sSeq (sSet 5 (v2 modD (v1 intD (vVar 3)) (vC (.int 2147483647)))) (sSeq (sFor (iR1 (vC (.int 10))) (tN 4) (sSeq (sSet 5 (v2 modD (v1 intD (v2 addD (v2 addD (v2 mulD (vVar 5) (vC (.int 48271))) (v2 mulD (vC (.int 7)) (vVar 4))) (vC (.int 11)))) (vC (.int 2147483647)))) (sSeq (sApp 1 (v2 modD (v2 modD (v1 intD (v2 addD (v2 mulD (vVar 5) (vC (.int 69621))) (vVar 4))) (vC (.int 2147483629))) (vC (.int 1009)))) sNil))) sNil))) sNil)) (l.map PyData.int) [p, .own (acc.map PyData.int), s2, s3, s4, s5] = pure (.nx [p, .own (acc'.map PyData.int), t2, t3, t4, t5])
  | [], acc, s2, s3, s4, s5, _ => ⟨acc, _, _, _, _, by simp, rfl⟩
  | c :: l, acc, s2, s3, s4, s5, hl => by
    rw [List.length_cons, Nat.succ_mul] at hl
    have pw : powD (.int 10) (.int 18) = pure (.int 1000000000000000000) := rfl
    by_cases e : (1000000000000000000 : Int) ≤ (c.natAbs : Int)
    · obtain ⟨acc1, r1, s1, h1, _, _, z1⟩ := long_loop p (.val (.int c)) s5 (List.range 60) acc (c.natAbs : Int) s4 (by rw [List.length_range]; omega)
      rw [List.length_range] at h1
      obtain ⟨acc', t2, t3, t4, t5, h2, z2⟩ := stream_loop p l acc1 (.val (.int c)) r1 s1 s5 (by omega)
      refine ⟨acc', t2, t3, t4, t5, by rw [List.length_cons, Nat.succ_mul]; omega, ?_⟩
      rw [List.map_cons, forN_nm]
      simp [pw, e, rng60, z1]
      exact z2
    · have m1 : modD (.int (c.natAbs : Int)) (.int 2147483647) = pure (.int ((c.natAbs : Int).fmod 2147483647)) := mod_int (by decide)
      generalize hx : (c.natAbs : Int).fmod 2147483647 = x at m1
      have x0 : 0 ≤ x := by rw [← hx, Int.fmod_eq_emod_of_nonneg _ (by decide)]; exact Int.emod_nonneg _ (by decide)
      have x1 : x < 2147483647 := by rw [← hx, Int.fmod_eq_emod_of_nonneg _ (by decide)]; exact Int.emod_lt_of_pos _ (by decide)
      obtain ⟨acc1, r1, s1, h1, _, _, z1⟩ := short_loop p (.val (.int c)) (.val (.int (c.natAbs : Int))) (List.range 10) acc x s4 (fun k hk => by have := List.mem_range.mp hk; omega) x0 x1 (by rw [List.length_range]; omega)
      rw [List.length_range] at h1
      obtain ⟨acc', t2, t3, t4, t5, h2, z2⟩ := stream_loop p l acc1 (.val (.int c)) (.val (.int (c.natAbs : Int))) s1 r1 (by omega)
      refine ⟨acc', t2, t3, t4, t5, by rw [List.length_cons, Nat.succ_mul]; omega, ?_⟩
      rw [List.map_cons, forN_nm]
      simp [pw, e, rng10, m1, z1]
      exact z2
theorem stream_eq (ns : List Int) : ∃ s : List Int, s ≠ [] ∧ s.length ≤ 10000 ∧ f__law_stream [.scr (ns.map PyData.int)] = pure (.list (s.map PyData.int)) := by
  obtain ⟨acc, t2, t3, t4, t5, h, z⟩ := stream_loop (.scr (ns.map PyData.int)) (ns.take 63) [] .none .none .none .none (by have := List.length_take_le 63 ns; simp only [List.length_nil]; omega)
  have l63 := List.length_take_le 63 ns
  rw [List.length_nil] at h
  have lt : acc.length < sizeLine := by rw [sizeLine_eq]; omega
  by_cases e : acc = []
  · subst e
    refine ⟨[0], by simp, by simp, ?_⟩
    simp only [f__law_stream, runB_eq, n__law_stream, b__law_stream]
    simp [← List.map_take]
    simp at z
    have l0 : 0 < sizeLine := by rw [sizeLine_eq]; omega
    simp [z, l0]
  · refine ⟨acc, e, by omega, ?_⟩
    have e0 : (acc.length : Int) ≠ 0 := by have := List.length_pos_iff.mpr e; omega
    simp only [f__law_stream, runB_eq, n__law_stream, b__law_stream]
    simp [← List.map_take]
    simp at z
    simp [z, e]
end Pv.K01
namespace Pv.K01
open PySem PySem.Spec PyProof.Rows L2
/-! a turn -/
@[simp] theorem ix_pr0 (p : Int × Int) : ixD (prD p) (.int 0) = pure (.int p.1) := by simp [prD]
@[simp] theorem ix_pr1 (p : Int × Int) : ixD (prD p) (.int 1) = pure (.int p.2) := by simp [prD]
theorem tup_pr (a b : Int) : PyData.tuple [.int a, .int b] = prD (a, b) := rfl
theorem sho_pr {p : Int × Int} {k : Nat} (h1 : p.1.natAbs < 2 ^ k) (h2 : p.2.natAbs < 2 ^ k) (h0 : 0 < k) (hk : k ≤ 1900) : Sho 1 3900 (prD p) := by
  have z : Sho 1 (2 * (k + 1 + 2) + 3) (.tuple [.int p.1, .int p.2]) := sho_tup (n := 0) (w := k + 1) (ds := [.int p.1, .int p.2]) fun d hd => by
    rcases List.mem_cons.mp hd with rfl | hd
    · exact sho_int h1 h0 (by omega)
    · rw [List.mem_singleton.mp hd]
      exact sho_int h2 h0 (by omega)
  exact z.up (Nat.le_refl _) (by omega)
theorem sho_fit {p : Int × Int} {k : Nat} (h : Fit k p) (h0 : 0 < k) (hk : k ≤ 1900) : Sho 1 3900 (prD p) := sho_pr h.1 h.2.2.1 h0 hk
theorem same_list {ds : List D} (h : ∀ d ∈ ds, Sho 1 3900 d) (hl : ds.length ≤ 10) : f__law_same [.d (.list ds), .d (.list ds)] = pure (.bool true) := by
  have z := sho_list h
  have l : ds.length * (3900 + 2) ≤ 10 * (3900 + 2) := Nat.mul_le_mul_right _ hl
  exact same_eq z (by decide) (by omega)
theorem drawn_list (ρ : Env) (i : Nat) (hc : ∀ d : D, (ρ.set i (.val d))[1]?.getD .none = .cell) : ∀ (ds : List D) (n : Nat) (S : SS), StOk n S → n + 3 * ds.length ≤ 2 ^ 38 → ∃ (ps : List (Int × Int)) (S' : SS), ps.length = ds.length ∧ (∀ p ∈ ps, Fit 28 p) ∧
    collect (turnM (tN i) (vC (.bool true)) (vCall f__law_drawn (gCell 1 gNil)) ρ) ds S = .ok (ps.map prD) S' ∧ StOk (n + 3 * ds.length) S'
  | [], n, S, h, _ => ⟨[], S, rfl, fun p hp => (by cases hp), rfl, h⟩
  | d :: r, n, S, h, hn => by
    rw [List.length_cons] at hn
    obtain ⟨p, S1, f1, e1, h1⟩ := drawn_eq h (by omega)
    obtain ⟨ps, S2, l2, f2, e2, h2⟩ := drawn_list ρ i hc r (n + 3) S1 h1 (by omega)
    refine ⟨p :: ps, S2, by rw [List.length_cons, List.length_cons, l2], fun q hq => ?_, ?_, by rw [List.length_cons]; have e : n + 3 + 3 * r.length = n + 3 * (r.length + 1) := (by omega); rw [← e]; exact h2⟩
    · cases hq with
      | head => exact f1
      | tail _ z => exact f2 q z
    · have t : turnM (tN i) (vC (.bool true)) (vCall f__law_drawn (gCell 1 gNil)) ρ d S = .ok (some (prD p)) S1 := by
        have c := hc d
        simp only [turnM, tN]
        unfold nox
        simp [c, bind_ok2 e1]
      unfold collect
      rw [bind_ok2 t, bind_ok2 e2]
      rfl
def turnT : Sts := match b_law.rest with
  | .cons (.for_ _ _ b) _ => b
  | _ => .nil
theorem law_rest : b_law.rest.den = sSeq (sFor (iR1 (vC (.int 12))) (tN 2) turnT.den) (sSeq (sRet (vC (.bool true))) sNil) := rfl
theorem less_self (p : Int × Int) : lessB p p = false := by simp [lessB]
theorem best_cons (p : Int × Int) (l : List (Int × Int)) : bestP p (p :: l) = bestP p l := by simp [bestP, less_self]
theorem row_loop (rs ms : List (Int × Int)) (k : Nat) (hk : k ≤ 100) (s0 s1 s2 s3 s4 s5 s6 s10 s11 s14 : Slot) (hrs : ∀ p ∈ rs, Fit k p) (hms : ∀ p ∈ ms, Fit k p) : ∀ (suf suf2 : List (Int × Int)) (i : Nat) (b t : Int × Int) (m : Nat) (s8 : Slot), rs.drop i = suf → ms.drop i = suf2 → suf.length = suf2.length → Fit k b → Fit m t → m + suf.length * (k + k + 1) ≤ 1500 →
    ∃ s8', forN (tN 8) (sSeq (sSet 12 (v2 ixD (vLst (aCons (vVar 12) (aCons (v2 ixD (vVar 7) (vVar 8)) aNil))) (v1 intD (vCall f__law_less (gCons (vVar 12) (gCons (v2 ixD (vVar 7) (vVar 8)) gNil)))))) (sSeq (sSet 13 (vCall f__law_plus (gCons (vVar 13) (gCons (vCall f__law_ratio (gCons (v2 mulD (v2 ixD (v2 ixD (vVar 7) (vVar 8)) (vC (.int 0))) (v2 ixD (v2 ixD (vVar 9) (vVar 8)) (vC (.int 0)))) (gCons (v2 mulD (v2 ixD (v2 ixD (vVar 7) (vVar 8)) (vC (.int 1))) (v2 ixD (v2 ixD (vVar 9) (vVar 8)) (vC (.int 1)))) gNil))) gNil)))) sNil)) ((List.range' i suf.length).map fun j => PyData.int (j : Nat)) [s0, s1, s2, s3, s4, s5, s6, .val (.list (rs.map prD)), s8, .val (.list (ms.map prD)), s10, s11, .val (prD b), .val (prD t), s14]
      = pure (.nx [s0, s1, s2, s3, s4, s5, s6, .val (.list (rs.map prD)), s8', .val (.list (ms.map prD)), s10, s11, .val (prD (bestP b suf)), .val (prD (((suf.zip suf2).map fun z => timesP z.1 z.2).foldl plusP t)), s14])
  | [], _, i, b, t, m, s8, _, _, _, _, _, _ => ⟨s8, by simp [bestP]⟩
  | p :: suf, [], i, b, t, m, s8, _, _, h, _, _, _ => by simp at h
  | p :: suf, q :: suf2, i, b, t, m, s8, e1, e2, hl, hb, ht, hm => by
    rw [List.length_cons, Nat.succ_mul] at hm
    have r1 : rs[i]? = some p := by rw [← List.head?_drop, e1]; rfl
    have r2 : ms[i]? = some q := by rw [← List.head?_drop, e2]; rfl
    have d1 : rs.drop (i + 1) = suf := by rw [← List.tail_drop, e1]; rfl
    have d2 : ms.drop (i + 1) = suf2 := by rw [← List.tail_drop, e2]; rfl
    have fp := hrs p (List.mem_of_getElem? r1)
    have fq := hms q (List.mem_of_getElem? r2)
    have a1 : atI (rs.map prD) (i : Int) = some (prD p) := by rw [at_nat, List.getElem?_map, r1]; rfl
    have a2 : atI (ms.map prD) (i : Int) = some (prD q) := by rw [at_nat, List.getElem?_map, r2]; rfl
    have l1 := law_less_eq hb fp (by omega) (by omega)
    have u1 := mul_ok fp.1 fq.1 (by omega) (by omega)
    have u2 := mul_ok fp.2.2.1 fq.2.2.1 (by omega) (by omega)
    have hbn := below_ne fp fq
    have t1 := law_ratio_eq (a := p.1 * q.1) hbn (gcd_db hbn (mul_fit fp.2.2.1 fq.2.2.1) (by omega))
    have ft := times_fit fp fq
    have p1 := law_plus_eq ht ft (by omega) (by omega)
    have pf := plus_fit ht ft
    rw [timesP] at p1 pf
    obtain ⟨s8', z⟩ := row_loop rs ms k hk s0 s1 s2 s3 s4 s5 s6 s10 s11 s14 hrs hms suf suf2 (i + 1) (if lessB b p = true then p else b) (plusP t (timesP p q)) (m + (k + k) + 1) (.val (.int (i : Nat))) d1 d2 (by simpa using hl) (by split; exact fp; exact hb) pf (by omega)
    refine ⟨s8', ?_⟩
    rw [List.length_cons, List.range'_succ, List.map_cons, forN_nm]
    cases c : lessB b p with
    | true =>
      rw [c] at z
      simp [a1, a2, l1, u1, u2, t1, p1, c]
      simpa [bestP, c, timesP] using z
    | false =>
      rw [c] at z
      simp [a1, a2, l1, u1, u2, t1, p1, c]
      simpa [bestP, c, timesP] using z
end Pv.K01
namespace Pv.K01
open PySem PySem.Spec PyProof.Rows L2
theorem rng_nat (n : Nat) (h : n ≤ 1000) : rngM 0 (n : Int) = pure ((List.range' 0 n).map fun i => PyData.int (i : Nat)) := by
  unfold rngM rngL
  rw [if_pos ⟨by omega, by rw [sizeLine_eq]; omega⟩]
  simp [List.range_eq_range']
def TurnEnd (s0 s2 : Slot) (n : Nat) (r : Res Fl) : Prop := ∃ (t3 t4 t5 t6 t7 t8 t9 t10 t11 t12 t13 t14 : Slot) (S' : SS), r = .ok (.nx [s0, .cell, s2, t3, t4, t5, t6, t7, t8, t9, t10, t11, t12, t13, t14]) S' ∧ StOk (n + 100) S'
theorem seq_end {T : Res Fl → Prop} {m n : MS} {ρ ρ1 : Env} {S S1 : SS} (h : m ρ S = .ok (.nx ρ1) S1) (h2 : T (n ρ1 S1)) : T (sSeq m n ρ S) := by
  have e : sSeq m n ρ S = n ρ1 S1 := by
    show (m ρ >>= fun f => flow f n) S = n ρ1 S1
    rw [bind_ok2 h]
    rfl
  rw [e]
  exact h2
theorem StOk.up {n m : Nat} {S : SS} (h : StOk n S) (l : n ≤ m) : StOk m S := by
  obtain ⟨s, t, e, a, b, c⟩ := h
  exact ⟨s, t, e, a, b, by omega⟩
theorem rows_st {j : Int} {L : List D} {ys : List D} {S S7 S8 : SS} {s0 s2 s3 s4 s5 s6 s7 s8 s9 s10 s11 s12 s13 s14 : Slot} (e7 : f__law_next [.cell, .d (.int 5)] S = .ok (.int j) S7) (rk : rngM 0 (1 + j) = pure L)
    (e8 : collect (turnM (tN 8) (vC (.bool true)) (vCall f__law_drawn (gCell 1 gNil)) [s0, .cell, s2, s3, s4, s5, s6, s7, .none, s9, s10, s11, s12, s13, s14]) L S7 = .ok ys S8) :
    sSet 7 (E.den (.lc [("k", 8)] (.r1 (.bin .add (.int 1) (.call "_law_next" f__law_next (.cell 1 (.cons (.int 5) .nil))))) (.nm 8) (.call "_law_drawn" f__law_drawn (.cell 1 .nil)))) [s0, .cell, s2, s3, s4, s5, s6, s7, s8, s9, s10, s11, s12, s13, s14] S = .ok (.nx [s0, .cell, s2, s3, s4, s5, s6, .val (.list ys), s8, s9, s10, s11, s12, s13, s14]) S8 := by
  simp [bind_ok2 e7, rk, wipeE, bind_ok2 e8]
theorem more_st {L : List D} {ys : List D} {S S8 : SS} {s0 s2 s3 s4 s5 s6 s8 s9 s10 s11 s12 s13 s14 : Slot}
    (e8 : collect (turnM (tN 10) (vC (.bool true)) (vCall f__law_drawn (gCell 1 gNil)) [s0, .cell, s2, s3, s4, s5, s6, .val (.list L), s8, s9, .none, s11, s12, s13, s14]) L S = .ok ys S8) :
    sSet 9 (E.den (.lc [("row", 10)] (.seq (.var 7)) (.nm 10) (.call "_law_drawn" f__law_drawn (.cell 1 .nil)))) [s0, .cell, s2, s3, s4, s5, s6, .val (.list L), s8, s9, s10, s11, s12, s13, s14] S = .ok (.nx [s0, .cell, s2, s3, s4, s5, s6, .val (.list L), s8, .val (.list ys), s10, s11, s12, s13, s14]) S8 := by
  simp [wipeE, bind_ok2 e8]
theorem is_fit {p : Int × Int} {k : Nat} (h : Fit k p) : f_is_ratio [.d (prD p)] = pure (.bool true) := by
  have z := is_ratio_eq p.1 p.2
  have e : decide (1 ≤ p.2) = true := decide_eq_true (by have := h.2.1; omega)
  rw [h.2.2.2, e] at z
  exact z
theorem is_twice {p : Int × Int} {k : Nat} (h : Fit k p) : f_is_ratio [.d (prD (2 * p.1, 2 * p.2))] = pure (.bool false) := by
  have z := is_ratio_eq (2 * p.1) (2 * p.2)
  have e : Int.gcd (2 * p.1) (2 * p.2) = 2 := by rw [Int.gcd_mul_left, h.2.2.2]; rfl
  rw [e] at z
  simpa using z
theorem is_10 : f_is_ratio [.d (prD (1, 0))] = pure (.bool false) := is_ratio_eq 1 0
theorem is_31 : f_is_ratio [.d (prD (3, -1))] = pure (.bool false) := is_ratio_eq 3 (-1)
theorem sho_bl (b : Bool) : Sho 1 3900 (.bool b) := (sho_bool b).up (by decide) (by decide)
theorem for_r1 {e : E} {t : T} {b : Sts} {ρ ρ' : Env} {i : Int} {L : List D} {S : SS} (h : e.den ρ = pure (.int i)) (rg : rngM 0 i = pure L) (loop : forN t.den b.den L ρ = pure (.nx ρ')) : (St.for_ (.r1 e) t b).den ρ S = .ok (.nx ρ') S := by
  have z : (St.for_ (.r1 e) t b).den ρ = pure (.nx ρ') := by
    show (iR1 e.den ρ >>= fun ds => forN t.den b.den ds ρ) = _
    rw [ap_iR1, h, pure_bnd, asI_int, pure_bnd, rg, pure_bnd, loop]
  rw [z]
  rfl
theorem turn_ok {n : Nat} {S : SS} (h : StOk n S) (hn : n ≤ 2 ^ 30) (s0 s2 s3 s4 s5 s6 s7 s8 s9 s10 s11 s12 s13 s14 : Slot) : TurnEnd s0 s2 n (turnT.den [s0, .cell, s2, s3, s4, s5, s6, s7, s8, s9, s10, s11, s12, s13, s14] S) := by
  obtain ⟨v1, S1, g1, l1, e1, h1⟩ := next_lit (m := 900) h (by omega) (by decide)
  obtain ⟨v2, S2, g2, l2, e2, h2⟩ := next_lit (m := 80) h1 (by omega) (by decide)
  obtain ⟨v3, S3, g3, l3, e3, h3⟩ := next_lit (m := 80) h2 (by omega) (by decide)
  obtain ⟨v4, S4, g4, l4, e4, h4⟩ := next_lit (m := 2) h3 (by omega) (by decide)
  obtain ⟨below, hbelow, hb0, hb1⟩ : ∃ below : Int, atI [PyData.int (1 + v2), PyData.int (-1 - v3)] v4 = some (.int below) ∧ below ≠ 0 ∧ below.natAbs ≤ 81 := by
    rcases (by omega : v4 = 0 ∨ v4 = 1) with rfl | rfl
    · exact ⟨1 + v2, by simp, by omega, by omega⟩
    · exact ⟨-1 - v3, by simp, by omega, by omega⟩
  obtain ⟨one, S5, f5, e5, h5⟩ := drawn_eq h4 (by omega)
  obtain ⟨other, S6, f6, e6, h6⟩ := drawn_eq h5 (by omega)
  obtain ⟨v7, S7, g7, l7, e7, h7⟩ := next_lit (m := 5) h6 (by omega) (by decide)
  obtain ⟨k, rfl⟩ := Int.eq_ofNat_of_zero_le g7
  have rk : rngM 0 (1 + (k : Int)) = pure ((List.range' 0 (1 + k)).map fun i => PyData.int (i : Nat)) := by
    have z := rng_nat (1 + k) (by omega)
    rw [← z]
    congr 1
  obtain ⟨rows, S8, lr, fr, e8, h8⟩ := drawn_list [s0, .cell, s2, .val (.int (v1 - 450)), .val (.int below), .val (prD one), .val (prD other), s7, .none, s9, s10, s11, s12, s13, s14] 8 (fun d => by simp) ((List.range' 0 (1 + k)).map fun i => PyData.int (i : Nat)) _ S7 h7 (by simp; omega)
  obtain ⟨more, S9, lm, fm, e9, h9⟩ := drawn_list [s0, .cell, s2, .val (.int (v1 - 450)), .val (.int below), .val (prD one), .val (prD other), .val (.list (rows.map prD)), s8, s9, .none, s11, s12, s13, s14] 10 (fun d => by simp) (rows.map prD) _ S8 h8 (by simp at lr ⊢; omega)
  rw [List.length_map, List.length_range'] at lr
  rw [List.length_map] at lm
  have hend : StOk (n + 100) S9 := by
    refine h9.up ?_
    rw [List.length_map, List.length_map, List.length_range']
    omega
  have ht : (v1 - 450).natAbs ≤ 450 := by omega
  simp only [turnT, b_law]
  simp only [den_Sts_cons, den_Sts_nil, den_St_set, den_St_setC]
  refine seq_end (T := TurnEnd s0 s2 n) (S1 := S1) (ρ1 := [s0, .cell, s2, .val (.int (v1 - 450)), s4, s5, s6, s7, s8, s9, s10, s11, s12, s13, s14]) (by simp [bind_ok2 e1]) ?_
  refine seq_end (T := TurnEnd s0 s2 n) (S1 := S4) (ρ1 := [s0, .cell, s2, .val (.int (v1 - 450)), .val (.int below), s5, s6, s7, s8, s9, s10, s11, s12, s13, s14]) (by simp [bind_ok2 e2, bind_ok2 e3, bind_ok2 e4, hbelow]) ?_
  refine seq_end (T := TurnEnd s0 s2 n) (S1 := S5) (ρ1 := [s0, .cell, s2, .val (.int (v1 - 450)), .val (.int below), .val (prD one), s6, s7, s8, s9, s10, s11, s12, s13, s14]) (by simp [bind_ok2 e5]) ?_
  refine seq_end (T := TurnEnd s0 s2 n) (S1 := S6) (ρ1 := [s0, .cell, s2, .val (.int (v1 - 450)), .val (.int below), .val (prD one), .val (prD other), s7, s8, s9, s10, s11, s12, s13, s14]) (by simp [bind_ok2 e6]) ?_
  refine seq_end (T := TurnEnd s0 s2 n) (rows_st e7 rk e8) ?_
  refine seq_end (T := TurnEnd s0 s2 n) (more_st e9) ?_
  generalize v1 - 450 = top at *
  have bb : below.natAbs < 2 ^ 28 := Nat.lt_of_le_of_lt hb1 (by decide)
  have tb : top.natAbs < 2 ^ 28 := Nat.lt_of_le_of_lt ht (by decide)
  clear e1 e2 e3 e4 e5 e6 e7 e8 e9 rk hbelow
  have r1 := ratio_eq (a := top) hb0 (gcd_db hb0 bb (by decide))
  have r2 := law_ratio_eq (a := top) hb0 (gcd_db hb0 bb (by decide))
  have i1 := is_fit f5
  have i2 := is_twice f5
  have u1 := mul_ok (a := 2) (b := one.1) (j := 2) (by decide) f5.1 (by decide) (by decide)
  have u2 := mul_ok (a := 2) (b := one.2) (j := 2) (by decide) f5.2.2.1 (by decide) (by decide)
  have same1 := same_list (ds := [prD (ratP top below), .bool true, .bool false, .bool false, .bool false]) (by
    intro d hd
    simp only [List.mem_cons, List.not_mem_nil, or_false] at hd
    rcases hd with rfl | rfl | rfl | rfl | rfl
    · exact sho_fit (ratP_fit hb0 tb bb) (by decide) (by decide)
    all_goals exact sho_bl _) (by simp)
  refine seq_end (T := TurnEnd s0 s2 n) (S1 := S9) (ρ1 := [s0, .cell, s2, .val (.int top), .val (.int below), .val (prD one), .val (prD other), .val (.list (rows.map prD)), s8, .val (.list (more.map prD)), s10, s11, s12, s13, s14]) (by simp [r1, r2, i1, i2, is_10, is_31, u1, u2, tup_pr, same1]) ?_
  have p1 := added_eq f5 f6 (by decide) (by decide)
  have p2 := law_plus_eq f5 f6 (by decide) (by decide)
  have t1 := times_eq f5 f6 (by decide) (by decide)
  have hbn := below_ne f5 f6
  have t2 : f__law_ratio [.d (.int (one.1 * other.1)), .d (.int (one.2 * other.2))] = pure (prD (timesP one other)) := law_ratio_eq (a := one.1 * other.1) hbn (gcd_db hbn (mul_fit f5.2.2.1 f6.2.2.1) (by decide))
  have w1 := mul_ok f5.1 f6.1 (by decide) (by decide)
  have w2 := mul_ok f5.2.2.1 f6.2.2.1 (by decide) (by decide)
  have w3 := mul_ok f5.1 f6.2.2.1 (by decide) (by decide)
  have w4 := mul_ok f5.2.2.1 f6.1 (by decide) (by decide)
  have z1 := less_eq f5 f6 (by decide) (by decide)
  have z2 := law_less_eq f5 f6 (by decide) (by decide)
  have same2 := same_list (ds := [prD (plusP one other), prD (-one.1, one.2), prD (timesP one other), .bool (lessB one other)]) (by
    intro d hd
    simp only [List.mem_cons, List.not_mem_nil, or_false] at hd
    rcases hd with rfl | rfl | rfl | rfl
    · exact sho_fit (plus_fit f5 f6) (by decide) (by decide)
    · exact sho_pr (k := 28) (by simpa using f5.1) f5.2.2.1 (by decide) (by decide)
    · exact sho_fit (times_fit f5 f6) (by decide) (by decide)
    · exact sho_bl _) (by simp)
  refine seq_end (T := TurnEnd s0 s2 n) (S1 := S9) (ρ1 := [s0, .cell, s2, .val (.int top), .val (.int below), .val (prD one), .val (prD other), .val (.list (rows.map prD)), s8, .val (.list (more.map prD)), s10, .val (.list [prD (plusP one other), prD (-one.1, one.2), prD (timesP one other), .bool (lessB one other)]), s12, s13, s14]) (by simp [p2, w1, w2, t2, z2, tup_pr]) ?_
  refine seq_end (T := TurnEnd s0 s2 n) (S1 := S9) (ρ1 := [s0, .cell, s2, .val (.int top), .val (.int below), .val (prD one), .val (prD other), .val (.list (rows.map prD)), s8, .val (.list (more.map prD)), s10, .val (.list [prD (plusP one other), prD (-one.1, one.2), prD (timesP one other), .bool (lessB one other)]), s12, s13, s14]) (by simp [p1, negative_eq, t1, z1, same2]) ?_
  generalize PyData.list [prD (plusP one other), prD (-one.1, one.2), prD (timesP one other), .bool (lessB one other)] = due
  have over : other.1 ≠ 0 → f_over [.d (prD one), .d (prD other)] = pure (prD (ratP (one.1 * other.2) (one.2 * other.1))) ∧ f__law_ratio [.d (.int (one.1 * other.2)), .d (.int (one.2 * other.1))] = pure (prD (ratP (one.1 * other.2) (one.2 * other.1))) ∧ f__law_same [.d (prD (ratP (one.1 * other.2) (one.2 * other.1))), .d (prD (ratP (one.1 * other.2) (one.2 * other.1)))] = pure (.bool true) := fun h0 => by
    have hb : one.2 * other.1 ≠ 0 := Int.mul_ne_zero (by have := f5.2.1; omega) h0
    have m1 := mul_fit f5.1 f6.2.2.1
    have m2 := mul_fit f5.2.2.1 f6.1
    exact ⟨over_eq f5 f6 h0 (by decide) (by decide), law_ratio_eq (a := one.1 * other.2) hb (gcd_db hb m2 (by decide)), same_eq (sho_fit (ratP_fit hb m1 m2) (by decide) (by decide)) (by decide) (by decide)⟩
  refine seq_end (T := TurnEnd s0 s2 n) (S1 := S9) (ρ1 := [s0, .cell, s2, .val (.int top), .val (.int below), .val (prD one), .val (prD other), .val (.list (rows.map prD)), s8, .val (.list (more.map prD)), s10, .val due, s12, s13, s14]) (by
    by_cases h0 : other.1 = 0
    · simp [h0]
    · obtain ⟨o1, o2, o3⟩ := over h0
      have h1 : (other.1 == 0) = false := by simpa using h0
      simp [h0, o1, o2, o3, w3, w4]) ?_
  match rows, lr, fr with
  | [], lr, _ => simp at lr; omega
  | row :: rest, lr, fr =>
  have frow := fr row List.mem_cons_self
  have frest : ∀ p ∈ rest, Fit 28 p := fun p hp => fr p (List.mem_cons_of_mem _ hp)
  rw [List.length_cons] at lr lm
  refine seq_end (T := TurnEnd s0 s2 n) (S1 := S9) (ρ1 := [s0, .cell, s2, .val (.int top), .val (.int below), .val (prD one), .val (prD other), .val (.list ((row :: rest).map prD)), s8, .val (.list (more.map prD)), s10, .val due, .val (prD row), s13, s14]) (by simp) ?_
  refine seq_end (T := TurnEnd s0 s2 n) (S1 := S9) (ρ1 := [s0, .cell, s2, .val (.int top), .val (.int below), .val (prD one), .val (prD other), .val (.list ((row :: rest).map prD)), s8, .val (.list (more.map prD)), s10, .val due, .val (prD row), .val (prD (0, 1)), s14]) (by simp [tup_pr]) ?_
  obtain ⟨s8', loop⟩ := row_loop (row :: rest) more 28 (by decide) s0 .cell s2 (.val (.int top)) (.val (.int below)) (.val (prD one)) (.val (prD other)) s10 (.val due) s14 fr fm (row :: rest) more 0 row (0, 1) 1 s8 rfl rfl (by rw [List.length_cons]; omega) frow fit01 (by
    rw [List.length_cons]
    have : (rest.length + 1) * (28 + 28 + 1) ≤ 5 * (28 + 28 + 1) := Nat.mul_le_mul_right _ (by omega)
    omega)
  refine seq_end (T := TurnEnd s0 s2 n) (S1 := S9) (ρ1 := [s0, .cell, s2, .val (.int top), .val (.int below), .val (prD one), .val (prD other), .val (.list ((row :: rest).map prD)), s8', .val (.list (more.map prD)), s10, .val due, .val (prD (bestP row (row :: rest))), .val (prD ((((row :: rest).zip more).map fun z => timesP z.1 z.2).foldl plusP (0, 1))), s14]) (by
    have rl : (row :: rest).length = ((row :: rest).map prD).length := by rw [List.length_map]
    have rg := rng_nat ((row :: rest).map prD).length (by rw [List.length_map, List.length_cons]; omega)
    rw [rl] at loop
    exact for_r1 (by simp) rg loop) ?_
  rw [best_cons]
  have gr := greatest_eq frow frest (by decide)
  have len5 : (row :: rest).length ≤ 5 := by rw [List.length_cons]; omega
  have sm1 := summed_eq fr (by decide) (by
    have : (row :: rest).length * (28 + 1) ≤ 5 * (28 + 1) := Nat.mul_le_mul_right _ len5
    omega)
  have sm2 := law_sum_eq fr (by decide) (by
    have : (row :: rest).length * (28 + 1) ≤ 5 * (28 + 1) := Nat.mul_le_mul_right _ len5
    omega)
  have we := weighed_eq fr fm (by decide) (by
    have : (row :: rest).length * (28 + 28 + 1) ≤ 5 * (28 + 28 + 1) := Nat.mul_le_mul_right _ len5
    omega)
  have fb := best_fit rest row frest frow
  have fs := fold_fit (row :: rest) 1 (0, 1) fr fit01
  have fw := fold_fit (((row :: rest).zip more).map fun z => timesP z.1 z.2) 1 (0, 1) (k := 28 + 28) (fun p hp => by
    obtain ⟨z, hz, rfl⟩ := List.mem_map.mp hp
    exact times_fit (fr _ (List.of_mem_zip hz).1) (fm _ (List.of_mem_zip hz).2)) fit01
  have same3 := same_list (ds := [prD (bestP row rest), prD (sumP (row :: rest)), prD (sumP (((row :: rest).zip more).map fun z => timesP z.1 z.2))]) (by
    intro d hd
    simp only [List.mem_cons, List.not_mem_nil, or_false] at hd
    rcases hd with rfl | rfl | rfl
    · exact sho_fit fb (by decide) (by decide)
    · refine sho_fit fs (by omega) ?_
      have : (row :: rest).length * (28 + 1) ≤ 5 * (28 + 1) := Nat.mul_le_mul_right _ len5
      omega
    · refine sho_fit fw (by omega) ?_
      rw [List.length_map, List.length_zip]
      have : min (row :: rest).length more.length * (28 + 28 + 1) ≤ 5 * (28 + 28 + 1) := Nat.mul_le_mul_right _ (Nat.le_trans (Nat.min_le_left ..) len5)
      omega) (by simp)
  have ef : (((row :: rest).zip more).map fun z => timesP z.1 z.2).foldl plusP (0, 1) = sumP (((row :: rest).zip more).map fun z => timesP z.1 z.2) := rfl
  rw [ef]
  generalize sumP (((row :: rest).zip more).map fun z => timesP z.1 z.2) = wsum at *
  generalize hrows : row :: rest = rows at *
  generalize bestP row rest = best at *
  refine seq_end (T := TurnEnd s0 s2 n) (S1 := S9) (ρ1 := [s0, .cell, s2, .val (.int top), .val (.int below), .val (prD one), .val (prD other), .val (.list (rows.map prD)), s8', .val (.list (more.map prD)), s10, .val due, .val (prD best), .val (prD wsum), s14]) (by simp [gr, sm1, sm2, we, same3]) ?_
  have x1 := str_int f5.1 (by decide) (by decide)
  have x2 := str_int f5.2.2.1 (by decide) (by decide)
  have l1 := txt_len f5.1 (by decide)
  have l2 := txt_len f5.2.2.1 (by decide)
  refine seq_end (T := TurnEnd s0 s2 n) (S1 := S9) (ρ1 := [s0, .cell, s2, .val (.int top), .val (.int below), .val (prD one), .val (prD other), .val (.list (rows.map prD)), s8', .val (.list (more.map prD)), s10, .val due, .val (prD best), .val (prD wsum), .val (.str (txt one.1))]) (by simp [x1]) ?_
  have a1 : addD (.str (txt one.1)) (.str "/") = pure (.str (txt one.1 ++ "/")) := if_pos (by rw [slash_len, sizeLine_eq]; omega)
  have a2 : addD (.str (txt one.1 ++ "/")) (.str (txt one.2)) = pure (.str (txt one.1 ++ "/" ++ txt one.2)) := if_pos (by rw [strLen_append, slash_len, sizeLine_eq]; omega)
  refine seq_end (T := TurnEnd s0 s2 n) (S1 := S9) (ρ1 := [s0, .cell, s2, .val (.int top), .val (.int below), .val (prD one), .val (prD other), .val (.list (rows.map prD)), s8', .val (.list (more.map prD)), s10, .val due, .val (prD best), .val (prD wsum), .val (.str (textP one))]) (by
    by_cases e : one.2 = 1
    · simp [e, textP]
    · have e2 : (one.2 == 1) = false := by simpa using e
      simp [e, textP, x2, a1, a2]) ?_
  have tx := text_eq f5 (by decide) (by decide)
  have same4 : f__law_same [.d (.str (textP one)), .d (.str (textP one))] = pure (.bool true) := by
    have sg : Signs (textP one) := by
      unfold textP
      split
      · exact signs_of _
      · exact signs_app (signs_app (signs_of _) (signs_of _)) (signs_of _)
    have ln : (textP one).length ≤ 100 := by
      unfold textP
      split
      · omega
      · rw [strLen_append, strLen_append, slash_len]; omega
    exact same_eq (sho_str sg ln) (by decide) (by decide)
  refine seq_end (T := TurnEnd s0 s2 n) (S1 := S9) (ρ1 := [s0, .cell, s2, .val (.int top), .val (.int below), .val (prD one), .val (prD other), .val (.list (rows.map prD)), s8', .val (.list (more.map prD)), s10, .val due, .val (prD best), .val (prD wsum), .val (.str (textP one))]) (by simp [tx, same4]) ?_
  exact ⟨_, _, _, _, _, _, _, _, _, _, _, _, _, rfl, hend⟩
theorem turns_ok (s0 : Slot) : ∀ (l : List D) (n : Nat) (S : SS) (s2 s3 s4 s5 s6 s7 s8 s9 s10 s11 s12 s13 s14 : Slot), StOk n S → n + 100 * l.length ≤ 2 ^ 30 → ∃ (ρ : Env) (S' : SS), forN (tN 2) turnT.den l [s0, .cell, s2, s3, s4, s5, s6, s7, s8, s9, s10, s11, s12, s13, s14] S = .ok (.nx ρ) S'
  | [], n, S, s2, s3, s4, s5, s6, s7, s8, s9, s10, s11, s12, s13, s14, _, _ => ⟨_, S, rfl⟩
  | d :: l, n, S, s2, s3, s4, s5, s6, s7, s8, s9, s10, s11, s12, s13, s14, h, hn => by
    rw [List.length_cons] at hn
    obtain ⟨t3, t4, t5, t6, t7, t8, t9, t10, t11, t12, t13, t14, S1, e, h1⟩ := turn_ok h (by omega) s0 (.val d) s3 s4 s5 s6 s7 s8 s9 s10 s11 s12 s13 s14
    obtain ⟨ρ, S', z⟩ := turns_ok s0 l (n + 100) S1 (.val d) t3 t4 t5 t6 t7 t8 t9 t10 t11 t12 t13 t14 h1 (by omega)
    refine ⟨ρ, S', ?_⟩
    rw [forN_nm]
    simp only [List.set_cons_succ, List.set_cons_zero]
    rw [bind_ok2 e, again_nx]
    exact z
theorem law_true : ∀ ns : List Int, ns.length ≤ 63 → ∃ S' : SS, f_law [.scr (ns.map PyData.int)] none = .ok (.bool true) S' := by
  intro ns _
  obtain ⟨s, hs, hl, e⟩ := stream_eq ns
  have rg := rng_nat 12 (by decide)
  obtain ⟨ρ, S', z⟩ := turns_ok (.scr (ns.map PyData.int)) ((List.range' 0 12).map fun i => PyData.int (i : Nat)) 0 (some [.list (s.map PyData.int), .int 0]) .none .none .none .none .none .none .none .none .none .none .none .none .none ⟨s, 0, rfl, hs, hl, Nat.le_refl _⟩ (by simp)
  refine ⟨none, ?_⟩
  have body : b_law.rest.den [.scr (ns.map PyData.int), .cell, .none, .none, .none, .none, .none, .none, .none, .none, .none, .none, .none, .none, .none] (some [.list (s.map PyData.int), .int 0]) = .ok (.rt (.bool true)) S' := by
    rw [law_rest]
    have st : sFor (iR1 (vC (.int 12))) (tN 2) turnT.den [.scr (ns.map PyData.int), .cell, .none, .none, .none, .none, .none, .none, .none, .none, .none, .none, .none, .none, .none] (some [.list (s.map PyData.int), .int 0]) = .ok (.nx ρ) S' := by
      rw [ap_sFor, ap_iR1, ap_vC, pure_bnd, asI_int, pure_bnd]
      have rg : rngM 0 12 = pure ((List.range' 0 12).map fun i => PyData.int (i : Nat)) := rg
      rw [rg, pure_bnd]
      exact z
    rw [ap_sSeq, bind_ok2 st]
    rfl
  have args : b_law.es.den [.scr (ns.map PyData.int), .none, .none, .none, .none, .none, .none, .none, .none, .none, .none, .none, .none, .none, .none] = pure [.list (s.map PyData.int), .int 0] := by
    simp [b_law, e]
  show (b_law.den [.scr (ns.map PyData.int), .none, .none, .none, .none, .none, .none, .none, .none, .none, .none, .none, .none, .none, .none] >>= outF) none = _
  have whole : b_law.den [.scr (ns.map PyData.int), .none, .none, .none, .none, .none, .none, .none, .none, .none, .none, .none, .none, .none, .none] none = .ok (.rt (.bool true)) none := by
    show (b_law.es.den _ >>= inCell b_law.rest.den _) none = _
    rw [args, pure_bnd]
    show shut (b_law.rest.den _ _) = _
    have e1 : b_law.i = 1 := rfl
    rw [e1]
    simp only [List.set_cons_succ, List.set_cons_zero]
    rw [body]
    rfl
  rw [bind_ok2 whole]
  rfl
end Pv.K01
/-! the looks at the text; the end -/
namespace Pv.K01
open PySem PySem.Spec PyProof.Rows L2
def top (i : Nat) : Stmt := PySem.Challenge.pw_setsmeet_k01_ratios.main.body.getD i (.Pass ⟨0, 0, 0, 0⟩)
def dd (x : Str) (i : Nat) : He.DefD := ⟨(x, none), x, x, defArgs (top i), defBody (top i), defScope (top i), [], []⟩
def fn : List He.DefD := [dd "_law_stream" 22, dd "_law_same" 21, dd "ratio_text" 19, dd "_law_divisor" 25, dd "_law_ratio" 26, dd "_law_plus" 27, dd "_law_sum" 28, dd "divisor" 8, dd "ratio" 9, dd "added" 11, dd "summed" 17, dd "times" 13, dd "weighed" 18, dd "less" 15, dd "greatest" 16, dd "_law_less" 29, dd "over" 14, dd "negative" 12, dd "is_ratio" 10, dd "_law_next" 23, dd "_law_drawn" 31, dd "law" 32]
def fa : List He.Fa := [.glo "_law_stream", .glo "_law_same", .glo "ratio_text", .glo "_law_divisor", .glo "_law_ratio", .glo "_law_plus", .glo "_law_sum", .glo "divisor", .glo "ratio", .glo "added", .glo "summed", .glo "times", .glo "weighed", .glo "less", .glo "greatest", .glo "_law_less", .glo "over", .glo "negative", .glo "is_ratio", .glo "_law_next", .glo "_law_drawn", .glo "law", .free "len", .free "abs", .free "int", .free "max", .free "min", .free "sum", .free "all", .free "any", .free "sorted", .free "str", .free "repr", .free "tuple", .free "list", .free "range", .free "zip", .free "enumerate", .free "set", .free "isinstance"]
structure Ctx (Γ : Gm) : Prop where
  g0 : GmOk Γ
  d : ∀ (i : Nat) (x : Str) (j : Nat), fn[i]? = some (dd x j) → ∃ f fd, FunD Γ.K x x (defArgs (top j)) (defBody (top j)) (defScope (top j)) [] [] f fd ∧ Γ.mg x = some (.ref f)
theorem sc__law_stream : FnScope n__law_stream ["script"] (defScope (top 22)) := ⟨rfl, rfl, rfl, by decide +kernel, rfl, by decide +kernel, by decide +kernel⟩
theorem k__law_stream : b__law_stream.chk n__law_stream (defScope (top 22)) (fun _ => true) (defBody (top 22)) = true := by decide +kernel
theorem nd__law_stream {Γ : Gm} (c : Ctx Γ) : NeedsOk Γ 0 b__law_stream.needs := by
  refine NeedsOk.of ?_
  repeat first | exact trivial | apply And.intro
theorem c__law_stream {Γ : Gm} (c : Ctx Γ) : CalleeOk Γ 2 "_law_stream" 1 f__law_stream := by
  obtain ⟨f, fd, F, m⟩ := c.d 0 _ _ rfl
  exact fn_ok c.g0 F sc__law_stream (by decide) m (F.bindsN fun _ _ _ _ _ _ us hl => match us, hl with | [_], _ => rfl) (nd__law_stream c) k__law_stream
theorem sc__law_same : FnScope n__law_same ["told", "due"] (defScope (top 21)) := ⟨rfl, rfl, rfl, by decide +kernel, rfl, by decide +kernel, by decide +kernel⟩
theorem k__law_same : b__law_same.chk n__law_same (defScope (top 21)) (fun _ => true) (defBody (top 21)) = true := by decide +kernel
theorem nd__law_same {Γ : Gm} (c : Ctx Γ) : NeedsOk Γ 0 b__law_same.needs := by
  refine NeedsOk.of ?_
  repeat first | exact trivial | apply And.intro
theorem c__law_same {Γ : Gm} (c : Ctx Γ) : CalleeOk Γ 2 "_law_same" 2 f__law_same := by
  obtain ⟨f, fd, F, m⟩ := c.d 1 _ _ rfl
  exact fn_ok c.g0 F sc__law_same (by decide) m (F.bindsN fun _ _ _ _ _ _ us hl => match us, hl with | [_, _], _ => rfl) (nd__law_same c) k__law_same
theorem sc_ratio_text : FnScope n_ratio_text ["value"] (defScope (top 19)) := ⟨rfl, rfl, rfl, by decide +kernel, rfl, by decide +kernel, by decide +kernel⟩
theorem k_ratio_text : b_ratio_text.chk n_ratio_text (defScope (top 19)) (fun _ => true) (defBody (top 19)) = true := by decide +kernel
theorem nd_ratio_text {Γ : Gm} (c : Ctx Γ) : NeedsOk Γ 0 b_ratio_text.needs := by
  refine NeedsOk.of ?_
  repeat first | exact trivial | apply And.intro
theorem c_ratio_text {Γ : Gm} (c : Ctx Γ) : CalleeOk Γ 2 "ratio_text" 1 f_ratio_text := by
  obtain ⟨f, fd, F, m⟩ := c.d 2 _ _ rfl
  exact fn_ok c.g0 F sc_ratio_text (by decide) m (F.bindsN fun _ _ _ _ _ _ us hl => match us, hl with | [_], _ => rfl) (nd_ratio_text c) k_ratio_text
theorem sc__law_divisor : FnScope n__law_divisor ["first", "second"] (defScope (top 25)) := ⟨rfl, rfl, rfl, by decide +kernel, rfl, by decide +kernel, by decide +kernel⟩
theorem k__law_divisor : b__law_divisor.chk n__law_divisor (defScope (top 25)) (fun _ => true) (defBody (top 25)) = true := by decide +kernel
theorem nd__law_divisor {Γ : Gm} (c : Ctx Γ) : NeedsOk Γ 0 b__law_divisor.needs := by
  refine NeedsOk.of ?_
  repeat first | exact trivial | apply And.intro
theorem c__law_divisor {Γ : Gm} (c : Ctx Γ) : CalleeOk Γ 2 "_law_divisor" 2 f__law_divisor := by
  obtain ⟨f, fd, F, m⟩ := c.d 3 _ _ rfl
  exact fn_ok c.g0 F sc__law_divisor (by decide) m (F.bindsN fun _ _ _ _ _ _ us hl => match us, hl with | [_, _], _ => rfl) (nd__law_divisor c) k__law_divisor
theorem sc__law_ratio : FnScope n__law_ratio ["top", "below"] (defScope (top 26)) := ⟨rfl, rfl, rfl, by decide +kernel, rfl, by decide +kernel, by decide +kernel⟩
theorem k__law_ratio : b__law_ratio.chk n__law_ratio (defScope (top 26)) (fun _ => true) (defBody (top 26)) = true := by decide +kernel
theorem nd__law_ratio {Γ : Gm} (c : Ctx Γ) : NeedsOk Γ 1 b__law_ratio.needs := by
  refine NeedsOk.of ?_
  repeat first | exact trivial | exact (c__law_divisor c).mono (by decide) | apply And.intro
theorem c__law_ratio {Γ : Gm} (c : Ctx Γ) : CalleeOk Γ 3 "_law_ratio" 2 f__law_ratio := by
  obtain ⟨f, fd, F, m⟩ := c.d 4 _ _ rfl
  exact fn_ok c.g0 F sc__law_ratio (by decide) m (F.bindsN fun _ _ _ _ _ _ us hl => match us, hl with | [_, _], _ => rfl) (nd__law_ratio c) k__law_ratio
theorem sc__law_plus : FnScope n__law_plus ["first", "second"] (defScope (top 27)) := ⟨rfl, rfl, rfl, by decide +kernel, rfl, by decide +kernel, by decide +kernel⟩
theorem k__law_plus : b__law_plus.chk n__law_plus (defScope (top 27)) (fun _ => true) (defBody (top 27)) = true := by decide +kernel
theorem nd__law_plus {Γ : Gm} (c : Ctx Γ) : NeedsOk Γ 2 b__law_plus.needs := by
  refine NeedsOk.of ?_
  repeat first | exact trivial | exact (c__law_ratio c).mono (by decide) | apply And.intro
theorem c__law_plus {Γ : Gm} (c : Ctx Γ) : CalleeOk Γ 4 "_law_plus" 2 f__law_plus := by
  obtain ⟨f, fd, F, m⟩ := c.d 5 _ _ rfl
  exact fn_ok c.g0 F sc__law_plus (by decide) m (F.bindsN fun _ _ _ _ _ _ us hl => match us, hl with | [_, _], _ => rfl) (nd__law_plus c) k__law_plus
theorem sc__law_sum : FnScope n__law_sum ["values"] (defScope (top 28)) := ⟨rfl, rfl, rfl, by decide +kernel, rfl, by decide +kernel, by decide +kernel⟩
theorem k__law_sum : b__law_sum.chk n__law_sum (defScope (top 28)) (fun _ => true) (defBody (top 28)) = true := by decide +kernel
theorem nd__law_sum {Γ : Gm} (c : Ctx Γ) : NeedsOk Γ 3 b__law_sum.needs := by
  refine NeedsOk.of ?_
  repeat first | exact trivial | exact (c__law_plus c).mono (by decide) | apply And.intro
theorem c__law_sum {Γ : Gm} (c : Ctx Γ) : CalleeOk Γ 5 "_law_sum" 1 f__law_sum := by
  obtain ⟨f, fd, F, m⟩ := c.d 6 _ _ rfl
  exact fn_ok c.g0 F sc__law_sum (by decide) m (F.bindsN fun _ _ _ _ _ _ us hl => match us, hl with | [_], _ => rfl) (nd__law_sum c) k__law_sum
theorem sc_divisor : FnScope n_divisor ["first", "second"] (defScope (top 8)) := ⟨rfl, rfl, rfl, by decide +kernel, rfl, by decide +kernel, by decide +kernel⟩
theorem k_divisor : b_divisor.chk n_divisor (defScope (top 8)) (fun _ => true) (defBody (top 8)) = true := by decide +kernel
theorem nd_divisor {Γ : Gm} (c : Ctx Γ) : NeedsOk Γ 0 b_divisor.needs := by
  refine NeedsOk.of ?_
  repeat first | exact trivial | apply And.intro
theorem c_divisor {Γ : Gm} (c : Ctx Γ) : CalleeOk Γ 2 "divisor" 2 f_divisor := by
  obtain ⟨f, fd, F, m⟩ := c.d 7 _ _ rfl
  exact fn_ok c.g0 F sc_divisor (by decide) m (F.bindsN fun _ _ _ _ _ _ us hl => match us, hl with | [_, _], _ => rfl) (nd_divisor c) k_divisor
theorem sc_ratio : FnScope n_ratio ["top", "below"] (defScope (top 9)) := ⟨rfl, rfl, rfl, by decide +kernel, rfl, by decide +kernel, by decide +kernel⟩
theorem k_ratio : b_ratio.chk n_ratio (defScope (top 9)) (fun _ => true) (defBody (top 9)) = true := by decide +kernel
theorem nd_ratio {Γ : Gm} (c : Ctx Γ) : NeedsOk Γ 1 b_ratio.needs := by
  refine NeedsOk.of ?_
  repeat first | exact trivial | exact (c_divisor c).mono (by decide) | apply And.intro
theorem c_ratio {Γ : Gm} (c : Ctx Γ) : CalleeOk Γ 3 "ratio" 2 f_ratio := by
  obtain ⟨f, fd, F, m⟩ := c.d 8 _ _ rfl
  exact fn_ok c.g0 F sc_ratio (by decide) m (F.bindsN fun _ _ _ _ _ _ us hl => match us, hl with | [_, _], _ => rfl) (nd_ratio c) k_ratio
theorem sc_added : FnScope n_added ["first", "second"] (defScope (top 11)) := ⟨rfl, rfl, rfl, by decide +kernel, rfl, by decide +kernel, by decide +kernel⟩
theorem k_added : b_added.chk n_added (defScope (top 11)) (fun _ => true) (defBody (top 11)) = true := by decide +kernel
theorem nd_added {Γ : Gm} (c : Ctx Γ) : NeedsOk Γ 2 b_added.needs := by
  refine NeedsOk.of ?_
  repeat first | exact trivial | exact (c_ratio c).mono (by decide) | apply And.intro
theorem c_added {Γ : Gm} (c : Ctx Γ) : CalleeOk Γ 4 "added" 2 f_added := by
  obtain ⟨f, fd, F, m⟩ := c.d 9 _ _ rfl
  exact fn_ok c.g0 F sc_added (by decide) m (F.bindsN fun _ _ _ _ _ _ us hl => match us, hl with | [_, _], _ => rfl) (nd_added c) k_added
theorem sc_summed : FnScope n_summed ["values"] (defScope (top 17)) := ⟨rfl, rfl, rfl, by decide +kernel, rfl, by decide +kernel, by decide +kernel⟩
theorem k_summed : b_summed.chk n_summed (defScope (top 17)) (fun _ => true) (defBody (top 17)) = true := by decide +kernel
theorem nd_summed {Γ : Gm} (c : Ctx Γ) : NeedsOk Γ 3 b_summed.needs := by
  refine NeedsOk.of ?_
  repeat first | exact trivial | exact (c_added c).mono (by decide) | apply And.intro
theorem c_summed {Γ : Gm} (c : Ctx Γ) : CalleeOk Γ 5 "summed" 1 f_summed := by
  obtain ⟨f, fd, F, m⟩ := c.d 10 _ _ rfl
  exact fn_ok c.g0 F sc_summed (by decide) m (F.bindsN fun _ _ _ _ _ _ us hl => match us, hl with | [_], _ => rfl) (nd_summed c) k_summed
theorem sc_times : FnScope n_times ["first", "second"] (defScope (top 13)) := ⟨rfl, rfl, rfl, by decide +kernel, rfl, by decide +kernel, by decide +kernel⟩
theorem k_times : b_times.chk n_times (defScope (top 13)) (fun _ => true) (defBody (top 13)) = true := by decide +kernel
theorem nd_times {Γ : Gm} (c : Ctx Γ) : NeedsOk Γ 2 b_times.needs := by
  refine NeedsOk.of ?_
  repeat first | exact trivial | exact (c_ratio c).mono (by decide) | apply And.intro
theorem c_times {Γ : Gm} (c : Ctx Γ) : CalleeOk Γ 4 "times" 2 f_times := by
  obtain ⟨f, fd, F, m⟩ := c.d 11 _ _ rfl
  exact fn_ok c.g0 F sc_times (by decide) m (F.bindsN fun _ _ _ _ _ _ us hl => match us, hl with | [_, _], _ => rfl) (nd_times c) k_times
theorem sc_weighed : FnScope n_weighed ["values", "others"] (defScope (top 18)) := ⟨rfl, rfl, rfl, by decide +kernel, rfl, by decide +kernel, by decide +kernel⟩
theorem k_weighed : b_weighed.chk n_weighed (defScope (top 18)) (fun _ => true) (defBody (top 18)) = true := by decide +kernel
theorem nd_weighed {Γ : Gm} (c : Ctx Γ) : NeedsOk Γ 4 b_weighed.needs := by
  refine NeedsOk.of ?_
  repeat first | exact trivial | exact (c_summed c).mono (by decide) | exact (c_times c).mono (by decide) | apply And.intro
theorem c_weighed {Γ : Gm} (c : Ctx Γ) : CalleeOk Γ 6 "weighed" 2 f_weighed := by
  obtain ⟨f, fd, F, m⟩ := c.d 12 _ _ rfl
  exact fn_ok c.g0 F sc_weighed (by decide) m (F.bindsN fun _ _ _ _ _ _ us hl => match us, hl with | [_, _], _ => rfl) (nd_weighed c) k_weighed
theorem sc_less : FnScope n_less ["first", "second"] (defScope (top 15)) := ⟨rfl, rfl, rfl, by decide +kernel, rfl, by decide +kernel, by decide +kernel⟩
theorem k_less : b_less.chk n_less (defScope (top 15)) (fun _ => true) (defBody (top 15)) = true := by decide +kernel
theorem nd_less {Γ : Gm} (c : Ctx Γ) : NeedsOk Γ 0 b_less.needs := by
  refine NeedsOk.of ?_
  repeat first | exact trivial | apply And.intro
theorem c_less {Γ : Gm} (c : Ctx Γ) : CalleeOk Γ 2 "less" 2 f_less := by
  obtain ⟨f, fd, F, m⟩ := c.d 13 _ _ rfl
  exact fn_ok c.g0 F sc_less (by decide) m (F.bindsN fun _ _ _ _ _ _ us hl => match us, hl with | [_, _], _ => rfl) (nd_less c) k_less
theorem sc_greatest : FnScope n_greatest ["values"] (defScope (top 16)) := ⟨rfl, rfl, rfl, by decide +kernel, rfl, by decide +kernel, by decide +kernel⟩
theorem k_greatest : b_greatest.chk n_greatest (defScope (top 16)) (fun _ => true) (defBody (top 16)) = true := by decide +kernel
theorem nd_greatest {Γ : Gm} (c : Ctx Γ) : NeedsOk Γ 1 b_greatest.needs := by
  refine NeedsOk.of ?_
  repeat first | exact trivial | exact (c_less c).mono (by decide) | apply And.intro
theorem c_greatest {Γ : Gm} (c : Ctx Γ) : CalleeOk Γ 3 "greatest" 1 f_greatest := by
  obtain ⟨f, fd, F, m⟩ := c.d 14 _ _ rfl
  exact fn_ok c.g0 F sc_greatest (by decide) m (F.bindsN fun _ _ _ _ _ _ us hl => match us, hl with | [_], _ => rfl) (nd_greatest c) k_greatest
theorem sc__law_less : FnScope n__law_less ["first", "second"] (defScope (top 29)) := ⟨rfl, rfl, rfl, by decide +kernel, rfl, by decide +kernel, by decide +kernel⟩
theorem k__law_less : b__law_less.chk n__law_less (defScope (top 29)) (fun _ => true) (defBody (top 29)) = true := by decide +kernel
theorem nd__law_less {Γ : Gm} (c : Ctx Γ) : NeedsOk Γ 0 b__law_less.needs := by
  refine NeedsOk.of ?_
  repeat first | exact trivial | apply And.intro
theorem c__law_less {Γ : Gm} (c : Ctx Γ) : CalleeOk Γ 2 "_law_less" 2 f__law_less := by
  obtain ⟨f, fd, F, m⟩ := c.d 15 _ _ rfl
  exact fn_ok c.g0 F sc__law_less (by decide) m (F.bindsN fun _ _ _ _ _ _ us hl => match us, hl with | [_, _], _ => rfl) (nd__law_less c) k__law_less
theorem sc_over : FnScope n_over ["first", "second"] (defScope (top 14)) := ⟨rfl, rfl, rfl, by decide +kernel, rfl, by decide +kernel, by decide +kernel⟩
theorem k_over : b_over.chk n_over (defScope (top 14)) (fun _ => true) (defBody (top 14)) = true := by decide +kernel
theorem nd_over {Γ : Gm} (c : Ctx Γ) : NeedsOk Γ 2 b_over.needs := by
  refine NeedsOk.of ?_
  repeat first | exact trivial | exact (c_ratio c).mono (by decide) | apply And.intro
theorem c_over {Γ : Gm} (c : Ctx Γ) : CalleeOk Γ 4 "over" 2 f_over := by
  obtain ⟨f, fd, F, m⟩ := c.d 16 _ _ rfl
  exact fn_ok c.g0 F sc_over (by decide) m (F.bindsN fun _ _ _ _ _ _ us hl => match us, hl with | [_, _], _ => rfl) (nd_over c) k_over
theorem sc_negative : FnScope n_negative ["value"] (defScope (top 12)) := ⟨rfl, rfl, rfl, by decide +kernel, rfl, by decide +kernel, by decide +kernel⟩
theorem k_negative : b_negative.chk n_negative (defScope (top 12)) (fun _ => true) (defBody (top 12)) = true := by decide +kernel
theorem nd_negative {Γ : Gm} (c : Ctx Γ) : NeedsOk Γ 0 b_negative.needs := by
  refine NeedsOk.of ?_
  repeat first | exact trivial | apply And.intro
theorem c_negative {Γ : Gm} (c : Ctx Γ) : CalleeOk Γ 2 "negative" 1 f_negative := by
  obtain ⟨f, fd, F, m⟩ := c.d 17 _ _ rfl
  exact fn_ok c.g0 F sc_negative (by decide) m (F.bindsN fun _ _ _ _ _ _ us hl => match us, hl with | [_], _ => rfl) (nd_negative c) k_negative
theorem sc_is_ratio : FnScope n_is_ratio ["value"] (defScope (top 10)) := ⟨rfl, rfl, rfl, by decide +kernel, rfl, by decide +kernel, by decide +kernel⟩
theorem k_is_ratio : b_is_ratio.chk n_is_ratio (defScope (top 10)) (fun _ => true) (defBody (top 10)) = true := by decide +kernel
theorem nd_is_ratio {Γ : Gm} (c : Ctx Γ) : NeedsOk Γ 1 b_is_ratio.needs := by
  refine NeedsOk.of ?_
  repeat first | exact trivial | exact (c_divisor c).mono (by decide) | apply And.intro
theorem c_is_ratio {Γ : Gm} (c : Ctx Γ) : CalleeOk Γ 3 "is_ratio" 1 f_is_ratio := by
  obtain ⟨f, fd, F, m⟩ := c.d 18 _ _ rfl
  exact fn_ok c.g0 F sc_is_ratio (by decide) m (F.bindsN fun _ _ _ _ _ _ us hl => match us, hl with | [_], _ => rfl) (nd_is_ratio c) k_is_ratio
theorem sc__law_next : FnScope n__law_next ["state", "many"] (defScope (top 23)) := ⟨rfl, rfl, rfl, by decide +kernel, rfl, by decide +kernel, by decide +kernel⟩
theorem k__law_next : b__law_next.chk n__law_next (defScope (top 23)) (fun _ => true) (defBody (top 23)) = true := by decide +kernel
theorem nd__law_next {Γ : Gm} (c : Ctx Γ) : NeedsOk Γ 0 b__law_next.needs := by
  refine NeedsOk.of ?_
  repeat first | exact trivial | apply And.intro
theorem c__law_next {Γ : Gm} (c : Ctx Γ) : CalleeOk Γ 2 "_law_next" 2 f__law_next := by
  obtain ⟨f, fd, F, m⟩ := c.d 19 _ _ rfl
  exact fn_ok c.g0 F sc__law_next (by decide) m (F.bindsN fun _ _ _ _ _ _ us hl => match us, hl with | [_, _], _ => rfl) (nd__law_next c) k__law_next
theorem sc__law_drawn : FnScope n__law_drawn ["state"] (defScope (top 31)) := ⟨rfl, rfl, rfl, by decide +kernel, rfl, by decide +kernel, by decide +kernel⟩
theorem k__law_drawn : b__law_drawn.chk n__law_drawn (defScope (top 31)) (fun _ => true) (defBody (top 31)) = true := by decide +kernel
theorem nd__law_drawn {Γ : Gm} (c : Ctx Γ) : NeedsOk Γ 2 b__law_drawn.needs := by
  refine NeedsOk.of ?_
  repeat first | exact trivial | exact (c__law_ratio c).mono (by decide) | exact (c__law_next c).mono (by decide) | apply And.intro
theorem c__law_drawn {Γ : Gm} (c : Ctx Γ) : CalleeOk Γ 4 "_law_drawn" 1 f__law_drawn := by
  obtain ⟨f, fd, F, m⟩ := c.d 20 _ _ rfl
  exact fn_ok c.g0 F sc__law_drawn (by decide) m (F.bindsN fun _ _ _ _ _ _ us hl => match us, hl with | [_], _ => rfl) (nd__law_drawn c) k__law_drawn
theorem sc_law : FnScope n_law ["script"] (defScope (top 32)) := ⟨rfl, rfl, rfl, by decide +kernel, rfl, by decide +kernel, by decide +kernel⟩
theorem k_law : b_law.chk n_law (defScope (top 32)) (defBody (top 32)) = true := by decide +kernel
theorem nd_law {Γ : Gm} (c : Ctx Γ) : NeedsOk Γ 5 b_law.needs := by
  refine NeedsOk.of ?_
  repeat first | exact trivial | exact (c__law_stream c).mono (by decide) | exact (c__law_same c).mono (by decide) | exact (c_ratio_text c).mono (by decide) | exact (c__law_sum c).mono (by decide) | exact (c_weighed c).mono (by decide) | exact (c_summed c).mono (by decide) | exact (c_greatest c).mono (by decide) | exact (c__law_plus c).mono (by decide) | exact (c__law_ratio c).mono (by decide) | exact (c__law_less c).mono (by decide) | exact (c_over c).mono (by decide) | exact (c_less c).mono (by decide) | exact (c_times c).mono (by decide) | exact (c_negative c).mono (by decide) | exact (c_added c).mono (by decide) | exact (c_is_ratio c).mono (by decide) | exact (c_ratio c).mono (by decide) | exact (c__law_drawn c).mono (by decide) | exact (c__law_next c).mono (by decide) | apply And.intro
theorem fnG_law {Γ : Gm} (c : Ctx Γ) {f : Addr} {fd : FuncData} (F : FunD Γ.K "law" "law" (defArgs (top 32)) (defBody (top 32)) (defScope (top 32)) [] [] f fd) : FnG Γ 7 f fd ["script"] (spF Γ 1 f_law) :=
  law_ok c.g0 F sc_law (by decide) (nd_law c) k_law
abbrev R : PySem.W.OpenRow := PySem.W.OpenLaw.row PySem.Challenge.rw_setsmeet_k01_ratios
abbrev hk : PySem.W.Hook := He.hookD 4 fa fn
def ob (s : PySem.W.SharedT) : He.AlD := He.obsDG 4 fa fn (HandSHeadRun.getT s)
theorem ob_eq (s : PySem.W.SharedT) : ob s = hk.obs s.abs := He.obsDG_eq (HandSHeadRun.getT_eq s)
def loose0 : List Str := ["MeetError", "NotAllowed", "TooLarge", "Missing", "BadForm", "Broken", "divisor", "ratio", "is_ratio", "added", "negative", "times", "over", "less", "greatest", "summed", "weighed", "ratio_text", "_law_same", "_law_stream", "_law_next", "_law_told", "_law_divisor", "_law_ratio", "_law_plus", "_law_sum", "_law_less", "_law_is_ratio", "_law_drawn"]
def loose : List Str := loose0
theorem run (w : World) : HandSHeadRun.RunEq R (PySem.W.view R.prog [32]) hk ob 3300 loose w := by
  intro os
  kernel_rfl
theorem fa_eq : fa = fn.map (fun d => He.Fa.glo d.name) ++ blts.map He.Fa.free := by rfl
theorem glo_of {i : Nat} {x : Str} {j : Nat} (e : fn[i]? = some (dd x j)) : fa[i]? = some (.glo x) := by
  have hi : i < fn.length := by
    cases Nat.lt_or_ge i fn.length with
    | inl h => exact h
    | inr h => rw [List.getElem?_eq_none h] at e; cases e
  rw [fa_eq, List.getElem?_append_left (by rw [List.length_map]; exact hi), List.getElem?_map, e]
  rfl
theorem fa_free {i : Nat} (hi : i < blts.length) : fa[fn.length + i]? = some (.free (blts.getD i "")) := by
  rw [fa_eq, List.getElem?_append_right (by rw [List.length_map]; omega), List.length_map, Nat.add_sub_cancel_left, List.getElem?_map, List.getElem?_eq_getElem hi, List.getD_eq_getElem?_getD, List.getElem?_eq_getElem hi]
  rfl
theorem facts {w : World} {K : PySem.W.Frag} {h : Heap} {mg : Str → Option Value} {f : Addr} (X : K.In h) (G : h.Ns mainGlobals mg) (hfa : mg ("law" : Str) = some (.ref f)) (c : He.SaysD fa fn K) :
    ∃ fd : FuncData, (∀ (s : Shared) (v : Value), BindsTo s fd ⟨[v], []⟩ [("script", v)]) ∧ ∀ base : Heap, FnG ⟨R.prog, w, K, mg, base, [], fun _ => .none⟩ 7 f fd ["script"] (spF ⟨R.prog, w, K, mg, base, [], fun _ => .none⟩ 1 f_law) := by
  have ctx : ∀ base : Heap, Ctx ⟨R.prog, w, K, mg, base, [], fun _ => .none⟩ := by
    intro base
    refine ⟨⟨?_⟩, ?_⟩
    · have z : ∀ i, i < blts.length → mg (blts.getD i "") = none := by
        intro i hi
        exact He.free_ok X G (c.fact (fn.length + i) (fa_free hi))
      intro x hx
      obtain ⟨i, hi, e⟩ := List.getElem_of_mem hx
      have t := z i hi
      rw [List.getD_eq_getElem?_getD, List.getElem?_eq_getElem hi, Option.getD_some, e] at t
      exact t
    · intro i x j e
      obtain ⟨fd, F⟩ := c.def_ i e
      refine ⟨_, fd, F, ?_⟩
      have g : fa[i]? = some (.glo x) := glo_of e
      exact He.glo_ok X G (c.fact i g)
  obtain ⟨fd, F⟩ := c.def_ 21 (d := dd "law" 32) rfl
  have e := hfa.symm.trans (He.glo_ok X G (c.fact 21 (f := .glo "law") rfl))
  cases e
  have b := FunD.bindsA (ps := ["script"]) F fun _ _ _ _ _ _ us hl => match us, hl with | [_], _ => rfl
  exact ⟨fd, fun s v => b s [v] rfl, fun base => fnG_law (ctx base) F⟩
end Pv.K01
open PySem PySem.W PySem.Calls PyProof.Rows
theorem PySem.Challenge.cw_setsmeet_k01_ratios_holds : PySem.Challenge.rw_setsmeet_k01_ratios.Holds := by
  w_on; o_law
  refine HandSHeadRun.head_any (r := OpenLaw.row PySem.Challenge.rw_setsmeet_k01_ratios) (q := view (OpenLaw.row PySem.Challenge.rw_setsmeet_k01_ratios).prog [32]) (H := Pv.K01.hk) (ob := Pv.K01.ob) (M := 3300) (loose := Pv.K01.loose) (d := HandSHeadRun.topDef (OpenLaw.row PySem.Challenge.rw_setsmeet_k01_ratios).prog 32) (kwd := []) Pv.K01.ob_eq
    (by kernel_rfl) (fun s => by kernel_rfl) Pv.K01.run (by kernel_rfl) (by kernel_rfl) (by kernel_rfl) (by rfl) (by first | assumption | decide +kernel) (by decide +kernel) ⟨rfl, rfl, rfl, rfl, rfl, by decide +kernel⟩ ?hw ?hc
  case hw => w_witness2
  case hc =>
    refine Pv.walk_ofG (l := PySem.Challenge.rw_setsmeet_k01_ratios) (n := 63) (k := 7) (x := "script") (cls := fun _ _ => .none) (f := Pv.K01.f_law) rfl (by decide) (by kernel_rfl) ⟨rfl, by decide, by decide⟩ Pv.K01.law_true ?_
    intro w mg fa h Y G hmg0
    obtain ⟨K, KX, c⟩ := Y
    have hmg : mg ("law" : PySem.Str) = some (.ref fa) := by
      have e : (HandSHeadRun.topDef (OpenLaw.row PySem.Challenge.rw_setsmeet_k01_ratios).prog 32).name = ("law" : PySem.Str) := by kernel_rfl
      rw [← e]
      exact hmg0
    obtain ⟨fd, hb, hF⟩ := Pv.K01.facts (w := w) KX G hmg c
    exact ⟨K, fd, KX, hb, hF⟩
