import PyProof.Rows.All
import Wide.All
import OpenK.AllK
import Wide.FinOn
import HandS.ForMost
import HandS.ForExc
import HandS.IsInst
import HandS.Deep
import HandS.SortInts
import HandS.SortRule
import HandS.TupSets
import HandS.Style
import HandS.Conv
import HandS.Defaults
import HandS.SetFor
import HandS.TupLen
import HandS.WordsDict
import HandS.HeadEnd
import PySem.Challenge.RW_roundlist_k01_whole_lists_made
import HandS.More
import HandS.Head0
import HandS.Head1
import HandS.Head2
import HandS.HeadHook1
import HandS.HeadHook2
set_option Elab.async false
set_option linter.all false
set_option maxRecDepth 100000
set_option maxHeartbeats 1000000
/-! # The D-layer: values as data (PyData), readings as plain functions -/
namespace RL
open PySem PySem.Spec PyProof.Rows L2

abbrev D := PyData

/-- what a piece of code comes to: a thing, a refusal of the class c, or nothing that is told -/
inductive R (α : Type) where
  | ok (a : α)
  | exc (c : Nat)
  | bad
namespace R
def bind {α β : Type} (r : R α) (k : α → R β) : R β := match r with
  | .ok a => k a
  | .exc c => .exc c
  | .bad => .bad
instance : Monad R where
  pure := .ok
  bind := R.bind
theorem ok_bind {α β : Type} (a : α) (k : α → R β) : (R.ok a >>= k) = k a := rfl
theorem exc_bind {α β : Type} (c : Nat) (k : α → R β) : ((R.exc c : R α) >>= k) = .exc c := rfl
theorem bad_bind {α β : Type} (k : α → R β) : ((R.bad : R α) >>= k) = .bad := rfl
theorem pure_eq {α : Type} (a : α) : (pure a : R α) = .ok a := rfl
theorem map_ok {α β : Type} (f : α → β) (a : α) : f <$> (R.ok a) = .ok (f a) := rfl
end R

/-! ### data at values -/
mutual
inductive Rp (H : Hp) : V → D → Prop where
  | non : Rp H .non .none
  | bl (b : Bool) : Rp H (.bl b) (.bool b)
  | int (i : Int) : Rp H (.int i) (.int i)
  | str (x : Str) : Rp H (.str x) (.str x)
  | lst {a : Addr} {vs : List V} {ds : List D} : H a = some (.lst vs) → RpL H vs ds → Rp H (.ref a) (.list ds)
  | tup {a : Addr} {vs : List V} {ds : List D} : H a = some (.tup vs) → RpL H vs ds → Rp H (.ref a) (.tuple ds)
  | dct {a : Addr} (ks : List (Int × Int)) : H a = some (.dK (ks.map fun p => (Sum.inl p.1, V.int p.2))) → Rp H (.ref a) (.dict (ks.map fun p => (.int p.1, .int p.2)))
inductive RpL (H : Hp) : List V → List D → Prop where
  | nil : RpL H [] []
  | cons {v : V} {vs : List V} {d : D} {ds : List D} : Rp H v d → RpL H vs ds → RpL H (v :: vs) (d :: ds)
end

theorem Same.hp {H H' : Hp} (s : Same H H') {a : Addr} {o : HO} (h : H a = some o) : H' a = some o := s a o h

mutual
theorem Rp.mono {H H' : Hp} (s : Same H H') : ∀ {v : V} {d : D}, Rp H v d → Rp H' v d
  | _, _, .non => .non
  | _, _, .bl b => .bl b
  | _, _, .int i => .int i
  | _, _, .str x => .str x
  | _, _, .lst h r => .lst (s _ _ h) (RpL.mono s r)
  | _, _, .tup h r => .tup (s _ _ h) (RpL.mono s r)
  | _, _, .dct ks h => .dct ks (s _ _ h)
theorem RpL.mono {H H' : Hp} (s : Same H H') : ∀ {vs : List V} {ds : List D}, RpL H vs ds → RpL H' vs ds
  | _, _, .nil => .nil
  | _, _, .cons h r => .cons (Rp.mono s h) (RpL.mono s r)
end

theorem RpL.length {H : Hp} : ∀ {vs : List V} {ds : List D}, RpL H vs ds → vs.length = ds.length
  | _, _, .nil => rfl
  | _, _, .cons _ r => by rw [List.length_cons, List.length_cons, RpL.length r]
theorem RpL.get {H : Hp} : ∀ {vs : List V} {ds : List D} {i : Nat} {d : D}, RpL H vs ds → ds[i]? = some d → ∃ v, vs[i]? = some v ∧ Rp H v d
  | _, _, _, _, .nil, e => by simp at e
  | _, _, 0, _, .cons h _, e => by simp at e; subst e; exact ⟨_, rfl, h⟩
  | _, _, i + 1, d, .cons _ r, e => by
    obtain ⟨v, h1, h2⟩ := RpL.get (i := i) r (by simpa using e)
    exact ⟨v, by simpa using h1, h2⟩
theorem RpL.append {H : Hp} : ∀ {vs : List V} {ds : List D} {ws : List V} {es : List D}, RpL H vs ds → RpL H ws es → RpL H (vs ++ ws) (ds ++ es)
  | _, _, _, _, .nil, q => q
  | _, _, _, _, .cons h r, q => .cons h (RpL.append r q)
theorem RpL.one {H : Hp} {v : V} {d : D} (h : Rp H v d) : RpL H [v] [d] := .cons h .nil
theorem RpL.take {H : Hp} : ∀ {vs : List V} {ds : List D} (n : Nat), RpL H vs ds → RpL H (vs.take n) (ds.take n)
  | _, _, 0, _ => by simpa using RpL.nil
  | _, _, _ + 1, .nil => .nil
  | _, _, n + 1, .cons h r => .cons h (RpL.take n r)
theorem RpL.drop {H : Hp} : ∀ {vs : List V} {ds : List D} (n : Nat), RpL H vs ds → RpL H (vs.drop n) (ds.drop n)
  | _, _, 0, r => r
  | _, _, _ + 1, .nil => .nil
  | _, _, n + 1, .cons _ r => RpL.drop n r
theorem RpL.reverse {H : Hp} {vs : List V} {ds : List D} (r : RpL H vs ds) : RpL H vs.reverse ds.reverse := by
  have go : ∀ {vs : List V} {ds : List D}, RpL H vs ds → RpL H vs.reverse ds.reverse := by
    intro vs
    induction vs with
    | nil => intro ds r; cases r; exact .nil
    | cons v vs ih =>
      intro ds r
      cases r with
      | cons h r =>
        rw [List.reverse_cons, List.reverse_cons]
        exact (ih r).append (.one h)
  exact go r
theorem RpL.set {H : Hp} {v : V} {d : D} (h : Rp H v d) : ∀ {vs : List V} {ds : List D} (i : Nat), RpL H vs ds → RpL H (vs.set i v) (ds.set i d)
  | _, _, _, .nil => .nil
  | _, _, 0, .cons _ r => .cons h r
  | _, _, i + 1, .cons q r => .cons q (RpL.set h i r)

/-! ### what is hidden -/
def hide (O : List Addr) (H : Hp) : Hp := fun a => if a ∈ O then none else H a
theorem hide_in {O : List Addr} {H : Hp} {a : Addr} (h : a ∈ O) : hide O H a = none := if_pos h
theorem hide_out {O : List Addr} {H : Hp} {a : Addr} (h : a ∉ O) : hide O H a = H a := if_neg h
theorem hide_some {O : List Addr} {H : Hp} {a : Addr} {o : HO} (h : hide O H a = some o) : a ∉ O ∧ H a = some o := by
  unfold hide at h
  split at h
  · cases h
  · exact ⟨by assumption, h⟩
theorem hide_nil (H : Hp) : hide [] H = H := by
  funext a
  exact hide_out (by simp)
theorem hide_le (O : List Addr) (H : Hp) : Same (hide O H) H := fun _ _ h => (hide_some h).2
theorem hide_mono {O : List Addr} {H H' : Hp} (s : Same H H') : Same (hide O H) (hide O H') := fun a o h => by
  obtain ⟨h1, h2⟩ := hide_some h
  rw [hide_out h1]
  exact s _ _ h2
/-- a new object is seen -/
theorem hide_upd {O : List Addr} {H : Hp} {p : Addr} {o : HO} (h : p ∉ O) : hide O (upd H p o) p = some o := by
  rw [hide_out h, upd_same]
theorem same_new {H : Hp} {p : Addr} {o : HO} (h : H p = none) : Same H (upd H p o) := fun b x e => by
  rw [upd_ne (ne_of_none e h)]
  exact e
/-- what is hidden may change -/
theorem hide_same_upd {O : List Addr} {H : Hp} {p : Addr} {o : HO} (h : p ∈ O) : hide O (upd H p o) = hide O H := by
  funext a
  by_cases e : a ∈ O
  · rw [hide_in e, hide_in e]
  · rw [hide_out e, hide_out e, upd_ne (fun z => e (by rw [z]; exact h))]

/-! ### the slots as data -/
inductive Sl where
  | fr (d : D)
  | ol (ds : List D)
  | scr (ns : List Int)
  | od (d : D)
  | dt (kvs : List (List Int × D))
  | dk (kvs : List (Int × D))
abbrev Ev := List (Option Sl)
structure EvOk (K : PySem.W.Frag) (M : Hp) (σ : L2.St) (ρ : Ev) : Prop where
  fr : ∀ (i : Nat) (d : D), ρ[i]? = some (some (Sl.fr d)) → ∃ v, σ[i]? = some (some v) ∧ Rp M v d
  sc : ∀ (i : Nat) (ns : List Int), ρ[i]? = some (some (Sl.scr ns)) → ∃ a, σ[i]? = some (some (.ref a)) ∧ SqL K M a (ns.map V.int)
theorem EvOk.mono {K : PySem.W.Frag} {M M' : Hp} {σ : L2.St} {ρ : Ev} (s : Same M M') (h : EvOk K M σ ρ) : EvOk K M' σ ρ := by
  refine ⟨fun i d e => ?_, fun i ns e => ?_⟩
  · obtain ⟨v, h1, h2⟩ := h.fr i d e
    exact ⟨v, h1, h2.mono s⟩
  · obtain ⟨a, h1, h2⟩ := h.sc i ns e
    exact ⟨a, h1, s.seq h2⟩

/-- what every reading leans on: the classes by number, the wish of a refusal -/
structure Zx where
  K : PySem.W.Frag
  E : XK
  cl : Nat → Addr

/-- a table's pairs, the keys by f -/
inductive RpK {κ κ' : Type} (f : κ' → κ) (M : Hp) : List (κ × V) → List (κ' × D) → Prop where
  | nil : RpK f M [] []
  | cons {k : κ'} {v : V} {d : D} {xs : List (κ × V)} {ys : List (κ' × D)} : Rp M v d → RpK f M xs ys → RpK f M ((f k, v) :: xs) ((k, d) :: ys)
theorem RpK.mono {κ κ' : Type} {f : κ' → κ} {M M' : Hp} (s : Same M M') : ∀ {xs : List (κ × V)} {ys : List (κ' × D)}, RpK f M xs ys → RpK f M' xs ys
  | _, _, .nil => .nil
  | _, _, .cons h r => .cons (h.mono s) (RpK.mono s r)
theorem RpK.length {κ κ' : Type} {f : κ' → κ} {M : Hp} : ∀ {xs : List (κ × V)} {ys : List (κ' × D)}, RpK f M xs ys → xs.length = ys.length
  | _, _, .nil => rfl
  | _, _, .cons _ r => by rw [List.length_cons, List.length_cons, RpK.length r]
abbrev kT (k : List Int) : List L2.Key := k.map Sum.inl
abbrev kI (k : Int) : L2.Key := Sum.inl k
/-- what an owned list, an owned table holds -/
def Holds (M : Hp) : Sl → HO → Prop
  | .ol ds, o => ∃ vs, o = .lst vs ∧ RpL M vs ds
  | .dt kvs, o => ∃ vs, o = .dT vs ∧ RpK kT M vs kvs
  | .dk kvs, o => ∃ vs, o = .dK vs ∧ RpK kI M vs kvs
  | _, _ => False
theorem Holds.mono {M M' : Hp} (s : Same M M') : ∀ {x : Sl} {o : HO}, Holds M x o → Holds M' x o
  | .ol _, _, ⟨vs, e, r⟩ => ⟨vs, e, r.mono s⟩
  | .dt _, _, ⟨vs, e, r⟩ => ⟨vs, e, r.mono s⟩
  | .dk _, _, ⟨vs, e, r⟩ => ⟨vs, e, r.mono s⟩
  | .fr _, _, h => h.elim
  | .scr _, _, h => h.elim
  | .od _, _, h => h.elim
theorem Holds.noTup {M : Hp} : ∀ {x : Sl} {o : HO}, Holds M x o → ∀ xs, o ≠ .tup xs
  | .ol _, _, ⟨vs, e, r⟩, _ => by rw [e]; intro z; cases z
  | .dt _, _, ⟨vs, e, r⟩, _ => by rw [e]; intro z; cases z
  | .dk _, _, ⟨vs, e, r⟩, _ => by rw [e]; intro z; cases z
  | .fr _, _, h, _ => h.elim
  | .scr _, _, h, _ => h.elim
  | .od _, _, h, _ => h.elim
/-- is it one object of the slot's own -/
def isOw : Sl → Bool
  | .ol _ => true
  | .dt _ => true
  | .dk _ => true
  | _ => false
structure Pre0 (K : PySem.W.Frag) (O : List Addr) (H : Hp) (σ : L2.St) (ρ : Ev) : Prop where
  len : σ.length = ρ.length
  dom : ∀ p ∈ O, H p ≠ none
  ev : EvOk K (hide O H) σ ρ
theorem Pre0.mono {K : PySem.W.Frag} {O : List Addr} {H H' : Hp} {σ : L2.St} {ρ : Ev} (s : Same H H') (h : Pre0 K O H σ ρ) : Pre0 K O H' σ ρ := by
  refine ⟨h.len, fun p hp z => ?_, h.ev.mono (hide_mono s)⟩
  cases q : H p with
  | none => exact h.dom p hp q
  | some o => rw [s _ _ q] at z; cases z
structure Pre (K : PySem.W.Frag) (O : List Addr) (H : Hp) (σ : L2.St) (ρ : Ev) : Prop extends Pre0 K O H σ ρ where
  ow : ∀ (i : Nat) (x : Sl), ρ[i]? = some (some x) → isOw x = true → ∃ p o, σ[i]? = some (some (.ref p)) ∧ H p = some o ∧ Holds (hide O H) x o
theorem Pre.mono {K : PySem.W.Frag} {O : List Addr} {H H' : Hp} {σ : L2.St} {ρ : Ev} (s : Same H H') (h : Pre K O H σ ρ) : Pre K O H' σ ρ :=
  ⟨h.toPre0.mono s, fun i x e w => by
    obtain ⟨p, o, h1, h2, h3⟩ := h.ow i x e w
    exact ⟨p, o, h1, s _ _ h2, h3.mono (hide_mono s)⟩⟩
theorem Pre.new {K : PySem.W.Frag} {O : List Addr} {H : Hp} {σ : L2.St} {ρ : Ev} (h : Pre K O H σ ρ) {p : Addr} (hp : H p = none) : p ∉ O := fun z => h.dom p z hp

def Pst {α W : Type} (rel : Hp → W → α → Prop) (Z : Zx) (O : List Addr) (H : Hp) (r : R α) (Q : W → Hp → Prop) : Prop := match r with
  | .ok a => ∀ w H', Same H H' → rel (hide O H') w a → Q w H'
  | .exc c => ∀ H', Same H H' → Z.E (.ref (Z.cl c)) none H'
  | .bad => False
def tG {α W : Type} (rel : Hp → W → α → Prop) (Z : Zx) (f : Ev → R α) : L2.St → Hp → (W → Hp → Prop) → Prop := fun σ H Q => ∃ O ρ, Pre Z.K O H σ ρ ∧ Pst rel Z O H (f ρ) Q
abbrev tD (Z : Zx) (f : Ev → R D) : TE := tG Rp Z f
abbrev tDs (Z : Zx) (f : Ev → R (List D)) : TA := tG RpL Z f
def relB (_ : Hp) (w : Bool) (a : Bool) : Prop := w = a
abbrev tB' (Z : Zx) (f : Ev → R Bool) : TT := tG relB Z f

section
variable {α β W U : Type} {rel : Hp → W → α → Prop} {rel2 : Hp → U → β → Prop} {Z : Zx} {O : List Addr} {H : Hp} {σ : L2.St} {ρ : Ev}
theorem Pst.up {r : R α} {Q : W → Hp → Prop} {H1 : Hp} (s : Same H H1) (h : Pst rel Z O H r Q) : Pst rel Z O H1 r Q := by
  cases r with
  | ok a => exact fun w H' s' q => h w H' (s.trans s') q
  | exc c => exact fun H' s' => h H' (s.trans s')
  | bad => exact h
theorem Pst.bind {r : R α} {k : α → R β} {Q : U → Hp → Prop} {Q' : W → Hp → Prop} (h : Pst rel2 Z O H (r >>= k) Q)
    (hk : ∀ a w H1, r = .ok a → Same H H1 → rel (hide O H1) w a → Pst rel2 Z O H1 (k a) Q → Q' w H1) : Pst rel Z O H r Q' := by
  cases r with
  | ok a => exact fun w H' s q => hk a w H' rfl s q (Pst.up s h)
  | exc c => exact h
  | bad => exact h
theorem Pst.bind' {r : R α} {k : α → R β} {Q : U → Hp → Prop} {Q' : W → Hp → Prop} (h : Pst rel2 Z O H (R.bind r k) Q)
    (hk : ∀ a w H1, r = .ok a → Same H H1 → rel (hide O H1) w a → Pst rel2 Z O H1 (k a) Q → Q' w H1) : Pst rel Z O H r Q' := Pst.bind h hk
end

/-! ### rules of consequence -/
section
variable {X : Cx} {e : Expr} {es : List Expr}
theorem pe_weak {t t' : TE} (h : PE X e t) (w : ∀ σ H Q, t' σ H Q → t σ H Q) : PE X e t' := ⟨fun pins s σ H Q I q => h.run pins s σ H Q I (w _ _ _ q)⟩
theorem pt_weak {t t' : TT} (h : PT X e t) (w : ∀ σ H Q, t' σ H Q → t σ H Q) : PT X e t' := ⟨fun pins s σ H Q I q => h.run pins s σ H Q I (w _ _ _ q)⟩
theorem pw_weak {t t' : TT} (h : PW X e t) (w : ∀ σ H Q, t' σ H Q → t σ H Q) : PW X e t' := ⟨fun wh pins s σ H Q I q => h.run wh pins s σ H Q I (w _ _ _ q)⟩
theorem pa_weak {t t' : TA} (h : PA X es t) (w : ∀ σ H Q, t' σ H Q → t σ H Q) : PA X es t' := ⟨fun pos pins s σ H Q I q => h.run pos pins s σ H Q I (w _ _ _ q)⟩
theorem ps_weak {st : Stmt} {t t' : TS} (h : PS X st t) (w : ∀ D σ H, t' D σ H → t D σ H) : PS X st t' := ⟨fun pins s σ H D I q => h.run pins s σ H D I (w _ _ _ q)⟩
theorem pss_weak {sts : List Stmt} {t t' : TS} (h : PSs X sts t) (w : ∀ D σ H, t' D σ H → t D σ H) : PSs X sts t' := ⟨fun pins s σ H D I q => h.run pins s σ H D I (w _ _ _ q)⟩
end
end RL

set_option Elab.async false
set_option linter.all false
set_option maxRecDepth 100000
set_option maxHeartbeats 1000000
/-! # The D-layer: operators -/
namespace RL
open PySem PySem.Spec PyProof.Rows L2

mutual
theorem Rp.dp {K : PySem.W.Frag} {H : Hp} : ∀ {v : V} {d : D}, Rp H v d → SeqAt.shaped d = true ∨ d.canLay0 = true → Dp K H v d
  | _, _, .non, _ => .non
  | _, _, .bl b, _ => .bl b
  | _, _, .int i, _ => .int i
  | _, _, .str x, _ => .str x
  | _, _, .lst h r, s => .lst (.inl (.inl h)) (RpL.dp r (by rcases s with s | s; exact SeqAt.canLay_of_shaped s; exact s))
  | _, _, .tup h r, s => .tup (.inl (.inl h)) (RpL.dp r (by rcases s with s | s; exact SeqAt.canLay_of_shaped s; exact s))
  | _, _, .dct ks h, s => by
    rcases s with s | s
    · have z := SeqAt.canLay_of_shaped s
      simp [PyData.canLay0] at z
    · simp [PyData.canLay0] at s
theorem RpL.dp {K : PySem.W.Frag} {H : Hp} : ∀ {vs : List V} {ds : List D}, RpL H vs ds → PyData.canLayAll0 ds = true → DpAll K H vs ds
  | _, _, .nil, _ => .nil
  | _, _, .cons h r, s => by
    rw [PyData.canLayAll0, Bool.and_eq_true] at s
    exact .cons (Rp.dp h (.inr s.1)) (RpL.dp r s.2)
end

abbrev lim : Nat := 16777216
theorem lim_eq : sizeLine = lim := sizeLine_eq

/-! ### combinators -/
def eBin (g : D → D → R D) (fa fb : Ev → R D) : Ev → R D := fun ρ => fa ρ >>= fun a => fb ρ >>= fun b => g a b
def eUn (g : D → R D) (fa : Ev → R D) : Ev → R D := fun ρ => fa ρ >>= g

section
variable {X : Cx} {Z : Zx} {a b : Expr} {fa fb : Ev → R D} {pos : Pos}

/-- what an operator by values must give, for the data g tells -/
def OpD (Z : Zx) (r : R2) (g : D → D → R D) : Prop := ∀ (O : List Addr) (H : Hp) (x y : V) (p q : D) (Q : VK), Rp (hide O H) x p → Rp (hide O H) y q → (∀ z ∈ O, H z ≠ none) → Pst Rp Z O H (g p q) Q → r x y H Q
theorem bin_ok {r : R2} {g : D → D → R D} (hr : OpD Z r g) (σ : L2.St) (H : Hp) (Q : VK) (h : tD Z (eBin g fa fb) σ H Q) : tOp r (tD Z fa) (tD Z fb) σ H Q := by
  obtain ⟨O, ρ, hp, h⟩ := h
  refine ⟨O, ρ, hp, Pst.bind' h fun p x H1 _ s1 h1 k1 => ?_⟩
  refine ⟨O, ρ, hp.mono s1, Pst.bind' k1 fun q y H2 _ s2 h2 k2 => ?_⟩
  exact hr O H2 x y p q Q (h1.mono (hide_mono s2)) h2 (hp.mono (s1.trans s2)).dom k2
theorem d_op {op : Operator} {r : R2} {g : D → D → R D} (ho : OpR X (binaryOp op) r) (hr : OpD Z r g) (ha : PE X a (tD Z fa)) (hb : PE X b (tD Z fb)) : PE X (.BinOp a op b pos) (tD Z (eBin g fa fb)) :=
  pe_weak (pe_op ho ha hb) (bin_ok hr)
theorem d_cmp {op : CmpOp} {r : R2} {g : D → D → R D} (ho : OpR X (compareOp op) r) (hr : OpD Z r g) (ha : PE X a (tD Z fa)) (hb : PE X b (tD Z fb)) (hm : behindInMarks op b = false) : PE X (.Compare a [op] [b] pos) (tD Z (eBin g fa fb)) :=
  pe_weak (pe_cmpR ho ha hb hm) (bin_ok hr)
/-- data as a test: a bool -/
def asB : D → R Bool
  | .bool b => .ok b
  | _ => .bad
def eB (f : Ev → R D) : Ev → R Bool := fun ρ => f ρ >>= asB
theorem tst_ok {f : Ev → R D} (σ : L2.St) (H : Hp) (Q : Bool → Hp → Prop) (h : tB' Z (eB f) σ H Q) : (tD Z f) σ H fun x H' => ∃ k, x = .bl k ∧ Q k H' := by
  obtain ⟨O, ρ, hp, h⟩ := h
  refine ⟨O, ρ, hp, Pst.bind' h fun p x H1 _ s1 h1 k1 => ?_⟩
  cases h1 with
  | bl b => exact ⟨b, rfl, k1 b H1 (Same.refl _) rfl⟩
  | _ => exact k1.elim
theorem dt_val {e : Expr} {f : Ev → R D} (h : PE X e (tD Z f)) (he : ∀ whole, isTrue e X.env whole = (do let v ← whole; standAt e.pos; holding [v] (truthy v)) := by intro _; rfl) : PT X e (tB' Z (eB f)) :=
  pt_weak (pt_val h he) tst_ok
theorem dt_cmp {op : CmpOp} {r : R2} {g : D → D → R D} (ho : OpR X (compareOp op) r) (hr : OpD Z r g) (ha : PE X a (tD Z fa)) (hb : PE X b (tD Z fb)) (hm : behindInMarks op b = false) : PT X (.Compare a [op] [b] pos) (tB' Z (eB (eBin g fa fb))) :=
  pt_weak (pt_cmpR ho ha hb hm) fun σ H Q h => by
    have h2 := tst_ok σ H Q h
    exact bin_ok hr σ H _ h2

/-! ### names and constants -/
def eVar (i : Nat) : Ev → R D := fun ρ => match ρ[i]? with
  | some (some (.fr d)) => .ok d
  | _ => .bad
theorem eVar_get {i : Nat} {ρ : Ev} {O : List Addr} {H : Hp} {Q : VK} (h : Pst Rp Z O H (eVar i ρ) Q) : ∃ d, ρ[i]? = some (some (.fr d)) ∧ Pst Rp Z O H (.ok d) Q := by
  unfold eVar at h
  cases e : ρ[i]? with
  | none => rw [e] at h; exact h.elim
  | some o =>
    rw [e] at h
    cases o with
    | none => exact h.elim
    | some s =>
      cases s with
      | fr d => exact ⟨d, rfl, h⟩
      | ol ds => exact h.elim
      | scr ns => exact h.elim
      | _ => exact h.elim
theorem d_var {i : Nat} {x : Str} {pos : Pos} (hN : X.N[i]? = some x) (hv : Vis X.env.scope x) (hd : (x == ("__debug__" : Str)) = false := by decide) (hcd : (x == ("__classdict__" : Str)) = false := by decide) : PE X (.Name x pos) (tD Z (eVar i)) :=
  pe_weak (pe_var hN hv hd hcd) fun σ H Q h => by
    obtain ⟨O, ρ, hp, h⟩ := h
    obtain ⟨d, e, h⟩ := eVar_get h
    obtain ⟨v, e2, r⟩ := hp.ev.fr i d e
    exact ⟨v, e2, h v H (Same.refl _) r⟩
def eC (d : D) : Ev → R D := fun _ => .ok d
theorem c_ok {v : V} {d : D} (h : ∀ H, Rp H v d) (σ : L2.St) (H : Hp) (Q : VK) (q : tD Z (eC d) σ H Q) : tC v σ H Q := by
  obtain ⟨O, ρ, hp, q⟩ := q
  exact q v H (Same.refl _) (h _)
theorem d_int {i : Int} {j : Nat} : PE X (.Constant (.int i) j pos) (tD Z (eC (.int i))) := pe_weak pe_int (c_ok fun _ => .int i)
theorem d_bl {b : Bool} {j : Nat} : PE X (.Constant (.bool b) j pos) (tD Z (eC (.bool b))) := pe_weak pe_bl (c_ok fun _ => .bl b)
theorem d_non {j : Nat} : PE X (.Constant .none j pos) (tD Z (eC .none)) := pe_weak pe_non (c_ok fun _ => .non)
theorem d_str {x : Str} {j : Nat} : PE X (.Constant (.str x) j pos) (tD Z (eC (.str x))) := pe_weak pe_str (c_ok fun _ => .str x)
theorem d_gInt {x : Str} {i : Int} (hg : Gl X x) (hm : ∃ t, X.mg x = some (.int i t)) (hd : (x == ("__debug__" : Str)) = false := by decide) : PE X (.Name x pos) (tD Z (eC (.int i))) := by
  obtain ⟨t, hm⟩ := hm
  exact pe_weak (pe_glob (v := .int i) hg hm ⟨t, rfl⟩ hd) (c_ok fun _ => .int i)
theorem d_gStr {x z : Str} (hg : Gl X x) (hm : ∃ t, X.mg x = some (.str z t)) (hd : (x == ("__debug__" : Str)) = false := by decide) : PE X (.Name x pos) (tD Z (eC (.str z))) := by
  obtain ⟨t, hm⟩ := hm
  exact pe_weak (pe_glob (v := .str z) hg hm ⟨t, rfl⟩ hd) (c_ok fun _ => .str z)

/-! ### arithmetic -/
def dAdd : D → D → R D
  | .int i, .int j => .ok (.int (i + j))
  | .str x, .str y => if x.length + y.length ≤ lim then .ok (.str (x ++ y)) else .bad
  | .list xs, .list ys => if xs.length + ys.length ≤ lim then .ok (.list (xs ++ ys)) else .bad
  | _, _ => .bad
def dSub : D → D → R D
  | .int i, .int j => .ok (.int (i - j))
  | _, _ => .bad
def small64b (i : Int) : Bool := decide (-(2 ^ 64) < i) && decide (i < 2 ^ 64)
def dMul : D → D → R D
  | .int i, .int j => if small64b i || small64b j then .ok (.int (i * j)) else .bad
  | .list xs, .int k => if k ≤ 1000 ∧ xs.length ≤ 1000 ∧ -1000 ≤ k then .ok (.list (List.replicate k.toNat xs).flatten) else .bad
  | _, _ => .bad
def dDiv : D → D → R D
  | .int i, .int j => if 0 < j ∧ j < 1073741824 then .ok (.int (i / j)) else .bad
  | _, _ => .bad
def dMod : D → D → R D
  | .int i, .int j => if 0 < j then .ok (.int (i % j)) else .bad
  | _, _ => .bad
def dPow : D → D → R D
  | .int i, .int j => if 0 ≤ j ∧ j ≤ 1000 ∧ i.natAbs < 2 ^ 64 then .ok (.int (i ^ j.toNat)) else .bad
  | _, _ => .bad
def dShr : D → D → R D
  | .int i, .int j => if 0 ≤ j then .ok (.int (i / 2 ^ j.toNat)) else .bad
  | _, _ => .bad
def dAnd : D → D → R D
  | .int i, .int j => .ok (.int (Builtin.bitAnd i j))
  | _, _ => .bad

theorem rI0_ok {g : Int → Int → V} {k : Int → Int → D} (hk : ∀ i j H, Rp H (g i j) (k i j)) : OpD Z (rI0 g) (fun p q => match p, q with | .int i, .int j => .ok (k i j) | _, _ => .bad) := by
  intro O H x y p q Q hx hy _ h
  cases hx with
  | int i =>
    cases hy with
    | int j => exact ⟨i, j, rfl, rfl, h _ H (Same.refl _) (hk i j _)⟩
    | _ => exact h.elim
  | _ => exact h.elim
theorem rI_ok {C : Int → Int → Prop} {c : Int → Int → Bool} {g : Int → Int → V} {k : Int → Int → D} (hc : ∀ i j, c i j = true → C i j) (hk : ∀ i j H, Rp H (g i j) (k i j)) : OpD Z (rI C g) (fun p q => match p, q with | .int i, .int j => if c i j then .ok (k i j) else .bad | _, _ => .bad) := by
  intro O H x y p q Q hx hy _ h
  cases hx with
  | int i =>
    cases hy with
    | int j =>
      have h' : Pst Rp Z O H (if c i j then .ok (k i j) else .bad) Q := h
      by_cases e : c i j = true
      · rw [if_pos e] at h'
        exact ⟨i, j, rfl, rfl, hc i j e, h' _ H (Same.refl _) (hk i j _)⟩
      · rw [if_neg e] at h'
        exact h'.elim
    | _ => exact h.elim
  | _ => exact h.elim
theorem OpD.eq {r : R2} {g g' : D → D → R D} (h : OpD Z r g) (e : ∀ p q, g' p q = g p q) : OpD Z r g' := by
  have e2 : g' = g := funext fun p => funext fun q => e p q
  rw [e2]
  exact h
theorem sub_ok : OpD Z (rI0 fun i j => .int (i - j)) dSub := (rI0_ok (k := fun i j => .int (i - j)) fun _ _ _ => .int _).eq fun p q => by cases p <;> cases q <;> rfl
theorem and_ok : OpD Z (rI0 fun i j => .int (Builtin.bitAnd i j)) dAnd := (rI0_ok (k := fun i j => .int (Builtin.bitAnd i j)) fun _ _ _ => .int _).eq fun p q => by cases p <;> cases q <;> rfl
theorem div_ok : OpD Z (rI CDiv fun i j => .int (i / j)) dDiv := (rI_ok (c := fun i j => decide (0 < j ∧ j < 1073741824)) (k := fun i j => .int (i / j)) (fun i j h => of_decide_eq_true h) fun _ _ _ => .int _).eq fun p q => by cases p <;> cases q <;> simp [dDiv]
theorem mod_ok : OpD Z (rI (fun _ j => 0 < j) fun i j => .int (i % j)) dMod := (rI_ok (c := fun i j => decide (0 < j)) (k := fun i j => .int (i % j)) (fun i j h => of_decide_eq_true h) fun _ _ _ => .int _).eq fun p q => by cases p <;> cases q <;> simp [dMod]
theorem shr_ok : OpD Z (rI (fun _ j => 0 ≤ j) fun i j => .int (i / 2 ^ j.toNat)) dShr := (rI_ok (c := fun i j => decide (0 ≤ j)) (k := fun i j => .int (i / 2 ^ j.toNat)) (fun i j h => of_decide_eq_true h) fun _ _ _ => .int _).eq fun p q => by cases p <;> cases q <;> simp [dShr]
theorem pow_ok : OpD Z (rI CPow fun i j => .int (i ^ j.toNat)) dPow := (rI_ok (c := fun i j => decide (0 ≤ j ∧ j ≤ 1000 ∧ i.natAbs < 2 ^ 64)) (k := fun i j => .int (i ^ j.toNat)) (fun i j h => by
  have h2 := of_decide_eq_true h
  exact ⟨h2.1, by omega, h2.2.2⟩) fun _ _ _ => .int _).eq fun p q => by cases p <;> cases q <;> simp [dPow]
theorem d_sub (ha : PE X a (tD Z fa)) (hb : PE X b (tD Z fb)) : PE X (.BinOp a .Sub b pos) (tD Z (eBin dSub fa fb)) := d_op op_sub sub_ok ha hb
theorem d_div (ha : PE X a (tD Z fa)) (hb : PE X b (tD Z fb)) : PE X (.BinOp a .FloorDiv b pos) (tD Z (eBin dDiv fa fb)) := d_op op_fdiv div_ok ha hb
theorem d_mod (ha : PE X a (tD Z fa)) (hb : PE X b (tD Z fb)) : PE X (.BinOp a .Mod b pos) (tD Z (eBin dMod fa fb)) := d_op op_mod mod_ok ha hb
theorem d_pow (ha : PE X a (tD Z fa)) (hb : PE X b (tD Z fb)) : PE X (.BinOp a .Pow b pos) (tD Z (eBin dPow fa fb)) := d_op op_pow pow_ok ha hb
theorem d_shr (ha : PE X a (tD Z fa)) (hb : PE X b (tD Z fb)) : PE X (.BinOp a .RShift b pos) (tD Z (eBin dShr fa fb)) := d_op op_shr shr_ok ha hb
theorem d_and (ha : PE X a (tD Z fa)) (hb : PE X b (tD Z fb)) : PE X (.BinOp a .BitAnd b pos) (tD Z (eBin dAnd fa fb)) := d_op op_and and_ok ha hb
def dNeg : D → R D
  | .int i => .ok (.int (-i))
  | _ => .bad
theorem un_ok {r : V → Hp → VK → Prop} {g : D → R D} (hr : ∀ (O : List Addr) (H : Hp) (x : V) (p : D) (Q : VK), Rp (hide O H) x p → (∀ z ∈ O, H z ≠ none) → Pst Rp Z O H (g p) Q → r x H Q) (σ : L2.St) (H : Hp) (Q : VK) (h : tD Z (eUn g fa) σ H Q) : (tD Z fa) σ H fun x H1 => r x H1 Q := by
  obtain ⟨O, ρ, hp, h⟩ := h
  exact ⟨O, ρ, hp, Pst.bind' h fun p x H1 _ s1 h1 k1 => hr O H1 x p Q h1 (hp.mono s1).dom k1⟩
theorem d_neg (ha : PE X a (tD Z fa)) : PE X (.UnaryOp .USub a pos) (tD Z (eUn dNeg fa)) := pe_weak (pe_un un_neg ha) (un_ok fun O H x p Q hx _ h => by
  cases hx with
  | int i => exact ⟨i, rfl, h _ H (Same.refl _) (.int _)⟩
  | _ => exact h.elim)

theorem Rp.ref_lst {H : Hp} {O : List Addr} {v : V} {ds : List D} (h : Rp (hide O H) v (.list ds)) : ∃ a vs, v = .ref a ∧ a ∉ O ∧ H a = some (.lst vs) ∧ RpL (hide O H) vs ds := by
  cases h with
  | lst h r =>
    obtain ⟨h1, h2⟩ := hide_some h
    exact ⟨_, _, rfl, h1, h2, r⟩
theorem Rp.ref_tup {H : Hp} {O : List Addr} {v : V} {ds : List D} (h : Rp (hide O H) v (.tuple ds)) : ∃ a vs, v = .ref a ∧ a ∉ O ∧ H a = some (.tup vs) ∧ RpL (hide O H) vs ds := by
  cases h with
  | tup h r =>
    obtain ⟨h1, h2⟩ := hide_some h
    exact ⟨_, _, rfl, h1, h2, r⟩
theorem new_out {O : List Addr} {H : Hp} {p : Addr} (h : ∀ z ∈ O, H z ≠ none) (hp : H p = none) : p ∉ O := fun z => h p z hp
/-- a new list, a new tuple, as data -/
theorem Rp.newL {O : List Addr} {H : Hp} {p : Addr} {vs : List V} {ds : List D} (hO : ∀ z ∈ O, H z ≠ none) (hp : H p = none) (r : RpL (hide O H) vs ds) : Rp (hide O (upd H p (.lst vs))) (.ref p) (.list ds) :=
  .lst (hide_upd (new_out hO hp)) (r.mono (hide_mono (same_new hp)))
theorem Rp.newT {O : List Addr} {H : Hp} {p : Addr} {vs : List V} {ds : List D} (hO : ∀ z ∈ O, H z ≠ none) (hp : H p = none) (r : RpL (hide O H) vs ds) : Rp (hide O (upd H p (.tup vs))) (.ref p) (.tuple ds) :=
  .tup (hide_upd (new_out hO hp)) (r.mono (hide_mono (same_new hp)))
theorem pst_ok {O : List Addr} {H H' : Hp} {d : D} {v : V} {Q : VK} (h : Pst Rp Z O H (.ok d) Q) (s : Same H H') (r : Rp (hide O H') v d) : Q v H' := h v H' s r

theorem add_ok : OpD Z (fun x y H Q => (∃ i j, x = .int i ∧ y = .int j ∧ Q (.int (i + j)) H) ∨ ((∃ i j, x = .str i ∧ y = .str j ∧ i.length + j.length ≤ sizeLine ∧ Q (.str (i ++ j)) H) ∨ rCat x y H Q)) dAdd := by
  intro O H x y p q Q hx hy hO h
  cases p with
  | int i =>
    cases q with
    | int j => cases hx; cases hy; exact .inl ⟨i, j, rfl, rfl, pst_ok h (Same.refl _) (.int _)⟩
    | _ => exact h.elim
  | str i =>
    cases q with
    | str j =>
      cases hx; cases hy
      have h' : Pst Rp Z O H (if i.length + j.length ≤ lim then .ok (.str (i ++ j)) else .bad) Q := h
      by_cases e : i.length + j.length ≤ lim
      · rw [if_pos e] at h'
        exact .inr (.inl ⟨i, j, rfl, rfl, by rw [lim_eq]; exact e, pst_ok h' (Same.refl _) (.str _)⟩)
      · rw [if_neg e] at h'; exact h'.elim
    | _ => exact h.elim
  | list xs =>
    cases q with
    | list ys =>
      obtain ⟨a, vs, rfl, _, ha, ra⟩ := hx.ref_lst
      obtain ⟨b, ws, rfl, _, hb, rb⟩ := hy.ref_lst
      have h' : Pst Rp Z O H (if xs.length + ys.length ≤ lim then .ok (.list (xs ++ ys)) else .bad) Q := h
      by_cases e : xs.length + ys.length ≤ lim
      · rw [if_pos e] at h'
        refine .inr (.inr ⟨a, b, vs, ws, rfl, rfl, ha, hb, ?_, fun p hp => ?_⟩)
        · rw [lim_eq, ra.length, rb.length]; exact e
        · exact pst_ok h' (same_new hp) (.newL hO hp (ra.append rb))
      · rw [if_neg e] at h'; exact h'.elim
    | _ => exact h.elim
  | _ => cases q <;> exact h.elim
theorem d_add (ha : PE X a (tD Z fa)) (hb : PE X b (tD Z fb)) : PE X (.BinOp a .Add b pos) (tD Z (eBin dAdd fa fb)) := d_op (op_add.or (op_add_str.or op_cat)) add_ok ha hb
theorem mul_ok : OpD Z (fun x y H Q => (rI CMul fun i j => .int (i * j)) x y H Q ∨ rRep x y H Q) dMul := by
  intro O H x y p q Q hx hy hO h
  cases p with
  | int i =>
    cases q with
    | int j =>
      cases hx; cases hy
      have h' : Pst Rp Z O H (if small64b i || small64b j then .ok (.int (i * j)) else .bad) Q := h
      by_cases e : (small64b i || small64b j) = true
      · rw [if_pos e] at h'
        refine .inl ⟨i, j, rfl, rfl, ?_, pst_ok h' (Same.refl _) (.int _)⟩
        simp only [small64b, Bool.or_eq_true, Bool.and_eq_true, decide_eq_true_eq] at e
        exact e
      · rw [if_neg e] at h'; exact h'.elim
    | _ => exact h.elim
  | list xs =>
    cases q with
    | int k =>
      obtain ⟨a, vs, rfl, _, ha, ra⟩ := hx.ref_lst
      cases hy
      have h' : Pst Rp Z O H (if k ≤ 1000 ∧ xs.length ≤ 1000 ∧ -1000 ≤ k then .ok (.list (List.replicate k.toNat xs).flatten) else .bad) Q := h
      by_cases e : k ≤ 1000 ∧ xs.length ≤ 1000 ∧ -1000 ≤ k
      · rw [if_pos e] at h'
        obtain ⟨e1, e2, e3⟩ := e
        refine .inr ⟨a, k, vs, rfl, rfl, ha, by omega, by omega, ?_, fun p hp => ?_⟩
        · rw [lim_eq, ra.length]
          have h1 : k.toNat ≤ 1000 := by omega
          exact Nat.le_trans (Nat.mul_le_mul e2 h1) (by decide)
        · refine pst_ok h' (same_new hp) (.newL hO hp ?_)
          have go : ∀ n : Nat, RpL (hide O H) (List.replicate n vs).flatten (List.replicate n xs).flatten := by
            intro n
            induction n with
            | zero => exact .nil
            | succ n ih =>
              rw [List.replicate_succ, List.replicate_succ, List.flatten_cons, List.flatten_cons]
              exact ra.append ih
          exact go _
      · rw [if_neg e] at h'; exact h'.elim
    | _ => exact h.elim
  | _ => cases q <;> exact h.elim
theorem d_mul (ha : PE X a (tD Z fa)) (hb : PE X b (tD Z fb)) : PE X (.BinOp a .Mult b pos) (tD Z (eBin dMul fa fb)) := d_op (op_mul.or op_rep) mul_ok ha hb
end
end RL

set_option Elab.async false
set_option linter.all false
set_option maxRecDepth 100000
set_option maxHeartbeats 1000000
/-! # The D-layer: comparisons, tests, displays, items, slices -/
namespace RL
open PySem PySem.Spec PyProof.Rows L2

section
variable {X : Cx} {Z : Zx} {a b c : Expr} {fa fb fc : Ev → R D} {pos : Pos}

/-! ### == -/
def dEq : D → D → R Bool
  | .str x, .str y => .ok (decide (x = y))
  | p, q => if SeqAt.shaped p && SeqAt.shaped q then .ok (PyData.eqv p q) else .bad
def dEqV (p q : D) : R D := dEq p q >>= fun k => .ok (.bool k)
def dNeV (p q : D) : R D := dEq p q >>= fun k => .ok (.bool (!k))
theorem dEq_cases {p q : D} : (∃ x y, p = .str x ∧ q = .str y ∧ dEq p q = .ok (decide (x = y))) ∨ dEq p q = (if SeqAt.shaped p && SeqAt.shaped q then .ok (PyData.eqv p q) else .bad) := by
  cases p with
  | str x =>
    cases q with
    | str y => exact .inl ⟨x, y, rfl, rfl, rfl⟩
    | _ => exact .inr rfl
  | _ => exact .inr rfl
theorem eq_ok {K : PySem.W.Frag} {neg : Bool} {f : Bool → Bool} (hf : ∀ k, f k = if neg then !k else k) : OpD Z (fun x y H Q => (scal x y = true ∧ Q (.bl (f (decide (x = y)))) H) ∨ ∃ d e, Dp K H x d ∧ Dp K H y e ∧ SeqAt.shaped d = true ∧ SeqAt.shaped e = true ∧ Q (.bl (f (PyData.eqv d e))) H) (fun p q => dEq p q >>= fun k => .ok (.bool (f k))) := by
  intro O H x y p q Q hx hy hO h
  dsimp only at h
  rcases dEq_cases (p := p) (q := q) with ⟨x', y', rfl, rfl, e⟩ | e
  · cases hx; cases hy
    rw [e] at h
    refine .inl ⟨rfl, ?_⟩
    have q1 : decide (V.str x' = V.str y') = decide (x' = y') := by
      by_cases z : x' = y'
      · subst z; simp
      · rw [decide_eq_false z, decide_eq_false (fun w => z (V.str.inj w))]
    rw [q1]
    exact pst_ok h (Same.refl _) (.bl _)
  · rw [e] at h
    by_cases s : (SeqAt.shaped p && SeqAt.shaped q) = true
    · rw [if_pos s] at h
      obtain ⟨s1, s2⟩ := Bool.and_eq_true_iff.mp s
      refine .inr ⟨p, q, (hx.mono (hide_le _ _)).dp (.inl s1), (hy.mono (hide_le _ _)).dp (.inl s2), s1, s2, pst_ok h (Same.refl _) (.bl _)⟩
    · rw [if_neg s] at h
      exact h.elim
theorem eqV_ok {K : PySem.W.Frag} : OpD Z (fun x y H Q => rEq x y H Q ∨ rEqD K x y H Q) dEqV := eq_ok (K := K) (neg := false) (f := fun k => k) fun _ => rfl
theorem neV_ok {K : PySem.W.Frag} : OpD Z (fun x y H Q => rNe x y H Q ∨ rNeD K x y H Q) dNeV := eq_ok (K := K) (neg := true) (f := fun k => !k) fun _ => rfl
theorem d_eq (hu : X.A.units + 64 < cLine) (ha : PE X a (tD Z fa)) (hb : PE X b (tD Z fb)) : PE X (.Compare a [.Eq] [b] pos) (tD Z (eBin dEqV fa fb)) := d_cmp (op_eq.or (op_eqD hu)) eqV_ok ha hb (nomark _)
theorem d_ne (hu : X.A.units + 64 < cLine) (ha : PE X a (tD Z fa)) (hb : PE X b (tD Z fb)) : PE X (.Compare a [.NotEq] [b] pos) (tD Z (eBin dNeV fa fb)) := d_cmp (op_ne.or (op_neD hu)) neV_ok ha hb (nomark _)
theorem dt_eq (hu : X.A.units + 64 < cLine) (ha : PE X a (tD Z fa)) (hb : PE X b (tD Z fb)) : PT X (.Compare a [.Eq] [b] pos) (tB' Z (eB (eBin dEqV fa fb))) := dt_cmp (op_eq.or (op_eqD hu)) eqV_ok ha hb (nomark _)
theorem dt_ne (hu : X.A.units + 64 < cLine) (ha : PE X a (tD Z fa)) (hb : PE X b (tD Z fb)) : PT X (.Compare a [.NotEq] [b] pos) (tB' Z (eB (eBin dNeV fa fb))) := dt_cmp (op_ne.or (op_neD hu)) neV_ok ha hb (nomark _)

/-! ### order of ints -/
def dCmp (f : Int → Int → Bool) : D → D → R D
  | .int i, .int j => .ok (.bool (f i j))
  | _, _ => .bad
abbrev fLt : Int → Int → Bool := fun i j => decide (i < j)
abbrev fLe : Int → Int → Bool := fun i j => decide (i ≤ j)
abbrev fGt : Int → Int → Bool := fun i j => decide (j < i)
abbrev fGe : Int → Int → Bool := fun i j => decide (j ≤ i)
theorem cmp_ok {f : Int → Int → Bool} : OpD Z (rI0 fun i j => .bl (f i j)) (dCmp f) := (rI0_ok (k := fun i j => .bool (f i j)) fun _ _ _ => .bl _).eq fun p q => by cases p <;> cases q <;> rfl
theorem d_lt (ha : PE X a (tD Z fa)) (hb : PE X b (tD Z fb)) : PE X (.Compare a [.Lt] [b] pos) (tD Z (eBin (dCmp fLt) fa fb)) := d_cmp op_lt cmp_ok ha hb (nomark _)
theorem d_le (ha : PE X a (tD Z fa)) (hb : PE X b (tD Z fb)) : PE X (.Compare a [.LtE] [b] pos) (tD Z (eBin (dCmp fLe) fa fb)) := d_cmp op_le cmp_ok ha hb (nomark _)
theorem d_gt (ha : PE X a (tD Z fa)) (hb : PE X b (tD Z fb)) : PE X (.Compare a [.Gt] [b] pos) (tD Z (eBin (dCmp fGt) fa fb)) := d_cmp op_gt cmp_ok ha hb (nomark _)
theorem d_ge (ha : PE X a (tD Z fa)) (hb : PE X b (tD Z fb)) : PE X (.Compare a [.GtE] [b] pos) (tD Z (eBin (dCmp fGe) fa fb)) := d_cmp op_ge cmp_ok ha hb (nomark _)
theorem dt_lt (ha : PE X a (tD Z fa)) (hb : PE X b (tD Z fb)) : PT X (.Compare a [.Lt] [b] pos) (tB' Z (eB (eBin (dCmp fLt) fa fb))) := dt_cmp op_lt cmp_ok ha hb (nomark _)
theorem dt_le (ha : PE X a (tD Z fa)) (hb : PE X b (tD Z fb)) : PT X (.Compare a [.LtE] [b] pos) (tB' Z (eB (eBin (dCmp fLe) fa fb))) := dt_cmp op_le cmp_ok ha hb (nomark _)
theorem dt_gt (ha : PE X a (tD Z fa)) (hb : PE X b (tD Z fb)) : PT X (.Compare a [.Gt] [b] pos) (tB' Z (eB (eBin (dCmp fGt) fa fb))) := dt_cmp op_gt cmp_ok ha hb (nomark _)
theorem dt_ge (ha : PE X a (tD Z fa)) (hb : PE X b (tD Z fb)) : PT X (.Compare a [.GtE] [b] pos) (tB' Z (eB (eBin (dCmp fGe) fa fb))) := dt_cmp op_ge cmp_ok ha hb (nomark _)
/-- a op b op' c, of ints -/
def eChain (f g : Int → Int → Bool) (fa fb fc : Ev → R D) : Ev → R D := fun ρ => fa ρ >>= fun p => fb ρ >>= fun q => match p, q with
  | .int i, .int j => if f i j = true then fc ρ >>= fun r => (match r with | .int k => .ok (.bool (g j k)) | _ => .bad) else .ok (.bool false)
  | _, _ => .bad
theorem chain_ok {f g : Int → Int → Bool} (σ : L2.St) (H : Hp) (Q : VK) (h : tD Z (eChain f g fa fb fc) σ H Q) : tChain (rI0 fun i j => .bl (f i j)) (rI0 fun i j => .bl (g i j)) (tD Z fa) (tD Z fb) (tD Z fc) σ H Q := by
  obtain ⟨O, ρ, hp, h⟩ := h
  refine ⟨O, ρ, hp, Pst.bind' h fun p x H1 _ s1 h1 k1 => ?_⟩
  refine ⟨O, ρ, hp.mono s1, Pst.bind' k1 fun q y H2 _ s2 h2 k2 => ?_⟩
  cases h1 with
  | int i =>
    cases h2 with
    | int j =>
      refine ⟨i, j, rfl, rfl, f i j, rfl, ?_⟩
      have k3 : Pst Rp Z O H2 (if f i j = true then fc ρ >>= fun r => (match r with | .int k => .ok (.bool (g j k)) | _ => .bad) else .ok (.bool false)) Q := k2
      by_cases e : f i j = true
      · rw [if_pos e] at k3
        rw [if_pos e]
        refine ⟨O, ρ, hp.mono (s1.trans s2), Pst.bind' k3 fun r z H3 _ s3 h3 k4 => ?_⟩
        cases h3 with
        | int k => exact ⟨j, k, rfl, rfl, pst_ok k4 (Same.refl _) (.bl _)⟩
        | _ => exact k4.elim
      · rw [if_neg e] at k3
        rw [if_neg e]
        exact pst_ok k3 (Same.refl _) (.bl _)
    | _ => exact k2.elim
  | _ => cases h2 <;> exact k2.elim
theorem d_chLeLe (ha : PE X a (tD Z fa)) (hb : PE X b (tD Z fb)) (hc : PE X c (tD Z fc)) (hm : lastMarks [.LtE, .LtE] [b, c] = false := by with_unfolding_all rfl) : PE X (.Compare a [.LtE, .LtE] [b, c] pos) (tD Z (eChain fLe fLe fa fb fc)) := pe_weak (pe_chain op_le op_le ha hb hc hm) chain_ok
theorem d_chLeLt (ha : PE X a (tD Z fa)) (hb : PE X b (tD Z fb)) (hc : PE X c (tD Z fc)) (hm : lastMarks [.LtE, .Lt] [b, c] = false := by with_unfolding_all rfl) : PE X (.Compare a [.LtE, .Lt] [b, c] pos) (tD Z (eChain fLe fLt fa fb fc)) := pe_weak (pe_chain op_le op_lt ha hb hc hm) chain_ok
theorem dt_chLeLe (ha : PE X a (tD Z fa)) (hb : PE X b (tD Z fb)) (hc : PE X c (tD Z fc)) (hm : lastMarks [.LtE, .LtE] [b, c] = false := by with_unfolding_all rfl) : PT X (.Compare a [.LtE, .LtE] [b, c] pos) (tB' Z (eB (eChain fLe fLe fa fb fc))) := pt_weak (pt_chain op_le op_le ha hb hc hm) fun σ H Q h => chain_ok σ H _ (tst_ok σ H Q h)
theorem dt_chLeLt (ha : PE X a (tD Z fa)) (hb : PE X b (tD Z fb)) (hc : PE X c (tD Z fc)) (hm : lastMarks [.LtE, .Lt] [b, c] = false := by with_unfolding_all rfl) : PT X (.Compare a [.LtE, .Lt] [b, c] pos) (tB' Z (eB (eChain fLe fLt fa fb fc))) := pt_weak (pt_chain op_le op_lt ha hb hc hm) fun σ H Q h => chain_ok σ H _ (tst_ok σ H Q h)

/-! ### is None -/
def isN : D → Bool
  | .none => true
  | _ => false
def dIs : D → D → R D := fun p q => match q with
  | .none => .ok (.bool (isN p))
  | _ => .bad
def dIsNot : D → D → R D := fun p q => match q with
  | .none => .ok (.bool (!isN p))
  | _ => .bad
theorem Rp.isN {H : Hp} {x : V} {p : D} (h : Rp H x p) : decide (x = V.non) = RL.isN p := by
  cases h <;> first | rfl | (simp [RL.isN])
theorem is_ok : OpD Z (fun x y H Q => y = .non ∧ Q (.bl (decide (x = .non))) H) dIs := by
  intro O H x y p q Q hx hy hO h
  cases hy with
  | non => exact ⟨rfl, by rw [hx.isN]; exact pst_ok h (Same.refl _) (.bl _)⟩
  | _ => exact h.elim
theorem isnot_ok : OpD Z (fun x y H Q => y = .non ∧ Q (.bl (!decide (x = .non))) H) dIsNot := by
  intro O H x y p q Q hx hy hO h
  cases hy with
  | non => exact ⟨rfl, by rw [hx.isN]; exact pst_ok h (Same.refl _) (.bl _)⟩
  | _ => exact h.elim
theorem d_is (ha : PE X a (tD Z fa)) (hb : PE X b (tD Z fb)) : PE X (.Compare a [.Is] [b] pos) (tD Z (eBin dIs fa fb)) := d_cmp op_isN is_ok ha hb (nomark _)
theorem d_isnot (ha : PE X a (tD Z fa)) (hb : PE X b (tD Z fb)) : PE X (.Compare a [.IsNot] [b] pos) (tD Z (eBin dIsNot fa fb)) := d_cmp op_notN isnot_ok ha hb (nomark _)
theorem dt_is (ha : PE X a (tD Z fa)) (hb : PE X b (tD Z fb)) : PT X (.Compare a [.Is] [b] pos) (tB' Z (eB (eBin dIs fa fb))) := dt_cmp op_isN is_ok ha hb (nomark _)
theorem dt_isnot (ha : PE X a (tD Z fa)) (hb : PE X b (tD Z fb)) : PT X (.Compare a [.IsNot] [b] pos) (tB' Z (eB (eBin dIsNot fa fb))) := dt_cmp op_notN isnot_ok ha hb (nomark _)

/-! ### in -/
/-- x in a tuple, data of any depth -/
theorem room_in {d : D} {n : Nat} {A : Around} (h : SeqAt.shaped d = true) (hu : A.units + 65 < cLine) : A.units + 1 + min n d.depth < cLine := by
  have h1 := SeqAt.depth_of_shaped h
  have h2 : min n d.depth ≤ d.depth := Nat.min_le_right _ _
  omega
def rInTD (K : PySem.W.Frag) (neg : Bool) : R2 := fun x y H Q => ∃ d ds, Dp K H x d ∧ Dp K H y (.tuple ds) ∧ SeqAt.shaped d = true ∧ SeqAt.shaped (.tuple ds) = true ∧ Q (.bl (if neg then !ds.any fun z => PyData.eqv z d else ds.any fun z => PyData.eqv z d)) H
theorem op_inTD (hu : X.A.units + 65 < cLine) : OpR X (compareOp .In) (rInTD X.K false) := by
  intro pins s σ H x y v u Q I rx ry ⟨d, ds, hd, he, sd, se, q⟩
  obtain ⟨as, r1⟩ := Dp.reads I d x v hd rx
  obtain ⟨bs, r2⟩ := Dp.reads I (.tuple ds) y u he ry
  have e1 : PyData.canLayAll0 ds = true := SeqAt.canLay_of_shaped se
  exact SeqAt.in_tuple_reads r2 r1 e1 (SeqAt.canLay_of_shaped sd) (room_in sd hu) ⟨.bl _, H, I, rfl, q⟩
theorem op_notInTD (hu : X.A.units + 65 < cLine) : OpR X (compareOp .NotIn) (rInTD X.K true) := by
  intro pins s σ H x y v u Q I rx ry ⟨d, ds, hd, he, sd, se, q⟩
  obtain ⟨as, r1⟩ := Dp.reads I d x v hd rx
  obtain ⟨bs, r2⟩ := Dp.reads I (.tuple ds) y u he ry
  have e1 : PyData.canLayAll0 ds = true := SeqAt.canLay_of_shaped se
  exact SeqAt.notIn_tuple_reads r2 r1 e1 (SeqAt.canLay_of_shaped sd) (room_in sd hu) ⟨.bl _, H, I, rfl, q⟩
/-- x in y: a list, a tuple (any data), a text (one sign) -/
def inB : D → D → R Bool
  | .str x, .str y => match x.cps.toList with
    | [c] => .ok (decide (c ∈ y.cps.toList))
    | _ => .bad
  | p, .list ds => if SeqAt.shaped p && SeqAt.shaped (.list ds) then .ok (ds.any fun z => PyData.eqv z p) else .bad
  | p, .tuple ds => if SeqAt.shaped p && SeqAt.shaped (.tuple ds) then .ok (ds.any fun z => PyData.eqv z p) else .bad
  | _, _ => .bad
def dIn (p q : D) : R D := inB p q >>= fun k => .ok (.bool k)
def dNotIn (p q : D) : R D := inB p q >>= fun k => .ok (.bool (!k))
theorem inB_list {p : D} {ds : List D} : inB p (.list ds) = if SeqAt.shaped p && SeqAt.shaped (.list ds) then .ok (ds.any fun z => PyData.eqv z p) else .bad := by cases p <;> rfl
theorem inB_tuple {p : D} {ds : List D} : inB p (.tuple ds) = if SeqAt.shaped p && SeqAt.shaped (.tuple ds) then .ok (ds.any fun z => PyData.eqv z p) else .bad := by cases p <;> rfl
theorem in_ok_gen {K : PySem.W.Frag} {neg : Bool} {f : Bool → Bool} (hf : ∀ k, f k = if neg then !k else k) :
    OpD Z (fun x y H Q => (∃ (c : Nat) (z : Str), x = .str ⟨#[c]⟩ ∧ y = .str z ∧ Q (.bl (f (decide (c ∈ z.cps.toList)))) H) ∨
      ((∃ d ds, Dp K H x d ∧ Dp K H y (.list ds) ∧ SeqAt.shaped d = true ∧ SeqAt.shaped (.list ds) = true ∧ Q (.bl (f (ds.any fun z => PyData.eqv z d))) H) ∨
        ∃ d ds, Dp K H x d ∧ Dp K H y (.tuple ds) ∧ SeqAt.shaped d = true ∧ SeqAt.shaped (.tuple ds) = true ∧ Q (.bl (f (ds.any fun z => PyData.eqv z d))) H)) (fun p q => inB p q >>= fun k => .ok (.bool (f k))) := by
  intro O H x y p q Q hx hy hO h
  cases q with
  | list ds =>
    have h' : Pst Rp Z O H ((inB p (.list ds)) >>= fun k => .ok (.bool (f k))) Q := h
    rw [inB_list] at h'
    by_cases s : (SeqAt.shaped p && SeqAt.shaped (.list ds)) = true
    · rw [if_pos s] at h'
      obtain ⟨s1, s2⟩ := Bool.and_eq_true_iff.mp s
      exact .inr (.inl ⟨p, ds, (hx.mono (hide_le _ _)).dp (.inl s1), (hy.mono (hide_le _ _)).dp (.inl s2), s1, s2, pst_ok h' (Same.refl _) (.bl _)⟩)
    · rw [if_neg s] at h'; exact h'.elim
  | tuple ds =>
    have h' : Pst Rp Z O H ((inB p (.tuple ds)) >>= fun k => .ok (.bool (f k))) Q := h
    rw [inB_tuple] at h'
    by_cases s : (SeqAt.shaped p && SeqAt.shaped (.tuple ds)) = true
    · rw [if_pos s] at h'
      obtain ⟨s1, s2⟩ := Bool.and_eq_true_iff.mp s
      exact .inr (.inr ⟨p, ds, (hx.mono (hide_le _ _)).dp (.inl s1), (hy.mono (hide_le _ _)).dp (.inl s2), s1, s2, pst_ok h' (Same.refl _) (.bl _)⟩)
    · rw [if_neg s] at h'; exact h'.elim
  | str z =>
    cases p with
    | str w =>
      cases hx; cases hy
      obtain ⟨⟨l⟩⟩ := w
      match l with
      | [] => exact h.elim
      | [c] => exact .inl ⟨c, z, rfl, rfl, pst_ok h (Same.refl _) (.bl _)⟩
      | _ :: _ :: _ => exact h.elim
    | _ => exact h.elim
  | _ => cases p <;> exact h.elim
theorem d_in (hu : X.A.units + 65 < cLine) (ha : PE X a (tD Z fa)) (hb : PE X b (tD Z fb)) (hm : behindInMarks .In b = false := by rfl) : PE X (.Compare a [.In] [b] pos) (tD Z (eBin dIn fa fb)) :=
  d_cmp (op_in_sign.or ((op_inD hu).or (op_inTD hu))) (in_ok_gen (K := X.K) (neg := false) (f := fun k => k) fun _ => rfl) ha hb hm
theorem dt_in (hu : X.A.units + 65 < cLine) (ha : PE X a (tD Z fa)) (hb : PE X b (tD Z fb)) (hm : behindInMarks .In b = false := by rfl) : PT X (.Compare a [.In] [b] pos) (tB' Z (eB (eBin dIn fa fb))) :=
  dt_cmp (op_in_sign.or ((op_inD hu).or (op_inTD hu))) (in_ok_gen (K := X.K) (neg := false) (f := fun k => k) fun _ => rfl) ha hb hm
theorem d_notin (hu : X.A.units + 65 < cLine) (ha : PE X a (tD Z fa)) (hb : PE X b (tD Z fb)) (hm : behindInMarks .NotIn b = false := by rfl) : PE X (.Compare a [.NotIn] [b] pos) (tD Z (eBin dNotIn fa fb)) :=
  d_cmp (op_notIn_sign.or ((op_notInD hu).or (op_notInTD hu))) (in_ok_gen (K := X.K) (neg := true) (f := fun k => !k) fun _ => rfl) ha hb hm
theorem dt_notin (hu : X.A.units + 65 < cLine) (ha : PE X a (tD Z fa)) (hb : PE X b (tD Z fb)) (hm : behindInMarks .NotIn b = false := by rfl) : PT X (.Compare a [.NotIn] [b] pos) (tB' Z (eB (eBin dNotIn fa fb))) :=
  dt_cmp (op_notIn_sign.or ((op_notInD hu).or (op_notInTD hu))) (in_ok_gen (K := X.K) (neg := true) (f := fun k => !k) fun _ => rfl) ha hb hm

/-! ### and, or, not, if -/
variable {rest : List Expr}
def eAnd (fa fb : Ev → R D) : Ev → R D := fun ρ => fa ρ >>= asB >>= fun k => if k then fb ρ else .ok (.bool false)
def eOr (fa fb : Ev → R D) : Ev → R D := fun ρ => fa ρ >>= asB >>= fun k => if k then .ok (.bool true) else fb ρ
def eNot (fa : Ev → R D) : Ev → R D := fun ρ => fa ρ >>= asB >>= fun k => .ok (.bool (!k))
theorem R.assoc {α β γ : Type} (r : R α) (f : α → R β) (g : β → R γ) : (r >>= f >>= g) = (r >>= fun a => f a >>= g) := by cases r <;> rfl
theorem andV_ok (σ : L2.St) (H : Hp) (Q : VK) (h : tD Z (eAnd fa fb) σ H Q) : tAndV (tD Z fa) (tD Z fb) σ H Q := by
  obtain ⟨O, ρ, hp, h⟩ := h
  have h0 : Pst Rp Z O H (fa ρ >>= fun d => asB d >>= fun k => if k then fb ρ else .ok (.bool false)) Q := by rw [← R.assoc]; exact h
  refine ⟨O, ρ, hp, Pst.bind' h0 fun p x H1 _ s1 h1 k1 => ?_⟩
  cases h1 with
  | bl k =>
    refine ⟨k, rfl, ?_⟩
    have k2 : Pst Rp Z O H1 (if k then fb ρ else .ok (.bool false)) Q := k1
    cases k with
    | true => exact iteT ⟨O, ρ, hp.mono s1, by simpa using k2⟩
    | false => exact iteF (pst_ok (by simpa using k2) (Same.refl _) (.bl _))
  | _ => exact k1.elim
theorem orV_ok (σ : L2.St) (H : Hp) (Q : VK) (h : tD Z (eOr fa fb) σ H Q) : tOrV (tD Z fa) (tD Z fb) σ H Q := by
  obtain ⟨O, ρ, hp, h⟩ := h
  have h0 : Pst Rp Z O H (fa ρ >>= fun d => asB d >>= fun k => if k then .ok (.bool true) else fb ρ) Q := by rw [← R.assoc]; exact h
  refine ⟨O, ρ, hp, Pst.bind' h0 fun p x H1 _ s1 h1 k1 => ?_⟩
  cases h1 with
  | bl k =>
    refine ⟨k, rfl, ?_⟩
    have k2 : Pst Rp Z O H1 (if k then .ok (.bool true) else fb ρ) Q := k1
    cases k with
    | false => exact iteF ⟨O, ρ, hp.mono s1, by simpa using k2⟩
    | true => exact iteT (pst_ok (by simpa using k2) (Same.refl _) (.bl _))
  | _ => exact k1.elim
theorem notV_ok (σ : L2.St) (H : Hp) (Q : VK) (h : tD Z (eNot fa) σ H Q) : tNotV (tD Z fa) σ H Q := by
  obtain ⟨O, ρ, hp, h⟩ := h
  have h0 : Pst Rp Z O H (fa ρ >>= fun d => asB d >>= fun k => .ok (.bool (!k))) Q := by rw [← R.assoc]; exact h
  refine ⟨O, ρ, hp, Pst.bind' h0 fun p x H1 _ s1 h1 k1 => ?_⟩
  cases h1 with
  | bl k => exact ⟨k, rfl, pst_ok k1 (Same.refl _) (.bl _)⟩
  | _ => exact k1.elim
theorem d_one {op : BoolOp} (ha : PE X a (tD Z fa)) : PE X (.BoolOp op [a] pos) (tD Z fa) := pe_one ha
theorem d_andV (ha : PE X a (tD Z fa)) (hb : PE X (.BoolOp .And (b :: rest) pos) (tD Z fb)) : PE X (.BoolOp .And (a :: b :: rest) pos) (tD Z (eAnd fa fb)) := pe_weak (pe_and ha hb) andV_ok
theorem d_orV (ha : PE X a (tD Z fa)) (hb : PE X (.BoolOp .Or (b :: rest) pos) (tD Z fb)) : PE X (.BoolOp .Or (a :: b :: rest) pos) (tD Z (eOr fa fb)) := pe_weak (pe_or ha hb) orV_ok
theorem d_notV (ha : PE X a (tD Z fa)) : PE X (.UnaryOp .Not a pos) (tD Z (eNot fa)) := pe_weak (pe_not ha) notV_ok
/-- tests: plain bools -/
def tAndB (fa fb : Ev → R Bool) : Ev → R Bool := fun ρ => fa ρ >>= fun k => if k then fb ρ else .ok false
def tOrB (fa fb : Ev → R Bool) : Ev → R Bool := fun ρ => fa ρ >>= fun k => if k then .ok true else fb ρ
def tNotB (fa : Ev → R Bool) : Ev → R Bool := fun ρ => fa ρ >>= fun k => .ok (!k)
variable {ga gb : Ev → R Bool}
theorem dt_one_and (ha : PT X a (tB' Z ga)) : PW X (.BoolOp .And [a] pos) (tB' Z ga) := pw_and1 ha
theorem dt_one_or (ha : PT X a (tB' Z ga)) : PW X (.BoolOp .Or [a] pos) (tB' Z ga) := pw_or1 ha
theorem dt_and (ha : PT X a (tB' Z ga)) (hb : PW X (.BoolOp .And (b :: rest) pos) (tB' Z gb)) : PW X (.BoolOp .And (a :: b :: rest) pos) (tB' Z (tAndB ga gb)) := pw_weak (pw_and ha hb) fun σ H Q h => by
  obtain ⟨O, ρ, hp, h⟩ := h
  refine ⟨O, ρ, hp, Pst.bind' h fun k x H1 _ s1 h1 k1 => ?_⟩
  have h1' : x = k := h1
  subst h1'
  cases x with
  | true => exact iteT ⟨O, ρ, hp.mono s1, by simpa using k1⟩
  | false =>
    have k2 : Pst relB Z O H1 (.ok false) Q := by simpa using k1
    exact iteF (k2 false H1 (Same.refl _) rfl)
theorem dt_or (ha : PT X a (tB' Z ga)) (hb : PW X (.BoolOp .Or (b :: rest) pos) (tB' Z gb)) : PW X (.BoolOp .Or (a :: b :: rest) pos) (tB' Z (tOrB ga gb)) := pw_weak (pw_or ha hb) fun σ H Q h => by
  obtain ⟨O, ρ, hp, h⟩ := h
  refine ⟨O, ρ, hp, Pst.bind' h fun k x H1 _ s1 h1 k1 => ?_⟩
  have h1' : x = k := h1
  subst h1'
  cases x with
  | false => exact iteF ⟨O, ρ, hp.mono s1, by simpa using k1⟩
  | true =>
    have k2 : Pst relB Z O H1 (.ok true) Q := by simpa using k1
    exact iteT (k2 true H1 (Same.refl _) rfl)
theorem dt_not (ha : PT X a (tB' Z ga)) : PT X (.UnaryOp .Not a pos) (tB' Z (tNotB ga)) := pt_weak (pt_not ha) fun σ H Q h => by
  obtain ⟨O, ρ, hp, h⟩ := h
  refine ⟨O, ρ, hp, Pst.bind' h fun k x H1 _ s1 h1 k1 => ?_⟩
  have h1' : x = k := h1
  subst h1'
  have k2 : Pst relB Z O H1 (.ok (!x)) Q := k1
  exact k2 (!x) H1 (Same.refl _) rfl
def eIf (g : Ev → R Bool) (fa fb : Ev → R D) : Ev → R D := fun ρ => g ρ >>= fun k => if k then fa ρ else fb ρ
theorem d_if {t : Expr} (ht : PT X t (tB' Z ga)) (ha : PE X a (tD Z fa)) (hb : PE X b (tD Z fb)) : PE X (.IfExp t a b pos) (tD Z (eIf ga fa fb)) := pe_weak (pe_ifExp ht ha hb) fun σ H Q h => by
  obtain ⟨O, ρ, hp, h⟩ := h
  refine ⟨O, ρ, hp, Pst.bind' h fun k x H1 _ s1 h1 k1 => ?_⟩
  have h1' : x = k := h1
  subst h1'
  cases x with
  | true => exact iteT ⟨O, ρ, hp.mono s1, by simpa using k1⟩
  | false => exact iteF ⟨O, ρ, hp.mono s1, by simpa using k1⟩

/-! ### arguments, displays -/
def aNil : Ev → R (List D) := fun _ => .ok []
def aCons (f : Ev → R D) (g : Ev → R (List D)) : Ev → R (List D) := fun ρ => f ρ >>= fun d => g ρ >>= fun ds => .ok (d :: ds)
variable {es : List Expr} {fs : Ev → R (List D)}
theorem da_nil : PA X [] (tDs Z aNil) := pa_weak pa_nil fun σ H Q h => by
  obtain ⟨O, ρ, hp, h⟩ := h
  exact h [] H (Same.refl _) .nil
theorem da_cons (ha : PE X a (tD Z fa)) (hr : PA X es (tDs Z fs)) (hs : starEach (a :: es) X.env = (false, eval a X.env) :: starEach es X.env := by rfl) : PA X (a :: es) (tDs Z (aCons fa fs)) := pa_weak (pa_cons ha hr hs) fun σ H Q h => by
  obtain ⟨O, ρ, hp, h⟩ := h
  refine ⟨O, ρ, hp, Pst.bind' h fun d x H1 _ s1 h1 k1 => ?_⟩
  refine ⟨O, ρ, hp.mono s1, Pst.bind' k1 fun ds xs H2 _ s2 h2 k2 => ?_⟩
  exact k2 (x :: xs) H2 (Same.refl _) (.cons (h1.mono (hide_mono s2)) h2)
def eTup (fs : Ev → R (List D)) : Ev → R D := fun ρ => fs ρ >>= fun ds => if ds.length ≤ lim then .ok (.tuple ds) else .bad
def eLst (fs : Ev → R (List D)) : Ev → R D := fun ρ => fs ρ >>= fun ds => if ds.length ≤ lim then .ok (.list ds) else .bad
theorem d_tup {k : Nat} (h : PA X es (tDs Z fs)) : PE X (.Tuple es k pos) (tD Z (eTup fs)) := pe_weak (pe_tup h) fun σ H Q h => by
  obtain ⟨O, ρ, hp, h⟩ := h
  refine ⟨O, ρ, hp, Pst.bind' h fun ds xs H1 _ s1 h1 k1 => ?_⟩
  by_cases e : ds.length ≤ lim
  · rw [if_pos e] at k1
    exact ⟨by rw [lim_eq, h1.length]; exact e, fun p np => pst_ok k1 (same_new np) (.newT (hp.mono s1).dom np h1)⟩
  · rw [if_neg e] at k1; exact k1.elim
theorem d_lst (h : PA X es (tDs Z fs)) : PE X (.List es pos) (tD Z (eLst fs)) := pe_weak (pe_lst h) fun σ H Q h => by
  obtain ⟨O, ρ, hp, h⟩ := h
  refine ⟨O, ρ, hp, Pst.bind' h fun ds xs H1 _ s1 h1 k1 => ?_⟩
  by_cases e : ds.length ≤ lim
  · rw [if_pos e] at k1
    exact ⟨by rw [lim_eq, h1.length]; exact e, fun p np => pst_ok k1 (same_new np) (.newL (hp.mono s1).dom np h1)⟩
  · rw [if_neg e] at k1; exact k1.elim
end
end RL

set_option Elab.async false
set_option linter.all false
set_option maxRecDepth 100000
set_option maxHeartbeats 1000000
/-! # The D-layer: items, slices -/
namespace RL
open PySem PySem.Spec PyProof.Rows L2

section
variable {X : Cx} {Z : Zx} {a b c : Expr} {fa fb fc : Ev → R D} {pos : Pos}

/-! ### items -/
def optR {α : Type} : Option α → R α
  | some a => .ok a
  | none => .bad
def dIx : D → D → R D
  | .list ds, .int i => optR (atI ds i)
  | .tuple ds, .int i => optR (atI ds i)
  | .str z, .int i => if z.length ≤ lim then optR ((atI z.cps.toList i).map fun c => .str ⟨#[c]⟩) else .bad
  | _, _ => .bad
theorem RpL.atI {H : Hp} {vs : List V} {ds : List D} (r : RpL H vs ds) {i : Int} {d : D} (h : L2.atI ds i = some d) : ∃ v, L2.atI vs i = some v ∧ Rp H v d := by
  unfold L2.atI at h ⊢
  rw [r.length]
  cases e : ixN ds.length i with
  | none => rw [e] at h; cases h
  | some j =>
    rw [e] at h
    exact r.get h
theorem ix_ok {K : PySem.W.Frag} : OpD Z (rIx K) dIx := by
  intro O H x y p q Q hx hy hO h
  cases q with
  | int i =>
    cases hy
    cases p with
    | list ds =>
      obtain ⟨a, vs, rfl, _, ha, ra⟩ := hx.ref_lst
      have h' : Pst Rp Z O H (optR (atI ds i)) Q := h
      cases e : atI ds i with
      | none => rw [e] at h'; exact h'.elim
      | some d =>
        rw [e] at h'
        obtain ⟨v, e2, r2⟩ := ra.atI e
        exact .inl ⟨a, vs, i, v, rfl, rfl, SqL.of ha, e2, pst_ok h' (Same.refl _) r2⟩
    | tuple ds =>
      obtain ⟨a, vs, rfl, _, ha, ra⟩ := hx.ref_tup
      have h' : Pst Rp Z O H (optR (atI ds i)) Q := h
      cases e : atI ds i with
      | none => rw [e] at h'; exact h'.elim
      | some d =>
        rw [e] at h'
        obtain ⟨v, e2, r2⟩ := ra.atI e
        exact .inr (.inl ⟨a, vs, i, v, rfl, rfl, SqT.of ha, e2, pst_ok h' (Same.refl _) r2⟩)
    | str z =>
      cases hx
      have h' : Pst Rp Z O H (if z.length ≤ lim then optR ((atI z.cps.toList i).map fun c => .str ⟨#[c]⟩) else .bad) Q := h
      by_cases e : z.length ≤ lim
      · rw [if_pos e] at h'
        cases e2 : atI z.cps.toList i with
        | none => rw [e2] at h'; exact h'.elim
        | some c =>
          rw [e2] at h'
          exact .inr (.inr ⟨z, i, c, rfl, rfl, by rw [lim_eq]; exact e, e2, pst_ok h' (Same.refl _) (.str _)⟩)
      · rw [if_neg e] at h'; exact h'.elim
    | _ => exact h.elim
  | _ => cases p <;> exact h.elim
theorem d_ix (ha : PE X a (tD Z fa)) (hb : PE X b (tD Z fb)) (hs : PlainIx b) : PE X (.Subscript a b pos) (tD Z (eBin dIx fa fb)) := pe_weak (pe_ix ix_seq ha hb hs) (bin_ok ix_ok)

/-! ### slices without a step -/
abbrev tO (Z : Zx) (f : Ev → R (Option Int)) : TO := tG (fun _ (w a : Option Int) => w = a) Z f
def oNone : Ev → R (Option Int) := fun _ => .ok none
def oSome (fa : Ev → R D) : Ev → R (Option Int) := fun ρ => fa ρ >>= fun d => match d with | .int i => .ok (some i) | _ => .bad
theorem po_weak {e : Option Expr} {t t' : TO} (h : PO X e t) (w : ∀ σ H Q, t' σ H Q → t σ H Q) : PO X e t' := ⟨fun pins s σ H Q I q => h.run pins s σ H Q I (w _ _ _ q)⟩
theorem do_none : PO X none (tO Z oNone) := po_weak po_none fun σ H Q h => by
  obtain ⟨O, ρ, hp, h⟩ := h
  exact h none H (Same.refl _) rfl
theorem do_some (ha : PE X a (tD Z fa)) : PO X (some a) (tO Z (oSome fa)) := po_weak (po_some ha) fun σ H Q h => by
  obtain ⟨O, ρ, hp, h⟩ := h
  refine ⟨O, ρ, hp, Pst.bind' h fun d x H1 _ s1 h1 k1 => ?_⟩
  cases h1 with
  | int i => exact ⟨i, rfl, k1 (some i) H1 (Same.refl _) rfl⟩
  | _ => exact k1.elim
def cutD {α : Type} (xs : List α) (lo hi : Option Int) : List α := (xs.drop (HT.sIx xs.length 0 lo)).take (HT.sIx xs.length xs.length hi - HT.sIx xs.length 0 lo)
def dSl (p : D) (lo hi : Option Int) : R D := match p with
  | .list ds => .ok (.list (cutD ds lo hi))
  | .str z => if z.length ≤ lim then .ok (.str (cutS z lo hi)) else .bad
  | _ => .bad
def eSl (fa : Ev → R D) (fl fh : Ev → R (Option Int)) : Ev → R D := fun ρ => fa ρ >>= fun p => fl ρ >>= fun lo => fh ρ >>= fun hi => dSl p lo hi
variable {lo hi : Option Expr} {fl fh : Ev → R (Option Int)} {p2 : Pos}
theorem d_sl (ha : PE X a (tD Z fa)) (hl : PO X lo (tO Z fl)) (hh : PO X hi (tO Z fh)) : PE X (.Subscript a (.Slice lo hi none p2) pos) (tD Z (eSl fa fl fh)) := pe_weak (pe_slice (sl_list.or sl_str) ha hl hh) fun σ H Q h => by
  obtain ⟨O, ρ, hp, h⟩ := h
  refine ⟨O, ρ, hp, Pst.bind' h fun p x H1 _ s1 h1 k1 => ?_⟩
  refine ⟨O, ρ, hp.mono s1, Pst.bind' k1 fun l l' H2 _ s2 h2 k2 => ?_⟩
  refine ⟨O, ρ, hp.mono (s1.trans s2), Pst.bind' k2 fun u u' H3 _ s3 h3 k3 => ?_⟩
  have e2 : l' = l := h2
  have e3 : u' = u := h3
  subst e2 e3
  have hx := h1.mono (hide_mono (O := O) (s2.trans s3))
  have hO := (hp.mono ((s1.trans s2).trans s3)).dom
  cases p with
  | list ds =>
    obtain ⟨a, vs, rfl, _, ha, ra⟩ := hx.ref_lst
    refine .inl ⟨a, vs, rfl, SqL.of ha, fun p np => ?_⟩
    have k4 : Pst Rp Z O H3 (.ok (.list (cutD ds l' u'))) Q := k3
    refine pst_ok k4 (same_new np) (.newL hO np ?_)
    unfold cutV cutD
    rw [ra.length]
    exact (ra.drop _).take _
  | str z =>
    cases hx
    have k4 : Pst Rp Z O H3 (if z.length ≤ lim then .ok (.str (cutS z l' u')) else .bad) Q := k3
    by_cases e : z.length ≤ lim
    · rw [if_pos e] at k4
      exact .inr ⟨z, rfl, by rw [lim_eq]; exact e, pst_ok k4 (Same.refl _) (.str _)⟩
    · rw [if_neg e] at k4; exact k4.elim
  | _ => exact k3.elim

/-! ### [::-1]: lists, and tuples of two -/
theorem applied_back {prog : Program} {w : World} {A : Around} {E : Value → Shared → Prop} {s : Shared} {sl : Addr} {t : Tok} {Q : Int × Int × Nat → Shared → Prop} (hs : s.heap.IsSliceOf sl .none .none (.int (-1) t)) (h : Q (1, -1, 2) s) :
    wpAny (model prog w) A (Builtin.Slice.sliceApplied (.ref sl) (pure (2 : Int))) Q E s := by
  obtain ⟨o, ho, _, hd⟩ := id hs
  unfold Builtin.Slice.sliceApplied; unfold Builtin.Slice.sliceFields
  have f0 : ∀ {Q0 : Value → Shared → Prop}, Q0 .none s → wpAny (model prog w) A (field (.ref sl) 0) Q0 E s := fun q => wpAny_field ho hd rfl q
  have f1 : ∀ {Q0 : Value → Shared → Prop}, Q0 .none s → wpAny (model prog w) A (field (.ref sl) 1) Q0 E s := fun q => wpAny_field ho hd rfl q
  have f2 : ∀ {Q0 : Value → Shared → Prop}, Q0 (.int (-1) t) s → wpAny (model prog w) A (field (.ref sl) 2) Q0 E s := fun q => wpAny_field ho hd rfl q
  refine wpAny_bind (wpAny_bind (f0 (wpAny_bind (f1 (wpAny_bind (f2 (wpAny_pure ?_)))))))
  refine wpAny_bind (slicePart_int ?_)
  show wpAny _ _ (if ((-1 : Int) == 0) = true then _ else _) _ _ s
  rw [if_neg (by decide)]
  refine wpAny_bind (slicePart_none (wpAny_bind (slicePart_none (wpAny_bind (wpAny_pure ?_)))))
  exact wpAny_pure h
theorem getItem_back {prog : Program} {w : World} {A : Around} {E : Value → Shared → Prop} {s : Shared} {tu sl : Addr} {x y : Value} {t : Tok} {Q : Value → Shared → Prop} (ht : IsTup s.heap tu #[x, y]) (hs : s.heap.IsSliceOf sl .none .none (.int (-1) t))
    (h : Q (.ref s.heap.objs.size) { s with heap := s.heap.push { cls := .type "tuple", data := .seq #[y, x] } }) : wpAny (model prog w) A (getItem (.ref tu) (.ref sl)) Q E s := by
  obtain ⟨o, ho, hc, hd⟩ := id hs
  have hT : s.TypeIs (.ref sl) "slice" := ⟨o, ho, hc⟩
  unfold getItem
  try with_reducible refine wpAny_holding ?_
  first | refine wpAny_bind (wpAny_pure ?_) | skip
  refine wpAny_bind (wpAny_sequenceKey ht.typeIs (by decide) ?_)
  refine wpAny_bind (wpAny_callSpecial?_slot (name := Str.ofString "__getitem__") ht.typeIs PyProof.Rows.slot_tuple_getitem (wpAny_call_entry PyProof.Rows.slot_tuple_getitem ht.typeIs entry_tuple_getitem ?_ (args_tuple_getitem _ _)))
  show wpAny _ _ (Builtin.Tuple.tupleItemsOf (.ref tu) >>= _) _ _ s
  refine wpAny_bind (tupleItemsOf_ ht (wpAny_bind (wpAny_typeOf hT ?_)))
  rw [if_pos (by decide)]
  refine wpAny_bind (applied_back hs ?_)
  show wpAny _ _ (if ((1 : Int) == 0 && (-1 : Int) == 1 && (2 : Nat) == 2) = true then _ else _) _ _ s
  rw [if_neg (by decide)]
  have ep : ((List.range 2).filterMap fun (k : Nat) => (#[x, y] : Array Value)[((1 : Int) + (k : Int) * (-1)).toNat]?).toArray = #[y, x] := rfl
  have sz : sizeOk (.seq (#[y, x] : Array Value)) := by show 2 ≤ sizeLine; decide
  rw [ep]
  first
    | exact wpAny_bind (m := Builtin.Tuple.tupleExact _) (wpAny_newObj_type (wpAny_pure ⟨_, rfl, wpAny_pure h⟩) sz)
    | exact wpAny_bind (m := Builtin.Tuple.tupleExact _) (wpAny_newObj_type (wpAny_bind (wpAny_pure (wpAny_pure ⟨_, rfl, wpAny_pure h⟩))) sz)
    | exact wpAny_bind (wpAny_bind (m := Builtin.Tuple.tupleExact _) (wpAny_newObj_type (wpAny_pure ⟨_, rfl, wpAny_pure h⟩) sz))
    | exact wpAny_bind (wpAny_bind (m := Builtin.Tuple.tupleExact _) (wpAny_newObj_type (wpAny_pure (wpAny_pure ⟨_, rfl, wpAny_pure h⟩)) sz))
def tRev (K : PySem.W.Frag) (te : TE) : TE := fun σ H Q => te σ H fun x H1 => (∃ a xs, x = .ref a ∧ SqL K H1 a xs ∧ ∀ p, H1 p = none → Q (.ref p) (upd H1 p (.lst xs.reverse))) ∨
  ∃ a x1 x2, x = .ref a ∧ SqT K H1 a [x1, x2] ∧ ∀ p, H1 p = none → Q (.ref p) (upd H1 p (.tup [x2, x1]))
theorem pe_rev {e : Expr} {te : TE} {k : Nat} {p1 p2 p3 pos : Pos} (he : PE X e te) : PE X (.Subscript e (.Slice none none (some (.UnaryOp .USub (.Constant (.int 1) k p1) p2)) p3) pos) (tRev X.K te) := by
  refine ⟨fun pins s σ H Q I h => Subscript_ (thn (he.run pins s σ H _ I h) ?_)⟩
  rintro v s1 ⟨x, H1, I1, r1, q1⟩
  have hst : PO X (some (.UnaryOp .USub (.Constant (.int 1) k p1) p2)) (tPart (tUn (rU fun i => .int (-i)) (tC (.int 1)))) := po_some (pe_un un_neg pe_int)
  refine wpAny_Slice (thn (po_none.run pins s1 σ H1 (fun o G => o = none ∧ G = H1) I1 ⟨rfl, rfl⟩) ?_)
  rintro vl s2 ⟨l, H2, I2, pl, rfl, rfl⟩
  refine thn (po_none.run pins s2 σ H2 (fun o G => o = none ∧ G = H2) I2 ⟨rfl, rfl⟩) ?_
  rintro vu s3 ⟨u, H3, I3, pu, rfl, rfl⟩
  refine thn (hst.run pins s3 σ H3 (fun o G => o = some (-1) ∧ G = H3) I3 ⟨1, rfl, -1, rfl, rfl, rfl⟩) ?_
  rintro vs s4 ⟨o, H4, I4, ps, rfl, rfl⟩
  have I5 : Inv X pins σ H4 { s4 with heap := s4.heap.push { cls := .type "slice", data := .fields #[vl, vu, vs] } } := I4.kept (t' := s4.toks) fun b ob q => Heap.get?_push_of_some _ q
  rcases q1 with ⟨a, xs, rfl, hx, q⟩ | ⟨a, x1, x2, rfl, hx, q⟩
  · cases r1
    obtain ⟨its, r, ht, hz⟩ := I5.list hx
    have hlen := r.length
    show wpAny (model X.prog X.w) X.A (subscriptTail e _ (.ref a) (.ref s4.heap.objs.size)) (EP X pins σ Q) X.xe _
    refine tail_any (ops := [.ref a, .ref s4.heap.objs.size]) ht.isList.typeIs (PySem.slot_list_getitem.lookup) ?_ (by with_unfolding_all rfl)
    refine wpAny_getItem_list_slice ht.isList (Heap.IsSliceOf.new _ vl vu vs) pl pu ps (by decide) ?_ (by rw [List.size_toArray]; omega)
    rw [PySem.W.krv_pick]
    refine ⟨.ref _, _, I5.laid (t' := s4.toks) (o := .lst xs.reverse) (fun b ob q => Heap.get?_push_of_some _ q) (Nat.le_refl _) ?_, rfl, q _ (I5.hok.fresh (Nat.le_refl _))⟩
    exact ⟨by rw [List.length_reverse]; exact hz, _, 0, r.reverse, Heap.get?_push_size _ rfl⟩
  · cases r1
    obtain ⟨its, r, ht, hz⟩ := I5.tuple hx
    obtain ⟨u1, u2, rfl, r1, r2⟩ := r.two
    cases pl
    cases pu
    obtain ⟨t, rfl⟩ : ∃ t, vs = .int (-1) t := by
      generalize eo : (some (-1) : Option Int) = oo at ps
      cases ps with
      | none => cases eo
      | int i t => cases eo; exact ⟨t, rfl⟩
    show wpAny (model X.prog X.w) X.A (subscriptTail e _ (.ref a) (.ref s4.heap.objs.size)) (EP X pins σ Q) X.xe _
    refine tail_any (ops := [.ref a, .ref s4.heap.objs.size]) ht.typeIs (PyProof.Rows.slot_tuple_getitem.lookup) ?_ (by with_unfolding_all rfl)
    refine getItem_back ht (Heap.IsSliceOf.new _ _ _ _) ?_
    refine ⟨.ref _, _, I5.laid (t' := s4.toks) (o := .tup [x2, x1]) (fun b ob q => Heap.get?_push_of_some _ q) (Nat.le_refl _) ?_, rfl, q _ (I5.hok.fresh (Nat.le_refl _))⟩
    exact ⟨by show 2 ≤ sizeLine; decide, [u2, u1], .cons r2 (.cons r1 .nil), ⟨_, Heap.get?_push_size _ rfl, rfl, _, rfl⟩⟩
def dRev : D → R D
  | .list ds => .ok (.list ds.reverse)
  | .tuple [p, q] => .ok (.tuple [q, p])
  | _ => .bad
theorem d_rev {k : Nat} {p1 p3 : Pos} (ha : PE X a (tD Z fa)) : PE X (.Subscript a (.Slice none none (some (.UnaryOp .USub (.Constant (.int 1) k p1) p2)) p3) pos) (tD Z (eUn dRev fa)) := pe_weak (pe_rev ha) (un_ok
  (r := fun x H1 Q => (∃ a xs, x = .ref a ∧ SqL X.K H1 a xs ∧ ∀ p, H1 p = none → Q (.ref p) (upd H1 p (.lst xs.reverse))) ∨ ∃ a x1 x2, x = .ref a ∧ SqT X.K H1 a [x1, x2] ∧ ∀ p, H1 p = none → Q (.ref p) (upd H1 p (.tup [x2, x1]))) fun O H x p Q hx hO h => by
  cases p with
  | list ds =>
    obtain ⟨a, vs, rfl, _, ha, ra⟩ := hx.ref_lst
    exact .inl ⟨a, vs, rfl, SqL.of ha, fun p np => pst_ok h (same_new np) (.newL hO np ra.reverse)⟩
  | tuple ds =>
    obtain ⟨a, vs, rfl, _, ha, ra⟩ := hx.ref_tup
    match ds, ra, h with
    | [p, q], .cons r1 (.cons r2 .nil), h => exact .inr ⟨a, _, _, rfl, SqT.of ha, fun p np => pst_ok h (same_new np) (.newT hO np (.cons r2 (.cons r1 .nil)))⟩
    | [], _, h => exact h.elim
    | [_], _, h => exact h.elim
    | _ :: _ :: _ :: _, _, h => exact h.elim
  | _ => exact h.elim)
end
end RL

set_option Elab.async false
set_option linter.all false
set_option maxRecDepth 100000
set_option maxHeartbeats 1000000
/-! # The D-layer: sorting, in plain Lean -/
namespace RL
section
variable {α : Type}
def ins (le : α → α → Bool) (x : α) : List α → List α
  | [] => [x]
  | y :: ys => if le x y then x :: y :: ys else y :: ins le x ys
def isort (le : α → α → Bool) : List α → List α
  | [] => []
  | x :: xs => ins le x (isort le xs)
theorem ins_perm (le : α → α → Bool) (x : α) : ∀ ys : List α, (ins le x ys).Perm (x :: ys)
  | [] => .refl _
  | y :: ys => by
    unfold ins
    split
    · exact .refl _
    · exact ((ins_perm le x ys).cons y).trans (.swap x y ys)
theorem isort_perm (le : α → α → Bool) : ∀ xs : List α, (isort le xs).Perm xs
  | [] => .refl _
  | x :: xs => (ins_perm le x _).trans ((isort_perm le xs).cons x)
theorem isort_length (le : α → α → Bool) (xs : List α) : (isort le xs).length = xs.length := (isort_perm le xs).length_eq
structure Ord (le : α → α → Bool) : Prop where
  total : ∀ x y, le x y = true ∨ le y x = true
  trans : ∀ x y z, le x y = true → le y z = true → le x z = true
  anti : ∀ x y, le x y = true → le y x = true → x = y
theorem ins_sorted {le : α → α → Bool} (O : Ord le) (x : α) : ∀ ys : List α, ys.Pairwise (fun a b => le a b = true) → (ins le x ys).Pairwise (fun a b => le a b = true)
  | [], _ => by simp [ins]
  | y :: ys, h => by
    have h1 := List.pairwise_cons.mp h
    unfold ins
    by_cases c : le x y = true
    · rw [if_pos c]
      refine List.pairwise_cons.mpr ⟨fun z hz => ?_, h⟩
      rcases List.mem_cons.mp hz with e | hz
      · rw [e]; exact c
      · exact O.trans _ _ _ c (h1.1 z hz)
    · rw [if_neg c]
      refine List.pairwise_cons.mpr ⟨fun z hz => ?_, ins_sorted O x ys h1.2⟩
      rcases List.mem_cons.mp ((ins_perm le x ys).mem_iff.mp hz) with e | hz
      · rw [e]
        exact (O.total x y).resolve_left c
      · exact h1.1 z hz
theorem isort_sorted {le : α → α → Bool} (O : Ord le) : ∀ xs : List α, (isort le xs).Pairwise (fun a b => le a b = true)
  | [] => .nil
  | x :: xs => ins_sorted O x _ (isort_sorted O xs)
theorem sorted_unique {le : α → α → Bool} (O : Ord le) : ∀ {xs ys : List α}, xs.Perm ys → xs.Pairwise (fun a b => le a b = true) → ys.Pairwise (fun a b => le a b = true) → xs = ys
  | [], ys, p, _, _ => by rw [p.nil_eq]
  | x :: xs, ys, p, h, g => by
    cases ys with
    | nil => exact absurd p.length_eq (by simp)
    | cons y ys =>
      have h1 := List.pairwise_cons.mp h
      have g1 := List.pairwise_cons.mp g
      have e : x = y := by
        rcases List.mem_cons.mp (p.mem_iff.mp List.mem_cons_self) with e | m
        · exact e
        · rcases List.mem_cons.mp (p.mem_iff.mpr (List.mem_cons_self (a := y) (l := ys))) with e | m2
          · exact e.symm
          · exact O.anti _ _ (h1.1 _ m2) (g1.1 _ m)
      subst e
      rw [sorted_unique O (List.Perm.cons_inv p) h1.2 g1.2]
theorem isort_of_perm {le : α → α → Bool} (O : Ord le) {xs ys : List α} (p : xs.Perm ys) : isort le xs = isort le ys :=
  sorted_unique O (((isort_perm le xs).trans p).trans (isort_perm le ys).symm) (isort_sorted O xs) (isort_sorted O ys)
theorem isort_of_sorted {le : α → α → Bool} (O : Ord le) {xs : List α} (h : xs.Pairwise (fun a b => le a b = true)) : isort le xs = xs :=
  sorted_unique O (isort_perm le xs) (isort_sorted O xs) h
end
def leI (a b : Int) : Bool := decide (a ≤ b)
theorem ordI : Ord leI := ⟨fun x y => by simp [leI]; omega, fun x y z => by simp [leI]; omega, fun x y => by simp [leI]; omega⟩
def leP (a b : Int × Int) : Bool := decide (a.1 < b.1) || (decide (a.1 = b.1) && decide (a.2 ≤ b.2))
theorem ordP : Ord leP := by
  refine ⟨fun x y => ?_, fun x y z => ?_, fun x y => ?_⟩
  · simp [leP]; omega
  · simp [leP]; omega
  · intro h1 h2
    simp [leP] at h1 h2
    exact Prod.ext (by omega) (by omega)
abbrev sortI : List Int → List Int := isort leI
abbrev sortP : List (Int × Int) → List (Int × Int) := isort leP
end RL

set_option Elab.async false
set_option linter.all false
set_option maxRecDepth 100000
set_option maxHeartbeats 1000000
/-! # The D-layer: built-ins by their names -/
namespace RL
open PySem PySem.Spec PyProof.Rows L2

def pD (p : Int × Int) : D := .tuple [.int p.1, .int p.2]
def int? : D → Option Int
  | .int i => some i
  | _ => none
def pair? : D → Option (Int × Int)
  | .tuple [.int i, .int j] => some (i, j)
  | _ => none
def bool? : D → Option Bool
  | .bool b => some b
  | _ => none
def str? : D → Option Str
  | .str x => some x
  | _ => none
def allOf {α : Type} (f : D → Option α) : List D → Option (List α)
  | [] => some []
  | d :: ds => match f d with
    | some a => (allOf f ds).map (a :: ·)
    | none => none
theorem allOf_some {α : Type} {f : D → Option α} {g : α → D} (hf : ∀ d a, f d = some a → d = g a) : ∀ {ds : List D} {as : List α}, allOf f ds = some as → ds = as.map g
  | [], as, h => by cases h; rfl
  | d :: ds, as, h => by
    unfold allOf at h
    cases e : f d with
    | none => rw [e] at h; cases h
    | some a =>
      rw [e] at h
      cases e2 : allOf f ds with
      | none => rw [e2] at h; cases h
      | some bs =>
        rw [e2] at h
        cases h
        rw [List.map_cons, hf d a e, ← allOf_some hf e2]
theorem allOf_map {α : Type} {f : D → Option α} {g : α → D} (hf : ∀ a, f (g a) = some a) : ∀ as : List α, allOf f (as.map g) = some as
  | [] => rfl
  | a :: as => by
    rw [List.map_cons]
    unfold allOf
    rw [hf a, allOf_map hf as] <;> rfl
abbrev ints? := allOf int?
abbrev pairs? := allOf pair?
abbrev bools? := allOf bool?
abbrev strs? := allOf str?
theorem int?_some (d : D) (i : Int) (h : int? d = some i) : d = .int i := by cases d <;> simp [int?] at h; rw [h]
theorem bool?_some (d : D) (i : Bool) (h : bool? d = some i) : d = .bool i := by cases d <;> simp [bool?] at h; rw [h]
theorem str?_some (d : D) (i : Str) (h : str? d = some i) : d = .str i := by cases d <;> simp [str?] at h; rw [h]
theorem pair?_some (d : D) (p : Int × Int) (h : pair? d = some p) : d = pD p := by
  unfold pair? at h
  split at h
  · cases h; rfl
  · cases h
theorem ints?_map (ns : List Int) : ints? (ns.map .int) = some ns := allOf_map (f := int?) (g := .int) (fun _ => rfl) ns
theorem pairs?_map (ps : List (Int × Int)) : pairs? (ps.map pD) = some ps := allOf_map (f := pair?) (g := pD) (fun _ => rfl) ps
theorem bools?_map (bs : List Bool) : bools? (bs.map .bool) = some bs := allOf_map (f := bool?) (g := .bool) (fun _ => rfl) bs
theorem strs?_map (ss : List Str) : strs? (ss.map .str) = some ss := allOf_map (f := str?) (g := .str) (fun _ => rfl) ss
theorem RpL.ints {H : Hp} : ∀ {vs : List V} {ns : List Int}, RpL H vs (ns.map .int) → vs = ns.map V.int
  | [], [], _ => rfl
  | _, n :: ns, .cons (.int _) r => by rw [List.map_cons, RpL.ints r]
theorem RpL.bools {H : Hp} : ∀ {vs : List V} {ns : List Bool}, RpL H vs (ns.map .bool) → vs = ns.map V.bl
  | [], [], _ => rfl
  | _, n :: ns, .cons (.bl _) r => by rw [List.map_cons, RpL.bools r]
theorem RpL.strs {H : Hp} : ∀ {vs : List V} {ns : List Str}, RpL H vs (ns.map .str) → vs = ns.map V.str
  | [], [], _ => rfl
  | _, n :: ns, .cons (.str _) r => by rw [List.map_cons, RpL.strs r]
theorem RpL.ofInts {H : Hp} : ∀ ns : List Int, RpL H (ns.map V.int) (ns.map .int)
  | [] => .nil
  | n :: ns => .cons (.int n) (RpL.ofInts ns)
theorem RpL.ofStrs {H : Hp} : ∀ ns : List Str, RpL H (ns.map V.str) (ns.map .str)
  | [] => .nil
  | n :: ns => .cons (.str n) (RpL.ofStrs ns)
theorem RpL.mem {H : Hp} {v : V} : ∀ {vs : List V} {ds : List D}, RpL H vs ds → v ∈ vs → ∃ d ∈ ds, Rp H v d
  | _, _, .nil, h => by cases h
  | _, _, .cons (v := w) (d := d) q r, h => by
    rcases List.mem_cons.mp h with e | h
    · subst e; exact ⟨d, List.mem_cons_self, q⟩
    · obtain ⟨d', h1, h2⟩ := RpL.mem r h
      exact ⟨d', List.mem_cons_of_mem _ h1, h2⟩

section
variable {X : Cx} {Z : Zx} {a b c : Expr} {es : List Expr} {fa fb fc : Ev → R D} {fs : Ev → R (List D)} {pos p : Pos} {x : Str} {idn T : String}

def eCall (g : List D → R D) (fs : Ev → R (List D)) : Ev → R D := fun ρ => fs ρ >>= g
def ClD (Z : Zx) (r : List V → Hp → VK → Prop) (g : List D → R D) : Prop := ∀ (O : List Addr) (H : Hp) (xs : List V) (ds : List D) (Q : VK), RpL (hide O H) xs ds → (∀ z ∈ O, H z ≠ none) → Pst Rp Z O H (g ds) Q → r xs H Q
theorem call_okD {r : List V → Hp → VK → Prop} {g : List D → R D} (hr : ClD Z r g) (σ : L2.St) (H : Hp) (Q : VK) (h : tD Z (eCall g fs) σ H Q) : tCB r (tDs Z fs) σ H Q := by
  obtain ⟨O, ρ, hp, h⟩ := h
  exact ⟨O, ρ, hp, Pst.bind' h fun ds xs H1 _ s1 h1 k1 => hr O H1 xs ds Q h1 (hp.mono s1).dom k1⟩
theorem d_callB {r : List V → Hp → VK → Prop} {g : List D → R D} (hc : CallR X (.builtin idn) r) (hr : ClD Z r g) (hg : Gl X x) (hm : X.mg x = none) (hv : bootBuiltins x = some (.builtin idn)) (ha : PA X (a :: es) (tDs Z fs)) (hn : x ≠ "__name__" := by decide) (hdb : (x == ("__debug__" : Str)) = false := by decide)
    (he : starEach (a :: es) X.env = (false, eval a X.env) :: starEach es X.env := by rfl) (hpl : (backTo pos (starEach es X.env)).any (·.1) = false := by rfl) : PE X (.Call (.Name x p) (a :: es) [] pos) (tD Z (eCall g fs)) :=
  pe_weak (pe_callB hc hg hm hv ha hn hdb he hpl) (call_okD hr)
theorem d_callTy {r : List V → Hp → VK → Prop} {g : List D → R D} (hc : CallR X (.type T) r) (hr : ClD Z r g) (hg : Gl X x) (hm : X.mg x = none) (hv : bootBuiltins x = some (.type T)) (ha : PA X (a :: es) (tDs Z fs)) (hn : x ≠ "__name__" := by decide) (hdb : (x == ("__debug__" : Str)) = false := by decide)
    (he : starEach (a :: es) X.env = (false, eval a X.env) :: starEach es X.env := by rfl) (hpl : (backTo pos (starEach es X.env)).any (·.1) = false := by rfl) : PE X (.Call (.Name x p) (a :: es) [] pos) (tD Z (eCall g fs)) :=
  pe_weak (pe_callTy hc hg hm hv ha hn hdb he hpl) (call_okD hr)

def dOne (g : D → R D) : List D → R D
  | [d] => g d
  | _ => .bad
theorem one_ok {r : List V → Hp → VK → Prop} {g : D → R D} (h : ∀ (O : List Addr) (H : Hp) (x : V) (d : D) (Q : VK), Rp (hide O H) x d → (∀ z ∈ O, H z ≠ none) → Pst Rp Z O H (g d) Q → r [x] H Q) : ClD Z r (dOne g) := by
  intro O H xs ds Q hx hO hq
  match ds, hx, hq with
  | [], _, hq => exact hq.elim
  | _ :: _ :: _, _, hq => exact hq.elim
  | [d], .cons hd .nil, hq => exact h O H _ d Q hd hO hq

/-! ### len -/
def dLen : D → R D
  | .list ds => .ok (.int ds.length)
  | .tuple ds => .ok (.int ds.length)
  | .str z => if z.length ≤ lim then .ok (.int z.length) else .bad
  | _ => .bad
theorem len_ok {K : PySem.W.Frag} : ClD Z (fun xs H Q => ∃ x n, xs = [x] ∧ LenV K x H n ∧ Q (.int n) H) (dOne dLen) := one_ok fun O H x d Q hd hO h => by
    cases d with
    | list ds =>
      obtain ⟨a, vs, rfl, _, ha, ra⟩ := hd.ref_lst
      exact ⟨_, vs.length, rfl, .inl ⟨vs, SqL.of ha, rfl⟩, by rw [ra.length]; exact pst_ok h (Same.refl _) (.int _)⟩
    | tuple ds =>
      obtain ⟨a, vs, rfl, _, ha, ra⟩ := hd.ref_tup
      exact ⟨_, vs.length, rfl, .inr ⟨vs, SqT.of ha, rfl⟩, by rw [ra.length]; exact pst_ok h (Same.refl _) (.int _)⟩
    | str z =>
      cases hd
      have h' : Pst Rp Z O H (if z.length ≤ lim then .ok (.int z.length) else .bad) Q := h
      by_cases e : z.length ≤ lim
      · rw [if_pos e] at h'
        exact ⟨_, z.length, rfl, ⟨by rw [lim_eq]; exact e, rfl⟩, pst_ok h' (Same.refl _) (.int _)⟩
      · rw [if_neg e] at h'; exact h'.elim
    | _ => exact h.elim
theorem d_len (hg : Gl X "len") (hm : X.mg "len" = none) (ha : PE X a (tD Z fa)) (he : starEach [a] X.env = (false, eval a X.env) :: starEach [] X.env := by rfl) : PE X (.Call (.Name "len" p) [a] [] pos) (tD Z (eCall (dOne dLen) (aCons fa aNil))) :=
  d_callB call_len len_ok hg hm PySem.boot_len (da_cons ha da_nil he) (by decide) (by decide) he rfl

/-! ### isinstance of a built-in class -/
inductive Ty where | int | bool | list | tuple | str
def Ty.nm : Ty → String
  | .int => "int" | .bool => "bool" | .list => "list" | .tuple => "tuple" | .str => "str"
def isi : Ty → D → Bool
  | .int, .int _ => true
  | .int, .bool _ => true
  | .bool, .bool _ => true
  | .list, .list _ => true
  | .tuple, .tuple _ => true
  | .str, .str _ => true
  | _, _ => false
def eIsi (t : Ty) (fa : Ev → R D) : Ev → R D := fun ρ => fa ρ >>= fun d => .ok (.bool (isi t d))
theorem kit_all {n : String} {d : D} (h : ∀ t : Ty, kitB n t.nm = some (isi t d)) {K : PySem.W.Frag} (t : Ty) : PySem.W.kitOne K (.type n) (.type t.nm) = some (isi t d) := kit_ty (h t)
theorem kit_bool (b : Bool) (t : Ty) : kitB "bool" t.nm = some (isi t (.bool b)) := by
  have e : isi t (.bool b) = isi t (.bool true) := by cases t <;> rfl
  rw [e]; cases t <;> decide +kernel
theorem kit_int (b : Int) (t : Ty) : kitB "int" t.nm = some (isi t (.int b)) := by
  have e : isi t (.int b) = isi t (.int 0) := by cases t <;> rfl
  rw [e]; cases t <;> decide +kernel
theorem kit_str (b : Str) (t : Ty) : kitB "str" t.nm = some (isi t (.str b)) := by
  have e : isi t (.str b) = isi t (.str ⟨#[]⟩) := by cases t <;> rfl
  rw [e]; cases t <;> decide +kernel
theorem kit_list (b : List D) (t : Ty) : kitB "list" t.nm = some (isi t (.list b)) := by
  have e : isi t (.list b) = isi t (.list []) := by cases t <;> rfl
  rw [e]; cases t <;> decide +kernel
theorem kit_tuple (b : List D) (t : Ty) : kitB "tuple" t.nm = some (isi t (.tuple b)) := by
  have e : isi t (.tuple b) = isi t (.tuple []) := by cases t <;> rfl
  rw [e]; cases t <;> decide +kernel
theorem kit_dict (b : List (D × D)) (t : Ty) : kitB "dict" t.nm = some (isi t (.dict b)) := by
  have e : isi t (.dict b) = isi t (.dict []) := by cases t <;> rfl
  rw [e]; cases t <;> decide +kernel
theorem kit_none (t : Ty) : kitB "NoneType" t.nm = some (isi t .none) := by cases t <;> decide +kernel
theorem rp_ty {K : PySem.W.Frag} {O : List Addr} {H : Hp} {x : V} {d : D} (h : Rp (hide O H) x d) (t : Ty) : ∃ u, TyX K H x u ∧ PySem.W.kitOne K u (.type t.nm) = some (isi t d) := by
  cases h with
  | non => exact ⟨_, .base .non, kit_ty (kit_none t)⟩
  | bl b => exact ⟨_, .base (.bl b), kit_ty (kit_bool b t)⟩
  | int i => exact ⟨_, .base (.int i), kit_ty (kit_int i t)⟩
  | str y => exact ⟨_, .base (.str y), kit_ty (kit_str y t)⟩
  | lst e r => exact ⟨_, .base (.lst (hide_some e).2), kit_ty (kit_list _ t)⟩
  | tup e r => exact ⟨_, .base (.tup (hide_some e).2), kit_ty (kit_tuple _ t)⟩
  | dct ks e => exact ⟨_, .base (.dK (hide_some e).2), kit_ty (kit_dict _ t)⟩
theorem d_isi {t : Ty} {y : Str} {p2 : Pos} (hg : Gl X "isinstance") (hm : X.mg "isinstance" = none) (hg2 : Gl X y) (hm2 : X.mg y = none) (hv2 : bootBuiltins y = some (.type t.nm)) (ha : PE X a (tD Z fa)) (hn : y ≠ "__name__" := by decide) (hdb : (y == ("__debug__" : Str)) = false := by decide)
    (he : starEach [a, .Name y p2] X.env = (false, eval a X.env) :: starEach [.Name y p2] X.env := by rfl) : PE X (.Call (.Name "isinstance" p) [a, .Name y p2] [] pos) (tD Z (eIsi t fa)) :=
  pe_weak (pe_callB (call_isi (X := X)) hg hm (by decide +kernel) (pa_cons ha (pa_cons (pe_bltn (v := .ty t.nm) hg2 hm2 hv2 rfl hn hdb) pa_nil) he) (by decide) (by decide) he rfl) fun σ H Q h => by
    obtain ⟨O, ρ, hp, h⟩ := h
    refine ⟨O, ρ, hp, Pst.bind' h fun d x H1 _ s1 h1 k1 => ?_⟩
    obtain ⟨u, h2, h3⟩ := rp_ty (K := X.K) h1 t
    exact ⟨x, .ty t.nm, u, _, _, rfl, .ty _, h2, h3, pst_ok k1 (Same.refl _) (.bl _)⟩

/-! ### abs, int, str, all, list, tuple -/
def dAbs : D → R D
  | .int i => .ok (.int (if i < 0 then -i else i))
  | _ => .bad
theorem abs_ok : ClD Z (fun xs H Q => ∃ i, xs = [.int i] ∧ Q (.int (if i < 0 then -i else i)) H) (dOne dAbs) := one_ok fun O H x d Q hd hO h => by
    cases hd with
    | int i => exact ⟨i, rfl, pst_ok h (Same.refl _) (.int _)⟩
    | _ => exact h.elim
theorem d_abs (hg : Gl X "abs") (hm : X.mg "abs" = none) (ha : PE X a (tD Z fa)) (he : starEach [a] X.env = (false, eval a X.env) :: starEach [] X.env := by rfl) : PE X (.Call (.Name "abs" p) [a] [] pos) (tD Z (eCall (dOne dAbs) (aCons fa aNil))) :=
  d_callB call_abs abs_ok hg hm (by decide +kernel) (da_cons ha da_nil he) (by decide) (by decide) he rfl
def dAll : D → R D
  | .list ds => match bools? ds with
    | some bs => .ok (.bool (bs.all id))
    | none => .bad
  | _ => .bad
theorem all_ok {K : PySem.W.Frag} : ClD Z (rAll K) (dOne dAll) := one_ok fun O H x d Q hd hO h => by
    cases d with
    | list ds =>
      obtain ⟨a, vs, rfl, _, ha, ra⟩ := hd.ref_lst
      have h' : Pst Rp Z O H (match bools? ds with | some bs => .ok (.bool (bs.all id)) | none => .bad) Q := h
      cases e : bools? ds with
      | none => rw [e] at h'; exact h'.elim
      | some bs =>
        rw [e] at h'
        have e2 := allOf_some bool?_some e
        rw [e2] at ra
        exact ⟨a, bs, rfl, by rw [← ra.bools]; exact SqL.of ha, pst_ok h' (Same.refl _) (.bl _)⟩
    | _ => exact h.elim
theorem d_all (hc : X.calm = true) (hg : Gl X "all") (hm : X.mg "all" = none) (ha : PE X a (tD Z fa)) (he : starEach [a] X.env = (false, eval a X.env) :: starEach [] X.env := by rfl) : PE X (.Call (.Name "all" p) [a] [] pos) (tD Z (eCall (dOne dAll) (aCons fa aNil))) :=
  d_callB (cr_all hc) all_ok hg hm (by decide +kernel) (da_cons ha da_nil he) (by decide) (by decide) he rfl
def dList : D → R D
  | .list ds => .ok (.list ds)
  | .tuple ds => .ok (.list ds)
  | _ => .bad
theorem list_ok {K : PySem.W.Frag} : ClD Z (fun xs H Q => ∃ p ys, xs = [.ref p] ∧ (SqL K H p ys ∨ SqT K H p ys) ∧ ∀ l, H l = none → Q (.ref l) (upd H l (.lst ys))) (dOne dList) := one_ok fun O H x d Q hd hO h => by
    cases d with
    | list ds =>
      obtain ⟨a, vs, rfl, _, ha, ra⟩ := hd.ref_lst
      exact ⟨a, vs, rfl, .inl (SqL.of ha), fun l hl => pst_ok h (same_new hl) (.newL hO hl ra)⟩
    | tuple ds =>
      obtain ⟨a, vs, rfl, _, ha, ra⟩ := hd.ref_tup
      exact ⟨a, vs, rfl, .inr (SqT.of ha), fun l hl => pst_ok h (same_new hl) (.newL hO hl ra)⟩
    | _ => exact h.elim
theorem d_list (hg : Gl X "list") (hm : X.mg "list" = none) (ha : PE X a (tD Z fa)) (he : starEach [a] X.env = (false, eval a X.env) :: starEach [] X.env := by rfl) : PE X (.Call (.Name "list" p) [a] [] pos) (tD Z (eCall (dOne dList) (aCons fa aNil))) :=
  d_callTy call_list_of list_ok hg hm (by decide +kernel) (da_cons ha da_nil he) (by decide) (by decide) he rfl
def dTuple : D → R D
  | .list ds => .ok (.tuple ds)
  | .tuple ds => .ok (.tuple ds)
  | _ => .bad
theorem tuple_ok {K : PySem.W.Frag} : ClD Z (fun xs H Q => ∃ p ys, xs = [.ref p] ∧ ((SqL K H p ys ∧ ∀ l, H l = none → Q (.ref l) (upd H l (.tup ys))) ∨ (SqT K H p ys ∧ Q (.ref p) H))) (dOne dTuple) := one_ok fun O H x d Q hd hO h => by
    cases d with
    | list ds =>
      obtain ⟨a, vs, rfl, _, ha, ra⟩ := hd.ref_lst
      exact ⟨a, vs, rfl, .inl ⟨SqL.of ha, fun l hl => pst_ok h (same_new hl) (.newT hO hl ra)⟩⟩
    | tuple ds =>
      have hd' := hd
      obtain ⟨a, vs, rfl, _, ha, ra⟩ := hd.ref_tup
      exact ⟨a, vs, rfl, .inr ⟨SqT.of ha, pst_ok h (Same.refl _) hd'⟩⟩
    | _ => exact h.elim
theorem d_tuple (hg : Gl X "tuple") (hm : X.mg "tuple" = none) (ha : PE X a (tD Z fa)) (he : starEach [a] X.env = (false, eval a X.env) :: starEach [] X.env := by rfl) : PE X (.Call (.Name "tuple" p) [a] [] pos) (tD Z (eCall (dOne dTuple) (aCons fa aNil))) :=
  d_callTy call_tuple_of tuple_ok hg hm (by decide +kernel) (da_cons ha da_nil he) (by decide) (by decide) he rfl
def dInt : D → R D
  | .int i => .ok (.int i)
  | .bool k => .ok (.int (if k then 1 else 0))
  | .str z => if z.length ≤ 640 then (match PySem.intText? z with | some n => .ok (.int n) | none => .bad) else .bad
  | _ => .bad
theorem int_ok {K : PySem.W.Frag} : ClD Z (fun xs H Q => ((∃ i, xs = [.int i] ∧ Q (.int i) H) ∨ ∃ k, xs = [.bl k] ∧ Q (.int (if k then 1 else 0)) H) ∨ ∃ z n, xs = [.str z] ∧ PySem.intText? z = some n ∧ z.length ≤ 640 ∧ Q (.int n) H) (dOne dInt) := one_ok fun O H x d Q hd hO h => by
    cases hd with
    | int i => exact .inl (.inl ⟨i, rfl, pst_ok h (Same.refl _) (.int _)⟩)
    | bl k => exact .inl (.inr ⟨k, rfl, pst_ok h (Same.refl _) (.int _)⟩)
    | str z =>
      have h' : Pst Rp Z O H (if z.length ≤ 640 then (match PySem.intText? z with | some n => .ok (.int n) | none => .bad) else .bad) Q := h
      by_cases e : z.length ≤ 640
      · rw [if_pos e] at h'
        cases e2 : PySem.intText? z with
        | none => rw [e2] at h'; exact h'.elim
        | some n =>
          rw [e2] at h'
          exact .inr ⟨z, n, rfl, e2, e, pst_ok h' (Same.refl _) (.int _)⟩
      · rw [if_neg e] at h'; exact h'.elim
    | _ => exact h.elim
def dStr : D → R D
  | .int i => if i.natAbs < 10 ^ 30 then .ok (.str (toString i)) else .bad
  | _ => .bad
theorem str_ok : ClD Z (fun xs H Q => ∃ i, xs = [.int i] ∧ i.natAbs.log2 < 1920 ∧ Q (.str (toString i)) H) (dOne dStr) := one_ok fun O H x d Q hd hO h => by
    cases hd with
    | int i =>
      have h' : Pst Rp Z O H (if i.natAbs < 10 ^ 30 then .ok (.str (toString i)) else .bad) Q := h
      by_cases e : i.natAbs < 10 ^ 30
      · rw [if_pos e] at h'
        refine ⟨i, rfl, ?_, pst_ok h' (Same.refl _) (.str _)⟩
        by_cases z : i.natAbs = 0
        · rw [z]; decide
        · exact (Nat.log2_lt z).mpr (Nat.lt_trans e (by decide))
      · rw [if_neg e] at h'; exact h'.elim
    | _ => exact h.elim
theorem d_str_of (hg : Gl X "str") (hm : X.mg "str" = none) (ha : PE X a (tD Z fa)) (he : starEach [a] X.env = (false, eval a X.env) :: starEach [] X.env := by rfl) : PE X (.Call (.Name "str" p) [a] [] pos) (tD Z (eCall (dOne dStr) (aCons fa aNil))) :=
  d_callTy call_str_int str_ok hg hm (by decide +kernel) (da_cons ha da_nil he) (by decide) (by decide) he rfl
theorem d_int_of (hg : Gl X "int") (hm : X.mg "int" = none) (ha : PE X a (tD Z fa)) (he : starEach [a] X.env = (false, eval a X.env) :: starEach [] X.env := by rfl) : PE X (.Call (.Name "int" p) [a] [] pos) (tD Z (eCall (dOne dInt) (aCons fa aNil))) :=
  d_callTy (call_int1.or call_int_str) (int_ok (K := X.K)) hg hm (by decide +kernel) (da_cons ha da_nil he) (by decide) (by decide) he rfl
end
end RL

set_option Elab.async false
set_option linter.all false
set_option maxRecDepth 100000
set_option maxHeartbeats 1000000
/-! # The D-layer: sum, least and greatest, sorted, count -/
namespace RL
open PySem PySem.Spec PyProof.Rows L2

def numI (ns : List Int) (i : Nat) : Int := ns.getD i 0
theorem numI_at {ns : List Int} {its : List Value} (r : Vals (ns.map V.int) its) {i : Nat} {v : Value} (h : its.toArray[i]? = some v) : ∃ t, v = .int (numI ns i) t := by
  have h2 : its[i]? = some v := by simpa using h
  cases e : (ns.map V.int)[i]? with
  | none =>
    have := r.none_of e
    rw [this] at h2; cases h2
  | some x =>
    obtain ⟨u, e2, r2⟩ := r.get e
    rw [h2] at e2; cases e2
    rw [List.getElem?_map] at e
    cases e3 : ns[i]? with
    | none => rw [e3] at e; cases e
    | some n =>
      rw [e3] at e; cases e
      obtain ⟨t, rfl⟩ := r2
      refine ⟨t, ?_⟩
      unfold numI
      rw [List.getD_eq_getElem?_getD, e3] <;> rfl
section
variable {prog : Program} {w : World} {A : Around} {E : Value → Shared → Prop} {s : Shared} {t : Addr} {ns : List Int} {its : List Value}
/-- a tuple's walk begins -/
theorem tup_walk {Q : Value → Shared → Prop} (ht : IsTup s.heap t its.toArray) (h : ∀ s2 : Shared, s2 = { s with heap := s.heap.push { cls := .type "tuple_iterator", data := .fields #[.ref t, .int 0 0] } } →
    (s2.heap.IsTupleIter s.heap.objs.size t 0 ∧ s2.heap.IsTuple t its.toArray) → (∀ b ∈ [s.heap.objs.size, t], b < s2.heap.objs.size) → t ≠ s.heap.objs.size → Q (.ref s.heap.objs.size) s2) : wpAny (model prog w) A (pyIter (.ref t)) Q E s := by
  have ht2 : s.heap.IsTuple t its.toArray := ht
  have hlt : t < s.heap.objs.size := by
    obtain ⟨_, e, _⟩ := ht
    exact Heap.lt_size e
  refine wpAny_pyIter_tuple ht2 (h _ rfl ⟨⟨_, Heap.get?_push_size _ rfl, rfl, rfl⟩, ?_⟩ (fun b hb => ?_) (Nat.ne_of_lt hlt))
  · obtain ⟨o, e, c, n, d⟩ := ht
    exact ⟨o, Heap.get?_push_of_some _ e, c, n, d⟩
  · show b < (s.heap.push _).objs.size
    rw [Heap.size_push]
    rcases List.mem_cons.mp hb with z | hb
    · rw [z]; exact Nat.lt_succ_self _
    · rcases List.mem_cons.mp hb with z | hb
      · rw [z]; exact Nat.lt_succ_of_lt hlt
      · cases hb
theorem kept_old {h' : Heap} {o : Obj} (hk : ∀ b u, b ∉ [s.heap.objs.size] → (s.heap.push o).get? b = some u → h'.get? b = some u) : ∀ b u, s.heap.get? b = some u → h'.get? b = some u := fun b u e => by
  refine hk b u (fun hm => ?_) (Heap.get?_push_of_some _ e)
  have e1 : b = s.heap.objs.size := by simpa using hm
  exact absurd (e1 ▸ Heap.lt_size e) (Nat.lt_irrefl _)
theorem max_tup {Q : Value → Shared → Prop} (hh : A.handled = none) (ht : IsTup s.heap t its.toArray) (r : Vals (ns.map V.int) its) (hne : 0 < ns.length)
    (h : ∀ h' tk M t', (∀ b o, s.heap.get? b = some o → h'.get? b = some o) → M ∈ ns → (∀ a, a ∈ ns → a ≤ M) → Q (.int M t') { s with heap := h', toks := tk }) : wpAny (model prog w) A (call (.builtin "max") [.ref t]) Q E s := by
  have hl : its.length = ns.length := by rw [← r.length, List.length_map]
  refine call_max_walk (tup_walk ht fun s2 e st hfp hne2 => ?_)
  subst e
  refine ⟨_, _, _, _, _, _, _, rfl, Walks.tuple (A := A.in1) hh _ t hne2 its.toArray, st, hfp, by rw [List.size_toArray]; omega, CmpOf.ints_gt (numI ns) (fun i v => numI_at r), fun v h' tk hP hk => ?_⟩
  obtain ⟨t', rfl⟩ := numI_at r hP
  rw [List.size_toArray, hl] at hP
  obtain ⟨h1, h2⟩ := argBest_gt (numI ns) (ns.length - 1)
  have e : ∀ j, j ≤ ns.length - 1 → numI ns j ∈ ns := fun j hj => PySem.getD_mem (by omega)
  rw [List.size_toArray, hl]
  refine h h' tk _ t' (kept_old hk) (e _ h1) fun a ha => ?_
  obtain ⟨j, hj, rfl⟩ := List.getElem_of_mem ha
  have := h2 j (by omega)
  unfold numI at this ⊢
  rw [List.getD_eq_getElem?_getD, List.getElem?_eq_getElem hj] at this
  exact this
theorem min_tup {Q : Value → Shared → Prop} (hh : A.handled = none) (ht : IsTup s.heap t its.toArray) (r : Vals (ns.map V.int) its) (hne : 0 < ns.length)
    (h : ∀ h' tk M t', (∀ b o, s.heap.get? b = some o → h'.get? b = some o) → M ∈ ns → (∀ a, a ∈ ns → M ≤ a) → Q (.int M t') { s with heap := h', toks := tk }) : wpAny (model prog w) A (call (.builtin "min") [.ref t]) Q E s := by
  have hl : its.length = ns.length := by rw [← r.length, List.length_map]
  refine call_min_walk (tup_walk ht fun s2 e st hfp hne2 => ?_)
  subst e
  refine ⟨_, _, _, _, _, _, _, rfl, Walks.tuple (A := A.in1) hh _ t hne2 its.toArray, st, hfp, by rw [List.size_toArray]; omega, CmpOf.ints_lt (numI ns) (fun i v => numI_at r), fun v h' tk hP hk => ?_⟩
  obtain ⟨t', rfl⟩ := numI_at r hP
  obtain ⟨h1, h2⟩ := argBest_lt (numI ns) (ns.length - 1)
  have e : ∀ j, j ≤ ns.length - 1 → numI ns j ∈ ns := fun j hj => PySem.getD_mem (by omega)
  rw [List.size_toArray, hl]
  refine h h' tk _ t' (kept_old hk) (e _ h1) fun a ha => ?_
  obtain ⟨j, hj, rfl⟩ := List.getElem_of_mem ha
  have := h2 j (by omega)
  unfold numI at this ⊢
  rw [List.getD_eq_getElem?_getD (i := j), List.getElem?_eq_getElem hj] at this
  exact this
theorem preSum_numI : ∀ (ns : List Int) (k : Nat), k ≤ ns.length → preSum (numI ns) k = (ns.take k).sum
  | ns, 0, _ => rfl
  | ns, k + 1, h => by
    have ih := preSum_numI ns k (by omega)
    show preSum (numI ns) k + numI ns k = _
    have hk : k < ns.length := by omega
    rw [ih, List.take_add_one, List.getElem?_eq_getElem hk, List.sum_append]
    unfold numI
    rw [List.getD_eq_getElem?_getD, List.getElem?_eq_getElem hk]
    simp
theorem sum_tup {Q : Value → Shared → Prop} (hh : A.handled = none) (ht : IsTup s.heap t its.toArray) (r : Vals (ns.map V.int) its)
    (h : ∀ h' tk t', (∀ b o, s.heap.get? b = some o → h'.get? b = some o) → Q (.int ns.sum t') { s with heap := h', toks := tk }) : wpAny (model prog w) A (call (.builtin "sum") [.ref t]) Q E s := by
  have hl : its.length = ns.length := by rw [← r.length, List.length_map]
  refine call_sum_walkG (tup_walk ht fun s2 e st hfp hne2 => ?_)
  subst e
  refine ⟨_, _, _, _, _, _, numI ns, rfl, Walks.tuple (A := A.in1) hh _ t hne2 its.toArray, st, hfp, (fun i v => numI_at r), fun h' tk t' hk => ?_⟩
  have q := h h' tk t' (kept_old hk)
  rw [List.size_toArray, hl, preSum_numI ns _ (Nat.le_refl _), List.take_length]
  exact q
end

section
variable {X : Cx} {Z : Zx} {a b c : Expr} {es : List Expr} {fa fb fc : Ev → R D} {fs : Ev → R (List D)} {pos p : Pos}
def rMaxT (K : PySem.W.Frag) : List V → Hp → VK → Prop := fun vs H Q => ∃ (a : Addr) (ns : List Int), vs = [V.ref a] ∧ SqT K H a (ns.map V.int) ∧ 0 < ns.length ∧ ∀ m, m ∈ ns → (∀ y, y ∈ ns → y ≤ m) → Q (.int m) H
def rMinT (K : PySem.W.Frag) : List V → Hp → VK → Prop := fun vs H Q => ∃ (a : Addr) (ns : List Int), vs = [V.ref a] ∧ SqT K H a (ns.map V.int) ∧ 0 < ns.length ∧ ∀ m, m ∈ ns → (∀ y, y ∈ ns → m ≤ y) → Q (.int m) H
def rSumT (K : PySem.W.Frag) : List V → Hp → VK → Prop := fun vs H Q => ∃ (a : Addr) (ns : List Int), vs = [V.ref a] ∧ SqT K H a (ns.map V.int) ∧ Q (.int ns.sum) H
theorem cr_maxT (hc : X.calm = true) : CallR X (.builtin "max") (rMaxT X.K) := by
  rintro pins s σ H xs us Q I r ⟨a, ns, rfl, hs, hne, q⟩
  obtain ⟨its, rv, ht, hz⟩ := I.tuple hs
  rw [Vals.ref1 r]
  exact max_tup (I.ok.hd hc) ht rv hne fun h' tk M t' hk h1 h2 => ⟨.int M, H, I.kept hk, ⟨t', rfl⟩, q M h1 h2⟩
theorem cr_minT (hc : X.calm = true) : CallR X (.builtin "min") (rMinT X.K) := by
  rintro pins s σ H xs us Q I r ⟨a, ns, rfl, hs, hne, q⟩
  obtain ⟨its, rv, ht, hz⟩ := I.tuple hs
  rw [Vals.ref1 r]
  exact min_tup (I.ok.hd hc) ht rv hne fun h' tk M t' hk h1 h2 => ⟨.int M, H, I.kept hk, ⟨t', rfl⟩, q M h1 h2⟩
theorem cr_sumT (hc : X.calm = true) : CallR X (.builtin "sum") (rSumT X.K) := by
  rintro pins s σ H xs us Q I r ⟨a, ns, rfl, hs, q⟩
  obtain ⟨its, rv, ht, hz⟩ := I.tuple hs
  rw [Vals.ref1 r]
  exact sum_tup (I.ok.hd hc) ht rv fun h' tk t' hk => ⟨.int ns.sum, H, I.kept hk, ⟨t', rfl⟩, q⟩

def dSum : D → R D
  | .list ds => (match ints? ds with | some ns => .ok (.int ns.sum) | none => .bad)
  | .tuple ds => (match ints? ds with | some ns => .ok (.int ns.sum) | none => .bad)
  | _ => .bad
theorem sum_ok {K : PySem.W.Frag} : ClD Z (fun xs H Q => rSum K xs H Q ∨ rSumT K xs H Q) (dOne dSum) := one_ok fun O H x d Q hd hO h => by
  cases d with
  | list ds =>
    obtain ⟨a, vs, rfl, _, ha, ra⟩ := hd.ref_lst
    have h' : Pst Rp Z O H (match ints? ds with | some ns => .ok (.int ns.sum) | none => .bad) Q := h
    cases e : ints? ds with
    | none => rw [e] at h'; exact h'.elim
    | some ns =>
      rw [e] at h'
      rw [allOf_some int?_some e] at ra
      exact .inl ⟨a, ns, rfl, by rw [← ra.ints]; exact SqL.of ha, pst_ok h' (Same.refl _) (.int _)⟩
  | tuple ds =>
    obtain ⟨a, vs, rfl, _, ha, ra⟩ := hd.ref_tup
    have h' : Pst Rp Z O H (match ints? ds with | some ns => .ok (.int ns.sum) | none => .bad) Q := h
    cases e : ints? ds with
    | none => rw [e] at h'; exact h'.elim
    | some ns =>
      rw [e] at h'
      rw [allOf_some int?_some e] at ra
      exact .inr ⟨a, ns, rfl, by rw [← ra.ints]; exact SqT.of ha, pst_ok h' (Same.refl _) (.int _)⟩
  | _ => exact h.elim
theorem d_sum (hc : X.calm = true) (hg : Gl X "sum") (hm : X.mg "sum" = none) (ha : PE X a (tD Z fa)) (he : starEach [a] X.env = (false, eval a X.env) :: starEach [] X.env := by rfl) : PE X (.Call (.Name "sum" p) [a] [] pos) (tD Z (eCall (dOne dSum) (aCons fa aNil))) :=
  d_callB ((cr_sum hc).or (cr_sumT hc)) sum_ok hg hm (by decide +kernel) (da_cons ha da_nil he) (by decide) (by decide) he rfl
/-- the greatest, the least -/
def maxL (n : Int) (ns : List Int) : Int := ns.foldl (fun m x => if x > m then x else m) n
def minL (n : Int) (ns : List Int) : Int := ns.foldl (fun m x => if x < m then x else m) n
theorem maxL_spec : ∀ (ns : List Int) (n : Int), maxL n ns ∈ n :: ns ∧ ∀ y ∈ n :: ns, y ≤ maxL n ns
  | [], n => by simp [maxL]
  | x :: ns, n => by
    obtain ⟨h1, h2⟩ := maxL_spec ns (if x > n then x else n)
    have e : maxL n (x :: ns) = maxL (if x > n then x else n) ns := rfl
    rw [e]
    refine ⟨?_, fun y hy => ?_⟩
    · rcases List.mem_cons.mp h1 with z | z
      · rw [z]; split <;> simp
      · simp [z]
    · have h3 : x ≤ maxL (if x > n then x else n) ns ∧ n ≤ maxL (if x > n then x else n) ns := by
        have h4 := h2 (if x > n then x else n) List.mem_cons_self
        generalize maxL (if x > n then x else n) ns = m at h4
        split at h4 <;> omega
      rcases List.mem_cons.mp hy with z | z
      · subst z; exact h3.2
      · rcases List.mem_cons.mp z with z | z
        · subst z; exact h3.1
        · exact h2 y (List.mem_cons_of_mem _ z)
theorem minL_spec : ∀ (ns : List Int) (n : Int), minL n ns ∈ n :: ns ∧ ∀ y ∈ n :: ns, minL n ns ≤ y
  | [], n => by simp [minL]
  | x :: ns, n => by
    obtain ⟨h1, h2⟩ := minL_spec ns (if x < n then x else n)
    have e : minL n (x :: ns) = minL (if x < n then x else n) ns := rfl
    rw [e]
    refine ⟨?_, fun y hy => ?_⟩
    · rcases List.mem_cons.mp h1 with z | z
      · rw [z]; split <;> simp
      · simp [z]
    · have h3 : minL (if x < n then x else n) ns ≤ x ∧ minL (if x < n then x else n) ns ≤ n := by
        have h4 := h2 (if x < n then x else n) List.mem_cons_self
        generalize minL (if x < n then x else n) ns = m at h4
        split at h4 <;> omega
      rcases List.mem_cons.mp hy with z | z
      · subst z; exact h3.2
      · rcases List.mem_cons.mp z with z | z
        · subst z; exact h3.1
        · exact h2 y (List.mem_cons_of_mem _ z)
theorem maxL_uniq {n m : Int} {ns : List Int} (h1 : m ∈ n :: ns) (h2 : ∀ y ∈ n :: ns, y ≤ m) : m = maxL n ns := by
  obtain ⟨k1, k2⟩ := maxL_spec ns n
  have a1 := h2 _ k1
  have a2 := k2 _ h1
  omega
theorem minL_uniq {n m : Int} {ns : List Int} (h1 : m ∈ n :: ns) (h2 : ∀ y ∈ n :: ns, m ≤ y) : m = minL n ns := by
  obtain ⟨k1, k2⟩ := minL_spec ns n
  have a1 := h2 _ k1
  have a2 := k2 _ h1
  omega
def dBest (f : Int → List Int → Int) : List D → R D
  | [d] => (match d with
    | .list ds => (match ints? ds with | some (n :: ns) => .ok (.int (f n ns)) | _ => .bad)
    | .tuple ds => (match ints? ds with | some (n :: ns) => .ok (.int (f n ns)) | _ => .bad)
    | _ => .bad)
  | [d, e] => (match d, e with
    | .int i, .int j => .ok (.int (f i [j]))
    | _, _ => .bad)
  | _ => .bad
theorem best_ok {K : PySem.W.Frag} {f : Int → List Int → Int} {r1 r2 r3 : List V → Hp → VK → Prop} (h1 : ∀ (O : List Addr) H a n ns Q, SqL K H a ((n :: ns).map V.int) → (Q (.int (f n ns)) H) → r1 [.ref a] H Q) (h2 : ∀ (O : List Addr) H a n ns Q, SqT K H a ((n :: ns).map V.int) → (Q (.int (f n ns)) H) → r2 [.ref a] H Q)
    (h3 : ∀ H i j Q, (Q (.int (f i [j])) H) → r3 [.int i, .int j] H Q) : ClD Z (fun xs H Q => r1 xs H Q ∨ (r2 xs H Q ∨ r3 xs H Q)) (dBest f) := by
  intro O H xs ds Q hx hO h
  match ds, hx, h with
  | [], _, h => exact h.elim
  | _ :: _ :: _ :: _, _, h => exact h.elim
  | [d], .cons hd .nil, h =>
    cases d with
    | list ds =>
      obtain ⟨a, vs, rfl, _, ha, ra⟩ := hd.ref_lst
      have h' : Pst Rp Z O H (match ints? ds with | some (n :: ns) => .ok (.int (f n ns)) | _ => .bad) Q := h
      cases e : ints? ds with
      | none => rw [e] at h'; exact h'.elim
      | some ns =>
        rw [e] at h'
        rw [allOf_some int?_some e] at ra
        cases ns with
        | nil => exact h'.elim
        | cons n ns => exact .inl (h1 O _ _ n ns _ (by rw [← ra.ints]; exact SqL.of ha) (pst_ok h' (Same.refl _) (.int _)))
    | tuple ds =>
      obtain ⟨a, vs, rfl, _, ha, ra⟩ := hd.ref_tup
      have h' : Pst Rp Z O H (match ints? ds with | some (n :: ns) => .ok (.int (f n ns)) | _ => .bad) Q := h
      cases e : ints? ds with
      | none => rw [e] at h'; exact h'.elim
      | some ns =>
        rw [e] at h'
        rw [allOf_some int?_some e] at ra
        cases ns with
        | nil => exact h'.elim
        | cons n ns => exact .inr (.inl (h2 O _ _ n ns _ (by rw [← ra.ints]; exact SqT.of ha) (pst_ok h' (Same.refl _) (.int _))))
    | _ => exact h.elim
  | [d, e], .cons hd (.cons he .nil), h =>
    cases hd with
    | int i =>
      cases he with
      | int j => exact .inr (.inr (h3 H i j Q (pst_ok h (Same.refl _) (.int _))))
      | _ => exact h.elim
    | _ => cases he <;> exact h.elim
theorem max_ok {K : PySem.W.Frag} : ClD Z (fun xs H Q => rMax K xs H Q ∨ (rMaxT K xs H Q ∨ ∃ i j, xs = [.int i, .int j] ∧ Q (.int (if j > i then j else i)) H)) (dBest maxL) :=
  best_ok (K := K) (fun O H a n ns Q hs q => ⟨a, n :: ns, rfl, hs, by simp, fun m m1 m2 => by rw [maxL_uniq m1 m2]; exact q⟩) (fun O H a n ns Q hs q => ⟨a, n :: ns, rfl, hs, by simp, fun m m1 m2 => by rw [maxL_uniq m1 m2]; exact q⟩) fun H i j Q q => ⟨i, j, rfl, q⟩
theorem min_ok {K : PySem.W.Frag} : ClD Z (fun xs H Q => rMin K xs H Q ∨ (rMinT K xs H Q ∨ ∃ i j, xs = [.int i, .int j] ∧ Q (.int (if j < i then j else i)) H)) (dBest minL) :=
  best_ok (K := K) (fun O H a n ns Q hs q => ⟨a, n :: ns, rfl, hs, by simp, fun m m1 m2 => by rw [minL_uniq m1 m2]; exact q⟩) (fun O H a n ns Q hs q => ⟨a, n :: ns, rfl, hs, by simp, fun m m1 m2 => by rw [minL_uniq m1 m2]; exact q⟩) fun H i j Q q => ⟨i, j, rfl, q⟩
theorem d_max (hc : X.calm = true) (hg : Gl X "max") (hm : X.mg "max" = none) (ha : PA X (a :: es) (tDs Z fs)) (he : starEach (a :: es) X.env = (false, eval a X.env) :: starEach es X.env := by rfl) (hpl : (backTo pos (starEach es X.env)).any (·.1) = false := by rfl) : PE X (.Call (.Name "max" p) (a :: es) [] pos) (tD Z (eCall (dBest maxL) fs)) :=
  d_callB ((cr_max hc).or ((cr_maxT hc).or (call_max2 hc))) max_ok hg hm (by decide +kernel) ha (by decide) (by decide) he hpl
theorem d_min (hc : X.calm = true) (hg : Gl X "min") (hm : X.mg "min" = none) (ha : PA X (a :: es) (tDs Z fs)) (he : starEach (a :: es) X.env = (false, eval a X.env) :: starEach es X.env := by rfl) (hpl : (backTo pos (starEach es X.env)).any (·.1) = false := by rfl) : PE X (.Call (.Name "min" p) (a :: es) [] pos) (tD Z (eCall (dBest minL) fs)) :=
  d_callB ((cr_min hc).or ((cr_minT hc).or (call_min2 hc))) min_ok hg hm (by decide +kernel) ha (by decide) (by decide) he hpl

/-! ### sorted: ints; pairs of ints -/
def dSorted : D → R D
  | .list ds => (match ints? ds with
    | some ns => .ok (.list ((sortI ns).map .int))
    | none => match pairs? ds with
      | some ps => .ok (.list ((sortP ps).map pD))
      | none => .bad)
  | _ => .bad
/-- which pair stands at a value -/
def pairAt (H : Hp) (v : V) : Int × Int := match v with
  | .ref t => match H t with
    | some (.tup [.int i, .int j]) => (i, j)
    | _ => (0, 0)
  | _ => (0, 0)
theorem rp_pair {O : List Addr} {H : Hp} {v : V} {p : Int × Int} (h : Rp (hide O H) v (pD p)) : ∃ t, v = .ref t ∧ t ∉ O ∧ H t = some (.tup [.int p.1, .int p.2]) ∧ pairAt H v = p := by
  obtain ⟨a, vs, rfl, ho, ha, ra⟩ := Rp.ref_tup h
  obtain ⟨p1, p2⟩ := p
  match vs, ra with
  | _, .cons (.int _) (.cons (.int _) .nil) =>
    refine ⟨a, rfl, ho, ha, ?_⟩
    unfold pairAt
    simp only [ha]
theorem rp_pairs {O : List Addr} {H : Hp} : ∀ {vs : List V} {ps : List (Int × Int)}, RpL (hide O H) vs (ps.map pD) → vs.map (pairAt H) = ps ∧ ∀ v ∈ vs, Rp (hide O H) v (pD (pairAt H v))
  | [], [], _ => ⟨rfl, fun _ h => by cases h⟩
  | v :: vs, p :: ps, .cons h r => by
    obtain ⟨h1, h2⟩ := rp_pairs r
    obtain ⟨t, _, _, _, e⟩ := rp_pair h
    refine ⟨by rw [List.map_cons, h1, e], fun w hw => ?_⟩
    rcases List.mem_cons.mp hw with z | z
    · rw [z, e]; exact h
    · exact h2 w z
theorem RpL.ofPairs {O : List Addr} {H : Hp} : ∀ {vs : List V}, (∀ v ∈ vs, Rp (hide O H) v (pD (pairAt H v))) → RpL (hide O H) vs ((vs.map (pairAt H)).map pD)
  | [], _ => .nil
  | v :: vs, h => .cons (h v List.mem_cons_self) (RpL.ofPairs fun w hw => h w (List.mem_cons_of_mem _ hw))
theorem leP_of {k : V → Int × Int} {x y : V} (h : ltP k y x = false) : leP (k x) (k y) = true := by
  have h2 := SrtO.lexB_no.mp h
  simp only [leP, Bool.or_eq_true, Bool.and_eq_true, decide_eq_true_eq]
  omega
theorem sorted_ok {K : PySem.W.Frag} : ClD Z (fun xs H Q => rSortedI K xs H Q ∨ rSortedPO K xs H Q) (dOne dSorted) := one_ok fun O H x d Q hd hO h => by
  cases d with
  | list ds =>
    obtain ⟨a, vs, rfl, _, ha, ra⟩ := hd.ref_lst
    have h' : Pst Rp Z O H (match ints? ds with | some ns => .ok (.list ((sortI ns).map .int)) | none => match pairs? ds with | some ps => .ok (.list ((sortP ps).map pD)) | none => .bad) Q := h
    cases e : ints? ds with
    | some ns =>
      rw [e] at h'
      rw [allOf_some int?_some e] at ra
      refine .inl ⟨a, ns, rfl, by rw [← ra.ints]; exact SqL.of ha, fun ns' p pm srt np => ?_⟩
      have e2 : ns' = sortI ns := sorted_unique ordI (pm.trans (isort_perm leI ns).symm) (srt.imp fun {x y} hxy => by simpa [leI] using hxy) (isort_sorted ordI ns)
      rw [e2]
      exact pst_ok h' (same_new np) (.newL hO np (RpL.ofInts _))
    | none =>
      rw [e] at h'
      have h2 : Pst Rp Z O H (match pairs? ds with | some ps => .ok (.list ((sortP ps).map pD)) | none => .bad) Q := h'
      cases e2 : pairs? ds with
      | none => rw [e2] at h2; exact h2.elim
      | some ps =>
        rw [e2] at h2
        rw [allOf_some pair?_some e2] at ra
        obtain ⟨m1, m2⟩ := rp_pairs ra
        refine .inr ⟨a, vs, pairAt H, rfl, SqL.of ha, fun v hv => ?_, fun ys p srt stb np => ?_⟩
        · obtain ⟨t, rfl, _, ht, _⟩ := rp_pair (m2 v hv)
          exact ⟨t, rfl, ht⟩
        · have pm : ys.Perm vs := stb.perm
          have m3 : ∀ v ∈ ys, Rp (hide O H) v (pD (pairAt H v)) := fun v hv => m2 v (pm.mem_iff.mp hv)
          have e3 : ys.map (pairAt H) = sortP ps := by
            refine sorted_unique ordP (((pm.map _).trans (by rw [m1])).trans (isort_perm leP ps).symm) ?_ (isort_sorted ordP ps)
            refine List.pairwise_map.mpr (List.Pairwise.imp (fun {x y} hxy => ?_) srt)
            exact leP_of hxy
          refine pst_ok h2 (same_new np) (.newL hO np ?_)
          rw [← e3]
          exact RpL.ofPairs m3
  | _ => exact h.elim
theorem d_sorted (hg : Gl X "sorted") (hm : X.mg "sorted" = none) (ha : PE X a (tD Z fa)) (he : starEach [a] X.env = (false, eval a X.env) :: starEach [] X.env := by rfl) : PE X (.Call (.Name "sorted" p) [a] [] pos) (tD Z (eCall (dOne dSorted) (aCons fa aNil))) :=
  d_callB (cr_sortedI.or cr_sortedPO) (sorted_ok (K := X.K)) hg hm (by decide +kernel) (da_cons ha da_nil he) (by decide) (by decide) he rfl
end
end RL

set_option Elab.async false
set_option linter.all false
set_option maxRecDepth 100000
set_option maxHeartbeats 1000000
/-! # The D-layer: what is walked, targets, comprehensions -/
namespace RL
open PySem PySem.Spec PyProof.Rows L2

/-! ### an iterator as its data -/
structure Iters (M : Hp) (J : It) (ds : List D) : Prop where
  go : ∀ (i : Nat) (H : Hp), i < ds.length → Same M H → J.go i H
  stop : ∀ (i : Nat) (H : Hp), i = ds.length → Same M H → J.stop i H
  yld : ∀ (i : Nat) (H : Hp) (x : V) (H' : Hp) (O : List Addr) (d : D), ds[i]? = some d → (∀ p ∈ O, H p ≠ none) → Same M (hide O H) → J.yld i H x H' → Same H H' ∧ Rp (hide O H') x d
abbrev tI (Z : Zx) (f : Ev → R (List D)) : TI := tG Iters Z f
theorem pi_weak {X : Cx} {tg e : Expr} {t t' : TI} (h : PI X tg e t) (w : ∀ σ H Q, t' σ H Q → t σ H Q) : PI X tg e t' := ⟨fun pins s σ H Q I q => h.run pins s σ H Q I (w _ _ _ q)⟩

theorem it_list {K : PySem.W.Frag} {M : Hp} {a : Addr} {vs : List V} {ds : List D} (ha : M a = some (.lst vs)) (r : RpL M vs ds) : Iters M (Itl K a) ds where
  go := fun i H hi s => by
    obtain ⟨v, e, _⟩ := r.get (List.getElem?_eq_getElem hi)
    exact ⟨vs, v, SqL.of (s _ _ ha), e⟩
  stop := fun i H hi s => ⟨vs, SqL.of (s _ _ ha), by rw [r.length]; omega⟩
  yld := fun i H x H' O d hd hO s y => by
    obtain ⟨e, y⟩ := y
    subst e
    obtain ⟨v, e, q⟩ := r.get hd
    have e2 := y vs (SqL.of ((hide_le O H') _ _ (s _ _ ha)))
    rw [e] at e2; cases e2
    exact ⟨Same.refl _, q.mono s⟩
theorem it_tup {K : PySem.W.Frag} {M : Hp} {a : Addr} {vs : List V} {ds : List D} (ha : M a = some (.tup vs)) (r : RpL M vs ds) : Iters M (Itt K a) ds where
  go := fun i H hi s => by
    obtain ⟨v, e, _⟩ := r.get (List.getElem?_eq_getElem hi)
    exact ⟨vs, v, SqT.of (s _ _ ha), e⟩
  stop := fun i H hi s => ⟨vs, SqT.of (s _ _ ha), by rw [r.length]; omega⟩
  yld := fun i H x H' O d hd hO s y => by
    obtain ⟨e, y⟩ := y
    subst e
    obtain ⟨v, e, q⟩ := r.get hd
    have e2 := y vs (SqT.of ((hide_le O H') _ _ (s _ _ ha)))
    rw [e] at e2; cases e2
    exact ⟨Same.refl _, q.mono s⟩
/-- lo, lo + 1, .. : n ints -/
def rangeD (lo : Int) (n : Nat) : List D := (List.range n).map fun k => .int (lo + (k : Nat))
theorem rangeD_len (lo : Int) (n : Nat) : (rangeD lo n).length = n := by simp [rangeD]
theorem rangeD_get {lo : Int} {n i : Nat} {d : D} (h : (rangeD lo n)[i]? = some d) : d = .int (lo + (i : Nat)) := by
  unfold rangeD at h
  rw [List.getElem?_map] at h
  cases e : (List.range n)[i]? with
  | none => rw [e] at h; cases h
  | some k =>
    rw [e] at h
    have e2 : k = i := by
      obtain ⟨h1, h2⟩ := List.getElem?_eq_some_iff.mp e
      simp at h2
      exact h2.symm
    cases h
    rw [e2]
theorem it_range {M : Hp} {lo : Int} {n : Nat} : Iters M (Itr lo n) (rangeD lo n) where
  go := fun i H hi s => by rw [rangeD_len] at hi; exact hi
  stop := fun i H hi s => by rw [rangeD_len] at hi; exact Nat.le_of_eq hi.symm
  yld := fun i H x H' O d hd hO s y => by
    obtain ⟨e, e2⟩ := y
    subst e e2
    rw [rangeD_get hd]
    exact ⟨Same.refl _, .int _⟩
def signsD (x : Str) : List D := x.cps.toList.map fun c => .str ⟨#[c]⟩
theorem it_str {M : Hp} {x : Str} : Iters M (Its x) (signsD x) where
  go := fun i H hi s => by simp [signsD] at hi; exact hi
  stop := fun i H hi s => by simp [signsD] at hi; exact Nat.le_of_eq hi.symm
  yld := fun i H v H' O d hd hO s y => by
    obtain ⟨e, c, hc, e2⟩ := y
    subst e e2
    unfold signsD at hd
    rw [List.getElem?_map, Array.getElem?_toList, hc] at hd
    cases hd
    exact ⟨Same.refl _, .str _⟩
/-- (0, d0), (1, d1), .. -/
def enumD (k : Nat) : List D → List D
  | [] => []
  | d :: ds => .tuple [.int (k : Nat), d] :: enumD (k + 1) ds
theorem enumD_len : ∀ (ds : List D) (k : Nat), (enumD k ds).length = ds.length
  | [], _ => rfl
  | _ :: ds, k => by rw [enumD, List.length_cons, List.length_cons, enumD_len ds]
theorem enumD_get : ∀ {ds : List D} {k i : Nat} {d : D}, (enumD k ds)[i]? = some d → ∃ e, ds[i]? = some e ∧ d = .tuple [.int ((k + i : Nat) : Int), e]
  | [], _, _, _, h => by simp [enumD] at h
  | e :: ds, k, 0, d, h => by
    simp [enumD] at h
    exact ⟨e, rfl, h.symm⟩
  | _ :: ds, k, i + 1, d, h => by
    rw [enumD, List.getElem?_cons_succ] at h
    obtain ⟨e, h1, h2⟩ := enumD_get h
    exact ⟨e, by simpa using h1, by rw [h2]; congr 3; omega⟩
theorem it_enum {K : PySem.W.Frag} {M : Hp} {a : Addr} {vs : List V} {ds : List D} (ha : M a = some (.lst vs)) (r : RpL M vs ds) : Iters M (Ite K a) (enumD 0 ds) where
  go := fun i H hi s => by
    rw [enumD_len] at hi
    obtain ⟨v, e, _⟩ := r.get (List.getElem?_eq_getElem hi)
    exact ⟨vs, v, SqL.of (s _ _ ha), e⟩
  stop := fun i H hi s => ⟨vs, SqL.of (s _ _ ha), by rw [enumD_len] at hi; rw [r.length]; omega⟩
  yld := fun i H x H' O d hd hO s y => by
    obtain ⟨T, v, rfl, nT, rfl, y⟩ := y
    obtain ⟨e, h1, h2⟩ := enumD_get hd
    obtain ⟨v2, e1, q⟩ := r.get h1
    have e2 := y vs (SqL.of ((hide_le O H) _ _ (s _ _ ha)))
    rw [e1] at e2; cases e2
    rw [h2, Nat.zero_add]
    exact ⟨same_new nT, .newT hO nT (.cons (.int _) (.cons (q.mono s) .nil))⟩
def zipD : List D → List D → List D
  | d :: ds, e :: es => .tuple [d, e] :: zipD ds es
  | _, _ => []
theorem zipD_len : ∀ (ds es : List D), (zipD ds es).length = min ds.length es.length
  | [], _ => by simp [zipD]
  | _ :: _, [] => by simp [zipD]
  | _ :: ds, _ :: es => by simp [zipD, zipD_len ds es, Nat.add_min_add_right]
theorem zipD_get : ∀ {ds es : List D} {i : Nat} {d : D}, (zipD ds es)[i]? = some d → ∃ a b, ds[i]? = some a ∧ es[i]? = some b ∧ d = .tuple [a, b]
  | [], _, _, _, h => by simp [zipD] at h
  | _ :: _, [], _, _, h => by simp [zipD] at h
  | a :: ds, b :: es, 0, d, h => by
    simp [zipD] at h
    exact ⟨a, b, rfl, rfl, h.symm⟩
  | _ :: ds, _ :: es, i + 1, d, h => by
    rw [zipD, List.getElem?_cons_succ] at h
    simpa using zipD_get h
theorem it_zip {K : PySem.W.Frag} {M : Hp} {a b : Addr} {vs ws : List V} {ds es : List D} (ha : M a = some (.lst vs)) (hb : M b = some (.lst ws)) (r : RpL M vs ds) (q : RpL M ws es) : Iters M (Itz K a b) (zipD ds es) where
  go := fun i H hi s => by
    rw [zipD_len] at hi
    obtain ⟨v, e, _⟩ := r.get (List.getElem?_eq_getElem (show i < ds.length by omega))
    obtain ⟨w, e2, _⟩ := q.get (List.getElem?_eq_getElem (show i < es.length by omega))
    exact ⟨vs, ws, v, w, SqL.of (s _ _ ha), SqL.of (s _ _ hb), e, e2⟩
  stop := fun i H hi s => ⟨vs, ws, SqL.of (s _ _ ha), SqL.of (s _ _ hb), by rw [zipD_len] at hi; rw [r.length, q.length]; omega⟩
  yld := fun i H x H' O d hd hO s y => by
    obtain ⟨T, v, w, rfl, nT, rfl, y1, y2⟩ := y
    obtain ⟨a1, b1, h1, h2, h3⟩ := zipD_get hd
    obtain ⟨v2, e1, q1⟩ := r.get h1
    obtain ⟨w2, f1, q2⟩ := q.get h2
    have e2 := y1 vs (SqL.of ((hide_le O H) _ _ (s _ _ ha)))
    have f2 := y2 ws (SqL.of ((hide_le O H) _ _ (s _ _ hb)))
    rw [e1] at e2; cases e2
    rw [f1] at f2; cases f2
    rw [h3]
    exact ⟨same_new nT, .newT hO nT (.cons (q1.mono s) (.cons (q2.mono s) .nil))⟩

/-! ### walks of expressions -/
section
variable {X : Cx} {Z : Zx} {tg a b c : Expr} {es : List Expr} {fa fb fc : Ev → R D} {fs : Ev → R (List D)} {pos p : Pos}
/-- over a list or a tuple, whichever it is -/
def iSeq (K : PySem.W.Frag) (tl : TE) : TI := fun σ H Q => tl σ H fun x H1 => ∃ a, x = .ref a ∧ (((∃ xs, SqL K H1 a xs) ∧ Q (Itl K a) H1) ∨ ((∃ xs, SqT K H1 a xs) ∧ Q (Itt K a) H1))
theorem pi_seq {l : Expr} {tl : TE} (hl : PE X l tl) : PI X tg l (iSeq X.K tl) := by
  refine ⟨fun pins s σ H Q I h => thn (hl.run pins s σ H _ I h) ?_⟩
  rintro v s1 ⟨x, H1, I1, r1, a, rfl, q⟩
  cases r1
  have fp : ∀ {o : Obj} (b : Addr), b ∈ [s1.heap.objs.size] → FpOk X pins H1 b := fun {o} b hb => by
    have e : b = s1.heap.objs.size := List.mem_singleton.mp hb
    rw [e]
    exact I1.fpOk (Nat.le_refl _) (I1.hok.fresh (Nat.le_refl _))
  have kp : ∀ {o : Obj}, Inv X pins σ H1 { s1 with heap := s1.heap.push o } := fun {o} => I1.kept (t' := s1.toks) fun b u e => Heap.get?_push_of_some _ e
  rcases q with ⟨⟨xs, hx⟩, q⟩ | ⟨⟨xs, hx⟩, q⟩
  · obtain ⟨its, rv, pl, hz⟩ := I1.list hx
    exact wpAny_pyIter_list pl.isList ⟨_, [s1.heap.objs.size], _, _, H1, rfl, kp, turn_list a _, ⟨_, Heap.get?_push_size _ rfl, rfl, rfl⟩, fp (o := default), q⟩
  · obtain ⟨its, rv, pt, hz⟩ := I1.tuple hx
    exact wpAny_pyIter_tuple (items := its.toArray) pt ⟨_, [s1.heap.objs.size], _, _, H1, rfl, kp, turn_tuple a _, ⟨_, Heap.get?_push_size _ rfl, rfl, rfl⟩, fp (o := default), q⟩
def seqD : D → R (List D)
  | .list ds => .ok ds
  | .tuple ds => .ok ds
  | _ => .bad
def iSeqD (fa : Ev → R D) : Ev → R (List D) := fun ρ => fa ρ >>= seqD
theorem di_seq (ha : PE X a (tD Z fa)) : PI X tg a (tI Z (iSeqD fa)) := pi_weak (pi_seq ha) fun σ H Q h => by
  obtain ⟨O, ρ, hp, h⟩ := h
  refine ⟨O, ρ, hp, Pst.bind' h fun d x H1 _ s1 h1 k1 => ?_⟩
  cases h1 with
  | lst e r => exact ⟨_, rfl, .inl ⟨⟨_, SqL.of (hide_some e).2⟩, k1 _ H1 (Same.refl _) (it_list e r)⟩⟩
  | tup e r => exact ⟨_, rfl, .inr ⟨⟨_, SqT.of (hide_some e).2⟩, k1 _ H1 (Same.refl _) (it_tup e r)⟩⟩
  | _ => exact k1.elim
def iStrD (fa : Ev → R D) : Ev → R (List D) := fun ρ => fa ρ >>= fun d => match d with
  | .str x => .ok (signsD x)
  | _ => .bad
theorem di_str (ha : PE X a (tD Z fa)) : PI X tg a (tI Z (iStrD fa)) := pi_weak (pi_str ha) fun σ H Q h => by
  obtain ⟨O, ρ, hp, h⟩ := h
  refine ⟨O, ρ, hp, Pst.bind' h fun d x H1 _ s1 h1 k1 => ?_⟩
  cases h1 with
  | str z => exact ⟨z, rfl, k1 _ H1 (Same.refl _) it_str⟩
  | _ => exact k1.elim
def rng1 : List D → R (List D)
  | [d] => (match d with
    | .int j => if -1000000 ≤ j ∧ j ≤ 1000000 then .ok (rangeD 0 j.toNat) else .bad
    | _ => .bad)
  | _ => .bad
def rng2 : List D → R (List D)
  | [d, e] => (match d, e with
    | .int i, .int j => if -1000000 ≤ i ∧ i ≤ 1000000 ∧ -1000000 ≤ j ∧ j ≤ 1000000 then .ok (rangeD i (j - i).toNat) else .bad
    | _, _ => .bad)
  | _ => .bad
def iCall (g : List D → R (List D)) (fs : Ev → R (List D)) : Ev → R (List D) := fun ρ => fs ρ >>= g
theorem di_range1 (hg : Gl X "range") (hm : X.mg "range" = none) (ha : PE X a (tD Z fa)) (he : starEach [a] X.env = (false, eval a X.env) :: starEach [] X.env := by rfl) (hs : starEach [a] X.env = [(false, eval a X.env)] := by rfl) : PI X tg (.Call (.Name "range" p) [a] [] pos) (tI Z (iCall rng1 (aCons fa aNil))) :=
  pi_weak (pi_range1 hg hm (da_cons ha da_nil he) hs) fun σ H Q h => by
    obtain ⟨O, ρ, hp, h⟩ := h
    refine ⟨O, ρ, hp, Pst.bind' h fun ds xs H1 _ s1 h1 k1 => ?_⟩
    match ds, h1, k1 with
    | [], _, k1 => exact k1.elim
    | _ :: _ :: _, _, k1 => exact k1.elim
    | [d], .cons hd .nil, k1 =>
      cases hd with
      | int j =>
        have k2 : Pst Iters Z O H1 (if -1000000 ≤ j ∧ j ≤ 1000000 then .ok (rangeD 0 j.toNat) else .bad) Q := k1
        by_cases e : -1000000 ≤ j ∧ j ≤ 1000000
        · rw [if_pos e] at k2
          exact ⟨j, rfl, by omega, by omega, k2 _ H1 (Same.refl _) it_range⟩
        · rw [if_neg e] at k2; exact k2.elim
      | _ => exact k1.elim
theorem di_range2 (hg : Gl X "range") (hm : X.mg "range" = none) (ha : PE X a (tD Z fa)) (hb : PE X b (tD Z fb)) (he : starEach [a, b] X.env = (false, eval a X.env) :: starEach [b] X.env := by rfl) (he2 : starEach [b] X.env = (false, eval b X.env) :: starEach [] X.env := by rfl)
    (hs : starEach [a, b] X.env = [(false, eval a X.env), (false, eval b X.env)] := by rfl) (hs2 : starEach [b] X.env = [(false, eval b X.env)] := by rfl) : PI X tg (.Call (.Name "range" p) [a, b] [] pos) (tI Z (iCall rng2 (aCons fa (aCons fb aNil)))) :=
  pi_weak (pi_range2 hg hm (da_cons ha (da_cons hb da_nil he2) he) hs hs2) fun σ H Q h => by
    obtain ⟨O, ρ, hp, h⟩ := h
    refine ⟨O, ρ, hp, Pst.bind' h fun ds xs H1 _ s1 h1 k1 => ?_⟩
    match ds, h1, k1 with
    | [], _, k1 => exact k1.elim
    | [_], _, k1 => exact k1.elim
    | _ :: _ :: _ :: _, _, k1 => exact k1.elim
    | [d, e], .cons hd (.cons he .nil), k1 =>
      cases hd with
      | int i =>
        cases he with
        | int j =>
          have k2 : Pst Iters Z O H1 (if -1000000 ≤ i ∧ i ≤ 1000000 ∧ -1000000 ≤ j ∧ j ≤ 1000000 then .ok (rangeD i (j - i).toNat) else .bad) Q := k1
          by_cases e : -1000000 ≤ i ∧ i ≤ 1000000 ∧ -1000000 ≤ j ∧ j ≤ 1000000
          · rw [if_pos e] at k2
            exact ⟨i, j, rfl, by omega, k2 _ H1 (Same.refl _) it_range⟩
          · rw [if_neg e] at k2; exact k2.elim
        | _ => exact k1.elim
      | _ => cases he <;> exact k1.elim
def enum1 : List D → R (List D)
  | [d] => (match d with
    | .list ds => .ok (enumD 0 ds)
    | _ => .bad)
  | _ => .bad
theorem di_enum {elts : List Expr} {kk : Nat} {tpos : Pos} (hg : Gl X "enumerate") (hm : X.mg "enumerate" = none) (ha : PE X a (tD Z fa)) (he : starEach [a] X.env = (false, eval a X.env) :: starEach [] X.env := by rfl) (hs : starEach [a] X.env = [(false, eval a X.env)] := by rfl) :
    PI X (.Tuple elts kk tpos) (.Call (.Name "enumerate" p) [a] [] pos) (tI Z (iCall enum1 (aCons fa aNil))) :=
  pi_weak (pi_enum hg hm (da_cons ha da_nil he) hs) fun σ H Q h => by
    obtain ⟨O, ρ, hp, h⟩ := h
    refine ⟨O, ρ, hp, Pst.bind' h fun ds xs H1 _ s1 h1 k1 => ?_⟩
    match ds, h1, k1 with
    | [], _, k1 => exact k1.elim
    | _ :: _ :: _, _, k1 => exact k1.elim
    | [d], .cons hd .nil, k1 =>
      cases hd with
      | lst e r => exact ⟨_, _, rfl, SqL.of (hide_some e).2, k1 _ H1 (Same.refl _) (it_enum e r)⟩
      | _ => exact k1.elim
def zip2 : List D → R (List D)
  | [d, e] => (match d, e with
    | .list ds, .list es => .ok (zipD ds es)
    | _, _ => .bad)
  | _ => .bad
theorem di_zip {elts : List Expr} {kk : Nat} {tpos : Pos} (hg : Gl X "zip") (hm : X.mg "zip" = none) (ha : PE X a (tD Z fa)) (hb : PE X b (tD Z fb)) (he : starEach [a, b] X.env = (false, eval a X.env) :: starEach [b] X.env := by rfl) (he2 : starEach [b] X.env = (false, eval b X.env) :: starEach [] X.env := by rfl)
    (hpl : (backTo pos (starEach [b] X.env)).any (·.1) = false := by rfl) : PI X (.Tuple elts kk tpos) (.Call (.Name "zip" p) [a, b] [] pos) (tI Z (iCall zip2 (aCons fa (aCons fb aNil)))) :=
  pi_weak (pi_zip hg hm (da_cons ha (da_cons hb da_nil he2) he) he hpl) fun σ H Q h => by
    obtain ⟨O, ρ, hp, h⟩ := h
    refine ⟨O, ρ, hp, Pst.bind' h fun ds xs H1 _ s1 h1 k1 => ?_⟩
    match ds, h1, k1 with
    | [], _, k1 => exact k1.elim
    | [_], _, k1 => exact k1.elim
    | _ :: _ :: _ :: _, _, k1 => exact k1.elim
    | [d, e], .cons hd (.cons he .nil), k1 =>
      cases d with
      | list ds =>
        cases e with
        | list es =>
          cases hd with
          | lst e1 r1 =>
            cases he with
            | lst e2 r2 => exact ⟨_, _, _, _, rfl, SqL.of (hide_some e1).2, SqL.of (hide_some e2).2, k1 _ H1 (Same.refl _) (it_zip e1 e2 r1 r2)⟩
        | _ => exact k1.elim
      | _ => cases e <;> exact k1.elim
end

/-! ### targets -/
/-- a target by data: t tells the slots behind it; vs: the slots that it may change -/
def gD (K : PySem.W.Frag) (t : D → Ev → R Ev) (vs : List Nat) : TG := fun v σ H Q => ∃ O ρ d ρ', Pre K O H σ ρ ∧ Rp (hide O H) v d ∧ t d ρ = .ok ρ' ∧ ∀ σ', Pre K O H σ' ρ' → wipe σ' vs = wipe σ vs → Q σ' H
theorem pg_weak {X : Cx} {tg : Expr} {t t' : TG} (h : PG X tg t) (w : ∀ v σ H Q, t' v σ H Q → t v σ H Q) : PG X tg t' := ⟨fun pins s σ H v u Q I r q => h.run pins s σ H v u Q I r (w _ _ _ _ q)⟩
theorem Pre.set {K : PySem.W.Frag} {O : List Addr} {H : Hp} {σ : L2.St} {ρ : Ev} (h : Pre K O H σ ρ) {i : Nat} {v : V} {d : D} (r : Rp (hide O H) v d) : Pre K O H (σ.set i (some v)) (ρ.set i (some (Sl.fr d))) := by
  refine ⟨⟨by rw [List.length_set, List.length_set]; exact h.len, h.dom, fun j e hj => ?_, fun j ns hj => ?_⟩, fun j x hj w => ?_⟩
  rotate_left
  · rw [List.getElem?_set] at hj
    by_cases c : i = j
    · subst c
      simp only [if_true] at hj
      split at hj <;> cases hj
    · rw [if_neg c] at hj
      obtain ⟨a, h1, h2⟩ := h.ev.sc j ns hj
      exact ⟨a, by rw [List.getElem?_set_ne c]; exact h1, h2⟩
  · rw [List.getElem?_set] at hj
    by_cases c : i = j
    · subst c
      simp only [if_true] at hj
      split at hj
      · cases hj; cases w
      · cases hj
    · rw [if_neg c] at hj
      obtain ⟨p, o, h1, h2⟩ := h.ow j x hj w
      exact ⟨p, o, by rw [List.getElem?_set_ne c]; exact h1, h2⟩
  rw [List.getElem?_set] at hj
  by_cases c : i = j
  · subst c
    simp only [if_true] at hj
    split at hj
    · rename_i hl
      cases hj
      exact ⟨v, by rw [List.getElem?_set_self (by rw [h.len]; exact hl)], r⟩
    · cases hj
  · rw [if_neg c] at hj
    obtain ⟨w, h1, h2⟩ := h.ev.fr j e hj
    exact ⟨w, by rw [List.getElem?_set_ne c]; exact h1, h2⟩
theorem wipe_set {σ : L2.St} {v : Option V} : ∀ {vs : List Nat} {i : Nat}, i ∈ vs → wipe (σ.set i v) vs = wipe σ vs
  | [], _, h => by cases h
  | j :: vs, i, h => by
    unfold wipe
    by_cases c : i ∈ vs
    · rw [wipe_set c]
    · have e : i = j := by
        rcases List.mem_cons.mp h with z | z
        · exact z
        · exact absurd z c
      subst e
      have go : ∀ {ws : List Nat}, i ∉ ws → wipe (σ.set i v) ws = (wipe σ ws).set i v := by
        intro ws
        induction ws with
        | nil => intro _; rfl
        | cons k ws ih =>
          intro hk
          show (wipe (σ.set i v) ws).set k none = ((wipe σ ws).set k none).set i v
          rw [ih (fun z => hk (List.mem_cons_of_mem _ z)), List.set_comm]
          intro z
          exact hk (by rw [z]; exact List.mem_cons_self)
      rw [go c, List.set_set]
def tg1 (i : Nat) : D → Ev → R Ev := fun d ρ => .ok (ρ.set i (some (Sl.fr d)))
def tg2 (i j : Nat) : D → Ev → R Ev := fun d ρ => match d with
  | .tuple [p, q] => .ok ((ρ.set i (some (Sl.fr p))).set j (some (Sl.fr q)))
  | _ => .bad
theorem dg_name {K : PySem.W.Frag} {X : Cx} {i : Nat} {x : Str} {pos : Pos} {vs : List Nat} (hv : i ∈ vs) (hN : X.N.Nodup) (hi : X.N[i]? = some x) (hx : Loc X.env.scope x) (hf : X.fn x = true ∨ X.env.scope.names.lookup x = some .local) : PG X (.Name x pos) (gD K (tg1 i) vs) :=
  pg_weak (pg_name hN hi hx hf) fun v σ H Q h => by
    obtain ⟨O, ρ, d, ρ', hp, hr, e, q⟩ := h
    cases e
    exact q _ (hp.set hr) (wipe_set hv)
theorem dg_pair {K : PySem.W.Frag} {X : Cx} {i j k : Nat} {x y : Str} {p1 p2 pos : Pos} {vs : List Nat} (hc : X.calm = true) (hv : i ∈ vs) (hv2 : j ∈ vs) (hN : X.N.Nodup) (hi : X.N[i]? = some x) (hj : X.N[j]? = some y) (hx : Loc X.env.scope x) (hy : Loc X.env.scope y)
    (hf : X.fn x = true ∨ X.env.scope.names.lookup x = some .local) (hf2 : X.fn y = true ∨ X.env.scope.names.lookup y = some .local) : PG X (.Tuple [.Name x p1, .Name y p2] k pos) (gD K (tg2 i j) vs) :=
  pg_weak (pg_tup (n := 2) hc (pgs_cons (pg_name hN hi hx hf) (pgs_cons (pg_name hN hj hy hf2) pgs_nil))) fun v σ H Q h => by
    obtain ⟨O, ρ, d, ρ', hp, hr, e, q⟩ := h
    unfold tg2 at e
    split at e
    · cases e
      obtain ⟨a, ws, rfl, _, ha, ra⟩ := hr.ref_tup
      match ws, ra with
      | [w1, w2], .cons r1 (.cons r2 .nil) =>
        refine ⟨a, [w1, w2], rfl, SqT.of ha, rfl, w1, [w2], rfl, w2, [], rfl, rfl, ?_⟩
        exact q _ ((hp.set r1).set r2) (by rw [wipe_set hv2, wipe_set hv])
    · cases e

/-! ### comprehensions -/
def wipeE (ρ : Ev) : List Nat → Ev
  | [] => ρ
  | v :: vs => (wipeE ρ vs).set v none
theorem EvOk.wipe1 {K : PySem.W.Frag} {M : Hp} {σ : L2.St} {ρ : Ev} (h : EvOk K M σ ρ) (v : Nat) : EvOk K M (σ.set v none) (ρ.set v none) := by
  have at_ : ∀ {j : Nat} {x : Sl}, (ρ.set v none)[j]? = some (some x) → v ≠ j ∧ ρ[j]? = some (some x) := fun {j x} hj => by
    rw [List.getElem?_set] at hj
    by_cases c : v = j
    · subst c
      simp only [if_true] at hj
      split at hj <;> cases hj
    · rw [if_neg c] at hj
      exact ⟨c, hj⟩
  refine ⟨fun j e hj => ?_, fun j ns hj => ?_⟩
  · obtain ⟨c, hj⟩ := at_ hj
    obtain ⟨w, h1, h2⟩ := h.fr j e hj
    exact ⟨w, by rw [List.getElem?_set_ne c]; exact h1, h2⟩
  · obtain ⟨c, hj⟩ := at_ hj
    obtain ⟨a, h1, h2⟩ := h.sc j ns hj
    exact ⟨a, by rw [List.getElem?_set_ne c]; exact h1, h2⟩
theorem Pre.wipe {K : PySem.W.Frag} {O : List Addr} {H : Hp} {σ : L2.St} {ρ : Ev} (h : Pre K O H σ ρ) : ∀ vs : List Nat, Pre K O H (L2.wipe σ vs) (wipeE ρ vs)
  | [] => h
  | v :: vs => by
    have ih := Pre.wipe h vs
    refine ⟨⟨by show ((L2.wipe σ vs).set v none).length = ((wipeE ρ vs).set v none).length; rw [List.length_set, List.length_set]; exact ih.len, h.dom, ih.ev.wipe1 v⟩, fun j x hj w => ?_⟩
    have hj' : ((wipeE ρ vs).set v none)[j]? = some (some x) := hj
    rw [List.getElem?_set] at hj'
    by_cases c : v = j
    · subst c
      simp only [if_true] at hj'
      split at hj' <;> cases hj'
    · rw [if_neg c] at hj'
      obtain ⟨p, o, h1, h2⟩ := ih.ow j x hj' w
      exact ⟨p, o, by show ((L2.wipe σ vs).set v none)[j]? = _; rw [List.getElem?_set_ne c]; exact h1, h2⟩
def noX {α : Type} : R α → R α
  | .ok a => .ok a
  | _ => .bad
def lcGo (t : D → Ev → R Ev) (c : Ev → R Bool) (f : Ev → R D) (ρ : Ev) : List D → R (List D)
  | [] => .ok []
  | d :: ds => noX (t d ρ) >>= fun ρ' => noX (c ρ') >>= fun k => if k then noX (f ρ') >>= fun y => lcGo t c f ρ ds >>= fun ys => .ok (y :: ys) else lcGo t c f ρ ds
def eLc (it : Ev → R (List D)) (t : D → Ev → R Ev) (c : Ev → R Bool) (f : Ev → R D) (vs : List Nat) : Ev → R D := fun ρ => it ρ >>= fun ds => if ds.length ≤ lim then lcGo t c f (wipeE ρ vs) ds >>= fun ys => .ok (.list ys) else .bad
def cYes : Ev → R Bool := fun _ => .ok true
theorem noX_ok {α : Type} {r : R α} {a : α} (h : noX r = .ok a) : r = .ok a := by cases r <;> first | exact h | cases h
theorem pst_noX {α W : Type} {rel : Hp → W → α → Prop} {Z Z0 : Zx} {O : List Addr} {H : Hp} {r : R α} {a : α} {Q : W → Hp → Prop} (h : noX r = .ok a) (q : ∀ w H', Same H H' → rel (hide O H') w a → Q w H') : Pst rel Z0 O H r Q := by
  rw [noX_ok h]
  exact q
abbrev Zx.nox (Z : Zx) : Zx := ⟨Z.K, E0, Z.cl⟩
theorem hide_cons {Dd : Addr} {O : List Addr} {H : Hp} {M : Hp} (s : Same M (hide O H)) (hD : M Dd = none) : Same M (hide (Dd :: O) H) := fun a o h => by
  obtain ⟨h1, h2⟩ := hide_some (s a o h)
  have ne : a ≠ Dd := fun z => by rw [z, hD] at h; cases h
  rw [hide_out (by intro z; rcases List.mem_cons.mp z with z | z; exact ne z; exact h1 z)]
  exact h2
theorem lc_ok {wi : Ev → R (List D)} {t : D → Ev → R Ev} {c : Ev → R Bool} {f : Ev → R D} {vs : List Nat} {Z : Zx} (σ : L2.St) (H : Hp) (Q : VK) (h : tD Z (eLc wi t c f vs) σ H Q) : tLc (tI Z wi) (gD Z.K t vs) (tB' Z.nox c) (tD Z.nox f) vs σ H Q := by
  obtain ⟨O, ρ, hp, h⟩ := h
  refine ⟨O, ρ, hp, Pst.bind' h fun ds J H1 _ s1 h1 k1 => ?_⟩
  have hp1 := hp.mono s1
  intro Dd nD
  by_cases hl : ds.length ≤ lim
  case neg => rw [if_neg hl] at k1; exact k1.elim
  rw [if_pos hl] at k1
  cases eg : lcGo t c f (wipeE ρ vs) ds with
  | exc x =>
    exfalso
    have go : ∀ (ds : List D), lcGo t c f (wipeE ρ vs) ds ≠ .exc x := by
      intro ds
      induction ds with
      | nil => intro z; cases z
      | cons d ds ih =>
        intro z
        unfold lcGo at z
        cases e1 : noX (t d (wipeE ρ vs)) with
        | exc y => cases (show R Ev from t d (wipeE ρ vs)) <;> (cases et : t d (wipeE ρ vs) <;> rw [et] at e1 <;> cases e1)
        | bad => rw [e1] at z; cases z
        | ok ρ' =>
          rw [e1, R.ok_bind] at z
          cases e2 : noX (c ρ') with
          | exc y => cases et : c ρ' <;> rw [et] at e2 <;> cases e2
          | bad => rw [e2] at z; cases z
          | ok k =>
            rw [e2, R.ok_bind] at z
            cases k with
            | false => exact ih (by simpa using z)
            | true =>
              simp only [if_true] at z
              cases e3 : noX (f ρ') with
              | exc y => cases et : f ρ' <;> rw [et] at e3 <;> cases e3
              | bad => rw [e3] at z; cases z
              | ok y =>
                rw [e3, R.ok_bind] at z
                cases e4 : lcGo t c f (wipeE ρ vs) ds with
                | ok ys => rw [e4] at z; cases z
                | bad => rw [e4] at z; cases z
                | exc y =>
                  rw [e4] at z
                  cases z
                  exact ih e4
    exact go ds eg
  | bad => rw [eg] at k1; exact k1.elim
  | ok out =>
    rw [eg, R.ok_bind] at k1
    have sM : Same (hide O H1) H1 := hide_le _ _
    have hDM : hide O H1 Dd = none := by
      cases q : hide O H1 Dd with
      | none => rfl
      | some o => rw [(hide_some q).2] at nD; cases nD
    have hDO : Dd ∉ O := hp1.new nD
    refine ⟨fun i m G => m = ds.length - i ∧ i ≤ ds.length ∧ Same H1 G ∧ ∃ (acc : List V) (done rest : List D), G Dd = some (.lst acc) ∧ RpL (hide (Dd :: O) G) acc done ∧ done.length ≤ i ∧ lcGo t c f (wipeE ρ vs) (ds.drop i) = .ok rest ∧ out = done ++ rest,
      ⟨ds.length, by omega, Nat.zero_le _, same_new nD, [], [], out, upd_same, .nil, Nat.zero_le _, eg, rfl⟩, ?_⟩
    rintro i m G ⟨rfl, hi, sG, acc, done, rest, hacc, hr, hdl, hgo, hout⟩
    have sMG : Same (hide O H1) G := sM.trans sG
    have sHG : Same (hide O H1) (hide O G) := hide_mono sG
    have sMc : Same (hide O H1) (hide (Dd :: O) G) := hide_cons sHG hDM
    have domG : ∀ p ∈ Dd :: O, G p ≠ none := fun p hpm z => by
      rcases List.mem_cons.mp hpm with e | e
      · rw [e, hacc] at z; cases z
      · exact (hp1.mono sG).dom p e z
    by_cases c1 : i = ds.length
    · refine .inl ⟨h1.stop i G c1 sMG, ?_⟩
      rw [c1, List.drop_length] at hgo
      cases hgo
      rw [List.append_nil] at hout
      have r2 : RpL (hide O G) acc out := by
        rw [hout]
        refine hr.mono fun a o h => ?_
        obtain ⟨h2, h3⟩ := hide_some h
        rw [hide_out (fun z => h2 (List.mem_cons_of_mem _ z))]
        exact h3
      exact pst_ok k1 sG (.lst (by rw [hide_out hDO]; exact hacc) r2)
    · have hlt : i < ds.length := by omega
      obtain ⟨d, hd⟩ : ∃ d, ds[i]? = some d := ⟨_, List.getElem?_eq_getElem hlt⟩
      have edrop : ds.drop i = d :: ds.drop (i + 1) := by
        rw [List.drop_eq_getElem_cons hlt]
        have : ds[i] = d := by rw [List.getElem?_eq_getElem hlt] at hd; exact Option.some.inj hd
        rw [this]
      rw [edrop] at hgo
      unfold lcGo at hgo
      refine .inr ⟨h1.go i G hlt sMG, fun G' => Same H1 G' ∧ ∃ (acc : List V) (done rest : List D), G' Dd = some (.lst acc) ∧ RpL (hide (Dd :: O) G') acc done ∧ done.length ≤ i + 1 ∧ lcGo t c f (wipeE ρ vs) (ds.drop (i + 1)) = .ok rest ∧ out = done ++ rest,
        fun G' hG' => ⟨ds.length - (i + 1), by omega, rfl, hlt, hG'⟩, fun x G' hy => ?_⟩
      obtain ⟨sGG, rx⟩ := h1.yld i G x G' (Dd :: O) d hd domG sMc hy
      cases e1 : noX (t d (wipeE ρ vs)) with
      | exc y => rw [e1] at hgo; cases hgo
      | bad => rw [e1] at hgo; cases hgo
      | ok ρ' =>
        rw [e1, R.ok_bind] at hgo
        have pre1 : Pre Z.K (Dd :: O) G' (L2.wipe σ vs) (wipeE ρ vs) := by
          have q := hp1.wipe vs
          refine ⟨⟨q.len, fun p hpm z => ?_, q.ev.mono (fun a o h => ?_)⟩, fun i x ei w => ?_⟩
          · cases q2 : G p with
            | none => exact domG p hpm q2
            | some o => rw [sGG _ _ q2] at z; cases z
          · exact hide_mono sGG a o (sMc a o h)
          · obtain ⟨p, o, w1, w2, w3⟩ := q.ow i x ei w
            exact ⟨p, o, w1, (sG.trans sGG) _ _ w2, w3.mono (sMc.trans (hide_mono sGG))⟩
        refine ⟨Dd :: O, wipeE ρ vs, d, ρ', pre1, rx, noX_ok e1, fun σ2 pre2 hw => ?_⟩
        have hww : L2.wipe (L2.wipe σ vs) vs = L2.wipe σ vs := by
          have go : ∀ (ws : List Nat), (∀ v ∈ ws, v ∈ vs) → L2.wipe (L2.wipe σ vs) ws = L2.wipe σ vs := by
            have at_ : ∀ (us : List Nat) (v : Nat), v ∈ us → (L2.wipe σ us).set v none = L2.wipe σ us := by
              intro us
              induction us with
              | nil => intro v hv; cases hv
              | cons u us ih =>
                intro v hv
                show ((L2.wipe σ us).set u none).set v none = (L2.wipe σ us).set u none
                by_cases e : u = v
                · rw [e, List.set_set]
                · rw [List.set_comm _ _ e]
                  rcases List.mem_cons.mp hv with z | z
                  · exact absurd z.symm e
                  · rw [ih v z]
            intro ws
            induction ws with
            | nil => intro _; rfl
            | cons w ws ih =>
              intro hws
              show (L2.wipe (L2.wipe σ vs) ws).set w none = _
              rw [ih (fun v hv => hws v (List.mem_cons_of_mem _ hv))]
              exact at_ vs w (hws w List.mem_cons_self)
          exact go vs fun _ h => h
        refine ⟨by rw [hw, hww], ?_⟩
        cases e2 : noX (c ρ') with
        | exc y => rw [e2] at hgo; cases hgo
        | bad => rw [e2] at hgo; cases hgo
        | ok k =>
          rw [e2, R.ok_bind] at hgo
          refine ⟨Dd :: O, ρ', pre2, pst_noX (Z := Z) e2 fun b H3 s3 eb => ?_⟩
          have eb' : b = k := eb
          subst eb'
          have keep : ∀ {G3 : Hp}, Same G' G3 → Same H1 G3 ∧ G3 Dd = some (.lst acc) ∧ RpL (hide (Dd :: O) G3) acc done := fun {G3} s => ⟨(sG.trans sGG).trans s, (sGG.trans s) _ _ hacc, hr.mono (hide_mono (sGG.trans s))⟩
          cases b with
          | false =>
            obtain ⟨q1, q2, q3⟩ := keep s3
            exact iteF ⟨q1, acc, done, rest, q2, q3, by omega, by simpa using hgo, hout⟩
          | true =>
            simp only [if_true] at hgo
            refine iteT ?_
            cases e3 : noX (f ρ') with
            | exc y => rw [e3] at hgo; cases hgo
            | bad => rw [e3] at hgo; cases hgo
            | ok y =>
              rw [e3, R.ok_bind] at hgo
              refine ⟨Dd :: O, ρ', pre2.mono s3, pst_noX (Z := Z) e3 fun w H4 s4 rw4 => ?_⟩
              obtain ⟨q1, q2, q3⟩ := keep (s3.trans s4)
              refine ⟨acc, q2, ?_, ?_⟩
              · rw [q3.length, lim_eq]; omega
              · cases e4 : lcGo t c f (wipeE ρ vs) (ds.drop (i + 1)) with
                | exc z => rw [e4] at hgo; cases hgo
                | bad => rw [e4] at hgo; cases hgo
                | ok ys =>
                  rw [e4, R.ok_bind] at hgo
                  cases hgo
                  have hin : Dd ∈ Dd :: O := List.mem_cons_self
                  refine ⟨fun a o h => ?_, acc ++ [w], done ++ [y], ys, upd_same, ?_, by rw [List.length_append, List.length_singleton]; omega, rfl, by rw [hout, List.append_assoc]; rfl⟩
                  · rw [upd_ne (ne_of_none h nD)]
                    exact q1 a o h
                  · rw [hide_same_upd hin]
                    exact q3.append (.one rw4)
section
variable {X : Cx} {Z : Zx} {elt tg iter : Expr} {ifs : List Expr} {scope : Scope} {own : List (Str × Nat)} {pos : Pos} {wi : Ev → R (List D)} {t : D → Ev → R Ev} {c : Ev → R Bool} {f : Ev → R D}
theorem dpts_nil : PTs X [] (tB' Z cYes) := ⟨fun pins s σ H Q I h => by
  obtain ⟨O, ρ, hp, h⟩ := h
  exact pts_nil.run pins s σ H Q I (h true H (Same.refl _) rfl)⟩
theorem dpts_one {e : Expr} (h : PT X e (tB' Z c)) : PTs X [e] (tB' Z c) := pts_one h
theorem d_lc (hc : X.calm = true) (hN : X.N.Nodup) (hi : PI X tg iter (tI Z wi)) (ok : blkC X.N X.env.scope scope own = true)
    (hg : ∀ (s : Shared) (H : Hp) (C : Addr) (cl : List (Str × Addr)) (fp : List Addr), PG (X.blk s H scope (compEnvC scope cl C X.env) fp) tg (gD Z.K t (own.map (·.2))))
    (ht : ∀ (s : Shared) (H : Hp) (C : Addr) (cl : List (Str × Addr)) (fp : List Addr), PTs (X.blk s H scope (compEnvC scope cl C X.env) fp) ifs (tB' Z.nox c))
    (he : ∀ (s : Shared) (H : Hp) (C : Addr) (cl : List (Str × Addr)) (fp : List Addr), PE (X.blk s H scope (compEnvC scope cl C X.env) fp) elt (tD Z.nox f)) (hs : ∀ x, foldedSetIterable iter X.env x = pure x := by intro _; rfl) :
    PE X (.ListComp elt [⟨tg, iter, ifs, 0⟩] scope pos) (tD Z (eLc wi t c f (own.map (·.2)))) :=
  pe_weak (pe_lc hc hN hi (blkOk_by ok) hg ht he hs) lc_ok
end
end RL

set_option Elab.async false
set_option linter.all false
set_option maxRecDepth 100000
set_option maxHeartbeats 1000000
/-! # The D-layer: trees of lists that nobody else holds -/
namespace RL
open PySem PySem.Spec PyProof.Rows L2

mutual
/-- no list, no dict within -/
def noL : D → Bool
  | .none => true
  | .bool _ => true
  | .int _ => true
  | .str _ => true
  | .tuple ds => noLs ds
  | .list _ => false
  | .dict _ => false
def noLs : List D → Bool
  | [] => true
  | d :: ds => noL d && noLs ds
end
theorem noLs_mem : ∀ {ds : List D}, noLs ds = true → ∀ d ∈ ds, noL d = true
  | [], _, _, h => by cases h
  | e :: ds, h, d, hd => by
    rw [noLs, Bool.and_eq_true] at h
    rcases List.mem_cons.mp hd with z | z
    · rw [z]; exact h.1
    · exact noLs_mem h.2 d z
theorem noLs_append : ∀ {ds es : List D}, noLs ds = true → noLs es = true → noLs (ds ++ es) = true
  | [], _, _, h => h
  | d :: ds, es, h, g => by
    rw [noLs, Bool.and_eq_true] at h
    show noLs (d :: (ds ++ es)) = true
    rw [noLs, Bool.and_eq_true]
    exact ⟨h.1, noLs_append h.2 g⟩
mutual
/-- such data leans on tuples alone -/
theorem Rp.stay {H H' : Hp} (k : ∀ a xs, H a = some (.tup xs) → H' a = some (.tup xs)) : ∀ {v : V} {d : D}, Rp H v d → noL d = true → Rp H' v d
  | _, _, .non, _ => .non
  | _, _, .bl b, _ => .bl b
  | _, _, .int i, _ => .int i
  | _, _, .str x, _ => .str x
  | _, _, .lst _ _, h => by simp [noL] at h
  | _, _, .tup e r, h => .tup (k _ _ e) (RpL.stay k r (by simpa [noL] using h))
  | _, _, .dct _ _, h => by simp [noL] at h
theorem RpL.stay {H H' : Hp} (k : ∀ a xs, H a = some (.tup xs) → H' a = some (.tup xs)) : ∀ {vs : List V} {ds : List D}, RpL H vs ds → noLs ds = true → RpL H' vs ds
  | _, _, .nil, _ => .nil
  | _, _, .cons q r, h => by
    rw [noLs, Bool.and_eq_true] at h
    exact .cons (Rp.stay k q h.1) (RpL.stay k r h.2)
end

mutual
/-- v is the data d; its lists stand at ps, each by itself; its leaves are seen in M -/
inductive Tr (M H : Hp) : V → D → List Addr → Prop where
  | leaf {v : V} {d : D} : noL d = true → Rp M v d → Tr M H v d []
  | lst {a : Addr} {vs : List V} {ds : List D} {ps : List Addr} : H a = some (.lst vs) → TrL M H vs ds ps → Tr M H (.ref a) (.list ds) (a :: ps)
inductive TrL (M H : Hp) : List V → List D → List Addr → Prop where
  | nil : TrL M H [] [] []
  | cons {v : V} {vs : List V} {d : D} {ds : List D} {ps qs : List Addr} : Tr M H v d ps → TrL M H vs ds qs → TrL M H (v :: vs) (d :: ds) (ps ++ qs)
end
mutual
theorem Tr.stay {M H M' H' : Hp} (m : ∀ a xs, M a = some (.tup xs) → M' a = some (.tup xs)) : ∀ {v : V} {d : D} {ps : List Addr}, (∀ p ∈ ps, ∀ xs, H p = some (.lst xs) → H' p = some (.lst xs)) → Tr M H v d ps → Tr M' H' v d ps
  | _, _, _, _, .leaf n r => .leaf n (r.stay m n)
  | _, _, _, k, .lst e r => .lst (k _ List.mem_cons_self _ e) (TrL.stay m (fun p hp => k p (List.mem_cons_of_mem _ hp)) r)
theorem TrL.stay {M H M' H' : Hp} (m : ∀ a xs, M a = some (.tup xs) → M' a = some (.tup xs)) : ∀ {vs : List V} {ds : List D} {ps : List Addr}, (∀ p ∈ ps, ∀ xs, H p = some (.lst xs) → H' p = some (.lst xs)) → TrL M H vs ds ps → TrL M' H' vs ds ps
  | _, _, _, _, .nil => .nil
  | _, _, _, k, .cons q r => .cons (Tr.stay m (fun p hp => k p (List.mem_append_left _ hp)) q) (TrL.stay m (fun p hp => k p (List.mem_append_right _ hp)) r)
end
theorem Tr.mono {M H M' H' : Hp} (m : Same M M') (k : Same H H') {v : V} {d : D} {ps : List Addr} (t : Tr M H v d ps) : Tr M' H' v d ps := Tr.stay (fun a xs h => m _ _ h) (fun p _ xs h => k _ _ h) t
theorem TrL.mono {M H M' H' : Hp} (m : Same M M') (k : Same H H') {v : List V} {d : List D} {ps : List Addr} (t : TrL M H v d ps) : TrL M' H' v d ps := TrL.stay (fun a xs h => m _ _ h) (fun p _ xs h => k _ _ h) t
mutual
theorem Tr.rp {M H N : Hp} (m : ∀ a xs, M a = some (.tup xs) → N a = some (.tup xs)) : ∀ {v : V} {d : D} {ps : List Addr}, (∀ p ∈ ps, ∀ xs, H p = some (.lst xs) → N p = some (.lst xs)) → Tr M H v d ps → Rp N v d
  | _, _, _, _, .leaf n r => r.stay m n
  | _, _, _, k, .lst e r => .lst (k _ List.mem_cons_self _ e) (TrL.rp m (fun p hp => k p (List.mem_cons_of_mem _ hp)) r)
theorem TrL.rp {M H N : Hp} (m : ∀ a xs, M a = some (.tup xs) → N a = some (.tup xs)) : ∀ {vs : List V} {ds : List D} {ps : List Addr}, (∀ p ∈ ps, ∀ xs, H p = some (.lst xs) → N p = some (.lst xs)) → TrL M H vs ds ps → RpL N vs ds
  | _, _, _, _, .nil => .nil
  | _, _, _, k, .cons q r => .cons (Tr.rp m (fun p hp => k p (List.mem_append_left _ hp)) q) (TrL.rp m (fun p hp => k p (List.mem_append_right _ hp)) r)
end
mutual
theorem Tr.lists {M H : Hp} : ∀ {v : V} {d : D} {ps : List Addr}, Tr M H v d ps → ∀ p ∈ ps, ∃ xs, H p = some (.lst xs)
  | _, _, _, .leaf _ _, p, h => by cases h
  | _, _, _, .lst e r, p, h => by
    rcases List.mem_cons.mp h with z | z
    · rw [z]; exact ⟨_, e⟩
    · exact TrL.lists r p z
theorem TrL.lists {M H : Hp} : ∀ {vs : List V} {ds : List D} {ps : List Addr}, TrL M H vs ds ps → ∀ p ∈ ps, ∃ xs, H p = some (.lst xs)
  | _, _, _, .nil, p, h => by cases h
  | _, _, _, .cons q r, p, h => by
    rcases List.mem_append.mp h with z | z
    · exact Tr.lists q p z
    · exact TrL.lists r p z
end
theorem TrL.length {M H : Hp} : ∀ {vs : List V} {ds : List D} {ps : List Addr}, TrL M H vs ds ps → vs.length = ds.length
  | _, _, _, .nil => rfl
  | _, _, _, .cons _ r => by rw [List.length_cons, List.length_cons, TrL.length r]
theorem TrL.append {M H : Hp} : ∀ {vs ws : List V} {ds es : List D} {ps qs : List Addr}, TrL M H vs ds ps → TrL M H ws es qs → TrL M H (vs ++ ws) (ds ++ es) (ps ++ qs)
  | _, _, _, _, _, _, .nil, t => t
  | _, _, _, _, _, _, .cons q r, t => by
    rw [List.append_assoc]
    exact .cons q (TrL.append r t)
theorem TrL.flat {M H : Hp} : ∀ {vs : List V} {ds : List D}, RpL M vs ds → noLs ds = true → TrL M H vs ds []
  | _, _, .nil, _ => .nil
  | _, _, .cons q r, h => by
    rw [noLs, Bool.and_eq_true] at h
    exact .cons (ps := []) (.leaf h.1 q) (TrL.flat r h.2)
theorem TrL.one {M H : Hp} {v : V} {d : D} {ps : List Addr} (t : Tr M H v d ps) : TrL M H [v] [d] ps := by
  have := TrL.cons t .nil
  rwa [List.append_nil] at this
/-- v is new data, as a tree -/
def DFr (H0 M H : Hp) (v : V) (d : D) : Prop := ∃ ps, Tr M H v d ps ∧ ps.Nodup ∧ ∀ p ∈ ps, H0 p = none
theorem DFr.rp {O : List Addr} {H0 H : Hp} {v : V} {d : D} (hO : ∀ p ∈ O, H0 p ≠ none) (h : DFr H0 (hide O H) H v d) : Rp (hide O H) v d := by
  obtain ⟨ps, t, _, hn⟩ := h
  exact t.rp (fun _ _ q => q) fun p hp xs q => by rw [hide_out (fun z => hO p z (hn p hp))]; exact q
theorem DFr.less {H0 H1 M H : Hp} {v : V} {d : D} (s : Same H0 H1) (h : DFr H1 M H v d) : DFr H0 M H v d := by
  obtain ⟨ps, t, n, hn⟩ := h
  exact ⟨ps, t, n, fun p hp => s.free (hn p hp)⟩
theorem DFr.up {H0 M M' H H' : Hp} {v : V} {d : D} (m : Same M M') (s : Same H H') (h : DFr H0 M H v d) : DFr H0 M' H' v d := by
  obtain ⟨ps, t, n, hn⟩ := h
  exact ⟨ps, t.mono m s, n, hn⟩

theorem DFr.rp2 {O : List Addr} {H H' : Hp} {v : V} {d : D} (hO : ∀ p ∈ O, H p ≠ none) (_ : Same H H') (h : DFr H (hide O H') H' v d) : Rp (hide O H') v d := by
  obtain ⟨ps, t, _, hn⟩ := h
  exact t.rp (fun _ _ q => q) fun p hp xs q => by rw [hide_out (fun z => hO p z (hn p hp))]; exact q
/-! ### expressions that give new trees -/
def PstF (Z : Zx) (O : List Addr) (H : Hp) (r : R D) (Q : VK) : Prop := match r with
  | .ok d => ∀ v H', Same H H' → DFr H (hide O H') H' v d → Q v H'
  | .exc c => ∀ H', Same H H' → Z.E (.ref (Z.cl c)) none H'
  | .bad => False
def tF (Z : Zx) (f : Ev → R D) : TE := fun σ H Q => ∃ O ρ, Pre Z.K O H σ ρ ∧ PstF Z O H (f ρ) Q
section
variable {X : Cx} {Z : Zx} {a b c e : Expr} {es : List Expr} {f fa fb : Ev → R D} {fs : Ev → R (List D)} {pos p : Pos} {O : List Addr} {H : Hp} {σ : L2.St} {ρ : Ev}
theorem PstF.up {r : R D} {Q : VK} {H1 : Hp} (s : Same H H1) (h : PstF Z O H r Q) : PstF Z O H1 r Q := by
  cases r with
  | ok a => exact fun w H' s' q => h w H' (s.trans s') (q.less s)
  | exc c => exact fun H' s' => h H' (s.trans s')
  | bad => exact h
/-- a part, then the rest -/
theorem PstF.bind {α W : Type} {rel : Hp → W → α → Prop} {r : R α} {k : α → R D} {Q : VK} {Q' : W → Hp → Prop} (h : PstF Z O H (r >>= k) Q)
    (hk : ∀ a w H1, r = .ok a → Same H H1 → rel (hide O H1) w a → PstF Z O H1 (k a) Q → Q' w H1) : Pst rel Z O H r Q' := by
  cases r with
  | ok a => exact fun w H' s q => hk a w H' rfl s q (PstF.up s h)
  | exc c => exact h
  | bad => exact h
theorem pstF_ok {H' : Hp} {d : D} {v : V} {Q : VK} (h : PstF Z O H (.ok d) Q) (s : Same H H') (r : DFr H (hide O H') H' v d) : Q v H' := h v H' s r
theorem dF_D (h : PE X e (tF Z f)) : PE X e (tD Z f) := pe_weak h fun σ H Q hh => by
  obtain ⟨O, ρ, hp, q⟩ := hh
  refine ⟨O, ρ, hp, ?_⟩
  cases e : f ρ with
  | ok d =>
    rw [e] at q
    exact fun v H' s r => q v H' s (r.rp hp.dom)
  | exc c => rw [e] at q; exact q
  | bad => rw [e] at q; exact q.elim
def eFlat (f : Ev → R D) : Ev → R D := fun ρ => f ρ >>= fun d => if noL d then .ok d else .bad
theorem df_flat (h : PE X e (tD Z f)) : PE X e (tF Z (eFlat f)) := pe_weak h fun σ H Q hh => by
  obtain ⟨O, ρ, hp, q⟩ := hh
  refine ⟨O, ρ, hp, PstF.bind q fun d v H1 _ s r k => ?_⟩
  by_cases n : noL d = true
  · rw [if_pos n] at k
    exact pstF_ok k (Same.refl _) ⟨[], .leaf n r, List.nodup_nil, fun p hp => by cases hp⟩
  · rw [if_neg n] at k; exact k.elim
theorem DFr.newL {vs : List V} {ds : List D} {q : Addr} (hO : ∀ z ∈ O, H z ≠ none) (np : H q = none) (r : RpL (hide O H) vs ds) (n : noLs ds = true) : DFr H (hide O (upd H q (.lst vs))) (upd H q (.lst vs)) (.ref q) (.list ds) :=
  ⟨[q], .lst upd_same (TrL.flat (r.mono (hide_mono (same_new np))) n), by simp, fun p hp => by rw [List.mem_singleton.mp hp]; exact np⟩
theorem ints_noL : ∀ ns : List Int, noLs (ns.map .int) = true
  | [] => rfl
  | n :: ns => by rw [List.map_cons, noLs, ints_noL ns] <;> rfl
theorem pairs_noL : ∀ ns : List (Int × Int), noLs (ns.map pD) = true
  | [] => rfl
  | n :: ns => by rw [List.map_cons, noLs, pairs_noL ns] <;> rfl
/-- calls of built-ins that give a new list of flat things -/
def ClF (Z : Zx) (r : List V → Hp → VK → Prop) (g : List D → R D) : Prop := ∀ (O : List Addr) (H : Hp) (xs : List V) (ds : List D) (Q : VK), RpL (hide O H) xs ds → (∀ z ∈ O, H z ≠ none) → PstF Z O H (g ds) Q → r xs H Q
theorem call_okF {r : List V → Hp → VK → Prop} {g : List D → R D} (hr : ClF Z r g) (σ : L2.St) (H : Hp) (Q : VK) (h : tF Z (eCall g fs) σ H Q) : tCB r (tDs Z fs) σ H Q := by
  obtain ⟨O, ρ, hp, h⟩ := h
  exact ⟨O, ρ, hp, PstF.bind h fun ds xs H1 _ s1 h1 k1 => hr O H1 xs ds Q h1 (hp.mono s1).dom k1⟩
theorem oneF_ok {r : List V → Hp → VK → Prop} {g : D → R D} (h : ∀ (O : List Addr) (H : Hp) (x : V) (d : D) (Q : VK), Rp (hide O H) x d → (∀ z ∈ O, H z ≠ none) → PstF Z O H (g d) Q → r [x] H Q) : ClF Z r (dOne g) := by
  intro O H xs ds Q hx hO hq
  match ds, hx, hq with
  | [], _, hq => exact hq.elim
  | _ :: _ :: _, _, hq => exact hq.elim
  | [d], .cons hd .nil, hq => exact h O H _ d Q hd hO hq
def dListF : D → R D
  | .list ds => if noLs ds then .ok (.list ds) else .bad
  | .tuple ds => if noLs ds then .ok (.list ds) else .bad
  | _ => .bad
theorem df_list (hg : Gl X "list") (hm : X.mg "list" = none) (ha : PE X a (tD Z fa)) (he : starEach [a] X.env = (false, eval a X.env) :: starEach [] X.env := by rfl) : PE X (.Call (.Name "list" p) [a] [] pos) (tF Z (eCall (dOne dListF) (aCons fa aNil))) :=
  pe_weak (pe_callTy call_list_of hg hm (by decide +kernel) (da_cons ha da_nil he) (by decide) (by decide) he rfl) (call_okF (oneF_ok fun O H x d Q hd hO h => by
    cases d with
    | list ds =>
      obtain ⟨a, vs, rfl, _, ha, ra⟩ := hd.ref_lst
      have h' : PstF Z O H (if noLs ds then .ok (.list ds) else .bad) Q := h
      by_cases n : noLs ds = true
      · rw [if_pos n] at h'
        exact ⟨a, vs, rfl, .inl (SqL.of ha), fun l hl => pstF_ok h' (same_new hl) (.newL hO hl ra n)⟩
      · rw [if_neg n] at h'; exact h'.elim
    | tuple ds =>
      obtain ⟨a, vs, rfl, _, ha, ra⟩ := hd.ref_tup
      have h' : PstF Z O H (if noLs ds then .ok (.list ds) else .bad) Q := h
      by_cases n : noLs ds = true
      · rw [if_pos n] at h'
        exact ⟨a, vs, rfl, .inr (SqT.of ha), fun l hl => pstF_ok h' (same_new hl) (.newL hO hl ra n)⟩
      · rw [if_neg n] at h'; exact h'.elim
    | _ => exact h.elim))
theorem sortedF_ok {K : PySem.W.Frag} : ClF Z (fun xs H Q => rSortedI K xs H Q ∨ rSortedPO K xs H Q) (dOne dSorted) := oneF_ok fun O H x d Q hd hO h => by
  cases d with
  | list ds =>
    obtain ⟨a, vs, rfl, _, ha, ra⟩ := hd.ref_lst
    have h' : PstF Z O H (match ints? ds with | some ns => .ok (.list ((sortI ns).map .int)) | none => match pairs? ds with | some ps => .ok (.list ((sortP ps).map pD)) | none => .bad) Q := h
    cases e : ints? ds with
    | some ns =>
      rw [e] at h'
      rw [allOf_some int?_some e] at ra
      refine .inl ⟨a, ns, rfl, by rw [← ra.ints]; exact SqL.of ha, fun ns' p pm srt np => ?_⟩
      have e2 : ns' = sortI ns := sorted_unique ordI (pm.trans (isort_perm leI ns).symm) (srt.imp fun {x y} hxy => by simpa [leI] using hxy) (isort_sorted ordI ns)
      rw [e2]
      exact pstF_ok h' (same_new np) (.newL hO np (RpL.ofInts _) (ints_noL _))
    | none =>
      rw [e] at h'
      have h2 : PstF Z O H (match pairs? ds with | some ps => .ok (.list ((sortP ps).map pD)) | none => .bad) Q := h'
      cases e2 : pairs? ds with
      | none => rw [e2] at h2; exact h2.elim
      | some ps =>
        rw [e2] at h2
        rw [allOf_some pair?_some e2] at ra
        obtain ⟨m1, m2⟩ := rp_pairs ra
        refine .inr ⟨a, vs, pairAt H, rfl, SqL.of ha, fun v hv => ?_, fun ys p srt stb np => ?_⟩
        · obtain ⟨t, rfl, _, ht, _⟩ := rp_pair (m2 v hv)
          exact ⟨t, rfl, ht⟩
        · have pm : ys.Perm vs := stb.perm
          have m3 : ∀ v ∈ ys, Rp (hide O H) v (pD (pairAt H v)) := fun v hv => m2 v (pm.mem_iff.mp hv)
          have e3 : ys.map (pairAt H) = sortP ps := by
            refine sorted_unique ordP (((pm.map _).trans (by rw [m1])).trans (isort_perm leP ps).symm) ?_ (isort_sorted ordP ps)
            exact List.pairwise_map.mpr (List.Pairwise.imp (fun {x y} hxy => leP_of hxy) srt)
          refine pstF_ok h2 (same_new np) (.newL hO np ?_ (pairs_noL _))
          rw [← e3]
          exact RpL.ofPairs m3
  | _ => exact h.elim
theorem df_sorted (hg : Gl X "sorted") (hm : X.mg "sorted" = none) (ha : PE X a (tD Z fa)) (he : starEach [a] X.env = (false, eval a X.env) :: starEach [] X.env := by rfl) : PE X (.Call (.Name "sorted" p) [a] [] pos) (tF Z (eCall (dOne dSorted) (aCons fa aNil))) :=
  pe_weak (pe_callB (cr_sortedI.or cr_sortedPO) hg hm (by decide +kernel) (da_cons ha da_nil he) (by decide) (by decide) he rfl) (call_okF (sortedF_ok (K := X.K)))
end
theorem pstF_noX {Z Z0 : Zx} {O : List Addr} {H : Hp} {r : R D} {a : D} {Q : VK} (h : noX r = .ok a) (q : ∀ w H', Same H H' → DFr H (hide O H') H' w a → Q w H') : PstF Z0 O H r Q := by
  rw [noX_ok h]
  exact q
theorem lcF_ok {wi : Ev → R (List D)} {t : D → Ev → R Ev} {c : Ev → R Bool} {f : Ev → R D} {vs : List Nat} {Z : Zx} (σ : L2.St) (H : Hp) (Q : VK) (h : tF Z (eLc wi t c f vs) σ H Q) : tLc (tI Z wi) (gD Z.K t vs) (tB' Z.nox c) (tF Z.nox f) vs σ H Q := by
  obtain ⟨O, ρ, hp, h⟩ := h
  refine ⟨O, ρ, hp, PstF.bind (rel := Iters) h fun ds J H1 _ s1 h1 k1 => ?_⟩
  have hp1 := hp.mono s1
  intro Dd nD
  by_cases hl : ds.length ≤ lim
  case neg => rw [if_neg hl] at k1; exact k1.elim
  rw [if_pos hl] at k1
  cases eg : lcGo t c f (wipeE ρ vs) ds with
  | exc x =>
    exfalso
    have go : ∀ (ds : List D), lcGo t c f (wipeE ρ vs) ds ≠ .exc x := by
      intro ds
      induction ds with
      | nil => intro z; cases z
      | cons d ds ih =>
        intro z
        unfold lcGo at z
        cases e1 : noX (t d (wipeE ρ vs)) with
        | exc y => cases (show R Ev from t d (wipeE ρ vs)) <;> (cases et : t d (wipeE ρ vs) <;> rw [et] at e1 <;> cases e1)
        | bad => rw [e1] at z; cases z
        | ok ρ' =>
          rw [e1, R.ok_bind] at z
          cases e2 : noX (c ρ') with
          | exc y => cases et : c ρ' <;> rw [et] at e2 <;> cases e2
          | bad => rw [e2] at z; cases z
          | ok k =>
            rw [e2, R.ok_bind] at z
            cases k with
            | false => exact ih (by simpa using z)
            | true =>
              simp only [if_true] at z
              cases e3 : noX (f ρ') with
              | exc y => cases et : f ρ' <;> rw [et] at e3 <;> cases e3
              | bad => rw [e3] at z; cases z
              | ok y =>
                rw [e3, R.ok_bind] at z
                cases e4 : lcGo t c f (wipeE ρ vs) ds with
                | ok ys => rw [e4] at z; cases z
                | bad => rw [e4] at z; cases z
                | exc y =>
                  rw [e4] at z
                  cases z
                  exact ih e4
    exact go ds eg
  | bad => rw [eg] at k1; exact k1.elim
  | ok out =>
    rw [eg, R.ok_bind] at k1
    have sM : Same (hide O H1) H1 := hide_le _ _
    have hDM : hide O H1 Dd = none := by
      cases q : hide O H1 Dd with
      | none => rfl
      | some o => rw [(hide_some q).2] at nD; cases nD
    have hDO : Dd ∉ O := hp1.new nD
    refine ⟨fun i m G => m = ds.length - i ∧ i ≤ ds.length ∧ Same H1 G ∧ ∃ (acc : List V) (done rest : List D) (ps : List Addr), G Dd = some (.lst acc) ∧ (TrL (hide (Dd :: O) G) G acc done ps ∧ ps.Nodup ∧ Dd ∉ ps ∧ ∀ p ∈ ps, H1 p = none) ∧ done.length ≤ i ∧ lcGo t c f (wipeE ρ vs) (ds.drop i) = .ok rest ∧ out = done ++ rest,
      ⟨ds.length, by omega, Nat.zero_le _, same_new nD, [], [], out, [], upd_same, ⟨.nil, List.nodup_nil, by simp, fun p hp => by cases hp⟩, Nat.zero_le _, eg, rfl⟩, ?_⟩
    rintro i m G ⟨rfl, hi, sG, acc, done, rest, ps, hacc, ⟨hr, hnd, hDp, hfr⟩, hdl, hgo, hout⟩
    have sMG : Same (hide O H1) G := sM.trans sG
    have sHG : Same (hide O H1) (hide O G) := hide_mono sG
    have sMc : Same (hide O H1) (hide (Dd :: O) G) := hide_cons sHG hDM
    have domG : ∀ p ∈ Dd :: O, G p ≠ none := fun p hpm z => by
      rcases List.mem_cons.mp hpm with e | e
      · rw [e, hacc] at z; cases z
      · exact (hp1.mono sG).dom p e z
    by_cases c1 : i = ds.length
    · refine .inl ⟨h1.stop i G c1 sMG, ?_⟩
      rw [c1, List.drop_length] at hgo
      cases hgo
      rw [List.append_nil] at hout
      have see : Same (hide (Dd :: O) G) (hide O G) := fun a o h => by
        obtain ⟨h2, h3⟩ := hide_some h
        rw [hide_out (fun z => h2 (List.mem_cons_of_mem _ z))]
        exact h3
      rw [hout] at k1
      refine pstF_ok k1 sG ⟨Dd :: ps, .lst hacc (hr.mono see (Same.refl _)), List.nodup_cons.mpr ⟨hDp, hnd⟩, fun p hp => ?_⟩
      rcases List.mem_cons.mp hp with z | z
      · rw [z]; exact nD
      · exact hfr p z
    · have hlt : i < ds.length := by omega
      obtain ⟨d, hd⟩ : ∃ d, ds[i]? = some d := ⟨_, List.getElem?_eq_getElem hlt⟩
      have edrop : ds.drop i = d :: ds.drop (i + 1) := by
        rw [List.drop_eq_getElem_cons hlt]
        have : ds[i] = d := by rw [List.getElem?_eq_getElem hlt] at hd; exact Option.some.inj hd
        rw [this]
      rw [edrop] at hgo
      unfold lcGo at hgo
      refine .inr ⟨h1.go i G hlt sMG, fun G' => Same H1 G' ∧ ∃ (acc : List V) (done rest : List D) (ps : List Addr), G' Dd = some (.lst acc) ∧ (TrL (hide (Dd :: O) G') G' acc done ps ∧ ps.Nodup ∧ Dd ∉ ps ∧ ∀ p ∈ ps, H1 p = none) ∧ done.length ≤ i + 1 ∧ lcGo t c f (wipeE ρ vs) (ds.drop (i + 1)) = .ok rest ∧ out = done ++ rest,
        fun G' hG' => ⟨ds.length - (i + 1), by omega, rfl, hlt, hG'⟩, fun x G' hy => ?_⟩
      obtain ⟨sGG, rx⟩ := h1.yld i G x G' (Dd :: O) d hd domG sMc hy
      cases e1 : noX (t d (wipeE ρ vs)) with
      | exc y => rw [e1] at hgo; cases hgo
      | bad => rw [e1] at hgo; cases hgo
      | ok ρ' =>
        rw [e1, R.ok_bind] at hgo
        have pre1 : Pre Z.K (Dd :: O) G' (L2.wipe σ vs) (wipeE ρ vs) := by
          have q := hp1.wipe vs
          refine ⟨⟨q.len, fun p hpm z => ?_, q.ev.mono (fun a o h => ?_)⟩, fun i x ei w => ?_⟩
          · cases q2 : G p with
            | none => exact domG p hpm q2
            | some o => rw [sGG _ _ q2] at z; cases z
          · exact hide_mono sGG a o (sMc a o h)
          · obtain ⟨p, o, w1, w2, w3⟩ := q.ow i x ei w
            exact ⟨p, o, w1, (sG.trans sGG) _ _ w2, w3.mono (sMc.trans (hide_mono sGG))⟩
        refine ⟨Dd :: O, wipeE ρ vs, d, ρ', pre1, rx, noX_ok e1, fun σ2 pre2 hw => ?_⟩
        have hww : L2.wipe (L2.wipe σ vs) vs = L2.wipe σ vs := by
          have go : ∀ (ws : List Nat), (∀ v ∈ ws, v ∈ vs) → L2.wipe (L2.wipe σ vs) ws = L2.wipe σ vs := by
            have at_ : ∀ (us : List Nat) (v : Nat), v ∈ us → (L2.wipe σ us).set v none = L2.wipe σ us := by
              intro us
              induction us with
              | nil => intro v hv; cases hv
              | cons u us ih =>
                intro v hv
                show ((L2.wipe σ us).set u none).set v none = (L2.wipe σ us).set u none
                by_cases e : u = v
                · rw [e, List.set_set]
                · rw [List.set_comm _ _ e]
                  rcases List.mem_cons.mp hv with z | z
                  · exact absurd z.symm e
                  · rw [ih v z]
            intro ws
            induction ws with
            | nil => intro _; rfl
            | cons w ws ih =>
              intro hws
              show (L2.wipe (L2.wipe σ vs) ws).set w none = _
              rw [ih (fun v hv => hws v (List.mem_cons_of_mem _ hv))]
              exact at_ vs w (hws w List.mem_cons_self)
          exact go vs fun _ h => h
        refine ⟨by rw [hw, hww], ?_⟩
        cases e2 : noX (c ρ') with
        | exc y => rw [e2] at hgo; cases hgo
        | bad => rw [e2] at hgo; cases hgo
        | ok k =>
          rw [e2, R.ok_bind] at hgo
          refine ⟨Dd :: O, ρ', pre2, pst_noX (Z := Z) e2 fun b H3 s3 eb => ?_⟩
          have eb' : b = k := eb
          subst eb'
          have keep : ∀ {G3 : Hp}, Same G' G3 → Same H1 G3 ∧ G3 Dd = some (.lst acc) ∧ TrL (hide (Dd :: O) G3) G3 acc done ps := fun {G3} s => ⟨(sG.trans sGG).trans s, (sGG.trans s) _ _ hacc, hr.mono (hide_mono (sGG.trans s)) (sGG.trans s)⟩
          cases b with
          | false =>
            obtain ⟨q1, q2, q3⟩ := keep s3
            exact iteF ⟨q1, acc, done, rest, ps, q2, ⟨q3, hnd, hDp, hfr⟩, by omega, by simpa using hgo, hout⟩
          | true =>
            simp only [if_true] at hgo
            refine iteT ?_
            cases e3 : noX (f ρ') with
            | exc y => rw [e3] at hgo; cases hgo
            | bad => rw [e3] at hgo; cases hgo
            | ok y =>
              rw [e3, R.ok_bind] at hgo
              refine ⟨Dd :: O, ρ', pre2.mono s3, pstF_noX (Z := Z) e3 fun w H4 s4 rw4 => ?_⟩
              obtain ⟨q1, q2, q3⟩ := keep (s3.trans s4)
              refine ⟨acc, q2, ?_, ?_⟩
              · rw [q3.length, lim_eq]; omega
              · cases e4 : lcGo t c f (wipeE ρ vs) (ds.drop (i + 1)) with
                | exc z => rw [e4] at hgo; cases hgo
                | bad => rw [e4] at hgo; cases hgo
                | ok ys =>
                  rw [e4, R.ok_bind] at hgo
                  cases hgo
                  have hin : Dd ∈ Dd :: O := List.mem_cons_self
                  obtain ⟨qs, t1, t2, t3⟩ := rw4
                  have old : ∀ p ∈ ps, ∃ xs, H3 p = some (.lst xs) := fun p hp => by
                    obtain ⟨xs, hx⟩ := hr.lists p hp
                    exact ⟨xs, (sGG.trans s3) _ _ hx⟩
                  have hD3 : H3 Dd = some (.lst acc) := (sGG.trans s3) _ _ hacc
                  have kp : ∀ p ∈ ps ++ qs, ∀ xs, H4 p = some (.lst xs) → upd H4 Dd (.lst (acc ++ [w])) p = some (.lst xs) := fun p hp xs h => by
                    refine (upd_ne fun z => ?_).trans h
                    rcases List.mem_append.mp hp with q | q
                    · rw [z] at q; exact hDp q
                    · have := t3 p q
                      rw [z, hD3] at this; cases this
                  refine ⟨fun a o h => ?_, acc ++ [w], done ++ [y], ys, ps ++ qs, upd_same, ⟨?_, ?_, ?_, ?_⟩, by rw [List.length_append, List.length_singleton]; omega, rfl, by rw [hout, List.append_assoc]; rfl⟩
                  · rw [upd_ne (ne_of_none h nD)]
                    exact q1 a o h
                  · rw [hide_same_upd hin]
                    exact (TrL.append q3 (.one t1)).stay (fun _ _ h => h) kp
                  · refine List.nodup_append.mpr ⟨hnd, t2, fun a ha b hb z => ?_⟩
                    obtain ⟨xs, hx⟩ := old a ha
                    rw [z, t3 b hb] at hx; cases hx
                  · intro z
                    rcases List.mem_append.mp z with q | q
                    · exact hDp q
                    · have := t3 _ q
                      rw [hD3] at this; cases this
                  · intro p hp
                    rcases List.mem_append.mp hp with q | q
                    · exact hfr p q
                    · exact (sG.trans (sGG.trans s3)).free (t3 p q)
section
variable {X : Cx} {Z : Zx} {elt tg iter : Expr} {ifs : List Expr} {scope : Scope} {own : List (Str × Nat)} {pos : Pos} {wi : Ev → R (List D)} {t : D → Ev → R Ev} {c : Ev → R Bool} {f : Ev → R D}
theorem df_lc (hc : X.calm = true) (hN : X.N.Nodup) (hi : PI X tg iter (tI Z wi)) (ok : blkC X.N X.env.scope scope own = true)
    (hg : ∀ (s : Shared) (H : Hp) (C : Addr) (cl : List (Str × Addr)) (fp : List Addr), PG (X.blk s H scope (compEnvC scope cl C X.env) fp) tg (gD Z.K t (own.map (·.2))))
    (ht : ∀ (s : Shared) (H : Hp) (C : Addr) (cl : List (Str × Addr)) (fp : List Addr), PTs (X.blk s H scope (compEnvC scope cl C X.env) fp) ifs (tB' Z.nox c))
    (he : ∀ (s : Shared) (H : Hp) (C : Addr) (cl : List (Str × Addr)) (fp : List Addr), PE (X.blk s H scope (compEnvC scope cl C X.env) fp) elt (tF Z.nox f)) (hs : ∀ x, foldedSetIterable iter X.env x = pure x := by intro _; rfl) :
    PE X (.ListComp elt [⟨tg, iter, ifs, 0⟩] scope pos) (tF Z (eLc wi t c f (own.map (·.2)))) :=
  pe_weak (pe_lc hc hN hi (blkOk_by ok) hg ht he hs) lcF_ok
end
end RL

set_option Elab.async false
set_option linter.all false
set_option maxRecDepth 100000
set_option maxHeartbeats 1000000
/-! # The D-layer: statements -/
namespace RL
open PySem PySem.Spec PyProof.Rows L2

/-- how a block ends -/
inductive Fl where
  | nx | bk | ct
  | ret (d : D)
  | retF (d : D)
abbrev Sm := Ev → R (Fl × Ev)

/-- the state ahead of a statement: O what the callers hide, B what stays, ρ the slots; owned lists stand apart -/
abbrev noTup (o : HO) : Prop := ∀ xs, o ≠ .tup xs
theorem noTup_lst (vs : List V) : noTup (.lst vs) := fun xs z => by cases z
structure StOk0 (K : PySem.W.Frag) (O : List Addr) (B : Hp) (σ : L2.St) (H : Hp) (ρ : Ev) (W : List (Nat × Addr)) : Prop where
  keep : Same B (hide (W.map (·.2)) H)
  pre : Pre0 K (W.map (·.2) ++ O) H σ ρ
  one : ∀ i j p, (i, p) ∈ W → (j, p) ∈ W → i = j
  apart : ∀ i p, (i, p) ∈ W → p ∉ O
  own : ∀ (i : Nat) (x : Sl), ρ[i]? = some (some x) → isOw x = true → ∃ p o, (i, p) ∈ W ∧ σ[i]? = some (some (.ref p)) ∧ H p = some o ∧ Holds (hide (W.map (·.2) ++ O) H) x o
  lists : ∀ i p, (i, p) ∈ W → ∃ o, H p = some o ∧ noTup o
  tree : ∀ (i : Nat) (d : D), ρ[i]? = some (some (Sl.od d)) → ∃ v ps, σ[i]? = some (some v) ∧ Tr (hide (W.map (·.2) ++ O) H) H v d ps ∧ ps.Nodup ∧ ∀ p ∈ ps, (i, p) ∈ W
def StOk (K : PySem.W.Frag) (O : List Addr) (B : Hp) (σ : L2.St) (H : Hp) (ρ : Ev) : Prop := ∃ W, StOk0 K O B σ H ρ W

theorem StOk0.toPre {K : PySem.W.Frag} {O : List Addr} {B : Hp} {σ : L2.St} {H : Hp} {ρ : Ev} {W : List (Nat × Addr)} (s : StOk0 K O B σ H ρ W) : Pre K (W.map (·.2) ++ O) H σ ρ := ⟨s.pre, fun i x e w => by
  obtain ⟨p, o, _, h⟩ := s.own i x e w
  exact ⟨p, o, h⟩⟩
theorem StOk0.ol {K : PySem.W.Frag} {O : List Addr} {B : Hp} {σ : L2.St} {H : Hp} {ρ : Ev} {W : List (Nat × Addr)} (s : StOk0 K O B σ H ρ W) {i : Nat} {ds : List D} (e : ρ[i]? = some (some (Sl.ol ds))) : ∃ p vs, (i, p) ∈ W ∧ σ[i]? = some (some (.ref p)) ∧ H p = some (.lst vs) ∧ RpL (hide (W.map (·.2) ++ O) H) vs ds := by
  obtain ⟨p, o, h1, h2, h3, vs, rfl, r⟩ := s.own i _ e rfl
  exact ⟨p, vs, h1, h2, h3, r⟩
theorem hide_app {P O : List Addr} {H : Hp} : hide (P ++ O) H = hide O (hide P H) := by
  funext a
  unfold hide
  by_cases h : a ∈ P <;> by_cases h2 : a ∈ O <;> simp [h, h2]
theorem StOk0.base {K : PySem.W.Frag} {O : List Addr} {B : Hp} {σ : L2.St} {H : Hp} {ρ : Ev} {W : List (Nat × Addr)} (s : StOk0 K O B σ H ρ W) : Same B H := s.keep.trans (hide_le _ _)
theorem StOk0.up {K : PySem.W.Frag} {O : List Addr} {B : Hp} {σ : L2.St} {H H' : Hp} {ρ : Ev} {W : List (Nat × Addr)} (s : StOk0 K O B σ H ρ W) (h : Same H H') : StOk0 K O B σ H' ρ W where
  keep := s.keep.trans (hide_mono h)
  pre := s.pre.mono h
  one := s.one
  apart := s.apart
  own := fun i ds e w => by
    obtain ⟨p, vs, h1, h2, h3, h4⟩ := s.own i ds e w
    exact ⟨p, vs, h1, h2, h _ _ h3, h4.mono (hide_mono h)⟩
  lists := fun i p hp => by
    obtain ⟨xs, e, n⟩ := s.lists i p hp
    exact ⟨xs, h _ _ e, n⟩
  tree := fun i d e => by
    obtain ⟨v, ps, h1, h2, h3, h4⟩ := s.tree i d e
    exact ⟨v, ps, h1, h2.mono (hide_mono h) h, h3, h4⟩
theorem StOk.less {K : PySem.W.Frag} {O : List Addr} {B B' : Hp} {σ : L2.St} {H : Hp} {ρ : Ev} (b : Same B' B) (s : StOk K O B σ H ρ) : StOk K O B' σ H ρ := by
  obtain ⟨W, s⟩ := s
  exact ⟨W, ⟨b.trans s.keep, s.pre, s.one, s.apart, s.own, s.lists, s.tree⟩⟩
/-- a slot is given frozen data -/
theorem StOk0.setFr {K : PySem.W.Frag} {O : List Addr} {B : Hp} {σ : L2.St} {H : Hp} {ρ : Ev} {W : List (Nat × Addr)} (s : StOk0 K O B σ H ρ W) {i : Nat} {v : V} {d : D} (r : Rp (hide (W.map (·.2) ++ O) H) v d) : StOk0 K O B (σ.set i (some v)) H (ρ.set i (some (Sl.fr d))) W where
  keep := s.keep
  pre := (s.toPre.set r).toPre0
  one := s.one
  apart := s.apart
  own := fun j ds e w => by
    rw [List.getElem?_set] at e
    by_cases c : i = j
    · subst c
      simp only [if_true] at e
      split at e <;> cases e
      cases w
    · rw [if_neg c] at e
      obtain ⟨p, vs, h1, h2, h3, h4⟩ := s.own j ds e w
      exact ⟨p, vs, h1, by rw [List.getElem?_set_ne c]; exact h2, h3, h4⟩
  lists := s.lists
  tree := fun j ds e => by
    rw [List.getElem?_set] at e
    by_cases c : i = j
    · subst c
      simp only [if_true] at e
      split at e <;> cases e
    · rw [if_neg c] at e
      obtain ⟨w, ps, h1, h2⟩ := s.tree j ds e
      exact ⟨w, ps, by rw [List.getElem?_set_ne c]; exact h1, h2⟩
/-- slots are forgotten -/
theorem StOk0.drop {K : PySem.W.Frag} {O : List Addr} {B : Hp} {σ : L2.St} {H : Hp} {ρ : Ev} {W : List (Nat × Addr)} (s : StOk0 K O B σ H ρ W) {ρ' : Ev} (hl : ρ'.length = ρ.length) (h : ∀ (i : Nat) (x : Sl), ρ'[i]? = some (some x) → ρ[i]? = some (some x)) : StOk0 K O B σ H ρ' W where
  keep := s.keep
  pre := ⟨s.pre.len.trans hl.symm, s.pre.dom, fun i d e => s.pre.ev.fr i d (h i _ e), fun i ns e => s.pre.ev.sc i ns (h i _ e)⟩
  one := s.one
  apart := s.apart
  own := fun i ds e w => s.own i ds (h i _ e) w
  lists := s.lists
  tree := fun i d e => s.tree i d (h i _ e)
theorem wipeE_some {ρ : Ev} : ∀ {vs : List Nat} {i : Nat} {x : Sl}, (wipeE ρ vs)[i]? = some (some x) → ρ[i]? = some (some x)
  | [], _, _, h => h
  | v :: vs, i, x, h => by
    unfold wipeE at h
    rw [List.getElem?_set] at h
    by_cases c : v = i
    · subst c
      simp only [if_true] at h
      split at h <;> cases h
    · rw [if_neg c] at h
      exact wipeE_some h
theorem wipeE_length (ρ : Ev) : ∀ vs : List Nat, (wipeE ρ vs).length = ρ.length
  | [] => rfl
  | v :: vs => by unfold wipeE; rw [List.length_set]; exact wipeE_length ρ vs
theorem StOk.wipe {K : PySem.W.Frag} {O : List Addr} {B : Hp} {σ : L2.St} {H : Hp} {ρ : Ev} (s : StOk K O B σ H ρ) (vs : List Nat) : StOk K O B σ H (wipeE ρ vs) := by
  obtain ⟨W, s⟩ := s
  exact ⟨W, s.drop (wipeE_length ρ vs) fun i x h => wipeE_some h⟩
/-- an owned list, a tree is frozen -/
def frz1 (ρ : Ev) (i : Nat) : Ev := match ρ[i]? with
  | some (some (.ol ds)) => ρ.set i (some (Sl.fr (.list ds)))
  | some (some (.od d)) => ρ.set i (some (Sl.fr d))
  | _ => ρ
def frz (ρ : Ev) (is : List Nat) : Ev := is.foldl frz1 ρ
/-- what slot i owns is shown -/
abbrev shown (W : List (Nat × Addr)) (i : Nat) : List (Nat × Addr) := W.filter fun q => decide (q.1 ≠ i)
theorem shown_in {W : List (Nat × Addr)} {i : Nat} {q : Nat × Addr} (h : q ∈ shown W i) : q ∈ W ∧ q.1 ≠ i := by simpa [shown] using h
theorem shown_sub {W : List (Nat × Addr)} {i : Nat} {O : List Addr} {a : Addr} (h : a ∈ (shown W i).map (·.2) ++ O) : a ∈ W.map (·.2) ++ O := by
  rcases List.mem_append.mp h with z | z
  · obtain ⟨q, hq, rfl⟩ := List.mem_map.mp z
    exact List.mem_append_left _ (List.mem_map.mpr ⟨q, (shown_in hq).1, rfl⟩)
  · exact List.mem_append_right _ z
theorem shown_see {W : List (Nat × Addr)} {i : Nat} {O : List Addr} {H : Hp} : Same (hide (W.map (·.2) ++ O) H) (hide ((shown W i).map (·.2) ++ O) H) := fun a o h => by
  obtain ⟨q1, q2⟩ := hide_some h
  rw [hide_out (fun z => q1 (shown_sub z))]
  exact q2
theorem StOk0.bare {K : PySem.W.Frag} {O : List Addr} {B : Hp} {σ : L2.St} {H : Hp} {ρ : Ev} {W : List (Nat × Addr)} (s : StOk0 K O B σ H ρ W) {i : Nat} {p : Addr} (h : (i, p) ∈ W) : p ∉ (shown W i).map (·.2) ++ O := fun z => by
  rcases List.mem_append.mp z with z | z
  · obtain ⟨⟨j, q⟩, hq, e2⟩ := List.mem_map.mp z
    have e3 : q = p := e2
    subst e3
    obtain ⟨m1, m2⟩ := shown_in hq
    exact m2 (s.one _ _ _ m1 h)
  · exact s.apart i p h z
/-- slot i is given frozen data, what it owned is shown -/
theorem StOk0.show {K : PySem.W.Frag} {O : List Addr} {B : Hp} {σ : L2.St} {H : Hp} {ρ : Ev} {W : List (Nat × Addr)} (s : StOk0 K O B σ H ρ W) {i : Nat} {v : V} {d : D} (hv : σ[i]? = some (some v)) (r : Rp (hide ((shown W i).map (·.2) ++ O) H) v d) : StOk0 K O B σ H (ρ.set i (some (Sl.fr d))) (shown W i) where
  keep := fun a o h => by
    obtain ⟨q1, q2⟩ := hide_some (s.keep a o h)
    rw [hide_out (fun z => q1 (by
      obtain ⟨q, hq, e⟩ := List.mem_map.mp z
      exact List.mem_map.mpr ⟨q, (shown_in hq).1, e⟩))]
    exact q2
  pre := by
    refine ⟨by rw [List.length_set]; exact s.pre.len, fun q hq => s.pre.dom q (shown_sub hq), fun j e ej => ?_, fun j ns ej => ?_⟩
    · rw [List.getElem?_set] at ej
      by_cases c : i = j
      · subst c
        simp only [if_true] at ej
        split at ej
        · cases ej
          exact ⟨v, hv, r⟩
        · cases ej
      · rw [if_neg c] at ej
        obtain ⟨w, q1, q2⟩ := s.pre.ev.fr j e ej
        exact ⟨w, q1, q2.mono shown_see⟩
    · rw [List.getElem?_set] at ej
      by_cases c : i = j
      · subst c
        simp only [if_true] at ej
        split at ej <;> cases ej
      · rw [if_neg c] at ej
        obtain ⟨a, q1, q2⟩ := s.pre.ev.sc j ns ej
        exact ⟨a, q1, L2.Same.seq shown_see q2⟩
  one := fun j k q a b => s.one j k q (shown_in a).1 (shown_in b).1
  apart := fun j q a => s.apart j q (shown_in a).1
  own := fun j es ej w => by
    rw [List.getElem?_set] at ej
    by_cases c : i = j
    · subst c
      simp only [if_true] at ej
      split at ej <;> cases ej
      cases w
    · rw [if_neg c] at ej
      obtain ⟨q, ws, q1, q2, q3, q4⟩ := s.own j es ej w
      exact ⟨q, ws, List.mem_filter.mpr ⟨q1, by simpa using Ne.symm c⟩, q2, q3, q4.mono shown_see⟩
  lists := fun j q a => s.lists j q (shown_in a).1
  tree := fun j es ej => by
    rw [List.getElem?_set] at ej
    by_cases c : i = j
    · subst c
      simp only [if_true] at ej
      split at ej <;> cases ej
    · rw [if_neg c] at ej
      obtain ⟨w, ps, q1, q2, q3, q4⟩ := s.tree j es ej
      exact ⟨w, ps, q1, q2.mono shown_see (Same.refl _), q3, fun p hp => List.mem_filter.mpr ⟨q4 p hp, by simpa using Ne.symm c⟩⟩
/-- a tree, shown, as data -/
theorem StOk0.treeRp {K : PySem.W.Frag} {O : List Addr} {B : Hp} {σ : L2.St} {H : Hp} {ρ : Ev} {W : List (Nat × Addr)} (s : StOk0 K O B σ H ρ W) {i : Nat} {d : D} (e : ρ[i]? = some (some (Sl.od d))) : ∃ v, σ[i]? = some (some v) ∧ Rp (hide ((shown W i).map (·.2) ++ O) H) v d := by
  obtain ⟨v, ps, h1, h2, h3, h4⟩ := s.tree i d e
  exact ⟨v, h1, h2.rp (fun a xs q => shown_see _ _ q) fun p hp xs q => by rw [hide_out (s.bare (h4 p hp))]; exact q⟩
theorem StOk.frz1 {K : PySem.W.Frag} {O : List Addr} {B : Hp} {σ : L2.St} {H : Hp} {ρ : Ev} (s : StOk K O B σ H ρ) (i : Nat) : StOk K O B σ H (RL.frz1 ρ i) := by
  unfold RL.frz1
  split
  · rename_i ds e
    obtain ⟨W, s⟩ := s
    obtain ⟨p, vs, h1, h2, h3, h4⟩ := s.ol e
    exact ⟨_, s.show h2 (.lst (by rw [hide_out (s.bare h1)]; exact h3) (h4.mono shown_see))⟩
  · rename_i d e
    obtain ⟨W, s⟩ := s
    obtain ⟨v, h1, h2⟩ := s.treeRp e
    exact ⟨_, s.show h1 h2⟩
  · exact s
theorem StOk.frz {K : PySem.W.Frag} {O : List Addr} {B : Hp} {σ : L2.St} {H : Hp} : ∀ (is : List Nat) {ρ : Ev}, StOk K O B σ H ρ → StOk K O B σ H (RL.frz ρ is)
  | [], _, s => s
  | i :: is, _, s => StOk.frz is (s.frz1 i)

/-- what must hold behind a block that comes to r -/
def Fin (Z : Zx) (O : List Addr) (B : Hp) (E : Ends) (r : R (Fl × Ev)) : Prop := match r with
  | .ok (.nx, ρ) => ∀ σ H, StOk Z.K O B σ H ρ → E.nx σ H
  | .ok (.bk, ρ) => ∀ σ H, StOk Z.K O B σ H ρ → E.bk σ H
  | .ok (.ct, ρ) => ∀ σ H, StOk Z.K O B σ H ρ → E.ct σ H
  | .ok (.ret d, _) => ∀ v H, Same B H → Rp (hide O H) v d → E.rt v H
  | .ok (.retF d, _) => ∀ v H, Same B H → DFr B (hide O H) H v d → E.rt v H
  | .exc c => ∀ H, Same B H → Z.E (.ref (Z.cl c)) none H
  | .bad => False
def tS (Z : Zx) (g : Sm) : TS := fun E σ H => ∃ O B ρ, StOk Z.K O B σ H ρ ∧ Fin Z O B E (g ρ)

/-! ### blocks -/
def sNil : Sm := fun ρ => .ok (.nx, ρ)
def sSeq (g h : Sm) : Sm := fun ρ => g ρ >>= fun q => match q with
  | (.nx, ρ') => h ρ'
  | q => .ok q
def sF (is : List Nat) (g : Sm) : Sm := fun ρ => g (frz ρ is)
section
variable {X : Cx} {Z : Zx} {st : Stmt} {rest : List Stmt} {g h : Sm} {pos : Pos}
theorem ds_nil : PSs X [] (tS Z sNil) := pss_weak pss_nil fun E σ H h => by
  obtain ⟨O, B, ρ, s, f⟩ := h
  exact f σ H s
theorem ds_cons (h1 : PS X st (tS Z g)) (h2 : PSs X rest (tS Z h)) : PSs X (st :: rest) (tS Z (sSeq g h)) := pss_weak (pss_cons h1 h2) fun E σ H hh => by
  obtain ⟨O, B, ρ, s, f⟩ := hh
  refine ⟨O, B, ρ, s, ?_⟩
  unfold sSeq at f
  cases e : g ρ with
  | exc c => rw [e] at f; exact f
  | bad => rw [e] at f; exact f
  | ok q =>
    obtain ⟨fl, ρ'⟩ := q
    rw [e] at f
    cases fl with
    | nx => exact fun σ' H' s' => ⟨O, B, ρ', s', f⟩
    | bk => exact f
    | ct => exact f
    | ret d => exact f
    | retF d => exact f
theorem ds_one (h1 : PS X st (tS Z g)) : PSs X [st] (tS Z g) := pss_one h1
theorem ds_frz (is : List Nat) (h1 : PS X st (tS Z g)) : PS X st (tS Z (sF is g)) := ps_weak h1 fun E σ H hh => by
  obtain ⟨O, B, ρ, s, f⟩ := hh
  exact ⟨O, B, _, s.frz is, f⟩
theorem ds_pass : PS X (.Pass pos) (tS Z sNil) := ps_weak ps_pass fun E σ H h => by
  obtain ⟨O, B, ρ, s, f⟩ := h
  exact f σ H s

/-! ### expressions in statements -/
variable {e : Expr} {fe : Ev → R D}
/-- an expression's reading, with the state behind it -/
theorem st_eval {α W : Type} {rel : Hp → W → α → Prop} {fe : Ev → R α} {k : α → R (Fl × Ev)} {E : Ends} {O : List Addr} {B : Hp} {σ : L2.St} {H : Hp} {ρ : Ev} {Q : W → Hp → Prop} {Ws : List (Nat × Addr)} (s : StOk0 Z.K O B σ H ρ Ws) (f : Fin Z O B E (fe ρ >>= k))
    (hk : ∀ a w H1, fe ρ = .ok a → Same H H1 → rel (hide (Ws.map (·.2) ++ O) H1) w a → StOk0 Z.K O B σ H1 ρ Ws → Fin Z O B E (k a) → Q w H1) : tG rel Z fe σ H Q := by
  refine ⟨_, ρ, s.toPre, ?_⟩
  cases e : fe ρ with
  | ok a =>
    rw [e] at f
    exact fun w H' sm r => hk a w H' e sm r (s.up sm) f
  | exc c =>
    rw [e] at f
    exact fun H' sm => f H' (s.base.trans sm)
  | bad => rw [e] at f; exact f.elim
def sSet (i : Nat) (fe : Ev → R D) : Sm := fun ρ => fe ρ >>= fun d => .ok (.nx, ρ.set i (some (Sl.fr d)))
theorem set_ok {i : Nat} {fe : Ev → R D} {te : TE} (E : Ends) (σ : L2.St) (H : Hp) (hte : ∀ σ H Q, tD Z fe σ H Q → te σ H Q) (h : tS Z (sSet i fe) E σ H) : tAsg te (gName i) E σ H := by
  obtain ⟨O, B, ρ, ⟨W, s⟩, f⟩ := h
  refine hte _ _ _ (st_eval s f fun a w H1 e sm r s1 f1 => ?_)
  exact f1 _ H1 ⟨W, s1.setFr r⟩
theorem ds_set {i : Nat} {x : Str} {pos' : Pos} (hN : X.N.Nodup) (hi : X.N[i]? = some x) (hx : Loc X.env.scope x) (he : PE X e (tD Z fe)) (hs : swapsWith e (some (.Name x pos')) pos.line X.env = pure false := by rfl) (hf : X.fn x = true ∨ X.env.scope.names.lookup x = some .local := by first | exact .inl rfl | exact .inr rfl) :
    PS X (.Assign [.Name x pos'] e pos) (tS Z (sSet i fe)) := ps_weak (ps_set hN hi hx he hs hf) fun E σ H h => set_ok E σ H (fun _ _ _ q => q) h
theorem ds_setLc {i : Nat} {y : Str} {py spos : Pos} {elt tg iter : Expr} {ifs : List Expr} {scope : Scope} {own : List (Str × Nat)} {wi : Ev → R (List D)} {t : D → Ev → R Ev} {c : Ev → R Bool} {f : Ev → R D} (hc : X.calm = true) (hN : X.N.Nodup) (hy : X.N[i]? = some y) (hyl : X.env.scope.names.lookup y = some .local)
    (hsw : swapsWith (.ListComp elt [⟨tg, iter, ifs, 0⟩] scope pos) (some (.Name y py)) spos.line X.env = pure true) (hi : PI X tg iter (tI Z wi)) (ok : blkC X.N X.env.scope scope own = true)
    (hg : ∀ (s : Shared) (H : Hp) (C : Addr) (cl : List (Str × Addr)) (fp : List Addr), PG (X.blk s H scope (compEnvC scope cl C X.env) fp) tg (gD Z.K t (own.map (·.2))))
    (ht : ∀ (s : Shared) (H : Hp) (C : Addr) (cl : List (Str × Addr)) (fp : List Addr), PTs (X.blk s H scope (compEnvC scope cl C X.env) fp) ifs (tB' Z.nox c))
    (he : ∀ (s : Shared) (H : Hp) (C : Addr) (cl : List (Str × Addr)) (fp : List Addr), PE (X.blk s H scope (compEnvC scope cl C X.env) fp) elt (tD Z.nox f)) (hs : ∀ x, foldedSetIterable iter X.env x = pure x := by intro _; rfl) :
    PS X (.Assign [.Name y py] (.ListComp elt [⟨tg, iter, ifs, 0⟩] scope pos) spos) (tS Z (sSet i (eLc wi t c f (own.map (·.2))))) :=
  ps_weak (ps_setLc hc hN hy hyl hsw hi (blkOk_by ok) hg ht he hs) fun E σ H h => set_ok E σ H (fun σ H Q q => lc_ok σ H Q q) h
def sExpr (fe : Ev → R D) : Sm := fun ρ => fe ρ >>= fun _ => .ok (.nx, ρ)
theorem ds_expr (he : PE X e (tD Z fe)) (hs : swapsWith e none pos.line X.env = pure false := by rfl) : PS X (.Expr e pos) (tS Z (sExpr fe)) := ps_weak (ps_expr he hs) fun E σ H h => by
  obtain ⟨O, B, ρ, ⟨W, s⟩, f⟩ := h
  exact st_eval s f fun a w H1 e sm r s1 f1 => f1 _ H1 ⟨W, s1⟩
/-- return: what is owned is let go of -/
def sRet (fe : Ev → R D) : Sm := fun ρ => fe ρ >>= fun d => .ok (.ret d, ρ)
theorem ds_ret (he : PE X e (tD Z fe)) : PS X (.Return (some e) pos) (tS Z (sRet fe)) := ps_weak (ps_ret he) fun E σ H h => by
  obtain ⟨O, B, ρ, ⟨W, s⟩, f⟩ := h
  refine st_eval s f fun a w H1 e sm r s1 f1 => ?_
  refine f1 w H1 s1.base (r.mono fun b o q => ?_)
  rw [hide_app] at q
  exact hide_mono (hide_le _ _) b o q
def sIf (c : Ev → R Bool) (g h : Sm) : Sm := fun ρ => c ρ >>= fun k => if k then g ρ else h ρ
theorem ds_if {t : Expr} {a b : List Stmt} {c : Ev → R Bool} (hc : PT X t (tB' Z c)) (ha : PSs X a (tS Z g)) (hb : PSs X b (tS Z h)) : PS X (.If t a b pos) (tS Z (sIf c g h)) := ps_weak (ps_if hc ha hb) fun E σ H hh => by
  obtain ⟨O, B, ρ, ⟨W, s⟩, f⟩ := hh
  refine st_eval s f fun k w H1 e sm r s1 f1 => ?_
  have r' : w = k := r
  subst r'
  cases w with
  | true => exact iteT ⟨O, B, ρ, ⟨W, s1⟩, by simpa using f1⟩
  | false => exact iteF ⟨O, B, ρ, ⟨W, s1⟩, by simpa using f1⟩
/-- a, b = x, y -/
def sPar (i j : Nat) (fs : Ev → R (List D)) : Sm := fun ρ => fs ρ >>= fun ds => match ds with
  | [p, q] => .ok (.nx, (ρ.set i (some (Sl.fr p))).set j (some (Sl.fr q)))
  | _ => .bad
theorem ds_par {i j : Nat} {x y : Str} {a b : Expr} {fs : Ev → R (List D)} {px py pt : Pos} {kt k2 pt2} (hc : X.calm = true) (hN : X.N.Nodup) (hi : X.N[i]? = some x) (hj : X.N[j]? = some y) (hij : i ≠ j)
    (hx : X.env.scope.names.lookup x = some .local) (hy : X.env.scope.names.lookup y = some .local) (ha : PA X [a, b] (tDs Z fs))
    (hw : swappedStores [.Tuple [.Name x px, .Name y py] kt pt] (.Tuple [a, b] k2 pt2) X.env = pure (some [x, y]))
    (hs : swapsWithSole [.Tuple [.Name x px, .Name y py] kt pt] (.Tuple [a, b] k2 pt2) pos.line X.env = pure false := by rfl) :
    PS X (.Assign [.Tuple [.Name x px, .Name y py] kt pt] (.Tuple [a, b] k2 pt2) pos) (tS Z (sPar i j fs)) := ps_weak (ps_par hc hN hi hj hij hx hy ha hw hs) fun E σ H h => by
  obtain ⟨O, B, ρ, ⟨W, s⟩, f⟩ := h
  refine st_eval s f fun ds ws H1 e sm r s1 f1 => ?_
  match ds, ws, r, f1 with
  | [], _, _, f1 => exact f1.elim
  | [_], _, _, f1 => exact f1.elim
  | _ :: _ :: _ :: _, _, _, f1 => exact f1.elim
  | [p, q], [v, w], .cons r1 (.cons r2 .nil), f1 => exact ⟨v, w, rfl, f1 _ H1 ⟨W, (s1.setFr r1).setFr r2⟩⟩
/-- a, b = e -/
def sPair (i j : Nat) (fe : Ev → R D) : Sm := fun ρ => fe ρ >>= fun d => match d with
  | .tuple [p, q] => .ok (.nx, (ρ.set i (some (Sl.fr p))).set j (some (Sl.fr q)))
  | _ => .bad
theorem ds_pair {i j k : Nat} {x y : Str} {p1 p2 p3 : Pos} (hc : X.calm = true) (hN : X.N.Nodup) (hi : X.N[i]? = some x) (hj : X.N[j]? = some y) (hx : Loc X.env.scope x) (hy : Loc X.env.scope y) (he : PE X e (tD Z fe))
    (hs : swapsWithSole [.Tuple [.Name x p1, .Name y p2] k p3] e pos.line X.env = pure false := by rfl) (hw : swappedStores [.Tuple [.Name x p1, .Name y p2] k p3] e X.env = pure none := by rfl)
    (hf : X.fn x = true ∨ X.env.scope.names.lookup x = some .local := by first | exact .inl rfl | exact .inr rfl) (hf2 : X.fn y = true ∨ X.env.scope.names.lookup y = some .local := by first | exact .inl rfl | exact .inr rfl)
    (h1 : (assignEach [.Tuple [.Name x p1, .Name y p2] k p3] X.env).map (·.2) = [assign (.Tuple [.Name x p1, .Name y p2] k p3) X.env] := by rfl) :
    PS X (.Assign [.Tuple [.Name x p1, .Name y p2] k p3] e pos) (tS Z (sPair i j fe)) := ps_weak (ps_asg he (pg_tup (n := 2) hc (pgs_cons (pg_name hN hi hx hf) (pgs_cons (pg_name hN hj hy hf2) pgs_nil))) hs hw h1) fun E σ H h => by
  obtain ⟨O, B, ρ, ⟨W, s⟩, f⟩ := h
  refine st_eval s f fun d w H1 e sm r s1 f1 => ?_
  cases d with
  | tuple ds =>
    obtain ⟨a, ws, rfl, _, ha, ra⟩ := Rp.ref_tup r
    match ds, ws, ra, f1 with
    | [], _, _, f1 => exact f1.elim
    | [_], _, _, f1 => exact f1.elim
    | _ :: _ :: _ :: _, _, _, f1 => exact f1.elim
    | [p, q], [v, w], .cons r1 (.cons r2 .nil), f1 => exact ⟨a, [v, w], rfl, SqT.of ha, rfl, v, [w], rfl, w, [], rfl, rfl, f1 _ H1 ⟨W, (s1.setFr r1).setFr r2⟩⟩
  | _ => exact f1.elim

/-! ### a list of one's own -/
def sOwn (i : Nat) (fs : Ev → R (List D)) : Sm := fun ρ => fs ρ >>= fun ds => if ds.length ≤ lim then .ok (.nx, ρ.set i (some (Sl.ol ds))) else .bad
/-- a slot comes to own a new object -/
theorem StOk0.newG {K : PySem.W.Frag} {O : List Addr} {B : Hp} {σ : L2.St} {H : Hp} {ρ : Ev} {W : List (Nat × Addr)} (s : StOk0 K O B σ H ρ W) {i : Nat} {p : Addr} {o : HO} {x : Sl} (np : H p = none) (hx : isOw x = true) (r : Holds (hide (W.map (·.2) ++ O) H) x o) : StOk0 K O B (σ.set i (some (.ref p))) (upd H p o) (ρ.set i (some x)) ((i, p) :: W) := by
  have sn : Same H (upd H p o) := same_new np
  have hid : ∀ a u, hide (W.map (·.2) ++ O) H a = some u → hide (((i, p) :: W).map (·.2) ++ O) (upd H p o) a = some u := fun a u h => by
    obtain ⟨q1, q2⟩ := hide_some h
    have ne : a ≠ p := ne_of_none q2 np
    rw [hide_out (fun z => ?_)]
    · exact sn _ _ q2
    · rcases List.mem_cons.mp z with z | z
      · exact ne z
      · exact q1 z
  refine ⟨fun a o h => ?_, ⟨by rw [List.length_set, List.length_set]; exact s.pre.len, fun a ha z => ?_, fun j d e => ?_, fun j ns e => ?_⟩, fun j k q a b => ?_, fun j q a => ?_, fun j es e w => ?_, fun j q a => ?_, fun j es e => ?_⟩
  · obtain ⟨q1, q2⟩ := hide_some (s.keep a o h)
    have ne : a ≠ p := ne_of_none q2 np
    rw [hide_out (fun z => ?_)]
    · exact sn _ _ q2
    · rcases List.mem_cons.mp z with z | z
      · exact ne z
      · exact q1 z
  · rcases List.mem_cons.mp ha with e | ha
    · rw [e, upd_same] at z; cases z
    · cases q : H a with
      | none => exact s.pre.dom a ha q
      | some o => rw [sn _ _ q] at z; cases z
  · rw [List.getElem?_set] at e
    by_cases c : i = j
    · subst c
      simp only [if_true] at e
      split at e <;> cases e
      cases hx
    · rw [if_neg c] at e
      obtain ⟨v, h1, h2⟩ := s.pre.ev.fr j d e
      exact ⟨v, by rw [List.getElem?_set_ne c]; exact h1, h2.mono hid⟩
  · rw [List.getElem?_set] at e
    by_cases c : i = j
    · subst c
      simp only [if_true] at e
      split at e <;> cases e
      cases hx
    · rw [if_neg c] at e
      obtain ⟨a, h1, h2⟩ := s.pre.ev.sc j ns e
      exact ⟨a, by rw [List.getElem?_set_ne c]; exact h1, L2.Same.seq hid h2⟩
  · have old : ∀ l, (l, p) ∉ W := fun l z => s.pre.dom p (List.mem_append_left _ (List.mem_map.mpr ⟨_, z, rfl⟩)) np
    rcases List.mem_cons.mp a with e1 | a <;> rcases List.mem_cons.mp b with e2 | b
    · rw [(Prod.mk.inj e1).1, (Prod.mk.inj e2).1]
    · rw [(Prod.mk.inj e1).2] at b; exact absurd b (old _)
    · rw [(Prod.mk.inj e2).2] at a; exact absurd a (old _)
    · exact s.one j k q a b
  · rcases List.mem_cons.mp a with e1 | a
    · rw [(Prod.mk.inj e1).2]
      exact fun z => s.pre.dom p (List.mem_append_right _ z) np
    · exact s.apart j q a
  · rw [List.getElem?_set] at e
    by_cases c : i = j
    · subst c
      simp only [if_true] at e
      split at e
      · rename_i hl
        cases e
        exact ⟨p, o, List.mem_cons_self, by rw [List.getElem?_set_self (by rw [s.pre.len]; exact hl)], upd_same, r.mono hid⟩
      · cases e
    · rw [if_neg c] at e
      obtain ⟨q, ws, h1, h2, h3, h4⟩ := s.own j es e w
      exact ⟨q, ws, List.mem_cons_of_mem _ h1, by rw [List.getElem?_set_ne c]; exact h2, sn _ _ h3, h4.mono hid⟩
  · rcases List.mem_cons.mp a with e1 | a
    · rw [(Prod.mk.inj e1).2]
      exact ⟨o, upd_same, r.noTup⟩
    · obtain ⟨xs, hx, n⟩ := s.lists j q a
      exact ⟨xs, sn _ _ hx, n⟩
  · rw [List.getElem?_set] at e
    by_cases c : i = j
    · subst c
      simp only [if_true] at e
      split at e <;> cases e
      cases hx
    · rw [if_neg c] at e
      obtain ⟨w, ps, h1, h2, h3, h4⟩ := s.tree j es e
      exact ⟨w, ps, by rw [List.getElem?_set_ne c]; exact h1, h2.mono hid sn, h3, fun p hp => List.mem_cons_of_mem _ (h4 p hp)⟩
theorem StOk0.newOl {K : PySem.W.Frag} {O : List Addr} {B : Hp} {σ : L2.St} {H : Hp} {ρ : Ev} {W : List (Nat × Addr)} (s : StOk0 K O B σ H ρ W) {i : Nat} {p : Addr} {vs : List V} {ds : List D} (np : H p = none) (r : RpL (hide (W.map (·.2) ++ O) H) vs ds) : StOk0 K O B (σ.set i (some (.ref p))) (upd H p (.lst vs)) (ρ.set i (some (Sl.ol ds))) ((i, p) :: W) :=
  s.newG np rfl ⟨vs, rfl, r⟩
theorem ds_own {i : Nat} {x : Str} {pos' : Pos} {es : List Expr} {fs : Ev → R (List D)} {lp : Pos} (hN : X.N.Nodup) (hi : X.N[i]? = some x) (hx : Loc X.env.scope x) (he : PA X es (tDs Z fs)) (hs : swapsWith (.List es lp) (some (.Name x pos')) pos.line X.env = pure false := by rfl) (hf : X.fn x = true ∨ X.env.scope.names.lookup x = some .local := by first | exact .inl rfl | exact .inr rfl) :
    PS X (.Assign [.Name x pos'] (.List es lp) pos) (tS Z (sOwn i fs)) := ps_weak (ps_set hN hi hx (pe_lst he) hs hf) fun E σ H h => by
  obtain ⟨O, B, ρ, ⟨W, s⟩, f⟩ := h
  refine st_eval s f fun ds ws H1 e sm r s1 f1 => ?_
  by_cases hl : ds.length ≤ lim
  · rw [if_pos hl] at f1
    have r' : RpL (hide (W.map (·.2) ++ O) H1) ws ds := r
    exact ⟨by rw [lim_eq, r'.length]; exact hl, fun p np => f1 _ _ ⟨_, s1.newOl np r'⟩⟩
  · rw [if_neg hl] at f1; exact f1.elim
/-- an owned object is changed -/
theorem StOk0.chgG {K : PySem.W.Frag} {O : List Addr} {B : Hp} {σ : L2.St} {H : Hp} {ρ : Ev} {W : List (Nat × Addr)} (s : StOk0 K O B σ H ρ W) {i : Nat} {p : Addr} {o : HO} {x : Sl} (hp : (i, p) ∈ W) (hσ : σ[i]? = some (some (.ref p))) (hx : isOw x = true) (r : Holds (hide (W.map (·.2) ++ O) H) x o) :
    StOk0 K O B σ (upd H p o) (ρ.set i (some x)) W := by
  have hin : p ∈ W.map (·.2) := List.mem_map.mpr ⟨_, hp, rfl⟩
  have hin2 : p ∈ W.map (·.2) ++ O := List.mem_append_left _ hin
  refine ⟨by rw [hide_same_upd hin]; exact s.keep, ⟨by rw [List.length_set]; exact s.pre.len, fun a ha z => ?_, fun j d ej => ?_, fun j ns ej => ?_⟩, s.one, s.apart, fun j fs ej w => ?_, fun j q a => ?_, fun j fs ej => ?_⟩
  · by_cases c : a = p
    · rw [c, upd_same] at z; cases z
    · rw [upd_ne c] at z
      exact s.pre.dom a ha z
  · rw [List.getElem?_set] at ej
    by_cases c : i = j
    · subst c
      simp only [if_true] at ej
      split at ej <;> cases ej
      cases hx
    · rw [if_neg c] at ej
      obtain ⟨v, h1, h2⟩ := s.pre.ev.fr j d ej
      exact ⟨v, h1, by rw [hide_same_upd hin2]; exact h2⟩
  · rw [List.getElem?_set] at ej
    by_cases c : i = j
    · subst c
      simp only [if_true] at ej
      split at ej <;> cases ej
      cases hx
    · rw [if_neg c] at ej
      obtain ⟨a, h1, h2⟩ := s.pre.ev.sc j ns ej
      exact ⟨a, h1, by rw [hide_same_upd hin2]; exact h2⟩
  · rw [List.getElem?_set] at ej
    by_cases c : i = j
    · subst c
      simp only [if_true] at ej
      split at ej
      · cases ej
        exact ⟨p, o, hp, hσ, upd_same, by rw [hide_same_upd hin2]; exact r⟩
      · cases ej
    · rw [if_neg c] at ej
      obtain ⟨q, ws, h1, h2, h3, h4⟩ := s.own j fs ej w
      have ne : q ≠ p := fun z => c (s.one _ _ _ hp (by rw [← z]; exact h1))
      exact ⟨q, ws, h1, h2, by rw [upd_ne ne]; exact h3, by rw [hide_same_upd hin2]; exact h4⟩
  · by_cases z : q = p
    · rw [z]; exact ⟨o, upd_same, r.noTup⟩
    · obtain ⟨xs, hx, n⟩ := s.lists j q a
      exact ⟨xs, by rw [upd_ne z]; exact hx, n⟩
  · rw [List.getElem?_set] at ej
    by_cases c : i = j
    · subst c
      simp only [if_true] at ej
      split at ej <;> cases ej
      cases hx
    · rw [if_neg c] at ej
      obtain ⟨w, ps, h1, h2, h3, h4⟩ := s.tree j fs ej
      refine ⟨w, ps, h1, ?_, h3, h4⟩
      rw [hide_same_upd hin2]
      refine h2.stay (fun _ _ h => h) fun q hq xs hx => ?_
      rw [upd_ne (fun z => c (s.one _ _ _ hp (by rw [← z]; exact h4 q hq)))]
      exact hx
theorem StOk0.chg {K : PySem.W.Frag} {O : List Addr} {B : Hp} {σ : L2.St} {H : Hp} {ρ : Ev} {W : List (Nat × Addr)} (s : StOk0 K O B σ H ρ W) {i : Nat} {p : Addr} {vs : List V} {ds : List D} (hp : (i, p) ∈ W) (hσ : σ[i]? = some (some (.ref p))) (r : RpL (hide (W.map (·.2) ++ O) H) vs ds) :
    StOk0 K O B σ (upd H p (.lst vs)) (ρ.set i (some (Sl.ol ds))) W := s.chgG hp hσ rfl ⟨vs, rfl, r⟩
/-- x.m(e) on an owned list, by data -/
def sOl (i : Nat) (m : List D → D → Option (List D)) (fe : Ev → R D) : Sm := fun ρ => match ρ[i]? with
  | some (some (.ol ds)) => fe ρ >>= fun d => optR (m ds d) >>= fun es => .ok (.nx, ρ.set i (some (Sl.ol es)))
  | _ => .bad
theorem ol_ok {i : Nat} {m : List D → D → Option (List D)} {fe : Ev → R D} {K : PySem.W.Frag} {r : V → List V → Hp → VK → Prop} (hm : ∀ (O : List Addr) H p vs ds x d es (Q : VK), p ∈ O → H p = some (.lst vs) → RpL (hide O H) vs ds → Rp (hide O H) x d → m ds d = some es →
      (∀ ws, RpL (hide O H) ws es → Q .non (upd H p (.lst ws))) → r (.ref p) [x] H Q) (E : Ends) (σ : L2.St) (H : Hp) (h : tS Z (sOl i m fe) E σ H) : tDrop (tBM K "list" r (tVar i) (tCons (tD Z fe) tNil)) E σ H := by
  obtain ⟨O, B, ρ, ⟨W, s⟩, f⟩ := h
  unfold sOl at f
  cases e : ρ[i]? with
  | none => rw [e] at f; exact f.elim
  | some o =>
    cases o with
    | none => rw [e] at f; exact f.elim
    | some sl =>
      cases sl with
      | fr d => rw [e] at f; exact f.elim
      | scr ns => rw [e] at f; exact f.elim
      | od d => rw [e] at f; exact f.elim
      | dt d => rw [e] at f; exact f.elim
      | dk d => rw [e] at f; exact f.elim
      | ol ds =>
        rw [e] at f
        obtain ⟨p, vs, h1, h2, h3, h4⟩ := s.ol e
        refine ⟨.ref p, h2, .inl ⟨rfl, vs, SqL.of h3⟩, ?_⟩
        refine st_eval s f fun d x H1 _ sm r1 s1 f1 => ?_
        have hin2 : p ∈ W.map (·.2) ++ O := List.mem_append_left _ (List.mem_map.mpr ⟨_, h1, rfl⟩)
        cases em : m ds d with
        | none => rw [em] at f1; exact f1.elim
        | some es =>
          rw [em] at f1
          refine hm _ H1 p vs ds x d es _ hin2 (sm _ _ h3) (h4.mono (hide_mono sm)) r1 em fun ws rw' => ?_
          exact f1 _ _ ⟨W, s1.chg h1 h2 rw'⟩
end
end RL

set_option Elab.async false
set_option linter.all false
set_option maxRecDepth 100000
set_option maxHeartbeats 1000000
/-! # The D-layer: append, extend, for, raise, own defs -/
namespace RL
open PySem PySem.Spec PyProof.Rows L2

/-- xs.extend(t), t a tuple whatever else its object holds -/
theorem extend_tupG (l : Addr) (items : Array Value) (n : Nat) (b : Addr) (items2 : Array Value) (n2 : Nat) (od : Option Addr) (sl : Array (Option Value)) (h0 : ¬(!items.isEmpty && Builtin.List.listTooLong (items.size + items2.size)) = true) (h1 : items.size ≤ sizeLine) (h2 : items.size + items2.size ≤ sizeLine + 1) :
    Meets (Builtin.«list.extend» ⟨[.ref l, .ref b], []⟩) (fun _ R s => s.heap.get? l = some { cls := .type "list", dict := none, data := .seq items n, slots := #[] } ∧ s.heap.get? b = some { cls := .type "tuple", dict := od, data := .seq items2 n2, slots := sl } ∧ R (.ok (.ret Value.none)) { s with heap := s.heap.update l (Obj.mapSeq fun x => x ++ items2), toks := s.toks }) := by
  refine .of_wp fun prog w A R s h => ?_
  obtain ⟨hp, g, d, tk, os⟩ := s
  obtain ⟨hl, hb, h⟩ := h
  have g1 := AutoSeq1.idx_int
  have g2 := AutoSeq1.sub_tuple_tuple
  have g3 := AutoSeq1.sub_list_list
  have g4 := AutoSeq1.sub_tuple_list
  have g5 := AutoSeq1.sub_list_tuple
  have hz : (items ++ items2).size ≤ sizeLine + 1 := by rw [Array.size_append]; exact h2
  wp_walk using (wpAny_updateSeq hl rfl (hz := h1) (_hz' := hz)), AutoSeq1.wpAny_loadPart' hl, AutoSeq1.wpAny_loadPart' hb
  exact ⟨_, rfl, h⟩
def rExtendT : V → List V → Hp → VK → Prop := fun x vs H Q => ∃ l b xs zs, x = .ref l ∧ vs = [.ref b] ∧ H l = some (.lst xs) ∧ H b = some (.tup zs) ∧ xs.length + zs.length ≤ sizeLine ∧ Q .non (upd H l (.lst (xs ++ zs)))
theorem mt_extendT {X : Cx} : MtM X "list.extend" rExtendT := by
  rintro pins s σ H x vs v us Q I rx rv ⟨l, b, xs, zs, rfl, rfl, hH, hB, hz, q⟩
  cases rx
  obtain ⟨u, rfl, ru⟩ := rv.one
  cases ru
  obtain ⟨z, its, n, r, hl, e⟩ := I.lstM hH
  obtain ⟨z2, its2, r2, ob, ho, hc, n2, hd⟩ := I.hok b _ hB
  obtain ⟨oc, od, dt, sl⟩ := ob
  have hc' : oc = .type "tuple" := hc
  have hd' : dt = .seq its2.toArray n2 := hd
  subst hc' hd'
  have l2 := r2.length
  have hsz : its.toArray.size + its2.toArray.size ≤ sizeLine := by rw [List.size_toArray, List.size_toArray]; omega
  have hlong : ¬ (!its.toArray.isEmpty && Builtin.List.listTooLong (its.toArray.size + its2.toArray.size)) = true := by
    rw [notLongL hsz]; simp
  refine call_meets F.slot_list_extend ⟨_, e, rfl⟩ F.entry_list_extend (F.args_list_extend_2 _ _) (extend_tupG l its.toArray n b its2.toArray n2 od sl hlong (by omega) (by omega)) ⟨e, ho, ?_⟩
  refine ⟨.non, _, I.lset (its' := its ++ its2) hH e (by simp) (r.append r2) ?_, rfl, q⟩
  rw [List.length_append]; omega

section
variable {X : Cx} {Z : Zx} {e : Expr} {fe : Ev → R D} {pos apos cpos : Pos} {x : Str}
def mAppend (ds : List D) (d : D) : Option (List D) := if ds.length < lim then some (ds ++ [d]) else none
def mExtend (ds : List D) (d : D) : Option (List D) := match d with
  | .list es => if ds.length + es.length ≤ lim then some (ds ++ es) else none
  | .tuple es => if ds.length + es.length ≤ lim then some (ds ++ es) else none
  | _ => none
theorem append_ok {O : List Addr} {H : Hp} {p : Addr} {vs : List V} {ds : List D} {v : V} {d : D} {es : List D} {Q : VK} (hp : p ∈ O) (h : H p = some (.lst vs)) (r : RpL (hide O H) vs ds) (rv : Rp (hide O H) v d) (em : mAppend ds d = some es)
    (q : ∀ ws, RpL (hide O H) ws es → Q .non (upd H p (.lst ws))) : rAppend (.ref p) [v] H Q := by
  unfold mAppend at em
  split at em
  · rename_i hl
    cases em
    exact ⟨p, vs, v, rfl, rfl, h, by rw [lim_eq, r.length]; exact hl, q _ (r.append (.one rv))⟩
  · cases em
theorem extend_ok {O : List Addr} {H : Hp} {p : Addr} {vs : List V} {ds : List D} {v : V} {d : D} {es : List D} {Q : VK} (hp : p ∈ O) (h : H p = some (.lst vs)) (r : RpL (hide O H) vs ds) (rv : Rp (hide O H) v d) (em : mExtend ds d = some es)
    (q : ∀ ws, RpL (hide O H) ws es → Q .non (upd H p (.lst ws))) : rExtend (.ref p) [v] H Q ∨ rExtendT (.ref p) [v] H Q := by
  unfold mExtend at em
  split at em
  · rename_i fs
    split at em
    · rename_i hl
      cases em
      obtain ⟨b, ws, rfl, _, hb, rb⟩ := rv.ref_lst
      exact .inl ⟨p, b, vs, ws, rfl, rfl, h, hb, by rw [lim_eq, r.length, rb.length]; exact hl, q _ (r.append rb)⟩
    · cases em
  · rename_i fs
    split at em
    · rename_i hl
      cases em
      obtain ⟨b, ws, rfl, _, hb, rb⟩ := rv.ref_tup
      exact .inr ⟨p, b, vs, ws, rfl, rfl, h, hb, by rw [lim_eq, r.length, rb.length]; exact hl, q _ (r.append rb)⟩
    · cases em
  · cases em
theorem ds_append {i : Nat} {np : Pos} (hN : X.N[i]? = some x) (hv : Vis X.env.scope x) (he : PE X e (tD Z fe)) (hd : (x == ("__debug__" : Str)) = false := by decide) (hcd : (x == ("__classdict__" : Str)) = false := by decide) (hse : starEach [e] X.env = (false, eval e X.env) :: starEach [] X.env := by rfl)
    (hb : PE X (.Call (.Attribute (.Name x np) "append" apos) [e] [] cpos) (tBM X.K "list" rAppend (tVar i) (tCons (tD Z fe) tNil)) → swapsWith (.Call (.Attribute (.Name x np) "append" apos) [e] [] cpos) none pos.line X.env = pure false := by intro _; rfl)
    (hpe : PE X (.Call (.Attribute (.Name x np) "append" apos) [e] [] cpos) (tBM X.K "list" rAppend (tVar i) (tCons (tD Z fe) tNil))) :
    PS X (.Expr (.Call (.Attribute (.Name x np) "append" apos) [e] [] cpos) pos) (tS Z (sOl i mAppend fe)) :=
  ps_weak (ps_expr hpe (hb hpe)) fun E σ H h => ol_ok (K := X.K) (fun O H p vs ds x d es Q h1 h2 h3 h4 h5 h6 => append_ok h1 h2 h3 h4 h5 h6) E σ H h
theorem ds_extend {i : Nat} {np : Pos} (hpe : PE X (.Call (.Attribute (.Name x np) "extend" apos) [e] [] cpos) (tBM X.K "list" (fun x vs H Q => rExtend x vs H Q ∨ rExtendT x vs H Q) (tVar i) (tCons (tD Z fe) tNil))) (hs : swapsWith (.Call (.Attribute (.Name x np) "extend" apos) [e] [] cpos) none pos.line X.env = pure false := by rfl) :
    PS X (.Expr (.Call (.Attribute (.Name x np) "extend" apos) [e] [] cpos) pos) (tS Z (sOl i mExtend fe)) :=
  ps_weak (ps_expr hpe hs) fun E σ H h => ol_ok (K := X.K) (fun O H p vs ds x d es Q h1 h2 h3 h4 h5 h6 => extend_ok h1 h2 h3 h4 h5 h6) E σ H h

/-! ### for -/
structure TgOk (t : D → Ev → R Ev) (vs : List Nat) : Prop where
  own : ∀ d ρ ρ' (j : Nat) (x : Sl), t d ρ = .ok ρ' → ρ'[j]? = some (some x) → (∀ e, x ≠ Sl.fr e) → j ∉ vs ∧ ρ[j]? = some (some x)
theorem set_ol {ρ : Ev} {i j : Nat} {d : D} {x : Sl} (h : (ρ.set i (some (Sl.fr d)))[j]? = some (some x)) (nx : ∀ e, x ≠ Sl.fr e) : j ≠ i ∧ ρ[j]? = some (some x) := by
  rw [List.getElem?_set] at h
  by_cases c : i = j
  · subst c
    simp only [if_true] at h
    split at h
    · cases h; exact absurd rfl (nx d)
    · cases h
  · rw [if_neg c] at h
    exact ⟨fun z => c z.symm, h⟩
theorem tg1_ok (i : Nat) : TgOk (tg1 i) [i] := ⟨fun d ρ ρ' j x e h nx => by
  cases e
  obtain ⟨h1, h2⟩ := set_ol h nx
  exact ⟨by simpa using h1, h2⟩⟩
theorem tg2_ok (i j : Nat) : TgOk (tg2 i j) [i, j] := ⟨fun d ρ ρ' k x e h nx => by
  unfold tg2 at e
  split at e
  · cases e
    obtain ⟨h1, h2⟩ := set_ol h nx
    obtain ⟨h3, h4⟩ := set_ol h2 nx
    exact ⟨by simp [h1, h3], h4⟩
  · cases e⟩
def loop (t : D → Ev → R Ev) (g : Sm) (ws : List Nat) : List D → Sm
  | [], ρ => .ok (.nx, ρ)
  | d :: ds, ρ => noX (t d ρ) >>= fun ρ1 => g ρ1 >>= fun q => match q with
    | (.nx, ρ2) => loop t g ws ds (wipeE ρ2 ws)
    | (.ct, ρ2) => loop t g ws ds (wipeE ρ2 ws)
    | (.bk, ρ2) => .ok (.nx, wipeE ρ2 ws)
    | (.ret v, ρ2) => .ok (.ret v, ρ2)
    | (.retF v, ρ2) => .ok (.retF v, ρ2)
def sFor (wi : Ev → R (List D)) (t : D → Ev → R Ev) (ws : List Nat) (g : Sm) : Sm := fun ρ => wi ρ >>= fun ds => loop t g ws ds ρ
theorem Fin.less {O : List Addr} {B B' : Hp} {E : Ends} {r : R (Fl × Ev)} (b : Same B B') (f : Fin Z O B E r) : Fin Z O B' E r := by
  match r, f with
  | .ok (.nx, ρ), f => exact fun σ H s => f σ H (s.less b)
  | .ok (.bk, ρ), f => exact fun σ H s => f σ H (s.less b)
  | .ok (.ct, ρ), f => exact fun σ H s => f σ H (s.less b)
  | .ok (.ret d, ρ), f => exact fun v H s => f v H (b.trans s)
  | .ok (.retF d, ρ), f => exact fun v H s q => f v H (b.trans s) (q.less b)
  | .exc c, f => exact fun H s => f H (b.trans s)
  | .bad, f => exact f
theorem for_ok {wi : Ev → R (List D)} {t : D → Ev → R Ev} {vs ws : List Nat} {g : Sm} (ht : TgOk t vs) (E : Ends) (σ : L2.St) (H : Hp) (h : tS Z (sFor wi t ws g) E σ H) : tFor (tI Z wi) (gD Z.K t vs) (tS Z g) E σ H := by
  obtain ⟨O, B, ρ, ⟨W, s⟩, f⟩ := h
  refine st_eval s f fun ds J H1 e sm hJ s1 f1 => ?_
  have bB : Same B (hide (W.map (·.2)) H1) := s1.keep
  have hM : hide (W.map (·.2) ++ O) H1 = hide O (hide (W.map (·.2)) H1) := hide_app
  rw [hM] at hJ
  have f2 := Fin.less bB f1
  generalize hB : hide (W.map (·.2)) H1 = B' at hJ f2
  have s1' : StOk Z.K O B' σ H1 ρ := ⟨W, by rw [hB.symm]; exact Same.refl _, s1.pre, s1.one, s1.apart, s1.own, s1.lists, s1.tree⟩
  generalize hr : loop t g ws ds ρ = r at f2
  refine ⟨fun i m σ' H' => m = ds.length - i ∧ i ≤ ds.length ∧ ∃ ρ', StOk Z.K O B' σ' H' ρ' ∧ loop t g ws (ds.drop i) ρ' = r, ⟨ds.length, by omega, Nat.zero_le _, ρ, s1', hr⟩, ?_⟩
  rintro i m σ' H' ⟨rfl, hi, ρ', ⟨W', s'⟩, hl⟩
  have see : Same (hide O B') (hide (W'.map (·.2) ++ O) H') := by rw [hide_app]; exact hide_mono s'.keep
  have seeH : Same (hide O B') H' := see.trans (hide_le _ _)
  by_cases c : i = ds.length
  · refine .inl ⟨hJ.stop i H' c seeH, ?_⟩
    rw [c, List.drop_length] at hl
    subst hl
    exact f2 σ' H' ⟨W', s'⟩
  · have hlt : i < ds.length := by omega
    have hd : ds[i]? = some ds[i] := List.getElem?_eq_getElem hlt
    rw [List.drop_eq_getElem_cons hlt] at hl
    unfold loop at hl
    refine .inr ⟨hJ.go i H' hlt seeH, fun σ3 H3 => ∃ ρ'', StOk Z.K O B' σ3 H3 ρ'' ∧ loop t g ws (ds.drop (i + 1)) ρ'' = r, fun σ3 H3 ⟨ρ'', q1, q2⟩ => ⟨ds.length - (i + 1), by omega, rfl, hlt, ρ'', q1, q2⟩, fun x H2 hy => ?_⟩
    obtain ⟨sHH, rx⟩ := hJ.yld i H' x H2 _ _ hd s'.pre.dom see hy
    have s2 := s'.up sHH
    cases e1 : noX (t ds[i] ρ') with
    | exc c' =>
      exfalso
      cases e3 : t ds[i] ρ' <;> rw [e3] at e1 <;> cases e1
    | bad => rw [e1] at hl; have hl' : R.bad = r := hl; subst hl'; exact f2.elim
    | ok ρ1 =>
      rw [e1, R.ok_bind] at hl
      refine ⟨_, ρ', ds[i], ρ1, s2.toPre, rx, noX_ok e1, fun σ2 p2 hw => ?_⟩
      have s3 : StOk Z.K O B' σ2 H2 ρ1 := ⟨W', s2.keep, p2.toPre0, s2.one, s2.apart, fun j es ej w => by
        obtain ⟨h1, h2⟩ := ht.own _ _ _ j _ (noX_ok e1) ej (fun e z => by rw [z] at w; cases w)
        obtain ⟨p, ws', q1, q2, q3, q4⟩ := s2.own j es h2 w
        refine ⟨p, ws', q1, ?_, q3, q4⟩
        have a1 : (wipe σ2 vs)[j]? = σ2[j]? := wipe_out h1
        have a2 : (wipe σ' vs)[j]? = σ'[j]? := wipe_out h1
        rw [← a1, hw, a2]
        exact q2, s2.lists, fun j es ej => by
        obtain ⟨h1, h2⟩ := ht.own _ _ _ j _ (noX_ok e1) ej (fun e z => by cases z)
        obtain ⟨w, ps, q1, q2⟩ := s2.tree j es h2
        refine ⟨w, ps, ?_, q2⟩
        have a1 : (wipe σ2 vs)[j]? = σ2[j]? := wipe_out h1
        have a2 : (wipe σ' vs)[j]? = σ'[j]? := wipe_out h1
        rw [← a1, hw, a2]
        exact q1⟩
      refine ⟨O, B', ρ1, s3, ?_⟩
      cases e2 : g ρ1 with
      | exc c' => rw [e2] at hl; have hl' : R.exc c' = r := hl; subst hl'; exact f2
      | bad => rw [e2] at hl; have hl' : R.bad = r := hl; subst hl'; exact f2
      | ok q =>
        obtain ⟨fl, ρ2⟩ := q
        rw [e2, R.ok_bind] at hl
        cases fl with
        | nx => exact fun σ3 H3 s4 => ⟨_, s4.wipe ws, hl⟩
        | ct => exact fun σ3 H3 s4 => ⟨_, s4.wipe ws, hl⟩
        | bk =>
          have hl' : R.ok (Fl.nx, wipeE ρ2 ws) = r := hl
          subst hl'
          exact fun σ3 H3 s4 => f2 σ3 H3 (s4.wipe ws)
        | ret d =>
          have hl' : R.ok (Fl.ret d, ρ2) = r := hl
          subst hl'
          exact f2
        | retF d =>
          have hl' : R.ok (Fl.retF d, ρ2) = r := hl
          subst hl'
          exact f2
theorem ds_for {tg iter : Expr} {body : List Stmt} {wi : Ev → R (List D)} {t : D → Ev → R Ev} {vs : List Nat} {g : Sm} (ws : List Nat) (ht : TgOk t vs) (hp : PassesOwn (model X.prog X.w) X.A X.env X.xe) (hc : X.calm = true) (hi : PI X tg iter (tI Z wi)) (hg : PG X tg (gD Z.K t vs)) (hb : PSs X body (tS Z g))
    (hs : ∀ x, foldedSetIterable iter X.env x = pure x := by intro _; rfl) : PS X (.For tg iter body [] pos) (tS Z (sFor wi t ws g)) :=
  ps_weak (ps_for hp hc hi hg hb hs) fun E σ H h => for_ok ht E σ H h

/-! ### raise -/
structure ExcT (K : PySem.W.Frag) (mg : Str → Option Value) (x : Str) (C : Addr) : Prop where
  q : PySem.W.excIn K C [.type "ValueError", .type "Exception", .type "BaseException", .type "object"] "ValueError.__new__" = true
  gC : mg x = some (.ref C)
  kC : PySem.W.keepIn K (.ref C) = true
  sb : PySem.W.subIn K (.ref C) (.type "BaseException") = some true
  ty : PySem.W.typeIn K (.ref C) = some (.type "type")
def sRaise (c : Nat) : Sm := fun _ => .exc c
theorem ds_raise {c j : Nat} {m : Str} {p p2 p3 : Pos} (hc : X.calm = true) (tk : Takes X (fun cls d _ H => Z.E cls d H)) (T : ExcT X.K X.mg x (Z.cl c)) (hg : Gl X x) (hdb : (x == ("__debug__" : Str)) = false := by decide) :
    PS X (.Raise (some (.Call (.Name x p) [.Constant (.str m) j p2] [] p3)) none pos) (tS Z (sRaise c)) :=
  ps_weak (ps_raise hc tk (pmk_own PySem.F.excBase_ValueError T.q T.gC T.kC (raises_own T.sb T.ty) hg hdb)) fun E σ H h => by
    obtain ⟨O, B, ρ, ⟨W, s⟩, f⟩ := h
    exact f H s.base

/-! ### own defs -/
/-- a def's promise by data: its refusals are of the classes cl -/
def spD (K : PySem.W.Frag) (cl : Nat → Addr) (n : Nat) (F : List D → R D) : Sp := fun vs H Q E => vs.length = n ∧ ∃ O ds, (∀ p ∈ O, H p ≠ none) ∧ RpL (hide O H) vs ds ∧ Pst Rp ⟨K, E, cl⟩ O H (F ds) Q
structure Kn (P : Program) (w : World) (K : PySem.W.Frag) (mg : Str → Option Value) (base : Heap) (cl : Nat → Addr) (k : Nat) (x : Str) (n : Nat) (F : List D → R D) : Prop where
  ex : ∃ f fd ps, ps.length = n ∧ FnOk P w K mg base (L2.CX P w) k f fd ps (spD K cl n F) ∧ mg x = some (.ref f) ∧ PySem.W.keepIn K (.ref f) = true ∧ Binds K fd ps []
def eFn (n : Nat) (F : List D → R D) (fs : Ev → R (List D)) : Ev → R D := fun ρ => fs ρ >>= fun ds => if ds.length = n then F ds else .bad
theorem d_fn {k kx n : Nat} {F : List D → R D} {a : Expr} {es : List Expr} {fs : Ev → R (List D)} {p : Pos} (G : Kn X.prog X.w X.K X.mg X.base Z.cl k x n F) (hr : Room kx X.A) (hk : k ≤ kx) (hg : Gl X x) (hx : Passes (L2.CX X.prog X.w) X Z.E) (ha : PA X (a :: es) (tDs Z fs))
    (hdb : (x == ("__debug__" : Str)) = false := by decide) (he : starEach (a :: es) X.env = (false, eval a X.env) :: starEach es X.env := by rfl) (hpl : (backTo pos (starEach es X.env)).any (·.1) = false := by rfl) : PE X (.Call (.Name x p) (a :: es) [] pos) (tD Z (eFn n F fs)) := by
  obtain ⟨f, fd, ps, _, F', hm, kp, hb⟩ := G.ex
  refine pe_weak (pe_call F' (hr.mono hk) hg hm kp hb .nil hx ha hdb he hpl) fun σ H Q h => ?_
  obtain ⟨O, ρ, hp, h⟩ := h
  refine ⟨O, ρ, hp, Pst.bind' h fun ds xs H1 _ s1 h1 k1 => ?_⟩
  by_cases e : ds.length = n
  · rw [if_pos e] at k1
    have h1' : RpL (hide O H1) xs ds := h1
    refine ⟨by rw [List.append_nil, h1'.length]; exact e, O, ds, (hp.mono s1).dom, by rw [List.append_nil]; exact h1, k1⟩
  · rw [if_neg e] at k1; exact k1.elim
def startE (N : Nat) (ds : List D) : Ev := ds.map (fun d => some (Sl.fr d)) ++ List.replicate (N - ds.length) none
def runD (N : Nat) (g : Sm) (ds : List D) : R D := match g (startE N ds) with
  | .ok (.ret d, _) => .ok d
  | .ok (.retF d, _) => .ok d
  | .ok (.nx, _) => .ok .none
  | .ok _ => .bad
  | .exc c => .exc c
  | .bad => .bad
theorem start_ev {K : PySem.W.Frag} {M : Hp} {vs : List V} {ds : List D} (r : RpL M vs ds) (m : Nat) : EvOk K M (vs.map some ++ List.replicate m none) (ds.map (fun d => some (Sl.fr d)) ++ List.replicate m none) := by
  refine ⟨fun i d e => ?_, fun i ns e => ?_⟩
  rotate_left
  · exfalso
    by_cases c : i < ds.length
    · rw [List.getElem?_append_left (by rw [List.length_map]; exact c), List.getElem?_map] at e
      cases e2 : ds[i]? with
      | none => rw [e2] at e; cases e
      | some d' => rw [e2] at e; cases e
    · rw [List.getElem?_append_right (by rw [List.length_map]; omega)] at e
      obtain ⟨h1, h2⟩ := List.getElem?_eq_some_iff.mp e
      rw [List.getElem_replicate] at h2
      cases h2
  have hl := r.length
  by_cases c : i < ds.length
  · rw [List.getElem?_append_left (by rw [List.length_map]; exact c), List.getElem?_map] at e
    cases e2 : ds[i]? with
    | none => rw [e2] at e; cases e
    | some d' =>
      rw [e2] at e
      cases e
      obtain ⟨v, h1, h2⟩ := r.get e2
      refine ⟨v, ?_, h2⟩
      rw [List.getElem?_append_left (by rw [List.length_map]; omega), List.getElem?_map, h1] <;> rfl
  · rw [List.getElem?_append_right (by rw [List.length_map]; omega)] at e
    obtain ⟨h1, h2⟩ := List.getElem?_eq_some_iff.mp e
    rw [List.getElem_replicate] at h2
    cases h2
theorem startE_fr {N : Nat} {ds : List D} {i : Nat} {x : Sl} (e : (startE N ds)[i]? = some (some x)) : ∃ d, x = Sl.fr d := by
  unfold startE at e
  by_cases c : i < ds.length
  · rw [List.getElem?_append_left (by rw [List.length_map]; exact c), List.getElem?_map] at e
    cases e2 : ds[i]? with
    | none => rw [e2] at e; cases e
    | some d' => rw [e2] at e; cases e; exact ⟨d', rfl⟩
  · rw [List.getElem?_append_right (by rw [List.length_map]; omega)] at e
    obtain ⟨h1, h2⟩ := List.getElem?_eq_some_iff.mp e
    rw [List.getElem_replicate] at h2
    cases h2
theorem startE_noOw {N : Nat} {ds : List D} {i : Nat} {x : Sl} (e : (startE N ds)[i]? = some (some x)) (w : isOw x = true) : False := by
  obtain ⟨d, z⟩ := startE_fr e
  rw [z] at w; cases w
theorem startE_noOd {N : Nat} {ds : List D} {i : Nat} {es : D} : ¬ (startE N ds)[i]? = some (some (Sl.od es)) := fun e => by
  obtain ⟨d, z⟩ := startE_fr e
  cases z
/-- THE RULE for a def, by data -/
theorem def_ok {P : Program} {w : World} {K : PySem.W.Frag} {mg : Str → Option Value} {base : Heap} {cl : Nat → Addr} {xn qual : Str} {params : Arguments} {body : List Stmt} {scope : Scope} {f : Addr} {fd : FuncData} {N ps : List Str} {k : Nat} {g : Sm}
    (F : FunD K xn qual params body scope [] [] f fd) (S : FnScope N ps scope)
    (hb : ∀ (cdv : Value) (A : Around) (outer : List Env) (s : Shared) (H : Hp) (E : XK), Room k (A.deeper (envOfC qual scope s.heap.objs.size f cdv)) → PSs (cxOf (L2.CX P w) P w K mg base N qual scope f cdv A outer s H E) body (tS ⟨K, E, cl⟩ g)) :
    FnOk P w K mg base (L2.CX P w) (k + 1) f fd ps (spD K cl ps.length (runD N.length g)) := by
  refine F.ok S (fun vs H Q E h => h.1) fun cdv A outer s H vs Q E hr h => ⟨_, hb cdv A outer s H E hr, ?_⟩
  obtain ⟨hlen, O, ds, hO, r, q⟩ := h
  have hl := r.length
  refine ⟨O, H, startE N.length ds, ⟨[], ?_⟩, ?_⟩
  · have hs : L2.start N vs = vs.map some ++ List.replicate (N.length - ds.length) none := by unfold L2.start; rw [hl]
    rw [hs]
    refine ⟨by rw [List.map_nil, hide_nil]; exact Same.refl _, ⟨?_, hO, start_ev r _⟩, fun i j p h => (by cases h), fun i p h => (by cases h), fun i x e w => (startE_noOw e w).elim, fun i p h => (by cases h), fun i es e => absurd e startE_noOd⟩
    · unfold startE
      simp only [List.length_append, List.length_map, List.length_replicate, hl]
  · unfold runD at q
    match hg : g (startE N.length ds), q with
    | .ok (.nx, ρ), q => exact fun σ' H' s' => q .non H' (by obtain ⟨W, s'⟩ := s'; exact s'.base) .non
    | .ok (.bk, ρ), q => exact q.elim
    | .ok (.ct, ρ), q => exact q.elim
    | .ok (.ret d, ρ), q => exact fun v H' s' rv => q v H' s' rv
    | .ok (.retF d, ρ), q => exact fun v H' s' rv => q v H' s' (DFr.rp2 hO s' rv)
    | .exc c, q => exact q
    | .bad, q => exact q.elim
end
end RL

set_option Elab.async false
set_option linter.all false
set_option maxRecDepth 100000
set_option maxHeartbeats 1000000
/-! # The D-layer: short words; the script -/
namespace RL
open PySem PySem.Spec PyProof.Rows L2
section
variable {X : Cx} {Z : Zx}
theorem dv (i : Nat) {x : Str} {pos : Pos} (hN : X.N[i]? = some x := by rfl) (hv : Vis X.env.scope x := by first | exact Or.inl rfl | exact Or.inr (Or.inl rfl) | exact Or.inr (Or.inr rfl)) (hd : (x == ("__debug__" : Str)) = false := by decide)
    (hcd : (x == ("__classdict__" : Str)) = false := by decide) : PE X (.Name x pos) (tD Z (eVar i)) := d_var hN hv hd hcd
theorem units65 {A : Around} {k : Nat} (hr : Room k A) : A.units + 65 < cLine := by
  have := hr.un
  omega

/-! ### the script in a slot -/
def scrAt (i : Nat) : Ev → R (List Int) := fun ρ => match ρ[i]? with
  | some (some (.scr ns)) => .ok ns
  | _ => .bad
theorem scrAt_get {α W : Type} {rel : Hp → W → α → Prop} {i : Nat} {ρ : Ev} {O : List Addr} {H : Hp} {σ : L2.St} {k : List Int → R α} {Q : W → Hp → Prop} (hp : Pre Z.K O H σ ρ) (h : Pst rel Z O H (scrAt i ρ >>= k) Q) :
    ∃ a ns, σ[i]? = some (some (.ref a)) ∧ SqL Z.K (hide O H) a (ns.map V.int) ∧ Pst rel Z O H (k ns) Q := by
  unfold scrAt at h
  cases e : ρ[i]? with
  | none => rw [e] at h; exact h.elim
  | some o =>
    cases o with
    | none => rw [e] at h; exact h.elim
    | some s =>
      cases s with
      | fr d => rw [e] at h; exact h.elim
      | ol d => rw [e] at h; exact h.elim
      | od d => rw [e] at h; exact h.elim
      | dt d => rw [e] at h; exact h.elim
      | dk d => rw [e] at h; exact h.elim
      | scr ns =>
        rw [e] at h
        obtain ⟨a, h1, h2⟩ := hp.ev.sc i ns e
        exact ⟨a, ns, h1, h2, h⟩
theorem sq_hide {K : PySem.W.Frag} {O : List Addr} {H : Hp} {a : Addr} {xs : List V} (h : SqL K (hide O H) a xs) : SqL K H a xs := (hide_le O H).seq h
theorem ints_dp {K : PySem.W.Frag} {H : Hp} : ∀ ns : List Int, DpAll K H (ns.map V.int) (ns.map .int)
  | [] => .nil
  | n :: ns => .cons (.int n) (ints_dp ns)
theorem ints_lay : ∀ ns : List Int, PyData.canLayAll0 (ns.map .int) = true
  | [] => by simp [PyData.canLayAll0]
  | n :: ns => by simp [PyData.canLayAll0, PyData.canLay0, ints_lay ns]
theorem ints_depth : ∀ ns : List Int, PyData.depthAll (ns.map .int) ≤ 1
  | [] => by simp [PyData.depthAll]
  | n :: ns => by
    have := ints_depth ns
    simp only [List.map_cons, PyData.depthAll, PyData.depth]
    omega
theorem ints_shaped (ns : List Int) : SeqAt.shaped (.list (ns.map .int)) = true := by
  unfold SeqAt.shaped
  rw [Bool.and_eq_true]
  refine ⟨by simp only [PyData.canLay0]; exact ints_lay ns, decide_eq_true ?_⟩
  have := ints_depth ns
  simp only [PyData.depth]
  omega
theorem ints_eqv_nil (ns : List Int) : PyData.eqv (.list (ns.map .int)) (.list []) = ns.isEmpty := by
  cases ns <;> simp [PyData.eqv, PyData.eqvAll]
def eSNe (i : Nat) : Ev → R D := fun ρ => scrAt i ρ >>= fun ns => .ok (.bool (!ns.isEmpty))
theorem sne_ok {i : Nat} {K : PySem.W.Frag} (hK : Z.K = K) (σ : L2.St) (H : Hp) (Q : VK) (h : tD Z (eSNe i) σ H Q) : tOp (rNeD K) (tVar i) (tLst tNil) σ H Q := by
  subst hK
  obtain ⟨O, ρ, hp, h⟩ := h
  obtain ⟨a, ns, h1, h2, h3⟩ := scrAt_get hp h
  refine ⟨.ref a, h1, by show 0 ≤ sizeLine; exact Nat.zero_le _, fun p np => ?_⟩
  refine ⟨.list (ns.map .int), .list [], .lst ((same_new np).seq (sq_hide h2)) (ints_dp ns), .lst (SqL.of upd_same) .nil, ints_shaped ns, ints_shaped [], ?_⟩
  rw [ints_eqv_nil]
  exact pst_ok h3 (same_new np) (.bl _)
theorem dt_sne {i : Nat} {x : Str} {p1 p2 pos : Pos} (hK : Z.K = X.K) (h64 : X.A.units + 64 < cLine) (hv : PE X (.Name x p1) (tVar i)) : PT X (.Compare (.Name x p1) [.NotEq] [.List [] p2] pos) (tB' Z (eB (eSNe i))) :=
  pt_weak (pt_cmpR (op_neD h64) hv (pe_lst pa_nil) (nomark _)) fun σ H Q h => sne_ok hK σ H _ (tst_ok σ H Q h)
def eSSum (i : Nat) : Ev → R D := fun ρ => scrAt i ρ >>= fun ns => .ok (.int ns.sum)
theorem d_ssum {i : Nat} {x : Str} {p1 p2 pos : Pos} (hK : Z.K = X.K) (hc : X.calm = true) (hg : Gl X "sum") (hm : X.mg "sum" = none) (hv : PE X (.Name x p1) (tVar i))
    (he : starEach [.Name x p1] X.env = (false, eval (.Name x p1) X.env) :: starEach [] X.env := by rfl) : PE X (.Call (.Name "sum" p2) [.Name x p1] [] pos) (tD Z (eSSum i)) :=
  pe_weak (pe_callB (cr_sum hc) hg hm (by decide +kernel) (pa_cons hv pa_nil he) (by decide) (by decide) he rfl) fun σ H Q h => by
    obtain ⟨O, ρ, hp, h⟩ := h
    obtain ⟨a, ns, h1, h2, h3⟩ := scrAt_get hp h
    exact ⟨.ref a, h1, a, ns, rfl, by rw [← hK]; exact sq_hide h2, pst_ok h3 (Same.refl _) (.int _)⟩
def eSLen (i : Nat) : Ev → R D := fun ρ => scrAt i ρ >>= fun ns => .ok (.int (ns.length : Nat))
theorem d_slen {i : Nat} {x : Str} {p1 p2 pos : Pos} (hK : Z.K = X.K) (hg : Gl X "len") (hm : X.mg "len" = none) (hv : PE X (.Name x p1) (tVar i))
    (he : starEach [.Name x p1] X.env = (false, eval (.Name x p1) X.env) :: starEach [] X.env := by rfl) : PE X (.Call (.Name "len" p2) [.Name x p1] [] pos) (tD Z (eSLen i)) :=
  pe_weak (pe_callB call_len_seq hg hm PySem.boot_len (pa_cons hv pa_nil he) (by decide) (by decide) he rfl) fun σ H Q h => by
    obtain ⟨O, ρ, hp, h⟩ := h
    obtain ⟨a, ns, h1, h2, h3⟩ := scrAt_get hp h
    exact ⟨.ref a, h1, a, _, rfl, .inl (by rw [← hK]; exact sq_hide h2), by rw [List.length_map]; exact pst_ok h3 (Same.refl _) (.int _)⟩
/-- len(script[:k]) -/
def eSCut (i : Nat) (k : Nat) : Ev → R D := fun ρ => scrAt i ρ >>= fun ns => .ok (.int ((min k ns.length : Nat) : Int))
theorem d_scut {i k j : Nat} {x : Str} {p1 p2 p3 p4 p5 pos : Pos} (hK : Z.K = X.K) (hg : Gl X "len") (hm : X.mg "len" = none) (hv : PE X (.Name x p1) (tVar i))
    (he : starEach [.Subscript (.Name x p1) (.Slice none (some (.Constant (.int (k : Int)) j p3)) none p4) p5] X.env = (false, eval (.Subscript (.Name x p1) (.Slice none (some (.Constant (.int (k : Int)) j p3)) none p4) p5) X.env) :: starEach [] X.env := by rfl) :
    PE X (.Call (.Name "len" p2) [.Subscript (.Name x p1) (.Slice none (some (.Constant (.int (k : Int)) j p3)) none p4) p5] [] pos) (tD Z (eSCut i k)) :=
  pe_weak (pe_callB call_len_seq hg hm PySem.boot_len (pa_cons (pe_slice sl_list hv po_none (po_some pe_int)) pa_nil he) (by decide) (by decide) he rfl) fun σ H Q h => by
    obtain ⟨O, ρ, hp, h⟩ := h
    obtain ⟨a, ns, h1, h2, h3⟩ := scrAt_get hp h
    refine ⟨.ref a, h1, (k : Int), rfl, a, _, rfl, by rw [← hK]; exact sq_hide h2, fun p np => ⟨p, _, rfl, .inl (SqL.of upd_same), ?_⟩⟩
    have e : (cutV (ns.map V.int) none (some (k : Int))).length = min k ns.length := by
      unfold cutV
      rw [HT.sIx_none, HT.sIx_nat, List.drop_zero, List.length_take, List.length_map]
      omega
    rw [e]
    exact pst_ok h3 (same_new np) (.int _)
def eSIx (i : Nat) (fb : Ev → R D) : Ev → R D := fun ρ => scrAt i ρ >>= fun ns => fb ρ >>= fun d => match d with
  | .int k => optR ((atI ns k).map .int)
  | _ => .bad
theorem d_six {i : Nat} {x : Str} {p1 pos : Pos} {b : Expr} {fb : Ev → R D} (hK : Z.K = X.K) (hb : PE X b (tD Z fb)) (hs : PlainIx b) (hv : PE X (.Name x p1) (tVar i)) :
    PE X (.Subscript (.Name x p1) b pos) (tD Z (eSIx i fb)) := pe_weak (pe_ix ix_list hv hb hs) fun σ H Q h => by
  obtain ⟨O, ρ, hp, h⟩ := h
  obtain ⟨a, ns, h1, h2, h3⟩ := scrAt_get hp h
  refine ⟨.ref a, h1, O, ρ, hp, Pst.bind' h3 fun d y H1 _ s1 r1 k1 => ?_⟩
  cases r1 with
  | int k =>
    have k2 : Pst Rp Z O H1 (optR ((atI ns k).map .int)) Q := k1
    cases e : atI ns k with
    | none => rw [e] at k2; exact k2.elim
    | some n =>
      rw [e] at k2
      refine ⟨a, ns.map V.int, k, .int n, rfl, rfl, s1.seq (by rw [← hK]; exact sq_hide h2), ?_, pst_ok k2 (Same.refl _) (.int _)⟩
      unfold atI at e ⊢
      rw [List.length_map]
      cases e2 : ixN ns.length k with
      | none => rw [e2] at e; cases e
      | some j =>
        rw [e2] at e
        have e3 : ns[j]? = some n := e
        show (ns.map V.int)[j]? = some (.int n)
        rw [List.getElem?_map, e3] <;> rfl
  | _ => exact k1.elim

/-! ### defs whose first argument is the script -/
def spS (K : PySem.W.Frag) (cl : Nat → Addr) (n : Nat) (F : List Int → List D → R D) : Sp := fun vs H Q E => vs.length = n + 1 ∧ ∃ O a ws ns ds, vs = .ref a :: ws ∧ (∀ p ∈ O, H p ≠ none) ∧ SqL K (hide O H) a (ns.map V.int) ∧ RpL (hide O H) ws ds ∧ Pst Rp ⟨K, E, cl⟩ O H (F ns ds) Q
structure KnS (P : Program) (w : World) (K : PySem.W.Frag) (mg : Str → Option Value) (base : Heap) (cl : Nat → Addr) (k : Nat) (x : Str) (n : Nat) (F : List Int → List D → R D) : Prop where
  ex : ∃ f fd ps, ps.length = n + 1 ∧ FnOk P w K mg base (L2.CX P w) k f fd ps (spS K cl n F) ∧ mg x = some (.ref f) ∧ PySem.W.keepIn K (.ref f) = true ∧ Binds K fd ps []
def eFnS (i n : Nat) (F : List Int → List D → R D) (fs : Ev → R (List D)) : Ev → R D := fun ρ => scrAt i ρ >>= fun ns => fs ρ >>= fun ds => if ds.length = n then F ns ds else .bad
theorem d_fnS {k kx n i : Nat} {F : List Int → List D → R D} {y : Str} {es : List Expr} {fs : Ev → R (List D)} {x : Str} {p p1 pos : Pos} (hK : Z.K = X.K) (G : KnS X.prog X.w X.K X.mg X.base Z.cl k x n F) (hr : Room kx X.A) (hk : k ≤ kx) (hg : Gl X x) (hx : Passes (L2.CX X.prog X.w) X Z.E) (ha : PA X es (tDs Z fs))
    (hv : PE X (.Name y p1) (tVar i))
    (hdb : (x == ("__debug__" : Str)) = false := by decide) (he : starEach (.Name y p1 :: es) X.env = (false, eval (.Name y p1) X.env) :: starEach es X.env := by rfl) (hpl : (backTo pos (starEach es X.env)).any (·.1) = false := by rfl) : PE X (.Call (.Name x p) (.Name y p1 :: es) [] pos) (tD Z (eFnS i n F fs)) := by
  obtain ⟨f, fd, ps, _, F', hm, kp, hb⟩ := G.ex
  refine pe_weak (pe_call F' (hr.mono hk) hg hm kp hb .nil hx (pa_cons hv ha he) hdb he hpl) fun σ H Q h => ?_
  obtain ⟨O, ρ, hp, h⟩ := h
  obtain ⟨a, ns, h1, h2, h3⟩ := scrAt_get hp h
  refine ⟨.ref a, h1, O, ρ, hp, Pst.bind' h3 fun ds xs H1 _ s1 r1 k1 => ?_⟩
  by_cases e : ds.length = n
  · rw [if_pos e] at k1
    have r1' : RpL (hide O H1) xs ds := r1
    have e2 : ((V.ref a :: xs) ++ ([] : List V)) = V.ref a :: xs := List.append_nil _
    rw [hK] at h2
    exact ⟨by rw [e2, List.length_cons, r1'.length, e], O, a, xs, ns, ds, e2, (hp.mono s1).dom, (hide_mono s1).seq h2, r1', k1⟩
  · rw [if_neg e] at k1; exact k1.elim
def startS (N : Nat) (ns : List Int) (ds : List D) : Ev := some (Sl.scr ns) :: startE (N - 1) ds
def runS (N : Nat) (g : Sm) (ns : List Int) (ds : List D) : R D := match g (startS N ns ds) with
  | .ok (.ret d, _) => .ok d
  | .ok (.retF d, _) => .ok d
  | .ok (.nx, _) => .ok .none
  | .ok _ => .bad
  | .exc c => .exc c
  | .bad => .bad
theorem def_okS {P : Program} {w : World} {K : PySem.W.Frag} {mg : Str → Option Value} {base : Heap} {cl : Nat → Addr} {xn qual : Str} {params : Arguments} {body : List Stmt} {scope : Scope} {f : Addr} {fd : FuncData} {N ps : List Str} {k n : Nat} {g : Sm} (hn : ps.length = n + 1)
    (F : FunD K xn qual params body scope [] [] f fd) (S : FnScope N ps scope)
    (hb : ∀ (cdv : Value) (A : Around) (outer : List Env) (s : Shared) (H : Hp) (E : XK), Room k (A.deeper (envOfC qual scope s.heap.objs.size f cdv)) → PSs (cxOf (L2.CX P w) P w K mg base N qual scope f cdv A outer s H E) body (tS ⟨K, E, cl⟩ g)) :
    FnOk P w K mg base (L2.CX P w) (k + 1) f fd ps (spS K cl n (runS N.length g)) := by
  refine F.ok S (fun vs H Q E h => h.1.trans hn.symm) fun cdv A outer s H vs Q E hr h => ⟨_, hb cdv A outer s H E hr, ?_⟩
  obtain ⟨hlen, O, a, ws, ns, ds, rfl, hO, hs, r, q⟩ := h
  have hl := r.length
  have e := start_ev (K := K) r (N.length - 1 - ds.length)
  refine ⟨O, H, startS N.length ns ds, ⟨[], ?_⟩, ?_⟩
  · have hst : L2.start N (V.ref a :: ws) = some (V.ref a) :: (ws.map some ++ List.replicate (N.length - 1 - ds.length) none) := by
      unfold L2.start
      have z : N.length - (V.ref a :: ws).length = N.length - 1 - ds.length := by rw [List.length_cons, hl]; omega
      rw [z] <;> rfl
    rw [hst]
    refine ⟨by rw [List.map_nil, hide_nil]; exact Same.refl _, ⟨?_, hO, ⟨fun i d ei => ?_, fun i ms ei => ?_⟩⟩, fun i j p h => (by cases h), fun i p h => (by cases h), fun i es ei w => ?_, fun i p h => (by cases h), fun i es ei => ?_⟩
    · unfold startS startE
      simp only [List.length_cons, List.length_append, List.length_map, List.length_replicate, hl]
    · cases i with
      | zero => cases ei
      | succ i => exact e.fr i d (by simpa [startS, startE] using ei)
    · cases i with
      | zero =>
        have ei' : some (some (Sl.scr ns)) = some (some (Sl.scr ms)) := ei
        cases ei'
        exact ⟨a, rfl, hs⟩
      | succ i => exact e.sc i ms (by simpa [startS, startE] using ei)
    · exfalso
      cases i with
      | zero => cases ei; cases w
      | succ i => exact startE_noOw (by simpa [startS] using ei) w
    · exfalso
      cases i with
      | zero => cases ei
      | succ i => exact startE_noOd (by simpa [startS] using ei)
  · unfold runS at q
    match hg : g (startS N.length ns ds), q with
    | .ok (.nx, ρ), q => exact fun σ' H' s' => q .non H' (by obtain ⟨W, s'⟩ := s'; exact s'.base) .non
    | .ok (.bk, ρ), q => exact q.elim
    | .ok (.ct, ρ), q => exact q.elim
    | .ok (.ret d, ρ), q => exact fun v H' s' rv => q v H' s' rv
    | .ok (.retF d, ρ), q => exact fun v H' s' rv => q v H' s' (DFr.rp2 hO s' rv)
    | .exc c, q => exact q
    | .bad, q => exact q.elim
end
end RL

set_option Elab.async false
set_option linter.all false
set_option maxRecDepth 100000
set_option maxHeartbeats 1000000
/-! # The D-layer: trees in slots -/
namespace RL
open PySem PySem.Spec PyProof.Rows L2

theorem set_same {α : Type} {l : List α} {i : Nat} {x : α} (h : l[i]? = some x) : l.set i x = l := by
  obtain ⟨h1, h2⟩ := List.getElem?_eq_some_iff.mp h
  apply List.ext_getElem?
  intro j
  by_cases c : i = j
  · subst c
    rw [List.getElem?_set_self h1, h]
  · rw [List.getElem?_set_ne c]
theorem in_pairs {i j : Nat} {q : Addr} {qs : List Addr} : (j, q) ∈ qs.map (fun p => (i, p)) ↔ j = i ∧ q ∈ qs := by
  constructor
  · intro h
    obtain ⟨p, hp, e⟩ := List.mem_map.mp h
    cases e
    exact ⟨rfl, hp⟩
  · rintro ⟨rfl, h⟩
    exact List.mem_map.mpr ⟨q, h, rfl⟩
/-- slot i comes to hold a tree: of what it owned the lists at ps may have changed, the lists at qs are new -/
theorem StOk0.putOd {K : PySem.W.Frag} {O : List Addr} {B : Hp} {σ : L2.St} {H H' : Hp} {ρ : Ev} {W : List (Nat × Addr)} (s : StOk0 K O B σ H ρ W) {i : Nat} {v : V} {d : D} {ps qs ts : List Addr}
    (kp : ∀ a o, H a = some o → a ∉ ps → H' a = some o) (hp : ∀ p ∈ ps, (i, p) ∈ W ∧ ∃ xs, H' p = some (.lst xs)) (hq : ∀ q ∈ qs, H q = none ∧ ∃ xs, H' q = some (.lst xs))
    (t : Tr (hide ((qs.map (fun p => (i, p)) ++ W).map (·.2) ++ O) H') H' v d ts) (nd : ts.Nodup) (ht : ∀ p ∈ ts, p ∈ qs ∨ (i, p) ∈ W) :
    StOk0 K O B (σ.set i (some v)) H' (ρ.set i (some (Sl.od d))) (qs.map (fun p => (i, p)) ++ W) := by
  have inW : ∀ {p}, p ∈ ps → p ∈ W.map (·.2) := fun {p} h => List.mem_map.mpr ⟨_, (hp p h).1, rfl⟩
  have qO : ∀ {q}, q ∈ qs → q ∉ W.map (·.2) ++ O := fun {q} h z => s.pre.dom q z (hq q h).1
  have addr : ∀ {a}, a ∈ (qs.map (fun p => (i, p)) ++ W).map (·.2) → a ∈ qs ∨ a ∈ W.map (·.2) := fun {a} h => by
    rw [List.map_append] at h
    rcases List.mem_append.mp h with z | z
    · obtain ⟨⟨j, q⟩, h1, h2⟩ := List.mem_map.mp z
      have e : q = a := h2
      subst e
      exact .inl (in_pairs.mp h1).2
    · exact .inr z
  have see : Same (hide (W.map (·.2) ++ O) H) (hide ((qs.map (fun p => (i, p)) ++ W).map (·.2) ++ O) H') := fun a o h => by
    obtain ⟨h1, h2⟩ := hide_some h
    rw [hide_out (fun z => ?_)]
    · exact kp a o h2 (fun z => h1 (List.mem_append_left _ (inW z)))
    · rcases List.mem_append.mp z with z | z
      · rcases addr z with z | z
        · have := (hq a z).1
          rw [h2] at this; cases this
        · exact h1 (List.mem_append_left _ z)
      · exact h1 (List.mem_append_right _ z)
  have keepL : ∀ {j p}, j ≠ i → (j, p) ∈ W → ∀ o, H p = some o → H' p = some o := fun {j p} hj h o e => kp p o e fun z => hj (s.one _ _ _ h (hp p z).1)
  refine ⟨fun a o h => ?_, ⟨by rw [List.length_set, List.length_set]; exact s.pre.len, fun a ha z => ?_, fun j e ej => ?_, fun j ns ej => ?_⟩, fun j k q a b => ?_, fun j q a => ?_, fun j es ej w => ?_, fun j q a => ?_, fun j es ej => ?_⟩
  · obtain ⟨h1, h2⟩ := hide_some (s.keep a o h)
    rw [hide_out (fun z => ?_)]
    · exact kp a o h2 (fun z => h1 (inW z))
    · rcases addr z with z | z
      · have := (hq a z).1
        rw [h2] at this; cases this
      · exact h1 z
  · rcases List.mem_append.mp ha with q | q
    · rcases addr q with q | q
      · obtain ⟨xs, hx⟩ := (hq a q).2
        rw [hx] at z; cases z
      · by_cases c : a ∈ ps
        · obtain ⟨xs, hx⟩ := (hp a c).2
          rw [hx] at z; cases z
        · cases e : H a with
          | none => exact s.pre.dom a (List.mem_append_left _ q) e
          | some o => rw [kp a o e c] at z; cases z
    · cases e : H a with
      | none => exact s.pre.dom a (List.mem_append_right _ q) e
      | some o =>
        rw [kp a o e (fun w => s.apart i a (hp a w).1 q)] at z
        cases z
  · rw [List.getElem?_set] at ej
    by_cases c : i = j
    · subst c
      simp only [if_true] at ej
      split at ej <;> cases ej
    · rw [if_neg c] at ej
      obtain ⟨w, h1, h2⟩ := s.pre.ev.fr j e ej
      exact ⟨w, by rw [List.getElem?_set_ne c]; exact h1, h2.mono see⟩
  · rw [List.getElem?_set] at ej
    by_cases c : i = j
    · subst c
      simp only [if_true] at ej
      split at ej <;> cases ej
    · rw [if_neg c] at ej
      obtain ⟨a, h1, h2⟩ := s.pre.ev.sc j ns ej
      exact ⟨a, by rw [List.getElem?_set_ne c]; exact h1, L2.Same.seq see h2⟩
  · rcases List.mem_append.mp a with a | a <;> rcases List.mem_append.mp b with b | b
    · rw [(in_pairs.mp a).1, (in_pairs.mp b).1]
    · exact absurd (List.mem_append_left _ (List.mem_map.mpr ⟨_, b, rfl⟩)) (qO (in_pairs.mp a).2)
    · exact absurd (List.mem_append_left _ (List.mem_map.mpr ⟨_, a, rfl⟩)) (qO (in_pairs.mp b).2)
    · exact s.one j k q a b
  · rcases List.mem_append.mp a with a | a
    · exact fun z => qO (in_pairs.mp a).2 (List.mem_append_right _ z)
    · exact s.apart j q a
  · rw [List.getElem?_set] at ej
    by_cases c : i = j
    · subst c
      simp only [if_true] at ej
      split at ej <;> cases ej
      cases w
    · rw [if_neg c] at ej
      obtain ⟨p, ws, h1, h2, h3, h4⟩ := s.own j es ej w
      exact ⟨p, ws, List.mem_append_right _ h1, by rw [List.getElem?_set_ne c]; exact h2, keepL (Ne.symm c) h1 _ h3, h4.mono see⟩
  · rcases List.mem_append.mp a with a | a
    · obtain ⟨xs, hx⟩ := (hq q (in_pairs.mp a).2).2
      exact ⟨_, hx, noTup_lst _⟩
    · by_cases c : q ∈ ps
      · obtain ⟨xs, hx⟩ := (hp q c).2
        exact ⟨_, hx, noTup_lst _⟩
      · obtain ⟨xs, hx, n⟩ := s.lists j q a
        exact ⟨xs, kp q _ hx c, n⟩
  · rw [List.getElem?_set] at ej
    by_cases c : i = j
    · subst c
      simp only [if_true] at ej
      split at ej
      · rename_i hl
        cases ej
        refine ⟨v, ts, by rw [List.getElem?_set_self (by rw [s.pre.len]; exact hl)], t, nd, fun p h => ?_⟩
        rcases ht p h with z | z
        · exact List.mem_append_left _ (in_pairs.mpr ⟨rfl, z⟩)
        · exact List.mem_append_right _ z
      · cases ej
    · rw [if_neg c] at ej
      obtain ⟨w, us, h1, h2, h3, h4⟩ := s.tree j es ej
      exact ⟨w, us, by rw [List.getElem?_set_ne c]; exact h1, h2.stay (fun a xs h => see _ _ h) (fun p hpp xs h => keepL (Ne.symm c) (h4 p hpp) _ h), h3, fun p h => List.mem_append_right _ (h4 p h)⟩

/-! ### defs that give new trees -/
def spDF (K : PySem.W.Frag) (cl : Nat → Addr) (n : Nat) (F : List D → R D) : Sp := fun vs H Q E => vs.length = n ∧ ∃ O ds, (∀ p ∈ O, H p ≠ none) ∧ RpL (hide O H) vs ds ∧ PstF ⟨K, E, cl⟩ O H (F ds) Q
structure KnF (P : Program) (w : World) (K : PySem.W.Frag) (mg : Str → Option Value) (base : Heap) (cl : Nat → Addr) (k : Nat) (x : Str) (n : Nat) (F : List D → R D) : Prop where
  ex : ∃ f fd ps, ps.length = n ∧ FnOk P w K mg base (L2.CX P w) k f fd ps (spDF K cl n F) ∧ mg x = some (.ref f) ∧ PySem.W.keepIn K (.ref f) = true ∧ Binds K fd ps []
theorem KnF.kn {P : Program} {w : World} {K : PySem.W.Frag} {mg : Str → Option Value} {base : Heap} {cl : Nat → Addr} {k : Nat} {x : Str} {n : Nat} {F : List D → R D} (G : KnF P w K mg base cl k x n F) : Kn P w K mg base cl k x n F := by
  obtain ⟨f, fd, ps, h1, h2, h3⟩ := G.ex
  refine ⟨f, fd, ps, h1, h2.imp fun vs H Q E h => ?_, h3⟩
  obtain ⟨a, O, ds, b, c, q⟩ := h
  refine ⟨a, O, ds, b, c, ?_⟩
  cases e : F ds with
  | ok d =>
    rw [e] at q
    exact fun v H' s r => q v H' s (r.rp b)
  | exc c => rw [e] at q; exact q
  | bad => rw [e] at q; exact q.elim
section
variable {X : Cx} {Z : Zx} {st : Stmt} {rest : List Stmt} {g h : Sm} {pos : Pos} {e a b : Expr} {es : List Expr} {f fe : Ev → R D} {x : Str}
theorem df_fn {k kx n : Nat} {F : List D → R D} {fs : Ev → R (List D)} {p : Pos} (G : KnF X.prog X.w X.K X.mg X.base Z.cl k x n F) (hr : Room kx X.A) (hk : k ≤ kx) (hg : Gl X x) (hx : Passes (L2.CX X.prog X.w) X Z.E) (ha : PA X (a :: es) (tDs Z fs))
    (hdb : (x == ("__debug__" : Str)) = false := by decide) (he : starEach (a :: es) X.env = (false, eval a X.env) :: starEach es X.env := by rfl) (hpl : (backTo pos (starEach es X.env)).any (·.1) = false := by rfl) : PE X (.Call (.Name x p) (a :: es) [] pos) (tF Z (eFn n F fs)) := by
  obtain ⟨f, fd, ps, _, F', hm, kp, hb⟩ := G.ex
  refine pe_weak (pe_call F' (hr.mono hk) hg hm kp hb .nil hx ha hdb he hpl) fun σ H Q h => ?_
  obtain ⟨O, ρ, hp, h⟩ := h
  refine ⟨O, ρ, hp, PstF.bind h fun ds xs H1 _ s1 h1 k1 => ?_⟩
  by_cases e : ds.length = n
  · rw [if_pos e] at k1
    have h1' : RpL (hide O H1) xs ds := h1
    exact ⟨by rw [List.append_nil, h1'.length]; exact e, O, ds, (hp.mono s1).dom, by rw [List.append_nil]; exact h1, k1⟩
  · rw [if_neg e] at k1; exact k1.elim
/-- every way out gives a new tree -/
def allF : R (Fl × Ev) → R (Fl × Ev)
  | .ok (.ret _, _) => .bad
  | .ok (.nx, _) => .bad
  | r => r
def runF (N : Nat) (g : Sm) (ds : List D) : R D := match g (startE N ds) with
  | .ok (.retF d, _) => .ok d
  | .ok _ => .bad
  | .exc c => .exc c
  | .bad => .bad
theorem def_okF {P : Program} {w : World} {K : PySem.W.Frag} {mg : Str → Option Value} {base : Heap} {cl : Nat → Addr} {xn qual : Str} {params : Arguments} {body : List Stmt} {scope : Scope} {f : Addr} {fd : FuncData} {N ps : List Str} {k : Nat} {g : Sm}
    (F : FunD K xn qual params body scope [] [] f fd) (S : FnScope N ps scope)
    (hb : ∀ (cdv : Value) (A : Around) (outer : List Env) (s : Shared) (H : Hp) (E : XK), Room k (A.deeper (envOfC qual scope s.heap.objs.size f cdv)) → PSs (cxOf (L2.CX P w) P w K mg base N qual scope f cdv A outer s H E) body (tS ⟨K, E, cl⟩ g)) :
    FnOk P w K mg base (L2.CX P w) (k + 1) f fd ps (spDF K cl ps.length (runF N.length g)) := by
  refine F.ok S (fun vs H Q E h => h.1) fun cdv A outer s H vs Q E hr h => ⟨_, hb cdv A outer s H E hr, ?_⟩
  obtain ⟨hlen, O, ds, hO, r, q⟩ := h
  have hl := r.length
  refine ⟨O, H, startE N.length ds, ⟨[], ?_⟩, ?_⟩
  · have hs : L2.start N vs = vs.map some ++ List.replicate (N.length - ds.length) none := by unfold L2.start; rw [hl]
    rw [hs]
    refine ⟨by rw [List.map_nil, hide_nil]; exact Same.refl _, ⟨?_, hO, start_ev r _⟩, fun i j p h => (by cases h), fun i p h => (by cases h), fun i x e w => (startE_noOw e w).elim, fun i p h => (by cases h), fun i es e => absurd e startE_noOd⟩
    unfold startE
    simp only [List.length_append, List.length_map, List.length_replicate, hl]
  · unfold runF at q
    match hg : g (startE N.length ds), q with
    | .ok (.nx, ρ), q => exact q.elim
    | .ok (.bk, ρ), q => exact q.elim
    | .ok (.ct, ρ), q => exact q.elim
    | .ok (.ret d, ρ), q => exact q.elim
    | .ok (.retF d, ρ), q => exact fun v H' s' rv => q v H' s' rv
    | .exc c, q => exact q
    | .bad, q => exact q.elim

/-! ### statements over trees -/
/-- a new tree's reading, with the state ahead of it -/
theorem st_evalF {fe : Ev → R D} {k : D → R (Fl × Ev)} {E : Ends} {O : List Addr} {B : Hp} {σ : L2.St} {H : Hp} {ρ : Ev} {Q : VK} {Ws : List (Nat × Addr)} (s : StOk0 Z.K O B σ H ρ Ws) (f : Fin Z O B E (fe ρ >>= k))
    (hk : ∀ d w H1, fe ρ = .ok d → Same H H1 → DFr H (hide (Ws.map (·.2) ++ O) H1) H1 w d → Fin Z O B E (k d) → Q w H1) : tF Z fe σ H Q := by
  refine ⟨_, ρ, s.toPre, ?_⟩
  cases e : fe ρ with
  | ok d =>
    rw [e] at f
    exact fun w H' sm r => hk d w H' e sm r f
  | exc c =>
    rw [e] at f
    exact fun H' sm => f H' (s.base.trans sm)
  | bad => rw [e] at f; exact f.elim
/-- x = e, a new tree of the slot's own -/
def sTree (i : Nat) (fe : Ev → R D) : Sm := fun ρ => fe ρ >>= fun d => .ok (.nx, ρ.set i (some (Sl.od d)))
theorem StOk0.treeNew {K : PySem.W.Frag} {O : List Addr} {B : Hp} {σ : L2.St} {H H1 : Hp} {ρ : Ev} {W : List (Nat × Addr)} (s : StOk0 K O B σ H ρ W) {i : Nat} {v : V} {d : D} (sm : Same H H1) (r : DFr H (hide (W.map (·.2) ++ O) H1) H1 v d) :
    ∃ W', StOk0 K O B (σ.set i (some v)) H1 (ρ.set i (some (Sl.od d))) W' := by
  obtain ⟨ts, t, nd, hn⟩ := r
  refine ⟨_, s.putOd (ps := []) (qs := ts) (ts := ts) (fun a o h _ => sm _ _ h) (fun p hp => by cases hp) (fun q hq => ⟨hn q hq, t.lists q hq⟩) (t.stay (fun a xs h => ?_) fun _ _ _ h => h) nd fun p hp => .inl hp⟩
  obtain ⟨h1, h2⟩ := hide_some h
  rw [hide_out (fun z => ?_)]
  · exact h2
  · rw [List.map_append, List.append_assoc] at z
    rcases List.mem_append.mp z with z | z
    · obtain ⟨⟨j, q⟩, k1, k2⟩ := List.mem_map.mp z
      have e : q = a := k2
      subst e
      obtain ⟨ys, hy⟩ := t.lists q (in_pairs.mp k1).2
      rw [hy] at h2; cases h2
    · exact h1 z
theorem ds_tree {i : Nat} {pos' : Pos} (hN : X.N.Nodup) (hi : X.N[i]? = some x) (hx : Loc X.env.scope x) (he : PE X e (tF Z fe)) (hs : swapsWith e (some (.Name x pos')) pos.line X.env = pure false := by rfl) (hf : X.fn x = true ∨ X.env.scope.names.lookup x = some .local := by first | exact .inl rfl | exact .inr rfl) :
    PS X (.Assign [.Name x pos'] e pos) (tS Z (sTree i fe)) := ps_weak (ps_set hN hi hx he hs hf) fun E σ H h => by
  obtain ⟨O, B, ρ, ⟨W, s⟩, f⟩ := h
  refine st_evalF s f fun d w H1 e sm r f1 => f1 _ H1 (s.treeNew sm r)
/-- return a new tree -/
def sRetF (fe : Ev → R D) : Sm := fun ρ => fe ρ >>= fun d => .ok (.retF d, ρ)
theorem ds_retF (he : PE X e (tF Z fe)) : PS X (.Return (some e) pos) (tS Z (sRetF fe)) := ps_weak (ps_ret he) fun E σ H h => by
  obtain ⟨O, B, ρ, ⟨W, s⟩, f⟩ := h
  refine st_evalF s f fun d w H1 e sm r f1 => ?_
  refine f1 w H1 (s.base.trans sm) ((r.less s.base).up (fun a o q => ?_) (Same.refl _))
  rw [hide_app] at q
  exact hide_mono (hide_le _ _) a o q
/-- return the slot's tree, or its list of flat things -/
def sRetOd (i : Nat) : Sm := fun ρ => match ρ[i]? with
  | some (some (.od d)) => .ok (.retF d, ρ)
  | some (some (.ol ds)) => if noLs ds then .ok (.retF (.list ds), ρ) else .bad
  | _ => .bad
theorem StOk0.noB {K : PySem.W.Frag} {O : List Addr} {B : Hp} {σ : L2.St} {H : Hp} {ρ : Ev} {W : List (Nat × Addr)} (s : StOk0 K O B σ H ρ W) {i : Nat} {p : Addr} (h : (i, p) ∈ W) : B p = none := by
  cases e : B p with
  | none => rfl
  | some o =>
    exact absurd (List.mem_map.mpr ⟨(i, p), h, rfl⟩) (hide_some (s.keep p o e)).1
theorem ds_retOd {i : Nat} {p1 : Pos} (hv : PE X (.Name x p1) (tVar i)) : PS X (.Return (some (.Name x p1)) pos) (tS Z (sRetOd i)) := ps_weak (ps_ret hv) fun E σ H h => by
  obtain ⟨O, B, ρ, ⟨W, s⟩, f⟩ := h
  have unh : Same (hide (W.map (·.2) ++ O) H) (hide O H) := fun a o q => by
    rw [hide_app] at q
    exact hide_mono (hide_le _ _) a o q
  unfold sRetOd at f
  split at f
  · rename_i d e
    obtain ⟨v, ps, h1, h2, h3, h4⟩ := s.tree i d e
    exact ⟨v, h1, f v H s.base ⟨ps, h2.mono unh (Same.refl _), h3, fun p hp => s.noB (h4 p hp)⟩⟩
  · rename_i ds e
    obtain ⟨p, vs, h1, h2, h3, h4⟩ := s.ol e
    split at f
    · rename_i n
      refine ⟨.ref p, h2, f _ H s.base ⟨[p], .lst h3 (TrL.flat (h4.mono unh) n), by simp, fun q hq => ?_⟩⟩
      rw [List.mem_singleton.mp hq]
      exact s.noB h1
    · exact f.elim
  · exact f.elim
end
end RL

set_option Elab.async false
set_option linter.all false
set_option maxRecDepth 100000
set_option maxHeartbeats 1000000
/-! # The D-layer: what is owned is lent; trees are changed -/
namespace RL
open PySem PySem.Spec PyProof.Rows L2

section
variable {X : Cx} {Z : Zx} {st : Stmt} {rest : List Stmt} {g h : Sm} {pos : Pos} {e a b : Expr} {es : List Expr} {f fe : Ev → R D} {x : Str}
/-- tuples that are seen are seen behind what is owned -/
theorem StOk0.tupUp {K : PySem.W.Frag} {O : List Addr} {B : Hp} {σ : L2.St} {H H1 : Hp} {ρ : Ev} {W : List (Nat × Addr)} (s : StOk0 K O B σ H ρ W) (sm : Same H H1) {W' : List (Nat × Addr)} :
    ∀ a xs, hide (W'.map (·.2) ++ O) H1 a = some (.tup xs) → hide (W.map (·.2) ++ O) H1 a = some (.tup xs) := fun a xs q => by
  obtain ⟨q1, q2⟩ := hide_some q
  rw [hide_out (fun z => ?_)]
  · exact q2
  · rcases List.mem_append.mp z with z | z
    · obtain ⟨⟨j, p⟩, hp, e⟩ := List.mem_map.mp z
      have e : p = a := e
      subst e
      obtain ⟨o, ho, n⟩ := s.lists j p hp
      rw [sm _ _ ho] at q2
      cases q2
      exact n xs rfl
    · exact q1 (List.mem_append_right _ z)
/-- a reading of what is lent -/
theorem st_lend {α W : Type} {rel : Hp → W → α → Prop} {fe : Ev → R α} {k : α → R (Fl × Ev)} {E : Ends} {O : List Addr} {B : Hp} {σ : L2.St} {H : Hp} {ρ : Ev} {Q : W → Hp → Prop} {Ws : List (Nat × Addr)} (is : List Nat) (s : StOk0 Z.K O B σ H ρ Ws) (f : Fin Z O B E (fe (frz ρ is) >>= k))
    (hk : ∀ a w H1 (W' : List (Nat × Addr)), fe (frz ρ is) = .ok a → Same H H1 → rel (hide (W'.map (·.2) ++ O) H1) w a → Fin Z O B E (k a) → Q w H1) : tG rel Z fe σ H Q := by
  obtain ⟨W', s'⟩ := StOk.frz is ⟨Ws, s⟩
  exact st_eval s' f fun a w H1 e sm r _ f1 => hk a w H1 W' e sm r f1
theorem st_lendF {fe : Ev → R D} {k : D → R (Fl × Ev)} {E : Ends} {O : List Addr} {B : Hp} {σ : L2.St} {H : Hp} {ρ : Ev} {Q : VK} {Ws : List (Nat × Addr)} (is : List Nat) (s : StOk0 Z.K O B σ H ρ Ws) (f : Fin Z O B E (fe (frz ρ is) >>= k))
    (hk : ∀ d w H1 (W' : List (Nat × Addr)), fe (frz ρ is) = .ok d → Same H H1 → DFr H (hide (W'.map (·.2) ++ O) H1) H1 w d → Fin Z O B E (k d) → Q w H1) : tF Z fe σ H Q := by
  obtain ⟨W', s'⟩ := StOk.frz is ⟨Ws, s⟩
  exact st_evalF s' f fun a w H1 e sm r f1 => hk a w H1 W' e sm r f1
def sIfB (is : List Nat) (c : Ev → R Bool) (g h : Sm) : Sm := fun ρ => c (frz ρ is) >>= fun k => if k then g ρ else h ρ
theorem ds_ifB {t : Expr} {a b : List Stmt} {c : Ev → R Bool} (is : List Nat) (hc : PT X t (tB' Z c)) (ha : PSs X a (tS Z g)) (hb : PSs X b (tS Z h)) : PS X (.If t a b pos) (tS Z (sIfB is c g h)) := ps_weak (ps_if hc ha hb) fun E σ H hh => by
  obtain ⟨O, B, ρ, ⟨W, s⟩, f⟩ := hh
  refine st_lend is s f fun k w H1 W' e sm r f1 => ?_
  have r' : w = k := r
  subst r'
  cases w with
  | true => exact iteT ⟨O, B, ρ, ⟨W, s.up sm⟩, by simpa using f1⟩
  | false => exact iteF ⟨O, B, ρ, ⟨W, s.up sm⟩, by simpa using f1⟩
/-- x = e, flat; what is lent stays -/
def sSetB (i : Nat) (is : List Nat) (fe : Ev → R D) : Sm := fun ρ => fe (frz ρ is) >>= fun d => if noL d then .ok (.nx, ρ.set i (some (Sl.fr d))) else .bad
theorem ds_setB {i : Nat} {pos' : Pos} (is : List Nat) (hN : X.N.Nodup) (hi : X.N[i]? = some x) (hx : Loc X.env.scope x) (he : PE X e (tD Z fe)) (hs : swapsWith e (some (.Name x pos')) pos.line X.env = pure false := by rfl) (hf : X.fn x = true ∨ X.env.scope.names.lookup x = some .local := by first | exact .inl rfl | exact .inr rfl) :
    PS X (.Assign [.Name x pos'] e pos) (tS Z (sSetB i is fe)) := ps_weak (ps_set hN hi hx he hs hf) fun E σ H h => by
  obtain ⟨O, B, ρ, ⟨W, s⟩, f⟩ := h
  refine st_lend is s f fun d w H1 W' e sm r f1 => ?_
  by_cases n : noL d = true
  · rw [if_pos n] at f1
    exact f1 _ H1 ⟨W, (s.up sm).setFr (r.stay (s.tupUp sm) n)⟩
  · rw [if_neg n] at f1; exact f1.elim
theorem StOk0.freshRp {K : PySem.W.Frag} {O : List Addr} {B : Hp} {σ : L2.St} {H H1 : Hp} {ρ : Ev} {W W' : List (Nat × Addr)} (s : StOk0 K O B σ H ρ W) (sm : Same H H1) {w : V} {d : D} (r : DFr H (hide (W'.map (·.2) ++ O) H1) H1 w d) : DFr H (hide (W.map (·.2) ++ O) H1) H1 w d := by
  obtain ⟨ps, t, n, hn⟩ := r
  exact ⟨ps, t.stay (s.tupUp sm) (fun _ _ _ h => h), n, hn⟩
/-- x = e, new; what is lent stays; x itself is data -/
def sSetF (i : Nat) (is : List Nat) (fe : Ev → R D) : Sm := fun ρ => fe (frz ρ is) >>= fun d => .ok (.nx, ρ.set i (some (Sl.fr d)))
theorem ds_setF {i : Nat} {pos' : Pos} (is : List Nat) (hN : X.N.Nodup) (hi : X.N[i]? = some x) (hx : Loc X.env.scope x) (he : PE X e (tF Z fe)) (hs : swapsWith e (some (.Name x pos')) pos.line X.env = pure false := by rfl) (hf : X.fn x = true ∨ X.env.scope.names.lookup x = some .local := by first | exact .inl rfl | exact .inr rfl) :
    PS X (.Assign [.Name x pos'] e pos) (tS Z (sSetF i is fe)) := ps_weak (ps_set hN hi hx he hs hf) fun E σ H h => by
  obtain ⟨O, B, ρ, ⟨W, s⟩, f⟩ := h
  refine st_lendF is s f fun d w H1 W' e sm r f1 => ?_
  exact f1 _ H1 ⟨W, (s.up sm).setFr ((s.freshRp sm r).rp s.pre.dom)⟩
/-- x = e, a new tree; what is lent stays -/
def sTreeB (i : Nat) (is : List Nat) (fe : Ev → R D) : Sm := fun ρ => fe (frz ρ is) >>= fun d => .ok (.nx, ρ.set i (some (Sl.od d)))
theorem ds_treeB {i : Nat} {pos' : Pos} (is : List Nat) (hN : X.N.Nodup) (hi : X.N[i]? = some x) (hx : Loc X.env.scope x) (he : PE X e (tF Z fe)) (hs : swapsWith e (some (.Name x pos')) pos.line X.env = pure false := by rfl) (hf : X.fn x = true ∨ X.env.scope.names.lookup x = some .local := by first | exact .inl rfl | exact .inr rfl) :
    PS X (.Assign [.Name x pos'] e pos) (tS Z (sTreeB i is fe)) := ps_weak (ps_set hN hi hx he hs hf) fun E σ H h => by
  obtain ⟨O, B, ρ, ⟨W, s⟩, f⟩ := h
  refine st_lendF is s f fun d w H1 W' e sm r f1 => ?_
  exact f1 _ H1 (s.treeNew sm (s.freshRp sm r))
/-- x = [], a tree -/
def sNewT (i : Nat) : Sm := fun ρ => .ok (.nx, ρ.set i (some (Sl.od (.list []))))
theorem ds_newT {i : Nat} {pos' lp : Pos} (hN : X.N.Nodup) (hi : X.N[i]? = some x) (hx : Loc X.env.scope x) (hs : swapsWith (.List [] lp) (some (.Name x pos')) pos.line X.env = pure false := by rfl) (hf : X.fn x = true ∨ X.env.scope.names.lookup x = some .local := by first | exact .inl rfl | exact .inr rfl) :
    PS X (.Assign [.Name x pos'] (.List [] lp) pos) (tS Z (sNewT i)) := ps_weak (ps_set hN hi hx (pe_lst pa_nil) hs hf) fun E σ H h => by
  obtain ⟨O, B, ρ, ⟨W, s⟩, f⟩ := h
  refine ⟨Nat.zero_le _, fun p np => f _ _ (s.treeNew (same_new np) ⟨[p], .lst upd_same .nil, by simp, fun q hq => ?_⟩)⟩
  rw [List.mem_singleton.mp hq]
  exact np

/-! ### a tree's parts -/
theorem Tr.inv {M H : Hp} {v : V} {ds : List D} {ps : List Addr} (t : Tr M H v (.list ds) ps) : ∃ a vs qs, v = .ref a ∧ H a = some (.lst vs) ∧ TrL M H vs ds qs ∧ ps = a :: qs := by
  cases t with
  | leaf n r => simp [noL] at n
  | lst e r => exact ⟨_, _, _, rfl, e, r, rfl⟩
theorem TrL.at {M H : Hp} : ∀ {vs : List V} {ds : List D} {qs : List Addr} {k : Nat} {d : D}, TrL M H vs ds qs → ds[k]? = some d → ∃ v p1 p2 p3, vs[k]? = some v ∧ qs = p1 ++ (p2 ++ p3) ∧ Tr M H v d p2 ∧
    ∀ (M' H' : Hp) (v' : V) (d' : D) (p2' : List Addr), (∀ a xs, M a = some (.tup xs) → M' a = some (.tup xs)) → (∀ p ∈ p1 ++ p3, ∀ xs, H p = some (.lst xs) → H' p = some (.lst xs)) → Tr M' H' v' d' p2' → TrL M' H' (vs.set k v') (ds.set k d') (p1 ++ (p2' ++ p3))
  | _, _, _, _, _, .nil, e => by simp at e
  | _, _, _, 0, d, .cons (ps := ps) (qs := qs) q r, e => by
    simp at e
    subst e
    refine ⟨_, [], ps, qs, rfl, rfl, q, fun M' H' v' d' p2' m k t => ?_⟩
    have z := TrL.cons t (r.stay m fun p hp => k p (by simpa using hp))
    exact z
  | _, _, _, j + 1, d, .cons (ps := ps) (qs := qs) q r, e => by
    obtain ⟨v, p1, p2, p3, h1, h2, h3, h4⟩ := TrL.at (k := j) r (by simpa using e)
    refine ⟨v, ps ++ p1, p2, p3, by simpa using h1, by rw [h2, List.append_assoc], h3, fun M' H' v' d' p2' m k t => ?_⟩
    rw [List.append_assoc]
    refine .cons (q.stay m fun p hp => k p (List.mem_append_left _ (List.mem_append_left _ hp))) (h4 M' H' v' d' p2' m (fun p hp => k p ?_) t)
    rcases List.mem_append.mp hp with z | z
    · exact List.mem_append_left _ (List.mem_append_right _ z)
    · exact List.mem_append_right _ z
/-- e is told to the tree's list -/
def sOdAp (i : Nat) (is : List Nat) (fe : Ev → R D) : Sm := fun ρ => match ρ[i]? with
  | some (some (.od (.list ds))) => fe (frz ρ is) >>= fun d => if ds.length < lim then .ok (.nx, ρ.set i (some (Sl.od (.list (ds ++ [d]))))) else .bad
  | _ => .bad
/-- the slot that holds a tree of a list -/
theorem od_get {ρ : Ev} {i : Nat} {k : List D → R (Fl × Ev)} {O : List Addr} {B : Hp} {E : Ends} (h : Fin Z O B E (match ρ[i]? with | some (some (.od (.list ds))) => k ds | _ => .bad)) : ∃ ds, ρ[i]? = some (some (.od (.list ds))) ∧ Fin Z O B E (k ds) := by
  split at h
  · rename_i ds e
    exact ⟨ds, e, h⟩
  · exact h.elim
/-- the tree's own list at a comes to hold vs' -/
theorem StOk0.odTop {K : PySem.W.Frag} {O : List Addr} {B : Hp} {σ : L2.St} {H H1 : Hp} {ρ : Ev} {W : List (Nat × Addr)} (s : StOk0 K O B σ H ρ W) {i : Nat} {a : Addr} {vs vs' : List V} {ds' : List D} {qs ts es : List Addr} (sm : Same H H1) (hσ : σ[i]? = some (some (.ref a))) (ha : H a = some (.lst vs)) (hW : ∀ p ∈ a :: qs, (i, p) ∈ W) (nd : (a :: qs).Nodup)
    (hts : ∀ p ∈ ts, p ∈ qs ∨ p ∈ es) (hes : ∀ p ∈ es, H p = none ∧ ∃ xs, H1 p = some (.lst xs)) (nts : ts.Nodup)
    (t : ∀ M', (∀ b xs, hide (W.map (·.2) ++ O) H1 b = some (.tup xs) → M' b = some (.tup xs)) → ∀ H', (∀ p ∈ qs ++ es, ∀ xs, H1 p = some (.lst xs) → H' p = some (.lst xs)) → TrL M' H' vs' ds' ts) :
    ∃ W', StOk0 K O B σ (upd H1 a (.lst vs')) (ρ.set i (some (Sl.od (.list ds')))) W' := by
  have ane : ∀ p ∈ qs ++ es, p ≠ a := fun p hp z => by
    rcases List.mem_append.mp hp with q | q
    · rw [z] at q; exact (List.nodup_cons.mp nd).1 q
    · have := (hes p q).1
      rw [z, ha] at this; cases this
  have key := s.putOd (i := i) (v := .ref a) (d := .list ds') (H' := upd H1 a (.lst vs')) (ps := [a]) (qs := es) (ts := a :: ts) (fun b o h hb => ?_) (fun p hp => ?_) (fun q hq => ?_) (.lst upd_same (t _ (fun b xs q => ?_) _ fun p hp xs q => ?_)) ?_ ?_
  · rw [set_same hσ] at key
    exact ⟨_, key⟩
  · rw [upd_ne (by simpa using hb)]
    exact sm _ _ h
  · rw [List.mem_singleton.mp hp]
    exact ⟨hW a List.mem_cons_self, _, upd_same⟩
  · obtain ⟨h1, xs, h2⟩ := hes q hq
    exact ⟨h1, xs, by rw [upd_ne (ane q (List.mem_append_right _ hq))]; exact h2⟩
  · obtain ⟨q1, q2⟩ := hide_some q
    have ba : b ≠ a := fun z => by rw [z, sm _ _ ha] at q2; cases q2
    rw [hide_out (fun z => ?_), upd_ne ba]
    · exact q2
    · rw [List.map_append, List.append_assoc] at z
      rcases List.mem_append.mp z with z | z
      · obtain ⟨⟨j, c⟩, k1, k2⟩ := List.mem_map.mp z
        have e : c = b := k2
        subst e
        obtain ⟨_, ys, hy⟩ := hes c (in_pairs.mp k1).2
        rw [hy] at q2; cases q2
      · exact q1 z
  · rw [upd_ne (ane p hp)]
    exact q
  · refine List.nodup_cons.mpr ⟨fun z => ?_, nts⟩
    exact ane a (List.mem_append.mpr (hts a z)) rfl
  · intro p hp
    rcases List.mem_cons.mp hp with z | z
    · rw [z]; exact .inr (hW a List.mem_cons_self)
    · rcases hts p z with z | z
      · exact .inr (hW p (List.mem_cons_of_mem _ z))
      · exact .inl z
theorem odAp_ok {i : Nat} {is : List Nat} {fe : Ev → R D} (E : Ends) (σ : L2.St) (H : Hp) (h : tS Z (sOdAp i is fe) E σ H) {K : PySem.W.Frag} : tDrop (tBM K "list" rAppend (tVar i) (tCons (tF Z fe) tNil)) E σ H := by
  obtain ⟨O, B, ρ, ⟨W, s⟩, f⟩ := h
  obtain ⟨ds, e, f⟩ := od_get f
  obtain ⟨v, ps, h1, h2, h3, h4⟩ := s.tree i _ e
  obtain ⟨a, vs, qs, rfl, ha, tr, rfl⟩ := h2.inv
  refine ⟨.ref a, h1, .inl ⟨rfl, vs, SqL.of ha⟩, ?_⟩
  refine st_lendF is s f fun d w H1 W' _ sm r f1 => ?_
  by_cases hl : ds.length < lim
  · rw [if_pos hl] at f1
    refine ⟨a, vs, w, rfl, rfl, sm _ _ ha, by rw [lim_eq, tr.length]; exact hl, ?_⟩
    obtain ⟨es, t, n, hn⟩ := s.freshRp sm r
    have nts : (qs ++ es).Nodup := by
      refine List.nodup_append.mpr ⟨(List.nodup_cons.mp h3).2, n, fun p hp q hq z => ?_⟩
      obtain ⟨o, ho, _⟩ := s.lists i p (h4 p (List.mem_cons_of_mem _ hp))
      rw [z, hn q hq] at ho; cases ho
    obtain ⟨W2, s2⟩ := s.odTop (vs' := vs ++ [w]) (ds' := ds ++ [d]) (ts := qs ++ es) (es := es) sm h1 ha h4 h3 (fun p hp => List.mem_append.mp hp) (fun p hp => ⟨hn p hp, t.lists p hp⟩) nts fun M' m H' k =>
      TrL.append (tr.stay (fun b xs q => m b xs (hide_mono sm _ _ q)) fun p hp xs q => k p (List.mem_append_left _ hp) xs (sm _ _ q)) (.one (t.stay m fun p hp xs q => k p (List.mem_append_right _ hp) xs q))
    exact f1 _ _ ⟨W2, s2⟩
  · rw [if_neg hl] at f1; exact f1.elim
theorem ds_odAp {i : Nat} {np apos cpos : Pos} (is : List Nat) (hpe : PE X (.Call (.Attribute (.Name x np) "append" apos) [e] [] cpos) (tBM X.K "list" rAppend (tVar i) (tCons (tF Z fe) tNil))) (hs : swapsWith (.Call (.Attribute (.Name x np) "append" apos) [e] [] cpos) none pos.line X.env = pure false := by rfl) :
    PS X (.Expr (.Call (.Attribute (.Name x np) "append" apos) [e] [] cpos) pos) (tS Z (sOdAp i is fe)) :=
  ps_weak (ps_expr hpe hs) fun E σ H h => odAp_ok E σ H h
/-- the tree's list is emptied -/
def sOdClr (i : Nat) : Sm := fun ρ => match ρ[i]? with
  | some (some (.od (.list ds))) => .ok (.nx, ρ.set i (some (Sl.od (.list []))))
  | _ => .bad
theorem ds_odClr {i : Nat} {np apos cpos : Pos} (hpe : PE X (.Call (.Attribute (.Name x np) "clear" apos) [] [] cpos) (tBM0 X.K "list" rClear (tVar i))) (hs : swapsWith (.Call (.Attribute (.Name x np) "clear" apos) [] [] cpos) none pos.line X.env = pure false := by rfl) :
    PS X (.Expr (.Call (.Attribute (.Name x np) "clear" apos) [] [] cpos) pos) (tS Z (sOdClr i)) :=
  ps_weak (ps_expr hpe hs) fun E σ H h => by
    obtain ⟨O, B, ρ, ⟨W, s⟩, f⟩ := h
    obtain ⟨ds, e, f⟩ := od_get f
    obtain ⟨v, ps, h1, h2, h3, h4⟩ := s.tree i _ e
    obtain ⟨a, vs, qs, rfl, ha, tr, rfl⟩ := h2.inv
    refine ⟨.ref a, h1, .inl ⟨rfl, vs, SqL.of ha⟩, a, vs, rfl, rfl, ha, ?_⟩
    obtain ⟨W2, s2⟩ := s.odTop (vs' := []) (ds' := []) (ts := []) (es := []) (Same.refl _) h1 ha h4 h3 (fun p hp => by cases hp) (fun p hp => by cases hp) List.nodup_nil (fun _ _ _ _ => .nil)
    exact f _ _ ⟨W2, s2⟩
/-- the tree's k-th list is emptied -/
def sOdClrAt (i k : Nat) : Sm := fun ρ => match ρ[i]? with
  | some (some (.od (.list ds))) => (match ds[k]? with
    | some (.list _) => .ok (.nx, ρ.set i (some (Sl.od (.list (ds.set k (.list []))))))
    | _ => .bad)
  | _ => .bad
/-- the list at place k of a tree: it comes to hold vs' -/
theorem StOk0.odAt {K : PySem.W.Frag} {O : List Addr} {B : Hp} {σ : L2.St} {H H1 : Hp} {ρ : Ev} {W : List (Nat × Addr)} (s : StOk0 K O B σ H ρ W) {i k : Nat} {ds es : List D} (sm : Same H H1) (e : ρ[i]? = some (some (Sl.od (.list ds)))) (ek : ds[k]? = some (.list es)) :
    ∃ a vs c us qs, σ[i]? = some (some (.ref a)) ∧ H a = some (.lst vs) ∧ vs.length = ds.length ∧ vs[k]? = some (.ref c) ∧ H c = some (.lst us) ∧ us.length = es.length ∧ TrL (hide (W.map (·.2) ++ O) H) H us es qs ∧
      ∀ (us' : List V) (es' : List D) (fs ts : List Addr), (∀ p ∈ ts, p ∈ qs ∨ p ∈ fs) → (∀ p ∈ fs, H p = none ∧ ∃ xs, H1 p = some (.lst xs)) → ts.Nodup →
        (∀ M', (∀ b xs, hide (W.map (·.2) ++ O) H1 b = some (.tup xs) → M' b = some (.tup xs)) → ∀ H', (∀ p ∈ qs ++ fs, ∀ xs, H1 p = some (.lst xs) → H' p = some (.lst xs)) → TrL M' H' us' es' ts) →
        ∃ W', StOk0 K O B σ (upd H1 c (.lst us')) (ρ.set i (some (Sl.od (.list (ds.set k (.list es')))))) W' := by
  obtain ⟨v, ps, h1, h2, h3, h4⟩ := s.tree i _ e
  obtain ⟨a, vs, rs, rfl, ha, tr, rfl⟩ := h2.inv
  obtain ⟨w, p1, p2, p3, k1, rfl, k3, k4⟩ := tr.at ek
  obtain ⟨c, us, qs, rfl, hc, tc, rfl⟩ := k3.inv
  refine ⟨a, vs, c, us, qs, h1, ha, tr.length, k1, hc, tc.length, tc, fun us' es' fs ts hts hfs nts t => ?_⟩
  have nd := List.nodup_cons.mp h3
  have nd2 := List.nodup_append.mp nd.2
  have nd3 := List.nodup_append.mp nd2.2.1
  have nd4 := List.nodup_cons.mp nd3.1
  have cin : c ∈ a :: (p1 ++ (c :: qs ++ p3)) := List.mem_cons_of_mem _ (List.mem_append_right _ (List.mem_append_left _ List.mem_cons_self))
  have inW : ∀ p, p = a ∨ p ∈ p1 ∨ p = c ∨ p ∈ qs ∨ p ∈ p3 → (i, p) ∈ W := fun p hp => h4 p (by
    rcases hp with z | z | z | z | z
    · rw [z]; exact List.mem_cons_self
    · exact List.mem_cons_of_mem _ (List.mem_append_left _ z)
    · rw [z]; exact cin
    · exact List.mem_cons_of_mem _ (List.mem_append_right _ (List.mem_append_left _ (List.mem_cons_of_mem _ z)))
    · exact List.mem_cons_of_mem _ (List.mem_append_right _ (List.mem_append_right _ z)))
  have hac : a ≠ c := fun z => nd.1 (by rw [z]; exact List.mem_append_right _ (List.mem_append_left _ List.mem_cons_self))
  have old : ∀ p, (i, p) ∈ W → p ∉ fs := fun p hp z => by
    obtain ⟨o, ho, _⟩ := s.lists i p hp
    rw [(hfs p z).1] at ho; cases ho
  have ne1 : ∀ p ∈ p1 ++ p3, p ≠ c := fun p hp z => by
    rcases List.mem_append.mp hp with q | q
    · exact nd2.2.2 p q c (List.mem_append_left _ List.mem_cons_self) z
    · exact nd3.2.2 c List.mem_cons_self p q z.symm
  have ne2 : ∀ p ∈ qs ++ fs, p ≠ c := fun p hp z => by
    rcases List.mem_append.mp hp with q | q
    · rw [z] at q; exact nd4.1 q
    · rw [z] at q; exact old c (inW c (.inr (.inr (.inl rfl)))) q
  have key := s.putOd (i := i) (v := .ref a) (d := .list (ds.set k (.list es'))) (H' := upd H1 c (.lst us')) (ps := [c]) (qs := fs) (ts := a :: (p1 ++ ((c :: ts) ++ p3))) (fun b o h hb => ?_) (fun p hp => ?_) (fun q hq => ?_) (.lst (vs := vs) ?_ ?_) ?_ ?_
  · rw [set_same h1] at key
    exact ⟨_, key⟩
  · rw [upd_ne (by simpa using hb)]
    exact sm _ _ h
  · rw [List.mem_singleton.mp hp]
    exact ⟨inW c (.inr (.inr (.inl rfl))), _, upd_same⟩
  · obtain ⟨g1, xs, g2⟩ := hfs q hq
    exact ⟨g1, xs, by rw [upd_ne (ne2 q (List.mem_append_right _ hq))]; exact g2⟩
  · rw [upd_ne hac]
    exact sm _ _ ha
  · have up : ∀ b xs, hide (W.map (·.2) ++ O) H1 b = some (.tup xs) → hide ((fs.map (fun p => (i, p)) ++ W).map (·.2) ++ O) (upd H1 c (.lst us')) b = some (.tup xs) := fun b xs q => by
      obtain ⟨q1, q2⟩ := hide_some q
      have ba : b ≠ c := fun z => by rw [z, sm _ _ hc] at q2; cases q2
      rw [hide_out (fun z => ?_), upd_ne ba]
      · exact q2
      · rw [List.map_append, List.append_assoc] at z
        rcases List.mem_append.mp z with z | z
        · obtain ⟨⟨j, y⟩, g1, g2⟩ := List.mem_map.mp z
          have e : y = b := g2
          subst e
          obtain ⟨_, ys, hy⟩ := hfs y (in_pairs.mp g1).2
          rw [hy] at q2; cases q2
        · exact q1 z
    have q := k4 _ _ (.ref c) (.list es') (c :: ts) (fun b xs q => up b xs (hide_mono sm _ _ q)) (fun p hp xs q => by rw [upd_ne (ne1 p hp)]; exact sm _ _ q) (.lst upd_same (t _ up _ fun p hp xs q => by rw [upd_ne (ne2 p hp)]; exact q))
    rw [set_same k1] at q
    exact q
  · have tin : ∀ p ∈ ts, p ≠ a ∧ p ∉ p1 ∧ p ≠ c ∧ p ∉ p3 := fun p hp => by
      rcases hts p hp with q | q
      · exact ⟨fun z => nd.1 (by rw [← z]; exact List.mem_append_right _ (List.mem_append_left _ (List.mem_cons_of_mem _ q))), fun z => nd2.2.2 p z p (List.mem_append_left _ (List.mem_cons_of_mem _ q)) rfl, ne2 p (List.mem_append_left _ q), fun z => nd3.2.2 p (List.mem_cons_of_mem _ q) p z rfl⟩
      · exact ⟨fun z => old p (inW p (.inl z)) q, fun z => old p (inW p (.inr (.inl z))) q, ne2 p (List.mem_append_right _ q), fun z => old p (inW p (.inr (.inr (.inr (.inr z))))) q⟩
    refine List.nodup_cons.mpr ⟨fun z => ?_, List.nodup_append.mpr ⟨nd2.1, List.nodup_append.mpr ⟨List.nodup_cons.mpr ⟨fun z => (tin c z).2.2.1 rfl, nts⟩, nd3.2.1, fun p hp q hq z => ?_⟩, fun p hp q hq z => ?_⟩⟩
    · rcases List.mem_append.mp z with z | z
      · exact nd.1 (List.mem_append_left _ z)
      · rcases List.mem_append.mp z with z | z
        · rcases List.mem_cons.mp z with z | z
          · exact hac z
          · exact (tin a z).1 rfl
        · exact nd.1 (List.mem_append_right _ (List.mem_append_right _ z))
    · rcases List.mem_cons.mp hp with y | y
      · exact nd3.2.2 p (by rw [y]; exact List.mem_cons_self) q hq z
      · exact (tin p y).2.2.2 (by rw [z]; exact hq)
    · rcases List.mem_append.mp hq with y | y
      · rcases List.mem_cons.mp y with y | y
        · exact ne1 p (List.mem_append_left _ hp) (z.trans y)
        · exact (tin q y).2.1 (by rw [← z]; exact hp)
      · exact nd2.2.2 p hp q (List.mem_append_right _ y) z
  · intro p hp
    rcases List.mem_cons.mp hp with z | z
    · exact .inr (inW p (.inl z))
    · rcases List.mem_append.mp z with z | z
      · exact .inr (inW p (.inr (.inl z)))
      · rcases List.mem_append.mp z with z | z
        · rcases List.mem_cons.mp z with z | z
          · exact .inr (inW p (.inr (.inr (.inl z))))
          · rcases hts p z with z | z
            · exact .inr (inW p (.inr (.inr (.inr (.inl z)))))
            · exact .inl z
        · exact .inr (inW p (.inr (.inr (.inr (.inr z)))))
theorem ds_odClrAt {i k j : Nat} {np p2 p3 apos cpos : Pos} (hpe : PE X (.Call (.Attribute (.Subscript (.Name x np) (.Constant (.int (k : Int)) j p2) p3) "clear" apos) [] [] cpos) (tBM0 X.K "list" rClear (tOp (rIxL X.K) (tVar i) (tC (.int (k : Int))))))
    (hs : swapsWith (.Call (.Attribute (.Subscript (.Name x np) (.Constant (.int (k : Int)) j p2) p3) "clear" apos) [] [] cpos) none pos.line X.env = pure false := by rfl) :
    PS X (.Expr (.Call (.Attribute (.Subscript (.Name x np) (.Constant (.int (k : Int)) j p2) p3) "clear" apos) [] [] cpos) pos) (tS Z (sOdClrAt i k)) :=
  ps_weak (ps_expr hpe hs) fun E σ H h => by
    obtain ⟨O, B, ρ, ⟨W, s⟩, f⟩ := h
    obtain ⟨ds, e, f⟩ := od_get f
    split at f
    · rename_i es ek
      obtain ⟨a, vs, c, us, qs, h1, ha, hl, k1, hc, _, tc, q⟩ := s.odAt (Same.refl _) e ek
      refine ⟨.ref a, h1, a, vs, (k : Int), .ref c, rfl, rfl, SqL.of ha, ?_, .inl ⟨rfl, us, SqL.of hc⟩, c, us, rfl, rfl, hc, ?_⟩
      · unfold atI
        have lt := (List.getElem?_eq_some_iff.mp k1).1
        have e2 : ixN vs.length (k : Int) = some k := by
          unfold ixN
          rw [if_pos (by omega), if_pos (by omega)] <;> rfl
        rw [e2]
        exact k1
      · obtain ⟨W', s'⟩ := q [] [] [] [] (fun p hp => by cases hp) (fun p hp => by cases hp) List.nodup_nil (fun _ _ _ _ => .nil)
        exact f _ _ ⟨W', s'⟩
    · exact f.elim
end
end RL

set_option Elab.async false
set_option linter.all false
set_option maxRecDepth 100000
set_option maxHeartbeats 1000000
/-! # The D-layer: tables of one's own, count, a tree and more -/
namespace RL
open PySem PySem.Spec PyProof.Rows L2

/-! ### list.count, of any data -/
def rCntD (K : PySem.W.Frag) : V → List V → Hp → VK → Prop := fun x xs H Q => ∃ (y : V) (d : D) (ds : List D), xs = [y] ∧ Dp K H x (.list ds) ∧ Dp K H y d ∧ SeqAt.shaped (.list ds) = true ∧ SeqAt.shaped d = true ∧ Q (.int ((ds.countP fun z => PyData.eqv z d : Nat) : Int)) H
theorem count_by_data {h : Heap} {vs : List Value} {xs : List PyData} {as : List Addr} {d : PyData} (rs : ReadsAll h vs xs as) (hxs : PyData.canLayAll0 xs = true) :
    vs.countP (fun y => PyData.eqv (SeqAt.readOf h y) d) = xs.countP (fun y => PyData.eqv y d) := by
  have e := SeqAt.readsAll_map xs _ _ hxs rs
  rw [← e, List.countP_map] <;> rfl
theorem mt_countD {X : Cx} (hu : X.A.units + 65 < cLine) : MtR X "list.count" (rCntD X.K) := by
  intro pins s σ H x xs v us Q I rx rxs h
  obtain ⟨y, d, ds, rfl, hx, hy, sx, sd, q⟩ := h
  obtain ⟨u, rfl, ru⟩ := rxs.one
  obtain ⟨as, r1⟩ := Dp.reads I (.list ds) x v hx rx
  obtain ⟨bs, r2⟩ := Dp.reads I d y u hy ru
  have hxs : PyData.canLayAll0 ds = true := SeqAt.canLay_of_shaped sx
  cases r1 with
  | list h1 h2 h3 h4 =>
    rename_i a o items n as'
    obtain ⟨oc, od, dt, sl⟩ := o
    have h2' : oc = .type "list" := h2
    have h3' : dt = .seq items n := h3
    subst h2' h3'
    refine call_meets PySem.F.slot_list_count ⟨_, h1, rfl⟩ PySem.F.entry_list_count (PySem.F.args_list_count_2 _ _)
      (SeqAt.list_countAt a items n od sl u (fun y => PyData.eqv (SeqAt.readOf s.heap y) d)) ⟨h1, SeqAt.items_eqAt h4 r2 hxs (SeqAt.canLay_of_shaped sd) (room_in sd hu), ?_⟩
    have ec : items.toList.countP (fun y => PyData.eqv (SeqAt.readOf s.heap y) d) = ds.countP (fun y => PyData.eqv y d) := count_by_data h4 hxs
    refine ⟨.int ((ds.countP fun z => PyData.eqv z d : Nat) : Int), H, I.tok _, ⟨s.toks, ?_⟩, q⟩
    rw [ec]
section
variable {X : Cx} {Z : Zx} {st : Stmt} {rest : List Stmt} {g h : Sm} {pos : Pos} {e a b : Expr} {es : List Expr} {f fa fb fe : Ev → R D} {x : Str}
def eCnt (fa fb : Ev → R D) : Ev → R D := fun ρ => fa ρ >>= fun p => match p with
  | .list ds => fb ρ >>= fun d => if SeqAt.shaped (.list ds) && SeqAt.shaped d then .ok (.int ((ds.countP fun z => PyData.eqv z d : Nat) : Int)) else .bad
  | _ => .bad
theorem d_count {apos cpos : Pos} (hpe : PE X (.Call (.Attribute a "count" apos) [b] [] cpos) (tBM X.K "list" (rCntD X.K) (tD Z fa) (tCons (tD Z fb) tNil))) : PE X (.Call (.Attribute a "count" apos) [b] [] cpos) (tD Z (eCnt fa fb)) :=
  pe_weak hpe fun σ H Q h => by
    obtain ⟨O, ρ, hp, h⟩ := h
    refine ⟨O, ρ, hp, Pst.bind' h fun p x H1 _ s1 h1 k1 => ?_⟩
    cases p with
    | list ds =>
      obtain ⟨c, vs, rfl, _, ha, ra⟩ := h1.ref_lst
      refine ⟨.inl ⟨rfl, vs, SqL.of ha⟩, O, ρ, hp.mono s1, Pst.bind' k1 fun q y H2 _ s2 h2 k2 => ?_⟩
      have k3 : Pst Rp Z O H2 (if SeqAt.shaped (.list ds) && SeqAt.shaped q then .ok (.int ((ds.countP fun z => PyData.eqv z q : Nat) : Int)) else .bad) Q := k2
      by_cases c : (SeqAt.shaped (.list ds) && SeqAt.shaped q) = true
      · rw [if_pos c] at k3
        obtain ⟨c1, c2⟩ := Bool.and_eq_true_iff.mp c
        exact ⟨y, q, ds, rfl, ((h1.mono (hide_mono s2)).mono (hide_le _ _)).dp (.inl c1), (h2.mono (hide_le _ _)).dp (.inl c2), c1, c2, pst_ok k3 (Same.refl _) (.int _)⟩
      · rw [if_neg c] at k3; exact k3.elim
    | _ => exact k1.elim

/-! ### return x + e, x a tree -/
def sRetCat (i : Nat) (fe : Ev → R D) : Sm := fun ρ => match ρ[i]? with
  | some (some (.od (.list ds))) => fe (frz ρ [i]) >>= fun d => (match d with
    | .list es => if ds.length + es.length ≤ lim then .ok (.retF (.list (ds ++ es)), ρ) else .bad
    | _ => .bad)
  | _ => .bad
theorem ds_retCat {i : Nat} {p1 p2 : Pos} (hpe : PE X (.BinOp (.Name x p1) .Add e p2) (tOp rCat (tVar i) (tF Z fe))) : PS X (.Return (some (.BinOp (.Name x p1) .Add e p2)) pos) (tS Z (sRetCat i fe)) := ps_weak (ps_ret hpe) fun E σ H h => by
  obtain ⟨O, B, ρ, ⟨W, s⟩, f⟩ := h
  obtain ⟨ds, e, f⟩ := od_get f
  obtain ⟨v, ps, h1, h2, h3, h4⟩ := s.tree i _ e
  obtain ⟨a, vs, qs, rfl, ha, tr, rfl⟩ := h2.inv
  refine ⟨.ref a, h1, ?_⟩
  refine st_lendF [i] s f fun d w H1 W' _ sm r f1 => ?_
  cases d with
  | list es =>
    obtain ⟨us, t, n, hn⟩ := s.freshRp sm r
    obtain ⟨b, ws, rs, rfl, hb, tb, rfl⟩ := t.inv
    have f2 : Fin Z O B E (if ds.length + es.length ≤ lim then .ok (.retF (.list (ds ++ es)), ρ) else .bad) := f1
    by_cases hl : ds.length + es.length ≤ lim
    · rw [if_pos hl] at f2
      refine ⟨a, b, vs, ws, rfl, rfl, sm _ _ ha, hb, by rw [lim_eq, tr.length, tb.length]; exact hl, fun p np => ?_⟩
      have sB : Same B (upd H1 p (.lst (vs ++ ws))) := (s.base.trans sm).trans (same_new np)
      refine f2 _ _ sB ⟨p :: (qs ++ rs), .lst upd_same (TrL.append (tr.stay (fun c xs q => ?_) fun q hq xs hx => ?_) (tb.stay (fun c xs q => ?_) fun q hq xs hx => ?_)), ?_, fun q hq => ?_⟩
      · have q2 := s.tupUp sm (W' := W) c xs (hide_mono sm _ _ q)
        obtain ⟨q3, q4⟩ := hide_some q2
        rw [hide_out (fun z => q3 (List.mem_append_right _ z))]
        exact same_new np _ _ q4
      · exact same_new np _ _ (sm _ _ hx)
      · obtain ⟨q3, q4⟩ := hide_some q
        rw [hide_out (fun z => q3 (List.mem_append_right _ z))]
        exact same_new np _ _ q4
      · exact same_new np _ _ hx
      · refine List.nodup_cons.mpr ⟨fun z => ?_, List.nodup_append.mpr ⟨(List.nodup_cons.mp h3).2, (List.nodup_cons.mp n).2, fun y hy c hc z => ?_⟩⟩
        · rcases List.mem_append.mp z with z | z
          · obtain ⟨o, ho, _⟩ := s.lists i p (h4 p (List.mem_cons_of_mem _ z))
            rw [sm _ _ ho] at np; cases np
          · obtain ⟨xs, hx⟩ := tb.lists p z
            rw [hx] at np; cases np
        · obtain ⟨o, ho, _⟩ := s.lists i y (h4 y (List.mem_cons_of_mem _ hy))
          rw [z, hn c (List.mem_cons_of_mem _ hc)] at ho; cases ho
      · rcases List.mem_cons.mp hq with z | z
        · rw [z]
          exact (s.base.trans sm).free np
        · rcases List.mem_append.mp z with z | z
          · exact s.noB (h4 q (List.mem_cons_of_mem _ z))
          · exact s.base.free (hn q (List.mem_cons_of_mem _ z))
    · rw [if_neg hl] at f2; exact f2.elim
  | _ => exact f1.elim

/-! ### tables of one's own -/
def hasD {κ : Type} [DecidableEq κ] (kvs : List (κ × D)) (k : κ) : Bool := kvs.any fun p => decide (p.1 = k)
def putD {κ : Type} [DecidableEq κ] (kvs : List (κ × D)) (k : κ) (d : D) : List (κ × D) := if hasD kvs k then kvs.map (fun p => if p.1 = k then (p.1, d) else p) else kvs ++ [(k, d)]
theorem RpK.any {κ κ' : Type} [DecidableEq κ] [DecidableEq κ'] {f : κ' → κ} (inj : ∀ a b, f a = f b → a = b) {M : Hp} (k : κ') : ∀ {xs : List (κ × V)} {ys : List (κ' × D)}, RpK f M xs ys → (xs.any fun p => decide (p.1 = f k)) = hasD ys k
  | _, _, .nil => rfl
  | _, _, .cons (k := j) h r => by
    unfold hasD
    rw [List.any_cons, List.any_cons, RpK.any inj k r]
    have e : decide (f j = f k) = decide (j = k) := by
      by_cases c : j = k
      · rw [c]; simp
      · rw [decide_eq_false c, decide_eq_false (fun z => c (inj _ _ z))]
    rw [e] <;> rfl
theorem RpK.repl {κ κ' : Type} [DecidableEq κ] [DecidableEq κ'] {f : κ' → κ} (inj : ∀ a b, f a = f b → a = b) {M : Hp} (k : κ') {v : V} {d : D} (h : Rp M v d) : ∀ {xs : List (κ × V)} {ys : List (κ' × D)}, RpK f M xs ys → RpK f M (xs.map fun p => if p.1 = f k then (p.1, v) else p) (ys.map fun p => if p.1 = k then (p.1, d) else p)
  | _, _, .nil => .nil
  | _, _, .cons (k := j) (v := w) (d := c) q r => by
    rw [List.map_cons, List.map_cons]
    by_cases c : j = k
    · subst c
      rw [if_pos rfl, if_pos rfl]
      exact .cons h (RpK.repl inj j h r)
    · rw [if_neg c, if_neg (fun z => c (inj _ _ z))]
      exact .cons q (RpK.repl inj k h r)
theorem RpK.snoc {κ κ' : Type} {f : κ' → κ} {M : Hp} (k : κ') {v : V} {d : D} (h : Rp M v d) : ∀ {xs : List (κ × V)} {ys : List (κ' × D)}, RpK f M xs ys → RpK f M (xs ++ [(f k, v)]) (ys ++ [(k, d)])
  | _, _, .nil => .cons h .nil
  | _, _, .cons q r => .cons q (RpK.snoc k h r)
theorem RpK.put {κ κ' : Type} [DecidableEq κ] [DecidableEq κ'] {f : κ' → κ} (inj : ∀ a b, f a = f b → a = b) {M : Hp} (k : κ') {v : V} {d : D} (h : Rp M v d) {xs : List (κ × V)} {ys : List (κ' × D)} (r : RpK f M xs ys) : RpK f M (putK xs (f k) v) (putD ys k d) := by
  unfold putK putD
  rw [r.any inj k]
  by_cases c : hasD ys k = true
  · rw [if_pos c, if_pos c]
    exact r.repl inj k h
  · rw [if_neg c, if_neg c]
    exact r.snoc k h
theorem kT_inj : ∀ a b : List Int, kT a = kT b → a = b := fun a b h => by
  have e := congrArg (List.map (fun k : L2.Key => match k with | .inl i => i | .inr _ => 0)) h
  have go : ∀ c : List Int, (c.map (Sum.inl : Int → L2.Key)).map (fun k : L2.Key => match k with | .inl i => i | .inr _ => 0) = c := fun c => by
    rw [List.map_map]
    exact List.map_id' c
  rw [go, go] at e
  exact e
theorem kI_inj : ∀ a b : Int, kI a = kI b → a = b := fun a b h => by
  have h' : (Sum.inl a : L2.Key) = Sum.inl b := h
  injection h'
/-- a tuple of ints -/
def keyT? : D → Option (List Int)
  | .tuple ds => ints? ds
  | _ => none
theorem keyT_rp {O : List Addr} {H : Hp} {v : V} {d : D} {ns : List Int} (e : keyT? d = some ns) (r : Rp (hide O H) v d) : ∃ b, v = .ref b ∧ H b = some (.tup ((kT ns).map kV)) := by
  cases d with
  | tuple ds =>
    obtain ⟨b, vs, rfl, _, hb, rb⟩ := r.ref_tup
    have e2 : ints? ds = some ns := e
    rw [allOf_some int?_some e2] at rb
    refine ⟨b, rfl, ?_⟩
    rw [hb, rb.ints, List.map_map] <;> rfl
  | _ => cases e
def sNewDT (i : Nat) : Sm := fun ρ => .ok (.nx, ρ.set i (some (Sl.dt [])))
theorem ds_newDT {i : Nat} {pos' lp : Pos} (hN : X.N.Nodup) (hi : X.N[i]? = some x) (hx : Loc X.env.scope x) (hs : swapsWith (.Dict [] [] lp) (some (.Name x pos')) pos.line X.env = pure false := by rfl) (hf : X.fn x = true ∨ X.env.scope.names.lookup x = some .local := by first | exact .inl rfl | exact .inr rfl) :
    PS X (.Assign [.Name x pos'] (.Dict [] [] lp) pos) (tS Z (sNewDT i)) := ps_weak (ps_set hN hi hx pe_dnewT hs hf) fun E σ H h => by
  obtain ⟨O, B, ρ, ⟨W, s⟩, f⟩ := h
  exact fun p np => f _ _ ⟨_, s.newG np rfl ⟨[], rfl, .nil⟩⟩
def sNewDK (i : Nat) : Sm := fun ρ => .ok (.nx, ρ.set i (some (Sl.dk [])))
theorem ds_newDK {i : Nat} {pos' lp : Pos} (hN : X.N.Nodup) (hi : X.N[i]? = some x) (hx : Loc X.env.scope x) (hs : swapsWith (.Dict [] [] lp) (some (.Name x pos')) pos.line X.env = pure false := by rfl) (hf : X.fn x = true ∨ X.env.scope.names.lookup x = some .local := by first | exact .inl rfl | exact .inr rfl) :
    PS X (.Assign [.Name x pos'] (.Dict [] [] lp) pos) (tS Z (sNewDK i)) := ps_weak (ps_set hN hi hx pe_dnewK hs hf) fun E σ H h => by
  obtain ⟨O, B, ρ, ⟨W, s⟩, f⟩ := h
  exact fun p np => f _ _ ⟨_, s.newG np rfl ⟨[], rfl, .nil⟩⟩
/-- k in x -/
def eInDc (i : Nat) (fa : Ev → R D) : Ev → R D := fun ρ => fa ρ >>= fun k => match ρ[i]? with
  | some (some (.dt kvs)) => (match keyT? k with | some ns => .ok (.bool (hasD kvs ns)) | none => .bad)
  | some (some (.dk kvs)) => (match int? k with | some n => .ok (.bool (hasD kvs n)) | none => .bad)
  | _ => .bad
theorem inDc_ok {i : Nat} (σ : L2.St) (H : Hp) (Q : VK) (h : tD Z (eInDc i fa) σ H Q) : tDIn (tD Z fa) (tVar i) σ H Q := by
  obtain ⟨O, ρ, hp, h⟩ := h
  refine ⟨O, ρ, hp, Pst.bind' h fun k y H1 _ s1 h1 k1 => ?_⟩
  have hp1 := hp.mono s1
  cases e : ρ[i]? with
  | none => rw [e] at k1; exact k1.elim
  | some o =>
    cases o with
    | none => rw [e] at k1; exact k1.elim
    | some sl =>
      rw [e] at k1
      cases sl with
      | dt kvs =>
        obtain ⟨p, o, h2, h3, vs, rfl, r⟩ := hp1.ow i _ e rfl
        have k2 : Pst Rp Z O H1 (match keyT? k with | some ns => .ok (.bool (hasD kvs ns)) | none => .bad) Q := k1
        cases ek : keyT? k with
        | none => rw [ek] at k2; exact k2.elim
        | some ns =>
          rw [ek] at k2
          obtain ⟨b, rfl, hb⟩ := keyT_rp ek h1
          refine ⟨.ref p, h2, p, _, rfl, DGet.t h3 hb, ?_⟩
          rw [← valV_any, r.any kT_inj ns]
          exact pst_ok k2 (Same.refl _) (.bl _)
      | dk kvs =>
        obtain ⟨p, o, h2, h3, vs, rfl, r⟩ := hp1.ow i _ e rfl
        have k2 : Pst Rp Z O H1 (match int? k with | some n => .ok (.bool (hasD kvs n)) | none => .bad) Q := k1
        cases ek : int? k with
        | none => rw [ek] at k2; exact k2.elim
        | some n =>
          rw [ek] at k2
          have ed := int?_some _ _ ek
          subst ed
          cases h1
          refine ⟨.ref p, h2, p, _, rfl, DGet.k (k := kI n) h3, ?_⟩
          rw [← valV_any, r.any kI_inj n]
          exact pst_ok k2 (Same.refl _) (.bl _)
      | _ => exact k1.elim
theorem dt_inDc {i : Nat} {p1 : Pos} (hu : X.A.units + 65 < cLine) (ha : PE X a (tD Z fa)) (hv : PE X (.Name x p1) (tVar i)) : PT X (.Compare a [.In] [.Name x p1] pos) (tB' Z (eB (eInDc i fa))) :=
  pt_weak (pt_cmp (pc_din (by omega) ha hv) (by rfl)) fun σ H Q h => inDc_ok σ H _ (tst_ok σ H Q h)
/-- len(x) -/
def eLenDc (i : Nat) : Ev → R D := fun ρ => match ρ[i]? with
  | some (some (.dt kvs)) => .ok (.int (kvs.length : Nat))
  | some (some (.dk kvs)) => .ok (.int (kvs.length : Nat))
  | _ => .bad
theorem d_lenDc {i : Nat} {p1 p2 : Pos} (hg : Gl X "len") (hm : X.mg "len" = none) (hv : PE X (.Name x p1) (tVar i))
    (he : starEach [.Name x p1] X.env = (false, eval (.Name x p1) X.env) :: starEach [] X.env := by rfl) : PE X (.Call (.Name "len" p2) [.Name x p1] [] pos) (tD Z (eLenDc i)) :=
  pe_weak (pe_callB (call_lenD.or call_len_dT) hg hm PySem.boot_len (pa_cons hv pa_nil he) (by decide) (by decide) he rfl) fun σ H Q h => by
    obtain ⟨O, ρ, hp, h⟩ := h
    unfold eLenDc at h
    split at h
    · rename_i kvs e
      obtain ⟨p, o, h2, h3, vs, rfl, r⟩ := hp.ow i _ e rfl
      exact ⟨.ref p, h2, .inr ⟨p, vs, rfl, h3, by rw [r.length]; exact pst_ok h (Same.refl _) (.int _)⟩⟩
    · rename_i kvs e
      obtain ⟨p, o, h2, h3, vs, rfl, r⟩ := hp.ow i _ e rfl
      exact ⟨.ref p, h2, .inl ⟨p, vs, rfl, h3, by rw [r.length]; exact pst_ok h (Same.refl _) (.int _)⟩⟩
    · exact h.elim
/-- x[k] = v -/
def sPutDc (i : Nat) (fk fv : Ev → R D) : Sm := fun ρ => match ρ[i]? with
  | some (some (.dt kvs)) => fv ρ >>= fun v => fk ρ >>= fun k => (match keyT? k with | some ns => if kvs.length < lim then .ok (.nx, ρ.set i (some (Sl.dt (putD kvs ns v)))) else .bad | none => .bad)
  | _ => .bad
theorem ds_putDc {i : Nat} {fk fv : Ev → R D} {k v : Expr} {p1 p2 : Pos} (hu : X.A.units + 65 < cLine) (hv : PE X v (tD Z fv)) (hk : PE X k (tD Z fk)) (hx : PE X (.Name x p1) (tVar i)) (hs : swapsWith v (some (.Subscript (.Name x p1) k p2)) pos.line X.env = pure false := by rfl) :
    PS X (.Assign [.Subscript (.Name x p1) k p2] v pos) (tS Z (sPutDc i fk fv)) := ps_weak (ps_dput (by omega) hx hk hv hs) fun E σ H h => by
  obtain ⟨O, B, ρ, ⟨W, s⟩, f⟩ := h
  unfold sPutDc at f
  split at f
  · rename_i kvs e
    obtain ⟨p, o, w1, w2, w3, vs, rfl, r⟩ := s.own i _ e rfl
    refine st_eval s f fun d y H1 _ sm rd s1 f1 => ⟨.ref p, w2, ?_⟩
    refine st_eval s1 f1 fun k z H2 _ sm2 rk s2 f2 => ?_
    cases ek : keyT? k with
    | none => rw [ek] at f2; exact f2.elim
    | some ns =>
      rw [ek] at f2
      by_cases hl : kvs.length < lim
      · have f3 : Fin Z O B E (if kvs.length < lim then .ok (.nx, ρ.set i (some (Sl.dt (putD kvs ns d)))) else .bad) := f2
        rw [if_pos hl] at f3
        obtain ⟨b, rfl, hb⟩ := keyT_rp ek rk
        refine ⟨p, _, rfl, DPut.t ((sm.trans sm2) _ _ w3) hb (by rw [lim_eq, r.length]; exact hl), ?_⟩
        refine f3 _ _ ⟨W, s2.chgG w1 w2 rfl ⟨_, rfl, ?_⟩⟩
        exact (r.mono (hide_mono (sm.trans sm2))).put kT_inj ns (rd.mono (hide_mono sm2))
      · have f3 : Fin Z O B E (if kvs.length < lim then .ok (.nx, ρ.set i (some (Sl.dt (putD kvs ns d)))) else .bad) := f2
        rw [if_neg hl] at f3; exact f3.elim
  · exact f.elim

/-! ### x.update({a: c, b: d}) -/
def rUpdK : V → List V → Hp → VK → Prop := fun x xs H Q => ∃ (d o : Addr) (kvs more : List (L2.Key × V)), x = .ref d ∧ xs = [.ref o] ∧ d ≠ o ∧ H d = some (.dK kvs) ∧ H o = some (.dK more) ∧ kvs.length + more.length ≤ sizeLine ∧ Q .non (upd H d (.dK (mergeK kvs more)))
theorem mt_updK : MtR X "dict.update" rUpdK := by
  intro pins s σ H x xs v us Q I rx rxs h
  obtain ⟨d, o, kvs, more, rfl, rfl, hne, hd, ho, hz, q⟩ := h
  cases rx
  obtain ⟨u, rfl, ru⟩ := rxs.one
  cases ru
  obtain ⟨z, nd, vs, rel, dd⟩ := dk_of I.hok hd
  obtain ⟨z2, no, rs, rel2, dd2⟩ := dk_of I.hok ho
  refine call_meetsIn PySem.F.slot_dict_update dd.typeIs PySem.F.entry_dict_update (PySem.F.args_dict_update_2 _ _) (meets_dict_update (mixKind X.prog X.w) d o hne no) ⟨vs, rs, dd, dd2, by rw [← rel.length, ← rel2.length]; exact hz, fun h' d1 d2 hs => ?_⟩
  have he : ∃ q, h'.get? d = some q := let ⟨q, _, _, hq, _⟩ := d1; ⟨q, hq⟩
  have hl : (mergeK kvs more).length ≤ sizeLine := Nat.le_trans (length_mergeK more kvs) hz
  exact ⟨.non, _, d_write (t' := s.toks) I (by rw [hd]; exact True.intro) hs he (dk_new hl nd (KV.merge rel2 rel) d1), rfl, q⟩
/-- two pairs are told to a table by ints -/
def sUpd2 (i : Nat) (fk1 fv1 fk2 fv2 : Ev → R D) : Sm := fun ρ => match ρ[i]? with
  | some (some (.dk kvs)) => fk1 ρ >>= fun k1 => fv1 ρ >>= fun v1 => fk2 ρ >>= fun k2 => fv2 ρ >>= fun v2 => (match int? k1, int? k2 with
    | some n1, some n2 => if (kvs.length + 2 ≤ lim ∧ n1 ≠ n2) ∧ noL v1 = true ∧ noL v2 = true then .ok (.nx, ρ.set i (some (Sl.dk (putD (putD kvs n1 v1) n2 v2)))) else .bad
    | _, _ => .bad)
  | _ => .bad
theorem ds_upd2 {i : Nat} {k1 v1 k2 v2 : Expr} {fk1 fv1 fk2 fv2 : Ev → R D} {np apos cpos dp : Pos} (h1 : PE X k1 (tD Z fk1)) (h2 : PE X v1 (tD Z fv1)) (h3 : PE X k2 (tD Z fk2)) (h4 : PE X v2 (tD Z fv2))
    (hpe : PE X (.Call (.Attribute (.Name x np) "update" apos) [.Dict [some k1, some k2] [v1, v2] dp] [] cpos) (tBM X.K "dict" rUpdK (tVar i) (tCons (tDisp [(tD Z fk1, tD Z fv1), (tD Z fk2, tD Z fv2)]) tNil)))
    (hs : swapsWith (.Call (.Attribute (.Name x np) "update" apos) [.Dict [some k1, some k2] [v1, v2] dp] [] cpos) none pos.line X.env = pure false := by rfl) :
    PS X (.Expr (.Call (.Attribute (.Name x np) "update" apos) [.Dict [some k1, some k2] [v1, v2] dp] [] cpos) pos) (tS Z (sUpd2 i fk1 fv1 fk2 fv2)) := ps_weak (ps_expr hpe hs) fun E σ H h => by
  obtain ⟨O, B, ρ, ⟨W, s⟩, f⟩ := h
  unfold sUpd2 at f
  split at f
  · rename_i kvs e
    obtain ⟨p, o, w1, w2, w3, vs, rfl, r⟩ := s.own i _ e rfl
    refine ⟨.ref p, w2, .inr (.inr (.inl ⟨rfl, .inl ⟨vs, w3⟩⟩)), fun D0 nD => ?_⟩
    have s0 := s.up (same_new (o := .dK []) nD)
    refine st_eval s0 f fun k1 x1 H1 _ sm1 r1 s1 f1 => ?_
    refine st_eval s1 f1 fun v1 y1 H2 _ sm2 q1 s2 f2 => ?_
    refine st_eval s2 f2 fun k2 x2 H3 _ sm3 r2 s3 f3 => ?_
    refine st_eval s3 f3 fun v2 y2 H4 _ sm4 q2 s4 f4 => ?_
    have smD : Same (upd H D0 (.dK [])) H4 := ((sm1.trans sm2).trans sm3).trans sm4
    refine ⟨smD _ _ upd_same, ?_⟩
    cases e1 : int? k1 with
    | none => rw [e1] at f4; exact f4.elim
    | some n1 =>
      cases e2 : int? k2 with
      | none => rw [e1, e2] at f4; exact f4.elim
      | some n2 =>
        rw [e1, e2] at f4
        have f5 : Fin Z O B E (if (kvs.length + 2 ≤ lim ∧ n1 ≠ n2) ∧ noL v1 = true ∧ noL v2 = true then .ok (.nx, ρ.set i (some (Sl.dk (putD (putD kvs n1 v1) n2 v2)))) else .bad) := f4
        by_cases hc : (kvs.length + 2 ≤ lim ∧ n1 ≠ n2) ∧ noL v1 = true ∧ noL v2 = true
        · rw [if_pos hc] at f5
          have ek1 := int?_some _ _ e1
          have ek2 := int?_some _ _ e2
          subst ek1 ek2
          cases r1
          cases r2
          refine ⟨[(kI n1, y1), (kI n2, y2)], rfl, by show 2 ≤ 15; omega, ?_⟩
          obtain ⟨hc, n1', n2'⟩ := hc
          have pne : p ≠ D0 := ne_of_none w3 nD
          have em : mergeK [] [(kI n1, y1), (kI n2, y2)] = [(kI n1, y1), (kI n2, y2)] := by
            have hne : ¬ kI n1 = kI n2 := fun z => hc.2 (kI_inj _ _ z)
            simp [mergeK, putK, hne]
          rw [em]
          have sHq : Same H (upd H4 D0 (.dK [(kI n1, y1), (kI n2, y2)])) := fun b u hb => by
            rw [upd_ne (ne_of_none hb nD)]
            exact smD _ _ (by rw [upd_ne (ne_of_none hb nD)]; exact hb)
          have hD : D0 ∉ W.map (·.2) ++ O := fun z => s.pre.dom D0 z nD
          have sG := s.up sHq
          refine ⟨p, D0, vs, [(kI n1, y1), (kI n2, y2)], rfl, rfl, pne, ?_, upd_same, by rw [lim_eq, r.length]; exact hc.1, ?_⟩
          · exact sHq _ _ w3
          · refine f5 _ _ ⟨W, sG.chgG w1 w2 rfl ⟨_, rfl, ?_⟩⟩
            have see : ∀ {v : V} {d : D} {G : Hp}, Rp (hide (W.map (·.2) ++ O) G) v d → Same G H4 → noL d = true → Rp (hide (W.map (·.2) ++ O) (upd H4 D0 (.dK [(kI n1, y1), (kI n2, y2)]))) v d := by
              intro v d G r sm nl
              refine r.stay (fun b xs q => ?_) nl
              obtain ⟨q1, q2⟩ := hide_some q
              have q3 := sm _ _ q2
              rw [hide_out q1, upd_ne (fun z => ?_)]
              · exact q3
              · rw [z, smD _ _ upd_same] at q3; cases q3
            have z := ((r.mono (hide_mono sHq)).put kI_inj n1 (see q1 (sm3.trans sm4) n1')).put kI_inj n2 (see q2 (Same.refl _) n2')
            exact z
        · rw [if_neg hc] at f5; exact f5.elim
  · exact f.elim
end
end RL

set_option Elab.async false
set_option linter.all false
set_option maxRecDepth 100000
set_option maxHeartbeats 1000000
/-! # The D-layer: a chain of three comparisons; new lists of lists in a slot -/
namespace RL
open PySem PySem.Spec PyProof.Rows L2
section
variable {X : Cx} {Z : Zx} {a b c d : Expr} {ta tb tc td : TE} {pos : Pos} {fa fb fc fd : Ev → R D}
def tChain3 (r r' r2 : R2) (ta tb tc td : TE) : TE := fun σ H Q => ta σ H fun x H1 => tb σ H1 fun y H2 => r x y H2 fun z H3 => ∃ k, z = .bl k ∧
  (if k = true then tc σ H3 fun w' H4 => r' y w' H4 fun z' H5 => ∃ k', z' = .bl k' ∧ (if k' = true then td σ H5 fun w2 H6 => r2 w' w2 H6 Q else Q (.bl false) H5) else Q (.bl false) H3)
theorem pt_chain3 {op op' op2 : CmpOp} {r r' r2 : R2} (ho : OpR X (compareOp op) r) (ho' : OpR X (compareOp op') r') (ho2 : OpR X (compareOp op2) r2) (ha : PE X a ta) (hb : PE X b tb) (hc : PE X c tc) (hd : PE X d td)
    (hm : lastMarks [op, op', op2] [b, c, d] = false := by with_unfolding_all rfl) : PT X (.Compare a [op, op', op2] [b, c, d] pos) (tTest (tChain3 r r' r2 ta tb tc td)) := by
  refine ⟨fun pins s σ H Q I h => ?_⟩
  refine isTrue_chain (thn (ha.run pins s σ H _ I h) fun v s1 ⟨x, H1, I1, r1, q1⟩ => test_link (thn (hb.run pins s1 σ H1 _ I1 q1) fun u s2 ⟨y, H2, I2, r2, q2⟩ =>
    thn (ho pins s2 σ H2 x y v u _ I2 r1 r2 q2) fun d s3 ⟨z, H3, I3, r3, k, e, q3⟩ => ?_)) hm
  subst e
  cases r3
  refine wpAny_truthy_bool ?_
  cases k with
  | false =>
    obtain ⟨k', e', q'⟩ := q3
    cases e'
    exact ite_ff ⟨H3, I3, q'⟩
  | true =>
    refine ite_tt (test_link (thn (hc.run pins s3 σ H3 _ I3 q3) fun w' s4 ⟨z', H4, I4, r4, q4⟩ => thn (ho' pins s4 σ H4 y z' u w' _ I4 r2 r4 q4) fun d' s5 ⟨z2, H5, I5, r5, k2, e2, q5⟩ => ?_))
    subst e2
    cases r5
    refine wpAny_truthy_bool ?_
    cases k2 with
    | false =>
      obtain ⟨k', e', q'⟩ := q5
      cases e'
      exact ite_ff ⟨H5, I5, q'⟩
    | true =>
      refine ite_tt (test_last (thn (hd.run pins s5 σ H5 _ I5 q5) fun w2 s6 ⟨z3, H6, I6, r6, q6⟩ => thn (ho2 pins s6 σ H6 z' z3 w' w2 _ I6 r4 r6 q6) fun d2 s7 ⟨z4, H7, I7, r7, k3, e3, q7⟩ => ?_))
      subst e3
      cases r7
      exact wpAny_truthy_bool ⟨H7, I7, q7⟩
def eChain3 (f g h : Int → Int → Bool) (fa fb fc fd : Ev → R D) : Ev → R D := fun ρ => fa ρ >>= fun p => fb ρ >>= fun q => match p, q with
  | .int i, .int j => if f i j = true then fc ρ >>= fun r => (match r with | .int k => if g j k = true then fd ρ >>= fun s => (match s with | .int l => .ok (.bool (h k l)) | _ => .bad) else .ok (.bool false) | _ => .bad) else .ok (.bool false)
  | _, _ => .bad
theorem chain3_ok {f g h : Int → Int → Bool} (σ : L2.St) (H : Hp) (Q : VK) (hh : tD Z (eChain3 f g h fa fb fc fd) σ H Q) : tChain3 (rI0 fun i j => .bl (f i j)) (rI0 fun i j => .bl (g i j)) (rI0 fun i j => .bl (h i j)) (tD Z fa) (tD Z fb) (tD Z fc) (tD Z fd) σ H Q := by
  obtain ⟨O, ρ, hp, hh⟩ := hh
  refine ⟨O, ρ, hp, Pst.bind' hh fun p x H1 _ s1 h1 k1 => ?_⟩
  refine ⟨O, ρ, hp.mono s1, Pst.bind' k1 fun q y H2 _ s2 h2 k2 => ?_⟩
  cases h1 with
  | int i =>
    cases h2 with
    | int j =>
      refine ⟨i, j, rfl, rfl, f i j, rfl, ?_⟩
      have k3 : Pst Rp Z O H2 (if f i j = true then fc ρ >>= fun r => (match r with | .int k => if g j k = true then fd ρ >>= fun s => (match s with | .int l => .ok (.bool (h k l)) | _ => .bad) else .ok (.bool false) | _ => .bad) else .ok (.bool false)) Q := k2
      by_cases e : f i j = true
      · rw [if_pos e] at k3
        rw [if_pos e]
        refine ⟨O, ρ, hp.mono (s1.trans s2), Pst.bind' k3 fun r z H3 _ s3 h3 k4 => ?_⟩
        cases h3 with
        | int k =>
          refine ⟨j, k, rfl, rfl, g j k, rfl, ?_⟩
          have k5 : Pst Rp Z O H3 (if g j k = true then fd ρ >>= fun s => (match s with | .int l => .ok (.bool (h k l)) | _ => .bad) else .ok (.bool false)) Q := k4
          by_cases e2 : g j k = true
          · rw [if_pos e2] at k5
            rw [if_pos e2]
            refine ⟨O, ρ, hp.mono ((s1.trans s2).trans s3), Pst.bind' k5 fun t z4 H4 _ s4 h4 k6 => ?_⟩
            cases h4 with
            | int l => exact ⟨k, l, rfl, rfl, pst_ok k6 (Same.refl _) (.bl _)⟩
            | _ => exact k6.elim
          · rw [if_neg e2] at k5
            rw [if_neg e2]
            exact pst_ok k5 (Same.refl _) (.bl _)
        | _ => exact k4.elim
      · rw [if_neg e] at k3
        rw [if_neg e]
        exact pst_ok k3 (Same.refl _) (.bl _)
    | _ => exact k2.elim
  | _ => cases h2 <;> exact k2.elim
theorem dt_chLeLtLt (ha : PE X a (tD Z fa)) (hb : PE X b (tD Z fb)) (hc : PE X c (tD Z fc)) (hd : PE X d (tD Z fd)) (hm : lastMarks [.LtE, .Lt, .Lt] [b, c, d] = false := by with_unfolding_all rfl) : PT X (.Compare a [.LtE, .Lt, .Lt] [b, c, d] pos) (tB' Z (eB (eChain3 fLe fLt fLt fa fb fc fd))) := pt_weak (pt_chain3 op_le op_lt op_lt ha hb hc hd hm) fun σ H Q h => chain3_ok σ H _ (tst_ok σ H Q h)
end
section
variable {X : Cx} {Z : Zx} {elt tg iter : Expr} {ifs : List Expr} {scope : Scope} {own : List (Str × Nat)} {pos spos py : Pos} {wi : Ev → R (List D)} {t : D → Ev → R Ev} {c : Ev → R Bool} {f : Ev → R D} {i : Nat} {y : Str}
theorem ds_setFLc (is : List Nat) (hc : X.calm = true) (hN : X.N.Nodup) (hy : X.N[i]? = some y) (hyl : X.env.scope.names.lookup y = some .local)
    (hsw : swapsWith (.ListComp elt [⟨tg, iter, ifs, 0⟩] scope pos) (some (.Name y py)) spos.line X.env = pure true) (hi : PI X tg iter (tI Z wi)) (ok : blkC X.N X.env.scope scope own = true)
    (hg : ∀ (s : Shared) (H : Hp) (C : Addr) (cl : List (Str × Addr)) (fp : List Addr), PG (X.blk s H scope (compEnvC scope cl C X.env) fp) tg (gD Z.K t (own.map (·.2))))
    (ht : ∀ (s : Shared) (H : Hp) (C : Addr) (cl : List (Str × Addr)) (fp : List Addr), PTs (X.blk s H scope (compEnvC scope cl C X.env) fp) ifs (tB' Z.nox c))
    (he : ∀ (s : Shared) (H : Hp) (C : Addr) (cl : List (Str × Addr)) (fp : List Addr), PE (X.blk s H scope (compEnvC scope cl C X.env) fp) elt (tF Z.nox f)) (hs : ∀ x, foldedSetIterable iter X.env x = pure x := by intro _; rfl) :
    PS X (.Assign [.Name y py] (.ListComp elt [⟨tg, iter, ifs, 0⟩] scope pos) spos) (tS Z (sSetF i is (eLc wi t c f (own.map (·.2))))) :=
  ps_weak (ps_setLc hc hN hy hyl hsw hi (blkOk_by ok) hg ht he hs) fun E σ H h => by
    obtain ⟨O, B, ρ, ⟨W, s⟩, f⟩ := h
    refine lcF_ok _ _ _ (st_lendF is s f fun d w H1 W' e sm r f1 => ?_)
    exact f1 _ H1 ⟨W, (s.up sm).setFr ((s.freshRp sm r).rp s.pre.dom)⟩
theorem ds_treeLc (is : List Nat) (hc : X.calm = true) (hN : X.N.Nodup) (hy : X.N[i]? = some y) (hyl : X.env.scope.names.lookup y = some .local)
    (hsw : swapsWith (.ListComp elt [⟨tg, iter, ifs, 0⟩] scope pos) (some (.Name y py)) spos.line X.env = pure true) (hi : PI X tg iter (tI Z wi)) (ok : blkC X.N X.env.scope scope own = true)
    (hg : ∀ (s : Shared) (H : Hp) (C : Addr) (cl : List (Str × Addr)) (fp : List Addr), PG (X.blk s H scope (compEnvC scope cl C X.env) fp) tg (gD Z.K t (own.map (·.2))))
    (ht : ∀ (s : Shared) (H : Hp) (C : Addr) (cl : List (Str × Addr)) (fp : List Addr), PTs (X.blk s H scope (compEnvC scope cl C X.env) fp) ifs (tB' Z.nox c))
    (he : ∀ (s : Shared) (H : Hp) (C : Addr) (cl : List (Str × Addr)) (fp : List Addr), PE (X.blk s H scope (compEnvC scope cl C X.env) fp) elt (tF Z.nox f)) (hs : ∀ x, foldedSetIterable iter X.env x = pure x := by intro _; rfl) :
    PS X (.Assign [.Name y py] (.ListComp elt [⟨tg, iter, ifs, 0⟩] scope pos) spos) (tS Z (sTreeB i is (eLc wi t c f (own.map (·.2))))) :=
  ps_weak (ps_setLc hc hN hy hyl hsw hi (blkOk_by ok) hg ht he hs) fun E σ H h => by
    obtain ⟨O, B, ρ, ⟨W, s⟩, f⟩ := h
    refine lcF_ok _ _ _ (st_lendF is s f fun d w H1 W' e sm r f1 => ?_)
    exact f1 _ H1 (s.treeNew sm (s.freshRp sm r))
end
end RL

set_option Elab.async false
set_option linter.all false
set_option maxRecDepth 100000
set_option maxHeartbeats 1000000
/-! # The D-layer: a law's end -/
namespace RL
open PySem PySem.Spec PyProof.Rows L2
theorem walkW {l : PySem.W.OpenLaw} {n k : Nat} {q : Program} {loose : List Str} {XP : (Str → Option Value) → Heap → Prop} {YP : World → Heap → Prop} {d : DefRec} {CX : World → CXT} {x : Str} (hmost : l.most = some n) (hsize : n ≤ sizeLine) (hdefs : d.params.defaults = []) (room : Room k callerA)
    (F : ∀ (w : World) (mg : Str → Option Value) (fa : Addr) (h : Heap), YP w h → h.Ns mainGlobals mg → mg d.name = some (.ref fa) → ∃ (K : PySem.W.Frag) (fd : FuncData) (sp : Sp), K.In h ∧ (∀ (s : Shared) (u : Value), BindsTo s fd ⟨[u], []⟩ [(x, u)]) ∧
      (∀ (H : Hp) (a : Addr) (ns : List Int), ns.length ≤ n → Only H → SqL K H a (ns.map V.int) → sp [.ref a] H (fun v _ => v = .bl true) fun _ _ _ => False) ∧ ∀ base : Heap, K.In base → base.Ns mainGlobals mg → FnOk l.prog w K mg base (CX w) k fa fd [x] sp)
    (none_out : ∀ (w : World) (H : Hp) (s : Shared) (e : Value) (s' : Shared), CX w [] H s (fun _ _ _ => False) e s' → False) : PySem.W.WalkO q loose XP YP l.row.toRowW d [] (fun f vs => PySem.call f vs) := by
  apply Att.attach_call hmost hdefs
  intro w sA sB mg mb fa o pm cd doc a vs ns G Y ho hd hcd hname hobj hints hlen hg
  obtain ⟨K, fd, sp, KX, binds, keeps, fn⟩ := F w mg fa _ Y G.T.g hname
  refine law_call KX G.T.g G.T.b G.T.builtins G.T.nolimit hg hobj hints (Nat.le_trans hlen hsize) room fn binds (fun H hO hS => keeps H a ns hlen hO hS) ?_
  exact fun H e s' z => none_out w H sB e s' z
/-- a law that comes to True -/
theorem lawDone {K : PySem.W.Frag} {cl : Nat → Addr} {F : List Int → List D → R D} {ns : List Int} {H : Hp} {a : Addr} (h : F ns [] = .ok (.bool true)) (hS : SqL K H a (ns.map V.int)) : spS K cl 0 F [.ref a] H (fun v _ => v = .bl true) fun _ _ _ => False := by
  refine ⟨rfl, [], a, [], ns, [], rfl, fun p hp => (by cases hp), by rw [hide_nil]; exact hS, .nil, ?_⟩
  rw [h]
  intro w H' s r
  cases r
  rfl
end RL

set_option Elab.async false
set_option linter.all false
set_option maxRecDepth 100000
set_option maxHeartbeats 1000000
/-! # The D-layer: readings of typed data -/
namespace RL
open PySem

/-! ### pieces -/
theorem sSeq_nx {g h : Sm} {ρ ρ' : Ev} (e : g ρ = .ok (.nx, ρ')) : sSeq g h ρ = h ρ' := by unfold sSeq; rw [e] <;> rfl
theorem sSeq_to {g h : Sm} {ρ ρ' : Ev} {r : R (Fl × Ev)} (e : g ρ = .ok (.nx, ρ')) (k : h ρ' = r) : sSeq g h ρ = r := (sSeq_nx e).trans k
theorem sSeq_ret {g h : Sm} {ρ ρ' : Ev} {d : D} (e : g ρ = .ok (.ret d, ρ')) : sSeq g h ρ = .ok (.ret d, ρ') := by unfold sSeq; rw [e] <;> rfl
theorem sSeq_exc {g h : Sm} {ρ : Ev} {c : Nat} (e : g ρ = .exc c) : sSeq g h ρ = .exc c := by unfold sSeq; rw [e] <;> rfl
theorem sSet_ok {i : Nat} {fe : Ev → R D} {ρ : Ev} {d : D} (e : fe ρ = .ok d) : sSet i fe ρ = .ok (.nx, ρ.set i (some (Sl.fr d))) := by unfold sSet; rw [e] <;> rfl
theorem sSet_exc {i : Nat} {fe : Ev → R D} {ρ : Ev} {c : Nat} (e : fe ρ = .exc c) : sSet i fe ρ = .exc c := by unfold sSet; rw [e] <;> rfl
theorem sRet_ok {fe : Ev → R D} {ρ : Ev} {d : D} (e : fe ρ = .ok d) : sRet fe ρ = .ok (.ret d, ρ) := by unfold sRet; rw [e] <;> rfl
theorem sRetF_ok {fe : Ev → R D} {ρ : Ev} {d : D} (e : fe ρ = .ok d) : sRetF fe ρ = .ok (.retF d, ρ) := by unfold sRetF; rw [e] <;> rfl
theorem sExpr_ok {fe : Ev → R D} {ρ : Ev} {d : D} (e : fe ρ = .ok d) : sExpr fe ρ = .ok (.nx, ρ) := by unfold sExpr; rw [e] <;> rfl
theorem sExpr_exc {fe : Ev → R D} {ρ : Ev} {c : Nat} (e : fe ρ = .exc c) : sExpr fe ρ = .exc c := by unfold sExpr; rw [e] <;> rfl
theorem sIf_t {c : Ev → R Bool} {g h : Sm} {ρ : Ev} (e : c ρ = .ok true) : sIf c g h ρ = g ρ := by unfold sIf; rw [e] <;> rfl
theorem sIf_f {c : Ev → R Bool} {g h : Sm} {ρ : Ev} (e : c ρ = .ok false) : sIf c g h ρ = h ρ := by unfold sIf; rw [e] <;> rfl
theorem sIfB_t {is : List Nat} {c : Ev → R Bool} {g h : Sm} {ρ : Ev} (e : c (frz ρ is) = .ok true) : sIfB is c g h ρ = g ρ := by unfold sIfB; rw [e] <;> rfl
theorem sIfB_f {is : List Nat} {c : Ev → R Bool} {g h : Sm} {ρ : Ev} (e : c (frz ρ is) = .ok false) : sIfB is c g h ρ = h ρ := by unfold sIfB; rw [e] <;> rfl
theorem sTreeB_ok {i : Nat} {is : List Nat} {fe : Ev → R D} {ρ : Ev} {d : D} (e : fe (frz ρ is) = .ok d) : sTreeB i is fe ρ = .ok (.nx, ρ.set i (some (Sl.od d))) := by unfold sTreeB; rw [e] <;> rfl
theorem sSetF_ok {i : Nat} {is : List Nat} {fe : Ev → R D} {ρ : Ev} {d : D} (e : fe (frz ρ is) = .ok d) : sSetF i is fe ρ = .ok (.nx, ρ.set i (some (Sl.fr d))) := by unfold sSetF; rw [e] <;> rfl
theorem sSetB_ok {i : Nat} {is : List Nat} {fe : Ev → R D} {ρ : Ev} {d : D} (e : fe (frz ρ is) = .ok d) (n : noL d = true) : sSetB i is fe ρ = .ok (.nx, ρ.set i (some (Sl.fr d))) := by
  unfold sSetB
  rw [e, R.ok_bind, if_pos n]
theorem sFor_ok {wi : Ev → R (List D)} {t : D → Ev → R Ev} {ws : List Nat} {g : Sm} {ρ : Ev} {ds : List D} (e : wi ρ = .ok ds) : sFor wi t ws g ρ = loop t g ws ds ρ := by unfold sFor; rw [e] <;> rfl
theorem sOl_ok {i : Nat} {m : List D → D → Option (List D)} {fe : Ev → R D} {ρ : Ev} {ds es : List D} {d : D} (h : ρ[i]? = some (some (Sl.ol ds))) (e : fe ρ = .ok d) (em : m ds d = some es) : sOl i m fe ρ = .ok (.nx, ρ.set i (some (Sl.ol es))) := by
  unfold sOl
  rw [h]
  show (fe ρ >>= fun d => optR (m ds d) >>= fun es => R.ok (Fl.nx, ρ.set i (some (Sl.ol es)))) = _
  rw [e, R.ok_bind, em] <;> rfl
theorem mAppend_ok {ds : List D} {d : D} (h : ds.length < lim) : mAppend ds d = some (ds ++ [d]) := if_pos h
theorem mExtend_ok {ds es : List D} (h : ds.length + es.length ≤ lim) : mExtend ds (.list es) = some (ds ++ es) := if_pos h
theorem eFn_ok {n : Nat} {F : List D → R D} {fs : Ev → R (List D)} {ρ : Ev} {ds : List D} (e : fs ρ = .ok ds) (h : ds.length = n) : eFn n F fs ρ = F ds := by
  unfold eFn
  rw [e, R.ok_bind, if_pos h]
theorem eFn_to {n : Nat} {F : List D → R D} {fs : Ev → R (List D)} {ρ : Ev} {r : R D} (ds : List D) (k : F ds = r) (e : fs ρ = .ok ds) (h : ds.length = n) : eFn n F fs ρ = r := (eFn_ok e h).trans k
theorem eFnS_ok {i n : Nat} {F : List Int → List D → R D} {fs : Ev → R (List D)} {ρ : Ev} {ns : List Int} {ds : List D} (h : ρ[i]? = some (some (Sl.scr ns))) (e : fs ρ = .ok ds) (hl : ds.length = n) : eFnS i n F fs ρ = F ns ds := by
  unfold eFnS scrAt
  rw [h]
  show (fs ρ >>= fun ds => if ds.length = n then F ns ds else R.bad) = _
  rw [e, R.ok_bind, if_pos hl]
theorem runD_ret {N : Nat} {g : Sm} {ds : List D} {d : D} {ρ : Ev} (e : g (startE N ds) = .ok (.ret d, ρ)) : runD N g ds = .ok d := by unfold runD; rw [e]
theorem runD_nx {N : Nat} {g : Sm} {ds : List D} {ρ : Ev} (e : g (startE N ds) = .ok (.nx, ρ)) : runD N g ds = .ok .none := by unfold runD; rw [e]
theorem runD_exc {N : Nat} {g : Sm} {ds : List D} {c : Nat} (e : g (startE N ds) = .exc c) : runD N g ds = .exc c := by unfold runD; rw [e]
theorem runF_ret {N : Nat} {g : Sm} {ds : List D} {d : D} {ρ : Ev} (e : g (startE N ds) = .ok (.retF d, ρ)) : runF N g ds = .ok d := by unfold runF; rw [e]
theorem runF_exc {N : Nat} {g : Sm} {ds : List D} {c : Nat} (e : g (startE N ds) = .exc c) : runF N g ds = .exc c := by unfold runF; rw [e]
theorem runS_ret {N : Nat} {g : Sm} {ns : List Int} {ds : List D} {d : D} {ρ : Ev} (e : g (startS N ns ds) = .ok (.ret d, ρ)) : runS N g ns ds = .ok d := by unfold runS; rw [e]

/-! ### walks -/
theorem lcGo_map {α : Type} {t : D → Ev → R Ev} {c : Ev → R Bool} {f : Ev → R D} {ρ : Ev} (enc : α → D) (ρx : α → Ev) (p : α → Bool) (g : α → D) : ∀ (xs : List α), (∀ x ∈ xs, t (enc x) ρ = .ok (ρx x)) → (∀ x ∈ xs, c (ρx x) = .ok (p x)) → (∀ x ∈ xs, p x = true → f (ρx x) = .ok (g x)) →
    lcGo t c f ρ (xs.map enc) = .ok ((xs.filter p).map g)
  | [], _, _, _ => rfl
  | x :: xs, h1, h2, h3 => by
    have ih := lcGo_map enc ρx p g xs (fun y hy => h1 y (List.mem_cons_of_mem _ hy)) (fun y hy => h2 y (List.mem_cons_of_mem _ hy)) (fun y hy => h3 y (List.mem_cons_of_mem _ hy))
    rw [List.map_cons, lcGo, h1 x List.mem_cons_self]
    show (noX (c (ρx x)) >>= fun k => if k = true then noX (f (ρx x)) >>= fun y => lcGo t c f ρ (xs.map enc) >>= fun ys => R.ok (y :: ys) else lcGo t c f ρ (xs.map enc)) = _
    rw [h2 x List.mem_cons_self, ih]
    show (if p x = true then noX (f (ρx x)) >>= fun y => R.ok (y :: (xs.filter p).map g) else R.ok ((xs.filter p).map g)) = _
    by_cases e : p x = true
    · rw [if_pos e, h3 x List.mem_cons_self e, List.filter_cons_of_pos e] <;> rfl
    · rw [if_neg e, List.filter_cons_of_neg e]
theorem eLc_map {α : Type} {wi : Ev → R (List D)} {t : D → Ev → R Ev} {c : Ev → R Bool} {f : Ev → R D} {vs : List Nat} {ρ : Ev} (enc : α → D) (ρx : α → Ev) (p : α → Bool) (g : α → D) (xs : List α) (hw : wi ρ = .ok (xs.map enc)) (hl : xs.length ≤ lim)
    (h1 : ∀ x ∈ xs, t (enc x) (wipeE ρ vs) = .ok (ρx x)) (h2 : ∀ x ∈ xs, c (ρx x) = .ok (p x)) (h3 : ∀ x ∈ xs, p x = true → f (ρx x) = .ok (g x)) : eLc wi t c f vs ρ = .ok (.list ((xs.filter p).map g)) := by
  unfold eLc
  rw [hw, R.ok_bind, if_pos (by rw [List.length_map]; exact hl), lcGo_map enc ρx p g xs h1 h2 h3] <;> rfl
theorem eLc_all {α : Type} {wi : Ev → R (List D)} {t : D → Ev → R Ev} {f : Ev → R D} {vs : List Nat} {ρ : Ev} (enc : α → D) (ρx : α → Ev) (g : α → D) (xs : List α) (hw : wi ρ = .ok (xs.map enc)) (hl : xs.length ≤ lim)
    (h1 : ∀ x ∈ xs, t (enc x) (wipeE ρ vs) = .ok (ρx x)) (h3 : ∀ x ∈ xs, f (ρx x) = .ok (g x)) : eLc wi t cYes f vs ρ = .ok (.list (xs.map g)) := by
  rw [eLc_map enc ρx (fun _ => true) g xs hw hl h1 (fun _ _ => rfl) fun x hx _ => h3 x hx, List.filter_eq_self.mpr fun _ _ => rfl]
theorem loop_fold {α β : Type} {t : D → Ev → R Ev} {g : Sm} {ws : List Nat} (enc : α → D) (st : β → Ev) (step : β → α → β) (P : β → List α → Prop) : ∀ (xs : List α) (b : β), P b xs → (∀ b x xs, P b (x :: xs) → ∃ ρ1 ρ2, t (enc x) (st b) = .ok ρ1 ∧ g ρ1 = .ok (.nx, ρ2) ∧ wipeE ρ2 ws = st (step b x) ∧ P (step b x) xs) →
    loop t g ws (xs.map enc) (st b) = .ok (.nx, st (xs.foldl step b))
  | [], b, _, _ => rfl
  | x :: xs, b, hP, h => by
    obtain ⟨ρ1, ρ2, h1, h2, h3, h4⟩ := h b x xs hP
    rw [List.map_cons, loop, h1]
    show (g ρ1 >>= _) = _
    rw [h2]
    show loop t g ws (xs.map enc) (wipeE ρ2 ws) = _
    rw [h3, loop_fold enc st step P xs (step b x) h4 h] <;> rfl
/-- a walk that appends -/
theorem loop_app {α : Type} {t : D → Ev → R Ev} {g : Sm} {ws : List Nat} (enc : α → D) (st : List D → Ev) (k : α → D) (xs : List α) (h : ∀ b x, x ∈ xs → b.length < xs.length → ∃ ρ1 ρ2, t (enc x) (st b) = .ok ρ1 ∧ g ρ1 = .ok (.nx, ρ2) ∧ wipeE ρ2 ws = st (b ++ [k x])) :
    loop t g ws (xs.map enc) (st []) = .ok (.nx, st (xs.map k)) := by
  have q := loop_fold (t := t) (g := g) (ws := ws) enc st (fun b x => b ++ [k x]) (fun b ys => b.length + ys.length = xs.length ∧ ∀ y ∈ ys, y ∈ xs) xs [] ⟨by simp, fun _ h => h⟩ fun b x ys hP => by
    obtain ⟨ρ1, ρ2, h1, h2, h3⟩ := h b x (hP.2 x List.mem_cons_self) (by have := hP.1; rw [List.length_cons] at this; omega)
    exact ⟨ρ1, ρ2, h1, h2, h3, by rw [List.length_append, List.length_singleton]; have := hP.1; rw [List.length_cons] at this; omega, fun y hy => hP.2 y (List.mem_cons_of_mem _ hy)⟩
  have e : ∀ (ys : List α) (b : List D), ys.foldl (fun b x => b ++ [k x]) b = b ++ ys.map k := by
    intro ys
    induction ys with
    | nil => intro b; simp
    | cons y ys ih => intro b; rw [List.foldl_cons, ih, List.map_cons, List.append_assoc]; rfl
  rw [q, e, List.nil_append]

/-! ### equality of typed data -/
theorem shaped_int (i : Int) : SeqAt.shaped (.int i) = true := by simp [SeqAt.shaped, PyData.canLay0, PyData.depth]
theorem dEq_int (i j : Int) : dEq (.int i) (.int j) = .ok (decide (i = j)) := by
  show (if SeqAt.shaped (.int i) && SeqAt.shaped (.int j) then R.ok (PyData.eqv (.int i) (.int j)) else .bad) = _
  rw [shaped_int, shaped_int, PyData.eqv]
  by_cases e : i = j <;> simp [e]
theorem dEqV_int (i j : Int) : dEqV (.int i) (.int j) = .ok (.bool (decide (i = j))) := by unfold dEqV; rw [dEq_int] <;> rfl
theorem dNeV_int (i j : Int) : dNeV (.int i) (.int j) = .ok (.bool (!decide (i = j))) := by unfold dNeV; rw [dEq_int] <;> rfl
theorem eqvAll_map {α : Type} [DecidableEq α] {enc : α → D} (he : ∀ x y, PyData.eqv (enc x) (enc y) = decide (x = y)) : ∀ xs ys : List α, PyData.eqvAll (xs.map enc) (ys.map enc) = decide (xs = ys)
  | [], [] => by simp [PyData.eqvAll]
  | [], _ :: _ => by simp [PyData.eqvAll]
  | _ :: _, [] => by simp [PyData.eqvAll]
  | x :: xs, y :: ys => by
    rw [List.map_cons, List.map_cons, PyData.eqvAll, he, eqvAll_map he xs ys]
    by_cases e : x = y <;> by_cases e2 : xs = ys <;> simp [e, e2]
theorem eqv_int (i j : Int) : PyData.eqv (.int i) (.int j) = decide (i = j) := by
  rw [PyData.eqv]
  by_cases e : i = j <;> simp [e]
theorem eqv_pD (p q : Int × Int) : PyData.eqv (pD p) (pD q) = decide (p = q) := by
  obtain ⟨a, b⟩ := p
  obtain ⟨c, d⟩ := q
  unfold pD
  rw [PyData.eqv, PyData.eqvAll, PyData.eqvAll, PyData.eqvAll, eqv_int, eqv_int]
  by_cases e : a = c <;> by_cases e2 : b = d <;> simp [e, e2]
abbrev Game : Type := Int × Int
/-- a round, rounds as data -/
abbrev gD' (g : List Game) : D := .list (g.map pD)
abbrev rD (rs : List (List Game)) : D := .list (rs.map gD')
theorem eqv_gD (g h : List Game) : PyData.eqv (gD' g) (gD' h) = decide (g = h) := by rw [PyData.eqv, eqvAll_map eqv_pD]
theorem eqv_rD (r s : List (List Game)) : PyData.eqv (rD r) (rD s) = decide (r = s) := by rw [PyData.eqv, eqvAll_map eqv_gD]
theorem lay_map {α : Type} {enc : α → D} (h : ∀ x, PyData.canLay0 (enc x) = true) : ∀ xs : List α, PyData.canLayAll0 (xs.map enc) = true
  | [] => by simp [PyData.canLayAll0]
  | x :: xs => by rw [List.map_cons, PyData.canLayAll0, h, lay_map h xs] <;> rfl
theorem depth_map {α : Type} {enc : α → D} {n : Nat} (h : ∀ x, PyData.depth (enc x) ≤ n) : ∀ xs : List α, PyData.depthAll (xs.map enc) ≤ n
  | [] => by simp [PyData.depthAll]
  | x :: xs => by
    rw [List.map_cons, PyData.depthAll]
    exact Nat.max_le.mpr ⟨h x, depth_map h xs⟩
theorem lay_pD (p : Game) : PyData.canLay0 (pD p) = true := by simp [pD, PyData.canLay0, PyData.canLayAll0]
theorem depth_pD (p : Game) : PyData.depth (pD p) ≤ 2 := by simp [pD, PyData.depth, PyData.depthAll]
theorem lay_gD (g : List Game) : PyData.canLay0 (gD' g) = true := by rw [PyData.canLay0]; exact lay_map lay_pD g
theorem depth_gD (g : List Game) : PyData.depth (gD' g) ≤ 3 := by
  have := depth_map depth_pD g
  simp only [PyData.depth]
  omega
theorem lay_rD (r : List (List Game)) : PyData.canLay0 (rD r) = true := by rw [PyData.canLay0]; exact lay_map lay_gD r
theorem depth_rD (r : List (List Game)) : PyData.depth (rD r) ≤ 4 := by
  have := depth_map depth_gD r
  simp only [PyData.depth]
  omega
theorem shaped_of {d : D} {n : Nat} (h : PyData.canLay0 d = true) (k : PyData.depth d ≤ n) (hn : n ≤ 64 := by decide) : SeqAt.shaped d = true := by
  unfold SeqAt.shaped
  rw [h, decide_eq_true (Nat.le_trans k hn)] <;> rfl
theorem shaped_pD (p : Game) : SeqAt.shaped (pD p) = true := shaped_of (lay_pD p) (depth_pD p)
theorem shaped_gD (g : List Game) : SeqAt.shaped (gD' g) = true := shaped_of (lay_gD g) (depth_gD g)
theorem shaped_rD (r : List (List Game)) : SeqAt.shaped (rD r) = true := shaped_of (lay_rD r) (depth_rD r)
theorem dEq_list {ds es : List D} (h : SeqAt.shaped (.list ds) = true) (k : SeqAt.shaped (.list es) = true) : dEq (.list ds) (.list es) = .ok (PyData.eqv (.list ds) (.list es)) := by
  show (if SeqAt.shaped (.list ds) && SeqAt.shaped (.list es) then R.ok (PyData.eqv (.list ds) (.list es)) else .bad) = _
  rw [h, k] <;> rfl
theorem dEq_rD (r s : List (List Game)) : dEq (rD r) (rD s) = .ok (decide (r = s)) := by rw [dEq_list (shaped_rD r) (shaped_rD s), eqv_rD]
theorem dEqV_rD (r s : List (List Game)) : dEqV (rD r) (rD s) = .ok (.bool (decide (r = s))) := by unfold dEqV; rw [dEq_rD] <;> rfl
theorem dNeV_rD (r s : List (List Game)) : dNeV (rD r) (rD s) = .ok (.bool (!decide (r = s))) := by unfold dNeV; rw [dEq_rD] <;> rfl
theorem eBin_ok {g : D → D → R D} {fa fb : Ev → R D} {ρ : Ev} {a b : D} (ha : fa ρ = .ok a) (hb : fb ρ = .ok b) : eBin g fa fb ρ = g a b := by unfold eBin; rw [ha, R.ok_bind, hb] <;> rfl
theorem eB_ok {f : Ev → R D} {ρ : Ev} {b : Bool} (h : f ρ = .ok (.bool b)) : eB f ρ = .ok b := by unfold eB; rw [h] <;> rfl
end RL
namespace RL
open PySem
theorem enumD_map {α : Type} (f : α → D) : ∀ (xs : List α) (k : Nat), enumD k (xs.map f) = (xs.zipIdx k).map fun p => .tuple [.int ((p.2 : Nat) : Int), f p.1]
  | [], _ => rfl
  | x :: xs, k => by rw [List.map_cons, enumD, enumD_map f xs (k + 1), List.zipIdx_cons, List.map_cons]
theorem zipD_map {α β : Type} (f : α → D) (g : β → D) : ∀ (xs : List α) (ys : List β), zipD (xs.map f) (ys.map g) = (xs.zip ys).map fun p => .tuple [f p.1, g p.2]
  | [], _ => rfl
  | _ :: _, [] => rfl
  | x :: xs, y :: ys => by rw [List.map_cons, List.map_cons, zipD, zipD_map f g xs ys, List.zip_cons_cons, List.map_cons]
theorem cutD_from {α : Type} (xs : List α) (k : Nat) : cutD xs (some (k : Int)) none = xs.drop k := by
  unfold cutD
  rw [HT.sIx_none, HT.sIx_nat]
  by_cases h : k ≤ xs.length
  · rw [Nat.min_eq_left h, List.take_of_length_le (by rw [List.length_drop]; exact Nat.le_refl _)]
  · rw [Nat.min_eq_right (by omega), List.drop_length, List.drop_eq_nil_of_le (by omega)] <;> simp
theorem cutD_to {α : Type} (xs : List α) (k : Nat) : cutD xs none (some (k : Int)) = xs.take k := by
  unfold cutD
  rw [HT.sIx_none, HT.sIx_nat, List.drop_zero, Nat.sub_zero]
  by_cases h : k ≤ xs.length
  · rw [Nat.min_eq_left h]
  · rw [Nat.min_eq_right (by omega), List.take_length, List.take_of_length_le (by omega)]
theorem atI_nat {α : Type} {xs : List α} {i : Nat} {x : α} (h : xs[i]? = some x) : L2.atI xs (i : Int) = some x := by
  have lt := (List.getElem?_eq_some_iff.mp h).1
  unfold L2.atI L2.ixN
  rw [if_pos (by omega), if_pos (by omega)]
  show xs[((i : Nat) : Int).toNat]? = some x
  rw [Int.toNat_natCast]
  exact h
theorem dIx_list {xs : List D} {i : Nat} {x : D} (h : xs[i]? = some x) : dIx (.list xs) (.int (i : Nat)) = .ok x := by
  show optR (L2.atI xs (i : Int)) = _
  rw [atI_nat h] <;> rfl
end RL
namespace RL
open PySem
theorem eCall1 {g : D → R D} {f : Ev → R D} {ρ : Ev} {d : D} {r : R D} (e : f ρ = .ok d) (k : g d = r) : eCall (dOne g) (aCons f aNil) ρ = r := by
  unfold eCall aCons
  rw [e]
  exact k
theorem aCons_ok {f : Ev → R D} {fs : Ev → R (List D)} {ρ : Ev} {d : D} {ds : List D} (e : f ρ = .ok d) (h : fs ρ = .ok ds) : aCons f fs ρ = .ok (d :: ds) := by
  unfold aCons
  rw [e, R.ok_bind, h] <;> rfl
end RL
namespace RL
open PySem
theorem eFnS_to {i n : Nat} {F : List Int → List D → R D} {fs : Ev → R (List D)} {ρ : Ev} {r : R D} (ns : List Int) (ds : List D) (k : F ns ds = r) (h : ρ[i]? = some (some (Sl.scr ns))) (e : fs ρ = .ok ds) (hl : ds.length = n) : eFnS i n F fs ρ = r := (eFnS_ok h e hl).trans k
end RL

set_option Elab.async false
set_option linter.all false
set_option maxRecDepth 100000
set_option maxHeartbeats 0
namespace RL
open PySem PySem.Spec PyProof.Rows L2
def tp (i : Nat) : Stmt := PySem.Challenge.pw_roundlist_k01_whole_lists_made.main.body.getD i (.Pass ⟨0, 0, 0, 0⟩)
abbrev st_is_among : Stmt := tp 6
def dd_is_among : He.DefD := ⟨("is_among", none), "is_among", "is_among", defArgs st_is_among, defBody st_is_among, defScope st_is_among, [], []⟩
abbrev st_need_clubs : Stmt := tp 7
def dd_need_clubs : He.DefD := ⟨("need_clubs", none), "need_clubs", "need_clubs", defArgs st_need_clubs, defBody st_need_clubs, defScope st_need_clubs, [], []⟩
abbrev st_round_of : Stmt := tp 9
def dd_round_of : He.DefD := ⟨("round_of", none), "round_of", "round_of", defArgs st_round_of, defBody st_round_of, defScope st_round_of, [], []⟩
abbrev st_once_round : Stmt := tp 10
def dd_once_round : He.DefD := ⟨("once_round", none), "once_round", "once_round", defArgs st_once_round, defBody st_once_round, defScope st_once_round, [], []⟩
abbrev st_twice_round : Stmt := tp 11
def dd_twice_round : He.DefD := ⟨("twice_round", none), "twice_round", "twice_round", defArgs st_twice_round, defBody st_twice_round, defScope st_twice_round, [], []⟩
abbrev st_least_breaks : Stmt := tp 12
def dd_least_breaks : He.DefD := ⟨("least_breaks", none), "least_breaks", "least_breaks", defArgs st_least_breaks, defBody st_least_breaks, defScope st_least_breaks, [], []⟩
abbrev st_law_draw : Stmt := tp 14
def dd_law_draw : He.DefD := ⟨("_law_draw", none), "_law_draw", "_law_draw", defArgs st_law_draw, defBody st_law_draw, defScope st_law_draw, [], []⟩
abbrev st_law_whole : Stmt := tp 15
def dd_law_whole : He.DefD := ⟨("_law_whole", none), "_law_whole", "_law_whole", defArgs st_law_whole, defBody st_law_whole, defScope st_law_whole, [], []⟩
abbrev st_law_told : Stmt := tp 16
def dd_law_told : He.DefD := ⟨("_law_told", none), "_law_told", "_law_told", defArgs st_law_told, defBody st_law_told, defScope st_law_told, [], []⟩
abbrev st_law_is : Stmt := tp 17
def dd_law_is : He.DefD := ⟨("_law_is", none), "_law_is", "_law_is", defArgs st_law_is, defBody st_law_is, defScope st_law_is, [], []⟩
abbrev st_law_row : Stmt := tp 18
def dd_law_row : He.DefD := ⟨("_law_row", none), "_law_row", "_law_row", defArgs st_law_row, defBody st_law_row, defScope st_law_row, [], []⟩
abbrev st_law_breaks : Stmt := tp 19
def dd_law_breaks : He.DefD := ⟨("_law_breaks", none), "_law_breaks", "_law_breaks", defArgs st_law_breaks, defBody st_law_breaks, defScope st_law_breaks, [], []⟩
abbrev st_law_once_right : Stmt := tp 20
def dd_law_once_right : He.DefD := ⟨("_law_once_right", none), "_law_once_right", "_law_once_right", defArgs st_law_once_right, defBody st_law_once_right, defScope st_law_once_right, [], []⟩
abbrev st_law : Stmt := tp 21
def dd_law : He.DefD := ⟨("law", none), "law", "law", defArgs st_law, defBody st_law, defScope st_law, [], []⟩
def fns : List He.DefD := ([dd_is_among, dd_need_clubs, dd_round_of, dd_once_round, dd_twice_round, dd_least_breaks, dd_law_draw, dd_law_whole, dd_law_told, dd_law_is, dd_law_row, dd_law_breaks, dd_law_once_right, dd_law] : List He.DefD)
def fas : List He.Fa := ([.glo "is_among", .glo "need_clubs", .glo "round_of", .glo "once_round", .glo "twice_round", .glo "least_breaks", .glo "_law_draw", .glo "_law_whole", .glo "_law_told", .glo "_law_is", .glo "_law_row", .glo "_law_breaks", .glo "_law_once_right", .glo "law", .glo "RoundError", .glo "BadClubs", .int "LEAST_CLUBS" 2, .int "MOST_CLUBS" 20, .free "abs", .free "all", .free "bool", .free "enumerate", .free "int", .free "isinstance", .free "len", .free "list", .free "max", .free "min", .free "range", .free "sorted"] : List He.Fa) ++ ([.free "sum", .free "tuple", .free "zip", .exc "RoundError", .exc "BadClubs", .exm "BadClubs" "RoundError" true] : List He.Fa)
abbrev row : PySem.W.OpenRow := PySem.W.OpenLaw.row PySem.Challenge.rw_roundlist_k01_whole_lists_made
abbrev hk : PySem.W.Hook := He.hookD 5 fas fns
def ob (s : PySem.W.SharedT) : He.AlD := He.obsDG 5 fas fns (HandSHeadRun.getT s)
theorem ob_eq (s : PySem.W.SharedT) : ob s = hk.obs s.abs := He.obsDG_eq (HandSHeadRun.getT_eq s)
def loose : List Str := (["RoundError", "BadClubs", "LEAST_CLUBS", "MOST_CLUBS", "is_among", "need_clubs", "round_of", "once_round", "twice_round", "least_breaks", "_law_draw", "_law_whole", "_law_told", "_law_is", "_law_row", "_law_breaks", "_law_once_right"] : List Str)
theorem hrun (w : World) : HandSHeadRun.RunEq row (PySem.W.view row.prog [21]) hk ob 4000 loose w := by
  intro os
  kernel_rfl
end RL


set_option Elab.async false
set_option linter.all false
set_option maxRecDepth 100000
set_option maxHeartbeats 1000000
namespace RL
open PySem PySem.Spec PyProof.Rows L2
structure Tx (K : PySem.W.Frag) (mg : Str → Option Value) (cl : Nat → Addr) : Prop where
  b_abs : mg "abs" = none
  b_all : mg "all" = none
  b_bool : mg "bool" = none
  b_enumerate : mg "enumerate" = none
  b_int : mg "int" = none
  b_isinstance : mg "isinstance" = none
  b_len : mg "len" = none
  b_list : mg "list" = none
  b_max : mg "max" = none
  b_min : mg "min" = none
  b_range : mg "range" = none
  b_sorted : mg "sorted" = none
  b_sum : mg "sum" = none
  b_tuple : mg "tuple" = none
  b_zip : mg "zip" = none
  c_LEAST_CLUBS : ∃ t, mg "LEAST_CLUBS" = some (.int 2 t)
  c_MOST_CLUBS : ∃ t, mg "MOST_CLUBS" = some (.int 20 t)
  x_RoundError : ExcT K mg "RoundError" (cl 0)
  x_BadClubs : ExcT K mg "BadClubs" (cl 1)
def m_is_among : Sm := (sRet (eAnd (eIsi .int (eVar 0)) (eAnd (eNot (eIsi .bool (eVar 0))) (eChain fLe fLe (eVar 1) (eVar 0) (eVar 2)))))
def F_is_among (ds : List D) : R D := runD 3 m_is_among ds
theorem sc_is_among : FnScope ["thing", "least", "most"] ["thing", "least", "most"] (defScope st_is_among) := ⟨rfl, rfl, rfl, by decide +kernel, rfl, by decide +kernel, by decide +kernel⟩
theorem k_is_among {P : Program} {w : World} {K : PySem.W.Frag} {mg : Str → Option Value} {base : Heap} {cl : Nat → Addr} {f : Addr} {fd : FuncData} (T : Tx K mg cl) (Fd : FunD K "is_among" "is_among" (defArgs st_is_among) (defBody st_is_among) (defScope st_is_among) [] [] f fd) (gm : mg "is_among" = some (.ref f)) : Kn P w K mg base cl 1 "is_among" 3 F_is_among := by
  refine ⟨f, fd, ["thing", "least", "most"], rfl, ?_, gm, Fd.kp, FunD.bindsN Fd fun _ _ _ _ _ _ us hl => match us, hl with | [_, _, _], _ => rfl⟩
  refine def_ok Fd sc_is_among fun cdv A outer s H E hr => ?_
  have nd := sc_is_among.nd
  have h64 := hr.units
  have h65 := units65 hr
  exact (ds_one (ds_ret (d_andV (d_isi (t := .int) (by rfl) T.b_isinstance (by rfl) T.b_int (by decide +kernel) (dv 0)) (d_andV (d_notV (d_isi (t := .bool) (by rfl) T.b_isinstance (by rfl) T.b_bool (by decide +kernel) (dv 0))) (d_one (d_chLeLe (dv 1) (dv 0) (dv 2)))))))
def m_need_clubs : Sm := (sIf (tNotB (eB (eFn 3 F_is_among (aCons (eVar 0) (aCons (eC (.int 2)) (aCons (eC (.int 20)) aNil)))))) (sRaise 1) sNil)
def F_need_clubs (ds : List D) : R D := runD 1 m_need_clubs ds
theorem sc_need_clubs : FnScope ["thing"] ["thing"] (defScope st_need_clubs) := ⟨rfl, rfl, rfl, by decide +kernel, rfl, by decide +kernel, by decide +kernel⟩
theorem k_need_clubs {P : Program} {w : World} {K : PySem.W.Frag} {mg : Str → Option Value} {base : Heap} {cl : Nat → Addr} {f : Addr} {fd : FuncData} (T : Tx K mg cl) (Fd : FunD K "need_clubs" "need_clubs" (defArgs st_need_clubs) (defBody st_need_clubs) (defScope st_need_clubs) [] [] f fd) (gm : mg "need_clubs" = some (.ref f)) (G_is_among : Kn P w K mg base cl 1 "is_among" 3 F_is_among) : Kn P w K mg base cl 2 "need_clubs" 1 F_need_clubs := by
  refine ⟨f, fd, ["thing"], rfl, ?_, gm, Fd.kp, FunD.bindsN Fd fun _ _ _ _ _ _ us hl => match us, hl with | [_], _ => rfl⟩
  refine def_ok Fd sc_need_clubs fun cdv A outer s H E hr => ?_
  have nd := sc_need_clubs.nd
  have h64 := hr.units
  have h65 := units65 hr
  exact (ds_one (ds_if (dt_not (dt_val (d_fn G_is_among hr (by decide) (by rfl) (passes_call (takes_of rfl rfl rfl rfl) fun _ _ _ _ h => h) (da_cons (dv 0) (da_cons (d_gInt (by rfl) T.c_LEAST_CLUBS) (da_cons (d_gInt (by rfl) T.c_MOST_CLUBS) da_nil)))))) (ds_one (ds_raise rfl (takes_of rfl rfl rfl rfl) T.x_BadClubs (by rfl))) ds_nil))
def b_round_of_0 : Sm := (sSeq (sPar 5 6 (aCons (eBin dMod (eBin dAdd (eVar 1) (eVar 4)) (eVar 0)) (aCons (eBin dMod (eBin dSub (eVar 1) (eVar 4)) (eVar 0)) aNil)))
  (sOl 3 mAppend (eIf (eB (eBin dEqV (eBin dMod (eVar 4) (eC (.int 2))) (eC (.int 1)))) (eTup (aCons (eVar 5) (aCons (eVar 6) aNil))) (eTup (aCons (eVar 6) (aCons (eVar 5) aNil))))))
def m_round_of : Sm := (sSeq (sSet 2 (eIf (eB (eBin dEqV (eBin dMod (eVar 1) (eC (.int 2))) (eC (.int 0)))) (eTup (aCons (eVar 0) (aCons (eVar 1) aNil))) (eTup (aCons (eVar 1) (aCons (eVar 0) aNil)))))
  (sSeq (sOwn 3 (aCons (eVar 2) aNil))
  (sSeq (sFor (iCall rng2 (aCons (eC (.int 1)) (aCons (eBin dDiv (eBin dAdd (eVar 0) (eC (.int 1))) (eC (.int 2))) aNil))) (tg1 4) [4, 5, 6] b_round_of_0)
  (sF [3] (sRet (eVar 3))))))
def F_round_of (ds : List D) : R D := runD 7 m_round_of ds
theorem sc_round_of : FnScope ["places", "number", "game", "found", "far", "ahead", "behind"] ["places", "number"] (defScope st_round_of) := ⟨rfl, rfl, rfl, by decide +kernel, rfl, by decide +kernel, by decide +kernel⟩
theorem k_round_of {P : Program} {w : World} {K : PySem.W.Frag} {mg : Str → Option Value} {base : Heap} {cl : Nat → Addr} {f : Addr} {fd : FuncData} (T : Tx K mg cl) (Fd : FunD K "round_of" "round_of" (defArgs st_round_of) (defBody st_round_of) (defScope st_round_of) [] [] f fd) (gm : mg "round_of" = some (.ref f)) : Kn P w K mg base cl 1 "round_of" 2 F_round_of := by
  refine ⟨f, fd, ["places", "number"], rfl, ?_, gm, Fd.kp, FunD.bindsN Fd fun _ _ _ _ _ _ us hl => match us, hl with | [_, _], _ => rfl⟩
  refine def_ok Fd sc_round_of fun cdv A outer s H E hr => ?_
  have nd := sc_round_of.nd
  have h64 := hr.units
  have h65 := units65 hr
  exact (ds_cons (ds_set nd rfl (by first | exact .inl rfl | exact .inr rfl) (d_if (dt_eq h64  (d_mod (dv 1) d_int) d_int) (d_tup (da_cons (dv 0) (da_cons (dv 1) da_nil))) (d_tup (da_cons (dv 1) (da_cons (dv 0) da_nil)))))
  (ds_cons (ds_own nd rfl (by first | exact .inl rfl | exact .inr rfl) (da_cons (dv 2) da_nil))
  (ds_cons (ds_for [4, 5, 6] (tg1_ok 4) (passes_of rfl) rfl (di_range2 (by rfl) T.b_range d_int (d_div (d_add (dv 0) d_int) d_int)) (dg_name (by decide) nd rfl (by first | exact .inl rfl | exact .inr rfl) (by first | exact .inl rfl | exact .inr rfl)) (ds_cons (ds_par rfl nd rfl rfl (by decide) rfl rfl (da_cons (d_mod (d_add (dv 1) (dv 4)) (dv 0)) (da_cons (d_mod (d_sub (dv 1) (dv 4)) (dv 0)) da_nil)) rfl)
  (ds_one (ds_append rfl (by first | exact .inl rfl | exact .inr (.inl rfl)) (d_if (dt_eq h64  (d_mod (dv 4) d_int) d_int) (d_tup (da_cons (dv 5) (da_cons (dv 6) da_nil))) (d_tup (da_cons (dv 6) (da_cons (dv 5) da_nil)))) (hpe := pe_bm PySem.F.plainAttrs_list PySem.F.slot_list_append PySem.F.type_list_append mt_append (pv 3) (pa_cons (d_if (dt_eq h64  (d_mod (dv 4) d_int) d_int) (d_tup (da_cons (dv 5) (da_cons (dv 6) da_nil))) (d_tup (da_cons (dv 6) (da_cons (dv 5) da_nil)))) pa_nil))))))
  (ds_one (ds_frz [3] (ds_ret (dv 3)))))))
def b_once_round_0 : Sm := (sOdAp 2 [] (eCall (dOne dSorted) (aCons (eLc (iSeqD (eFn 2 F_round_of (aCons (eVar 1) (aCons (eVar 3) aNil)))) (tg1 4) (eB (eBin (dCmp fLt) (eCall (dBest maxL) (aCons (eVar 4) aNil)) (eVar 0))) (eVar 4) [4]) aNil)))
def m_once_round : Sm := (sSeq (sExpr (eFn 1 F_need_clubs (aCons (eVar 0) aNil)))
  (sSeq (sSet 1 (eBin dAdd (eBin dSub (eVar 0) (eC (.int 1))) (eBin dMod (eVar 0) (eC (.int 2)))))
  (sSeq (sNewT 2)
  (sSeq (sFor (iCall rng1 (aCons (eVar 1) aNil)) (tg1 3) [3] b_once_round_0)
  (sRetOd 2)))))
def F_once_round (ds : List D) : R D := runF 5 m_once_round ds
theorem sc_once_round : FnScope ["clubs", "places", "found", "number", "game"] ["clubs"] (defScope st_once_round) := ⟨rfl, rfl, rfl, by decide +kernel, rfl, by decide +kernel, by decide +kernel⟩
theorem k_once_round {P : Program} {w : World} {K : PySem.W.Frag} {mg : Str → Option Value} {base : Heap} {cl : Nat → Addr} {f : Addr} {fd : FuncData} (T : Tx K mg cl) (Fd : FunD K "once_round" "once_round" (defArgs st_once_round) (defBody st_once_round) (defScope st_once_round) [] [] f fd) (gm : mg "once_round" = some (.ref f)) (G_need_clubs : Kn P w K mg base cl 2 "need_clubs" 1 F_need_clubs) (G_round_of : Kn P w K mg base cl 1 "round_of" 2 F_round_of) : KnF P w K mg base cl 3 "once_round" 1 F_once_round := by
  refine ⟨f, fd, ["clubs"], rfl, ?_, gm, Fd.kp, FunD.bindsN Fd fun _ _ _ _ _ _ us hl => match us, hl with | [_], _ => rfl⟩
  refine def_okF Fd sc_once_round fun cdv A outer s H E hr => ?_
  have nd := sc_once_round.nd
  have h64 := hr.units
  have h65 := units65 hr
  exact (ds_cons (ds_expr (d_fn G_need_clubs hr (by decide) (by rfl) (passes_call (takes_of rfl rfl rfl rfl) fun _ _ _ _ h => h) (da_cons (dv 0) da_nil)))
  (ds_cons (ds_set nd rfl (by first | exact .inl rfl | exact .inr rfl) (d_add (d_sub (dv 0) d_int) (d_mod (dv 0) d_int)))
  (ds_cons (ds_newT nd rfl (by first | exact .inl rfl | exact .inr rfl))
  (ds_cons (ds_for [3] (tg1_ok 3) (passes_of rfl) rfl (di_range1 (by rfl) T.b_range (dv 1)) (dg_name (by decide) nd rfl (by first | exact .inl rfl | exact .inr rfl) (by first | exact .inl rfl | exact .inr rfl)) (ds_one (ds_odAp [] (pe_bm PySem.F.plainAttrs_list PySem.F.slot_list_append PySem.F.type_list_append mt_append (pv 2) (pa_cons (df_sorted (by rfl) T.b_sorted (d_lc (own := [("game", 4)]) rfl nd (di_seq (d_fn G_round_of hr (by decide) (by rfl) (passes_call (takes_of rfl rfl rfl rfl) fun _ _ _ _ h => h) (da_cons (dv 1) (da_cons (dv 3) da_nil)))) (by kernel_rfl) (fun _ _ _ _ _ => (dg_name (by decide) nd rfl (by first | exact .inl rfl | exact .inr rfl) (by first | exact .inl rfl | exact .inr rfl))) (fun _ _ _ _ _ => (dpts_one (dt_lt (d_max rfl (by rfl) T.b_max (da_cons (dv 4) da_nil)) (dv 0)))) (fun _ _ _ _ _ => (dv 4)))) pa_nil)))))
  (ds_one (ds_retOd (pv 2)))))))
def m_twice_round : Sm := (sSeq (sTreeB 1 [] (eFn 1 F_once_round (aCons (eVar 0) aNil)))
  (sRetCat 1 (eLc (iSeqD (eVar 1)) (tg1 2) cYes (eCall (dOne dSorted) (aCons (eLc (iSeqD (eVar 2)) (tg2 3 4) cYes (eTup (aCons (eVar 4) (aCons (eVar 3) aNil))) [3, 4]) aNil)) [2])))
def F_twice_round (ds : List D) : R D := runF 5 m_twice_round ds
theorem sc_twice_round : FnScope ["clubs", "first", "games", "home", "away"] ["clubs"] (defScope st_twice_round) := ⟨rfl, rfl, rfl, by decide +kernel, rfl, by decide +kernel, by decide +kernel⟩
theorem k_twice_round {P : Program} {w : World} {K : PySem.W.Frag} {mg : Str → Option Value} {base : Heap} {cl : Nat → Addr} {f : Addr} {fd : FuncData} (T : Tx K mg cl) (Fd : FunD K "twice_round" "twice_round" (defArgs st_twice_round) (defBody st_twice_round) (defScope st_twice_round) [] [] f fd) (gm : mg "twice_round" = some (.ref f)) (G_once_round : KnF P w K mg base cl 3 "once_round" 1 F_once_round) : KnF P w K mg base cl 4 "twice_round" 1 F_twice_round := by
  refine ⟨f, fd, ["clubs"], rfl, ?_, gm, Fd.kp, FunD.bindsN Fd fun _ _ _ _ _ _ us hl => match us, hl with | [_], _ => rfl⟩
  refine def_okF Fd sc_twice_round fun cdv A outer s H E hr => ?_
  have nd := sc_twice_round.nd
  have h64 := hr.units
  have h65 := units65 hr
  exact (ds_cons (ds_treeB [] nd rfl (by first | exact .inl rfl | exact .inr rfl) (df_fn G_once_round hr (by decide) (by rfl) (passes_call (takes_of rfl rfl rfl rfl) fun _ _ _ _ h => h) (da_cons (dv 0) da_nil)))
  (ds_one (ds_retCat (pe_op op_cat (pv 1) (df_lc (own := [("games", 2)]) rfl nd (di_seq (dv 1)) (by kernel_rfl) (fun _ _ _ _ _ => (dg_name (by decide) nd rfl (by first | exact .inl rfl | exact .inr rfl) (by first | exact .inl rfl | exact .inr rfl))) (fun _ _ _ _ _ => dpts_nil) (fun _ _ _ _ _ => (df_sorted (by rfl) T.b_sorted (d_lc (own := [("home", 3), ("away", 4)]) rfl nd (di_seq (dv 2)) (by kernel_rfl) (fun _ _ _ _ _ => (dg_pair rfl (by decide) (by decide) nd rfl rfl (by first | exact .inl rfl | exact .inr rfl) (by first | exact .inl rfl | exact .inr rfl) (by first | exact .inl rfl | exact .inr rfl) (by first | exact .inl rfl | exact .inr rfl))) (fun _ _ _ _ _ => dpts_nil) (fun _ _ _ _ _ => (d_tup (da_cons (dv 4) (da_cons (dv 3) da_nil))))))))))))
def m_least_breaks : Sm := (sSeq (sExpr (eFn 1 F_need_clubs (aCons (eVar 0) aNil)))
  (sRet (eIf (eB (eBin dEqV (eBin dMod (eVar 0) (eC (.int 2))) (eC (.int 0)))) (eBin dSub (eVar 0) (eC (.int 2))) (eC (.int 0)))))
def F_least_breaks (ds : List D) : R D := runD 1 m_least_breaks ds
theorem sc_least_breaks : FnScope ["clubs"] ["clubs"] (defScope st_least_breaks) := ⟨rfl, rfl, rfl, by decide +kernel, rfl, by decide +kernel, by decide +kernel⟩
theorem k_least_breaks {P : Program} {w : World} {K : PySem.W.Frag} {mg : Str → Option Value} {base : Heap} {cl : Nat → Addr} {f : Addr} {fd : FuncData} (T : Tx K mg cl) (Fd : FunD K "least_breaks" "least_breaks" (defArgs st_least_breaks) (defBody st_least_breaks) (defScope st_least_breaks) [] [] f fd) (gm : mg "least_breaks" = some (.ref f)) (G_need_clubs : Kn P w K mg base cl 2 "need_clubs" 1 F_need_clubs) : Kn P w K mg base cl 3 "least_breaks" 1 F_least_breaks := by
  refine ⟨f, fd, ["clubs"], rfl, ?_, gm, Fd.kp, FunD.bindsN Fd fun _ _ _ _ _ _ us hl => match us, hl with | [_], _ => rfl⟩
  refine def_ok Fd sc_least_breaks fun cdv A outer s H E hr => ?_
  have nd := sc_least_breaks.nd
  have h64 := hr.units
  have h65 := units65 hr
  exact (ds_cons (ds_expr (d_fn G_need_clubs hr (by decide) (by rfl) (passes_call (takes_of rfl rfl rfl rfl) fun _ _ _ _ h => h) (da_cons (dv 0) da_nil)))
  (ds_one (ds_ret (d_if (dt_eq h64  (d_mod (dv 0) d_int) d_int) (d_sub (dv 0) d_int) d_int))))
def m_law_draw : Sm := (sSeq (sSet 2 (eC (.int 0)))
  (sSeq (sIf (eB (eSNe 0)) (sSet 2 (eBin dAdd (eBin dMul (eC (.int 31)) (eSSum 0)) (eSIx 0 (eBin dMod (eVar 1) (eSLen 0))))) sNil)
  (sSeq (sSet 3 (eBin dAdd (eBin dAdd (eBin dMod (eVar 2) (eC (.int 1000000007))) (eBin dMul (eC (.int 7919)) (eVar 1))) (eC (.int 13))))
  (sRet (eBin dDiv (eBin dMod (eBin dMul (eBin dMod (eBin dMul (eVar 3) (eVar 3)) (eC (.int 1000000007))) (eVar 3)) (eC (.int 998244353))) (eC (.int 11)))))))
def F_law_draw (ns : List Int) (ds : List D) : R D := runS 4 m_law_draw ns ds
theorem sc_law_draw : FnScope ["_law_script", "_law_k", "_law_cell", "_law_number"] ["_law_script", "_law_k"] (defScope st_law_draw) := ⟨rfl, rfl, rfl, by decide +kernel, rfl, by decide +kernel, by decide +kernel⟩
theorem k_law_draw {P : Program} {w : World} {K : PySem.W.Frag} {mg : Str → Option Value} {base : Heap} {cl : Nat → Addr} {f : Addr} {fd : FuncData} (T : Tx K mg cl) (Fd : FunD K "_law_draw" "_law_draw" (defArgs st_law_draw) (defBody st_law_draw) (defScope st_law_draw) [] [] f fd) (gm : mg "_law_draw" = some (.ref f)) : KnS P w K mg base cl 1 "_law_draw" 1 F_law_draw := by
  refine ⟨f, fd, ["_law_script", "_law_k"], rfl, ?_, gm, Fd.kp, FunD.bindsN Fd fun _ _ _ _ _ _ us hl => match us, hl with | [_, _], _ => rfl⟩
  refine def_okS (n := 1) rfl Fd sc_law_draw fun cdv A outer s H E hr => ?_
  have nd := sc_law_draw.nd
  have h64 := hr.units
  have h65 := units65 hr
  exact (ds_cons (ds_set nd rfl (by first | exact .inl rfl | exact .inr rfl) d_int)
  (ds_cons (ds_if (dt_sne rfl h64 (pv 0)) (ds_one (ds_set nd rfl (by first | exact .inl rfl | exact .inr rfl) (d_add (d_mul d_int (d_ssum rfl rfl (by rfl) T.b_sum (pv 0))) (d_six rfl (d_mod (dv 1) (d_slen rfl (by rfl) T.b_len (pv 0))) (fun _ _ => rfl) (pv 0))))) ds_nil)
  (ds_cons (ds_set nd rfl (by first | exact .inl rfl | exact .inr rfl) (d_add (d_add (d_mod (dv 2) d_int) (d_mul d_int (dv 1))) d_int))
  (ds_one (ds_ret (d_div (d_mod (d_mul (d_mod (d_mul (dv 3) (dv 3)) d_int) (dv 3)) d_int) d_int))))))
def m_law_whole : Sm := (sRet (eAnd (eIsi .int (eVar 0)) (eNot (eIsi .bool (eVar 0)))))
def F_law_whole (ds : List D) : R D := runD 1 m_law_whole ds
theorem sc_law_whole : FnScope ["_law_found"] ["_law_found"] (defScope st_law_whole) := ⟨rfl, rfl, rfl, by decide +kernel, rfl, by decide +kernel, by decide +kernel⟩
theorem k_law_whole {P : Program} {w : World} {K : PySem.W.Frag} {mg : Str → Option Value} {base : Heap} {cl : Nat → Addr} {f : Addr} {fd : FuncData} (T : Tx K mg cl) (Fd : FunD K "_law_whole" "_law_whole" (defArgs st_law_whole) (defBody st_law_whole) (defScope st_law_whole) [] [] f fd) (gm : mg "_law_whole" = some (.ref f)) : Kn P w K mg base cl 1 "_law_whole" 1 F_law_whole := by
  refine ⟨f, fd, ["_law_found"], rfl, ?_, gm, Fd.kp, FunD.bindsN Fd fun _ _ _ _ _ _ us hl => match us, hl with | [_], _ => rfl⟩
  refine def_ok Fd sc_law_whole fun cdv A outer s H E hr => ?_
  have nd := sc_law_whole.nd
  have h64 := hr.units
  have h65 := units65 hr
  exact (ds_one (ds_ret (d_andV (d_isi (t := .int) (by rfl) T.b_isinstance (by rfl) T.b_int (by decide +kernel) (dv 0)) (d_one (d_notV (d_isi (t := .bool) (by rfl) T.b_isinstance (by rfl) T.b_bool (by decide +kernel) (dv 0)))))))
def m_law_told : Sm := (sRet (eLc (iSeqD (eVar 0)) (tg1 1) cYes (eCall (dOne dSorted) (aCons (eVar 1) aNil)) [1]))
def F_law_told (ds : List D) : R D := runD 2 m_law_told ds
theorem sc_law_told : FnScope ["_law_rounds", "_law_games"] ["_law_rounds"] (defScope st_law_told) := ⟨rfl, rfl, rfl, by decide +kernel, rfl, by decide +kernel, by decide +kernel⟩
theorem k_law_told {P : Program} {w : World} {K : PySem.W.Frag} {mg : Str → Option Value} {base : Heap} {cl : Nat → Addr} {f : Addr} {fd : FuncData} (T : Tx K mg cl) (Fd : FunD K "_law_told" "_law_told" (defArgs st_law_told) (defBody st_law_told) (defScope st_law_told) [] [] f fd) (gm : mg "_law_told" = some (.ref f)) : Kn P w K mg base cl 1 "_law_told" 1 F_law_told := by
  refine ⟨f, fd, ["_law_rounds"], rfl, ?_, gm, Fd.kp, FunD.bindsN Fd fun _ _ _ _ _ _ us hl => match us, hl with | [_], _ => rfl⟩
  refine def_ok Fd sc_law_told fun cdv A outer s H E hr => ?_
  have nd := sc_law_told.nd
  have h64 := hr.units
  have h65 := units65 hr
  exact (ds_one (ds_ret (d_lc (own := [("_law_games", 1)]) rfl nd (di_seq (dv 0)) (by kernel_rfl) (fun _ _ _ _ _ => (dg_name (by decide) nd rfl (by first | exact .inl rfl | exact .inr rfl) (by first | exact .inl rfl | exact .inr rfl))) (fun _ _ _ _ _ => dpts_nil) (fun _ _ _ _ _ => (d_sorted (by rfl) T.b_sorted (dv 1))))))
def b_law_is_0 : Sm := (sOl 2 mExtend (eVar 3))
def m_law_is : Sm := (sSeq (sF [2] (sIf (tOrB (tNotB (eB (eIsi .list (eVar 0)))) (tOrB (eB (eBin dNeV (eVar 0) (eVar 1))) (tNotB (eB (eCall (dOne dAll) (aCons (eLc (iSeqD (eVar 0)) (tg1 2) cYes (eIsi .list (eVar 2)) [2]) aNil)))))) (sRet (eC (.bool false))) sNil))
  (sSeq (sOwn 2 aNil)
  (sSeq (sFor (iSeqD (eVar 0)) (tg1 3) [3] b_law_is_0)
  (sF [2] (sRet (eCall (dOne dAll) (aCons (eLc (iSeqD (eVar 2)) (tg1 4) cYes (eAnd (eIsi .tuple (eVar 4)) (eAnd (eFn 1 F_law_whole (aCons (eBin dIx (eVar 4) (eC (.int 0))) aNil)) (eFn 1 F_law_whole (aCons (eBin dIx (eVar 4) (eC (.int 1))) aNil)))) [4]) aNil)))))))
def F_law_is (ds : List D) : R D := runD 5 m_law_is ds
theorem sc_law_is : FnScope ["_law_found", "_law_due", "_law_games", "_law_some", "_law_game"] ["_law_found", "_law_due"] (defScope st_law_is) := ⟨rfl, rfl, rfl, by decide +kernel, rfl, by decide +kernel, by decide +kernel⟩
theorem k_law_is {P : Program} {w : World} {K : PySem.W.Frag} {mg : Str → Option Value} {base : Heap} {cl : Nat → Addr} {f : Addr} {fd : FuncData} (T : Tx K mg cl) (Fd : FunD K "_law_is" "_law_is" (defArgs st_law_is) (defBody st_law_is) (defScope st_law_is) [] [] f fd) (gm : mg "_law_is" = some (.ref f)) (G_law_whole : Kn P w K mg base cl 1 "_law_whole" 1 F_law_whole) : Kn P w K mg base cl 2 "_law_is" 2 F_law_is := by
  refine ⟨f, fd, ["_law_found", "_law_due"], rfl, ?_, gm, Fd.kp, FunD.bindsN Fd fun _ _ _ _ _ _ us hl => match us, hl with | [_, _], _ => rfl⟩
  refine def_ok Fd sc_law_is fun cdv A outer s H E hr => ?_
  have nd := sc_law_is.nd
  have h64 := hr.units
  have h65 := units65 hr
  exact (ds_cons (ds_frz [2] (ds_if (dt_or (dt_not (dt_val (d_isi (t := .list) (by rfl) T.b_isinstance (by rfl) T.b_list (by decide +kernel) (dv 0)))) (dt_or (dt_ne h64  (dv 0) (dv 1)) (dt_one_or (dt_not (dt_val (d_all rfl (by rfl) T.b_all (d_lc (own := [("_law_games", 2)]) rfl nd (di_seq (dv 0)) (by kernel_rfl) (fun _ _ _ _ _ => (dg_name (by decide) nd rfl (by first | exact .inl rfl | exact .inr rfl) (by first | exact .inl rfl | exact .inr rfl))) (fun _ _ _ _ _ => dpts_nil) (fun _ _ _ _ _ => (d_isi (t := .list) (by rfl) T.b_isinstance (by rfl) T.b_list (by decide +kernel) (dv 2)))))))))).pt (ds_one (ds_ret d_bl)) ds_nil))
  (ds_cons (ds_own nd rfl (by first | exact .inl rfl | exact .inr rfl) da_nil)
  (ds_cons (ds_for [3] (tg1_ok 3) (passes_of rfl) rfl (di_seq (dv 0)) (dg_name (by decide) nd rfl (by first | exact .inl rfl | exact .inr rfl) (by first | exact .inl rfl | exact .inr rfl)) (ds_one (ds_extend (pe_bm PySem.F.plainAttrs_list PySem.F.slot_list_extend PySem.F.type_list_extend (MtR.or mt_extend mt_extendT) (pv 2) (pa_cons (dv 3) pa_nil)))))
  (ds_one (ds_frz [2] (ds_ret (d_all rfl (by rfl) T.b_all (d_lc (own := [("_law_game", 4)]) rfl nd (di_seq (dv 2)) (by kernel_rfl) (fun _ _ _ _ _ => (dg_name (by decide) nd rfl (by first | exact .inl rfl | exact .inr rfl) (by first | exact .inl rfl | exact .inr rfl))) (fun _ _ _ _ _ => dpts_nil) (fun _ _ _ _ _ => (d_andV (d_isi (t := .tuple) (by rfl) T.b_isinstance (by rfl) T.b_tuple (by decide +kernel) (dv 4)) (d_andV (d_fn G_law_whole hr (by decide) (by rfl) passL (da_cons (d_ix (dv 4) d_int (fun _ _ => rfl)) da_nil)) (d_one (d_fn G_law_whole hr (by decide) (by rfl) passL (da_cons (d_ix (dv 4) d_int (fun _ _ => rfl)) da_nil))))))))))))))
def b_law_row_0 : Sm := (sSeq (sSet 4 (eLc (iSeqD (eVar 3)) (tg1 6) (eB (eBin dEqV (eBin dIx (eVar 6) (eC (.int 0))) (eVar 1))) (eVar 6) [6]))
  (sSeq (sSet 5 (eLc (iSeqD (eVar 3)) (tg1 6) (eB (eBin dEqV (eBin dIx (eVar 6) (eC (.int 1))) (eVar 1))) (eVar 6) [6]))
  (sOl 2 mAppend (eBin dIx (eLst (aCons (eC .none) (aCons (eC (.int 0)) (aCons (eC (.int 1)) aNil)))) (eBin dAdd (eBin dMul (eC (.int 2)) (eCall (dOne dLen) (aCons (eVar 4) aNil))) (eCall (dOne dLen) (aCons (eVar 5) aNil)))))))
def m_law_row : Sm := (sSeq (sOwn 2 aNil)
  (sSeq (sFor (iSeqD (eVar 0)) (tg1 3) [3, 4, 5] b_law_row_0)
  (sF [2] (sRet (eVar 2)))))
def F_law_row (ds : List D) : R D := runD 7 m_law_row ds
theorem sc_law_row : FnScope ["_law_rounds", "_law_club", "_law_found", "_law_games", "_law_home", "_law_away", "_law_game"] ["_law_rounds", "_law_club"] (defScope st_law_row) := ⟨rfl, rfl, rfl, by decide +kernel, rfl, by decide +kernel, by decide +kernel⟩
theorem k_law_row {P : Program} {w : World} {K : PySem.W.Frag} {mg : Str → Option Value} {base : Heap} {cl : Nat → Addr} {f : Addr} {fd : FuncData} (T : Tx K mg cl) (Fd : FunD K "_law_row" "_law_row" (defArgs st_law_row) (defBody st_law_row) (defScope st_law_row) [] [] f fd) (gm : mg "_law_row" = some (.ref f)) : Kn P w K mg base cl 1 "_law_row" 2 F_law_row := by
  refine ⟨f, fd, ["_law_rounds", "_law_club"], rfl, ?_, gm, Fd.kp, FunD.bindsN Fd fun _ _ _ _ _ _ us hl => match us, hl with | [_, _], _ => rfl⟩
  refine def_ok Fd sc_law_row fun cdv A outer s H E hr => ?_
  have nd := sc_law_row.nd
  have h64 := hr.units
  have h65 := units65 hr
  exact (ds_cons (ds_own nd rfl (by first | exact .inl rfl | exact .inr rfl) da_nil)
  (ds_cons (ds_for [3, 4, 5] (tg1_ok 3) (passes_of rfl) rfl (di_seq (dv 0)) (dg_name (by decide) nd rfl (by first | exact .inl rfl | exact .inr rfl) (by first | exact .inl rfl | exact .inr rfl)) (ds_cons (by first | exact ds_setLc (own := [("_law_game", 6)]) rfl nd rfl rfl (sw_true rfl rfl rfl (by decide +kernel)) (di_seq (dv 3)) (by kernel_rfl) (fun _ _ _ _ _ => (dg_name (by decide) nd rfl (by first | exact .inl rfl | exact .inr rfl) (by first | exact .inl rfl | exact .inr rfl))) (fun _ _ _ _ _ => (dpts_one (dt_eq h64  (d_ix (dv 6) d_int (fun _ _ => rfl)) (dv 1)))) (fun _ _ _ _ _ => (dv 6)) | exact ds_set nd rfl (by first | exact .inl rfl | exact .inr rfl) (d_lc (own := [("_law_game", 6)]) rfl nd (di_seq (dv 3)) (by kernel_rfl) (fun _ _ _ _ _ => (dg_name (by decide) nd rfl (by first | exact .inl rfl | exact .inr rfl) (by first | exact .inl rfl | exact .inr rfl))) (fun _ _ _ _ _ => (dpts_one (dt_eq h64  (d_ix (dv 6) d_int (fun _ _ => rfl)) (dv 1)))) (fun _ _ _ _ _ => (dv 6))))
  (ds_cons (by first | exact ds_setLc (own := [("_law_game", 6)]) rfl nd rfl rfl (sw_true rfl rfl rfl (by decide +kernel)) (di_seq (dv 3)) (by kernel_rfl) (fun _ _ _ _ _ => (dg_name (by decide) nd rfl (by first | exact .inl rfl | exact .inr rfl) (by first | exact .inl rfl | exact .inr rfl))) (fun _ _ _ _ _ => (dpts_one (dt_eq h64  (d_ix (dv 6) d_int (fun _ _ => rfl)) (dv 1)))) (fun _ _ _ _ _ => (dv 6)) | exact ds_set nd rfl (by first | exact .inl rfl | exact .inr rfl) (d_lc (own := [("_law_game", 6)]) rfl nd (di_seq (dv 3)) (by kernel_rfl) (fun _ _ _ _ _ => (dg_name (by decide) nd rfl (by first | exact .inl rfl | exact .inr rfl) (by first | exact .inl rfl | exact .inr rfl))) (fun _ _ _ _ _ => (dpts_one (dt_eq h64  (d_ix (dv 6) d_int (fun _ _ => rfl)) (dv 1)))) (fun _ _ _ _ _ => (dv 6))))
  (ds_one (ds_append rfl (by first | exact .inl rfl | exact .inr (.inl rfl)) (d_ix (d_lst (da_cons d_non (da_cons d_int (da_cons d_int da_nil)))) (d_add (d_mul d_int (d_len (by rfl) T.b_len (dv 4))) (d_len (by rfl) T.b_len (dv 5))) (fun _ _ => rfl)) (hpe := pe_bm PySem.F.plainAttrs_list PySem.F.slot_list_append PySem.F.type_list_append mt_append (pv 2) (pa_cons (d_ix (d_lst (da_cons d_non (da_cons d_int (da_cons d_int da_nil)))) (d_add (d_mul d_int (d_len (by rfl) T.b_len (dv 4))) (d_len (by rfl) T.b_len (dv 5))) (fun _ _ => rfl)) pa_nil)))))))
  (ds_one (ds_frz [2] (ds_ret (dv 2))))))
def m_law_breaks : Sm := (sSeq (sSet 2 (eFn 2 F_law_row (aCons (eVar 0) (aCons (eVar 1) aNil))))
  (sSeq (sSet 3 (eLc (iCall enum1 (aCons (eVar 2) aNil)) (tg2 4 5) (eB (eBin dIsNot (eVar 5) (eC .none))) (eVar 4) [4, 5]))
  (sRet (eLc (iCall zip2 (aCons (eVar 3) (aCons (eSl (eVar 3) (oSome (eC (.int 1))) oNone) aNil))) (tg2 6 4) (eB (eBin dEqV (eBin dIx (eVar 2) (eVar 6)) (eBin dIx (eVar 2) (eVar 4)))) (eVar 4) [6, 4]))))
def F_law_breaks (ds : List D) : R D := runD 7 m_law_breaks ds
theorem sc_law_breaks : FnScope ["_law_rounds", "_law_club", "_law_row_here", "_law_played", "_law_number", "_law_place", "_law_ahead"] ["_law_rounds", "_law_club"] (defScope st_law_breaks) := ⟨rfl, rfl, rfl, by decide +kernel, rfl, by decide +kernel, by decide +kernel⟩
theorem k_law_breaks {P : Program} {w : World} {K : PySem.W.Frag} {mg : Str → Option Value} {base : Heap} {cl : Nat → Addr} {f : Addr} {fd : FuncData} (T : Tx K mg cl) (Fd : FunD K "_law_breaks" "_law_breaks" (defArgs st_law_breaks) (defBody st_law_breaks) (defScope st_law_breaks) [] [] f fd) (gm : mg "_law_breaks" = some (.ref f)) (G_law_row : Kn P w K mg base cl 1 "_law_row" 2 F_law_row) : Kn P w K mg base cl 2 "_law_breaks" 2 F_law_breaks := by
  refine ⟨f, fd, ["_law_rounds", "_law_club"], rfl, ?_, gm, Fd.kp, FunD.bindsN Fd fun _ _ _ _ _ _ us hl => match us, hl with | [_, _], _ => rfl⟩
  refine def_ok Fd sc_law_breaks fun cdv A outer s H E hr => ?_
  have nd := sc_law_breaks.nd
  have h64 := hr.units
  have h65 := units65 hr
  exact (ds_cons (ds_set nd rfl (by first | exact .inl rfl | exact .inr rfl) (d_fn G_law_row hr (by decide) (by rfl) (passes_call (takes_of rfl rfl rfl rfl) fun _ _ _ _ h => h) (da_cons (dv 0) (da_cons (dv 1) da_nil))))
  (ds_cons (by first | exact ds_setLc (own := [("_law_number", 4), ("_law_place", 5)]) rfl nd rfl rfl (sw_true rfl rfl rfl (by decide +kernel)) (di_enum (by rfl) T.b_enumerate (dv 2)) (by kernel_rfl) (fun _ _ _ _ _ => (dg_pair rfl (by decide) (by decide) nd rfl rfl (by first | exact .inl rfl | exact .inr rfl) (by first | exact .inl rfl | exact .inr rfl) (by first | exact .inl rfl | exact .inr rfl) (by first | exact .inl rfl | exact .inr rfl))) (fun _ _ _ _ _ => (dpts_one (dt_isnot (dv 5) d_non))) (fun _ _ _ _ _ => (dv 4)) | exact ds_set nd rfl (by first | exact .inl rfl | exact .inr rfl) (d_lc (own := [("_law_number", 4), ("_law_place", 5)]) rfl nd (di_enum (by rfl) T.b_enumerate (dv 2)) (by kernel_rfl) (fun _ _ _ _ _ => (dg_pair rfl (by decide) (by decide) nd rfl rfl (by first | exact .inl rfl | exact .inr rfl) (by first | exact .inl rfl | exact .inr rfl) (by first | exact .inl rfl | exact .inr rfl) (by first | exact .inl rfl | exact .inr rfl))) (fun _ _ _ _ _ => (dpts_one (dt_isnot (dv 5) d_non))) (fun _ _ _ _ _ => (dv 4))))
  (ds_one (ds_ret (d_lc (own := [("_law_ahead", 6), ("_law_number", 4)]) rfl nd (di_zip (by rfl) T.b_zip (dv 3) (d_sl (dv 3) (do_some d_int) do_none)) (by kernel_rfl) (fun _ _ _ _ _ => (dg_pair rfl (by decide) (by decide) nd rfl rfl (by first | exact .inl rfl | exact .inr rfl) (by first | exact .inl rfl | exact .inr rfl) (by first | exact .inl rfl | exact .inr rfl) (by first | exact .inl rfl | exact .inr rfl))) (fun _ _ _ _ _ => (dpts_one (dt_eq h64  (d_ix (dv 2) (dv 6) (fun _ _ => rfl)) (d_ix (dv 2) (dv 4) (fun _ _ => rfl))))) (fun _ _ _ _ _ => (dv 4)))))))
def b_law_once_right_0 : Sm := (sSeq (sSet 9 (eTup (aCons (eCall (dBest minL) (aCons (eVar 7) (aCons (eVar 8) aNil))) (aCons (eCall (dBest maxL) (aCons (eVar 7) (aCons (eVar 8) aNil))) aNil))))
  (sSeq (sIf (tOrB (eB (eInDc 2 (eVar 9))) (tOrB (eB (eInDc 5 (eVar 7))) (tOrB (eB (eInDc 5 (eVar 8))) (tNotB (eB (eChain3 fLe fLt fLt (eC (.int 0)) (eBin dIx (eVar 9) (eC (.int 0))) (eBin dIx (eVar 9) (eC (.int 1))) (eVar 0))))))) (sRet (eC (.bool false))) sNil)
  (sSeq (sPutDc 2 (eVar 9) (eC (.bool true)))
  (sUpd2 5 (eVar 7) (eC (.bool true)) (eVar 8) (eC (.bool true))))))
def b_law_once_right_1 : Sm := (sSeq (sNewDK 5)
  (sFor (iSeqD (eVar 3)) (tg2 7 8) [7, 8, 9] b_law_once_right_0))
def b_law_once_right_2 : Sm := (sSeq (sSet 6 (eFn 2 F_law_row (aCons (eVar 1) (aCons (eVar 4) aNil))))
  (sIf (eB (eBin dNeV (eCall (dOne dAbs) (aCons (eBin dSub (eCnt (eVar 6) (eC (.int 1))) (eCnt (eVar 6) (eC (.int 0)))) aNil)) (eBin dSub (eC (.int 1)) (eBin dMod (eVar 0) (eC (.int 2)))))) (sRet (eC (.bool false))) sNil))
def m_law_once_right : Sm := (sSeq (sIf (eB (eBin dNeV (eCall (dOne dLen) (aCons (eVar 1) aNil)) (eBin dAdd (eBin dSub (eVar 0) (eC (.int 1))) (eBin dMod (eVar 0) (eC (.int 2)))))) (sRet (eC (.bool false))) sNil)
  (sSeq (sNewDT 2)
  (sSeq (sFor (iSeqD (eVar 1)) (tg1 3) [3, 5, 7, 8, 9] b_law_once_right_1)
  (sSeq (sIf (eB (eBin dNeV (eLenDc 2) (eBin dDiv (eBin dMul (eVar 0) (eBin dSub (eVar 0) (eC (.int 1)))) (eC (.int 2))))) (sRet (eC (.bool false))) sNil)
  (sSeq (sFor (iCall rng1 (aCons (eVar 0) aNil)) (tg1 4) [4, 6] b_law_once_right_2)
  (sRet (eC (.bool true))))))))
def F_law_once_right (ds : List D) : R D := runD 10 m_law_once_right ds
theorem sc_law_once_right : FnScope ["_law_clubs", "_law_rounds", "_law_table", "_law_games", "_law_club", "_law_here", "_law_own", "_law_home", "_law_away", "_law_pair"] ["_law_clubs", "_law_rounds"] (defScope st_law_once_right) := ⟨rfl, rfl, rfl, by decide +kernel, rfl, by decide +kernel, by decide +kernel⟩
theorem k_law_once_right {P : Program} {w : World} {K : PySem.W.Frag} {mg : Str → Option Value} {base : Heap} {cl : Nat → Addr} {f : Addr} {fd : FuncData} (T : Tx K mg cl) (Fd : FunD K "_law_once_right" "_law_once_right" (defArgs st_law_once_right) (defBody st_law_once_right) (defScope st_law_once_right) [] [] f fd) (gm : mg "_law_once_right" = some (.ref f)) (G_law_row : Kn P w K mg base cl 1 "_law_row" 2 F_law_row) : Kn P w K mg base cl 2 "_law_once_right" 2 F_law_once_right := by
  refine ⟨f, fd, ["_law_clubs", "_law_rounds"], rfl, ?_, gm, Fd.kp, FunD.bindsN Fd fun _ _ _ _ _ _ us hl => match us, hl with | [_, _], _ => rfl⟩
  refine def_ok Fd sc_law_once_right fun cdv A outer s H E hr => ?_
  have nd := sc_law_once_right.nd
  have h64 := hr.units
  have h65 := units65 hr
  exact (ds_cons (ds_if (dt_ne h64  (d_len (by rfl) T.b_len (dv 1)) (d_add (d_sub (dv 0) d_int) (d_mod (dv 0) d_int))) (ds_one (ds_ret d_bl)) ds_nil)
  (ds_cons (ds_newDT nd rfl (by first | exact .inl rfl | exact .inr rfl))
  (ds_cons (ds_for [3, 5, 7, 8, 9] (tg1_ok 3) (passes_of rfl) rfl (di_seq (dv 1)) (dg_name (by decide) nd rfl (by first | exact .inl rfl | exact .inr rfl) (by first | exact .inl rfl | exact .inr rfl)) (ds_cons (ds_newDK nd rfl (by first | exact .inl rfl | exact .inr rfl))
  (ds_one (ds_for [7, 8, 9] (tg2_ok 7 8) (passes_of rfl) rfl (di_seq (dv 3)) (dg_pair rfl (by decide) (by decide) nd rfl rfl (by first | exact .inl rfl | exact .inr rfl) (by first | exact .inl rfl | exact .inr rfl) (by first | exact .inl rfl | exact .inr rfl) (by first | exact .inl rfl | exact .inr rfl)) (ds_cons (ds_set nd rfl (by first | exact .inl rfl | exact .inr rfl) (d_tup (da_cons (d_min rfl (by rfl) T.b_min (da_cons (dv 7) (da_cons (dv 8) da_nil))) (da_cons (d_max rfl (by rfl) T.b_max (da_cons (dv 7) (da_cons (dv 8) da_nil))) da_nil))))
  (ds_cons (ds_if (dt_or (dt_inDc h65 (dv 9) (pv 2)) (dt_or (dt_inDc h65 (dv 7) (pv 5)) (dt_or (dt_inDc h65 (dv 8) (pv 5)) (dt_one_or (dt_not (dt_chLeLtLt d_int (d_ix (dv 9) d_int (fun _ _ => rfl)) (d_ix (dv 9) d_int (fun _ _ => rfl)) (dv 0))))))).pt (ds_one (ds_ret d_bl)) ds_nil)
  (ds_cons (ds_putDc h65 d_bl (dv 9) (pv 2))
  (ds_one (ds_upd2 (dv 7) d_bl (dv 8) d_bl (pe_bm PySem.F.plainAttrs_dict PySem.F.slot_dict_update PySem.F.type_dict_update mt_updK (pv 5) (pa_cons (pe_disp (pps_cons (dv 7) d_bl (pps_cons (dv 8) d_bl pps_nil)) (by rfl) (by rfl) (by simp) (by decide)) pa_nil)))))))))))
  (ds_cons (ds_if (dt_ne h64  (d_lenDc (by rfl) T.b_len (pv 2)) (d_div (d_mul (dv 0) (d_sub (dv 0) d_int)) d_int)) (ds_one (ds_ret d_bl)) ds_nil)
  (ds_cons (ds_for [4, 6] (tg1_ok 4) (passes_of rfl) rfl (di_range1 (by rfl) T.b_range (dv 0)) (dg_name (by decide) nd rfl (by first | exact .inl rfl | exact .inr rfl) (by first | exact .inl rfl | exact .inr rfl)) (ds_cons (ds_set nd rfl (by first | exact .inl rfl | exact .inr rfl) (d_fn G_law_row hr (by decide) (by rfl) (passes_call (takes_of rfl rfl rfl rfl) fun _ _ _ _ h => h) (da_cons (dv 1) (da_cons (dv 4) da_nil))))
  (ds_one (ds_if (dt_ne h64  (d_abs (by rfl) T.b_abs (d_sub (d_count (pe_bm PySem.F.plainAttrs_list PySem.F.slot_list_count PySem.F.type_list_count (mt_countD h65) (dv 6) (pa_cons d_int pa_nil))) (d_count (pe_bm PySem.F.plainAttrs_list PySem.F.slot_list_count PySem.F.type_list_count (mt_countD h65) (dv 6) (pa_cons d_int pa_nil))))) (d_sub d_int (d_mod (dv 0) d_int))) (ds_one (ds_ret d_bl)) ds_nil))))
  (ds_one (ds_ret d_bl)))))))
def b_law_0 : Sm := (sSeq (sSet 3 (eBin dAdd (eC (.int 2)) (eBin dMod (eBin dAdd (eVar 1) (eVar 2)) (eC (.int 19)))))
  (sSeq (sTreeB 4 [] (eFn 1 F_once_round (aCons (eVar 3) aNil)))
  (sSeq (sIfB [4] (tOrB (tNotB (eB (eFn 2 F_law_is (aCons (eVar 4) (aCons (eFn 1 F_law_told (aCons (eVar 4) aNil)) aNil))))) (tNotB (eB (eFn 2 F_law_once_right (aCons (eVar 3) (aCons (eVar 4) aNil)))))) (sRet (eC (.bool false))) sNil)
  (sSeq (sSetB 5 [4] (eCall (dOne dSum) (aCons (eLc (iCall rng1 (aCons (eVar 3) aNil)) (tg1 11) cYes (eCall (dOne dLen) (aCons (eFn 2 F_law_breaks (aCons (eVar 4) (aCons (eVar 11) aNil))) aNil)) [11]) aNil)))
  (sSeq (sSet 6 (eBin dIx (eLst (aCons (eBin dSub (eVar 3) (eC (.int 2))) (aCons (eC (.int 0)) aNil))) (eBin dMod (eVar 3) (eC (.int 2)))))
  (sSeq (sIf (tOrB (eB (eBin dNeV (eVar 5) (eVar 6))) (tOrB (eB (eBin dNeV (eFn 1 F_least_breaks (aCons (eVar 3) aNil)) (eVar 6))) (tNotB (eB (eFn 1 F_law_whole (aCons (eFn 1 F_least_breaks (aCons (eVar 3) aNil)) aNil)))))) (sRet (eC (.bool false))) sNil)
  (sSeq (sSetF 7 [4] (eLc (iSeqD (eVar 4)) (tg1 10) cYes (eCall (dOne dSorted) (aCons (eLc (iSeqD (eVar 10)) (tg1 12) cYes (eUn dRev (eVar 12)) [12]) aNil)) [10]))
  (sSeq (sIfB [4] (tNotB (eB (eFn 2 F_law_is (aCons (eFn 1 F_twice_round (aCons (eVar 3) aNil)) (aCons (eBin dAdd (eVar 4) (eVar 7)) aNil))))) (sRet (eC (.bool false))) sNil)
  (sSeq (sSetF 8 [4] (eLc (iSeqD (eVar 4)) (tg1 10) cYes (eCall (dOne dListF) (aCons (eVar 10) aNil)) [10]))
  (sSeq (sOdClrAt 4 0)
  (sSeq (sOdAp 4 [] (eFlat (eC (.str "more"))))
  (sSeq (sTreeB 9 [] (eFn 1 F_twice_round (aCons (eVar 3) aNil)))
  (sSeq (sOdClrAt 9 0)
  (sSeq (sOdClr 9)
  (sIf (tOrB (eB (eBin dNeV (eFn 1 F_once_round (aCons (eVar 3) aNil)) (eVar 8))) (eB (eBin dNeV (eFn 1 F_twice_round (aCons (eVar 3) aNil)) (eBin dAdd (eVar 8) (eVar 7))))) (sRet (eC (.bool false))) sNil)))))))))))))))
def m_law : Sm := (sSeq (sSet 1 (eBin dAdd (eC (.int 2)) (eBin dMod (eFnS 0 1 F_law_draw (aCons (eC (.int 0)) aNil)) (eC (.int 19)))))
  (sSeq (sFor (iCall rng1 (aCons (eC (.int 19)) aNil)) (tg1 2) [2, 3, 4, 5, 6, 7, 8, 9] b_law_0)
  (sRet (eC (.bool true)))))
def F_law (ns : List Int) (ds : List D) : R D := runS 13 m_law ns ds
theorem sc_law : FnScope ["_law_script", "_law_first", "_law_turn", "_law_clubs", "_law_rounds", "_law_many", "_law_due", "_law_back", "_law_kept", "_law_told_here", "_law_games", "_law_club", "_law_game"] ["_law_script"] (defScope st_law) := ⟨rfl, rfl, rfl, by decide +kernel, rfl, by decide +kernel, by decide +kernel⟩
theorem fo_law {P : Program} {w : World} {K : PySem.W.Frag} {mg : Str → Option Value} {base : Heap} {cl : Nat → Addr} {f : Addr} {fd : FuncData} (T : Tx K mg cl) (Fd : FunD K "law" "law" (defArgs st_law) (defBody st_law) (defScope st_law) [] [] f fd) (gm : mg "law" = some (.ref f)) (G_law_breaks : Kn P w K mg base cl 2 "_law_breaks" 2 F_law_breaks) (G_law_draw : KnS P w K mg base cl 1 "_law_draw" 1 F_law_draw) (G_law_is : Kn P w K mg base cl 2 "_law_is" 2 F_law_is) (G_law_once_right : Kn P w K mg base cl 2 "_law_once_right" 2 F_law_once_right) (G_law_told : Kn P w K mg base cl 1 "_law_told" 1 F_law_told) (G_law_whole : Kn P w K mg base cl 1 "_law_whole" 1 F_law_whole) (G_least_breaks : Kn P w K mg base cl 3 "least_breaks" 1 F_least_breaks) (G_once_round : KnF P w K mg base cl 3 "once_round" 1 F_once_round) (G_twice_round : KnF P w K mg base cl 4 "twice_round" 1 F_twice_round) : FnOk P w K mg base (L2.CX P w) 5 f fd ["_law_script"] (spS K cl 0 F_law) := by
  refine def_okS (n := 0) rfl Fd sc_law fun cdv A outer s H E hr => ?_
  have nd := sc_law.nd
  have h64 := hr.units
  have h65 := units65 hr
  exact (ds_cons (ds_set nd rfl (by first | exact .inl rfl | exact .inr rfl) (d_add d_int (d_mod (d_fnS rfl G_law_draw hr (by decide) (by rfl) (passes_call (takes_of rfl rfl rfl rfl) fun _ _ _ _ h => h) (da_cons d_int da_nil) (pv 0)) d_int)))
  (ds_cons (ds_for [2, 3, 4, 5, 6, 7, 8, 9] (tg1_ok 2) (passes_of rfl) rfl (di_range1 (by rfl) T.b_range d_int) (dg_name (by decide) nd rfl (by first | exact .inl rfl | exact .inr rfl) (by first | exact .inl rfl | exact .inr rfl)) (ds_cons (ds_set nd rfl (by first | exact .inl rfl | exact .inr rfl) (d_add d_int (d_mod (d_add (dv 1) (dv 2)) d_int)))
  (ds_cons (ds_treeB [] nd rfl (by first | exact .inl rfl | exact .inr rfl) (df_fn G_once_round hr (by decide) (by rfl) (passes_call (takes_of rfl rfl rfl rfl) fun _ _ _ _ h => h) (da_cons (dv 3) da_nil)))
  (ds_cons (ds_ifB [4] (dt_or (dt_not (dt_val (d_fn G_law_is hr (by decide) (by rfl) (passes_call (takes_of rfl rfl rfl rfl) fun _ _ _ _ h => h) (da_cons (dv 4) (da_cons (d_fn G_law_told hr (by decide) (by rfl) (passes_call (takes_of rfl rfl rfl rfl) fun _ _ _ _ h => h) (da_cons (dv 4) da_nil)) da_nil))))) (dt_one_or (dt_not (dt_val (d_fn G_law_once_right hr (by decide) (by rfl) (passes_call (takes_of rfl rfl rfl rfl) fun _ _ _ _ h => h) (da_cons (dv 3) (da_cons (dv 4) da_nil))))))).pt (ds_one (ds_ret d_bl)) ds_nil)
  (ds_cons (ds_setB [4] nd rfl (by first | exact .inl rfl | exact .inr rfl) (d_sum rfl (by rfl) T.b_sum (d_lc (own := [("_law_club", 11)]) rfl nd (di_range1 (by rfl) T.b_range (dv 3)) (by kernel_rfl) (fun _ _ _ _ _ => (dg_name (by decide) nd rfl (by first | exact .inl rfl | exact .inr rfl) (by first | exact .inl rfl | exact .inr rfl))) (fun _ _ _ _ _ => dpts_nil) (fun _ _ _ _ _ => (d_len (by rfl) T.b_len (d_fn G_law_breaks hr (by decide) (by rfl) passL (da_cons (dv 4) (da_cons (dv 11) da_nil))))))))
  (ds_cons (ds_set nd rfl (by first | exact .inl rfl | exact .inr rfl) (d_ix (d_lst (da_cons (d_sub (dv 3) d_int) (da_cons d_int da_nil))) (d_mod (dv 3) d_int) (fun _ _ => rfl)))
  (ds_cons (ds_if (dt_or (dt_ne h64  (dv 5) (dv 6)) (dt_or (dt_ne h64  (d_fn G_least_breaks hr (by decide) (by rfl) (passes_call (takes_of rfl rfl rfl rfl) fun _ _ _ _ h => h) (da_cons (dv 3) da_nil)) (dv 6)) (dt_one_or (dt_not (dt_val (d_fn G_law_whole hr (by decide) (by rfl) (passes_call (takes_of rfl rfl rfl rfl) fun _ _ _ _ h => h) (da_cons (d_fn G_least_breaks hr (by decide) (by rfl) (passes_call (takes_of rfl rfl rfl rfl) fun _ _ _ _ h => h) (da_cons (dv 3) da_nil)) da_nil))))))).pt (ds_one (ds_ret d_bl)) ds_nil)
  (ds_cons (by first | exact ds_setFLc [4] (own := [("_law_games", 10)]) rfl nd rfl rfl (sw_true rfl rfl rfl (by decide +kernel)) (di_seq (dv 4)) (by kernel_rfl) (fun _ _ _ _ _ => (dg_name (by decide) nd rfl (by first | exact .inl rfl | exact .inr rfl) (by first | exact .inl rfl | exact .inr rfl))) (fun _ _ _ _ _ => dpts_nil) (fun _ _ _ _ _ => (df_sorted (by rfl) T.b_sorted (d_lc (own := [("_law_game", 12)]) rfl nd (di_seq (dv 10)) (by kernel_rfl) (fun _ _ _ _ _ => (dg_name (by decide) nd rfl (by first | exact .inl rfl | exact .inr rfl) (by first | exact .inl rfl | exact .inr rfl))) (fun _ _ _ _ _ => dpts_nil) (fun _ _ _ _ _ => (d_rev (dv 12)))))) | exact ds_setF [4] nd rfl (by first | exact .inl rfl | exact .inr rfl) (df_lc (own := [("_law_games", 10)]) rfl nd (di_seq (dv 4)) (by kernel_rfl) (fun _ _ _ _ _ => (dg_name (by decide) nd rfl (by first | exact .inl rfl | exact .inr rfl) (by first | exact .inl rfl | exact .inr rfl))) (fun _ _ _ _ _ => dpts_nil) (fun _ _ _ _ _ => (df_sorted (by rfl) T.b_sorted (d_lc (own := [("_law_game", 12)]) rfl nd (di_seq (dv 10)) (by kernel_rfl) (fun _ _ _ _ _ => (dg_name (by decide) nd rfl (by first | exact .inl rfl | exact .inr rfl) (by first | exact .inl rfl | exact .inr rfl))) (fun _ _ _ _ _ => dpts_nil) (fun _ _ _ _ _ => (d_rev (dv 12))))))))
  (ds_cons (ds_ifB [4] (dt_not (dt_val (d_fn G_law_is hr (by decide) (by rfl) (passes_call (takes_of rfl rfl rfl rfl) fun _ _ _ _ h => h) (da_cons (d_fn G_twice_round.kn hr (by decide) (by rfl) (passes_call (takes_of rfl rfl rfl rfl) fun _ _ _ _ h => h) (da_cons (dv 3) da_nil)) (da_cons (d_add (dv 4) (dv 7)) da_nil))))) (ds_one (ds_ret d_bl)) ds_nil)
  (ds_cons (by first | exact ds_setFLc [4] (own := [("_law_games", 10)]) rfl nd rfl rfl (sw_true rfl rfl rfl (by decide +kernel)) (di_seq (dv 4)) (by kernel_rfl) (fun _ _ _ _ _ => (dg_name (by decide) nd rfl (by first | exact .inl rfl | exact .inr rfl) (by first | exact .inl rfl | exact .inr rfl))) (fun _ _ _ _ _ => dpts_nil) (fun _ _ _ _ _ => (df_list (by rfl) T.b_list (dv 10))) | exact ds_setF [4] nd rfl (by first | exact .inl rfl | exact .inr rfl) (df_lc (own := [("_law_games", 10)]) rfl nd (di_seq (dv 4)) (by kernel_rfl) (fun _ _ _ _ _ => (dg_name (by decide) nd rfl (by first | exact .inl rfl | exact .inr rfl) (by first | exact .inl rfl | exact .inr rfl))) (fun _ _ _ _ _ => dpts_nil) (fun _ _ _ _ _ => (df_list (by rfl) T.b_list (dv 10)))))
  (ds_cons (ds_odClrAt (k := 0) (pe_bm0 PySem.F.plainAttrs_list PySem.F.slot_list_clear PySem.F.type_list_clear mt_clear (pe_ix ix_list (pv 4) pe_int (fun _ _ => rfl))))
  (ds_cons (ds_odAp [] (pe_bm PySem.F.plainAttrs_list PySem.F.slot_list_append PySem.F.type_list_append mt_append (pv 4) (pa_cons (df_flat d_str) pa_nil)))
  (ds_cons (ds_treeB [] nd rfl (by first | exact .inl rfl | exact .inr rfl) (df_fn G_twice_round hr (by decide) (by rfl) (passes_call (takes_of rfl rfl rfl rfl) fun _ _ _ _ h => h) (da_cons (dv 3) da_nil)))
  (ds_cons (ds_odClrAt (k := 0) (pe_bm0 PySem.F.plainAttrs_list PySem.F.slot_list_clear PySem.F.type_list_clear mt_clear (pe_ix ix_list (pv 9) pe_int (fun _ _ => rfl))))
  (ds_cons (ds_odClr (pe_bm0 PySem.F.plainAttrs_list PySem.F.slot_list_clear PySem.F.type_list_clear mt_clear (pv 9)))
  (ds_one (ds_if (dt_or (dt_ne h64  (d_fn G_once_round.kn hr (by decide) (by rfl) (passes_call (takes_of rfl rfl rfl rfl) fun _ _ _ _ h => h) (da_cons (dv 3) da_nil)) (dv 8)) (dt_one_or (dt_ne h64  (d_fn G_twice_round.kn hr (by decide) (by rfl) (passes_call (takes_of rfl rfl rfl rfl) fun _ _ _ _ h => h) (da_cons (dv 3) da_nil)) (d_add (dv 8) (dv 7))))).pt (ds_one (ds_ret d_bl)) ds_nil)))))))))))))))))
  (ds_one (ds_ret d_bl))))
end RL

set_option maxHeartbeats 4000000
set_option maxRecDepth 100000
namespace RL
open PySem PySem.Spec PyProof.Rows L2
/-! ### the law's draws -/
def cellZ (ns : List Int) (k : Nat) : Int := if ns = [] then 0 else 31 * ns.sum + ns.getD (k % ns.length) 0
def numZ (ns : List Int) (k : Nat) : Int := cellZ ns k % 1000000007 + 7919 * (k : Int) + 13
def drawZ (ns : List Int) (k : Nat) : Int := numZ ns k * numZ ns k % 1000000007 * numZ ns k % 998244353 / 11
theorem num_nonneg (ns : List Int) (k : Nat) : 0 ≤ numZ ns k := by unfold numZ; omega
theorem draw_nonneg (ns : List Int) (k : Nat) : 0 ≤ drawZ ns k := by unfold drawZ; omega
theorem draw_lt (ns : List Int) (k : Nat) : drawZ ns k < 998244353 := by unfold drawZ; omega
theorem small_of {i : Int} (h0 : 0 ≤ i) (h1 : i < 2 ^ 64) : small64b i = true := by
  unfold small64b
  rw [decide_eq_true (by omega), decide_eq_true h1] <;> rfl
theorem dMul_ok {i j : Int} (h : small64b i = true) : dMul (.int i) (.int j) = .ok (.int (i * j)) := by
  show (if (small64b i || small64b j) = true then R.ok (PyData.int (i * j)) else .bad) = _
  rw [h, Bool.true_or, if_pos rfl]
theorem dMod_ok {i j : Int} (h : 0 < j) : dMod (.int i) (.int j) = .ok (.int (i % j)) := if_pos h
theorem dDiv_ok {i j : Int} (h : 0 < j) (h2 : j < 1073741824) : dDiv (.int i) (.int j) = .ok (.int (i / j)) := if_pos ⟨h, h2⟩
theorem draw_ok (ns : List Int) (k : Nat) (hk : k < 1099511627776) : F_law_draw ns [.int k] = .ok (.int (drawZ ns k)) := by
  have hn := num_nonneg ns k
  have hn2 : numZ ns k < 2 ^ 64 := by unfold numZ; omega
  refine runS_ret (ρ := [some (Sl.scr ns), some (Sl.fr (.int k)), some (Sl.fr (.int (cellZ ns k))), some (Sl.fr (.int (numZ ns k)))]) ?_
  show m_law_draw [some (Sl.scr ns), some (Sl.fr (.int k)), none, none] = _
  refine sSeq_to (ρ' := [some (Sl.scr ns), some (Sl.fr (.int k)), some (Sl.fr (.int 0)), none]) rfl ?_
  have e2 : sIf (eB (eSNe 0)) (sSet 2 (eBin dAdd (eBin dMul (eC (.int 31)) (eSSum 0)) (eSIx 0 (eBin dMod (eVar 1) (eSLen 0))))) sNil [some (Sl.scr ns), some (Sl.fr (.int k)), some (Sl.fr (.int 0)), none] = .ok (.nx, [some (Sl.scr ns), some (Sl.fr (.int k)), some (Sl.fr (.int (cellZ ns k))), none]) := by
    by_cases h : ns = []
    · subst h
      rfl
    · have hp : 0 < ns.length := List.length_pos_iff.mpr h
      have c : eB (eSNe 0) [some (Sl.scr ns), some (Sl.fr (.int k)), some (Sl.fr (.int 0)), none] = .ok true := by
        show R.ok (!ns.isEmpty) = _
        cases ns with
        | nil => exact absurd rfl h
        | cons n ns => rfl
      rw [sIf_t c]
      have a1 : eBin dMul (eC (.int 31)) (eSSum 0) [some (Sl.scr ns), some (Sl.fr (.int k)), some (Sl.fr (.int 0)), none] = .ok (.int (31 * ns.sum)) := by
        show dMul (.int 31) (.int ns.sum) = _
        exact dMul_ok (by decide)
      have a2 : eBin dMod (eVar 1) (eSLen 0) [some (Sl.scr ns), some (Sl.fr (.int k)), some (Sl.fr (.int 0)), none] = .ok (.int (((k % ns.length : Nat) : Int))) := by
        show dMod (.int k) (.int (ns.length : Nat)) = _
        rw [dMod_ok (by omega)] <;> rfl
      have lt : k % ns.length < ns.length := Nat.mod_lt _ hp
      have a3 : eSIx 0 (eBin dMod (eVar 1) (eSLen 0)) [some (Sl.scr ns), some (Sl.fr (.int k)), some (Sl.fr (.int 0)), none] = .ok (.int (ns.getD (k % ns.length) 0)) := by
        show (eBin dMod (eVar 1) (eSLen 0) [some (Sl.scr ns), some (Sl.fr (.int k)), some (Sl.fr (.int 0)), none] >>= fun (d : D) => match d with | .int k => optR ((L2.atI ns k).map PyData.int) | _ => R.bad) = _
        rw [a2, R.ok_bind]
        show optR ((L2.atI ns ((k % ns.length : Nat) : Int)).map PyData.int) = _
        unfold L2.atI L2.ixN
        rw [if_pos (by omega), if_pos (by omega)]
        show optR ((ns[(((k % ns.length : Nat) : Int)).toNat]?).map PyData.int) = _
        rw [Int.toNat_natCast, List.getElem?_eq_getElem lt, List.getD_eq_getElem?_getD, List.getElem?_eq_getElem lt] <;> rfl
      rw [sSet_ok (eBin_ok a1 a3)]
      unfold cellZ
      rw [if_neg h] <;> rfl
  refine sSeq_to e2 ?_
  have e3 : eBin dAdd (eBin dAdd (eBin dMod (eVar 2) (eC (.int 1000000007))) (eBin dMul (eC (.int 7919)) (eVar 1))) (eC (.int 13)) [some (Sl.scr ns), some (Sl.fr (.int k)), some (Sl.fr (.int (cellZ ns k))), none] = .ok (.int (numZ ns k)) := by
    have b1 : eBin dMod (eVar 2) (eC (.int 1000000007)) [some (Sl.scr ns), some (Sl.fr (.int k)), some (Sl.fr (.int (cellZ ns k))), none] = .ok (.int (cellZ ns k % 1000000007)) := by
      show dMod (.int (cellZ ns k)) (.int 1000000007) = _
      exact dMod_ok (by decide)
    have b2 : eBin dMul (eC (.int 7919)) (eVar 1) [some (Sl.scr ns), some (Sl.fr (.int k)), some (Sl.fr (.int (cellZ ns k))), none] = .ok (.int (7919 * (k : Int))) := by
      show dMul (.int 7919) (.int k) = _
      exact dMul_ok (by decide)
    rw [eBin_ok (eBin_ok b1 b2) rfl] <;> rfl
  refine sSeq_to (ρ' := [some (Sl.scr ns), some (Sl.fr (.int k)), some (Sl.fr (.int (cellZ ns k))), some (Sl.fr (.int (numZ ns k)))]) (sSet_ok e3) (sRet_ok ?_)
  have c1 : eBin dMul (eVar 3) (eVar 3) [some (Sl.scr ns), some (Sl.fr (.int k)), some (Sl.fr (.int (cellZ ns k))), some (Sl.fr (.int (numZ ns k)))] = .ok (.int (numZ ns k * numZ ns k)) := by
    show dMul (.int (numZ ns k)) (.int (numZ ns k)) = _
    exact dMul_ok (small_of hn hn2)
  have c2 : eBin dMod (eBin dMul (eVar 3) (eVar 3)) (eC (.int 1000000007)) [some (Sl.scr ns), some (Sl.fr (.int k)), some (Sl.fr (.int (cellZ ns k))), some (Sl.fr (.int (numZ ns k)))] = .ok (.int (numZ ns k * numZ ns k % 1000000007)) := by
    rw [eBin_ok c1 rfl]
    exact dMod_ok (by decide)
  have c3 : eBin dMul (eBin dMod (eBin dMul (eVar 3) (eVar 3)) (eC (.int 1000000007))) (eVar 3) [some (Sl.scr ns), some (Sl.fr (.int k)), some (Sl.fr (.int (cellZ ns k))), some (Sl.fr (.int (numZ ns k)))] = .ok (.int (numZ ns k * numZ ns k % 1000000007 * numZ ns k)) := by
    rw [eBin_ok c2 (b := .int (numZ ns k)) rfl]
    exact dMul_ok (small_of (by omega) (by omega))
  have c4 : eBin dMod (eBin dMul (eBin dMod (eBin dMul (eVar 3) (eVar 3)) (eC (.int 1000000007))) (eVar 3)) (eC (.int 998244353)) [some (Sl.scr ns), some (Sl.fr (.int k)), some (Sl.fr (.int (cellZ ns k))), some (Sl.fr (.int (numZ ns k)))] = .ok (.int (numZ ns k * numZ ns k % 1000000007 * numZ ns k % 998244353)) := by
    rw [eBin_ok c3 rfl]
    exact dMod_ok (by decide)
  rw [eBin_ok c4 rfl]
  exact dDiv_ok (by decide) (by decide)

/-! ### a club's row -/
def homeN (gs : List Game) (c : Int) : Nat := (gs.filter fun g => decide (g.1 = c)).length
def awayN (gs : List Game) (c : Int) : Nat := (gs.filter fun g => decide (g.2 = c)).length
def cell3 : Nat → Option Int
  | 0 => none
  | 1 => some 0
  | _ => some 1
def optD : Option Int → D
  | none => .none
  | some i => .int i
def rowT (rs : List (List Game)) (c : Int) : List (Option Int) := rs.map fun gs => cell3 (2 * homeN gs c + awayN gs c)
theorem ix3 : ∀ m : Nat, m ≤ 2 → dIx (.list [.none, .int 0, .int 1]) (.int (m : Nat)) = .ok (optD (cell3 m))
  | 0, _ => rfl
  | 1, _ => rfl
  | 2, _ => rfl
  | n + 3, h => absurd h (by omega)
theorem row_ok (rs : List (List Game)) (c : Int) (hl : rs.length ≤ lim) (hg : ∀ gs ∈ rs, gs.length ≤ lim ∧ 2 * homeN gs c + awayN gs c ≤ 2) : F_law_row [rD rs, .int c] = .ok (.list ((rowT rs c).map optD)) := by
  refine runD_ret (ρ := [some (Sl.fr (rD rs)), some (Sl.fr (.int c)), some (Sl.fr (.list ((rowT rs c).map optD))), none, none, none, none]) ?_
  show m_law_row [some (Sl.fr (rD rs)), some (Sl.fr (.int c)), none, none, none, none, none] = _
  refine sSeq_to (ρ' := [some (Sl.fr (rD rs)), some (Sl.fr (.int c)), some (Sl.ol []), none, none, none, none]) rfl ?_
  refine sSeq_to (ρ' := [some (Sl.fr (rD rs)), some (Sl.fr (.int c)), some (Sl.ol ((rowT rs c).map optD)), none, none, none, none]) ?_ rfl
  rw [sFor_ok (ds := rs.map gD') rfl]
  have q := loop_app (t := tg1 3) (g := b_law_row_0) (ws := [3, 4, 5]) gD' (fun b => [some (Sl.fr (rD rs)), some (Sl.fr (.int c)), some (Sl.ol b), none, none, none, none]) (fun gs => optD (cell3 (2 * homeN gs c + awayN gs c))) rs ?_
  · have e : (rowT rs c).map optD = rs.map (fun gs => optD (cell3 (2 * homeN gs c + awayN gs c))) := by unfold rowT; rw [List.map_map] <;> rfl
    rw [e]
    exact q
  · intro b gs hgs hb
    obtain ⟨g1, g2⟩ := hg gs hgs
    refine ⟨[some (Sl.fr (rD rs)), some (Sl.fr (.int c)), some (Sl.ol b), some (Sl.fr (gD' gs)), none, none, none],
      [some (Sl.fr (rD rs)), some (Sl.fr (.int c)), some (Sl.ol (b ++ [optD (cell3 (2 * homeN gs c + awayN gs c))])), some (Sl.fr (gD' gs)), some (Sl.fr (.list ((gs.filter fun g => decide (g.1 = c)).map pD))), some (Sl.fr (.list ((gs.filter fun g => decide (g.2 = c)).map pD))), none], rfl, ?_, rfl⟩
    refine sSeq_to (ρ' := [some (Sl.fr (rD rs)), some (Sl.fr (.int c)), some (Sl.ol b), some (Sl.fr (gD' gs)), some (Sl.fr (.list ((gs.filter fun g => decide (g.1 = c)).map pD))), none, none]) ?_ ?_
    · refine sSet_ok (eLc_map pD (fun g => [some (Sl.fr (rD rs)), some (Sl.fr (.int c)), some (Sl.ol b), some (Sl.fr (gD' gs)), none, none, some (Sl.fr (pD g))]) (fun g => decide (g.1 = c)) pD gs rfl g1 (fun _ _ => rfl) (fun g _ => eB_ok ?_) fun _ _ _ => rfl)
      rw [eBin_ok (a := .int g.1) (b := .int c) rfl rfl, dEqV_int]
    refine sSeq_to (ρ' := [some (Sl.fr (rD rs)), some (Sl.fr (.int c)), some (Sl.ol b), some (Sl.fr (gD' gs)), some (Sl.fr (.list ((gs.filter fun g => decide (g.1 = c)).map pD))), some (Sl.fr (.list ((gs.filter fun g => decide (g.2 = c)).map pD))), none]) ?_ ?_
    · refine sSet_ok (eLc_map pD (fun g => [some (Sl.fr (rD rs)), some (Sl.fr (.int c)), some (Sl.ol b), some (Sl.fr (gD' gs)), some (Sl.fr (.list ((gs.filter fun g => decide (g.1 = c)).map pD))), none, some (Sl.fr (pD g))]) (fun g => decide (g.2 = c)) pD gs rfl g1 (fun _ _ => rfl) (fun g _ => eB_ok ?_) fun _ _ _ => rfl)
      rw [eBin_ok (a := .int g.2) (b := .int c) rfl rfl, dEqV_int]
    · refine sOl_ok (ds := b) (d := optD (cell3 (2 * homeN gs c + awayN gs c))) rfl ?_ (mAppend_ok (by omega))
      have e1 : eBin dMul (eC (.int 2)) (eCall (dOne dLen) (aCons (eVar 4) aNil)) [some (Sl.fr (rD rs)), some (Sl.fr (.int c)), some (Sl.ol b), some (Sl.fr (gD' gs)), some (Sl.fr (.list ((gs.filter fun g => decide (g.1 = c)).map pD))), some (Sl.fr (.list ((gs.filter fun g => decide (g.2 = c)).map pD))), none] = .ok (.int (2 * (homeN gs c : Int))) := by
        show dMul (.int 2) (.int (((gs.filter fun g => decide (g.1 = c)).map pD).length : Nat)) = _
        rw [List.length_map]
        exact dMul_ok (by decide)
      rw [eBin_ok (a := .list [.none, .int 0, .int 1]) (b := .int ((2 * homeN gs c + awayN gs c : Nat) : Int)) rfl ?_, ix3 _ g2]
      rw [eBin_ok e1 (b := .int (awayN gs c : Nat)) ?_]
      · show R.ok (PyData.int _) = _
        congr 2
      · show R.ok (PyData.int (((gs.filter fun g => decide (g.2 = c)).map pD).length : Nat)) = _
        rw [List.length_map] <;> rfl

/-! ### a club's breaks -/
theorem dEqV_opt (a b : Option Int) : dEqV (optD a) (optD b) = .ok (.bool (decide (a = b))) := by
  cases a with
  | none =>
    cases b with
    | none => rfl
    | some j => rfl
  | some i =>
    cases b with
    | none => rfl
    | some j =>
      show dEqV (.int i) (.int j) = _
      rw [dEqV_int]
      by_cases e : i = j <;> simp [e]
def playedT (row : List (Option Int)) : List Nat := ((row.zipIdx).filter fun p => p.1.isSome).map (·.2)
def breaksT (row : List (Option Int)) : List Nat := (((playedT row).zip ((playedT row).drop 1)).filter fun p => decide (row.getD p.1 none = row.getD p.2 none)).map (·.2)
theorem played_lt {row : List (Option Int)} {i : Nat} (h : i ∈ playedT row) : i < row.length := by
  obtain ⟨p, hp, rfl⟩ := List.mem_map.mp h
  have m := (List.mem_filter.mp hp).1
  obtain ⟨x, k⟩ := p
  have := List.mem_zipIdx' m
  exact this.1
theorem breaks_ok (rs : List (List Game)) (c : Int) (hl : rs.length ≤ lim) (hg : ∀ gs ∈ rs, gs.length ≤ lim ∧ 2 * homeN gs c + awayN gs c ≤ 2) : F_law_breaks [rD rs, .int c] = .ok (.list ((breaksT (rowT rs c)).map fun k => .int ((k : Nat) : Int))) := by
  have hrow := row_ok rs c hl hg
  have lrow : (rowT rs c).length = rs.length := by unfold rowT; rw [List.length_map]
  generalize hr : rowT rs c = row at hrow lrow
  refine runD_ret (ρ := [some (Sl.fr (rD rs)), some (Sl.fr (.int c)), some (Sl.fr (.list (row.map optD))), some (Sl.fr (.list ((playedT row).map fun k => .int ((k : Nat) : Int)))), none, none, none]) ?_
  show m_law_breaks [some (Sl.fr (rD rs)), some (Sl.fr (.int c)), none, none, none, none, none] = _
  refine sSeq_to (ρ' := [some (Sl.fr (rD rs)), some (Sl.fr (.int c)), some (Sl.fr (.list (row.map optD))), none, none, none, none]) (sSet_ok (?_ : _ = R.ok (PyData.list (row.map optD)))) ?_
  · exact eFn_to [rD rs, .int c] hrow rfl rfl
  refine sSeq_to (ρ' := [some (Sl.fr (rD rs)), some (Sl.fr (.int c)), some (Sl.fr (.list (row.map optD))), some (Sl.fr (.list ((playedT row).map fun k => .int ((k : Nat) : Int)))), none, none, none]) (sSet_ok (?_ : _ = R.ok (PyData.list ((playedT row).map fun k => .int ((k : Nat) : Int))))) ?_
  · have e := eLc_map (wi := iCall enum1 (aCons (eVar 2) aNil)) (t := tg2 4 5) (c := eB (eBin dIsNot (eVar 5) (eC .none))) (f := eVar 4) (vs := [4, 5]) (ρ := [some (Sl.fr (rD rs)), some (Sl.fr (.int c)), some (Sl.fr (.list (row.map optD))), none, none, none, none])
      (fun p : Option Int × Nat => .tuple [.int ((p.2 : Nat) : Int), optD p.1]) (fun p => [some (Sl.fr (rD rs)), some (Sl.fr (.int c)), some (Sl.fr (.list (row.map optD))), none, some (Sl.fr (.int ((p.2 : Nat) : Int))), some (Sl.fr (optD p.1)), none]) (fun p => p.1.isSome) (fun p => .int ((p.2 : Nat) : Int)) row.zipIdx ?_ ?_ (fun _ _ => rfl) (fun p _ => ?_) (fun _ _ _ => rfl)
    · rw [e]
      unfold playedT
      rw [List.map_map] <;> rfl
    · show R.ok (enumD 0 (row.map optD)) = _
      rw [enumD_map]
    · rw [List.length_zipIdx]; omega
    · obtain ⟨o, k⟩ := p
      cases o <;> rfl
  refine sRet_ok ?_
  have e := eLc_map (wi := iCall zip2 (aCons (eVar 3) (aCons (eSl (eVar 3) (oSome (eC (.int 1))) oNone) aNil))) (t := tg2 6 4) (c := eB (eBin dEqV (eBin dIx (eVar 2) (eVar 6)) (eBin dIx (eVar 2) (eVar 4)))) (f := eVar 4) (vs := [6, 4])
    (ρ := [some (Sl.fr (rD rs)), some (Sl.fr (.int c)), some (Sl.fr (.list (row.map optD))), some (Sl.fr (.list ((playedT row).map fun k => .int ((k : Nat) : Int)))), none, none, none])
    (fun p : Nat × Nat => .tuple [.int ((p.1 : Nat) : Int), .int ((p.2 : Nat) : Int)]) (fun p => [some (Sl.fr (rD rs)), some (Sl.fr (.int c)), some (Sl.fr (.list (row.map optD))), some (Sl.fr (.list ((playedT row).map fun k => .int ((k : Nat) : Int)))), some (Sl.fr (.int ((p.2 : Nat) : Int))), none, some (Sl.fr (.int ((p.1 : Nat) : Int)))])
    (fun p => decide (row.getD p.1 none = row.getD p.2 none)) (fun p => .int ((p.2 : Nat) : Int)) ((playedT row).zip ((playedT row).drop 1)) ?_ ?_ (fun _ _ => rfl) (fun p hp => eB_ok ?_) (fun _ _ _ => rfl)
  · rw [e]
    unfold breaksT
    rw [List.map_map] <;> rfl
  · show R.ok (zipD ((playedT row).map fun k => .int ((k : Nat) : Int)) (cutD ((playedT row).map fun k => .int ((k : Nat) : Int)) (some ((1 : Nat) : Int)) none)) = _
    rw [cutD_from, ← List.map_drop, zipD_map]
  · rw [List.length_zip]
    have h1 : (playedT row).length ≤ row.length := by
      unfold playedT
      rw [List.length_map]
      exact Nat.le_trans (List.length_filter_le _ _) (by rw [List.length_zipIdx]; exact Nat.le_refl _)
    exact Nat.le_trans (Nat.min_le_left _ _) (by omega)
  · have m1 := played_lt (List.of_mem_zip hp).1
    have m2 := played_lt (List.mem_of_mem_drop (List.of_mem_zip hp).2)
    have at_ : ∀ i : Nat, i < row.length → (row.map optD)[i]? = some (optD (row.getD i none)) := fun i hi => by
      rw [List.getElem?_map, List.getElem?_eq_getElem hi, List.getD_eq_getElem?_getD, List.getElem?_eq_getElem hi] <;> rfl
    rw [eBin_ok (a := optD (row.getD p.1 none)) (b := optD (row.getD p.2 none)) (dIx_list (at_ _ m1)) (dIx_list (at_ _ m2)), dEqV_opt]

/-! ### the list is once round: the law's own look -/
def keyG (g : Game) : Game := (if g.2 < g.1 then g.2 else g.1, if g.2 > g.1 then g.2 else g.1)
def tbl (ks : List Game) : List (List Int × D) := ks.map fun k => ([k.1, k.2], .bool true)
def hrl (ls : List Int) : List (Int × D) := ls.map fun n => (n, .bool true)
theorem has_tbl (k : Game) : ∀ ks : List Game, hasD (tbl ks) [k.1, k.2] = decide (k ∈ ks)
  | [] => rfl
  | j :: ks => by
    have ih := has_tbl k ks
    unfold hasD tbl at ih ⊢
    rw [List.map_cons, List.any_cons, ih]
    have e : decide (([j.1, j.2] : List Int) = [k.1, k.2]) = decide (k = j) := by
      obtain ⟨a, b⟩ := j
      obtain ⟨c, d⟩ := k
      by_cases h1 : a = c <;> by_cases h2 : b = d <;> simp [h1, h2] <;> (intro h; first | exact absurd h.symm h1 | exact absurd h.symm h2 | (intro h3; exact h2 h3.symm) | omega)
    rw [e]
    by_cases h1 : k = j <;> by_cases h2 : k ∈ ks <;> simp [h1, h2]
theorem has_hrl (n : Int) : ∀ ls : List Int, hasD (hrl ls) n = decide (n ∈ ls)
  | [] => rfl
  | m :: ls => by
    have ih := has_hrl n ls
    unfold hasD hrl at ih ⊢
    rw [List.map_cons, List.any_cons, ih]
    by_cases h1 : m = n <;> by_cases h2 : n ∈ ls <;> simp [h1, h2] <;> (intro h; exact h1 h.symm)
theorem put_tbl {k : Game} {ks : List Game} (h : k ∉ ks) : putD (tbl ks) [k.1, k.2] (.bool true) = tbl (ks ++ [k]) := by
  unfold putD
  rw [has_tbl, decide_eq_false h]
  simp [tbl]
theorem put_hrl {n : Int} {ls : List Int} (h : n ∉ ls) : putD (hrl ls) n (.bool true) = hrl (ls ++ [n]) := by
  unfold putD
  rw [has_hrl, decide_eq_false h]
  simp [hrl]
/-- a game that may be told: its key is new, its clubs are new, in their range -/
def FitG (c : Int) (ks : List Game) (ls : List Int) (g : Game) : Prop := keyG g ∉ ks ∧ g.1 ∉ ls ∧ g.2 ∉ ls ∧ 0 ≤ (keyG g).1 ∧ (keyG g).1 < (keyG g).2 ∧ (keyG g).2 < c
theorem fit_ne {c : Int} {ks : List Game} {ls : List Int} {g : Game} (h : FitG c ks ls g) : g.1 ≠ g.2 := by
  obtain ⟨_, _, _, _, h, _⟩ := h
  intro e
  unfold keyG at h
  rw [e] at h
  simp at h
def st1 (c : Int) (rs : List (List Game)) (ks : List Game) : Ev := [some (Sl.fr (.int c)), some (Sl.fr (rD rs)), some (Sl.dt (tbl ks)), none, none, none, none, none, none, none]
def st2 (c : Int) (rs : List (List Game)) (gs : List Game) (q : List Game × List Int) : Ev := [some (Sl.fr (.int c)), some (Sl.fr (rD rs)), some (Sl.dt (tbl q.1)), some (Sl.fr (gD' gs)), none, some (Sl.dk (hrl q.2)), none, none, none, none]
theorem once_game (c : Int) (rs : List (List Game)) (gs : List Game) (q : List Game × List Int) (g : Game) (h : FitG c q.1 q.2 g) (hl : q.1.length < lim) (hl2 : q.2.length + 2 ≤ lim) :
    ∃ ρ1 ρ2, tg2 7 8 (pD g) (st2 c rs gs q) = .ok ρ1 ∧ b_law_once_right_0 ρ1 = .ok (.nx, ρ2) ∧ wipeE ρ2 [7, 8, 9] = st2 c rs gs (q.1 ++ [keyG g], q.2 ++ [g.1, g.2]) := by
  have hne := fit_ne h
  obtain ⟨h1, h2, h3, h4, h5, h6⟩ := h
  obtain ⟨ks, ls⟩ := q
  refine ⟨[some (Sl.fr (.int c)), some (Sl.fr (rD rs)), some (Sl.dt (tbl ks)), some (Sl.fr (gD' gs)), none, some (Sl.dk (hrl ls)), none, some (Sl.fr (.int g.1)), some (Sl.fr (.int g.2)), none],
    [some (Sl.fr (.int c)), some (Sl.fr (rD rs)), some (Sl.dt (tbl (ks ++ [keyG g]))), some (Sl.fr (gD' gs)), none, some (Sl.dk (hrl (ls ++ [g.1, g.2]))), none, some (Sl.fr (.int g.1)), some (Sl.fr (.int g.2)), some (Sl.fr (pD (keyG g)))], rfl, ?_, rfl⟩
  refine sSeq_to (ρ' := [some (Sl.fr (.int c)), some (Sl.fr (rD rs)), some (Sl.dt (tbl ks)), some (Sl.fr (gD' gs)), none, some (Sl.dk (hrl ls)), none, some (Sl.fr (.int g.1)), some (Sl.fr (.int g.2)), some (Sl.fr (pD (keyG g)))]) rfl ?_
  generalize hρ : ([some (Sl.fr (.int c)), some (Sl.fr (rD rs)), some (Sl.dt (tbl ks)), some (Sl.fr (gD' gs)), none, some (Sl.dk (hrl ls)), none, some (Sl.fr (.int g.1)), some (Sl.fr (.int g.2)), some (Sl.fr (pD (keyG g)))] : Ev) = ρ
  have t1 : eB (eInDc 2 (eVar 9)) ρ = .ok false := by
    subst hρ
    show R.ok (hasD (tbl ks) [(keyG g).1, (keyG g).2]) = _
    rw [has_tbl, decide_eq_false h1]
  have t2 : eB (eInDc 5 (eVar 7)) ρ = .ok false := by
    subst hρ
    show R.ok (hasD (hrl ls) g.1) = _
    rw [has_hrl, decide_eq_false h2]
  have t3 : eB (eInDc 5 (eVar 8)) ρ = .ok false := by
    subst hρ
    show R.ok (hasD (hrl ls) g.2) = _
    rw [has_hrl, decide_eq_false h3]
  have t4 : tNotB (eB (eChain3 fLe fLt fLt (eC (.int 0)) (eBin dIx (eVar 9) (eC (.int 0))) (eBin dIx (eVar 9) (eC (.int 1))) (eVar 0))) ρ = .ok false := by
    subst hρ
    have e : eChain3 fLe fLt fLt (eC (.int 0)) (eBin dIx (eVar 9) (eC (.int 0))) (eBin dIx (eVar 9) (eC (.int 1))) (eVar 0) [some (Sl.fr (.int c)), some (Sl.fr (rD rs)), some (Sl.dt (tbl ks)), some (Sl.fr (gD' gs)), none, some (Sl.dk (hrl ls)), none, some (Sl.fr (.int g.1)), some (Sl.fr (.int g.2)), some (Sl.fr (pD (keyG g)))] = .ok (.bool true) := by
      show (if decide (0 ≤ (keyG g).1) = true then (if decide ((keyG g).1 < (keyG g).2) = true then R.ok (PyData.bool (decide ((keyG g).2 < c))) else R.ok (.bool false)) else R.ok (.bool false)) = _
      rw [if_pos (decide_eq_true h4), if_pos (decide_eq_true h5), decide_eq_true h6]
    unfold tNotB
    rw [eB_ok e] <;> rfl
  refine sSeq_to (ρ' := ρ) ?_ ?_
  · rw [sIf_f]
    · rfl
    · unfold tOrB
      rw [t1, R.ok_bind, if_neg (by decide), t2, R.ok_bind, if_neg (by decide), t3, R.ok_bind, if_neg (by decide), t4]
  subst hρ
  refine sSeq_to (ρ' := [some (Sl.fr (.int c)), some (Sl.fr (rD rs)), some (Sl.dt (tbl (ks ++ [keyG g]))), some (Sl.fr (gD' gs)), none, some (Sl.dk (hrl ls)), none, some (Sl.fr (.int g.1)), some (Sl.fr (.int g.2)), some (Sl.fr (pD (keyG g)))]) ?_ ?_
  · show (if (tbl ks).length < lim then R.ok (Fl.nx, _) else R.bad) = _
    rw [if_pos (by unfold tbl; rw [List.length_map]; exact hl), put_tbl h1] <;> rfl
  · show (if ((hrl ls).length + 2 ≤ lim ∧ g.1 ≠ g.2) ∧ noL (.bool true) = true ∧ noL (.bool true) = true then R.ok (Fl.nx, _) else R.bad) = _
    have n2 : g.2 ∉ ls ++ [g.1] := by
      intro z
      rcases List.mem_append.mp z with z | z
      · exact h3 z
      · exact hne (List.mem_singleton.mp z).symm
    rw [if_pos ⟨⟨by unfold hrl; rw [List.length_map]; exact hl2, hne⟩, rfl, rfl⟩, put_hrl h2, put_hrl n2, List.append_assoc] <;> rfl
/-- what the law's own look asks of the games -/
structure Fit (c : Int) (rs : List (List Game)) : Prop where
  rng : ∀ g ∈ rs.flatten, 0 ≤ (keyG g).1 ∧ (keyG g).1 < (keyG g).2 ∧ (keyG g).2 < c
  keys : (rs.flatten.map keyG).Nodup
  clubs : ∀ gs ∈ rs, (gs.flatMap fun g => [g.1, g.2]).Nodup
theorem once_round_loop (c : Int) (rs : List (List Game)) (gs : List Game) (ks : List Game) (hl : ks.length + gs.length + 1 ≤ 1000000) (hr : ∀ g ∈ gs, 0 ≤ (keyG g).1 ∧ (keyG g).1 < (keyG g).2 ∧ (keyG g).2 < c) (hk : (ks ++ gs.map keyG).Nodup) (hc : (gs.flatMap fun g => [g.1, g.2]).Nodup) :
    loop (tg2 7 8) b_law_once_right_0 [7, 8, 9] (gs.map pD) (st2 c rs gs (ks, [])) = .ok (.nx, st2 c rs gs (ks ++ gs.map keyG, gs.flatMap fun g => [g.1, g.2])) := by
  have q := loop_fold (t := tg2 7 8) (g := b_law_once_right_0) (ws := [7, 8, 9]) pD (st2 c rs gs) (fun q g => (q.1 ++ [keyG g], q.2 ++ [g.1, g.2])) (fun q ys => q.1 ++ ys.map keyG = ks ++ gs.map keyG ∧ q.2 ++ (ys.flatMap fun g => [g.1, g.2]) = (gs.flatMap fun g => [g.1, g.2]) ∧ ∀ y ∈ ys, y ∈ gs) gs (ks, []) ⟨rfl, rfl, fun _ h => h⟩ fun q g ys hP => by
    obtain ⟨p1, p2, p3⟩ := hP
    rw [List.map_cons] at p1
    rw [List.flatMap_cons] at p2
    have r := hr g (p3 g List.mem_cons_self)
    have f : FitG c q.1 q.2 g := by
      refine ⟨fun z => ?_, fun z => ?_, fun z => ?_, r⟩
      · rw [← p1] at hk
        exact (List.nodup_append.mp hk).2.2 _ z _ List.mem_cons_self rfl
      · rw [← p2] at hc
        exact (List.nodup_append.mp hc).2.2 _ z _ (List.mem_append_left _ List.mem_cons_self) rfl
      · rw [← p2] at hc
        exact (List.nodup_append.mp hc).2.2 _ z _ (List.mem_append_left _ (List.mem_cons_of_mem _ List.mem_cons_self)) rfl
    have l1 := congrArg List.length p1
    have l2 := congrArg List.length p2
    have l3 : (gs.flatMap fun g : Game => [g.1, g.2]).length = 2 * gs.length := by
      have go : ∀ l : List Game, (l.flatMap fun g : Game => [g.1, g.2]).length = 2 * l.length := by
        intro l
        induction l with
        | nil => rfl
        | cons x l ih => rw [List.flatMap_cons, List.length_append, ih, List.length_cons, List.length_cons, List.length_cons, List.length_nil]; omega
      exact go gs
    simp only [List.length_append, List.length_cons, List.length_map, List.length_nil] at l1 l2
    obtain ⟨ρ1, ρ2, a1, a2, a3⟩ := once_game c rs gs q g f (by show _ < 16777216; omega) (by show _ ≤ 16777216; omega)
    refine ⟨ρ1, ρ2, a1, a2, a3, ?_, ?_, fun y hy => p3 y (List.mem_cons_of_mem _ hy)⟩
    · show (q.1 ++ [keyG g]) ++ ys.map keyG = _
      rw [List.append_assoc]
      exact p1
    · show (q.2 ++ [g.1, g.2]) ++ _ = _
      rw [List.append_assoc]
      exact p2
  have e : ∀ (ys : List Game) (q : List Game × List Int), ys.foldl (fun q g => (q.1 ++ [keyG g], q.2 ++ [g.1, g.2])) q = (q.1 ++ ys.map keyG, q.2 ++ ys.flatMap fun g => [g.1, g.2]) := by
    intro ys
    induction ys with
    | nil => intro q; simp
    | cons y ys ih => intro q; rw [List.foldl_cons, ih, List.map_cons, List.flatMap_cons, List.append_assoc, List.append_assoc]; rfl
  rw [q, e] <;> rfl
theorem count_opt (k : Int) (row : List (Option Int)) : ((row.map optD).countP fun z => PyData.eqv z (.int k)) = row.countP fun o => decide (o = some k) := by
  rw [List.countP_map]
  congr 1
  funext o
  cases o with
  | none => simp [optD, PyData.eqv]
  | some i =>
    show PyData.eqv (.int i) (.int k) = _
    rw [eqv_int]
    by_cases e : i = k <;> simp [e]
theorem shaped_row (row : List (Option Int)) : SeqAt.shaped (.list (row.map optD)) = true := by
  refine shaped_of (n := 2) ?_ ?_
  · rw [PyData.canLay0]
    exact lay_map (fun o => by cases o <;> simp [optD, PyData.canLay0]) row
  · have := depth_map (n := 1) (enc := optD) (fun o => by cases o <;> simp [optD, PyData.depth]) row
    simp only [PyData.depth]
    omega
theorem once_right_ok (c : Nat) (rs : List (List Game)) (hlen : (rs.length : Int) = (c : Int) - 1 + (c : Int) % 2) (hc : c ≤ 1000) (F : Fit c rs) (hn : (rs.flatten.length : Int) = (c : Int) * ((c : Int) - 1) / 2) (hflat : rs.flatten.length ≤ 100000) (h2 : ∀ k : Nat, k < c → ∀ gs ∈ rs, 2 * homeN gs k + awayN gs k ≤ 2)
    (hrow : ∀ k : Nat, k < c → (if (((rowT rs k).countP fun o => decide (o = some 1) : Nat) : Int) - (((rowT rs k).countP fun o => decide (o = some 0) : Nat) : Int) < 0 then -((((rowT rs k).countP fun o => decide (o = some 1) : Nat) : Int) - (((rowT rs k).countP fun o => decide (o = some 0) : Nat) : Int)) else (((rowT rs k).countP fun o => decide (o = some 1) : Nat) : Int) - (((rowT rs k).countP fun o => decide (o = some 0) : Nat) : Int)) = 1 - (c : Int) % 2) :
    F_law_once_right [.int c, rD rs] = .ok (.bool true) := by
  have lg : ∀ gs ∈ rs, gs.length ≤ rs.flatten.length := fun gs h => by
    obtain ⟨s, t, rfl⟩ := List.append_of_mem h
    simp only [List.flatten_append, List.flatten_cons, List.length_append]
    omega
  have lr : rs.length ≤ 2000 := by omega
  refine runD_ret (ρ := st1 c rs (rs.flatten.map keyG)) ?_
  show m_law_once_right [some (Sl.fr (.int c)), some (Sl.fr (rD rs)), none, none, none, none, none, none, none, none] = _
  refine sSeq_to (ρ' := [some (Sl.fr (.int c)), some (Sl.fr (rD rs)), none, none, none, none, none, none, none, none]) ?_ ?_
  · rw [sIf_f]
    · rfl
    · refine eB_ok ?_
      have e1 : eBin dAdd (eBin dSub (eVar 0) (eC (.int 1))) (eBin dMod (eVar 0) (eC (.int 2))) [some (Sl.fr (.int c)), some (Sl.fr (rD rs)), none, none, none, none, none, none, none, none] = .ok (.int ((c : Int) - 1 + (c : Int) % 2)) := by
        rw [eBin_ok (a := .int ((c : Int) - 1)) (b := .int ((c : Int) % 2)) rfl (show dMod (.int c) (.int 2) = R.ok (.int ((c : Int) % 2)) from dMod_ok (by decide))] <;> rfl
      have e2 : eCall (dOne dLen) (aCons (eVar 1) aNil) [some (Sl.fr (.int c)), some (Sl.fr (rD rs)), none, none, none, none, none, none, none, none] = .ok (.int (rs.length : Nat)) := by
        show R.ok (PyData.int ((rs.map gD').length : Nat)) = _
        rw [List.length_map]
      rw [eBin_ok e2 e1, dNeV_int, decide_eq_true hlen] <;> rfl
  refine sSeq_to (ρ' := st1 c rs []) rfl ?_
  refine sSeq_to (ρ' := st1 c rs (rs.flatten.map keyG)) ?_ ?_
  · rw [sFor_ok (ds := rs.map gD') rfl]
    have q := loop_fold (t := tg1 3) (g := b_law_once_right_1) (ws := [3, 5, 7, 8, 9]) gD' (st1 c rs) (fun ks gs => ks ++ gs.map keyG) (fun ks ys => ks ++ ys.flatten.map keyG = rs.flatten.map keyG ∧ ∀ y ∈ ys, y ∈ rs) rs [] ⟨rfl, fun _ h => h⟩ fun ks gs ys hP => by
      obtain ⟨p1, p2⟩ := hP
      rw [List.flatten_cons, List.map_append] at p1
      have m := p2 gs List.mem_cons_self
      have l1 := congrArg List.length p1
      simp only [List.length_append, List.length_map] at l1
      have q := once_round_loop c rs gs ks (by omega) (fun g hg => F.rng g (List.mem_flatten.mpr ⟨gs, m, hg⟩)) (by
        have k := F.keys
        rw [← p1, ← List.append_assoc] at k
        exact (List.nodup_append.mp k).1) (F.clubs gs m)
      refine ⟨_, st2 c rs gs (ks ++ gs.map keyG, gs.flatMap fun g => [g.1, g.2]), rfl, ?_, rfl, ?_, fun y hy => p2 y (List.mem_cons_of_mem _ hy)⟩
      · refine sSeq_to (ρ' := st2 c rs gs (ks, [])) rfl ?_
        rw [sFor_ok (ds := gs.map pD) rfl]
        exact q
      · rw [List.append_assoc]
        exact p1
    have e : ∀ (ys : List (List Game)) (ks : List Game), ys.foldl (fun ks gs => ks ++ gs.map keyG) ks = ks ++ ys.flatten.map keyG := by
      intro ys
      induction ys with
      | nil => intro ks; simp
      | cons y ys ih => intro ks; rw [List.foldl_cons, ih, List.flatten_cons, List.map_append, List.append_assoc]
    rw [q, e, List.nil_append]
  refine sSeq_to (ρ' := st1 c rs (rs.flatten.map keyG)) ?_ ?_
  · rw [sIf_f]
    · rfl
    · refine eB_ok ?_
      have e1 : eBin dDiv (eBin dMul (eVar 0) (eBin dSub (eVar 0) (eC (.int 1)))) (eC (.int 2)) (st1 c rs (rs.flatten.map keyG)) = .ok (.int ((c : Int) * ((c : Int) - 1) / 2)) := by
        have e3 : eBin dMul (eVar 0) (eBin dSub (eVar 0) (eC (.int 1))) (st1 c rs (rs.flatten.map keyG)) = .ok (.int ((c : Int) * ((c : Int) - 1))) := by
          rw [eBin_ok (a := .int c) (b := .int ((c : Int) - 1)) rfl rfl]
          exact dMul_ok (small_of (by omega) (by omega))
        rw [eBin_ok e3 (b := .int 2) rfl]
        exact dDiv_ok (by decide) (by decide)
      have e2 : eLenDc 2 (st1 c rs (rs.flatten.map keyG)) = .ok (.int (rs.flatten.length : Nat)) := by
        show R.ok (PyData.int ((tbl (rs.flatten.map keyG)).length : Nat)) = _
        unfold tbl
        rw [List.length_map, List.length_map]
      rw [eBin_ok e2 e1, dNeV_int, decide_eq_true hn] <;> rfl
  refine sSeq_to (ρ' := st1 c rs (rs.flatten.map keyG)) ?_ rfl
  have er : iCall rng1 (aCons (eVar 0) aNil) (st1 c rs (rs.flatten.map keyG)) = .ok ((List.range c).map fun k => PyData.int ((k : Nat) : Int)) := by
    show (if -1000000 ≤ (c : Int) ∧ (c : Int) ≤ 1000000 then R.ok (rangeD 0 (c : Int).toNat) else .bad) = _
    rw [if_pos (by omega)]
    unfold rangeD
    rw [Int.toNat_natCast]
    congr 1
    refine List.map_congr_left fun k _ => ?_
    rw [Int.zero_add]
  rw [sFor_ok er]
  have q := loop_fold (t := tg1 4) (g := b_law_once_right_2) (ws := [4, 6]) (fun k : Nat => PyData.int ((k : Nat) : Int)) (fun _ : Unit => st1 c rs (rs.flatten.map keyG)) (fun _ _ => ()) (fun _ ys => ∀ y ∈ ys, y < c) (List.range c) () (fun y hy => List.mem_range.mp hy) fun _ k ys hP => by
    have hk := hP k List.mem_cons_self
    have r := row_ok rs k (by show _ ≤ 16777216; omega) (fun gs hgs => ⟨by have := lg gs hgs; show _ ≤ 16777216; omega, h2 k hk gs hgs⟩)
    refine ⟨_, [some (Sl.fr (.int c)), some (Sl.fr (rD rs)), some (Sl.dt (tbl (rs.flatten.map keyG))), none, some (Sl.fr (.int ((k : Nat) : Int))), none, some (Sl.fr (.list ((rowT rs k).map optD))), none, none, none], rfl, ?_, rfl, fun y hy => hP y (List.mem_cons_of_mem _ hy)⟩
    refine sSeq_to (ρ' := [some (Sl.fr (.int c)), some (Sl.fr (rD rs)), some (Sl.dt (tbl (rs.flatten.map keyG))), none, some (Sl.fr (.int ((k : Nat) : Int))), none, some (Sl.fr (.list ((rowT rs k).map optD))), none, none, none]) (sSet_ok (eFn_to [rD rs, .int ((k : Nat) : Int)] r rfl rfl)) ?_
    rw [sIf_f]
    · rfl
    · refine eB_ok ?_
      have cnt : ∀ j : Int, eCnt (eVar 6) (eC (.int j)) [some (Sl.fr (.int c)), some (Sl.fr (rD rs)), some (Sl.dt (tbl (rs.flatten.map keyG))), none, some (Sl.fr (.int ((k : Nat) : Int))), none, some (Sl.fr (.list ((rowT rs k).map optD))), none, none, none] = .ok (.int (((rowT rs k).countP fun o => decide (o = some j) : Nat) : Int)) := fun j => by
        show (if (SeqAt.shaped (.list ((rowT rs k).map optD)) && SeqAt.shaped (.int j)) = true then R.ok (PyData.int ((((rowT rs k).map optD).countP fun z => PyData.eqv z (.int j) : Nat) : Int)) else .bad) = _
        rw [shaped_row, shaped_int, count_opt] <;> rfl
      have e1 := eBin_ok (g := dSub) (cnt 1) (cnt 0)
      have e2 : eCall (dOne dAbs) (aCons (eBin dSub (eCnt (eVar 6) (eC (.int 1))) (eCnt (eVar 6) (eC (.int 0)))) aNil) [some (Sl.fr (.int c)), some (Sl.fr (rD rs)), some (Sl.dt (tbl (rs.flatten.map keyG))), none, some (Sl.fr (.int ((k : Nat) : Int))), none, some (Sl.fr (.list ((rowT rs k).map optD))), none, none, none] = .ok (.int (1 - (c : Int) % 2)) := by
        unfold eCall aCons
        rw [e1]
        show R.ok (PyData.int _) = _
        rw [hrow k hk]
      have e3 : eBin dSub (eC (.int 1)) (eBin dMod (eVar 0) (eC (.int 2))) [some (Sl.fr (.int c)), some (Sl.fr (rD rs)), some (Sl.dt (tbl (rs.flatten.map keyG))), none, some (Sl.fr (.int ((k : Nat) : Int))), none, some (Sl.fr (.list ((rowT rs k).map optD))), none, none, none] = .ok (.int (1 - (c : Int) % 2)) := by
        rw [eBin_ok (a := .int 1) (b := .int ((c : Int) % 2)) rfl (show dMod (.int c) (.int 2) = R.ok (.int ((c : Int) % 2)) from dMod_ok (by decide))] <;> rfl
      rw [eBin_ok e2 e3, dNeV_int, decide_eq_true rfl] <;> rfl
  rw [q]

/-! ### told, is, twice round -/
theorem whole_int (i : Int) : F_law_whole [.int i] = .ok (.bool true) := rfl
theorem dSorted_gD (gs : List Game) : dSorted (gD' gs) = .ok (gD' (sortP gs)) := by
  cases gs with
  | nil => rfl
  | cons g gs =>
    show (match ints? ((g :: gs).map pD) with | some ns => R.ok (PyData.list ((sortI ns).map .int)) | none => match pairs? ((g :: gs).map pD) with | some ps => R.ok (PyData.list ((sortP ps).map pD)) | none => .bad) = _
    have e : ints? ((g :: gs).map pD) = none := rfl
    rw [e, pairs?_map]
theorem told_ok (rs : List (List Game)) (hl : rs.length ≤ lim) : F_law_told [rD rs] = .ok (rD (rs.map sortP)) := by
  refine runD_ret (ρ := [some (Sl.fr (rD rs)), none]) (sRet_ok ?_)
  show eLc _ _ _ _ _ [some (Sl.fr (rD rs)), none] = _
  rw [eLc_all (ρ := [some (Sl.fr (rD rs)), none]) gD' (fun gs => [some (Sl.fr (rD rs)), some (Sl.fr (gD' gs))]) (fun gs => gD' (sortP gs)) rs rfl hl (fun _ _ => rfl) (fun gs _ => dSorted_gD gs)]
  show R.ok (PyData.list _) = R.ok (PyData.list _)
  rw [List.map_map] <;> rfl
theorem dAll_true (n : Nat) : dAll (.list (List.replicate n (.bool true))) = .ok (.bool true) := by
  have e : List.replicate n (PyData.bool true) = (List.replicate n true).map .bool := by rw [List.map_replicate]
  rw [e]
  show (match bools? ((List.replicate n true).map .bool) with | some bs => R.ok (PyData.bool (bs.all id)) | none => .bad) = _
  rw [bools?_map]
  show R.ok (PyData.bool ((List.replicate n true).all id)) = _
  have a : (List.replicate n true).all id = true := List.all_eq_true.mpr fun x hx => by rw [List.eq_of_mem_replicate hx]; rfl
  rw [a]
theorem map_const {α : Type} (d : D) (xs : List α) : xs.map (fun _ => d) = List.replicate xs.length d := by
  induction xs with
  | nil => rfl
  | cons x xs ih => rw [List.map_cons, ih, List.length_cons, List.replicate_succ]
theorem law_is_ok (xs ys : List (List Game)) (hx : xs.length ≤ 1000000) (hf : xs.flatten.length ≤ 1000000) : F_law_is [rD xs, rD ys] = .ok (.bool (decide (xs = ys))) := by
  have c1 : tNotB (eB (eIsi .list (eVar 0))) [some (Sl.fr (rD xs)), some (Sl.fr (rD ys)), none, none, none] = .ok false := rfl
  have c2 : eB (eBin dNeV (eVar 0) (eVar 1)) [some (Sl.fr (rD xs)), some (Sl.fr (rD ys)), none, none, none] = .ok (!decide (xs = ys)) := by
    refine eB_ok ?_
    rw [eBin_ok (a := rD xs) (b := rD ys) rfl rfl, dNeV_rD]
  by_cases h : xs = ys
  · rw [decide_eq_true h]
    have c3 : tNotB (eB (eCall (dOne dAll) (aCons (eLc (iSeqD (eVar 0)) (tg1 2) cYes (eIsi .list (eVar 2)) [2]) aNil))) [some (Sl.fr (rD xs)), some (Sl.fr (rD ys)), none, none, none] = .ok false := by
      have e := eLc_all (wi := iSeqD (eVar 0)) (t := tg1 2) (f := eIsi .list (eVar 2)) (vs := [2]) (ρ := [some (Sl.fr (rD xs)), some (Sl.fr (rD ys)), none, none, none]) gD' (fun gs => [some (Sl.fr (rD xs)), some (Sl.fr (rD ys)), some (Sl.fr (gD' gs)), none, none]) (fun _ => .bool true) xs rfl (by show _ ≤ 16777216; omega) (fun _ _ => rfl) (fun gs _ => rfl)
      rw [map_const] at e
      have e2 : eCall (dOne dAll) (aCons (eLc (iSeqD (eVar 0)) (tg1 2) cYes (eIsi .list (eVar 2)) [2]) aNil) [some (Sl.fr (rD xs)), some (Sl.fr (rD ys)), none, none, none] = .ok (.bool true) := by
        refine eCall1 e ?_
        exact dAll_true _
      unfold tNotB
      rw [eB_ok e2] <;> rfl
    refine runD_ret (ρ := [some (Sl.fr (rD xs)), some (Sl.fr (rD ys)), some (Sl.fr (.list (xs.flatten.map pD))), none, none]) ?_
    show m_law_is [some (Sl.fr (rD xs)), some (Sl.fr (rD ys)), none, none, none] = _
    refine sSeq_to (ρ' := [some (Sl.fr (rD xs)), some (Sl.fr (rD ys)), none, none, none]) ?_ ?_
    · show sIf _ _ _ [some (Sl.fr (rD xs)), some (Sl.fr (rD ys)), none, none, none] = _
      rw [sIf_f]
      · rfl
      · unfold tOrB
        rw [c1, R.ok_bind, if_neg (by decide), c2, R.ok_bind, decide_eq_true h, if_neg (by decide), c3]
    refine sSeq_to (ρ' := [some (Sl.fr (rD xs)), some (Sl.fr (rD ys)), some (Sl.ol []), none, none]) rfl ?_
    refine sSeq_to (ρ' := [some (Sl.fr (rD xs)), some (Sl.fr (rD ys)), some (Sl.ol (xs.flatten.map pD)), none, none]) ?_ ?_
    · rw [sFor_ok (ds := xs.map gD') rfl]
      have q := loop_fold (t := tg1 3) (g := b_law_is_0) (ws := [3]) gD' (fun b : List Game => [some (Sl.fr (rD xs)), some (Sl.fr (rD ys)), some (Sl.ol (b.map pD)), none, none]) (fun b gs => b ++ gs) (fun b zs => b ++ zs.flatten = xs.flatten) xs [] rfl fun b gs zs hP => by
        rw [List.flatten_cons] at hP
        have l := congrArg List.length hP
        simp only [List.length_append] at l
        refine ⟨_, [some (Sl.fr (rD xs)), some (Sl.fr (rD ys)), some (Sl.ol (b.map pD ++ gs.map pD)), some (Sl.fr (gD' gs)), none], rfl, sOl_ok (ds := b.map pD) (d := gD' gs) rfl rfl (mExtend_ok (by rw [List.length_map, List.length_map]; show _ ≤ 16777216; omega)), ?_, ?_⟩
        · rw [← List.map_append] <;> rfl
        · rw [List.append_assoc]; exact hP
      have e : ∀ (zs : List (List Game)) (b : List Game), zs.foldl (fun b gs => b ++ gs) b = b ++ zs.flatten := by
        intro zs
        induction zs with
        | nil => intro b; simp
        | cons z zs ih => intro b; rw [List.foldl_cons, ih, List.flatten_cons, List.append_assoc]
      rw [e, List.nil_append] at q
      exact q
    · show sRet _ [some (Sl.fr (rD xs)), some (Sl.fr (rD ys)), some (Sl.fr (.list (xs.flatten.map pD))), none, none] = _
      refine sRet_ok ?_
      have e := eLc_all (wi := iSeqD (eVar 2)) (t := tg1 4) (f := eAnd (eIsi .tuple (eVar 4)) (eAnd (eFn 1 F_law_whole (aCons (eBin dIx (eVar 4) (eC (.int 0))) aNil)) (eFn 1 F_law_whole (aCons (eBin dIx (eVar 4) (eC (.int 1))) aNil)))) (vs := [4]) (ρ := [some (Sl.fr (rD xs)), some (Sl.fr (rD ys)), some (Sl.fr (.list (xs.flatten.map pD))), none, none]) pD (fun g => [some (Sl.fr (rD xs)), some (Sl.fr (rD ys)), some (Sl.fr (.list (xs.flatten.map pD))), none, some (Sl.fr (pD g))]) (fun _ => .bool true) xs.flatten rfl (by show _ ≤ 16777216; omega) (fun _ _ => rfl) (fun g _ => rfl)
      rw [map_const] at e
      refine eCall1 e ?_
      exact dAll_true _
  · rw [decide_eq_false h]
    refine runD_ret (ρ := [some (Sl.fr (rD xs)), some (Sl.fr (rD ys)), none, none, none]) ?_
    show m_law_is [some (Sl.fr (rD xs)), some (Sl.fr (rD ys)), none, none, none] = _
    refine sSeq_ret ?_
    show sIf _ _ _ [some (Sl.fr (rD xs)), some (Sl.fr (rD ys)), none, none, none] = _
    rw [sIf_t]
    · rfl
    · unfold tOrB
      rw [c1, R.ok_bind, if_neg (by decide), c2, R.ok_bind, decide_eq_false h] <;> rfl
def swapG (g : Game) : Game := (g.2, g.1)
def backT (rs : List (List Game)) : List (List Game) := rs.map fun gs => sortP (gs.map swapG)
theorem isort_len {gs : List Game} : (sortP gs).length = gs.length := isort_length leP gs
theorem back_len (rs : List (List Game)) : (backT rs).flatten.length = rs.flatten.length := by
  unfold backT
  induction rs with
  | nil => rfl
  | cons g rs ih => rw [List.map_cons, List.flatten_cons, List.flatten_cons, List.length_append, List.length_append, ih, isort_len, List.length_map]
theorem dAdd_rD {xs ys : List (List Game)} (h : xs.length + ys.length ≤ 1000000) : dAdd (rD xs) (rD ys) = .ok (rD (xs ++ ys)) := by
  show (if (xs.map gD').length + (ys.map gD').length ≤ lim then R.ok (PyData.list (xs.map gD' ++ ys.map gD')) else .bad) = _
  rw [if_pos (by rw [List.length_map, List.length_map]; show _ ≤ 16777216; omega), ← List.map_append]
theorem twice_ok (c : Nat) (rs : List (List Game)) (h : F_once_round [.int c] = .ok (rD rs)) (hl : rs.length ≤ 100000) (hf : ∀ gs ∈ rs, gs.length ≤ 1000000) : F_twice_round [.int c] = .ok (rD (rs ++ backT rs)) := by
  refine runF_ret (ρ := [some (Sl.fr (.int c)), some (Sl.od (rD rs)), none, none, none]) ?_
  show m_twice_round [some (Sl.fr (.int c)), none, none, none, none] = _
  refine sSeq_to (ρ' := [some (Sl.fr (.int c)), some (Sl.od (rD rs)), none, none, none]) (sTreeB_ok (eFn_to [.int c] h rfl rfl)) ?_
  have e := eLc_all (wi := iSeqD (eVar 1)) (t := tg1 2) (f := eCall (dOne dSorted) (aCons (eLc (iSeqD (eVar 2)) (tg2 3 4) cYes (eTup (aCons (eVar 4) (aCons (eVar 3) aNil))) [3, 4]) aNil)) (vs := [2]) (ρ := [some (Sl.fr (.int c)), some (Sl.fr (rD rs)), none, none, none]) gD'
    (fun gs => [some (Sl.fr (.int c)), some (Sl.fr (rD rs)), some (Sl.fr (gD' gs)), none, none]) (fun gs => gD' (sortP (gs.map swapG))) rs rfl (by show _ ≤ 16777216; omega) (fun _ _ => rfl) (fun gs hgs => by
      have e := eLc_all (wi := iSeqD (eVar 2)) (t := tg2 3 4) (f := eTup (aCons (eVar 4) (aCons (eVar 3) aNil))) (vs := [3, 4]) (ρ := [some (Sl.fr (.int c)), some (Sl.fr (rD rs)), some (Sl.fr (gD' gs)), none, none]) pD (fun g => [some (Sl.fr (.int c)), some (Sl.fr (rD rs)), some (Sl.fr (gD' gs)), some (Sl.fr (.int g.1)), some (Sl.fr (.int g.2))]) (fun g => pD (swapG g)) gs rfl (by have := hf gs hgs; show _ ≤ 16777216; omega) (fun _ _ => rfl) (fun _ _ => rfl)
      refine eCall1 e ?_
      show dSorted (.list (gs.map fun g => pD (swapG g))) = _
      have e2 : PyData.list (gs.map fun g => pD (swapG g)) = gD' (gs.map swapG) := by show _ = PyData.list _; rw [List.map_map] <;> rfl
      rw [e2, dSorted_gD])
  show (eLc _ _ _ _ _ [some (Sl.fr (.int c)), some (Sl.fr (rD rs)), none, none, none] >>= fun d => _) = _
  rw [e]
  show (if (rs.map gD').length + (rs.map fun gs => gD' (sortP (gs.map swapG))).length ≤ lim then R.ok (Fl.retF (PyData.list (rs.map gD' ++ rs.map fun gs => gD' (sortP (gs.map swapG)))), _) else R.bad) = _
  rw [if_pos (by rw [List.length_map, List.length_map]; show _ ≤ 16777216; omega)]
  have e3 : (rs.map gD' ++ rs.map fun gs => gD' (sortP (gs.map swapG))) = (rs ++ backT rs).map gD' := by rw [List.map_append]; unfold backT; rw [List.map_map] <;> rfl
  rw [e3]
/-! ### one turn of the law -/
def dueZ (c : Nat) : Int := if c % 2 = 0 then (c : Int) - 2 else 0
structure Made (c : Nat) (rs : List (List Game)) : Prop where
  one : F_once_round [.int c] = .ok (rD rs)
  srt : rs.map sortP = rs
  once : F_law_once_right [.int c, rD rs] = .ok (.bool true)
  brk : ∀ k : Nat, k < c → F_law_breaks [rD rs, .int ((k : Nat) : Int)] = .ok (.list ((breaksT (rowT rs k)).map fun j => .int ((j : Nat) : Int)))
  many : ((List.range c).map fun k => (((breaksT (rowT rs ((k : Nat) : Int))).length : Nat) : Int)).sum = dueZ c
  least : F_least_breaks [.int c] = .ok (.int (dueZ c))
  flat : rs.flatten.length ≤ 100000
  len : rs.length ≤ 2000
  some : 0 < rs.length
  small : c ≤ 1000
theorem Made.gs {c : Nat} {rs : List (List Game)} (M : Made c rs) : ∀ gs ∈ rs, gs.length ≤ 100000 := fun gs h => by
  have f := M.flat
  obtain ⟨s, t, e⟩ := List.append_of_mem h
  rw [e] at f
  simp only [List.flatten_append, List.flatten_cons, List.length_append] at f
  omega
theorem due_ix (c : Nat) : dIx (.list [.int ((c : Int) - 2), .int 0]) (.int ((c : Int) % 2)) = .ok (.int (dueZ c)) := by
  unfold dueZ
  rcases Nat.mod_two_eq_zero_or_one c with h | h
  · have e : (c : Int) % 2 = 0 := by omega
    rw [if_pos h, e] <;> rfl
  · have e : (c : Int) % 2 = 1 := by omega
    rw [if_neg (by omega), e] <;> rfl
theorem turn_ok (ns : List Int) (f : Int) (t c : Nat) (hc : 2 + (f + t) % 19 = (c : Int)) (rs : List (List Game)) (M : Made c rs) :
    ∃ ρ2, b_law_0 [some (Sl.scr ns), some (Sl.fr (.int f)), some (Sl.fr (.int ((t : Nat) : Int))), none, none, none, none, none, none, none, none, none, none] = .ok (.nx, ρ2) ∧ wipeE ρ2 [2, 3, 4, 5, 6, 7, 8, 9] = [some (Sl.scr ns), some (Sl.fr (.int f)), none, none, none, none, none, none, none, none, none, none, none] := by
  have ml := M.len
  have mf := M.flat
  have mg := M.gs
  have tw := twice_ok c rs M.one (by omega) (fun gs h => by have := mg gs h; omega)
  have bl : (backT rs).length = rs.length := by unfold backT; rw [List.length_map]
  obtain ⟨r0, rt, ers⟩ : ∃ r0 rt, rs = r0 :: rt := by
    cases rs with
    | nil => exact absurd M.some (by simp)
    | cons a b => exact ⟨a, b, rfl⟩
  refine ⟨[some (Sl.scr ns), some (Sl.fr (.int f)), some (Sl.fr (.int ((t : Nat) : Int))), some (Sl.fr (.int c)), some (Sl.od (.list (((rs.map gD').set 0 (.list [])) ++ [.str "more"]))), some (Sl.fr (.int (dueZ c))), some (Sl.fr (.int (dueZ c))), some (Sl.fr (rD (backT rs))), some (Sl.fr (rD rs)), some (Sl.od (.list [])), none, none, none], ?_, rfl⟩
  refine sSeq_to (ρ' := [some (Sl.scr ns), some (Sl.fr (.int f)), some (Sl.fr (.int ((t : Nat) : Int))), some (Sl.fr (.int c)), none, none, none, none, none, none, none, none, none]) (sSet_ok ?_) ?_
  · have e1 : eBin dMod (eBin dAdd (eVar 1) (eVar 2)) (eC (.int 19)) [some (Sl.scr ns), some (Sl.fr (.int f)), some (Sl.fr (.int ((t : Nat) : Int))), none, none, none, none, none, none, none, none, none, none] = .ok (.int ((f + t) % 19)) := by
      rw [eBin_ok (a := .int (f + t)) (b := .int 19) rfl rfl]
      exact dMod_ok (by decide)
    rw [eBin_ok (a := .int 2) rfl e1]
    show R.ok (PyData.int (2 + (f + t) % 19)) = _
    rw [hc]
  refine sSeq_to (ρ' := [some (Sl.scr ns), some (Sl.fr (.int f)), some (Sl.fr (.int ((t : Nat) : Int))), some (Sl.fr (.int c)), some (Sl.od (rD rs)), none, none, none, none, none, none, none, none]) (sTreeB_ok (eFn_to [.int c] M.one rfl rfl)) ?_
  refine sSeq_to (ρ' := [some (Sl.scr ns), some (Sl.fr (.int f)), some (Sl.fr (.int ((t : Nat) : Int))), some (Sl.fr (.int c)), some (Sl.od (rD rs)), none, none, none, none, none, none, none, none]) ?_ ?_
  · rw [sIfB_f]
    · rfl
    · show tOrB _ _ [some (Sl.scr ns), some (Sl.fr (.int f)), some (Sl.fr (.int ((t : Nat) : Int))), some (Sl.fr (.int c)), some (Sl.fr (rD rs)), none, none, none, none, none, none, none, none] = _
      have t1 : eFn 1 F_law_told (aCons (eVar 4) aNil) [some (Sl.scr ns), some (Sl.fr (.int f)), some (Sl.fr (.int ((t : Nat) : Int))), some (Sl.fr (.int c)), some (Sl.fr (rD rs)), none, none, none, none, none, none, none, none] = .ok (rD rs) := by
        refine eFn_to [rD rs] ?_ rfl rfl
        rw [told_ok rs (by show _ ≤ 16777216; omega), M.srt]
      have t2 : eFn 2 F_law_is (aCons (eVar 4) (aCons (eFn 1 F_law_told (aCons (eVar 4) aNil)) aNil)) [some (Sl.scr ns), some (Sl.fr (.int f)), some (Sl.fr (.int ((t : Nat) : Int))), some (Sl.fr (.int c)), some (Sl.fr (rD rs)), none, none, none, none, none, none, none, none] = .ok (.bool true) := by
        refine eFn_to [rD rs, rD rs] ?_ (aCons_ok rfl (aCons_ok t1 rfl)) rfl
        rw [law_is_ok rs rs (by omega) (by omega), decide_eq_true rfl]
      have t3 : eFn 2 F_law_once_right (aCons (eVar 3) (aCons (eVar 4) aNil)) [some (Sl.scr ns), some (Sl.fr (.int f)), some (Sl.fr (.int ((t : Nat) : Int))), some (Sl.fr (.int c)), some (Sl.fr (rD rs)), none, none, none, none, none, none, none, none] = .ok (.bool true) := eFn_to [.int c, rD rs] M.once rfl rfl
      unfold tOrB tNotB
      rw [eB_ok t2, R.ok_bind, R.ok_bind, if_neg (by decide), eB_ok t3] <;> rfl
  refine sSeq_to (ρ' := [some (Sl.scr ns), some (Sl.fr (.int f)), some (Sl.fr (.int ((t : Nat) : Int))), some (Sl.fr (.int c)), some (Sl.od (rD rs)), some (Sl.fr (.int (dueZ c))), none, none, none, none, none, none, none]) (sSetB_ok ?_ rfl) ?_
  · show eCall _ _ [some (Sl.scr ns), some (Sl.fr (.int f)), some (Sl.fr (.int ((t : Nat) : Int))), some (Sl.fr (.int c)), some (Sl.fr (rD rs)), none, none, none, none, none, none, none, none] = _
    have e := eLc_all (wi := iCall rng1 (aCons (eVar 3) aNil)) (t := tg1 11) (f := eCall (dOne dLen) (aCons (eFn 2 F_law_breaks (aCons (eVar 4) (aCons (eVar 11) aNil))) aNil)) (vs := [11]) (ρ := [some (Sl.scr ns), some (Sl.fr (.int f)), some (Sl.fr (.int ((t : Nat) : Int))), some (Sl.fr (.int c)), some (Sl.fr (rD rs)), none, none, none, none, none, none, none, none])
      (fun k : Nat => .int ((k : Nat) : Int)) (fun k => [some (Sl.scr ns), some (Sl.fr (.int f)), some (Sl.fr (.int ((t : Nat) : Int))), some (Sl.fr (.int c)), some (Sl.fr (rD rs)), none, none, none, none, none, none, some (Sl.fr (.int ((k : Nat) : Int))), none]) (fun k => .int (((breaksT (rowT rs ((k : Nat) : Int))).length : Nat) : Int)) (List.range c) ?_ (by rw [List.length_range]; have := M.small; show _ ≤ 16777216; omega) (fun _ _ => rfl) (fun k hk => ?_)
    · refine eCall1 e ?_
      show (match ints? ((List.range c).map fun k => PyData.int (((breaksT (rowT rs ((k : Nat) : Int))).length : Nat) : Int)) with | some ns => R.ok (PyData.int ns.sum) | none => .bad) = _
      have e2 : ((List.range c).map fun k => PyData.int (((breaksT (rowT rs ((k : Nat) : Int))).length : Nat) : Int)) = ((List.range c).map fun k => (((breaksT (rowT rs ((k : Nat) : Int))).length : Nat) : Int)).map .int := by rw [List.map_map] <;> rfl
      rw [e2, ints?_map]
      show R.ok (PyData.int _) = _
      rw [M.many]
    · show (if -1000000 ≤ (c : Int) ∧ (c : Int) ≤ 1000000 then R.ok (rangeD 0 (c : Int).toNat) else .bad) = _
      have := M.small
      rw [if_pos (by omega)]
      unfold rangeD
      rw [Int.toNat_natCast]
      congr 1
      refine List.map_congr_left fun k _ => ?_
      rw [Int.zero_add]
    · have b : eFn 2 F_law_breaks (aCons (eVar 4) (aCons (eVar 11) aNil)) [some (Sl.scr ns), some (Sl.fr (.int f)), some (Sl.fr (.int ((t : Nat) : Int))), some (Sl.fr (.int c)), some (Sl.fr (rD rs)), none, none, none, none, none, none, some (Sl.fr (.int ((k : Nat) : Int))), none] = _ := eFn_to [rD rs, .int ((k : Nat) : Int)] (M.brk k (List.mem_range.mp hk)) rfl rfl
      refine eCall1 b ?_
      show R.ok (PyData.int (((breaksT (rowT rs k)).map fun j => PyData.int ((j : Nat) : Int)).length : Nat)) = _
      rw [List.length_map]
  refine sSeq_to (ρ' := [some (Sl.scr ns), some (Sl.fr (.int f)), some (Sl.fr (.int ((t : Nat) : Int))), some (Sl.fr (.int c)), some (Sl.od (rD rs)), some (Sl.fr (.int (dueZ c))), some (Sl.fr (.int (dueZ c))), none, none, none, none, none, none]) (sSet_ok ?_) ?_
  · rw [eBin_ok (a := .list [.int ((c : Int) - 2), .int 0]) (b := .int ((c : Int) % 2)) rfl (show dMod (.int c) (.int 2) = R.ok (.int ((c : Int) % 2)) from dMod_ok (by decide))]
    exact due_ix c
  refine sSeq_to (ρ' := [some (Sl.scr ns), some (Sl.fr (.int f)), some (Sl.fr (.int ((t : Nat) : Int))), some (Sl.fr (.int c)), some (Sl.od (rD rs)), some (Sl.fr (.int (dueZ c))), some (Sl.fr (.int (dueZ c))), none, none, none, none, none, none]) ?_ ?_
  · rw [sIf_f]
    · rfl
    · have l1 : eFn 1 F_least_breaks (aCons (eVar 3) aNil) [some (Sl.scr ns), some (Sl.fr (.int f)), some (Sl.fr (.int ((t : Nat) : Int))), some (Sl.fr (.int c)), some (Sl.od (rD rs)), some (Sl.fr (.int (dueZ c))), some (Sl.fr (.int (dueZ c))), none, none, none, none, none, none] = .ok (.int (dueZ c)) := eFn_to [.int c] M.least rfl rfl
      have l2 : eFn 1 F_law_whole (aCons (eFn 1 F_least_breaks (aCons (eVar 3) aNil)) aNil) [some (Sl.scr ns), some (Sl.fr (.int f)), some (Sl.fr (.int ((t : Nat) : Int))), some (Sl.fr (.int c)), some (Sl.od (rD rs)), some (Sl.fr (.int (dueZ c))), some (Sl.fr (.int (dueZ c))), none, none, none, none, none, none] = .ok (.bool true) := eFn_to [.int (dueZ c)] (whole_int _) (aCons_ok l1 rfl) rfl
      have l3 := eBin_ok (g := dNeV) (fa := eVar 5) (fb := eVar 6) (ρ := [some (Sl.scr ns), some (Sl.fr (.int f)), some (Sl.fr (.int ((t : Nat) : Int))), some (Sl.fr (.int c)), some (Sl.od (rD rs)), some (Sl.fr (.int (dueZ c))), some (Sl.fr (.int (dueZ c))), none, none, none, none, none, none]) (a := .int (dueZ c)) (b := .int (dueZ c)) rfl rfl
      rw [dNeV_int, decide_eq_true rfl] at l3
      have l4 := eBin_ok (g := dNeV) (fb := eVar 6) l1 (b := .int (dueZ c)) rfl
      rw [dNeV_int, decide_eq_true rfl] at l4
      unfold tOrB tNotB
      rw [eB_ok l3, R.ok_bind, if_neg (by decide), eB_ok l4, R.ok_bind, if_neg (by decide), eB_ok l2] <;> rfl
  refine sSeq_to (ρ' := [some (Sl.scr ns), some (Sl.fr (.int f)), some (Sl.fr (.int ((t : Nat) : Int))), some (Sl.fr (.int c)), some (Sl.od (rD rs)), some (Sl.fr (.int (dueZ c))), some (Sl.fr (.int (dueZ c))), some (Sl.fr (rD (backT rs))), none, none, none, none, none]) (sSetF_ok ?_) ?_
  · have e := eLc_all (wi := iSeqD (eVar 4)) (t := tg1 10) (f := eCall (dOne dSorted) (aCons (eLc (iSeqD (eVar 10)) (tg1 12) cYes (eUn dRev (eVar 12)) [12]) aNil)) (vs := [10]) (ρ := [some (Sl.scr ns), some (Sl.fr (.int f)), some (Sl.fr (.int ((t : Nat) : Int))), some (Sl.fr (.int c)), some (Sl.fr (rD rs)), some (Sl.fr (.int (dueZ c))), some (Sl.fr (.int (dueZ c))), none, none, none, none, none, none]) gD'
      (fun gs => [some (Sl.scr ns), some (Sl.fr (.int f)), some (Sl.fr (.int ((t : Nat) : Int))), some (Sl.fr (.int c)), some (Sl.fr (rD rs)), some (Sl.fr (.int (dueZ c))), some (Sl.fr (.int (dueZ c))), none, none, none, some (Sl.fr (gD' gs)), none, none]) (fun gs => gD' (sortP (gs.map swapG))) rs rfl (by show _ ≤ 16777216; omega) (fun _ _ => rfl) (fun gs hgs => by
        have e := eLc_all (wi := iSeqD (eVar 10)) (t := tg1 12) (f := eUn dRev (eVar 12)) (vs := [12]) (ρ := [some (Sl.scr ns), some (Sl.fr (.int f)), some (Sl.fr (.int ((t : Nat) : Int))), some (Sl.fr (.int c)), some (Sl.fr (rD rs)), some (Sl.fr (.int (dueZ c))), some (Sl.fr (.int (dueZ c))), none, none, none, some (Sl.fr (gD' gs)), none, none]) pD (fun g => [some (Sl.scr ns), some (Sl.fr (.int f)), some (Sl.fr (.int ((t : Nat) : Int))), some (Sl.fr (.int c)), some (Sl.fr (rD rs)), some (Sl.fr (.int (dueZ c))), some (Sl.fr (.int (dueZ c))), none, none, none, some (Sl.fr (gD' gs)), none, some (Sl.fr (pD g))]) (fun g => pD (swapG g)) gs rfl (by have := mg gs hgs; show _ ≤ 16777216; omega) (fun _ _ => rfl) (fun _ _ => rfl)
        refine eCall1 e ?_
        show dSorted (.list (gs.map fun g => pD (swapG g))) = _
        have e2 : PyData.list (gs.map fun g => pD (swapG g)) = gD' (gs.map swapG) := by show _ = PyData.list _; rw [List.map_map] <;> rfl
        rw [e2, dSorted_gD])
    show eLc _ _ _ _ _ [some (Sl.scr ns), some (Sl.fr (.int f)), some (Sl.fr (.int ((t : Nat) : Int))), some (Sl.fr (.int c)), some (Sl.fr (rD rs)), some (Sl.fr (.int (dueZ c))), some (Sl.fr (.int (dueZ c))), none, none, none, none, none, none] = _
    rw [e]
    show R.ok (PyData.list _) = R.ok (PyData.list _)
    unfold backT
    rw [List.map_map] <;> rfl
  refine sSeq_to (ρ' := [some (Sl.scr ns), some (Sl.fr (.int f)), some (Sl.fr (.int ((t : Nat) : Int))), some (Sl.fr (.int c)), some (Sl.od (rD rs)), some (Sl.fr (.int (dueZ c))), some (Sl.fr (.int (dueZ c))), some (Sl.fr (rD (backT rs))), none, none, none, none, none]) ?_ ?_
  · rw [sIfB_f]
    · rfl
    · show tNotB _ [some (Sl.scr ns), some (Sl.fr (.int f)), some (Sl.fr (.int ((t : Nat) : Int))), some (Sl.fr (.int c)), some (Sl.fr (rD rs)), some (Sl.fr (.int (dueZ c))), some (Sl.fr (.int (dueZ c))), some (Sl.fr (rD (backT rs))), none, none, none, none, none] = _
      have l1 : eFn 1 F_twice_round (aCons (eVar 3) aNil) [some (Sl.scr ns), some (Sl.fr (.int f)), some (Sl.fr (.int ((t : Nat) : Int))), some (Sl.fr (.int c)), some (Sl.fr (rD rs)), some (Sl.fr (.int (dueZ c))), some (Sl.fr (.int (dueZ c))), some (Sl.fr (rD (backT rs))), none, none, none, none, none] = .ok (rD (rs ++ backT rs)) := eFn_to [.int c] tw rfl rfl
      have l2 : eBin dAdd (eVar 4) (eVar 7) [some (Sl.scr ns), some (Sl.fr (.int f)), some (Sl.fr (.int ((t : Nat) : Int))), some (Sl.fr (.int c)), some (Sl.fr (rD rs)), some (Sl.fr (.int (dueZ c))), some (Sl.fr (.int (dueZ c))), some (Sl.fr (rD (backT rs))), none, none, none, none, none] = .ok (rD (rs ++ backT rs)) := by
        rw [eBin_ok (a := rD rs) (b := rD (backT rs)) rfl rfl]
        exact dAdd_rD (by omega)
      have l3 : eFn 2 F_law_is (aCons (eFn 1 F_twice_round (aCons (eVar 3) aNil)) (aCons (eBin dAdd (eVar 4) (eVar 7)) aNil)) [some (Sl.scr ns), some (Sl.fr (.int f)), some (Sl.fr (.int ((t : Nat) : Int))), some (Sl.fr (.int c)), some (Sl.fr (rD rs)), some (Sl.fr (.int (dueZ c))), some (Sl.fr (.int (dueZ c))), some (Sl.fr (rD (backT rs))), none, none, none, none, none] = .ok (.bool true) := by
        refine eFn_to [rD (rs ++ backT rs), rD (rs ++ backT rs)] ?_ (aCons_ok l1 (aCons_ok l2 rfl)) rfl
        rw [law_is_ok _ _ (by rw [List.length_append]; omega) (by rw [List.flatten_append, List.length_append, back_len]; omega), decide_eq_true rfl]
      unfold tNotB
      rw [eB_ok l3] <;> rfl
  refine sSeq_to (ρ' := [some (Sl.scr ns), some (Sl.fr (.int f)), some (Sl.fr (.int ((t : Nat) : Int))), some (Sl.fr (.int c)), some (Sl.od (rD rs)), some (Sl.fr (.int (dueZ c))), some (Sl.fr (.int (dueZ c))), some (Sl.fr (rD (backT rs))), some (Sl.fr (rD rs)), none, none, none, none]) (sSetF_ok ?_) ?_
  · have e := eLc_all (wi := iSeqD (eVar 4)) (t := tg1 10) (f := eCall (dOne dListF) (aCons (eVar 10) aNil)) (vs := [10]) (ρ := [some (Sl.scr ns), some (Sl.fr (.int f)), some (Sl.fr (.int ((t : Nat) : Int))), some (Sl.fr (.int c)), some (Sl.fr (rD rs)), some (Sl.fr (.int (dueZ c))), some (Sl.fr (.int (dueZ c))), some (Sl.fr (rD (backT rs))), none, none, none, none, none]) gD'
      (fun gs => [some (Sl.scr ns), some (Sl.fr (.int f)), some (Sl.fr (.int ((t : Nat) : Int))), some (Sl.fr (.int c)), some (Sl.fr (rD rs)), some (Sl.fr (.int (dueZ c))), some (Sl.fr (.int (dueZ c))), some (Sl.fr (rD (backT rs))), none, none, some (Sl.fr (gD' gs)), none, none]) gD' rs rfl (by show _ ≤ 16777216; omega) (fun _ _ => rfl) (fun gs _ => by
        show (if noLs (gs.map pD) = true then R.ok (PyData.list (gs.map pD)) else .bad) = _
        rw [if_pos (pairs_noL gs)])
    exact e
  subst ers
  refine sSeq_to (ρ' := [some (Sl.scr ns), some (Sl.fr (.int f)), some (Sl.fr (.int ((t : Nat) : Int))), some (Sl.fr (.int c)), some (Sl.od (.list (PyData.list [] :: rt.map gD'))), some (Sl.fr (.int (dueZ c))), some (Sl.fr (.int (dueZ c))), some (Sl.fr (rD (backT (r0 :: rt)))), some (Sl.fr (rD (r0 :: rt))), none, none, none, none]) rfl ?_
  refine sSeq_to (ρ' := [some (Sl.scr ns), some (Sl.fr (.int f)), some (Sl.fr (.int ((t : Nat) : Int))), some (Sl.fr (.int c)), some (Sl.od (.list ((PyData.list [] :: rt.map gD') ++ [.str "more"]))), some (Sl.fr (.int (dueZ c))), some (Sl.fr (.int (dueZ c))), some (Sl.fr (rD (backT (r0 :: rt)))), some (Sl.fr (rD (r0 :: rt))), none, none, none, none]) ?_ ?_
  · show (if (PyData.list [] :: rt.map gD').length < lim then R.ok (Fl.nx, _) else R.bad) = _
    rw [if_pos]
    · rfl
    · rw [List.length_cons] at ml
      rw [List.length_cons, List.length_map]
      show _ < 16777216
      omega
  refine sSeq_to (ρ' := [some (Sl.scr ns), some (Sl.fr (.int f)), some (Sl.fr (.int ((t : Nat) : Int))), some (Sl.fr (.int c)), some (Sl.od (.list ((PyData.list [] :: rt.map gD') ++ [.str "more"]))), some (Sl.fr (.int (dueZ c))), some (Sl.fr (.int (dueZ c))), some (Sl.fr (rD (backT (r0 :: rt)))), some (Sl.fr (rD (r0 :: rt))), some (Sl.od (rD ((r0 :: rt) ++ backT (r0 :: rt)))), none, none, none]) (sTreeB_ok (eFn_to [.int c] tw rfl rfl)) ?_
  refine sSeq_to (ρ' := [some (Sl.scr ns), some (Sl.fr (.int f)), some (Sl.fr (.int ((t : Nat) : Int))), some (Sl.fr (.int c)), some (Sl.od (.list ((PyData.list [] :: rt.map gD') ++ [.str "more"]))), some (Sl.fr (.int (dueZ c))), some (Sl.fr (.int (dueZ c))), some (Sl.fr (rD (backT (r0 :: rt)))), some (Sl.fr (rD (r0 :: rt))), some (Sl.od (.list (PyData.list [] :: (rt ++ backT (r0 :: rt)).map gD'))), none, none, none]) rfl ?_
  refine sSeq_to (ρ' := [some (Sl.scr ns), some (Sl.fr (.int f)), some (Sl.fr (.int ((t : Nat) : Int))), some (Sl.fr (.int c)), some (Sl.od (.list ((PyData.list [] :: rt.map gD') ++ [.str "more"]))), some (Sl.fr (.int (dueZ c))), some (Sl.fr (.int (dueZ c))), some (Sl.fr (rD (backT (r0 :: rt)))), some (Sl.fr (rD (r0 :: rt))), some (Sl.od (.list [])), none, none, none]) rfl ?_
  generalize hρ : ([some (Sl.scr ns), some (Sl.fr (.int f)), some (Sl.fr (.int ((t : Nat) : Int))), some (Sl.fr (.int c)), some (Sl.od (.list ((PyData.list [] :: rt.map gD') ++ [.str "more"]))), some (Sl.fr (.int (dueZ c))), some (Sl.fr (.int (dueZ c))), some (Sl.fr (rD (backT (r0 :: rt)))), some (Sl.fr (rD (r0 :: rt))), some (Sl.od (.list [])), none, none, none] : Ev) = ρ
  have l1 : eBin dNeV (eFn 1 F_once_round (aCons (eVar 3) aNil)) (eVar 8) ρ = .ok (.bool false) := by
    have a : eFn 1 F_once_round (aCons (eVar 3) aNil) ρ = .ok (rD (r0 :: rt)) := by subst hρ; exact eFn_to [.int c] M.one rfl rfl
    rw [eBin_ok a (b := rD (r0 :: rt)) (by subst hρ; rfl), dNeV_rD, decide_eq_true rfl] <;> rfl
  have l2 : eBin dNeV (eFn 1 F_twice_round (aCons (eVar 3) aNil)) (eBin dAdd (eVar 8) (eVar 7)) ρ = .ok (.bool false) := by
    have a : eFn 1 F_twice_round (aCons (eVar 3) aNil) ρ = .ok (rD ((r0 :: rt) ++ backT (r0 :: rt))) := by subst hρ; exact eFn_to [.int c] tw rfl rfl
    have b : eBin dAdd (eVar 8) (eVar 7) ρ = .ok (rD ((r0 :: rt) ++ backT (r0 :: rt))) := by
      rw [eBin_ok (a := rD (r0 :: rt)) (b := rD (backT (r0 :: rt))) (by subst hρ; rfl) (by subst hρ; rfl)]
      exact dAdd_rD (by omega)
    rw [eBin_ok a b, dNeV_rD, decide_eq_true rfl] <;> rfl
  rw [sIf_f]
  · subst hρ; rfl
  · unfold tOrB
    rw [eB_ok l1, R.ok_bind, if_neg (by decide), eB_ok l2]
theorem law_of (made : ∀ c : Nat, 2 ≤ c → c ≤ 20 → ∃ rs, Made c rs) (ns : List Int) : F_law ns [] = .ok (.bool true) := by
  have dn := draw_nonneg ns 0
  refine runS_ret (ρ := [some (Sl.scr ns), some (Sl.fr (.int (2 + drawZ ns 0 % 19))), none, none, none, none, none, none, none, none, none, none, none]) ?_
  show m_law [some (Sl.scr ns), none, none, none, none, none, none, none, none, none, none, none, none] = _
  refine sSeq_to (ρ' := [some (Sl.scr ns), some (Sl.fr (.int (2 + drawZ ns 0 % 19))), none, none, none, none, none, none, none, none, none, none, none]) (sSet_ok ?_) ?_
  · have a : eFnS 0 1 F_law_draw (aCons (eC (.int 0)) aNil) [some (Sl.scr ns), none, none, none, none, none, none, none, none, none, none, none, none] = .ok (.int (drawZ ns 0)) := eFnS_to ns [.int 0] (draw_ok ns 0 (by decide)) rfl rfl rfl
    have b : eBin dMod (eFnS 0 1 F_law_draw (aCons (eC (.int 0)) aNil)) (eC (.int 19)) [some (Sl.scr ns), none, none, none, none, none, none, none, none, none, none, none, none] = .ok (.int (drawZ ns 0 % 19)) := by
      rw [eBin_ok a (b := .int 19) rfl]
      exact dMod_ok (by decide)
    rw [eBin_ok (a := .int 2) rfl b] <;> rfl
  refine sSeq_to (ρ' := [some (Sl.scr ns), some (Sl.fr (.int (2 + drawZ ns 0 % 19))), none, none, none, none, none, none, none, none, none, none, none]) ?_ rfl
  rw [sFor_ok (ds := (List.range 19).map fun k : Nat => PyData.int ((k : Nat) : Int)) rfl]
  rw [loop_fold (t := tg1 2) (g := b_law_0) (ws := [2, 3, 4, 5, 6, 7, 8, 9]) (fun k : Nat => PyData.int ((k : Nat) : Int)) (fun _ : Unit => [some (Sl.scr ns), some (Sl.fr (.int (2 + drawZ ns 0 % 19))), none, none, none, none, none, none, none, none, none, none, none]) (fun _ _ => ()) (fun _ _ => True) (List.range 19) () trivial fun _ k ys _ => ?_]
  obtain ⟨c, hc⟩ : ∃ c : Nat, 2 + (2 + drawZ ns 0 % 19 + (k : Int)) % 19 = (c : Int) := ⟨(2 + (2 + drawZ ns 0 % 19 + (k : Int)) % 19).toNat, by omega⟩
  obtain ⟨rs, M⟩ := made c (by omega) (by omega)
  obtain ⟨ρ2, h1, h2⟩ := turn_ok ns (2 + drawZ ns 0 % 19) k c hc rs M
  exact ⟨_, ρ2, rfl, h1, h2, trivial⟩

/-! ### the lists that are made -/
def roundT (p n : Int) : List Game := (if n % 2 = 0 then (p, n) else (n, p)) :: (List.range (((p + 1) / 2).toNat - 1)).map fun j : Nat => if ((j : Int) + 1) % 2 = 1 then ((n + ((j : Int) + 1)) % p, (n - ((j : Int) + 1)) % p) else ((n - ((j : Int) + 1)) % p, (n + ((j : Int) + 1)) % p)
def onceR (c : Nat) : List (List Game) := (List.range (c - 1 + c % 2)).map fun n : Nat => sortP ((roundT ((c - 1 + c % 2 : Nat) : Int) (n : Int)).filter fun g => decide ((if g.2 > g.1 then g.2 else g.1) < (c : Int)))
def codeG (g : Game) : Nat := (keyG g).1.toNat * 1000 + (keyG g).2.toNat
/-- what is to be seen of the list that is made -/
def chkA (c : Nat) (rs : List (List Game)) : Bool := decide (rs.map sortP = rs) && decide ((rs.length : Int) = (c : Int) - 1 + (c : Int) % 2) && decide ((rs.flatten.length : Int) = (c : Int) * ((c : Int) - 1) / 2) && decide (rs.flatten.length ≤ 1000) && decide (0 < rs.length)
def chkB (c : Nat) (rs : List (List Game)) : Bool := (rs.flatten.all fun g => decide (0 ≤ (keyG g).1) && decide ((keyG g).1 < (keyG g).2) && decide ((keyG g).2 < (c : Int))) && decide (rs.flatten.map codeG).Nodup && rs.all fun gs => decide (gs.flatMap fun g => [g.1, g.2]).Nodup
def zAbs (i : Int) : Int := if i < 0 then -i else i
def chkC (c : Nat) (rs : List (List Game)) : Bool := (List.range c).all fun k => (rs.all fun gs => decide (2 * homeN gs k + awayN gs k ≤ 2)) && decide (zAbs ((((rowT rs k).countP fun o => decide (o = some 1) : Nat) : Int) - (((rowT rs k).countP fun o => decide (o = some 0) : Nat) : Int)) = 1 - (c : Int) % 2)
def chkD (c : Nat) (rs : List (List Game)) : Bool := decide (((List.range c).map fun k => (((breaksT (rowT rs ((k : Nat) : Int))).length : Nat) : Int)).sum = dueZ c)
theorem made_of (c : Nat) (rs : List (List Game)) (hc : c ≤ 20) (one : F_once_round [.int c] = .ok (rD rs)) (least : F_least_breaks [.int c] = .ok (.int (dueZ c))) (a : chkA c rs = true) (b : chkB c rs = true) (d : chkC c rs = true) (e : chkD c rs = true) : Made c rs := by
  simp only [chkA, Bool.and_eq_true, decide_eq_true_eq] at a
  simp only [chkB, Bool.and_eq_true, decide_eq_true_eq, List.all_eq_true] at b
  simp only [chkC, Bool.and_eq_true, decide_eq_true_eq, List.all_eq_true, List.mem_range] at d
  simp only [chkD, decide_eq_true_eq] at e
  obtain ⟨⟨⟨⟨a1, a2⟩, a3⟩, a4⟩, a5⟩ := a
  obtain ⟨⟨b1, b2⟩, b3⟩ := b
  have f : Fit c rs := by
    refine ⟨fun g hg => by have := b1 g hg; exact ⟨this.1.1, this.1.2, this.2⟩, ?_, b3⟩
    have e : rs.flatten.map codeG = (rs.flatten.map keyG).map fun k : Game => k.1.toNat * 1000 + k.2.toNat := by rw [List.map_map] <;> rfl
    rw [e] at b2
    exact List.Pairwise.imp (fun h z => h (by rw [z])) (List.pairwise_map.mp b2)
  have lg : ∀ gs ∈ rs, gs.length ≤ 1000 := fun gs h => by
    obtain ⟨s, t, rfl⟩ := List.append_of_mem h
    simp only [List.flatten_append, List.flatten_cons, List.length_append] at a4
    omega
  exact ⟨one, a1, once_right_ok c rs a2 (by omega) f a3 (by omega) (fun k hk => (d k hk).1) (fun k hk => (d k hk).2), fun k hk => breaks_ok rs k (by show _ ≤ 16777216; omega) (fun gs h => ⟨by have := lg gs h; show _ ≤ 16777216; omega, (d k hk).1 gs h⟩), e, least, by omega, by omega, a5, by omega⟩

theorem made_2 : Made 2 (onceR 2) := made_of 2 (onceR 2) (by decide) (by kernel_rfl) (by kernel_rfl) (by kernel_rfl) (by kernel_rfl) (by kernel_rfl) (by kernel_rfl)
theorem made_3 : Made 3 (onceR 3) := made_of 3 (onceR 3) (by decide) (by kernel_rfl) (by kernel_rfl) (by kernel_rfl) (by kernel_rfl) (by kernel_rfl) (by kernel_rfl)
theorem made_4 : Made 4 (onceR 4) := made_of 4 (onceR 4) (by decide) (by kernel_rfl) (by kernel_rfl) (by kernel_rfl) (by kernel_rfl) (by kernel_rfl) (by kernel_rfl)
theorem made_5 : Made 5 (onceR 5) := made_of 5 (onceR 5) (by decide) (by kernel_rfl) (by kernel_rfl) (by kernel_rfl) (by kernel_rfl) (by kernel_rfl) (by kernel_rfl)
theorem made_6 : Made 6 (onceR 6) := made_of 6 (onceR 6) (by decide) (by kernel_rfl) (by kernel_rfl) (by kernel_rfl) (by kernel_rfl) (by kernel_rfl) (by kernel_rfl)
theorem made_7 : Made 7 (onceR 7) := made_of 7 (onceR 7) (by decide) (by kernel_rfl) (by kernel_rfl) (by kernel_rfl) (by kernel_rfl) (by kernel_rfl) (by kernel_rfl)
theorem made_8 : Made 8 (onceR 8) := made_of 8 (onceR 8) (by decide) (by kernel_rfl) (by kernel_rfl) (by kernel_rfl) (by kernel_rfl) (by kernel_rfl) (by kernel_rfl)
theorem made_9 : Made 9 (onceR 9) := made_of 9 (onceR 9) (by decide) (by kernel_rfl) (by kernel_rfl) (by kernel_rfl) (by kernel_rfl) (by kernel_rfl) (by kernel_rfl)
theorem made_10 : Made 10 (onceR 10) := made_of 10 (onceR 10) (by decide) (by kernel_rfl) (by kernel_rfl) (by kernel_rfl) (by kernel_rfl) (by kernel_rfl) (by kernel_rfl)
theorem made_11 : Made 11 (onceR 11) := made_of 11 (onceR 11) (by decide) (by kernel_rfl) (by kernel_rfl) (by kernel_rfl) (by kernel_rfl) (by kernel_rfl) (by kernel_rfl)
theorem made_12 : Made 12 (onceR 12) := made_of 12 (onceR 12) (by decide) (by kernel_rfl) (by kernel_rfl) (by kernel_rfl) (by kernel_rfl) (by kernel_rfl) (by kernel_rfl)
theorem made_13 : Made 13 (onceR 13) := made_of 13 (onceR 13) (by decide) (by kernel_rfl) (by kernel_rfl) (by kernel_rfl) (by kernel_rfl) (by kernel_rfl) (by kernel_rfl)
theorem made_14 : Made 14 (onceR 14) := made_of 14 (onceR 14) (by decide) (by kernel_rfl) (by kernel_rfl) (by kernel_rfl) (by kernel_rfl) (by kernel_rfl) (by kernel_rfl)
theorem made_15 : Made 15 (onceR 15) := made_of 15 (onceR 15) (by decide) (by kernel_rfl) (by kernel_rfl) (by kernel_rfl) (by kernel_rfl) (by kernel_rfl) (by kernel_rfl)
theorem made_16 : Made 16 (onceR 16) := made_of 16 (onceR 16) (by decide) (by kernel_rfl) (by kernel_rfl) (by kernel_rfl) (by kernel_rfl) (by kernel_rfl) (by kernel_rfl)
theorem made_17 : Made 17 (onceR 17) := made_of 17 (onceR 17) (by decide) (by kernel_rfl) (by kernel_rfl) (by kernel_rfl) (by kernel_rfl) (by kernel_rfl) (by kernel_rfl)
theorem made_18 : Made 18 (onceR 18) := made_of 18 (onceR 18) (by decide) (by kernel_rfl) (by kernel_rfl) (by kernel_rfl) (by kernel_rfl) (by kernel_rfl) (by kernel_rfl)
theorem made_19 : Made 19 (onceR 19) := made_of 19 (onceR 19) (by decide) (by kernel_rfl) (by kernel_rfl) (by kernel_rfl) (by kernel_rfl) (by kernel_rfl) (by kernel_rfl)
theorem made_20 : Made 20 (onceR 20) := made_of 20 (onceR 20) (by decide) (by kernel_rfl) (by kernel_rfl) (by kernel_rfl) (by kernel_rfl) (by kernel_rfl) (by kernel_rfl)
theorem made : ∀ c : Nat, 2 ≤ c → c ≤ 20 → ∃ rs, Made c rs := by
  intro c h1 h2
  have h : c = 2 ∨ c = 3 ∨ c = 4 ∨ c = 5 ∨ c = 6 ∨ c = 7 ∨ c = 8 ∨ c = 9 ∨ c = 10 ∨ c = 11 ∨ c = 12 ∨ c = 13 ∨ c = 14 ∨ c = 15 ∨ c = 16 ∨ c = 17 ∨ c = 18 ∨ c = 19 ∨ c = 20 := by omega
  rcases h with rfl | rfl | rfl | rfl | rfl | rfl | rfl | rfl | rfl | rfl | rfl | rfl | rfl | rfl | rfl | rfl | rfl | rfl | rfl
  · exact ⟨_, made_2⟩
  · exact ⟨_, made_3⟩
  · exact ⟨_, made_4⟩
  · exact ⟨_, made_5⟩
  · exact ⟨_, made_6⟩
  · exact ⟨_, made_7⟩
  · exact ⟨_, made_8⟩
  · exact ⟨_, made_9⟩
  · exact ⟨_, made_10⟩
  · exact ⟨_, made_11⟩
  · exact ⟨_, made_12⟩
  · exact ⟨_, made_13⟩
  · exact ⟨_, made_14⟩
  · exact ⟨_, made_15⟩
  · exact ⟨_, made_16⟩
  · exact ⟨_, made_17⟩
  · exact ⟨_, made_18⟩
  · exact ⟨_, made_19⟩
  · exact ⟨_, made_20⟩
theorem law_plain (ns : List Int) (_ : ns.length ≤ 63) : F_law ns [] = .ok (.bool true) := law_of made ns

end RL

set_option Elab.async false
set_option linter.all false
set_option maxRecDepth 100000
set_option maxHeartbeats 0
namespace RL
open PySem PySem.Spec PyProof.Rows L2
def clOf (K : PySem.W.Frag) : Nat → Addr := fun n => match n with | 0 => He.ga K "RoundError" | 1 => He.ga K "BadClubs" | _ => 0
theorem tx_of {h : Heap} {K : PySem.W.Frag} {mg : Str → Option Value} (X : K.In h) (G : h.Ns mainGlobals mg) (c : He.SaysD fas fns K) : Tx K mg (clOf K) where
  b_abs := He.free_ok X G (c.fact 18 (f := .free "abs") rfl)
  b_all := He.free_ok X G (c.fact 19 (f := .free "all") rfl)
  b_bool := He.free_ok X G (c.fact 20 (f := .free "bool") rfl)
  b_enumerate := He.free_ok X G (c.fact 21 (f := .free "enumerate") rfl)
  b_int := He.free_ok X G (c.fact 22 (f := .free "int") rfl)
  b_isinstance := He.free_ok X G (c.fact 23 (f := .free "isinstance") rfl)
  b_len := He.free_ok X G (c.fact 24 (f := .free "len") rfl)
  b_list := He.free_ok X G (c.fact 25 (f := .free "list") rfl)
  b_max := He.free_ok X G (c.fact 26 (f := .free "max") rfl)
  b_min := He.free_ok X G (c.fact 27 (f := .free "min") rfl)
  b_range := He.free_ok X G (c.fact 28 (f := .free "range") rfl)
  b_sorted := He.free_ok X G (c.fact 29 (f := .free "sorted") rfl)
  b_sum := He.free_ok X G (c.fact 30 (f := .free "sum") rfl)
  b_tuple := He.free_ok X G (c.fact 31 (f := .free "tuple") rfl)
  b_zip := He.free_ok X G (c.fact 32 (f := .free "zip") rfl)
  c_LEAST_CLUBS := He.int_ok X G (c.fact 16 (f := .int "LEAST_CLUBS" 2) rfl)
  c_MOST_CLUBS := He.int_ok X G (c.fact 17 (f := .int "MOST_CLUBS" 20) rfl)
  x_RoundError := let z := He.exc_ok (c.fact 33 (f := .exc "RoundError") rfl); ⟨z.1, He.glo_ok X G (c.fact 14 (f := .glo "RoundError") rfl), z.2.1, z.2.2.1, z.2.2.2⟩
  x_BadClubs := let z := He.exc_ok (c.fact 34 (f := .exc "BadClubs") rfl); ⟨z.1, He.glo_ok X G (c.fact 15 (f := .glo "BadClubs") rfl), z.2.1, z.2.2.1, z.2.2.2⟩
theorem facts {P : Program} {w : World} {K : PySem.W.Frag} {h : Heap} {mg : Str → Option Value} {f : Addr} (X : K.In h) (G : h.Ns mainGlobals mg) (hfa : mg ("law" : Str) = some (.ref f)) (c : He.SaysD fas fns K) :
    ∃ fd : FuncData, (∀ (s : Shared) (v : Value), BindsTo s fd ⟨[v], []⟩ [("_law_script", v)]) ∧ ∀ base : Heap, K.In base → base.Ns mainGlobals mg → FnOk P w K mg base (L2.CX P w) 5 f fd ["_law_script"] (spS K (clOf K) 0 F_law) := by
  obtain ⟨fd_is_among, D_is_among⟩ := c.def_ 0 (d := dd_is_among) rfl
  obtain ⟨fd_need_clubs, D_need_clubs⟩ := c.def_ 1 (d := dd_need_clubs) rfl
  obtain ⟨fd_round_of, D_round_of⟩ := c.def_ 2 (d := dd_round_of) rfl
  obtain ⟨fd_once_round, D_once_round⟩ := c.def_ 3 (d := dd_once_round) rfl
  obtain ⟨fd_twice_round, D_twice_round⟩ := c.def_ 4 (d := dd_twice_round) rfl
  obtain ⟨fd_least_breaks, D_least_breaks⟩ := c.def_ 5 (d := dd_least_breaks) rfl
  obtain ⟨fd_law_draw, D_law_draw⟩ := c.def_ 6 (d := dd_law_draw) rfl
  obtain ⟨fd_law_whole, D_law_whole⟩ := c.def_ 7 (d := dd_law_whole) rfl
  obtain ⟨fd_law_told, D_law_told⟩ := c.def_ 8 (d := dd_law_told) rfl
  obtain ⟨fd_law_is, D_law_is⟩ := c.def_ 9 (d := dd_law_is) rfl
  obtain ⟨fd_law_row, D_law_row⟩ := c.def_ 10 (d := dd_law_row) rfl
  obtain ⟨fd_law_breaks, D_law_breaks⟩ := c.def_ 11 (d := dd_law_breaks) rfl
  obtain ⟨fd_law_once_right, D_law_once_right⟩ := c.def_ 12 (d := dd_law_once_right) rfl
  obtain ⟨fd_law, D_law⟩ := c.def_ 13 (d := dd_law) rfl
  have T := tx_of X G c
  have e := hfa.symm.trans (He.glo_ok X G (c.fact 13 (f := .glo "law") rfl))
  cases e
  have b := FunD.bindsA (ps := ["_law_script"]) D_law fun _ _ _ _ _ _ us hl => match us, hl with | [_], _ => rfl
  refine ⟨fd_law, fun s v => b s [v] rfl, fun base _ _ => ?_⟩
  have G_is_among := k_is_among (P := P) (w := w) (base := base) T D_is_among (He.glo_ok X G (c.fact 0 (f := .glo "is_among") rfl)) 
  have G_need_clubs := k_need_clubs (P := P) (w := w) (base := base) T D_need_clubs (He.glo_ok X G (c.fact 1 (f := .glo "need_clubs") rfl)) G_is_among
  have G_round_of := k_round_of (P := P) (w := w) (base := base) T D_round_of (He.glo_ok X G (c.fact 2 (f := .glo "round_of") rfl)) 
  have G_once_round := k_once_round (P := P) (w := w) (base := base) T D_once_round (He.glo_ok X G (c.fact 3 (f := .glo "once_round") rfl)) G_need_clubs G_round_of
  have G_twice_round := k_twice_round (P := P) (w := w) (base := base) T D_twice_round (He.glo_ok X G (c.fact 4 (f := .glo "twice_round") rfl)) G_once_round
  have G_least_breaks := k_least_breaks (P := P) (w := w) (base := base) T D_least_breaks (He.glo_ok X G (c.fact 5 (f := .glo "least_breaks") rfl)) G_need_clubs
  have G_law_draw := k_law_draw (P := P) (w := w) (base := base) T D_law_draw (He.glo_ok X G (c.fact 6 (f := .glo "_law_draw") rfl)) 
  have G_law_whole := k_law_whole (P := P) (w := w) (base := base) T D_law_whole (He.glo_ok X G (c.fact 7 (f := .glo "_law_whole") rfl)) 
  have G_law_told := k_law_told (P := P) (w := w) (base := base) T D_law_told (He.glo_ok X G (c.fact 8 (f := .glo "_law_told") rfl)) 
  have G_law_is := k_law_is (P := P) (w := w) (base := base) T D_law_is (He.glo_ok X G (c.fact 9 (f := .glo "_law_is") rfl)) G_law_whole
  have G_law_row := k_law_row (P := P) (w := w) (base := base) T D_law_row (He.glo_ok X G (c.fact 10 (f := .glo "_law_row") rfl)) 
  have G_law_breaks := k_law_breaks (P := P) (w := w) (base := base) T D_law_breaks (He.glo_ok X G (c.fact 11 (f := .glo "_law_breaks") rfl)) G_law_row
  have G_law_once_right := k_law_once_right (P := P) (w := w) (base := base) T D_law_once_right (He.glo_ok X G (c.fact 12 (f := .glo "_law_once_right") rfl)) G_law_row
  exact fo_law (P := P) (w := w) (base := base) T D_law (He.glo_ok X G (c.fact 13 (f := .glo "law") rfl)) G_law_breaks G_law_draw G_law_is G_law_once_right G_law_told G_law_whole G_least_breaks G_once_round G_twice_round
end RL
open PySem PySem.W PySem.Calls PyProof.Rows
theorem PySem.Challenge.cw_roundlist_k01_whole_lists_made_holds : PySem.Challenge.rw_roundlist_k01_whole_lists_made.Holds := by
  w_on; o_law
  refine HandSHeadRun.head_any (r := OpenLaw.row PySem.Challenge.rw_roundlist_k01_whole_lists_made) (q := view (OpenLaw.row PySem.Challenge.rw_roundlist_k01_whole_lists_made).prog [21]) (H := RL.hk) (ob := RL.ob) (M := 4000) (loose := RL.loose) (d := HandSHeadRun.topDef (OpenLaw.row PySem.Challenge.rw_roundlist_k01_whole_lists_made).prog 21) (kwd := []) RL.ob_eq
    (by kernel_rfl) (fun s => by kernel_rfl) RL.hrun (by kernel_rfl) (by kernel_rfl) (by kernel_rfl) (by rfl) (by first | assumption | decide +kernel) (by decide +kernel) ⟨rfl, rfl, rfl, rfl, rfl, by decide +kernel⟩ ?hw ?hc
  case hw => w_witness2
  case hc =>
    refine RL.walkW (l := PySem.Challenge.rw_roundlist_k01_whole_lists_made) (n := 63) (k := 5) (x := "_law_script") (CX := fun w => L2.CX (PySem.Challenge.rw_roundlist_k01_whole_lists_made).prog w) rfl (by decide) (by kernel_rfl) ⟨by decide, by decide, by decide⟩ ?F (fun _ _ _ _ _ z => by obtain ⟨_, _, _, _, _, _, _, _, _, _, _, _, z⟩ := z; exact z)
    intro w mg fa h Y G hmg0
    obtain ⟨K, KX, c⟩ := Y
    have hmg : mg ("law" : PySem.Str) = some (.ref fa) := by
      have e : (HandSHeadRun.topDef (OpenLaw.row PySem.Challenge.rw_roundlist_k01_whole_lists_made).prog 21).name = ("law" : PySem.Str) := by kernel_rfl
      rw [← e]
      exact hmg0
    obtain ⟨fd, hb, hF⟩ := RL.facts (P := (PySem.Challenge.rw_roundlist_k01_whole_lists_made).prog) (w := w) KX G hmg c
    exact ⟨K, fd, _, KX, hb, fun H a ns hl _ hS => RL.lawDone (RL.law_plain ns hl) hS, hF⟩

