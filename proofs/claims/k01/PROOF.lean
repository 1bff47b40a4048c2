import PyProof.Rows.All
import Wide.All
import OpenK.AllK
import Wide.FinOn
import HandS.ForMost
import HandS.ForExc
import HandS.IsInst
import HandS.Style
import PyProof.ListStr
import KE.KxText
import PySem.Challenge.RW_freshcells_k01_names
set_option Elab.async false
set_option linter.all false
set_option maxRecDepth 10000
/-! The abstract values, the abstract heap, and how the model's heap bears them. -/
namespace Mp
open PySem PySem.Spec PyProof.Rows L2

/-- pure data -/
inductive D where
  | non | bl (b : Bool) | int (i : Int) | str (x : Str)
  | lst (xs : List D) | tup (xs : List D) | dic (kvs : List (Key × D)) | obj (c : Nat) (fs : List (Str × D))
  /-- the script -/
  | scr (xs : List Int)

/-- a value: data, a live cell, a sequence that stands still and holds live cells (true: a tuple) -/
inductive AV where
  | d (x : D) | r (n : Nat) | q (t : Bool) (xs : List AV)

/-- what a cell, or a name's own container, holds -/
inductive Cell where
  | lst (xs : List AV) | dic (kvs : List (Key × AV)) | ins (c : Nat) (fs : List (Str × AV)) | dead

/-- what an expression gives: a value, a new container, a name's own container looked at -/
inductive RV where
  | v (a : AV) | f (c : Cell) | b (i : Nat) (c : Cell)

/-- what a name holds: nothing known, a value, a container that no other thing holds -/
inductive SV where
  | no | v (a : AV) | own (c : Cell)

abbrev Hs := List Cell
inductive Ex where
  | own (c : Nat) (fs : List (Str × D))
inductive Res (α : Type) where
  | ok (a : α) (h : Hs) | exc (e : Ex) (h : Hs) | bad
def Res.bind {α β : Type} (r : Res α) (f : α → Hs → Res β) : Res β := match r with
  | .ok a h => f a h
  | .exc e h => .exc e h
  | .bad => .bad
/-- nothing is raised -/
def Res.noX {α : Type} (r : Res α) : Res α := match r with
  | .ok a h => .ok a h
  | _ => .bad
@[simp] theorem Res.noX_ok {α : Type} (a : α) (h : Hs) : (Res.ok a h).noX = .ok a h := rfl
@[simp] theorem Res.bind_ok {α β : Type} (a : α) (h : Hs) (f : α → Hs → Res β) : (Res.ok a h).bind f = f a h := rfl
@[simp] theorem Res.bind_exc {α β : Type} (e : Ex) (h : Hs) (f : α → Hs → Res β) : (Res.exc e h : Res α).bind f = .exc e h := rfl
@[simp] theorem Res.bind_bad {α β : Type} (f : α → Hs → Res β) : (Res.bad : Res α).bind f = .bad := rfl

/-! ### pure parts -/
mutual
def AV.toD : AV → Option D
  | .d x => some x
  | .r _ => none
  | .q t xs => (AV.toDs xs).map fun ys => if t then .tup ys else .lst ys
def AV.toDs : List AV → Option (List D)
  | [] => some []
  | x :: xs => match AV.toD x, AV.toDs xs with
    | some y, some ys => some (y :: ys)
    | _, _ => none
end
def AV.toDk {κ : Type} : List (κ × AV) → Option (List (κ × D))
  | [] => some []
  | (k, x) :: xs => match AV.toD x, AV.toDk xs with
    | some y, some ys => some ((k, y) :: ys)
    | _, _ => none
/-- a container stands still from now on -/
def Cell.frz : Cell → Option AV
  | .lst xs => some (match AV.toDs xs with | some ys => .d (.lst ys) | none => .q false xs)
  | .dic kvs => (AV.toDk kvs).map fun ys => .d (.dic ys)
  | .ins c fs => (AV.toDk fs).map fun ys => .d (.obj c ys)
  | .dead => none
def mkTup (xs : List AV) : AV := match AV.toDs xs with | some ys => .d (.tup ys) | none => .q true xs
def RV.toV : RV → Option AV
  | .v a => some a
  | .f c => c.frz
  | .b _ _ => none

/-- the shape of a value -/
inductive Vw where
  | non | bl (b : Bool) | int (i : Int) | str (x : Str)
  | lst (xs : List AV) | tup (xs : List AV) | dic (kvs : List (Key × AV)) | ins (c : Nat) (fs : List (Str × AV)) | scr (xs : List Int)
def Cell.vw : Cell → Option Vw
  | .lst xs => some (.lst xs)
  | .dic kvs => some (.dic kvs)
  | .ins c fs => some (.ins c fs)
  | .dead => none
def D.vw : D → Vw
  | .non => .non | .bl b => .bl b | .int i => .int i | .str x => .str x
  | .lst xs => .lst (xs.map .d) | .tup xs => .tup (xs.map .d) | .dic kvs => .dic (kvs.map fun p => (p.1, .d p.2)) | .obj c fs => .ins c (fs.map fun p => (p.1, .d p.2)) | .scr xs => .scr xs
def AV.vw (h : Hs) : AV → Option Vw
  | .d x => some x.vw
  | .r n => (h[n]?).bind Cell.vw
  | .q true xs => some (.tup xs)
  | .q false xs => some (.lst xs)
def RV.vw (h : Hs) : RV → Option Vw
  | .v a => a.vw h
  | .f c => c.vw
  | .b _ c => c.vw

/-! ### how the heap bears them -/
/-- the ground: the written part, the classes -/
structure Gd where
  K : PySem.W.Frag
  cls : Nat → Addr
abbrev ASet := Addr → Prop
/-- a list of the written part -/
def KLst (K : PySem.W.Frag) (a : Addr) (vs : List V) : Prop :=
  ∃ (o : Obj) (its : Array Value) (n : Nat), K.lookup a = some o ∧ o.cls = .type "list" ∧ o.dict = none ∧ o.data = .seq its n ∧ its.size ≤ sizeLine ∧ Vals vs its.toList
def KTup (K : PySem.W.Frag) (a : Addr) (vs : List V) : Prop :=
  ∃ (o : Obj) (its : Array Value) (n : Nat), K.lookup a = some o ∧ o.cls = .type "tuple" ∧ o.data = .seq its n ∧ its.size ≤ sizeLine ∧ Vals vs its.toList
def LAt (K : PySem.W.Frag) (H : Hp) (W : ASet) (a : Addr) (vs : List V) : Prop := (¬ W a ∧ Rd H a (.lst vs)) ∨ KLst K a vs
def TAt (K : PySem.W.Frag) (H : Hp) (W : ASet) (a : Addr) (vs : List V) : Prop := (¬ W a ∧ Rd H a (.tup vs)) ∨ KTup K a vs
theorem LAt.sq {K : PySem.W.Frag} {H : Hp} {W : ASet} {a : Addr} {vs : List V} (h : LAt K H W a vs) : SqL K H a vs := by
  rcases h with ⟨_, h⟩ | h
  · exact .inl h
  · exact .inr h
theorem TAt.sq {K : PySem.W.Frag} {H : Hp} {W : ASet} {a : Addr} {vs : List V} (h : TAt K H W a vs) : SqT K H a vs := by
  rcases h with ⟨_, h⟩ | h
  · exact .inl h
  · exact .inr h

mutual
def DR (G : Gd) (H : Hp) (W : ASet) : D → V → Prop
  | .non, v => v = .non
  | .bl b, v => v = .bl b
  | .int i, v => v = .int i
  | .str x, v => v = .str x
  | .lst xs, v => ∃ a vs, v = .ref a ∧ (¬ W a ∧ H a = some (.lst vs)) ∧ DRs G H W xs vs
  | .tup xs, v => ∃ a vs, v = .ref a ∧ TAt G.K H W a vs ∧ DRs G H W xs vs
  | .scr xs, v => ∃ a, v = .ref a ∧ LAt G.K H W a (xs.map V.int)
  | .dic kvs, v => ∃ a es, v = .ref a ∧ ¬ W a ∧ H a = some (.dK es) ∧ DRk G H W kvs es
  | .obj c fs, v => ∃ a dx es, v = .ref a ∧ ¬ W a ∧ H a = some (.ins (G.cls c) dx es) ∧ DRf G H W fs es
def DRs (G : Gd) (H : Hp) (W : ASet) : List D → List V → Prop
  | [], vs => vs = []
  | x :: xs, vs => ∃ v r, vs = v :: r ∧ DR G H W x v ∧ DRs G H W xs r
def DRk (G : Gd) (H : Hp) (W : ASet) : List (Key × D) → List (Key × V) → Prop
  | [], vs => vs = []
  | (k, x) :: xs, vs => ∃ v r, vs = (k, v) :: r ∧ DR G H W x v ∧ DRk G H W xs r
def DRf (G : Gd) (H : Hp) (W : ASet) : List (Str × D) → List (Str × V) → Prop
  | [], vs => vs = []
  | (k, x) :: xs, vs => ∃ v r, vs = (k, v) :: r ∧ DR G H W x v ∧ DRf G H W xs r
end
mutual
def VR (G : Gd) (H : Hp) (W : ASet) (ρ : List Addr) : AV → V → Prop
  | .d x, v => DR G H W x v
  | .r n, v => ∃ a, ρ[n]? = some a ∧ v = .ref a
  | .q t xs, v => ∃ a vs, v = .ref a ∧ (if t then TAt G.K H W a vs else (¬ W a ∧ H a = some (.lst vs))) ∧ VRs G H W ρ xs vs
def VRs (G : Gd) (H : Hp) (W : ASet) (ρ : List Addr) : List AV → List V → Prop
  | [], vs => vs = []
  | x :: xs, vs => ∃ v r, vs = v :: r ∧ VR G H W ρ x v ∧ VRs G H W ρ xs r
end
def VRk {κ : Type} (G : Gd) (H : Hp) (W : ASet) (ρ : List Addr) : List (κ × AV) → List (κ × V) → Prop
  | [], vs => vs = []
  | (k, x) :: xs, vs => ∃ v r, vs = (k, v) :: r ∧ VR G H W ρ x v ∧ VRk G H W ρ xs r
def CAt (G : Gd) (H : Hp) (W : ASet) (ρ : List Addr) (a : Addr) : Cell → Prop
  | .lst xs => ∃ vs, H a = some (.lst vs) ∧ VRs G H W ρ xs vs
  | .dic kvs => ∃ es, H a = some (.dK es) ∧ VRk G H W ρ kvs es
  | .ins c fs => ∃ dx es, H a = some (.ins (G.cls c) dx es) ∧ VRk G H W ρ fs es
  | .dead => ∃ o, H a = some o
def SR (G : Gd) (H : Hp) (W B : ASet) (ρ : List Addr) : SV → Option V → Prop
  | .no, _ => True
  | .v x, o => ∃ v, o = some v ∧ VR G H W ρ x v
  | .own c, o => ∃ a, o = some (.ref a) ∧ W a ∧ ¬ B a ∧ a ∉ ρ ∧ CAt G H W ρ a c
/-- the abstract state is borne: B the addresses that callers own, W all that is owned, ρ the cells -/
structure RS (G : Gd) (B : ASet) (ρ : List Addr) (h : Hs) (S : List SV) (W : ASet) (σ : L2.St) (H : Hp) : Prop where
  len : ρ.length = h.length
  nd : ρ.Nodup
  sub : ∀ a ∈ ρ, W a
  base : ∀ a, B a → W a
  out : ∀ a ∈ ρ, ¬ B a
  live : ∀ a, W a → H a ≠ none
  cel : ∀ (i : Nat) c a, h[i]? = some c → ρ[i]? = some a → CAt G H W ρ a c
  sl : ∀ (i : Nat) s, S[i]? = some s → ∃ o, σ[i]? = some o ∧ SR G H W B ρ s o
  dj : ∀ (i j : Nat) c c' a, S[i]? = some (SV.own c) → S[j]? = some (SV.own c') → σ[i]? = some (some (V.ref a)) → σ[j]? = some (some (V.ref a)) → i = j
/-- from one state of a frame to a later one -/
structure Ext (B : ASet) (ρ : List Addr) (W : ASet) (H : Hp) (ρ' : List Addr) (W' : ASet) (H' : Hp) : Prop where
  pre : ∃ t, ρ' = ρ ++ t
  keep : ∀ a o, (¬ W a ∨ B a) → H a = some o → H' a = some o
  grow : ∀ a, W' a → W a ∨ H a = none
  live : ∀ a, H' a = none → H a = none

section
variable {G : Gd} {B : ASet} {ρ ρ' ρ2 : List Addr} {W W' W2 : ASet} {H H' H2 : Hp} {h h' : Hs} {S : List SV} {σ : L2.St}
theorem Ext.refl : Ext B ρ W H ρ W H := ⟨⟨[], by simp⟩, fun _ _ _ e => e, fun _ h => .inl h, fun _ e => e⟩
theorem Ext.trans (a : Ext B ρ W H ρ' W' H') (b : Ext B ρ' W' H' ρ2 W2 H2) (bw : ∀ a, B a → W a) : Ext B ρ W H ρ2 W2 H2 := by
  refine ⟨?_, fun x o n e => ?_, fun x n => ?_, fun x e => a.live x (b.live x e)⟩
  · obtain ⟨t, rfl⟩ := a.pre
    obtain ⟨u, rfl⟩ := b.pre
    exact ⟨t ++ u, by simp⟩
  · refine b.keep x o ?_ (a.keep x o n e)
    rcases n with n | n
    · refine .inl fun w => ?_
      rcases a.grow x w with w | w
      · exact n w
      · rw [e] at w; cases w
    · exact .inr n
  · rcases b.grow x n with w | w
    · exact a.grow x w
    · exact .inr (a.live x w)
/-- a tracked address out of W is kept, out of W' -/
theorem Ext.out (x : Ext B ρ W H ρ' W' H') {a : Addr} {o : HO} (n : ¬ W a) (e : H a = some o) : ¬ W' a ∧ H' a = some o := by
  refine ⟨fun w => ?_, x.keep a o (.inl n) e⟩
  rcases x.grow a w with w | w
  · exact n w
  · rw [e] at w; cases w
theorem Ext.rd (x : Ext B ρ W H ρ' W' H') {a : Addr} {o : HO} (n : ¬ W a) (e : Rd H a o) : ¬ W' a ∧ Rd H' a o := by
  rcases e with e | ⟨u, e⟩
  · obtain ⟨h1, h2⟩ := x.out n e
    exact ⟨h1, .inl h2⟩
  · obtain ⟨h1, h2⟩ := x.out n e
    exact ⟨h1, .inr ⟨u, h2⟩⟩
/-- what may change between: W' smaller, the heap kept where data stands -/
structure Sub (W : ASet) (H : Hp) (W' : ASet) (H' : Hp) : Prop where
  at_ : ∀ a o, ¬ W a → H a = some o → ¬ W' a ∧ H' a = some o
theorem Ext.sub (x : Ext B ρ W H ρ' W' H') : Sub W H W' H' := ⟨fun _ _ n e => x.out n e⟩
theorem Sub.refl : Sub W H W H := ⟨fun _ _ n e => ⟨n, e⟩⟩
theorem Sub.less (l : ∀ a, W' a → W a) : Sub W H W' H := ⟨fun _ _ n e => ⟨fun w => n (l _ w), e⟩⟩
theorem Sub.rd (x : Sub W H W' H') {a : Addr} {o : HO} (n : ¬ W a) (e : Rd H a o) : ¬ W' a ∧ Rd H' a o := by
  rcases e with e | ⟨u, e⟩
  · obtain ⟨h1, h2⟩ := x.at_ _ _ n e
    exact ⟨h1, .inl h2⟩
  · obtain ⟨h1, h2⟩ := x.at_ _ _ n e
    exact ⟨h1, .inr ⟨u, h2⟩⟩
theorem LAt.mv {K : PySem.W.Frag} {a : Addr} {vs : List V} (h : LAt K H W a vs) (x : Sub W H W' H') : LAt K H' W' a vs := by
  rcases h with ⟨n, h⟩ | h
  · exact .inl (x.rd n h)
  · exact .inr h
theorem TAt.mv {K : PySem.W.Frag} {a : Addr} {vs : List V} (h : TAt K H W a vs) (x : Sub W H W' H') : TAt K H' W' a vs := by
  rcases h with ⟨n, h⟩ | h
  · exact .inl (x.rd n h)
  · exact .inr h
mutual
theorem DR.mv (x : Sub W H W' H') : ∀ (d : D) (v : V), DR G H W d v → DR G H' W' d v
  | .non, v, h => by simpa only [DR] using h
  | .bl b, v, h => by simpa only [DR] using h
  | .int i, v, h => by simpa only [DR] using h
  | .str s, v, h => by simpa only [DR] using h
  | .lst xs, v, h => by
    simp only [DR] at h ⊢
    obtain ⟨a, vs, e, l, r⟩ := h
    exact ⟨a, vs, e, x.at_ _ _ l.1 l.2, DRs.mv x xs vs r⟩
  | .scr xs, v, h => by
    simp only [DR] at h ⊢
    obtain ⟨a, e, l⟩ := h
    exact ⟨a, e, l.mv x⟩
  | .tup xs, v, h => by
    simp only [DR] at h ⊢
    obtain ⟨a, vs, e, l, r⟩ := h
    exact ⟨a, vs, e, l.mv x, DRs.mv x xs vs r⟩
  | .dic kvs, v, h => by
    simp only [DR] at h ⊢
    obtain ⟨a, es, e, n, l, r⟩ := h
    obtain ⟨n', l'⟩ := x.at_ _ _ n l
    exact ⟨a, es, e, n', l', DRk.mv x kvs es r⟩
  | .obj c fs, v, h => by
    simp only [DR] at h ⊢
    obtain ⟨a, dx, es, e, n, l, r⟩ := h
    obtain ⟨n', l'⟩ := x.at_ _ _ n l
    exact ⟨a, dx, es, e, n', l', DRf.mv x fs es r⟩
theorem DRs.mv (x : Sub W H W' H') : ∀ (ds : List D) (vs : List V), DRs G H W ds vs → DRs G H' W' ds vs
  | [], vs, h => by simpa only [DRs] using h
  | d :: ds, vs, h => by
    simp only [DRs] at h ⊢
    obtain ⟨v, r, e, a, b⟩ := h
    exact ⟨v, r, e, DR.mv x d v a, DRs.mv x ds r b⟩
theorem DRk.mv (x : Sub W H W' H') : ∀ (ds : List (Key × D)) (vs : List (Key × V)), DRk G H W ds vs → DRk G H' W' ds vs
  | [], vs, h => by simpa only [DRk] using h
  | (k, d) :: ds, vs, h => by
    simp only [DRk] at h ⊢
    obtain ⟨v, r, e, a, b⟩ := h
    exact ⟨v, r, e, DR.mv x d v a, DRk.mv x ds r b⟩
theorem DRf.mv (x : Sub W H W' H') : ∀ (ds : List (Str × D)) (vs : List (Str × V)), DRf G H W ds vs → DRf G H' W' ds vs
  | [], vs, h => by simpa only [DRf] using h
  | (k, d) :: ds, vs, h => by
    simp only [DRf] at h ⊢
    obtain ⟨v, r, e, a, b⟩ := h
    exact ⟨v, r, e, DR.mv x d v a, DRf.mv x ds r b⟩
end
theorem pre_get {a : Addr} {n : Nat} (p : ∃ t, ρ' = ρ ++ t) (e : ρ[n]? = some a) : ρ'[n]? = some a := by
  obtain ⟨t, rfl⟩ := p
  rw [List.getElem?_append_left (List.getElem?_eq_some_iff.mp e).1]
  exact e
mutual
theorem VR.mv (x : Sub W H W' H') (p : ∃ t, ρ' = ρ ++ t) : ∀ (d : AV) (v : V), VR G H W ρ d v → VR G H' W' ρ' d v
  | .d d, v, h => by
    simp only [VR] at h ⊢
    exact DR.mv x d v h
  | .r n, v, h => by
    simp only [VR] at h ⊢
    obtain ⟨a, e, r⟩ := h
    exact ⟨a, pre_get p e, r⟩
  | .q t xs, v, h => by
    simp only [VR] at h ⊢
    obtain ⟨a, vs, e, l, r⟩ := h
    refine ⟨a, vs, e, ?_, VRs.mv x p xs vs r⟩
    cases t with
    | true => exact (show TAt _ _ _ _ _ from l).mv x
    | false =>
      have l' : ¬ W a ∧ H a = some (.lst vs) := l
      exact x.at_ _ _ l'.1 l'.2
theorem VRs.mv (x : Sub W H W' H') (p : ∃ t, ρ' = ρ ++ t) : ∀ (ds : List AV) (vs : List V), VRs G H W ρ ds vs → VRs G H' W' ρ' ds vs
  | [], vs, h => by simpa only [VRs] using h
  | d :: ds, vs, h => by
    simp only [VRs] at h ⊢
    obtain ⟨v, r, e, a, b⟩ := h
    exact ⟨v, r, e, VR.mv x p d v a, VRs.mv x p ds r b⟩
end
theorem VRk.mv {κ : Type} (x : Sub W H W' H') (p : ∃ t, ρ' = ρ ++ t) : ∀ (ds : List (κ × AV)) (vs : List (κ × V)), VRk G H W ρ ds vs → VRk G H' W' ρ' ds vs
  | [], vs, h => by simpa only [VRk] using h
  | (k, d) :: ds, vs, h => by
    simp only [VRk] at h ⊢
    obtain ⟨v, r, e, a, b⟩ := h
    exact ⟨v, r, e, VR.mv x p d v a, VRk.mv x p ds r b⟩
theorem pre_refl : ∃ t, ρ = ρ ++ t := ⟨[], by simp⟩
/-- a cell's content, its own object standing as it stood -/
theorem CAt.mv (x : Sub W H W' H') (p : ∃ t, ρ' = ρ ++ t) {a : Addr} (k : ∀ o, H a = some o → H' a = some o) : ∀ (c : Cell), CAt G H W ρ a c → CAt G H' W' ρ' a c
  | .lst xs, h => by
    simp only [CAt] at h ⊢
    obtain ⟨vs, e, r⟩ := h
    exact ⟨vs, k _ e, r.mv x p⟩
  | .dic kvs, h => by
    simp only [CAt] at h ⊢
    obtain ⟨vs, e, r⟩ := h
    exact ⟨vs, k _ e, r.mv x p⟩
  | .ins c fs, h => by
    simp only [CAt] at h ⊢
    obtain ⟨dx, vs, e, r⟩ := h
    exact ⟨dx, vs, k _ e, r.mv x p⟩
  | .dead, h => by
    simp only [CAt] at h ⊢
    obtain ⟨o, e⟩ := h
    exact ⟨o, k _ e⟩
theorem CAt.there {a : Addr} {c : Cell} (h : CAt G H W ρ a c) : ∃ o, H a = some o := by
  cases c <;> simp only [CAt] at h
  · obtain ⟨vs, e, r⟩ := h; exact ⟨_, e⟩
  · obtain ⟨vs, e, r⟩ := h; exact ⟨_, e⟩
  · obtain ⟨dx, vs, e, r⟩ := h; exact ⟨_, e⟩
  · exact h
end
end Mp


set_option Elab.async false
set_option linter.all false
set_option maxRecDepth 10000
/-! The state's changes. -/
namespace Mp
open PySem PySem.Spec PyProof.Rows L2

def Free (S : List SV) (σ : L2.St) (a : Addr) : Prop := ∀ (i : Nat) c, S[i]? = some (SV.own c) → σ[i]? ≠ some (some (V.ref a))
def RVR (G : Gd) (H : Hp) (W B : ASet) (ρ : List Addr) (S : List SV) (σ : L2.St) : RV → V → Prop
  | .v x, v => VR G H W ρ x v
  | .f c, v => ∃ a, v = .ref a ∧ W a ∧ ¬ B a ∧ a ∉ ρ ∧ Free S σ a ∧ CAt G H W ρ a c
  | .b i c, v => S[i]? = some (.own c) ∧ σ[i]? = some (some v)

section
variable {G : Gd} {B : ASet} {ρ ρ' ρ2 : List Addr} {W W' W2 : ASet} {H H' H2 : Hp} {h h' : Hs} {S : List SV} {σ : L2.St}
/-- all that is owned stands as it stood, at least that is owned -/
theorem RS.step (R : RS G B ρ h S W σ H) (x : Sub W H W' H') (k : ∀ a o, W a → H a = some o → H' a = some o) (w : ∀ a, W a → W' a) (wl : ∀ a, W' a → H' a ≠ none) : RS G B ρ h S W' σ H' := by
  refine ⟨R.len, R.nd, fun a ha => w a (R.sub a ha), fun a ha => w a (R.base a ha), R.out, wl, fun i c a hi ha => ?_, fun i s hi => ?_, R.dj⟩
  · exact (R.cel i c a hi ha).mv x pre_refl fun o => k a o (R.sub a (List.mem_of_getElem? ha))
  · obtain ⟨o, ho, hs⟩ := R.sl i s hi
    refine ⟨o, ho, ?_⟩
    cases s with
    | no => trivial
    | v y =>
      obtain ⟨v, e, r⟩ := hs
      exact ⟨v, e, r.mv x pre_refl⟩
    | own c =>
      obtain ⟨a, e, h1, h2, h3, h4⟩ := hs
      exact ⟨a, e, w a h1, h2, h3, h4.mv x pre_refl fun o => k a o h1⟩
/-- a new object that stands still -/
theorem Ext.lay {p : Addr} {o : HO} (hp : H p = none) : Ext B ρ W H ρ W (upd H p o) := by
  refine ⟨⟨[], by simp⟩, fun a u _ e => by rw [upd_ne (ne_of_none e hp)]; exact e, fun _ w => .inl w, fun a e => ?_⟩
  by_cases ha : a = p
  · rw [ha]; exact hp
  · rw [upd_ne ha] at e; exact e
theorem upd_live {p : Addr} {o : HO} {a : Addr} (n : H a ≠ none) : upd H p o a ≠ none := by
  by_cases ha : a = p
  · rw [ha, upd_same]; exact fun z => nomatch z
  · rw [upd_ne ha]; exact n
theorem RS.lay (R : RS G B ρ h S W σ H) {p : Addr} {o : HO} (hp : H p = none) : RS G B ρ h S W σ (upd H p o) :=
  R.step (Ext.lay (B := B) (ρ := ρ) hp).sub (fun a u _ e => by rw [upd_ne (ne_of_none e hp)]; exact e) (fun _ w => w) fun a w => upd_live (R.live a w)
/-- a new object that is owned -/
def add (W : ASet) (p : Addr) : ASet := fun a => W a ∨ a = p
def cut (W : ASet) (p : Addr) : ASet := fun a => W a ∧ a ≠ p
theorem Ext.layO {p : Addr} {o : HO} (hp : H p = none) : Ext B ρ W H ρ (add W p) (upd H p o) := by
  have x := Ext.lay (B := B) (ρ := ρ) (W := W) (o := o) hp
  refine ⟨x.pre, x.keep, fun a w => ?_, x.live⟩
  rcases w with w | w
  · exact .inl w
  · rw [w]; exact .inr hp
theorem RS.layO (R : RS G B ρ h S W σ H) {p : Addr} {o : HO} (hp : H p = none) : RS G B ρ h S (add W p) σ (upd H p o) :=
  R.step (Ext.layO (B := B) (ρ := ρ) hp).sub (fun a u _ e => by rw [upd_ne (ne_of_none e hp)]; exact e) (fun _ w => .inl w) fun a w => by
    rcases w with w | w
    · exact upd_live (R.live a w)
    · rw [w, upd_same]; exact fun z => nomatch z
/-- fresh for all that stands -/
theorem RS.fresh (R : RS G B ρ h S W σ H) {p : Addr} (hp : H p = none) : ¬ W p ∧ ¬ B p ∧ p ∉ ρ ∧ Free S σ p := by
  have w : ¬ W p := fun w => R.live p w hp
  refine ⟨w, fun b => w (R.base p b), fun r => w (R.sub p r), fun i c hi e => ?_⟩
  obtain ⟨o, ho, hs⟩ := R.sl i _ hi
  obtain ⟨a, ea, h1, _⟩ := hs
  rw [e] at ho
  cases ho
  cases ea
  exact w h1
theorem Free.ne {i : Nat} {c : Cell} {a p : Addr} (f : Free S σ p) (hi : S[i]? = some (.own c)) (e : σ[i]? = some (some (V.ref a))) : a ≠ p := fun z => f i c hi (by rw [e, z])
/-- an owned thing that no cell and no name is, let go -/
theorem RS.cut (R : RS G B ρ h S W σ H) {p : Addr} (hb : ¬ B p) (hr : p ∉ ρ) (hf : Free S σ p) : RS G B ρ h S (cut W p) σ H := by
  have x : Sub W H (Mp.cut W p) H := Sub.less fun a w => w.1
  refine ⟨R.len, R.nd, fun a ha => ⟨R.sub a ha, fun z => hr (z ▸ ha)⟩, fun a ha => ⟨R.base a ha, fun z => hb (z ▸ ha)⟩, R.out, fun a w => R.live a w.1, fun i c a hi ha => ?_, fun i s hi => ?_, R.dj⟩
  · exact (R.cel i c a hi ha).mv x pre_refl fun o e => e
  · obtain ⟨o, ho, hs⟩ := R.sl i s hi
    refine ⟨o, ho, ?_⟩
    cases s with
    | no => trivial
    | v y =>
      obtain ⟨v, e, r⟩ := hs
      exact ⟨v, e, r.mv x pre_refl⟩
    | own c =>
      obtain ⟨a, e, h1, h2, h3, h4⟩ := hs
      exact ⟨a, e, ⟨h1, hf.ne hi (by rw [ho, e])⟩, h2, h3, h4.mv x pre_refl fun o e => e⟩
theorem Ext.cut {p : Addr} : Ext B ρ W H ρ (cut W p) H := ⟨⟨[], by simp⟩, fun _ _ _ e => e, fun a w => .inl w.1, fun _ e => e⟩
/-- data of values -/
theorem VR.toD : ∀ (x : AV) (d : D) (v : V), x.toD = some d → VR G H W ρ x v → DR G H W d v := by
  intro x
  apply AV.rec (motive_1 := fun x => ∀ (d : D) (v : V), x.toD = some d → VR G H W ρ x v → DR G H W d v)
    (motive_2 := fun xs => ∀ (ds : List D) (vs : List V), AV.toDs xs = some ds → VRs G H W ρ xs vs → DRs G H W ds vs)
  · intro x d v e r
    simp only [AV.toD, Option.some.injEq] at e
    subst e
    simpa only [VR] using r
  · intro n d v e
    simp [AV.toD] at e
  · intro t xs ih d v e r
    simp only [AV.toD, Option.map_eq_some_iff] at e
    obtain ⟨ys, h1, h2⟩ := e
    simp only [VR] at r
    obtain ⟨a, vs, rfl, l, r⟩ := r
    have q := ih ys vs h1 r
    cases t with
    | true =>
      simp only [↓reduceIte] at h2 l
      subst h2
      simp only [DR]
      exact ⟨a, vs, rfl, l, q⟩
    | false =>
      simp only [Bool.false_eq_true, ↓reduceIte] at h2 l
      subst h2
      simp only [DR]
      exact ⟨a, vs, rfl, l, q⟩
  · intro ds vs e r
    simp only [AV.toDs, Option.some.injEq] at e
    subst e
    simpa only [VRs, DRs] using r
  · intro x xs h1 h2 ds vs e r
    simp only [AV.toDs] at e
    split at e
    · rename_i y ys e1 e2
      cases e
      simp only [VRs] at r
      obtain ⟨v, u, rfl, ra, rb⟩ := r
      simp only [DRs]
      exact ⟨v, u, rfl, h1 y v e1 ra, h2 ys u e2 rb⟩
    · cases e
theorem VRs.toD : ∀ (xs : List AV) (ds : List D) (vs : List V), AV.toDs xs = some ds → VRs G H W ρ xs vs → DRs G H W ds vs
  | [], ds, vs, e, r => by
    simp only [AV.toDs, Option.some.injEq] at e
    subst e
    simpa only [VRs, DRs] using r
  | x :: xs, ds, vs, e, r => by
    simp only [AV.toDs] at e
    split at e
    · rename_i y ys e1 e2
      cases e
      simp only [VRs] at r
      obtain ⟨v, u, rfl, ra, rb⟩ := r
      simp only [DRs]
      exact ⟨v, u, rfl, VR.toD x y v e1 ra, VRs.toD xs ys u e2 rb⟩
    · cases e
theorem VRk.toDk : ∀ (xs : List (Key × AV)) (ds : List (Key × D)) (vs : List (Key × V)), AV.toDk xs = some ds → VRk G H W ρ xs vs → DRk G H W ds vs
  | [], ds, vs, e, r => by
    simp only [AV.toDk, Option.some.injEq] at e
    subst e
    simpa only [VRk, DRk] using r
  | (k, x) :: xs, ds, vs, e, r => by
    simp only [AV.toDk] at e
    split at e
    · rename_i y ys e1 e2
      cases e
      simp only [VRk] at r
      obtain ⟨v, u, rfl, ra, rb⟩ := r
      simp only [DRk]
      exact ⟨v, u, rfl, VR.toD x y v e1 ra, VRk.toDk xs ys u e2 rb⟩
    · cases e
theorem VRk.toDf : ∀ (xs : List (Str × AV)) (ds : List (Str × D)) (vs : List (Str × V)), AV.toDk xs = some ds → VRk G H W ρ xs vs → DRf G H W ds vs
  | [], ds, vs, e, r => by
    simp only [AV.toDk, Option.some.injEq] at e
    subst e
    simpa only [VRk, DRf] using r
  | (k, x) :: xs, ds, vs, e, r => by
    simp only [AV.toDk] at e
    split at e
    · rename_i y ys e1 e2
      cases e
      simp only [VRk] at r
      obtain ⟨v, u, rfl, ra, rb⟩ := r
      simp only [DRf]
      exact ⟨v, u, rfl, VR.toD x y v e1 ra, VRk.toDf xs ys u e2 rb⟩
    · cases e
/-- a container at an address that is not owned any more -/
theorem CAt.frz {c : Cell} {a : Addr} {x : AV} (n : ¬ W a) (h : CAt G H W ρ a c) (e : c.frz = some x) : VR G H W ρ x (.ref a) := by
  cases c with
  | lst xs =>
    simp only [CAt] at h
    obtain ⟨vs, l, r⟩ := h
    simp only [Cell.frz, Option.some.injEq] at e
    subst e
    split
    · rename_i ys e1
      simp only [VR, DR]
      exact ⟨a, vs, rfl, ⟨n, l⟩, VRs.toD xs ys vs e1 r⟩
    · simp only [VR, Bool.false_eq_true, ↓reduceIte]
      exact ⟨a, vs, rfl, ⟨n, l⟩, r⟩
  | dic kvs =>
    simp only [CAt] at h
    obtain ⟨vs, l, r⟩ := h
    simp only [Cell.frz, Option.map_eq_some_iff] at e
    obtain ⟨ys, e1, rfl⟩ := e
    simp only [VR, DR]
    exact ⟨a, vs, rfl, n, l, VRk.toDk kvs ys vs e1 r⟩
  | ins c fs =>
    simp only [CAt] at h
    obtain ⟨dx, vs, l, r⟩ := h
    simp only [Cell.frz, Option.map_eq_some_iff] at e
    obtain ⟨ys, e1, rfl⟩ := e
    simp only [VR, DR]
    exact ⟨a, dx, vs, rfl, n, l, VRk.toDf fs ys vs e1 r⟩
  | dead => simp [Cell.frz] at e
/-- what an expression has led to -/
def EGood (G : Gd) (B : ASet) (ρ : List Addr) (W : ASet) (H : Hp) (S : List SV) (σ : L2.St) (rv : RV) (h' : Hs) (v : V) (H' : Hp) : Prop :=
  ∃ ρ' W', Ext B ρ W H ρ' W' H' ∧ RS G B ρ' h' S W' σ H' ∧ RVR G H' W' B ρ' S σ rv v
def LGood (G : Gd) (B : ASet) (ρ : List Addr) (W : ASet) (H : Hp) (S : List SV) (σ : L2.St) (xs : List AV) (h' : Hs) (vs : List V) (H' : Hp) : Prop :=
  ∃ ρ' W', Ext B ρ W H ρ' W' H' ∧ RS G B ρ' h' S W' σ H' ∧ VRs G H' W' ρ' xs vs
/-- a result as a value that may be put anywhere -/
theorem EGood.toV {rv : RV} {x : AV} {v : V} (g : EGood G B ρ W H S σ rv h' v H') (e : rv.toV = some x) (bw : ∀ a, B a → W a) : EGood G B ρ W H S σ (.v x) h' v H' := by
  obtain ⟨ρ', W', ex, R, r⟩ := g
  cases rv with
  | v y => cases e; exact ⟨ρ', W', ex, R, r⟩
  | f c =>
    obtain ⟨a, rfl, h1, h2, h3, h4, h5⟩ := r
    refine ⟨ρ', Mp.cut W' a, ex.trans Ext.cut bw, R.cut h2 h3 h4, ?_⟩
    exact CAt.frz (fun z => z.2 rfl) (h5.mv (Sub.less fun _ w => w.1) pre_refl fun _ e => e) e
  | b i c => cases e
/-- a result's shape -/
def WR (G : Gd) (H : Hp) (W : ASet) (ρ : List Addr) : Vw → V → Prop
  | .non, v => v = .non
  | .bl b, v => v = .bl b
  | .int i, v => v = .int i
  | .str x, v => v = .str x
  | .lst xs, v => ∃ a vs, v = .ref a ∧ H a = some (.lst vs) ∧ VRs G H W ρ xs vs
  | .tup xs, v => ∃ a vs, v = .ref a ∧ TAt G.K H W a vs ∧ VRs G H W ρ xs vs
  | .dic kvs, v => ∃ a es, v = .ref a ∧ H a = some (.dK es) ∧ VRk G H W ρ kvs es
  | .ins c fs, v => ∃ a dx es, v = .ref a ∧ H a = some (.ins (G.cls c) dx es) ∧ VRk G H W ρ fs es
  | .scr xs, v => ∃ a, v = .ref a ∧ LAt G.K H W a (xs.map V.int)
theorem DRs.toV : ∀ (xs : List D) (vs : List V), DRs G H W xs vs → VRs G H W ρ (xs.map .d) vs
  | [], vs, h => by simpa only [DRs, VRs, List.map_nil] using h
  | x :: xs, vs, h => by
    simp only [DRs, VRs, List.map_cons] at h ⊢
    obtain ⟨v, r, e, a, b⟩ := h
    exact ⟨v, r, e, by simpa only [VR] using a, DRs.toV xs r b⟩
theorem DRk.toV : ∀ (xs : List (Key × D)) (vs : List (Key × V)), DRk G H W xs vs → VRk G H W ρ (xs.map fun p => (p.1, .d p.2)) vs
  | [], vs, h => by simpa only [DRk, VRk, List.map_nil] using h
  | (k, x) :: xs, vs, h => by
    simp only [DRk, VRk, List.map_cons] at h ⊢
    obtain ⟨v, r, e, a, b⟩ := h
    exact ⟨v, r, e, by simpa only [VR] using a, DRk.toV xs r b⟩
theorem DRf.toV : ∀ (xs : List (Str × D)) (vs : List (Str × V)), DRf G H W xs vs → VRk G H W ρ (xs.map fun p => (p.1, .d p.2)) vs
  | [], vs, h => by simpa only [DRf, VRk, List.map_nil] using h
  | (k, x) :: xs, vs, h => by
    simp only [DRf, VRk, List.map_cons] at h ⊢
    obtain ⟨v, r, e, a, b⟩ := h
    exact ⟨v, r, e, by simpa only [VR] using a, DRf.toV xs r b⟩
theorem CAt.vw {c : Cell} {w : Vw} {a : Addr} (h : CAt G H W ρ a c) (e : c.vw = some w) : WR G H W ρ w (.ref a) := by
  cases c with
  | lst xs =>
    cases e
    obtain ⟨vs, l, r⟩ := h
    exact ⟨a, vs, rfl, l, r⟩
  | dic kvs =>
    cases e
    obtain ⟨vs, l, r⟩ := h
    exact ⟨a, vs, rfl, l, r⟩
  | ins c fs =>
    cases e
    obtain ⟨dx, vs, l, r⟩ := h
    exact ⟨a, dx, vs, rfl, l, r⟩
  | dead => cases e
theorem VR.vw (R : RS G B ρ h S W σ H) {x : AV} {w : Vw} {v : V} (r : VR G H W ρ x v) (e : x.vw h = some w) : WR G H W ρ w v := by
  cases x with
  | d x =>
    simp only [AV.vw, Option.some.injEq] at e
    subst e
    simp only [VR] at r
    cases x <;> simp only [DR] at r <;> simp only [D.vw, WR]
    · exact r
    · exact r
    · exact r
    · exact r
    · obtain ⟨a, vs, e, l, q⟩ := r; exact ⟨a, vs, e, l.2, DRs.toV _ _ q⟩
    · obtain ⟨a, vs, e, l, q⟩ := r; exact ⟨a, vs, e, l, DRs.toV _ _ q⟩
    · obtain ⟨a, es, e, n, l, q⟩ := r; exact ⟨a, es, e, l, DRk.toV _ _ q⟩
    · obtain ⟨a, dx, es, e, n, l, q⟩ := r; exact ⟨a, dx, es, e, l, DRf.toV _ _ q⟩
    · exact r
  | r n =>
    simp only [VR] at r
    obtain ⟨a, ha, rfl⟩ := r
    simp only [AV.vw, Option.bind_eq_some_iff] at e
    obtain ⟨c, hc, e⟩ := e
    exact (R.cel n c a hc ha).vw e
  | q t xs =>
    simp only [VR] at r
    obtain ⟨a, vs, rfl, l, q⟩ := r
    cases t with
    | true =>
      simp only [AV.vw, Option.some.injEq] at e
      subst e
      exact ⟨a, vs, rfl, l, q⟩
    | false =>
      simp only [AV.vw, Option.some.injEq] at e
      subst e
      exact ⟨a, vs, rfl, (show ¬ W a ∧ H a = some (.lst vs) from l).2, q⟩
theorem RVR.vw (R : RS G B ρ h S W σ H) {x : RV} {w : Vw} {v : V} (r : RVR G H W B ρ S σ x v) (e : x.vw h = some w) : WR G H W ρ w v := by
  cases x with
  | v x => exact VR.vw R r e
  | f c =>
    obtain ⟨a, rfl, _, _, _, _, r⟩ := r
    exact r.vw e
  | b i c =>
    obtain ⟨h1, h2⟩ := r
    obtain ⟨o, ho, hs⟩ := R.sl i _ h1
    obtain ⟨a, rfl, _, _, _, q⟩ := hs
    rw [h2] at ho
    cases ho
    exact q.vw e
theorem WR.tup {xs : List AV} {v : V} (r : WR G H W ρ (.tup xs) v) : VR G H W ρ (mkTup xs) v := by
  obtain ⟨a, vs, rfl, l, q⟩ := r
  unfold mkTup
  split
  · rename_i ys e
    simp only [VR, DR]
    exact ⟨a, vs, rfl, l, VRs.toD _ _ _ e q⟩
  · simp only [VR, ↓reduceIte]
    exact ⟨a, vs, rfl, l, q⟩
theorem VRs.append : ∀ {xs ys : List AV} {vs us : List V}, VRs G H W ρ xs vs → VRs G H W ρ ys us → VRs G H W ρ (xs ++ ys) (vs ++ us)
  | [], ys, vs, us, h, k => by
    simp only [VRs] at h
    subst h
    simpa using k
  | x :: xs, ys, vs, us, h, k => by
    simp only [VRs, List.cons_append] at h ⊢
    obtain ⟨v, r, rfl, a, b⟩ := h
    exact ⟨v, r ++ us, rfl, a, VRs.append b k⟩
theorem VRs.length : ∀ {xs : List AV} {vs : List V}, VRs G H W ρ xs vs → xs.length = vs.length
  | [], vs, h => by
    simp only [VRs] at h
    subst h
    rfl
  | x :: xs, vs, h => by
    simp only [VRs] at h
    obtain ⟨v, r, rfl, a, b⟩ := h
    simp [VRs.length b]
theorem VRs.get : ∀ {xs : List AV} {vs : List V} {i : Nat} {x : AV}, VRs G H W ρ xs vs → xs[i]? = some x → ∃ v, vs[i]? = some v ∧ VR G H W ρ x v
  | [], vs, i, x, h, e => by simp at e
  | y :: xs, vs, 0, x, h, e => by
    simp only [VRs] at h
    obtain ⟨v, r, rfl, a, b⟩ := h
    simp at e
    subst e
    exact ⟨v, by simp, a⟩
  | y :: xs, vs, i + 1, x, h, e => by
    simp only [VRs] at h
    obtain ⟨v, r, rfl, a, b⟩ := h
    obtain ⟨u, h1, h2⟩ := VRs.get (i := i) b (by simpa using e)
    exact ⟨u, by simpa using h1, h2⟩
theorem VRs.take : ∀ {xs : List AV} {vs : List V} (n : Nat), VRs G H W ρ xs vs → VRs G H W ρ (xs.take n) (vs.take n)
  | [], vs, n, h => by
    simp only [VRs] at h
    subst h
    simp [VRs]
  | x :: xs, vs, 0, h => by simp [VRs]
  | x :: xs, vs, n + 1, h => by
    simp only [VRs] at h
    obtain ⟨v, r, rfl, a, b⟩ := h
    simp only [List.take_succ_cons, VRs]
    exact ⟨v, _, rfl, a, VRs.take n b⟩
theorem VRs.drop : ∀ {xs : List AV} {vs : List V} (n : Nat), VRs G H W ρ xs vs → VRs G H W ρ (xs.drop n) (vs.drop n)
  | [], vs, n, h => by
    simp only [VRs] at h
    subst h
    simp [VRs]
  | x :: xs, vs, 0, h => by simpa using h
  | x :: xs, vs, n + 1, h => by
    simp only [VRs] at h
    obtain ⟨v, r, rfl, a, b⟩ := h
    simp only [List.drop_succ_cons]
    exact VRs.drop n b
theorem VRs.snoc {xs : List AV} {vs : List V} {x : AV} {v : V} (a : VRs G H W ρ xs vs) (b : VR G H W ρ x v) : VRs G H W ρ (xs ++ [x]) (vs ++ [v]) :=
  a.append (by simp only [VRs]; exact ⟨v, [], rfl, b, rfl⟩)
theorem VRs.set : ∀ {xs : List AV} {vs : List V} {x : AV} {v : V} (i : Nat), VRs G H W ρ xs vs → VR G H W ρ x v → VRs G H W ρ (xs.set i x) (vs.set i v)
  | [], vs, x, v, i, h, k => by
    simp only [VRs] at h
    subst h
    simp [VRs]
  | y :: xs, vs, x, v, 0, h, k => by
    simp only [VRs] at h
    obtain ⟨u, r, rfl, a, b⟩ := h
    simp only [List.set_cons_zero, VRs]
    exact ⟨v, r, rfl, k, b⟩
  | y :: xs, vs, x, v, i + 1, h, k => by
    simp only [VRs] at h
    obtain ⟨u, r, rfl, a, b⟩ := h
    simp only [List.set_cons_succ, VRs]
    exact ⟨u, _, rfl, a, VRs.set i b k⟩
/-- a name takes a value -/
theorem RS.setV (R : RS G B ρ h S W σ H) {i : Nat} {x : AV} {v : V} (r : VR G H W ρ x v) : RS G B ρ h (S.set i (.v x)) W (σ.set i (some v)) H := by
  refine ⟨R.len, R.nd, R.sub, R.base, R.out, R.live, R.cel, fun j s hj => ?_, fun j k c c' a h1 h2 h3 h4 => ?_⟩
  · by_cases e : i = j
    · subst e
      by_cases hl : i < S.length
      · rw [List.getElem?_set_self hl] at hj
        cases hj
        obtain ⟨o, ho, _⟩ := R.sl i S[i] (List.getElem?_eq_getElem hl)
        exact ⟨some v, List.getElem?_set_self (List.getElem?_eq_some_iff.mp ho).1, v, rfl, r⟩
      · rw [List.getElem?_eq_none (by simpa using hl)] at hj; cases hj
    · rw [List.getElem?_set_ne e] at hj ⊢
      exact R.sl j s hj
  · have n1 : i ≠ j := fun z => by
      subst z
      by_cases hl : i < S.length
      · rw [List.getElem?_set_self hl] at h1; cases h1
      · rw [List.getElem?_eq_none (by simpa using hl)] at h1; cases h1
    have n2 : i ≠ k := fun z => by
      subst z
      by_cases hl : i < S.length
      · rw [List.getElem?_set_self hl] at h2; cases h2
      · rw [List.getElem?_eq_none (by simpa using hl)] at h2; cases h2
    rw [List.getElem?_set_ne n1] at h1 h3
    rw [List.getElem?_set_ne n2] at h2 h4
    exact R.dj j k c c' a h1 h2 h3 h4
/-- a name takes a container that nothing else holds -/
theorem RS.setO (R : RS G B ρ h S W σ H) {i : Nat} {c : Cell} {p : Addr} (h1 : W p) (h2 : ¬ B p) (h3 : p ∉ ρ) (hf : Free S σ p) (hc : CAt G H W ρ p c) : RS G B ρ h (S.set i (.own c)) W (σ.set i (some (.ref p))) H := by
  refine ⟨R.len, R.nd, R.sub, R.base, R.out, R.live, R.cel, fun j s hj => ?_, fun j k d d' a g1 g2 g3 g4 => ?_⟩
  · by_cases e : i = j
    · subst e
      by_cases hl : i < S.length
      · rw [List.getElem?_set_self hl] at hj
        cases hj
        obtain ⟨o, ho, _⟩ := R.sl i S[i] (List.getElem?_eq_getElem hl)
        exact ⟨_, List.getElem?_set_self (List.getElem?_eq_some_iff.mp ho).1, p, rfl, h1, h2, h3, hc⟩
      · rw [List.getElem?_eq_none (by simpa using hl)] at hj; cases hj
    · rw [List.getElem?_set_ne e] at hj ⊢
      exact R.sl j s hj
  · have own_at : ∀ (j : Nat) d, (S.set i (SV.own c))[j]? = some (SV.own d) → (σ.set i (some (V.ref p)))[j]? = some (some (V.ref a)) → (j = i ∧ a = p) ∨ (S[j]? = some (SV.own d) ∧ σ[j]? = some (some (V.ref a)) ∧ a ≠ p) := fun j d e1 e2 => by
      by_cases e : i = j
      · subst e
        by_cases hl : i < σ.length
        · rw [List.getElem?_set_self hl] at e2
          cases e2
          exact .inl ⟨rfl, rfl⟩
        · rw [List.getElem?_eq_none (by simpa using hl)] at e2; cases e2
      · rw [List.getElem?_set_ne e] at e1 e2
        exact .inr ⟨e1, e2, hf.ne e1 e2⟩
    rcases own_at j d g1 g3 with ⟨e1, e2⟩ | ⟨e1, e2, e3⟩ <;> rcases own_at k d' g2 g4 with ⟨f1, f2⟩ | ⟨f1, f2, f3⟩
    · rw [e1, f1]
    · exact absurd e2 f3
    · exact absurd f2 e3
    · exact R.dj j k d d' a e1 f1 e2 f2
/-- a name is forgotten -/
theorem RS.weak (R : RS G B ρ h S W σ H) {S' : List SV} {σ' : L2.St} (k : ∀ (i : Nat) s, S'[i]? = some s → s = .no ∧ (∃ o, σ'[i]? = some o) ∨ S[i]? = some s ∧ σ'[i]? = σ[i]?) : RS G B ρ h S' W σ' H := by
  refine ⟨R.len, R.nd, R.sub, R.base, R.out, R.live, R.cel, fun i s hi => ?_, fun i j c c' a h1 h2 h3 h4 => ?_⟩
  · rcases k i s hi with ⟨rfl, o, e⟩ | ⟨e1, e2⟩
    · exact ⟨o, e, trivial⟩
    · rw [e2]; exact R.sl i s e1
  · rcases k i _ h1 with ⟨z, _⟩ | ⟨e1, e2⟩
    · cases z
    · rcases k j _ h2 with ⟨z, _⟩ | ⟨f1, f2⟩
      · cases z
      · rw [e2] at h3
        rw [f2] at h4
        exact R.dj i j c c' a e1 f1 h3 h4
theorem RS.bare (R : RS G B ρ h S W σ H) : RS G B ρ h [] W [] H := R.weak fun i s e => by simp at e
/-- a cell's content is changed -/
theorem RS.setC (R : RS G B ρ h S W σ H) {n : Nat} {a : Addr} {c : Cell} {o : HO} (ha : ρ[n]? = some a) (hc : CAt G (upd H a o) W ρ a c) : RS G B ρ (h.set n c) S W σ (upd H a o) := by
  have wa : W a := R.sub a (List.mem_of_getElem? ha)
  have x : Sub W H W (upd H a o) := ⟨fun b u nb e => ⟨nb, by
    have ne : b ≠ a := fun z => by subst z; exact nb wa
    rw [upd_ne ne]; exact e⟩⟩
  refine ⟨by simpa using R.len, R.nd, R.sub, R.base, R.out, fun b w => upd_live (R.live b w), fun i d b hi hb => ?_, fun i s hi => ?_, R.dj⟩
  · by_cases e : n = i
    · subst e
      rw [ha] at hb
      cases hb
      by_cases hl : n < h.length
      · rw [List.getElem?_set_self hl] at hi
        cases hi
        exact hc
      · rw [List.getElem?_eq_none (by simpa using hl)] at hi; cases hi
    · rw [List.getElem?_set_ne e] at hi
      have nb : b ≠ a := fun z => by
        subst z
        obtain ⟨l1, q1⟩ := List.getElem?_eq_some_iff.mp ha
        obtain ⟨l2, q2⟩ := List.getElem?_eq_some_iff.mp hb
        exact e ((List.getElem_inj R.nd).mp (q1.trans q2.symm))
      exact (R.cel i d b hi hb).mv x pre_refl fun u e => by rw [upd_ne nb]; exact e
  · obtain ⟨u, hu, hs⟩ := R.sl i s hi
    refine ⟨u, hu, ?_⟩
    cases s with
    | no => trivial
    | v y =>
      obtain ⟨v, e, r⟩ := hs
      exact ⟨v, e, r.mv x pre_refl⟩
    | own c =>
      obtain ⟨b, e, h1, h2, h3, h4⟩ := hs
      have nb : b ≠ a := fun z => h3 (z ▸ List.mem_of_getElem? ha)
      exact ⟨b, e, h1, h2, h3, h4.mv x pre_refl fun u e => by rw [upd_ne nb]; exact e⟩
theorem Ext.setC {n : Nat} {a : Addr} {o : HO} (ha : ρ[n]? = some a) (wa : W a) (nb : ¬ B a) : Ext B ρ W H ρ W (upd H a o) := by
  refine ⟨⟨[], by simp⟩, fun b u h e => ?_, fun _ w => .inl w, fun b e => ?_⟩
  · rw [upd_ne]
    · exact e
    · intro z
      subst z
      rcases h with h | h
      · exact h wa
      · exact nb h
  · by_cases hb : b = a
    · subst hb; rw [upd_same] at e; cases e
    · rw [upd_ne hb] at e; exact e
/-- a new cell for an owned container -/
theorem RS.cell (R : RS G B ρ h S W σ H) {p : Addr} {c : Cell} (h1 : W p) (h2 : ¬ B p) (h3 : p ∉ ρ) (hf : Free S σ p) (hc : CAt G H W ρ p c) : RS G B (ρ ++ [p]) (h ++ [c]) S W σ H := by
  have pre : ∃ t, ρ ++ [p] = ρ ++ t := ⟨[p], rfl⟩
  refine ⟨by simp [R.len], List.nodup_append.mpr ⟨R.nd, by simp, fun a ha b hb => ?_⟩, fun a ha => ?_, R.base, fun a ha => ?_, R.live, fun i d b hi hb => ?_, fun i s hi => ?_, R.dj⟩
  · rw [List.mem_singleton] at hb
    subst hb
    exact fun z => h3 (z ▸ ha)
  · rcases List.mem_append.mp ha with ha | ha
    · exact R.sub a ha
    · rw [List.mem_singleton] at ha; exact ha ▸ h1
  · rcases List.mem_append.mp ha with ha | ha
    · exact R.out a ha
    · rw [List.mem_singleton] at ha; exact ha ▸ h2
  · by_cases hl : i < h.length
    · rw [List.getElem?_append_left hl] at hi
      rw [List.getElem?_append_left (by rw [R.len]; exact hl)] at hb
      exact (R.cel i d b hi hb).mv Sub.refl pre fun _ e => e
    · have hl' : h.length ≤ i := Nat.le_of_not_lt hl
      rw [List.getElem?_append_right hl'] at hi
      rw [List.getElem?_append_right (by rw [R.len]; exact hl'), R.len] at hb
      cases q : i - h.length with
      | zero =>
        rw [q] at hi hb
        cases hi
        cases hb
        exact hc.mv Sub.refl pre fun _ e => e
      | succ m =>
        rw [q] at hi
        simp at hi
  · obtain ⟨u, hu, hs⟩ := R.sl i s hi
    refine ⟨u, hu, ?_⟩
    cases s with
    | no => trivial
    | v y =>
      obtain ⟨v, e, r⟩ := hs
      exact ⟨v, e, r.mv Sub.refl pre⟩
    | own d =>
      obtain ⟨b, e, g1, g2, g3, g4⟩ := hs
      refine ⟨b, e, g1, g2, fun z => ?_, g4.mv Sub.refl pre fun _ e => e⟩
      rcases List.mem_append.mp z with z | z
      · exact g3 z
      · rw [List.mem_singleton] at z
        exact hf.ne hi (by rw [hu, e]) z
theorem Ext.cell {p : Addr} : Ext B ρ W H (ρ ++ [p]) W H := ⟨⟨[p], rfl⟩, fun _ _ _ e => e, fun _ w => .inl w, fun _ e => e⟩
/-- a name's own container is changed -/
theorem RS.setS (R : RS G B ρ h S W σ H) {i : Nat} {a : Addr} {c d : Cell} {o : HO} (hi : S[i]? = some (.own d)) (ha : σ[i]? = some (some (.ref a))) (hc : CAt G (upd H a o) W ρ a c) : RS G B ρ h (S.set i (.own c)) W σ (upd H a o) := by
  obtain ⟨u0, hu0, a0, e0, wa, nB, nr, _⟩ := R.sl i _ hi
  rw [ha] at hu0
  cases hu0
  cases e0
  have x : Sub W H W (upd H a o) := ⟨fun b u nb e => ⟨nb, by
    have ne : b ≠ a := fun z => by subst z; exact nb wa
    rw [upd_ne ne]; exact e⟩⟩
  refine ⟨R.len, R.nd, R.sub, R.base, R.out, fun b w => upd_live (R.live b w), fun j e b hj hb => ?_, fun j s hj => ?_, fun j k c1 c2 b g1 g2 g3 g4 => ?_⟩
  · have nb : b ≠ a := fun z => nr (z ▸ List.mem_of_getElem? hb)
    exact (R.cel j e b hj hb).mv x pre_refl fun u e => by rw [upd_ne nb]; exact e
  · by_cases e : i = j
    · subst e
      rw [List.getElem?_set_self (List.getElem?_eq_some_iff.mp hi).1] at hj
      cases hj
      exact ⟨_, ha, a, rfl, wa, nB, nr, hc⟩
    · rw [List.getElem?_set_ne e] at hj
      obtain ⟨u, hu, hs⟩ := R.sl j s hj
      refine ⟨u, hu, ?_⟩
      cases s with
      | no => trivial
      | v y =>
        obtain ⟨v, e, r⟩ := hs
        exact ⟨v, e, r.mv x pre_refl⟩
      | own c' =>
        obtain ⟨b, eb, h1, h2, h3, h4⟩ := hs
        subst eb
        have nb : b ≠ a := fun z => e (R.dj i j _ _ a hi hj ha (by rw [hu, z]))
        exact ⟨b, rfl, h1, h2, h3, h4.mv x pre_refl fun u e => by rw [upd_ne nb]; exact e⟩
  · have get : ∀ (j : Nat) c1, (S.set i (SV.own c))[j]? = some (SV.own c1) → ∃ c3, S[j]? = some (SV.own c3) := fun j c1 g => by
      by_cases e : i = j
      · subst e; exact ⟨_, hi⟩
      · rw [List.getElem?_set_ne e] at g; exact ⟨_, g⟩
    obtain ⟨c3, g1'⟩ := get j c1 g1
    obtain ⟨c4, g2'⟩ := get k c2 g2
    exact R.dj j k c3 c4 b g1' g2' g3 g4
end
end Mp


set_option Elab.async false
set_option linter.all false
set_option maxRecDepth 10000
/-! The language and its evaluator. -/
namespace Mp
open PySem PySem.Spec PyProof.Rows L2

inductive Tc where
  | b (n : String) | c (i : Nat)
inductive MT where
  | nm (i : Nat) | tp (ts : List MT)
inductive Blt where
  | len | abs | max2 | min2 | all | any | sum | str | int | bool | list | tuple | sorted
  deriving DecidableEq
inductive Mth where
  | join | append
  deriving DecidableEq

mutual
inductive ME where
  | var (i : Nat)
  | cst (x : D)
  | glo (j : Nat)
  | bin (o : Operator) (a b : ME)
  | neg (a : ME)
  | cmp (o : CmpOp) (a b : ME)
  | chn (o o' : CmpOp) (a b c : ME)
  | bop (t : Bool) (es : List ME)
  | nt (a : ME)
  | ite (c : MC) (a b : ME)
  | lst (es : List ME)
  | tup (es : List ME)
  | dct (ks vs : List ME)
  | sub (a i : ME)
  | slc (a : ME) (lo hi : Option ME)
  | rev (a : ME)
  | isi (a : ME) (cs : List Tc)
  | cal (f : Nat) (es : List ME)
  | blt (b : Blt) (es : List ME)
  | met (m : Mth) (a : ME) (es : List ME)
  | lcm (elt : ME) (tg : MT) (it : MI) (cs : Option MC) (own : List (Str × Nat))
  | cel (e : ME)
inductive MC where
  | val (e : ME)
  | cmp (o : CmpOp) (a b : ME)
  | chn (o o' : CmpOp) (a b c : ME)
  | bop (t : Bool) (cs : List MC)
  | nt (c : MC)
inductive MI where
  | seq (e : ME)
  | rng (es : List ME)
end

mutual
inductive MS where
  | asg (t : MT) (e : ME)
  | par (ts : List Nat) (es : List ME)
  | asO (i : Nat) (e : ME)
  | asI (o i e : ME)
  | owA (j : Nat) (e : ME)
  | ex (e : ME)
  | ret (e : ME)
  | retO (j : Nat)
  | rtN
  | ife (c : MC) (a b : List MS)
  | for_ (t : MT) (it : MI) (b : List MS)
  | brk
  | cnt
  | pas
end

/-! ### values -/
mutual
def D.py : D → Option PyData
  | .non => some .none
  | .bl b => some (.bool b)
  | .int i => some (.int i)
  | .str x => some (.str x)
  | .lst xs => (D.pys xs).map .list
  | .tup xs => (D.pys xs).map .tuple
  | _ => none
def D.pys : List D → Option (List PyData)
  | [] => some []
  | x :: xs => match D.py x, D.pys xs with
    | some y, some ys => some (y :: ys)
    | _, _ => none
end
def Cell.res (c : Cell) : Option D := c.frz.bind AV.toD
def RV.res (h : Hs) : RV → Option D
  | .v (.d x) => some x
  | .v (.r n) => (h[n]?).bind Cell.res
  | .v (.q t xs) => AV.toD (.q t xs)
  | .f c => c.res
  | .b _ c => c.res
/-- a flat value -/
def D.fv : D → Option V
  | .non => some .non
  | .bl b => some (.bl b)
  | .int i => some (.int i)
  | .str x => some (.str x)
  | _ => none
def AV.fv : AV → Option V
  | .d x => x.fv
  | _ => none
def AV.fvs : List AV → Option (List V)
  | [] => some []
  | x :: xs => match x.fv, AV.fvs xs with
    | some y, some ys => some (y :: ys)
    | _, _ => none
def RV.fv : RV → Option V
  | .v a => a.fv
  | _ => none
def AV.ints : List AV → Option (List Int)
  | [] => some []
  | .d (.int i) :: xs => (AV.ints xs).map (i :: ·)
  | _ => none
def AV.bls : List AV → Option (List Bool)
  | [] => some []
  | .d (.bl i) :: xs => (AV.bls xs).map (i :: ·)
  | _ => none
def AV.strs : List AV → Option (List Str)
  | [] => some []
  | .d (.str i) :: xs => (AV.strs xs).map (i :: ·)
  | _ => none
abbrev di (i : Int) : RV := .v (.d (.int i))
abbrev db (b : Bool) : RV := .v (.d (.bl b))
abbrev dS (x : Str) : RV := .v (.d (.str x))
abbrev dn : RV := .v (.d .non)
def ok1 {α : Type} (o : Option α) (h : Hs) : Res α := match o with | some a => .ok a h | none => .bad
@[simp] theorem ok1_some {α : Type} (a : α) (h : Hs) : ok1 (some a) h = .ok a h := rfl
@[simp] theorem ok1_none {α : Type} (h : Hs) : ok1 (none : Option α) h = .bad := rfl

def okP {α : Type} (o : Option (α × Hs)) : Res α := match o with | some p => .ok p.1 p.2 | none => .bad
@[simp] theorem okP_some {α : Type} (a : α) (h : Hs) : okP (some (a, h)) = .ok a h := rfl
@[simp] theorem okP_none {α : Type} : okP (none : Option (α × Hs)) = .bad := rfl

def bop : Operator → Vw → Vw → Option RV
  | .Add, .int i, .int j => some (di (i + j))
  | .Sub, .int i, .int j => some (di (i - j))
  | .Mult, .int i, .int j => if (-(2 ^ 64) < i ∧ i < 2 ^ 64) ∨ (-(2 ^ 64) < j ∧ j < 2 ^ 64) then some (di (i * j)) else none
  | .FloorDiv, .int i, .int j => if j ≠ 0 ∧ j.natAbs < 1073741824 then some (di (i.fdiv j)) else none
  | .Mod, .int i, .int j => if j ≠ 0 then some (di (i.fmod j)) else none
  | .Pow, .int i, .int j => if 0 ≤ j ∧ j ≤ 1000000 ∧ i.natAbs < 2 ^ 64 then some (di (i ^ j.toNat)) else none
  | .Add, .str x, .str y => if x.length + y.length ≤ sizeLine then some (dS (x ++ y)) else none
  | .Add, .lst xs, .lst ys => if xs.length + ys.length ≤ sizeLine then some (.f (.lst (xs ++ ys))) else none
  | .Add, .tup xs, .tup ys => if xs ≠ [] ∧ xs.length + ys.length ≤ sizeLine then some (.v (mkTup (xs ++ ys))) else none
  | _, _, _ => none
def binO (h : Hs) (o : Operator) (x y : RV) : Option RV := match x.vw h, y.vw h with
  | some v, some w => bop o v w
  | _, _ => none
def isNon : RV → Bool
  | .v (.d .non) => true
  | _ => false
def inB (x : Option V) (ys : Option (List V)) : Option Bool := match x, ys with
  | some x, some ys => some (inV x ys)
  | _, _ => none
def inO (h : Hs) (a b : RV) : Option Bool := match b.vw h with
  | some (.str y) => (match a.fv with | some (.str x) => some (!(Builtin.Str.occurrences y x 0 y.length 1).isEmpty) | _ => none)
  | some (.lst ys) => inB a.fv (AV.fvs ys)
  | some (.tup ys) => inB a.fv (AV.fvs ys)
  | _ => none
def eqO (h : Hs) (a b : RV) : Option Bool := match (a.res h).bind D.py, (b.res h).bind D.py with
  | some x, some y => if SeqAt.shaped x = true ∧ SeqAt.shaped y = true then some (PyData.eqv x y) else none
  | _, _ => none
def ltO (f : Int → Int → Bool) (a b : RV) : Option Bool := match a, b with
  | .v (.d (.int i)), .v (.d (.int j)) => some (f i j)
  | _, _ => none
def cop (h : Hs) : CmpOp → RV → RV → Option Bool
  | .Eq, a, b => eqO h a b
  | .NotEq, a, b => (eqO h a b).map (!·)
  | .Lt, a, b => ltO (fun i j => decide (i < j)) a b
  | .LtE, a, b => ltO (fun i j => decide (i ≤ j)) a b
  | .Gt, a, b => ltO (fun i j => decide (j < i)) a b
  | .GtE, a, b => ltO (fun i j => decide (j ≤ i)) a b
  | .Is, a, b => if isNon b then some (isNon a) else none
  | .IsNot, a, b => if isNon b then some (!isNon a) else none
  | .In, a, b => inO h a b
  | .NotIn, a, b => (inO h a b).map (!·)
def truO : Vw → Option Bool
  | .non => some false
  | .bl b => some b
  | .int i => some (i != 0)
  | .str x => if x.length ≤ sizeLine then some ((x.length : Int) != 0) else none
  | .lst xs => some (!xs.isEmpty)
  | .tup xs => some (!xs.isEmpty)
  | .dic xs => some (!xs.isEmpty)
  | _ => none
def ixO (w : Vw) (i : Int) : Option AV := match w with
  | .lst xs => atI xs i
  | .tup xs => atI xs i
  | .scr xs => (atI xs i).map fun j => .d (.int j)
  | .str x => if x.length ≤ sizeLine then (atI x.cps.toList i).map fun c => .d (.str ⟨#[c]⟩) else none
  | _ => none
def subO (h : Hs) (x y : RV) : Option RV := match x.vw h, y with
  | some v, .v (.d (.int j)) => (ixO v j).map .v
  | _, _ => none
def cutA {α : Type} (xs : List α) (lo hi : Option Int) : List α := (xs.drop (HT.sIx xs.length 0 lo)).take (HT.sIx xs.length xs.length hi - HT.sIx xs.length 0 lo)
def slO (w : Vw) (lo hi : Option Int) : Option RV := match w with
  | .lst xs => some (.f (.lst (cutA xs lo hi)))
  | .tup xs => if HT.sIx xs.length 0 lo = 0 ∧ HT.sIx xs.length xs.length hi = xs.length then none else some (.v (mkTup (cutA xs lo hi)))
  | .str x => if x.length ≤ sizeLine then some (dS (cutS x lo hi)) else none
  | _ => none
/-- a value's built-in type -/
inductive Ty where
  | b (n : String) | c (i : Nat)
def Vw.ty : Vw → Option Ty
  | .non => some (.b "NoneType")
  | .bl _ => some (.b "bool")
  | .int _ => some (.b "int")
  | .str _ => some (.b "str")
  | .lst _ => some (.b "list")
  | .tup _ => some (.b "tuple")
  | .dic _ => some (.b "dict")
  | .ins c _ => some (.c c)
  | .scr _ => none
def tyIs : Ty → Tc → Option Bool
  | .b a, .b b => kitB a b
  | _, _ => none
def tyAny (t : Ty) : List Tc → Option Bool
  | [] => some false
  | c :: cs => match tyIs t c, tyAny t cs with
    | some b, some r => some (b || r)
    | _, _ => none
def lenO : Vw → Option Nat
  | .str x => if x.length ≤ sizeLine then some x.length else none
  | .lst xs => some xs.length
  | .tup xs => some xs.length
  | .scr xs => some xs.length
  | _ => none
/-- a built-in's answer -/
def bltO (h : Hs) : Blt → List RV → Option RV
  | .len, [x] => ((x.vw h).bind lenO).map fun (n : Nat) => di (n : Int)
  | .abs, [.v (.d (.int i))] => some (di (if i < 0 then -i else i))
  | .max2, [.v (.d (.int i)), .v (.d (.int j))] => some (di (if j > i then j else i))
  | .min2, [.v (.d (.int i)), .v (.d (.int j))] => some (di (if j < i then j else i))
  | .all, [x] => (match x.vw h with | some (.lst xs) => (AV.bls xs).map fun bs => db (bs.all id) | _ => none)
  | .any, [x] => (match x.vw h with | some (.lst xs) => (AV.bls xs).map fun bs => db (bs.any id) | _ => none)
  | .sum, [x] => (match x.vw h with | some (.lst xs) => (AV.ints xs).map fun bs => di bs.sum | _ => none)
  | .str, [.v (.d (.int i))] => if i.natAbs.log2 < 1920 then some (dS (toString i)) else none
  | .int, [.v (.d (.bl b))] => some (di (if b then 1 else 0))
  | .int, [.v (.d (.int i))] => some (di i)
  | .list, [x] => (match x.vw h with | some (.lst xs) => some (.f (.lst xs)) | some (.tup xs) => some (.f (.lst xs)) | some (.str x) => if x.length ≤ sizeLine then some (.f (.lst (x.cps.toList.map fun c => .d (.str ⟨#[c]⟩)))) else none | _ => none)
  | .tuple, [x] => (match x.vw h with | some (.lst xs) => some (.v (mkTup xs)) | some (.tup xs) => some (.v (mkTup xs)) | _ => none)
  | _, _ => none
def Mth.ty : Mth → String
  | .join => "str" | .append => "list"
/-- the receiver is of the method's type -/
def rcvOk (h : Hs) (m : Mth) (x : RV) : Bool := match m.ty, x.vw h with
  | "str", some (.str _) => true
  | "list", some (.lst _) => true
  | "dict", some (.dic _) => true
  | _, _ => false
/-- a method's answer and the cells behind it -/
def mthO (h : Hs) : Mth → RV → List AV → Option (RV × Hs)
  | .join, .v (.d (.str s)), [x] => (match x.vw h with
    | some (.lst xs) => (AV.strs xs).bind fun ys => if (ys.map (·.length)).sum + ys.length * s.length ≤ 16777216 then some (dS (Txt.join s ys), h) else none
    | _ => none)
  | .append, .v (.r n), [x] => (match h[n]? with
    | some (.lst xs) => if xs.length < sizeLine then some (dn, h.set n (.lst (xs ++ [x]))) else none
    | _ => none)
  | _, _, _ => none

/-- the source of a loop stands as it stood: frozen, or a cell that is looked at -/
inductive Src where
  | fz | cell (n : Nat) (c : Cell)
def SrcOk (h : Hs) : Src → Prop
  | .fz => True
  | .cell n c => h[n]? = some c
/-- a walked thing's items -/
def itO (h : Hs) : RV → Option (List AV × Src)
  | .v (.d (.lst xs)) => some (xs.map .d, .fz)
  | .v (.d (.tup xs)) => some (xs.map .d, .fz)
  | .v (.d (.str x)) => some (x.cps.toList.map fun c => .d (.str ⟨#[c]⟩), .fz)
  | .v (.q _ xs) => some (xs, .fz)
  | .f (.lst xs) => some (xs, .fz)
  | .v (.r n) => (match h[n]? with | some (.lst xs) => some (xs, .cell n (.lst xs)) | _ => none)
  | _ => none
def rngO : List AV → Option (List AV × Src)
  | [.d (.int j)] => if -(2 ^ 62) ≤ j ∧ j < 2 ^ 62 then some ((List.range j.toNat).map fun (i : Nat) => .d (.int (0 + i)), .fz) else none
  | [.d (.int i), .d (.int j)] => if -(2 ^ 62) ≤ i ∧ i < 2 ^ 62 ∧ -(2 ^ 62) ≤ j ∧ j < 2 ^ 62 then some ((List.range (j - i).toNat).map fun (k : Nat) => .d (.int (i + k)), .fz) else none
  | _ => none

/-! ### targets -/
mutual
def evG (h : Hs) : MT → AV → List SV → Option (List SV)
  | .nm i, x, S => some (S.set i (.v x))
  | .tp ts, x, S => match x.vw h with
    | some (.tup xs) => evGs h ts xs S
    | some (.lst xs) => evGs h ts xs S
    | _ => none
def evGs (h : Hs) : List MT → List AV → List SV → Option (List SV)
  | [], [], S => some S
  | t :: ts, x :: xs, S => (evG h t x S).bind (evGs h ts xs)
  | _, _, _ => none
end
def wipeS (S : List SV) : List Nat → List SV
  | [] => S
  | v :: vs => (wipeS S vs).set v .no

def noOwn (S : List SV) (vs : List Nat) : Bool := vs.all fun i => match S[i]? with | some (.own _) => false | _ => true
mutual
def slotsT : MT → List Nat
  | .nm i => [i]
  | .tp ts => slotsTs ts
def slotsTs : List MT → List Nat
  | [] => []
  | t :: ts => slotsT t ++ slotsTs ts
end

/-! ### expressions -/
/-- what the text's defs and constants are worth -/
structure Fn where
  fn : Nat → List AV → Hs → Res RV
  gc : Nat → D
open Classical in
noncomputable def lcGo (elt : List SV → Hs → Res AV) (cs : List SV → Hs → Res Bool) (tg : MT) (src : Src) (S : List SV) : List AV → List AV → Hs → Res RV
  | [], acc, h => if SrcOk h src then .ok (.f (.lst acc)) h else .bad
  | x :: xs, acc, h => if SrcOk h src then
      match evG h tg x S with
      | some S' => (cs S' h).noX.bind fun b h1 => if b = true then (elt S' h1).noX.bind fun y h2 => if acc.length < sizeLine then lcGo elt cs tg src S xs (acc ++ [y]) h2 else .bad
        else lcGo elt cs tg src S xs acc h1
      | none => .bad
    else .bad
def toV1 (r : RV) (h : Hs) : Res AV := ok1 r.toV h
/-- kept while another thing is reckoned -/
def RV.hold : RV → Option RV
  | .v a => some (.v a)
  | .f c => c.frz.map .v
  | .b i c => some (.b i c)
def ho1 (r : RV) (h : Hs) : Res RV := ok1 r.hold h
def asB (r : RV) (h : Hs) : Res Bool := match r with
  | .v (.d (.bl b)) => .ok b h
  | _ => .bad
mutual
noncomputable def evE (F : Fn) : ME → List SV → Hs → Res RV
  | .var i, S, h => match S[i]? with
    | some (.v x) => .ok (.v x) h
    | some (.own c) => .ok (.b i c) h
    | _ => .bad
  | .cst x, _, h => .ok (.v (.d x)) h
  | .glo j, _, h => .ok (.v (.d (F.gc j))) h
  | .bin o a b, S, h => (evE F a S h).bind fun x h1 => (ho1 x h1).bind fun x h1 => (evE F b S h1).bind fun y h2 => ok1 (binO h2 o x y) h2
  | .neg a, S, h => (evE F a S h).bind fun x h1 => match x with
    | .v (.d (.int i)) => .ok (di (-i)) h1
    | _ => .bad
  | .cmp o a b, S, h => (evE F a S h).bind fun x h1 => (ho1 x h1).bind fun x h1 => (evE F b S h1).bind fun y h2 => ok1 ((cop h2 o x y).map db) h2
  | .chn o o' a b c, S, h => (evE F a S h).bind fun x h1 => (ho1 x h1).bind fun x h1 => (evE F b S h1).bind fun y h2 => (ho1 y h2).bind fun y h2 => (ok1 (cop h2 o x y) h2).bind fun k h3 =>
      if k = true then (evE F c S h3).bind fun z h4 => ok1 ((cop h4 o' y z).map db) h4 else .ok (db false) h3
  | .bop t es, S, h => evB F t es S h
  | .nt a, S, h => (evE F a S h).bind fun x h1 => (asB x h1).bind fun b h2 => .ok (db (!b)) h2
  | .ite c a b, S, h => (evT F c S h).bind fun k h1 => if k = true then evE F a S h1 else evE F b S h1
  | .lst es, S, h => (evL F es S h).bind fun xs h1 => if xs.length ≤ sizeLine then .ok (.f (.lst xs)) h1 else .bad
  | .tup es, S, h => (evL F es S h).bind fun xs h1 => if xs.length ≤ sizeLine then .ok (.v (mkTup xs)) h1 else .bad
  | .dct [] [], _, h => .ok (.f (.dic [])) h
  | .dct _ _, _, _ => .bad
  | .sub a i, S, h => (evE F a S h).bind fun x h1 => (ho1 x h1).bind fun x h1 => (evE F i S h1).bind fun y h2 => ok1 (subO h2 x y) h2
  | .slc a lo hi, S, h => (evE F a S h).bind fun x h1 => (ho1 x h1).bind fun x h1 => (evO F lo S h1).bind fun l h2 => (evO F hi S h2).bind fun u h3 => ok1 ((x.vw h3).bind fun w => slO w l u) h3
  | .rev a, S, h => (evE F a S h).bind fun x h1 => match x.vw h1 with
    | some (.lst xs) => .ok (.f (.lst xs.reverse)) h1
    | _ => .bad
  | .isi a cs, S, h => (evE F a S h).bind fun x h1 => ok1 (((x.vw h1).bind Vw.ty).bind fun t => (tyAny t cs).map db) h1
  | .cal f es, S, h => (evL F es S h).bind fun xs h1 => F.fn f xs h1
  | .blt b es, S, h => (evR F es S h).bind fun xs h1 => ok1 (bltO h1 b xs) h1
  | .met m a es, S, h => (evE F a S h).bind fun x h1 => (ho1 x h1).bind fun x h1 => if rcvOk h1 m x = true then (evL F es S h1).bind fun xs h2 => okP (mthO h2 m x xs) else .bad
  | .lcm elt tg it cs own, S, h => if noOwn S (own.map (·.2)) = true then (evI F it S h).bind fun p h1 =>
      lcGo (fun S h => (evE F elt S h).bind toV1) (fun S h => evTo F cs S h) tg p.2 (wipeS S (own.map (·.2))) p.1 [] h1 else .bad
  | .cel e, S, h => (evE F e S h).bind fun x h1 => match x with
    | .f c => .ok (.v (.r h1.length)) (h1 ++ [c])
    | _ => .bad
noncomputable def evL (F : Fn) : List ME → List SV → Hs → Res (List AV)
  | [], _, h => .ok [] h
  | e :: es, S, h => (evE F e S h).bind fun x h1 => (toV1 x h1).bind fun x h1 => (evL F es S h1).bind fun xs h2 => .ok (x :: xs) h2
noncomputable def evR (F : Fn) : List ME → List SV → Hs → Res (List RV)
  | [], _, h => .ok [] h
  | e :: es, S, h => (evE F e S h).bind fun x h1 => (ho1 x h1).bind fun x h1 => (evR F es S h1).bind fun xs h2 => .ok (x :: xs) h2
noncomputable def evO (F : Fn) : Option ME → List SV → Hs → Res (Option Int)
  | none, _, h => .ok none h
  | some e, S, h => (evE F e S h).bind fun x h1 => match x with
    | .v (.d (.int i)) => .ok (some i) h1
    | _ => .bad
/-- and, or as values: all but the last are truths -/
noncomputable def evB (F : Fn) (t : Bool) : List ME → List SV → Hs → Res RV
  | [], _, _ => .bad
  | [e], S, h => evE F e S h
  | e :: e' :: es, S, h => (evE F e S h).bind fun x h1 => (asB x h1).bind fun b h2 => if b = t then evB F t (e' :: es) S h2 else .ok (db b) h2
noncomputable def evT (F : Fn) : MC → List SV → Hs → Res Bool
  | .bop t es, S, h => evTs F t es S h
  | .nt a, S, h => (evT F a S h).bind fun b h1 => .ok (!b) h1
  | .cmp o a b, S, h => (evE F a S h).bind fun x h1 => (ho1 x h1).bind fun x h1 => (evE F b S h1).bind fun y h2 => ok1 (cop h2 o x y) h2
  | .chn o o' a b c, S, h => (evE F a S h).bind fun x h1 => (ho1 x h1).bind fun x h1 => (evE F b S h1).bind fun y h2 => (ho1 y h2).bind fun y h2 => (ok1 (cop h2 o x y) h2).bind fun k h3 =>
      if k = true then (evE F c S h3).bind fun z h4 => ok1 (cop h4 o' y z) h4 else .ok false h3
  | .val e, S, h => (evE F e S h).bind fun x h1 => ok1 ((x.vw h1).bind truO) h1
noncomputable def evTs (F : Fn) (t : Bool) : List MC → List SV → Hs → Res Bool
  | [], _, _ => .bad
  | [e], S, h => evT F e S h
  | e :: e' :: es, S, h => (evT F e S h).bind fun b h2 => if b = t then evTs F t (e' :: es) S h2 else .ok b h2
noncomputable def evTo (F : Fn) : Option MC → List SV → Hs → Res Bool
  | none, _, h => .ok true h
  | some c, S, h => evT F c S h
noncomputable def evI (F : Fn) : MI → List SV → Hs → Res (List AV × Src)
  | .seq e, S, h => (evE F e S h).bind fun x h1 => ok1 (itO h1 x) h1
  | .rng es, S, h => (evL F es S h).bind fun xs h1 => ok1 (rngO xs) h1
end

/-! ### statements -/
inductive SRes where
  | nx (S : List SV) (h : Hs) | rt (r : RV) (h : Hs) | bk (S : List SV) (h : Hs) | ct (S : List SV) (h : Hs) | exc (e : Ex) (S : List SV) (h : Hs) | bad
def Res.st {α : Type} (r : Res α) (S : List SV) (f : α → Hs → SRes) : SRes := match r with
  | .ok a h => f a h
  | .exc e h => .exc e S h
  | .bad => .bad
@[simp] theorem Res.st_ok {α : Type} (a : α) (h : Hs) (S : List SV) (f : α → Hs → SRes) : (Res.ok a h).st S f = f a h := rfl
@[simp] theorem Res.st_exc {α : Type} (e : Ex) (h : Hs) (S : List SV) (f : α → Hs → SRes) : (Res.exc e h : Res α).st S f = .exc e S h := rfl
@[simp] theorem Res.st_bad {α : Type} (S : List SV) (f : α → Hs → SRes) : (Res.bad : Res α).st S f = .bad := rfl
open Classical in
noncomputable def forGo (body : List SV → Hs → SRes) (tg : MT) (src : Src) : List AV → List SV → Hs → SRes
  | [], S, h => if SrcOk h src then .nx S h else .bad
  | x :: xs, S, h => if SrcOk h src then
      match evG h tg x S with
      | some S' => match body S' h with
        | .nx S1 h1 => forGo body tg src xs S1 h1
        | .ct S1 h1 => forGo body tg src xs S1 h1
        | .bk S1 h1 => .nx S1 h1
        | .rt r h1 => .rt r h1
        | .exc e S1 h1 => .exc e S1 h1
        | .bad => .bad
      | none => .bad
    else .bad
def nxO (S : List SV) (o : Option Hs) : SRes := match o with | some h => .nx S h | none => .bad
@[simp] theorem nxO_some (S : List SV) (h : Hs) : nxO S (some h) = .nx S h := rfl
@[simp] theorem nxO_none (S : List SV) : nxO S none = .bad := rfl
/-- o[i] = x -/
def setO (h : Hs) (y z : RV) (x : AV) : Option Hs := match y with
  | .v (.r n) => (match h[n]?, z with
    | some (.lst xs), .v (.d (.int j)) => (ixN xs.length j).map fun k => h.set n (.lst (xs.set k x))
    | _, _ => none)
  | _ => none
def parO : List Nat → List AV → List SV → Option (List SV)
  | [], [], S => some S
  | i :: is, x :: xs, S => parO is xs (S.set i (.v x))
  | _, _, _ => none
mutual
noncomputable def evS (F : Fn) : MS → List SV → Hs → SRes
  | .asg t e, S, h => (evE F e S h).st S fun x h1 => (toV1 x h1).st S fun x h1 => match evG h1 t x S with
    | some S' => .nx S' h1
    | none => .bad
  | .par ts es, S, h => (evL F es S h).st S fun xs h1 => match parO ts xs S with
    | some S' => .nx S' h1
    | none => .bad
  | .asO i e, S, h => (evE F e S h).st S fun x h1 => match x with
    | .f c => .nx (S.set i (.own c)) h1
    | _ => .bad
  | .asI o i e, S, h => (evE F e S h).st S fun x h1 => (toV1 x h1).st S fun x h1 => (evE F o S h1).st S fun y h2 => (ho1 y h2).st S fun y h2 => (evE F i S h2).st S fun z h3 => nxO S (setO h3 y z x)
  | .owA j e, S, h => match S[j]? with
    | some (.own (.lst xs)) => (evE F e S h).st S fun x h1 => (toV1 x h1).st S fun x h1 => if xs.length < sizeLine then .nx (S.set j (.own (.lst (xs ++ [x])))) h1 else .bad
    | _ => .bad
  | .ex e, S, h => (evE F e S h).st S fun _ h1 => .nx S h1
  | .ret e, S, h => (evE F e S h).st S fun x h1 => match x with
    | .b _ _ => .bad
    | x => .rt x h1
  | .retO j, S, h => match S[j]? with
    | some (.own c) => .rt (.f c) h
    | _ => .bad
  | .rtN, _, h => .rt dn h
  | .ife c a b, S, h => (evT F c S h).st S fun k h1 => if k = true then evSs F a S h1 else evSs F b S h1
  | .for_ t it b, S, h => (evI F it S h).st S fun p h1 => forGo (fun S h => evSs F b S h) t p.2 p.1 S h1
  | .brk, S, h => .bk S h
  | .cnt, S, h => .ct S h
  | .pas, S, h => .nx S h
noncomputable def evSs (F : Fn) : List MS → List SV → Hs → SRes
  | [], S, h => .nx S h
  | s :: ss, S, h => match evS F s S h with
    | .nx S1 h1 => evSs F ss S1 h1
    | r => r
end
/-- a def's value: its body from its parameters -/
noncomputable def run (F : Fn) (n : Nat) (body : List MS) (as : List AV) (h : Hs) : Res RV :=
  match evSs F body (as.map .v ++ List.replicate (n - as.length) .no) h with
  | .rt r h => .ok r h
  | .nx _ h => .ok dn h
  | .exc e _ h => .exc e h
  | _ => .bad
end Mp


set_option Elab.async false
set_option linter.all false
set_option maxRecDepth 10000
/-! The rules of single steps. -/
namespace Mp
open PySem PySem.Spec PyProof.Rows L2

def Res.ens {α : Type} (r : Res α) (P : α → Hs → Prop) (E : Ex → Hs → Prop) : Prop := match r with
  | .ok a h => P a h
  | .exc e h => E e h
  | .bad => False
theorem ens_bind {α β : Type} (r : Res α) (f : α → Hs → Res β) (P : β → Hs → Prop) (E : Ex → Hs → Prop) : (r.bind f).ens P E = r.ens (fun a h => (f a h).ens P E) E := by cases r <;> rfl
theorem ens_mono {α : Type} {r : Res α} {P P' : α → Hs → Prop} {E : Ex → Hs → Prop} (h : r.ens P E) (k : ∀ a h, P a h → P' a h) : r.ens P' E := by
  cases r with
  | ok a g => exact k a g h
  | exc e g => exact h
  | bad => exact h
theorem ens_ok1 {α : Type} {o : Option α} {h : Hs} {P : α → Hs → Prop} {E : Ex → Hs → Prop} (e : (ok1 o h).ens P E) : ∃ a, o = some a ∧ P a h := by
  cases o with
  | none => exact False.elim e
  | some a => exact ⟨a, rfl, e⟩

section
variable {X : Cx} {cls : Nat → Addr} {B : ASet} {ρ : List Addr} {h : Hs} {S : List SV} {W : ASet} {σ : L2.St} {H : Hp}
abbrev gd (X : Cx) (cls : Nat → Addr) : Gd := ⟨X.K, cls⟩
variable {G : Gd}
theorem good_v (R : RS G B ρ h S W σ H) {x : AV} {v : V} (r : VR G H W ρ x v) : EGood G B ρ W H S σ (.v x) h v H := ⟨ρ, W, Ext.refl, R, r⟩
theorem good_int (R : RS G B ρ h S W σ H) (i : Int) : EGood G B ρ W H S σ (di i) h (.int i) H := good_v R (by simp only [VR, DR])
theorem good_bl (R : RS G B ρ h S W σ H) (i : Bool) : EGood G B ρ W H S σ (db i) h (.bl i) H := good_v R (by simp only [VR, DR])
theorem good_str (R : RS G B ρ h S W σ H) (i : Str) : EGood G B ρ W H S σ (dS i) h (.str i) H := good_v R (by simp only [VR, DR])
theorem good_non (R : RS G B ρ h S W σ H) : EGood G B ρ W H S σ dn h .non H := good_v R (by simp only [VR, DR])
/-- a new container -/
theorem good_new (R : RS G B ρ h S W σ H) {p : Addr} {o : HO} {c : Cell} (hp : H p = none) (hc : CAt G (upd H p o) (add W p) ρ p c) : EGood G B ρ W H S σ (.f c) h (.ref p) (upd H p o) := by
  obtain ⟨h1, h2, h3, h4⟩ := R.fresh hp
  exact ⟨ρ, add W p, Ext.layO hp, R.layO hp, p, rfl, .inr rfl, h2, h3, h4, hc⟩
theorem sub_layO (R : RS G B ρ h S W σ H) {p : Addr} {o : HO} (hp : H p = none) : Sub W H (add W p) (upd H p o) := (Ext.layO (B := B) (ρ := ρ) hp).sub
theorem good_lst (R : RS G B ρ h S W σ H) {p : Addr} {xs : List AV} {vs : List V} (hp : H p = none) (r : VRs G H W ρ xs vs) : EGood G B ρ W H S σ (.f (.lst xs)) h (.ref p) (upd H p (.lst vs)) :=
  good_new R hp ⟨vs, upd_same, r.mv (sub_layO R hp) pre_refl⟩
theorem good_dic0 (R : RS G B ρ h S W σ H) {p : Addr} (hp : H p = none) : EGood G B ρ W H S σ (.f (.dic [])) h (.ref p) (upd H p (.dK [])) :=
  good_new R hp ⟨[], upd_same, by simp only [VRk]⟩
theorem good_tup (R : RS G B ρ h S W σ H) {p : Addr} {xs : List AV} {vs : List V} (hp : H p = none) (r : VRs G H W ρ xs vs) : EGood G B ρ W H S σ (.v (mkTup xs)) h (.ref p) (upd H p (.tup vs)) := by
  have nw := (R.fresh hp).1
  refine ⟨ρ, W, Ext.lay hp, R.lay hp, ?_⟩
  exact WR.tup ⟨p, vs, rfl, .inl ⟨nw, .inl upd_same⟩, r.mv (Ext.lay (B := B) (ρ := ρ) hp).sub pre_refl⟩
theorem EGood.mono (k : Sub W H W H) (bw : ∀ a, B a → W a) {ρ' : List Addr} {W' : ASet} {H' H2 : Hp} {h' : Hs} {rv : RV} {v : V} (x : Ext B ρ W H ρ' W' H') (g : EGood G B ρ' W' H' S σ rv h' v H2) : EGood G B ρ W H S σ rv h' v H2 := by
  obtain ⟨ρ2, W2, x2, R2, r2⟩ := g
  exact ⟨ρ2, W2, x.trans x2 bw, R2, r2⟩
theorem EGood.ext (bw : ∀ a, B a → W a) {ρ' : List Addr} {W' : ASet} {H' H2 : Hp} {h' : Hs} {rv : RV} {v : V} (x : Ext B ρ W H ρ' W' H') (g : EGood G B ρ' W' H' S σ rv h' v H2) : EGood G B ρ W H S σ rv h' v H2 := EGood.mono Sub.refl bw x g
/-- kept over what comes -/
theorem RVR.hold {x : RV} {v : V} {ρ' : List Addr} {W' : ASet} {H' : Hp} (x0 : Ext B ρ W H ρ' W' H') (e : x.hold = some x) (r : RVR G H W B ρ S σ x v) : RVR G H' W' B ρ' S σ x v := by
  cases x with
  | v a => exact VR.mv x0.sub x0.pre a v r
  | f c => simp only [RV.hold] at e; cases q : c.frz <;> rw [q] at e <;> cases e
  | b i c => exact r
theorem hold_hold {x y : RV} (e : x.hold = some y) : y.hold = some y := by
  cases x with
  | v a => cases e; rfl
  | f c =>
    simp only [RV.hold, Option.map_eq_some_iff] at e
    obtain ⟨z, _, rfl⟩ := e
    rfl
  | b i c => cases e; rfl
theorem EGood.hold {x y : RV} {h' : Hs} {v : V} {H' : Hp} (g : EGood G B ρ W H S σ x h' v H') (e : x.hold = some y) (bw : ∀ a, B a → W a) : EGood G B ρ W H S σ y h' v H' := by
  cases x with
  | v a => cases e; exact g
  | f c =>
    simp only [RV.hold, Option.map_eq_some_iff] at e
    obtain ⟨z, q, rfl⟩ := e
    exact g.toV q bw
  | b i c => cases e; exact g

/-- two values under an operator -/
def r2 (G : Gd) (f : Hs → RV → RV → Option RV) : R2 := fun x y H Q => ∃ (B : ASet) (ρ : List Addr) (h : Hs) (S : List SV) (W : ASet) (σ : L2.St) (a b rv : RV),
  RS G B ρ h S W σ H ∧ RVR G H W B ρ S σ a x ∧ RVR G H W B ρ S σ b y ∧ f h a b = some rv ∧ ∀ v H', EGood G B ρ W H S σ rv h v H' → Q v H'

theorem op_bin (o : Operator) : OpR X (binaryOp o) (r2 (gd X cls) fun h a b => binO h o a b) := by
  intro pins s σ0 H x y v u Q I rx ry hh
  obtain ⟨B, ρ, h, S, W, σ, a, b, rv, R, ra, rb, e, k⟩ := hh
  simp only [binO] at e
  split at e
  · rename_i w1 w2 e1 e2
    have q1 := RVR.vw R ra e1
    have q2 := RVR.vw R rb e2
    unfold bop at e
    split at e
    · cases e; cases q1; cases q2
      exact op_add pins s σ0 H _ _ v u Q I rx ry ⟨_, _, rfl, rfl, k _ _ (good_int R _)⟩
    · cases e; cases q1; cases q2
      exact op_sub pins s σ0 H _ _ v u Q I rx ry ⟨_, _, rfl, rfl, k _ _ (good_int R _)⟩
    · split at e
      · rename_i hc
        cases e; cases q1; cases q2
        exact op_mul pins s σ0 H _ _ v u Q I rx ry ⟨_, _, rfl, rfl, hc, k _ _ (good_int R _)⟩
      · cases e
    · split at e
      · rename_i hc
        cases e; cases q1; cases q2
        exact op_fdivN pins s σ0 H _ _ v u Q I rx ry ⟨_, _, rfl, rfl, hc, k _ _ (good_int R _)⟩
      · cases e
    · split at e
      · rename_i hc
        cases e; cases q1; cases q2
        exact op_modN pins s σ0 H _ _ v u Q I rx ry ⟨_, _, rfl, rfl, hc, k _ _ (good_int R _)⟩
      · cases e
    · split at e
      · rename_i hc
        cases e; cases q1; cases q2
        exact op_pow pins s σ0 H _ _ v u Q I rx ry ⟨_, _, rfl, rfl, hc, k _ _ (good_int R _)⟩
      · cases e
    · split at e
      · rename_i hc
        cases e; cases q1; cases q2
        exact op_add_str pins s σ0 H _ _ v u Q I rx ry ⟨_, _, rfl, rfl, hc, k _ _ (good_str R _)⟩
      · cases e
    · split at e
      · rename_i hc
        cases e
        obtain ⟨a1, vs, rfl, l1, r1⟩ := q1
        obtain ⟨a2, us, rfl, l2, r2⟩ := q2
        refine op_cat pins s σ0 H _ _ v u Q I rx ry ⟨_, _, vs, us, rfl, rfl, l1, l2, by rw [← r1.length, ← r2.length]; exact hc, fun p hp => k _ _ (good_lst R hp (r1.append r2))⟩
      · cases e
    · split at e
      · rename_i hc
        cases e
        obtain ⟨a1, vs, rfl, l1, r1⟩ := q1
        obtain ⟨a2, us, rfl, l2, r2⟩ := q2
        have n1 : vs ≠ [] := fun z => by
          have := r1.length
          rw [z] at this
          exact hc.1 (List.length_eq_zero_iff.mp this)
        refine op_catT pins s σ0 H _ _ v u Q I rx ry ⟨_, _, vs, us, rfl, rfl, l1.sq, l2.sq, n1, by rw [← r1.length, ← r2.length]; exact hc.2, fun z => ?_, fun z p hp => k _ _ (good_tup R hp (r1.append r2))⟩
        subst z
        have z2 : _ = 0 := r2.length
        have z3 := List.length_eq_zero_iff.mp z2
        refine k _ _ (good_v R ?_)
        rw [z3, List.append_nil]
        exact WR.tup ⟨a1, vs, rfl, l1, r1⟩
      · cases e
    · cases e
  · cases e

/-! ### data for == -/
mutual
theorem DR.dp : ∀ (d : D) (p : PyData) (v : V), d.py = some p → DR G H W d v → Dp G.K H v p
  | .non, p, v, e, r => by simp only [D.py] at e; cases e; simp only [DR] at r; subst r; exact .non
  | .bl b, p, v, e, r => by simp only [D.py] at e; cases e; simp only [DR] at r; subst r; exact .bl b
  | .int i, p, v, e, r => by simp only [D.py] at e; cases e; simp only [DR] at r; subst r; exact .int i
  | .str x, p, v, e, r => by simp only [D.py] at e; cases e; simp only [DR] at r; subst r; exact .str x
  | .lst xs, p, v, e, r => by
    simp only [D.py, Option.map_eq_some_iff] at e
    obtain ⟨ys, e1, rfl⟩ := e
    simp only [DR] at r
    obtain ⟨a, vs, rfl, l, q⟩ := r
    exact .lst (SqL.of l.2) (DRs.dp xs ys vs e1 q)
  | .tup xs, p, v, e, r => by
    simp only [D.py, Option.map_eq_some_iff] at e
    obtain ⟨ys, e1, rfl⟩ := e
    simp only [DR] at r
    obtain ⟨a, vs, rfl, l, q⟩ := r
    exact .tup l.sq (DRs.dp xs ys vs e1 q)
  | .dic xs, p, v, e, r => by simp [D.py] at e
  | .obj c xs, p, v, e, r => by simp [D.py] at e
  | .scr xs, p, v, e, r => by simp [D.py] at e
theorem DRs.dp : ∀ (d : List D) (p : List PyData) (v : List V), D.pys d = some p → DRs G H W d v → DpAll G.K H v p
  | [], p, v, e, r => by simp only [D.pys] at e; cases e; simp only [DRs] at r; subst r; exact .nil
  | x :: xs, p, v, e, r => by
    simp only [D.pys] at e
    split at e
    · rename_i y ys e1 e2
      cases e
      simp only [DRs] at r
      obtain ⟨u, us, rfl, ra, rb⟩ := r
      exact .cons (DR.dp x y u e1 ra) (DRs.dp xs ys us e2 rb)
    · cases e
end
theorem CAt.res {c : Cell} {a : Addr} {d : D} (r : CAt G H W ρ a c) (e : c.res = some d) : DR G H (fun _ => False) d (.ref a) := by
  simp only [Cell.res, Option.bind_eq_some_iff] at e
  obtain ⟨x, e1, e2⟩ := e
  have q : CAt G H (fun _ => False) ρ a c := r.mv (Sub.less fun _ z => z.elim) pre_refl fun _ e => e
  exact VR.toD x d _ e2 (q.frz (fun z => z) e1)
theorem RVR.res (R : RS G B ρ h S W σ H) {x : RV} {d : D} {v : V} (r : RVR G H W B ρ S σ x v) (e : x.res h = some d) : DR G H (fun _ => False) d v := by
  cases x with
  | v a =>
    cases a with
    | d x => cases e; exact DR.mv (Sub.less fun _ z => z.elim) _ _ (by simpa only [RVR, VR] using r)
    | r n =>
      simp only [RV.res, Option.bind_eq_some_iff] at e
      obtain ⟨c, hc, e⟩ := e
      simp only [RVR, VR] at r
      obtain ⟨a, ha, rfl⟩ := r
      exact (R.cel n c a hc ha).res e
    | q t xs =>
      simp only [RV.res] at e
      exact DR.mv (Sub.less fun _ z => z.elim) _ _ (VR.toD _ _ _ e r)
  | f c =>
    obtain ⟨a, rfl, _, _, _, _, r⟩ := r
    exact r.res e
  | b i c =>
    obtain ⟨h1, h2⟩ := r
    obtain ⟨o, ho, hs⟩ := R.sl i _ h1
    obtain ⟨a, rfl, _, _, _, q⟩ := hs
    rw [h2] at ho
    cases ho
    exact q.res e
theorem DR.fv {d : D} {w v : V} (e : d.fv = some w) (r : DR G H W d v) : v = w ∧ flatV w = true := by
  cases d <;> simp only [D.fv] at e <;> cases e <;> simp only [DR] at r <;> subst r <;> exact ⟨rfl, rfl⟩
theorem AV.fv_ok {x : AV} {w v : V} (e : x.fv = some w) (r : VR G H W ρ x v) : v = w ∧ flatV w = true := by
  cases x with
  | d x => simp only [VR] at r; exact DR.fv e r
  | r n => cases e
  | q t xs => cases e
theorem AV.fvs_ok : ∀ {xs : List AV} {ws vs : List V}, AV.fvs xs = some ws → VRs G H W ρ xs vs → vs = ws ∧ ws.all flatV = true
  | [], ws, vs, e, q0 => by cases e; simp only [VRs] at q0; subst q0; exact ⟨rfl, rfl⟩
  | x :: xs, ws, vs, e, q0 => by
    simp only [AV.fvs] at e
    split at e
    · rename_i y ys e1 e2
      cases e
      simp only [VRs] at q0
      obtain ⟨v, u, rfl, ra, rb⟩ := q0
      obtain ⟨rfl, h1⟩ := AV.fv_ok e1 ra
      obtain ⟨rfl, h2⟩ := AV.fvs_ok e2 rb
      exact ⟨rfl, by simp [h1, h2]⟩
    · cases e
theorem RV.fv_ok {x : RV} {w v : V} (e : x.fv = some w) (r : RVR G H W B ρ S σ x v) : v = w ∧ flatV w = true := by
  cases x with
  | v x => exact AV.fv_ok e r
  | f c => cases e
  | b i c => cases e
theorem isNon_ok (R : RS G B ρ h S W σ H) {x : RV} {v : V} (r : RVR G H W B ρ S σ x v) : isNon x = decide (v = .non) := by
  cases x with
  | v a =>
    cases a with
    | d x =>
      simp only [RVR, VR] at r
      cases x <;> simp only [DR] at r
      · subst r; rfl
      · subst r; rfl
      · subst r; rfl
      · subst r; rfl
      · obtain ⟨a, _, rfl, _⟩ := r; rfl
      · obtain ⟨a, _, rfl, _⟩ := r; rfl
      · obtain ⟨a, _, rfl, _⟩ := r; rfl
      · obtain ⟨a, _, _, rfl, _⟩ := r; rfl
      · obtain ⟨a, rfl, _⟩ := r; rfl
    | r n =>
      simp only [RVR, VR] at r
      obtain ⟨a, _, rfl⟩ := r
      rfl
    | q t xs =>
      simp only [RVR, VR] at r
      obtain ⟨a, vs, rfl, _⟩ := r
      rfl
  | f c =>
    obtain ⟨a, rfl, _⟩ := r
    rfl
  | b i c =>
    obtain ⟨h1, h2⟩ := r
    obtain ⟨o, ho, hs⟩ := R.sl i _ h1
    obtain ⟨a, rfl, _⟩ := hs
    rw [h2] at ho
    cases ho
    rfl
theorem op_cop (hu : X.A.units + 64 < cLine) (o : CmpOp) : OpR X (compareOp o) (r2 (gd X cls) fun h a b => (cop h o a b).map db) := by
  intro pins s σ0 H x y v u Q I rx ry hh
  obtain ⟨B, ρ, h, S, W, σ, a, b, rv, R, ra, rb, e, k⟩ := hh
  simp only [Option.map_eq_some_iff] at e
  obtain ⟨c, e, rfl⟩ := e
  have fin := k (.bl c) H (good_bl R c)
  have lt : ∀ (f : Int → Int → Bool), ltO f a b = some c → ∃ i j, x = .int i ∧ y = .int j ∧ c = f i j := fun f e => by
    unfold ltO at e
    split at e
    · cases e
      simp only [RVR, VR, DR] at ra rb
      exact ⟨_, _, ra, rb, rfl⟩
    · cases e
  have eqv : ∀ c, eqO h a b = some c → ∃ d e, Dp X.K H x d ∧ Dp X.K H y e ∧ SeqAt.shaped d = true ∧ SeqAt.shaped e = true ∧ c = PyData.eqv d e := fun c e => by
    unfold eqO at e
    split at e
    · rename_i p q e1 e2
      simp only [Option.bind_eq_some_iff] at e1 e2
      obtain ⟨d1, f1, g1⟩ := e1
      obtain ⟨d2, f2, g2⟩ := e2
      split at e
      · rename_i hs
        cases e
        exact ⟨p, q, DR.dp _ _ _ g1 (RVR.res R ra f1), DR.dp _ _ _ g2 (RVR.res R rb f2), hs.1, hs.2, rfl⟩
      · cases e
    · cases e
  have inn : ∀ c, inO h a b = some c → (∃ i j, x = .str i ∧ y = .str j ∧ c = !(Builtin.Str.occurrences j i 0 j.length 1).isEmpty) ∨
      ∃ p xs, y = .ref p ∧ (SqL X.K H p xs ∨ SqT X.K H p xs) ∧ flatV x = true ∧ xs.all flatV = true ∧ c = inV x xs := fun c e => by
    unfold inO at e
    split at e
    · rename_i z e1
      have q := RVR.vw R rb e1
      split at e
      · rename_i z2 e2
        cases e
        obtain ⟨rfl, _⟩ := RV.fv_ok e2 ra
        exact .inl ⟨_, _, rfl, q, rfl⟩
      · cases e
    · rename_i ys e1
      obtain ⟨p, vs, rfl, l, r⟩ := RVR.vw R rb e1
      unfold inB at e
      split at e
      · rename_i x' ys' e2 e3
        cases e
        obtain ⟨rfl, f1⟩ := RV.fv_ok e2 ra
        obtain ⟨rfl, f2⟩ := AV.fvs_ok e3 r
        exact .inr ⟨p, _, rfl, .inl (SqL.of l), f1, f2, rfl⟩
      · cases e
    · rename_i ys e1
      obtain ⟨p, vs, rfl, l, r⟩ := RVR.vw R rb e1
      unfold inB at e
      split at e
      · rename_i x' ys' e2 e3
        cases e
        obtain ⟨rfl, f1⟩ := RV.fv_ok e2 ra
        obtain ⟨rfl, f2⟩ := AV.fvs_ok e3 r
        exact .inr ⟨p, _, rfl, .inr l.sq, f1, f2, rfl⟩
      · cases e
    · cases e
  cases o <;> simp only [cop] at e
  · obtain ⟨d1, d2, p1, p2, s1, s2, rfl⟩ := eqv _ e
    exact op_eqD hu pins s σ0 H _ _ v u Q I rx ry ⟨d1, d2, p1, p2, s1, s2, fin⟩
  · simp only [Option.map_eq_some_iff] at e
    obtain ⟨c', e, rfl⟩ := e
    obtain ⟨d1, d2, p1, p2, s1, s2, rfl⟩ := eqv _ e
    exact op_neD hu pins s σ0 H _ _ v u Q I rx ry ⟨d1, d2, p1, p2, s1, s2, fin⟩
  · obtain ⟨i, j, rfl, rfl, rfl⟩ := lt _ e
    exact op_lt pins s σ0 H _ _ v u Q I rx ry ⟨i, j, rfl, rfl, fin⟩
  · obtain ⟨i, j, rfl, rfl, rfl⟩ := lt _ e
    exact op_le pins s σ0 H _ _ v u Q I rx ry ⟨i, j, rfl, rfl, fin⟩
  · obtain ⟨i, j, rfl, rfl, rfl⟩ := lt _ e
    exact op_gt pins s σ0 H _ _ v u Q I rx ry ⟨i, j, rfl, rfl, fin⟩
  · obtain ⟨i, j, rfl, rfl, rfl⟩ := lt _ e
    exact op_ge pins s σ0 H _ _ v u Q I rx ry ⟨i, j, rfl, rfl, fin⟩
  · split at e
    · rename_i nb
      cases e
      rw [isNon_ok R rb] at nb
      rw [isNon_ok R ra] at fin
      exact op_isN pins s σ0 H _ _ v u Q I rx ry ⟨of_decide_eq_true nb, fin⟩
    · cases e
  · split at e
    · rename_i nb
      cases e
      rw [isNon_ok R rb] at nb
      rw [isNon_ok R ra] at fin
      exact op_notN pins s σ0 H _ _ v u Q I rx ry ⟨of_decide_eq_true nb, fin⟩
    · cases e
  · rcases inn _ e with ⟨i, j, rfl, rfl, rfl⟩ | ⟨p, xs, rfl, l, f1, f2, rfl⟩
    · exact op_in_str pins s σ0 H _ _ v u Q I rx ry ⟨i, j, rfl, rfl, fin⟩
    · exact op_in_seq pins s σ0 H _ _ v u Q I rx ry ⟨p, xs, rfl, l, f1, f2, fin⟩
  · simp only [Option.map_eq_some_iff] at e
    obtain ⟨c', e, rfl⟩ := e
    rcases inn _ e with ⟨i, j, rfl, rfl, rfl⟩ | ⟨p, xs, rfl, l, f1, f2, rfl⟩
    · exact op_notIn_str pins s σ0 H _ _ v u Q I rx ry ⟨i, j, rfl, rfl, fin⟩
    · exact op_notIn_seq pins s σ0 H _ _ v u Q I rx ry ⟨p, xs, rfl, l, f1, f2, fin⟩
end
end Mp


set_option Elab.async false
set_option linter.all false
set_option maxRecDepth 10000
/-! More rules of single steps. -/
namespace Mp
open PySem PySem.Spec PyProof.Rows L2
section
variable {X : Cx} {cls : Nat → Addr} {B : ASet} {ρ : List Addr} {h : Hs} {S : List SV} {W : ASet} {σ : L2.St} {H : Hp} {G : Gd}
theorem tru_of {w : Vw} {k : Bool} {v : V} (r : WR G H W ρ w v) (e : truO w = some k) : TruV G.K v H k := by
  cases w <;> simp only [truO] at e <;> simp only [WR] at r
  · cases e; subst r; rfl
  · cases e; subst r; rfl
  · cases e; subst r; rfl
  · split at e
    · rename_i hz
      cases e; subst r; exact ⟨hz, rfl⟩
    · cases e
  · cases e
    obtain ⟨a, vs, rfl, l, q⟩ := r
    refine .inl ⟨vs, SqL.of l, ?_⟩
    have := q.length
    cases vs with
    | nil => rw [List.length_eq_zero_iff.mp this]; rfl
    | cons x y => rename_i xs; cases xs with
      | nil => simp at this
      | cons _ _ => rfl
  · cases e
    obtain ⟨a, vs, rfl, l, q⟩ := r
    refine .inr (.inl ⟨vs, l.sq, ?_⟩)
    have := q.length
    cases vs with
    | nil => rw [List.length_eq_zero_iff.mp this]; rfl
    | cons x y => rename_i xs; cases xs with
      | nil => simp at this
      | cons _ _ => rfl
  · cases e
    obtain ⟨a, es, rfl, l, q⟩ := r
    refine .inr (.inr ⟨es, l, ?_⟩)
    rename_i kvs
    cases kvs with
    | nil => simp only [VRk] at q; subst q; rfl
    | cons p kvs =>
      obtain ⟨k, x⟩ := p
      simp only [VRk] at q
      obtain ⟨v, u, rfl, _⟩ := q
      rfl
  · cases e
  · cases e
theorem VRs.at_ {xs : List AV} {vs : List V} {i : Int} {x : AV} (r : VRs G H W ρ xs vs) (e : atI xs i = some x) : ∃ v, atI vs i = some v ∧ VR G H W ρ x v := by
  simp only [atI, Option.bind_eq_some_iff] at e ⊢
  obtain ⟨j, h1, h2⟩ := e
  obtain ⟨v, h3, h4⟩ := r.get h2
  exact ⟨v, ⟨j, by rw [← r.length]; exact h1, h3⟩, h4⟩
theorem ix_sub : IxR X (r2 (gd X cls) subO) := by
  intro ve se pins s σ0 H x y v u Q I rx ry hh hs
  obtain ⟨B, ρ, h, S, W, σ, a, b, rv, R, ra, rb, e, k⟩ := hh
  simp only [subO] at e
  split at e
  · rename_i w j e1
    have q := RVR.vw R ra e1
    simp only [RVR, VR, DR] at rb
    subst rb
    simp only [Option.map_eq_some_iff] at e
    obtain ⟨z, e, rfl⟩ := e
    cases w <;> simp only [ixO] at e
    · cases e
    · cases e
    · cases e
    · split at e
      · rename_i hz
        simp only [Option.map_eq_some_iff] at e
        obtain ⟨c, e, rfl⟩ := e
        simp only [WR] at q
        subst q
        exact ix_str ve se pins s σ0 H _ _ v u Q I rx ry ⟨_, j, c, rfl, rfl, hz, e, k _ _ (good_str R _)⟩ hs
      · cases e
    · obtain ⟨p, vs, rfl, l, q⟩ := q
      obtain ⟨z', e', q'⟩ := q.at_ e
      exact ix_list ve se pins s σ0 H _ _ v u Q I rx ry ⟨p, vs, j, z', rfl, rfl, SqL.of l, e', k _ _ (good_v R q')⟩ hs
    · obtain ⟨p, vs, rfl, l, q⟩ := q
      obtain ⟨z', e', q'⟩ := q.at_ e
      exact ix_tup ve se pins s σ0 H _ _ v u Q I rx ry ⟨p, vs, j, z', rfl, rfl, l.sq, e', k _ _ (good_v R q')⟩ hs
    · cases e
    · cases e
    · simp only [Option.map_eq_some_iff] at e
      obtain ⟨c, e, rfl⟩ := e
      obtain ⟨p, rfl, l⟩ := q
      rename_i xs
      have e' : atI (xs.map V.int) j = some (V.int c) := by
        simp only [atI, Option.bind_eq_some_iff] at e ⊢
        obtain ⟨i, h1, h2⟩ := e
        exact ⟨i, by rw [List.length_map]; exact h1, by rw [List.getElem?_map, h2]; rfl⟩
      exact ix_list ve se pins s σ0 H _ _ v u Q I rx ry ⟨p, _, j, _, rfl, rfl, l.sq, e', k _ _ (good_int R _)⟩ hs
  · cases e
theorem VRs.cut {xs : List AV} {vs : List V} (lo hi : Option Int) (r : VRs G H W ρ xs vs) : VRs G H W ρ (cutA xs lo hi) (cutV vs lo hi) := by
  unfold cutA cutV
  rw [r.length]
  exact (r.drop _).take _
def rS (G : Gd) : V → Option Int → Option Int → Hp → VK → Prop := fun x lo hi H Q => ∃ (B : ASet) (ρ : List Addr) (h : Hs) (S : List SV) (W : ASet) (σ : L2.St) (a rv : RV),
  RS G B ρ h S W σ H ∧ RVR G H W B ρ S σ a x ∧ (a.vw h).bind (fun w => slO w lo hi) = some rv ∧ ∀ v H', EGood G B ρ W H S σ rv h v H' → Q v H'
theorem sl_ok : SlR X (rS (gd X cls)) := by
  intro pins s σ0 H x v vl vu lo hi sl Q I rx hs pl pu hh
  obtain ⟨B, ρ, h, S, W, σ, a, rv, R, ra, e, k⟩ := hh
  simp only [Option.bind_eq_some_iff] at e
  obtain ⟨w, e1, e⟩ := e
  have q := RVR.vw R ra e1
  cases w <;> simp only [slO] at e
  · cases e
  · cases e
  · cases e
  · split at e
    · rename_i hz
      cases e
      simp only [WR] at q
      subst q
      exact sl_str pins s σ0 H _ v vl vu lo hi sl Q I rx hs pl pu ⟨_, rfl, hz, k _ _ (good_str R _)⟩
    · cases e
  · cases e
    obtain ⟨p, vs, rfl, l, q⟩ := q
    exact sl_list pins s σ0 H _ v vl vu lo hi sl Q I rx hs pl pu ⟨p, vs, rfl, SqL.of l, fun p hp => k _ _ (good_lst R hp (q.cut lo hi))⟩
  · split at e
    · cases e
    · rename_i hz
      cases e
      obtain ⟨p, vs, rfl, l, q⟩ := q
      exact sl_tup pins s σ0 H _ v vl vu lo hi sl Q I rx hs pl pu ⟨p, vs, rfl, l.sq, by rw [← q.length]; exact hz, fun p hp => k _ _ (good_tup R hp (q.cut lo hi))⟩
  · cases e
  · cases e
  · cases e
theorem VRs.reverse : ∀ {xs : List AV} {vs : List V}, VRs G H W ρ xs vs → VRs G H W ρ xs.reverse vs.reverse
  | [], vs, h => by simp only [VRs] at h; subst h; simp [VRs]
  | x :: xs, vs, h => by
    simp only [VRs] at h
    obtain ⟨v, r, rfl, a, b⟩ := h
    rw [List.reverse_cons, List.reverse_cons]
    exact VRs.snoc (VRs.reverse b) a
theorem VRs.ints : ∀ {xs : List AV} {ns : List Int} {vs : List V}, AV.ints xs = some ns → VRs G H W ρ xs vs → vs = ns.map V.int
  | [], ns, vs, e, h => by cases e; simp only [VRs] at h; subst h; rfl
  | x :: xs, ns, vs, e, h => by
    cases x with
    | d x =>
      cases x <;> simp only [AV.ints] at e <;> try (cases e; done)
      simp only [Option.map_eq_some_iff] at e
      obtain ⟨ms, e, rfl⟩ := e
      simp only [VRs, VR, DR] at h
      obtain ⟨v, r, rfl, rfl, b⟩ := h
      rw [VRs.ints e b]
      rfl
    | r n => simp [AV.ints] at e
    | q t ys => simp [AV.ints] at e
theorem VRs.bls : ∀ {xs : List AV} {ns : List Bool} {vs : List V}, AV.bls xs = some ns → VRs G H W ρ xs vs → vs = ns.map V.bl
  | [], ns, vs, e, h => by cases e; simp only [VRs] at h; subst h; rfl
  | x :: xs, ns, vs, e, h => by
    cases x with
    | d x =>
      cases x <;> simp only [AV.bls] at e <;> try (cases e; done)
      simp only [Option.map_eq_some_iff] at e
      obtain ⟨ms, e, rfl⟩ := e
      simp only [VRs, VR, DR] at h
      obtain ⟨v, r, rfl, rfl, b⟩ := h
      rw [VRs.bls e b]
      rfl
    | r n => simp [AV.bls] at e
    | q t ys => simp [AV.bls] at e
theorem VRs.strs : ∀ {xs : List AV} {ns : List Str} {vs : List V}, AV.strs xs = some ns → VRs G H W ρ xs vs → vs = ns.map V.str
  | [], ns, vs, e, h => by cases e; simp only [VRs] at h; subst h; rfl
  | x :: xs, ns, vs, e, h => by
    cases x with
    | d x =>
      cases x <;> simp only [AV.strs] at e <;> try (cases e; done)
      simp only [Option.map_eq_some_iff] at e
      obtain ⟨ms, e, rfl⟩ := e
      simp only [VRs, VR, DR] at h
      obtain ⟨v, r, rfl, rfl, b⟩ := h
      rw [VRs.strs e b]
      rfl
    | r n => simp [AV.strs] at e
    | q t ys => simp [AV.strs] at e
/-- the type of a shape -/
theorem ty_of {w : Vw} {n : String} {v : V} (r : WR G H W ρ w v) (e : w.ty = some (.b n)) : TyX G.K H v (.type n) := by
  cases w <;> simp only [Vw.ty] at e <;> cases e <;> simp only [WR] at r
  · subst r; exact .base .non
  · subst r; exact .base (.bl _)
  · subst r; exact .base (.int _)
  · subst r; exact .base (.str _)
  · obtain ⟨a, vs, rfl, l, _⟩ := r; exact .base (.lst l)
  · obtain ⟨a, vs, rfl, l, _⟩ := r
    rcases l with ⟨_, l | ⟨o, l⟩⟩ | ⟨o, its, n, h1, h2, _⟩
    · exact .base (.tup l)
    · exact .fTuple l
    · exact .kTuple h1 h2
  · obtain ⟨a, es, rfl, l, _⟩ := r; exact .base (.dK l)
/-- values of a list of results -/
def RVRs (G : Gd) (H : Hp) (W B : ASet) (ρ : List Addr) (S : List SV) (σ : L2.St) : List RV → List V → Prop
  | [], vs => vs = []
  | x :: xs, vs => ∃ v r, vs = v :: r ∧ RVR G H W B ρ S σ x v ∧ RVRs G H W B ρ S σ xs r
def rC (G : Gd) (f : Hs → List RV → Option RV) : List V → Hp → VK → Prop := fun xs H Q => ∃ (B : ASet) (ρ : List Addr) (h : Hs) (S : List SV) (W : ASet) (σ : L2.St) (as : List RV) (rv : RV),
  RS G B ρ h S W σ H ∧ RVRs G H W B ρ S σ as xs ∧ f h as = some rv ∧ ∀ v H', EGood G B ρ W H S σ rv h v H' → Q v H'
theorem RVRs.one {a : RV} {xs : List V} (r : RVRs G H W B ρ S σ [a] xs) : ∃ v, xs = [v] ∧ RVR G H W B ρ S σ a v := by
  simp only [RVRs] at r
  obtain ⟨v, u, rfl, ra, rfl⟩ := r
  exact ⟨v, rfl, ra⟩
theorem RVRs.two {a b : RV} {xs : List V} (r : RVRs G H W B ρ S σ [a, b] xs) : ∃ v u, xs = [v, u] ∧ RVR G H W B ρ S σ a v ∧ RVR G H W B ρ S σ b u := by
  simp only [RVRs] at r
  obtain ⟨v, u, rfl, ra, w, z, rfl, rb, rfl⟩ := r
  exact ⟨v, w, rfl, ra, rb⟩
/-- list(text) -/
theorem call_listS (hc : X.calm = true) : CallR X (.type "list") (fun xs H Q => ∃ z, xs = [.str z] ∧ z.length ≤ sizeLine ∧ ∀ p, H p = none → Q (.ref p) (upd H p (.lst (z.cps.toList.map fun c => .str ⟨#[c]⟩)))) := by
  intro pins s σ H xs us Q I r h
  obtain ⟨z, rfl, hz, q⟩ := h
  obtain ⟨u, rfl, rx⟩ := vals1 r
  obtain ⟨t, rfl⟩ := rx
  refine call_list_str (I.ok.hd hc) z t (fun h' tk acc c hk hS hacc => ?_) hz
  have ob : ObjOk X.prog X.w (upd H s.heap.objs.size (.lst (z.cps.toList.map fun c => V.str ⟨#[c]⟩))) h' s.heap.objs.size (.lst (z.cps.toList.map fun c => V.str ⟨#[c]⟩)) := by
    refine ⟨by simp only [List.length_map, Array.length_toList]; exact hz, acc.toList, c, ?_, by rw [Array.toArray_toList]; exact hS⟩
    have el : (z.cps.toList.map fun c => V.str ⟨#[c]⟩).length = acc.toList.length := by simp [hacc.1]
    have key : ∀ (xs : List V) (us : List Value), xs.length = us.length → (∀ (j : Nat) (x : V) (u : Value), xs[j]? = some x → us[j]? = some u → RelV x u) → Vals xs us := by
      intro xs
      induction xs with
      | nil => intro us h _; cases us with
        | nil => exact .nil
        | cons _ _ => simp at h
      | cons x xs ih => intro us h f; cases us with
        | nil => simp at h
        | cons u us => exact .cons (f 0 x u rfl rfl) (ih us (by simpa using h) fun j y w h1 h2 => f (j + 1) y w (by simpa using h1) (by simpa using h2))
    refine key _ _ el fun j x u h1 h2 => ?_
    have h2' : acc[j]? = some u := by rw [← Array.getElem?_toList]; exact h2
    obtain ⟨cc, tt, e1, e2⟩ := hacc.2 j u h2'
    rw [List.getElem?_map, Array.getElem?_toList, e1] at h1
    cases h1
    exact ⟨_, e2⟩
  exact ⟨.ref _, _, I.laid hk (Nat.le_refl _) ob, rfl, q _ (I.hok.fresh (Nat.le_refl _))⟩
theorem strs_vrs {G : Gd} {H : Hp} {W : ASet} {ρ : List Addr} : ∀ xs : List Nat, VRs G H W ρ (xs.map fun c => .d (.str ⟨#[c]⟩)) (xs.map fun c => .str ⟨#[c]⟩)
  | [] => by simp only [List.map_nil, VRs]
  | x :: xs => by
    simp only [List.map_cons, VRs]
    exact ⟨_, _, rfl, by simp only [VR, DR], strs_vrs xs⟩
def Blt.val : Blt → Value
  | .len => .builtin "len" | .abs => .builtin "abs" | .max2 => .builtin "max" | .min2 => .builtin "min" | .all => .builtin "all" | .any => .builtin "any" | .sum => .builtin "sum" | .sorted => .builtin "sorted"
  | .str => .type "str" | .int => .type "int" | .bool => .type "bool" | .list => .type "list" | .tuple => .type "tuple"
theorem blt_ok (hc : X.calm = true) (b : Blt) : CallR X b.val (rC (gd X cls) fun h as => bltO h b as) := by
  intro pins s σ0 H xs us Q I rx hh
  obtain ⟨B, ρ, h, S, W, σ, as, rv, R, ra, e, k⟩ := hh
  simp only at e
  unfold bltO at e
  split at e
  · obtain ⟨v, rfl, r1⟩ := ra.one
    simp only [Option.map_eq_some_iff, Option.bind_eq_some_iff] at e
    obtain ⟨n, ⟨w, e1, e2⟩, rfl⟩ := e
    have q := RVR.vw R r1 e1
    refine call_len pins s σ0 H _ us Q I rx ⟨v, n, rfl, ?_, k _ _ (good_int R _)⟩
    cases w <;> simp only [lenO] at e2 <;> simp only [WR] at q
    · cases e2
    · cases e2
    · cases e2
    · split at e2
      · cases e2; subst q; rename_i hz; exact ⟨hz, rfl⟩
      · cases e2
    · cases e2; obtain ⟨a, vs, rfl, l, q⟩ := q; exact .inl ⟨vs, SqL.of l, q.length⟩
    · cases e2; obtain ⟨a, vs, rfl, l, q⟩ := q; exact .inr ⟨vs, l.sq, q.length⟩
    · cases e2
    · cases e2
    · cases e2; obtain ⟨a, rfl, l⟩ := q; exact .inl ⟨_, l.sq, by simp⟩
  · obtain ⟨v, rfl, r1⟩ := ra.one
    cases e
    simp only [RVR, VR, DR] at r1
    subst r1
    exact call_abs pins s σ0 H _ us Q I rx ⟨_, rfl, k _ _ (good_int R _)⟩
  · obtain ⟨v, u, rfl, r1, r2⟩ := ra.two
    cases e
    simp only [RVR, VR, DR] at r1 r2
    subst r1; subst r2
    exact call_max2 hc pins s σ0 H _ us Q I rx ⟨_, _, rfl, k _ _ (good_int R _)⟩
  · obtain ⟨v, u, rfl, r1, r2⟩ := ra.two
    cases e
    simp only [RVR, VR, DR] at r1 r2
    subst r1; subst r2
    exact call_min2 hc pins s σ0 H _ us Q I rx ⟨_, _, rfl, k _ _ (good_int R _)⟩
  · obtain ⟨v, rfl, r1⟩ := ra.one
    split at e
    · rename_i xs e1
      simp only [Option.map_eq_some_iff] at e
      obtain ⟨bs, e, rfl⟩ := e
      obtain ⟨a, vs, rfl, l, q⟩ := RVR.vw R r1 e1
      rw [VRs.bls e q] at l
      exact cr_all hc pins s σ0 H _ us Q I rx ⟨a, bs, rfl, SqL.of l, k _ _ (good_bl R _)⟩
    · cases e
  · obtain ⟨v, rfl, r1⟩ := ra.one
    split at e
    · rename_i xs e1
      simp only [Option.map_eq_some_iff] at e
      obtain ⟨bs, e, rfl⟩ := e
      obtain ⟨a, vs, rfl, l, q⟩ := RVR.vw R r1 e1
      rw [VRs.bls e q] at l
      exact cr_any hc pins s σ0 H _ us Q I rx ⟨a, bs, rfl, SqL.of l, k _ _ (good_bl R _)⟩
    · cases e
  · obtain ⟨v, rfl, r1⟩ := ra.one
    split at e
    · rename_i xs e1
      simp only [Option.map_eq_some_iff] at e
      obtain ⟨bs, e, rfl⟩ := e
      obtain ⟨a, vs, rfl, l, q⟩ := RVR.vw R r1 e1
      rw [VRs.ints e q] at l
      exact cr_sum hc pins s σ0 H _ us Q I rx ⟨a, bs, rfl, SqL.of l, k _ _ (good_int R _)⟩
    · cases e
  · obtain ⟨v, rfl, r1⟩ := ra.one
    split at e
    · rename_i hz
      cases e
      simp only [RVR, VR, DR] at r1
      subst r1
      exact call_str_int pins s σ0 H _ us Q I rx ⟨_, rfl, hz, k _ _ (good_str R _)⟩
    · cases e
  · obtain ⟨v, rfl, r1⟩ := ra.one
    cases e
    simp only [RVR, VR, DR] at r1
    subst r1
    exact call_int1 pins s σ0 H _ us Q I rx (.inr ⟨_, rfl, k _ _ (good_int R _)⟩)
  · obtain ⟨v, rfl, r1⟩ := ra.one
    cases e
    simp only [RVR, VR, DR] at r1
    subst r1
    exact call_int1 pins s σ0 H _ us Q I rx (.inl ⟨_, rfl, k _ _ (good_int R _)⟩)
  · obtain ⟨v, rfl, r1⟩ := ra.one
    split at e
    · rename_i xs e1
      cases e
      obtain ⟨a, vs, rfl, l, q⟩ := RVR.vw R r1 e1
      exact call_list_of pins s σ0 H _ us Q I rx ⟨a, vs, rfl, .inl (SqL.of l), fun p hp => k _ _ (good_lst R hp q)⟩
    · rename_i xs e1
      cases e
      obtain ⟨a, vs, rfl, l, q⟩ := RVR.vw R r1 e1
      exact call_list_of pins s σ0 H _ us Q I rx ⟨a, vs, rfl, .inr l.sq, fun p hp => k _ _ (good_lst R hp q)⟩
    · rename_i z e1
      split at e
      · rename_i hz
        cases e
        have q := RVR.vw R r1 e1
        simp only [WR] at q
        subst q
        exact call_listS hc pins s σ0 H _ us Q I rx ⟨z, rfl, hz, fun p hp => k _ _ (good_lst R hp (strs_vrs _))⟩
      · cases e
    · cases e
  · obtain ⟨v, rfl, r1⟩ := ra.one
    split at e
    · rename_i xs e1
      cases e
      obtain ⟨a, vs, rfl, l, q⟩ := RVR.vw R r1 e1
      exact call_tuple_of pins s σ0 H _ us Q I rx ⟨a, vs, rfl, .inl ⟨SqL.of l, fun p hp => k _ _ (good_tup R hp q)⟩⟩
    · rename_i xs e1
      cases e
      obtain ⟨a, vs, rfl, l, q⟩ := RVR.vw R r1 e1
      exact call_tuple_of pins s σ0 H _ us Q I rx ⟨a, vs, rfl, .inr ⟨l.sq, k _ _ (good_v R (WR.tup ⟨a, vs, rfl, l, q⟩))⟩⟩
    · cases e
  · cases e
/-! ### methods -/
def Mth.name : Mth → Str
  | .join => "join" | .append => "append"
def Mth.id : Mth → String
  | .join => "str.join" | .append => "list.append"
def rM (G : Gd) (m : Mth) : V → List V → Hp → VK → Prop := fun x xs H Q => ∃ (B : ASet) (ρ : List Addr) (h : Hs) (S : List SV) (W : ASet) (σ : L2.St) (a : RV) (as : List AV) (rv : RV) (h' : Hs),
  RS G B ρ h S W σ H ∧ RVR G H W B ρ S σ a x ∧ VRs G H W ρ as xs ∧ mthO h m a as = some (rv, h') ∧ ∀ v H', EGood G B ρ W H S σ rv h' v H' → Q v H'
theorem VRs.one {a : AV} {xs : List V} (r : VRs G H W ρ [a] xs) : ∃ v, xs = [v] ∧ VR G H W ρ a v := by
  simp only [VRs] at r
  obtain ⟨v, u, rfl, ra, rfl⟩ := r
  exact ⟨v, rfl, ra⟩
/-- a cell is changed: what it leads to -/
theorem good_set (R : RS G B ρ h S W σ H) {n : Nat} {a : Addr} {c : Cell} {o : HO} {rv : RV} {v : V} (ha : ρ[n]? = some a) (hc : CAt G (upd H a o) W ρ a c) (r : RVR G (upd H a o) W B ρ S σ rv v) : EGood G B ρ W H S σ rv (h.set n c) v (upd H a o) := by
  have m := List.mem_of_getElem? ha
  exact ⟨ρ, W, Ext.setC ha (R.sub a m) (R.out a m), R.setC ha hc, r⟩
theorem sub_set {a : Addr} {o : HO} (w : W a) : Sub W H W (upd H a o) := ⟨fun b u nb e => ⟨nb, by
  have ne : b ≠ a := fun z => by subst z; exact nb w
  rw [upd_ne ne]; exact e⟩⟩
theorem cell_lst (R : RS G B ρ h S W σ H) {n : Nat} {xs : List AV} (hn : h[n]? = some (.lst xs)) {a : Addr} (ha : ρ[n]? = some a) : W a ∧ ∃ vs, H a = some (.lst vs) ∧ VRs G H W ρ xs vs := ⟨R.sub a (List.mem_of_getElem? ha), R.cel n _ a hn ha⟩
theorem mth_ok (m : Mth) : MtR X m.id (rM (gd X cls) m) := by
  intro pins s σ0 H x xs v us Q I rx rs hh
  obtain ⟨B, ρ, h, S, W, σ, a, as, rv, h', R, ra, rl, e, k⟩ := hh
  unfold mthO at e
  split at e
  · rename_i z y
    obtain ⟨v, rfl, r1⟩ := rl.one
    simp only [RVR, VR, DR] at ra
    subst ra
    split at e
    · rename_i ys e1
      simp only [Option.bind_eq_some_iff] at e
      obtain ⟨zs, e2, e⟩ := e
      split at e
      · rename_i hz
        cases e
        obtain ⟨p, vs, rfl, l, q⟩ := VR.vw R r1 e1
        rw [VRs.strs e2 q] at l
        exact mt_join pins s σ0 H _ _ _ us Q I rx rs ⟨_, p, zs, rfl, rfl, .inl (SqL.of l), hz, k _ _ (good_str R _)⟩
      · cases e
    · cases e
  · obtain ⟨w, rfl, r1⟩ := rl.one
    simp only [RVR, VR] at ra
    obtain ⟨p, hp, rfl⟩ := ra
    split at e
    · rename_i ys e1
      split at e
      · rename_i hz
        cases e
        obtain ⟨wp, vs, l, q⟩ := cell_lst R e1 hp
        refine mt_append pins s σ0 H _ _ _ us Q I rx rs ⟨p, vs, w, rfl, rfl, l, by rw [← q.length]; exact hz, k _ _ (good_set R hp ?_ (by simp only [RVR, VR, DR]))⟩
        exact ⟨_, upd_same, (q.mv (sub_set wp) pre_refl).snoc (VR.mv (sub_set wp) pre_refl _ _ r1)⟩
      · cases e
    · cases e
  · cases e
end
end Mp


set_option Elab.async false
set_option linter.all false
set_option maxRecDepth 10000
/-! What text an expression of the language stands for. -/
namespace Mp
open PySem PySem.Spec PyProof.Rows L2

/-- the names of a text: its defs with their parameters' number, its constants, the built-ins that it leaves alone -/
structure Nm where
  fns : List (Str × Nat)
  gcs : List Str
  bl : List Str
abbrev Ks := List (Str × NameKind)
def okN (x : Str) : Bool := !(x == ("__debug__" : Str)) && !(x == ("__classdict__" : Str)) && decide (x ≠ "__name__")
def visK : Option NameKind → Bool
  | some .local => true
  | some .cell => true
  | some .free => true
  | _ => false
def glK (sc : Ks) (x : Str) : Bool := decide (sc.lookup x = some .globalImplicit)
def isStar : Expr → Bool
  | .Starred _ _ => true
  | _ => false
def isSlice : Expr → Bool
  | .Slice _ _ _ _ => true
  | _ => false
def plainT : Expr → Bool
  | .UnaryOp .Not _ _ => false
  | .BoolOp _ _ _ => false
  | .IfExp _ _ _ _ => false
  | .Compare _ _ _ _ => false
  | _ => true
def noSuper : Expr → Bool
  | .Call (.Name id _) [] [] _ => !(id == ("super" : Str))
  | _ => true
def Blt.name : Blt → Str
  | .len => "len" | .abs => "abs" | .max2 => "max" | .min2 => "min" | .all => "all" | .any => "any" | .sum => "sum" | .sorted => "sorted"
  | .str => "str" | .int => "int" | .bool => "bool" | .list => "list" | .tuple => "tuple"
def cstOk : D → Const → Bool
  | .non, .none => true
  | .bl a, .bool b => a == b
  | .int i, .int j => i == j
  | .str x, .str y => decide (x = y)
  | _, _ => false
def andOr : Bool → BoolOp → Bool
  | true, .And => true
  | false, .Or => true
  | _, _ => false
/-- a class by its name -/
def tcOk (T : Nm) (sc : Ks) : Tc → Expr → Bool
  | .b n, .Name x _ => decide (x = Str.ofString n) && glK sc x && okN x && decide (x ∈ T.bl) && decide (n ∈ ["int", "str", "bool", "list", "tuple", "dict"])
  | _, _ => false
section
variable (T : Nm) (N : List Str)
mutual
def mG (sc : Ks) : MT → Expr → Bool
  | .nm i, e => match e with
    | .Name x _ => decide (N[i]? = some x) && (match sc.lookup x with | some .local => true | some .cell => true | _ => false)
    | _ => false
  | .tp ts, e => match e with
    | .Tuple es _ _ => mGs sc ts es
    | _ => false
def mGs (sc : Ks) : List MT → List Expr → Bool
  | [], [] => true
  | t :: ts, e :: es => mG sc t e && mGs sc ts es
  | _, _ => false
end
mutual
def mE (sc : Ks) : ME → Expr → Bool
  | .var i, e => match e with
    | .Name x _ => decide (N[i]? = some x) && visK (sc.lookup x) && okN x
    | _ => false
  | .cst d, e => match e with
    | .Constant c _ _ => cstOk d c
    | _ => false
  | .glo j, e => match e with
    | .Name x _ => decide (T.gcs[j]? = some x) && glK sc x && okN x
    | _ => false
  | .bin o a b, e => match e with
    | .BinOp a' o' b' _ => decide (o = o') && mE sc a a' && mE sc b b'
    | _ => false
  | .neg a, e => match e with
    | .UnaryOp .USub a' _ => mE sc a a'
    | _ => false
  | .cmp o a b, e => match e with
    | .Compare a' [o'] [b'] _ => decide (o = o') && mE sc a a' && mE sc b b' && !(behindInMarks o b')
    | _ => false
  | .chn o p a b c, e => match e with
    | .Compare a' [o', p'] [b', c'] _ => decide (o = o') && decide (p = p') && mE sc a a' && mE sc b b' && mE sc c c' && !(lastMarks [o, p] [b', c'])
    | _ => false
  | .bop t es, e => match e with
    | .BoolOp o es' _ => andOr t o && mL sc es es' && !es.isEmpty
    | _ => false
  | .nt a, e => match e with
    | .UnaryOp .Not a' _ => mE sc a a'
    | _ => false
  | .ite c a b, e => match e with
    | .IfExp c' a' b' _ => mC sc c c' && mE sc a a' && mE sc b b'
    | _ => false
  | .lst es, e => match e with
    | .List es' _ => mL sc es es'
    | _ => false
  | .tup es, e => match e with
    | .Tuple es' _ _ => mL sc es es'
    | _ => false
  | .dct ks vs, e => match ks, vs, e with
    | [], [], .Dict [] [] _ => true
    | _, _, _ => false
  | .sub a i, e => match e with
    | .Subscript a' i' _ => mE sc a a' && mE sc i i' && !(isSlice i')
    | _ => false
  | .slc a lo hi, e => match e with
    | .Subscript a' (.Slice lo' hi' none _) _ => mE sc a a' && mO sc lo lo' && mO sc hi hi'
    | _ => false
  | .rev a, e => match e with
    | .Subscript a' (.Slice none none (some (.UnaryOp .USub (.Constant (.int j) _ _) _)) _) _ => mE sc a a' && decide (j = 1)
    | _ => false
  | .isi a cs, e => match e with
    | .Call (.Name x _) [a', c'] ks _ => decide (x = "isinstance") && glK sc x && decide (x ∈ T.bl) && (mE sc a a' && !(isStar a')) && ks.isEmpty && (match cs with | [c] => tcOk T sc c c' | _ => false)
    | _ => false
  | .cal f es, e => match e with
    | .Call (.Name x _) es' ks _ => decide (T.fns[f]? = some (x, es.length)) && glK sc x && okN x && mL sc es es' && ks.isEmpty
    | _ => false
  | .blt b es, e => match e with
    | .Call (.Name x _) es' ks _ => decide (x = b.name) && glK sc x && decide (x ∈ T.bl) && mL sc es es' && ks.isEmpty && !es.isEmpty
    | _ => false
  | .met m a es, e => match e with
    | .Call (.Attribute a' n apos) es' ks cpos => decide (n = m.name) && (apos.endLine == cpos.line) && noSuper a' && decide (es.length < 20) && mE sc a a' && mL sc es es' && ks.isEmpty
    | _ => false
  | .lcm elt tg it cs own, e => match e with
    | .ListComp elt' [⟨tg', it', ifs', as⟩] scope _ => decide (as = 0) && mE scope.names elt elt' && mG N scope.names tg tg' && mI sc it it' && mCo scope.names cs ifs' &&
        blkC N { kind := .function, names := sc, isGenerator := false, isCoroutine := false } scope own && (slotsT tg).all (fun i => decide (i ∈ own.map (·.2)))
    | _ => false
  | .cel a, e => mE sc a e
def mL (sc : Ks) : List ME → List Expr → Bool
  | [], [] => true
  | m :: ms, e :: es => mE sc m e && !(isStar e) && mL sc ms es
  | _, _ => false
def mO (sc : Ks) : Option ME → Option Expr → Bool
  | none, none => true
  | some m, some e => mE sc m e
  | _, _ => false
def mC (sc : Ks) : MC → Expr → Bool
  | .val a, e => mE sc a e && plainT e
  | .cmp o a b, e => match e with
    | .Compare a' [o'] [b'] _ => decide (o = o') && mE sc a a' && mE sc b b' && !(behindInMarks o b')
    | _ => false
  | .chn o p a b c, e => match e with
    | .Compare a' [o', p'] [b', c'] _ => decide (o = o') && decide (p = p') && mE sc a a' && mE sc b b' && mE sc c c' && !(lastMarks [o, p] [b', c'])
    | _ => false
  | .bop t cs, e => match e with
    | .BoolOp o es' _ => andOr t o && mCs sc cs es' && !cs.isEmpty
    | _ => false
  | .nt c, e => match e with
    | .UnaryOp .Not a' _ => mC sc c a'
    | _ => false
def mCs (sc : Ks) : List MC → List Expr → Bool
  | [], [] => true
  | m :: ms, e :: es => mC sc m e && mCs sc ms es
  | _, _ => false
def mCo (sc : Ks) : Option MC → List Expr → Bool
  | none, [] => true
  | some m, [e] => mC sc m e
  | _, _ => false
def mI (sc : Ks) : MI → Expr → Bool
  | .seq a, e => mE sc a e && (match e with | .Set _ _ _ => false | _ => true)
  | .rng es, e => match e with
    | .Call (.Name x _) es' ks _ => decide (x = "range") && glK sc x && decide (x ∈ T.bl) && mL sc es es' && ks.isEmpty && decide (es.length ≤ 2)
    | _ => false
end
def isLcm : ME → Bool
  | .lcm _ _ _ _ _ => true
  | _ => false
/-- a value that a name takes: a comprehension on the name's own row is another matter -/
inductive Sw where
  | no | lc
def swK (sc : Ks) (x : Str) (px : Pos) (m : ME) (e : Expr) : Option Sw := match e with
  | .ListComp _ [_] s p => (match sc.lookup x with
    | some .local => if isLcm m && (px.line == p.line) && !(s.names.any fun (n, k) => n == x && (k == .local || k == .cell)) then some .lc else none
    | some .cell => some .no
    | _ => none)
  | .ListComp _ _ _ _ => none
  | .SetComp _ _ _ _ => none
  | .DictComp _ _ _ _ _ => none
  | _ => some .no
def noComp : Expr → Bool
  | .ListComp _ _ _ _ => false
  | .SetComp _ _ _ _ => false
  | .DictComp _ _ _ _ _ => false
  | _ => true
/-- two or three names of the def's own on one row -/
def parK (sc : Ks) (ts : List Expr) : Bool :=
  ts.all (fun e => match e with | .Name x _ => decide (sc.lookup x = some .local) | _ => false)
def lineOf : Expr → Nat
  | .Name _ p => p.line
  | _ => 0
def nameOf' : Expr → Str
  | .Name x _ => x
  | _ => ""
/-- a tuple of targets that are stored from the left -/
def leftOk (sc : Ks) (ts : List Expr) (e : Expr) : Bool := match e with
  | .Tuple vs _ _ => !(ts.length == 2 || ts.length == 3) || ts.any (fun t => match t with | .Name x _ => decide (sc.lookup x = some .cell) | _ => true)
  | _ => true
def mSlot (sc : Ks) (i : Nat) (x : Str) : Bool := decide (N[i]? = some x) && (match sc.lookup x with | some .local => true | some .cell => true | _ => false)
def mPar (sc : Ks) : List Nat → List Expr → Nat → Bool
  | [], [], _ => true
  | i :: is, e :: es, l => (match e with | .Name x p => decide (N[i]? = some x) && decide (sc.lookup x = some .local) && (p.line == l) | _ => false) && mPar sc is es l
  | _, _, _ => false
mutual
def mS (sc : Ks) : MS → Stmt → Bool
  | .asg t m, s => match s with
    | .Assign [tg] e _ => mG N sc t tg && mE T N sc m e && (match tg with
      | .Name x p => (swK sc x p m e).isSome
      | .Tuple ts _ _ => leftOk sc ts e && noComp e
      | _ => false)
    | _ => false
  | .par is ms, s => match s with
    | .Assign [.Tuple ts _ _] (.Tuple es _ _) _ => mL T N sc ms es && (ts.length == 2 || ts.length == 3) && (es.length == ts.length) && decide is.Nodup && mPar N sc is ts ((ts.head?.map lineOf).getD 0) && !(es.all (foldedForSure 8)) && !(es.all (constantsAlone 8))
    | _ => false
  | .asO i m, s => match s with
    | .Assign [.Name x p] e _ => mSlot N sc i x && mE T N sc m e && (swK sc x p m e).isSome
    | _ => false
  | .asI o i m, s => match s with
    | .Assign [.Subscript o' i' _] e _ => mE T N sc o o' && mE T N sc i i' && !(isSlice i') && mE T N sc m e
    | _ => false
  | .owA j m, s => match s with
    | .Expr (.Call (.Attribute (.Name x _) n apos) [e] ks cpos) _ => decide (n = "append") && decide (N[j]? = some x) && visK (sc.lookup x) && okN x && (apos.endLine == cpos.line) && ks.isEmpty && mE T N sc m e && !(isStar e)
    | _ => false
  | .ex m, s => match s with
    | .Expr e _ => mE T N sc m e && noComp e
    | _ => false
  | .ret m, s => match s with
    | .Return (some e) _ => mE T N sc m e
    | _ => false
  | .retO j, s => match s with
    | .Return (some (.Name x _)) _ => decide (N[j]? = some x) && visK (sc.lookup x) && okN x
    | _ => false
  | .rtN, s => match s with
    | .Return none _ => true
    | _ => false
  | .ife c a b, s => match s with
    | .If e a' b' _ => mC T N sc c e && mSs sc a a' && mSs sc b b'
    | _ => false
  | .for_ t it b, s => match s with
    | .For tg e b' els _ => mG N sc t tg && mI T N sc it e && mSs sc b b' && els.isEmpty
    | _ => false
  | .brk, s => match s with
    | .Break _ => true
    | _ => false
  | .cnt, s => match s with
    | .Continue _ => true
    | _ => false
  | .pas, s => match s with
    | .Pass _ => true
    | _ => false
def mSs (sc : Ks) : List MS → List Stmt → Bool
  | [], [] => true
  | m :: ms, s :: ss => mS sc m s && mSs sc ms ss
  | _, _ => false
end
end
end Mp


set_option Elab.async false
set_option linter.all false
set_option maxRecDepth 10000
/-! Contexts, promises, readings. -/
namespace Mp
open PySem PySem.Spec PyProof.Rows L2

def XR (G : Gd) (H : Hp) (W : ASet) (e : Ex) (c : Value) (d : Option Addr) : Prop := match e with
  | .own i fs => c = .ref (G.cls i) ∧ (if fs.isEmpty = true then d = none else ∃ dd es, d = some dd ∧ H dd = some (.xd es) ∧ DRf G H W fs es)
def XGood (G : Gd) (B : ASet) (ρ : List Addr) (W : ASet) (H : Hp) (S : List SV) (σ : L2.St) (e : Ex) (h' : Hs) (c : Value) (d : Option Addr) (H' : Hp) : Prop :=
  ∃ ρ' W', Ext B ρ W H ρ' W' H' ∧ RS G B ρ' h' S W' σ H' ∧ XR G H' W' e c d
def BGood (G : Gd) (B : ASet) (ρ : List Addr) (W : ASet) (H : Hp) (S : List SV) (σ : L2.St) (h' : Hs) (H' : Hp) : Prop :=
  ∃ ρ' W', Ext B ρ W H ρ' W' H' ∧ RS G B ρ' h' S W' σ H'
def RLGood (G : Gd) (B : ASet) (ρ : List Addr) (W : ASet) (H : Hp) (S : List SV) (σ : L2.St) (xs : List RV) (h' : Hs) (vs : List V) (H' : Hp) : Prop :=
  ∃ ρ' W', Ext B ρ W H ρ' W' H' ∧ RS G B ρ' h' S W' σ H' ∧ RVRs G H' W' B ρ' S σ xs vs
def uni (B : ASet) (ρ : List Addr) : ASet := fun a => B a ∨ a ∈ ρ
/-- a def's promise by its worth -/
def spF (G : Gd) (f : List AV → Hs → Res RV) (n : Nat) : Sp := fun vs H Q E => vs.length = n ∧ ∃ (B : ASet) (ρ : List Addr) (h : Hs) (as : List AV),
  RS G B ρ h [] (uni B ρ) [] H ∧ VRs G H (uni B ρ) ρ as vs ∧
  (f as h).ens (fun rv h' => ∀ v H', EGood G B ρ (uni B ρ) H [] [] rv h' v H' → Q v H') (fun e h' => ∀ c d H', XGood G B ρ (uni B ρ) H [] [] e h' c d H' → E c d H')
/-- what a text's defs and constants are, as the walk needs it -/
structure Fa (T : Nm) (F : Fn) (cls : Nat → Addr) (P : Program) (w : World) (K : PySem.W.Frag) (mg : Str → Option Value) (base : Heap) (A : Around) : Prop where
  bl : ∀ x ∈ T.bl, mg x = none
  gc : ∀ (j : Nat) x, T.gcs[j]? = some x → ∃ u w, mg x = some u ∧ RelV w u ∧ ∀ H W, DR ⟨K, cls⟩ H W (F.gc j) w
  fn : ∀ (f : Nat) x n, T.fns[f]? = some (x, n) → ∃ a fd ps k, mg x = some (.ref a) ∧ PySem.W.keepIn K (.ref a) = true ∧ FnOk P w K mg base (L2.CX P w) k a fd ps (spF ⟨K, cls⟩ (F.fn f) n) ∧ Binds K fd ps [] ∧ Room k A
  un : A.units + 64 < cLine
structure OK (T : Nm) (F : Fn) (cls : Nat → Addr) (N : List Str) (sc : Ks) (XW : WX) (X : Cx) : Prop where
  fa : Fa T F cls X.prog X.w X.K X.mg X.base X.A
  eN : X.N = N
  nd : N.Nodup
  calm : X.calm = true
  kd : X.env.scope.kind = .function
  vl : ∀ x, sc.lookup x = some .local → X.env.scope.names.lookup x = some .local
  vc : ∀ x, sc.lookup x = some .cell → X.env.scope.names.lookup x = some .cell ∧ X.fn x = true
  vf : ∀ x, sc.lookup x = some .free → X.env.scope.names.lookup x = some .free ∨ X.env.scope.names.lookup x = some .cell
  vg : ∀ x, sc.lookup x = some .globalImplicit → X.env.scope.names.lookup x = some .globalImplicit
  tk : Takes X XW
  po : PassesOwn (model X.prog X.w) X.A X.env X.xe
theorem okN_1 {x : Str} (h : okN x = true) : (x == ("__debug__" : Str)) = false := by simp [okN] at h; simpa using h.1.1
theorem okN_2 {x : Str} (h : okN x = true) : (x == ("__classdict__" : Str)) = false := by simp [okN] at h; simpa using h.1.2
theorem okN_3 {x : Str} (h : okN x = true) : x ≠ "__name__" := by simp [okN] at h; exact h.2
section
variable {T : Nm} {F : Fn} {cls : Nat → Addr} {N : List Str} {sc : Ks} {XW : WX} {X : Cx}
theorem OK.vis (o : OK T F cls N sc XW X) {x : Str} (h : visK (sc.lookup x) = true) : Vis X.env.scope x := by
  unfold visK at h
  split at h
  · rename_i e; exact .inl (o.vl x e)
  · rename_i e; exact .inr (.inl (o.vc x e).1)
  · rename_i e
    rcases o.vf x e with e | e
    · exact .inr (.inr e)
    · exact .inr (.inl e)
  · cases h
theorem OK.gl (o : OK T F cls N sc XW X) {x : Str} (h : glK sc x = true) : Gl X x := o.vg x (by simpa [glK] using h)

/-! ### readings -/
def rdE (G : Gd) (F : Fn) (XW : WX) (m : ME) : TE := fun σ H Q => ∃ (B : ASet) (ρ : List Addr) (h : Hs) (S : List SV) (W : ASet), RS G B ρ h S W σ H ∧
  (evE F m S h).ens (fun rv h' => ∀ v H', EGood G B ρ W H S σ rv h' v H' → Q v H') (fun e h' => ∀ c d H', XGood G B ρ W H S σ e h' c d H' → XW c d σ H')
def rdT (G : Gd) (F : Fn) (XW : WX) (m : MC) : TT := fun σ H Q => ∃ (B : ASet) (ρ : List Addr) (h : Hs) (S : List SV) (W : ASet), RS G B ρ h S W σ H ∧
  (evT F m S h).ens (fun b h' => ∀ H', BGood G B ρ W H S σ h' H' → Q b H') (fun e h' => ∀ c d H', XGood G B ρ W H S σ e h' c d H' → XW c d σ H')
def rdL (G : Gd) (F : Fn) (XW : WX) (ms : List ME) : TA := fun σ H Q => ∃ (B : ASet) (ρ : List Addr) (h : Hs) (S : List SV) (W : ASet), RS G B ρ h S W σ H ∧
  (evL F ms S h).ens (fun xs h' => ∀ vs H', LGood G B ρ W H S σ xs h' vs H' → Q vs H') (fun e h' => ∀ c d H', XGood G B ρ W H S σ e h' c d H' → XW c d σ H')
def rdR (G : Gd) (F : Fn) (XW : WX) (ms : List ME) : TA := fun σ H Q => ∃ (B : ASet) (ρ : List Addr) (h : Hs) (S : List SV) (W : ASet), RS G B ρ h S W σ H ∧
  (evR F ms S h).ens (fun xs h' => ∀ vs H', RLGood G B ρ W H S σ xs h' vs H' → Q vs H') (fun e h' => ∀ c d H', XGood G B ρ W H S σ e h' c d H' → XW c d σ H')
def rdO (G : Gd) (F : Fn) (XW : WX) (m : Option ME) : TO := fun σ H Q => ∃ (B : ASet) (ρ : List Addr) (h : Hs) (S : List SV) (W : ASet), RS G B ρ h S W σ H ∧
  (evO F m S h).ens (fun i h' => ∀ H', BGood G B ρ W H S σ h' H' → Q i H') (fun e h' => ∀ c d H', XGood G B ρ W H S σ e h' c d H' → XW c d σ H')
/-- an iterator that yields the items -/
def ItOk (G : Gd) (J : It) (its : List AV) (src : Src) (ρ : List Addr) (W : ASet) (H : Hp) : Prop :=
  ∀ (B : ASet) (ρ2 : List Addr) (h2 : Hs) (S2 : List SV) (W2 : ASet) (σ2 : L2.St) (H2 : Hp), Ext B ρ W H ρ2 W2 H2 → RS G B ρ2 h2 S2 W2 σ2 H2 → SrcOk h2 src → ∀ i,
    (∀ x, its[i]? = some x → J.go i H2 ∧ ∀ v H3, J.yld i H2 v H3 → Ext B ρ2 W2 H2 ρ2 W2 H3 ∧ RS G B ρ2 h2 S2 W2 σ2 H3 ∧ VR G H3 W2 ρ2 x v) ∧ (its.length ≤ i → J.stop i H2)
def IGood (G : Gd) (B : ASet) (ρ : List Addr) (W : ASet) (H : Hp) (S : List SV) (σ : L2.St) (its : List AV) (src : Src) (h' : Hs) (J : It) (H' : Hp) : Prop :=
  ∃ ρ' W', Ext B ρ W H ρ' W' H' ∧ RS G B ρ' h' S W' σ H' ∧ ItOk G J its src ρ' W' H'
def rdI (G : Gd) (F : Fn) (XW : WX) (m : MI) : TI := fun σ H R => ∃ (B : ASet) (ρ : List Addr) (h : Hs) (S : List SV) (W : ASet), RS G B ρ h S W σ H ∧
  (evI F m S h).ens (fun p h' => ∀ J H', IGood G B ρ W H S σ p.1 p.2 h' J H' → R J H') (fun e h' => ∀ c d H', XGood G B ρ W H S σ e h' c d H' → XW c d σ H')
theorem PE.imp {e : Expr} {t t' : TE} (h : PE X e t) (k : ∀ σ H Q, t' σ H Q → t σ H Q) : PE X e t' := ⟨fun pins s σ H Q I q => h.run pins s σ H Q I (k _ _ _ q)⟩
theorem PT.imp {e : Expr} {t t' : TT} (h : PT X e t) (k : ∀ σ H Q, t' σ H Q → t σ H Q) : PT X e t' := ⟨fun pins s σ H Q I q => h.run pins s σ H Q I (k _ _ _ q)⟩
theorem PA.imp {e : List Expr} {t t' : TA} (h : PA X e t) (k : ∀ σ H Q, t' σ H Q → t σ H Q) : PA X e t' := ⟨fun pos pins s σ H Q I q => h.run pos pins s σ H Q I (k _ _ _ q)⟩
theorem PO.imp {e : Option Expr} {t t' : TO} (h : PO X e t) (k : ∀ σ H Q, t' σ H Q → t σ H Q) : PO X e t' := ⟨fun pins s σ H Q I q => h.run pins s σ H Q I (k _ _ _ q)⟩
theorem PI.imp {tg e : Expr} {t t' : TI} (h : PI X tg e t) (k : ∀ σ H Q, t' σ H Q → t σ H Q) : PI X tg e t' := ⟨fun pins s σ H Q I q => h.run pins s σ H Q I (k _ _ _ q)⟩
end
section
variable {G : Gd} {B : ASet} {ρ ρ' : List Addr} {W W' : ASet} {H H' H2 : Hp} {h' h2 : Hs} {S : List SV} {σ : L2.St}
theorem XGood.ext (bw : ∀ a, B a → W a) (x : Ext B ρ W H ρ' W' H') {e : Ex} {c : Value} {d : Option Addr} (g : XGood G B ρ' W' H' S σ e h2 c d H2) : XGood G B ρ W H S σ e h2 c d H2 := by
  obtain ⟨ρ2, W2, x2, R2, r2⟩ := g
  exact ⟨ρ2, W2, x.trans x2 bw, R2, r2⟩
theorem BGood.ext (bw : ∀ a, B a → W a) (x : Ext B ρ W H ρ' W' H') (g : BGood G B ρ' W' H' S σ h2 H2) : BGood G B ρ W H S σ h2 H2 := by
  obtain ⟨ρ2, W2, x2, R2⟩ := g
  exact ⟨ρ2, W2, x.trans x2 bw, R2⟩
theorem LGood.ext (bw : ∀ a, B a → W a) (x : Ext B ρ W H ρ' W' H') {xs : List AV} {vs : List V} (g : LGood G B ρ' W' H' S σ xs h2 vs H2) : LGood G B ρ W H S σ xs h2 vs H2 := by
  obtain ⟨ρ2, W2, x2, R2, r2⟩ := g
  exact ⟨ρ2, W2, x.trans x2 bw, R2, r2⟩
theorem RLGood.ext (bw : ∀ a, B a → W a) (x : Ext B ρ W H ρ' W' H') {xs : List RV} {vs : List V} (g : RLGood G B ρ' W' H' S σ xs h2 vs H2) : RLGood G B ρ W H S σ xs h2 vs H2 := by
  obtain ⟨ρ2, W2, x2, R2, r2⟩ := g
  exact ⟨ρ2, W2, x.trans x2 bw, R2, r2⟩
theorem IGood.ext (bw : ∀ a, B a → W a) (x : Ext B ρ W H ρ' W' H') {its : List AV} {src : Src} {J : It} (g : IGood G B ρ' W' H' S σ its src h2 J H2) : IGood G B ρ W H S σ its src h2 J H2 := by
  obtain ⟨ρ2, W2, x2, R2, r2⟩ := g
  exact ⟨ρ2, W2, x.trans x2 bw, R2, r2⟩
end
end Mp


set_option Elab.async false
set_option linter.all false
set_option maxRecDepth 10000
set_option maxHeartbeats 1000000
/-! Each expression does what it is worth. -/
namespace Mp
open PySem PySem.Spec PyProof.Rows L2
section
variable {T : Nm} {F : Fn} {cls : Nat → Addr} {N : List Str} {sc : Ks} {XW : WX} {X : Cx}
abbrev gX (X : Cx) (cls : Nat → Addr) : Gd := ⟨X.K, cls⟩
theorem star_no {e : Expr} (h : isStar e = false) (es : List Expr) (env : Env) : starEach (e :: es) env = (false, eval e env) :: starEach es env := by
  cases e <;> first | rfl | (simp [isStar] at h)
theorem mL_star {ms : List ME} {es : List Expr} (h : mL T N sc ms es = true) : ∀ e ∈ es, isStar e = false := by
  induction ms generalizing es with
  | nil => cases es with
    | nil => simp
    | cons _ _ => simp [mL] at h
  | cons m ms ih => cases es with
    | nil => simp [mL] at h
    | cons e es =>
      simp only [mL, Bool.and_eq_true, Bool.not_eq_true'] at h
      intro x hx
      rcases List.mem_cons.mp hx with rfl | hx
      · exact h.1.2
      · exact ih h.2 x hx
theorem starEach_ns : ∀ {es : List Expr} (env : Env), (∀ e ∈ es, isStar e = false) → starEach es env = es.map fun e => (false, eval e env)
  | [], _, _ => rfl
  | e :: es, env, h => by
    rw [star_no (h e List.mem_cons_self), starEach_ns env fun x hx => h x (List.mem_cons_of_mem _ hx)]
    rfl
theorem mL_len {ms : List ME} {es : List Expr} (h : mL T N sc ms es = true) : ms.length = es.length := by
  induction ms generalizing es with
  | nil => cases es with
    | nil => rfl
    | cons _ _ => simp [mL] at h
  | cons m ms ih => cases es with
    | nil => simp [mL] at h
    | cons e es =>
      simp only [mL, Bool.and_eq_true] at h
      simp [ih h.2]
theorem any_star {es : List Expr} (env : Env) (pos : Pos) (h : ∀ e ∈ es, isStar e = false) : (backTo pos (starEach es env)).any (·.1) = false := by
  rw [starEach_ns env h]
  simp [backTo]
theorem all_star {es : List Expr} (env : Env) (pos : Pos) (h : ∀ e ∈ es, isStar e = false) : (backTo pos (starEach es env)).all (fun x => !x.1) = true := by
  rw [starEach_ns env h]
  simp [backTo]
theorem is_plain {e : Expr} (h : plainT e = true) (env : Env) : ∀ whole, isTrue e env whole = (do let v ← whole; standAt e.pos; holding [v] (truthy v)) := by
  intro whole
  cases e <;> first | rfl | (simp [plainT] at h; done) | skip
  rename_i op _ _
  cases op <;> first | rfl | (simp [plainT] at h)
theorem base_plain {e : Expr} (h : noSuper e = true) (attr : Str) (env : Env) (whole : Sem Value) : attributeBase e attr env whole = whole := by
  unfold attributeBase
  split
  · rename_i id _ _
    simp only [noSuper, Bool.not_eq_true', beq_eq_false_iff_ne, ne_eq] at h
    rw [if_pos (by simp [h])]
  · rfl

/-! ### one lemma a construct -/
theorem st_var (o : OK T F cls N sc XW X) {i : Nat} {x : Str} {pos : Pos} (h1 : N[i]? = some x) (h2 : visK (sc.lookup x) = true) (h3 : okN x = true) : PE X (.Name x pos) (rdE (gX X cls) F XW (.var i)) := by
  refine PE.imp (pe_var (i := i) (by rw [o.eN]; exact h1) (o.vis h2) (okN_1 h3) (okN_2 h3)) fun σ H Q q => ?_
  obtain ⟨B, ρ, h, S, W, R, q⟩ := q
  simp only [evE] at q
  split at q
  · rename_i a e
    obtain ⟨u, hu, v, rfl, r⟩ := R.sl i _ e
    exact ⟨v, hu, q _ _ (good_v R r)⟩
  · rename_i c e
    obtain ⟨u, hu, a, rfl, _⟩ := R.sl i _ e
    exact ⟨.ref a, hu, q _ _ ⟨ρ, W, Ext.refl, R, e, hu⟩⟩
  · exact q.elim
theorem st_cst {d : D} {c : Const} {k : Nat} {pos : Pos} (h : cstOk d c = true) : PE X (.Constant c k pos) (rdE (gX X cls) F XW (.cst d)) := by
  unfold cstOk at h
  split at h
  · exact PE.imp pe_non fun σ H Q q => by
      obtain ⟨B, ρ, h, S, W, R, q⟩ := q
      exact q _ _ (good_non R)
  · rw [beq_iff_eq] at h
    subst h
    exact PE.imp pe_bl fun σ H Q q => by
      obtain ⟨B, ρ, h, S, W, R, q⟩ := q
      exact q _ _ (good_bl R _)
  · rw [beq_iff_eq] at h
    subst h
    exact PE.imp pe_int fun σ H Q q => by
      obtain ⟨B, ρ, h, S, W, R, q⟩ := q
      exact q _ _ (good_int R _)
  · have h := of_decide_eq_true h
    subst h
    exact PE.imp pe_str fun σ H Q q => by
      obtain ⟨B, ρ, h, S, W, R, q⟩ := q
      exact q _ _ (good_str R _)
  · cases h
theorem st_glo (o : OK T F cls N sc XW X) {j : Nat} {x : Str} {pos : Pos} (h1 : T.gcs[j]? = some x) (h2 : glK sc x = true) (h3 : okN x = true) : PE X (.Name x pos) (rdE (gX X cls) F XW (.glo j)) := by
  obtain ⟨u, w, m, r, q⟩ := o.fa.gc j x h1
  refine PE.imp (pe_glob (o.gl h2) m r (okN_1 h3)) fun σ H Q hq => ?_
  obtain ⟨B, ρ, h, S, W, R, hq⟩ := hq
  exact hq _ _ (good_v R (by simp only [VR]; exact q H W))
/-- from one result to the next -/
theorem two {ma mb : ME} {f : Hs → RV → RV → Option RV} {σ : L2.St} {H : Hp} {Q : VK}
    (q : ∃ (B : ASet) (ρ : List Addr) (h : Hs) (S : List SV) (W : ASet), RS (gX X cls) B ρ h S W σ H ∧
      ((evE F ma S h).bind fun x h1 => (ho1 x h1).bind fun x h1 => (evE F mb S h1).bind fun y h2 => ok1 (f h2 x y) h2).ens (fun rv h' => ∀ v H', EGood (gX X cls) B ρ W H S σ rv h' v H' → Q v H') (fun e h' => ∀ c d H', XGood (gX X cls) B ρ W H S σ e h' c d H' → XW c d σ H')) :
    tOp (r2 (gX X cls) f) (rdE (gX X cls) F XW ma) (rdE (gX X cls) F XW mb) σ H Q := by
  obtain ⟨B, ρ, h, S, W, R, q⟩ := q
  simp only [ens_bind] at q
  refine ⟨B, ρ, h, S, W, R, ens_mono q fun x h1 q v H1 g => ?_⟩
  obtain ⟨y, ey, q⟩ := ens_ok1 q
  obtain ⟨ρ1, W1, x1, R1, r1⟩ := g.hold ey R.base
  refine ⟨B, ρ1, h1, S, W1, R1, ?_⟩
  have k := ens_mono (P' := fun z h2 => ∀ u H2, EGood (gX X cls) B ρ1 W1 H1 S σ z h2 u H2 → r2 (gX X cls) f v u H2 Q) q fun z h2 q u H2 g2 => by
    obtain ⟨ρ2, W2, x2, R2, r2⟩ := g2
    obtain ⟨rv, ef, q⟩ := ens_ok1 q
    refine ⟨B, ρ2, h2, S, W2, σ, y, z, rv, R2, RVR.hold x2 (hold_hold ey) r1, r2, ef, fun v' H' g' => q v' H' ?_⟩
    exact (g'.ext R1.base x2).ext R.base x1
  revert k
  cases (evE F mb S h1) with
  | ok z h2 => exact fun k => k
  | exc e h2 => exact fun k c d H' g => k c d H' (g.ext R.base x1)
  | bad => exact fun k => k
theorem st_bin (o : OK T F cls N sc XW X) {op : Operator} {a b : Expr} {ma mb : ME} {pos : Pos} (ha : PE X a (rdE (gX X cls) F XW ma)) (hb : PE X b (rdE (gX X cls) F XW mb)) : PE X (.BinOp a op b pos) (rdE (gX X cls) F XW (.bin op ma mb)) := by
  refine PE.imp (pe_op (op_bin (cls := cls) op) ha hb) fun σ H Q q => two ?_
  exact q
theorem st_cmp (o : OK T F cls N sc XW X) {op : CmpOp} {a b : Expr} {ma mb : ME} {pos : Pos} (hm : behindInMarks op b = false) (ha : PE X a (rdE (gX X cls) F XW ma)) (hb : PE X b (rdE (gX X cls) F XW mb)) : PE X (.Compare a [op] [b] pos) (rdE (gX X cls) F XW (.cmp op ma mb)) := by
  refine PE.imp (pe_cmpR (op_cop (cls := cls) o.fa.un op) ha hb hm) fun σ H Q q => two ?_
  exact q
theorem st_sub (o : OK T F cls N sc XW X) {a b : Expr} {ma mb : ME} {pos : Pos} (hs : isSlice b = false) (ha : PE X a (rdE (gX X cls) F XW ma)) (hb : PE X b (rdE (gX X cls) F XW mb)) : PE X (.Subscript a b pos) (rdE (gX X cls) F XW (.sub ma mb)) := by
  have hp : PlainIx b := fun o i => by cases b <;> first | rfl | (simp [isSlice] at hs)
  refine PE.imp (pe_ix (ix_sub (cls := cls)) ha hb hp) fun σ H Q q => two ?_
  exact q
theorem good_db {B : ASet} {ρ : List Addr} {h : Hs} {S : List SV} {W : ASet} {σ : L2.St} {H H' : Hp} {b : Bool} {v : V} {G : Gd} (g : EGood G B ρ W H S σ (db b) h v H') : v = .bl b ∧ BGood G B ρ W H S σ h H' := by
  obtain ⟨ρ', W', x, R, r⟩ := g
  simp only [RVR, VR, DR] at r
  exact ⟨r, ρ', W', x, R⟩
theorem tt_cmp (o : OK T F cls N sc XW X) {op : CmpOp} {a b : Expr} {ma mb : ME} {pos : Pos} (hm : behindInMarks op b = false) (ha : PE X a (rdE (gX X cls) F XW ma)) (hb : PE X b (rdE (gX X cls) F XW mb)) : PT X (.Compare a [op] [b] pos) (rdT (gX X cls) F XW (.cmp op ma mb)) := by
  refine PT.imp (pt_cmpR (op_cop (cls := cls) o.fa.un op) ha hb hm) fun σ H Q q => two ?_
  obtain ⟨B, ρ, h, S, W, R, q⟩ := q
  refine ⟨B, ρ, h, S, W, R, ?_⟩
  simp only [evT, ens_bind] at q ⊢
  refine ens_mono q fun x h1 q => ens_mono q fun x h1 q => ens_mono q fun y h2 q => ?_
  obtain ⟨b, e, q⟩ := ens_ok1 q
  rw [e]
  intro v H' g
  obtain ⟨rfl, g'⟩ := good_db g
  exact ⟨b, rfl, q H' g'⟩
theorem st_neg (o : OK T F cls N sc XW X) {a : Expr} {ma : ME} {pos : Pos} (ha : PE X a (rdE (gX X cls) F XW ma)) : PE X (.UnaryOp .USub a pos) (rdE (gX X cls) F XW (.neg ma)) := by
  refine PE.imp (pe_un un_neg ha) fun σ H Q q => ?_
  obtain ⟨B, ρ, h, S, W, R, q⟩ := q
  simp only [evE, ens_bind] at q
  refine ⟨B, ρ, h, S, W, R, ens_mono q fun x h1 q v H1 g => ?_⟩
  split at q
  · obtain ⟨ρ1, W1, x1, R1, r1⟩ := g
    simp only [RVR, VR, DR] at r1
    subst r1
    exact ⟨_, rfl, q _ _ ⟨ρ1, W1, x1, R1, by simp only [RVR, VR, DR]⟩⟩
  · exact q.elim
theorem st_lst (o : OK T F cls N sc XW X) {es : List Expr} {ms : List ME} {pos : Pos} (ha : PA X es (rdL (gX X cls) F XW ms)) : PE X (.List es pos) (rdE (gX X cls) F XW (.lst ms)) := by
  refine PE.imp (pe_lst ha) fun σ H Q q => ?_
  obtain ⟨B, ρ, h, S, W, R, q⟩ := q
  simp only [evE, ens_bind] at q
  refine ⟨B, ρ, h, S, W, R, ens_mono q fun xs h1 q vs H1 g => ?_⟩
  obtain ⟨ρ1, W1, x1, R1, r1⟩ := g
  split at q
  · rename_i hz
    exact ⟨by rw [← r1.length]; exact hz, fun p hp => q _ _ ((good_lst R1 hp r1).ext R.base x1)⟩
  · exact q.elim
theorem st_tup (o : OK T F cls N sc XW X) {es : List Expr} {ms : List ME} {k : Nat} {pos : Pos} (ha : PA X es (rdL (gX X cls) F XW ms)) : PE X (.Tuple es k pos) (rdE (gX X cls) F XW (.tup ms)) := by
  refine PE.imp (pe_tup ha) fun σ H Q q => ?_
  obtain ⟨B, ρ, h, S, W, R, q⟩ := q
  simp only [evE, ens_bind] at q
  refine ⟨B, ρ, h, S, W, R, ens_mono q fun xs h1 q vs H1 g => ?_⟩
  obtain ⟨ρ1, W1, x1, R1, r1⟩ := g
  split at q
  · rename_i hz
    exact ⟨by rw [← r1.length]; exact hz, fun p hp => q _ _ ((good_tup R1 hp r1).ext R.base x1)⟩
  · exact q.elim
theorem sl_nil : PA X [] (rdL (gX X cls) F XW []) := by
  refine PA.imp pa_nil fun σ H Q q => ?_
  obtain ⟨B, ρ, h, S, W, R, q⟩ := q
  exact q [] H ⟨ρ, W, Ext.refl, R, by simp only [VRs]⟩
theorem sl_cons {e : Expr} {es : List Expr} {m : ME} {ms : List ME} (hs : isStar e = false) (ha : PE X e (rdE (gX X cls) F XW m)) (hb : PA X es (rdL (gX X cls) F XW ms)) : PA X (e :: es) (rdL (gX X cls) F XW (m :: ms)) := by
  refine PA.imp (pa_cons ha hb (star_no hs es X.env)) fun σ H Q q => ?_
  obtain ⟨B, ρ, h, S, W, R, q⟩ := q
  simp only [evL, ens_bind] at q
  refine ⟨B, ρ, h, S, W, R, ens_mono q fun x h1 q v H1 g => ?_⟩
  obtain ⟨y, ey, q⟩ := ens_ok1 q
  obtain ⟨ρ1, W1, x1, R1, r1⟩ := g.toV ey R.base
  refine ⟨B, ρ1, h1, S, W1, R1, ?_⟩
  have k := ens_mono (P' := fun ys h2 => ∀ us H2, LGood (gX X cls) B ρ1 W1 H1 S σ ys h2 us H2 → Q (v :: us) H2) q fun ys h2 q us H2 g2 => by
    obtain ⟨ρ2, W2, x2, R2, r2⟩ := g2
    refine q _ _ ⟨ρ2, W2, x1.trans x2 R.base, R2, ?_⟩
    simp only [VRs]
    exact ⟨v, us, rfl, VR.mv x2.sub x2.pre _ _ r1, r2⟩
  revert k
  cases (evL F ms S h1) with
  | ok z h2 => exact fun k => k
  | exc e h2 => exact fun k c d H' g => k c d H' (g.ext R.base x1)
  | bad => exact fun k => k
theorem sr_nil : PA X [] (rdR (gX X cls) F XW []) := by
  refine PA.imp pa_nil fun σ H Q q => ?_
  obtain ⟨B, ρ, h, S, W, R, q⟩ := q
  exact q [] H ⟨ρ, W, Ext.refl, R, by simp only [RVRs]⟩
theorem sr_cons {e : Expr} {es : List Expr} {m : ME} {ms : List ME} (hs : isStar e = false) (ha : PE X e (rdE (gX X cls) F XW m)) (hb : PA X es (rdR (gX X cls) F XW ms)) : PA X (e :: es) (rdR (gX X cls) F XW (m :: ms)) := by
  refine PA.imp (pa_cons ha hb (star_no hs es X.env)) fun σ H Q q => ?_
  obtain ⟨B, ρ, h, S, W, R, q⟩ := q
  simp only [evR, ens_bind] at q
  refine ⟨B, ρ, h, S, W, R, ens_mono q fun x h1 q v H1 g => ?_⟩
  obtain ⟨y, ey, q⟩ := ens_ok1 q
  obtain ⟨ρ1, W1, x1, R1, r1⟩ := g.hold ey R.base
  refine ⟨B, ρ1, h1, S, W1, R1, ?_⟩
  have k := ens_mono (P' := fun ys h2 => ∀ us H2, RLGood (gX X cls) B ρ1 W1 H1 S σ ys h2 us H2 → Q (v :: us) H2) q fun ys h2 q us H2 g2 => by
    obtain ⟨ρ2, W2, x2, R2, r2⟩ := g2
    refine q _ _ ⟨ρ2, W2, x1.trans x2 R.base, R2, ?_⟩
    simp only [RVRs]
    exact ⟨v, us, rfl, RVR.hold x2 (hold_hold ey) r1, r2⟩
  revert k
  cases (evR F ms S h1) with
  | ok z h2 => exact fun k => k
  | exc e h2 => exact fun k c d H' g => k c d H' (g.ext R.base x1)
  | bad => exact fun k => k
theorem so_none : PO X none (rdO (gX X cls) F XW none) := by
  refine PO.imp po_none fun σ H Q q => ?_
  obtain ⟨B, ρ, h, S, W, R, q⟩ := q
  exact q H ⟨ρ, W, Ext.refl, R⟩
theorem so_some {e : Expr} {m : ME} (ha : PE X e (rdE (gX X cls) F XW m)) : PO X (some e) (rdO (gX X cls) F XW (some m)) := by
  refine PO.imp (po_some ha) fun σ H Q q => ?_
  obtain ⟨B, ρ, h, S, W, R, q⟩ := q
  simp only [evO, ens_bind] at q
  refine ⟨B, ρ, h, S, W, R, ens_mono q fun x h1 q v H1 g => ?_⟩
  split at q
  · obtain ⟨ρ1, W1, x1, R1, r1⟩ := g
    simp only [RVR, VR, DR] at r1
    subst r1
    exact ⟨_, rfl, q _ ⟨ρ1, W1, x1, R1⟩⟩
  · exact q.elim
end
end Mp


set_option Elab.async false
set_option linter.all false
set_option maxRecDepth 10000
set_option maxHeartbeats 1000000
/-! Each expression does what it is worth: more constructs. -/
namespace Mp
open PySem PySem.Spec PyProof.Rows L2
section
variable {T : Nm} {F : Fn} {cls : Nat → Addr} {N : List Str} {sc : Ks} {XW : WX} {X : Cx}
/-- a step: what is wished of a part, seen from the whole -/
theorem ens_ext {α : Type} {r : Res α} {P P' : α → Hs → Prop} {E E' : Ex → Hs → Prop} (h : r.ens P E) (k : ∀ a h, P a h → P' a h) (k' : ∀ e h, E e h → E' e h) : r.ens P' E' := by
  cases r with
  | ok a g => exact k a g h
  | exc e g => exact k' e g h
  | bad => exact h
theorem chn_val (o : OK T F cls N sc XW X) {p p' : CmpOp} {a b c : Expr} {ma mb mc : ME} (hb : PE X b (rdE (gX X cls) F XW mb)) {σ : L2.St} {H : Hp} {Qt : Bool → Hp → Prop}
    (q : ∃ (B : ASet) (ρ : List Addr) (h : Hs) (S : List SV) (W : ASet), RS (gX X cls) B ρ h S W σ H ∧
      (evT F (.chn p p' ma mb mc) S h).ens (fun b h' => ∀ H', BGood (gX X cls) B ρ W H S σ h' H' → Qt b H') (fun e h' => ∀ c d H', XGood (gX X cls) B ρ W H S σ e h' c d H' → XW c d σ H')) :
    tChain (r2 (gX X cls) fun h a b => (cop h p a b).map db) (r2 (gX X cls) fun h a b => (cop h p' a b).map db) (rdE (gX X cls) F XW ma) (rdE (gX X cls) F XW mb) (rdE (gX X cls) F XW mc) σ H fun z H' => ∃ k, z = .bl k ∧ Qt k H' := by
  obtain ⟨B, ρ, h, S, W, R, q⟩ := q
  simp only [evT, ens_bind] at q
  refine ⟨B, ρ, h, S, W, R, ens_mono q fun x h1 q v H1 g => ?_⟩
  obtain ⟨y, ey, q⟩ := ens_ok1 q
  obtain ⟨ρ1, W1, x1, R1, r1⟩ := g.hold ey R.base
  refine ⟨B, ρ1, h1, S, W1, R1, ens_ext q (fun z h2 q u H2 g2 => ?_) fun e h' k c d H' g => k c d H' (g.ext R.base x1)⟩
  obtain ⟨z', ez, q⟩ := ens_ok1 q
  obtain ⟨ρ2, W2, x2, R2, r2'⟩ := g2.hold ez R1.base
  obtain ⟨k, ek, q⟩ := ens_ok1 q
  refine ⟨B, ρ2, h2, S, W2, σ, y, z', db k, R2, RVR.hold x2 (hold_hold ey) r1, r2', by simp only [ek, Option.map_some], fun v' H' g' => ?_⟩
  obtain ⟨rfl, ρ3, W3, x3, R3⟩ := good_db g'
  have x13 := (x1.trans x2 R.base).trans x3 R.base
  refine ⟨k, rfl, ?_⟩
  split at q
  · rename_i hk
    rw [if_pos hk]
    simp only [ens_bind] at q
    refine ⟨B, ρ3, h2, S, W3, R3, ens_ext q (fun w h4 q v4 H4 g4 => ?_) fun e h' k c d H' g => k c d H' (g.ext R.base x13)⟩
    obtain ⟨ρ4, W4, x4, R4, r4⟩ := g4
    obtain ⟨k2, ek2, q⟩ := ens_ok1 q
    refine ⟨B, ρ4, h4, S, W4, σ, z', w, db k2, R4, RVR.hold (x3.trans x4 R2.base) (hold_hold ez) r2', r4, by simp only [ek2, Option.map_some], fun v' H' g' => ?_⟩
    obtain ⟨rfl, g5⟩ := good_db g'
    exact ⟨k2, rfl, q _ ((g5.ext R3.base x4).ext R.base x13)⟩
  · rename_i hk
    rw [if_neg hk]
    exact ⟨false, rfl, q _ ⟨ρ3, W3, x13, R3⟩⟩
theorem chn_ev {p p' : CmpOp} {ma mb mc : ME} {S : List SV} {h : Hs} : evE F (.chn p p' ma mb mc) S h = (evT F (.chn p p' ma mb mc) S h).bind fun b h' => .ok (db b) h' := by
  simp only [evE, evT]
  cases evE F ma S h with
  | ok x h1 =>
    simp only [Res.bind_ok]
    cases ho1 x h1 with
    | ok x h1 =>
      simp only [Res.bind_ok]
      cases evE F mb S h1 with
      | ok y h2 =>
        simp only [Res.bind_ok]
        cases ho1 y h2 with
        | ok y h2 =>
          simp only [Res.bind_ok]
          cases cop h2 p x y with
          | none => rfl
          | some k =>
            simp only [ok1_some, Res.bind_ok]
            split
            · cases evE F mc S h2 with
              | ok z h4 =>
                simp only [Res.bind_ok]
                cases cop h4 p' y z <;> rfl
              | exc e h => rfl
              | bad => rfl
            · rfl
        | exc e h => rfl
        | bad => rfl
      | exc e h => rfl
      | bad => rfl
    | exc e h => rfl
    | bad => rfl
  | exc e h => rfl
  | bad => rfl
theorem db_good {B : ASet} {ρ : List Addr} {h : Hs} {S : List SV} {W : ASet} {σ : L2.St} {H H' : Hp} {b : Bool} {G : Gd} (g : BGood G B ρ W H S σ h H') : EGood G B ρ W H S σ (db b) h (.bl b) H' := by
  obtain ⟨ρ', W', x, R⟩ := g
  exact ⟨ρ', W', x, R, by simp only [RVR, VR, DR]⟩
theorem st_chn (o : OK T F cls N sc XW X) {p p' : CmpOp} {a b c : Expr} {ma mb mc : ME} {pos : Pos} (hm : lastMarks [p, p'] [b, c] = false) (ha : PE X a (rdE (gX X cls) F XW ma)) (hb : PE X b (rdE (gX X cls) F XW mb)) (hc : PE X c (rdE (gX X cls) F XW mc)) :
    PE X (.Compare a [p, p'] [b, c] pos) (rdE (gX X cls) F XW (.chn p p' ma mb mc)) := by
  refine PE.imp (pe_chain (op_cop (cls := cls) o.fa.un p) (op_cop (cls := cls) o.fa.un p') ha hb hc hm) fun σ H Q q => ?_
  obtain ⟨B, ρ, h, S, W, R, q⟩ := q
  rw [chn_ev, ens_bind] at q
  have t := chn_val (a := a) (c := c) o hb (Qt := fun k H' => Q (.bl k) H') ⟨B, ρ, h, S, W, R, ens_mono q fun b h' q H' g => q _ _ (db_good g)⟩
  have e : (fun (z : V) (H' : Hp) => ∃ k, z = V.bl k ∧ Q (.bl k) H') = fun z H' => ∃ k, z = V.bl k ∧ Q z H' := by
    funext z H'
    apply propext
    constructor
    · rintro ⟨k, rfl, q⟩; exact ⟨k, rfl, q⟩
    · rintro ⟨k, rfl, q⟩; exact ⟨k, rfl, q⟩
  revert t
  simp only [tChain]
  intro t
  obtain ⟨B1, ρ1, h1, S1, W1, R1, q1⟩ := t
  refine ⟨B1, ρ1, h1, S1, W1, R1, ens_mono q1 fun x h2 q v H1 g => ?_⟩
  obtain ⟨B2, ρ2, h2, S2, W2, R2, q2⟩ := q v H1 g
  refine ⟨B2, ρ2, h2, S2, W2, R2, ens_mono q2 fun x h2 q v H1 g => ?_⟩
  obtain ⟨B3, ρ3, h3, S3, W3, σ3, a3, b3, rv3, R3, ra3, rb3, e3, q3⟩ := q v H1 g
  refine ⟨B3, ρ3, h3, S3, W3, σ3, a3, b3, rv3, R3, ra3, rb3, e3, fun v H' g => ?_⟩
  obtain ⟨k, ek, q4⟩ := q3 v H' g
  refine ⟨k, ek, ?_⟩
  split
  · rename_i hk
    rw [if_pos hk] at q4
    obtain ⟨B4, ρ4, h4, S4, W4, R4, q5⟩ := q4
    refine ⟨B4, ρ4, h4, S4, W4, R4, ens_mono q5 fun x h2 q v H1 g => ?_⟩
    obtain ⟨B5, ρ5, h5, S5, W5, σ5, a5, b5, rv5, R5, ra5, rb5, e5, q6⟩ := q v H1 g
    refine ⟨B5, ρ5, h5, S5, W5, σ5, a5, b5, rv5, R5, ra5, rb5, e5, fun v H' g => ?_⟩
    obtain ⟨k, ek, q7⟩ := q6 v H' g
    rw [ek]
    exact q7
  · rename_i hk
    rw [if_neg hk] at q4
    obtain ⟨k', ek', q5⟩ := q4
    rw [ek']
    exact q5
theorem tt_chn (o : OK T F cls N sc XW X) {p p' : CmpOp} {a b c : Expr} {ma mb mc : ME} {pos : Pos} (hm : lastMarks [p, p'] [b, c] = false) (ha : PE X a (rdE (gX X cls) F XW ma)) (hb : PE X b (rdE (gX X cls) F XW mb)) (hc : PE X c (rdE (gX X cls) F XW mc)) :
    PT X (.Compare a [p, p'] [b, c] pos) (rdT (gX X cls) F XW (.chn p p' ma mb mc)) :=
  PT.imp (pt_chain (op_cop (cls := cls) o.fa.un p) (op_cop (cls := cls) o.fa.un p') ha hb hc hm) fun σ H Q q => chn_val (a := a) (c := c) o hb q
theorem asB_ok {r : RV} {h : Hs} {P : Bool → Hs → Prop} {E : Ex → Hs → Prop} (e : (asB r h).ens P E) : ∃ b, r = db b ∧ P b h := by
  unfold asB at e
  split at e
  · exact ⟨_, rfl, e⟩
  · exact e.elim
theorem st_nt (o : OK T F cls N sc XW X) {a : Expr} {ma : ME} {pos : Pos} (ha : PE X a (rdE (gX X cls) F XW ma)) : PE X (.UnaryOp .Not a pos) (rdE (gX X cls) F XW (.nt ma)) := by
  refine PE.imp (pe_not ha) fun σ H Q q => ?_
  obtain ⟨B, ρ, h, S, W, R, q⟩ := q
  simp only [evE, ens_bind] at q
  refine ⟨B, ρ, h, S, W, R, ens_mono q fun x h1 q v H1 g => ?_⟩
  obtain ⟨b, rfl, q⟩ := asB_ok q
  obtain ⟨rfl, g'⟩ := good_db g
  exact ⟨b, rfl, q _ _ (db_good g')⟩
/-- and, or of values -/
def rdB (G : Gd) (F : Fn) (XW : WX) (t : Bool) (ms : List ME) : TE := fun σ H Q => ∃ (B : ASet) (ρ : List Addr) (h : Hs) (S : List SV) (W : ASet), RS G B ρ h S W σ H ∧
  (evB F t ms S h).ens (fun rv h' => ∀ v H', EGood G B ρ W H S σ rv h' v H' → Q v H') (fun e h' => ∀ c d H', XGood G B ρ W H S σ e h' c d H' → XW c d σ H')
theorem sb_one {a : Expr} {ma : ME} {p : BoolOp} {t : Bool} {pos : Pos} (ha : PE X a (rdE (gX X cls) F XW ma)) : PE X (.BoolOp p [a] pos) (rdB (gX X cls) F XW t [ma]) := PE.imp (pe_one ha) fun σ H Q q => q
theorem sb_cons {a b : Expr} {es : List Expr} {ma mb : ME} {ms : List ME} {p : BoolOp} {t : Bool} {pos : Pos} (hp : andOr t p = true) (ha : PE X a (rdE (gX X cls) F XW ma)) (hb : PE X (.BoolOp p (b :: es) pos) (rdB (gX X cls) F XW t (mb :: ms))) :
    PE X (.BoolOp p (a :: b :: es) pos) (rdB (gX X cls) F XW t (ma :: mb :: ms)) := by
  have core : ∀ σ H Q, rdB (gX X cls) F XW t (ma :: mb :: ms) σ H Q → rdE (gX X cls) F XW ma σ H fun x H1 => ∃ c, x = .bl c ∧ if c = t then rdB (gX X cls) F XW t (mb :: ms) σ H1 Q else Q (.bl c) H1 := fun σ H Q q => by
    obtain ⟨B, ρ, h, S, W, R, q⟩ := q
    simp only [evB, ens_bind] at q
    refine ⟨B, ρ, h, S, W, R, ens_mono q fun x h1 q v H1 g => ?_⟩
    obtain ⟨b, rfl, q'⟩ := asB_ok q
    obtain ⟨rfl, ρ1, W1, x1, R1⟩ := good_db g
    refine ⟨b, rfl, ?_⟩
    split at q'
    · rename_i e
      rw [if_pos e]
      exact ⟨B, ρ1, h1, S, W1, R1, ens_ext q' (fun y h2 q v H2 g2 => q _ _ (g2.ext R.base x1)) fun e h' k c d H' g => k c d H' (g.ext R.base x1)⟩
    · rename_i e
      rw [if_neg e]
      exact q' _ _ (db_good ⟨ρ1, W1, x1, R1⟩)
  unfold andOr at hp
  split at hp
  · refine PE.imp (pe_and ha hb) fun σ H Q q => ?_
    obtain ⟨B, ρ, h, S, W, R, q⟩ := core σ H Q q
    refine ⟨B, ρ, h, S, W, R, ens_mono q fun x h1 q v H1 g => ?_⟩
    obtain ⟨c, rfl, q⟩ := q v H1 g
    refine ⟨c, rfl, ?_⟩
    cases c with
    | true => exact q
    | false => exact q
  · refine PE.imp (pe_or ha hb) fun σ H Q q => ?_
    obtain ⟨B, ρ, h, S, W, R, q⟩ := core σ H Q q
    refine ⟨B, ρ, h, S, W, R, ens_mono q fun x h1 q v H1 g => ?_⟩
    obtain ⟨c, rfl, q⟩ := q v H1 g
    refine ⟨c, rfl, ?_⟩
    cases c with
    | true => exact q
    | false => exact q
  · cases hp
theorem st_ite (o : OK T F cls N sc XW X) {c a b : Expr} {mc : MC} {ma mb : ME} {pos : Pos} (hc : PT X c (rdT (gX X cls) F XW mc)) (ha : PE X a (rdE (gX X cls) F XW ma)) (hb : PE X b (rdE (gX X cls) F XW mb)) : PE X (.IfExp c a b pos) (rdE (gX X cls) F XW (.ite mc ma mb)) := by
  refine PE.imp (pe_ifExp hc ha hb) fun σ H Q q => ?_
  obtain ⟨B, ρ, h, S, W, R, q⟩ := q
  simp only [evE, ens_bind] at q
  refine ⟨B, ρ, h, S, W, R, ens_mono q fun k h1 q H1 g => ?_⟩
  obtain ⟨ρ1, W1, x1, R1⟩ := g
  split at q
  · rename_i e
    rw [if_pos e]
    exact ⟨B, ρ1, h1, S, W1, R1, ens_ext q (fun y h2 q v H2 g2 => q _ _ (g2.ext R.base x1)) fun e h' k c d H' g => k c d H' (g.ext R.base x1)⟩
  · rename_i e
    rw [if_neg e]
    exact ⟨B, ρ1, h1, S, W1, R1, ens_ext q (fun y h2 q v H2 g2 => q _ _ (g2.ext R.base x1)) fun e h' k c d H' g => k c d H' (g.ext R.base x1)⟩
/-! ### tests -/
theorem tt_val {a : Expr} {ma : ME} (hp : plainT a = true) (ha : PE X a (rdE (gX X cls) F XW ma)) : PT X a (rdT (gX X cls) F XW (.val ma)) := by
  refine PT.imp (pt_truth ha (is_plain hp X.env)) fun σ H Q q => ?_
  obtain ⟨B, ρ, h, S, W, R, q⟩ := q
  simp only [evT, ens_bind] at q
  refine ⟨B, ρ, h, S, W, R, ens_mono q fun x h1 q v H1 g => ?_⟩
  obtain ⟨ρ1, W1, x1, R1, r1⟩ := g
  obtain ⟨k, ek, q⟩ := ens_ok1 q
  simp only [Option.bind_eq_some_iff] at ek
  obtain ⟨w, e1, e2⟩ := ek
  exact ⟨k, tru_of (RVR.vw R1 r1 e1) e2, q _ ⟨ρ1, W1, x1, R1⟩⟩
theorem tt_nt {a : Expr} {ma : MC} {pos : Pos} (ha : PT X a (rdT (gX X cls) F XW ma)) : PT X (.UnaryOp .Not a pos) (rdT (gX X cls) F XW (.nt ma)) := by
  refine PT.imp (pt_not ha) fun σ H Q q => ?_
  obtain ⟨B, ρ, h, S, W, R, q⟩ := q
  simp only [evT, ens_bind] at q
  exact ⟨B, ρ, h, S, W, R, ens_mono q fun x h1 q H1 g => q _ g⟩
def rdTs (G : Gd) (F : Fn) (XW : WX) (t : Bool) (ms : List MC) : TT := fun σ H Q => ∃ (B : ASet) (ρ : List Addr) (h : Hs) (S : List SV) (W : ASet), RS G B ρ h S W σ H ∧
  (evTs F t ms S h).ens (fun b h' => ∀ H', BGood G B ρ W H S σ h' H' → Q b H') (fun e h' => ∀ c d H', XGood G B ρ W H S σ e h' c d H' → XW c d σ H')
theorem PW.imp {e : Expr} {t t' : TT} (h : PW X e t) (k : ∀ σ H Q, t' σ H Q → t σ H Q) : PW X e t' := ⟨fun whole pins s σ H Q I q => h.run whole pins s σ H Q I (k _ _ _ q)⟩
theorem tb_one {a : Expr} {ma : MC} {p : BoolOp} {t : Bool} {pos : Pos} (ha : PT X a (rdT (gX X cls) F XW ma)) : PW X (.BoolOp p [a] pos) (rdTs (gX X cls) F XW t [ma]) := by
  cases p with
  | And => exact PW.imp (pw_and1 ha) fun σ H Q q => q
  | Or => exact PW.imp (pw_or1 ha) fun σ H Q q => q
theorem tb_cons {a b : Expr} {es : List Expr} {ma mb : MC} {ms : List MC} {p : BoolOp} {t : Bool} {pos : Pos} (hp : andOr t p = true) (ha : PT X a (rdT (gX X cls) F XW ma)) (hb : PW X (.BoolOp p (b :: es) pos) (rdTs (gX X cls) F XW t (mb :: ms))) :
    PW X (.BoolOp p (a :: b :: es) pos) (rdTs (gX X cls) F XW t (ma :: mb :: ms)) := by
  have core : ∀ σ H Q, rdTs (gX X cls) F XW t (ma :: mb :: ms) σ H Q → rdT (gX X cls) F XW ma σ H fun c H1 => if c = t then rdTs (gX X cls) F XW t (mb :: ms) σ H1 Q else Q c H1 := fun σ H Q q => by
    obtain ⟨B, ρ, h, S, W, R, q⟩ := q
    simp only [evTs, ens_bind] at q
    refine ⟨B, ρ, h, S, W, R, ens_mono q fun x h1 q H1 g => ?_⟩
    obtain ⟨ρ1, W1, x1, R1⟩ := g
    split at q
    · rename_i e
      rw [if_pos e]
      exact ⟨B, ρ1, h1, S, W1, R1, ens_ext q (fun y h2 q H2 g2 => q _ (g2.ext R.base x1)) fun e h' k c d H' g => k c d H' (g.ext R.base x1)⟩
    · rename_i e
      rw [if_neg e]
      exact q _ ⟨ρ1, W1, x1, R1⟩
  unfold andOr at hp
  split at hp
  · refine PW.imp (pw_and ha hb) fun σ H Q q => ?_
    obtain ⟨B, ρ, h, S, W, R, q⟩ := core σ H Q q
    refine ⟨B, ρ, h, S, W, R, ens_mono q fun c h1 q H1 g => ?_⟩
    have q := q H1 g
    cases c with
    | true => exact q
    | false => exact q
  · refine PW.imp (pw_or ha hb) fun σ H Q q => ?_
    obtain ⟨B, ρ, h, S, W, R, q⟩ := core σ H Q q
    refine ⟨B, ρ, h, S, W, R, ens_mono q fun c h1 q H1 g => ?_⟩
    have q := q H1 g
    cases c with
    | true => exact q
    | false => exact q
  · cases hp
/-! ### slices, calls -/
theorem st_slc (o : OK T F cls N sc XW X) {a : Expr} {lo hi : Option Expr} {ma : ME} {ml mh : Option ME} {pos p2 : Pos} (ha : PE X a (rdE (gX X cls) F XW ma)) (hl : PO X lo (rdO (gX X cls) F XW ml)) (hh : PO X hi (rdO (gX X cls) F XW mh)) :
    PE X (.Subscript a (.Slice lo hi none p2) pos) (rdE (gX X cls) F XW (.slc ma ml mh)) := by
  refine PE.imp (pe_slice (sl_ok (cls := cls)) ha hl hh) fun σ H Q q => ?_
  obtain ⟨B, ρ, h, S, W, R, q⟩ := q
  simp only [evE, ens_bind] at q
  refine ⟨B, ρ, h, S, W, R, ens_mono q fun x h1 q v H1 g => ?_⟩
  obtain ⟨y, ey, q⟩ := ens_ok1 q
  obtain ⟨ρ1, W1, x1, R1, r1⟩ := g.hold ey R.base
  refine ⟨B, ρ1, h1, S, W1, R1, ens_ext q (fun l h2 q H2 g2 => ?_) fun e h' k c d H' g => k c d H' (g.ext R.base x1)⟩
  obtain ⟨ρ2, W2, x2, R2⟩ := g2
  have x12 := x1.trans x2 R.base
  refine ⟨B, ρ2, h2, S, W2, R2, ens_ext q (fun u h3 q H3 g3 => ?_) fun e h' k c d H' g => k c d H' (g.ext R.base x12)⟩
  obtain ⟨ρ3, W3, x3, R3⟩ := g3
  obtain ⟨rv, e, q⟩ := ens_ok1 q
  exact ⟨B, ρ3, h3, S, W3, σ, y, rv, R3, RVR.hold (x2.trans x3 R1.base) (hold_hold ey) r1, e, fun v' H' g' => q v' H' (g'.ext R.base (x12.trans x3 R.base))⟩
theorem st_rev (o : OK T F cls N sc XW X) {a : Expr} {ma : ME} {k : Nat} {p1 p2 p3 pos : Pos} (ha : PE X a (rdE (gX X cls) F XW ma)) :
    PE X (.Subscript a (.Slice none none (some (.UnaryOp .USub (.Constant (.int 1) k p1) p2)) p3) pos) (rdE (gX X cls) F XW (.rev ma)) := by
  refine PE.imp (pe_revL ha) fun σ H Q q => ?_
  obtain ⟨B, ρ, h, S, W, R, q⟩ := q
  simp only [evE, ens_bind] at q
  refine ⟨B, ρ, h, S, W, R, ens_mono q fun x h1 q v H1 g => ?_⟩
  obtain ⟨ρ1, W1, x1, R1, r1⟩ := g
  split at q
  · rename_i xs e
    obtain ⟨a, vs, rfl, l, r⟩ := RVR.vw R1 r1 e
    exact ⟨a, vs, rfl, SqL.of l, fun p hp => q _ _ ((good_lst R1 hp r.reverse).ext R.base x1)⟩
  · exact q.elim
theorem boot_ty {n : String} (h : n ∈ ["int", "str", "bool", "list", "tuple", "dict"]) : bootBuiltins (Str.ofString n) = some (.type n) := by
  simp only [List.mem_cons, List.not_mem_nil, or_false] at h
  rcases h with rfl | rfl | rfl | rfl | rfl | rfl <;> decide +kernel
theorem st_isi (o : OK T F cls N sc XW X) {a : Expr} {ma : ME} {n : String} {p1 p2 pos : Pos} (h1 : glK sc ("isinstance" : Str) = true) (h2 : ("isinstance" : Str) ∈ T.bl) (g1 : glK sc (Str.ofString n) = true) (g2 : okN (Str.ofString n) = true) (g3 : Str.ofString n ∈ T.bl)
    (g4 : n ∈ ["int", "str", "bool", "list", "tuple", "dict"]) (hs : isStar a = false) (ha : PE X a (rdE (gX X cls) F XW ma)) :
    PE X (.Call (.Name "isinstance" p1) [a, .Name (Str.ofString n) p2] [] pos) (rdE (gX X cls) F XW (.isi ma [.b n])) := by
  have hn : PE X (.Name (Str.ofString n) p2) (tC (.ty n)) := pe_bltn (o.gl g1) (o.fa.bl _ g3) (boot_ty g4) rfl (okN_3 g2) (okN_1 g2)
  refine PE.imp (pe_callB call_isi (o.gl h1) (o.fa.bl _ h2) (by decide +kernel) (pa_cons ha (pa_cons hn pa_nil) (star_no hs _ _)) (he := star_no hs _ _)) fun σ H Q q => ?_
  obtain ⟨B, ρ, h, S, W, R, q⟩ := q
  simp only [evE, ens_bind] at q
  refine ⟨B, ρ, h, S, W, R, ens_mono q fun x h1 q v H1 g => ?_⟩
  obtain ⟨ρ1, W1, x1, R1, r1⟩ := g
  obtain ⟨rv, e, q⟩ := ens_ok1 q
  simp only [Option.bind_eq_some_iff, Option.map_eq_some_iff] at e
  obtain ⟨t, ⟨w, e1, e2⟩, b, e3, rfl⟩ := e
  cases t with
  | b t =>
    simp only [tyAny, tyIs] at e3
    split at e3
    · rename_i b' r e4 e5
      cases e5
      cases e3
      refine ⟨v, .ty n, .type t, .type n, b', rfl, .ty n, ty_of (RVR.vw R1 r1 e1) e2, kit_ty e4, ?_⟩
      have z : (b' || false) = b' := by cases b' <;> rfl
      rw [z] at q
      exact q _ _ (db_good ⟨ρ1, W1, x1, R1⟩)
    · cases e3
  | c i =>
    simp only [tyAny, tyIs] at e3
    cases e3
theorem RS.toCall {G : Gd} {B : ASet} {ρ : List Addr} {h : Hs} {S : List SV} {W : ASet} {σ : L2.St} {H : Hp} (R : RS G B ρ h S W σ H) : RS G (fun a => W a ∧ a ∉ ρ) ρ h [] (uni (fun a => W a ∧ a ∉ ρ) ρ) [] H := by
  have l : ∀ a, uni (fun a => W a ∧ a ∉ ρ) ρ a → W a := fun a w => by
    rcases w with w | w
    · exact w.1
    · exact R.sub a w
  refine ⟨R.len, R.nd, fun a ha => .inr ha, fun a ha => .inl ha, fun a ha z => z.2 ha, fun a w => R.live a (l a w), fun i c a hi ha => ?_, fun i s hi => by simp at hi, fun i j c c' a hi => by simp at hi⟩
  exact (R.cel i c a hi ha).mv (Sub.less l) pre_refl fun o e => e
theorem uni_eq {ρ : List Addr} {W : ASet} (R : ∀ a ∈ ρ, W a) : uni (fun a => W a ∧ a ∉ ρ) ρ = W := by
  funext a
  apply propext
  constructor
  · rintro (w | w)
    · exact w.1
    · exact R a w
  · intro w
    by_cases h : a ∈ ρ
    · exact .inr h
    · exact .inl ⟨w, h⟩
end
end Mp


set_option Elab.async false
set_option linter.all false
set_option maxRecDepth 10000
set_option maxHeartbeats 1000000
/-! Calls, walks, comprehensions; then all expressions. -/
namespace Mp
open PySem PySem.Spec PyProof.Rows L2
section
variable {G : Gd} {B : ASet} {ρ : List Addr} {h h' : Hs} {S : List SV} {W : ASet} {σ : L2.St} {H H' : Hp}
/-- behind a call the caller's own things stand as they stood -/
theorem back {ρ' : List Addr} {W' : ASet} (R : RS G B ρ h S W σ H) (x : Ext (fun a => W a ∧ a ∉ ρ) ρ (uni (fun a => W a ∧ a ∉ ρ) ρ) H ρ' W' H') (R' : RS G (fun a => W a ∧ a ∉ ρ) ρ' h' [] W' [] H') : Ext B ρ W H ρ' W' H' ∧ RS G B ρ' h' S W' σ H' := by
  rw [uni_eq R.sub] at x
  have bb : ∀ a, B a → W a ∧ a ∉ ρ := fun a b => ⟨R.base a b, fun z => R.out a z b⟩
  have x' : Ext B ρ W H ρ' W' H' := ⟨x.pre, fun a o n e => x.keep a o (n.imp id (bb a)) e, x.grow, x.live⟩
  refine ⟨x', R'.len, R'.nd, R'.sub, fun a b => R'.base a (bb a b), fun a ha b => R'.out a ha (bb a b), R'.live, R'.cel, fun i s hi => ?_, R.dj⟩
  obtain ⟨o, ho, hs⟩ := R.sl i s hi
  refine ⟨o, ho, ?_⟩
  cases s with
  | no => trivial
  | v y =>
    obtain ⟨v, e, r⟩ := hs
    exact ⟨v, e, VR.mv x'.sub x'.pre _ _ r⟩
  | own c =>
    obtain ⟨a, e, h1, h2, h3, h4⟩ := hs
    have ba : W a ∧ a ∉ ρ := ⟨h1, h3⟩
    exact ⟨a, e, R'.base a ba, h2, fun z => R'.out a z ba, h4.mv x'.sub x'.pre fun o e => x.keep a o (.inr ba) e⟩
theorem EGood.back {rv : RV} {v : V} (R : RS G B ρ h S W σ H) (g : EGood G (fun a => W a ∧ a ∉ ρ) ρ (uni (fun a => W a ∧ a ∉ ρ) ρ) H [] [] rv h' v H') : EGood G B ρ W H S σ rv h' v H' := by
  obtain ⟨ρ', W', x, R', r⟩ := g
  obtain ⟨x', R''⟩ := Mp.back R x R'
  refine ⟨ρ', W', x', R'', ?_⟩
  cases rv with
  | v a => exact r
  | f c =>
    obtain ⟨a, e, h1, h2, h3, h4, h5⟩ := r
    refine ⟨a, e, h1, fun b => h2 ⟨R.base a b, fun z => R.out a z b⟩, h3, fun i c hi z => ?_, h5⟩
    obtain ⟨o, ho, hs⟩ := R.sl i _ hi
    obtain ⟨p, ep, g1, g2, g3, _⟩ := hs
    rw [z] at ho
    cases ho
    cases ep
    exact h2 ⟨g1, g3⟩
  | b i c =>
    obtain ⟨e, _⟩ := r
    simp at e
theorem XGood.back {e : Ex} {c : Value} {d : Option Addr} (R : RS G B ρ h S W σ H) (g : XGood G (fun a => W a ∧ a ∉ ρ) ρ (uni (fun a => W a ∧ a ∉ ρ) ρ) H [] [] e h' c d H') : XGood G B ρ W H S σ e h' c d H' := by
  obtain ⟨ρ', W', x, R', r⟩ := g
  obtain ⟨x', R''⟩ := Mp.back R x R'
  exact ⟨ρ', W', x', R'', r⟩
end
section
variable {T : Nm} {F : Fn} {cls : Nat → Addr} {N : List Str} {sc : Ks} {XW : WX} {X : Cx}
/-- the callee's promise, where its worth is told -/
theorem to_sp {f : Nat} {n : Nat} {B : ASet} {ρ : List Addr} {h : Hs} {S : List SV} {W : ASet} {σ : L2.St} {H : Hp} {xs : List AV} {vs : List V} {Q : VK} (R : RS (gX X cls) B ρ h S W σ H) (r : VRs (gX X cls) H W ρ xs vs) (hn : vs.length = n)
    (q : (F.fn f xs h).ens (fun rv h' => ∀ v H', EGood (gX X cls) B ρ W H S σ rv h' v H' → Q v H') (fun e h' => ∀ c d H', XGood (gX X cls) B ρ W H S σ e h' c d H' → XW c d σ H')) : spF (gX X cls) (F.fn f) n vs H Q (WE XW σ) := by
  refine ⟨hn, _, ρ, h, xs, R.toCall, by rw [uni_eq R.sub]; exact r, ens_ext q (fun rv h' k v H' g => k v H' (g.back R)) fun e h' k c d H' g => k c d H' (g.back R)⟩
theorem VRs_nil {G : Gd} {H : Hp} {W : ASet} {ρ : List Addr} {vs : List V} (r : VRs G H W ρ [] vs) : vs = [] := by simpa only [VRs] using r
theorem ev_len {ms : List ME} : ∀ {S : List SV} {h : Hs} {P : List AV → Hs → Prop} {E : Ex → Hs → Prop}, (evL F ms S h).ens P E → (evL F ms S h).ens (fun xs h' => xs.length = ms.length ∧ P xs h') E := by
  induction ms with
  | nil => intro S h P E q; exact ⟨rfl, q⟩
  | cons m ms ih =>
    intro S h P E q
    simp only [evL, ens_bind] at q ⊢
    refine ens_mono q fun x h1 q => ens_mono q fun x h1 q => ?_
    exact ens_mono (ih q) fun xs h2 ⟨e, q⟩ => ⟨by simp [e], q⟩
theorem st_cal (o : OK T F cls N sc XW X) {f : Nat} {x : Str} {es : List Expr} {ms : List ME} {p pos : Pos} (h1 : T.fns[f]? = some (x, ms.length)) (h2 : glK sc x = true) (h3 : okN x = true) (hs : ∀ e ∈ es, isStar e = false) (hl : ms.length = es.length)
    (ha : PA X es (rdL (gX X cls) F XW ms)) : PE X (.Call (.Name x p) es [] pos) (rdE (gX X cls) F XW (.cal f ms)) := by
  obtain ⟨a, fd, ps, k, m, kp, ok, bi, rm⟩ := o.fa.fn f x _ h1
  cases es with
  | nil =>
    have em : ms = [] := List.length_eq_zero_iff.mp hl
    subst em
    refine ⟨fun pins s σ H Q I q => ?_⟩
    obtain ⟨B, ρ, h, S, W, R, q⟩ := q
    simp only [evE, evL, Res.bind_ok] at q
    have sp := to_sp (n := 0) (vs := []) R (by simp only [VRs]) rfl q
    exact wpAny_Call_Name_kw (ld_glob I (o.gl h2) m (PySem.W.callWith_K0 I.kIn kp (run_fnS (us := []) ok rm bi (passAt o.tk σ) I .nil sp)) (okN_1 h3))
  | cons e es =>
    refine PE.imp (pe_callS (E := WE XW) ok rm (o.gl h2) m kp bi (fun σ => passAt o.tk σ) ha (okN_1 h3) (star_no (hs e List.mem_cons_self) es _) (any_star _ _ fun y hy => hs y (List.mem_cons_of_mem _ hy))) fun σ H Q q => ?_
    obtain ⟨B, ρ, h, S, W, R, q⟩ := q
    simp only [evE, ens_bind] at q
    refine ⟨B, ρ, h, S, W, R, ens_mono (ev_len q) fun xs h1 ⟨el, q⟩ vs H1 g => ?_⟩
    obtain ⟨ρ1, W1, x1, R1, r1⟩ := g
    refine to_sp R1 r1 (by rw [← r1.length]; exact el) (ens_ext q (fun rv h' k v H' g => k v H' (g.ext R.base x1)) fun e h' k c d H' g => k c d H' (g.ext R.base x1))
theorem boot_bl (b : Blt) : bootBuiltins b.name = some b.val := by cases b <;> decide +kernel
theorem bname_ok (b : Blt) : b.name ≠ "__name__" ∧ (b.name == ("__debug__" : Str)) = false := by cases b <;> decide +kernel
theorem st_blt (o : OK T F cls N sc XW X) {b : Blt} {e : Expr} {es : List Expr} {ms : List ME} {p pos : Pos} (h2 : glK sc b.name = true) (h3 : b.name ∈ T.bl) (hs : ∀ y ∈ e :: es, isStar y = false)
    (ha : PA X (e :: es) (rdR (gX X cls) F XW ms)) : PE X (.Call (.Name b.name p) (e :: es) [] pos) (rdE (gX X cls) F XW (.blt b ms)) := by
  have fin : ∀ σ H Q, rdE (gX X cls) F XW (.blt b ms) σ H Q → tCB (rC (gX X cls) fun h as => bltO h b as) (rdR (gX X cls) F XW ms) σ H Q := fun σ H Q q => by
    obtain ⟨B, ρ, h, S, W, R, q⟩ := q
    simp only [evE, ens_bind] at q
    refine ⟨B, ρ, h, S, W, R, ens_mono q fun xs h1 q vs H1 g => ?_⟩
    obtain ⟨ρ1, W1, x1, R1, r1⟩ := g
    obtain ⟨rv, e, q⟩ := ens_ok1 q
    exact ⟨B, ρ1, h1, S, W1, σ, xs, rv, R1, r1, e, fun v H' g => q v H' (g.ext R.base x1)⟩
  have key : PE X (.Call (.Name b.name p) (e :: es) [] pos) (tCB (rC (gX X cls) fun h as => bltO h b as) (rdR (gX X cls) F XW ms)) := by
    have rule := blt_ok (cls := cls) o.calm b
    have bo := boot_bl b
    obtain ⟨n1, n2⟩ := bname_ok b
    cases hb : b.val with
    | builtin id =>
      rw [hb] at rule bo
      exact pe_callB rule (o.gl h2) (o.fa.bl _ h3) bo ha n1 n2 (star_no (hs e List.mem_cons_self) es _) (any_star _ _ fun y hy => hs y (List.mem_cons_of_mem _ hy))
    | type n =>
      rw [hb] at rule bo
      exact pe_callTy rule (o.gl h2) (o.fa.bl _ h3) bo ha n1 n2 (star_no (hs e List.mem_cons_self) es _) (any_star _ _ fun y hy => hs y (List.mem_cons_of_mem _ hy))
    | _ => cases b <;> cases hb
  exact PE.imp key fin
end
end Mp


set_option Elab.async false
set_option linter.all false
set_option maxRecDepth 10000
set_option maxHeartbeats 1000000
/-! Targets, walks, comprehensions. -/
namespace Mp
open PySem PySem.Spec PyProof.Rows L2
section
variable {T : Nm} {F : Fn} {cls : Nat → Addr} {N : List Str} {sc : Ks} {XW : WX} {X : Cx}
theorem RS.join {G : Gd} {B : ASet} {ρ ρ' : List Addr} {h h' : Hs} {S S' : List SV} {W W' : ASet} {σ σ' : L2.St} {H H' : Hp} (R : RS G B ρ h S W σ H) (x : Ext B ρ W H ρ' W' H') (R' : RS G B ρ' h' S' W' σ' H')
    (k : ∀ (i : Nat) c, S[i]? = some (SV.own c) → S'[i]? = some (SV.own c) ∧ σ'[i]? = σ[i]?) : RS G B ρ' h' S W' σ H' := by
  refine ⟨R'.len, R'.nd, R'.sub, R'.base, R'.out, R'.live, R'.cel, fun i s hi => ?_, R.dj⟩
  obtain ⟨o, ho, hs⟩ := R.sl i s hi
  refine ⟨o, ho, ?_⟩
  cases s with
  | no => trivial
  | v y =>
    obtain ⟨v, e, r⟩ := hs
    exact ⟨v, e, VR.mv x.sub x.pre _ _ r⟩
  | own c =>
    obtain ⟨e1, e2⟩ := k i c hi
    obtain ⟨o', ho', hs'⟩ := R'.sl i _ e1
    rw [e2, ho] at ho'
    cases ho'
    exact hs'
/-! ### targets -/
def rdG (G : Gd) (t : MT) : TG := fun v σ H Q => ∃ (B : ASet) (ρ : List Addr) (h : Hs) (S : List SV) (W : ASet) (x : AV) (S' : List SV), RS G B ρ h S W σ H ∧ VR G H W ρ x v ∧ evG h t x S = some S' ∧
  ∀ σ', RS G B ρ h S' W σ' H → σ'.length = σ.length → (∀ i, i ∉ slotsT t → σ'[i]? = σ[i]?) → Q σ' H
def rdGs (G : Gd) (ts : List MT) : TGs := fun vs σ H Q => ∃ (B : ASet) (ρ : List Addr) (h : Hs) (S : List SV) (W : ASet) (xs : List AV) (S' : List SV), RS G B ρ h S W σ H ∧ VRs G H W ρ xs vs ∧ evGs h ts xs S = some S' ∧
  ∀ σ', RS G B ρ h S' W σ' H → σ'.length = σ.length → (∀ i, i ∉ slotsTs ts → σ'[i]? = σ[i]?) → Q σ' H
theorem PG.imp {e : Expr} {t t' : TG} (h : PG X e t) (k : ∀ v σ H Q, t' v σ H Q → t v σ H Q) : PG X e t' := ⟨fun pins s σ H v u Q I r q => h.run pins s σ H v u Q I r (k _ _ _ _ q)⟩
theorem PGs.imp {e : List Expr} {t t' : TGs} (h : PGs X e t) (k : ∀ v σ H Q, t' v σ H Q → t v σ H Q) : PGs X e t' := ⟨fun pins s σ H v u Q I r q => h.run pins s σ H v u Q I r (k _ _ _ _ q)⟩
theorem PG.or {e : Expr} {t t' : TG} (h : PG X e t) (h' : PG X e t') : PG X e (fun v σ H Q => t v σ H Q ∨ t' v σ H Q) := ⟨fun pins s σ H v u Q I r q => by
  rcases q with q | q
  · exact h.run pins s σ H v u Q I r q
  · exact h'.run pins s σ H v u Q I r q⟩
theorem mG_star {t : MT} {e : Expr} (h : mG N sc t e = true) : isStar e = false := by
  cases t <;> cases e <;> simp [mG] at h <;> rfl
theorem mGs_each {ts : List MT} : ∀ {es : List Expr} (env : Env), mGs N sc ts es = true → assignEach es env = es.map (fun e => (false, assign e env)) ∧ es.length = ts.length := by
  induction ts with
  | nil => intro es env h; cases es with
    | nil => exact ⟨rfl, rfl⟩
    | cons _ _ => simp [mGs] at h
  | cons t ts ih => intro es env h; cases es with
    | nil => simp [mGs] at h
    | cons e es =>
      simp only [mGs, Bool.and_eq_true] at h
      obtain ⟨e1, e2⟩ := ih env h.2
      have hs := mG_star h.1
      refine ⟨?_, by simp [e2]⟩
      have : assignEach (e :: es) env = (false, assign e env) :: assignEach es env := by
        cases e <;> first | rfl | (simp [isStar] at hs)
      rw [this, e1]
      rfl
mutual
theorem tg_ok (o : OK T F cls N sc XW X) : ∀ (t : MT) (e : Expr), mG N sc t e = true → PG X e (rdG (gX X cls) t)
  | .nm i, e, h => by
    cases e <;> simp only [mG, Bool.false_eq_true] at h
    rename_i x pos
    simp only [Bool.and_eq_true, decide_eq_true_eq] at h
    obtain ⟨h1, h2⟩ := h
    have key : PG X (.Name x pos) (gName i) := by
      split at h2
      · rename_i e
        exact pg_name (by rw [o.eN]; exact o.nd) (by rw [o.eN]; exact h1) (.inl (o.vl x e)) (.inr (o.vl x e))
      · rename_i e
        exact pg_name (by rw [o.eN]; exact o.nd) (by rw [o.eN]; exact h1) (.inr (o.vc x e).1) (.inl (o.vc x e).2)
      · cases h2
    refine PG.imp key fun v σ H Q q => ?_
    obtain ⟨B, ρ, h, S, W, x, S', R, r, e, k⟩ := q
    simp only [evG, Option.some.injEq] at e
    subst e
    refine k _ (R.setV r) (by simp) fun j hj => ?_
    simp only [slotsT, List.mem_singleton] at hj
    rw [List.getElem?_set_ne (Ne.symm hj)]
  | .tp ts, e, h => by
    cases e <;> simp only [mG, Bool.false_eq_true] at h
    rename_i es k pos
    have sub := tgs_ok o ts es h
    obtain ⟨e1, e2⟩ := mGs_each X.env h
    have hn : (assignEach es X.env).length = ts.length := by rw [e1, List.length_map, e2]
    have hst : (assignEach es X.env).findIdx? (·.1) = none := by rw [e1]; simp
    refine PG.imp (PG.or (pg_tup o.calm sub hn hst) (pg_lst o.calm sub hn hst)) fun v σ H Q q => ?_
    obtain ⟨B, ρ, h, S, W, x, S', R, r, e, kk⟩ := q
    simp only [evG] at e
    split at e
    · rename_i xs ex
      obtain ⟨a, vs, rfl, l, rr⟩ := VR.vw R r ex
      refine .inl ⟨a, vs, rfl, l.sq, ?_, B, ρ, h, S, W, xs, S', R, rr, e, kk⟩
      rw [← rr.length]
      exact evGs_len e
    · rename_i xs ex
      obtain ⟨a, vs, rfl, l, rr⟩ := VR.vw R r ex
      refine .inr ⟨a, vs, rfl, SqL.of l, ?_, B, ρ, h, S, W, xs, S', R, rr, e, kk⟩
      rw [← rr.length]
      exact evGs_len e
    · cases e
theorem tgs_ok (o : OK T F cls N sc XW X) : ∀ (ts : List MT) (es : List Expr), mGs N sc ts es = true → PGs X es (rdGs (gX X cls) ts)
  | [], es, h => by
    cases es with
    | cons _ _ => simp [mGs] at h
    | nil =>
      refine PGs.imp pgs_nil fun v σ H Q q => ?_
      obtain ⟨B, ρ, h, S, W, xs, S', R, r, e, k⟩ := q
      cases xs with
      | nil =>
        simp only [evGs, Option.some.injEq] at e
        subst e
        simp only [VRs] at r
        exact ⟨r, k σ R rfl fun _ _ => rfl⟩
      | cons _ _ => simp [evGs] at e
  | t :: ts, es, h => by
    cases es with
    | nil => simp [mGs] at h
    | cons e es =>
      have h' := h
      simp only [mGs, Bool.and_eq_true] at h
      obtain ⟨e1, e2⟩ := mGs_each X.env h'
      obtain ⟨e3, e4⟩ := mGs_each X.env h.2
      refine PGs.imp (pgs_cons (tg_ok o t e h.1) (tgs_ok o ts es h.2) (by rw [e1, e3]; rfl)) fun v σ H Q q => ?_
      obtain ⟨B, ρ, h, S, W, xs, S', R, r, e, k⟩ := q
      cases xs with
      | nil => simp [evGs] at e
      | cons x xs =>
        simp only [evGs, Option.bind_eq_some_iff] at e
        obtain ⟨S1, g1, g2⟩ := e
        simp only [VRs] at r
        obtain ⟨u, us, rfl, ra, rb⟩ := r
        refine ⟨u, us, rfl, B, ρ, h, S, W, x, S1, R, ra, g1, fun σ1 R1 l1 o1 => ⟨B, ρ, h, S1, W, xs, S', R1, rb, g2, fun σ2 R2 l2 o2 => k σ2 R2 (l2.trans l1) fun i hi => ?_⟩⟩
        simp only [slotsTs, List.mem_append, not_or] at hi
        rw [o2 i hi.2, o1 i hi.1]
theorem evGs_len {h : Hs} : ∀ {ts : List MT} {xs : List AV} {S S' : List SV}, evGs h ts xs S = some S' → xs.length = ts.length
  | [], [], _, _, _ => rfl
  | [], _ :: _, _, _, e => by simp [evGs] at e
  | _ :: _, [], _, _, e => by simp [evGs] at e
  | t :: ts, x :: xs, S, S', e => by
    simp only [evGs, Option.bind_eq_some_iff] at e
    obtain ⟨S1, _, e⟩ := e
    simp [evGs_len e]
end
end
end Mp


set_option Elab.async false
set_option linter.all false
set_option maxRecDepth 10000
set_option maxHeartbeats 1000000
/-! Walks and comprehensions. -/
namespace Mp
open PySem PySem.Spec PyProof.Rows L2
section
variable {T : Nm} {F : Fn} {cls : Nat → Addr} {N : List Str} {sc : Ks} {XW : WX} {X : Cx}
variable {G : Gd} {B : ASet} {ρ ρ' : List Addr} {h h' : Hs} {S : List SV} {W W' : ASet} {σ : L2.St} {H H' : Hp}
/-- a list that stands still -/
theorem it_lst {K : PySem.W.Frag} (hK : G.K = K) {a : Addr} {vs : List V} {xs : List AV} (n : ¬ W a) (l : H a = some (.lst vs)) (r : VRs G H W ρ xs vs) : ItOk G (Itl K a) xs .fz ρ W H := by
  subst hK
  intro B ρ2 h2 S2 W2 σ2 H2 x R _ i
  have l2 := (x.out n l).2
  have r2 := VRs.mv x.sub x.pre xs vs r
  refine ⟨fun y hy => ?_, fun hi => ⟨vs, SqL.of l2, by rw [← r.length]; exact hi⟩⟩
  obtain ⟨v, hv, rv⟩ := r2.get hy
  refine ⟨⟨vs, v, SqL.of l2, hv⟩, fun v' H3 q => ?_⟩
  obtain ⟨rfl, q⟩ := q
  have := q vs (SqL.of l2)
  rw [hv] at this
  cases this
  exact ⟨Ext.refl, R, rv⟩
theorem it_tup {K : PySem.W.Frag} (hK : G.K = K) {a : Addr} {vs : List V} {xs : List AV} (l : TAt G.K H W a vs) (r : VRs G H W ρ xs vs) : ItOk G (Itt K a) xs .fz ρ W H := by
  subst hK
  intro B ρ2 h2 S2 W2 σ2 H2 x R _ i
  have l2 := (l.mv x.sub).sq
  have r2 := VRs.mv x.sub x.pre xs vs r
  refine ⟨fun y hy => ?_, fun hi => ⟨vs, l2, by rw [← r.length]; exact hi⟩⟩
  obtain ⟨v, hv, rv⟩ := r2.get hy
  refine ⟨⟨vs, v, l2, hv⟩, fun v' H3 q => ?_⟩
  obtain ⟨rfl, q⟩ := q
  have := q vs l2
  rw [hv] at this
  cases this
  exact ⟨Ext.refl, R, rv⟩
theorem it_cell {K : PySem.W.Frag} (hK : G.K = K) {a : Addr} {n : Nat} {xs : List AV} (ha : ρ[n]? = some a) : ItOk G (Itl K a) xs (.cell n (.lst xs)) ρ W H := by
  subst hK
  intro B ρ2 h2 S2 W2 σ2 H2 x R ok i
  obtain ⟨vs, l2, r2⟩ := R.cel n _ a ok (pre_get x.pre ha)
  refine ⟨fun y hy => ?_, fun hi => ⟨vs, SqL.of l2, by rw [← r2.length]; exact hi⟩⟩
  obtain ⟨v, hv, rv⟩ := r2.get hy
  refine ⟨⟨vs, v, SqL.of l2, hv⟩, fun v' H3 q => ?_⟩
  obtain ⟨rfl, q⟩ := q
  have := q vs (SqL.of l2)
  rw [hv] at this
  cases this
  exact ⟨Ext.refl, R, rv⟩
theorem it_str {x : Str} : ItOk G (Its x) (x.cps.toList.map fun c => .d (.str ⟨#[c]⟩)) .fz ρ W H := by
  intro B ρ2 h2 S2 W2 σ2 H2 _ R _ i
  refine ⟨fun y hy => ?_, fun hi => (show x.cps.size ≤ i by simpa using hi)⟩
  have hl : i < x.cps.size := by
    have := (List.getElem?_eq_some_iff.mp hy).1
    simpa using this
  refine ⟨hl, fun v H3 q => ?_⟩
  obtain ⟨rfl, c, hc, rfl⟩ := q
  refine ⟨Ext.refl, R, ?_⟩
  rw [List.getElem?_map, Array.getElem?_toList, hc] at hy
  cases hy
  simp only [VR, DR]
theorem it_rng {lo : Int} {n : Nat} : ItOk G (Itr lo n) ((List.range n).map fun (k : Nat) => .d (.int (lo + k))) .fz ρ W H := by
  intro B ρ2 h2 S2 W2 σ2 H2 _ R _ i
  refine ⟨fun y hy => ?_, fun hi => (show n ≤ i by simpa using hi)⟩
  have hl : i < n := by
    have := (List.getElem?_eq_some_iff.mp hy).1
    simpa using this
  refine ⟨hl, fun v H3 q => ?_⟩
  obtain ⟨rfl, rfl⟩ := q
  refine ⟨Ext.refl, R, ?_⟩
  rw [List.getElem?_map, List.getElem?_range hl] at hy
  cases hy
  simp only [VR, DR]
theorem PI.or {tg e : Expr} {t t' : TI} (h : PI X tg e t) (h' : PI X tg e t') : PI X tg e (fun σ H R => t σ H R ∨ t' σ H R) := ⟨fun pins s σ H R I q => by
  rcases q with q | q
  · exact h.run pins s σ H R I q
  · exact h'.run pins s σ H R I q⟩
/-- lists, tuples, texts: which one is known ahead -/
inductive Kd where
  | l | t | s
def itK (h : Hs) : RV → Kd
  | .v (.d (.tup _)) => .t
  | .v (.d (.str _)) => .s
  | .v (.q true _) => .t
  | _ => .l
theorem si_seq (o : OK T F cls N sc XW X) {tg e : Expr} {m : ME} (ha : PE X e (rdE (gX X cls) F XW m)) : PI X tg e (rdI (gX X cls) F XW (.seq m)) := by
  have key := PI.or (pi_list (tg := tg) ha) (PI.or (pi_tup (tg := tg) ha) (pi_str (tg := tg) ha))
  refine ⟨fun pins s σ H Q I q => ?_⟩
  obtain ⟨B, ρ, h, S, W, R, q⟩ := q
  simp only [evI, ens_bind] at q
  -- the value is reckoned: its kind is known
  cases ev : evE F m S h with
  | bad => rw [ev] at q; exact q.elim
  | exc e h1 =>
    rw [ev] at q
    refine key.run pins s σ H Q I (.inl ⟨B, ρ, h, S, W, R, ?_⟩)
    rw [ev]
    exact q
  | ok x h1 =>
    rw [ev] at q
    obtain ⟨p, ep, q⟩ := ens_ok1 q
    have nrm : ∀ v H1, EGood (gX X cls) B ρ W H S σ x h1 v H1 → ∃ ρ1 W1, Ext B ρ W H ρ1 W1 H1 ∧ RS (gX X cls) B ρ1 h1 S W1 σ H1 ∧ RVR (gX X cls) H1 W1 B ρ1 S σ x v := fun v H1 g => g
    unfold itO at ep
    split at ep
    · cases ep
      refine key.run pins s σ H Q I (.inl ⟨B, ρ, h, S, W, R, by
        rw [ev]
        intro v H1 g
        obtain ⟨ρ1, W1, x1, R1, r1⟩ := g
        simp only [RVR, VR, DR] at r1
        obtain ⟨a, vs, rfl, ⟨n, l⟩, r⟩ := r1
        exact ⟨a, rfl, ⟨vs, SqL.of l⟩, q _ _ ⟨ρ1, W1, x1, R1, it_lst rfl n l (DRs.toV _ _ r)⟩⟩⟩)
    · cases ep
      refine key.run pins s σ H Q I (.inr (.inl ⟨B, ρ, h, S, W, R, by
        rw [ev]
        intro v H1 g
        obtain ⟨ρ1, W1, x1, R1, r1⟩ := g
        simp only [RVR, VR, DR] at r1
        obtain ⟨a, vs, rfl, l, r⟩ := r1
        exact ⟨a, rfl, ⟨vs, l.sq⟩, q _ _ ⟨ρ1, W1, x1, R1, it_tup rfl l (DRs.toV _ _ r)⟩⟩⟩))
    · cases ep
      refine key.run pins s σ H Q I (.inr (.inr ⟨B, ρ, h, S, W, R, by
        rw [ev]
        intro v H1 g
        obtain ⟨ρ1, W1, x1, R1, r1⟩ := g
        simp only [RVR, VR, DR] at r1
        exact ⟨_, r1, q _ _ ⟨ρ1, W1, x1, R1, it_str⟩⟩⟩))
    · rename_i t xs
      cases ep
      cases t with
      | true =>
        refine key.run pins s σ H Q I (.inr (.inl ⟨B, ρ, h, S, W, R, by
          rw [ev]
          intro v H1 g
          obtain ⟨ρ1, W1, x1, R1, r1⟩ := g
          simp only [RVR, VR] at r1
          obtain ⟨a, vs, rfl, l, r⟩ := r1
          have l : TAt (gX X cls).K H1 W1 a vs := l
          exact ⟨a, rfl, ⟨vs, l.sq⟩, q _ _ ⟨ρ1, W1, x1, R1, it_tup rfl l r⟩⟩⟩))
      | false =>
        refine key.run pins s σ H Q I (.inl ⟨B, ρ, h, S, W, R, by
          rw [ev]
          intro v H1 g
          obtain ⟨ρ1, W1, x1, R1, r1⟩ := g
          simp only [RVR, VR] at r1
          obtain ⟨a, vs, rfl, l, r⟩ := r1
          have l : ¬ W1 a ∧ H1 a = some (.lst vs) := l
          exact ⟨a, rfl, ⟨vs, SqL.of l.2⟩, q _ _ ⟨ρ1, W1, x1, R1, it_lst rfl l.1 l.2 r⟩⟩⟩)
    · rename_i xs
      cases ep
      refine key.run pins s σ H Q I (.inl ⟨B, ρ, h, S, W, R, by
        rw [ev]
        intro v H1 g
        obtain ⟨ρ1, W1, x1, R1, r1⟩ := g
        obtain ⟨a, rfl, h1, h2, h3, h4, vs, l, r⟩ := r1
        have R2 := R1.cut h2 h3 h4
        exact ⟨a, rfl, ⟨vs, SqL.of l⟩, q _ _ ⟨ρ1, cut W1 a, x1.trans Ext.cut R.base, R2, it_lst rfl (fun z => z.2 rfl) l (VRs.mv (Sub.less fun _ w => w.1) pre_refl _ _ r)⟩⟩⟩)
    · rename_i n
      split at ep
      · rename_i xs en
        cases ep
        refine key.run pins s σ H Q I (.inl ⟨B, ρ, h, S, W, R, by
          rw [ev]
          intro v H1 g
          obtain ⟨ρ1, W1, x1, R1, r1⟩ := g
          simp only [RVR, VR] at r1
          obtain ⟨a, ha, rfl⟩ := r1
          obtain ⟨vs, l, r⟩ := R1.cel n _ a en ha
          exact ⟨a, rfl, ⟨vs, SqL.of l⟩, q _ _ ⟨ρ1, W1, x1, R1, it_cell rfl ha⟩⟩⟩)
      · cases ep
    · cases ep
theorem rng_fin {ms : List ME} (σ : L2.St) (H : Hp) (Q : It → Hp → Prop) (q : rdI (gX X cls) F XW (.rng ms) σ H Q) : rdL (gX X cls) F XW ms σ H fun vs H1 => ∃ xs p h1, xs.length = ms.length ∧ rngO xs = some p ∧ ∃ (B : ASet) (ρ1 : List Addr) (S : List SV) (W1 : ASet), RS (gX X cls) B ρ1 h1 S W1 σ H1 ∧ VRs (gX X cls) H1 W1 ρ1 xs vs ∧ ∀ J, ItOk (gX X cls) J p.1 p.2 ρ1 W1 H1 → Q J H1 := by
  obtain ⟨B, ρ, h, S, W, R, q⟩ := q
  simp only [evI, ens_bind] at q
  refine ⟨B, ρ, h, S, W, R, ens_mono (ev_len q) fun xs h1 ⟨el, q⟩ vs H1 g => ?_⟩
  obtain ⟨ρ1, W1, x1, R1, r1⟩ := g
  obtain ⟨p, ep, q⟩ := ens_ok1 q
  exact ⟨xs, p, h1, el, ep, B, ρ1, S, W1, R1, r1, fun J it => q J H1 ⟨ρ1, W1, x1, R1, it⟩⟩
theorem si_rng1 (o : OK T F cls N sc XW X) {tg : Expr} {e : Expr} {m : ME} {p pos : Pos} (h2 : glK sc ("range" : Str) = true) (h3 : ("range" : Str) ∈ T.bl) (hs : isStar e = false)
    (ha : PA X [e] (rdL (gX X cls) F XW [m])) : PI X tg (.Call (.Name "range" p) [e] [] pos) (rdI (gX X cls) F XW (.rng [m])) := by
  refine PI.imp (pi_range1 (o.gl h2) (o.fa.bl _ h3) ha (star_no hs [] _)) fun σ H Q q => ?_
  obtain ⟨B, ρ, h, S, W, R, k⟩ := rng_fin σ H Q q
  refine ⟨B, ρ, h, S, W, R, ens_mono k fun xs h1 k vs H1 g => ?_⟩
  obtain ⟨ys, p, h1, el, ep, B, ρ1, S, W1, R1, r1, k⟩ := k vs H1 g
  unfold rngO at ep
  split at ep
  · split at ep
    · rename_i hz
      cases ep
      obtain ⟨v, rfl, rv⟩ := r1.one
      simp only [VR, DR] at rv
      subst rv
      exact ⟨_, rfl, hz.1, hz.2, k _ it_rng⟩
    · cases ep
  · simp at el
  · cases ep
theorem si_rng2 (o : OK T F cls N sc XW X) {tg : Expr} {e e2 : Expr} {m m2 : ME} {p pos : Pos} (h2 : glK sc ("range" : Str) = true) (h3 : ("range" : Str) ∈ T.bl) (hs : isStar e = false) (hs2 : isStar e2 = false)
    (ha : PA X [e, e2] (rdL (gX X cls) F XW [m, m2])) : PI X tg (.Call (.Name "range" p) [e, e2] [] pos) (rdI (gX X cls) F XW (.rng [m, m2])) := by
  refine PI.imp (pi_range2 (o.gl h2) (o.fa.bl _ h3) ha (by rw [star_no hs [e2] _, star_no hs2 [] _]; rfl) (star_no hs2 [] _)) fun σ H Q q => ?_
  obtain ⟨B, ρ, h, S, W, R, k⟩ := rng_fin σ H Q q
  refine ⟨B, ρ, h, S, W, R, ens_mono k fun xs h1 k vs H1 g => ?_⟩
  obtain ⟨ys, p, h1, el, ep, B, ρ1, S, W1, R1, r1, k⟩ := k vs H1 g
  unfold rngO at ep
  split at ep
  · simp at el
  · split at ep
    · rename_i hz
      cases ep
      simp only [VRs, VR, DR] at r1
      obtain ⟨v, r, rfl, rfl, u, r', rfl, rfl, rfl⟩ := r1
      exact ⟨_, _, rfl, hz, k _ it_rng⟩
    · cases ep
  · cases ep
/-! ### comprehensions -/
theorem wipe_get {σ : L2.St} {i : Nat} : ∀ {vs : List Nat}, (wipe σ vs)[i]? = if i ∈ vs then (σ[i]?).map fun _ => none else σ[i]?
  | [] => by simp [wipe]
  | v :: vs => by
    have ih := wipe_get (σ := σ) (i := i) (vs := vs)
    unfold wipe
    by_cases e : v = i
    · subst e
      rw [List.getElem?_set_self', ih]
      by_cases m : v ∈ vs <;> simp [m] <;> cases σ[v]? <;> rfl
    · rw [List.getElem?_set_ne e, ih]
      have : (i ∈ v :: vs) ↔ i ∈ vs := by simp [Ne.symm e]
      simp only [this]
theorem wipe_ext {σ σ' : L2.St} {vs : List Nat} (l : σ'.length = σ.length) (k : ∀ i, i ∉ vs → σ'[i]? = σ[i]?) : wipe σ' vs = wipe σ vs := by
  apply List.ext_getElem?
  intro i
  rw [wipe_get, wipe_get]
  by_cases m : i ∈ vs
  · simp only [m, if_true]
    by_cases hl : i < σ.length
    · rw [List.getElem?_eq_getElem hl, List.getElem?_eq_getElem (by rw [l]; exact hl)]; rfl
    · rw [List.getElem?_eq_none (by omega), List.getElem?_eq_none (by omega)]
  · simp only [m, if_false]
    exact k i m
theorem wipeS_get {S : List SV} {i : Nat} : ∀ {vs : List Nat}, (wipeS S vs)[i]? = if i ∈ vs then (S[i]?).map fun _ => SV.no else S[i]?
  | [] => by simp [wipeS]
  | v :: vs => by
    have ih := wipeS_get (S := S) (i := i) (vs := vs)
    unfold wipeS
    by_cases e : v = i
    · subst e
      rw [List.getElem?_set_self', ih]
      by_cases m : v ∈ vs <;> simp [m] <;> cases S[v]? <;> rfl
    · rw [List.getElem?_set_ne e, ih]
      have : (i ∈ v :: vs) ↔ i ∈ vs := by simp [Ne.symm e]
      simp only [this]
theorem RS.wipe {vs : List Nat} (R : RS G B ρ h S W σ H) : RS G B ρ h (wipeS S vs) W (L2.wipe σ vs) H := by
  refine R.weak fun i s hi => ?_
  rw [wipeS_get] at hi
  rw [wipe_get]
  by_cases m : i ∈ vs
  · simp only [m, if_true, Option.map_eq_some_iff] at hi ⊢
    obtain ⟨a, ha, rfl⟩ := hi
    obtain ⟨o, ho, _⟩ := R.sl i a ha
    exact .inl ⟨rfl, none, o, ho, rfl⟩
  · simp only [m, if_false] at hi ⊢
    exact .inr ⟨hi, trivial⟩
/-- a fresh list, guarded as a caller's thing while a block runs -/
theorem RS.guard (R : RS G B ρ h S W σ H) {p : Addr} (w : W p) (nb : ¬ B p) (nr : p ∉ ρ) (nf : Free S σ p) : RS G (add B p) ρ h S W σ H := by
  refine ⟨R.len, R.nd, R.sub, fun a b => ?_, fun a ha b => ?_, R.live, R.cel, fun i s hi => ?_, R.dj⟩
  · rcases b with b | b
    · exact R.base a b
    · rw [b]; exact w
  · rcases b with b | b
    · exact R.out a ha b
    · exact nr (b ▸ ha)
  · obtain ⟨o, ho, hs⟩ := R.sl i s hi
    refine ⟨o, ho, ?_⟩
    cases s with
    | no => trivial
    | v y => exact hs
    | own c =>
      obtain ⟨a, e, h1, h2, h3, h4⟩ := hs
      refine ⟨a, e, h1, fun b => ?_, h3, h4⟩
      rcases b with b | b
      · exact h2 b
      · exact nf i c hi (by rw [ho, e, b])
theorem RS.unguard (R : RS G (add B p) ρ h S W σ H) : RS G B ρ h S W σ H := by
  refine ⟨R.len, R.nd, R.sub, fun a b => R.base a (.inl b), fun a ha b => R.out a ha (.inl b), R.live, R.cel, fun i s hi => ?_, R.dj⟩
  obtain ⟨o, ho, hs⟩ := R.sl i s hi
  refine ⟨o, ho, ?_⟩
  cases s with
  | no => trivial
  | v y => exact hs
  | own c =>
    obtain ⟨a, e, h1, h2, h3, h4⟩ := hs
    exact ⟨a, e, h1, fun b => h2 (.inl b), h3, h4⟩
theorem Ext.unguard {p : Addr} (x : Ext (add B p) ρ W H ρ' W' H') : Ext B ρ W H ρ' W' H' := ⟨x.pre, fun a o n e => x.keep a o (n.imp id .inl) e, x.grow, x.live⟩
theorem RS.freeB (R : RS G B ρ h S W σ H) {p : Addr} (b : B p) : Free S σ p := fun i c hi e => by
  obtain ⟨o, ho, hs⟩ := R.sl i _ hi
  obtain ⟨a, ea, _, nb, _⟩ := hs
  rw [e] at ho
  cases ho
  cases ea
  exact nb b
/-- an owned thing that no cell and no name is, changed -/
theorem RS.poke (R : RS G B ρ h S W σ H) {p : Addr} {o : HO} (w : W p) (nr : p ∉ ρ) (nf : Free S σ p) : RS G B ρ h S W σ (upd H p o) := by
  have x : Sub W H W (upd H p o) := sub_set w
  refine ⟨R.len, R.nd, R.sub, R.base, R.out, fun a w => upd_live (R.live a w), fun i c a hi ha => ?_, fun i s hi => ?_, R.dj⟩
  · have ne : a ≠ p := fun z => nr (z ▸ List.mem_of_getElem? ha)
    exact (R.cel i c a hi ha).mv x pre_refl fun u e => by rw [upd_ne ne]; exact e
  · obtain ⟨u, hu, hs⟩ := R.sl i s hi
    refine ⟨u, hu, ?_⟩
    cases s with
    | no => trivial
    | v y =>
      obtain ⟨v, e, r⟩ := hs
      exact ⟨v, e, VR.mv x pre_refl _ _ r⟩
    | own c =>
      obtain ⟨a, e, h1, h2, h3, h4⟩ := hs
      have ne : a ≠ p := nf.ne hi (by rw [hu, e])
      exact ⟨a, e, h1, h2, h3, h4.mv x pre_refl fun u e => by rw [upd_ne ne]; exact e⟩
theorem Ext.poke {p : Addr} {o u : HO} (w : W p) (nb : ¬ B p) (e : H p = some u) : Ext B ρ W H ρ W (upd H p o) := by
  refine ⟨⟨[], by simp⟩, fun a v n q => ?_, fun _ w => .inl w, fun a q => ?_⟩
  · rw [upd_ne]
    · exact q
    · intro z
      subst z
      rcases n with n | n
      · exact n w
      · exact nb n
  · by_cases z : a = p
    · subst z; rw [upd_same] at q; cases q
    · rw [upd_ne z] at q; exact q
/-- a block's scope -/
theorem relabel_get {scope : Scope} {env : Env} {x : Str} : (relabel scope env).names.lookup x = (scope.names.lookup x).map fun k => if (k == .free && env.scope.kind == .function && env.kindOf x == some .cell) = true then .cell else k := by
  have key : ∀ l : List (Str × NameKind), (l.map fun (n, k) => if (k == NameKind.free && env.scope.kind == .function && env.kindOf n == some .cell) = true then (n, NameKind.cell) else (n, k)).lookup x
      = (l.lookup x).map fun k => if (k == .free && env.scope.kind == .function && env.kindOf x == some .cell) = true then .cell else k := by
    intro l
    induction l with
    | nil => rfl
    | cons p l ih =>
      obtain ⟨n, k⟩ := p
      simp only [List.map_cons]
      by_cases e : x = n
      · subst e
        split <;> simp_all [List.lookup]
      · have e' : (x == n) = false := by simpa using e
        split <;> simp only [List.lookup, e', ih]
  exact key scope.names
theorem OK.blk (o : OK T F cls N sc XW X) {scope : Scope} (hk : scope.kind = .function) {s : Shared} {H : Hp} {cl : List (Str × Addr)} {C : Addr} {fp : List Addr} : OK T F cls N scope.names (fun _ _ _ _ => False) (X.blk s H scope (compEnvC scope cl C X.env) fp) := by
  have lk : ∀ x, (compEnvC scope cl C X.env).scope.names.lookup x = (scope.names.lookup x).map fun k => if (k == .free && X.env.scope.kind == .function && X.env.kindOf x == some .cell) = true then .cell else k := fun x => relabel_get
  refine ⟨o.fa, o.eN, o.nd, o.calm, hk, fun x e => ?_, fun x e => ⟨?_, ?_⟩, fun x e => ?_, fun x e => ?_, takes0, PassesOwn.never⟩
  · rw [lk, e]; rfl
  · rw [lk, e]; rfl
  · show (scope.names.lookup x == some .cell) = true
    rw [e]; rfl
  · rw [lk, e]
    simp only [Option.map_some]
    split
    · exact .inr rfl
    · exact .inl rfl
  · rw [lk, e]; rfl
theorem OK.blkOk (o : OK T F cls N sc XW X) {scope : Scope} {own : List (Str × Nat)} (h : blkC N { kind := .function, names := sc, isGenerator := false, isCoroutine := false } scope own = true) : BlkOk X.N X.env.scope scope own := by
  have b := blkOk_by h
  rw [o.eN]
  refine ⟨b.kind, b.uniq, b.ix, fun y hy hf => ?_, b.own⟩
  rcases b.free y hy hf with e | e
  · exact .inl (o.vc _ e).1
  · exact (o.vf _ e).symm
end
end Mp


set_option Elab.async false
set_option linter.all false
set_option maxRecDepth 10000
set_option maxHeartbeats 1000000
/-! Comprehensions; all expressions. -/
namespace Mp
open PySem PySem.Spec PyProof.Rows L2
section
variable {T : Nm} {F : Fn} {cls : Nat → Addr} {N : List Str} {sc : Ks} {XW : WX} {X : Cx}
theorem noX_ens {α : Type} {r : Res α} {P : α → Hs → Prop} {E E' : Ex → Hs → Prop} (h : r.noX.ens P E) : r.ens P E' := by
  cases r with
  | ok a g => exact h
  | exc e g => exact h.elim
  | bad => exact h.elim
theorem noX_ens' {α : Type} {r : Res α} {P : α → Hs → Prop} {E : Ex → Hs → Prop} (h : r.noX.ens P E) : r.ens P fun _ _ => False := noX_ens h
mutual
theorem evG_out {h : Hs} : ∀ {t : MT} {x : AV} {S S' : List SV} {i : Nat}, evG h t x S = some S' → i ∉ slotsT t → S'[i]? = S[i]?
  | .nm j, x, S, S', i, e, hi => by
    simp only [evG, Option.some.injEq] at e
    subst e
    simp only [slotsT, List.mem_singleton] at hi
    rw [List.getElem?_set_ne (Ne.symm hi)]
  | .tp ts, x, S, S', i, e, hi => by
    simp only [evG] at e
    split at e
    · exact evGs_out e hi
    · exact evGs_out e hi
    · cases e
theorem evGs_out {h : Hs} : ∀ {ts : List MT} {xs : List AV} {S S' : List SV} {i : Nat}, evGs h ts xs S = some S' → i ∉ slotsTs ts → S'[i]? = S[i]?
  | [], [], S, S', i, e, hi => by simp only [evGs, Option.some.injEq] at e; subst e; rfl
  | [], _ :: _, S, S', i, e, hi => by simp [evGs] at e
  | _ :: _, [], S, S', i, e, hi => by simp [evGs] at e
  | t :: ts, x :: xs, S, S', i, e, hi => by
    simp only [evGs, Option.bind_eq_some_iff] at e
    obtain ⟨S1, e1, e2⟩ := e
    simp only [slotsTs, List.mem_append, not_or] at hi
    rw [evGs_out e2 hi.2, evG_out e1 hi.1]
end
def rdTo (G : Gd) (F : Fn) (XW : WX) (m : Option MC) : TT := fun σ H Q => ∃ (B : ASet) (ρ : List Addr) (h : Hs) (S : List SV) (W : ASet), RS G B ρ h S W σ H ∧
  (evTo F m S h).ens (fun b h' => ∀ H', BGood G B ρ W H S σ h' H' → Q b H') (fun e h' => ∀ c d H', XGood G B ρ W H S σ e h' c d H' → XW c d σ H')
abbrev XW0 : WX := fun _ _ _ _ => False
theorem Ext.guardN {B : ASet} {ρ ρ' : List Addr} {W W' : ASet} {H H' : Hp} {p : Addr} (x : Ext B ρ W H ρ' W' H') (n : H p = none) : Ext (add B p) ρ W H ρ' W' H' := by
  refine ⟨x.pre, fun a o k e => ?_, x.grow, x.live⟩
  rcases k with k | k | k
  · exact x.keep a o (.inl k) e
  · exact x.keep a o (.inr k) e
  · rw [k, n] at e; cases e
theorem lcm_rd {me : ME} {mt : MT} {mi : MI} {mco : Option MC} {own : List (Str × Nat)} (hsl : ∀ i ∈ slotsT mt, i ∈ own.map (·.2)) (σ : L2.St) (H : Hp) (Q : VK) (q : rdE (gX X cls) F XW (.lcm me mt mi mco own) σ H Q) :
    tLc (rdI (gX X cls) F XW mi) (rdG (gX X cls) mt) (rdTo (gX X cls) F XW0 mco) (rdE (gX X cls) F XW0 me) (own.map (·.2)) σ H Q := by
  obtain ⟨B, ρ, h, S, W, R, q⟩ := q
  simp only [evE] at q
  split at q
  case isFalse => exact q.elim
  rename_i hno
  simp only [ens_bind] at q
  refine ⟨B, ρ, h, S, W, R, ens_mono q fun p h1 q J H1 g => ?_⟩
  obtain ⟨ρ1, W1, x1, R1, it⟩ := g
  obtain ⟨its, src⟩ := p
  intro d hd
  obtain ⟨n1, n2, n3, n4⟩ := R1.fresh hd
  have R2 : RS (gX X cls) (add B d) ρ1 h1 S (add W1 d) σ (upd H1 d (.lst [])) := (R1.layO hd).guard (.inr rfl) n2 n3 n4
  have nOwn : ∀ (i : Nat) c, S[i]? = some (SV.own c) → i ∉ own.map (·.2) := fun i c hi hm => by
    have := (List.all_eq_true.mp hno) i hm
    rw [hi] at this
    cases this
  have x0 : Ext B ρ1 W1 H1 ρ1 (add W1 d) (upd H1 d (.lst [])) := Ext.layO hd
  let Iv : Nat → Hp → Prop := fun i H2 => i ≤ its.length ∧ ∃ (ρ2 : List Addr) (h2 : Hs) (W2 : ASet) (acc : List AV) (vs : List V), Ext B ρ1 W1 H1 ρ2 W2 H2 ∧ RS (gX X cls) (add B d) ρ2 h2 S W2 σ H2 ∧ H2 d = some (.lst vs) ∧ VRs (gX X cls) H2 W2 ρ2 acc vs ∧
    (lcGo (fun S h => (evE F me S h).bind toV1) (fun S h => evTo F mco S h) mt src (wipeS S (own.map (·.2))) (its.drop i) acc h2).ens (fun rv h' => ∀ v H', EGood (gX X cls) B ρ W H S σ rv h' v H' → Q v H') (fun e h' => ∀ c d H', XGood (gX X cls) B ρ W H S σ e h' c d H' → XW c d σ H')
  refine ⟨fun i m H2 => m = its.length - i ∧ Iv i H2, ⟨its.length, by omega, Nat.zero_le _, ρ1, h1, add W1 d, [], [], x0, R2, upd_same, by simp only [VRs], q⟩, ?_⟩
  rintro i m H2 ⟨rfl, hle, ρ2, h2, W2, acc, vs, x2, R3, l3, r3, q3⟩
  have w2 : W2 d := R3.base d (.inr rfl)
  have nr2 : d ∉ ρ2 := fun z => R3.out d z (.inr rfl)
  have x2g : Ext (add B d) ρ1 W1 H1 ρ2 W2 H2 := x2.guardN hd
  cases hx : its[i]? with
  | none =>
    have hi : its.length ≤ i := List.getElem?_eq_none_iff.mp hx
    have hd0 : its.drop i = [] := List.drop_eq_nil_iff.mpr hi
    rw [hd0] at q3
    simp only [lcGo] at q3
    split at q3
    case isFalse => exact q3.elim
    rename_i hsrc
    exact .inl ⟨(it (add B d) ρ2 h2 S W2 σ H2 x2g R3 hsrc i).2 hi, q3 _ _ ⟨ρ2, W2, x1.trans x2 R.base, R3.unguard, d, rfl, w2, n2, nr2, R3.freeB (.inr rfl), vs, l3, r3⟩⟩
  | some x =>
    have hlt : i < its.length := (List.getElem?_eq_some_iff.mp hx).1
    have hd1 : its.drop i = x :: its.drop (i + 1) := by
      rw [List.drop_eq_getElem_cons hlt, (List.getElem?_eq_some_iff.mp hx).2]
    rw [hd1] at q3
    simp only [lcGo] at q3
    split at q3
    case isFalse => exact q3.elim
    rename_i hsrc
    obtain ⟨go, yl⟩ := (it (add B d) ρ2 h2 S W2 σ H2 x2g R3 hsrc i).1 x hx
    refine .inr ⟨go, Iv (i + 1), fun H' hv => ⟨its.length - (i + 1), by omega, rfl, hv⟩, fun v H3 hy => ?_⟩
    obtain ⟨x3, R4, rx⟩ := yl v H3 hy
    split at q3
    case h_2 => exact q3.elim
    rename_i S' eg
    refine ⟨add B d, ρ2, h2, _, W2, x, S', R4.wipe, rx, eg, fun σ2 R5 hlen hout => ⟨?_, ?_⟩⟩
    · refine wipe_ext (by rw [hlen, wipe_length]) fun j hj => ?_
      rw [hout j fun z => hj (hsl j z), wipe_out hj]
    have keepOwn : ∀ (j : Nat) c, S[j]? = some (SV.own c) → S'[j]? = some (SV.own c) ∧ σ2[j]? = σ[j]? := fun j c hj => by
      have nj := nOwn j c hj
      have ns : j ∉ slotsT mt := fun z => nj (hsl j z)
      exact ⟨by rw [evG_out eg ns, wipeS_get, if_neg nj]; exact hj, by rw [hout j ns, wipe_out nj]⟩
    rw [ens_bind] at q3
    refine ⟨add B d, ρ2, h2, S', W2, R5, ens_ext (noX_ens' q3) (fun b h3 q4 H4 g4 => ?_) fun e h' k c d H' g => k.elim⟩
    obtain ⟨ρ3, W3, x4, R6⟩ := g4
    have x34 := x3.trans x4 R3.base
    split at q4
    · rename_i hb
      subst hb
      rw [if_pos rfl]
      rw [ens_bind] at q4
      have q5 := noX_ens' q4
      rw [ens_bind] at q5
      refine ⟨add B d, ρ3, h3, S', W3, R6, ens_ext q5 (fun rv h4 q6 v4 H5 g5 => ?_) fun e h' k c d H' g => k.elim⟩
      obtain ⟨y, ey, q6⟩ := ens_ok1 q6
      obtain ⟨ρ4, W4, x5, R7, ry⟩ := g5.toV ey R6.base
      have x35 := x34.trans x5 R3.base
      have l5 : H5 d = some (.lst vs) := x35.keep d _ (.inr (.inr rfl)) l3
      have r5 := VRs.mv x35.sub x35.pre _ _ r3
      split at q6
      case isFalse => exact q6.elim
      rename_i hz
      refine ⟨vs, l5, by rw [← r3.length]; exact hz, hlt, ρ4, h4, W4, acc ++ [y], vs ++ [v4], ?_, ?_, upd_same, ?_, q6⟩
      · exact (x2.trans x35.unguard R1.base).trans (Ext.poke (R7.base d (.inr rfl)) n2 l5) R1.base
      · exact (R3.join x35 R7 keepOwn).poke (R7.base d (.inr rfl)) (fun z => R7.out d z (.inr rfl)) ((R3.join x35 R7 keepOwn).freeB (.inr rfl))
      · have sb : Sub W4 H5 W4 (upd H5 d (.lst (vs ++ [v4]))) := sub_set (R7.base d (.inr rfl))
        exact (VRs.mv sb pre_refl _ _ r5).snoc (VR.mv sb pre_refl _ _ ry)
    · rename_i hb
      rw [if_neg hb]
      have l5 : H4 d = some (.lst vs) := x34.keep d _ (.inr (.inr rfl)) l3
      exact ⟨hlt, ρ3, h3, W3, acc, vs, x2.trans x34.unguard R1.base, R3.join x34 R6 keepOwn, l5, VRs.mv x34.sub x34.pre _ _ r3, q4⟩
theorem st_lcm (o : OK T F cls N sc XW X) {elt tg iter : Expr} {ifs : List Expr} {scope : Scope} {pos : Pos} {me : ME} {mt : MT} {mi : MI} {mco : Option MC} {own : List (Str × Nat)}
    (hi : PI X tg iter (rdI (gX X cls) F XW mi)) (hb : blkC N { kind := .function, names := sc, isGenerator := false, isCoroutine := false } scope own = true) (hsl : ∀ i ∈ slotsT mt, i ∈ own.map (·.2))
    (hg : ∀ X' : Cx, OK T F cls N scope.names XW0 X' → PG X' tg (rdG (gX X' cls) mt)) (he : ∀ X' : Cx, OK T F cls N scope.names XW0 X' → PE X' elt (rdE (gX X' cls) F XW0 me))
    (ht : ∀ X' : Cx, OK T F cls N scope.names XW0 X' → PTs X' ifs (rdTo (gX X' cls) F XW0 mco)) (hs : ∀ x, foldedSetIterable iter X.env x = pure x) :
    PE X (.ListComp elt [⟨tg, iter, ifs, 0⟩] scope pos) (rdE (gX X cls) F XW (.lcm me mt mi mco own)) := by
  exact PE.imp (pe_lc (own := own) (g := rdG (gX X cls) mt) (tt := rdTo (gX X cls) F XW0 mco) (te := rdE (gX X cls) F XW0 me) o.calm (by rw [o.eN]; exact o.nd) hi (o.blkOk hb) (fun s H C cl fp => hg _ (o.blk (blkOk_by hb).kind)) (fun s H C cl fp => ht _ (o.blk (blkOk_by hb).kind)) (fun s H C cl fp => he _ (o.blk (blkOk_by hb).kind)) hs) fun σ H Q q => lcm_rd hsl σ H Q q
end
end Mp


set_option Elab.async false
set_option linter.all false
set_option maxRecDepth 10000
set_option maxHeartbeats 1000000
/-! All expressions. -/
namespace Mp
open PySem PySem.Spec PyProof.Rows L2
section
variable {T : Nm} {F : Fn} {cls : Nat → Addr} {N : List Str} {sc : Ks} {XW : WX} {X : Cx}
theorem mth_facts (m : Mth) : PlainAttrs m.ty ∧ Slot m.ty m.name m.id ∧ typeOf (.builtin m.id) = pure (.type "method_descriptor") := by
  cases m
  · exact ⟨F.plainAttrs_str, F.slot_str_join, F.type_str_join⟩
  · exact ⟨F.plainAttrs_list, F.slot_list_append, F.type_list_append⟩
theorem rcv_ty {B : ASet} {ρ : List Addr} {h : Hs} {S : List SV} {W : ASet} {σ : L2.St} {H : Hp} {m : Mth} {x : RV} {v : V} (R : RS (gX X cls) B ρ h S W σ H) (r : RVR (gX X cls) H W B ρ S σ x v) (e : rcvOk h m x = true) : tyV X.K m.ty v H := by
  unfold rcvOk at e
  split at e
  · rename_i e1 e2
    have q := RVR.vw R r e2
    simp only [WR] at q
    subst q
    rw [e1]
    rfl
  · rename_i e1 e2
    obtain ⟨a, vs, rfl, l, q⟩ := RVR.vw R r e2
    rw [e1]
    exact .inl ⟨rfl, vs, SqL.of l⟩
  · rename_i e1 e2
    obtain ⟨a, vs, rfl, l, q⟩ := RVR.vw R r e2
    rw [e1]
    exact .inr (.inr (.inl ⟨rfl, .inl ⟨vs, l⟩⟩))
  · cases e
theorem okP_ok {α : Type} {o : Option (α × Hs)} {P : α → Hs → Prop} {E : Ex → Hs → Prop} (e : (okP o).ens P E) : ∃ a h, o = some (a, h) ∧ P a h := by
  cases o with
  | none => exact e.elim
  | some p => exact ⟨p.1, p.2, rfl, e⟩
theorem st_met (o : OK T F cls N sc XW X) {m : Mth} {a : Expr} {es : List Expr} {ma : ME} {ms : List ME} {apos cpos : Pos} (hl : (apos.endLine == cpos.line) = true) (hsup : noSuper a = true) (hfew : es.length < 20) (hs : ∀ e ∈ es, isStar e = false) (hlen : ms.length = es.length)
    (ha : PE X a (rdE (gX X cls) F XW ma)) (hb : PA X es (rdL (gX X cls) F XW ms)) : PE X (.Call (.Attribute a m.name apos) es [] cpos) (rdE (gX X cls) F XW (.met m ma ms)) := by
  obtain ⟨f1, f2, f3⟩ := mth_facts m
  have fin : ∀ σ H Q, rdE (gX X cls) F XW (.met m ma ms) σ H Q → tBM X.K m.ty (rM (gX X cls) m) (rdE (gX X cls) F XW ma) (rdL (gX X cls) F XW ms) σ H Q := fun σ H Q q => by
    obtain ⟨B, ρ, h, S, W, R, q⟩ := q
    simp only [evE, ens_bind] at q
    refine ⟨B, ρ, h, S, W, R, ens_mono q fun x h1 q v H1 g => ?_⟩
    obtain ⟨y, ey, q⟩ := ens_ok1 q
    obtain ⟨ρ1, W1, x1, R1, r1⟩ := g.hold ey R.base
    split at q
    case isFalse => exact q.elim
    rename_i hr
    rw [ens_bind] at q
    refine ⟨rcv_ty R1 r1 hr, B, ρ1, h1, S, W1, R1, ens_ext q (fun xs h2 q vs H2 g2 => ?_) fun e h' k c d H' g => k c d H' (g.ext R.base x1)⟩
    obtain ⟨ρ2, W2, x2, R2, r2⟩ := g2
    obtain ⟨rv, h3, e, q⟩ := okP_ok q
    exact ⟨B, ρ2, h2, S, W2, σ, y, xs, rv, h3, R2, RVR.hold x2 (hold_hold ey) r1, r2, e, fun v' H' g' => q v' H' ((g'.ext R1.base x2).ext R.base x1)⟩
  cases es with
  | nil =>
    have em : ms = [] := List.length_eq_zero_iff.mp hlen
    subst em
    refine PE.imp (pe_bm0 f1 f2 f3 (mth_ok (cls := cls) m) ha (base_plain hsup _ _ _) hl) fun σ H Q q => ?_
    obtain ⟨B, ρ, h, S, W, R, q⟩ := fin σ H Q q
    refine ⟨B, ρ, h, S, W, R, ens_mono q fun x h1 q v H1 g => ?_⟩
    obtain ⟨ty, B2, ρ2, h2, S2, W2, R2, q2⟩ := q v H1 g
    exact ⟨ty, q2 [] H1 ⟨ρ2, W2, Ext.refl, R2, by simp only [VRs]⟩⟩
  | cons e es =>
    have h1 := star_no (hs e List.mem_cons_self) es X.env
    have h2 : (backTo cpos (starEach es X.env)).any (·.1) = false := any_star _ _ fun y hy => hs y (List.mem_cons_of_mem _ hy)
    refine PE.imp (pe_bm f1 f2 f3 (mth_ok (cls := cls) m) ha hb (base_plain hsup _ _ _) ?_ hl h1 h2) fin
    rw [all_star _ _ hs]
    have : es.length + 1 + 0 + 1 < 30 := by simp only [List.length_cons] at hfew; omega
    simp [backToKw, keywordEach]
    omega
theorem st_cel (o : OK T F cls N sc XW X) {e : Expr} {m : ME} (ha : PE X e (rdE (gX X cls) F XW m)) : PE X e (rdE (gX X cls) F XW (.cel m)) := by
  refine PE.imp ha fun σ H Q q => ?_
  obtain ⟨B, ρ, h, S, W, R, q⟩ := q
  simp only [evE, ens_bind] at q
  refine ⟨B, ρ, h, S, W, R, ens_mono q fun x h1 q v H1 g => ?_⟩
  split at q
  · obtain ⟨ρ1, W1, x1, R1, r1⟩ := g
    obtain ⟨a, rfl, g1, g2, g3, g4, g5⟩ := r1
    refine q _ _ ⟨ρ1 ++ [a], W1, x1.trans Ext.cell R.base, R1.cell g1 g2 g3 g4 g5, ?_⟩
    simp only [RVR, VR]
    refine ⟨a, ?_, rfl⟩
    rw [← R1.len, List.getElem?_append_right (Nat.le_refl _)]
    simp
  · exact q.elim
theorem folded {e : Expr} (h : (match e with | .Set _ _ _ => false | _ => true) = true) (env : Env) : ∀ x, foldedSetIterable e env x = pure x := by
  intro x
  cases e <;> first | rfl | (simp at h)
theorem gl_name {N : List Str} {x : Str} (h : okN x = true) : x ≠ "__name__" := okN_3 h
mutual
theorem sndE : ∀ (m : ME) (sc : Ks) (XW : WX) (X : Cx) (e : Expr), OK T F cls N sc XW X → mE T N sc m e = true → PE X e (rdE (gX X cls) F XW m)
  | .var i, sc, XW, X, e, o, h => by
    simp only [mE] at h
    split at h
    · simp only [Bool.and_eq_true, decide_eq_true_eq] at h
      exact st_var o h.1.1 h.1.2 h.2
    · cases h
  | .cst d, sc, XW, X, e, o, h => by
    simp only [mE] at h
    split at h
    · exact st_cst h
    · cases h
  | .glo j, sc, XW, X, e, o, h => by
    simp only [mE] at h
    split at h
    · simp only [Bool.and_eq_true, decide_eq_true_eq] at h
      exact st_glo o h.1.1 h.1.2 h.2
    · cases h
  | .bin op a b, sc, XW, X, e, o, h => by
    simp only [mE] at h
    split at h
    · simp only [Bool.and_eq_true, decide_eq_true_eq] at h
      obtain ⟨⟨rfl, h1⟩, h2⟩ := h
      exact st_bin o (sndE a sc XW X _ o h1) (sndE b sc XW X _ o h2)
    · cases h
  | .neg a, sc, XW, X, e, o, h => by
    simp only [mE] at h
    split at h
    · exact st_neg o (sndE a sc XW X _ o h)
    · cases h
  | .cmp op a b, sc, XW, X, e, o, h => by
    simp only [mE] at h
    split at h
    · simp only [Bool.and_eq_true, decide_eq_true_eq, Bool.not_eq_true'] at h
      obtain ⟨⟨⟨rfl, h1⟩, h2⟩, h3⟩ := h
      exact st_cmp o h3 (sndE a sc XW X _ o h1) (sndE b sc XW X _ o h2)
    · cases h
  | .chn p p' a b c, sc, XW, X, e, o, h => by
    simp only [mE] at h
    split at h
    · simp only [Bool.and_eq_true, decide_eq_true_eq, Bool.not_eq_true'] at h
      obtain ⟨⟨⟨⟨⟨rfl, rfl⟩, h1⟩, h2⟩, h3⟩, h4⟩ := h
      exact st_chn o h4 (sndE a sc XW X _ o h1) (sndE b sc XW X _ o h2) (sndE c sc XW X _ o h3)
    · cases h
  | .bop t es, sc, XW, X, e, o, h => by
    simp only [mE] at h
    split at h
    · simp only [Bool.and_eq_true, Bool.not_eq_true'] at h
      obtain ⟨⟨h1, h2⟩, h3⟩ := h
      exact sndB t es sc XW X _ _ _ o h1 h2 (by simpa using h3)
    · cases h
  | .nt a, sc, XW, X, e, o, h => by
    simp only [mE] at h
    split at h
    · exact st_nt o (sndE a sc XW X _ o h)
    · cases h
  | .ite c a b, sc, XW, X, e, o, h => by
    simp only [mE] at h
    split at h
    · simp only [Bool.and_eq_true] at h
      exact st_ite o (sndC c sc XW X _ o h.1.1) (sndE a sc XW X _ o h.1.2) (sndE b sc XW X _ o h.2)
    · cases h
  | .lst es, sc, XW, X, e, o, h => by
    simp only [mE] at h
    split at h
    · exact st_lst o (sndL es sc XW X _ o h)
    · cases h
  | .tup es, sc, XW, X, e, o, h => by
    simp only [mE] at h
    split at h
    · exact st_tup o (sndL es sc XW X _ o h)
    · cases h
  | .dct ks vs, sc, XW, X, e, o, h => by
    simp only [mE] at h
    split at h
    · refine PE.imp pe_dnewK fun σ H Q q => ?_
      obtain ⟨B, ρ, h, S, W, R, q⟩ := q
      intro p hp
      exact q _ _ (good_dic0 R hp)
    · cases h
  | .sub a i, sc, XW, X, e, o, h => by
    simp only [mE] at h
    split at h
    · simp only [Bool.and_eq_true, Bool.not_eq_true'] at h
      exact st_sub o h.2 (sndE a sc XW X _ o h.1.1) (sndE i sc XW X _ o h.1.2)
    · cases h
  | .slc a lo hi, sc, XW, X, e, o, h => by
    simp only [mE] at h
    split at h
    · simp only [Bool.and_eq_true] at h
      exact st_slc o (sndE a sc XW X _ o h.1.1) (sndO lo sc XW X _ o h.1.2) (sndO hi sc XW X _ o h.2)
    · cases h
  | .rev a, sc, XW, X, e, o, h => by
    simp only [mE] at h
    split at h
    · simp only [Bool.and_eq_true, decide_eq_true_eq] at h
      obtain ⟨h1, rfl⟩ := h
      exact st_rev o (sndE a sc XW X _ o h1)
    · cases h
  | .isi a cs, sc, XW, X, e, o, h => by
    simp only [mE] at h
    split at h
    · rename_i x p a' c' ks pos
      simp only [Bool.and_eq_true, decide_eq_true_eq, Bool.not_eq_true'] at h
      obtain ⟨⟨⟨⟨⟨rfl, h1⟩, h2⟩, h3, hs⟩, h4⟩, h5⟩ := h
      split at h5
      · rename_i c
        unfold tcOk at h5
        split at h5
        · rename_i n x p
          simp only [Bool.and_eq_true, decide_eq_true_eq] at h5
          obtain ⟨⟨⟨⟨rfl, g1⟩, g2⟩, g3⟩, g4⟩ := h5
          have ks0 : ks = [] := by simpa using h4
          subst ks0
          exact st_isi o h1 h2 g1 g2 g3 g4 hs (sndE a sc XW X _ o h3)
        · cases h5
      · cases h5
    · cases h
  | .cal f es, sc, XW, X, e, o, h => by
    simp only [mE] at h
    split at h
    · rename_i x p es' ks pos
      simp only [Bool.and_eq_true, decide_eq_true_eq] at h
      obtain ⟨⟨⟨⟨h1, h2⟩, h3⟩, h4⟩, h5⟩ := h
      have ks0 : ks = [] := by simpa using h5
      subst ks0
      exact st_cal o h1 h2 h3 (mL_star h4) (mL_len h4) (sndL es sc XW X _ o h4)
    · cases h
  | .blt b es, sc, XW, X, e, o, h => by
    simp only [mE] at h
    split at h
    · rename_i x p es' ks pos
      simp only [Bool.and_eq_true, decide_eq_true_eq, Bool.not_eq_true'] at h
      obtain ⟨⟨⟨⟨⟨rfl, h2⟩, h3⟩, h4⟩, h5⟩, h6⟩ := h
      have ks0 : ks = [] := by simpa using h5
      subst ks0
      cases es' with
      | nil =>
        have := mL_len h4
        cases es with
        | nil => simp at h6
        | cons _ _ => simp at this
      | cons e' es' => exact st_blt o h2 h3 (mL_star h4) (sndR es sc XW X _ o h4)
    · cases h
  | .met m a es, sc, XW, X, e, o, h => by
    simp only [mE] at h
    split at h
    · rename_i a' n apos es' ks cpos
      simp only [Bool.and_eq_true, decide_eq_true_eq] at h
      obtain ⟨⟨⟨⟨⟨⟨rfl, h1⟩, h2⟩, h3⟩, h4⟩, h5⟩, h6⟩ := h
      have ks0 : ks = [] := by simpa using h6
      subst ks0
      exact st_met o h1 h2 (by rw [← mL_len h5]; exact h3) (mL_star h5) (mL_len h5) (sndE a sc XW X _ o h4) (sndL es sc XW X _ o h5)
    · cases h
  | .lcm elt tg it cs own, sc, XW, X, e, o, h => by
    simp only [mE] at h
    split at h
    · rename_i elt' tg' it' ifs' as scope pos
      simp only [Bool.and_eq_true, decide_eq_true_eq, List.all_eq_true] at h
      obtain ⟨⟨⟨⟨⟨⟨rfl, h1⟩, h2⟩, h3⟩, h4⟩, h5⟩, h6⟩ := h
      obtain ⟨i1, i2⟩ := sndI it sc XW X tg' it' o h3
      exact st_lcm o i1 h5 h6 (fun X' o' => tg_ok o' tg tg' h2) (fun X' o' => sndE elt scope.names XW0 X' elt' o' h1) (fun X' o' => sndCo cs scope.names XW0 X' ifs' o' h4) i2
    · cases h
  | .cel a, sc, XW, X, e, o, h => by
    simp only [mE] at h
    exact st_cel o (sndE a sc XW X _ o h)
theorem sndL : ∀ (ms : List ME) (sc : Ks) (XW : WX) (X : Cx) (es : List Expr), OK T F cls N sc XW X → mL T N sc ms es = true → PA X es (rdL (gX X cls) F XW ms)
  | [], sc, XW, X, es, o, h => by
    cases es with
    | nil => exact sl_nil
    | cons _ _ => simp [mL] at h
  | m :: ms, sc, XW, X, es, o, h => by
    cases es with
    | nil => simp [mL] at h
    | cons e es =>
      simp only [mL, Bool.and_eq_true, Bool.not_eq_true'] at h
      exact sl_cons h.1.2 (sndE m sc XW X _ o h.1.1) (sndL ms sc XW X _ o h.2)
theorem sndR : ∀ (ms : List ME) (sc : Ks) (XW : WX) (X : Cx) (es : List Expr), OK T F cls N sc XW X → mL T N sc ms es = true → PA X es (rdR (gX X cls) F XW ms)
  | [], sc, XW, X, es, o, h => by
    cases es with
    | nil => exact sr_nil
    | cons _ _ => simp [mL] at h
  | m :: ms, sc, XW, X, es, o, h => by
    cases es with
    | nil => simp [mL] at h
    | cons e es =>
      simp only [mL, Bool.and_eq_true, Bool.not_eq_true'] at h
      exact sr_cons h.1.2 (sndE m sc XW X _ o h.1.1) (sndR ms sc XW X _ o h.2)
theorem sndB (t : Bool) : ∀ (ms : List ME) (sc : Ks) (XW : WX) (X : Cx) (es : List Expr) (p : BoolOp) (pos : Pos), OK T F cls N sc XW X → andOr t p = true → mL T N sc ms es = true → ms ≠ [] → PE X (.BoolOp p es pos) (rdB (gX X cls) F XW t ms)
  | [], sc, XW, X, es, p, pos, o, hp, h, hn => absurd rfl hn
  | [m], sc, XW, X, es, p, pos, o, hp, h, hn => by
    match es, h with
    | [], h => simp [mL] at h
    | [e], h =>
      simp only [mL, Bool.and_eq_true] at h
      exact sb_one (sndE m sc XW X _ o h.1.1)
    | e :: e' :: es, h => simp [mL] at h
  | m :: m' :: ms, sc, XW, X, es, p, pos, o, hp, h, hn => by
    match es, h with
    | [], h => simp [mL] at h
    | [e], h => simp [mL] at h
    | e :: e' :: es, h =>
      rw [mL] at h
      simp only [Bool.and_eq_true] at h
      exact sb_cons hp (sndE m sc XW X _ o h.1.1) (sndB t (m' :: ms) sc XW X (e' :: es) p pos o hp h.2 (by simp))
theorem sndO : ∀ (m : Option ME) (sc : Ks) (XW : WX) (X : Cx) (e : Option Expr), OK T F cls N sc XW X → mO T N sc m e = true → PO X e (rdO (gX X cls) F XW m)
  | none, sc, XW, X, e, o, h => by
    cases e with
    | none => exact so_none
    | some _ => simp [mO] at h
  | some m, sc, XW, X, e, o, h => by
    cases e with
    | none => simp [mO] at h
    | some e =>
      simp only [mO] at h
      exact so_some (sndE m sc XW X _ o h)
theorem sndC : ∀ (m : MC) (sc : Ks) (XW : WX) (X : Cx) (e : Expr), OK T F cls N sc XW X → mC T N sc m e = true → PT X e (rdT (gX X cls) F XW m)
  | .val a, sc, XW, X, e, o, h => by
    simp only [mC, Bool.and_eq_true] at h
    exact tt_val h.2 (sndE a sc XW X _ o h.1)
  | .cmp op a b, sc, XW, X, e, o, h => by
    simp only [mC] at h
    split at h
    · simp only [Bool.and_eq_true, decide_eq_true_eq, Bool.not_eq_true'] at h
      obtain ⟨⟨⟨rfl, h1⟩, h2⟩, h3⟩ := h
      exact tt_cmp o h3 (sndE a sc XW X _ o h1) (sndE b sc XW X _ o h2)
    · cases h
  | .chn p p' a b c, sc, XW, X, e, o, h => by
    simp only [mC] at h
    split at h
    · simp only [Bool.and_eq_true, decide_eq_true_eq, Bool.not_eq_true'] at h
      obtain ⟨⟨⟨⟨⟨rfl, rfl⟩, h1⟩, h2⟩, h3⟩, h4⟩ := h
      exact tt_chn o h4 (sndE a sc XW X _ o h1) (sndE b sc XW X _ o h2) (sndE c sc XW X _ o h3)
    · cases h
  | .bop t cs, sc, XW, X, e, o, h => by
    simp only [mC] at h
    split at h
    · simp only [Bool.and_eq_true, Bool.not_eq_true'] at h
      obtain ⟨⟨h1, h2⟩, h3⟩ := h
      exact PW.pt (PW.imp (sndCs t cs sc XW X _ _ _ o h1 h2 (by simpa using h3)) fun σ H Q q => q)
    · cases h
  | .nt c, sc, XW, X, e, o, h => by
    simp only [mC] at h
    split at h
    · exact tt_nt (sndC c sc XW X _ o h)
    · cases h
theorem sndCs (t : Bool) : ∀ (ms : List MC) (sc : Ks) (XW : WX) (X : Cx) (es : List Expr) (p : BoolOp) (pos : Pos), OK T F cls N sc XW X → andOr t p = true → mCs T N sc ms es = true → ms ≠ [] → PW X (.BoolOp p es pos) (rdTs (gX X cls) F XW t ms)
  | [], sc, XW, X, es, p, pos, o, hp, h, hn => absurd rfl hn
  | [m], sc, XW, X, es, p, pos, o, hp, h, hn => by
    match es, h with
    | [], h => simp [mCs] at h
    | [e], h =>
      simp only [mCs, Bool.and_eq_true] at h
      exact tb_one (sndC m sc XW X _ o h.1)
    | e :: e' :: es, h => simp [mCs] at h
  | m :: m' :: ms, sc, XW, X, es, p, pos, o, hp, h, hn => by
    match es, h with
    | [], h => simp [mCs] at h
    | [e], h => simp [mCs] at h
    | e :: e' :: es, h =>
      rw [mCs] at h
      simp only [Bool.and_eq_true] at h
      exact tb_cons hp (sndC m sc XW X _ o h.1) (sndCs t (m' :: ms) sc XW X (e' :: es) p pos o hp h.2 (by simp))
theorem sndCo : ∀ (m : Option MC) (sc : Ks) (XW : WX) (X : Cx) (es : List Expr), OK T F cls N sc XW X → mCo T N sc m es = true → PTs X es (rdTo (gX X cls) F XW m)
  | none, sc, XW, X, es, o, h => by
    cases es with
    | nil =>
      refine ⟨fun pins s σ H Q I q => pts_nil.run pins s σ H Q I ?_⟩
      obtain ⟨B, ρ, h, S, W, R, q⟩ := q
      exact q H ⟨ρ, W, Ext.refl, R⟩
    | cons _ _ => simp [mCo] at h
  | some m, sc, XW, X, es, o, h => by
    match es, h with
    | [], h => simp [mCo] at h
    | [e], h =>
      simp only [mCo] at h
      exact ⟨fun pins s σ H Q I q => (pts_one (sndC m sc XW X _ o h)).run pins s σ H Q I q⟩
    | _ :: _ :: _, h => simp [mCo] at h
theorem sndI : ∀ (m : MI) (sc : Ks) (XW : WX) (X : Cx) (tg e : Expr), OK T F cls N sc XW X → mI T N sc m e = true → PI X tg e (rdI (gX X cls) F XW m) ∧ ∀ x, foldedSetIterable e X.env x = pure x
  | .seq a, sc, XW, X, tg, e, o, h => by
    simp only [mI, Bool.and_eq_true] at h
    exact ⟨si_seq o (sndE a sc XW X _ o h.1), folded h.2 X.env⟩
  | .rng es, sc, XW, X, tg, e, o, h => by
    simp only [mI] at h
    split at h
    · rename_i x p es' ks pos
      simp only [Bool.and_eq_true, decide_eq_true_eq] at h
      obtain ⟨⟨⟨⟨⟨rfl, h1⟩, h2⟩, h3⟩, h4⟩, h5⟩ := h
      have ks0 : ks = [] := by simpa using h4
      subst ks0
      refine ⟨?_, fun x => rfl⟩
      have hs := mL_star h3
      have hl := mL_len h3
      have ha := sndL es sc XW X _ o h3
      match es, es', hl, ha, hs, h5 with
      | [], [], _, _, _, _ =>
        refine ⟨fun pins s σ H Q I q => ?_⟩
        obtain ⟨B, ρ, h, S, W, R, q⟩ := q
        exact q.elim
      | [m], [e], _, ha, hs, _ => exact si_rng1 o h1 h2 (hs e (by simp)) ha
      | [m, m2], [e, e2], _, ha, hs, _ => exact si_rng2 o h1 h2 (hs e (by simp)) (hs e2 (by simp)) ha
      | m :: m2 :: m3 :: ms, _, _, _, _, h5 => simp at h5
    · cases h
end
end
end Mp


set_option Elab.async false
set_option linter.all false
set_option maxRecDepth 10000
set_option maxHeartbeats 1000000
/-! Statements. -/
namespace Mp
open PySem PySem.Spec PyProof.Rows L2
/-- what is wished behind a statement, by its worth -/
def SE (G : Gd) (B : ASet) (ρ : List Addr) (W : ASet) (H : Hp) (XW : WX) (D : Ends) (r : SRes) : Prop := match r with
  | .nx S' h' => ∀ σ' H', BGood G B ρ W H S' σ' h' H' → D.nx σ' H'
  | .bk S' h' => ∀ σ' H', BGood G B ρ W H S' σ' h' H' → D.bk σ' H'
  | .ct S' h' => ∀ σ' H', BGood G B ρ W H S' σ' h' H' → D.ct σ' H'
  | .rt rv h' => ∀ v H', EGood G B ρ W H [] [] rv h' v H' → D.rt v H'
  | .exc e S' h' => ∀ c d σ' H', XGood G B ρ W H S' σ' e h' c d H' → XW c d σ' H'
  | .bad => False
section
variable {G : Gd} {B : ASet} {ρ ρ' : List Addr} {W W' : ASet} {H H' : Hp} {XW : WX} {D D' : Ends}
theorem SE.ext {r : SRes} (bw : ∀ a, B a → W a) (x : Ext B ρ W H ρ' W' H') (q : SE G B ρ W H XW D r) : SE G B ρ' W' H' XW D r := by
  cases r with
  | nx S h => exact fun σ H g => q σ H (g.ext bw x)
  | bk S h => exact fun σ H g => q σ H (g.ext bw x)
  | ct S h => exact fun σ H g => q σ H (g.ext bw x)
  | rt rv h => exact fun v H g => q v H (g.ext bw x)
  | exc e S h => exact fun c d σ H g => q c d σ H (g.ext bw x)
  | bad => exact q
theorem SE.st {α : Type} {r : Res α} {S : List SV} {f : α → Hs → SRes} (q : SE G B ρ W H XW D (r.st S f)) : r.ens (fun a h => SE G B ρ W H XW D (f a h)) (fun e h => ∀ c d σ' H', XGood G B ρ W H S σ' e h c d H' → XW c d σ' H') := by
  cases r with
  | ok a h => exact q
  | exc e h => exact q
  | bad => exact q
end
section
variable {T : Nm} {F : Fn} {cls : Nat → Addr} {N : List Str} {sc : Ks} {XW : WX} {X : Cx}
def rdS (G : Gd) (F : Fn) (XW : WX) (m : MS) : TS := fun D σ H => ∃ (B : ASet) (ρ : List Addr) (h : Hs) (S : List SV) (W : ASet), RS G B ρ h S W σ H ∧ SE G B ρ W H XW D (evS F m S h)
def rdSs (G : Gd) (F : Fn) (XW : WX) (ms : List MS) : TS := fun D σ H => ∃ (B : ASet) (ρ : List Addr) (h : Hs) (S : List SV) (W : ASet), RS G B ρ h S W σ H ∧ SE G B ρ W H XW D (evSs F ms S h)
theorem PS.imp {st : Stmt} {t t' : TS} (h : PS X st t) (k : ∀ D σ H, t' D σ H → t D σ H) : PS X st t' := ⟨fun pins s σ H D I q => h.run pins s σ H D I (k _ _ _ q)⟩
theorem PSs.imp {st : List Stmt} {t t' : TS} (h : PSs X st t) (k : ∀ D σ H, t' D σ H → t D σ H) : PSs X st t' := ⟨fun pins s σ H D I q => h.run pins s σ H D I (k _ _ _ q)⟩
theorem OK.slot (o : OK T F cls N sc XW X) {x : Str} (h : (match sc.lookup x with | some .local => true | some .cell => true | _ => false) = true) : Loc X.env.scope x ∧ (X.fn x = true ∨ X.env.scope.names.lookup x = some .local) := by
  split at h
  · rename_i e; exact ⟨.inl (o.vl x e), .inr (o.vl x e)⟩
  · rename_i e; exact ⟨.inr (o.vc x e).1, .inl (o.vc x e).2⟩
  · cases h
/-- name = value -/
theorem ss_name (o : OK T F cls N sc XW X) {i : Nat} {x : Str} {p pos : Pos} {e : Expr} {m : ME} (h1 : N[i]? = some x) (h2 : (match sc.lookup x with | some .local => true | some .cell => true | _ => false) = true)
    (hk : (swK sc x p m e).isSome = true) (hm : mE T N sc m e = true) : PS X (.Assign [.Name x p] e pos) (tAsg (rdE (gX X cls) F XW m) (gName i)) := by
  have ha := sndE m sc XW X e o hm
  obtain ⟨l1, l2⟩ := o.slot h2
  have nd : X.N.Nodup := by rw [o.eN]; exact o.nd
  have ix : X.N[i]? = some x := by rw [o.eN]; exact h1
  unfold swK at hk
  split at hk
  · rename_i elt c s pp
    split at hk
    · rename_i el
      split at hk
      · rename_i hc
        simp only [Bool.and_eq_true, Bool.not_eq_true'] at hc
        obtain ⟨⟨c1, c2⟩, c3⟩ := hc
        cases m <;> simp only [isLcm, Bool.false_eq_true] at c1
        rename_i elt' tg' it' cs' own
        simp only [mE] at hm
        split at hm
        case h_2 => cases hm
        rename_i elt2 tg2 it2 ifs2 as scope pos2 heq
        cases heq
        simp only [Bool.and_eq_true, decide_eq_true_eq, List.all_eq_true] at hm
        obtain ⟨⟨⟨⟨⟨⟨rfl, h1'⟩, h2'⟩, h3'⟩, h4'⟩, h5'⟩, h6'⟩ := hm
        obtain ⟨i1, i2⟩ := sndI it' sc XW X _ _ o h3'
        have bk := (blkOk_by h5').kind
        refine PS.imp (ps_setLc (i := i) (own := own) (g := rdG (gX X cls) tg') (tt := rdTo (gX X cls) F XW0 cs') (te := rdE (gX X cls) F XW0 elt') o.calm nd ix (o.vl x el) (sw_true o.kd (o.vl x el) c2 c3) i1 (o.blkOk h5')
          (fun s H C cl fp => tg_ok (o.blk bk) tg' _ h2') (fun s H C cl fp => sndCo cs' _ XW0 _ _ (o.blk bk) h4') (fun s H C cl fp => sndE elt' _ XW0 _ _ (o.blk bk) h1') i2) fun D σ H q => ?_
        exact lcm_rd h6' σ H _ q
      · cases hk
    · rename_i el
      refine ps_set nd ix l1 ha ?_ l2
      have : X.env.kindOf x = some .cell := (o.vc x el).1
      have e2 : (NameKind.cell == NameKind.local) = false := by decide
      simp [swapsWith, this, e2]
    · cases hk
  · cases hk
  · cases hk
  · cases hk
  · rename_i hn1 hn2 hn3 hn4
    refine ps_set nd ix l1 ha ?_ l2
    cases e <;> first | rfl | (exact absurd rfl (hn2 _ _ _ _)) | (exact absurd rfl (hn3 _ _ _ _)) | (exact absurd rfl (hn4 _ _ _ _ _))
theorem swap_no {e : Expr} (h : noComp e = true) (t : Option Expr) (l : Nat) (env : Env) : swapsWith e t l env = pure false := by
  cases e <;> first | rfl | (simp [noComp] at h)
theorem fm_lt {α β : Type} {f : α → Option β} {a : α} : ∀ {l : List α}, a ∈ l → f a = none → (l.filterMap f).length < l.length
  | b :: l, ha, hf => by
    rcases List.mem_cons.mp ha with e | ha
    · subst e
      rw [List.filterMap_cons_none hf]
      exact Nat.lt_succ_of_le (List.length_filterMap_le f l)
    · have ih := fm_lt ha hf
      cases q : f b with
      | none => rw [List.filterMap_cons_none q]; exact Nat.lt_succ_of_lt ih
      | some y => rw [List.filterMap_cons_some q]; exact Nat.succ_lt_succ ih
theorem left_no (o : OK T F cls N sc XW X) {ts : List Expr} {e : Expr} {k : Nat} {p : Pos} (h : leftOk sc ts e = true) : swappedStores [.Tuple ts k p] e X.env = pure none := by
  unfold leftOk at h
  split at h
  · rename_i vs k2 p2
    simp only [Bool.or_eq_true, Bool.not_eq_true', Bool.or_eq_false_iff, List.any_eq_true] at h
    rcases h with h | ⟨t, ht, h⟩
    · simp [swappedStores, h.1, h.2]
    · simp only [swappedStores]
      split
      · rfl
      · split
        · rfl
        · rw [if_pos]
          have key : (ts.filterMap fun | .Name id pos => if (X.env.kindOf id == some .local && pos.line == (ts.head?.map (·.pos.line)).getD 0) = true then some id else none | _ => none).length < ts.length := by
            refine fm_lt ht ?_
            split
            · rename_i x px
              simp only [decide_eq_true_eq] at h
              have : X.env.kindOf x = some .cell := (o.vc x h).1
              simp [this]
            · rfl
          simp only [bne_iff_ne, ne_eq, Bool.or_eq_true]
          exact .inl (Nat.ne_of_lt key)
  · rename_i hn
    cases e <;> first | rfl | (exact absurd rfl (hn _ _ _))
theorem st_asg (o : OK T F cls N sc XW X) {t : MT} {m : ME} {s : Stmt} (h : mS T N sc (.asg t m) s = true) : PS X s (rdS (gX X cls) F XW (.asg t m)) := by
  simp only [mS] at h
  split at h
  case h_2 => cases h
  rename_i tg e pos
  simp only [Bool.and_eq_true] at h
  obtain ⟨⟨h1, h2⟩, h3⟩ := h
  have core : ∀ D σ H, rdS (gX X cls) F XW (.asg t m) D σ H → tAsg (rdE (gX X cls) F XW m) (rdG (gX X cls) t) D σ H := fun D σ H q => by
    obtain ⟨B, ρ, h, S, W, R, q⟩ := q
    simp only [evS] at q
    refine ⟨B, ρ, h, S, W, R, ens_ext q.st (fun x h1 q v H1 g => ?_) fun e h k c d H' g => k c d σ H' g⟩
    obtain ⟨y, ey, q⟩ := ens_ok1 q.st
    obtain ⟨ρ1, W1, x1, R1, r1⟩ := g.toV ey R.base
    split at q
    · rename_i S' eg
      exact ⟨B, ρ1, h1, S, W1, y, S', R1, r1, eg, fun σ' R' _ _ => q σ' H1 ⟨ρ1, W1, x1, R'⟩⟩
    · exact q.elim
  split at h3
  · rename_i x p
    cases t with
    | tp ts => simp [mG] at h1
    | nm i =>
      simp only [mG, Bool.and_eq_true, decide_eq_true_eq] at h1
      refine PS.imp (ss_name o h1.1 h1.2 h3 h2) fun D σ H q => ?_
      obtain ⟨B, ρ, h, S, W, R, q⟩ := core D σ H q
      refine ⟨B, ρ, h, S, W, R, ens_mono q fun x h1 q v H1 g => ?_⟩
      obtain ⟨B2, ρ2, h2, S2, W2, y, S', R2, r2, eg, k⟩ := q v H1 g
      simp only [evG, Option.some.injEq] at eg
      subst eg
      refine k _ (R2.setV r2) (by simp) fun j hj => ?_
      simp only [slotsT, List.mem_singleton] at hj
      rw [List.getElem?_set_ne (Ne.symm hj)]
  · rename_i ts k p
    simp only [Bool.and_eq_true] at h3
    exact PS.imp (ps_asg (sndE m sc XW X e o h2) (tg_ok o t _ h1) (show swapsWithSole [Expr.Tuple ts k p] e pos.line X.env = pure false from swap_no h3.2 (some (Expr.Tuple ts k p)) pos.line X.env) (left_no o h3.1)) core
  · cases h3
theorem st_asO (o : OK T F cls N sc XW X) {i : Nat} {m : ME} {s : Stmt} (h : mS T N sc (.asO i m) s = true) : PS X s (rdS (gX X cls) F XW (.asO i m)) := by
  simp only [mS] at h
  split at h
  case h_2 => cases h
  rename_i x p e pos
  simp only [Bool.and_eq_true, mSlot, decide_eq_true_eq] at h
  obtain ⟨⟨⟨h1, h1'⟩, h2⟩, h3⟩ := h
  refine PS.imp (ss_name o h1 h1' h3 h2) fun D σ H q => ?_
  obtain ⟨B, ρ, h, S, W, R, q⟩ := q
  simp only [evS] at q
  refine ⟨B, ρ, h, S, W, R, ens_ext q.st (fun x h1 q v H1 g => ?_) fun e h k c d H' g => k c d σ H' g⟩
  split at q
  · obtain ⟨ρ1, W1, x1, R1, a, rfl, g1, g2, g3, g4, g5⟩ := g
    exact q _ H1 ⟨ρ1, W1, x1, R1.setO g1 g2 g3 g4 g5⟩
  · exact q.elim
theorem sub_assign {o i : Expr} {pos : Pos} (hs : isSlice i = false) (env : Env) : ∀ v, assign (.Subscript o i pos) env v = (do
      let ov ← holding [v] (eval o env)
      let iv ← holding [v, ov] (eval i env)
      standAt pos
      holding [v, ov, iv] (setItem ov iv v)
      release [v, ov, iv] []) := by
  intro v
  cases i <;> first | rfl | (simp [isSlice] at hs)
theorem st_asI (o : OK T F cls N sc XW X) {mo mi m : ME} {s : Stmt} (h : mS T N sc (.asI mo mi m) s = true) : PS X s (rdS (gX X cls) F XW (.asI mo mi m)) := by
  simp only [mS] at h
  split at h
  case h_2 => cases h
  rename_i oe ie p e pos
  simp only [Bool.and_eq_true, Bool.not_eq_true'] at h
  obtain ⟨⟨⟨h1, h2⟩, h3⟩, h4⟩ := h
  have hsw : swapsWithSole [.Subscript oe ie p] e pos.line X.env = pure false := by
    cases e <;> rfl
  have hss : swappedStores [.Subscript oe ie p] e X.env = pure none := by
    cases e <;> rfl
  refine PS.imp (ps_asg (sndE m sc XW X e o h4) (pg_sub (sndE mo sc XW X oe o h1) (sndE mi sc XW X ie o h2) set_list (sub_assign h3 _)) hsw hss) fun D σ H q => ?_
  obtain ⟨B, ρ, h, S, W, R, q⟩ := q
  simp only [evS] at q
  refine ⟨B, ρ, h, S, W, R, ens_ext q.st (fun x h1 q v H1 g => ?_) fun e h k c d H' g => k c d σ H' g⟩
  obtain ⟨y, ey, q⟩ := ens_ok1 q.st
  obtain ⟨ρ1, W1, x1, R1, r1⟩ := g.toV ey R.base
  refine ⟨B, ρ1, h1, S, W1, R1, ens_ext q.st (fun a h2 q va H2 g2 => ?_) fun e h k c d H' g => k c d σ H' (g.ext R.base x1)⟩
  obtain ⟨y', ey', q⟩ := ens_ok1 q.st
  obtain ⟨ρ2, W2, x2, R2, r2⟩ := g2.hold ey' R1.base
  have x12 := x1.trans x2 R.base
  refine ⟨B, ρ2, h2, S, W2, R2, ens_ext q.st (fun b h3 q vb H3 g3 => ?_) fun e h k c d H' g => k c d σ H' (g.ext R.base x12)⟩
  obtain ⟨ρ3, W3, x3, R3, r3⟩ := g3
  have x13 := x12.trans x3 R.base
  cases es : setO h3 y' b y with
  | none => rw [es] at q; exact q.elim
  | some h4 =>
    rw [es] at q
    unfold setO at es
    split at es
    case h_2 => cases es
    rename_i n
    split at es
    case h_2 => cases es
    rename_i xs j en
    simp only [Option.map_eq_some_iff] at es
    obtain ⟨k, ek, rfl⟩ := es
    simp only [RVR, VR, DR] at r2 r3
    subst r3
    obtain ⟨p, hp, rfl⟩ := r2
    have hp3 := pre_get x3.pre hp
    obtain ⟨wp, vs, l, rl⟩ := cell_lst R3 en hp3
    have r1' := VR.mv (x2.trans x3 R1.base).sub (x2.trans x3 R1.base).pre _ _ r1
    refine ⟨p, vs, j, k, rfl, rfl, l, by rw [← rl.length]; exact ek, q σ _ ⟨ρ3, W3, x13.trans (Ext.setC hp3 wp (R3.out p (List.mem_of_getElem? hp3))) R.base, R3.setC hp3 ?_⟩⟩
    exact ⟨_, upd_same, VRs.set k (VRs.mv (sub_set wp) pre_refl _ _ rl) (VR.mv (sub_set wp) pre_refl _ _ r1')⟩
theorem st_owA (o : OK T F cls N sc XW X) {j : Nat} {m : ME} {s : Stmt} (h : mS T N sc (.owA j m) s = true) : PS X s (rdS (gX X cls) F XW (.owA j m)) := by
  simp only [mS] at h
  split at h
  case h_2 => cases h
  rename_i x p n apos e ks cpos pos
  simp only [Bool.and_eq_true, decide_eq_true_eq, Bool.not_eq_true'] at h
  obtain ⟨⟨⟨⟨⟨⟨⟨rfl, h1⟩, h2⟩, h3⟩, h4⟩, h5⟩, h6⟩, h7⟩ := h
  have ks0 : ks = [] := by simpa using h5
  subst ks0
  have hv : PE X (.Name x p) (tVar j) := pe_var (i := j) (by rw [o.eN]; exact h1) (o.vis h2) (okN_1 h3) (okN_2 h3)
  have ha := sndE m sc XW X e o h6
  have st1 := star_no h7 [] X.env
  refine PS.imp (ps_expr (pe_bm PySem.F.plainAttrs_list PySem.F.slot_list_append PySem.F.type_list_append mt_append hv (pa_cons ha pa_nil st1) rfl (by rw [st1]; rfl) h4 st1 rfl) rfl) fun D σ H q => ?_
  obtain ⟨B, ρ, h, S, W, R, q⟩ := q
  simp only [evS] at q
  split at q
  case h_2 => exact q.elim
  rename_i xs es
  obtain ⟨u, hu, a, rfl, wa, nb, nr, vs, l, rl⟩ := R.sl j _ es
  refine ⟨.ref a, hu, .inl ⟨rfl, vs, SqL.of l⟩, B, ρ, h, S, W, R, ens_ext q.st (fun y h1 q v H1 g => ?_) fun e h k c d H' g => k c d σ H' g⟩
  obtain ⟨z, ez, q⟩ := ens_ok1 q.st
  split at q
  case isFalse => exact q.elim
  rename_i hz
  obtain ⟨ρ1, W1, x1, R1, r1⟩ := g.toV ez R.base
  obtain ⟨u1, hu1, a1, e1, wa1, nb1, nr1, vs1, l1, rl1⟩ := R1.sl j _ es
  rw [hu] at hu1
  cases hu1
  cases e1
  refine ⟨a, vs1, v, rfl, rfl, l1, by rw [← rl1.length]; exact hz, q σ _ ⟨ρ1, W1, x1.trans (Ext.poke wa1 nb1 l1) R.base, R1.setS es hu ?_⟩⟩
  exact ⟨_, upd_same, (VRs.mv (sub_set wa1) pre_refl _ _ rl1).snoc (VR.mv (sub_set wa1) pre_refl _ _ r1)⟩

/-! ### blocks, loops -/
theorem par_st : ∀ {is : List Nat} {xs : List AV} {S S' : List SV}, parO is xs S = some S' → is.length = xs.length
  | [], [], _, _, _ => rfl
  | [], _ :: _, _, _, e => by simp [parO] at e
  | _ :: _, [], _, _, e => by simp [parO] at e
  | i :: is, x :: xs, S, S', e => by
    simp only [parO] at e
    simp [par_st e]
theorem name_ne {i j : Nat} {x y : Str} (nd : N.Nodup) (h1 : N[i]? = some x) (h2 : N[j]? = some y) (h : i ≠ j) : x ≠ y := fun e => by
  subst e
  exact h (nodup_ix nd h1 h2)
theorem sw2 {env : Env} {x y : Str} {px py p1 p2 : Pos} {k1 k2 : Nat} {e1 e2 : Expr} (kx : env.kindOf x = some .local) (ky : env.kindOf y = some .local) (bk : env.blockKind = .function) (hl : py.line = px.line) (hxy : x ≠ y)
    (nst : ∀ e ∈ [e1, e2], isStar e = false) (nf : [e1, e2].all (foldedForSure 8) = false) (nc : [e1, e2].all (constantsAlone 8) = false) :
    swappedStores [.Tuple [.Name x px, .Name y py] k1 p1] (.Tuple [e1, e2] k2 p2) env = pure (some [x, y]) := by
  have hxy' : (x == y) = false := by simpa using hxy
  have hyx' : (y == x) = false := by simpa using Ne.symm hxy
  simp only [swappedStores]
  refine (if_neg ?a).trans ((if_neg ?b).trans ((if_neg ?c).trans ((if_neg ?d).trans ((if_neg ?e).trans ?f))))
  case a => simp [bk]
  case b =>
    intro h
    obtain ⟨e, he, h⟩ := List.any_eq_true.mp h
    have := nst e he
    cases e <;> simp_all [isStar]
  case c => simp [kx, ky, hl, List.eraseDups, List.eraseDupsBy, List.eraseDupsBy.loop, hxy', hyx', Expr.pos]
  case d => rw [nf]; exact fun z => nomatch z
  case e => rw [nc]; exact fun z => nomatch z
  case f => simp [kx, ky, hl, Expr.pos]
theorem sw3 {env : Env} {x y z : Str} {px py pz p1 p2 : Pos} {k1 k2 : Nat} {e1 e2 e3 : Expr} (kx : env.kindOf x = some .local) (ky : env.kindOf y = some .local) (kz : env.kindOf z = some .local) (bk : env.blockKind = .function) (hl : py.line = px.line) (hl2 : pz.line = px.line)
    (hxy : x ≠ y) (hxz : x ≠ z) (hyz : y ≠ z)
    (nst : ∀ e ∈ [e1, e2, e3], isStar e = false) (nf : [e1, e2, e3].all (foldedForSure 8) = false) (nc : [e1, e2, e3].all (constantsAlone 8) = false) :
    swappedStores [.Tuple [.Name x px, .Name y py, .Name z pz] k1 p1] (.Tuple [e1, e2, e3] k2 p2) env = pure (some [x, y, z]) := by
  have hxy' : (x == y) = false := by simpa using hxy
  have hyx' : (y == x) = false := by simpa using Ne.symm hxy
  have hxz' : (x == z) = false := by simpa using hxz
  have hzx' : (z == x) = false := by simpa using Ne.symm hxz
  have hyz' : (y == z) = false := by simpa using hyz
  have hzy' : (z == y) = false := by simpa using Ne.symm hyz
  simp only [swappedStores]
  refine (if_neg ?a).trans ((if_neg ?b).trans ((if_neg ?c).trans ((if_neg ?d).trans ((if_neg ?e).trans ?f))))
  case a => simp [bk]
  case b =>
    intro h
    obtain ⟨e, he, h⟩ := List.any_eq_true.mp h
    have := nst e he
    cases e <;> simp_all [isStar]
  case c => simp [kx, ky, kz, hl, hl2, List.eraseDups, List.eraseDupsBy, List.eraseDupsBy.loop, hxy', hyx', hxz', hzx', hyz', hzy', Expr.pos]
  case d => rw [nf]; exact fun z => nomatch z
  case e => rw [nc]; exact fun z => nomatch z
  case f => simp [kx, ky, kz, hl, hl2, Expr.pos]
theorem st_par (o : OK T F cls N sc XW X) {is : List Nat} {ms : List ME} {s : Stmt} (h : mS T N sc (.par is ms) s = true) : PS X s (rdS (gX X cls) F XW (.par is ms)) := by
  simp only [mS] at h
  split at h
  case h_2 => cases h
  rename_i ts k1 p1 es k2 p2 pos
  simp only [Bool.and_eq_true, Bool.or_eq_true, beq_iff_eq, decide_eq_true_eq, Bool.not_eq_true'] at h
  obtain ⟨⟨⟨⟨⟨⟨h1, h2⟩, h3⟩, h4⟩, h5⟩, h6⟩, h7⟩ := h
  have hs := mL_star h1
  have ha := sndL ms sc XW X es o h1
  have nd : X.N.Nodup := by rw [o.eN]; exact o.nd
  have bk : X.env.blockKind = .function := by simp [Env.blockKind, o.kd, ScopeKind.isAnnotationScope]
  have core : ∀ D σ H, rdS (gX X cls) F XW (.par is ms) D σ H → rdL (gX X cls) F XW ms σ H fun vs H1 => ∃ (B : ASet) (ρ1 : List Addr) (h1 : Hs) (S : List SV) (W1 : ASet) (xs : List AV) (S' : List SV), RS (gX X cls) B ρ1 h1 S W1 σ H1 ∧ VRs (gX X cls) H1 W1 ρ1 xs vs ∧ parO is xs S = some S' ∧ ∀ σ', RS (gX X cls) B ρ1 h1 S' W1 σ' H1 → D.nx σ' H1 := fun D σ H q => by
    obtain ⟨B, ρ, h, S, W, R, q⟩ := q
    simp only [evS] at q
    refine ⟨B, ρ, h, S, W, R, ens_ext q.st (fun xs h1 q vs H1 g => ?_) fun e h k c d H' g => k c d σ H' g⟩
    obtain ⟨ρ1, W1, x1, R1, r1⟩ := g
    split at q
    · rename_i S' e
      exact ⟨B, ρ1, h1, S, W1, xs, S', R1, r1, e, fun σ' R' => q σ' H1 ⟨ρ1, W1, x1, R'⟩⟩
    · exact q.elim
  rcases h2 with h2 | h2
  · match ts, es, is, h2, h3, h4, h5, h6, h7, hs, ha, core with
    | [t1, t2], [e1, e2], [], _, _, _, h5, _, _, _, _, _ => simp [mPar] at h5
    | [t1, t2], [e1, e2], [i], _, _, _, h5, _, _, _, _, _ => simp [mPar] at h5
    | [t1, t2], [e1, e2], i :: j :: l :: is, _, _, _, h5, _, _, _, _, _ => simp [mPar] at h5
    | [t1, t2], [e1, e2], [i, j], hA, hB, h4, h5, h6, h7, hs, ha, core =>
      simp only [mPar, Bool.and_eq_true] at h5
      obtain ⟨g1, g2, hC⟩ := h5
      split at g1
      case h_2 => cases g1
      rename_i x px
      split at g2
      case h_2 => cases g2
      rename_i y py
      simp only [Bool.and_eq_true, decide_eq_true_eq, beq_iff_eq] at g1 g2
      have hij : i ≠ j := by simpa using h4
      have hxy := name_ne o.nd g1.1.1 g2.1.1 hij
      have hw := sw2 (p1 := p1) (p2 := p2) (k1 := k1) (k2 := k2) (o.vl x g1.1.2) (o.vl y g2.1.2) bk g2.2 hxy hs h6 h7
      refine PS.imp (ps_par o.calm nd (by rw [o.eN]; exact g1.1.1) (by rw [o.eN]; exact g2.1.1) hij (o.vl x g1.1.2) (o.vl y g2.1.2) ha hw rfl) fun D σ H q => ?_
      obtain ⟨B, ρ, h, S, W, R, q⟩ := core D σ H q
      refine ⟨B, ρ, h, S, W, R, ens_mono q fun xs h1 q vs H1 g => ?_⟩
      obtain ⟨B2, ρ2, h2, S2, W2, ys, S', R2, r2, e, k⟩ := q vs H1 g
      match ys, r2, e with
      | [], r2, e => simp [parO] at e
      | [_], r2, e => simp [parO] at e
      | a :: b :: c :: ys, r2, e => simp [parO] at e
      | [a, b], r2, e =>
        simp only [parO, Option.some.injEq] at e
        subst e
        simp only [VRs] at r2
        obtain ⟨v, r, rfl, ra, w, r', rfl, rb, rfl⟩ := r2
        exact ⟨v, w, rfl, k _ ((R2.setV ra).setV rb)⟩
  · match ts, es, is, h2, h3, h4, h5, h6, h7, hs, ha, core with
    | [t1, t2, t3], [e1, e2, e3], [], _, _, _, h5, _, _, _, _, _ => simp [mPar] at h5
    | [t1, t2, t3], [e1, e2, e3], [i], _, _, _, h5, _, _, _, _, _ => simp [mPar] at h5
    | [t1, t2, t3], [e1, e2, e3], [i, j], _, _, _, h5, _, _, _, _, _ => simp [mPar] at h5
    | [t1, t2, t3], [e1, e2, e3], i :: j :: l :: m :: is, _, _, _, h5, _, _, _, _, _ => simp [mPar] at h5
    | [t1, t2, t3], [e1, e2, e3], [i, j, l], hA, hB, h4, h5, h6, h7, hs, ha, core =>
      simp only [mPar, Bool.and_eq_true] at h5
      obtain ⟨g1, g2, g3, hC⟩ := h5
      split at g1
      case h_2 => cases g1
      rename_i x px
      split at g2
      case h_2 => cases g2
      rename_i y py
      split at g3
      case h_2 => cases g3
      rename_i z pz
      simp only [Bool.and_eq_true, decide_eq_true_eq, beq_iff_eq] at g1 g2 g3
      simp only [List.nodup_cons, List.mem_cons, List.not_mem_nil, or_false, not_or, not_false_eq_true, List.nodup_nil, and_true] at h4
      obtain ⟨⟨hij, hil⟩, hjl⟩ := h4
      have hw := sw3 (p1 := p1) (p2 := p2) (k1 := k1) (k2 := k2) (o.vl x g1.1.2) (o.vl y g2.1.2) (o.vl z g3.1.2) bk g2.2 g3.2 (name_ne o.nd g1.1.1 g2.1.1 hij) (name_ne o.nd g1.1.1 g3.1.1 hil) (name_ne o.nd g2.1.1 g3.1.1 hjl) hs h6 h7
      refine PS.imp (ps_par3 o.calm nd (by rw [o.eN]; exact g1.1.1) (by rw [o.eN]; exact g2.1.1) (by rw [o.eN]; exact g3.1.1) hij hil hjl (o.vl x g1.1.2) (o.vl y g2.1.2) (o.vl z g3.1.2) ha hw rfl) fun D σ H q => ?_
      obtain ⟨B, ρ, h, S, W, R, q⟩ := core D σ H q
      refine ⟨B, ρ, h, S, W, R, ens_mono q fun xs h1 q vs H1 g => ?_⟩
      obtain ⟨B2, ρ2, h2, S2, W2, ys, S', R2, r2, e, k⟩ := q vs H1 g
      match ys, r2, e with
      | [], r2, e => simp [parO] at e
      | [_], r2, e => simp [parO] at e
      | [_, _], r2, e => simp [parO] at e
      | a :: b :: c :: d :: ys, r2, e => simp [parO] at e
      | [a, b, c], r2, e =>
        simp only [parO, Option.some.injEq] at e
        subst e
        simp only [VRs] at r2
        obtain ⟨u, r, rfl, ra, v, r', rfl, rb, w, r'', rfl, rc, rfl⟩ := r2
        exact ⟨u, v, w, rfl, k _ (((R2.setV ra).setV rb).setV rc)⟩
theorem st_ex (o : OK T F cls N sc XW X) {m : ME} {s : Stmt} (h : mS T N sc (.ex m) s = true) : PS X s (rdS (gX X cls) F XW (.ex m)) := by
  simp only [mS] at h
  split at h
  case h_2 => cases h
  rename_i e pos
  simp only [Bool.and_eq_true] at h
  refine PS.imp (ps_expr (sndE m sc XW X e o h.1) (swap_no h.2 none pos.line X.env)) fun D σ H q => ?_
  obtain ⟨B, ρ, h, S, W, R, q⟩ := q
  simp only [evS] at q
  refine ⟨B, ρ, h, S, W, R, ens_ext q.st (fun x h1 q v H1 g => ?_) fun e h k c d H' g => k c d σ H' g⟩
  obtain ⟨ρ1, W1, x1, R1, r1⟩ := g
  exact q σ H1 ⟨ρ1, W1, x1, R1⟩
theorem st_ret (o : OK T F cls N sc XW X) {m : ME} {s : Stmt} (h : mS T N sc (.ret m) s = true) : PS X s (rdS (gX X cls) F XW (.ret m)) := by
  simp only [mS] at h
  split at h
  case h_2 => cases h
  rename_i e pos
  refine PS.imp (ps_ret (sndE m sc XW X e o h)) fun D σ H q => ?_
  obtain ⟨B, ρ, h, S, W, R, q⟩ := q
  simp only [evS] at q
  refine ⟨B, ρ, h, S, W, R, ens_ext q.st (fun x h1 q v H1 g => ?_) fun e h k c d H' g => k c d σ H' g⟩
  obtain ⟨ρ1, W1, x1, R1, r1⟩ := g
  cases x with
  | v a => exact q v H1 ⟨ρ1, W1, x1, R1.bare, r1⟩
  | f c =>
    obtain ⟨a, rfl, g1, g2, g3, g4, g5⟩ := r1
    exact q _ H1 ⟨ρ1, W1, x1, R1.bare, a, rfl, g1, g2, g3, fun i c hi => by simp at hi, g5⟩
  | b i c => exact q.elim
theorem st_retO (o : OK T F cls N sc XW X) {j : Nat} {s : Stmt} (h : mS T N sc (.retO j) s = true) : PS X s (rdS (gX X cls) F XW (.retO j)) := by
  simp only [mS] at h
  split at h
  case h_2 => cases h
  rename_i x p pos
  simp only [Bool.and_eq_true, decide_eq_true_eq] at h
  obtain ⟨⟨h1, h2⟩, h3⟩ := h
  refine PS.imp (ps_ret (pe_var (i := j) (by rw [o.eN]; exact h1) (o.vis h2) (okN_1 h3) (okN_2 h3))) fun D σ H q => ?_
  obtain ⟨B, ρ, h, S, W, R, q⟩ := q
  simp only [evS] at q
  split at q
  case h_2 => exact q.elim
  rename_i c es
  obtain ⟨u, hu, a, rfl, wa, nb, nr, hc⟩ := R.sl j _ es
  exact ⟨.ref a, hu, q _ H ⟨ρ, W, Ext.refl, R.bare, a, rfl, wa, nb, nr, fun i c hi => by simp at hi, hc⟩⟩
theorem ss_nil : PSs X [] (rdSs (gX X cls) F XW []) := by
  refine PSs.imp pss_nil fun D σ H q => ?_
  obtain ⟨B, ρ, h, S, W, R, q⟩ := q
  exact q σ H ⟨ρ, W, Ext.refl, R⟩
theorem ss_cons {s : Stmt} {ss : List Stmt} {m : MS} {ms : List MS} (h1 : PS X s (rdS (gX X cls) F XW m)) (h2 : PSs X ss (rdSs (gX X cls) F XW ms)) : PSs X (s :: ss) (rdSs (gX X cls) F XW (m :: ms)) := by
  refine PSs.imp (pss_cons h1 h2) fun D σ H q => ?_
  obtain ⟨B, ρ, h, S, W, R, q⟩ := q
  simp only [evSs] at q
  refine ⟨B, ρ, h, S, W, R, ?_⟩
  split at q
  · rename_i S1 h1 e
    rw [e]
    intro σ' H' g
    obtain ⟨ρ1, W1, x1, R1⟩ := g
    exact ⟨B, ρ1, h1, S1, W1, R1, q.ext R.base x1⟩
  · rename_i hn
    revert q hn
    cases evS F m S h with
    | nx S1 h1 => exact fun hn _ => absurd rfl (hn S1 h1)
    | rt rv h1 => exact fun _ q => q
    | bk S1 h1 => exact fun _ q => q
    | ct S1 h1 => exact fun _ q => q
    | exc e S1 h1 => exact fun _ q => q
    | bad => exact fun _ q => q
theorem st_ife (o : OK T F cls N sc XW X) {c : Expr} {a b : List Stmt} {pos : Pos} {mc : MC} {ma mb : List MS} (hc : mC T N sc mc c = true) (ha : PSs X a (rdSs (gX X cls) F XW ma)) (hb : PSs X b (rdSs (gX X cls) F XW mb)) : PS X (.If c a b pos) (rdS (gX X cls) F XW (.ife mc ma mb)) := by
  refine PS.imp (ps_if (sndC mc sc XW X c o hc) ha hb) fun D σ H q => ?_
  obtain ⟨B, ρ, h, S, W, R, q⟩ := q
  simp only [evS] at q
  refine ⟨B, ρ, h, S, W, R, ens_ext q.st (fun k h1 q H1 g => ?_) fun e h k c d H' g => k c d σ H' g⟩
  obtain ⟨ρ1, W1, x1, R1⟩ := g
  split at q
  · rename_i hk
    rw [if_pos hk]
    exact ⟨B, ρ1, h1, S, W1, R1, q.ext R.base x1⟩
  · rename_i hk
    rw [if_neg hk]
    exact ⟨B, ρ1, h1, S, W1, R1, q.ext R.base x1⟩
theorem st_for (o : OK T F cls N sc XW X) {tg it : Expr} {b : List Stmt} {pos : Pos} {mt : MT} {mi : MI} {mb : List MS} (h1 : mG N sc mt tg = true) (h2 : mI T N sc mi it = true) (hb : PSs X b (rdSs (gX X cls) F XW mb)) : PS X (.For tg it b [] pos) (rdS (gX X cls) F XW (.for_ mt mi mb)) := by
  obtain ⟨i1, i2⟩ := sndI mi sc XW X tg it o h2
  refine PS.imp (ps_for o.po o.calm i1 (tg_ok o mt tg h1) hb i2) fun D σ H q => ?_
  obtain ⟨B, ρ, h, S, W, R, q⟩ := q
  simp only [evS] at q
  refine ⟨B, ρ, h, S, W, R, ens_ext q.st (fun p h1 q J H1 g => ?_) fun e h k c d H' g => k c d σ H' g⟩
  obtain ⟨ρ1, W1, x1, R1, itk⟩ := g
  obtain ⟨its, src⟩ := p
  let Iv : Nat → L2.St → Hp → Prop := fun i σ2 H2 => i ≤ its.length ∧ ∃ (ρ2 : List Addr) (h2 : Hs) (S2 : List SV) (W2 : ASet), Ext B ρ1 W1 H1 ρ2 W2 H2 ∧ RS (gX X cls) B ρ2 h2 S2 W2 σ2 H2 ∧
    SE (gX X cls) B ρ W H XW D (forGo (fun S h => evSs F mb S h) mt src (its.drop i) S2 h2)
  refine ⟨fun i m σ2 H2 => m = its.length - i ∧ Iv i σ2 H2, ⟨its.length, by omega, Nat.zero_le _, ρ1, h1, S, W1, Ext.refl, R1, q⟩, ?_⟩
  rintro i m σ2 H2 ⟨rfl, hle, ρ2, h2, S2, W2, x2, R2, q2⟩
  have x02 := x1.trans x2 R.base
  cases hx : its[i]? with
  | none =>
    have hi : its.length ≤ i := List.getElem?_eq_none_iff.mp hx
    rw [List.drop_eq_nil_iff.mpr hi] at q2
    simp only [forGo] at q2
    split at q2
    case isFalse => exact q2.elim
    rename_i hsrc
    exact .inl ⟨(itk B ρ2 h2 S2 W2 σ2 H2 x2 R2 hsrc i).2 hi, q2 σ2 H2 ⟨ρ2, W2, x02, R2⟩⟩
  | some x =>
    have hlt : i < its.length := (List.getElem?_eq_some_iff.mp hx).1
    rw [List.drop_eq_getElem_cons hlt, (List.getElem?_eq_some_iff.mp hx).2] at q2
    simp only [forGo] at q2
    split at q2
    case isFalse => exact q2.elim
    rename_i hsrc
    obtain ⟨go, yl⟩ := (itk B ρ2 h2 S2 W2 σ2 H2 x2 R2 hsrc i).1 x hx
    refine .inr ⟨go, Iv (i + 1), fun σ' H' hv => ⟨its.length - (i + 1), by omega, rfl, hv⟩, fun v H3 hy => ?_⟩
    obtain ⟨x3, R3, rx⟩ := yl v H3 hy
    split at q2
    case h_2 => exact q2.elim
    rename_i S' eg
    refine ⟨B, ρ2, h2, S2, W2, x, S', R3, rx, eg, fun σ3 R4 _ _ => ⟨B, ρ2, h2, S', W2, R4, ?_⟩⟩
    have x03 := x02.trans x3 R.base
    have x13 := x2.trans x3 R1.base
    revert q2
    cases evSs F mb S' h2 with
    | nx S5 h5 =>
      intro q2 σ5 H5 g5
      obtain ⟨ρ5, W5, x5, R5⟩ := g5
      exact ⟨hlt, ρ5, h5, S5, W5, x13.trans x5 R1.base, R5, q2⟩
    | ct S5 h5 =>
      intro q2 σ5 H5 g5
      obtain ⟨ρ5, W5, x5, R5⟩ := g5
      exact ⟨hlt, ρ5, h5, S5, W5, x13.trans x5 R1.base, R5, q2⟩
    | bk S5 h5 => exact fun q2 σ5 H5 g5 => q2 σ5 H5 (g5.ext R.base x03)
    | rt rv h5 => exact fun q2 v H5 g5 => q2 v H5 (g5.ext R.base x03)
    | exc e S5 h5 => exact fun q2 c d σ5 H5 g5 => q2 c d σ5 H5 (g5.ext R.base x03)
    | bad => exact fun q2 => q2
mutual
theorem sndS : ∀ (m : MS) (s : Stmt), OK T F cls N sc XW X → mS T N sc m s = true → PS X s (rdS (gX X cls) F XW m)
  | .asg t e, s, o, h => st_asg o h
  | .par is es, s, o, h => st_par o h
  | .asO i e, s, o, h => st_asO o h
  | .asI a b e, s, o, h => st_asI o h
  | .owA j e, s, o, h => st_owA o h
  | .ex e, s, o, h => st_ex o h
  | .ret e, s, o, h => st_ret o h
  | .retO j, s, o, h => st_retO o h
  | .rtN, s, o, h => by
    simp only [mS] at h
    split at h
    · refine PS.imp ps_retN fun D σ H q => ?_
      obtain ⟨B, ρ, h, S, W, R, q⟩ := q
      exact q _ H (good_non R.bare)
    · cases h
  | .ife c a b, s, o, h => by
    simp only [mS] at h
    split at h
    · simp only [Bool.and_eq_true] at h
      exact st_ife o h.1.1 (sndSs a _ o h.1.2) (sndSs b _ o h.2)
    · cases h
  | .for_ t it b, s, o, h => by
    simp only [mS] at h
    split at h
    · rename_i tg e b' els pos
      simp only [Bool.and_eq_true] at h
      have e0 : els = [] := by simpa using h.2
      subst e0
      exact st_for o h.1.1.1 h.1.1.2 (sndSs b _ o h.1.2)
    · cases h
  | .brk, s, o, h => by
    simp only [mS] at h
    split at h
    · refine PS.imp ps_break fun D σ H q => ?_
      obtain ⟨B, ρ, h, S, W, R, q⟩ := q
      exact q σ H ⟨ρ, W, Ext.refl, R⟩
    · cases h
  | .cnt, s, o, h => by
    simp only [mS] at h
    split at h
    · refine PS.imp ps_continue fun D σ H q => ?_
      obtain ⟨B, ρ, h, S, W, R, q⟩ := q
      exact q σ H ⟨ρ, W, Ext.refl, R⟩
    · cases h
  | .pas, s, o, h => by
    simp only [mS] at h
    split at h
    · refine PS.imp ps_pass fun D σ H q => ?_
      obtain ⟨B, ρ, h, S, W, R, q⟩ := q
      exact q σ H ⟨ρ, W, Ext.refl, R⟩
    · cases h
theorem sndSs : ∀ (ms : List MS) (ss : List Stmt), OK T F cls N sc XW X → mSs T N sc ms ss = true → PSs X ss (rdSs (gX X cls) F XW ms)
  | [], ss, o, h => by
    cases ss with
    | nil => exact ss_nil
    | cons _ _ => simp [mSs] at h
  | m :: ms, ss, o, h => by
    cases ss with
    | nil => simp [mSs] at h
    | cons s ss =>
      simp only [mSs, Bool.and_eq_true] at h
      exact ss_cons (sndS m s o h.1) (sndSs ms ss o h.2)
end
end
end Mp


set_option Elab.async false
set_option linter.all false
set_option maxRecDepth 10000
set_option maxHeartbeats 1000000
/-! Defs. -/
namespace Mp
open PySem PySem.Spec PyProof.Rows L2
/-- the facts of a text at every place of its run -/
structure Fb (T : Nm) (F : Fn) (cls : Nat → Addr) (P : Program) (w : World) (K : PySem.W.Frag) (mg : Str → Option Value) (base : Heap) (k : Nat) : Prop where
  bl : ∀ x ∈ T.bl, mg x = none
  gc : ∀ (j : Nat) x, T.gcs[j]? = some x → ∃ u w, mg x = some u ∧ RelV w u ∧ ∀ H W, DR ⟨K, cls⟩ H W (F.gc j) w
  fn : ∀ (f : Nat) x n, T.fns[f]? = some (x, n) → ∃ a fd ps, mg x = some (.ref a) ∧ PySem.W.keepIn K (.ref a) = true ∧ FnOk P w K mg base (L2.CX P w) k a fd ps (spF ⟨K, cls⟩ (F.fn f) n) ∧ Binds K fd ps []
theorem start_get {N : List Str} {vs : List V} {i : Nat} : (L2.start N vs)[i]? = if i < vs.length then (vs[i]?).map some else if i < N.length then some none else none := by
  unfold L2.start
  by_cases h : i < vs.length
  · rw [if_pos h, List.getElem?_append_left (by simpa using h), List.getElem?_map]
  · rw [if_neg h, List.getElem?_append_right (by simpa using h), List.length_map]
    by_cases h2 : i < N.length
    · rw [if_pos h2, List.getElem?_replicate, if_pos (by omega)]
    · rw [if_neg h2, List.getElem?_replicate, if_neg (by omega)]
section
variable {T : Nm} {F : Fn} {cls : Nat → Addr} {P : Program} {w : World} {K : PySem.W.Frag} {mg : Str → Option Value} {base : Heap}
theorem start_RS {G : Gd} {B : ASet} {ρ : List Addr} {h : Hs} {W : ASet} {H : Hp} {as : List AV} {vs : List V} {N : List Str} {n : Nat} (R : RS G B ρ h [] W [] H) (r : VRs G H W ρ as vs) (hN : N.length = n) : RS G B ρ h (as.map .v ++ List.replicate (n - as.length) .no) W (L2.start N vs) H := by
  refine ⟨R.len, R.nd, R.sub, R.base, R.out, R.live, R.cel, fun i s hi => ?_, fun i j c c' a h1 => ?_⟩
  · rw [start_get]
    by_cases hl : i < as.length
    · rw [List.getElem?_append_left (by simpa using hl), List.getElem?_map] at hi
      cases q : as[i]? with
      | none => rw [q] at hi; cases hi
      | some x =>
        rw [q] at hi
        cases hi
        obtain ⟨v, hv, rv⟩ := r.get q
        rw [if_pos (by rw [← r.length]; exact hl), hv]
        exact ⟨some v, rfl, v, rfl, rv⟩
    · rw [List.getElem?_append_right (by simpa using hl), List.getElem?_replicate, List.length_map] at hi
      split at hi
      · rename_i h2
        cases hi
        rw [if_neg (by rw [← r.length]; exact hl), if_pos (by omega)]
        exact ⟨none, rfl, trivial⟩
      · cases hi
  · exfalso
    by_cases hl : i < as.length
    · rw [List.getElem?_append_left (by simpa using hl), List.getElem?_map] at h1
      cases q : as[i]? with
      | none => rw [q] at h1; cases h1
      | some x => rw [q] at h1; cases h1
    · rw [List.getElem?_append_right (by simpa using hl), List.getElem?_replicate] at h1
      split at h1 <;> cases h1
/-- THE RULE: a def whose body stands for the statements keeps the promise of its worth -/
theorem fn_ok {x qual : Str} {st : Stmt} {f : Addr} {fd : FuncData} {N ps : List Str} {k : Nat} {body : List MS} (FF : L2.Fun K x qual st f fd) (S : FnScope N ps (defScope st)) (fb : Fb T F cls P w K mg base k)
    (hm : mSs T N (defScope st).names body (defBody st) = true) : FnOk P w K mg base (L2.CX P w) (k + 1) f fd ps (spF ⟨K, cls⟩ (run F N.length body) ps.length) := by
  refine FF.okX S (fun vs H Q E h => h.1) fun cdv A outer s H vs Q E hr h => ?_
  obtain ⟨hl, B, ρ, h, as, R, r, q⟩ := h
  have o : OK T F cls N (defScope st).names (fun cls d _ H => E cls d H) (cxOf (L2.CX P w) P w K mg base N qual (defScope st) f cdv A outer s H E) := by
    refine ⟨⟨fb.bl, fb.gc, fun f x n e => ?_, hr.units⟩, rfl, S.nd, rfl, S.kind, fun x e => e, fun x e => ⟨e, rfl⟩, fun x e => .inl e, fun x e => e, takes_of rfl rfl rfl rfl, passes_of rfl⟩
    obtain ⟨a, fd, ps, h1, h2, h3, h4⟩ := fb.fn f x n e
    exact ⟨a, fd, ps, k, h1, h2, h3, h4, hr⟩
  refine ⟨_, sndSs body (defBody st) o hm, B, ρ, h, _, uni B ρ, start_RS R r rfl, ?_⟩
  simp only [run] at q
  revert q
  cases evSs F body (as.map .v ++ List.replicate (N.length - as.length) .no) h with
  | nx S' h' => exact fun q σ' H' ⟨ρ', W', x', R'⟩ => q _ H' (good_non R'.bare |> fun g => g.ext R.base x')
  | rt rv h' => exact fun q v H' g => q v H' g
  | exc e S' h' => exact fun q c d σ' H' ⟨ρ', W', x', R', r'⟩ => q c d H' ⟨ρ', W', x', R'.bare, r'⟩
  | bk S' h' => exact fun q => q.elim
  | ct S' h' => exact fun q => q.elim
  | bad => exact fun q => q.elim
end
end Mp


set_option Elab.async false
set_option linter.all false
set_option maxRecDepth 10000
set_option maxHeartbeats 1000000
/-! A text's defs one behind another, and the end of a law. -/
namespace Mp
open PySem PySem.Spec PyProof.Rows L2
abbrev Worth := List AV → Hs → Res RV
def noW : Worth := fun _ _ => .bad
def mkF (l : List Worth) (gc : List D) : Fn := ⟨fun f => l.getD f noW, fun j => gc.getD j .non⟩
section
variable {T : Nm} {l : List Worth} {gc : List D} {cls : Nat → Addr} {P : Program} {w : World} {K : PySem.W.Frag} {mg : Str → Option Value} {base : Heap} {k : Nat}
theorem Fb.snoc {fns : List (Str × Nat)} {gcs bl : List Str} {x : Str} {st : Stmt} {f : Addr} {fd : FuncData} {N ps : List Str} {body : List MS} (fb : Fb ⟨fns, gcs, bl⟩ (mkF l gc) cls P w K mg base k) (hl : fns.length = l.length) (FF : L2.Fun K x x st f fd)
    (hm : mg x = some (.ref f)) (bi : Binds K fd ps []) (S : FnScope N ps (defScope st)) (hb : mSs ⟨fns, gcs, bl⟩ N (defScope st).names body (defBody st) = true) :
    Fb ⟨fns ++ [(x, ps.length)], gcs, bl⟩ (mkF (l ++ [run (mkF l gc) N.length body]) gc) cls P w K mg base (k + 1) := by
  have ok := fn_ok FF S fb hb
  refine ⟨fb.bl, fb.gc, fun i y n e => ?_⟩
  have e : (fns ++ [(x, ps.length)])[i]? = some (y, n) := e
  by_cases hi : i < fns.length
  · rw [List.getElem?_append_left hi] at e
    obtain ⟨a, fd, qs, h1, h2, h3, h4⟩ := fb.fn i y n e
    refine ⟨a, fd, qs, h1, h2, ?_, h4⟩
    have : (mkF (l ++ [run (mkF l gc) N.length body]) gc).fn i = (mkF l gc).fn i := by
      simp only [mkF, List.getD_eq_getElem?_getD]
      rw [List.getElem?_append_left (by rw [← hl]; exact hi)]
    rw [this]
    exact h3.mono (Nat.le_succ k)
  · rw [List.getElem?_append_right (Nat.le_of_not_lt hi)] at e
    have i0 : i = fns.length := by
      have := (List.getElem?_eq_some_iff.mp e).1
      simp at this
      omega
    subst i0
    simp at e
    obtain ⟨rfl, rfl⟩ := e
    refine ⟨f, fd, ps, hm, FF.kp, ?_, bi⟩
    have : (mkF (l ++ [run (mkF l gc) N.length body]) gc).fn fns.length = run (mkF l gc) N.length body := by
      simp only [mkF, List.getD_eq_getElem?_getD, hl]
      simp
    rw [this]
    exact ok
/-- the law's promise: True of every script -/
def spEnd (K : PySem.W.Frag) : Sp := fun vs H Q _ => ∃ (a : Addr) (ns : List Int), vs = [.ref a] ∧ SqL K H a (ns.map V.int) ∧ ns.length ≤ 63 ∧ (∀ H', Q (.bl true) H')
theorem RS_zero {G : Gd} {H : Hp} : RS G (fun _ => False) [] [] [] (uni (fun _ => False) []) [] H := by
  refine ⟨rfl, List.nodup_nil, ?_, ?_, ?_, ?_, ?_, ?_, ?_⟩
  · intro a ha; cases ha
  · intro a ha; cases ha
  · intro a ha; cases ha
  · intro a ha
    rcases ha with ha | ha
    · cases ha
    · cases ha
  · intro i c a hi; simp at hi
  · intro i s hi; simp at hi
  · intro i j c c' a hi; simp at hi
theorem end_of {f : Worth} (h : ∀ ns : List Int, ns.length ≤ 63 → ∃ h', f [.d (.scr ns)] [] = .ok (db true) h') (vs : List V) (H : Hp) (Q : VK) (E : XK) (q : spEnd K vs H Q E) : spF ⟨K, cls⟩ f 1 vs H Q E := by
  obtain ⟨a, ns, rfl, hs, hl, k⟩ := q
  obtain ⟨h', e⟩ := h ns hl
  refine ⟨rfl, fun _ => False, [], [], [.d (.scr ns)], RS_zero, ?_, ?_⟩
  · simp only [VRs, VR, DR]
    refine ⟨.ref a, [], rfl, ⟨a, rfl, ?_⟩, rfl⟩
    rcases hs with hs | hs
    · refine .inl ⟨fun z => ?_, hs⟩
      rcases z with z | z
      · cases z
      · cases z
    · exact .inr hs
  · rw [e]
    intro v H' g
    obtain ⟨rfl, _⟩ := good_db g
    exact k H'
theorem Fb.zero {gcs bl : List Str} (hb : ∀ x ∈ bl, mg x = none) (hg : ∀ (j : Nat) x, gcs[j]? = some x → ∃ u w, mg x = some u ∧ RelV w u ∧ ∀ H W, DR ⟨K, cls⟩ H W (gc.getD j .non) w) : Fb ⟨[], gcs, bl⟩ (mkF [] gc) cls P w K mg base 0 :=
  ⟨hb, hg, fun f x n e => by simp at e⟩
/-- constants -/
theorem gc_int {x : Str} {i : Int} {t : Tok} (h : mg x = some (.int i t)) : ∃ u w, mg x = some u ∧ RelV w u ∧ ∀ H W, DR ⟨K, cls⟩ H W (.int i) w := ⟨_, .int i, h, ⟨t, rfl⟩, fun H W => by simp only [DR]⟩
theorem gc_str {x : Str} {i : Str} {t : Tok} (h : mg x = some (.str i t)) : ∃ u w, mg x = some u ∧ RelV w u ∧ ∀ H W, DR ⟨K, cls⟩ H W (.str i) w := ⟨_, .str i, h, ⟨t, rfl⟩, fun H W => by simp only [DR]⟩
theorem strs_drs {G : Gd} {H : Hp} {W : ASet} : ∀ ss : List Str, DRs G H W (ss.map .str) (ss.map .str)
  | [] => by simp only [List.map_nil, DRs]
  | s :: ss => by
    simp only [List.map_cons, DRs]
    exact ⟨_, _, rfl, by simp only [DR], strs_drs ss⟩
theorem gc_strs {x : Str} {a : Addr} {o : Obj} {its : Array Value} {n : Nat} {ss : List Str} (h : mg x = some (.ref a)) (l : K.lookup a = some o) (hc : o.cls = .type "tuple") (hd : o.data = .seq its n) (hz : its.size ≤ sizeLine) (hv : Vals (ss.map V.str) its.toList) :
    ∃ u w, mg x = some u ∧ RelV w u ∧ ∀ H W, DR ⟨K, cls⟩ H W (.tup (ss.map .str)) w :=
  ⟨_, .ref a, h, rfl, fun H W => by
    simp only [DR]
    exact ⟨a, _, rfl, .inr ⟨o, its, n, l, hc, hd, hz, hv⟩, strs_drs ss⟩⟩
end
end Mp


set_option Elab.async false
set_option linter.all false
set_option maxRecDepth 10000
/-! Equations by which the evaluator is reckoned. -/
namespace Mp
open PySem PySem.Spec PyProof.Rows L2
section
variable (h : Hs)
@[simp] theorem ho1_v (a : AV) : ho1 (.v a) h = .ok (.v a) h := rfl
@[simp] theorem ho1_b (i : Nat) (c : Cell) : ho1 (.b i c) h = .ok (.b i c) h := rfl
@[simp] theorem ho1_f (c : Cell) : ho1 (.f c) h = ok1 (c.frz.map .v) h := rfl
@[simp] theorem toV1_v (a : AV) : toV1 (.v a) h = .ok a h := rfl
@[simp] theorem toV1_f (c : Cell) : toV1 (.f c) h = ok1 c.frz h := rfl
@[simp] theorem vw_v (a : AV) : (RV.v a).vw h = a.vw h := rfl
@[simp] theorem vw_f (c : Cell) : (RV.f c).vw h = c.vw := rfl
@[simp] theorem vw_b (i : Nat) (c : Cell) : (RV.b i c).vw h = c.vw := rfl
@[simp] theorem vw_d (x : D) : (AV.d x).vw h = some x.vw := rfl
@[simp] theorem vw_r (n : Nat) : (AV.r n).vw h = (h[n]?).bind Cell.vw := rfl
@[simp] theorem vw_qt (xs : List AV) : (AV.q true xs).vw h = some (.tup xs) := rfl
@[simp] theorem vw_qf (xs : List AV) : (AV.q false xs).vw h = some (.lst xs) := rfl
@[simp] theorem cvw_lst (xs : List AV) : (Cell.lst xs).vw = some (.lst xs) := rfl
@[simp] theorem cvw_dic (xs : List (Key × AV)) : (Cell.dic xs).vw = some (.dic xs) := rfl
@[simp] theorem cvw_ins (c : Nat) (xs : List (Str × AV)) : (Cell.ins c xs).vw = some (.ins c xs) := rfl
@[simp] theorem dvw_non : D.non.vw = .non := rfl
@[simp] theorem dvw_bl (b : Bool) : (D.bl b).vw = .bl b := rfl
@[simp] theorem dvw_int (b : Int) : (D.int b).vw = .int b := rfl
@[simp] theorem dvw_str (b : Str) : (D.str b).vw = .str b := rfl
@[simp] theorem dvw_lst (b : List D) : (D.lst b).vw = .lst (b.map .d) := rfl
@[simp] theorem dvw_tup (b : List D) : (D.tup b).vw = .tup (b.map .d) := rfl
@[simp] theorem dvw_dic (b : List (Key × D)) : (D.dic b).vw = .dic (b.map fun p => (p.1, .d p.2)) := rfl
@[simp] theorem dvw_obj (c : Nat) (b : List (Str × D)) : (D.obj c b).vw = .ins c (b.map fun p => (p.1, .d p.2)) := rfl
@[simp] theorem dvw_scr (b : List Int) : (D.scr b).vw = .scr b := rfl
theorem binO_eq (o : Operator) (x y : RV) : binO h o x y = (x.vw h).bind fun v => (y.vw h).bind fun w => bop o v w := by
  unfold binO
  cases x.vw h <;> cases y.vw h <;> rfl
@[simp] theorem bop_addI (i j : Int) : bop .Add (.int i) (.int j) = some (di (i + j)) := rfl
@[simp] theorem bop_subI (i j : Int) : bop .Sub (.int i) (.int j) = some (di (i - j)) := rfl
@[simp] theorem bop_mulI (i j : Int) : bop .Mult (.int i) (.int j) = if (-(2 ^ 64) < i ∧ i < 2 ^ 64) ∨ (-(2 ^ 64) < j ∧ j < 2 ^ 64) then some (di (i * j)) else none := rfl
@[simp] theorem bop_divI (i j : Int) : bop .FloorDiv (.int i) (.int j) = if j ≠ 0 ∧ j.natAbs < 1073741824 then some (di (i.fdiv j)) else none := rfl
@[simp] theorem bop_modI (i j : Int) : bop .Mod (.int i) (.int j) = if j ≠ 0 then some (di (i.fmod j)) else none := rfl
@[simp] theorem bop_powI (i j : Int) : bop .Pow (.int i) (.int j) = if 0 ≤ j ∧ j ≤ 1000000 ∧ i.natAbs < 2 ^ 64 then some (di (i ^ j.toNat)) else none := rfl
@[simp] theorem bop_addS (x y : Str) : bop .Add (.str x) (.str y) = if x.length + y.length ≤ sizeLine then some (dS (x ++ y)) else none := rfl
@[simp] theorem bop_addL (x y : List AV) : bop .Add (.lst x) (.lst y) = if x.length + y.length ≤ sizeLine then some (.f (.lst (x ++ y))) else none := rfl
@[simp] theorem bop_addT (x y : List AV) : bop .Add (.tup x) (.tup y) = if x ≠ [] ∧ x.length + y.length ≤ sizeLine then some (.v (mkTup (x ++ y))) else none := rfl
@[simp] theorem cop_lt (a b : RV) : cop h .Lt a b = ltO (fun i j => decide (i < j)) a b := rfl
@[simp] theorem cop_le (a b : RV) : cop h .LtE a b = ltO (fun i j => decide (i ≤ j)) a b := rfl
@[simp] theorem cop_gt (a b : RV) : cop h .Gt a b = ltO (fun i j => decide (j < i)) a b := rfl
@[simp] theorem cop_ge (a b : RV) : cop h .GtE a b = ltO (fun i j => decide (j ≤ i)) a b := rfl
@[simp] theorem ltO_int (f : Int → Int → Bool) (i j : Int) : ltO f (.v (.d (.int i))) (.v (.d (.int j))) = some (f i j) := rfl
@[simp] theorem cop_eq (a b : RV) : cop h .Eq a b = eqO h a b := rfl
@[simp] theorem cop_ne (a b : RV) : cop h .NotEq a b = (eqO h a b).map (!·) := rfl
@[simp] theorem cop_is (a b : RV) : cop h .Is a b = if isNon b then some (isNon a) else none := rfl
@[simp] theorem cop_isnot (a b : RV) : cop h .IsNot a b = if isNon b then some (!isNon a) else none := rfl
@[simp] theorem cop_in (a b : RV) : cop h .In a b = inO h a b := rfl
@[simp] theorem cop_notin (a b : RV) : cop h .NotIn a b = (inO h a b).map (!·) := rfl
@[simp] theorem isNon_non : isNon (.v (.d .non)) = true := rfl
@[simp] theorem isNon_bl (b : Bool) : isNon (.v (.d (.bl b))) = false := rfl
@[simp] theorem isNon_int (b : Int) : isNon (.v (.d (.int b))) = false := rfl
@[simp] theorem isNon_str (b : Str) : isNon (.v (.d (.str b))) = false := rfl
@[simp] theorem isNon_tup (b : List D) : isNon (.v (.d (.tup b))) = false := rfl
@[simp] theorem eqO_int (i j : Int) : eqO h (.v (.d (.int i))) (.v (.d (.int j))) = some (i == j) := by
  simp [eqO, RV.res, D.py, SeqAt.shaped, PyData.canLay0, PyData.depth, PyData.eqv]
@[simp] theorem eqO_bl (i j : Bool) : eqO h (.v (.d (.bl i))) (.v (.d (.bl j))) = some (i == j) := by
  simp [eqO, RV.res, D.py, SeqAt.shaped, PyData.canLay0, PyData.depth, PyData.eqv]
@[simp] theorem subO_int (x : RV) (j : Int) : subO h x (.v (.d (.int j))) = (x.vw h).bind fun v => (ixO v j).map .v := by
  unfold subO
  cases x.vw h <;> rfl
@[simp] theorem ixO_lst (xs : List AV) (j : Int) : ixO (.lst xs) j = atI xs j := rfl
@[simp] theorem ixO_tup (xs : List AV) (j : Int) : ixO (.tup xs) j = atI xs j := rfl
@[simp] theorem ixO_scr (xs : List Int) (j : Int) : ixO (.scr xs) j = (atI xs j).map fun j => .d (.int j) := rfl
@[simp] theorem ixO_str (x : Str) (j : Int) : ixO (.str x) j = if x.length ≤ sizeLine then (atI x.cps.toList j).map fun c => .d (.str ⟨#[c]⟩) else none := rfl
theorem atI_pos {α : Type} {xs : List α} {j : Int} (h0 : 0 ≤ j) (h1 : j < xs.length) : atI xs j = xs[j.toNat]? := by
  simp [atI, ixN, h0, h1]
@[simp] theorem atI_0 {α : Type} (x : α) (xs : List α) : atI (x :: xs) 0 = some x := by rw [atI_pos (by omega) (by simp)]; rfl
@[simp] theorem atI_1 {α : Type} (x y : α) (xs : List α) : atI (x :: y :: xs) 1 = some y := by rw [atI_pos (by omega) (by simp; omega)]; rfl
@[simp] theorem ixN_0 {n : Nat} (h : 0 < n) : ixN n 0 = some 0 := by simp [ixN, h]
@[simp] theorem ixN_1 {n : Nat} (h : 1 < n) : ixN n 1 = some 1 := by simp [ixN]; omega
@[simp] theorem slO_lst (xs : List AV) (lo hi : Option Int) : slO (.lst xs) lo hi = some (.f (.lst (cutA xs lo hi))) := rfl
@[simp] theorem slO_str (x : Str) (lo hi : Option Int) : slO (.str x) lo hi = if x.length ≤ sizeLine then some (dS (cutS x lo hi)) else none := rfl
@[simp] theorem truO_bl (b : Bool) : truO (.bl b) = some b := rfl
@[simp] theorem truO_int (b : Int) : truO (.int b) = some (b != 0) := rfl
@[simp] theorem truO_non : truO .non = some false := rfl
@[simp] theorem asB_bl (b : Bool) : asB (.v (.d (.bl b))) h = .ok b h := rfl
@[simp] theorem blt_max (i j : Int) : bltO h .max2 [.v (.d (.int i)), .v (.d (.int j))] = some (di (if j > i then j else i)) := rfl
@[simp] theorem blt_min (i j : Int) : bltO h .min2 [.v (.d (.int i)), .v (.d (.int j))] = some (di (if j < i then j else i)) := rfl
@[simp] theorem blt_abs (i : Int) : bltO h .abs [.v (.d (.int i))] = some (di (if i < 0 then -i else i)) := rfl
@[simp] theorem blt_len (x : RV) : bltO h .len [x] = ((x.vw h).bind lenO).map fun (n : Nat) => di (n : Int) := rfl
@[simp] theorem lenO_str (x : Str) : lenO (.str x) = if x.length ≤ sizeLine then some x.length else none := rfl
@[simp] theorem lenO_lst (x : List AV) : lenO (.lst x) = some x.length := rfl
@[simp] theorem lenO_tup (x : List AV) : lenO (.tup x) = some x.length := rfl
@[simp] theorem lenO_scr (x : List Int) : lenO (.scr x) = some x.length := rfl
@[simp] theorem blt_int_bl (b : Bool) : bltO h .int [.v (.d (.bl b))] = some (di (if b then 1 else 0)) := rfl
@[simp] theorem blt_int_int (b : Int) : bltO h .int [.v (.d (.int b))] = some (di b) := rfl
@[simp] theorem blt_str (b : Int) : bltO h .str [.v (.d (.int b))] = if b.natAbs.log2 < 1920 then some (dS (toString b)) else none := rfl
theorem blt_all (x : RV) (xs : List AV) (e : x.vw h = some (.lst xs)) : bltO h .all [x] = (AV.bls xs).map fun bs => db (bs.all id) := by simp [bltO, e]
theorem blt_any (x : RV) (xs : List AV) (e : x.vw h = some (.lst xs)) : bltO h .any [x] = (AV.bls xs).map fun bs => db (bs.any id) := by simp [bltO, e]
@[simp] theorem blt_all_f (xs : List AV) : bltO h .all [.f (.lst xs)] = (AV.bls xs).map fun bs => db (bs.all id) := rfl
@[simp] theorem blt_any_f (xs : List AV) : bltO h .any [.f (.lst xs)] = (AV.bls xs).map fun bs => db (bs.any id) := rfl
@[simp] theorem blt_all_d (xs : List D) : bltO h .all [.v (.d (.lst xs))] = (AV.bls (xs.map .d)).map fun bs => db (bs.all id) := rfl
@[simp] theorem blt_any_d (xs : List D) : bltO h .any [.v (.d (.lst xs))] = (AV.bls (xs.map .d)).map fun bs => db (bs.any id) := rfl
@[simp] theorem blt_list_str (x : Str) : bltO h .list [.v (.d (.str x))] = if x.length ≤ sizeLine then some (.f (.lst (x.cps.toList.map fun c => .d (.str ⟨#[c]⟩)))) else none := rfl
@[simp] theorem blt_list_lst (x : List D) : bltO h .list [.v (.d (.lst x))] = some (.f (.lst (x.map .d))) := rfl
@[simp] theorem blt_tuple_lst (x : List D) : bltO h .tuple [.v (.d (.lst x))] = some (.v (mkTup (x.map .d))) := rfl
@[simp] theorem blt_tuple_b (i : Nat) (x : List AV) : bltO h .tuple [.b i (.lst x)] = some (.v (mkTup x)) := rfl
@[simp] theorem toDs_map : ∀ xs : List D, AV.toDs (xs.map .d) = some xs
  | [] => rfl
  | x :: xs => by simp [AV.toDs, AV.toD, toDs_map xs]
@[simp] theorem toDk_map {κ : Type} : ∀ xs : List (κ × D), AV.toDk (xs.map fun p => (p.1, .d p.2)) = some xs
  | [] => rfl
  | (k, x) :: xs => by simp [AV.toDk, AV.toD, toDk_map xs]
@[simp] theorem toDs_nil : AV.toDs [] = some [] := rfl
theorem toDs_cons_d (x : D) (xs : List AV) : AV.toDs (.d x :: xs) = (AV.toDs xs).map (x :: ·) := by
  simp [AV.toDs, AV.toD]
  cases AV.toDs xs <;> rfl
@[simp] theorem frz_lst (xs : List D) : (Cell.lst (xs.map .d)).frz = some (.d (.lst xs)) := by simp [Cell.frz]
@[simp] theorem frz_dic (xs : List (Key × D)) : (Cell.dic (xs.map fun p => (p.1, .d p.2))).frz = some (.d (.dic xs)) := by simp [Cell.frz]
@[simp] theorem frz_dic0 : (Cell.dic []).frz = some (.d (.dic [])) := rfl
theorem frz_of {xs : List AV} {ys : List D} (e : AV.toDs xs = some ys) : (Cell.lst xs).frz = some (.d (.lst ys)) := by simp [Cell.frz, e]
theorem mkTup_of {xs : List AV} {ys : List D} (e : AV.toDs xs = some ys) : mkTup xs = .d (.tup ys) := by simp [mkTup, e]
@[simp] theorem mkTup_map (xs : List D) : mkTup (xs.map .d) = .d (.tup xs) := mkTup_of (toDs_map xs)
@[simp] theorem evG_nm (i : Nat) (x : AV) (S : List SV) : evG h (.nm i) x S = some (S.set i (.v x)) := by simp only [evG]
theorem evG_tp (ts : List MT) (x : AV) (xs : List AV) (S : List SV) (e : x.vw h = some (.tup xs)) : evG h (.tp ts) x S = evGs h ts xs S := by simp only [evG, e]
@[simp] theorem evGs_nil (S : List SV) : evGs h [] [] S = some S := by simp only [evGs]
@[simp] theorem evGs_cons (t : MT) (ts : List MT) (x : AV) (xs : List AV) (S : List SV) : evGs h (t :: ts) (x :: xs) S = (evG h t x S).bind (evGs h ts xs) := by simp only [evGs]
@[simp] theorem setO_lst (n : Nat) (xs : List AV) (j : Int) (x : AV) (e : h[n]? = some (.lst xs)) : setO h (.v (.r n)) (.v (.d (.int j))) x = (ixN xs.length j).map fun k => h.set n (.lst (xs.set k x)) := by simp [setO, e]
@[simp] theorem itO_lst (xs : List D) : itO h (.v (.d (.lst xs))) = some (xs.map .d, .fz) := rfl
@[simp] theorem itO_tup (xs : List D) : itO h (.v (.d (.tup xs))) = some (xs.map .d, .fz) := rfl
@[simp] theorem itO_str (x : Str) : itO h (.v (.d (.str x))) = some (x.cps.toList.map fun c => .d (.str ⟨#[c]⟩), .fz) := rfl
@[simp] theorem itO_q (b : Bool) (xs : List AV) : itO h (.v (.q b xs)) = some (xs, .fz) := rfl
@[simp] theorem itO_f (xs : List AV) : itO h (.f (.lst xs)) = some (xs, .fz) := rfl
theorem rngO_1 (j : Int) : rngO [.d (.int j)] = if -(2 ^ 62) ≤ j ∧ j < 2 ^ 62 then some ((List.range j.toNat).map fun (i : Nat) => .d (.int i), .fz) else none := by simp [rngO]
@[simp] theorem mth_join (s : Str) (x : AV) : mthO h .join (.v (.d (.str s))) [x] = ((x.vw h).bind fun v => match v with | .lst xs => AV.strs xs | _ => none).bind fun ys => if (ys.map fun (z : Str) => z.length).sum + ys.length * s.length ≤ 16777216 then some (dS (Txt.join s ys), h) else none := by
  show (match x.vw h with | some (.lst xs) => (AV.strs xs).bind fun (ys : List Str) => if (ys.map fun (z : Str) => z.length).sum + ys.length * s.length ≤ 16777216 then some (dS (Txt.join s ys), h) else none | _ => none) = _
  cases x.vw h with
  | none => rfl
  | some v => cases v <;> rfl
@[simp] theorem srcOk_fz : SrcOk h .fz = True := rfl
@[simp] theorem mkF_fn (l : List Worth) (gc : List D) (f : Nat) : (mkF l gc).fn f = l.getD f noW := rfl
@[simp] theorem mkF_gc (l : List Worth) (gc : List D) (f : Nat) : (mkF l gc).gc f = gc.getD f .non := rfl
end
/-! ### loops -/
section
variable {elt : List SV → Hs → Res AV} {cs : List SV → Hs → Res Bool} {tg : MT} {S : List SV}
/-- a comprehension over things that stand still, in a state -/
theorem lc_st {i : Nat} (P : Hs → Prop) (Q : AV → Prop) : ∀ (xs : List AV)
    (step : ∀ x ∈ xs, ∀ h, P h → ∃ y h', cs (S.set i (.v x)) h = .ok true h ∧ elt (S.set i (.v x)) h = .ok y h' ∧ Q y ∧ P h') (acc : List AV) (h : Hs) (hP : P h) (hl : acc.length + xs.length ≤ sizeLine),
    ∃ ys h', lcGo elt cs (.nm i) .fz S xs acc h = .ok (.f (.lst (acc ++ ys))) h' ∧ ys.length = xs.length ∧ (∀ y ∈ ys, Q y) ∧ P h'
  | [], _, acc, h, hP, _ => ⟨[], h, by simp [lcGo], rfl, by simp, hP⟩
  | x :: xs, step, acc, h, hP, hl => by
    obtain ⟨y, h1, e1, e2, q, p⟩ := step x (.head _) h hP
    obtain ⟨ys, h', e, l, q', p'⟩ := lc_st P Q xs (fun x m => step x (.tail _ m)) (acc ++ [y]) h1 p (by simp at hl ⊢; omega)
    refine ⟨y :: ys, h', ?_, by simp [l], by simp [q]; exact q', p'⟩
    have : acc.length < sizeLine := by simp at hl; omega
    simp [lcGo, e1, e2, Res.noX, Res.bind, this, e]
/-- a comprehension that changes nothing -/
theorem lc_pure {i : Nat} (f : AV → AV) (h : Hs) : ∀ (xs : List AV)
    (step : ∀ x ∈ xs, cs (S.set i (.v x)) h = .ok true h ∧ elt (S.set i (.v x)) h = .ok (f x) h) (acc : List AV) (hl : acc.length + xs.length ≤ sizeLine),
    lcGo elt cs (.nm i) .fz S xs acc h = .ok (.f (.lst (acc ++ xs.map f))) h
  | [], _, acc, _ => by simp [lcGo]
  | x :: xs, step, acc, hl => by
    obtain ⟨e1, e2⟩ := step x (.head _)
    have e := lc_pure f h xs (fun x m => step x (.tail _ m)) (acc ++ [f x]) (by simp at hl ⊢; omega)
    have : acc.length < sizeLine := by simp at hl; omega
    simp [lcGo, e1, e2, Res.noX, Res.bind, this, e]
theorem for_st {body : List SV → Hs → SRes} {i : Nat} (P : List SV → Hs → Prop) : ∀ (xs : List AV)
    (step : ∀ x ∈ xs, ∀ S h, P S h → ∃ S' h', body (S.set i (.v x)) h = .nx S' h' ∧ P S' h') (S : List SV) (h : Hs) (hP : P S h),
    ∃ S' h', forGo body (.nm i) .fz xs S h = .nx S' h' ∧ P S' h'
  | [], _, S, h, hP => ⟨S, h, by simp [forGo], hP⟩
  | x :: xs, step, S, h, hP => by
    obtain ⟨S1, h1, e1, p⟩ := step x (.head _) S h hP
    obtain ⟨S', h', e, p'⟩ := for_st P xs (fun x m => step x (.tail _ m)) S1 h1 p
    exact ⟨S', h', by simp [forGo, e1, e], p'⟩
end
end Mp


set_option Elab.async false
set_option linter.all false
set_option maxRecDepth 100000
namespace K
open PySem PySem.Spec PyProof.Rows L2 Mp
/-! ### the text, as statements of the small language -/
def gcV : List Mp.D := [.str "abcdefghijklmnopqrstuvwxyz", .tup [.str "show", .str "drop", .str "if"], .int 4]
def f_is_name_e0 : ME := .cmp .In (.var 1) (.glo 0)
def f_is_name_b : List MS := [.ife (.bop false [.nt (.val (.isi (.var 0) [.b "str"])), .nt (.chn .LtE .LtE (.cst (.int 1)) (.blt .len [.var 0]) (.glo 2)), .cmp .In (.var 0) (.glo 1)]) [.ret (.cst (.bl false))] [], .ret (.blt .all [.lcm f_is_name_e0 (.nm 1) (.seq (.var 0)) none [("sign", 1)]])]
/-- is_name(thing): 0 thing, 1 sign -/
noncomputable def f_is_name : Worth := run (mkF [] gcV) 2 f_is_name_b
def f_l_take_b : List MS := [.ife (.cmp .Gt (.sub (.var 0) (.cst (.int 0))) (.cst (.int 0))) [.asg (.nm 2) (.bin .Mod (.sub (.var 0) (.cst (.int 0))) (.var 1)), .asI (.var 0) (.cst (.int 0)) (.bin .FloorDiv (.sub (.var 0) (.cst (.int 0))) (.var 1)), .ret (.var 2)] [], .asI (.var 0) (.cst (.int 1)) (.bin .Mod (.bin .Add (.bin .Mult (.sub (.var 0) (.cst (.int 1))) (.cst (.int 69621))) (.cst (.int 1299709))) (.cst (.int 2147483647))), .ret (.bin .Mod (.bin .FloorDiv (.bin .Mod (.bin .Pow (.sub (.var 0) (.cst (.int 1))) (.cst (.int 3))) (.cst (.int 2147483629))) (.cst (.int 32))) (.var 1))]
/-- _law_take(_law_bag_here, _law_many): 0 _law_bag_here, 1 _law_many, 2 _law_digit -/
noncomputable def f_l_take : Worth := run (mkF [f_is_name] gcV) 3 f_l_take_b
def f_l_any_name_e0 : ME := .sub (.var 1) (.cal 1 [.var 0, .cst (.int 26)])
def f_l_any_name_b : List MS := [.asg (.nm 1) (.cst (.str "abcdefghijklmnopqrstuvwxyz")), .asg (.nm 2) (.met .join (.cst (.str "")) [.lcm f_l_any_name_e0 (.nm 3) (.rng [.bin .Add (.cst (.int 1)) (.cal 1 [.var 0, .cst (.int 4)])]) none [("_law_turn", 3)]]), .ret (.ite (.cmp .In (.var 2) (.lst [.cst (.str "show"), .cst (.str "drop"), .cst (.str "if")])) (.cst (.str "zz")) (.var 2))]
/-- _law_any_name(_law_bag_here): 0 _law_bag_here, 1 _law_letters, 2 _law_found, 3 _law_turn -/
noncomputable def f_l_any_name : Worth := run (mkF [f_is_name, f_l_take] gcV) 4 f_l_any_name_b
def f_l_odd_b : List MS := [.asg (.nm 1) (.lst [.cst .non, .cst (.bl true), .cst (.bl false), .cst (.str "1"), .cst (.str ""), .tup [], .lst [], .lst [.cst (.int 0)], .tup [.cst (.int 0), .cst (.int 1)], .neg (.cst (.int 1)), .cst (.int 0), .bin .Pow (.cst (.int 10)) (.cst (.int 39)), .cst (.str "a"), .dct [] [], .tup [.cst (.str "run"), .cst (.int 1)], .cst (.str "x = 1")]), .ret (.sub (.var 1) (.cal 1 [.var 0, .cst (.int 16)]))]
/-- _law_odd(_law_bag_here): 0 _law_bag_here, 1 _law_some_here -/
noncomputable def f_l_odd : Worth := run (mkF [f_is_name, f_l_take, f_l_any_name] gcV) 2 f_l_odd_b
def f_l_bag_b : List MS := [.asg (.nm 2) (.cst (.int 0)), .ife (.cmp .Lt (.var 1) (.blt .len [.var 0])) [.asg (.nm 2) (.sub (.var 0) (.var 1))] [], .asg (.nm 3) (.cst (.int 0)), .ife (.cmp .GtE (.blt .abs [.var 2]) (.bin .Pow (.cst (.int 10)) (.cst (.int 18)))) [.asg (.nm 3) (.blt .abs [.var 2])] [], .asg (.nm 4) (.lst [.cst (.int 2147483647), .cst (.int 2147483629), .cst (.int 2147483587), .cst (.int 2147483579), .cst (.int 2147483563), .cst (.int 2147483549), .cst (.int 2147483543), .cst (.int 2147483497)]), .asg (.nm 5) (.bin .Add (.bin .Add (.bin .Add (.bin .Mult (.bin .Mod (.var 2) (.cst (.int 2147483647))) (.cst (.int 48611))) (.bin .Mult (.bin .Mult (.cst (.int 90007)) (.var 1)) (.var 1))) (.bin .Mult (.cst (.int 6133)) (.var 1))) (.cst (.int 4099))), .ret (.lst [.var 3, .bin .Mod (.var 5) (.sub (.var 4) (.bin .Mod (.var 1) (.cst (.int 8))))])]
/-- _law_bag(_law_script, _law_at): 0 _law_script, 1 _law_at, 2 _law_cell, 3 _law_great, 4 _law_primes, 5 _law_mixed -/
noncomputable def f_l_bag : Worth := run (mkF [f_is_name, f_l_take, f_l_any_name, f_l_odd] gcV) 6 f_l_bag_b
def f_l_is_name_e0 : ME := .cmp .In (.var 2) (.var 1)
def f_l_is_name_b : List MS := [.ife (.bop false [.nt (.val (.isi (.var 0) [.b "str"])), .cmp .In (.var 0) (.lst [.cst (.str "show"), .cst (.str "drop"), .cst (.str "if")])]) [.ret (.cst (.bl false))] [], .asg (.nm 1) (.blt .list [.cst (.str "abcdefghijklmnopqrstuvwxyz")]), .ret (.bop true [.chn .LtE .LtE (.cst (.int 1)) (.blt .len [.var 0]) (.cst (.int 4)), .blt .all [.lcm f_l_is_name_e0 (.nm 2) (.seq (.var 0)) none [("_law_one", 2)]]])]
/-- _law_is_name(_law_thing): 0 _law_thing, 1 _law_letters, 2 _law_one -/
noncomputable def f_l_is_name : Worth := run (mkF [f_is_name, f_l_take, f_l_any_name, f_l_odd, f_l_bag] gcV) 3 f_l_is_name_b
def f_l_some_b : List MS := [.asg (.nm 1) (.cal 2 [.var 0]), .asg (.nm 2) (.cst (.str "abz019 AZ_-=+.~")), .asg (.nm 3) (.sub (.var 2) (.cal 1 [.var 0, .cst (.int 15)])), .asg (.nm 4) (.cal 1 [.var 0, .bin .Add (.blt .len [.var 1]) (.cst (.int 1))]), .asg (.nm 5) (.lst [.cst (.str "show"), .cst (.str "drop"), .cst (.str "if"), .cst (.str "sho"), .cst (.str "i"), .cst (.str "iff"), .cst (.str "dro"), .cst (.str "drops"), .cst (.str "shown"), .cst (.str "wohs"), .cst (.str "IF"), .cst (.str "Drop"), .cst (.str "fi"), .cst (.str ""), .cst (.str " ")]), .asg (.nm 6) (.lst [.var 1, .bin .Add (.bin .Add (.slc (.var 1) none (some (.var 4))) (.var 3)) (.slc (.var 1) (some (.var 4)) none), .bin .Add (.bin .Add (.slc (.var 1) none (some (.var 4))) (.var 3)) (.slc (.var 1) (some (.bin .Add (.var 4) (.cst (.int 1)))) none), .sub (.var 5) (.cal 1 [.var 0, .cst (.int 15)])]), .ret (.sub (.bin .Add (.var 6) (.lst [.cal 3 [.var 0]])) (.cal 1 [.var 0, .cst (.int 5)]))]
/-- _law_some(_law_bag_here): 0 _law_bag_here, 1 _law_word, 2 _law_signs, 3 _law_one, 4 _law_at, 5 _law_words, 6 _law_some_here -/
noncomputable def f_l_some : Worth := run (mkF [f_is_name, f_l_take, f_l_any_name, f_l_odd, f_l_bag, f_l_is_name] gcV) 7 f_l_some_b
def f_law_e0 : ME := .cal 6 [.var 2]
def f_law_p1 : List MS := [.asg (.nm 5) (.cal 0 [.var 4]), .ife (.bop false [.nt (.val (.isi (.var 5) [.b "bool"])), .cmp .NotEq (.var 5) (.cal 5 [.var 4])]) [.ret (.cst (.bl false))] []]
def f_law_p2 : List MS := [.asg (.nm 2) (.cel (.cal 4 [.var 0, .var 1])), .asg (.nm 3) (.lcm f_law_e0 (.nm 6) (.rng [.cst (.int 12)]) none [("_law_turn", 6)]), .for_ (.nm 4) (.seq (.bin .Add (.var 3) (.rev (.var 3)))) f_law_p1]
def f_law_b : List MS := [.for_ (.nm 1) (.rng [.blt .max2 [.cst (.int 2), .blt .min2 [.cst (.int 6), .blt .len [.var 0]]]]) f_law_p2, .ret (.bop true [.cal 0 [.cst (.str "zzzz")], .nt (.cal 0 [.cst (.str "abcde")]), .nt (.cal 0 [.cst (.str "if")]), .cal 0 [.cst (.str "of")]])]
/-- law(_law_script): 0 _law_script, 1 _law_k, 2 _law_bag_here, 3 _law_things, 4 _law_thing, 5 _law_told, 6 _law_turn -/
noncomputable def f_law : Worth := run (mkF [f_is_name, f_l_take, f_l_any_name, f_l_odd, f_l_bag, f_l_is_name, f_l_some] gcV) 7 f_law_b
/-! ### the walk -/
def top (i : Nat) : Stmt := PySem.Challenge.pw_freshcells_k01_names.main.body.getD i (.Pass ⟨0, 0, 0, 0⟩)
def gcN : List Str := ["LETTERS", "WORDS", "MOST_SIGNS"]
def blN : List Str := ["abs", "all", "bool", "isinstance", "len", "list", "max", "min", "range", "str"]
theorem sc_0 : FnScope ["thing", "sign"] ["thing"] (defScope (top 4)) := ⟨rfl, rfl, rfl, by decide +kernel, rfl, by decide +kernel, by decide +kernel⟩
theorem mt_0 : mSs ⟨[], gcN, blN⟩ ["thing", "sign"] (defScope (top 4)).names f_is_name_b (defBody (top 4)) = true := by decide +kernel
theorem sc_1 : FnScope ["_law_bag_here", "_law_many", "_law_digit"] ["_law_bag_here", "_law_many"] (defScope (top 7)) := ⟨rfl, rfl, rfl, by decide +kernel, rfl, by decide +kernel, by decide +kernel⟩
theorem mt_1 : mSs ⟨[("is_name", 1)], gcN, blN⟩ ["_law_bag_here", "_law_many", "_law_digit"] (defScope (top 7)).names f_l_take_b (defBody (top 7)) = true := by decide +kernel
theorem sc_2 : FnScope ["_law_bag_here", "_law_letters", "_law_found", "_law_turn"] ["_law_bag_here"] (defScope (top 6)) := ⟨rfl, rfl, rfl, by decide +kernel, rfl, by decide +kernel, by decide +kernel⟩
theorem mt_2 : mSs ⟨[("is_name", 1), ("_law_take", 2)], gcN, blN⟩ ["_law_bag_here", "_law_letters", "_law_found", "_law_turn"] (defScope (top 6)).names f_l_any_name_b (defBody (top 6)) = true := by decide +kernel
theorem sc_3 : FnScope ["_law_bag_here", "_law_some_here"] ["_law_bag_here"] (defScope (top 8)) := ⟨rfl, rfl, rfl, by decide +kernel, rfl, by decide +kernel, by decide +kernel⟩
theorem mt_3 : mSs ⟨[("is_name", 1), ("_law_take", 2), ("_law_any_name", 1)], gcN, blN⟩ ["_law_bag_here", "_law_some_here"] (defScope (top 8)).names f_l_odd_b (defBody (top 8)) = true := by decide +kernel
theorem sc_4 : FnScope ["_law_script", "_law_at", "_law_cell", "_law_great", "_law_primes", "_law_mixed"] ["_law_script", "_law_at"] (defScope (top 9)) := ⟨rfl, rfl, rfl, by decide +kernel, rfl, by decide +kernel, by decide +kernel⟩
theorem mt_4 : mSs ⟨[("is_name", 1), ("_law_take", 2), ("_law_any_name", 1), ("_law_odd", 1)], gcN, blN⟩ ["_law_script", "_law_at", "_law_cell", "_law_great", "_law_primes", "_law_mixed"] (defScope (top 9)).names f_l_bag_b (defBody (top 9)) = true := by decide +kernel
theorem sc_5 : FnScope ["_law_thing", "_law_letters", "_law_one"] ["_law_thing"] (defScope (top 10)) := ⟨rfl, rfl, rfl, by decide +kernel, rfl, by decide +kernel, by decide +kernel⟩
theorem mt_5 : mSs ⟨[("is_name", 1), ("_law_take", 2), ("_law_any_name", 1), ("_law_odd", 1), ("_law_bag", 2)], gcN, blN⟩ ["_law_thing", "_law_letters", "_law_one"] (defScope (top 10)).names f_l_is_name_b (defBody (top 10)) = true := by decide +kernel
theorem sc_6 : FnScope ["_law_bag_here", "_law_word", "_law_signs", "_law_one", "_law_at", "_law_words", "_law_some_here"] ["_law_bag_here"] (defScope (top 11)) := ⟨rfl, rfl, rfl, by decide +kernel, rfl, by decide +kernel, by decide +kernel⟩
theorem mt_6 : mSs ⟨[("is_name", 1), ("_law_take", 2), ("_law_any_name", 1), ("_law_odd", 1), ("_law_bag", 2), ("_law_is_name", 1)], gcN, blN⟩ ["_law_bag_here", "_law_word", "_law_signs", "_law_one", "_law_at", "_law_words", "_law_some_here"] (defScope (top 11)).names f_l_some_b (defBody (top 11)) = true := by decide +kernel
theorem sc_7 : FnScope ["_law_script", "_law_k", "_law_bag_here", "_law_things", "_law_thing", "_law_told", "_law_turn"] ["_law_script"] (defScope (top 12)) := ⟨rfl, rfl, rfl, by decide +kernel, rfl, by decide +kernel, by decide +kernel⟩
theorem mt_7 : mSs ⟨[("is_name", 1), ("_law_take", 2), ("_law_any_name", 1), ("_law_odd", 1), ("_law_bag", 2), ("_law_is_name", 1), ("_law_some", 1)], gcN, blN⟩ ["_law_script", "_law_k", "_law_bag_here", "_law_things", "_law_thing", "_law_told", "_law_turn"] (defScope (top 12)).names f_law_b (defBody (top 12)) = true := by decide +kernel
section
variable {P : Program} {w : World} {K : PySem.W.Frag} {mg : Str → Option Value} {base : Heap} {cls : Nat → Addr}
theorem all_fb {f0 : Addr} {fd0 : FuncData} (F0 : L2.Fun K "is_name" "is_name" (top 4) f0 fd0) (m0 : mg "is_name" = some (.ref f0)) {f1 : Addr} {fd1 : FuncData} (F1 : L2.Fun K "_law_take" "_law_take" (top 7) f1 fd1) (m1 : mg "_law_take" = some (.ref f1)) {f2 : Addr} {fd2 : FuncData} (F2 : L2.Fun K "_law_any_name" "_law_any_name" (top 6) f2 fd2) (m2 : mg "_law_any_name" = some (.ref f2)) {f3 : Addr} {fd3 : FuncData} (F3 : L2.Fun K "_law_odd" "_law_odd" (top 8) f3 fd3) (m3 : mg "_law_odd" = some (.ref f3)) {f4 : Addr} {fd4 : FuncData} (F4 : L2.Fun K "_law_bag" "_law_bag" (top 9) f4 fd4) (m4 : mg "_law_bag" = some (.ref f4)) {f5 : Addr} {fd5 : FuncData} (F5 : L2.Fun K "_law_is_name" "_law_is_name" (top 10) f5 fd5) (m5 : mg "_law_is_name" = some (.ref f5)) {f6 : Addr} {fd6 : FuncData} (F6 : L2.Fun K "_law_some" "_law_some" (top 11) f6 fd6) (m6 : mg "_law_some" = some (.ref f6)) {f7 : Addr} {fd7 : FuncData} (F7 : L2.Fun K "law" "law" (top 12) f7 fd7) (m7 : mg "law" = some (.ref f7))
    (hb : ∀ x ∈ blN, mg x = none) (hg : ∀ (j : Nat) x, gcN[j]? = some x → ∃ u w, mg x = some u ∧ RelV w u ∧ ∀ H W, DR ⟨K, cls⟩ H W (gcV.getD j .non) w) :
    FnOk P w K mg base (L2.CX P w) 8 f7 fd7 ["_law_script"] (spF ⟨K, cls⟩ f_law 1) := by
  have b0 : Fb ⟨[], gcN, blN⟩ (mkF [] gcV) cls P w K mg base 0 := Fb.zero hb hg
  have b1 : Fb ⟨[("is_name", 1)], gcN, blN⟩ (mkF [f_is_name] gcV) cls P w K mg base 1 := Fb.snoc b0 rfl F0 m0 (F0.binds (ps := ["thing"]) fun _ _ _ _ _ _ us hl => match us, hl with | [_], _ => rfl) sc_0 mt_0
  have b2 : Fb ⟨[("is_name", 1), ("_law_take", 2)], gcN, blN⟩ (mkF [f_is_name, f_l_take] gcV) cls P w K mg base 2 := Fb.snoc b1 rfl F1 m1 (F1.binds (ps := ["_law_bag_here", "_law_many"]) fun _ _ _ _ _ _ us hl => match us, hl with | [_, _], _ => rfl) sc_1 mt_1
  have b3 : Fb ⟨[("is_name", 1), ("_law_take", 2), ("_law_any_name", 1)], gcN, blN⟩ (mkF [f_is_name, f_l_take, f_l_any_name] gcV) cls P w K mg base 3 := Fb.snoc b2 rfl F2 m2 (F2.binds (ps := ["_law_bag_here"]) fun _ _ _ _ _ _ us hl => match us, hl with | [_], _ => rfl) sc_2 mt_2
  have b4 : Fb ⟨[("is_name", 1), ("_law_take", 2), ("_law_any_name", 1), ("_law_odd", 1)], gcN, blN⟩ (mkF [f_is_name, f_l_take, f_l_any_name, f_l_odd] gcV) cls P w K mg base 4 := Fb.snoc b3 rfl F3 m3 (F3.binds (ps := ["_law_bag_here"]) fun _ _ _ _ _ _ us hl => match us, hl with | [_], _ => rfl) sc_3 mt_3
  have b5 : Fb ⟨[("is_name", 1), ("_law_take", 2), ("_law_any_name", 1), ("_law_odd", 1), ("_law_bag", 2)], gcN, blN⟩ (mkF [f_is_name, f_l_take, f_l_any_name, f_l_odd, f_l_bag] gcV) cls P w K mg base 5 := Fb.snoc b4 rfl F4 m4 (F4.binds (ps := ["_law_script", "_law_at"]) fun _ _ _ _ _ _ us hl => match us, hl with | [_, _], _ => rfl) sc_4 mt_4
  have b6 : Fb ⟨[("is_name", 1), ("_law_take", 2), ("_law_any_name", 1), ("_law_odd", 1), ("_law_bag", 2), ("_law_is_name", 1)], gcN, blN⟩ (mkF [f_is_name, f_l_take, f_l_any_name, f_l_odd, f_l_bag, f_l_is_name] gcV) cls P w K mg base 6 := Fb.snoc b5 rfl F5 m5 (F5.binds (ps := ["_law_thing"]) fun _ _ _ _ _ _ us hl => match us, hl with | [_], _ => rfl) sc_5 mt_5
  have b7 : Fb ⟨[("is_name", 1), ("_law_take", 2), ("_law_any_name", 1), ("_law_odd", 1), ("_law_bag", 2), ("_law_is_name", 1), ("_law_some", 1)], gcN, blN⟩ (mkF [f_is_name, f_l_take, f_l_any_name, f_l_odd, f_l_bag, f_l_is_name, f_l_some] gcV) cls P w K mg base 7 := Fb.snoc b6 rfl F6 m6 (F6.binds (ps := ["_law_bag_here"]) fun _ _ _ _ _ _ us hl => match us, hl with | [_], _ => rfl) sc_6 mt_6
  exact fn_ok F7 sc_7 b7 mt_7
end
end K


set_option Elab.async false
set_option linter.all false
set_option maxRecDepth 100000
namespace K
open PySem PySem.Spec PyProof.Rows L2 Mp
structure Bag where
  g : Int
  m : Int
def Bag.c (b : Bag) : Cell := .lst [.d (.int b.g), .d (.int b.m)]
def Bag.ok (b : Bag) : Prop := 0 ≤ b.g ∧ 0 ≤ b.m ∧ b.m < 2147483647
theorem nx_0 (S : List SV) (h : Hs) : nxO S (some h) = .nx S h := rfl
theorem take_ok (h : Hs) (a : Nat) (b : Bag) (n : Int) (hb : h[a]? = some b.c) (ob : b.ok) (h0 : 0 < n) (h1 : n < 1073741824) :
    ∃ (r : Int) (b' : Bag), f_l_take [.r a, .d (.int n)] h = .ok (di r) (h.set a b'.c) ∧ 0 ≤ r ∧ r < n ∧ b'.ok := by
  obtain ⟨g, m⟩ := b
  obtain ⟨o1, o2, o3⟩ := ob
  have ha : a < h.length := (List.getElem?_eq_some_iff.mp hb).1
  have hb' : h[a]? = some (.lst [.d (.int g), .d (.int m)]) := hb
  have hs : ∀ c : Cell, (h.set a c)[a]? = some c := fun c => by simp [ha]
  have n0 : n ≠ 0 := by omega
  have n1 : n.natAbs < 1073741824 := by omega
  simp only at o1 o2 o3
  by_cases q : 0 < g
  · refine ⟨g.fmod n, ⟨g.fdiv n, m⟩, ?_, Int.fmod_nonneg o1 (by omega), Int.fmod_lt_of_pos _ h0, Int.fdiv_nonneg o1 (by omega), o2, o3⟩
    simp [f_l_take, Mp.run, f_l_take_b, evSs, evS, evE, evT, Res.st, hb', binO_eq, q, n0, n1, setO, Bag.c, hs]
  · let m' := (m * 69621 + 1299709).fmod 2147483647
    have p1 : 0 ≤ m' := Int.fmod_nonneg (by omega) (by omega)
    have p2 : m' < 2147483647 := Int.fmod_lt_of_pos _ (by omega)
    have p3 : ((m * 69621 + 1299709).fmod 2147483647).natAbs < 18446744073709551616 := by show m'.natAbs < _; omega
    refine ⟨(((m' ^ 3).fmod 2147483629).fdiv 32).fmod n, ⟨g, m'⟩, ?_, Int.fmod_nonneg (Int.fdiv_nonneg (Int.fmod_nonneg (Int.pow_nonneg p1) (by omega)) (by omega)) (by omega), Int.fmod_lt_of_pos _ h0, o1, p1, p2⟩
    simp [f_l_take, Mp.run, f_l_take_b, evSs, evS, evE, evT, Res.st, hb', binO_eq, q, n0, n1, setO, Bag.c, hs, p3]
    exact ⟨rfl, rfl⟩
def B (a : Nat) (h : Hs) : Prop := ∃ b : Bag, h[a]? = some b.c ∧ b.ok
theorem take_B {h : Hs} {a : Nat} (hB : B a h) (n : Int) (h0 : 0 < n) (h1 : n < 1073741824) :
    ∃ (r : Int) (h' : Hs), f_l_take [.r a, .d (.int n)] h = .ok (di r) h' ∧ 0 ≤ r ∧ r < n ∧ B a h' := by
  obtain ⟨b, hb, ob⟩ := hB
  obtain ⟨r, b', e, r0, r1, o'⟩ := take_ok h a b n hb ob h0 h1
  exact ⟨r, _, e, r0, r1, b', by simp [(List.getElem?_eq_some_iff.mp hb).1], o'⟩
theorem atI_some {α : Type} {xs : List α} {j : Int} (h0 : 0 ≤ j) (h1 : j < xs.length) : ∃ x, atI xs j = some x ∧ x ∈ xs := by
  have hj : j.toNat < xs.length := by omega
  exact ⟨xs[j.toNat], by rw [atI_pos h0 h1, List.getElem?_eq_getElem hj], List.getElem_mem hj⟩
def one (c : Nat) : Str := ⟨#[c]⟩
theorem one_len (c : Nat) : (one c).length = 1 := rfl
theorem strs_ones : ∀ ys : List AV, (∀ y ∈ ys, ∃ c, y = .d (.str (one c))) → ∃ (zs : List Str) (ds : List Mp.D), AV.strs ys = some zs ∧ zs.length = ys.length ∧ (∀ z ∈ zs, z.length = 1) ∧ AV.toDs ys = some ds ∧ ds.map .d = ys
  | [], _ => ⟨[], [], rfl, rfl, by simp, rfl, rfl⟩
  | y :: ys, q => by
    obtain ⟨c, rfl⟩ := q y (.head _)
    obtain ⟨zs, ds, e, l, r, d, d'⟩ := strs_ones ys fun y m => q y (.tail _ m)
    exact ⟨one c :: zs, .str (one c) :: ds, by simp [AV.strs, e], by simp [l], by simp [one_len]; exact r, by simp [toDs_cons_d, d], by simp [d']⟩
theorem abc_len : (Str.ofString "abcdefghijklmnopqrstuvwxyz").length ≤ sizeLine := by decide
theorem any_name_ok {h : Hs} {a : Nat} (hB : B a h) :
    ∃ (x : Str) (h' : Hs), f_l_any_name [.r a] h = .ok (dS x) h' ∧ x.length ≤ 4 ∧ B a h' := by
  obtain ⟨r, h1, e1, r0, r1, B1⟩ := take_B hB 4 (by decide) (by decide)
  have lc := lc_st (S := [.v (.r a), .v (.d (.str "abcdefghijklmnopqrstuvwxyz")), .no, .no]) (i := 3)
    (elt := fun S h => (evE (mkF [f_is_name, f_l_take] gcV) f_l_any_name_e0 S h).bind toV1)
    (cs := fun S h => evTo (mkF [f_is_name, f_l_take] gcV) none S h)
    (B a) (fun y => ∃ c, y = .d (.str (one c))) ((List.range (1 + r).toNat).map fun (i : Nat) => .d (.int i))
    (fun x _ h hB => by
      obtain ⟨r, h1, e1, r0, r1, B1⟩ := take_B hB 26 (by decide) (by decide)
      obtain ⟨c, ec, _⟩ := atI_some (xs := ("abcdefghijklmnopqrstuvwxyz" : Str).cps.toList) r0 (by exact r1)
      refine ⟨.d (.str (one c)), h1, by simp [evTo], ?_, ⟨c, rfl⟩, B1⟩
      simp [f_l_any_name_e0, evE, evL, e1, ec, abc_len, one]) [] h1 B1 (by
        simp
        have : (4 : Nat) ≤ sizeLine := by decide
        omega)
  obtain ⟨ys, h', ec, l, q, B2⟩ := lc
  obtain ⟨zs, ds, es, lz, qz, fz, fz'⟩ := strs_ones ys q
  have lz4 : zs.length ≤ 4 := by
    rw [lz, l]
    simp; omega
  have lJ : (Txt.join (Str.ofString "") zs).length ≤ 4 := by
    rw [PySem.W.KT.join_ones zs qz]
    exact lz4
  have bnd : (List.map (fun x : Str => x.length) zs).sum + zs.length * (Str.ofString "").length ≤ 16777216 := by
    have e : ∀ l : List Str, (∀ z ∈ l, z.length = 1) → (List.map (fun x : Str => x.length) l).sum = l.length := by
      intro l
      induction l with
      | nil => intro _; rfl
      | cons a l ih => intro q; simp [q a (.head _), ih fun z m => q z (.tail _ m)]; omega
    rw [e zs qz]
    have : (Str.ofString "").length = 0 := rfl
    rw [this]
    omega
  have key : ∃ (x : Str), (∃ b : Bool, (inO h' (dS (Txt.join (Str.ofString "") zs)) (.f (.lst [.d (.str "show"), .d (.str "drop"), .d (.str "if")]))) = some b ∧ (if b = true then dS (Str.ofString "zz") else dS (Txt.join (Str.ofString "") zs)) = dS x) ∧ x.length ≤ 4 := by
    cases eb : inO h' (dS (Txt.join (Str.ofString "") zs)) (.f (.lst [.d (.str "show"), .d (.str "drop"), .d (.str "if")])) with
    | none => simp [inO, RV.fv, AV.fv, D.fv, AV.fvs, inB] at eb
    | some b =>
      cases b
      · exact ⟨_, ⟨false, rfl, rfl⟩, lJ⟩
      · exact ⟨_, ⟨true, rfl, rfl⟩, by decide⟩
  obtain ⟨x, ⟨b, eb, ex⟩, lx⟩ := key
  have rr : rngO [AV.d (D.int (1 + r))] = some ((List.range (1 + r).toNat).map fun (i : Nat) => .d (.int i), .fz) := by
    rw [rngO_1, if_pos (by omega)]
  refine ⟨x, h', ?_, lx, B2⟩
  simp only [List.nil_append] at ec
  simp [f_l_any_name, Mp.run, f_l_any_name_b, evSs, evS, evE, evL, evI, evT, Res.st, wipeS, noOwn, e1, binO_eq, rr]
  simp [ec, rcvOk, Mth.ty, es, bnd, Cell.frz, fz, fz', eb, show 3 ≤ sizeLine by decide]
  cases b <;> simp at ex <;> simp [ex]
inductive Thing : Mp.D → Prop
  | str (x : Str) (h : x.length ≤ 16) : Thing (.str x)
  | non : Thing .non
  | bl (b : Bool) : Thing (.bl b)
  | int (i : Int) : Thing (.int i)
  | lst (xs : List Mp.D) : Thing (.lst xs)
  | tup (xs : List Mp.D) : Thing (.tup xs)
  | dic (xs : List (Key × Mp.D)) : Thing (.dic xs)
theorem odd_ok {h : Hs} {a : Nat} (hB : B a h) :
    ∃ (x : Mp.D) (h' : Hs), f_l_odd [.r a] h = .ok (.v (.d x)) h' ∧ Thing x ∧ B a h' := by
  obtain ⟨r, h1, e1, r0, r1, B1⟩ := take_B hB 16 (by decide) (by decide)
  obtain ⟨x, ex, mx⟩ := atI_some (xs := ([.d .non, .d (.bl true), .d (.bl false), .d (.str "1"), .d (.str ""), .d (.tup []), .d (.lst []), .d (.lst [.int 0]), .d (.tup [.int 0, .int 1]), .d (.int (-1)), .d (.int 0), .d (.int 1000000000000000000000000000000000000000), .d (.str "a"), .d (.dic []), .d (.tup [.str "run", .int 1]), .d (.str "x = 1")] : List AV)) r0 (by exact r1)
  have tx : ∃ y, x = .d y ∧ Thing y := by
    simp only [List.mem_cons, List.not_mem_nil, or_false] at mx
    rcases mx with rfl | rfl | rfl | rfl | rfl | rfl | rfl | rfl | rfl | rfl | rfl | rfl | rfl | rfl | rfl | rfl
    · exact ⟨_, rfl, .non⟩
    · exact ⟨_, rfl, .bl _⟩
    · exact ⟨_, rfl, .bl _⟩
    · exact ⟨_, rfl, .str _ (by decide)⟩
    · exact ⟨_, rfl, .str _ (by decide)⟩
    · exact ⟨_, rfl, .tup _⟩
    · exact ⟨_, rfl, .lst _⟩
    · exact ⟨_, rfl, .lst _⟩
    · exact ⟨_, rfl, .tup _⟩
    · exact ⟨_, rfl, .int _⟩
    · exact ⟨_, rfl, .int _⟩
    · exact ⟨_, rfl, .int _⟩
    · exact ⟨_, rfl, .str _ (by decide)⟩
    · exact ⟨_, rfl, .dic _⟩
    · exact ⟨_, rfl, .tup _⟩
    · exact ⟨_, rfl, .str _ (by decide)⟩
  obtain ⟨y, rfl, ty⟩ := tx
  refine ⟨y, h1, ?_, ty, B1⟩
  simp [f_l_odd, Mp.run, f_l_odd_b, evSs, evS, evE, evL, Res.st, e1, binO_eq, Cell.frz, AV.toDs, AV.toD, AV.toDk, mkTup, ex, show 16 ≤ sizeLine by decide, show 1 ≤ sizeLine by decide, show 2 ≤ sizeLine by decide]
theorem bag_ok (h : Hs) (ns : List Int) (k : Int) (k0 : 0 ≤ k) (k6 : k < 6) :
    ∃ b : Bag, f_l_bag [.d (.scr ns), .d (.int k)] h = .ok (.f b.c) h ∧ b.ok := by
  have hc : ∃ c : Int, (k < ns.length → atI ns k = some c) ∧ (¬ k < ns.length → c = 0) := by
    by_cases q : k < ns.length
    · obtain ⟨c, e, _⟩ := atI_some k0 q
      exact ⟨c, fun _ => e, fun n => absurd q n⟩
    · exact ⟨0, fun n => absurd n q, fun _ => rfl⟩
  obtain ⟨c, c1, c2⟩ := hc
  have hp : ∃ p : Int, atI [.d (.int 2147483647), .d (.int 2147483629), .d (.int 2147483587), .d (.int 2147483579), .d (.int 2147483563), .d (.int 2147483549), .d (.int 2147483543), .d (.int 2147483497)] (k.fmod 8) = some (AV.d (.int p)) ∧ 0 < p ∧ p ≤ 2147483647 := by
    obtain ⟨x, e, m⟩ := atI_some (xs := [AV.d (.int 2147483647), .d (.int 2147483629), .d (.int 2147483587), .d (.int 2147483579), .d (.int 2147483563), .d (.int 2147483549), .d (.int 2147483543), .d (.int 2147483497)]) (Int.fmod_nonneg k0 (show (0 : Int) ≤ 8 by decide)) (Int.fmod_lt_of_pos k (show (0 : Int) < 8 by decide))
    simp only [List.mem_cons, List.not_mem_nil, or_false] at m
    rcases m with rfl | rfl | rfl | rfl | rfl | rfl | rfl | rfl <;> exact ⟨_, e, by decide, by decide⟩
  obtain ⟨p, ep, p0, p1⟩ := hp
  have kk : k < 18446744073709551616 := by omega
  have kk' : -18446744073709551616 < k := by omega
  have pn : p ≠ 0 := by omega
  have lm : ∀ m : Int, 0 ≤ m.fmod p ∧ m.fmod p < 2147483647 := fun m => ⟨Int.fmod_nonneg_of_pos _ p0, Int.lt_of_lt_of_le (Int.fmod_lt_of_pos m p0) p1⟩
  by_cases q : k < ns.length
  · have c1 := c1 q
    by_cases g : 1000000000000000000 ≤ (if c < 0 then -c else c)
    · refine ⟨⟨(if c < 0 then -c else c), (c.fmod 2147483647 * 48611 + 90007 * k * k + 6133 * k + 4099).fmod p⟩, ?_, by simp only; split <;> omega, lm _⟩
      simp [f_l_bag, Mp.run, f_l_bag_b, evSs, evS, evE, evL, evR, evT, Res.st, q, c1, g, binO_eq, Cell.frz, AV.toDs, AV.toD, ep, kk, kk', pn, Bag.c, show 8 ≤ sizeLine by decide, show 2 ≤ sizeLine by decide]
    · refine ⟨⟨0, (c.fmod 2147483647 * 48611 + 90007 * k * k + 6133 * k + 4099).fmod p⟩, ?_, by simp, lm _⟩
      simp [f_l_bag, Mp.run, f_l_bag_b, evSs, evS, evE, evL, evR, evT, Res.st, q, c1, g, binO_eq, Cell.frz, AV.toDs, AV.toD, ep, kk, kk', pn, Bag.c, show 8 ≤ sizeLine by decide, show 2 ≤ sizeLine by decide]
  · have c2 := c2 q
    refine ⟨⟨0, ((0 : Int).fmod 2147483647 * 48611 + 90007 * k * k + 6133 * k + 4099).fmod p⟩, ?_, by simp, lm _⟩
    simp [f_l_bag, Mp.run, f_l_bag_b, evSs, evS, evE, evL, evR, evT, Res.st, q, binO_eq, Cell.frz, AV.toDs, AV.toD, ep, kk, kk', pn, Bag.c, show 8 ≤ sizeLine by decide, show 2 ≤ sizeLine by decide]
theorem cut_len (x : Str) (lo hi : Option Int) : (cutS x lo hi).length ≤ x.length := by
  simp [cutS, Str.length]
  omega
theorem some_ok {h : Hs} {a : Nat} (hB : B a h) :
    ∃ (x : Mp.D) (h' : Hs), f_l_some [.r a] h = .ok (.v (.d x)) h' ∧ Thing x ∧ B a h' := by
  obtain ⟨x, h1, e1, lx, B1⟩ := any_name_ok hB
  obtain ⟨r, h2, e2, r0, r1, B2⟩ := take_B B1 15 (by decide) (by decide)
  obtain ⟨c, ec, _⟩ := atI_some (xs := ("abz019 AZ_-=+.~" : Str).cps.toList) r0 (by exact r1)
  obtain ⟨t, h3, e3, t0, t1, B3⟩ := take_B B2 ((x.length : Int) + 1) (by omega) (by omega)
  obtain ⟨u, h4, e4, u0, u1, B4⟩ := take_B B3 15 (by decide) (by decide)
  obtain ⟨w, ew, mw⟩ := atI_some (xs := ([.d (.str "show"), .d (.str "drop"), .d (.str "if"), .d (.str "sho"), .d (.str "i"), .d (.str "iff"), .d (.str "dro"), .d (.str "drops"), .d (.str "shown"), .d (.str "wohs"), .d (.str "IF"), .d (.str "Drop"), .d (.str "fi"), .d (.str ""), .d (.str " ")] : List AV)) u0 (by exact u1)
  have tw : ∃ y : Str, w = .d (.str y) ∧ y.length ≤ 16 := by
    simp only [List.mem_cons, List.not_mem_nil, or_false] at mw
    rcases mw with rfl | rfl | rfl | rfl | rfl | rfl | rfl | rfl | rfl | rfl | rfl | rfl | rfl | rfl | rfl <;> exact ⟨_, rfl, by decide⟩
  obtain ⟨y, rfl, ly⟩ := tw
  obtain ⟨o, h5, e5, to, B5⟩ := odd_ok B4
  obtain ⟨v, h6, e6, v0, v1, B6⟩ := take_B B5 5 (by decide) (by decide)
  have l1 := cut_len x none (some t)
  have l2 := cut_len x (some t) none
  have l3 := cut_len x (some (t + 1)) none
  have lone : (Str.mk #[c]).length = 1 := rfl
  have z16 : 16 ≤ sizeLine := by decide
  have s1 : (cutS x none (some t)).length + 1 ≤ sizeLine := by omega
  have s2 : (cutS x none (some t)).length + 1 + (cutS x (some t) none).length ≤ sizeLine := by omega
  have s3 : (cutS x none (some t)).length + 1 + (cutS x (some (t + 1)) none).length ≤ sizeLine := by omega
  have s4 : x.length ≤ sizeLine := by omega
  obtain ⟨z, ez, mz⟩ := atI_some (xs := ([.d (.str x), .d (.str (cutS x none (some t) ++ Str.mk #[c] ++ cutS x (some t) none)), .d (.str (cutS x none (some t) ++ Str.mk #[c] ++ cutS x (some (t + 1)) none)), .d (.str y), .d o] : List AV)) v0 (by exact v1)
  have tz : ∃ q, z = .d q ∧ Thing q := by
    simp only [List.mem_cons, List.not_mem_nil, or_false] at mz
    rcases mz with rfl | rfl | rfl | rfl | rfl
    · exact ⟨_, rfl, .str _ (by omega)⟩
    · exact ⟨_, rfl, .str _ (by simp only [Str.length_append, lone]; omega)⟩
    · exact ⟨_, rfl, .str _ (by simp only [Str.length_append, lone]; omega)⟩
    · exact ⟨_, rfl, .str _ ly⟩
    · exact ⟨_, rfl, to⟩
  obtain ⟨q, rfl, tq⟩ := tz
  refine ⟨q, h6, ?_, tq, B6⟩
  simp [f_l_some, Mp.run, f_l_some_b, evSs, evS, evE, evL, evR, evO, evT, Res.st, e1, e2, ec, e3, e4, ew, e5, e6, ez, binO_eq, Cell.frz, AV.toDs, AV.toD, s1, s2, s3, s4, lone, Str.length_append, show (Str.ofString "abz019 AZ_-=+.~").length ≤ sizeLine by decide, show 15 ≤ sizeLine by decide, show 4 ≤ sizeLine by decide, show 1 ≤ sizeLine by decide, show 5 ≤ sizeLine by decide]
theorem lc_map {elt : List SV → Hs → Res AV} {cs : List SV → Hs → Res Bool} {S : List SV} {i : Nat} {α : Type} (g f : α → AV) (h : Hs) : ∀ (l : List α)
    (step : ∀ c ∈ l, cs (S.set i (.v (g c))) h = .ok true h ∧ elt (S.set i (.v (g c))) h = .ok (f c) h) (acc : List AV) (hl : acc.length + l.length ≤ sizeLine),
    lcGo elt cs (.nm i) .fz S (l.map g) acc h = .ok (.f (.lst (acc ++ l.map f))) h
  | [], _, acc, _ => by simp [lcGo]
  | x :: xs, step, acc, hl => by
    obtain ⟨e1, e2⟩ := step x (.head _)
    have e := lc_map g f h xs (fun x m => step x (.tail _ m)) (acc ++ [f x]) (by simp at hl ⊢; omega)
    have : acc.length < sizeLine := by simp at hl; omega
    simp [lcGo, e1, e2, Res.noX, Res.bind, this, e]
theorem toDs_bls {α : Type} (p : α → Bool) : ∀ l : List α, AV.toDs (l.map fun c => .d (.bl (p c))) = some (l.map fun c => .bl (p c))
  | [] => rfl
  | x :: xs => by simp [toDs_cons_d, toDs_bls p xs]
theorem kb_str : kitB "NoneType" "str" = some false ∧ kitB "bool" "str" = some false ∧ kitB "int" "str" = some false ∧ kitB "list" "str" = some false ∧ kitB "tuple" "str" = some false ∧ kitB "dict" "str" = some false ∧ kitB "str" "str" = some true := ⟨rfl, rfl, rfl, rfl, rfl, rfl, rfl⟩
theorem kb_bool : kitB "bool" "bool" = some true := rfl
theorem bls_map {α : Type} (p : α → Bool) : ∀ l : List α, AV.bls (l.map fun c => .d (.bl (p c))) = some (l.map p)
  | [] => rfl
  | x :: xs => by simp [AV.bls, bls_map p xs]
theorem toDs_ones : ∀ l : List Nat, AV.toDs (l.map fun c => .d (.str ⟨#[c]⟩)) = some (l.map fun c => .str ⟨#[c]⟩)
  | [] => rfl
  | x :: xs => by simp [toDs_cons_d, toDs_ones xs]
theorem fvs_ones : ∀ l : List Nat, AV.fvs (l.map fun c => .d (.str ⟨#[c]⟩)) = some (l.map fun c => .str ⟨#[c]⟩)
  | [] => rfl
  | x :: xs => by simp [AV.fvs, AV.fv, D.fv, fvs_ones xs]
theorem inV_ones (c : Nat) (l : List Nat) : inV (.str ⟨#[c]⟩) (l.map fun c => .str ⟨#[c]⟩) = decide (c ∈ l) := by
  unfold inV
  rw [List.any_map, Bool.eq_iff_iff]
  simp [eqV]
def abc : List Nat := ("abcdefghijklmnopqrstuvwxyz" : Str).cps.toList
def nmS (x : Str) : Bool := decide (1 ≤ x.length) && decide (x.length ≤ 4) && !(inV (.str x) [.str "show", .str "drop", .str "if"]) && x.cps.toList.all fun c => decide (c ∈ abc)
theorem len_cps (x : Str) : x.cps.toList.length = x.length := by simp [Str.length]
theorem gc0 (l : List Worth) : (mkF l gcV).gc 0 = .str "abcdefghijklmnopqrstuvwxyz" := rfl
theorem gc1 (l : List Worth) : (mkF l gcV).gc 1 = .tup [.str "show", .str "drop", .str "if"] := rfl
theorem gc2 (l : List Worth) : (mkF l gcV).gc 2 = .int 4 := rfl
theorem found (c : Nat) : (Builtin.Str.occurrences (Str.ofString "abcdefghijklmnopqrstuvwxyz") ⟨#[c]⟩ 0 (Str.ofString "abcdefghijklmnopqrstuvwxyz").length 1).isEmpty = !decide (c ∈ abc) := by
  have e := StrLaws.found_one (Str.ofString "abcdefghijklmnopqrstuvwxyz") c
  rw [show abc = (Str.ofString "abcdefghijklmnopqrstuvwxyz").cps.toList from rfl, ← e, Bool.not_not]
theorem is_str (h : Hs) (x : Str) (hl : x.length ≤ 16) : f_is_name [.d (.str x)] h = .ok (db (nmS x)) h := by
  have z16 : 16 ≤ sizeLine := by decide
  have s1 : x.length ≤ sizeLine := by omega
  have lc := lc_map (elt := fun S h => (evE (mkF [] gcV) f_is_name_e0 S h).bind toV1) (cs := fun S h => evTo (mkF [] gcV) none S h) (S := [.v (.d (.str x)), .no]) (i := 1)
    (fun c : Nat => .d (.str ⟨#[c]⟩)) (fun c => .d (.bl (decide (c ∈ abc)))) h x.cps.toList (fun c _ => ⟨by simp [evTo], by
      simp [-mkF_gc, gc0, f_is_name_e0, evE, inO, RV.fv, AV.fv, D.fv]
      exact found c⟩) [] (by simp [len_cps]; exact s1)
  simp only [List.nil_append] at lc
  by_cases q1 : 1 ≤ x.length
  · have q1' : (1 : Int) ≤ x.length := by omega
    by_cases q2 : x.length ≤ 4
    · have q2' : (x.length : Int) ≤ 4 := by omega
      cases q3 : inV (.str x) [.str "show", .str "drop", .str "if"]
      · simp [-mkF_gc, gc0, gc1, gc2, f_is_name, Mp.run, f_is_name_b, evSs, evS, evE, evB, evI, evL, evR, evO, evT, evTs, Res.st, s1, Vw.ty, tyAny, tyIs, kb_str, kb_bool, inO, RV.fv, AV.fv, D.fv, AV.fvs, inB, noOwn, wipeS, q1', q2', q3, lc, bls_map, toDs_bls, Cell.frz, Function.comp_def, nmS, q1, q2]
      · simp [-mkF_gc, gc0, gc1, gc2, f_is_name, Mp.run, f_is_name_b, evSs, evS, evE, evB, evI, evL, evR, evO, evT, evTs, Res.st, s1, Vw.ty, tyAny, tyIs, kb_str, kb_bool, inO, RV.fv, AV.fv, D.fv, AV.fvs, inB, noOwn, wipeS, q1', q2', q3, nmS]
    · have q2' : ¬ (x.length : Int) ≤ 4 := by omega
      simp [-mkF_gc, gc0, gc1, gc2, f_is_name, Mp.run, f_is_name_b, evSs, evS, evE, evB, evI, evL, evR, evO, evT, evTs, Res.st, s1, Vw.ty, tyAny, tyIs, kb_str, kb_bool, inO, RV.fv, AV.fv, D.fv, AV.fvs, inB, noOwn, wipeS, q1', q2', nmS, q2]
  · have q1' : ¬ (1 : Int) ≤ x.length := by omega
    simp [-mkF_gc, gc0, gc1, gc2, f_is_name, Mp.run, f_is_name_b, evSs, evS, evE, evB, evI, evL, evR, evO, evT, evTs, Res.st, s1, Vw.ty, tyAny, tyIs, kb_str, kb_bool, inO, RV.fv, AV.fv, D.fv, AV.fvs, inB, noOwn, wipeS, q1', nmS, q1]
theorem lis_str (h : Hs) (x : Str) (hl : x.length ≤ 16) : f_l_is_name [.d (.str x)] h = .ok (db (nmS x)) h := by
  have z16 : 16 ≤ sizeLine := by decide
  have s1 : x.length ≤ sizeLine := by omega
  have lc := lc_map (elt := fun S h => (evE (mkF [f_is_name, f_l_take, f_l_any_name, f_l_odd, f_l_bag] gcV) f_l_is_name_e0 S h).bind toV1) (cs := fun S h => evTo (mkF [f_is_name, f_l_take, f_l_any_name, f_l_odd, f_l_bag] gcV) none S h) (S := [.v (.d (.str x)), .v (.d (.lst (abc.map fun c => .str ⟨#[c]⟩))), .no]) (i := 2)
    (fun c : Nat => .d (.str ⟨#[c]⟩)) (fun c => .d (.bl (decide (c ∈ abc)))) h x.cps.toList (fun c _ => ⟨by simp [evTo], by
      have e := fvs_ones abc
      have e2 := inV_ones c abc
      simp [f_l_is_name_e0, evE, inO, RV.fv, AV.fv, D.fv, Function.comp_def, e, e2, inB]⟩) [] (by simp [len_cps]; exact s1)
  simp only [List.nil_append] at lc
  have ea : (Str.ofString "abcdefghijklmnopqrstuvwxyz").cps.toList = abc := rfl
  cases q3 : inV (.str x) [.str "show", .str "drop", .str "if"]
  · by_cases q1 : 1 ≤ x.length
    · have q1' : (1 : Int) ≤ x.length := by omega
      by_cases q2 : x.length ≤ 4
      · have q2' : (x.length : Int) ≤ 4 := by omega
        simp [f_l_is_name, Mp.run, f_l_is_name_b, evSs, evS, evE, evB, evI, evL, evR, evO, evT, evTs, Res.st, s1, Vw.ty, tyAny, tyIs, kb_str, kb_bool, inO, RV.fv, AV.fv, D.fv, AV.fvs, inB, noOwn, wipeS, Cell.frz, toDs_ones, abc_len, blt_list_str, show 3 ≤ sizeLine by decide, ea, q1', q2', q3, lc, bls_map, toDs_bls, Cell.frz, Function.comp_def, nmS, q1, q2]
      · have q2' : ¬ (x.length : Int) ≤ 4 := by omega
        simp [f_l_is_name, Mp.run, f_l_is_name_b, evSs, evS, evE, evB, evI, evL, evR, evO, evT, evTs, Res.st, s1, Vw.ty, tyAny, tyIs, kb_str, kb_bool, inO, RV.fv, AV.fv, D.fv, AV.fvs, inB, noOwn, wipeS, Cell.frz, toDs_ones, abc_len, blt_list_str, show 3 ≤ sizeLine by decide, ea, q1', q2', q3, nmS, q2]
    · have q1' : ¬ (1 : Int) ≤ x.length := by omega
      simp [f_l_is_name, Mp.run, f_l_is_name_b, evSs, evS, evE, evB, evI, evL, evR, evO, evT, evTs, Res.st, s1, Vw.ty, tyAny, tyIs, kb_str, kb_bool, inO, RV.fv, AV.fv, D.fv, AV.fvs, inB, noOwn, wipeS, Cell.frz, toDs_ones, abc_len, blt_list_str, show 3 ≤ sizeLine by decide, ea, q1', q3, nmS, q1]
  · simp [f_l_is_name, Mp.run, f_l_is_name_b, evSs, evS, evE, evB, evI, evL, evR, evO, evT, evTs, Res.st, s1, Vw.ty, tyAny, tyIs, kb_str, kb_bool, inO, RV.fv, AV.fv, D.fv, AV.fvs, inB, noOwn, wipeS, Cell.frz, toDs_ones, abc_len, blt_list_str, show 3 ≤ sizeLine by decide, ea, q3, nmS]
def nm : Mp.D → Bool
  | .str x => nmS x
  | _ => false
theorem is_ok (h : Hs) (x : Mp.D) (t : Thing x) : f_is_name [.d x] h = .ok (db (nm x)) h := by
  cases t with
  | str x hl => exact is_str h x hl
  | _ => simp [f_is_name, Mp.run, f_is_name_b, evSs, evS, evE, evT, evTs, Res.st, Vw.ty, tyAny, tyIs, kb_str, kb_bool, nm]
theorem lis_ok (h : Hs) (x : Mp.D) (t : Thing x) : f_l_is_name [.d x] h = .ok (db (nm x)) h := by
  cases t with
  | str x hl => exact lis_str h x hl
  | _ => simp [f_l_is_name, Mp.run, f_l_is_name_b, evSs, evS, evE, evT, evTs, Res.st, Vw.ty, tyAny, tyIs, kb_str, kb_bool, nm]
theorem all_d {R : Mp.D → Prop} : ∀ ys : List AV, (∀ y ∈ ys, ∃ d, y = .d d ∧ R d) → ∃ ds : List Mp.D, ys = ds.map .d ∧ ∀ d ∈ ds, R d
  | [], _ => ⟨[], rfl, by simp⟩
  | y :: ys, q => by
    obtain ⟨d, rfl, rd⟩ := q y (.head _)
    obtain ⟨ds, rfl, r⟩ := all_d ys fun y m => q y (.tail _ m)
    exact ⟨d :: ds, rfl, by simp [rd]; exact r⟩
noncomputable def Ff : Mp.Fn := mkF [f_is_name, f_l_take, f_l_any_name, f_l_odd, f_l_bag, f_l_is_name, f_l_some] gcV
theorem p1_ok (u : AV) (s1 s2 s3 s4 s5 : SV) (h : Hs) (d : Mp.D) (t : Thing d) :
    evSs Ff f_law_p1 [.v u, s1, s2, s3, .v (.d d), s5, .no] h = .nx [.v u, s1, s2, s3, .v (.d d), .v (.d (.bl (nm d))), .no] h := by
  simp [Ff, f_law_p1, evSs, evS, evE, evL, evT, evTs, Res.st, is_ok h d t, lis_ok h d t, Vw.ty, tyAny, tyIs, kb_bool]
theorem p2_ok (ns : List Int) (k : Int) (k0 : 0 ≤ k) (k6 : k < 6) (s2 s3 s4 s5 : SV) (h : Hs) :
    ∃ t2 t3 t4 t5 h', evSs Ff f_law_p2 [.v (.d (.scr ns)), .v (.d (.int k)), s2, s3, s4, s5, .no] h = .nx [.v (.d (.scr ns)), .v (.d (.int k)), t2, t3, t4, t5, .no] h' := by
  obtain ⟨b, eb, ob⟩ := bag_ok h ns k k0 k6
  have B0 : B h.length (h ++ [b.c]) := ⟨b, by simp, ob⟩
  obtain ⟨ys, h1, lc, ly, qy, B1⟩ := lc_st (elt := fun S h => (evE Ff f_law_e0 S h).bind toV1) (cs := fun S h => evTo Ff none S h) (S := [.v (.d (.scr ns)), .v (.d (.int k)), .v (.r h.length), s3, s4, s5, .no]) (i := 6)
    (B h.length) (fun y => ∃ d, y = .d d ∧ Thing d) ((List.range 12).map fun (i : Nat) => .d (.int i)) (fun x _ h1 B1 => by
      obtain ⟨x, h2, e, t, B2⟩ := some_ok B1
      exact ⟨.d x, h2, by simp [evTo], by simp [Ff, f_law_e0, evE, evL, e], ⟨x, rfl, t⟩, B2⟩) [] (h ++ [b.c]) B0 (by simp; decide)
  obtain ⟨ds, rfl, td⟩ := all_d ys qy
  have ld : ds.length = 12 := by simpa using ly
  obtain ⟨S', h2, ef, s4', s5', eS⟩ := for_st (body := fun S h => evSs Ff f_law_p1 S h) (i := 4)
    (fun S _ => ∃ s4 s5, S = [.v (.d (.scr ns)), .v (.d (.int k)), .v (.r h.length), .v (.d (.lst ds)), s4, s5, .no]) (ds.map .d ++ (ds.map .d).reverse) (fun x m S h3 hS => by
      obtain ⟨s4, s5, rfl⟩ := hS
      have : ∃ d, x = .d d ∧ Thing d := by
        simp at m
        obtain ⟨d, m, rfl⟩ := m
        exact ⟨d, rfl, td d m⟩
      obtain ⟨d, rfl, t⟩ := this
      exact ⟨_, _, p1_ok _ _ _ _ s4 s5 h3 d t, _, _, rfl⟩) [.v (.d (.scr ns)), .v (.d (.int k)), .v (.r h.length), .v (.d (.lst ds)), s4, s5, .no] h1 ⟨s4, s5, rfl⟩
  subst eS
  have r12 : rngO [.d (.int 12)] = some ((List.range 12).map fun (i : Nat) => .d (.int i), .fz) := by rw [rngO_1]; rfl
  have l24 : 12 + 12 ≤ sizeLine := by decide
  refine ⟨.v (.r h.length), .v (.d (.lst ds)), s4', s5', h2, ?_⟩
  simp only [List.nil_append] at lc
  have F4 : Ff.fn 4 = f_l_bag := rfl
  simp only [← List.map_reverse] at ef
  simp [f_law_p2, evSs, evS, evE, evL, evI, Res.st, F4, eb, noOwn, wipeS, r12, lc, binO_eq, ld, l24, ← List.map_reverse, ef]
theorem sem : ∀ ns : List Int, ns.length ≤ 63 → ∃ h', f_law [.d (.scr ns)] [] = .ok (db true) h' := by
  intro ns hl
  have hm : ∃ m : Int, (if (if (ns.length : Int) < 6 then (ns.length : Int) else 6) > 2 then (if (ns.length : Int) < 6 then (ns.length : Int) else 6) else 2) = m ∧ 0 ≤ m ∧ m ≤ 6 := ⟨_, rfl, by split <;> (try split) <;> omega, by split <;> (try split) <;> omega⟩
  obtain ⟨m, em, m0, m6⟩ := hm
  obtain ⟨S', h', ef, s1, s2, s3, s4, s5, eS⟩ := for_st (body := fun S h => evSs Ff f_law_p2 S h) (i := 1)
    (fun S _ => ∃ s1 s2 s3 s4 s5, S = [.v (.d (.scr ns)), s1, s2, s3, s4, s5, .no]) ((List.range m.toNat).map fun (i : Nat) => .d (.int i)) (fun x mx S h hS => by
      obtain ⟨s1, s2, s3, s4, s5, rfl⟩ := hS
      simp at mx
      obtain ⟨i, hi, rfl⟩ := mx
      obtain ⟨t2, t3, t4, t5, h', e⟩ := p2_ok ns i (by omega) (by omega) s2 s3 s4 s5 h
      exact ⟨_, h', e, _, _, _, _, _, rfl⟩) [.v (.d (.scr ns)), .no, .no, .no, .no, .no, .no] [] ⟨_, _, _, _, _, rfl⟩
  subst eS
  have rr : rngO [.d (.int m)] = some ((List.range m.toNat).map fun (i : Nat) => .d (.int i), .fz) := by rw [rngO_1, if_pos (by omega)]
  have F0 : Ff.fn 0 = f_is_name := rfl
  have n1 : nm (.str "zzzz") = true := by decide +kernel
  have n2 : nm (.str "abcde") = false := by decide +kernel
  have n3 : nm (.str "if") = false := by decide +kernel
  have n4 : nm (.str "of") = true := by decide +kernel
  have i1 := fun h => is_ok h (.str "zzzz") (.str _ (by decide))
  have i2 := fun h => is_ok h (.str "abcde") (.str _ (by decide))
  have i3 := fun h => is_ok h (.str "if") (.str _ (by decide))
  have i4 := fun h => is_ok h (.str "of") (.str _ (by decide))
  refine ⟨h', ?_⟩
  show Mp.run Ff 7 f_law_b _ _ = _
  simp [Mp.run, f_law_b, evSs, evS, evE, evB, evL, evR, evI, Res.st, F0, em, rr, ef, i1, i2, i3, i4, n1, n2, n3, n4]
end K


set_option Elab.async false
set_option linter.all false
set_option maxRecDepth 100000
namespace K
open PySem PySem.Spec PyProof.Rows L2 Mp
/-! ### the end -/
theorem all_mk {l : PySem.W.OpenLaw} {w : World} {K : PySem.W.Frag} {h : Heap} {mg : Str → Option Value} {fa : Addr} (X : K.In h) (G : h.Ns mainGlobals mg) (hfa : mg "law" = some (.ref fa))
    {f0 : Addr} {od0 an0 : Option Addr} {sl0 : Array (Option Value)} {oc0 kV0 dc0 pm0 cd0 ct0 : Value}
    {f1 : Addr} {od1 an1 : Option Addr} {sl1 : Array (Option Value)} {oc1 kV1 dc1 pm1 cd1 ct1 : Value}
    {f2 : Addr} {od2 an2 : Option Addr} {sl2 : Array (Option Value)} {oc2 kV2 dc2 pm2 cd2 ct2 : Value}
    {f3 : Addr} {od3 an3 : Option Addr} {sl3 : Array (Option Value)} {oc3 kV3 dc3 pm3 cd3 ct3 : Value}
    {f4 : Addr} {od4 an4 : Option Addr} {sl4 : Array (Option Value)} {oc4 kV4 dc4 pm4 cd4 ct4 : Value}
    {f5 : Addr} {od5 an5 : Option Addr} {sl5 : Array (Option Value)} {oc5 kV5 dc5 pm5 cd5 ct5 : Value}
    {f6 : Addr} {od6 an6 : Option Addr} {sl6 : Array (Option Value)} {oc6 kV6 dc6 pm6 cd6 ct6 : Value}
    {f7 : Addr} {od7 an7 : Option Addr} {sl7 : Array (Option Value)} {oc7 kV7 dc7 pm7 cd7 ct7 : Value}
    {t0 : Tok}
    {w1 : Addr} {wd1 : Option Addr} {t1_0 t1_1 t1_2 : Tok} {wn1 : Nat} {ws1 : Array (Option Value)}
    {t2 : Tok}
    (a0 : PySem.W.nsIn K mainGlobals "is_name" = some (some (.ref f0))) (l0 : K.lookup f0 = some ⟨oc0, od0, .func (PySem.W.fnOf "is_name" "is_name" (defArgs (top 4)) (defBody (top 4)) (defScope (top 4)) .none kV0 dc0 pm0 an0 cd0 ct0), sl0⟩) (c0 : PySem.W.codeIn K cd0 "is_name" = true) (k0 : PySem.W.keepIn K (.ref f0) = true)
    (a1 : PySem.W.nsIn K mainGlobals "_law_take" = some (some (.ref f1))) (l1 : K.lookup f1 = some ⟨oc1, od1, .func (PySem.W.fnOf "_law_take" "_law_take" (defArgs (top 7)) (defBody (top 7)) (defScope (top 7)) .none kV1 dc1 pm1 an1 cd1 ct1), sl1⟩) (c1 : PySem.W.codeIn K cd1 "_law_take" = true) (k1 : PySem.W.keepIn K (.ref f1) = true)
    (a2 : PySem.W.nsIn K mainGlobals "_law_any_name" = some (some (.ref f2))) (l2 : K.lookup f2 = some ⟨oc2, od2, .func (PySem.W.fnOf "_law_any_name" "_law_any_name" (defArgs (top 6)) (defBody (top 6)) (defScope (top 6)) .none kV2 dc2 pm2 an2 cd2 ct2), sl2⟩) (c2 : PySem.W.codeIn K cd2 "_law_any_name" = true) (k2 : PySem.W.keepIn K (.ref f2) = true)
    (a3 : PySem.W.nsIn K mainGlobals "_law_odd" = some (some (.ref f3))) (l3 : K.lookup f3 = some ⟨oc3, od3, .func (PySem.W.fnOf "_law_odd" "_law_odd" (defArgs (top 8)) (defBody (top 8)) (defScope (top 8)) .none kV3 dc3 pm3 an3 cd3 ct3), sl3⟩) (c3 : PySem.W.codeIn K cd3 "_law_odd" = true) (k3 : PySem.W.keepIn K (.ref f3) = true)
    (a4 : PySem.W.nsIn K mainGlobals "_law_bag" = some (some (.ref f4))) (l4 : K.lookup f4 = some ⟨oc4, od4, .func (PySem.W.fnOf "_law_bag" "_law_bag" (defArgs (top 9)) (defBody (top 9)) (defScope (top 9)) .none kV4 dc4 pm4 an4 cd4 ct4), sl4⟩) (c4 : PySem.W.codeIn K cd4 "_law_bag" = true) (k4 : PySem.W.keepIn K (.ref f4) = true)
    (a5 : PySem.W.nsIn K mainGlobals "_law_is_name" = some (some (.ref f5))) (l5 : K.lookup f5 = some ⟨oc5, od5, .func (PySem.W.fnOf "_law_is_name" "_law_is_name" (defArgs (top 10)) (defBody (top 10)) (defScope (top 10)) .none kV5 dc5 pm5 an5 cd5 ct5), sl5⟩) (c5 : PySem.W.codeIn K cd5 "_law_is_name" = true) (k5 : PySem.W.keepIn K (.ref f5) = true)
    (a6 : PySem.W.nsIn K mainGlobals "_law_some" = some (some (.ref f6))) (l6 : K.lookup f6 = some ⟨oc6, od6, .func (PySem.W.fnOf "_law_some" "_law_some" (defArgs (top 11)) (defBody (top 11)) (defScope (top 11)) .none kV6 dc6 pm6 an6 cd6 ct6), sl6⟩) (c6 : PySem.W.codeIn K cd6 "_law_some" = true) (k6 : PySem.W.keepIn K (.ref f6) = true)
    (a7 : PySem.W.nsIn K mainGlobals "law" = some (some (.ref f7))) (l7 : K.lookup f7 = some ⟨oc7, od7, .func (PySem.W.fnOf "law" "law" (defArgs (top 12)) (defBody (top 12)) (defScope (top 12)) .none kV7 dc7 pm7 an7 cd7 ct7), sl7⟩) (c7 : PySem.W.codeIn K cd7 "law" = true) (k7 : PySem.W.keepIn K (.ref f7) = true)
    (g0 : PySem.W.nsIn K mainGlobals "LETTERS" = some (some (.str "abcdefghijklmnopqrstuvwxyz" t0)))
    (g1 : PySem.W.nsIn K mainGlobals "WORDS" = some (some (.ref w1))) (gl1 : K.lookup w1 = some ⟨.type "tuple", wd1, .seq #[.str "show" t1_0, .str "drop" t1_1, .str "if" t1_2] wn1, ws1⟩)
    (g2 : PySem.W.nsIn K mainGlobals "MOST_SIGNS" = some (some (.int 4 t2)))
    (z0 : PySem.W.nsIn K mainGlobals "abs" = some none)
    (z1 : PySem.W.nsIn K mainGlobals "all" = some none)
    (z2 : PySem.W.nsIn K mainGlobals "bool" = some none)
    (z3 : PySem.W.nsIn K mainGlobals "isinstance" = some none)
    (z4 : PySem.W.nsIn K mainGlobals "len" = some none)
    (z5 : PySem.W.nsIn K mainGlobals "list" = some none)
    (z6 : PySem.W.nsIn K mainGlobals "max" = some none)
    (z7 : PySem.W.nsIn K mainGlobals "min" = some none)
    (z8 : PySem.W.nsIn K mainGlobals "range" = some none)
    (z9 : PySem.W.nsIn K mainGlobals "str" = some none)
    : ∃ fd : FuncData, (∀ (s : Shared) (v : Value), BindsTo s fd ⟨[v], []⟩ [("_law_script", v)]) ∧ ∀ base : Heap, K.In base → base.Ns mainGlobals mg → FnOk l.prog w K mg base (L2.CX l.prog w) 8 fa fd ["_law_script"] (spEnd K) := by
  have ee := hfa.symm.trans (PySem.W.mg_of X G a7)
  cases ee
  have hb : ∀ x ∈ blN, mg x = none := by
    unfold blN
    exact List.forall_mem_cons.mpr ⟨PySem.W.mg_none_of X G z0, List.forall_mem_cons.mpr ⟨PySem.W.mg_none_of X G z1, List.forall_mem_cons.mpr ⟨PySem.W.mg_none_of X G z2, List.forall_mem_cons.mpr ⟨PySem.W.mg_none_of X G z3, List.forall_mem_cons.mpr ⟨PySem.W.mg_none_of X G z4, List.forall_mem_cons.mpr ⟨PySem.W.mg_none_of X G z5, List.forall_mem_cons.mpr ⟨PySem.W.mg_none_of X G z6, List.forall_mem_cons.mpr ⟨PySem.W.mg_none_of X G z7, List.forall_mem_cons.mpr ⟨PySem.W.mg_none_of X G z8, List.forall_mem_cons.mpr ⟨PySem.W.mg_none_of X G z9, fun x hx => nomatch hx⟩⟩⟩⟩⟩⟩⟩⟩⟩⟩
  have hg : ∀ (j : Nat) x, gcN[j]? = some x → ∃ u w, mg x = some u ∧ RelV w u ∧ ∀ H W, DR ⟨K, fun _ => 0⟩ H W (gcV.getD j .non) w := by
    intro j x e
    match j, e with
    | 0, e => cases e; exact gc_str (PySem.W.mg_of X G g0)
    | 1, e => cases e; exact gc_strs (ss := ["show", "drop", "if"]) (PySem.W.mg_of X G g1) gl1 rfl rfl (show 3 ≤ sizeLine by decide) (.cons ⟨_, rfl⟩ (.cons ⟨_, rfl⟩ (.cons ⟨_, rfl⟩ .nil)))
    | 2, e => cases e; exact gc_int (PySem.W.mg_of X G g2)
    | j + 3, e => simp [gcN] at e
  refine ⟨PySem.W.fnOf "law" "law" (defArgs (top 12)) (defBody (top 12)) (defScope (top 12)) .none kV7 dc7 pm7 an7 cd7 ct7, fun s v => .of_eq rfl, fun base _ _ => ?_⟩
  exact (all_fb (fun_mk l0 c0 k0) (PySem.W.mg_of X G a0) (fun_mk l1 c1 k1) (PySem.W.mg_of X G a1) (fun_mk l2 c2 k2) (PySem.W.mg_of X G a2) (fun_mk l3 c3 k3) (PySem.W.mg_of X G a3) (fun_mk l4 c4 k4) (PySem.W.mg_of X G a4) (fun_mk l5 c5 k5) (PySem.W.mg_of X G a5) (fun_mk l6 c6 k6) (PySem.W.mg_of X G a6) (fun_mk l7 c7 k7) (PySem.W.mg_of X G a7) hb hg).imp fun vs H Q E q => end_of sem vs H Q E q
theorem walk {l : PySem.W.OpenLaw} {q : Program} {loose : List Str} {XP : (Str → Option Value) → Heap → Prop} {YP : World → Heap → Prop} {d : DefRec} {K : Params → PySem.W.Frag} (hn : l.most = some 63) (hdf : d.params.defaults = [])
    (hY : ∀ (w : World) (h : Heap), YP w h → (K w.params).In h)
    (F : ∀ (w : World) (mg : Str → Option Value) (fa : Addr) (h : Heap), (K w.params).In h → h.Ns mainGlobals mg → mg d.name = some (.ref fa) →
      ∃ fd : FuncData, (∀ (s : Shared) (u : Value), BindsTo s fd ⟨[u], []⟩ [("_law_script", u)]) ∧ ∀ base : Heap, (K w.params).In base → base.Ns mainGlobals mg → FnOk l.prog w (K w.params) mg base (L2.CX l.prog w) 8 fa fd ["_law_script"] (spEnd (K w.params))) :
    PySem.W.WalkO q loose XP YP l.row.toRowW d [] (fun f vs => PySem.call f vs) :=
  L2.walk_of (n := 63) (k := 8) (x := "_law_script") (CX := fun w => L2.CX l.prog w) (sp := fun w => spEnd (K w.params)) hn (by decide) hdf ⟨rfl, by decide, by decide⟩ hY F (fun _ _ a ns hl _ hS => ⟨a, ns, rfl, hS, hl, fun _ => rfl⟩) fun w H s e s' z => by
    obtain ⟨_, _, _, _, _, _, _, _, _, _, _, _, z⟩ := z
    exact z
end K
open PySem PySem.W PyProof.Rows
set_option maxRecDepth 100000 in
set_option maxHeartbeats 0 in
theorem PySem.Challenge.cw_freshcells_k01_names_holds : PySem.Challenge.rw_freshcells_k01_names.Holds := by
  w_on; o_law; k_head; (case hw => w_witness2)
  k_fill
  refine K.walk (l := PySem.Challenge.rw_freshcells_k01_names) rfl rfl (fun w h Y => PySem.W.kIn_of Y) ?F
  case F =>
    intro w mg fa h KX G hmg
    refine' K.all_mk KX G hmg ?q_a0 ?q_l0 ?q_c0 ?q_k0 ?q_a1 ?q_l1 ?q_c1 ?q_k1 ?q_a2 ?q_l2 ?q_c2 ?q_k2 ?q_a3 ?q_l3 ?q_c3 ?q_k3 ?q_a4 ?q_l4 ?q_c4 ?q_k4 ?q_a5 ?q_l5 ?q_c5 ?q_k5 ?q_a6 ?q_l6 ?q_c6 ?q_k6 ?q_a7 ?q_l7 ?q_c7 ?q_k7 ?q_g0 ?q_g1 ?q_gl1 ?q_g2 ?q_z0 ?q_z1 ?q_z2 ?q_z3 ?q_z4 ?q_z5 ?q_z6 ?q_z7 ?q_z8 ?q_z9
    (case q_a0 => k_is); (case q_l0 => k_is); (case q_c0 => k_is); (case q_k0 => k_is); (case q_a1 => k_is); (case q_l1 => k_is); (case q_c1 => k_is); (case q_k1 => k_is)
    (case q_a2 => k_is); (case q_l2 => k_is); (case q_c2 => k_is); (case q_k2 => k_is); (case q_a3 => k_is); (case q_l3 => k_is); (case q_c3 => k_is); (case q_k3 => k_is)
    (case q_a4 => k_is); (case q_l4 => k_is); (case q_c4 => k_is); (case q_k4 => k_is); (case q_a5 => k_is); (case q_l5 => k_is); (case q_c5 => k_is); (case q_k5 => k_is)
    (case q_a6 => k_is); (case q_l6 => k_is); (case q_c6 => k_is); (case q_k6 => k_is); (case q_a7 => k_is); (case q_l7 => k_is); (case q_c7 => k_is); (case q_k7 => k_is)
    (case q_g0 => k_is); (case q_g1 => k_is); (case q_gl1 => k_is); (case q_g2 => k_is); (case q_z0 => k_is); (case q_z1 => k_is); (case q_z2 => k_is); (case q_z3 => k_is)
    (case q_z4 => k_is); (case q_z5 => k_is); (case q_z6 => k_is); (case q_z7 => k_is); (case q_z8 => k_is); (case q_z9 => k_is)
