import PyProof.Rows.All
import Wide.All
import OpenK.AllK
import Wide.FinOn
import HandS.CallSlots
import HandS.EndTab
import HandS.ExcIs
import HandS.ForExc
import HandS.ForMost
import HandS.IsInst
import HandS.Lambda
import HandS.Small
import HandS.Style
import HandS.Wide
import HandS.WideBits
import HandS.Zip
import PySem.Challenge.RW_digitsasked_k07_whole_boxes_by_rules
set_option Elab.async false
set_option Elab.async false
set_option linter.all false
set_option maxRecDepth 100000
set_option maxHeartbeats 1000000
/-! a layer over HandS: tuples and settled lists as plain data; only what changes stands in a memory of its own -/
namespace DL
open PySem PySem.Spec PyProof.Rows L2

/-- a datum: what a value means, tuples and settled lists written out -/
inductive D where
  | non | bl (b : Bool) | int (i : Int) | str (x : Str) | tup (ds : List D) | lst (ds : List D) | scr (ds : List D) | dct (kds : List (Key × D)) | ref (a : Addr) | ty (n : String)
/-- what may change: a list, a dict, an instance of the class at C with its own dict at dx, a table of code objects named q -/
inductive MO where
  | lst (ds : List D)
  | dct (kds : List (Key × D))
  | dcT (kds : List (List Key × D))
  | ins (C dx : Addr) (fs : List (Str × D))
  | tab (q : Str)
abbrev Mm := Addr → Option MO
def mup (M : Mm) (a : Addr) (o : MO) : Mm := fun b => if b = a then some o else M b
def mdel (M : Mm) (a : Addr) : Mm := fun b => if b = a then none else M b
theorem mup_same {M : Mm} {a : Addr} {o : MO} : mup M a o a = some o := by unfold mup; rw [if_pos rfl]
theorem mup_ne {M : Mm} {a b : Addr} {o : MO} (h : b ≠ a) : mup M a o b = M b := by unfold mup; rw [if_neg h]
theorem mdel_same {M : Mm} {a : Addr} : mdel M a a = none := by unfold mdel; rw [if_pos rfl]
theorem mdel_ne {M : Mm} {a b : Addr} (h : b ≠ a) : mdel M a b = M b := by unfold mdel; rw [if_neg h]
theorem mup_mup {M : Mm} {a : Addr} {o u : MO} : mup (mup M a o) a u = mup M a u := by
  funext b; unfold mup; split <;> rfl
theorem mdel_mup {M : Mm} {a : Addr} {o : MO} (h : M a = none) : mdel (mup M a o) a = M := by
  funext b; unfold mdel mup; split
  · rename_i e; rw [e, h]
  · rfl

mutual
inductive Rp (K : PySem.W.Frag) (M : Mm) (H : Hp) : D → V → Prop
  | non : Rp K M H .non .non
  | bl (b : Bool) : Rp K M H (.bl b) (.bl b)
  | int (i : Int) : Rp K M H (.int i) (.int i)
  | str (x : Str) : Rp K M H (.str x) (.str x)
  | tup {a : Addr} {vs : List V} {ds : List D} : SqT K H a vs → RpL K M H ds vs → Rp K M H (.tup ds) (.ref a)
  | lst {a : Addr} {vs : List V} {ds : List D} : H a = some (.lst vs) → M a = none → RpL K M H ds vs → Rp K M H (.lst ds) (.ref a)
  | scr {a : Addr} {vs : List V} {ds : List D} : (∃ o, H a = some (.frz o (.lst vs))) ∨ (∃ (o : Obj) (its : Array Value) (n : Nat), K.lookup a = some o ∧ o.cls = .type "list" ∧ o.dict = none ∧ o.data = .seq its n ∧ its.size ≤ sizeLine ∧ Vals vs its.toList) →
      RpL K M H ds vs → Rp K M H (.scr ds) (.ref a)
  | dct {a : Addr} {kvs : List (Key × V)} {kds : List (Key × D)} : H a = some (.dK kvs) → M a = none → kds.map (·.1) = kvs.map (·.1) → RpL K M H (kds.map (·.2)) (kvs.map (·.2)) → Rp K M H (.dct kds) (.ref a)
  | ref (a : Addr) : Rp K M H (.ref a) (.ref a)
  | ty (n : String) : Rp K M H (.ty n) (.ty n)
inductive RpL (K : PySem.W.Frag) (M : Mm) (H : Hp) : List D → List V → Prop
  | nil : RpL K M H [] []
  | cons {d : D} {v : V} {ds : List D} {vs : List V} : Rp K M H d v → RpL K M H ds vs → RpL K M H (d :: ds) (v :: vs)
end

/-- the memory's object is what stands in the heap -/
def MoH (K : PySem.W.Frag) (M : Mm) (H : Hp) : MO → HO → Prop
  | .lst ds, .lst vs => RpL K M H ds vs
  | .dct kds, .dK kvs => kds.map (·.1) = kvs.map (·.1) ∧ RpL K M H (kds.map (·.2)) (kvs.map (·.2))
  | .dcT kds, .dT kvs => kds.map (·.1) = kvs.map (·.1) ∧ RpL K M H (kds.map (·.2)) (kvs.map (·.2))
  | .ins C dx fs, .ins C' dx' fs' => C = C' ∧ dx = dx' ∧ fs.map (·.1) = fs'.map (·.1) ∧ RpL K M H (fs.map (·.2)) (fs'.map (·.2))
  | .tab q, .tbl ps => TriplesOk ps.toList ∧ ∀ (pos : Pos) (cv : Value), codeAmong pos ps.toList = some cv → ∃ c, cv = .ref c ∧ H c = some (LamX.CodeO c q)
  | _, _ => False
def MRel (K : PySem.W.Frag) (M : Mm) (H : Hp) : Prop := ∀ a o, M a = some o → ∃ u, H a = some u ∧ MoH K M H o u
/-- what does not change stays -/
def Keep (M : Mm) (H : Hp) (M' : Mm) (H' : Hp) : Prop := ∀ a o, H a = some o → M a = none → (∀ ps, o ≠ .tbl ps) → H' a = some o ∧ M' a = none

section
variable {K : PySem.W.Frag} {M M' M1 M2 : Mm} {H H' H1 H2 : Hp} {d : D} {v : V} {ds : List D} {vs : List V} {a p : Addr}
theorem Keep.refl : Keep M H M H := fun _ _ h m _ => ⟨h, m⟩
theorem Keep.trans (a : Keep M H M1 H1) (b : Keep M1 H1 M2 H2) : Keep M H M2 H2 := fun c o h m n => by
  obtain ⟨h1, m1⟩ := a c o h m n
  exact b c o h1 m1 n
theorem MRel.lstAt (r : MRel K M H) (e : M a = some (.lst ds)) : ∃ vs, H a = some (.lst vs) ∧ RpL K M H ds vs := by
  obtain ⟨u, h, q⟩ := r a _ e
  cases u <;> first | exact ⟨_, h, q⟩ | exact q.elim
theorem MRel.noneOf (r : MRel K M H) {u : HO} (h : H a = some u) (hu : ∀ o, ¬ MoH K M H o u) : M a = none := by
  cases e : M a with
  | none => rfl
  | some o =>
    obtain ⟨u', h', q⟩ := r a o e
    rw [h] at h'
    cases h'
    exact absurd q (hu o)
theorem MRel.noneOfFree (r : MRel K M H) (h : H a = none) : M a = none := by
  cases e : M a with
  | none => rfl
  | some o => obtain ⟨u, h', _⟩ := r a o e; rw [h] at h'; cases h'
theorem moh_tup {o : MO} {xs : List V} : ¬ MoH K M H o (.tup xs) := by cases o <;> exact fun z => z
theorem moh_ext {o : MO} {φ : Heap → Prop} : ¬ MoH K M H o (.ext φ) := by cases o <;> exact fun z => z
theorem moh_frz {o : MO} {ob : Obj} {u : HO} : ¬ MoH K M H o (.frz ob u) := by cases o <;> exact fun z => z
theorem Keep.sqT (r : MRel K M H) (k : Keep M H M' H') (h : SqT K H a vs) : SqT K H' a vs := by
  rcases h with (h | ⟨o, h⟩) | h
  · exact .inl (.inl (k a _ h (r.noneOf h fun _ => moh_tup) (fun _ e => by cases e)).1)
  · exact .inl (.inr ⟨o, (k a _ h (r.noneOf h fun _ => moh_frz) (fun _ e => by cases e)).1⟩)
  · exact .inr h
mutual
theorem Rp.keep (r : MRel K M H) (k : Keep M H M' H') : ∀ {d : D} {v : V}, Rp K M H d v → Rp K M' H' d v
  | _, _, .non => .non
  | _, _, .bl b => .bl b
  | _, _, .int i => .int i
  | _, _, .str x => .str x
  | _, _, .tup h l => .tup (k.sqT r h) (RpL.keep r k l)
  | _, _, .lst h m l => .lst (k _ _ h m (fun _ e => by cases e)).1 (k _ _ h m (fun _ e => by cases e)).2 (RpL.keep r k l)
  | _, _, .scr (.inl ⟨o, h⟩) l => .scr (.inl ⟨o, (k _ _ h (r.noneOf h fun _ => moh_frz) (fun _ e => by cases e)).1⟩) (RpL.keep r k l)
  | _, _, .scr (.inr h) l => .scr (.inr h) (RpL.keep r k l)
  | _, _, .dct h m e l => .dct (k _ _ h m (fun _ e => by cases e)).1 (k _ _ h m (fun _ e => by cases e)).2 e (RpL.keep r k l)
  | _, _, .ref a => .ref a
  | _, _, .ty n => .ty n
theorem RpL.keep (r : MRel K M H) (k : Keep M H M' H') : ∀ {ds : List D} {vs : List V}, RpL K M H ds vs → RpL K M' H' ds vs
  | _, _, .nil => .nil
  | _, _, .cons x l => .cons (Rp.keep r k x) (RpL.keep r k l)
end
theorem MoH.keep (r : MRel K M H) (k : Keep M H M' H') {o : MO} {u : HO} (h : MoH K M H o u) : MoH K M' H' o u := by
  cases o <;> cases u <;> first
    | exact RpL.keep r k h
    | exact ⟨h.1, RpL.keep r k h.2⟩
    | exact ⟨h.1, h.2.1, h.2.2.1, RpL.keep r k h.2.2.2⟩
    | exact ⟨h.1, fun pos cv e => by
        obtain ⟨c, e1, e2⟩ := h.2 pos cv e
        exact ⟨c, e1, (k c _ e2 (r.noneOf e2 fun _ => moh_ext) (fun _ z => by unfold LamX.CodeO at z; cases z)).1⟩⟩
    | exact h.elim
theorem RpL.length (h : RpL K M H ds vs) : ds.length = vs.length := by
  induction ds generalizing vs with
  | nil => cases h; rfl
  | cons d ds ih => cases h with
    | cons x l => simp [ih l]
theorem RpL.get (h : RpL K M H ds vs) : ∀ {i : Nat} {d : D}, ds[i]? = some d → ∃ v, vs[i]? = some v ∧ Rp K M H d v := by
  induction ds generalizing vs with
  | nil => intro i d e; simp at e
  | cons x ds ih => cases h with
    | cons r l =>
      intro i d e
      cases i with
      | zero => simp at e; subst e; exact ⟨_, rfl, r⟩
      | succ i => simp at e; obtain ⟨v, h1, h2⟩ := ih l e; exact ⟨v, by simpa using h1, h2⟩
theorem RpL.append (h : RpL K M H ds vs) {es : List D} {us : List V} (g : RpL K M H es us) : RpL K M H (ds ++ es) (vs ++ us) := by
  induction ds generalizing vs with
  | nil => cases h; exact g
  | cons x ds ih => cases h with
    | cons r l => exact .cons r (ih l)
theorem RpL.drop (h : RpL K M H ds vs) (n : Nat) : RpL K M H (ds.drop n) (vs.drop n) := by
  induction n generalizing ds vs with
  | zero => exact h
  | succ n ih => cases h with
    | nil => exact .nil
    | cons r l => exact ih l
theorem RpL.take (h : RpL K M H ds vs) (n : Nat) : RpL K M H (ds.take n) (vs.take n) := by
  induction n generalizing ds vs with
  | zero => exact .nil
  | succ n ih => cases h with
    | nil => exact .nil
    | cons r l => exact .cons r (ih l)
theorem RpL.set (h : RpL K M H ds vs) {d : D} {v : V} (r : Rp K M H d v) (i : Nat) : RpL K M H (ds.set i d) (vs.set i v) := by
  induction i generalizing ds vs with
  | zero => cases h with
    | nil => exact .nil
    | cons x l => exact .cons r l
  | succ i ih => cases h with
    | nil => exact .nil
    | cons x l => exact .cons x (ih l)
/-- a new object -/
theorem Keep.new {o : HO} (n : H p = none) : Keep M H M (upd H p o) := fun a u h m _ => by
  refine ⟨?_, m⟩
  rw [upd_ne (ne_of_none h n)]; exact h
theorem Keep.newM {o : HO} {u : MO} (n : H p = none) : Keep M H (mup M p u) (upd H p o) := fun a w h m _ => by
  have e : a ≠ p := ne_of_none h n
  rw [upd_ne e, mup_ne e]; exact ⟨h, m⟩
theorem Keep.write {o : HO} {u u' : MO} (n : M p = some u) : Keep M H (mup M p u') (upd H p o) := fun a w h m _ => by
  have e : a ≠ p := by rintro rfl; rw [n] at m; cases m
  rw [upd_ne e, mup_ne e]; exact ⟨h, m⟩
theorem Keep.del {u : MO} (n : M p = some u) : Keep M H (mdel M p) H := fun a w h m _ => by
  have e : a ≠ p := by rintro rfl; rw [n] at m; cases m
  rw [mdel_ne e]; exact ⟨h, m⟩
theorem MRel.new {o : HO} (r : MRel K M H) (n : H p = none) : MRel K M (upd H p o) := fun a u e => by
  obtain ⟨w, h, q⟩ := r a u e
  exact ⟨w, by rw [upd_ne (ne_of_none h n)]; exact h, q.keep r (Keep.new n)⟩
theorem MRel.newM {u : MO} {o : HO} (r : MRel K M H) (n : H p = none) (l : MoH K M H u o) : MRel K (mup M p u) (upd H p o) := fun a w e => by
  by_cases c : a = p
  · subst c; rw [mup_same] at e; cases e
    exact ⟨o, upd_same, l.keep r (Keep.newM n)⟩
  · rw [mup_ne c] at e
    obtain ⟨z, h, q⟩ := r a w e
    exact ⟨z, by rw [upd_ne c]; exact h, q.keep r (Keep.newM n)⟩
theorem MRel.write {u u' : MO} {o : HO} (r : MRel K M H) (n : M p = some u) (l : MoH K M H u' o) : MRel K (mup M p u') (upd H p o) := fun a w e => by
  by_cases c : a = p
  · subst c; rw [mup_same] at e; cases e
    exact ⟨o, upd_same, l.keep r (Keep.write n)⟩
  · rw [mup_ne c] at e
    obtain ⟨z, h, q⟩ := r a w e
    exact ⟨z, by rw [upd_ne c]; exact h, q.keep r (Keep.write n)⟩
theorem MRel.del {u : MO} (r : MRel K M H) (n : M p = some u) : MRel K (mdel M p) H := fun a w e => by
  by_cases c : a = p
  · subst c; rw [mdel_same] at e; cases e
  · rw [mdel_ne c] at e
    obtain ⟨z, h, q⟩ := r a w e
    exact ⟨z, h, q.keep r (Keep.del n)⟩
end

/-! ### slots -/
abbrev DSt := List (Option D)
def RSt (K : PySem.W.Frag) (M : Mm) (H : Hp) (τ : DSt) (σ : L2.St) : Prop := τ.length = σ.length ∧ ∀ (i : Nat) (d : D), τ[i]? = some (some d) → ∃ v, σ[i]? = some (some v) ∧ Rp K M H d v
section
variable {K : PySem.W.Frag} {M M' : Mm} {H H' : Hp} {τ : DSt} {σ : L2.St}
theorem RSt.keep (r : MRel K M H) (k : Keep M H M' H') (h : RSt K M H τ σ) : RSt K M' H' τ σ := ⟨h.1, fun i d e => by
  obtain ⟨v, h1, h2⟩ := h.2 i d e
  exact ⟨v, h1, h2.keep r k⟩⟩
theorem RSt.set (h : RSt K M H τ σ) {d : D} {v : V} (r : Rp K M H d v) (i : Nat) : RSt K M H (τ.set i (some d)) (σ.set i (some v)) := ⟨by simp [h.1], fun j e q => by
  by_cases c : i = j
  · subst c
    by_cases hl : i < τ.length
    · rw [List.getElem?_set_self hl] at q
      cases q
      exact ⟨v, by rw [List.getElem?_set_self (by rw [← h.1]; exact hl)], r⟩
    · rw [List.getElem?_eq_none (by simpa using hl)] at q; cases q
  · rw [List.getElem?_set_ne c] at q ⊢
    exact h.2 j e q⟩
theorem RSt.setN (h : RSt K M H τ σ) (i : Nat) : RSt K M H (τ.set i none) (σ.set i none) := ⟨by simp [h.1], fun j e q => by
  by_cases c : i = j
  · subst c
    by_cases hl : i < τ.length
    · rw [List.getElem?_set_self hl] at q; cases q
    · rw [List.getElem?_eq_none (by simpa using hl)] at q; cases q
  · rw [List.getElem?_set_ne c] at q ⊢
    exact h.2 j e q⟩
def start (n : Nat) (ds : List D) : DSt := ds.map some ++ List.replicate (n - ds.length) none
theorem RSt.start {ds : List D} {vs : List V} (N : List Str) (h : RpL K M H ds vs) : RSt K M H (DL.start N.length ds) (L2.start N vs) := by
  have e := h.length
  refine ⟨by simp [DL.start, L2.start, e], fun i d q => ?_⟩
  unfold DL.start at q
  by_cases c : i < ds.length
  · rw [List.getElem?_append_left (by simpa using c), List.getElem?_map] at q
    cases g : ds[i]? with
    | none => rw [g] at q; cases q
    | some x =>
      rw [g] at q
      have q' : x = d := Option.some.inj (Option.some.inj q)
      subst q'
      obtain ⟨v, h1, h2⟩ := h.get g
      refine ⟨v, ?_, h2⟩
      unfold L2.start
      rw [List.getElem?_append_left (by simp; omega), List.getElem?_map, h1]; rfl
  · rw [List.getElem?_append_right (by simp; omega)] at q
    have := List.mem_of_getElem? q
    rw [List.mem_replicate] at this
    exact absurd this.2 (by simp)
end

/-! ### judgements -/
abbrev QD := D → Mm → Prop
/-- an exception: its class, the memory behind it -/
abbrev XD := Value → Mm → Prop
/-- a reading with answers of the kind α -/
abbrev TR (α : Type) := DSt → Mm → (α → Mm → Prop) → XD → Prop
abbrev TED := TR D
abbrev TTD := TR Bool
abbrev TAD := TR (List D)
/-- the reading seen from the layer below: R ties the answers -/
def lo {α β : Type} (K : PySem.W.Frag) (W : WX) (R : Mm → Hp → α → β → Prop) (t : TR α) : L2.St → Hp → (β → Hp → Prop) → Prop := fun σ H Q =>
  ∃ (τ : DSt) (M : Mm) (P : α → Mm → Prop) (Y : XD), RSt K M H τ σ ∧ MRel K M H ∧ t τ M P Y ∧
    (∀ (a : α) (M' : Mm) (b : β) (H' : Hp), R M' H' a b → MRel K M' H' → Keep M H M' H' → P a M' → Q b H') ∧
    (∀ (c : Value) (M' : Mm) (H' : Hp), MRel K M' H' → Keep M H M' H' → Y c M' → W c none σ H')
abbrev rV (K : PySem.W.Frag) : Mm → Hp → D → V → Prop := fun M H d v => Rp K M H d v
abbrev rB : Mm → Hp → Bool → Bool → Prop := fun _ _ a b => a = b
abbrev rL (K : PySem.W.Frag) : Mm → Hp → List D → List V → Prop := fun M H d v => RpL K M H d v
structure DE (X : Cx) (W : WX) (e : Expr) (t : TED) : Prop where
  of : PE X e (lo X.K W (rV X.K) t)
structure DT (X : Cx) (W : WX) (e : Expr) (t : TTD) : Prop where
  of : PT X e (lo X.K W rB t)
structure DW (X : Cx) (W : WX) (e : Expr) (t : TTD) : Prop where
  of : PW X e (lo X.K W rB t)
structure DA (X : Cx) (W : WX) (es : List Expr) (t : TAD) : Prop where
  of : PA X es (lo X.K W (rL X.K) t)
/-- an operation of two values -/
abbrev RD2 := D → D → Mm → QD → Prop
def Lift2 (K : PySem.W.Frag) (r' : RD2) (r : R2) : Prop := ∀ (x y : D) (M : Mm) (v u : V) (H : Hp) (P : QD) (Q : VK), Rp K M H x v → Rp K M H y u → MRel K M H → r' x y M P →
  (∀ (d : D) (M' : Mm) (w : V) (H' : Hp), Rp K M' H' d w → MRel K M' H' → Keep M H M' H' → P d M' → Q w H') → r v u H Q
abbrev RDn := List D → Mm → QD → Prop
def LiftN (K : PySem.W.Frag) (r' : RDn) (r : List V → Hp → VK → Prop) : Prop := ∀ (xs : List D) (M : Mm) (vs : List V) (H : Hp) (P : QD) (Q : VK), RpL K M H xs vs → MRel K M H → r' xs M P →
  (∀ (d : D) (M' : Mm) (w : V) (H' : Hp), Rp K M' H' d w → MRel K M' H' → Keep M H M' H' → P d M' → Q w H') → r vs H Q

/-! ### readings -/
def dVar (i : Nat) : TED := fun τ M P _ => ∃ d, τ[i]? = some (some d) ∧ P d M
def dC (d : D) : TED := fun _ M P _ => P d M
def dOp (r : RD2) (ta tb : TED) : TED := fun τ M P Y => ta τ M (fun x M1 => tb τ M1 (fun y M2 => r x y M2 P) Y) Y
def dUn (r : D → Mm → QD → Prop) (ta : TED) : TED := fun τ M P Y => ta τ M (fun x M1 => r x M1 P) Y
def dTest (t : TED) : TTD := fun τ M P Y => t τ M (fun x M1 => ∃ b, x = .bl b ∧ P b M1) Y
def dNil : TAD := fun _ M P _ => P [] M
def dCons (ta : TED) (tr : TAD) : TAD := fun τ M P Y => ta τ M (fun x M1 => tr τ M1 (fun xs M2 => P (x :: xs) M2) Y) Y
def dFn (r : RDn) (t : TAD) : TED := fun τ M P Y => t τ M (fun xs M1 => r xs M1 P) Y
def dAnd (t u : TTD) : TTD := fun τ M P Y => t τ M (fun b M1 => if b = true then u τ M1 P Y else P false M1) Y
def dOr (t u : TTD) : TTD := fun τ M P Y => t τ M (fun b M1 => if b = true then P true M1 else u τ M1 P Y) Y
def dNot (t : TTD) : TTD := fun τ M P Y => t τ M (fun b M1 => P (!b) M1) Y
def dAndV (ta tb : TED) : TED := fun τ M P Y => ta τ M (fun x M1 => ∃ b, x = .bl b ∧ if b = true then tb τ M1 P Y else P (.bl false) M1) Y
def dOrV (ta tb : TED) : TED := fun τ M P Y => ta τ M (fun x M1 => ∃ b, x = .bl b ∧ if b = true then P (.bl true) M1 else tb τ M1 P Y) Y
def dNotV (ta : TED) : TED := fun τ M P Y => ta τ M (fun x M1 => ∃ b, x = .bl b ∧ P (.bl (!b)) M1) Y
def dIf (c : TTD) (ta tb : TED) : TED := fun τ M P Y => c τ M (fun b M1 => if b = true then ta τ M1 P Y else tb τ M1 P Y) Y
def dTup (t : TAD) : TED := fun τ M P Y => t τ M (fun xs M1 => xs.length ≤ sizeLine ∧ P (.tup xs) M1) Y
/-- a list display: settled, or one that will change -/
def dLst (t : TAD) : TED := fun τ M P Y => t τ M (fun xs M1 => xs.length ≤ sizeLine ∧ (P (.lst xs) M1 ∨ ∀ p, M1 p = none → P (.ref p) (mup M1 p (.lst xs)))) Y

section
variable {X : Cx} {W : WX} {e a b : Expr} {es : List Expr} {t u : TED} {ta tb : TED} {pos : Pos}
theorem de_var (i : Nat) {x : Str} (hN : X.N[i]? = some x := by rfl) (hv : Vis X.env.scope x := by first | exact Or.inl rfl | exact Or.inr (Or.inl rfl) | exact Or.inr (Or.inr rfl)) (hd : (x == ("__debug__" : Str)) = false := by decide) (hcd : (x == ("__classdict__" : Str)) = false := by decide) :
    DE X W (.Name x pos) (dVar i) := ⟨⟨fun pins s σ H Q I h => by
  obtain ⟨τ, M, P, Y, hs, hm, ⟨d, e, q⟩, hp, _⟩ := h
  obtain ⟨v, e', r⟩ := hs.2 i d e
  exact (pe_var hN hv hd hcd).run pins s σ H Q I ⟨v, e', hp d M v H r hm Keep.refl q⟩⟩⟩
theorem de_c {d : D} {v : V} (h : PE X e (tC v)) (r : ∀ M H, Rp X.K M H d v) : DE X W e (dC d) := ⟨⟨fun pins s σ H Q I hh => by
  obtain ⟨τ, M, P, Y, hs, hm, q, hp, _⟩ := hh
  exact h.run pins s σ H Q I (hp d M v H (r M H) hm Keep.refl q)⟩⟩
theorem de_int {i : Int} {j} : DE X W (.Constant (.int i) j pos) (dC (.int i)) := de_c pe_int fun _ _ => .int i
theorem de_bl {i : Bool} {j} : DE X W (.Constant (.bool i) j pos) (dC (.bl i)) := de_c pe_bl fun _ _ => .bl i
theorem de_non {j} : DE X W (.Constant .none j pos) (dC .non) := de_c pe_non fun _ _ => .non
theorem de_str {i : Str} {j} : DE X W (.Constant (.str i) j pos) (dC (.str i)) := de_c pe_str fun _ _ => .str i
/-- a global constant -/
theorem de_glob {x : Str} {d : D} {v : V} {w : Value} (hg : Gl X x) (hm : X.mg x = some w) (r : RelV v w) (q : ∀ M H, Rp X.K M H d v) (hd : (x == ("__debug__" : Str)) = false := by decide) : DE X W (.Name x pos) (dC d) := de_c (pe_glob hg hm r hd) q

theorem de_op {op : Operator} {r' : RD2} {r : R2} (ho : OpR X (binaryOp op) r) (hl : Lift2 X.K r' r) (ha : DE X W a ta) (hb : DE X W b tb) : DE X W (.BinOp a op b pos) (dOp r' ta tb) := ⟨⟨fun pins s σ H Q I h => by
  obtain ⟨τ, M, P, Y, hs, hm, q, hp, hy⟩ := h
  refine (pe_op ho ha.of hb.of).run pins s σ H Q I ?_
  refine ⟨τ, M, _, Y, hs, hm, q, fun x M1 v H1 rx m1 k1 q1 => ?_, hy⟩
  refine ⟨τ, M1, _, Y, hs.keep hm k1, m1, q1, fun y M2 u H2 ry m2 k2 q2 => ?_, fun c M' H' m' k' y' => hy c M' H' m' (k1.trans k') y'⟩
  exact hl x y M2 v u H2 P Q (rx.keep m1 k2) ry m2 q2 fun d M' w H' r m' k' => hp d M' w H' r m' ((k1.trans k2).trans k')⟩⟩
theorem de_un {op : UnaryOp} {r' : D → Mm → QD → Prop} {r : V → Hp → VK → Prop} (ho : UnR X (unaryOp op) r)
    (hl : ∀ (x : D) (M : Mm) (v : V) (H : Hp) (P : QD) (Q : VK), Rp X.K M H x v → MRel X.K M H → r' x M P → (∀ (d : D) (M' : Mm) (w : V) (H' : Hp), Rp X.K M' H' d w → MRel X.K M' H' → Keep M H M' H' → P d M' → Q w H') → r v H Q)
    (ha : DE X W a ta) : DE X W (.UnaryOp op a pos) (dUn r' ta) := ⟨⟨fun pins s σ H Q I h => by
  obtain ⟨τ, M, P, Y, hs, hm, q, hp, hy⟩ := h
  refine (pe_un ho ha.of).run pins s σ H Q I ?_
  refine ⟨τ, M, _, Y, hs, hm, q, fun x M1 v H1 rx m1 k1 q1 => ?_, hy⟩
  exact hl x M1 v H1 P Q rx m1 q1 fun d M' w H' r m' k' => hp d M' w H' r m' (k1.trans k')⟩⟩
/-- a comparison, by its rule -/
theorem de_cmp {op : CmpOp} {r' : RD2} {r : R2} (ho : OpR X (compareOp op) r) (hl : Lift2 X.K r' r) (ha : DE X W a ta) (hb : DE X W b tb) (hm : behindInMarks op b = false) : DE X W (.Compare a [op] [b] pos) (dOp r' ta tb) := ⟨⟨fun pins s σ H Q I h => by
  obtain ⟨τ, M, P, Y, hs, hm', q, hp, hy⟩ := h
  refine (pe_cmpR ho ha.of hb.of hm).run pins s σ H Q I ?_
  refine ⟨τ, M, _, Y, hs, hm', q, fun x M1 v H1 rx m1 k1 q1 => ?_, hy⟩
  refine ⟨τ, M1, _, Y, hs.keep hm' k1, m1, q1, fun y M2 u H2 ry m2 k2 q2 => ?_, fun c M' H' m' k' y' => hy c M' H' m' (k1.trans k') y'⟩
  exact hl x y M2 v u H2 P Q (rx.keep m1 k2) ry m2 q2 fun d M' w H' r m' k' => hp d M' w H' r m' ((k1.trans k2).trans k')⟩⟩
theorem dt_cmp {op : CmpOp} {r' : RD2} {r : R2} (ho : OpR X (compareOp op) r) (hl : Lift2 X.K r' r) (ha : DE X W a ta) (hb : DE X W b tb) (hm : behindInMarks op b = false) : DT X W (.Compare a [op] [b] pos) (dTest (dOp r' ta tb)) := ⟨⟨fun pins s σ H Q I h => by
  obtain ⟨τ, M, P, Y, hs, hm', q, hp, hy⟩ := h
  refine (pt_cmpR ho ha.of hb.of hm).run pins s σ H Q I ?_
  refine ⟨τ, M, _, Y, hs, hm', q, fun x M1 v H1 rx m1 k1 q1 => ?_, hy⟩
  refine ⟨τ, M1, _, Y, hs.keep hm' k1, m1, q1, fun y M2 u H2 ry m2 k2 q2 => ?_, fun c M' H' m' k' y' => hy c M' H' m' (k1.trans k') y'⟩
  refine hl x y M2 v u H2 _ _ (rx.keep m1 k2) ry m2 q2 fun d M' w H' r m' k' ⟨z, ez, qz⟩ => ?_
  subst ez
  cases r
  exact ⟨z, rfl, hp z M' z H' rfl m' ((k1.trans k2).trans k') qz⟩⟩⟩
/-- a value that is a bool, as a test -/
theorem dt_val (h : DE X W e t) (he : ∀ whole, isTrue e X.env whole = (do let v ← whole; standAt e.pos; holding [v] (truthy v)) := by intro _; rfl) : DT X W e (dTest t) := ⟨⟨fun pins s σ H Q I hh => by
  obtain ⟨τ, M, P, Y, hs, hm, q, hp, hy⟩ := hh
  refine (pt_val h.of he).run pins s σ H Q I ?_
  refine ⟨τ, M, _, Y, hs, hm, q, fun x M1 v H1 rx m1 k1 ⟨z, ez, qz⟩ => ?_, hy⟩
  subst ez
  cases rx
  exact ⟨z, rfl, hp z M1 z H1 rfl m1 k1 qz⟩⟩⟩
theorem DW.dt {t : TTD} (h : DW X W e t) : DT X W e t := ⟨h.of.pt⟩
theorem dw_and1 {t : TTD} (ha : DT X W a t) : DW X W (.BoolOp .And [a] pos) t := ⟨pw_and1 ha.of⟩
theorem dw_or1 {t : TTD} (ha : DT X W a t) : DW X W (.BoolOp .Or [a] pos) t := ⟨pw_or1 ha.of⟩
theorem dw_and {rest : List Expr} {t u : TTD} (ha : DT X W a t) (hb : DW X W (.BoolOp .And (b :: rest) pos) u) : DW X W (.BoolOp .And (a :: b :: rest) pos) (dAnd t u) := ⟨⟨fun wh pins s σ H Q I h => by
  obtain ⟨τ, M, P, Y, hs, hm, q, hp, hy⟩ := h
  refine (pw_and ha.of hb.of).run wh pins s σ H Q I ?_
  refine ⟨τ, M, _, Y, hs, hm, q, fun x M1 v H1 rx m1 k1 q1 => ?_, hy⟩
  obtain rfl : x = v := rx
  cases x with
  | true => exact ⟨τ, M1, P, Y, hs.keep hm k1, m1, q1, fun y M2 u H2 ry m2 k2 => hp y M2 u H2 ry m2 (k1.trans k2), fun c M' H' m' k' y' => hy c M' H' m' (k1.trans k') y'⟩
  | false => exact hp false M1 false H1 rfl m1 k1 q1⟩⟩
theorem dw_or {rest : List Expr} {t u : TTD} (ha : DT X W a t) (hb : DW X W (.BoolOp .Or (b :: rest) pos) u) : DW X W (.BoolOp .Or (a :: b :: rest) pos) (dOr t u) := ⟨⟨fun wh pins s σ H Q I h => by
  obtain ⟨τ, M, P, Y, hs, hm, q, hp, hy⟩ := h
  refine (pw_or ha.of hb.of).run wh pins s σ H Q I ?_
  refine ⟨τ, M, _, Y, hs, hm, q, fun x M1 v H1 rx m1 k1 q1 => ?_, hy⟩
  obtain rfl : x = v := rx
  cases x with
  | false => exact ⟨τ, M1, P, Y, hs.keep hm k1, m1, q1, fun y M2 u H2 ry m2 k2 => hp y M2 u H2 ry m2 (k1.trans k2), fun c M' H' m' k' y' => hy c M' H' m' (k1.trans k') y'⟩
  | true => exact hp true M1 true H1 rfl m1 k1 q1⟩⟩
theorem dt_not {t : TTD} (ha : DT X W a t) : DT X W (.UnaryOp .Not a pos) (dNot t) := ⟨⟨fun pins s σ H Q I h => by
  obtain ⟨τ, M, P, Y, hs, hm, q, hp, hy⟩ := h
  refine (pt_not ha.of).run pins s σ H Q I ?_
  refine ⟨τ, M, _, Y, hs, hm, q, fun x M1 v H1 rx m1 k1 q1 => ?_, hy⟩
  obtain rfl : x = v := rx
  exact hp _ M1 _ H1 rfl m1 k1 q1⟩⟩
theorem de_one {op} (h : DE X W a t) : DE X W (.BoolOp op [a] pos) t := ⟨pe_one h.of⟩
theorem de_and {rest : List Expr} (ha : DE X W a ta) (hb : DE X W (.BoolOp .And (b :: rest) pos) tb) : DE X W (.BoolOp .And (a :: b :: rest) pos) (dAndV ta tb) := ⟨⟨fun pins s σ H Q I h => by
  obtain ⟨τ, M, P, Y, hs, hm, q, hp, hy⟩ := h
  refine (pe_and ha.of hb.of).run pins s σ H Q I ?_
  refine ⟨τ, M, _, Y, hs, hm, q, fun x M1 v H1 rx m1 k1 ⟨z, ez, q1⟩ => ?_, hy⟩
  subst ez
  cases rx
  refine ⟨z, rfl, ?_⟩
  cases z with
  | true => exact ⟨τ, M1, P, Y, hs.keep hm k1, m1, q1, fun y M2 u H2 ry m2 k2 => hp y M2 u H2 ry m2 (k1.trans k2), fun c M' H' m' k' y' => hy c M' H' m' (k1.trans k') y'⟩
  | false => exact hp _ M1 _ H1 (.bl false) m1 k1 q1⟩⟩
theorem de_or {rest : List Expr} (ha : DE X W a ta) (hb : DE X W (.BoolOp .Or (b :: rest) pos) tb) : DE X W (.BoolOp .Or (a :: b :: rest) pos) (dOrV ta tb) := ⟨⟨fun pins s σ H Q I h => by
  obtain ⟨τ, M, P, Y, hs, hm, q, hp, hy⟩ := h
  refine (pe_or ha.of hb.of).run pins s σ H Q I ?_
  refine ⟨τ, M, _, Y, hs, hm, q, fun x M1 v H1 rx m1 k1 ⟨z, ez, q1⟩ => ?_, hy⟩
  subst ez
  cases rx
  refine ⟨z, rfl, ?_⟩
  cases z with
  | false => exact ⟨τ, M1, P, Y, hs.keep hm k1, m1, q1, fun y M2 u H2 ry m2 k2 => hp y M2 u H2 ry m2 (k1.trans k2), fun c M' H' m' k' y' => hy c M' H' m' (k1.trans k') y'⟩
  | true => exact hp _ M1 _ H1 (.bl true) m1 k1 q1⟩⟩
theorem de_not (ha : DE X W a ta) : DE X W (.UnaryOp .Not a pos) (dNotV ta) := ⟨⟨fun pins s σ H Q I h => by
  obtain ⟨τ, M, P, Y, hs, hm, q, hp, hy⟩ := h
  refine (pe_not ha.of).run pins s σ H Q I ?_
  refine ⟨τ, M, _, Y, hs, hm, q, fun x M1 v H1 rx m1 k1 ⟨z, ez, q1⟩ => ?_, hy⟩
  subst ez
  cases rx
  exact ⟨z, rfl, hp _ M1 _ H1 (.bl _) m1 k1 q1⟩⟩⟩
theorem de_if {c : Expr} {tc : TTD} (hc : DT X W c tc) (ha : DE X W a ta) (hb : DE X W b tb) : DE X W (.IfExp c a b pos) (dIf tc ta tb) := ⟨⟨fun pins s σ H Q I h => by
  obtain ⟨τ, M, P, Y, hs, hm, q, hp, hy⟩ := h
  refine (pe_ifExp hc.of ha.of hb.of).run pins s σ H Q I ?_
  refine ⟨τ, M, _, Y, hs, hm, q, fun x M1 v H1 rx m1 k1 q1 => ?_, hy⟩
  obtain rfl : x = v := rx
  cases x with
  | true => exact ⟨τ, M1, P, Y, hs.keep hm k1, m1, q1, fun y M2 u H2 ry m2 k2 => hp y M2 u H2 ry m2 (k1.trans k2), fun c M' H' m' k' y' => hy c M' H' m' (k1.trans k') y'⟩
  | false => exact ⟨τ, M1, P, Y, hs.keep hm k1, m1, q1, fun y M2 u H2 ry m2 k2 => hp y M2 u H2 ry m2 (k1.trans k2), fun c M' H' m' k' y' => hy c M' H' m' (k1.trans k') y'⟩⟩⟩
theorem da_nil : DA X W [] dNil := ⟨⟨fun po pins s σ H Q I h => by
  obtain ⟨τ, M, P, Y, hs, hm, q, hp, hy⟩ := h
  exact pa_nil.run po pins s σ H Q I (hp [] M [] H .nil hm Keep.refl q)⟩⟩
theorem da_cons {tr : TAD} (ha : DE X W e t) (hr : DA X W es tr) (hs : starEach (e :: es) X.env = (false, eval e X.env) :: starEach es X.env := by rfl) : DA X W (e :: es) (dCons t tr) := ⟨⟨fun po pins s σ H Q I h => by
  obtain ⟨τ, M, P, Y, hs', hm, q, hp, hy⟩ := h
  refine (pa_cons ha.of hr.of hs).run po pins s σ H Q I ?_
  refine ⟨τ, M, _, Y, hs', hm, q, fun x M1 v H1 rx m1 k1 q1 => ?_, hy⟩
  refine ⟨τ, M1, _, Y, hs'.keep hm k1, m1, q1, fun y M2 u H2 ry m2 k2 q2 => ?_, fun c M' H' m' k' y' => hy c M' H' m' (k1.trans k') y'⟩
  exact hp (x :: y) M2 (v :: u) H2 (.cons (rx.keep m1 k2) ry) m2 (k1.trans k2) q2⟩⟩
theorem de_tup {tr : TAD} {x1} (h : DA X W es tr) : DE X W (.Tuple es x1 pos) (dTup tr) := ⟨⟨fun pins s σ H Q I hh => by
  obtain ⟨τ, M, P, Y, hs, hm, q, hp, hy⟩ := hh
  refine (pe_tup h.of).run pins s σ H Q I ?_
  refine ⟨τ, M, _, Y, hs, hm, q, fun x M1 v H1 rx m1 k1 ⟨q0, q1⟩ => ?_, hy⟩
  refine ⟨by rw [← rx.length]; exact q0, fun p hpn => ?_⟩
  have k2 : Keep M1 H1 M1 (upd H1 p (.tup v)) := Keep.new hpn
  exact hp _ M1 _ _ (.tup (.inl (.inl upd_same)) (rx.keep m1 k2)) (m1.new hpn) (k1.trans k2) q1⟩⟩
theorem de_lst {tr : TAD} (h : DA X W es tr) : DE X W (.List es pos) (dLst tr) := ⟨⟨fun pins s σ H Q I hh => by
  obtain ⟨τ, M, P, Y, hs, hm, q, hp, hy⟩ := hh
  refine (pe_lst h.of).run pins s σ H Q I ?_
  refine ⟨τ, M, _, Y, hs, hm, q, fun x M1 v H1 rx m1 k1 ⟨q0, q1⟩ => ?_, hy⟩
  refine ⟨by rw [← rx.length]; exact q0, fun p hpn => ?_⟩
  have fr := m1.noneOfFree hpn
  rcases q1 with q1 | q1
  · have k2 : Keep M1 H1 M1 (upd H1 p (.lst v)) := Keep.new hpn
    exact hp _ M1 _ _ (.lst upd_same fr (rx.keep m1 k2)) (m1.new hpn) (k1.trans k2) q1
  · have k2 : Keep M1 H1 (mup M1 p (.lst x)) (upd H1 p (.lst v)) := Keep.newM hpn
    exact hp _ _ _ _ (.ref p) (m1.newM hpn (show MoH _ _ _ (.lst _) (.lst _) from rx)) (k1.trans k2) (q1 p fr)⟩⟩
/-- a call of a builtin by its name -/
theorem de_callB {r' : RDn} {r : List V → Hp → VK → Prop} {x : Str} {id : String} {p : Pos} {tr : TAD} (hc : CallR X (.builtin id) r) (hl : LiftN X.K r' r) (hg : Gl X x) (hm : X.mg x = none) (hv : bootBuiltins x = some (.builtin id)) (ha : DA X W (e :: es) tr) (hn : x ≠ "__name__" := by decide) (hdb : (x == ("__debug__" : Str)) = false := by decide)
    (he : starEach (e :: es) X.env = (false, eval e X.env) :: starEach es X.env := by rfl) (hpl : (backTo pos (starEach es X.env)).any (·.1) = false := by rfl) : DE X W (.Call (.Name x p) (e :: es) [] pos) (dFn r' tr) := ⟨⟨fun pins s σ H Q I hh => by
  obtain ⟨τ, M, P, Y, hs, hm', q, hp, hy⟩ := hh
  refine (pe_callB hc hg hm hv ha.of hn hdb he hpl).run pins s σ H Q I ?_
  refine ⟨τ, M, _, Y, hs, hm', q, fun x M1 v H1 rx m1 k1 q1 => ?_, hy⟩
  exact hl x M1 v H1 P Q rx m1 q1 fun d M' w H' r m' k' => hp d M' w H' r m' (k1.trans k')⟩⟩
theorem de_callTy {r' : RDn} {r : List V → Hp → VK → Prop} {x : Str} {T : String} {p : Pos} {tr : TAD} (hc : CallR X (.type T) r) (hl : LiftN X.K r' r) (hg : Gl X x) (hm : X.mg x = none) (hv : bootBuiltins x = some (.type T)) (ha : DA X W (e :: es) tr) (hn : x ≠ "__name__" := by decide) (hdb : (x == ("__debug__" : Str)) = false := by decide)
    (he : starEach (e :: es) X.env = (false, eval e X.env) :: starEach es X.env := by rfl) (hpl : (backTo pos (starEach es X.env)).any (·.1) = false := by rfl) : DE X W (.Call (.Name x p) (e :: es) [] pos) (dFn r' tr) := ⟨⟨fun pins s σ H Q I hh => by
  obtain ⟨τ, M, P, Y, hs, hm', q, hp, hy⟩ := hh
  refine (pe_callTy hc hg hm hv ha.of hn hdb he hpl).run pins s σ H Q I ?_
  refine ⟨τ, M, _, Y, hs, hm', q, fun x M1 v H1 rx m1 k1 q1 => ?_, hy⟩
  exact hl x M1 v H1 P Q rx m1 q1 fun d M' w H' r m' k' => hp d M' w H' r m' (k1.trans k')⟩⟩
end
end DL

set_option Elab.async false
set_option linter.all false
set_option maxRecDepth 100000
set_option maxHeartbeats 1000000
namespace DL
open PySem PySem.Spec PyProof.Rows L2

/-! ### statements -/
/-- what is wanted behind a statement; ex: of an exception, at the slots and the memory where it is raised -/
structure DEnds where
  nx : DSt → Mm → Prop
  rt : QD
  bk : DSt → Mm → Prop := fun _ _ => False
  ct : DSt → Mm → Prop := fun _ _ => False
  ex : Value → DSt → Mm → Prop := fun _ _ _ => False
abbrev TSD := DEnds → DSt → Mm → Prop
structure EndsR (K : PySem.W.Frag) (W : WX) (M : Mm) (H : Hp) (F : DEnds) (E : Ends) : Prop where
  nx : ∀ (τ' : DSt) (M' : Mm) (σ' : L2.St) (H' : Hp), RSt K M' H' τ' σ' → MRel K M' H' → Keep M H M' H' → F.nx τ' M' → E.nx σ' H'
  rt : ∀ (d : D) (M' : Mm) (v : V) (H' : Hp), Rp K M' H' d v → MRel K M' H' → Keep M H M' H' → F.rt d M' → E.rt v H'
  bk : ∀ (τ' : DSt) (M' : Mm) (σ' : L2.St) (H' : Hp), RSt K M' H' τ' σ' → MRel K M' H' → Keep M H M' H' → F.bk τ' M' → E.bk σ' H'
  ct : ∀ (τ' : DSt) (M' : Mm) (σ' : L2.St) (H' : Hp), RSt K M' H' τ' σ' → MRel K M' H' → Keep M H M' H' → F.ct τ' M' → E.ct σ' H'
  ex : ∀ (c : Value) (τ' : DSt) (M' : Mm) (σ' : L2.St) (H' : Hp), RSt K M' H' τ' σ' → MRel K M' H' → Keep M H M' H' → F.ex c τ' M' → W c none σ' H'
theorem EndsR.later {K : PySem.W.Frag} {W : WX} {M M1 : Mm} {H H1 : Hp} {F : DEnds} {E : Ends} (r : EndsR K W M H F E) (k : Keep M H M1 H1) : EndsR K W M1 H1 F E :=
  ⟨fun a b c d x y z => r.nx a b c d x y (k.trans z), fun a b c d x y z => r.rt a b c d x y (k.trans z), fun a b c d x y z => r.bk a b c d x y (k.trans z), fun a b c d x y z => r.ct a b c d x y (k.trans z), fun e a b c d x y z => r.ex e a b c d x y (k.trans z)⟩
def loS (K : PySem.W.Frag) (W : WX) (t : TSD) : TS := fun E σ H => ∃ (τ : DSt) (M : Mm) (F : DEnds), RSt K M H τ σ ∧ MRel K M H ∧ t F τ M ∧ EndsR K W M H F E
structure DS (X : Cx) (W : WX) (st : Stmt) (t : TSD) : Prop where
  of : PS X st (loS X.K W t)
structure DSs (X : Cx) (W : WX) (st : List Stmt) (t : TSD) : Prop where
  of : PSs X st (loS X.K W t)

def dNext : TSD := fun F τ M => F.nx τ M
def dSeq (t u : TSD) : TSD := fun F τ M => t { F with nx := u F } τ M
def dBreak : TSD := fun F τ M => F.bk τ M
def dCont : TSD := fun F τ M => F.ct τ M
def dDrop (te : TED) : TSD := fun F τ M => te τ M (fun _ M1 => F.nx τ M1) (fun c M1 => F.ex c τ M1)
/-- return: as it is, or a list that changes no more is settled -/
def settle (P : QD) : QD := fun d M => P d M ∨ ∃ p ds, d = .ref p ∧ M p = some (.lst ds) ∧ P (.lst ds) (mdel M p)
def dRet (te : TED) : TSD := fun F τ M => te τ M F.rt (fun c M1 => F.ex c τ M1)
/-- return of a list that changed: it is settled -/
def dRetL (te : TED) : TSD := fun F τ M => te τ M (fun d M1 => ∃ p ds, d = .ref p ∧ M1 p = some (.lst ds) ∧ F.rt (.lst ds) (mdel M1 p)) (fun c M1 => F.ex c τ M1)
def dRetN : TSD := fun F _ M => F.rt .non M
def dIfS (c : TTD) (t u : TSD) : TSD := fun F τ M => c τ M (fun b M1 => if b = true then t F τ M1 else u F τ M1) (fun c M1 => F.ex c τ M1)
def dNever : TSD := fun _ _ _ => False
/-- a list in a slot is settled -/
def dSettle (i : Nat) (t : TSD) : TSD := fun F τ M => ∃ p ds, τ[i]? = some (some (.ref p)) ∧ M p = some (.lst ds) ∧ t F (τ.set i (some (.lst ds))) (mdel M p)

section
variable {X : Cx} {W : WX} {st : Stmt} {rest : List Stmt} {t u : TSD} {e : Expr} {te : TED} {pos : Pos}
theorem dss_nil : DSs X W [] dNext := ⟨⟨fun pins s σ H E I h => by
  obtain ⟨τ, M, F, hs, hm, q, r⟩ := h
  exact pss_nil.run pins s σ H E I (r.nx τ M σ H hs hm Keep.refl q)⟩⟩
theorem dss_cons (h1 : DS X W st t) (h2 : DSs X W rest u) : DSs X W (st :: rest) (dSeq t u) := ⟨⟨fun pins s σ H E I h => by
  obtain ⟨τ, M, F, hs, hm, q, r⟩ := h
  refine (pss_cons h1.of h2.of).run pins s σ H E I ?_
  refine ⟨τ, M, _, hs, hm, q, ⟨fun τ' M' σ' H' a b c d => ⟨τ', M', F, a, b, d, r.later c⟩, r.rt, r.bk, r.ct, r.ex⟩⟩⟩⟩
theorem dss_one (h1 : DS X W st t) : DSs X W [st] t := ⟨pss_one h1.of⟩
theorem ds_pass : DS X W (.Pass pos) dNext := ⟨⟨fun pins s σ H E I h => by
  obtain ⟨τ, M, F, hs, hm, q, r⟩ := h
  exact ps_pass.run pins s σ H E I (r.nx τ M σ H hs hm Keep.refl q)⟩⟩
theorem ds_break : DS X W (.Break pos) dBreak := ⟨⟨fun pins s σ H E I h => by
  obtain ⟨τ, M, F, hs, hm, q, r⟩ := h
  exact ps_break.run pins s σ H E I (r.bk τ M σ H hs hm Keep.refl q)⟩⟩
theorem ds_continue : DS X W (.Continue pos) dCont := ⟨⟨fun pins s σ H E I h => by
  obtain ⟨τ, M, F, hs, hm, q, r⟩ := h
  exact ps_continue.run pins s σ H E I (r.ct τ M σ H hs hm Keep.refl q)⟩⟩
theorem ds_expr (he : DE X W e te) (hs : swapsWith e none pos.line X.env = pure false := by rfl) : DS X W (.Expr e pos) (dDrop te) := ⟨⟨fun pins s σ H E I h => by
  obtain ⟨τ, M, F, hs', hm, q, r⟩ := h
  refine (ps_expr he.of hs).run pins s σ H E I ?_
  exact ⟨τ, M, _, _, hs', hm, q, fun d M1 v H1 rx m1 k1 q1 => r.nx τ M1 σ H1 (hs'.keep hm k1) m1 k1 q1, fun c M1 H1 m1 k1 y => r.ex c τ M1 σ H1 (hs'.keep hm k1) m1 k1 y⟩⟩⟩
theorem ds_ret (he : DE X W e te) : DS X W (.Return (some e) pos) (dRet te) := ⟨⟨fun pins s σ H E I h => by
  obtain ⟨τ, M, F, hs', hm, q, r⟩ := h
  refine (ps_ret he.of).run pins s σ H E I ?_
  exact ⟨τ, M, _, _, hs', hm, q, fun d M1 v H1 rx m1 k1 q1 => r.rt d M1 v H1 rx m1 k1 q1, fun c M1 H1 m1 k1 y => r.ex c τ M1 σ H1 (hs'.keep hm k1) m1 k1 y⟩⟩⟩
theorem ds_retL (he : DE X W e te) : DS X W (.Return (some e) pos) (dRetL te) := ⟨⟨fun pins s σ H E I h => by
  obtain ⟨τ, M, F, hs', hm, q, r⟩ := h
  refine (ps_ret he.of).run pins s σ H E I ?_
  refine ⟨τ, M, _, _, hs', hm, q, fun d M1 v H1 rx m1 k1 q1 => ?_, fun c M1 H1 m1 k1 y => r.ex c τ M1 σ H1 (hs'.keep hm k1) m1 k1 y⟩
  obtain ⟨p, ds, ed, ep, q2⟩ := q1
  subst ed
  cases rx
  obtain ⟨vs, hv, l⟩ := m1.lstAt ep
  have k2 : Keep M1 H1 (mdel M1 p) H1 := Keep.del ep
  exact r.rt _ _ _ H1 (.lst hv mdel_same (l.keep m1 k2)) (m1.del ep) (k1.trans k2) q2⟩⟩
theorem ds_retN : DS X W (.Return none pos) dRetN := ⟨⟨fun pins s σ H E I h => by
  obtain ⟨τ, M, F, hs', hm, q, r⟩ := h
  exact ps_retN.run pins s σ H E I (r.rt .non M .non H .non hm Keep.refl q)⟩⟩
theorem ds_if {c : Expr} {a b : List Stmt} {tc : TTD} (hc : DT X W c tc) (ha : DSs X W a t) (hb : DSs X W b u) : DS X W (.If c a b pos) (dIfS tc t u) := ⟨⟨fun pins s σ H E I h => by
  obtain ⟨τ, M, F, hs', hm, q, r⟩ := h
  refine (ps_if hc.of ha.of hb.of).run pins s σ H E I ?_
  refine ⟨τ, M, _, _, hs', hm, q, fun x M1 v H1 rx m1 k1 q1 => ?_, fun c M1 H1 m1 k1 y => r.ex c τ M1 σ H1 (hs'.keep hm k1) m1 k1 y⟩
  obtain rfl : x = v := rx
  cases x with
  | true => exact ⟨τ, M1, F, hs'.keep hm k1, m1, q1, r.later k1⟩
  | false => exact ⟨τ, M1, F, hs'.keep hm k1, m1, q1, r.later k1⟩⟩⟩
theorem ds_never : DS X W st dNever := ⟨⟨fun pins s σ H E I h => by
  obtain ⟨τ, M, F, hs', hm, q, r⟩ := h
  exact q.elim⟩⟩
theorem dss_never {sts : List Stmt} : DSs X W sts dNever := ⟨⟨fun pins s σ H E I h => by
  obtain ⟨τ, M, F, hs', hm, q, r⟩ := h
  exact q.elim⟩⟩
theorem dss_settle (i : Nat) {sts : List Stmt} (h1 : DSs X W sts t) : DSs X W sts (dSettle i t) := ⟨⟨fun pins s σ H E I h => by
  obtain ⟨τ, M, F, hs', hm, ⟨p, ds, e1, e2, q⟩, r⟩ := h
  obtain ⟨v, hv, rv⟩ := hs'.2 i _ e1
  cases rv
  obtain ⟨vs, hh, l⟩ := hm.lstAt e2
  have k2 : Keep M H (mdel M p) H := Keep.del e2
  refine h1.of.run pins s σ H E I ⟨_, _, F, ?_, hm.del e2, q, r.later k2⟩
  have z := (hs'.keep hm k2).set (d := .lst ds) (v := .ref p) (.lst hh mdel_same (l.keep hm k2)) i
  have same : σ.set i (some (.ref p)) = σ := by
    refine List.ext_getElem? fun j => ?_
    by_cases c : i = j
    · subst c
      rw [hv, List.getElem?_set_self (List.getElem?_eq_some_iff.mp hv).1]
    · rw [List.getElem?_set_ne c]
  rw [same] at z
  exact z⟩⟩
end

/-! ### targets -/
abbrev TGD := D → DSt → Mm → (DSt → Mm → Prop) → Prop
abbrev TGsD := List D → DSt → Mm → (DSt → Mm → Prop) → Prop
def loG (K : PySem.W.Frag) (t : TGD) : TG := fun v σ H Q => ∃ (d : D) (τ : DSt) (M : Mm) (P : DSt → Mm → Prop), Rp K M H d v ∧ RSt K M H τ σ ∧ MRel K M H ∧ t d τ M P ∧
  ∀ (τ' : DSt) (M' : Mm) (σ' : L2.St) (H' : Hp), RSt K M' H' τ' σ' → MRel K M' H' → Keep M H M' H' → P τ' M' → Q σ' H'
def loGs (K : PySem.W.Frag) (t : TGsD) : TGs := fun vs σ H Q => ∃ (ds : List D) (τ : DSt) (M : Mm) (P : DSt → Mm → Prop), RpL K M H ds vs ∧ RSt K M H τ σ ∧ MRel K M H ∧ t ds τ M P ∧
  ∀ (τ' : DSt) (M' : Mm) (σ' : L2.St) (H' : Hp), RSt K M' H' τ' σ' → MRel K M' H' → Keep M H M' H' → P τ' M' → Q σ' H'
structure DG (X : Cx) (target : Expr) (t : TGD) : Prop where
  of : PG X target (loG X.K t)
structure DGs (X : Cx) (ts : List Expr) (t : TGsD) : Prop where
  of : PGs X ts (loGs X.K t)
def hName (i : Nat) : TGD := fun d τ M P => P (τ.set i (some d)) M
def hNil : TGsD := fun ds τ M P => ds = [] ∧ P τ M
def hCons (t : TGD) (u : TGsD) : TGsD := fun ds τ M P => ∃ d r, ds = d :: r ∧ t d τ M fun τ' M' => u r τ' M' P
def hTup (n : Nat) (t : TGsD) : TGD := fun d τ M P => ∃ ds, d = .tup ds ∧ ds.length = n ∧ t ds τ M P
/-- o[i] = d, o a list that changes -/
def hSub (to ti : TED) : TGD := fun d τ M P => to τ M (fun o M1 => ti τ M1 (fun i M2 => ∃ p ds k j, o = .ref p ∧ i = .int k ∧ M2 p = some (.lst ds) ∧ ixN ds.length k = some j ∧ P τ (mup M2 p (.lst (ds.set j d)))) (fun _ _ => False)) (fun _ _ => False)
section
variable {X : Cx} {W : WX} {pos : Pos}
theorem dg_name {i : Nat} {x : Str} (hN : X.N.Nodup) (hi : X.N[i]? = some x) (hx : Loc X.env.scope x) (hf : X.fn x = true ∨ X.env.scope.names.lookup x = some .local := by first | exact .inl rfl | exact .inr rfl | assumption) : DG X (.Name x pos) (hName i) := ⟨⟨fun pins s σ H v u Q I r h => by
  obtain ⟨d, τ, M, P, rd, hs, hm, q, hp⟩ := h
  exact (pg_name hN hi hx hf).run pins s σ H v u Q I r (hp _ M _ H (hs.set rd i) hm Keep.refl q)⟩⟩
theorem dgs_nil : DGs X [] hNil := ⟨⟨fun pins s σ H vs us Q I r h => by
  obtain ⟨ds, τ, M, P, rd, hs, hm, ⟨e, q⟩, hp⟩ := h
  subst e
  cases rd
  exact pgs_nil.run pins s σ H [] us Q I r ⟨rfl, hp τ M σ H hs hm Keep.refl q⟩⟩⟩
theorem dgs_cons {e : Expr} {es : List Expr} {t : TGD} {u : TGsD} (h1 : DG X e t) (h2 : DGs X es u) (hs : (assignEach (e :: es) X.env).map (·.2) = assign e X.env :: (assignEach es X.env).map (·.2) := by rfl) : DGs X (e :: es) (hCons t u) := ⟨⟨fun pins s σ H vs us Q I r h => by
  obtain ⟨ds, τ, M, P, rd, hs', hm, ⟨d, ds', e, q⟩, hp⟩ := h
  subst e
  cases rd with
  | cons rd rl =>
    refine (pgs_cons h1.of h2.of hs).run pins s σ H _ us Q I r ⟨_, _, rfl, ?_⟩
    refine ⟨d, τ, M, _, rd, hs', hm, q, fun τ1 M1 σ1 H1 a b c q1 => ?_⟩
    exact ⟨ds', τ1, M1, P, rl.keep hm c, a, b, q1, fun τ2 M2 σ2 H2 a' b' c' q2 => hp τ2 M2 σ2 H2 a' b' (c.trans c') q2⟩⟩⟩
theorem dg_tup {es : List Expr} {k : Nat} {t : TGsD} {n : Nat} (hc : X.calm = true) (h : DGs X es t) (hn : (assignEach es X.env).length = n := by rfl) (hst : (assignEach es X.env).findIdx? (·.1) = none := by rfl) : DG X (.Tuple es k pos) (hTup n t) := ⟨⟨fun pins s σ H v u Q I r hh => by
  obtain ⟨d, τ, M, P, rd, hs', hm, ⟨ds, ed, el, q⟩, hp⟩ := hh
  subst ed
  cases rd with
  | tup hq rl =>
    refine (pg_tup hc h.of hn hst).run pins s σ H _ u Q I r ⟨_, _, rfl, hq, by rw [← rl.length]; exact el, ?_⟩
    exact ⟨ds, τ, M, P, rl, hs', hm, q, hp⟩⟩⟩
theorem dg_sub {o i : Expr} {to ti : TED} (ho : DE X (fun _ _ _ _ => False) o to) (hi : DE X (fun _ _ _ _ => False) i ti)
    (ha : ∀ v, assign (.Subscript o i pos) X.env v = (do
      let ov ← holding [v] (eval o X.env)
      let iv ← holding [v, ov] (eval i X.env)
      standAt pos
      holding [v, ov, iv] (setItem ov iv v)
      release [v, ov, iv] []) := by intro _; rfl) : DG X (.Subscript o i pos) (hSub to ti) := ⟨⟨fun pins s σ H v u Q I r hh => by
  obtain ⟨d, τ, M, P, rd, hs', hm, q, hp⟩ := hh
  refine (pg_sub ho.of hi.of set_list ha).run pins s σ H v u Q I r ?_
  refine ⟨τ, M, _, _, hs', hm, q, fun x M1 v1 H1 rx m1 k1 q1 => ?_, fun _ _ _ _ _ z => z⟩
  refine ⟨τ, M1, _, _, hs'.keep hm k1, m1, q1, fun y M2 v2 H2 ry m2 k2 q2 => ?_, fun _ _ _ _ _ z => z⟩
  obtain ⟨p, ds, k, j, e1, e2, e3, e4, q3⟩ := q2
  subst e1 e2
  cases ry
  cases rx
  obtain ⟨vs, hv, l⟩ := m2.lstAt e3
  refine ⟨p, vs, k, j, rfl, rfl, hv, by rw [← l.length]; exact e4, ?_⟩
  have kk := k1.trans k2
  have k3 : Keep M2 H2 (mup M2 p (.lst (ds.set j d))) (upd H2 p (.lst (vs.set j v))) := Keep.write e3
  exact hp τ _ σ _ ((hs'.keep hm kk).keep m2 k3) (m2.write e3 (show MoH _ _ _ (.lst _) (.lst _) from l.set (rd.keep hm kk) j)) (kk.trans k3) q3⟩⟩
def dAsg (te : TED) (g : TGD) : TSD := fun F τ M => te τ M (fun x M1 => g x τ M1 F.nx) (fun c M1 => F.ex c τ M1)
theorem ds_asg {tg e : Expr} {te : TED} {g : TGD} (he : DE X W e te) (hg : DG X tg g) (hs : swapsWithSole [tg] e pos.line X.env = pure false := by rfl) (hw : swappedStores [tg] e X.env = pure none := by rfl)
    (h1 : (assignEach [tg] X.env).map (·.2) = [assign tg X.env] := by rfl) : DS X W (.Assign [tg] e pos) (dAsg te g) := ⟨⟨fun pins s σ H E I h => by
  obtain ⟨τ, M, F, hs', hm, q, r⟩ := h
  refine (ps_asg he.of hg.of hs hw h1).run pins s σ H E I ?_
  refine ⟨τ, M, _, _, hs', hm, q, fun x M1 v H1 rx m1 k1 q1 => ?_, fun c M1 H1 m1 k1 y => r.ex c τ M1 σ H1 (hs'.keep hm k1) m1 k1 y⟩
  exact ⟨x, τ, M1, _, rx, hs'.keep hm k1, m1, q1, fun τ' M' σ' H' a b c z => r.nx τ' M' σ' H' a b (k1.trans c) z⟩⟩⟩
theorem ds_set {i : Nat} {x : Str} {e : Expr} {te : TED} {pos' : Pos} (hN : X.N.Nodup) (hi : X.N[i]? = some x) (hx : Loc X.env.scope x) (he : DE X W e te) (hs : swapsWith e (some (.Name x pos')) pos.line X.env = pure false := by rfl) (hf : X.fn x = true ∨ X.env.scope.names.lookup x = some .local := by first | exact .inl rfl | exact .inr rfl | assumption) :
    DS X W (.Assign [.Name x pos'] e pos) (dAsg te (hName i)) := ⟨⟨fun pins s σ H E I h => by
  obtain ⟨τ, M, F, hs', hm, q, r⟩ := h
  refine (ps_set hN hi hx he.of hs hf).run pins s σ H E I ?_
  refine ⟨τ, M, _, _, hs', hm, q, fun x M1 v H1 rx m1 k1 q1 => ?_, fun c M1 H1 m1 k1 y => r.ex c τ M1 σ H1 (hs'.keep hm k1) m1 k1 y⟩
  exact r.nx _ M1 _ H1 ((hs'.keep hm k1).set rx i) m1 k1 q1⟩⟩
/-- a, b = x, y with plain local names -/
def dPar (i j : Nat) (ta : TAD) : TSD := fun F τ M => ta τ M (fun ds M1 => ∃ x y, ds = [x, y] ∧ F.nx ((τ.set i (some x)).set j (some y)) M1) (fun c M1 => F.ex c τ M1)
theorem ds_par {i j : Nat} {x y : Str} {a b : Expr} {ta : TAD} {px py pt : Pos} {kt k2 pt2} (hc : X.calm = true) (hN : X.N.Nodup) (hi : X.N[i]? = some x) (hj : X.N[j]? = some y) (hij : i ≠ j)
    (hx : X.env.scope.names.lookup x = some .local) (hy : X.env.scope.names.lookup y = some .local) (ha : DA X W [a, b] ta)
    (hw : swappedStores [.Tuple [.Name x px, .Name y py] kt pt] (.Tuple [a, b] k2 pt2) X.env = pure (some [x, y]))
    (hs : swapsWithSole [.Tuple [.Name x px, .Name y py] kt pt] (.Tuple [a, b] k2 pt2) pos.line X.env = pure false := by rfl) :
    DS X W (.Assign [.Tuple [.Name x px, .Name y py] kt pt] (.Tuple [a, b] k2 pt2) pos) (dPar i j ta) := ⟨⟨fun pins s σ H E I h => by
  obtain ⟨τ, M, F, hs', hm, q, r⟩ := h
  refine (ps_par hc hN hi hj hij hx hy ha.of hw hs).run pins s σ H E I ?_
  refine ⟨τ, M, _, _, hs', hm, q, fun x M1 v H1 rx m1 k1 q1 => ?_, fun c M1 H1 m1 k1 y => r.ex c τ M1 σ H1 (hs'.keep hm k1) m1 k1 y⟩
  obtain ⟨x, y, e, q2⟩ := q1
  subst e
  cases rx with
  | cons r1 rr => cases rr with
    | cons r2 rr =>
      cases rr
      exact ⟨_, _, rfl, r.nx _ M1 _ H1 (((hs'.keep hm k1).set r1 i).set r2 j) m1 k1 q2⟩⟩⟩
/-- name op= e -/
def dAug (i : Nat) (te : TED) (ti : RD2) : TSD := fun F τ M => ∃ x, τ[i]? = some (some x) ∧ te τ M (fun y M1 => ti x y M1 fun z M2 => F.nx (τ.set i (some z)) M2) (fun c M1 => F.ex c τ M1)
theorem ds_aug {i : Nat} {x : Str} {e : Expr} {te : TED} {op : Operator} {r' : RD2} {ti : TIp} {pos' : Pos} (hN : X.N.Nodup) (hi : X.N[i]? = some x) (hx : Loc X.env.scope x) (he : DE X W e te) (ho : PIp X op ti) (hl : Lift2 X.K r' ti) (hf : X.fn x = true ∨ X.env.scope.names.lookup x = some .local := by first | exact .inl rfl | exact .inr rfl | assumption) :
    DS X W (.AugAssign (.Name x pos') op e pos) (dAug i te r') := ⟨⟨fun pins s σ H E I h => by
  obtain ⟨τ, M, F, hs', hm, ⟨d, ed, q⟩, r⟩ := h
  obtain ⟨v, hv, rv⟩ := hs'.2 i d ed
  refine (ps_aug hN hi hx he.of ho hf).run pins s σ H E I ⟨v, hv, ?_⟩
  refine ⟨τ, M, _, _, hs', hm, q, fun y M1 v1 H1 rx m1 k1 q1 => ?_, fun c M1 H1 m1 k1 y => r.ex c τ M1 σ H1 (hs'.keep hm k1) m1 k1 y⟩
  exact hl d y M1 v v1 H1 _ _ (rv.keep hm k1) rx m1 q1 fun z M2 w H2 rz m2 k2 q2 => r.nx _ M2 _ H2 (((hs'.keep hm k1).keep m1 k2).set rz i) m2 (k1.trans k2) q2⟩⟩
end

/-! ### loops -/
def dWhile (c : TTD) (tb : TSD) : TSD := fun F τ M => ∃ U : Nat → DSt → Mm → Prop, (∃ m, U m τ M) ∧ ∀ m τ M, U m τ M →
  c τ M (fun b M1 => if b = true then tb { F with nx := fun τ' M' => ∃ m', m' < m ∧ U m' τ' M', ct := fun τ' M' => ∃ m', m' < m ∧ U m' τ' M', bk := F.nx } τ M1 else F.nx τ M1) (fun c M1 => F.ex c τ M1)
section
variable {X : Cx} {W : WX} {pos : Pos}
theorem ds_while {c : Expr} {body : List Stmt} {tc : TTD} {tb : TSD} (hp : PassesOwn (model X.prog X.w) X.A X.env X.xe) (hc : DT X W c tc) (hb : DSs X W body tb) : DS X W (.While c body [] pos) (dWhile tc tb) := ⟨⟨fun pins s σ H E I h => by
  obtain ⟨τ, M, F, hs', hm, ⟨U, ⟨m0, u0⟩, turn⟩, r⟩ := h
  refine (ps_while hp hc.of hb.of).run pins s σ H E I ?_
  refine ⟨fun m σ1 H1 => ∃ τ1 M1, RSt X.K M1 H1 τ1 σ1 ∧ MRel X.K M1 H1 ∧ Keep M H M1 H1 ∧ U m τ1 M1, ⟨m0, τ, M, hs', hm, Keep.refl, u0⟩, ?_⟩
  rintro m σ1 H1 ⟨τ1, M1, s1, m1, k1, u1⟩
  refine ⟨τ1, M1, _, _, s1, m1, turn m τ1 M1 u1, fun b M2 b' H2 rb m2 k2 q2 => ?_, fun c M2 H2 m2 k2 y => r.ex c τ1 M2 σ1 H2 (s1.keep m1 k2) m2 (k1.trans k2) y⟩
  obtain rfl : b = b' := rb
  cases b with
  | true =>
    refine ⟨fun σ3 H3 => ∃ m', m' < m ∧ ∃ τ3 M3, RSt X.K M3 H3 τ3 σ3 ∧ MRel X.K M3 H3 ∧ Keep M H M3 H3 ∧ U m' τ3 M3, fun σ3 H3 z => z, ?_⟩
    refine ⟨τ1, M2, _, s1.keep m1 k2, m2, q2, ?_⟩
    have rr := r.later (k1.trans k2)
    exact ⟨fun τ3 M3 σ3 H3 a b c ⟨m', l, z⟩ => ⟨m', l, τ3, M3, a, b, (k1.trans k2).trans c, z⟩, rr.rt, rr.nx, fun τ3 M3 σ3 H3 a b c ⟨m', l, z⟩ => ⟨m', l, τ3, M3, a, b, (k1.trans k2).trans c, z⟩, rr.ex⟩
  | false => exact r.nx τ1 M2 σ1 H2 (s1.keep m1 k2) m2 (k1.trans k2) q2⟩⟩
end
/-- a walk over settled items -/
def ItL (K : PySem.W.Frag) (J : It) (ds : List D) (M0 : Mm) (H0 : Hp) : Prop := ∀ (i : Nat) (M : Mm) (H : Hp), MRel K M H → Keep M0 H0 M H →
  (i < ds.length → J.go i H) ∧ (ds.length ≤ i → J.stop i H) ∧ ∀ d, ds[i]? = some d → ∀ x H', J.yld i H x H' → Rp K M H' d x ∧ MRel K M H' ∧ Keep M H M H'
abbrev TID := TR (List D)
def loI (K : PySem.W.Frag) (W : WX) (t : TID) : TI := fun σ H R => ∃ (τ : DSt) (M : Mm) (P : List D → Mm → Prop) (Y : XD), RSt K M H τ σ ∧ MRel K M H ∧ t τ M P Y ∧
  (∀ (ds : List D) (M' : Mm) (J : It) (H' : Hp), ItL K J ds M' H' → MRel K M' H' → Keep M H M' H' → P ds M' → R J H') ∧
  (∀ (c : Value) (M' : Mm) (H' : Hp), MRel K M' H' → Keep M H M' H' → Y c M' → W c none σ H')
structure DI (X : Cx) (W : WX) (tg iter : Expr) (t : TID) : Prop where
  of : PI X tg iter (loI X.K W t)
def forD (g : TGD) (tb : TSD) (F : DEnds) : List D → DSt → Mm → Prop
  | [], τ, M => F.nx τ M
  | d :: r, τ, M => g d τ M fun τ2 M2 => tb { F with nx := forD g tb F r, ct := forD g tb F r, bk := F.nx } τ2 M2
def dFor (ti : TID) (g : TGD) (tb : TSD) : TSD := fun F τ M => ti τ M (fun ds M1 => forD g tb F ds τ M1) (fun c M1 => F.ex c τ M1)
section
variable {X : Cx} {W : WX} {pos : Pos}
theorem ds_for {tg iter : Expr} {body : List Stmt} {ti : TID} {g : TGD} {tb : TSD} (hp : PassesOwn (model X.prog X.w) X.A X.env X.xe) (hc : X.calm = true) (hi : DI X W tg iter ti) (hg : DG X tg g) (hb : DSs X W body tb)
    (hs : ∀ x, foldedSetIterable iter X.env x = pure x := by intro _; rfl) : DS X W (.For tg iter body [] pos) (dFor ti g tb) := ⟨⟨fun pins s σ H E I h => by
  obtain ⟨τ, M, F, hs', hm, q, r⟩ := h
  refine (ps_for hp hc hi.of hg.of hb.of hs).run pins s σ H E I ?_
  refine ⟨τ, M, _, _, hs', hm, q, fun ds M1 J H1 hJ m1 k1 q1 => ?_, fun c M1 H1 m1 k1 y => r.ex c τ M1 σ H1 (hs'.keep hm k1) m1 k1 y⟩
  refine ⟨fun i m σ2 H2 => ∃ τ2 M2, m = ds.length - i ∧ i ≤ ds.length ∧ RSt X.K M2 H2 τ2 σ2 ∧ MRel X.K M2 H2 ∧ Keep M1 H1 M2 H2 ∧ forD g tb F (ds.drop i) τ2 M2,
    ⟨ds.length, τ, M1, by simp, Nat.zero_le _, hs'.keep hm k1, m1, Keep.refl, q1⟩, ?_⟩
  rintro i m σ2 H2 ⟨τ2, M2, em, hi, s2, m2, k2, q2⟩
  obtain ⟨j1, j2, j3⟩ := hJ i M2 H2 m2 k2
  by_cases hlt : i < ds.length
  · refine .inr ⟨j1 hlt, fun σ3 H3 => ∃ τ3 M3, RSt X.K M3 H3 τ3 σ3 ∧ MRel X.K M3 H3 ∧ Keep M1 H1 M3 H3 ∧ forD g tb F (ds.drop (i + 1)) τ3 M3, fun σ3 H3 ⟨τ3, M3, a, b, c, z⟩ => ⟨ds.length - (i + 1), by omega, τ3, M3, rfl, hlt, a, b, c, z⟩, fun x H' hy => ?_⟩
    obtain ⟨rx, m2', k2'⟩ := j3 _ (List.getElem?_eq_getElem hlt) x H' hy
    have ed : ds.drop i = ds[i] :: ds.drop (i + 1) := List.drop_eq_getElem_cons hlt
    rw [ed] at q2
    refine ⟨ds[i], τ2, M2, _, rx, s2.keep m2 k2', m2', q2, fun τ3 M3 σ3 H3 a b c q3 => ?_⟩
    refine ⟨τ3, M3, _, a, b, q3, ?_⟩
    have kk := (k2.trans k2').trans c
    have rr := r.later (k1.trans kk)
    exact ⟨fun τ4 M4 σ4 H4 a b c z => ⟨τ4, M4, a, b, kk.trans c, z⟩, rr.rt, rr.nx, fun τ4 M4 σ4 H4 a b c z => ⟨τ4, M4, a, b, kk.trans c, z⟩, rr.ex⟩
  · have e : i = ds.length := by omega
    rw [e, List.drop_length] at q2
    exact .inl ⟨j2 (by omega), r.nx τ2 M2 σ2 H2 s2 m2 (k1.trans k2) q2⟩⟩⟩
end
end DL

set_option Elab.async false
set_option linter.all false
set_option maxRecDepth 100000
set_option maxHeartbeats 1000000
namespace DL
open PySem PySem.Spec PyProof.Rows L2

/-! ### what is walked -/
def dItT (te : TED) : TID := fun τ M P Y => te τ M (fun d M1 => ∃ ds, d = .tup ds ∧ P ds M1) Y
def dItL (te : TED) : TID := fun τ M P Y => te τ M (fun d M1 => ∃ ds, d = .lst ds ∧ P ds M1) Y
def rangeD (lo : Int) (n : Nat) : List D := (List.range n).map fun (i : Nat) => D.int (lo + (i : Int))
def dRng1 (ta : TAD) : TID := fun τ M P Y => ta τ M (fun ds M1 => ∃ j : Int, ds = [.int j] ∧ -(2 ^ 62) ≤ j ∧ j < 2 ^ 62 ∧ P (rangeD 0 j.toNat) M1) Y
def dRng2 (ta : TAD) : TID := fun τ M P Y => ta τ M (fun ds M1 => ∃ i j : Int, ds = [.int i, .int j] ∧ (-(2 ^ 62) ≤ i ∧ i < 2 ^ 62 ∧ -(2 ^ 62) ≤ j ∧ j < 2 ^ 62) ∧ P (rangeD i (j - i).toNat) M1) Y
def zipD (xs ys : List D) : List D := List.zipWith (fun x y => D.tup [x, y]) xs ys
def dZip (ta : TAD) : TID := fun τ M P Y => ta τ M (fun ds M1 => ∃ xs ys, (ds = [.lst xs, .lst ys] ∨ ds = [.tup xs, .tup ys]) ∧ P (zipD xs ys) M1) Y
section
variable {K : PySem.W.Frag} {M0 : Mm} {H0 : Hp} {a b : Addr} {ds es : List D} {vs us : List V}
theorem itl_tup (hm : MRel K M0 H0) (hq : SqT K H0 a vs) (l : RpL K M0 H0 ds vs) : ItL K (Itt K a) ds M0 H0 := fun i M H m k => by
  have q := k.sqT hm hq
  have e := l.length
  refine ⟨fun hi => ⟨vs, vs[i]'(by omega), q, List.getElem?_eq_getElem _⟩, fun hi => ⟨vs, q, by omega⟩, fun d hd x H' ⟨e1, e2⟩ => ?_⟩
  subst e1
  obtain ⟨v, h1, h2⟩ := (l.keep hm k).get hd
  have z := e2 vs q
  rw [h1] at z
  cases z
  exact ⟨h2, m, Keep.refl⟩
theorem itl_lst (hm : MRel K M0 H0) (hq : H0 a = some (.lst vs)) (ha : M0 a = none) (l : RpL K M0 H0 ds vs) : ItL K (Itl K a) ds M0 H0 := fun i M H m k => by
  have q : SqL K H a vs := .inl (.inl (k _ _ hq ha (fun _ e => by cases e)).1)
  have e := l.length
  refine ⟨fun hi => ⟨vs, vs[i]'(by omega), q, List.getElem?_eq_getElem _⟩, fun hi => ⟨vs, q, by omega⟩, fun d hd x H' ⟨e1, e2⟩ => ?_⟩
  subst e1
  obtain ⟨v, h1, h2⟩ := (l.keep hm k).get hd
  have z := e2 vs q
  rw [h1] at z
  cases z
  exact ⟨h2, m, Keep.refl⟩
theorem rng_go {lo : Int} {n i : Nat} {H : Hp} (h : i < (rangeD lo n).length) : (Itr lo n).go i H := by
  have : i < n := by simpa [rangeD] using h
  exact this
theorem rng_stop {lo : Int} {n i : Nat} {H : Hp} (h : (rangeD lo n).length ≤ i) : (Itr lo n).stop i H := by
  have : n ≤ i := by simpa [rangeD] using h
  exact this
theorem itl_scr (hm : MRel K M0 H0) (hq : (∃ o, H0 a = some (.frz o (.lst vs))) ∨ (∃ (o : Obj) (its : Array Value) (n : Nat), K.lookup a = some o ∧ o.cls = .type "list" ∧ o.dict = none ∧ o.data = .seq its n ∧ its.size ≤ sizeLine ∧ Vals vs its.toList)) (l : RpL K M0 H0 ds vs) : ItL K (Itl K a) ds M0 H0 := fun i M H m k => by
  have q : SqL K H a vs := by
    rcases hq with ⟨o, h⟩ | h
    · exact .inl (.inr ⟨o, (k _ _ h (hm.noneOf h fun _ => moh_frz) (fun _ e => by cases e)).1⟩)
    · exact .inr h
  have e := l.length
  refine ⟨fun hi => ⟨vs, vs[i]'(by omega), q, List.getElem?_eq_getElem _⟩, fun hi => ⟨vs, q, by omega⟩, fun d hd x H' ⟨e1, e2⟩ => ?_⟩
  subst e1
  obtain ⟨v, h1, h2⟩ := (l.keep hm k).get hd
  have z := e2 vs q
  rw [h1] at z
  cases z
  exact ⟨h2, m, Keep.refl⟩
theorem itl_rng (lo : Int) (n : Nat) : ItL K (Itr lo n) (rangeD lo n) M0 H0 := fun i M H m k => by
  refine ⟨fun hi => rng_go hi, fun hi => rng_stop hi, fun d hd x H' ⟨e1, e2⟩ => ?_⟩
  subst e1 e2
  unfold rangeD at hd
  rw [List.getElem?_map] at hd
  cases q : (List.range n)[i]? with
  | none => rw [q] at hd; cases hd
  | some j =>
    rw [q] at hd
    have hi : i < n := by
      have := (List.getElem?_eq_some_iff.mp q).1
      simpa using this
    rw [List.getElem?_range hi] at q
    cases q
    cases hd
    exact ⟨.int _, m, Keep.refl⟩
theorem zipD_get {xs ys : List D} {i : Nat} {d : D} (h : (zipD xs ys)[i]? = some d) : ∃ x y, xs[i]? = some x ∧ ys[i]? = some y ∧ d = .tup [x, y] := by
  unfold zipD at h
  rw [List.getElem?_zipWith] at h
  cases p : xs[i]? with
  | none => rw [p] at h; simp at h
  | some x =>
    cases q : ys[i]? with
    | none => rw [p, q] at h; simp at h
    | some y => rw [p, q] at h; exact ⟨x, y, rfl, rfl, by simpa using h.symm⟩
theorem itl_zipL (hm : MRel K M0 H0) (hq : H0 a = some (.lst vs)) (ha : M0 a = none) (l : RpL K M0 H0 ds vs) (hq' : H0 b = some (.lst us)) (hb : M0 b = none) (l' : RpL K M0 H0 es us) : ItL K (Itz K a b) (zipD ds es) M0 H0 := fun i M H m k => by
  have q : SqL K H a vs := .inl (.inl (k _ _ hq ha (fun _ e => by cases e)).1)
  have q' : SqL K H b us := .inl (.inl (k _ _ hq' hb (fun _ e => by cases e)).1)
  have e := l.length
  have e' := l'.length
  have el : (zipD ds es).length = min ds.length es.length := by unfold zipD; simp
  refine ⟨fun hi => ?_, fun hi => ⟨vs, us, q, q', by omega⟩, fun d hd x H' ⟨T, y, z, e1, n, e2, h1, h2⟩ => ?_⟩
  · rw [el] at hi
    exact ⟨vs, us, vs[i]'(by omega), us[i]'(by omega), q, q', List.getElem?_eq_getElem _, List.getElem?_eq_getElem _⟩
  · obtain ⟨d1, d2, g1, g2, rfl⟩ := zipD_get hd
    obtain ⟨v1, a1, a2⟩ := (l.keep hm k).get g1
    obtain ⟨v2, b1, b2⟩ := (l'.keep hm k).get g2
    have z1 := h1 vs q
    have z2 := h2 us q'
    rw [a1] at z1; cases z1
    rw [b1] at z2; cases z2
    subst e1 e2
    have k2 : Keep M H M (upd H T (.tup [y, z])) := Keep.new n
    exact ⟨.tup (.inl (.inl upd_same)) (.cons (a2.keep m k2) (.cons (b2.keep m k2) .nil)), m.new n, k2⟩
theorem itl_zipT (hm : MRel K M0 H0) (hq : SqT K H0 a vs) (l : RpL K M0 H0 ds vs) (hq' : SqT K H0 b us) (l' : RpL K M0 H0 es us) : ItL K (RZ.ItzT K a b) (zipD ds es) M0 H0 := fun i M H m k => by
  have q := k.sqT hm hq
  have q' := k.sqT hm hq'
  have e := l.length
  have e' := l'.length
  have el : (zipD ds es).length = min ds.length es.length := by unfold zipD; simp
  refine ⟨fun hi => ?_, fun hi => ⟨vs, us, q, q', by omega⟩, fun d hd x H' ⟨T, y, z, e1, n, e2, h1, h2⟩ => ?_⟩
  · rw [el] at hi
    exact ⟨vs, us, vs[i]'(by omega), us[i]'(by omega), q, q', List.getElem?_eq_getElem _, List.getElem?_eq_getElem _⟩
  · obtain ⟨d1, d2, g1, g2, rfl⟩ := zipD_get hd
    obtain ⟨v1, a1, a2⟩ := (l.keep hm k).get g1
    obtain ⟨v2, b1, b2⟩ := (l'.keep hm k).get g2
    have z1 := h1 vs q
    have z2 := h2 us q'
    rw [a1] at z1; cases z1
    rw [b1] at z2; cases z2
    subst e1 e2
    have k2 : Keep M H M (upd H T (.tup [y, z])) := Keep.new n
    exact ⟨.tup (.inl (.inl upd_same)) (.cons (a2.keep m k2) (.cons (b2.keep m k2) .nil)), m.new n, k2⟩
end
section
variable {X : Cx} {W : WX} {tg : Expr} {pos : Pos}
theorem di_tup {e : Expr} {te : TED} (he : DE X W e te) : DI X W tg e (dItT te) := ⟨⟨fun pins s σ H R I h => by
  obtain ⟨τ, M, P, Y, hs, hm, q, hp, hy⟩ := h
  refine (pi_tup he.of).run pins s σ H R I ?_
  refine ⟨τ, M, _, Y, hs, hm, q, fun d M1 v H1 rx m1 k1 ⟨ds, ed, q1⟩ => ?_, hy⟩
  subst ed
  cases rx with
  | tup hq l => exact ⟨_, rfl, ⟨_, hq⟩, hp ds M1 _ H1 (itl_tup m1 hq l) m1 k1 q1⟩⟩⟩
theorem di_lst {e : Expr} {te : TED} (he : DE X W e te) : DI X W tg e (dItL te) := ⟨⟨fun pins s σ H R I h => by
  obtain ⟨τ, M, P, Y, hs, hm, q, hp, hy⟩ := h
  refine (pi_list he.of).run pins s σ H R I ?_
  refine ⟨τ, M, _, Y, hs, hm, q, fun d M1 v H1 rx m1 k1 ⟨ds, ed, q1⟩ => ?_, hy⟩
  subst ed
  cases rx with
  | lst hq ha l => exact ⟨_, rfl, ⟨_, .inl (.inl hq)⟩, hp ds M1 _ H1 (itl_lst m1 hq ha l) m1 k1 q1⟩⟩⟩
theorem di_rng1 {a : Expr} {ta : TAD} {p : Pos} (hg : Gl X "range") (hm : X.mg "range" = none) (ha : DA X W [a] ta) (hs : starEach [a] X.env = [(false, eval a X.env)] := by rfl) : DI X W tg (.Call (.Name "range" p) [a] [] pos) (dRng1 ta) := ⟨⟨fun pins s σ H R I h => by
  obtain ⟨τ, M, P, Y, hs', hm', q, hp, hy⟩ := h
  refine (pi_range1 hg hm ha.of hs).run pins s σ H R I ?_
  refine ⟨τ, M, _, Y, hs', hm', q, fun d M1 v H1 rx m1 k1 ⟨j, ed, b1, b2, q1⟩ => ?_, hy⟩
  subst ed
  cases rx with
  | cons r rr =>
    cases rr
    cases r
    exact ⟨j, rfl, b1, b2, hp _ M1 _ H1 (itl_rng 0 j.toNat) m1 k1 q1⟩⟩⟩
theorem di_rng2 {a b : Expr} {ta : TAD} {p : Pos} (hg : Gl X "range") (hm : X.mg "range" = none) (ha : DA X W [a, b] ta) (hs : starEach [a, b] X.env = [(false, eval a X.env), (false, eval b X.env)] := by rfl) (hs2 : starEach [b] X.env = [(false, eval b X.env)] := by rfl) : DI X W tg (.Call (.Name "range" p) [a, b] [] pos) (dRng2 ta) := ⟨⟨fun pins s σ H R I h => by
  obtain ⟨τ, M, P, Y, hs', hm', q, hp, hy⟩ := h
  refine (pi_range2 hg hm ha.of hs hs2).run pins s σ H R I ?_
  refine ⟨τ, M, _, Y, hs', hm', q, fun d M1 v H1 rx m1 k1 ⟨i, j, ed, bb, q1⟩ => ?_, hy⟩
  subst ed
  cases rx with
  | cons r rr =>
    cases r
    cases rr with
    | cons r rr =>
      cases r
      cases rr
      exact ⟨i, j, rfl, bb, hp _ M1 _ H1 (itl_rng i (j - i).toNat) m1 k1 q1⟩⟩⟩
theorem di_zip {e e2 : Expr} {ta : TAD} {p tpos : Pos} {elts : List Expr} {kk : Nat} (hg : Gl X "zip") (hm : X.mg "zip" = none) (ha : DA X W [e, e2] ta)
    (hs : starEach [e, e2] X.env = (false, eval e X.env) :: starEach [e2] X.env := by rfl) (hpl : (backTo pos (starEach [e2] X.env)).any (·.1) = false := by rfl) :
    DI X W (.Tuple elts kk tpos) (.Call (.Name "zip" p) [e, e2] [] pos) (dZip ta) := ⟨⟨fun pins s σ H R I h => by
  obtain ⟨τ, M, P, Y, hs', hm', q, hp, hy⟩ := h
  refine (RZ.pi_zipA hg hm ha.of hs hpl).run pins s σ H R I ?_
  refine ⟨τ, M, _, Y, hs', hm', q, fun d M1 v H1 rx m1 k1 ⟨xs, ys, ed, q1⟩ => ?_, hy⟩
  rcases ed with ed | ed
  · subst ed
    cases rx with
    | cons r rr => cases rr with
      | cons r2 rr =>
        cases rr
        cases r with
        | lst hq ha l => cases r2 with
          | lst hq2 ha2 l2 => exact ⟨_, _, _, _, rfl, .inl ⟨.inl (.inl hq), .inl (.inl hq2), hp _ M1 _ H1 (itl_zipL m1 hq ha l hq2 ha2 l2) m1 k1 q1⟩⟩
  · subst ed
    cases rx with
    | cons r rr => cases rr with
      | cons r2 rr =>
        cases rr
        cases r with
        | tup hq l => cases r2 with
          | tup hq2 l2 => exact ⟨_, _, _, _, rfl, .inr ⟨hq, hq2, hp _ M1 _ H1 (itl_zipT m1 hq l hq2 l2) m1 k1 q1⟩⟩⟩⟩
end

/-! ### comprehensions -/
def dwipe (τ : DSt) : List Nat → DSt
  | [] => τ
  | v :: vs => (dwipe τ vs).set v none
theorem RSt.wipe {K : PySem.W.Frag} {M : Mm} {H : Hp} {τ : DSt} {σ : L2.St} (h : RSt K M H τ σ) : ∀ vs, RSt K M H (dwipe τ vs) (L2.wipe σ vs)
  | [] => h
  | v :: vs => (RSt.wipe h vs).setN v
/-- a target whose stores lie in the slots vs -/
def WipeG (K : PySem.W.Frag) (vs : List Nat) (g : TG) (g' : TGD) : Prop := ∀ (d : D) (v : V) (τ : DSt) (σ : L2.St) (M : Mm) (H : Hp) (P : DSt → Mm → Prop) (Q : L2.St → Hp → Prop), Rp K M H d v → RSt K M H τ σ → MRel K M H → g' d τ M P →
  (∀ (τ' : DSt) (σ' : L2.St), RSt K M H τ' σ' → L2.wipe σ' vs = L2.wipe σ vs → P τ' M → Q σ' H) → g v σ H Q
theorem wipe_set {σ : L2.St} {i : Nat} {o : Option V} : ∀ {vs : List Nat}, i ∈ vs → L2.wipe (σ.set i o) vs = L2.wipe σ vs
  | v :: vs, h => by
    unfold L2.wipe
    by_cases hv : i ∈ vs
    · rw [wipe_set hv]
    · have e : i = v := by
        rcases List.mem_cons.mp h with e | e
        · exact e
        · exact absurd e hv
      subst e
      have comm : ∀ (σ : L2.St) (vs : List Nat), i ∉ vs → L2.wipe (σ.set i o) vs = (L2.wipe σ vs).set i o := by
        intro σ vs
        induction vs with
        | nil => intro _; rfl
        | cons w vs ih =>
          intro hn
          unfold L2.wipe
          rw [ih fun z => hn (List.mem_cons_of_mem _ z)]
          rw [List.set_comm _ _ (fun z => hn (by rw [z]; exact List.mem_cons_self))]
      rw [comm σ vs hv, List.set_set]
theorem wipeG_name {K : PySem.W.Frag} {vs : List Nat} {i : Nat} (h : i ∈ vs) : WipeG K vs (gName i) (hName i) := fun d v τ σ M H P Q rd hs hm q k => k _ _ (hs.set rd i) (wipe_set h) q
def lcD (g : TGD) (tt : TTD) (te : TED) (vs : List Nat) (p : Addr) : List D → List D → DSt → Mm → (List D → Mm → Prop) → Prop
  | [], acc, _, M, P => M p = some (.lst acc) ∧ P acc M
  | d :: r, acc, τ, M, P => g d (dwipe τ vs) M fun τ2 M2 => tt τ2 M2 (fun b M3 => if b = true then te τ2 M3 (fun y M4 => M4 p = some (.lst acc) ∧ acc.length < sizeLine ∧ lcD g tt te vs p r (acc ++ [y]) τ (mup M4 p (.lst (acc ++ [y]))) P) (fun _ _ => False)
      else lcD g tt te vs p r acc τ M3 P) (fun _ _ => False)
def dLc (ti : TID) (g : TGD) (tt : TTD) (te : TED) (vs : List Nat) : TED := fun τ M P Y => ti τ M (fun ds M1 => ∀ p, M1 p = none → lcD g tt te vs p ds [] τ (mup M1 p (.lst [])) (fun acc M2 => P (.lst acc) (mdel M2 p))) Y
structure DTs (X : Cx) (ifs : List Expr) (t : TTD) : Prop where
  of : PTs X ifs (lo X.K (fun _ _ _ _ => False) rB t)
def dYes : TTD := fun _ M P _ => P true M
theorem dts_nil {X : Cx} : DTs X [] dYes := ⟨⟨fun pins s σ H Q I h => by
  obtain ⟨τ, M, P, Y, hs, hm, q, hp, hy⟩ := h
  exact pts_nil.run pins s σ H Q I (hp true M true H rfl hm Keep.refl q)⟩⟩
theorem dts_one {X : Cx} {c : Expr} {t : TTD} (h : DT X (fun _ _ _ _ => False) c t) : DTs X [c] t := ⟨pts_one h.of⟩
abbrev W0 : WX := fun _ _ _ _ => False
section
variable {X : Cx} {W : WX}
/-- the reading below, from the reading above -/
theorem lc_low {wi : TID} {g : TGD} {gl : TG} {tt : TTD} {te : TED} {vs : List Nat} (hG : WipeG X.K vs gl g) {τ : DSt} {M : Mm} {σ : L2.St} {H : Hp} {P : QD} {Y : XD} {Q : VK} (hs : RSt X.K M H τ σ) (hm : MRel X.K M H) (q : dLc wi g tt te vs τ M P Y)
    (hp : ∀ (d : D) (M' : Mm) (v : V) (H' : Hp), Rp X.K M' H' d v → MRel X.K M' H' → Keep M H M' H' → P d M' → Q v H')
    (hy : ∀ (c : Value) (M' : Mm) (H' : Hp), MRel X.K M' H' → Keep M H M' H' → Y c M' → W c none σ H') :
    tLc (loI X.K W wi) gl (lo X.K W0 rB tt) (lo X.K W0 (rV X.K) te) vs σ H Q := by
  refine ⟨τ, M, _, Y, hs, hm, q, fun ds M1 J H1 hJ m1 k1 q1 => ?_, hy⟩
  intro p hpn
  have fr : M1 p = none := m1.noneOfFree hpn
  have q2 := q1 p fr
  have k2 : Keep M1 H1 (mup M1 p (.lst [])) (upd H1 p (.lst [])) := Keep.newM hpn
  have m2 := m1.newM hpn (show MoH X.K M1 H1 (.lst []) (.lst []) from .nil)
  refine ⟨fun i m H2 => ∃ M2 acc, m = ds.length - i ∧ i ≤ ds.length ∧ MRel X.K M2 H2 ∧ Keep (mup M1 p (.lst [])) (upd H1 p (.lst [])) M2 H2 ∧ lcD g tt te vs p (ds.drop i) acc τ M2 (fun acc M2 => P (.lst acc) (mdel M2 p)),
    ⟨ds.length, _, [], by simp, Nat.zero_le _, m2, Keep.refl, q2⟩, ?_⟩
  rintro i m H2 ⟨M2, acc, em, hi, m3, k3, q3⟩
  obtain ⟨j1, j2, j3⟩ := hJ i M2 H2 m3 (k2.trans k3)
  have kk := (k1.trans k2).trans k3
  by_cases hlt : i < ds.length
  · refine .inr ⟨j1 hlt, fun H3 => ∃ M3 acc, MRel X.K M3 H3 ∧ Keep (mup M1 p (.lst [])) (upd H1 p (.lst [])) M3 H3 ∧ lcD g tt te vs p (ds.drop (i + 1)) acc τ M3 (fun acc M2 => P (.lst acc) (mdel M2 p)),
      fun H3 ⟨M3, acc3, a, b, z⟩ => ⟨ds.length - (i + 1), by omega, M3, acc3, rfl, hlt, a, b, z⟩, fun x H' hyl => ?_⟩
    obtain ⟨rx, m4, k4⟩ := j3 _ (List.getElem?_eq_getElem hlt) x H' hyl
    rw [List.drop_eq_getElem_cons hlt] at q3
    unfold lcD at q3
    have s2 := (((hs.keep hm kk).keep m3 k4)).wipe vs
    refine hG _ x _ _ M2 H' _ _ rx s2 m4 q3 fun τ5 σ5 s5 ew q5 => ⟨?_, ?_⟩
    · rw [ew]
      have idem : ∀ (σ : L2.St) (us vs : List Nat), (∀ u ∈ us, u ∈ vs) → L2.wipe (L2.wipe σ us) vs = L2.wipe σ vs := by
        intro σ us vs
        induction us with
        | nil => intro _; rfl
        | cons u us ih =>
          intro hh
          show L2.wipe ((L2.wipe σ us).set u none) vs = _
          rw [wipe_set (hh u List.mem_cons_self), ih fun v hv => hh v (List.mem_cons_of_mem _ hv)]
      exact idem σ vs vs fun _ h => h
    · refine ⟨τ5, M2, _, _, s5, m4, q5, fun b M6 b' H6 rb m6 k6 q6 => ?_, fun _ _ _ _ _ z => z⟩
      obtain rfl : b = b' := rb
      cases b with
      | true =>
        rw [if_pos rfl] at q6 ⊢
        refine ⟨τ5, M6, _, _, s5.keep m4 k6, m6, q6, fun y M7 v7 H7 ry m7 k7 ⟨ep, el, q7⟩ => ?_, fun _ _ _ _ _ z => z⟩
        obtain ⟨us, hus, l⟩ := m7.lstAt ep
        have k8 : Keep M7 H7 (mup M7 p (.lst (acc ++ [y]))) (upd H7 p (.lst (us ++ [v7]))) := Keep.write ep
        refine ⟨us, hus, by rw [← l.length]; exact el, _, _, m7.write ep (show MoH _ _ _ (.lst _) (.lst _) from l.append (.cons ry .nil)), ?_, q7⟩
        exact (((k3.trans k4).trans k6).trans k7).trans k8
      | false =>
        rw [if_neg Bool.false_ne_true] at q6 ⊢
        exact ⟨M6, acc, m6, (k3.trans k4).trans k6, q6⟩
  · have e : i = ds.length := by omega
    rw [e, List.drop_length] at q3
    unfold lcD at q3
    obtain ⟨ep, q4⟩ := q3
    obtain ⟨us, hus, l⟩ := m3.lstAt ep
    have k5 : Keep M2 H2 (mdel M2 p) H2 := Keep.del ep
    exact .inl ⟨j2 (by omega), hp _ _ _ H2 (.lst hus mdel_same (l.keep m3 k5)) (m3.del ep) (kk.trans k5) q4⟩
theorem de_lc {elt tg iter : Expr} {ifs : List Expr} {scope : Scope} {own : List (Str × Nat)} {pos : Pos} {wi : TID} {g : TGD} {gl : TG} {tt : TTD} {te : TED} (hc : X.calm = true) (hN : X.N.Nodup) (hi : DI X W tg iter wi) (ok : BlkOk X.N X.env.scope scope own)
    (hG : WipeG X.K (own.map (·.2)) gl g)
    (hg : ∀ (s : Shared) (H : Hp) (C : Addr) (cl : List (Str × Addr)) (fp : List Addr), PG (X.blk s H scope (compEnvC scope cl C X.env) fp) tg gl) (ht : ∀ (s : Shared) (H : Hp) (C : Addr) (cl : List (Str × Addr)) (fp : List Addr), DTs (X.blk s H scope (compEnvC scope cl C X.env) fp) ifs tt)
    (he : ∀ (s : Shared) (H : Hp) (C : Addr) (cl : List (Str × Addr)) (fp : List Addr), DE (X.blk s H scope (compEnvC scope cl C X.env) fp) W0 elt te) (hs : ∀ x, foldedSetIterable iter X.env x = pure x := by intro _; rfl) :
    DE X W (.ListComp elt [⟨tg, iter, ifs, 0⟩] scope pos) (dLc wi g tt te (own.map (·.2))) := ⟨⟨fun pins s σ H Q I h => by
  obtain ⟨τ, M, P, Y, hs', hm, q, hp, hy⟩ := h
  exact (pe_lc (te := lo X.K W0 (rV X.K) te) (tt := lo X.K W0 rB tt) hc hN hi.of ok hg (fun s H C cl fp => (ht s H C cl fp).of) (fun s H C cl fp => (he s H C cl fp).of) hs).run pins s σ H Q I (lc_low hG hs' hm q hp hy)⟩⟩
theorem ds_setLc {i : Nat} {y : Str} {py : Pos} {elt tg iter : Expr} {ifs : List Expr} {scope : Scope} {own : List (Str × Nat)} {pos spos : Pos} {wi : TID} {g : TGD} {gl : TG} {tt : TTD} {te : TED} (hc : X.calm = true) (hN : X.N.Nodup) (hy : X.N[i]? = some y) (hyl : X.env.scope.names.lookup y = some .local)
    (hsw : swapsWith (.ListComp elt [⟨tg, iter, ifs, 0⟩] scope pos) (some (.Name y py)) spos.line X.env = pure true) (hi : DI X W tg iter wi) (ok : BlkOk X.N X.env.scope scope own) (hG : WipeG X.K (own.map (·.2)) gl g)
    (hg : ∀ (s : Shared) (H : Hp) (C : Addr) (cl : List (Str × Addr)) (fp : List Addr), PG (X.blk s H scope (compEnvC scope cl C X.env) fp) tg gl) (ht : ∀ (s : Shared) (H : Hp) (C : Addr) (cl : List (Str × Addr)) (fp : List Addr), DTs (X.blk s H scope (compEnvC scope cl C X.env) fp) ifs tt)
    (he : ∀ (s : Shared) (H : Hp) (C : Addr) (cl : List (Str × Addr)) (fp : List Addr), DE (X.blk s H scope (compEnvC scope cl C X.env) fp) W0 elt te) (hs : ∀ x, foldedSetIterable iter X.env x = pure x := by intro _; rfl) :
    DS X W (.Assign [.Name y py] (.ListComp elt [⟨tg, iter, ifs, 0⟩] scope pos) spos) (dAsg (dLc wi g tt te (own.map (·.2))) (hName i)) := ⟨⟨fun pins s σ H E I h => by
  obtain ⟨τ, M, F, hs', hm, q, r⟩ := h
  refine (ps_setLc (te := lo X.K W0 (rV X.K) te) (tt := lo X.K W0 rB tt) hc hN hy hyl hsw hi.of ok hg (fun s H C cl fp => (ht s H C cl fp).of) (fun s H C cl fp => (he s H C cl fp).of) hs).run pins s σ H E I ?_
  exact lc_low hG hs' hm q (fun d M1 v H1 rx m1 k1 q1 => r.nx _ M1 _ H1 ((hs'.keep hm k1).set rx i) m1 k1 q1) fun c M1 H1 m1 k1 y => r.ex c τ M1 σ H1 (hs'.keep hm k1) m1 k1 y⟩⟩
end
end DL

set_option Elab.async false
set_option linter.all false
set_option maxRecDepth 100000
set_option maxHeartbeats 1000000
namespace DL
open PySem PySem.Spec PyProof.Rows L2

/-! ### defs: what they promise, by data; no repr runs around them -/
abbrev SpD := List D → Mm → QD → XD → Prop
def lSp (K : PySem.W.Frag) (s : SpD) : Sp := fun vs H Q E => ∃ (xs : List D) (M : Mm) (P : QD) (Y : XD), RpL K M H xs vs ∧ MRel K M H ∧ s xs M P Y ∧
  (∀ (d : D) (M' : Mm) (v : V) (H' : Hp), Rp K M' H' d v → MRel K M' H' → Keep M H M' H' → P d M' → Q v H') ∧
  (∀ (c : Value) (M' : Mm) (H' : Hp), MRel K M' H' → Keep M H M' H' → Y c M' → E c none H')
structure FnG (P : Program) (w : World) (K : PySem.W.Frag) (mg : Str → Option Value) (base : Heap) (gz : Bool) (k : Nat) (f : Addr) (fd : FuncData) (ps : List Str) (s : SpD) : Prop where
  len : ∀ xs M P Y, s xs M P Y → xs.length = ps.length
  run : ∀ (A : Around) (outer : List Env) (st : Shared) (H : Hp) (args : Args) (us : List Value) (vs : List V) (Q : VK) (E : XK), Room k A → (gz = true → A.guards = some []) → Env0 P w K mg base A outer st H → BindsTo st fd args (ps.zip us) →
    Vals vs us → lSp K s vs H Q E → codeAny (model P w) A (.call (.ref f) args) (CR (L2.CX P w) outer P w H st Q E) st
/-- the name x holds a def that keeps the promise s, by at most level k -/
structure Kn (P : Program) (w : World) (K : PySem.W.Frag) (mg : Str → Option Value) (base : Heap) (gz : Bool) (x : Str) (k : Nat) (s : SpD) : Prop where
  ex : ∃ f fd ps, mg x = some (.ref f) ∧ PySem.W.keepIn K (.ref f) = true ∧ Binds K fd ps [] ∧ FnG P w K mg base gz k f fd ps s
/-- a promise that says more -/
theorem Kn.imp {P : Program} {w : World} {K : PySem.W.Frag} {mg : Str → Option Value} {base : Heap} {gz : Bool} {x : Str} {k : Nat} {s s' : SpD} (N : Kn P w K mg base gz x k s) (h : ∀ xs M P Y, s' xs M P Y → s xs M P Y) : Kn P w K mg base gz x k s' := by
  obtain ⟨f, fd, ps, a, b, c, F⟩ := N.ex
  refine ⟨f, fd, ps, a, b, c, ⟨fun xs M P Y q => F.len xs M P Y (h _ _ _ _ q), fun A o st H ar us vs Q E hr g e0 hb r q => F.run A o st H ar us vs Q E hr g e0 hb r ?_⟩⟩
  obtain ⟨xs, M, P, Y, h1, h2, h3, h4⟩ := q
  exact ⟨xs, M, P, Y, h1, h2, h _ _ _ _ h3, h4⟩
theorem Kn.mono {P : Program} {w : World} {K : PySem.W.Frag} {mg : Str → Option Value} {base : Heap} {gz : Bool} {x : Str} {k j : Nat} {s : SpD} (N : Kn P w K mg base gz x k s) (h : k ≤ j) : Kn P w K mg base gz x j s := by
  obtain ⟨f, fd, ps, a, b, c, F⟩ := N.ex
  exact ⟨f, fd, ps, a, b, c, ⟨F.len, fun A o st H ar us vs Q E hr => F.run A o st H ar us vs Q E (hr.mono h)⟩⟩
def dCall (s : SpD) (t : TAD) : TED := fun τ M P Y => t τ M (fun xs M1 => s xs M1 P Y) Y
section
variable {X : Cx} {W : WX} {gz : Bool} {k : Nat} {f : Addr} {fd : FuncData} {ps : List Str} {s : SpD} {x : Str} {p pos : Pos} {e : Expr} {es : List Expr} {t : TAD}
theorem run_G {pins : List (Addr × Obj)} {σ : L2.St} {H : Hp} {st : Shared} {Q : VK} {us : List Value} {vs : List V} (F : FnG X.prog X.w X.K X.mg X.base gz k f fd ps s) (hr : Room k X.A) (gd : gz = true → X.A.guards = some []) (hb : Binds X.K fd ps []) (tk : Takes X W)
    (I : Inv X pins σ H st) (r : Vals vs us) (h : lSp X.K s vs H Q (WE W σ)) : wpAny (model X.prog X.w) X.A (call (.ref f) us) (EP X pins σ Q) X.xe st := by
  have hl : us.length = ps.length := by
    obtain ⟨xs, M, P, Y, h1, _, h3, _⟩ := h
    rw [← r.length, ← h1.length]
    exact F.len _ _ _ _ h3
  have bb := hb st us I.kIn (by simpa using hl)
  rw [List.append_nil] at bb
  have go := F.run X.A X.stack st H ⟨us, []⟩ us vs Q (WE W σ) hr gd I.env0 bb r h
  refine wpAny_call (codeAny_mono go ?_)
  rintro (e | fl) s' hq
  · exact passAt tk σ pins H st e s' I hq
  · match fl, hq with
    | .ret u, hq => exact I.after hq
    | .next, hq => exact (show False from hq).elim
    | .brk, hq => exact (show False from hq).elim
    | .cont, hq => exact (show False from hq).elim
theorem de_call (N : Kn X.prog X.w X.K X.mg X.base gz x k s) (hr : Room k X.A) (gd : gz = true → X.A.guards = some []) (hg : Gl X x) (tk : Takes X W) (ha : DA X W (e :: es) t) (hdb : (x == ("__debug__" : Str)) = false := by decide)
    (he : starEach (e :: es) X.env = (false, eval e X.env) :: starEach es X.env := by rfl) (hpl : (backTo pos (starEach es X.env)).any (·.1) = false := by rfl) : DE X W (.Call (.Name x p) (e :: es) [] pos) (dCall s t) := ⟨⟨fun pins st σ H Q I h => by
  obtain ⟨f, fd, ps, hm, hk, hb, F⟩ := N.ex
  obtain ⟨τ, M, P, Y, hs', hm', q, hp, hy⟩ := h
  have h1 := ha.of.run pos pins st σ H (fun vs H1 => lSp X.K s vs H1 Q (WE W σ)) I ⟨τ, M, _, Y, hs', hm', q, fun xs M1 vs H1 rx m1 k1 q1 =>
    ⟨xs, M1, P, Y, rx, m1, q1, fun d M' v H' r m' k' => hp d M' v H' r m' (k1.trans k'), fun c M' H' m' k' => hy c M' H' m' (k1.trans k')⟩, hy⟩
  exact wpAny_Call_Name_kw (ld_glob I hg hm (PySem.W.callWith_K (h₀ := X.base) I.ok.mod.kin hk (thn h1 fun us s1 ⟨vs, H1, I1, r, q⟩ => ⟨I1.kIn, run_G F hr gd hb tk I1 r q⟩) he hpl) hdb)⟩⟩
theorem de_call0 (N : Kn X.prog X.w X.K X.mg X.base gz x k s) (hr : Room k X.A) (gd : gz = true → X.A.guards = some []) (hg : Gl X x) (tk : Takes X W) (hdb : (x == ("__debug__" : Str)) = false := by decide) : DE X W (.Call (.Name x p) [] [] pos) (dCall s dNil) := ⟨⟨fun pins st σ H Q I h => by
  obtain ⟨f, fd, ps, hm, hk, hb, F⟩ := N.ex
  obtain ⟨τ, M, P, Y, hs', hm', q, hp, hy⟩ := h
  exact wpAny_Call_Name_kw (ld_glob I hg hm (PySem.W.callWith_K0 I.kIn hk (run_G (us := []) F hr gd hb tk I .nil ⟨[], M, P, Y, .nil, hm', q, hp, hy⟩)) hdb)⟩⟩
end
/-- a def keeps its promise: its body's derivation, and the reading of that -/
theorem kn_of {P : Program} {w : World} {K : PySem.W.Frag} {mg : Str → Option Value} {base : Heap} {x qual : Str} {st : Stmt} {f : Addr} {fd : FuncData} {N ps : List Str} {gz : Bool} {k : Nat} {s : SpD} (F : Fun K x qual st f fd) (hx : mg x = some (.ref f)) (S : FnScope N ps (defScope st)) (hb : Binds K fd ps [])
    (len : ∀ xs M P Y, s xs M P Y → xs.length = ps.length)
    (hbody : ∀ (cdv : Value) (A : Around) (outer : List Env) (s0 : Shared) (H : Hp) (E : XK), Room k (A.deeper (envOfC qual (defScope st) s0.heap.objs.size f cdv)) → (gz = true → A.guards = some []) →
      ∃ t, DSs (cxOf (L2.CX P w) P w K mg base N qual (defScope st) f cdv A outer s0 H E) (fun c oe _ H => E c oe H) (defBody st) t ∧
        ∀ xs M P Y, s xs M P Y → t { nx := fun _ M' => P .non M', rt := P, ex := fun c _ M' => Y c M' } (DL.start N.length xs) M) : Kn P w K mg base gz x (k + 1) s := by
  have kk := F.kp
  obtain ⟨oc, od, kV, doc, pm, an, cdv, ct, osl, rfl, lk, hcd⟩ := F.ex
  refine ⟨f, _, ps, hx, kk, hb, len, fun A outer s0 H args us vs Q E hr gd e0 hbd r hsp => ?_⟩
  obtain ⟨xs, M, P', Y, h1, h2, h3, h4, h5⟩ := hsp
  refine LamX.run_ofS (N := N) (ps := ps) lk hcd S hr e0 hbd r (by rw [← h1.length]; exact len _ _ _ _ h3) fun hr' => ?_
  obtain ⟨t, dt, rd⟩ := hbody cdv A outer s0 H E hr' gd
  refine ⟨_, dt.of, DL.start N.length xs, M, _, RSt.start N h1, h2, rd xs M P' Y h3, ⟨fun τ' M' σ' H' a b c q => h4 .non M' .non H' .non b c q, fun d M' v H' a b c q => h4 d M' v H' a b c q, fun _ _ _ _ _ _ _ q => q.elim, fun _ _ _ _ _ _ _ q => q.elim, fun c τ' M' σ' H' a b kk q => h5 c M' H' b kk q⟩⟩

/-! ### raise -/
def dRaise (c : Value) : TSD := fun F τ M => F.ex c τ M
section
variable {X : Cx} {W : WX}
/-- X(): an own class without own __init__ -/
theorem pmk_own0 {C : Addr} {bmB : List Value} {B newId initId : String} {x : Str} {p pos : Pos} (F : ExcBaseFacts B newId initId bmB) (q : PySem.W.excIn X.K C bmB newId = true) (gC : X.mg x = some (.ref C)) (kC : PySem.W.keepIn X.K (.ref C) = true) (r : Raises X (.ref C)) (hg : Gl X x)
    (hdb : (x == ("__debug__" : Str)) = false := by decide) : PMk X (.Call (.Name x p) [] [] pos) (fun _ H Q => Q (.ref C) none H) := fun pins s σ H Q I h => by
  refine wpAny_Call_Name_kw (ld_glob I hg gC (PySem.W.callWith_K0 I.kIn kC ?_) hdb)
  obtain ⟨bm, N, nm, qn, bs, hdct, sn, sub, ab, col, dd, k0, k1, k2, k3, k5, mN, hC, hN, hni, T⟩ := exc_obj I.kIn q
  exact wpAny_call_exc_subT F T hC hN hni (fun h' e hm => mk_of I hm r h (I.hok.gone hm.new)) (Nat.zero_le _)
/-- what is known of an own exception class -/
structure XCls (K : PySem.W.Frag) (mg : Str → Option Value) (x : Str) (C : Addr) : Prop where
  g : mg x = some (.ref C)
  x : PySem.W.excIn K C [.type "ValueError", .type "Exception", .type "BaseException", .type "object"] "ValueError.__new__" = true
  k : PySem.W.keepIn K (.ref C) = true
  b : PySem.W.subIn K (.ref C) (.type "BaseException") = some true
  t : PySem.W.typeIn K (.ref C) = some (.type "type")
theorem ds_raise0 {C : Addr} {x : Str} {p pos pos' : Pos} (hc : X.calm = true) (tk : Takes X W) (c : XCls X.K X.mg x C) (hg : Gl X x) (hdb : (x == ("__debug__" : Str)) = false := by decide) : DS X W (.Raise (some (.Call (.Name x p) [] [] pos)) none pos') (dRaise (.ref C)) := ⟨⟨fun pins s σ H E I h => by
  obtain ⟨τ, M, F, hs', hm, q, r⟩ := h
  exact (ps_raise hc tk (pmk_own0 PySem.F.excBase_ValueError c.x c.g c.k (raises_own c.b c.t) hg hdb)).run pins s σ H E I (r.ex _ τ M σ H hs' hm Keep.refl q)⟩⟩
end
end DL

set_option Elab.async false
set_option linter.all false
set_option maxRecDepth 100000
set_option maxHeartbeats 1000000
namespace DL
open PySem PySem.Spec PyProof.Rows L2

/-! ### data as the library's data -/
mutual
def toPy : D → Option PyData
  | .non => some .none
  | .bl b => some (.bool b)
  | .int i => some (.int i)
  | .str x => some (.str x)
  | .tup ds => match toPyL ds with
    | some es => some (.tuple es)
    | none => none
  | .lst ds => match toPyL ds with
    | some es => some (.list es)
    | none => none
  | .scr ds => match toPyL ds with
    | some es => some (.list es)
    | none => none
  | .dct _ => none
  | .ref _ => none
  | .ty _ => none
def toPyL : List D → Option (List PyData)
  | [] => some []
  | d :: ds => match toPy d, toPyL ds with
    | some e, some es => some (e :: es)
    | _, _ => none
end
section
variable {K : PySem.W.Frag} {M : Mm} {H : Hp}
mutual
theorem Rp.dp : ∀ {d : D} {v : V} {e : PyData}, Rp K M H d v → toPy d = some e → Dp K H v e
  | _, _, _, .non, h => by simp only [toPy, Option.some.injEq] at h; subst h; exact .non
  | _, _, _, .bl b, h => by simp only [toPy, Option.some.injEq] at h; subst h; exact .bl b
  | _, _, _, .int i, h => by simp only [toPy, Option.some.injEq] at h; subst h; exact .int i
  | _, _, _, .str x, h => by simp only [toPy, Option.some.injEq] at h; subst h; exact .str x
  | .tup ds, _, _, .tup hq l, h => by
    cases q : toPyL ds with
    | none => simp [toPy, q] at h
    | some es => simp only [toPy, q, Option.some.injEq] at h; subst h; exact .tup hq (RpL.dp l q)
  | .lst ds, _, _, .lst hq _ l, h => by
    cases q : toPyL ds with
    | none => simp [toPy, q] at h
    | some es => simp only [toPy, q, Option.some.injEq] at h; subst h; exact .lst (.inl (.inl hq)) (RpL.dp l q)
  | .scr ds, _, _, .scr hq l, h => by
    cases q : toPyL ds with
    | none => simp [toPy, q] at h
    | some es =>
      simp only [toPy, q, Option.some.injEq] at h; subst h
      exact .lst (hq.elim (fun ⟨o, z⟩ => .inl (.inr ⟨o, z⟩)) fun z => .inr z) (RpL.dp l q)
  | _, _, _, .dct _ _ _ _, h => by simp [toPy] at h
  | _, _, _, .ref a, h => by simp [toPy] at h
  | _, _, _, .ty n, h => by simp [toPy] at h
theorem RpL.dp : ∀ {ds : List D} {vs : List V} {es : List PyData}, RpL K M H ds vs → toPyL ds = some es → DpAll K H vs es
  | _, _, _, .nil, h => by simp only [toPyL, Option.some.injEq] at h; subst h; exact .nil
  | d :: ds, _, _, .cons x l, h => by
    cases p : toPy d with
    | none => simp [toPyL, p] at h
    | some e =>
      cases q : toPyL ds with
      | none => simp [toPyL, p, q] at h
      | some es => simp only [toPyL, p, q, Option.some.injEq] at h; subst h; exact .cons (Rp.dp x p) (RpL.dp l q)
end
end

/-! ### operators -/
def dAdd : RD2 := fun x y M P => match x, y with
  | .int i, .int j => P (.int (i + j)) M
  | .lst a, .lst b => a.length + b.length ≤ sizeLine ∧ P (.lst (a ++ b)) M
  | .tup a, .tup b => a ≠ [] ∧ a.length + b.length ≤ sizeLine ∧ P (.tup (a ++ b)) M
  | .str a, .str b => a.length + b.length ≤ sizeLine ∧ P (.str (a ++ b)) M
  | _, _ => False
def dSub : RD2 := fun x y M P => match x, y with
  | .int i, .int j => P (.int (i - j)) M
  | _, _ => False
def repD (ds : List D) : Nat → List D
  | 0 => []
  | n + 1 => ds ++ repD ds n
def dMul : RD2 := fun x y M P => match x, y with
  | .int i, .int j => CMulX i j ∧ P (.int (i * j)) M
  | .lst a, .int k => 0 ≤ k ∧ k < 2 ^ 62 ∧ a.length * k.toNat ≤ sizeLine ∧ P (.lst (repD a k.toNat)) M
  | _, _ => False
/-- // : a divisor of at most 9000 bits, of any sign -/
def CDivX (_ j : Int) : Prop := j ≠ 0 ∧ j.natAbs.log2 < 9000
def dFdiv : RD2 := fun x y M P => match x, y with
  | .int i, .int j => CDivX i j ∧ P (.int (i.fdiv j)) M
  | _, _ => False
def dMod : RD2 := fun x y M P => match x, y with
  | .int i, .int j => j ≠ 0 ∧ P (.int (i.fmod j)) M
  | _, _ => False
def dPow : RD2 := fun x y M P => match x, y with
  | .int i, .int j => CPow i j ∧ P (.int (i ^ j.toNat)) M
  | _, _ => False
def dShl : RD2 := fun x y M P => match x, y with
  | .int i, .int j => CShl i j ∧ P (.int (i * 2 ^ j.toNat)) M
  | _, _ => False
def dCmpI (p : Int → Int → Bool) : RD2 := fun x y M P => match x, y with
  | .int i, .int j => P (.bl (p i j)) M
  | _, _ => False
abbrev dLt : RD2 := dCmpI fun i j => decide (i < j)
abbrev dLe : RD2 := dCmpI fun i j => decide (i ≤ j)
abbrev dGt : RD2 := dCmpI fun i j => decide (j < i)
abbrev dGe : RD2 := dCmpI fun i j => decide (j ≤ i)
def dEq : RD2 := fun x y M P => match x, y with
  | .int i, .int j => P (.bl (decide (i = j))) M
  | .str i, .str j => P (.bl (decide (i = j))) M
  | _, _ => ∃ d e, toPy x = some d ∧ toPy y = some e ∧ SeqAt.shaped d = true ∧ SeqAt.shaped e = true ∧ P (.bl (PyData.eqv d e)) M
def dNe : RD2 := fun x y M P => match x, y with
  | .int i, .int j => P (.bl (!decide (i = j))) M
  | .str i, .str j => P (.bl (!decide (i = j))) M
  | _, _ => ∃ d e, toPy x = some d ∧ toPy y = some e ∧ SeqAt.shaped d = true ∧ SeqAt.shaped e = true ∧ P (.bl (!PyData.eqv d e)) M
def isNon : D → Bool
  | .non => true
  | _ => false
def dIsN : RD2 := fun x y M P => y = .non ∧ P (.bl (isNon x)) M
def dNotN : RD2 := fun x y M P => y = .non ∧ P (.bl (!isNon x)) M
def dIsB : RD2 := fun x y M P => match x, y with
  | .bl a, .bl b => P (.bl (decide (a = b))) M
  | _, _ => False
def dNotB : RD2 := fun x y M P => match x, y with
  | .bl a, .bl b => P (.bl (!decide (a = b))) M
  | _, _ => False
section
variable {X : Cx} {K : PySem.W.Frag} {M : Mm} {H : Hp}
theorem moh_lst {M' : Mm} {H' : Hp} {ds : List D} {vs : List V} (h : RpL K M' H' ds vs) : MoH K M' H' (.lst ds) (.lst vs) := h
/-- an int's rule, lifted -/
theorem lf_int {C : Int → Int → Prop} {g : Int → Int → V} {g' : Int → Int → D} {r' : RD2} (hr : ∀ x y M P, r' x y M P → ∃ i j, x = .int i ∧ y = .int j ∧ C i j ∧ P (g' i j) M) (hg : ∀ i j M H, Rp K M H (g' i j) (g i j)) : Lift2 K r' (rI C g) := fun x y M v u H P Q rx ry m h k => by
  obtain ⟨i, j, rfl, rfl, c, q⟩ := hr x y M P h
  cases rx
  cases ry
  exact ⟨i, j, rfl, rfl, c, k _ M _ H (hg i j M H) m Keep.refl q⟩
theorem lf_int0 {g : Int → Int → V} {g' : Int → Int → D} {r' : RD2} (hr : ∀ x y M P, r' x y M P → ∃ i j, x = .int i ∧ y = .int j ∧ P (g' i j) M) (hg : ∀ i j M H, Rp K M H (g' i j) (g i j)) : Lift2 K r' (rI0 g) := fun x y M v u H P Q rx ry m h k => by
  obtain ⟨i, j, rfl, rfl, q⟩ := hr x y M P h
  cases rx
  cases ry
  exact ⟨i, j, rfl, rfl, k _ M _ H (hg i j M H) m Keep.refl q⟩
theorem op_addD : OpR X (binaryOp .Add) (fun x y H Q => (rI0 fun i j => .int (i + j)) x y H Q ∨ rCat x y H Q ∨ rCatT X.K x y H Q ∨ ∃ i j, x = .str i ∧ y = .str j ∧ i.length + j.length ≤ sizeLine ∧ Q (.str (i ++ j)) H) := op_add.or (op_cat.or (op_catT.or op_add_str))
theorem lf_add : Lift2 X.K dAdd (fun x y H Q => (rI0 fun i j => .int (i + j)) x y H Q ∨ rCat x y H Q ∨ rCatT X.K x y H Q ∨ ∃ i j, x = .str i ∧ y = .str j ∧ i.length + j.length ≤ sizeLine ∧ Q (.str (i ++ j)) H) := fun x y M v u H P Q rx ry m h k => by
  cases rx <;> cases ry <;> first | exact h.elim | skip
  · exact .inl ⟨_, _, rfl, rfl, k _ M _ H (.int _) m Keep.refl h⟩
  · exact .inr (.inr (.inr ⟨_, _, rfl, rfl, h.1, k _ M _ H (.str _) m Keep.refl h.2⟩))
  · rename_i a vs ds hq l b us es hq' l'
    have e1 := l.length
    have e2 := l'.length
    refine .inr (.inr (.inl ⟨_, _, _, _, rfl, rfl, hq, hq', ?_, by have := h.2.1; omega, fun hn => ?_, fun hn p hp => ?_⟩))
    · intro z
      rw [z] at e1
      exact h.1 (List.length_eq_zero_iff.mp e1)
    · rw [hn] at e2
      have z : es = [] := List.length_eq_zero_iff.mp e2
      have q := h.2.2
      rw [z, List.append_nil] at q
      exact k _ M _ H (.tup hq l) m Keep.refl q
    · exact k _ M _ _ (.tup (.inl (.inl upd_same)) ((l.append l').keep m (Keep.new hp))) (m.new hp) (Keep.new hp) h.2.2
  · rename_i a vs ds hq hn l b us es hq' hn' l'
    have e1 := l.length
    have e2 := l'.length
    refine .inr (.inl ⟨_, _, _, _, rfl, rfl, hq, hq', by have := h.1; omega, fun p hp => ?_⟩)
    exact k _ M _ _ (.lst upd_same (m.noneOfFree hp) ((l.append l').keep m (Keep.new hp))) (m.new hp) (Keep.new hp) h.2
theorem lf_sub : Lift2 K dSub (rI0 fun i j => .int (i - j)) := lf_int0 (g' := fun i j => .int (i - j)) (fun x y M P h => by
  cases x <;> cases y <;> first | exact h.elim | exact ⟨_, _, rfl, rfl, h⟩) fun _ _ _ _ => .int _
theorem repD_len (ds : List D) : ∀ n, (repD ds n).length = ds.length * n
  | 0 => by simp [repD]
  | n + 1 => by simp [repD, repD_len ds n, Nat.mul_succ, Nat.add_comm]
theorem rep_rel {ds : List D} {vs : List V} (l : RpL K M H ds vs) : ∀ n, RpL K M H (repD ds n) (List.replicate n vs).flatten
  | 0 => by simpa [repD] using RpL.nil
  | n + 1 => by
    rw [List.replicate_succ, List.flatten_cons]
    exact l.append (rep_rel l n)
theorem op_mulD : OpR X (binaryOp .Mult) (fun x y H Q => (rI CMulX fun i j => .int (i * j)) x y H Q ∨ rRep x y H Q) := op_mulX.or op_rep
theorem lf_mul : Lift2 K dMul (fun x y H Q => (rI CMulX fun i j => .int (i * j)) x y H Q ∨ rRep x y H Q) := fun x y M v u H P Q rx ry m h k => by
  cases rx <;> cases ry <;> first | exact h.elim | skip
  · exact .inl ⟨_, _, rfl, rfl, h.1, k _ M _ H (.int _) m Keep.refl h.2⟩
  · rename_i a vs ds hq hn l i
    obtain ⟨h1, h2, h3, h4⟩ := h
    refine .inr ⟨_, _, _, rfl, rfl, hq, by omega, by omega, by rw [← l.length]; exact h3, fun p hp => ?_⟩
    exact k _ M _ _ (.lst upd_same (m.noneOfFree hp) ((rep_rel l _).keep m (Keep.new hp))) (m.new hp) (Keep.new hp) h4
theorem op_fdivX : OpR X (binaryOp .FloorDiv) (rI CDivX fun i j => .int (i.fdiv j)) := opI fun i j _ _ _ _ _ hc q => floordiv_int hc.1 q (.inl (PyProof.noPylong_of_log2 hc.2))
theorem lf_fdiv : Lift2 K dFdiv (rI CDivX fun i j => .int (i.fdiv j)) := lf_int (g' := fun i j => .int (i.fdiv j)) (fun x y M P h => by
  cases x <;> cases y <;> first | exact h.elim | exact ⟨_, _, rfl, rfl, h.1, h.2⟩) fun _ _ _ _ => .int _
theorem lf_mod : Lift2 K dMod (rI (fun _ j => j ≠ 0) fun i j => .int (i.fmod j)) := lf_int (g' := fun i j => .int (i.fmod j)) (fun x y M P h => by
  cases x <;> cases y <;> first | exact h.elim | exact ⟨_, _, rfl, rfl, h.1, h.2⟩) fun _ _ _ _ => .int _
theorem lf_pow : Lift2 K dPow (rI CPow fun i j => .int (i ^ j.toNat)) := lf_int (g' := fun i j => .int (i ^ j.toNat)) (fun x y M P h => by
  cases x <;> cases y <;> first | exact h.elim | exact ⟨_, _, rfl, rfl, h.1, h.2⟩) fun _ _ _ _ => .int _
theorem lf_shl : Lift2 K dShl (rI CShl fun i j => .int (i * 2 ^ j.toNat)) := lf_int (g' := fun i j => .int (i * 2 ^ j.toNat)) (fun x y M P h => by
  cases x <;> cases y <;> first | exact h.elim | exact ⟨_, _, rfl, rfl, h.1, h.2⟩) fun _ _ _ _ => .int _
theorem lf_cmp {p : Int → Int → Bool} : Lift2 K (dCmpI p) (rI0 fun i j => .bl (p i j)) := lf_int0 (g' := fun i j => .bl (p i j)) (fun x y M P h => by
  cases x <;> cases y <;> first | exact h.elim | exact ⟨_, _, rfl, rfl, h⟩) fun _ _ _ _ => .bl _
theorem lf_isN : Lift2 K dIsN (fun x y H Q => y = .non ∧ Q (.bl (decide (x = .non))) H) := fun x y M v u H P Q rx ry m h k => by
  obtain ⟨rfl, q⟩ := h
  cases ry
  refine ⟨rfl, k (.bl _) M _ H ?_ m Keep.refl q⟩
  cases rx <;> exact .bl _
theorem lf_notN : Lift2 K dNotN (fun x y H Q => y = .non ∧ Q (.bl (!decide (x = .non))) H) := fun x y M v u H P Q rx ry m h k => by
  obtain ⟨rfl, q⟩ := h
  cases ry
  refine ⟨rfl, k (.bl _) M _ H ?_ m Keep.refl q⟩
  cases rx <;> exact .bl _
theorem lf_isB : Lift2 K dIsB rIsB := fun x y M v u H P Q rx ry m h k => by
  cases rx <;> cases ry <;> first | exact h.elim | exact ⟨_, _, rfl, rfl, k _ M _ H (.bl _) m Keep.refl h⟩
theorem lf_notB : Lift2 K dNotB rNotB := fun x y M v u H P Q rx ry m h k => by
  cases rx <;> cases ry <;> first | exact h.elim | exact ⟨_, _, rfl, rfl, k _ M _ H (.bl _) m Keep.refl h⟩
theorem op_eqA (hu : X.A.units + 64 < cLine) : OpR X (compareOp .Eq) (fun x y H Q => rEq x y H Q ∨ rEqD X.K x y H Q) := op_eq.or (op_eqD hu)
theorem op_neA (hu : X.A.units + 64 < cLine) : OpR X (compareOp .NotEq) (fun x y H Q => rNe x y H Q ∨ rNeD X.K x y H Q) := op_ne.or (op_neD hu)
theorem dec_i {i j : Int} : decide (V.int i = V.int j) = decide (i = j) := by
  rw [dec_int]; exact Bool.beq_eq_decide_eq i j
theorem lf_eq : Lift2 K dEq (fun x y H Q => rEq x y H Q ∨ rEqD K x y H Q) := fun x y M v u H P Q rx ry m h k => by
  unfold dEq at h
  split at h
  · cases rx; cases ry
    exact .inl ⟨rfl, k _ M _ H (by rw [dec_i]; exact .bl _) m Keep.refl h⟩
  · cases rx; cases ry
    exact .inl ⟨rfl, k _ M _ H (by rw [dec_str, Bool.beq_eq_decide_eq]; exact .bl _) m Keep.refl h⟩
  · obtain ⟨d, e, h1, h2, h3, h4, q⟩ := h
    exact .inr ⟨d, e, rx.dp h1, ry.dp h2, h3, h4, k _ M _ H (.bl _) m Keep.refl q⟩
theorem lf_ne : Lift2 K dNe (fun x y H Q => rNe x y H Q ∨ rNeD K x y H Q) := fun x y M v u H P Q rx ry m h k => by
  unfold dNe at h
  split at h
  · cases rx; cases ry
    exact .inl ⟨rfl, k _ M _ H (by rw [dec_i]; exact .bl _) m Keep.refl h⟩
  · cases rx; cases ry
    exact .inl ⟨rfl, k _ M _ H (by rw [dec_str, Bool.beq_eq_decide_eq]; exact .bl _) m Keep.refl h⟩
  · obtain ⟨d, e, h1, h2, h3, h4, q⟩ := h
    exact .inr ⟨d, e, rx.dp h1, ry.dp h2, h3, h4, k _ M _ H (.bl _) m Keep.refl q⟩
end

/-! ### chains of comparisons -/
def dChain (r r' : RD2) (ta tb tc : TED) : TED := fun τ M P Y => ta τ M (fun x M1 => tb τ M1 (fun y M2 => r x y M2 fun z M3 => ∃ b, z = .bl b ∧ (if b = true then tc τ M3 (fun w M4 => r' y w M4 P) Y else P (.bl false) M3)) Y) Y
section
variable {X : Cx} {W : WX} {a b c : Expr} {ta tb tc : TED} {pos : Pos} {op op' : CmpOp} {r r' : R2} {q q' : RD2}
theorem chain_low (hl : Lift2 X.K q r) (hl' : Lift2 X.K q' r') {τ : DSt} {M : Mm} {σ : L2.St} {H : Hp} {P : QD} {Y : XD} {Q : VK} (hs : RSt X.K M H τ σ) (hm : MRel X.K M H) (h : dChain q q' ta tb tc τ M P Y)
    (hp : ∀ (d : D) (M' : Mm) (v : V) (H' : Hp), Rp X.K M' H' d v → MRel X.K M' H' → Keep M H M' H' → P d M' → Q v H') (hy : ∀ (c : Value) (M' : Mm) (H' : Hp), MRel X.K M' H' → Keep M H M' H' → Y c M' → W c none σ H') :
    tChain r r' (lo X.K W (rV X.K) ta) (lo X.K W (rV X.K) tb) (lo X.K W (rV X.K) tc) σ H Q := by
  refine ⟨τ, M, _, Y, hs, hm, h, fun x M1 v H1 rx m1 k1 q1 => ?_, hy⟩
  refine ⟨τ, M1, _, Y, hs.keep hm k1, m1, q1, fun y M2 u H2 ry m2 k2 q2 => ?_, fun c M' H' m' k' y' => hy c M' H' m' (k1.trans k') y'⟩
  refine hl x y M2 v u H2 _ _ (rx.keep m1 k2) ry m2 q2 fun z M3 w H3 rz m3 k3 ⟨bb, ez, q3⟩ => ?_
  subst ez
  cases rz
  refine ⟨bb, rfl, ?_⟩
  have kk := (k1.trans k2).trans k3
  cases bb with
  | true =>
    rw [if_pos rfl] at q3 ⊢
    refine ⟨τ, M3, _, Y, hs.keep hm kk, m3, q3, fun w M4 w' H4 rw' m4 k4 q4 => ?_, fun c M' H' m' k' y' => hy c M' H' m' (kk.trans k') y'⟩
    exact hl' y w M4 u w' H4 P Q ((ry.keep m2 k3).keep m3 k4) rw' m4 q4 fun d M' v' H' r m' k' => hp d M' v' H' r m' ((kk.trans k4).trans k')
  | false =>
    rw [if_neg Bool.false_ne_true] at q3 ⊢
    exact hp _ M3 _ H3 (.bl false) m3 kk q3
theorem de_chain (ho : OpR X (compareOp op) r) (ho' : OpR X (compareOp op') r') (hl : Lift2 X.K q r) (hl' : Lift2 X.K q' r') (ha : DE X W a ta) (hb : DE X W b tb) (hc : DE X W c tc)
    (hm : lastMarks [op, op'] [b, c] = false := by with_unfolding_all rfl) : DE X W (.Compare a [op, op'] [b, c] pos) (dChain q q' ta tb tc) := ⟨⟨fun pins s σ H Q I h => by
  obtain ⟨τ, M, P, Y, hs, hm', h, hp, hy⟩ := h
  exact (pe_chain ho ho' ha.of hb.of hc.of hm).run pins s σ H Q I (chain_low hl hl' hs hm' h hp hy)⟩⟩
theorem dt_chain (ho : OpR X (compareOp op) r) (ho' : OpR X (compareOp op') r') (hl : Lift2 X.K q r) (hl' : Lift2 X.K q' r') (ha : DE X W a ta) (hb : DE X W b tb) (hc : DE X W c tc)
    (hm : lastMarks [op, op'] [b, c] = false := by with_unfolding_all rfl) : DT X W (.Compare a [op, op'] [b, c] pos) (dTest (dChain q q' ta tb tc)) := ⟨⟨fun pins s σ H Q I h => by
  obtain ⟨τ, M, P, Y, hs, hm', h, hp, hy⟩ := h
  refine (pt_chain ho ho' ha.of hb.of hc.of hm).run pins s σ H Q I (chain_low hl hl' hs hm' h (fun d M' v H' rd m' k' ⟨z, ez, qz⟩ => ?_) hy)
  subst ez
  cases rd
  exact ⟨z, rfl, hp z M' z H' rfl m' k' qz⟩⟩⟩
end

/-! ### subscripts, slices -/
def dIx : RD2 := fun x y M P => match x, y with
  | .tup ds, .int i => ∃ d, atI ds i = some d ∧ P d M
  | .lst ds, .int i => ∃ d, atI ds i = some d ∧ P d M
  | .scr ds, .int i => ∃ d, atI ds i = some d ∧ P d M
  | .ref p, .int i => ∃ ds d, M p = some (.lst ds) ∧ atI ds i = some d ∧ P d M
  | .str z, .int i => z.length ≤ sizeLine ∧ ∃ c, atI z.cps.toList i = some c ∧ P (.str ⟨#[c]⟩) M
  | _, _ => False
def cutD (xs : List D) (lo hi : Option Int) : List D := (xs.drop (HT.sIx xs.length 0 lo)).take (HT.sIx xs.length xs.length hi - HT.sIx xs.length 0 lo)
def dSlL (x : D) (lo hi : Option Int) (M : Mm) (P : QD) : Prop := match x with
  | .lst ds => P (.lst (cutD ds lo hi)) M
  | .scr ds => P (.lst (cutD ds lo hi)) M
  | .ref p => ∃ ds, M p = some (.lst ds) ∧ P (.lst (cutD ds lo hi)) M
  | _ => False
def dSlT (x : D) (lo hi : Option Int) (M : Mm) (P : QD) : Prop := match x with
  | .tup ds => ¬ (HT.sIx ds.length 0 lo = 0 ∧ HT.sIx ds.length ds.length hi = ds.length) ∧ P (.tup (cutD ds lo hi)) M
  | _ => False
abbrev TOD := TR (Option Int)
def dNoPart : TOD := fun _ M P _ => P none M
def dPart (t : TED) : TOD := fun τ M P Y => t τ M (fun x M1 => ∃ i, x = .int i ∧ P (some i) M1) Y
structure DO (X : Cx) (W : WX) (e : Option Expr) (t : TOD) : Prop where
  of : PO X e (lo X.K W (fun _ _ a b => a = b) t)
def dSl (r : D → Option Int → Option Int → Mm → QD → Prop) (te : TED) (tl th : TOD) : TED := fun τ M P Y => te τ M (fun x M1 => tl τ M1 (fun l M2 => th τ M2 (fun u M3 => r x l u M3 P) Y) Y) Y
section
variable {X : Cx} {W : WX} {a b e : Expr} {ta tb te : TED} {pos : Pos} {K : PySem.W.Frag} {M : Mm} {H : Hp}
theorem RpL.ixN {ds : List D} {vs : List V} (l : RpL K M H ds vs) {i : Int} {d : D} (h : atI ds i = some d) : ∃ v, atI vs i = some v ∧ Rp K M H d v := by
  unfold atI at h ⊢
  rw [← l.length]
  cases q : L2.ixN ds.length i with
  | none => rw [q] at h; cases h
  | some j =>
    rw [q] at h
    exact l.get h
theorem lf_ix : Lift2 K dIx (rIx K) := fun x y M v u H P Q rx ry m h k => by
  unfold dIx at h
  split at h
  · cases ry
    obtain ⟨d, e, q⟩ := h
    cases rx with
    | tup hq l =>
      obtain ⟨w, e', r⟩ := l.ixN e
      exact .inr (.inl ⟨_, _, _, w, rfl, rfl, hq, e', k d M w H r m Keep.refl q⟩)
  · cases ry
    obtain ⟨d, e, q⟩ := h
    cases rx with
    | lst hq _ l =>
      obtain ⟨w, e', r⟩ := l.ixN e
      exact .inl ⟨_, _, _, w, rfl, rfl, .inl (.inl hq), e', k d M w H r m Keep.refl q⟩
  · cases ry
    obtain ⟨d, e, q⟩ := h
    cases rx with
    | scr hq l =>
      obtain ⟨w, e', r⟩ := l.ixN e
      exact .inl ⟨_, _, _, w, rfl, rfl, hq.elim (fun ⟨o, z⟩ => .inl (.inr ⟨o, z⟩)) (fun z => .inr z), e', k d M w H r m Keep.refl q⟩
  · cases ry
    obtain ⟨ds, d, ep, e, q⟩ := h
    cases rx
    obtain ⟨vs, hv, l⟩ := m.lstAt ep
    obtain ⟨w, e', r⟩ := l.ixN e
    exact .inl ⟨_, _, _, w, rfl, rfl, .inl (.inl hv), e', k d M w H r m Keep.refl q⟩
  · cases ry
    obtain ⟨z, c, e, q⟩ := h
    cases rx
    exact .inr (.inr ⟨_, _, c, rfl, rfl, z, e, k _ M _ H (.str _) m Keep.refl q⟩)
  · exact h.elim
theorem de_ix (ha : DE X W a ta) (hb : DE X W b tb) (hs : PlainIx b := by exact fun _ _ => rfl) : DE X W (.Subscript a b pos) (dOp dIx ta tb) := ⟨⟨fun pins s σ H Q I h => by
  obtain ⟨τ, M, P, Y, hs', hm, q, hp, hy⟩ := h
  refine (pe_ix ix_seq ha.of hb.of hs).run pins s σ H Q I ?_
  refine ⟨τ, M, _, Y, hs', hm, q, fun x M1 v H1 rx m1 k1 q1 => ?_, hy⟩
  refine ⟨τ, M1, _, Y, hs'.keep hm k1, m1, q1, fun y M2 u H2 ry m2 k2 q2 => ?_, fun c M' H' m' k' y' => hy c M' H' m' (k1.trans k') y'⟩
  exact lf_ix x y M2 v u H2 P Q (rx.keep m1 k2) ry m2 q2 fun d M' w H' r m' k' => hp d M' w H' r m' ((k1.trans k2).trans k')⟩⟩
theorem do_none : DO X W none dNoPart := ⟨⟨fun pins s σ H Q I h => by
  obtain ⟨τ, M, P, Y, hs', hm, q, hp, hy⟩ := h
  exact po_none.run pins s σ H Q I (hp none M none H rfl hm Keep.refl q)⟩⟩
theorem do_some (he : DE X W e te) : DO X W (some e) (dPart te) := ⟨⟨fun pins s σ H Q I h => by
  obtain ⟨τ, M, P, Y, hs', hm, q, hp, hy⟩ := h
  refine (po_some he.of).run pins s σ H Q I ?_
  refine ⟨τ, M, _, Y, hs', hm, q, fun x M1 v H1 rx m1 k1 ⟨i, ei, q1⟩ => ?_, hy⟩
  subst ei
  cases rx
  exact ⟨i, rfl, hp _ M1 _ H1 rfl m1 k1 q1⟩⟩⟩
theorem cut_rel {ds : List D} {vs : List V} (l : RpL K M H ds vs) (lo hi : Option Int) : RpL K M H (cutD ds lo hi) (cutV vs lo hi) := by
  unfold cutD cutV
  rw [l.length]
  exact (l.drop _).take _
theorem slice_low {r : V → Option Int → Option Int → Hp → VK → Prop} {r' : D → Option Int → Option Int → Mm → QD → Prop} {tl th : TOD}
    (hl : ∀ (x : D) (v : V) (M : Mm) (H : Hp) (a b : Option Int) (P : QD) (Q : VK), Rp X.K M H x v → MRel X.K M H → r' x a b M P → (∀ (d : D) (M' : Mm) (w : V) (H' : Hp), Rp X.K M' H' d w → MRel X.K M' H' → Keep M H M' H' → P d M' → Q w H') → r v a b H Q)
    {τ : DSt} {M : Mm} {σ : L2.St} {H : Hp} {P : QD} {Y : XD} {Q : VK} (hs : RSt X.K M H τ σ) (hm : MRel X.K M H) (h : dSl r' te tl th τ M P Y)
    (hp : ∀ (d : D) (M' : Mm) (v : V) (H' : Hp), Rp X.K M' H' d v → MRel X.K M' H' → Keep M H M' H' → P d M' → Q v H') (hy : ∀ (c : Value) (M' : Mm) (H' : Hp), MRel X.K M' H' → Keep M H M' H' → Y c M' → W c none σ H') :
    tSl r (lo X.K W (rV X.K) te) (lo X.K W (fun _ _ a b => a = b) tl) (lo X.K W (fun _ _ a b => a = b) th) σ H Q := by
  refine ⟨τ, M, _, Y, hs, hm, h, fun x M1 v H1 rx m1 k1 q1 => ?_, hy⟩
  refine ⟨τ, M1, _, Y, hs.keep hm k1, m1, q1, fun y M2 u H2 ry m2 k2 q2 => ?_, fun c M' H' m' k' y' => hy c M' H' m' (k1.trans k') y'⟩
  have kk := k1.trans k2
  refine ⟨τ, M2, _, Y, hs.keep hm kk, m2, q2, fun z M3 w H3 rz m3 k3 q3 => ?_, fun c M' H' m' k' y' => hy c M' H' m' (kk.trans k') y'⟩
  subst ry rz
  exact hl x v M3 H3 y z P Q ((rx.keep m1 k2).keep m2 k3) m3 q3 fun d M' v' H' r m' k' => hp d M' v' H' r m' ((kk.trans k3).trans k')
theorem de_sliceL {lo hi : Option Expr} {tl th : TOD} {p2 : Pos} (he : DE X W e te) (hl : DO X W lo tl) (hu : DO X W hi th) : DE X W (.Subscript e (.Slice lo hi none p2) pos) (dSl dSlL te tl th) := ⟨⟨fun pins s σ H Q I h => by
  obtain ⟨τ, M, P, Y, hs', hm, q, hp, hy⟩ := h
  refine (pe_slice sl_list he.of hl.of hu.of).run pins s σ H Q I (slice_low (fun x v M H a b P Q rx m h k => ?_) hs' hm q hp hy)
  unfold dSlL at h
  split at h
  · cases rx with
    | lst hq _ l => exact ⟨_, _, rfl, .inl (.inl hq), fun p hp => k _ M _ _ (.lst upd_same (m.noneOfFree hp) ((cut_rel l a b).keep m (Keep.new hp))) (m.new hp) (Keep.new hp) h⟩
  · cases rx with
    | scr hq l => exact ⟨_, _, rfl, hq.elim (fun ⟨o, z⟩ => .inl (.inr ⟨o, z⟩)) (fun z => .inr z), fun p hp => k _ M _ _ (.lst upd_same (m.noneOfFree hp) ((cut_rel l a b).keep m (Keep.new hp))) (m.new hp) (Keep.new hp) h⟩
  · obtain ⟨ds, ep, h⟩ := h
    cases rx
    obtain ⟨vs, hv, l⟩ := m.lstAt ep
    exact ⟨_, _, rfl, .inl (.inl hv), fun p hp => k _ M _ _ (.lst upd_same (m.noneOfFree hp) ((cut_rel l a b).keep m (Keep.new hp))) (m.new hp) (Keep.new hp) h⟩
  · exact h.elim⟩⟩
theorem de_sliceT {lo hi : Option Expr} {tl th : TOD} {p2 : Pos} (he : DE X W e te) (hl : DO X W lo tl) (hu : DO X W hi th) : DE X W (.Subscript e (.Slice lo hi none p2) pos) (dSl dSlT te tl th) := ⟨⟨fun pins s σ H Q I h => by
  obtain ⟨τ, M, P, Y, hs', hm, q, hp, hy⟩ := h
  refine (pe_slice sl_tup he.of hl.of hu.of).run pins s σ H Q I (slice_low (fun x v M H a b P Q rx m h k => ?_) hs' hm q hp hy)
  unfold dSlT at h
  split at h
  · cases rx with
    | tup hq l => exact ⟨_, _, rfl, hq, by rw [← l.length]; exact h.1, fun p hp => k _ M _ _ (.tup (.inl (.inl upd_same)) ((cut_rel l a b).keep m (Keep.new hp))) (m.new hp) (Keep.new hp) h.2⟩
  · exact h.elim⟩⟩
end

/-! ### built-ins -/
def lenD (M : Mm) : D → Option Nat
  | .tup ds => some ds.length
  | .lst ds => some ds.length
  | .scr ds => some ds.length
  | .ref p => match M p with
    | some (.lst ds) => some ds.length
    | _ => none
  | _ => none
def dLen : RDn := fun xs M P => ∃ x n, xs = [x] ∧ lenD M x = some n ∧ P (.int (n : Int)) M
def dAbs : RDn := fun xs M P => ∃ i, xs = [.int i] ∧ P (.int (i.natAbs : Int)) M
def dMax2 : RDn := fun xs M P => ∃ i j, xs = [.int i, .int j] ∧ P (.int (max i j)) M
def dMin2 : RDn := fun xs M P => ∃ i j, xs = [.int i, .int j] ∧ P (.int (min i j)) M
def dInt1 : RDn := fun xs M P => match xs with
  | [.int i] => P (.int i) M
  | [.bl b] => P (.int (if b then 1 else 0)) M
  | _ => False
def tyD : D → Option String
  | .non => some "NoneType"
  | .bl _ => some "bool"
  | .int _ => some "int"
  | .str _ => some "str"
  | .tup _ => some "tuple"
  | .lst _ => some "list"
  | .scr _ => some "list"
  | .dct _ => some "dict"
  | _ => none
def dIsi : RDn := fun xs M P => ∃ x T t b, xs = [x, .ty T] ∧ tyD x = some t ∧ kitB t T = some b ∧ P (.bl b) M
def dAll : RDn := fun xs M P => ∃ bs : List Bool, xs = [.lst (bs.map .bl)] ∧ P (.bl (bs.all id)) M
def dAny : RDn := fun xs M P => ∃ bs : List Bool, xs = [.lst (bs.map .bl)] ∧ P (.bl (bs.any id)) M
def dRepr : RDn := fun xs M P => ∃ x e, xs = [x] ∧ toPy x = some e ∧ ((x = .non) ∨ ∃ ds, x = .tup ds) ∧ e.showable = true ∧ e.hasDict = false ∧ e.depth ≤ 60 ∧ e.shown.length ≤ sizeLine ∧ P (.str e.shown) M
section
variable {X : Cx} {W : WX} {K : PySem.W.Frag} {M : Mm} {H : Hp}
theorem lf_len : LiftN X.K dLen (fun xs H Q => ∃ x n, xs = [x] ∧ LenV X.K x H n ∧ Q (.int n) H) := fun xs M vs H P Q rx m h k => by
  obtain ⟨x, n, rfl, e, q⟩ := h
  cases rx with
  | cons r rr =>
    cases rr
    refine ⟨_, n, rfl, ?_, k _ M _ H (.int _) m Keep.refl q⟩
    cases r with
    | tup hq l =>
      simp only [lenD, Option.some.injEq] at e
      exact .inr ⟨_, hq, by rw [← l.length]; exact e.symm⟩
    | lst hq _ l =>
      simp only [lenD, Option.some.injEq] at e
      exact .inl ⟨_, .inl (.inl hq), by rw [← l.length]; exact e.symm⟩
    | scr hq l =>
      simp only [lenD, Option.some.injEq] at e
      exact .inl ⟨_, hq.elim (fun ⟨o, z⟩ => .inl (.inr ⟨o, z⟩)) (fun z => .inr z), by rw [← l.length]; exact e.symm⟩
    | ref p =>
      simp only [lenD] at e
      split at e
      · rename_i ds ep
        obtain ⟨vs, hv, l⟩ := m.lstAt ep
        exact .inl ⟨_, .inl (.inl hv), by rw [← l.length]; exact (Option.some.inj e).symm⟩
      · cases e
    | _ => simp [lenD] at e
theorem lf_abs : LiftN K dAbs (fun xs H Q => ∃ i, xs = [.int i] ∧ Q (.int (if i < 0 then -i else i)) H) := fun xs M vs H P Q rx m h k => by
  obtain ⟨i, rfl, q⟩ := h
  cases rx with
  | cons r rr =>
    cases rr
    cases r
    have e : (if i < 0 then -i else i) = (i.natAbs : Int) := by split <;> omega
    exact ⟨i, rfl, k _ M _ H (by rw [e]; exact .int _) m Keep.refl q⟩
theorem lf_max2 : LiftN K dMax2 (fun xs H Q => ∃ i j, xs = [.int i, .int j] ∧ Q (.int (if j > i then j else i)) H) := fun xs M vs H P Q rx m h k => by
  obtain ⟨i, j, rfl, q⟩ := h
  cases rx with
  | cons r rr =>
    cases r
    cases rr with
    | cons r rr =>
      cases r
      cases rr
      have e : (if j > i then j else i) = max i j := by split <;> omega
      exact ⟨i, j, rfl, k _ M _ H (by rw [e]; exact .int _) m Keep.refl q⟩
theorem lf_min2 : LiftN K dMin2 (fun xs H Q => ∃ i j, xs = [.int i, .int j] ∧ Q (.int (if j < i then j else i)) H) := fun xs M vs H P Q rx m h k => by
  obtain ⟨i, j, rfl, q⟩ := h
  cases rx with
  | cons r rr =>
    cases r
    cases rr with
    | cons r rr =>
      cases r
      cases rr
      have e : (if j < i then j else i) = min i j := by split <;> omega
      exact ⟨i, j, rfl, k _ M _ H (by rw [e]; exact .int _) m Keep.refl q⟩
theorem lf_int1 : LiftN K dInt1 (fun xs H Q => (∃ i, xs = [.int i] ∧ Q (.int i) H) ∨ ∃ k, xs = [.bl k] ∧ Q (.int (if k then 1 else 0)) H) := fun xs M vs H P Q rx m h k => by
  unfold dInt1 at h
  split at h
  · cases rx with
    | cons r rr =>
      cases r; cases rr
      exact .inl ⟨_, rfl, k _ M _ H (.int _) m Keep.refl h⟩
  · cases rx with
    | cons r rr =>
      cases r; cases rr
      exact .inr ⟨_, rfl, k _ M _ H (.int _) m Keep.refl h⟩
  · exact h.elim
theorem lf_isi : LiftN X.K dIsi (rIsi X.K) := fun xs M vs H P Q rx m h k => by
  obtain ⟨x, T, t, b, rfl, et, eb, q⟩ := h
  cases rx with
  | cons r rr =>
    cases rr with
    | cons r2 rr =>
      cases rr
      cases r2
      refine ⟨_, _, .type t, .type T, b, rfl, .ty T, ?_, kit_ty eb, k _ M _ H (.bl _) m Keep.refl q⟩
      cases r with
      | non => simp only [tyD, Option.some.injEq] at et; subst et; exact .base .non
      | bl b => simp only [tyD, Option.some.injEq] at et; subst et; exact .base (.bl b)
      | int i => simp only [tyD, Option.some.injEq] at et; subst et; exact .base (.int i)
      | str z => simp only [tyD, Option.some.injEq] at et; subst et; exact .base (.str z)
      | tup hq l =>
        simp only [tyD, Option.some.injEq] at et; subst et
        rcases hq with (hq | ⟨o, hq⟩) | ⟨o, its, n, hk, hc, _⟩
        · exact .base (.tup hq)
        · exact .fTuple hq
        · exact .kTuple hk hc
      | lst hq _ l => simp only [tyD, Option.some.injEq] at et; subst et; exact .base (.lst hq)
      | scr hq l =>
        simp only [tyD, Option.some.injEq] at et; subst et
        rcases hq with ⟨o, hq⟩ | ⟨o, its, n, hk, hc, _⟩
        · exact .base (.frz hq)
        · exact .kList hk hc
      | dct hq _ _ _ => simp only [tyD, Option.some.injEq] at et; subst et; exact .base (.dK hq)
      | ref a => simp [tyD] at et
      | ty n => simp [tyD] at et
theorem bls_rel : ∀ {bs : List Bool} {vs : List V}, RpL K M H (bs.map D.bl) vs → vs = bs.map V.bl
  | [], _, .nil => rfl
  | b :: bs, _, .cons r l => by
    cases r
    rw [bls_rel l]; rfl
theorem lf_all : LiftN X.K dAll (rAll X.K) := fun xs M vs H P Q rx m h k => by
  obtain ⟨bs, rfl, q⟩ := h
  cases rx with
  | cons r rr =>
    cases rr
    cases r with
    | lst hq _ l =>
      rw [bls_rel l] at hq
      exact ⟨_, bs, rfl, .inl (.inl hq), k _ M _ H (.bl _) m Keep.refl q⟩
theorem lf_any : LiftN X.K dAny (rAny X.K) := fun xs M vs H P Q rx m h k => by
  obtain ⟨bs, rfl, q⟩ := h
  cases rx with
  | cons r rr =>
    cases rr
    cases r with
    | lst hq _ l =>
      rw [bls_rel l] at hq
      exact ⟨_, bs, rfl, .inl (.inl hq), k _ M _ H (.bl _) m Keep.refl q⟩
/-- repr of None or of a tuple, no other repr running -/
theorem call_reprD (gd : X.A.guards = some []) (hu : X.A.units + 64 < cLine) : CallR X (.builtin "repr") (fun xs H Q => ∃ x e, xs = [x] ∧ Dp X.K H x e ∧ (x = .non ∨ ∃ a, x = .ref a) ∧ e.showable = true ∧ e.hasDict = false ∧ e.depth ≤ 60 ∧ e.shown.length ≤ sizeLine ∧ Q (.str e.shown) H) := by
  intro pins s σ H xs us Q I r h
  obtain ⟨x, e, rfl, hd, hx, h1, h2, h3, h4, q⟩ := h
  obtain ⟨u, rfl, ru⟩ := vals1 r
  rcases hx with rfl | ⟨a, rfl⟩
  · cases hd
    cases ru
    exact PySem.P.repr_of_none ⟨.str "None", H, I.tok _, ⟨_, rfl⟩, q⟩
  · cases ru
    obtain ⟨as, rd⟩ := Dp.reads I e _ _ hd rfl
    exact repr_of_reads' rd h1 (PyData.noDict_hsm h2) gd (by omega) (fun _ _ z => z) (fun h' u tk hk => ⟨.str e.shown, H, I.kept hk, ⟨_, rfl⟩, q⟩) h4
theorem lf_repr : LiftN X.K dRepr (fun xs H Q => ∃ x e, xs = [x] ∧ Dp X.K H x e ∧ (x = .non ∨ ∃ a, x = .ref a) ∧ e.showable = true ∧ e.hasDict = false ∧ e.depth ≤ 60 ∧ e.shown.length ≤ sizeLine ∧ Q (.str e.shown) H) := fun xs M vs H P Q rx m h k => by
  obtain ⟨x, e, rfl, ep, hx, h1, h2, h3, h4, q⟩ := h
  cases rx with
  | cons r rr =>
    cases rr
    refine ⟨_, e, rfl, r.dp ep, ?_, h1, h2, h3, h4, k _ M _ H (.str _) m Keep.refl q⟩
    rcases hx with rfl | ⟨ds, rfl⟩
    · cases r; exact .inl rfl
    · cases r; exact .inr ⟨_, rfl⟩
end
end DL

set_option Elab.async false
set_option linter.all false
set_option maxRecDepth 100000
set_option maxHeartbeats 1000000
namespace DL
open PySem PySem.Spec PyProof.Rows L2

/-! ### methods of lists -/
/-- o.append(e), o a list that changes -/
def dApp (to te : TED) : TED := fun τ M P Y => to τ M (fun o M1 => ∃ p ds0, o = .ref p ∧ M1 p = some (.lst ds0) ∧ te τ M1 (fun d M2 => ∃ ds, M2 p = some (.lst ds) ∧ ds.length < sizeLine ∧ P .non (mup M2 p (.lst (ds ++ [d])))) Y) Y
def flatD : D → Bool
  | .non | .bl _ | .int _ | .str _ => true
  | _ => false
def eqD : D → D → Bool
  | .non, .non => true
  | .bl a, .bl b => a == b
  | .int a, .int b => a == b
  | .str a, .str b => decide (a = b)
  | .bl a, .int b => (if a then (1 : Int) else 0) == b
  | .int a, .bl b => a == (if b then (1 : Int) else 0)
  | _, _ => false
/-- o.count(e), o.index(e): o a settled list of flat things -/
def dCount (to te : TED) : TED := fun τ M P Y => to τ M (fun o M1 => ∃ ds, o = .lst ds ∧ ds.all flatD = true ∧ te τ M1 (fun d M2 => flatD d = true ∧ P (.int ((ds.countP fun x => eqD x d : Nat) : Int)) M2) Y) Y
def dIndex (to te : TED) : TED := fun τ M P Y => to τ M (fun o M1 => ∃ ds, o = .lst ds ∧ ds.all flatD = true ∧ te τ M1 (fun d M2 => flatD d = true ∧ ∃ j z, ds[j]? = some z ∧ eqD z d = true ∧ (∀ m z', m < j → ds[m]? = some z' → eqD z' d = false) ∧ P (.int (j : Nat)) M2) Y) Y
section
variable {X : Cx} {W : WX} {o e : Expr} {to te : TED} {apos cpos : Pos} {K : PySem.W.Frag} {M : Mm} {H : Hp}
theorem de_append (ho : DE X W o to) (he : DE X W e te) (hbase : attributeBase o "append" X.env (eval o X.env) = eval o X.env := by rfl)
    (hfew : ((backTo cpos (starEach (e :: []) X.env)).all (fun x => !x.1) && (backToKw cpos (keywordEach [] X.env)).all (fun x => x.1.isSome)
      && decide ((e :: []).length + ([] : List Keyword).length + (if ([] : List Keyword).isEmpty then 0 else 1) < 30)) = true := by rfl)
    (hline : (apos.endLine == cpos.line) = true := by rfl) (hs : starEach (e :: []) X.env = (false, eval e X.env) :: starEach [] X.env := by rfl) (hplain : (backTo cpos (starEach [] X.env)).any (·.1) = false := by rfl) :
    DE X W (.Call (.Attribute o "append" apos) [e] [] cpos) (dApp to te) := ⟨⟨fun pins s σ H Q I h => by
  obtain ⟨τ, M, P, Y, hs', hm, q, hp, hy⟩ := h
  refine (pe_bm PySem.F.plainAttrs_list PySem.F.slot_list_append PySem.F.type_list_append mt_append ho.of (pa_cons he.of pa_nil hs) hbase hfew hline hs hplain).run pins s σ H Q I ?_
  refine ⟨τ, M, _, Y, hs', hm, q, fun x M1 v H1 rx m1 k1 ⟨p, ds0, eo, ep, q1⟩ => ?_, hy⟩
  subst eo
  cases rx
  obtain ⟨vs0, hv0, l0⟩ := m1.lstAt ep
  refine ⟨.inl ⟨rfl, _, .inl (.inl hv0)⟩, ?_⟩
  refine ⟨τ, M1, _, Y, hs'.keep hm k1, m1, q1, fun d M2 w H2 rd m2 k2 ⟨ds, ep2, el, q2⟩ => ?_, fun c M' H' m' k' y' => hy c M' H' m' (k1.trans k') y'⟩
  obtain ⟨vs, hv, l⟩ := m2.lstAt ep2
  refine ⟨p, vs, w, rfl, rfl, hv, by rw [← l.length]; exact el, ?_⟩
  have k3 : Keep M2 H2 (mup M2 p (.lst (ds ++ [d]))) (upd H2 p (.lst (vs ++ [w]))) := Keep.write ep2
  exact hp _ _ _ _ .non (m2.write ep2 (moh_lst (l.append (.cons rd .nil)))) ((k1.trans k2).trans k3) q2⟩⟩
theorem flat_rel {d : D} {v : V} (r : Rp K M H d v) (f : flatD d = true) : flatV v = true := by
  cases r <;> first | rfl | (simp [flatD] at f)
theorem flatL_rel {ds : List D} {vs : List V} (r : RpL K M H ds vs) (f : ds.all flatD = true) : vs.all flatV = true := by
  induction ds generalizing vs with
  | nil => cases r; rfl
  | cons d ds ih => cases r with
    | cons x l =>
      simp only [List.all_cons, Bool.and_eq_true] at f ⊢
      exact ⟨flat_rel x f.1, ih l f.2⟩
theorem eq_rel {d e : D} {v u : V} (r : Rp K M H d v) (r' : Rp K M H e u) (f : flatD d = true) (f' : flatD e = true) : eqV v u = eqD d e := by
  cases r <;> cases r' <;> first | rfl | (simp [flatD] at f) | (simp [flatD] at f')
theorem count_rel {ds : List D} {vs : List V} {e : D} {u : V} (r : RpL K M H ds vs) (r' : Rp K M H e u) (f : ds.all flatD = true) (f' : flatD e = true) : vs.countP (fun y => eqV y u) = ds.countP (fun x => eqD x e) := by
  induction ds generalizing vs with
  | nil => cases r; rfl
  | cons d ds ih => cases r with
    | cons x l =>
      simp only [List.all_cons, Bool.and_eq_true] at f
      rw [List.countP_cons, List.countP_cons, ih l f.2, eq_rel x r' f.1 f']
/-- list.count of flat things -/
def rCntF (K : PySem.W.Frag) : V → List V → Hp → VK → Prop := fun x xs H Q => ∃ (p : Addr) (ys : List V) (y : V), x = .ref p ∧ xs = [y] ∧ SqL K H p ys ∧ flatV y = true ∧ ys.all flatV = true ∧ Q (.int ((ys.countP fun z => eqV z y : Nat) : Int)) H
theorem count_eqU {y : V} : ∀ {ys : List V} {us : List Value}, Vals ys us → ys.all flatV = true → us.countP (eqU y) = ys.countP fun z => eqV z y
  | _, _, .nil, _ => rfl
  | z :: ys, _, .cons r l, f => by
    simp only [List.all_cons, Bool.and_eq_true] at f
    rw [List.countP_cons, List.countP_cons, count_eqU l f.2, eqU_of r f.1]
theorem mt_count : MtR X "list.count" (rCntF X.K) := by
  intro pins s σ H x xs v us Q I rx rxs h
  obtain ⟨p, ys, y, rfl, rfl, hs, fy, fys, q⟩ := h
  cases rx
  obtain ⟨u, rfl, ru⟩ := rxs.one
  obtain ⟨its, rv, ⟨⟨cls, dd, data, sl⟩, n, ho, hc, hdn, hd⟩, hlen⟩ := I.list hs
  simp only at hc hd
  subst hc hd
  refine call_meets PySem.F.slot_list_count ⟨_, ho, rfl⟩ PySem.F.entry_list_count (PySem.F.args_list_count_2 _ _)
    (SeqAt.list_countAt p its.toArray n dd sl u (eqU y)) ⟨ho, fun z hz => mem_eqAt ru fy rv fys z (by simpa using hz), ?_⟩
  refine ⟨.int ((ys.countP fun z => eqV z y : Nat) : Int), H, I.tok _, ⟨s.toks, ?_⟩, q⟩
  show Value.int ((its.toArray.toList.countP (eqU y) : Nat) : Int) s.toks = _
  rw [show its.toArray.toList = its from rfl, count_eqU rv fys]
theorem de_count (ho : DE X W o to) (he : DE X W e te) (hbase : attributeBase o "count" X.env (eval o X.env) = eval o X.env := by rfl)
    (hfew : ((backTo cpos (starEach (e :: []) X.env)).all (fun x => !x.1) && (backToKw cpos (keywordEach [] X.env)).all (fun x => x.1.isSome)
      && decide ((e :: []).length + ([] : List Keyword).length + (if ([] : List Keyword).isEmpty then 0 else 1) < 30)) = true := by rfl)
    (hline : (apos.endLine == cpos.line) = true := by rfl) (hs : starEach (e :: []) X.env = (false, eval e X.env) :: starEach [] X.env := by rfl) (hplain : (backTo cpos (starEach [] X.env)).any (·.1) = false := by rfl) :
    DE X W (.Call (.Attribute o "count" apos) [e] [] cpos) (dCount to te) := ⟨⟨fun pins s σ H Q I h => by
  obtain ⟨τ, M, P, Y, hs', hm, q, hp, hy⟩ := h
  refine (pe_bm PySem.F.plainAttrs_list PySem.F.slot_list_count PySem.F.type_list_count mt_count ho.of (pa_cons he.of pa_nil hs) hbase hfew hline hs hplain).run pins s σ H Q I ?_
  refine ⟨τ, M, _, Y, hs', hm, q, fun x M1 v H1 rx m1 k1 ⟨ds, eo, fl, q1⟩ => ?_, hy⟩
  subst eo
  cases rx with
  | lst hq hn l =>
    refine ⟨.inl ⟨rfl, _, .inl (.inl hq)⟩, ?_⟩
    refine ⟨τ, M1, _, Y, hs'.keep hm k1, m1, q1, fun d M2 w H2 rd m2 k2 ⟨fd, q2⟩ => ?_, fun c M' H' m' k' y' => hy c M' H' m' (k1.trans k') y'⟩
    have l2 := l.keep m1 k2
    refine ⟨_, _, w, rfl, rfl, .inl (.inl (k2 _ _ hq hn (fun _ e => by cases e)).1), flat_rel rd fd, flatL_rel l2 fl, ?_⟩
    rw [count_rel l2 rd fl fd]
    exact hp _ _ _ _ (.int _) m2 (k1.trans k2) q2⟩⟩
theorem de_index (ho : DE X W o to) (he : DE X W e te) (hbase : attributeBase o "index" X.env (eval o X.env) = eval o X.env := by rfl)
    (hfew : ((backTo cpos (starEach (e :: []) X.env)).all (fun x => !x.1) && (backToKw cpos (keywordEach [] X.env)).all (fun x => x.1.isSome)
      && decide ((e :: []).length + ([] : List Keyword).length + (if ([] : List Keyword).isEmpty then 0 else 1) < 30)) = true := by rfl)
    (hline : (apos.endLine == cpos.line) = true := by rfl) (hs : starEach (e :: []) X.env = (false, eval e X.env) :: starEach [] X.env := by rfl) (hplain : (backTo cpos (starEach [] X.env)).any (·.1) = false := by rfl) :
    DE X W (.Call (.Attribute o "index" apos) [e] [] cpos) (dIndex to te) := ⟨⟨fun pins s σ H Q I h => by
  obtain ⟨τ, M, P, Y, hs', hm, q, hp, hy⟩ := h
  refine (pe_bm PySem.F.plainAttrs_list PySem.F.slot_list_index PySem.F.type_list_index mt_index ho.of (pa_cons he.of pa_nil hs) hbase hfew hline hs hplain).run pins s σ H Q I ?_
  refine ⟨τ, M, _, Y, hs', hm, q, fun x M1 v H1 rx m1 k1 ⟨ds, eo, fl, q1⟩ => ?_, hy⟩
  subst eo
  cases rx with
  | lst hq hn l =>
    refine ⟨.inl ⟨rfl, _, .inl (.inl hq)⟩, ?_⟩
    refine ⟨τ, M1, _, Y, hs'.keep hm k1, m1, q1, fun d M2 w H2 rd m2 k2 ⟨fd, j, z, ej, ez, hno, q2⟩ => ?_, fun c M' H' m' k' y' => hy c M' H' m' (k1.trans k') y'⟩
    have l2 := l.keep m1 k2
    have fz : flatD z = true := List.all_eq_true.mp fl z (List.mem_of_getElem? ej)
    obtain ⟨vz, hz, rz⟩ := l2.get ej
    refine ⟨_, _, w, j, vz, rfl, rfl, .inl (.inl (k2 _ _ hq hn (fun _ e => by cases e)).1), flat_rel rd fd, flatL_rel l2 fl, hz, by rw [eq_rel rz rd fz fd]; exact ez, fun m z' hmj hz' => ?_, hp _ _ _ _ (.int _) m2 (k1.trans k2) q2⟩
    have hml : m < ds.length := by
      have h1 := (List.getElem?_eq_some_iff.mp ej).1
      omega
    obtain ⟨v', e1, r1⟩ := l2.get (List.getElem?_eq_getElem hml)
    rw [hz'] at e1
    cases e1
    rw [eq_rel r1 rd (List.all_eq_true.mp fl _ (List.getElem_mem hml)) fd]
    exact hno m _ hmj (List.getElem?_eq_getElem hml)⟩⟩
end

/-! ### [e for a in xs for b in ys] -/
def lc2D (ti1 : TID) (g g1 : TGD) (tt tt1 : TTD) (te : TED) (vs vs1 : List Nat) (p : Addr) : List D → List D → DSt → Mm → (List D → Mm → Prop) → Prop
  | [], acc, _, M, P => M p = some (.lst acc) ∧ P acc M
  | d :: r, acc, τ, M, P => g d (dwipe τ vs) M fun τ2 M2 => tt τ2 M2 (fun b M3 => if b = true then ti1 τ2 M3 (fun es M4 => lcD g1 tt1 te vs1 p es acc τ2 M4 fun acc' M5 => lc2D ti1 g g1 tt tt1 te vs vs1 p r acc' τ M5 P) (fun _ _ => False)
      else lc2D ti1 g g1 tt tt1 te vs vs1 p r acc τ M3 P) (fun _ _ => False)
def dLc2 (ti : TID) (g : TGD) (tt : TTD) (ti1 : TID) (g1 : TGD) (tt1 : TTD) (te : TED) (vs vs1 : List Nat) : TED := fun τ M P Y => ti τ M (fun ds M1 => ∀ p, M1 p = none → lc2D ti1 g g1 tt tt1 te vs vs1 p ds [] τ (mup M1 p (.lst [])) (fun acc M2 => P (.lst acc) (mdel M2 p))) Y
theorem wipe_idem : ∀ (σ : L2.St) (us vs : List Nat), (∀ u ∈ us, u ∈ vs) → L2.wipe (L2.wipe σ us) vs = L2.wipe σ vs := by
  intro σ us vs
  induction us with
  | nil => intro _; rfl
  | cons u us ih =>
    intro hh
    show L2.wipe ((L2.wipe σ us).set u none) vs = _
    rw [wipe_set (hh u List.mem_cons_self), ih fun v hv => hh v (List.mem_cons_of_mem _ hv)]
section
variable {X : Cx} {W : WX}
theorem lc2_low {wi wi1 : TID} {g g1 : TGD} {gl gl1 : TG} {tt tt1 : TTD} {te : TED} {vs vs1 : List Nat} (hG : WipeG X.K vs gl g) (hG1 : WipeG X.K vs1 gl1 g1) {τ : DSt} {M : Mm} {σ : L2.St} {H : Hp} {P : QD} {Y : XD} {Q : VK} (hs : RSt X.K M H τ σ) (hm : MRel X.K M H) (q : dLc2 wi g tt wi1 g1 tt1 te vs vs1 τ M P Y)
    (hp : ∀ (d : D) (M' : Mm) (v : V) (H' : Hp), Rp X.K M' H' d v → MRel X.K M' H' → Keep M H M' H' → P d M' → Q v H')
    (hy : ∀ (c : Value) (M' : Mm) (H' : Hp), MRel X.K M' H' → Keep M H M' H' → Y c M' → W c none σ H') :
    tLc2 (loI X.K W wi) gl (lo X.K W0 rB tt) (loI X.K W0 wi1) gl1 (lo X.K W0 rB tt1) (lo X.K W0 (rV X.K) te) vs vs1 σ H Q := by
  refine ⟨τ, M, _, Y, hs, hm, q, fun ds M1 J H1 hJ m1 k1 q1 => ?_, hy⟩
  intro p hpn
  have fr : M1 p = none := m1.noneOfFree hpn
  have q2 := q1 p fr
  have k2 : Keep M1 H1 (mup M1 p (.lst [])) (upd H1 p (.lst [])) := Keep.newM hpn
  have m2 := m1.newM hpn (show MoH X.K M1 H1 (.lst []) (.lst []) from .nil)
  refine ⟨fun i m H2 => ∃ M2 acc, m = ds.length - i ∧ i ≤ ds.length ∧ MRel X.K M2 H2 ∧ Keep (mup M1 p (.lst [])) (upd H1 p (.lst [])) M2 H2 ∧ lc2D wi1 g g1 tt tt1 te vs vs1 p (ds.drop i) acc τ M2 (fun acc M2 => P (.lst acc) (mdel M2 p)),
    ⟨ds.length, _, [], by simp, Nat.zero_le _, m2, Keep.refl, q2⟩, ?_⟩
  rintro i m H2 ⟨M2, acc, em, hi, m3, k3, q3⟩
  obtain ⟨j1, j2, j3⟩ := hJ i M2 H2 m3 (k2.trans k3)
  have kk := (k1.trans k2).trans k3
  by_cases hlt : i < ds.length
  · refine .inr ⟨j1 hlt, fun H3 => ∃ M3 acc, MRel X.K M3 H3 ∧ Keep (mup M1 p (.lst [])) (upd H1 p (.lst [])) M3 H3 ∧ lc2D wi1 g g1 tt tt1 te vs vs1 p (ds.drop (i + 1)) acc τ M3 (fun acc M2 => P (.lst acc) (mdel M2 p)),
      fun H3 ⟨M3, acc3, a, b, z⟩ => ⟨ds.length - (i + 1), by omega, M3, acc3, rfl, hlt, a, b, z⟩, fun x H' hyl => ?_⟩
    obtain ⟨rx, m4, k4⟩ := j3 _ (List.getElem?_eq_getElem hlt) x H' hyl
    rw [List.drop_eq_getElem_cons hlt] at q3
    unfold lc2D at q3
    have s2 := (((hs.keep hm kk).keep m3 k4)).wipe vs
    refine hG _ x _ _ M2 H' _ _ rx s2 m4 q3 fun τ5 σ5 s5 ew q5 => ⟨by rw [ew]; exact wipe_idem σ vs vs fun _ h => h, ?_⟩
    refine ⟨τ5, M2, _, _, s5, m4, q5, fun b M6 b' H6 rb m6 k6 q6 => ?_, fun _ _ _ _ _ z => z⟩
    obtain rfl : b = b' := rb
    cases b with
    | false =>
      rw [if_neg Bool.false_ne_true] at q6 ⊢
      exact ⟨M6, acc, m6, (k3.trans k4).trans k6, q6⟩
    | true =>
      rw [if_pos rfl] at q6 ⊢
      have s6 := s5.keep m4 k6
      refine ⟨τ5, M6, _, _, s6, m6, q6, fun es M7 J1 H7 hJ1 m7 k7 q7 => ?_, fun _ _ _ _ _ z => z⟩
      have s7 := s6.keep m6 k7
      have k07 := (((k3.trans k4).trans k6).trans k7)
      refine ⟨fun j n H8 => ∃ M8 acc8, n = es.length - j ∧ j ≤ es.length ∧ MRel X.K M8 H8 ∧ Keep M7 H7 M8 H8 ∧ lcD g1 tt1 te vs1 p (es.drop j) acc8 τ5 M8 (fun acc' M5 => lc2D wi1 g g1 tt tt1 te vs vs1 p (ds.drop (i + 1)) acc' τ M5 (fun acc M2 => P (.lst acc) (mdel M2 p))),
        ⟨es.length, M7, acc, by simp, Nat.zero_le _, m7, Keep.refl, q7⟩, ?_⟩
      rintro j n H8 ⟨M8, acc8, en, hj, m8, k8, q8⟩
      obtain ⟨i1, i2, i3⟩ := hJ1 j M8 H8 m8 k8
      by_cases hlj : j < es.length
      · refine .inr ⟨i1 hlj, fun H9 => ∃ M9 acc9, MRel X.K M9 H9 ∧ Keep M7 H7 M9 H9 ∧ lcD g1 tt1 te vs1 p (es.drop (j + 1)) acc9 τ5 M9 (fun acc' M5 => lc2D wi1 g g1 tt tt1 te vs vs1 p (ds.drop (i + 1)) acc' τ M5 (fun acc M2 => P (.lst acc) (mdel M2 p))),
          fun H9 ⟨M9, acc9, a, b, z⟩ => ⟨es.length - (j + 1), by omega, M9, acc9, rfl, hlj, a, b, z⟩, fun y H9 hyl1 => ?_⟩
        obtain ⟨ry, m9, k9⟩ := i3 _ (List.getElem?_eq_getElem hlj) y H9 hyl1
        rw [List.drop_eq_getElem_cons hlj] at q8
        unfold lcD at q8
        have s9 := ((s7.keep m7 k8).keep m8 k9).wipe vs1
        refine hG1 _ y _ _ M8 H9 _ _ ry s9 m9 q8 fun τ10 σ10 s10 ew10 q10 => ⟨by rw [ew10]; exact wipe_idem σ5 vs1 vs1 fun _ h => h, ?_⟩
        refine ⟨τ10, M8, _, _, s10, m9, q10, fun b M11 b' H11 rb m11 k11 q11 => ?_, fun _ _ _ _ _ z => z⟩
        obtain rfl : b = b' := rb
        cases b with
        | false =>
          rw [if_neg Bool.false_ne_true] at q11 ⊢
          exact ⟨M11, acc8, m11, (k8.trans k9).trans k11, q11⟩
        | true =>
          rw [if_pos rfl] at q11 ⊢
          refine ⟨τ10, M11, _, _, s10.keep m9 k11, m11, q11, fun z M12 v12 H12 rz m12 k12 ⟨ep, el, q12⟩ => ?_, fun _ _ _ _ _ z => z⟩
          obtain ⟨us, hus, l⟩ := m12.lstAt ep
          have k13 : Keep M12 H12 (mup M12 p (.lst (acc8 ++ [z]))) (upd H12 p (.lst (us ++ [v12]))) := Keep.write ep
          exact ⟨us, hus, by rw [← l.length]; exact el, _, _, m12.write ep (moh_lst (l.append (.cons rz .nil))), (((k8.trans k9).trans k11).trans k12).trans k13, q12⟩
      · have e : j = es.length := by omega
        rw [e, List.drop_length] at q8
        unfold lcD at q8
        exact .inl ⟨i2 (by omega), M8, acc8, m8, k07.trans k8, q8.2⟩
  · have e : i = ds.length := by omega
    rw [e, List.drop_length] at q3
    unfold lc2D at q3
    obtain ⟨ep, q4⟩ := q3
    obtain ⟨us, hus, l⟩ := m3.lstAt ep
    have k5 : Keep M2 H2 (mdel M2 p) H2 := Keep.del ep
    exact .inl ⟨j2 (by omega), hp _ _ _ H2 (.lst hus mdel_same (l.keep m3 k5)) (m3.del ep) (kk.trans k5) q4⟩
theorem de_lc2 {elt tg iter tg1 iter1 : Expr} {ifs ifs1 : List Expr} {scope : Scope} {own : List (Str × Nat)} {vs1 : List Nat} {pos : Pos} {wi wi1 : TID} {g g1 : TGD} {gl gl1 : TG} {tt tt1 : TTD} {te : TED} (hc : X.calm = true) (hN : X.N.Nodup) (hi : DI X W tg iter wi) (ok : BlkOk X.N X.env.scope scope own) (hv : ∀ i ∈ vs1, i ∈ own.map (·.2))
    (hG : WipeG X.K (own.map (·.2)) gl g) (hG1 : WipeG X.K vs1 gl1 g1)
    (hg : ∀ (s : Shared) (H : Hp) (C : Addr) (cl : List (Str × Addr)) (fp : List Addr), PG (X.blk s H scope (compEnvC scope cl C X.env) fp) tg gl) (ht : ∀ (s : Shared) (H : Hp) (C : Addr) (cl : List (Str × Addr)) (fp : List Addr), DTs (X.blk s H scope (compEnvC scope cl C X.env) fp) ifs tt)
    (hi1 : ∀ (s : Shared) (H : Hp) (C : Addr) (cl : List (Str × Addr)) (fp : List Addr), DI (X.blk s H scope (compEnvC scope cl C X.env) fp) W0 tg1 iter1 wi1)
    (hg1 : ∀ (s : Shared) (H : Hp) (C : Addr) (cl : List (Str × Addr)) (fp : List Addr), PG (X.blk s H scope (compEnvC scope cl C X.env) fp) tg1 gl1) (ht1 : ∀ (s : Shared) (H : Hp) (C : Addr) (cl : List (Str × Addr)) (fp : List Addr), DTs (X.blk s H scope (compEnvC scope cl C X.env) fp) ifs1 tt1)
    (he : ∀ (s : Shared) (H : Hp) (C : Addr) (cl : List (Str × Addr)) (fp : List Addr), DE (X.blk s H scope (compEnvC scope cl C X.env) fp) W0 elt te) (hs : ∀ x, foldedSetIterable iter X.env x = pure x := by intro _; rfl) (hs1 : ∀ env x, foldedSetIterable iter1 env x = pure x := by intro _ _; rfl) :
    DE X W (.ListComp elt [⟨tg, iter, ifs, 0⟩, ⟨tg1, iter1, ifs1, 0⟩] scope pos) (dLc2 wi g tt wi1 g1 tt1 te (own.map (·.2)) vs1) := ⟨⟨fun pins s σ H Q I h => by
  obtain ⟨τ, M, P, Y, hs', hm, q, hp, hy⟩ := h
  exact (pe_lc2 (te := lo X.K W0 (rV X.K) te) (tt := lo X.K W0 rB tt) (tt1 := lo X.K W0 rB tt1) (wi1 := loI X.K W0 wi1) hc hN hi.of ok hv hg (fun s H C cl fp => (ht s H C cl fp).of) (fun s H C cl fp => (hi1 s H C cl fp).of) hg1 (fun s H C cl fp => (ht1 s H C cl fp).of) (fun s H C cl fp => (he s H C cl fp).of) hs hs1).run pins s σ H Q I (lc2_low hG hG1 hs' hm q hp hy)⟩⟩
end
end DL

set_option Elab.async false
set_option linter.all false
set_option maxRecDepth 100000
set_option maxHeartbeats 1000000
namespace DL
open PySem PySem.Spec PyProof.Rows L2

/-! ### small rules -/
def dNeg : D → Mm → QD → Prop := fun x M P => match x with
  | .int i => P (.int (-i)) M
  | _ => False
section
variable {X : Cx} {W : WX} {a : Expr} {ta : TED} {pos : Pos}
theorem de_neg (ha : DE X W a ta) : DE X W (.UnaryOp .USub a pos) (dUn dNeg ta) := de_un un_neg (fun x M v H P Q rx m h k => by
  cases rx <;> first | exact h.elim | exact ⟨_, rfl, k _ M _ H (.int _) m Keep.refl h⟩) ha
theorem de_dct0 : DE X W (.Dict [] [] pos) (dC (.dct [])) := ⟨⟨fun pins s σ H Q I hh => by
  obtain ⟨τ, M, P, Y, hs, hm, q, hp, _⟩ := hh
  refine pe_dnewK.run pins s σ H Q I fun p hpn => ?_
  have fr := hm.noneOfFree hpn
  exact hp _ M _ _ (.dct (kvs := []) upd_same fr rfl .nil) (hm.new hpn) (Keep.new hpn) q⟩⟩
theorem de_ty {x : Str} {T : String} (hg : Gl X x) (hm : X.mg x = none) (hv : bootBuiltins x = some (.type T)) (hn : x ≠ "__name__" := by decide) (hd : (x == ("__debug__" : Str)) = false := by decide) : DE X W (.Name x pos) (dC (.ty T)) :=
  de_c (pe_bltn (v := .ty T) hg hm hv rfl hn hd) fun _ _ => .ty T
/-- the module holds a tuple of whole numbers under the name x -/
def HasT (K : PySem.W.Frag) (mg : Str → Option Value) (x : Str) (is : List Int) : Prop := ∃ (a : Addr) (o : Obj) (its : Array Value) (n : Nat), mg x = some (.ref a) ∧ K.lookup a = some o ∧ o.cls = .type "tuple" ∧ o.dict = none ∧ o.data = .seq its n ∧ its.size ≤ sizeLine ∧ Vals (is.map V.int) its.toList
theorem ints_rp {K : PySem.W.Frag} {M : Mm} {H : Hp} : ∀ is : List Int, RpL K M H (is.map D.int) (is.map V.int)
  | [] => .nil
  | i :: is => .cons (.int i) (ints_rp is)
end

/-! ### try .. except X as n -/
section
variable {X : Cx} {Wout : WX} {x n : Str} {i : Nat} {c : Value} {body suite : List Stmt} {b₀ : Stmt} {np pos pos' : Pos} {t : TSD} {tsu : Addr → Value → TSD}
def dTryAs (K : PySem.W.Frag) (c : Value) (i : Nat) (t : TSD) (tsu : Addr → Value → TSD) : TSD := fun F τ M => t { F with ex := fun cls τ' M' => ∃ b, PySem.W.exmOne K cls c = some b ∧
  (b = true → ∀ a, M' a = none → tsu a cls { nx := fun τ2 M2 => F.nx (τ2.set i none) M2, rt := F.rt, bk := fun τ2 M2 => F.bk (τ2.set i none) M2, ct := fun τ2 M2 => F.ct (τ2.set i none) M2 } (τ'.set i (some (.ref a))) M') ∧ (b = false → F.ex cls τ' M') } τ M
theorem ds_tryAs (hs : X.stack = X.env :: X.outer) (hf : X.env.frame = some X.env.locals) (hN : X.N.Nodup) (hi : X.N[i]? = some n) (hln : X.env.kindOf n = some .local) (hc : Names X x c) (tk : Takes X Wout)
    (hb : ∀ (W : WX) (pn : List (Addr × Obj)) (xe : Value → Shared → Prop), Takes (X.tr pn xe) W → DSs (X.tr pn xe) W body t)
    (hsu : ∀ (a : Addr) (oe : Obj) (cls : Value) (pn : List (Addr × Obj)), Zc cls none oe → (∃ vs, oe.data = .fields vs) → DSs (X.suite a ((a, oe) :: pn)) W0 (b₀ :: suite) (tsu a cls)) :
    DS X Wout (.Try body [.ExceptHandler (some (.Name x np)) (some n) (b₀ :: suite) pos'] [] [] pos) (dTryAs X.K c i t tsu) := by
  refine ⟨⟨fun pins s σ H E I h => ?_⟩⟩
  obtain ⟨τ, M, F, hs', hm, q, r⟩ := h
  refine (ps_try_as (tb := fun W => loS X.K W t) (ts := fun a cls d => if d = none then loS X.K W0 (tsu a cls) else fun _ _ _ => False) hs hf hN hi hln hc tk (fun W pn xe t2 _ => (hb W pn xe t2).of) (fun a oe cls d pn hz hv => ?_)).run pins s σ H E I ?_
  · by_cases e : d = none
    · subst e
      rw [if_pos rfl]
      exact (hsu a oe cls pn hz hv).of
    · rw [if_neg e]
      exact ⟨fun _ _ _ _ _ _ z => z.elim⟩
  · refine ⟨τ, M, _, hs', hm, q, ⟨r.nx, r.rt, r.bk, r.ct, fun cls τ' M' σ' H' a b k ⟨bb, e1, e2, e3⟩ => ?_⟩⟩
    refine ⟨bb, e1, fun hb2 ad hn => ?_, fun hb2 => r.ex cls τ' M' σ' H' a b k (e3 hb2)⟩
    show (if (none : Option Addr) = none then loS X.K W0 (tsu ad cls) else fun _ _ _ => False) _ _ _
    rw [if_pos rfl]
    refine ⟨_, M', _, a.set (.ref ad) i, b, e2 hb2 ad (b.noneOfFree hn), ⟨fun τ2 M2 σ2 H2 a2 b2 k2 q2 => ?_, fun d M2 v H2 a2 b2 k2 q2 => ?_, fun τ2 M2 σ2 H2 a2 b2 k2 q2 => ?_, fun τ2 M2 σ2 H2 a2 b2 k2 q2 => ?_, fun _ _ _ _ _ _ _ _ z => z⟩⟩
    · exact r.nx _ M2 _ H2 (a2.setN i) b2 (k.trans k2) q2
    · exact r.rt d M2 v H2 a2 b2 (k.trans k2) q2
    · exact r.bk _ M2 _ H2 (a2.setN i) b2 (k.trans k2) q2
    · exact r.ct _ M2 _ H2 (a2.setN i) b2 (k.trans k2) q2
/-- isinstance(e, c) in the suite, e the caught error of the class C -/
def dIsE (K : PySem.W.Frag) (C a : Addr) : RDn := fun xs M P => ∃ (z : D) (cv : Value) (b : Bool), xs = [.ref a, z] ∧ ((∃ A, z = .ref A ∧ cv = .ref A) ∨ ∃ T, z = .ty T ∧ cv = .type T) ∧ PySem.W.kitOne K (.ref C) cv = some b ∧ P (.bl b) M
theorem lf_isE {K : PySem.W.Frag} {C a : Addr} : LiftN K (dIsE K C a) (rIsE K C a) := fun xs M vs H P Q rx m h k => by
  obtain ⟨z, cv, b, rfl, hz, e, q⟩ := h
  cases rx with
  | cons r rr => cases rr with
    | cons r2 rr =>
      cases rr
      cases r
      rcases hz with ⟨A, rfl, rfl⟩ | ⟨T, rfl, rfl⟩
      · cases r2
        exact ⟨.ref A, _, b, rfl, fun u h => h, e, k _ M _ H (.bl b) m Keep.refl q⟩
      · cases r2
        exact ⟨.ty T, _, b, rfl, fun u h => h, e, k _ M _ H (.bl b) m Keep.refl q⟩
end

/-! ### a lambda with one written default -/
abbrev lamFd (dV : Value) (qual : Str) (params : Arguments) (body : Expr) (scope : Scope) (cl : List (Str × Addr)) (pm cdv ct : Value) : FuncData :=
  { PySem.W.kla_fn "<lambda>" qual params body scope cl pm cdv ct with defaults := dV }
abbrev lamOb (dV : Value) (qual : Str) (params : Arguments) (body : Expr) (scope : Scope) (cl : List (Str × Addr)) (pm cdv ct : Value) : Obj := { cls := .type "function", data := .func (lamFd dV qual params body scope cl pm cdv ct) }
section
variable {M : Model} {A : Around} {E : Value → Shared → Prop} {s : Shared}
theorem tail_dv {dV : Value} {qual : Str} {params : Arguments} {body : Expr} {scope : Scope} {env : Env} {clos : List (Str × Addr)} {P : Addr} {mg : Str → Option Value} {pos : Pos} {fl : Nat} {Rel : Value → Heap → Prop} {Q : Value → Shared → Prop}
    (hcl : closureFor scope env = pure clos) (hge : env.globals = mainGlobals) (hg : s.heap.Ns mainGlobals mg) (hgP : mainGlobals ≠ P) (hb : s.heap.BuiltinsAt mg P)
    (hfc : ∀ (s' : Shared) (Q' : Value → Shared → Prop), (∀ b o, s.heap.get? b = some o → s'.heap.get? b = some o) → s.heap.objs.size ≤ s'.heap.objs.size → (∀ cv h' tk, Heap.ExtBut P s'.heap h' → s'.heap.objs.size ≤ h'.objs.size → Rel cv h' → Q' cv { s' with heap := h', toks := tk }) →
      wpAny M A (functionCode env pos fl "<lambda>" qual params scope (.expr body)) Q' E s')
    (h : ∀ cv ctv h' tk, Heap.ExtBut P s.heap h' → s.heap.objs.size ≤ h'.objs.size → Rel cv h' → Q (.ref h'.objs.size) { s with heap := h'.push (lamOb dV qual params body scope clos ((mg "__name__").getD .none) cv ctv), toks := tk }) :
    wpAny M A (makeTail "<lambda>" qual params (.expr body) scope env dV .none none pos fl) Q E s := by
  obtain ⟨bm, ob, b1, b2, _, b4, b5, b6, b7, b8⟩ := hb
  unfold makeTail
  rw [hcl, hge]
  refine wpAny_bind (wpAny_pure ?_)
  by_cases hc : clos.isEmpty = true
  · rw [if_pos hc]
    refine wpAny_bind (wpAny_pure ?_)
    refine wpAny_bind (hfc s _ (fun _ _ e => e) (Nat.le_refl _) fun cv h' tk x1 x2 rl => ?_)
    have gg := hg.extBut x1 hgP
    refine wpAny_bind (wpAny_builtinsFor gg b1 b2 (x1 _ _ b4 b5) b6 b7 b8 ?_)
    refine wpAny_bind (wpAny_nsGet gg ?_)
    exact wpAny_bind (wpAny_pure (wpAny_newObj_type (h cv .none h' tk x1 x2 rl) (by size_fits)))
  · rw [if_neg hc]
    refine wpAny_bind (wpAny_newTextTuple ?_)
    have old : ∀ (ob : Obj) b o, s.heap.get? b = some o → (s.heap.push ob).get? b = some o := fun ob b o e => Heap.get?_push_of_some _ e
    refine wpAny_bind (hfc _ _ (old _) (by rw [Heap.size_push]; exact Nat.le_succ _) fun cv h' tk x1 x2 rl => ?_)
    have x3 : Heap.ExtBut P s.heap h' := fun b o hb' e => x1 b o hb' (old _ b o e)
    have gg := hg.extBut x3 hgP
    refine wpAny_bind (wpAny_builtinsFor gg b1 b2 (x3 _ _ b4 b5) b6 b7 b8 ?_)
    refine wpAny_bind (wpAny_nsGet gg ?_)
    exact wpAny_bind (wpAny_pure (wpAny_newObj_type (h cv _ h' tk x3 (Nat.le_trans (by rw [Heap.size_push]; exact Nat.le_succ _) x2) rl) (by size_fits)))
end
section
variable {X : Cx} {pins : List (Addr × Obj)} {σ : L2.St} {H : Hp} {s : Shared}
/-- the lambda with a default is made -/
theorem lam_makeD1 {T : List (Addr × Str)} {c P : Addr} {params : Arguments} {body : Expr} {scope : Scope} {pos : Pos} {E : Value → Shared → Prop} {Q : Value → Shared → Prop} {i : Int} {tI : Tok} {s1 : Shared} {H1 : Hp} (I1 : Inv X pins σ H1 s1) (TB : LamX.TabB X.base X.mg c P) (hcode : X.env.code = .ref c)
    (hm : (P, X.env.qual ++ "<lambda>") ∈ T) (hu : ∀ p ∈ T, p.1 = P → p.2 = X.env.qual ++ "<lambda>") (hT : LamX.Tabs T H1) (hkw : params.kwonlyargs = []) (hfree : ∀ y ∈ scope.names, y.2 = .free → ∃ c, X.env.cells.lookup y.1 = some c)
    (h : ∀ (f c' dT : Addr) (pm ctv : Value) (H2 : Hp) (s' : Shared), Inv X pins σ H2 s' → LamX.ExtN H1 H2 → LamX.Tabs T H2 →
      s'.heap.get? f = some (lamOb (.ref dT) (X.env.qual ++ "<lambda>") params body scope (cloFrom X.env.cells scope.names []) pm (.ref c') ctv) → H2 f = none → f ∉ frs X.stack → H2 c' = some (LamX.CodeO c' (X.env.qual ++ "<lambda>")) →
      s'.heap.get? dT = some { cls := .type "tuple", data := .seq [Value.int i tI].toArray } → H2 dT = none → dT ∉ frs X.stack → Q (.ref f) s') :
    wpAny (model X.prog X.w) X.A (makeFunction "<lambda>" (X.env.qual ++ "<lambda>") params (.expr body) scope X.env [Value.int i tI] [] [] pos pos.line) Q E s1 := by
  rw [makeFunction_eq]
  rw [hkw]
  simp only [List.zip_nil_left, List.filterMap_nil, List.isEmpty_nil, List.isEmpty_cons, Bool.false_eq_true, if_true, if_false, pure_bind]
  refine wpAny_bind (wpAny_newTextTuple ?_)
  have kT : ∀ b o, s1.heap.get? b = some o → (s1.heap.push { cls := .type "tuple", data := .seq [Value.int i tI].toArray }).get? b = some o := fun b o e => Heap.get?_push_of_some _ e
  have I2 : Inv X pins σ H1 { s1 with heap := s1.heap.push { cls := .type "tuple", data := .seq [Value.int i tI].toArray } } := I1.kept (t' := s1.toks) kT
  have nT : H1 s1.heap.objs.size = none := I1.hok.fresh (Nat.le_refl _)
  have gT : (s1.heap.push { cls := .type "tuple", data := .seq [Value.int i tI].toArray }).get? s1.heap.objs.size = some { cls := .type "tuple", data := .seq [Value.int i tI].toArray } := Heap.get?_push_size _ rfl
  obtain ⟨ps, hP, ht, ha⟩ := hT _ hm
  have bP := TB.bm.keeps I2.bk
  have hP' : (s1.heap.push { cls := .type "tuple", data := .seq [Value.int i tI].toArray }).get? P = some { cls := .none, data := .fields ps } := I2.hok P _ hP
  have nofr : ∀ f, s1.heap.objs.size ≤ f → f ∉ frs X.stack := fun f hf z => by
    rcases List.mem_cons.mp (I1.stkSub _ z) with e | e
    · have h1 := I1.lt
      rw [← e] at h1
      exact absurd (Nat.lt_of_lt_of_le h1 hf) (Nat.lt_irrefl _)
    · exact I1.nofs hf e
  have szT : s1.heap.objs.size < (s1.heap.push { cls := .type "tuple", data := .seq [Value.int i tI].toArray }).objs.size := by rw [Heap.size_push]; exact Nat.lt_succ_self _
  have nPT : P ≠ s1.heap.objs.size := fun z => by rw [z, nT] at hP; cases hP
  have hd := TB.code.keeps I2.bk
  cases hc : codeAmong pos ps.toList with
  | none =>
    refine tail_dv (mg := X.mg) (P := P) (Rel := fun cv h' => ∃ c', cv = .ref c' ∧ (s1.heap.push { cls := .type "tuple", data := .seq [Value.int i tI].toArray }).objs.size ≤ c' ∧ c' < h'.objs.size ∧ h'.CodeRec (.ref c') (X.env.qual ++ "<lambda>") ∧ h'.get? P = some { cls := .none, data := .fields (ps ++ #[rawInt pos.line, rawInt pos.col, .ref c']) })
      (closure_ok hfree) I2.ok.glob (I2.mod.glob.keeps I2.bk) TB.gP bP (fun s' Q' k sz hq => ?_) fun cv ctv h' tk x1 x2 rl => ?_
    · have hPs := k _ _ hP'
      have hds := hd.keeps k
      exact wpAny_functionCodeX hcode (hds.code hPs ht) (hds.tab hPs) hc fun c' h' tk x1 x2 x3 _ x4 x5 _ => hq _ h' tk x1 (Nat.le_of_lt (Nat.lt_of_le_of_lt x2 x3)) ⟨c', rfl, Nat.le_trans sz x2, x3, x4, x5.2⟩
    · obtain ⟨c', rfl, x3, x4, x5, x6⟩ := rl
      obtain ⟨c2, oc, vs, t, e2, hoc, hdd, hv⟩ := x5
      cases e2
      have sz2 : s1.heap.objs.size ≤ c' := Nat.le_of_lt (Nat.lt_of_lt_of_le szT x3)
      have nC : H1 c' = none := I1.hok.fresh sz2
      have J := LamX.inv_table (t' := tk) (more := #[rawInt pos.line, rawInt pos.col, .ref c']) (h' := h'.push (lamOb (.ref s1.heap.objs.size) (X.env.qual ++ "<lambda>") params body scope (cloFrom X.env.cells scope.names []) ((X.mg "__name__").getD .none) (.ref c') ctv)) I2 hP
        (fun b o hb e => Heap.get?_push_of_some _ (x1 b o hb e)) (Heap.get?_push_of_some _ x6) x3 ⟨oc, vs, t, Heap.get?_push_of_some _ hoc, hdd, hv⟩
      have nPc : P ≠ c' := fun z => by rw [z, nC] at hP; cases hP
      have grown : LamX.ExtN H1 (upd (upd H1 P (.tbl (ps ++ #[rawInt pos.line, rawInt pos.col, .ref c']))) c' (LamX.CodeO c' (X.env.qual ++ "<lambda>"))) := fun b o e n => by
        rw [upd_ne (ne_of_none e nC), upd_ne (fun z => n ps (Option.some.inj (e.symm.trans (by rw [z]; exact hP))))]
        exact e
      have eL : (ps ++ #[rawInt pos.line, rawInt pos.col, .ref c']).toList = ps.toList ++ [rawInt pos.line, rawInt pos.col, .ref c'] := by simp
      have szF : s1.heap.objs.size ≤ h'.objs.size := Nat.le_trans sz2 (Nat.le_of_lt x4)
      have nF1 : h'.objs.size ≠ c' := Nat.ne_of_gt x4
      have nF2 : h'.objs.size ≠ P := Nat.ne_of_gt (Nat.lt_of_lt_of_le (Heap.lt_size hP') (Nat.le_trans x3 (Nat.le_of_lt x4)))
      refine h h'.objs.size c' s1.heap.objs.size ((X.mg "__name__").getD .none) ctv _ _ J grown (fun p hp => ?_) (Heap.get?_push_size _ rfl) (by rw [upd_ne nF1, upd_ne nF2]; exact I1.hok.fresh szF) (nofr _ szF) upd_same (Heap.get?_push_of_some _ (x1 _ _ (Ne.symm nPT) gT)) ?_ (nofr _ (Nat.le_refl _))
      · by_cases hb : p.1 = P
        · rw [hu p hp hb, hb]
          refine ⟨_, by rw [upd_ne nPc, upd_same], by rw [eL]; exact PySem.TriplesOk_snoc _ _ _ _ ht, fun p' cv hcv => ?_⟩
          rw [eL] at hcv
          rcases LamX.among_app _ ht hcv with z | z
          · obtain ⟨c0, e1, e2⟩ := ha p' cv z
            exact ⟨c0, e1, grown _ _ e2 LamX.codeO_ne⟩
          · exact ⟨c', z, upd_same⟩
        · obtain ⟨ps', a1, a2, a3⟩ := hT p hp
          refine ⟨ps', by rw [upd_ne (ne_of_none a1 nC), upd_ne hb]; exact a1, a2, fun p' cv hcv => ?_⟩
          obtain ⟨c0, e1, e2⟩ := a3 p' cv hcv
          exact ⟨c0, e1, grown _ _ e2 LamX.codeO_ne⟩
      · have n1 : s1.heap.objs.size ≠ c' := Nat.ne_of_lt (Nat.lt_of_lt_of_le szT x3)
        rw [upd_ne n1, upd_ne (Ne.symm nPT)]
        exact nT
  | some cv =>
    obtain ⟨c', e, hco⟩ := ha pos cv hc
    subst e
    refine tail_dv (mg := X.mg) (P := P) (Rel := fun cv h' => cv = .ref c' ∧ ∀ b o, (s1.heap.push { cls := .type "tuple", data := .seq [Value.int i tI].toArray }).get? b = some o → h'.get? b = some o)
      (closure_ok hfree) I2.ok.glob (I2.mod.glob.keeps I2.bk) TB.gP bP (fun s' Q' k sz hq => ?_) fun cv ctv h' tk x1 x2 rl => ?_
    · exact wpAny_functionCode_hit hcode ((hd.keeps k).code (k _ _ hP') ht) hc (hq _ s'.heap s'.toks (fun _ _ _ e => e) (Nat.le_refl _) ⟨rfl, k⟩)
    · obtain ⟨rfl, x3⟩ := rl
      have J : Inv X pins σ H1 { s1 with heap := h'.push (lamOb (.ref s1.heap.objs.size) (X.env.qual ++ "<lambda>") params body scope (cloFrom X.env.cells scope.names []) ((X.mg "__name__").getD .none) (.ref c') ctv), toks := tk } := I2.kept fun b o e => Heap.get?_push_of_some _ (x3 b o e)
      have szF : s1.heap.objs.size ≤ h'.objs.size := Nat.le_trans (Nat.le_of_lt szT) x2
      exact h h'.objs.size c' s1.heap.objs.size ((X.mg "__name__").getD .none) ctv H1 _ J (LamX.ExtN.refl _) hT (Heap.get?_push_size _ rfl) (I1.hok.fresh szF) (nofr _ szF) hco (Heap.get?_push_of_some _ (x3 _ _ gT)) nT (nofr _ (Nat.le_refl _))
theorem lam_makeD {T : List (Addr × Str)} {c P : Addr} {params : Arguments} {body : Expr} {scope : Scope} {pos : Pos} {E : Value → Shared → Prop} {Q : Value → Shared → Prop} {i : Int} {j : Nat} {pc : Pos} (I : Inv X pins σ H s) (TB : LamX.TabB X.base X.mg c P) (hcode : X.env.code = .ref c)
    (hm : (P, X.env.qual ++ "<lambda>") ∈ T) (hu : ∀ p ∈ T, p.1 = P → p.2 = X.env.qual ++ "<lambda>") (hT : LamX.Tabs T H) (hdef : defaultsOf params X.env = ([eval (.Constant (.int i) j pc) X.env], [])) (hkw : params.kwonlyargs = []) (hfree : ∀ y ∈ scope.names, y.2 = .free → ∃ c, X.env.cells.lookup y.1 = some c)
    (h : ∀ (f c' dT : Addr) (tI : Tok) (pm ctv : Value) (H1 : Hp) (s' : Shared), Inv X pins σ H1 s' → LamX.ExtN H H1 → LamX.Tabs T H1 →
      s'.heap.get? f = some (lamOb (.ref dT) (X.env.qual ++ "<lambda>") params body scope (cloFrom X.env.cells scope.names []) pm (.ref c') ctv) → H1 f = none → f ∉ frs X.stack → H1 c' = some (LamX.CodeO c' (X.env.qual ++ "<lambda>")) →
      s'.heap.get? dT = some { cls := .type "tuple", data := .seq [Value.int i tI].toArray } → H1 dT = none → dT ∉ frs X.stack → Q (.ref f) s') :
    wpAny (model X.prog X.w) X.A (eval (.Lambda params body scope pos) X.env) Q E s := by
  rw [arm_eval_Lambda, hdef]
  refine wpAny_bind ?_
  show wpAny _ _ (do let v ← eval (.Constant (.int i) j pc) X.env; let r ← holding [v] (evalAll []); pure (v :: r)) _ _ _
  refine wpAny_bind (wpAny_Constant_int ?_)
  refine wpAny_bind (wpAny_holding (wpAny_pure (wpAny_pure ?_)))
  refine wpAny_bind (wpAny_holding (wpAny_pure ?_))
  exact lam_makeD1 (I.tok _) TB hcode hm hu hT hkw hfree fun f c' dT pm ctv H2 s' => h f c' dT _ pm ctv H2 s'
end
end DL

set_option Elab.async false
set_option linter.all false
set_option maxRecDepth 100000
set_option maxHeartbeats 1000000
namespace DL
open PySem PySem.Spec PyProof.Rows L2

/-! ### lambdas, with or without a written default -/
structure LamD (N : List Str) (sc own : Scope) : Prop where
  kd : own.kind = .function
  nc : own.isCoroutine = false
  ng : own.isGenerator = false
  cel : ∀ y ∈ own.names, y.2 ≠ .cell
  loc : ∀ y ∈ own.names, y.2 = .local → y.1 ∉ N
  fre : ∀ y ∈ own.names, y.2 = .free → sc.names.lookup y.1 = some .cell ∨ sc.names.lookup y.1 = some .free
def lamDB (N : List Str) (sc own : Scope) : Bool :=
  decide (own.kind = .function) && (!own.isCoroutine && (!own.isGenerator && own.names.all fun y => decide (y.2 ≠ .cell) && (decide (y.2 ≠ .local ∨ y.1 ∉ N) && decide (y.2 ≠ .free ∨ sc.names.lookup y.1 = some .cell ∨ sc.names.lookup y.1 = some .free))))
theorem lamD_by {N : List Str} {sc own : Scope} (h : lamDB N sc own = true) : LamD N sc own := by
  unfold lamDB at h
  simp only [Bool.and_eq_true, Bool.not_eq_true', decide_eq_true_eq, List.all_eq_true] at h
  obtain ⟨a, b, c, d⟩ := h
  refine ⟨a, b, c, fun y hy => (d y hy).1, fun y hy e => ?_, fun y hy e => ?_⟩
  · exact (d y hy).2.1.resolve_left fun z => z e
  · exact (d y hy).2.2.resolve_left fun z => z e
section
variable {X : Cx} {pins : List (Addr × Obj)} {σ : L2.St} {H HZ : Hp} {s s1 : Shared}
theorem LamD.cells {own : Scope} (L : LamD X.N X.env.scope own) (ok : X.Ok) : ∀ y ∈ own.names, y.2 = .free → ∃ c, X.env.cells.lookup y.1 = some c := fun y hy e => ok.has _ ((L.fre y hy e).elim .inl .inr)
theorem lam_inD {A : Around} {outer : List Env} {E : XK} {own : Scope} {f c' : Addr} {h2 : Heap} {tk : Nat} {bs : List (Str × Value)} (I : Inv X pins σ H s) (L : LamD X.N X.env.scope own) (e0 : Env0 X.prog X.w X.K X.mg X.base A outer s1 HZ) (hdl : A.handled = none)
    (un : Un (frs X.stack) [] H HZ s.heap s1.heap) (hns : h2.Ns s1.heap.objs.size fun y => bs.reverse.lookup y) (kp : ∀ b o, s1.heap.get? b = some o → h2.get? b = some o) :
    Inv (LamX.lamCx X A outer s1 HZ E own f c') [] σ HZ { s1 with heap := h2, toks := tk } := by
  have frees := L.cells I.ok
  have back : ∀ {y a}, (cloFrom X.env.cells own.names []).lookup y = some a → X.env.cells.lookup y = some a := fun {y a} e => by
    rcases cloFrom_mem (PySem.mem_of_lookup e) with z | ⟨z1, z2⟩
    · exact absurd z (by simp)
    · obtain ⟨a2, ha⟩ := frees _ z1 rfl
      have ha' : X.env.cells.lookup y = some a2 := ha
      have ea : a = a2 := by rw [z2, ha'] <;> rfl
      rw [ea]
      exact ha'
  have seen : ∀ {y}, own.names.lookup y = some .free → ∃ a, (cloFrom X.env.cells own.names []).lookup y = some a := fun {y} hl => mem_lookup (cloFrom_has (cells := X.env.cells) (acc := []) (PySem.mem_of_lookup hl))
  have stays : ∀ {a : Addr} {v : Option Value}, H a = none → s.heap.IsCell a v → h2.IsCell a v := fun {a v} n ⟨o, ho, hdd⟩ => by
    obtain ⟨sl, q⟩ := un.any ho n (by simp)
    exact ⟨_, kp _ _ q, hdd⟩
  have none_ex : ∀ b : Addr, b ∉ (LamX.lamCx X A outer s1 HZ E own f c').ex := fun b z => absurd (show b ∈ ([] : List Addr) from z) (by simp)
  refine ⟨⟨e0.mod, L.kd, rfl, rfl, Nat.le_refl _, fun y z a q1 q2 => I.ok.inj y z a (back q1) (back q2), fun y hy => ?_, fun y a z _ => ?_, fun _ => hdl, Around.frames_deeper e0.frames, .inr ⟨rfl, rfl⟩, fun b z => absurd z (none_ex b), e0.bs, e0.bsz, fun b _ _ => none_ex b, fun b z => absurd z (none_ex b), e0.funs, e0.frf⟩,
    rfl, e0.bare, Un.kept kp, ⟨_, hns, fun i y v q1 q2 q3 => ?_⟩, fun y a e => ?_, e0.hok.fresh (Nat.le_refl _), fun y a e => ?_, fun q hq => absurd (show q ∈ ([] : List (Addr × Obj)) ++ [] from hq) (by simp), e0.hok.kept kp, I.len⟩
  · rcases (show own.names.lookup y = some .cell ∨ own.names.lookup y = some .free from hy) with hy | hy
    · exact absurd rfl (L.cel _ (PySem.mem_of_lookup hy))
    · exact seen hy
  · cases (show false = true from z)
  · have iny : y ∈ X.N := List.mem_of_getElem? q1
    rcases (show Vis own y from q3) with k | k | k
    · exact absurd iny (L.loc _ (PySem.mem_of_lookup k) rfl)
    · exact absurd rfl (L.cel _ (PySem.mem_of_lookup k))
    · obtain ⟨m, hn, hl⟩ := I.loc
      have fk := L.fre _ (PySem.mem_of_lookup k) rfl
      obtain ⟨w', r, q⟩ := hl i y v q1 q2 (fk.elim (fun z => .inr (.inl z)) fun z => .inr (.inr z))
      obtain ⟨a2, h2'⟩ := seen k
      refine ⟨w', r, .inr ⟨.inr k, a2, h2', ?_⟩⟩
      have a1 := back h2'
      rcases q with ⟨kl, _⟩ | ⟨_, a3, ea, z⟩
      · have kl' : X.env.scope.names.lookup y = some .local := kl
        rcases fk with z | z <;> rw [show X.env.scope.names.lookup y = _ from z] at kl' <;> cases kl'
      · rw [a1] at ea
        cases ea
        exact stays (I.freeC y _ a1) z
  · obtain ⟨w', z⟩ := I.cell y a (back e)
    exact ⟨w', stays (I.freeC y a (back e)) z⟩
  · obtain ⟨v, o, ho, hdd⟩ := I.cell y a (back e)
    exact un.free a o ho (I.freeC y a (back e)) (by simp)
/-- the call of the lambda, in the def that got it -/
theorem pe_actD {CXg : CXT} {Eg : XK} {Ng : List Str} {qg : Str} {sg : Scope} {g f c' : Addr} {cdg pm ctv dV : Value} {params : Arguments} {body : Expr} {own : Scope} {k i : Nat} {a : Str} {pn : List (Addr × Obj)} {xe : Value → Shared → Prop} {W : WX} {E : XK} {tb : TE} {p1 p2 : Pos} {bs : List (Str × Value)}
    (I : Inv X pins σ H s) (L : LamD X.N X.env.scope own) (hf : s.heap.get? f = some (lamOb dV (X.env.qual ++ "<lambda>") params body own (cloFrom X.env.cells own.names []) pm (.ref c') ctv)) (hfn : H f = none) (hfr : f ∉ frs X.stack)
    (hbs : ∀ (HZ : Hp) (sz : Shared), Un (frs X.stack) [] H HZ s.heap sz.heap → BindsTo sz (lamFd dV (X.env.qual ++ "<lambda>") params body own (cloFrom X.env.cells own.names []) pm (.ref c') ctv) ⟨[], []⟩ bs) (hbl : ∀ y ∈ bs, own.names.lookup y.1 = some .local)
    (tk : Takes ((cxOf CXg X.prog X.w X.K X.mg X.base Ng qg sg g cdg X.A X.stack s H Eg).tr pn xe) W) (hW : ∀ cls d σ' H', E cls d H' → W cls d σ' H') (hr : Room (k + 1) (X.A.deeper (envOfC qg sg s.heap.objs.size g cdg)))
    (hbody : ∀ (A : Around) (outer : List Env) (s : Shared) (H : Hp), Room k (A.deeper (LamX.lamEnv X own s.heap.objs.size f c')) → PE (LamX.lamCx X A outer s H E own f c') body tb)
    (hN : Ng[i]? = some a) (hv : Vis sg a) (hd : (a == ("__debug__" : Str)) = false) (hcd : (a == ("__classdict__" : Str)) = false) :
    PE ((cxOf CXg X.prog X.w X.K X.mg X.base Ng qg sg g cdg X.A X.stack s H Eg).tr pn xe) (.Call (.Name a p1) [] [] p2)
      (fun σZ HZ Q => σZ[i]? = some (some (.ref f)) ∧ HZ c' = some (LamX.CodeO c' (X.env.qual ++ "<lambda>")) ∧ tb σ HZ Q) := ⟨fun pinsZ sZ σZ HZ Q IZ ⟨hs, hc, ht⟩ => by
  refine wpAny_Call_Name_kw (thn ((pe_var (pos := p1) (i := i) hN hv hd hcd).run pinsZ sZ σZ HZ (fun v H1 => v = .ref f ∧ H1 = HZ) IZ ⟨.ref f, hs, rfl, rfl⟩) fun u s2 ⟨v, H2, I2, r2, ev, eH⟩ => ?_)
  subst ev
  subst eH
  obtain rfl : u = Value.ref f := r2
  have un : Un (frs X.stack) [] H H2 s.heap s2.heap := I2.base
  have at_f : s2.heap.get? f = some (lamOb dV (X.env.qual ++ "<lambda>") params body own (cloFrom X.env.cells own.names []) pm (.ref c') ctv) := un.keep f _ hf hfn hfr (by simp)
  refine PySem.W.callWith_F0 ⟨_, _, _, _, at_f⟩ ?_
  obtain ⟨⟨oc, vs, t, hoc, hdc, hvc⟩, _, _⟩ := I2.hok c' _ hc
  refine wpAny_call (codeAny_mono (R := CR (L2.CX X.prog X.w) (envOfC qg sg s.heap.objs.size g cdg :: X.stack) X.prog X.w H2 s2 Q E) (PySem.W.kla_callFunE hr.depth at_f rfl L.nc L.ng rfl ⟨c', oc, vs, t, rfl, hoc, hdc, hvc⟩ (hbs H2 s2 un _ _ _ _ ?_)) fun r s' hq => ?_)
  · refine wpAny_newFunctionEnv L.cel hbl (fun h2 hns hsb => ⟨I2.nolimit.fresh _ hsb, ?_⟩) L.kd
    have kp : ∀ b o, s2.heap.get? b = some o → h2.get? b = some o := fun b o e => hsb.extBut b o (Nat.ne_of_lt (Heap.lt_size e)) (Heap.get?_push_of_some _ e)
    have J : Inv (LamX.lamCx X (X.A.deeper (envOfC qg sg s.heap.objs.size g cdg)) (envOfC qg sg s.heap.objs.size g cdg :: X.stack) s2 H2 E own f c') [] σ H2 { s2 with heap := h2, toks := s2.toks + bs.length } :=
      lam_inD I L I2.env0 hr.hd un hns kp
    refine PySem.W.kla_codeExpr (wpAny_mono ((hbody _ _ s2 H2 (hr.deeper _)).run [] _ _ H2 Q J ht) (fun v s' hq => ?_) fun _ _ hq => hq)
    obtain ⟨w', H', J', rv, q⟩ := hq
    exact ⟨w', H', J'.os, J'.bare, J'.base, J'.hok, rv, q⟩
  · cases r with
    | error e => exact passes_call tk hW pinsZ σZ H2 s2 e s' I2 hq
    | ok fl => cases fl with
      | ret u => exact I2.after hq
      | next => exact (show False from hq).elim
      | brk => exact (show False from hq).elim
      | cont => exact (show False from hq).elim⟩
end
/-- the lambda's making, of either kind -/
def MakesL (X : Cx) (T : List (Addr × Str)) (own : Scope) (params : Arguments) (body : Expr) (lpos : Pos) : Prop :=
  ∀ {pins : List (Addr × Obj)} {σ : L2.St} {H : Hp} {s : Shared} {E Q : Value → Shared → Prop}, Inv X pins σ H s → LamX.Tabs T H →
    (∀ (f c' : Addr) (dV pm ctv : Value) (bs : List (Str × Value)) (H1 : Hp) (s' : Shared), Inv X pins σ H1 s' → LamX.ExtN H H1 → LamX.Tabs T H1 → s'.heap.get? f = some (lamOb dV (X.env.qual ++ "<lambda>") params body own (cloFrom X.env.cells own.names []) pm (.ref c') ctv) →
      H1 f = none → f ∉ frs X.stack → H1 c' = some (LamX.CodeO c' (X.env.qual ++ "<lambda>")) → (∀ (HZ : Hp) (sz : Shared), Un (frs X.stack) [] H1 HZ s'.heap sz.heap → BindsTo sz (lamFd dV (X.env.qual ++ "<lambda>") params body own (cloFrom X.env.cells own.names []) pm (.ref c') ctv) ⟨[], []⟩ bs) →
      (∀ y ∈ bs, own.names.lookup y.1 = some .local) → Q (.ref f) s') → wpAny (model X.prog X.w) X.A (eval (.Lambda params body own lpos) X.env) Q E s
section
variable {X : Cx} {T : List (Addr × Str)} {c P : Addr} {params : Arguments} {body : Expr} {own : Scope} {lpos : Pos}
theorem makes0 (TB : LamX.TabB X.base X.mg c P) (hcode : X.env.code = .ref c) (hm : (P, X.env.qual ++ "<lambda>") ∈ T) (hu : ∀ p ∈ T, p.1 = P → p.2 = X.env.qual ++ "<lambda>") (hdef : defaultsOf params X.env = ([], [])) (L : LamD X.N X.env.scope own)
    (hbind : ∀ (q : Str) (cl : List (Str × Addr)) (pm cv ctv : Value), bindArgs (PySem.W.kla_fn "<lambda>" q params body own cl pm cv ctv) ⟨[], []⟩ = pure []) : MakesL X T own params body lpos := fun {pins σ H s E Q} I hT h =>
  LamX.lam_make2 I TB hcode hm hu hT hdef (L.cells I.ok) fun f c' pm ctv H1 s' I1 x1 x2 x3 x4 x5 x6 => h f c' .none pm ctv [] H1 s' I1 x1 x2 x3 x4 x5 x6 (fun _ _ _ => .of_eq (hbind _ _ _ _ _)) (fun y hy => absurd hy (by simp))
theorem makes1 {i : Int} {j : Nat} {pc : Pos} {n : Str} (TB : LamX.TabB X.base X.mg c P) (hcode : X.env.code = .ref c) (hm : (P, X.env.qual ++ "<lambda>") ∈ T) (hu : ∀ p ∈ T, p.1 = P → p.2 = X.env.qual ++ "<lambda>") (hdef : defaultsOf params X.env = ([eval (.Constant (.int i) j pc) X.env], [])) (hkw : params.kwonlyargs = []) (L : LamD X.N X.env.scope own)
    (hn : own.names.lookup n = some .local)
    (hbind : ∀ (dT : Addr) (q : Str) (cl : List (Str × Addr)) (pm cv ctv u : Value), ∃ k, bindArgs (lamFd (.ref dT) q params body own cl pm cv ctv) ⟨[], []⟩ = seqItems? (.ref dT) >>= k ∧ k (some #[u]) = pure [(n, u)]) : MakesL X T own params body lpos := fun {pins σ H s E Q} I hT h =>
  lam_makeD I TB hcode hm hu hT hdef hkw (L.cells I.ok) fun f c' dT tI pm ctv H1 s' I1 x1 x2 x3 x4 x5 x6 x7 x8 x9 => h f c' (.ref dT) pm ctv [(n, .int i tI)] H1 s' I1 x1 x2 x3 x4 x5 x6 (fun HZ sz un => fun A E Q M q => by
    obtain ⟨k, e1, e2⟩ := hbind dT (X.env.qual ++ "<lambda>") (cloFrom X.env.cells own.names []) pm (.ref c') ctv (.int i tI)
    rw [e1]
    refine wpAny_bind (wpAny_seqItems (un.keep dT _ x7 x8 x9 (by simp)) rfl ?_)
    rw [show [Value.int i tI].toArray = #[Value.int i tI] from rfl, e2]
    exact wpAny_pure q) fun y hy => by
      rw [List.mem_singleton.mp hy]
      exact hn
/-- g(lambda: ..) -/
theorem pe_lamG {TT : (XK → Hp → VK → Prop) → Hp → VK → Prop} {x a : Str} {g : Addr} {k : Nat} {pg : Arguments} {bg : List Stmt} {sg : Scope} {dV kV doc pm cdv ct oc : Value} {an od : Option Addr} {osl : Array (Option Value)} {Ng : List Str} {t : XK → TE} {p pos : Pos} (hg : Gl X x) (hm : X.mg x = some (.ref g)) (hk : PySem.W.keepIn X.K (.ref g) = true)
    (lk : X.K.lookup g = some ⟨oc, od, .func (PySem.W.fnOf x x pg bg sg dV kV doc pm an cdv ct), osl⟩) (hcg : PySem.W.codeIn X.K cdv x = true) (hb : L2.Binds X.K (PySem.W.fnOf x x pg bg sg dV kV doc pm an cdv ct) [a] []) (Sg : FnScope Ng [a] sg) (hNg : Ng[0]? = some a) (hva : Vis sg a)
    (hG : LamX.GivesTo X Ng x sg g cdv bg a (X.env.qual ++ "<lambda>") TT) (mk : MakesL X T own params body lpos) (hr : Room (k + 2) X.A) (L : LamD X.N X.env.scope own)
    (hbody : ∀ (A : Around) (outer : List Env) (s : Shared) (H : Hp) (E : XK) (f c' : Addr), Room k (A.deeper (LamX.lamEnv X own s.heap.objs.size f c')) → PE (LamX.lamCx X A outer s H E own f c') body (t E))
    (hdb : (x == ("__debug__" : Str)) = false) (hd : (a == ("__debug__" : Str)) = false) (hcd : (a == ("__classdict__" : Str)) = false) :
    PE X (.Call (.Name x p) [.Lambda params body own lpos] [] pos) (LamX.tLam T TT t) := ⟨fun pins s σ H Q I ⟨hT, h⟩ => by
  refine wpAny_Call_Name_kw (ld_glob I hg hm (PySem.W.callWith_K (h₀ := X.base) I.ok.mod.kin hk ?_ (by rfl) (by rfl)) hdb)
  show wpAny _ _ (spliced ((false, eval (.Lambda params body own lpos) X.env) :: backTo pos (starEach [] X.env))) _ _ s
  refine Calls.spliced_cons (mk I hT fun f c' dV2 pm2 ctv bs H1 s1 I1 eN T1 hf hfn hfr hco hbs hbl => Calls.spliced_nil ⟨I1.kIn, ?_⟩)
  refine wpAny_call (codeAny_mono (R := CR C8.CX0 X.stack X.prog X.w H1 s1 Q C8.E0) (LamX.run_ofS (N := Ng) (ps := [a]) (us := [.ref f]) (vs := [.ref f]) lk hcg Sg hr I1.env0 (hb s1 [.ref f] I1.kIn rfl) (.cons rfl .nil) rfl fun hr2 => ?_) fun r s2 hq => ?_)
  · obtain ⟨t2, d2, q2⟩ := hG f c' s1 H1 Q (fun E H' Q' => t E σ H' Q') (fun W pn xe E p1 p2 tk hW => pe_actD (i := 0) I1 L hf hfn hfr hbs hbl tk hW hr2 (fun A outer s H r3 => hbody A outer s H E f c' r3) hNg hva hd hcd) hco (h H1 eN T1)
    exact ⟨t2, d2.nox, q2⟩
  · cases r with
    | error e => exact (show False from hq).elim
    | ok fl => cases fl with
      | ret u => exact I1.after hq
      | next => exact (show False from hq).elim
      | brk => exact (show False from hq).elim
      | cont => exact (show False from hq).elim⟩
end
end DL

set_option Elab.async false
set_option linter.all false
set_option maxRecDepth 100000
set_option maxHeartbeats 1000000
namespace DL
open PySem PySem.Spec PyProof.Rows L2

/-! ### more statements, more names -/
def dPar3 (i j l : Nat) (ta : TAD) : TSD := fun F τ M => ta τ M (fun ds M1 => ∃ x y z, ds = [x, y, z] ∧ F.nx (((τ.set i (some x)).set j (some y)).set l (some z)) M1) (fun c M1 => F.ex c τ M1)
def dIpAdd : RD2 := fun x y M P => match x, y with
  | .int i, .int j => P (.int (i + j)) M
  | _, _ => False
theorem lf_ipadd {K : PySem.W.Frag} : Lift2 K dIpAdd (ipI fun i j => i + j) := fun x y M v u H P Q rx ry m h k => by
  cases rx <;> cases ry <;> first | exact h.elim | exact ⟨_, _, rfl, rfl, k _ M _ H (.int _) m Keep.refl h⟩
/-- the module holds a whole number -/
def HasI (mg : Str → Option Value) (x : Str) (i : Int) : Prop := ∃ t, mg x = some (.int i t)
/-- a def of the module -/
structure DefIn (K : PySem.W.Frag) (mg : Str → Option Value) (x : Str) (st : Stmt) (ps : List Str) : Prop where
  ex : ∃ f fd, Fun K x x st f fd ∧ mg x = some (.ref f) ∧ Binds K fd ps []
section
variable {X : Cx} {W : WX} {pos : Pos}
theorem de_gi {x : Str} {i : Int} (hg : Gl X x) (h : HasI X.mg x i) (hd : (x == ("__debug__" : Str)) = false := by decide) : DE X W (.Name x pos) (dC (.int i)) := by
  obtain ⟨t, e⟩ := h
  exact de_glob (v := .int i) hg e ⟨t, rfl⟩ (fun _ _ => .int i) hd
theorem de_gt {x : Str} {is : List Int} (hg : Gl X x) (h : HasT X.K X.mg x is) (hd : (x == ("__debug__" : Str)) = false := by decide) : DE X W (.Name x pos) (dC (.tup (is.map .int))) := by
  obtain ⟨a, o, its, n, e, l, c1, _, c3, c4, c5⟩ := h
  exact de_glob (v := .ref a) hg e rfl (fun M H => .tup (.inr ⟨o, its, n, l, c1, c3, c4, c5⟩) (ints_rp is)) hd
theorem de_gr {x : Str} {C : Addr} (hg : Gl X x) (h : X.mg x = some (.ref C)) (hd : (x == ("__debug__" : Str)) = false := by decide) : DE X W (.Name x pos) (dC (.ref C)) := de_glob (v := .ref C) hg h rfl (fun _ _ => .ref C) hd
theorem ds_par3 {i j l : Nat} {x y z : Str} {a b c : Expr} {ta : TAD} {px py pz pt : Pos} {kt k2 pt2} (hc : X.calm = true) (hN : X.N.Nodup) (hi : X.N[i]? = some x) (hj : X.N[j]? = some y) (hl : X.N[l]? = some z) (hij : i ≠ j) (hil : i ≠ l) (hjl : j ≠ l)
    (hx : X.env.scope.names.lookup x = some .local) (hy : X.env.scope.names.lookup y = some .local) (hz : X.env.scope.names.lookup z = some .local) (ha : DA X W [a, b, c] ta)
    (hw : swappedStores [.Tuple [.Name x px, .Name y py, .Name z pz] kt pt] (.Tuple [a, b, c] k2 pt2) X.env = pure (some [x, y, z]))
    (hs : swapsWithSole [.Tuple [.Name x px, .Name y py, .Name z pz] kt pt] (.Tuple [a, b, c] k2 pt2) pos.line X.env = pure false := by rfl) :
    DS X W (.Assign [.Tuple [.Name x px, .Name y py, .Name z pz] kt pt] (.Tuple [a, b, c] k2 pt2) pos) (dPar3 i j l ta) := ⟨⟨fun pins s σ H E I h => by
  obtain ⟨τ, M, F, hs', hm, q, r⟩ := h
  refine (ps_par3 hc hN hi hj hl hij hil hjl hx hy hz ha.of hw hs).run pins s σ H E I ?_
  refine ⟨τ, M, _, _, hs', hm, q, fun x M1 v H1 rx m1 k1 q1 => ?_, fun c M1 H1 m1 k1 y => r.ex c τ M1 σ H1 (hs'.keep hm k1) m1 k1 y⟩
  obtain ⟨x, y, z, e, q2⟩ := q1
  subst e
  cases rx with
  | cons r1 rr => cases rr with
    | cons r2 rr => cases rr with
      | cons r3 rr =>
        cases rr
        exact ⟨_, _, _, rfl, r.nx _ M1 _ H1 ((((hs'.keep hm k1).set r1 i).set r2 j).set r3 l) m1 k1 q2⟩⟩⟩
end
theorem wipeG_tup2 {K : PySem.W.Frag} {vs : List Nat} {i j : Nat} (hi : i ∈ vs) (hj : j ∈ vs) : WipeG K vs (gTup K 2 (gCons (gName i) (gCons (gName j) gNil))) (hTup 2 (hCons (hName i) (hCons (hName j) hNil))) := fun d v τ σ M H P Q rd hs hm ⟨ds, ed, el, d1, r1, e1, d2, r2, e2, e3, q⟩ k => by
  subst ed e1 e2 e3
  cases rd with
  | tup hq l => cases l with
    | cons x1 l => cases l with
      | cons x2 l =>
        cases l
        refine ⟨_, _, rfl, hq, rfl, _, _, rfl, _, _, rfl, rfl, ?_⟩
        exact k _ _ ((hs.set x1 i).set x2 j) (by rw [wipe_set hj, wipe_set hi]) q
/-- the start of a def from what stands in the module -/
theorem kn_def {P : Program} {w : World} {K : PySem.W.Frag} {mg : Str → Option Value} {base : Heap} {x : Str} {st : Stmt} {N ps : List Str} {gz : Bool} {k : Nat} {s : SpD} (D : DefIn K mg x st ps) (S : FnScope N ps (defScope st)) (len : ∀ xs M P Y, s xs M P Y → xs.length = ps.length)
    (hbody : ∀ (f : Addr) (cdv : Value) (A : Around) (outer : List Env) (s0 : Shared) (H : Hp) (E : XK), Room k (A.deeper (envOfC x (defScope st) s0.heap.objs.size f cdv)) → (gz = true → A.guards = some []) →
      ∃ t, DSs (cxOf (L2.CX P w) P w K mg base N x (defScope st) f cdv A outer s0 H E) (fun c oe _ H => E c oe H) (defBody st) t ∧
        ∀ xs M P Y, s xs M P Y → t { nx := fun _ M' => P .non M', rt := P, ex := fun c _ M' => Y c M' } (DL.start N.length xs) M) : Kn P w K mg base gz x (k + 1) s := by
  obtain ⟨f, fd, F, hx, hb⟩ := D.ex
  exact kn_of F hx S hb len fun cdv A outer s0 H E hr gd => hbody f cdv A outer s0 H E hr gd

/-! ### the end of a law -/
def tabM (ts : List Addr) (q : Str) : Mm := fun b => if b ∈ ts then some (.tab q) else none
def FnLaw (P : Program) (w : World) (K : PySem.W.Frag) (mg : Str → Option Value) (base : Heap) (k : Nat) (fa : Addr) (fd : FuncData) (x : Str) (n : Nat) (ts : List Addr) (q : Str) : Prop :=
  ∃ s : SpD, FnG P w K mg base true k fa fd [x] s ∧ ∀ ns : List Int, ns.length ≤ n → (∀ z ∈ ns, Builtin.Int.intBits z ≤ 1048576) → s [.scr (ns.map .int)] (tabM ts q) (fun d _ => d = .bl true) (fun _ _ => False)
section
variable {P : Program} {w : World} {K : PySem.W.Frag} {mg mb : Str → Option Value} {k n : Nat} {fa a : Addr} {cs : List (Addr × Addr)} {fd : FuncData} {x q : Str} {s1 : Shared} {vs : List Value} {ns : List Int}
/-- what is tracked at the law's start: the empty tables; the script, unless K knows it -/
def lawH (K : PySem.W.Frag) (ts : List Addr) (a : Addr) (ob : Obj) (ns : List Int) : Hp := fun b => if b ∈ ts then some (.tbl #[]) else if b = a ∧ K.lookup a = none then some (.frz ob (.lst (ns.map V.int))) else none
theorem law_end (KX : K.In s1.heap) (hns : s1.heap.Ns mainGlobals mg) (hb : s1.heap.Ns builtinsNs mb) (hbb : ∀ x : Str, x ≠ "__name__" → mb x = bootBuiltins x) (hlim : s1.heap.NoLimit) (hgen : s1.gens = #[])
    (tabs : ∀ p ∈ cs, s1.heap.get? p.2 = some { cls := .none, data := .fields #[] } ∧ K.lookup p.2 = none ∧ PySem.W.CodeHd s1.heap p.1 p.2)
    (hbm : ∃ (bm : Addr) (ob : Obj), mg "__builtins__" = some (.ref bm) ∧ bm ≠ builtinsNs ∧ s1.heap.get? bm = some ob ∧ ob.cls = .type "module" ∧ ob.dict = some builtinsNs ∧ ob.data = .plain)
    (ha : s1.heap.get? a = some { cls := .type "list", data := .seq vs.toArray }) (hi : IntsAre vs ns) (hl : ns.length ≤ sizeLine) (hln : ns.length ≤ n) (hbits : ∀ z ∈ ns, Builtin.Int.intBits z ≤ 1048576) (hr : Room k callerA)
    (F : ∀ base : Heap, K.In base → base.Ns mainGlobals mg → (∀ p ∈ cs, LamX.TabB base mg p.1 p.2) → FnLaw P w K mg base k fa fd x n (cs.map (·.2)) q) (hbind : ∀ (s : Shared) (u : Value), BindsTo s fd ⟨[u], []⟩ [(x, u)]) :
    codeAny (model P w) callerA (.call (.ref fa) ⟨[.ref a], []⟩) (fun r s' => r = .ok (.ret (.bool true)) ∧ OldK s1.heap s'.heap ∧ s'.os = s1.os ∧ AllBare s'.gens) s1 := by
  have rv := vals_ints hi
  have lv := hi.length
  have tabAt : ∀ b, b ∈ cs.map (·.2) → s1.heap.get? b = some { cls := .none, data := .fields #[] } ∧ K.lookup b = none ∧ ∃ c, PySem.W.CodeHd s1.heap c b := fun b hm => by
    obtain ⟨p, hp, rfl⟩ := List.mem_map.mp hm
    exact ⟨(tabs p hp).1, (tabs p hp).2.1, p.1, (tabs p hp).2.2⟩
  have aNT : a ∉ cs.map (·.2) := fun z => by
    have e := (tabAt a z).1
    rw [ha] at e
    cases congrArg Obj.data (Option.some.inj e)
  -- what is tracked
  obtain ⟨H, eH⟩ : ∃ H, H = lawH K (cs.map (·.2)) a { cls := .type "list", data := .seq vs.toArray } ns := ⟨_, rfl⟩
  have hT : ∀ b, b ∈ cs.map (·.2) → H b = some (.tbl #[]) := fun b hm => by rw [eH]; exact if_pos hm
  have hA : K.lookup a = none → H a = some (.frz { cls := .type "list", data := .seq vs.toArray } (.lst (ns.map V.int))) := fun e => by rw [eH]; exact (if_neg aNT).trans (if_pos ⟨rfl, e⟩)
  have hO : ∀ b u, H b = some u → (b ∈ cs.map (·.2) ∧ u = .tbl #[]) ∨ (b = a ∧ K.lookup a = none ∧ u = .frz { cls := .type "list", data := .seq vs.toArray } (.lst (ns.map V.int))) := fun b u e => by
    rw [eH] at e
    unfold lawH at e
    split at e
    · rename_i hm
      exact .inl ⟨hm, (Option.some.inj e).symm⟩
    · split at e
      · rename_i hm
        exact .inr ⟨hm.1, hm.2, (Option.some.inj e).symm⟩
      · cases e
  have free : ∀ {b : Addr} {o : Obj}, s1.heap.get? b = some o → o.cls ≠ .none → (∀ us m, o.data ≠ .seq us m) → H b = none := fun {b o} e hc hd => by
    cases q : H b with
    | none => rfl
    | some u =>
      rcases hO b u q with ⟨hm, _⟩ | ⟨rfl, _, _⟩
      · rw [(tabAt b hm).1] at e
        cases e
        exact absurd rfl hc
      · rw [ha] at e
        cases e
        exact absurd rfl (hd _ _)
  have freeK : ∀ {b : Addr} {o : Obj}, K.lookup b = some o → H b = none := fun {b o} e => by
    cases q : H b with
    | none => rfl
    | some u =>
      rcases hO b u q with ⟨hm, _⟩ | ⟨rfl, e2, _⟩
      · rw [(tabAt b hm).2.1] at e
        cases e
      · rw [e2] at e
        cases e
  have inB : ∀ {b : Addr} {o : Obj}, s1.heap.get? b = some o → H b = none → (hidT s1.heap H).get? b = some o := hidT_get
  have freeD : ∀ {b : Addr} {o : Obj} {es : Array DictEntry} {ep : Nat}, s1.heap.get? b = some o → o.data = .dict es ep → H b = none := fun {b o es ep} e hd => by
    cases q : H b with
    | none => rfl
    | some u =>
      rcases hO b u q with ⟨hm, _⟩ | ⟨rfl, _, _⟩
      · rw [(tabAt b hm).1] at e
        cases e
        cases hd
      · rw [ha] at e
        cases e
        cases hd
  have nsB : ∀ {b : Addr} {m : Str → Option Value}, s1.heap.Ns b m → (hidT s1.heap H).Ns b m := fun ⟨o, es, ep, e, d, r⟩ => ⟨o, es, ep, inB e (freeD e d), d, r⟩
  have KB : K.In (hidT s1.heap H) := fun b o e => inB (KX b o e) (freeK e)
  have hok : HOk P w H s1.heap := fun b u e => by
    rcases hO b u e with ⟨hm, rfl⟩ | ⟨rfl, _, rfl⟩
    · exact (tabAt b hm).1
    · exact ⟨ha, by rw [List.length_map]; exact hl, vs, _, rv, ha⟩
  have e0 : Env0 P w K mg (hidT s1.heap H) callerA [] s1 H := ⟨rfl, ⟨KB, nsB hns, ⟨mb, nsB hb, hbb⟩, let ⟨mc, z1, z2⟩ := hlim; ⟨mc, nsB z1, z2⟩⟩, fun b o e => of_hidT e, Nat.le_of_eq (hidT_size _ _), trivial, fun b hm => absurd (show b ∈ ([] : List Addr) from hm) (by simp), hok, .of_eq hgen⟩
  have TB : ∀ p ∈ cs, LamX.TabB (hidT s1.heap H) mg p.1 p.2 := fun p hp => by
    obtain ⟨t1, t2, t3⟩ := tabs p hp
    refine ⟨?_, ?_, fun z => ?_⟩
    · obtain ⟨o, us, file, tf, flags, tg, inF, text, tt, e1, r1, r2, r⟩ := t3
      refine ⟨o, us, file, tf, flags, tg, inF, text, tt, inB e1 (free e1 (by rw [r1]; simp) fun _ _ z => ?_), r1, r2, r⟩
      rw [r2] at z
      cases z
    · obtain ⟨bm, ob, b1, b2, b3, b4, b5, b6⟩ := hbm
      refine ⟨bm, ob, b1, b2, fun z => ?_, fun z => ?_, inB b3 (free b3 (by rw [b4]; simp) fun _ _ z => ?_), b4, b5, b6⟩
      · obtain ⟨o, es, ep, e, hd, _⟩ := hns
        rw [z, e] at b3
        cases b3
        rw [hd] at b6
        cases b6
      · rw [z, t1] at b3
        cases b3
        cases b6
      · rw [b6] at z
        cases z
    · obtain ⟨o, es, ep, e, hd, _⟩ := hns
      rw [z, t1] at e
      cases e
      cases hd
  obtain ⟨s, G, hs⟩ := F _ KB (nsB hns) TB
  have mrel : MRel K (tabM (cs.map (·.2)) q) H := fun b o e => by
    unfold tabM at e
    split at e
    · rename_i hm
      cases e
      exact ⟨_, hT b hm, trivial, fun pos cv z => by
        have z' : codeAmong pos [] = some cv := z
        simp [codeAmong] at z'⟩
    · cases e
  have scr : Rp K (tabM (cs.map (·.2)) q) H (.scr (ns.map .int)) (.ref a) := by
    refine .scr ?_ (ints_rp ns)
    cases e : K.lookup a with
    | none => exact .inl ⟨_, hA e⟩
    | some o =>
      have e0' := e
      have e2 := KX a o e
      rw [ha] at e2
      cases e2
      exact .inr ⟨_, vs.toArray, _, rfl, rfl, rfl, rfl, by rw [List.size_toArray, lv]; exact hl, by simpa using rv⟩
  refine codeAny_mono (G.run callerA [] s1 H ⟨[.ref a], []⟩ [.ref a] [.ref a] (fun v _ => v = .bl true) (fun _ _ _ => False) hr (fun _ => rfl) e0 (hbind s1 (.ref a)) (.cons rfl .nil)
    ⟨_, _, _, _, .cons scr .nil, mrel, hs ns hln hbits, fun d M' v H' rd _ _ e => by subst e; cases rd; rfl, fun _ _ _ _ _ z => z⟩) fun r s2 hq => ?_
  cases r with
  | error e =>
    have z : L2.CX P w [] H s1 (fun _ _ _ => False) e s2 := hq
    obtain ⟨_, _, _, _, _, _, _, _, _, _, _, _, z⟩ := z
    exact z.elim
  | ok fl => cases fl with
    | next => exact (show False from hq).elim
    | brk => exact (show False from hq).elim
    | cont => exact (show False from hq).elim
    | ret u =>
      obtain ⟨v, H2, os, bare, un, hok2, rv2, ev⟩ := hq
      have ev' : v = .bl true := ev
      subst ev'
      obtain rfl : u = Value.bool true := rv2
      have grown : ∀ b, b ∈ cs.map (·.2) → ∃ more, s2.heap.get? b = some { cls := .none, data := .fields more } := fun b hm => by
        obtain ⟨more, z⟩ := un.tbls b #[] (hT b hm)
        exact ⟨_, hok2 b _ z⟩
      have same : ∀ b o, b ∉ cs.map (·.2) → s1.heap.get? b = some o → s2.heap.get? b = some o := fun b o hm e => by
        cases q : H b with
        | none => exact un.keep b o e q (fun z => absurd (show b ∈ ([] : List Addr) from z) (by simp)) (by simp)
        | some u =>
          rcases hO b u q with ⟨z, _⟩ | ⟨rfl, _, rfl⟩
          · exact absurd z hm
          · obtain ⟨g2, _⟩ := hok2 b _ (un.frzs b _ _ q)
            rw [ha] at e
            cases e
            exact g2
      refine ⟨rfl, ⟨fun b o e => ?_, fun b o e => ?_⟩, os, bare⟩
      · by_cases hm : b ∈ cs.map (·.2)
        · obtain ⟨more, z⟩ := grown b hm
          obtain ⟨t1, _, c, t3⟩ := tabAt b hm
          rw [t1] at e
          cases e
          exact .inr (.inl ⟨(t3.tab t1).isCodeTable, rfl, #[], more, rfl, by rw [Array.empty_append]; exact z⟩)
        · exact .inl (same b o hm e)
      · by_cases hm : b ∈ cs.map (·.2)
        · obtain ⟨more, z⟩ := grown b hm
          exact ⟨_, z⟩
        · exact ⟨o, same b o hm e⟩
end
theorem walk_D {l : PySem.W.OpenLaw} {n k : Nat} {p : Program} {loose : List Str} {XP : (Str → Option Value) → Heap → Prop} {YP : World → Heap → Prop} {d : DefRec} {K : Params → PySem.W.Frag} {x q : Str}
    (hn : l.most = some n) (hn2 : n ≤ sizeLine) (hdf : d.params.defaults = []) (hr : Room k callerA) (hY : ∀ (w : World) (h : Heap), YP w h → (K w.params).In h)
    (F : ∀ (w : World) (mg : Str → Option Value) (fa : Addr) (h : Heap), YP w h → (K w.params).In h → h.Ns mainGlobals mg → mg d.name = some (.ref fa) →
      ∃ (fd : FuncData) (cs : List (Addr × Addr)), (∀ p ∈ cs, h.get? p.2 = some { cls := .none, data := .fields #[] } ∧ (K w.params).lookup p.2 = none ∧ PySem.W.CodeHd h p.1 p.2) ∧ (∀ (s : Shared) (u : Value), BindsTo s fd ⟨[u], []⟩ [(x, u)]) ∧
        ∀ base : Heap, (K w.params).In base → base.Ns mainGlobals mg → (∀ p ∈ cs, LamX.TabB base mg p.1 p.2) → FnLaw l.prog w (K w.params) mg base k fa fd x n (cs.map (·.2)) q) :
    PySem.W.WalkO p loose XP YP l.row.toRowW d [] (fun f vs => PySem.call f vs) :=
  Att.attach_callB hn hdf fun w s0 s1 mg mb fa o pm cd doc a vs ns G Y _ _ _ hmg hobj hints hlen hbits hg => by
    have KX := hY w _ Y
    obtain ⟨fd, cs, hT, hb, hF⟩ := F w mg fa _ Y KX G.T.g hmg
    exact law_end KX G.T.g G.T.b G.T.builtins G.T.nolimit hg hT G.T.bmain hobj hints (Nat.le_trans hlen hn2) hlen hbits hr hF hb
end DL

set_option Elab.async false
set_option linter.all false
set_option maxRecDepth 100000
set_option maxHeartbeats 1000000
namespace K07
def mn (a b : Rat) : Rat := if a < b then a else b
def mx (a b : Rat) : Rat := if a < b then b else a
def ab (a : Rat) : Rat := if a < 0 then -a else a
def bt (q : Rat) (n : Nat) : Prop := q.num.natAbs < 2 ^ n ∧ q.den < 2 ^ n
theorem bt.mono {q : Rat} {n m : Nat} (h : bt q n) (l : n ≤ m) : bt q m := ⟨Nat.lt_of_lt_of_le h.1 (Nat.pow_le_pow_right (by decide) l), Nat.lt_of_lt_of_le h.2 (Nat.pow_le_pow_right (by decide) l)⟩
theorem natAbs_ediv_le (a : Int) (g : Nat) : (a / (g : Int)).natAbs ≤ a.natAbs := Int.natAbs_ediv_le_natAbs a g
theorem sgn_natAbs (b a : Int) (h : b ≠ 0) : (b.sign * a).natAbs = a.natAbs := by
  rw [Int.natAbs_mul, Int.natAbs_sign]; simp [h]
theorem bt_divInt {a b : Int} {k : Nat} (hb : b ≠ 0) (h1 : a.natAbs < 2 ^ k) (h2 : b.natAbs < 2 ^ k) : bt (Rat.divInt a b) k := by
  refine ⟨?_, ?_⟩
  · rw [Rat.num_divInt]
    have := natAbs_ediv_le (b.sign * a) (b.gcd a)
    rw [sgn_natAbs b a hb] at this
    omega
  · rw [Rat.den_divInt, if_neg hb]
    have := Nat.div_le_self b.natAbs (b.gcd a)
    omega
theorem mul_lt_pow {a b n m : Nat} (h1 : a < 2 ^ n) (h2 : b < 2 ^ m) : a * b < 2 ^ (n + m) := by
  rw [Nat.pow_add]
  exact Nat.mul_lt_mul'' h1 h2
theorem bt.mul {a b : Rat} {n m : Nat} (h1 : bt a n) (h2 : bt b m) : bt (a * b) (n + m) := by
  have e : a * b = Rat.divInt (a.num * b.num) (a.den * b.den) := by
    rw [← Rat.divInt_mul_divInt, Rat.num_divInt_den, Rat.num_divInt_den]
  rw [e]
  refine bt_divInt (by have := a.den_pos; have := b.den_pos; exact Int.ne_of_gt (by exact_mod_cast Nat.mul_pos a.den_pos b.den_pos)) ?_ ?_
  · rw [Int.natAbs_mul]; exact mul_lt_pow h1.1 h2.1
  · rw [Int.natAbs_mul]; simpa using mul_lt_pow h1.2 h2.2
theorem bt.inv {a : Rat} {n : Nat} (h : bt a n) (h0 : a ≠ 0) : bt a⁻¹ n := by
  rw [Rat.inv_def]
  refine bt_divInt ?_ (by simpa using h.2) h.1
  intro z
  exact h0 (Rat.num_eq_zero.mp z)
theorem bt.div {a b : Rat} {n m : Nat} (h1 : bt a n) (h2 : bt b m) (h0 : b ≠ 0) : bt (a / b) (n + m) := by
  rw [Rat.div_def]; exact h1.mul (h2.inv h0)
theorem bt.add {a b : Rat} {n m : Nat} (h1 : bt a n) (h2 : bt b m) : bt (a + b) (n + m + 1) := by
  have e : a + b = Rat.divInt (a.num * b.den + b.num * a.den) (a.den * b.den) := by
    have z1 : (a.den : Int) ≠ 0 := by have := a.den_pos; omega
    have z2 : (b.den : Int) ≠ 0 := by have := b.den_pos; omega
    rw [← Rat.divInt_add_divInt a.num b.num z1 z2, Rat.num_divInt_den, Rat.num_divInt_den]
  rw [e]
  have m1 := mul_lt_pow h1.1 h2.2
  have m2 := mul_lt_pow h2.1 h1.2
  have m3 := mul_lt_pow h1.2 h2.2
  have m2' : b.num.natAbs * a.den < 2 ^ (n + m) := by rw [Nat.add_comm n m]; exact m2
  have pp : 2 ^ (n + m + 1) = 2 ^ (n + m) * 2 := Nat.pow_succ ..
  refine bt_divInt (Int.ne_of_gt (by exact_mod_cast Nat.mul_pos a.den_pos b.den_pos)) ?_ ?_
  · have t1 := Int.natAbs_add_le (a.num * b.den) (b.num * a.den)
    rw [Int.natAbs_mul, Int.natAbs_mul] at t1
    simp only [Int.natAbs_natCast] at t1
    omega
  · rw [Int.natAbs_mul]; simp only [Int.natAbs_natCast]; omega
theorem bt.neg {a : Rat} {n : Nat} (h : bt a n) : bt (-a) n := by
  refine ⟨?_, ?_⟩
  · rw [Rat.neg_num, Int.natAbs_neg]; exact h.1
  · rw [Rat.neg_den]; exact h.2
theorem bt.sub {a b : Rat} {n m : Nat} (h1 : bt a n) (h2 : bt b m) : bt (a - b) (n + m + 1) := by
  rw [Rat.sub_eq_add_neg]; exact h1.add h2.neg
theorem bt.mn {a b : Rat} {n : Nat} (h1 : bt a n) (h2 : bt b n) : bt (mn a b) n := by unfold K07.mn; split <;> assumption
theorem bt.mx {a b : Rat} {n : Nat} (h1 : bt a n) (h2 : bt b n) : bt (mx a b) n := by unfold K07.mx; split <;> assumption
theorem bt.ab {a : Rat} {n : Nat} (h1 : bt a n) : bt (ab a) n := by unfold K07.ab; split; exact h1.neg; exact h1
theorem bt.pow {a : Rat} {n : Nat} (h : bt a n) : ∀ k : Nat, bt (a ^ k) (n * k + 1)
  | 0 => by rw [Rat.pow_zero]; exact ⟨by simp, by simp⟩
  | k + 1 => by
    rw [Rat.pow_succ]
    exact ((h.pow k).mul h).mono (by rw [Nat.mul_succ]; omega)
theorem bt_int {i : Int} {n : Nat} (h : i.natAbs < 2 ^ n) (hn : 0 < n) : bt (i : Rat) n := by
  refine ⟨by rw [Rat.num_intCast]; exact h, ?_⟩
  rw [Rat.den_intCast]
  exact Nat.one_lt_two_pow (by omega)
/-- the fraction that both programs make -/
theorem frac_num {n d : Int} (hd : d ≠ 0) : n.fdiv (if 0 < d then (Int.gcd n d : Int) else -(Int.gcd n d : Int)) = (Rat.divInt n d).num := by
  rw [Rat.num_divInt]
  have g0 : (Int.gcd n d : Int) ≠ 0 := by
    intro z
    have := Int.gcd_eq_zero_iff.mp (by exact_mod_cast z)
    exact hd this.2
  obtain ⟨k, hk⟩ := Int.gcd_dvd_left (a := n) (b := d)
  rw [Int.gcd_comm d n]
  generalize hg : (Int.gcd n d : Int) = g at *
  have gp : 0 < g := by rw [← hg] at g0 ⊢; have := Int.natCast_nonneg (Int.gcd n d); omega
  by_cases h : 0 < d
  · rw [if_pos h, Int.sign_eq_one_of_pos h, Int.one_mul, hk, Int.mul_fdiv_cancel_left _ g0, Int.mul_ediv_cancel_left _ g0]
  · have : d < 0 := by omega
    rw [if_neg h, Int.sign_eq_neg_one_of_neg this, hk]
    have e1 : g * k = (-g) * (-k) := by rw [Int.neg_mul_neg]
    have e2 : -1 * (g * k) = g * (-k) := by rw [Int.mul_neg]; omega
    rw [e2, Int.mul_ediv_cancel_left _ g0, e1, Int.mul_fdiv_cancel_left _ (by omega)]
theorem frac_den {n d : Int} (hd : d ≠ 0) : d.fdiv (if 0 < d then (Int.gcd n d : Int) else -(Int.gcd n d : Int)) = ((Rat.divInt n d).den : Int) := by
  rw [Rat.den_divInt, if_neg hd]
  have g0 : (Int.gcd n d : Int) ≠ 0 := by
    intro z
    have := Int.gcd_eq_zero_iff.mp (by exact_mod_cast z)
    exact hd this.2
  obtain ⟨k, hk⟩ := Int.gcd_dvd_right (a := n) (b := d)
  rw [Int.gcd_comm d n]
  have gz : 0 < Int.gcd n d := by omega
  have e3 : ((d.natAbs / Int.gcd n d : Nat) : Int) = (k.natAbs : Int) := by
    have z : d.natAbs = Int.gcd n d * k.natAbs := by
      conv => lhs; rw [hk]
      rw [Int.natAbs_mul]; simp
    rw [z, Nat.mul_div_cancel_left _ gz]
  rw [e3]
  by_cases h : 0 < d
  · rw [if_pos h]
    conv => lhs; lhs; rw [hk]
    rw [Int.mul_fdiv_cancel_left _ g0]
    have kp : 0 ≤ k := by
      rcases Int.lt_or_le k 0 with z | z
      · have := Int.mul_neg_of_pos_of_neg (a := (Int.gcd n d : Int)) (by omega) z
        omega
      · exact z
    omega
  · rw [if_neg h]
    have e1 : d = (-(Int.gcd n d : Int)) * (-k) := by rw [Int.neg_mul_neg]; exact hk
    conv => lhs; lhs; rw [e1]
    rw [Int.mul_fdiv_cancel_left _ (by omega)]
    have kp : k ≤ 0 := by
      rcases Int.lt_or_le 0 k with z | z
      · have := Int.mul_pos (a := (Int.gcd n d : Int)) (by omega) z
        omega
      · exact z
    omega
theorem part_small {n d : Int} (hd : d ≠ 0) : Int.gcd n d ≠ 0 ∧ Int.gcd n d ≤ d.natAbs := by
  have z : Int.gcd n d ≠ 0 := fun z => hd (Int.gcd_eq_zero_iff.mp z).2
  exact ⟨z, Nat.le_of_dvd (by omega) (Nat.gcd_dvd_right n.natAbs d.natAbs)⟩
theorem gcd_step {a b : Int} (hb : b ≠ 0) : Int.gcd b (a.fmod b) = Int.gcd a b := by
  have e : a.fmod b = a - b * a.fdiv b := by have := Int.mul_fdiv_add_fmod a b; omega
  rw [e]
  have : a - b * a.fdiv b = a + b * (-(a.fdiv b)) := by rw [Int.mul_neg]; omega
  rw [this, Int.gcd_add_mul_left_right, Int.gcd_comm]

/-! ### roots -/
theorem ipow_le {a b : Int} (h0 : 0 ≤ a) (h : a ≤ b) : ∀ k : Nat, a ^ k ≤ b ^ k
  | 0 => by simp
  | k + 1 => by
    rw [Int.pow_succ, Int.pow_succ]
    exact Int.mul_le_mul (ipow_le h0 h k) h h0 (Int.pow_nonneg (by omega))
theorem ipow_lt {a b : Int} (h0 : 0 ≤ a) (h : a < b) (k : Nat) (hk : 1 ≤ k) : a ^ k < b ^ k := by
  cases k with
  | zero => omega
  | succ k =>
    rw [Int.pow_succ, Int.pow_succ]
    have z := ipow_le h0 (Int.le_of_lt h) k
    have p : 0 < b ^ k := Int.pow_pos (by omega)
    have q : 0 ≤ a ^ k := Int.pow_nonneg h0
    have m1 : a ^ k * a ≤ b ^ k * a := Int.mul_le_mul_of_nonneg_right z h0
    have m2 : b ^ k * a < b ^ k * b := Int.mul_lt_mul_of_pos_left h p
    omega
theorem self_le_pow {a : Int} (h0 : 0 ≤ a) (k : Nat) (hk : 1 ≤ k) : a ≤ a ^ k := by
  rcases Int.lt_or_le a 1 with h | h
  · have : a = 0 := by omega
    subst this
    exact Int.pow_nonneg (Int.le_refl 0)
  · have := ipow_le (a := 1) (b := a) (by omega) h (k - 1)
    rw [Int.one_pow] at this
    have e : a ^ k = a ^ (k - 1) * a := by rw [← Int.pow_succ]; congr; omega
    rw [e]
    have m := Int.mul_le_mul_of_nonneg_right this h0
    omega
def IsRt (k : Nat) (n r : Int) : Prop := 0 ≤ r ∧ r ^ k ≤ n ∧ n < (r + 1) ^ k
theorem isRt_uniq {k : Nat} {n r s : Int} (h : IsRt k n r) (g : IsRt k n s) : r = s := by
  obtain ⟨a1, a2, a3⟩ := h
  obtain ⟨b1, b2, b3⟩ := g
  rcases Int.lt_trichotomy r s with z | z | z
  · have := ipow_le (a := r + 1) (b := s) (by omega) (by omega) k
    omega
  · exact z
  · have := ipow_le (a := s + 1) (b := r) (by omega) (by omega) k
    omega
theorem isRt_ex {k : Nat} (hk : 1 ≤ k) {n : Int} (hn : 0 ≤ n) : ∃ r, IsRt k n r := by
  have key : ∀ m : Nat, ∃ r, IsRt k (m : Int) r := by
    intro m
    induction m with
    | zero => exact ⟨0, by omega, by rw [Int.zero_pow (by omega)]; omega, by rw [Int.zero_add, Int.one_pow]; omega⟩
    | succ m ih =>
      obtain ⟨r, h1, h2, h3⟩ := ih
      by_cases h : ((m + 1 : Nat) : Int) < (r + 1) ^ k
      · exact ⟨r, h1, by omega, h⟩
      · refine ⟨r + 1, by omega, by omega, ?_⟩
        have := ipow_lt (a := r + 1) (b := r + 1 + 1) (by omega) (by omega) k hk
        omega
  obtain ⟨m, rfl⟩ := Int.eq_ofNat_of_zero_le hn
  exact key m
open Classical in
noncomputable def rt (k : Nat) (n : Int) : Int := if h : ∃ r, IsRt k n r then h.choose else 0
theorem rt_is {k : Nat} (hk : 1 ≤ k) {n : Int} (hn : 0 ≤ n) : IsRt k n (rt k n) := by
  unfold rt
  rw [dif_pos (isRt_ex hk hn)]
  exact (isRt_ex hk hn).choose_spec
theorem rt_eq {k : Nat} (hk : 1 ≤ k) {n r : Int} (h : IsRt k n r) : rt k n = r := isRt_uniq (rt_is hk (Int.le_trans (Int.pow_nonneg h.1) h.2.1)) h
theorem rt_le {k : Nat} (hk : 1 ≤ k) {n : Int} (hn : 0 ≤ n) : rt k n ≤ n := Int.le_trans (self_le_pow (rt_is hk hn).1 k hk) (rt_is hk hn).2.1
open PySem PySem.Spec PyProof.Rows L2 DL
/-! ### data -/
structure Cls where
  box : Addr
  num : Addr
def fr (q : Rat) : D := .tup [.int q.num, .int (q.den : Int)]
def bx (l h : Rat) : D := .tup [fr l, fr h]
theorem fr_inj {a b : Rat} : fr a = fr b ↔ a = b := by
  refine ⟨fun h => ?_, fun h => by rw [h]⟩
  unfold fr at h
  injection h with h
  injection h with h1 h2
  injection h1 with h1
  injection h2 with h2 _
  injection h2 with h2
  exact Rat.ext h1 (by exact_mod_cast h2)
theorem bx_inj {a b c d : Rat} : bx a b = bx c d ↔ a = c ∧ b = d := by
  refine ⟨fun h => ?_, fun ⟨h, g⟩ => by rw [h, g]⟩
  unfold bx at h
  injection h with h
  injection h with h1 h2
  injection h2 with h2 _
  exact ⟨fr_inj.mp h1, fr_inj.mp h2⟩
abbrev SZ (a : Rat) : Prop := bt a 2000
def isI : D → Bool
  | .int _ => true
  | _ => false
def inR : D → Int → Int → Bool
  | .int i, a0, a1 => decide (a0 ≤ i) && decide (i ≤ a1)
  | _, _, _ => false
def szR : D → Int → Int → Bool
  | .tup ds, a0, a1 => decide (a0 ≤ (ds.length : Int)) && decide ((ds.length : Int) ≤ a1)
  | _, _, _ => false
def Ty (x : D) : Prop := (tyD x).isSome = true ∧ ∀ i, x = .int i → i.natAbs < 2 ^ 2000
def Ty2 (x : D) : Prop := Ty x ∧ ∀ ds, x = .tup ds → ∀ d ∈ ds, Ty d
def Ty3 (x : D) : Prop := Ty x ∧ ∀ ds, x = .tup ds → ∀ d ∈ ds, Ty2 d
def isFr : D → Bool
  | .tup [.int n, .int d] => decide (1 ≤ d) && decide (Int.gcd n d = 1)
  | _ => false
def ltD : D → D → Bool
  | .tup [.int a, .int b], .tup [.int c, .int d] => decide (a * d < c * b)
  | _, _ => false
def isBx : D → Bool
  | .tup [a, b] => isFr a && isFr b && !ltD b a
  | _ => false
def lo4 (a b c d : Rat) : Rat := mn (mn (mn a b) c) d
def hi4 (a b c d : Rat) : Rat := mx (mx (mx a b) c) d
def timesL (l h l' h' : Rat) : Rat := lo4 (l * l') (l * h') (h * l') (h * h')
def timesH (l h l' h' : Rat) : Rat := hi4 (l * l') (l * h') (h * l') (h * h')
def overL (l h l' h' : Rat) : Rat := lo4 (l / l') (l / h') (h / l') (h / h')
def overH (l h l' h' : Rat) : Rat := hi4 (l / l') (l / h') (h / l') (h / h')
def nought (l h : Rat) : Bool := decide (l ≤ 0) && decide (0 ≤ h)
def sizeL (l h : Rat) : Rat := if nought l h = true then 0 else mn (ab l) (ab h)
def sizeH (l h : Rat) : Rat := mx (ab l) (ab h)
def powL (l h : Rat) (k : Nat) : Rat := if k = 0 then 1 else if k % 2 = 0 ∧ nought l h = true then 0 else mn (l ^ k) (h ^ k)
def powH (l h : Rat) (k : Nat) : Rat := if k = 0 then 1 else mx (l ^ k) (h ^ k)
noncomputable def lowI (q : Rat) (k d : Nat) : Int := rt k ((q.num * (2 ^ d) ^ k).fdiv q.den)
noncomputable def upI (q : Rat) (k d : Nat) : Int := if (lowI q k d) ^ k * q.den < q.num * (2 ^ d) ^ k then lowI q k d + 1 else lowI q k d
noncomputable def lowR (q : Rat) (k d : Nat) : Rat := Rat.divInt (lowI (mx q 0) k d) (2 ^ d)
noncomputable def upR (q : Rat) (k d : Nat) : Rat := Rat.divInt (upI q k d) (2 ^ d)

/-! ### the draws' list -/
def HandOK (k : Nat) (hd : List D) : Prop := ∃ (cs : List Int) (a b c e : Int), hd = [.lst (cs.map .int), .int a, .int b, .int c, .int e] ∧ (∀ z ∈ cs, 0 ≤ z ∧ z < 10 ^ 36) ∧ cs.length ≤ 1000 ∧ 0 ≤ a ∧ a ≤ 1000 ∧ 0 ≤ b ∧ b < 10 ^ 36 ∧ 0 ≤ c ∧ c < 2 ^ 40 ∧ 0 ≤ e ∧ e + k ≤ 1000000
/-- the list of draws stands at p, k draws are left -/
def Hd (M : Mm) (p : Addr) (k : Nat) : Prop := ∃ hd, M p = some (.lst hd) ∧ HandOK k hd
theorem HandOK.mono {k j : Nat} {hd : List D} (h : HandOK k hd) (l : j ≤ k) : HandOK j hd := by
  obtain ⟨cs, a, b, c, e, h1, h2, h3, h4, h5, h6, h7, h8, h9, h10, h11⟩ := h
  exact ⟨cs, a, b, c, e, h1, h2, h3, h4, h5, h6, h7, h8, h9, h10, by omega⟩

/-! ### what the defs promise -/
def sp_is_int : SpD
  | [x], M, P, _ => Ty x ∧ P (.bl (isI x)) M
  | _, _, _, _ => False
def sp_is_within : SpD
  | [x, .int a0, .int a1], M, P, _ => Ty x ∧ P (.bl (inR x a0 a1)) M
  | _, _, _, _ => False
def sp_is_sized : SpD
  | [x, .int a0, .int a1], M, P, _ => Ty x ∧ P (.bl (szR x a0 a1)) M
  | _, _, _, _ => False
def sp_divisor : SpD
  | [.int i, .int j], M, P, _ => P (.int (Int.gcd i j : Nat)) M
  | _, _, _, _ => False
def sp_fraction : SpD
  | [.int n, .int d], M, P, _ => d ≠ 0 ∧ d.natAbs < 2 ^ 8000 ∧ P (fr (Rat.divInt n d)) M
  | _, _, _, _ => False
def sp_is_fraction : SpD
  | [x], M, P, _ => Ty2 x ∧ P (.bl (isFr x)) M
  | _, _, _, _ => False
def sp_check_within (cl : Cls) : SpD
  | [x, .int a0, .int a1], M, P, Y => Ty x ∧ (inR x a0 a1 = true → P .non M) ∧ (inR x a0 a1 = false → Y (.ref cl.num) M)
  | _, _, _, _ => False
def sp_two (f : Rat → Rat → Rat) : SpD
  | [x, y], M, P, _ => ∃ a b, x = fr a ∧ y = fr b ∧ SZ a ∧ SZ b ∧ P (fr (f a b)) M
  | _, _, _, _ => False
def sp_plus : SpD := sp_two fun a b => a + b
def sp_times : SpD := sp_two fun a b => a * b
def sp_over : SpD
  | [x, y], M, P, _ => ∃ a b, x = fr a ∧ y = fr b ∧ SZ a ∧ SZ b ∧ b ≠ 0 ∧ P (fr (a / b)) M
  | _, _, _, _ => False
def sp_turned : SpD
  | [x], M, P, _ => ∃ a, x = fr a ∧ P (fr (-a)) M
  | _, _, _, _ => False
def sp_sized : SpD
  | [x], M, P, _ => ∃ a, x = fr a ∧ P (fr (ab a)) M
  | _, _, _, _ => False
def sp_is_less : SpD
  | [.tup [.int a, .int b], .tup [.int c, .int d]], M, P, _ => a.natAbs < 2 ^ 20000 ∧ b.natAbs < 2 ^ 20000 ∧ c.natAbs < 2 ^ 20000 ∧ d.natAbs < 2 ^ 20000 ∧ P (.bl (decide (a * d < c * b))) M
  | _, _, _, _ => False
def sp_lesser : SpD := sp_two mn
def sp_greater : SpD := sp_two mx
def sp_power : SpD
  | [.int b, .int k], M, P, _ => 0 ≤ k ∧ k ≤ 16 ∧ b.natAbs < 2 ^ 20000 ∧ P (.int (b ^ k.toNat)) M
  | _, _, _, _ => False
def sp_raised : SpD
  | [x, .int k], M, P, _ => ∃ a, x = fr a ∧ 0 ≤ k ∧ k ≤ 16 ∧ SZ a ∧ P (fr (a ^ k.toNat)) M
  | _, _, _, _ => False
def sp_two_to : SpD
  | [.int k], M, P, _ => 0 ≤ k ∧ k ≤ 400 ∧ P (.int (2 ^ k.toNat)) M
  | _, _, _, _ => False
def sp_root_down : SpD
  | [.int n, .int k], M, P, _ => 0 ≤ n ∧ n < 2 ^ 10000 ∧ 1 ≤ k ∧ k ≤ 16 ∧ P (.int (rt k.toNat n)) M
  | _, _, _, _ => False
def sp_is_box : SpD
  | [x], M, P, _ => Ty3 x ∧ P (.bl (isBx x)) M
  | _, _, _, _ => False
def sp_check_box (cl : Cls) : SpD
  | [x], M, P, Y => Ty3 x ∧ (isBx x = true → P .non M) ∧ (isBx x = false → Y (.ref cl.box) M)
  | _, _, _, _ => False
def sp_check_two (cl : Cls) : SpD
  | [x, y], M, P, Y => Ty3 x ∧ Ty3 y ∧ ((isBx x && isBx y) = true → P .non M) ∧ ((isBx x && isBx y) = false → Y (.ref cl.box) M)
  | _, _, _, _ => False
def sp_bb (f g : Rat → Rat → Rat → Rat → Rat) : SpD
  | [x, y], M, P, _ => ∃ l h l' h', x = bx l h ∧ y = bx l' h' ∧ SZ l ∧ SZ h ∧ SZ l' ∧ SZ h' ∧ P (bx (f l h l' h') (g l h l' h')) M
  | _, _, _, _ => False
def sp_b (f g : Rat → Rat → Rat) : SpD
  | [x], M, P, _ => ∃ l h, x = bx l h ∧ SZ l ∧ SZ h ∧ P (bx (f l h) (g l h)) M
  | _, _, _, _ => False
def sp_raw_add : SpD := sp_bb (fun l h l' h' => l + l') (fun l h l' h' => h + h')
def sp_raw_turn : SpD := sp_b (fun l h => -h) (fun l h => -l)
def sp_ends_of : SpD
  | [.lst xs], M, P, _ => ∃ (r : Rat) (rs : List Rat), xs = fr r :: rs.map fr ∧ SZ r ∧ (∀ a ∈ rs, SZ a) ∧ xs.length ≤ 1000 ∧ P (bx (rs.foldl mn r) (rs.foldl mx r)) M
  | _, _, _, _ => False
def sp_raw_times : SpD
  | [x, y], M, P, _ => ∃ l h l' h', x = bx l h ∧ y = bx l' h' ∧ bt l 900 ∧ bt h 900 ∧ bt l' 900 ∧ bt h' 900 ∧ P (bx (timesL l h l' h') (timesH l h l' h')) M
  | _, _, _, _ => False
def sp_has_nought : SpD
  | [x], M, P, _ => ∃ l h, x = bx l h ∧ P (.bl (nought l h)) M
  | _, _, _, _ => False
def overD (l h l' h' : Rat) : D := if nought l' h' = true then .non else bx (overL l h l' h') (overH l h l' h')
def sp_raw_over : SpD
  | [x, y], M, P, _ => ∃ l h l' h', x = bx l h ∧ y = bx l' h' ∧ bt l 900 ∧ bt h 900 ∧ bt l' 900 ∧ bt h' 900 ∧ l' ≤ h' ∧ P (overD l h l' h') M
  | _, _, _, _ => False
def sp_raw_more : SpD := sp_bb (fun l h l' h' => mx l l') (fun l h l' h' => mx h h')
def sp_raw_less : SpD := sp_bb (fun l h l' h' => mn l l') (fun l h l' h' => mn h h')
def sp_raw_join : SpD := sp_bb (fun l h l' h' => mn l l') (fun l h l' h' => mx h h')
def sp_raw_size : SpD := sp_b sizeL sizeH
def sp_raw_power : SpD
  | [x, .int k], M, P, _ => ∃ l h, x = bx l h ∧ 0 ≤ k ∧ k ≤ 8 ∧ bt l 200 ∧ bt h 200 ∧ P (bx (powL l h k.toNat) (powH l h k.toNat)) M
  | _, _, _, _ => False
def sp_root_above : SpD
  | [x, .int k, .int d], M, P, _ => ∃ q, x = fr q ∧ 0 ≤ q ∧ bt q 200 ∧ 1 ≤ k ∧ k ≤ 8 ∧ 0 ≤ d ∧ d ≤ 400 ∧ P (fr (upR q k.toNat d.toNat)) M
  | _, _, _, _ => False
noncomputable def rootD (l h : Rat) (k d : Nat) : D := if h < 0 then .non else bx (lowR l k d) (upR h k d)
def sp_raw_root : SpD
  | [x, .int k, .int d], M, P, _ => ∃ l h, x = bx l h ∧ bt l 200 ∧ bt h 200 ∧ 1 ≤ k ∧ k ≤ 8 ∧ 0 ≤ d ∧ d ≤ 400 ∧ P (rootD l h k.toNat d.toNat) M
  | _, _, _, _ => False
/-- a def of two boxes that looks at them first -/
def sp_box2 (cl : Cls) (n : Nat) (f : Rat → Rat → Rat → Rat → D) : SpD
  | [x, y], M, P, Y => Ty3 x ∧ Ty3 y ∧ ((isBx x && isBx y) = false → Y (.ref cl.box) M) ∧ ((isBx x && isBx y) = true → ∃ l h l' h', x = bx l h ∧ y = bx l' h' ∧ bt l n ∧ bt h n ∧ bt l' n ∧ bt h' n ∧ l ≤ h ∧ l' ≤ h' ∧ P (f l h l' h') M)
  | _, _, _, _ => False
def sp_box1 (cl : Cls) (f : Rat → Rat → D) : SpD
  | [x], M, P, Y => Ty3 x ∧ (isBx x = false → Y (.ref cl.box) M) ∧ (isBx x = true → ∃ l h, x = bx l h ∧ SZ l ∧ SZ h ∧ l ≤ h ∧ P (f l h) M)
  | _, _, _, _ => False
def sp_box_add (cl : Cls) : SpD := sp_box2 cl 900 fun l h l' h' => bx (l + l') (h + h')
def sp_box_take (cl : Cls) : SpD := sp_box2 cl 900 fun l h l' h' => bx (l + -h') (h + -l')
def sp_box_times (cl : Cls) : SpD := sp_box2 cl 900 fun l h l' h' => bx (timesL l h l' h') (timesH l h l' h')
def sp_box_over (cl : Cls) : SpD := sp_box2 cl 900 overD
def sp_box_more (cl : Cls) : SpD := sp_box2 cl 900 fun l h l' h' => bx (mx l l') (mx h h')
def sp_box_less (cl : Cls) : SpD := sp_box2 cl 900 fun l h l' h' => bx (mn l l') (mn h h')
def sp_box_join (cl : Cls) : SpD := sp_box2 cl 900 fun l h l' h' => bx (mn l l') (mx h h')
def sp_box_turn (cl : Cls) : SpD := sp_box1 cl fun l h => bx (-h) (-l)
def sp_box_size (cl : Cls) : SpD := sp_box1 cl fun l h => bx (sizeL l h) (sizeH l h)
def sp_box_root (cl : Cls) : SpD
  | [x, k, d], M, P, Y => Ty3 x ∧ Ty k ∧ Ty d ∧ (isBx x = false → Y (.ref cl.box) M) ∧ (isBx x = true → (inR k 2 5 && inR d 0 400) = false → Y (.ref cl.num) M) ∧
      (isBx x = true → (inR k 2 5 && inR d 0 400) = true → ∃ l h i j, x = bx l h ∧ k = .int i ∧ d = .int j ∧ bt l 200 ∧ bt h 200 ∧ P (rootD l h i.toNat j.toNat) M)
  | _, _, _, _ => False
def sp_box_power (cl : Cls) : SpD
  | [x, .int k], M, P, _ => ∃ l h, x = bx l h ∧ l ≤ h ∧ bt l 200 ∧ bt h 200 ∧ 0 ≤ k ∧ k ≤ 8 ∧ P (bx (powL l h k.toNat) (powH l h k.toNat)) M
  | _, _, _, _ => False
/-! the law's own -/
def sp__law_hand : SpD
  | [.scr ds], M, P, _ => ∃ ns : List Int, ds = ns.map .int ∧ ns.length ≤ 100000 ∧ ∀ p hd, M p = none → HandOK 500000 hd → P (.ref p) (mup M p (.lst hd))
  | _, _, _, _ => False
def sp__law_draw : SpD
  | [.ref p, .int size], M, P, _ => 0 < size ∧ size ≤ 1000 ∧ ∃ k, Hd M p (k + 1) ∧ ∀ d hd, 0 ≤ d → d < size → HandOK k hd → P (.int d) (mup M p (.lst hd))
  | _, _, _, _ => False
def sp__law_some : SpD
  | [.ref p, .lst xs], M, P, _ => 0 < xs.length ∧ xs.length ≤ 1000 ∧ ∃ k, Hd M p (k + 1) ∧ ∀ x ∈ xs, ∀ hd, HandOK k hd → P x (mup M p (.lst hd))
  | _, _, _, _ => False
def sp__law_frac : SpD := sp_fraction
def sp__law_plus : SpD := sp_two fun a b => a + b
def sp__law_less : SpD := sp_two fun a b => a - b
/-- of pairs that may not be reduced -/
def sp__law_times : SpD
  | [.tup [.int a, .int b], .tup [.int c, .int d]], M, P, _ => b ≠ 0 ∧ d ≠ 0 ∧ a.natAbs < 2 ^ 2000 ∧ b.natAbs < 2 ^ 2000 ∧ c.natAbs < 2 ^ 2000 ∧ d.natAbs < 2 ^ 2000 ∧ P (fr (Rat.divInt a b * Rat.divInt c d)) M
  | _, _, _, _ => False
def sp__law_by : SpD := sp_over
def sp__law_is_under : SpD
  | [x, y], M, P, _ => ∃ a b, x = fr a ∧ y = fr b ∧ SZ a ∧ SZ b ∧ P (.bl (decide (a < b))) M
  | _, _, _, _ => False
def sp_row (f : Rat → Rat → Rat) : SpD
  | [.lst xs], M, P, _ => ∃ (r : Rat) (rs : List Rat), xs = fr r :: rs.map fr ∧ SZ r ∧ (∀ a ∈ rs, SZ a) ∧ P (fr (rs.foldl f r)) M
  | _, _, _, _ => False
def sp__law_least : SpD := sp_row mn
def sp__law_most : SpD := sp_row mx
def sp__law_two : SpD := sp_two_to
def sp__law_power : SpD
  | [x, .int k], M, P, _ => ∃ a, x = fr a ∧ 0 ≤ k ∧ k ≤ 8 ∧ bt a 200 ∧ P (fr (a ^ k.toNat)) M
  | _, _, _, _ => False
def sp__law_number : SpD
  | [.ref p, .int g], M, P, _ => 0 < g ∧ g ≤ 15 ∧ ∃ k, Hd M p (k + 2) ∧ ∀ a hd, bt a 5 → HandOK k hd → P (fr a) (mup M p (.lst hd))
  | _, _, _, _ => False
def sp__law_box_times : SpD := sp_raw_times
def sp__law_box_over : SpD := sp_raw_over
def sp__law_box_plus : SpD := sp_raw_add
def sp__law_box_turn : SpD := sp_raw_turn
def sp__law_box_size : SpD
  | [x], M, P, _ => ∃ l h, x = bx l h ∧ SZ l ∧ SZ h ∧ l ≤ h ∧ P (bx (sizeL l h) (sizeH l h)) M
  | _, _, _, _ => False
def sp__law_box_power : SpD
  | [x, .int k], M, P, _ => ∃ l h, x = bx l h ∧ l ≤ h ∧ 0 ≤ k ∧ k ≤ 8 ∧ bt l 200 ∧ bt h 200 ∧ P (bx (powL l h k.toNat) (powH l h k.toNat)) M
  | _, _, _, _ => False
def sp__law_root_of : SpD
  | [.int n, .int k], M, P, _ => 0 ≤ n ∧ n < 2 ^ 198 ∧ 1 ≤ k ∧ k ≤ 8 ∧ P (.int (rt k.toNat n)) M
  | _, _, _, _ => False
def sp__law_box_root : SpD
  | [x, .int k, .int d], M, P, _ => ∃ l h, x = bx l h ∧ bt l 40 ∧ bt h 40 ∧ 1 ≤ k ∧ k ≤ 5 ∧ 0 ≤ d ∧ d ≤ 20 ∧ P (rootD l h k.toNat d.toNat) M
  | _, _, _, _ => False
def sp__law_drawn : SpD
  | [.ref p], M, P, _ => ∃ k, Hd M p (k + 5) ∧ ∀ l h hd, bt l 5 → bt h 5 → l ≤ h → HandOK k hd → P (bx l h) (mup M p (.lst hd))
  | _, _, _, _ => False
def sp__law_within : SpD
  | [.ref p, x], M, P, _ => ∃ l h, x = bx l h ∧ bt l 5 ∧ bt h 5 ∧ l ≤ h ∧ ∃ k, Hd M p (k + 1) ∧ ∀ a hd, bt a 40 → l ≤ a → a ≤ h → HandOK k hd → P (fr a) (mup M p (.lst hd))
  | _, _, _, _ => False
def sp__law_lies : SpD
  | [x, y], M, P, _ => ∃ a l h, x = fr a ∧ y = bx l h ∧ SZ a ∧ SZ l ∧ SZ h ∧ P (.bl (decide (l ≤ a) && decide (a ≤ h))) M
  | _, _, _, _ => False
def sp__law_are_two_right : SpD
  | [.ref p, x, y], M, P, _ => ∃ l h l' h', x = bx l h ∧ y = bx l' h' ∧ bt l 5 ∧ bt h 5 ∧ bt l' 5 ∧ bt h' 5 ∧ l ≤ h ∧ l' ≤ h' ∧ ∃ k, Hd M p (k + 2) ∧ ∀ hd, HandOK k hd → P (.bl true) (mup M p (.lst hd))
  | _, _, _, _ => False
def sp__law_is_one_right : SpD
  | [.ref p, x], M, P, _ => ∃ l h, x = bx l h ∧ bt l 5 ∧ bt h 5 ∧ l ≤ h ∧ ∃ k, Hd M p (k + 4) ∧ ∀ hd, HandOK k hd → P (.bl true) (mup M p (.lst hd))
  | _, _, _, _ => False
def sp__law_are_wider_right : SpD
  | [x, y], M, P, _ => ∃ l h l' h', x = bx l h ∧ y = bx l' h' ∧ bt l 5 ∧ bt h 5 ∧ bt l' 5 ∧ bt h' 5 ∧ l ≤ h ∧ l' ≤ h' ∧ P (.bl true) M
  | _, _, _, _ => False
def top (i : Nat) : Stmt := PySem.Challenge.pw_digitsasked_k07_whole_boxes_by_rules.main.body.getD i (.Pass ⟨0, 0, 0, 0⟩)
/-! lists that are settled at once, lists that will change -/
def dLstS (t : TAD) : TED := fun τ M P Y => t τ M (fun xs M1 => xs.length ≤ sizeLine ∧ P (.lst xs) M1) Y
def dLstC (t : TAD) : TED := fun τ M P Y => t τ M (fun xs M1 => xs.length ≤ sizeLine ∧ ∀ p, M1 p = none → P (.ref p) (mup M1 p (.lst xs))) Y
section
variable {X : Cx} {W : WX} {es : List Expr} {pos : Pos} {tr : TAD}
theorem de_lstS (h : DA X W es tr) : DE X W (.List es pos) (dLstS tr) := ⟨⟨fun pins s σ H Q I hh => by
  obtain ⟨τ, M, P, Y, hs, hm, q, hp, hy⟩ := hh
  refine (pe_lst h.of).run pins s σ H Q I ⟨τ, M, _, Y, hs, hm, q, fun x M1 v H1 rx m1 k1 ⟨q0, q1⟩ => ⟨by rw [← rx.length]; exact q0, fun p hpn => ?_⟩, hy⟩
  have k2 : Keep M1 H1 M1 (upd H1 p (.lst v)) := Keep.new hpn
  exact hp _ M1 _ _ (.lst upd_same (m1.noneOfFree hpn) (rx.keep m1 k2)) (m1.new hpn) (k1.trans k2) q1⟩⟩
theorem de_lstC (h : DA X W es tr) : DE X W (.List es pos) (dLstC tr) := ⟨⟨fun pins s σ H Q I hh => by
  obtain ⟨τ, M, P, Y, hs, hm, q, hp, hy⟩ := hh
  refine (pe_lst h.of).run pins s σ H Q I ⟨τ, M, _, Y, hs, hm, q, fun x M1 v H1 rx m1 k1 ⟨q0, q1⟩ => ⟨by rw [← rx.length]; exact q0, fun p hpn => ?_⟩, hy⟩
  have k2 : Keep M1 H1 (mup M1 p (.lst x)) (upd H1 p (.lst v)) := Keep.newM hpn
  exact hp _ _ _ _ (.ref p) (m1.newM hpn (moh_lst rx)) (k1.trans k2) (q1 p (m1.noneOfFree hpn))⟩⟩
end
abbrev s_is_int : Stmt := top 7
theorem sc_is_int : FnScope ["thing"] ["thing"] (defScope s_is_int) := ⟨rfl, rfl, rfl, by decide +kernel, rfl, by decide +kernel, by decide +kernel⟩
def t_is_int : TSD :=
    (dRet (dAndV (dFn dIsi (dCons (dVar 0) (dCons (dC (.ty "int")) dNil))) (dNotV (dFn dIsi (dCons (dVar 0) (dCons (dC (.ty "bool")) dNil))))))
abbrev s_is_within : Stmt := top 8
theorem sc_is_within : FnScope ["thing", "least", "greatest"] ["thing", "least", "greatest"] (defScope s_is_within) := ⟨rfl, rfl, rfl, by decide +kernel, rfl, by decide +kernel, by decide +kernel⟩
def t_is_within : TSD :=
    (dRet (dAndV (dCall sp_is_int (dCons (dVar 0) dNil)) (dChain dLe dLe (dVar 1) (dVar 0) (dVar 2))))
abbrev s_is_sized : Stmt := top 9
theorem sc_is_sized : FnScope ["thing", "least", "greatest"] ["thing", "least", "greatest"] (defScope s_is_sized) := ⟨rfl, rfl, rfl, by decide +kernel, rfl, by decide +kernel, by decide +kernel⟩
def t_is_sized : TSD :=
    (dRet (dAndV (dFn dIsi (dCons (dVar 0) (dCons (dC (.ty "tuple")) dNil))) (dChain dLe dLe (dVar 1) (dFn dLen (dCons (dVar 0) dNil)) (dVar 2))))
abbrev s_divisor : Stmt := top 10
theorem sc_divisor : FnScope ["one", "other"] ["one", "other"] (defScope s_divisor) := ⟨rfl, rfl, rfl, by decide +kernel, rfl, by decide +kernel, by decide +kernel⟩
def t_divisor : TSD :=
    (dSeq (dWhile (dTest (dOp dNe (dVar 1) (dC (.int 0)))) (dPar 0 1 (dCons (dVar 1) (dCons (dOp dMod (dVar 0) (dVar 1)) dNil))))
    (dRet (dFn dAbs (dCons (dVar 0) dNil))))
abbrev s_fraction : Stmt := top 11
theorem sc_fraction : FnScope ["top", "bottom", "part"] ["top", "bottom"] (defScope s_fraction) := ⟨rfl, rfl, rfl, by decide +kernel, rfl, by decide +kernel, by decide +kernel⟩
def t_fraction : TSD :=
    (dSeq (dAsg (dIf (dTest (dOp dGt (dVar 1) (dC (.int 0)))) (dCall sp_divisor (dCons (dVar 0) (dCons (dVar 1) dNil))) (dUn dNeg (dCall sp_divisor (dCons (dVar 0) (dCons (dVar 1) dNil))))) (hName 2))
    (dRet (dTup (dCons (dOp dFdiv (dVar 0) (dVar 2)) (dCons (dOp dFdiv (dVar 1) (dVar 2)) dNil)))))
abbrev s_is_fraction : Stmt := top 12
theorem sc_is_fraction : FnScope ["thing", "one"] ["thing"] (defScope s_is_fraction) := ⟨rfl, rfl, rfl, by decide +kernel, rfl, by decide +kernel, by decide +kernel⟩
def t_is_fraction : TSD :=
    (dSeq (dIfS (dOr (dNot (dTest (dCall sp_is_sized (dCons (dVar 0) (dCons (dC (.int 2)) (dCons (dC (.int 2)) dNil)))))) (dOr (dNot (dTest (dFn dAll (dCons (dLc (dItT (dVar 0)) (hName 1) dYes (dCall sp_is_int (dCons (dVar 1) dNil)) [1]) dNil)))) (dTest (dOp dLt (dOp dIx (dVar 0) (dC (.int 1))) (dC (.int 1)))))) (dRet (dC (.bl false))) dNext)
    (dRet (dOp dEq (dCall sp_divisor (dCons (dOp dIx (dVar 0) (dC (.int 0))) (dCons (dOp dIx (dVar 0) (dC (.int 1))) dNil))) (dC (.int 1)))))
abbrev s_check_within : Stmt := top 13
theorem sc_check_within : FnScope ["thing", "least", "greatest"] ["thing", "least", "greatest"] (defScope s_check_within) := ⟨rfl, rfl, rfl, by decide +kernel, rfl, by decide +kernel, by decide +kernel⟩
def t_check_within (cl : Cls) : TSD :=
    (dIfS (dNot (dTest (dCall sp_is_within (dCons (dVar 0) (dCons (dVar 1) (dCons (dVar 2) dNil)))))) (dRaise (.ref cl.num)) dNext)
abbrev s_plus : Stmt := top 14
theorem sc_plus : FnScope ["one", "other"] ["one", "other"] (defScope s_plus) := ⟨rfl, rfl, rfl, by decide +kernel, rfl, by decide +kernel, by decide +kernel⟩
def t_plus : TSD :=
    (dRet (dCall sp_fraction (dCons (dOp dAdd (dOp dMul (dOp dIx (dVar 0) (dC (.int 0))) (dOp dIx (dVar 1) (dC (.int 1)))) (dOp dMul (dOp dIx (dVar 1) (dC (.int 0))) (dOp dIx (dVar 0) (dC (.int 1))))) (dCons (dOp dMul (dOp dIx (dVar 0) (dC (.int 1))) (dOp dIx (dVar 1) (dC (.int 1)))) dNil))))
abbrev s_times : Stmt := top 15
theorem sc_times : FnScope ["one", "other"] ["one", "other"] (defScope s_times) := ⟨rfl, rfl, rfl, by decide +kernel, rfl, by decide +kernel, by decide +kernel⟩
def t_times : TSD :=
    (dRet (dCall sp_fraction (dCons (dOp dMul (dOp dIx (dVar 0) (dC (.int 0))) (dOp dIx (dVar 1) (dC (.int 0)))) (dCons (dOp dMul (dOp dIx (dVar 0) (dC (.int 1))) (dOp dIx (dVar 1) (dC (.int 1)))) dNil))))
abbrev s_over : Stmt := top 16
theorem sc_over : FnScope ["one", "other"] ["one", "other"] (defScope s_over) := ⟨rfl, rfl, rfl, by decide +kernel, rfl, by decide +kernel, by decide +kernel⟩
def t_over : TSD :=
    (dRet (dCall sp_fraction (dCons (dOp dMul (dOp dIx (dVar 0) (dC (.int 0))) (dOp dIx (dVar 1) (dC (.int 1)))) (dCons (dOp dMul (dOp dIx (dVar 0) (dC (.int 1))) (dOp dIx (dVar 1) (dC (.int 0)))) dNil))))
abbrev s_turned : Stmt := top 17
theorem sc_turned : FnScope ["one"] ["one"] (defScope s_turned) := ⟨rfl, rfl, rfl, by decide +kernel, rfl, by decide +kernel, by decide +kernel⟩
def t_turned : TSD :=
    (dRet (dTup (dCons (dOp dSub (dC (.int 0)) (dOp dIx (dVar 0) (dC (.int 0)))) (dCons (dOp dIx (dVar 0) (dC (.int 1))) dNil))))
abbrev s_sized : Stmt := top 18
theorem sc_sized : FnScope ["one"] ["one"] (defScope s_sized) := ⟨rfl, rfl, rfl, by decide +kernel, rfl, by decide +kernel, by decide +kernel⟩
def t_sized : TSD :=
    (dRet (dTup (dCons (dFn dAbs (dCons (dOp dIx (dVar 0) (dC (.int 0))) dNil)) (dCons (dOp dIx (dVar 0) (dC (.int 1))) dNil))))
abbrev s_is_less : Stmt := top 19
theorem sc_is_less : FnScope ["one", "other"] ["one", "other"] (defScope s_is_less) := ⟨rfl, rfl, rfl, by decide +kernel, rfl, by decide +kernel, by decide +kernel⟩
def t_is_less : TSD :=
    (dRet (dOp dLt (dOp dMul (dOp dIx (dVar 0) (dC (.int 0))) (dOp dIx (dVar 1) (dC (.int 1)))) (dOp dMul (dOp dIx (dVar 1) (dC (.int 0))) (dOp dIx (dVar 0) (dC (.int 1))))))
abbrev s_lesser : Stmt := top 20
theorem sc_lesser : FnScope ["one", "other"] ["one", "other"] (defScope s_lesser) := ⟨rfl, rfl, rfl, by decide +kernel, rfl, by decide +kernel, by decide +kernel⟩
def t_lesser : TSD :=
    (dRet (dIf (dTest (dCall sp_is_less (dCons (dVar 0) (dCons (dVar 1) dNil)))) (dVar 0) (dVar 1)))
abbrev s_greater : Stmt := top 21
theorem sc_greater : FnScope ["one", "other"] ["one", "other"] (defScope s_greater) := ⟨rfl, rfl, rfl, by decide +kernel, rfl, by decide +kernel, by decide +kernel⟩
def t_greater : TSD :=
    (dRet (dIf (dTest (dCall sp_is_less (dCons (dVar 0) (dCons (dVar 1) dNil)))) (dVar 1) (dVar 0)))
abbrev s_power : Stmt := top 22
theorem sc_power : FnScope ["number", "many", "found"] ["number", "many"] (defScope s_power) := ⟨rfl, rfl, rfl, by decide +kernel, rfl, by decide +kernel, by decide +kernel⟩
def t_power : TSD :=
    (dSeq (dAsg (dC (.int 1)) (hName 2))
    (dSeq (dWhile (dTest (dOp dGt (dVar 1) (dC (.int 0)))) (dSeq (dIfS (dTest (dOp dEq (dOp dMod (dVar 1) (dC (.int 2))) (dC (.int 1)))) (dAsg (dOp dMul (dVar 2) (dVar 0)) (hName 2)) dNext)
    (dPar 0 1 (dCons (dOp dMul (dVar 0) (dVar 0)) (dCons (dOp dFdiv (dVar 1) (dC (.int 2))) dNil)))))
    (dRet (dVar 2))))
abbrev s_raised : Stmt := top 23
theorem sc_raised : FnScope ["one", "many"] ["one", "many"] (defScope s_raised) := ⟨rfl, rfl, rfl, by decide +kernel, rfl, by decide +kernel, by decide +kernel⟩
def t_raised : TSD :=
    (dRet (dTup (dCons (dCall sp_power (dCons (dOp dIx (dVar 0) (dC (.int 0))) (dCons (dVar 1) dNil))) (dCons (dCall sp_power (dCons (dOp dIx (dVar 0) (dC (.int 1))) (dCons (dVar 1) dNil))) dNil))))
abbrev s_two_to : Stmt := top 24
theorem sc_two_to : FnScope ["many"] ["many"] (defScope s_two_to) := ⟨rfl, rfl, rfl, by decide +kernel, rfl, by decide +kernel, by decide +kernel⟩
def t_two_to : TSD :=
    (dRet (dOp dShl (dC (.int 1)) (dVar 0)))
abbrev s_root_down : Stmt := top 25
theorem sc_root_down : FnScope ["number", "k", "low", "high", "middle"] ["number", "k"] (defScope s_root_down) := ⟨rfl, rfl, rfl, by decide +kernel, rfl, by decide +kernel, by decide +kernel⟩
def t_root_down : TSD :=
    (dSeq (dAsg (dTup (dCons (dC (.int 0)) (dCons (dC (.int 1)) dNil))) (hTup 2 (hCons (hName 2) (hCons (hName 3) hNil))))
    (dSeq (dWhile (dTest (dOp dLe (dCall sp_power (dCons (dVar 3) (dCons (dVar 1) dNil))) (dVar 0))) (dAsg (dOp dMul (dC (.int 2)) (dVar 3)) (hName 3)))
    (dSeq (dWhile (dTest (dOp dGt (dOp dSub (dVar 3) (dVar 2)) (dC (.int 1)))) (dSeq (dAsg (dOp dFdiv (dOp dAdd (dVar 2) (dVar 3)) (dC (.int 2))) (hName 4))
    (dIfS (dTest (dOp dLe (dCall sp_power (dCons (dVar 4) (dCons (dVar 1) dNil))) (dVar 0))) (dAsg (dVar 4) (hName 2)) (dAsg (dVar 4) (hName 3)))))
    (dRet (dVar 2)))))
abbrev s_is_box : Stmt := top 31
theorem sc_is_box : FnScope ["thing"] ["thing"] (defScope s_is_box) := ⟨rfl, rfl, rfl, by decide +kernel, rfl, by decide +kernel, by decide +kernel⟩
def t_is_box : TSD :=
    (dSeq (dIfS (dOr (dNot (dTest (dCall sp_is_sized (dCons (dVar 0) (dCons (dC (.int 2)) (dCons (dC (.int 2)) dNil)))))) (dOr (dNot (dTest (dCall sp_is_fraction (dCons (dOp dIx (dVar 0) (dC (.int 0))) dNil)))) (dNot (dTest (dCall sp_is_fraction (dCons (dOp dIx (dVar 0) (dC (.int 1))) dNil)))))) (dRet (dC (.bl false))) dNext)
    (dRet (dNotV (dCall sp_is_less (dCons (dOp dIx (dVar 0) (dC (.int 1))) (dCons (dOp dIx (dVar 0) (dC (.int 0))) dNil))))))
abbrev s_check_box : Stmt := top 32
theorem sc_check_box : FnScope ["box"] ["box"] (defScope s_check_box) := ⟨rfl, rfl, rfl, by decide +kernel, rfl, by decide +kernel, by decide +kernel⟩
def t_check_box (cl : Cls) : TSD :=
    (dIfS (dNot (dTest (dCall sp_is_box (dCons (dVar 0) dNil)))) (dRaise (.ref cl.box)) dNext)
abbrev s_check_two : Stmt := top 33
theorem sc_check_two : FnScope ["one", "other"] ["one", "other"] (defScope s_check_two) := ⟨rfl, rfl, rfl, by decide +kernel, rfl, by decide +kernel, by decide +kernel⟩
def t_check_two (cl : Cls) : TSD :=
    (dSeq (dDrop (dCall (sp_check_box cl) (dCons (dVar 0) dNil)))
    (dDrop (dCall (sp_check_box cl) (dCons (dVar 1) dNil))))
abbrev s_raw_add : Stmt := top 34
theorem sc_raw_add : FnScope ["one", "other"] ["one", "other"] (defScope s_raw_add) := ⟨rfl, rfl, rfl, by decide +kernel, rfl, by decide +kernel, by decide +kernel⟩
def t_raw_add : TSD :=
    (dRet (dTup (dCons (dCall sp_plus (dCons (dOp dIx (dVar 0) (dC (.int 0))) (dCons (dOp dIx (dVar 1) (dC (.int 0))) dNil))) (dCons (dCall sp_plus (dCons (dOp dIx (dVar 0) (dC (.int 1))) (dCons (dOp dIx (dVar 1) (dC (.int 1))) dNil))) dNil))))
abbrev s_raw_turn : Stmt := top 35
theorem sc_raw_turn : FnScope ["box"] ["box"] (defScope s_raw_turn) := ⟨rfl, rfl, rfl, by decide +kernel, rfl, by decide +kernel, by decide +kernel⟩
def t_raw_turn : TSD :=
    (dRet (dTup (dCons (dCall sp_turned (dCons (dOp dIx (dVar 0) (dC (.int 1))) dNil)) (dCons (dCall sp_turned (dCons (dOp dIx (dVar 0) (dC (.int 0))) dNil)) dNil))))
abbrev s_ends_of : Stmt := top 36
theorem sc_ends_of : FnScope ["rows", "low", "high", "one"] ["rows"] (defScope s_ends_of) := ⟨rfl, rfl, rfl, by decide +kernel, rfl, by decide +kernel, by decide +kernel⟩
def t_ends_of : TSD :=
    (dSeq (dPar 1 2 (dCons (dOp dIx (dVar 0) (dC (.int 0))) (dCons (dOp dIx (dVar 0) (dC (.int 0))) dNil)))
    (dSeq (dFor (dItL (dSl dSlL (dVar 0) (dPart (dC (.int 1))) dNoPart)) (hName 3) (dPar 1 2 (dCons (dCall sp_lesser (dCons (dVar 1) (dCons (dVar 3) dNil))) (dCons (dCall sp_greater (dCons (dVar 2) (dCons (dVar 3) dNil))) dNil))))
    (dRet (dTup (dCons (dVar 1) (dCons (dVar 2) dNil))))))
abbrev s_raw_times : Stmt := top 37
theorem sc_raw_times : FnScope ["one", "other", "a", "b"] ["one", "other"] (defScope s_raw_times) := ⟨rfl, rfl, rfl, by decide +kernel, rfl, by decide +kernel, by decide +kernel⟩
def t_raw_times : TSD :=
    (dRet (dCall sp_ends_of (dCons (dLc2 (dItT (dVar 0)) (hName 2) dYes (dItT (dVar 1)) (hName 3) dYes (dCall sp_times (dCons (dVar 2) (dCons (dVar 3) dNil))) [2, 3] [3]) dNil)))
abbrev s_has_nought : Stmt := top 38
theorem sc_has_nought : FnScope ["box"] ["box"] (defScope s_has_nought) := ⟨rfl, rfl, rfl, by decide +kernel, rfl, by decide +kernel, by decide +kernel⟩
def t_has_nought : TSD :=
    (dRet (dChain dLe dLe (dOp dIx (dOp dIx (dVar 0) (dC (.int 0))) (dC (.int 0))) (dC (.int 0)) (dOp dIx (dOp dIx (dVar 0) (dC (.int 1))) (dC (.int 0)))))
abbrev s_raw_over : Stmt := top 39
theorem sc_raw_over : FnScope ["one", "other", "a", "b"] ["one", "other"] (defScope s_raw_over) := ⟨rfl, rfl, rfl, by decide +kernel, rfl, by decide +kernel, by decide +kernel⟩
def t_raw_over : TSD :=
    (dSeq (dIfS (dTest (dCall sp_has_nought (dCons (dVar 1) dNil))) (dRet (dC .non)) dNext)
    (dRet (dCall sp_ends_of (dCons (dLc2 (dItT (dVar 0)) (hName 2) dYes (dItT (dVar 1)) (hName 3) dYes (dCall sp_over (dCons (dVar 2) (dCons (dVar 3) dNil))) [2, 3] [3]) dNil))))
abbrev s_raw_more : Stmt := top 40
theorem sc_raw_more : FnScope ["one", "other"] ["one", "other"] (defScope s_raw_more) := ⟨rfl, rfl, rfl, by decide +kernel, rfl, by decide +kernel, by decide +kernel⟩
def t_raw_more : TSD :=
    (dRet (dTup (dCons (dCall sp_greater (dCons (dOp dIx (dVar 0) (dC (.int 0))) (dCons (dOp dIx (dVar 1) (dC (.int 0))) dNil))) (dCons (dCall sp_greater (dCons (dOp dIx (dVar 0) (dC (.int 1))) (dCons (dOp dIx (dVar 1) (dC (.int 1))) dNil))) dNil))))
abbrev s_raw_less : Stmt := top 41
theorem sc_raw_less : FnScope ["one", "other"] ["one", "other"] (defScope s_raw_less) := ⟨rfl, rfl, rfl, by decide +kernel, rfl, by decide +kernel, by decide +kernel⟩
def t_raw_less : TSD :=
    (dRet (dTup (dCons (dCall sp_lesser (dCons (dOp dIx (dVar 0) (dC (.int 0))) (dCons (dOp dIx (dVar 1) (dC (.int 0))) dNil))) (dCons (dCall sp_lesser (dCons (dOp dIx (dVar 0) (dC (.int 1))) (dCons (dOp dIx (dVar 1) (dC (.int 1))) dNil))) dNil))))
abbrev s_raw_join : Stmt := top 42
theorem sc_raw_join : FnScope ["one", "other"] ["one", "other"] (defScope s_raw_join) := ⟨rfl, rfl, rfl, by decide +kernel, rfl, by decide +kernel, by decide +kernel⟩
def t_raw_join : TSD :=
    (dRet (dTup (dCons (dCall sp_lesser (dCons (dOp dIx (dVar 0) (dC (.int 0))) (dCons (dOp dIx (dVar 1) (dC (.int 0))) dNil))) (dCons (dCall sp_greater (dCons (dOp dIx (dVar 0) (dC (.int 1))) (dCons (dOp dIx (dVar 1) (dC (.int 1))) dNil))) dNil))))
abbrev s_raw_size : Stmt := top 43
theorem sc_raw_size : FnScope ["box"] ["box"] (defScope s_raw_size) := ⟨rfl, rfl, rfl, by decide +kernel, rfl, by decide +kernel, by decide +kernel⟩
def t_raw_size : TSD :=
    (dSeq (dIfS (dTest (dCall sp_has_nought (dCons (dVar 0) dNil))) (dRet (dTup (dCons (dC (.tup ([0, 1].map .int))) (dCons (dCall sp_greater (dCons (dCall sp_sized (dCons (dOp dIx (dVar 0) (dC (.int 0))) dNil)) (dCons (dCall sp_sized (dCons (dOp dIx (dVar 0) (dC (.int 1))) dNil)) dNil))) dNil)))) dNext)
    (dRet (dCall sp_ends_of (dCons (dLstS (dCons (dCall sp_sized (dCons (dOp dIx (dVar 0) (dC (.int 0))) dNil)) (dCons (dCall sp_sized (dCons (dOp dIx (dVar 0) (dC (.int 1))) dNil)) dNil))) dNil))))
abbrev s_raw_power : Stmt := top 44
theorem sc_raw_power : FnScope ["box", "k", "found"] ["box", "k"] (defScope s_raw_power) := ⟨rfl, rfl, rfl, by decide +kernel, rfl, by decide +kernel, by decide +kernel⟩
def t_raw_power : TSD :=
    (dSeq (dIfS (dTest (dOp dEq (dVar 1) (dC (.int 0)))) (dRet (dTup (dCons (dC (.tup ([1, 1].map .int))) (dCons (dC (.tup ([1, 1].map .int))) dNil)))) dNext)
    (dSeq (dAsg (dCall sp_ends_of (dCons (dLstS (dCons (dCall sp_raised (dCons (dOp dIx (dVar 0) (dC (.int 0))) (dCons (dVar 1) dNil))) (dCons (dCall sp_raised (dCons (dOp dIx (dVar 0) (dC (.int 1))) (dCons (dVar 1) dNil))) dNil))) dNil)) (hName 2))
    (dRet (dIf (dAnd (dTest (dOp dEq (dOp dMod (dVar 1) (dC (.int 2))) (dC (.int 0)))) (dTest (dCall sp_has_nought (dCons (dVar 0) dNil)))) (dTup (dCons (dC (.tup ([0, 1].map .int))) (dCons (dOp dIx (dVar 2) (dC (.int 1))) dNil))) (dVar 2)))))
abbrev s_root_above : Stmt := top 45
theorem sc_root_above : FnScope ["one", "k", "depth", "whole", "found"] ["one", "k", "depth"] (defScope s_root_above) := ⟨rfl, rfl, rfl, by decide +kernel, rfl, by decide +kernel, by decide +kernel⟩
def t_root_above : TSD :=
    (dSeq (dAsg (dCall sp_two_to (dCons (dVar 2) dNil)) (hName 3))
    (dSeq (dAsg (dCall sp_root_down (dCons (dOp dFdiv (dOp dMul (dOp dIx (dVar 0) (dC (.int 0))) (dCall sp_power (dCons (dVar 3) (dCons (dVar 1) dNil)))) (dOp dIx (dVar 0) (dC (.int 1)))) (dCons (dVar 1) dNil))) (hName 4))
    (dSeq (dIfS (dTest (dCall sp_is_less (dCons (dTup (dCons (dCall sp_power (dCons (dVar 4) (dCons (dVar 1) dNil))) (dCons (dCall sp_power (dCons (dVar 3) (dCons (dVar 1) dNil))) dNil))) (dCons (dVar 0) dNil)))) (dAug 4 (dC (.int 1)) dIpAdd) dNext)
    (dRet (dCall sp_fraction (dCons (dVar 4) (dCons (dVar 3) dNil)))))))
abbrev s_raw_root : Stmt := top 46
theorem sc_raw_root : FnScope ["box", "k", "depth", "low", "whole"] ["box", "k", "depth"] (defScope s_raw_root) := ⟨rfl, rfl, rfl, by decide +kernel, rfl, by decide +kernel, by decide +kernel⟩
def t_raw_root : TSD :=
    (dSeq (dIfS (dTest (dOp dLt (dOp dIx (dOp dIx (dVar 0) (dC (.int 1))) (dC (.int 0))) (dC (.int 0)))) (dRet (dC .non)) dNext)
    (dSeq (dPar 3 4 (dCons (dCall sp_greater (dCons (dOp dIx (dVar 0) (dC (.int 0))) (dCons (dC (.tup ([0, 1].map .int))) dNil))) (dCons (dCall sp_two_to (dCons (dVar 2) dNil)) dNil)))
    (dRet (dTup (dCons (dCall sp_fraction (dCons (dCall sp_root_down (dCons (dOp dFdiv (dOp dMul (dOp dIx (dVar 3) (dC (.int 0))) (dCall sp_power (dCons (dVar 4) (dCons (dVar 1) dNil)))) (dOp dIx (dVar 3) (dC (.int 1)))) (dCons (dVar 1) dNil))) (dCons (dVar 4) dNil))) (dCons (dCall sp_root_above (dCons (dOp dIx (dVar 0) (dC (.int 1))) (dCons (dVar 1) (dCons (dVar 2) dNil)))) dNil))))))
abbrev s_box_add : Stmt := top 47
theorem sc_box_add : FnScope ["one", "other"] ["one", "other"] (defScope s_box_add) := ⟨rfl, rfl, rfl, by decide +kernel, rfl, by decide +kernel, by decide +kernel⟩
def t_box_add (cl : Cls) : TSD :=
    (dSeq (dDrop (dCall (sp_check_two cl) (dCons (dVar 0) (dCons (dVar 1) dNil))))
    (dRet (dCall sp_raw_add (dCons (dVar 0) (dCons (dVar 1) dNil)))))
abbrev s_box_take : Stmt := top 48
theorem sc_box_take : FnScope ["one", "other"] ["one", "other"] (defScope s_box_take) := ⟨rfl, rfl, rfl, by decide +kernel, rfl, by decide +kernel, by decide +kernel⟩
def t_box_take (cl : Cls) : TSD :=
    (dSeq (dDrop (dCall (sp_check_two cl) (dCons (dVar 0) (dCons (dVar 1) dNil))))
    (dRet (dCall sp_raw_add (dCons (dVar 0) (dCons (dCall sp_raw_turn (dCons (dVar 1) dNil)) dNil)))))
abbrev s_box_times : Stmt := top 49
theorem sc_box_times : FnScope ["one", "other"] ["one", "other"] (defScope s_box_times) := ⟨rfl, rfl, rfl, by decide +kernel, rfl, by decide +kernel, by decide +kernel⟩
def t_box_times (cl : Cls) : TSD :=
    (dSeq (dDrop (dCall (sp_check_two cl) (dCons (dVar 0) (dCons (dVar 1) dNil))))
    (dRet (dCall sp_raw_times (dCons (dVar 0) (dCons (dVar 1) dNil)))))
abbrev s_box_over : Stmt := top 50
theorem sc_box_over : FnScope ["one", "other"] ["one", "other"] (defScope s_box_over) := ⟨rfl, rfl, rfl, by decide +kernel, rfl, by decide +kernel, by decide +kernel⟩
def t_box_over (cl : Cls) : TSD :=
    (dSeq (dDrop (dCall (sp_check_two cl) (dCons (dVar 0) (dCons (dVar 1) dNil))))
    (dRet (dCall sp_raw_over (dCons (dVar 0) (dCons (dVar 1) dNil)))))
abbrev s_box_more : Stmt := top 51
theorem sc_box_more : FnScope ["one", "other"] ["one", "other"] (defScope s_box_more) := ⟨rfl, rfl, rfl, by decide +kernel, rfl, by decide +kernel, by decide +kernel⟩
def t_box_more (cl : Cls) : TSD :=
    (dSeq (dDrop (dCall (sp_check_two cl) (dCons (dVar 0) (dCons (dVar 1) dNil))))
    (dRet (dCall sp_raw_more (dCons (dVar 0) (dCons (dVar 1) dNil)))))
abbrev s_box_less : Stmt := top 52
theorem sc_box_less : FnScope ["one", "other"] ["one", "other"] (defScope s_box_less) := ⟨rfl, rfl, rfl, by decide +kernel, rfl, by decide +kernel, by decide +kernel⟩
def t_box_less (cl : Cls) : TSD :=
    (dSeq (dDrop (dCall (sp_check_two cl) (dCons (dVar 0) (dCons (dVar 1) dNil))))
    (dRet (dCall sp_raw_less (dCons (dVar 0) (dCons (dVar 1) dNil)))))
abbrev s_box_join : Stmt := top 53
theorem sc_box_join : FnScope ["one", "other"] ["one", "other"] (defScope s_box_join) := ⟨rfl, rfl, rfl, by decide +kernel, rfl, by decide +kernel, by decide +kernel⟩
def t_box_join (cl : Cls) : TSD :=
    (dSeq (dDrop (dCall (sp_check_two cl) (dCons (dVar 0) (dCons (dVar 1) dNil))))
    (dRet (dCall sp_raw_join (dCons (dVar 0) (dCons (dVar 1) dNil)))))
abbrev s_box_turn : Stmt := top 54
theorem sc_box_turn : FnScope ["box"] ["box"] (defScope s_box_turn) := ⟨rfl, rfl, rfl, by decide +kernel, rfl, by decide +kernel, by decide +kernel⟩
def t_box_turn (cl : Cls) : TSD :=
    (dSeq (dDrop (dCall (sp_check_box cl) (dCons (dVar 0) dNil)))
    (dRet (dCall sp_raw_turn (dCons (dVar 0) dNil))))
abbrev s_box_size : Stmt := top 55
theorem sc_box_size : FnScope ["box"] ["box"] (defScope s_box_size) := ⟨rfl, rfl, rfl, by decide +kernel, rfl, by decide +kernel, by decide +kernel⟩
def t_box_size (cl : Cls) : TSD :=
    (dSeq (dDrop (dCall (sp_check_box cl) (dCons (dVar 0) dNil)))
    (dRet (dCall sp_raw_size (dCons (dVar 0) dNil))))
abbrev s_box_root : Stmt := top 56
theorem sc_box_root : FnScope ["box", "k", "depth"] ["box", "k", "depth"] (defScope s_box_root) := ⟨rfl, rfl, rfl, by decide +kernel, rfl, by decide +kernel, by decide +kernel⟩
def t_box_root (cl : Cls) : TSD :=
    (dSeq (dDrop (dCall (sp_check_box cl) (dCons (dVar 0) dNil)))
    (dSeq (dDrop (dCall (sp_check_within cl) (dCons (dVar 1) (dCons (dC (.int 2)) (dCons (dC (.int 5)) dNil)))))
    (dSeq (dDrop (dCall (sp_check_within cl) (dCons (dVar 2) (dCons (dC (.int 0)) (dCons (dC (.int 400)) dNil)))))
    (dRet (dCall sp_raw_root (dCons (dVar 0) (dCons (dVar 1) (dCons (dVar 2) dNil))))))))
abbrev s_box_power : Stmt := top 57
theorem sc_box_power : FnScope ["box", "k"] ["box", "k"] (defScope s_box_power) := ⟨rfl, rfl, rfl, by decide +kernel, rfl, by decide +kernel, by decide +kernel⟩
def t_box_power (cl : Cls) : TSD :=
    (dSeq (dDrop (dCall (sp_check_box cl) (dCons (dVar 0) dNil)))
    (dSeq (dDrop (dCall (sp_check_within cl) (dCons (dVar 1) (dCons (dC (.int 0)) (dCons (dC (.int 8)) dNil)))))
    (dRet (dCall sp_raw_power (dCons (dVar 0) (dCons (dVar 1) dNil))))))
abbrev s__law_hand : Stmt := top 59
theorem sc__law_hand : FnScope ["script", "cells", "cell"] ["script"] (defScope s__law_hand) := ⟨rfl, rfl, rfl, by decide +kernel, rfl, by decide +kernel, by decide +kernel⟩
def t__law_hand : TSD :=
    (dSeq (dAsg (dLc (dItL (dSl dSlL (dVar 0) dNoPart (dPart (dC (.int 63))))) (hName 2) dYes (dOp dMod (dFn dInt1 (dCons (dFn dAbs (dCons (dFn dInt1 (dCons (dVar 2) dNil)) dNil)) dNil)) (dOp dPow (dC (.int 10)) (dC (.int 36)))) [2]) (hName 1))
    (dRet (dLstC (dCons (dVar 1) (dCons (dC (.int 0)) (dCons (dC (.int 0)) (dCons (dOp dAdd (dC (.int 431)) (dOp dMul (dC (.int 7)) (dFn dLen (dCons (dVar 1) dNil)))) (dCons (dC (.int 0)) dNil))))))))
abbrev s__law_draw : Stmt := top 60
theorem sc__law_draw : FnScope ["hand", "size", "cell", "digit", "number"] ["hand", "size"] (defScope s__law_draw) := ⟨rfl, rfl, rfl, by decide +kernel, rfl, by decide +kernel, by decide +kernel⟩
def t__law_draw : TSD :=
    (dSeq (dIfS (dAnd (dTest (dOp dEq (dOp dIx (dVar 0) (dC (.int 2))) (dC (.int 0)))) (dTest (dOp dLt (dOp dIx (dVar 0) (dC (.int 1))) (dFn dLen (dCons (dOp dIx (dVar 0) (dC (.int 0))) dNil))))) (dSeq (dAsg (dOp dIx (dOp dIx (dVar 0) (dC (.int 0))) (dOp dIx (dVar 0) (dC (.int 1)))) (hName 2))
    (dSeq (dAsg (dOp dAdd (dOp dIx (dVar 0) (dC (.int 1))) (dC (.int 1))) (hSub (dVar 0) (dC (.int 1))))
    (dSeq (dAsg (dOp dMod (dFn dInt1 (dCons (dOp dAdd (dOp dAdd (dOp dMul (dOp dIx (dVar 0) (dC (.int 3))) (dC (.int 69621))) (dOp dMul (dVar 2) (dC (.int 40692)))) (dC (.int 29))) dNil)) (dC (.int 2147483629))) (hSub (dVar 0) (dC (.int 3))))
    (dIfS (dTest (dOp dGe (dVar 2) (dOp dPow (dC (.int 10)) (dC (.int 18))))) (dAsg (dVar 2) (hSub (dVar 0) (dC (.int 2)))) dNext)))) dNext)
    (dSeq (dIfS (dTest (dOp dGt (dOp dIx (dVar 0) (dC (.int 2))) (dC (.int 0)))) (dSeq (dAsg (dOp dMod (dFn dInt1 (dCons (dOp dIx (dVar 0) (dC (.int 2))) dNil)) (dVar 1)) (hName 3))
    (dSeq (dAsg (dOp dFdiv (dOp dIx (dVar 0) (dC (.int 2))) (dVar 1)) (hSub (dVar 0) (dC (.int 2))))
    (dRet (dVar 3)))) dNext)
    (dSeq (dAsg (dOp dAdd (dOp dIx (dVar 0) (dC (.int 4))) (dC (.int 1))) (hSub (dVar 0) (dC (.int 4))))
    (dSeq (dAsg (dOp dMod (dFn dInt1 (dCons (dOp dMul (dFn dInt1 (dCons (dOp dAdd (dOp dIx (dVar 0) (dC (.int 3))) (dOp dMul (dC (.int 7919)) (dOp dIx (dVar 0) (dC (.int 4))))) dNil)) (dC (.int 48271))) dNil)) (dC (.int 2147483647))) (hName 4))
    (dSeq (dAsg (dOp dMod (dFn dInt1 (dCons (dOp dMul (dVar 4) (dOp dAdd (dOp dFdiv (dVar 4) (dC (.int 1009))) (dC (.int 69621)))) dNil)) (dC (.int 2147483647))) (hName 4))
    (dSeq (dAsg (dOp dMod (dFn dInt1 (dCons (dOp dMul (dVar 4) (dOp dAdd (dOp dFdiv (dVar 4) (dC (.int 2003))) (dC (.int 40014)))) dNil)) (dC (.int 2147483563))) (hName 4))
    (dRet (dOp dMod (dFn dInt1 (dCons (dOp dFdiv (dVar 4) (dC (.int 16))) dNil)) (dVar 1)))))))))
abbrev s__law_some : Stmt := top 61
theorem sc__law_some : FnScope ["hand", "things"] ["hand", "things"] (defScope s__law_some) := ⟨rfl, rfl, rfl, by decide +kernel, rfl, by decide +kernel, by decide +kernel⟩
def t__law_some : TSD :=
    (dRet (dOp dIx (dVar 1) (dCall sp__law_draw (dCons (dVar 0) (dCons (dFn dLen (dCons (dVar 1) dNil)) dNil)))))
abbrev s__law_frac : Stmt := top 62
theorem sc__law_frac : FnScope ["top", "bottom", "one", "part"] ["top", "bottom"] (defScope s__law_frac) := ⟨rfl, rfl, rfl, by decide +kernel, rfl, by decide +kernel, by decide +kernel⟩
def t__law_frac : TSD :=
    (dSeq (dPar 2 3 (dCons (dFn dAbs (dCons (dVar 0) dNil)) (dCons (dFn dAbs (dCons (dVar 1) dNil)) dNil)))
    (dSeq (dWhile (dTest (dOp dGt (dVar 2) (dC (.int 0)))) (dPar 2 3 (dCons (dOp dMod (dFn dInt1 (dCons (dVar 3) dNil)) (dVar 2)) (dCons (dVar 2) dNil))))
    (dSeq (dAsg (dIf (dTest (dOp dGt (dVar 1) (dC (.int 0)))) (dVar 3) (dOp dSub (dC (.int 0)) (dVar 3))) (hName 3))
    (dRet (dTup (dCons (dOp dFdiv (dVar 0) (dVar 3)) (dCons (dOp dFdiv (dVar 1) (dVar 3)) dNil)))))))
abbrev s__law_plus : Stmt := top 63
theorem sc__law_plus : FnScope ["one", "other"] ["one", "other"] (defScope s__law_plus) := ⟨rfl, rfl, rfl, by decide +kernel, rfl, by decide +kernel, by decide +kernel⟩
def t__law_plus : TSD :=
    (dRet (dCall sp__law_frac (dCons (dOp dAdd (dOp dMul (dOp dIx (dVar 0) (dC (.int 0))) (dOp dIx (dVar 1) (dC (.int 1)))) (dOp dMul (dOp dIx (dVar 1) (dC (.int 0))) (dOp dIx (dVar 0) (dC (.int 1))))) (dCons (dOp dMul (dOp dIx (dVar 0) (dC (.int 1))) (dOp dIx (dVar 1) (dC (.int 1)))) dNil))))
abbrev s__law_less : Stmt := top 64
theorem sc__law_less : FnScope ["one", "other"] ["one", "other"] (defScope s__law_less) := ⟨rfl, rfl, rfl, by decide +kernel, rfl, by decide +kernel, by decide +kernel⟩
def t__law_less : TSD :=
    (dRet (dCall sp__law_frac (dCons (dOp dSub (dOp dMul (dOp dIx (dVar 0) (dC (.int 0))) (dOp dIx (dVar 1) (dC (.int 1)))) (dOp dMul (dOp dIx (dVar 1) (dC (.int 0))) (dOp dIx (dVar 0) (dC (.int 1))))) (dCons (dOp dMul (dOp dIx (dVar 0) (dC (.int 1))) (dOp dIx (dVar 1) (dC (.int 1)))) dNil))))
abbrev s__law_times : Stmt := top 65
theorem sc__law_times : FnScope ["one", "other"] ["one", "other"] (defScope s__law_times) := ⟨rfl, rfl, rfl, by decide +kernel, rfl, by decide +kernel, by decide +kernel⟩
def t__law_times : TSD :=
    (dRet (dCall sp__law_frac (dCons (dOp dMul (dOp dIx (dVar 0) (dC (.int 0))) (dOp dIx (dVar 1) (dC (.int 0)))) (dCons (dOp dMul (dOp dIx (dVar 0) (dC (.int 1))) (dOp dIx (dVar 1) (dC (.int 1)))) dNil))))
abbrev s__law_by : Stmt := top 66
theorem sc__law_by : FnScope ["one", "other"] ["one", "other"] (defScope s__law_by) := ⟨rfl, rfl, rfl, by decide +kernel, rfl, by decide +kernel, by decide +kernel⟩
def t__law_by : TSD :=
    (dRet (dCall sp__law_frac (dCons (dOp dMul (dOp dIx (dVar 0) (dC (.int 0))) (dOp dIx (dVar 1) (dC (.int 1)))) (dCons (dOp dMul (dOp dIx (dVar 0) (dC (.int 1))) (dOp dIx (dVar 1) (dC (.int 0)))) dNil))))
abbrev s__law_is_under : Stmt := top 67
theorem sc__law_is_under : FnScope ["one", "other"] ["one", "other"] (defScope s__law_is_under) := ⟨rfl, rfl, rfl, by decide +kernel, rfl, by decide +kernel, by decide +kernel⟩
def t__law_is_under : TSD :=
    (dRet (dOp dLt (dOp dMul (dOp dIx (dVar 0) (dC (.int 0))) (dOp dIx (dVar 1) (dC (.int 1)))) (dOp dMul (dOp dIx (dVar 1) (dC (.int 0))) (dOp dIx (dVar 0) (dC (.int 1))))))
abbrev s__law_least : Stmt := top 68
theorem sc__law_least : FnScope ["some", "found", "one"] ["some"] (defScope s__law_least) := ⟨rfl, rfl, rfl, by decide +kernel, rfl, by decide +kernel, by decide +kernel⟩
def t__law_least : TSD :=
    (dSeq (dAsg (dOp dIx (dVar 0) (dC (.int 0))) (hName 1))
    (dSeq (dFor (dItL (dVar 0)) (hName 2) (dAsg (dIf (dTest (dCall sp__law_is_under (dCons (dVar 2) (dCons (dVar 1) dNil)))) (dVar 2) (dVar 1)) (hName 1)))
    (dRet (dVar 1))))
abbrev s__law_most : Stmt := top 69
theorem sc__law_most : FnScope ["some", "found", "one"] ["some"] (defScope s__law_most) := ⟨rfl, rfl, rfl, by decide +kernel, rfl, by decide +kernel, by decide +kernel⟩
def t__law_most : TSD :=
    (dSeq (dAsg (dOp dIx (dVar 0) (dC (.int 0))) (hName 1))
    (dSeq (dFor (dItL (dVar 0)) (hName 2) (dAsg (dIf (dTest (dCall sp__law_is_under (dCons (dVar 1) (dCons (dVar 2) dNil)))) (dVar 2) (dVar 1)) (hName 1)))
    (dRet (dVar 1))))
abbrev s__law_two : Stmt := top 70
theorem sc__law_two : FnScope ["many", "found", "lap"] ["many"] (defScope s__law_two) := ⟨rfl, rfl, rfl, by decide +kernel, rfl, by decide +kernel, by decide +kernel⟩
def t__law_two : TSD :=
    (dSeq (dAsg (dC (.int 1)) (hName 1))
    (dSeq (dFor (dRng1 (dCons (dVar 0) dNil)) (hName 2) (dAsg (dOp dAdd (dVar 1) (dVar 1)) (hName 1)))
    (dRet (dVar 1))))
abbrev s__law_power : Stmt := top 71
theorem sc__law_power : FnScope ["one", "many", "found", "lap"] ["one", "many"] (defScope s__law_power) := ⟨rfl, rfl, rfl, by decide +kernel, rfl, by decide +kernel, by decide +kernel⟩
def t__law_power : TSD :=
    (dSeq (dAsg (dTup (dCons (dC (.int 1)) (dCons (dC (.int 1)) dNil))) (hName 2))
    (dSeq (dFor (dRng1 (dCons (dVar 1) dNil)) (hName 3) (dAsg (dCall sp__law_times (dCons (dVar 2) (dCons (dVar 0) dNil))) (hName 2)))
    (dRet (dVar 2))))
abbrev s__law_number : Stmt := top 72
theorem sc__law_number : FnScope ["hand", "great"] ["hand", "great"] (defScope s__law_number) := ⟨rfl, rfl, rfl, by decide +kernel, rfl, by decide +kernel, by decide +kernel⟩
def t__law_number : TSD :=
    (dRet (dCall sp__law_frac (dCons (dOp dSub (dCall sp__law_draw (dCons (dVar 0) (dCons (dOp dAdd (dOp dMul (dC (.int 2)) (dVar 1)) (dC (.int 1))) dNil))) (dVar 1)) (dCons (dOp dAdd (dC (.int 1)) (dCall sp__law_draw (dCons (dVar 0) (dCons (dC (.int 6)) dNil)))) dNil))))
abbrev s__law_box_times : Stmt := top 73
theorem sc__law_box_times : FnScope ["one", "other", "some"] ["one", "other"] (defScope s__law_box_times) := ⟨rfl, rfl, rfl, by decide +kernel, rfl, by decide +kernel, by decide +kernel⟩
def t__law_box_times : TSD :=
    (dSeq (dAsg (dLstS (dCons (dCall sp__law_times (dCons (dOp dIx (dVar 0) (dC (.int 0))) (dCons (dOp dIx (dVar 1) (dC (.int 0))) dNil))) (dCons (dCall sp__law_times (dCons (dOp dIx (dVar 0) (dC (.int 0))) (dCons (dOp dIx (dVar 1) (dC (.int 1))) dNil))) dNil))) (hName 2))
    (dSeq (dAsg (dOp dAdd (dVar 2) (dLstS (dCons (dCall sp__law_times (dCons (dOp dIx (dVar 0) (dC (.int 1))) (dCons (dOp dIx (dVar 1) (dC (.int 0))) dNil))) (dCons (dCall sp__law_times (dCons (dOp dIx (dVar 0) (dC (.int 1))) (dCons (dOp dIx (dVar 1) (dC (.int 1))) dNil))) dNil)))) (hName 2))
    (dRet (dTup (dCons (dCall sp__law_least (dCons (dVar 2) dNil)) (dCons (dCall sp__law_most (dCons (dVar 2) dNil)) dNil))))))
abbrev s__law_box_over : Stmt := top 74
theorem sc__law_box_over : FnScope ["one", "other"] ["one", "other"] (defScope s__law_box_over) := ⟨rfl, rfl, rfl, by decide +kernel, rfl, by decide +kernel, by decide +kernel⟩
def t__law_box_over : TSD :=
    (dSeq (dIfS (dAnd (dNot (dTest (dCall sp__law_is_under (dCons (dTup (dCons (dC (.int 0)) (dCons (dC (.int 1)) dNil))) (dCons (dOp dIx (dVar 1) (dC (.int 0))) dNil))))) (dNot (dTest (dCall sp__law_is_under (dCons (dOp dIx (dVar 1) (dC (.int 1))) (dCons (dTup (dCons (dC (.int 0)) (dCons (dC (.int 1)) dNil))) dNil)))))) (dRet (dC .non)) dNext)
    (dRet (dCall sp__law_box_times (dCons (dVar 0) (dCons (dTup (dCons (dCall sp__law_by (dCons (dTup (dCons (dC (.int 1)) (dCons (dC (.int 1)) dNil))) (dCons (dOp dIx (dVar 1) (dC (.int 1))) dNil))) (dCons (dCall sp__law_by (dCons (dTup (dCons (dC (.int 1)) (dCons (dC (.int 1)) dNil))) (dCons (dOp dIx (dVar 1) (dC (.int 0))) dNil))) dNil))) dNil)))))
abbrev s__law_box_plus : Stmt := top 75
theorem sc__law_box_plus : FnScope ["one", "other"] ["one", "other"] (defScope s__law_box_plus) := ⟨rfl, rfl, rfl, by decide +kernel, rfl, by decide +kernel, by decide +kernel⟩
def t__law_box_plus : TSD :=
    (dRet (dTup (dCons (dCall sp__law_plus (dCons (dOp dIx (dVar 0) (dC (.int 0))) (dCons (dOp dIx (dVar 1) (dC (.int 0))) dNil))) (dCons (dCall sp__law_plus (dCons (dOp dIx (dVar 0) (dC (.int 1))) (dCons (dOp dIx (dVar 1) (dC (.int 1))) dNil))) dNil))))
abbrev s__law_box_turn : Stmt := top 76
theorem sc__law_box_turn : FnScope ["box"] ["box"] (defScope s__law_box_turn) := ⟨rfl, rfl, rfl, by decide +kernel, rfl, by decide +kernel, by decide +kernel⟩
def t__law_box_turn : TSD :=
    (dRet (dTup (dCons (dTup (dCons (dOp dSub (dC (.int 0)) (dOp dIx (dOp dIx (dVar 0) (dC (.int 1))) (dC (.int 0)))) (dCons (dOp dIx (dOp dIx (dVar 0) (dC (.int 1))) (dC (.int 1))) dNil))) (dCons (dTup (dCons (dOp dSub (dC (.int 0)) (dOp dIx (dOp dIx (dVar 0) (dC (.int 0))) (dC (.int 0)))) (dCons (dOp dIx (dOp dIx (dVar 0) (dC (.int 0))) (dC (.int 1))) dNil))) dNil))))
abbrev s__law_box_size : Stmt := top 77
theorem sc__law_box_size : FnScope ["box"] ["box"] (defScope s__law_box_size) := ⟨rfl, rfl, rfl, by decide +kernel, rfl, by decide +kernel, by decide +kernel⟩
def t__law_box_size : TSD :=
    (dSeq (dIfS (dNot (dTest (dCall sp__law_is_under (dCons (dOp dIx (dVar 0) (dC (.int 0))) (dCons (dTup (dCons (dC (.int 0)) (dCons (dC (.int 1)) dNil))) dNil))))) (dRet (dVar 0)) dNext)
    (dSeq (dIfS (dNot (dTest (dCall sp__law_is_under (dCons (dTup (dCons (dC (.int 0)) (dCons (dC (.int 1)) dNil))) (dCons (dOp dIx (dVar 0) (dC (.int 1))) dNil))))) (dRet (dCall sp__law_box_turn (dCons (dVar 0) dNil))) dNext)
    (dRet (dTup (dCons (dTup (dCons (dC (.int 0)) (dCons (dC (.int 1)) dNil))) (dCons (dCall sp__law_most (dCons (dLstS (dCons (dTup (dCons (dOp dSub (dC (.int 0)) (dOp dIx (dOp dIx (dVar 0) (dC (.int 0))) (dC (.int 0)))) (dCons (dOp dIx (dOp dIx (dVar 0) (dC (.int 0))) (dC (.int 1))) dNil))) (dCons (dOp dIx (dVar 0) (dC (.int 1))) dNil))) dNil)) dNil))))))
abbrev s__law_box_power : Stmt := top 78
theorem sc__law_box_power : FnScope ["box", "k", "some"] ["box", "k"] (defScope s__law_box_power) := ⟨rfl, rfl, rfl, by decide +kernel, rfl, by decide +kernel, by decide +kernel⟩
def t__law_box_power : TSD :=
    (dSeq (dIfS (dTest (dOp dEq (dVar 1) (dC (.int 0)))) (dRet (dTup (dCons (dTup (dCons (dC (.int 1)) (dCons (dC (.int 1)) dNil))) (dCons (dTup (dCons (dC (.int 1)) (dCons (dC (.int 1)) dNil))) dNil)))) dNext)
    (dSeq (dAsg (dIf (dTest (dOp dEq (dOp dMod (dFn dInt1 (dCons (dVar 1) dNil)) (dC (.int 2))) (dC (.int 0)))) (dCall sp__law_box_size (dCons (dVar 0) dNil)) (dVar 0)) (hName 2))
    (dRet (dTup (dCons (dCall sp__law_power (dCons (dOp dIx (dVar 2) (dC (.int 0))) (dCons (dVar 1) dNil))) (dCons (dCall sp__law_power (dCons (dOp dIx (dVar 2) (dC (.int 1))) (dCons (dVar 1) dNil))) dNil))))))
abbrev s__law_root_of : Stmt := top 79
theorem sc__law_root_of : FnScope ["number", "k", "low", "high", "middle"] ["number", "k"] (defScope s__law_root_of) := ⟨rfl, rfl, rfl, by decide +kernel, rfl, by decide +kernel, by decide +kernel⟩
def t__law_root_of : TSD :=
    (dSeq (dAsg (dTup (dCons (dC (.int 0)) (dCons (dC (.int 1)) dNil))) (hTup 2 (hCons (hName 2) (hCons (hName 3) hNil))))
    (dSeq (dWhile (dTest (dOp dLe (dOp dIx (dCall sp__law_power (dCons (dTup (dCons (dVar 3) (dCons (dC (.int 1)) dNil))) (dCons (dVar 1) dNil))) (dC (.int 0))) (dVar 0))) (dAsg (dOp dMul (dC (.int 2)) (dVar 3)) (hName 3)))
    (dSeq (dWhile (dTest (dOp dGt (dOp dSub (dVar 3) (dVar 2)) (dC (.int 1)))) (dSeq (dAsg (dOp dFdiv (dOp dAdd (dVar 2) (dVar 3)) (dC (.int 2))) (hName 4))
    (dIfS (dTest (dOp dLe (dOp dIx (dCall sp__law_power (dCons (dTup (dCons (dVar 4) (dCons (dC (.int 1)) dNil))) (dCons (dVar 1) dNil))) (dC (.int 0))) (dVar 0))) (dAsg (dVar 4) (hName 2)) (dAsg (dVar 4) (hName 3)))))
    (dRet (dVar 2)))))
abbrev s__law_box_root : Stmt := top 80
theorem sc__law_box_root : FnScope ["box", "k", "depth", "scale", "low", "whole", "high"] ["box", "k", "depth"] (defScope s__law_box_root) := ⟨rfl, rfl, rfl, by decide +kernel, rfl, by decide +kernel, by decide +kernel⟩
def t__law_box_root : TSD :=
    (dSeq (dIfS (dTest (dOp dLt (dOp dIx (dOp dIx (dVar 0) (dC (.int 1))) (dC (.int 0))) (dC (.int 0)))) (dRet (dC .non)) dNext)
    (dSeq (dAsg (dOp dIx (dCall sp__law_power (dCons (dTup (dCons (dCall sp__law_two (dCons (dVar 2) dNil)) (dCons (dC (.int 1)) dNil))) (dCons (dVar 1) dNil))) (dC (.int 0))) (hName 3))
    (dSeq (dAsg (dCall sp__law_root_of (dCons (dOp dFdiv (dOp dMul (dFn dMax2 (dCons (dOp dIx (dOp dIx (dVar 0) (dC (.int 0))) (dC (.int 0))) (dCons (dC (.int 0)) dNil))) (dVar 3)) (dOp dIx (dOp dIx (dVar 0) (dC (.int 0))) (dC (.int 1)))) (dCons (dVar 1) dNil))) (hName 4))
    (dSeq (dAsg (dOp dSub (dC (.int 0)) (dOp dFdiv (dOp dSub (dC (.int 0)) (dOp dMul (dOp dIx (dOp dIx (dVar 0) (dC (.int 1))) (dC (.int 0))) (dVar 3))) (dOp dIx (dOp dIx (dVar 0) (dC (.int 1))) (dC (.int 1))))) (hName 5))
    (dSeq (dAsg (dCall sp__law_root_of (dCons (dVar 5) (dCons (dVar 1) dNil))) (hName 6))
    (dSeq (dAsg (dOp dAdd (dVar 6) (dFn dInt1 (dCons (dOp dLt (dOp dIx (dCall sp__law_power (dCons (dTup (dCons (dVar 6) (dCons (dC (.int 1)) dNil))) (dCons (dVar 1) dNil))) (dC (.int 0))) (dVar 5)) dNil))) (hName 6))
    (dRet (dTup (dCons (dCall sp__law_frac (dCons (dVar 4) (dCons (dCall sp__law_two (dCons (dVar 2) dNil)) dNil))) (dCons (dCall sp__law_frac (dCons (dVar 6) (dCons (dCall sp__law_two (dCons (dVar 2) dNil)) dNil))) dNil))))))))))
abbrev s__law_drawn : Stmt := top 82
theorem sc__law_drawn : FnScope ["hand", "one", "other"] ["hand"] (defScope s__law_drawn) := ⟨rfl, rfl, rfl, by decide +kernel, rfl, by decide +kernel, by decide +kernel⟩
def t__law_drawn : TSD :=
    (dSeq (dPar 1 2 (dCons (dCall sp__law_number (dCons (dVar 0) (dCons (dC (.int 12)) dNil))) (dCons (dCall sp__law_number (dCons (dVar 0) (dCons (dC (.int 12)) dNil))) dNil)))
    (dSeq (dAsg (dCall sp__law_some (dCons (dVar 0) (dCons (dLstS (dCons (dTup (dCons (dVar 1) (dCons (dVar 2) dNil))) (dCons (dTup (dCons (dVar 1) (dCons (dVar 1) dNil))) (dCons (dTup (dCons (dVar 1) (dCons (dTup (dCons (dC (.int 0)) (dCons (dC (.int 1)) dNil))) dNil))) (dCons (dTup (dCons (dVar 1) (dCons (dVar 2) dNil))) dNil))))) dNil))) (hTup 2 (hCons (hName 1) (hCons (hName 2) hNil))))
    (dRet (dIf (dNot (dTest (dCall sp__law_is_under (dCons (dVar 2) (dCons (dVar 1) dNil))))) (dTup (dCons (dVar 1) (dCons (dVar 2) dNil))) (dTup (dCons (dVar 2) (dCons (dVar 1) dNil)))))))
abbrev s__law_within : Stmt := top 83
theorem sc__law_within : FnScope ["hand", "box", "part"] ["hand", "box"] (defScope s__law_within) := ⟨rfl, rfl, rfl, by decide +kernel, rfl, by decide +kernel, by decide +kernel⟩
def t__law_within : TSD :=
    (dSeq (dAsg (dCall sp__law_draw (dCons (dVar 0) (dCons (dC (.int 5)) dNil))) (hName 2))
    (dRet (dCall sp__law_plus (dCons (dCall sp__law_times (dCons (dOp dIx (dVar 1) (dC (.int 0))) (dCons (dTup (dCons (dOp dSub (dC (.int 4)) (dVar 2)) (dCons (dC (.int 4)) dNil))) dNil))) (dCons (dCall sp__law_times (dCons (dOp dIx (dVar 1) (dC (.int 1))) (dCons (dTup (dCons (dVar 2) (dCons (dC (.int 4)) dNil))) dNil))) dNil)))))
abbrev s__law_lies : Stmt := top 84
theorem sc__law_lies : FnScope ["one", "box"] ["one", "box"] (defScope s__law_lies) := ⟨rfl, rfl, rfl, by decide +kernel, rfl, by decide +kernel, by decide +kernel⟩
def t__law_lies : TSD :=
    (dRet (dAndV (dNotV (dCall sp__law_is_under (dCons (dVar 0) (dCons (dOp dIx (dVar 1) (dC (.int 0))) dNil)))) (dNotV (dCall sp__law_is_under (dCons (dOp dIx (dVar 1) (dC (.int 1))) (dCons (dVar 0) dNil))))))
abbrev s__law_are_two_right : Stmt := top 85
theorem sc__law_are_two_right : FnScope ["hand", "one", "other", "a", "b", "due", "told", "some", "found", "part", "box"] ["hand", "one", "other"] (defScope s__law_are_two_right) := ⟨rfl, rfl, rfl, by decide +kernel, rfl, by decide +kernel, by decide +kernel⟩
def t__law_are_two_right (cl : Cls) : TSD :=
    (dSeq (dPar 3 4 (dCons (dCall sp__law_within (dCons (dVar 0) (dCons (dVar 1) dNil))) (dCons (dCall sp__law_within (dCons (dVar 0) (dCons (dVar 2) dNil))) dNil)))
    (dSeq (dAsg (dLstC (dCons (dCall sp__law_box_plus (dCons (dVar 1) (dCons (dVar 2) dNil))) (dCons (dCall sp__law_box_plus (dCons (dVar 1) (dCons (dCall sp__law_box_turn (dCons (dVar 2) dNil)) dNil))) (dCons (dCall sp__law_box_times (dCons (dVar 1) (dCons (dVar 2) dNil))) dNil)))) (hName 5))
    (dSeq (dDrop (dApp (dVar 5) (dTup (dCons (dCall sp__law_most (dCons (dLstS (dCons (dOp dIx (dVar 1) (dC (.int 0))) (dCons (dOp dIx (dVar 2) (dC (.int 0))) dNil))) dNil)) (dCons (dCall sp__law_most (dCons (dLstS (dCons (dOp dIx (dVar 1) (dC (.int 1))) (dCons (dOp dIx (dVar 2) (dC (.int 1))) dNil))) dNil)) dNil)))))
    (dSeq (dDrop (dApp (dVar 5) (dTup (dCons (dCall sp__law_least (dCons (dLstS (dCons (dOp dIx (dVar 1) (dC (.int 0))) (dCons (dOp dIx (dVar 2) (dC (.int 0))) dNil))) dNil)) (dCons (dCall sp__law_least (dCons (dLstS (dCons (dOp dIx (dVar 1) (dC (.int 1))) (dCons (dOp dIx (dVar 2) (dC (.int 1))) dNil))) dNil)) dNil)))))
    (dSeq (dDrop (dApp (dVar 5) (dTup (dCons (dCall sp__law_least (dCons (dLstS (dCons (dOp dIx (dVar 1) (dC (.int 0))) (dCons (dOp dIx (dVar 2) (dC (.int 0))) dNil))) dNil)) (dCons (dCall sp__law_most (dCons (dLstS (dCons (dOp dIx (dVar 1) (dC (.int 1))) (dCons (dOp dIx (dVar 2) (dC (.int 1))) dNil))) dNil)) dNil)))))
    (dSettle 5 (dSeq (dAsg (dLstS (dCons (dCall (sp_box_add cl) (dCons (dVar 1) (dCons (dVar 2) dNil))) (dCons (dCall (sp_box_take cl) (dCons (dVar 1) (dCons (dVar 2) dNil))) (dCons (dCall (sp_box_times cl) (dCons (dVar 1) (dCons (dVar 2) dNil))) (dCons (dCall (sp_box_more cl) (dCons (dVar 1) (dCons (dVar 2) dNil))) dNil))))) (hName 6))
    (dSeq (dIfS (dTest (dOp dNe (dOp dAdd (dVar 6) (dLstS (dCons (dCall (sp_box_less cl) (dCons (dVar 1) (dCons (dVar 2) dNil))) (dCons (dCall (sp_box_join cl) (dCons (dVar 1) (dCons (dVar 2) dNil))) dNil)))) (dVar 5))) (dRet (dC (.bl false))) dNext)
    (dSeq (dAsg (dLstS (dCons (dCall sp__law_plus (dCons (dVar 3) (dCons (dVar 4) dNil))) (dCons (dCall sp__law_less (dCons (dVar 3) (dCons (dVar 4) dNil))) (dCons (dCall sp__law_times (dCons (dVar 3) (dCons (dVar 4) dNil))) (dCons (dCall sp__law_most (dCons (dLstS (dCons (dVar 3) (dCons (dVar 4) dNil))) dNil)) (dCons (dCall sp__law_least (dCons (dLstS (dCons (dVar 3) (dCons (dVar 4) dNil))) dNil)) (dCons (dVar 3) dNil))))))) (hName 7))
    (dSeq (dIfS (dNot (dTest (dFn dAll (dCons (dLc (dZip (dCons (dVar 7) (dCons (dVar 5) dNil))) (hTup 2 (hCons (hName 9) (hCons (hName 10) hNil))) dYes (dAndV (dCall sp__law_lies (dCons (dVar 9) (dCons (dVar 10) dNil))) (dCall sp_is_box (dCons (dVar 10) dNil))) [9, 10]) dNil)))) (dRet (dC (.bl false))) dNext)
    (dSeq (dAsg (dCall sp__law_box_over (dCons (dVar 1) (dCons (dVar 2) dNil))) (hName 8))
    (dSeq (dIfS (dTest (dOp dNe (dFn dRepr (dCons (dCall (sp_box_over cl) (dCons (dVar 1) (dCons (dVar 2) dNil))) dNil)) (dFn dRepr (dCons (dVar 8) dNil)))) (dRet (dC (.bl false))) dNext)
    (dRet (dOrV (dOp dIsN (dVar 8) (dC .non)) (dCall sp__law_lies (dCons (dCall sp__law_by (dCons (dVar 3) (dCons (dVar 4) dNil))) (dCons (dVar 8) dNil)))))))))))))))))
abbrev s__law_is_one_right : Stmt := top 86
theorem sc__law_is_one_right : FnScope ["hand", "box", "a", "k", "depth", "due", "finer"] ["hand", "box"] (defScope s__law_is_one_right) := ⟨rfl, rfl, rfl, by decide +kernel, rfl, by decide +kernel, by decide +kernel⟩
def t__law_is_one_right (cl : Cls) : TSD :=
    (dSeq (dPar3 2 3 4 (dCons (dCall sp__law_within (dCons (dVar 0) (dCons (dVar 1) dNil))) (dCons (dCall sp__law_draw (dCons (dVar 0) (dCons (dC (.int 9)) dNil))) (dCons (dCall sp__law_draw (dCons (dVar 0) (dCons (dC (.int 14)) dNil))) dNil))))
    (dSeq (dIfS (dOr (dTest (dOp dNe (dCall (sp_box_turn cl) (dCons (dVar 1) dNil)) (dCall sp__law_box_turn (dCons (dVar 1) dNil)))) (dTest (dOp dNe (dCall (sp_box_size cl) (dCons (dVar 1) dNil)) (dCall sp__law_box_size (dCons (dVar 1) dNil))))) (dRet (dC (.bl false))) dNext)
    (dSeq (dIfS (dOr (dNot (dTest (dCall sp__law_lies (dCons (dTup (dCons (dFn dAbs (dCons (dOp dIx (dVar 2) (dC (.int 0))) dNil)) (dCons (dOp dIx (dVar 2) (dC (.int 1))) dNil))) (dCons (dCall (sp_box_size cl) (dCons (dVar 1) dNil)) dNil))))) (dTest (dOp dNe (dCall (sp_box_turn cl) (dCons (dCall (sp_box_turn cl) (dCons (dVar 1) dNil)) dNil)) (dVar 1)))) (dRet (dC (.bl false))) dNext)
    (dSeq (dIfS (dOr (dTest (dOp dNe (dCall (sp_box_power cl) (dCons (dVar 1) (dCons (dVar 3) dNil))) (dCall sp__law_box_power (dCons (dVar 1) (dCons (dVar 3) dNil))))) (dNot (dTest (dCall sp__law_lies (dCons (dCall sp__law_power (dCons (dVar 2) (dCons (dVar 3) dNil))) (dCons (dCall (sp_box_power cl) (dCons (dVar 1) (dCons (dVar 3) dNil))) dNil)))))) (dRet (dC (.bl false))) dNext)
    (dSeq (dAsg (dOp dAdd (dC (.int 2)) (dCall sp__law_draw (dCons (dVar 0) (dCons (dC (.int 4)) dNil)))) (hName 3))
    (dSeq (dAsg (dCall sp__law_box_root (dCons (dVar 1) (dCons (dVar 3) (dCons (dVar 4) dNil)))) (hName 5))
    (dSeq (dIfS (dTest (dOp dNe (dFn dRepr (dCons (dCall (sp_box_root cl) (dCons (dVar 1) (dCons (dVar 3) (dCons (dVar 4) dNil)))) dNil)) (dFn dRepr (dCons (dVar 5) dNil)))) (dRet (dC (.bl false))) dNext)
    (dSeq (dIfS (dTest (dOp dIsN (dVar 5) (dC .non))) (dRet (dC (.bl true))) dNext)
    (dSeq (dAsg (dCall (sp_box_root cl) (dCons (dVar 1) (dCons (dVar 3) (dCons (dOp dAdd (dVar 4) (dC (.int 3))) dNil)))) (hName 6))
    (dSeq (dIfS (dOr (dTest (dCall sp__law_is_under (dCons (dOp dIx (dVar 6) (dC (.int 0))) (dCons (dOp dIx (dVar 5) (dC (.int 0))) dNil)))) (dTest (dCall sp__law_is_under (dCons (dOp dIx (dVar 5) (dC (.int 1))) (dCons (dOp dIx (dVar 6) (dC (.int 1))) dNil))))) (dRet (dC (.bl false))) dNext)
    (dSeq (dIfS (dAnd (dTest (dOp dGe (dOp dIx (dOp dIx (dVar 1) (dC (.int 0))) (dC (.int 0))) (dC (.int 0)))) (dTest (dCall sp__law_is_under (dCons (dOp dIx (dVar 1) (dC (.int 0))) (dCons (dCall sp__law_power (dCons (dOp dIx (dVar 6) (dC (.int 0))) (dCons (dVar 3) dNil))) dNil))))) (dRet (dC (.bl false))) dNext)
    (dRet (dNotV (dCall sp__law_is_under (dCons (dCall sp__law_power (dCons (dOp dIx (dVar 6) (dC (.int 1))) (dCons (dVar 3) dNil))) (dCons (dOp dIx (dVar 1) (dC (.int 1))) dNil))))))))))))))))
abbrev s__law_are_wider_right : Stmt := top 87
theorem sc__law_are_wider_right : FnScope ["one", "other", "wide", "inner", "outer"] ["one", "other"] (defScope s__law_are_wider_right) := ⟨rfl, rfl, rfl, by decide +kernel, rfl, by decide +kernel, by decide +kernel⟩
def t__law_are_wider_right (cl : Cls) : TSD :=
    (dSeq (dAsg (dTup (dCons (dCall sp__law_less (dCons (dOp dIx (dVar 0) (dC (.int 0))) (dCons (dTup (dCons (dC (.int 1)) (dCons (dC (.int 2)) dNil))) dNil))) (dCons (dCall sp__law_plus (dCons (dOp dIx (dVar 0) (dC (.int 1))) (dCons (dTup (dCons (dC (.int 1)) (dCons (dC (.int 3)) dNil))) dNil))) dNil))) (hName 2))
    (dSeq (dFor (dItT (dTup (dCons (dTup (dCons (dCall (sp_box_times cl) (dCons (dVar 0) (dCons (dVar 1) dNil))) (dCons (dCall (sp_box_times cl) (dCons (dVar 2) (dCons (dVar 1) dNil))) dNil))) (dCons (dTup (dCons (dCall (sp_box_size cl) (dCons (dVar 0) dNil)) (dCons (dCall (sp_box_size cl) (dCons (dVar 2) dNil)) dNil))) dNil)))) (hTup 2 (hCons (hName 3) (hCons (hName 4) hNil))) (dIfS (dOr (dTest (dCall sp__law_is_under (dCons (dOp dIx (dVar 3) (dC (.int 0))) (dCons (dOp dIx (dVar 4) (dC (.int 0))) dNil)))) (dTest (dCall sp__law_is_under (dCons (dOp dIx (dVar 4) (dC (.int 1))) (dCons (dOp dIx (dVar 3) (dC (.int 1))) dNil))))) (dRet (dC (.bl false))) dNext))
    (dRet (dC (.bl true)))))
end K07

set_option Elab.async false
set_option linter.all false
set_option maxRecDepth 100000
set_option maxHeartbeats 1000000
namespace K07
open PySem PySem.Spec PyProof.Rows L2 DL
/-! ### unfolding the readings -/
theorem dvar_eq {i : Nat} {τ : DSt} {M : Mm} {P : QD} {Y : XD} : dVar i τ M P Y = ∃ d, τ[i]? = some (some d) ∧ P d M := rfl
theorem ex_some {d : D} {p : D → Prop} : (∃ x, some (some d) = some (some x) ∧ p x) ↔ p d := by
  constructor
  · rintro ⟨x, e, h⟩
    cases e
    exact h
  · intro h
    exact ⟨d, rfl, h⟩
theorem ex_bl {b : Bool} {p : Bool → Prop} : (∃ c, D.bl b = D.bl c ∧ p c) ↔ p b := by
  constructor
  · rintro ⟨x, e, h⟩
    cases e
    exact h
  · intro h
    exact ⟨b, rfl, h⟩
theorem ex_two {a b : D} {p : D → D → Prop} : (∃ x y, [a, b] = [x, y] ∧ p x y) ↔ p a b := by
  constructor
  · rintro ⟨x, y, e, h⟩
    cases e
    exact h
  · intro h
    exact ⟨a, b, rfl, h⟩
theorem ex_three {a b c : D} {p : D → D → D → Prop} : (∃ x y z, [a, b, c] = [x, y, z] ∧ p x y z) ↔ p a b c := by
  constructor
  · rintro ⟨x, y, z, e, h⟩
    cases e
    exact h
  · intro h
    exact ⟨a, b, c, rfl, h⟩
theorem ex_int {i : Int} {p : Int → Prop} : (∃ j, [D.int i] = [D.int j] ∧ p j) ↔ p i := by
  constructor
  · rintro ⟨x, e, h⟩
    cases e
    exact h
  · intro h
    exact ⟨i, rfl, h⟩
theorem ex_ints {i : Int} {p : Option Int → Prop} : (∃ j, D.int i = D.int j ∧ p (some j)) ↔ p (some i) := by
  constructor
  · rintro ⟨x, e, h⟩
    cases e
    exact h
  · intro h
    exact ⟨i, rfl, h⟩
theorem ex_intp {i : Int} {p : Int → Prop} : (∃ j, D.int i = D.int j ∧ p j) ↔ p i := by
  constructor
  · rintro ⟨x, e, h⟩
    cases e
    exact h
  · intro h
    exact ⟨i, rfl, h⟩
theorem ex_int2 {i j : Int} {p : Int → Int → Prop} : (∃ x y, [D.int i, D.int j] = [D.int x, D.int y] ∧ p x y) ↔ p i j := by
  constructor
  · rintro ⟨x, y, e, h⟩
    cases e
    exact h
  · intro h
    exact ⟨i, j, rfl, h⟩
theorem start1 {n : Nat} {a : D} : DL.start (n + 1) [a] = some a :: List.replicate n none := by simp [DL.start]
theorem start2 {n : Nat} {a b : D} : DL.start (n + 2) [a, b] = some a :: some b :: List.replicate n none := by simp [DL.start]
theorem start3 {n : Nat} {a b c : D} : DL.start (n + 3) [a, b, c] = some a :: some b :: some c :: List.replicate n none := by simp [DL.start]
theorem sz_line {n : Nat} (h : n ≤ 100) : n ≤ sizeLine := Nat.le_trans h (by decide)
theorem ltl0 : (0 < sizeLine) = True := eq_true (sz_line (n := 1) (by decide))
theorem ltl1 : (1 < sizeLine) = True := eq_true (sz_line (n := 2) (by decide))
theorem ltl2 : (2 < sizeLine) = True := eq_true (sz_line (n := 3) (by decide))
theorem ltl3 : (3 < sizeLine) = True := eq_true (sz_line (n := 4) (by decide))
theorem ltl4 : (4 < sizeLine) = True := eq_true (sz_line (n := 5) (by decide))
theorem ltl5 : (5 < sizeLine) = True := eq_true (sz_line (n := 6) (by decide))
theorem szl0 : (0 ≤ sizeLine) = True := eq_true (sz_line (by decide))
theorem szl1 : (1 ≤ sizeLine) = True := eq_true (sz_line (by decide))
theorem szl2 : (2 ≤ sizeLine) = True := eq_true (sz_line (by decide))
theorem szl3 : (3 ≤ sizeLine) = True := eq_true (sz_line (by decide))
theorem szl4 : (4 ≤ sizeLine) = True := eq_true (sz_line (by decide))
theorem szl5 : (5 ≤ sizeLine) = True := eq_true (sz_line (by decide))
theorem szl6 : (6 ≤ sizeLine) = True := eq_true (sz_line (by decide))
theorem szl7 : (7 ≤ sizeLine) = True := eq_true (sz_line (by decide))
theorem szl8 : (8 ≤ sizeLine) = True := eq_true (sz_line (by decide))
theorem ex_tup {xs : List D} {p : List D → Prop} : (∃ ds, D.tup xs = D.tup ds ∧ p ds) ↔ p xs := by
  constructor
  · rintro ⟨x, e, h⟩
    cases e
    exact h
  · intro h
    exact ⟨xs, rfl, h⟩
theorem ex_tupb {l h : Rat} {p : List D → Prop} : (∃ ds, bx l h = D.tup ds ∧ p ds) ↔ p [fr l, fr h] := ex_tup
theorem ex_lst {xs : List D} {p : List D → Prop} : (∃ ds, D.lst xs = D.lst ds ∧ p ds) ↔ p xs := by
  constructor
  · rintro ⟨x, e, h⟩
    cases e
    exact h
  · intro h
    exact ⟨xs, rfl, h⟩
theorem htup2 {g k : TGD} {a b : D} {τ : DSt} {M : Mm} {P : DSt → Mm → Prop} : hTup 2 (hCons g (hCons k hNil)) (.tup [a, b]) τ M P ↔ g a τ M fun τ1 M1 => k b τ1 M1 P := by
  simp only [hTup, hCons, hNil, ex_tup, List.length_cons, List.length_nil, true_and]
  constructor
  · rintro ⟨d, r, e, h⟩
    cases e
    refine cast ?_ h
    congr 1
    funext τ1 M1
    apply propext
    constructor
    · rintro ⟨d, r, e, h⟩
      cases e
      refine cast ?_ h
      congr 1
      funext τ1 M1
      simp
    · intro h
      refine ⟨b, [], rfl, cast ?_ h⟩
      congr 1
      funext τ1 M1
      simp
  · intro h
    refine ⟨a, [b], rfl, cast ?_ h⟩
    congr 1
    funext τ1 M1
    apply propext
    constructor
    · intro h
      refine ⟨b, [], rfl, cast ?_ h⟩
      congr 1
      funext τ1 M1
      simp
    · rintro ⟨d, r, e, h⟩
      cases e
      refine cast ?_ h
      congr 1
      funext τ1 M1
      simp
theorem htup2b {g k : TGD} {l h : Rat} {τ : DSt} {M : Mm} {P : DSt → Mm → Prop} : hTup 2 (hCons g (hCons k hNil)) (bx l h) τ M P ↔ g (fr l) τ M fun τ1 M1 => k (fr h) τ1 M1 P := htup2
theorem dix_t0 {x : D} {r : List D} {M : Mm} {P : QD} : dIx (.tup (x :: r)) (.int 0) M P ↔ P x M := by
  have e : atI (x :: r) 0 = some x := atI_nat (j := 0) rfl
  simp only [dIx, e, Option.some.injEq, exists_eq_left']
theorem dix_t1 {x y : D} {r : List D} {M : Mm} {P : QD} : dIx (.tup (x :: y :: r)) (.int 1) M P ↔ P y M := by
  have e : atI (x :: y :: r) 1 = some y := atI_nat (j := 1) rfl
  simp only [dIx, e, Option.some.injEq, exists_eq_left']
theorem dix_l0 {x : D} {r : List D} {M : Mm} {P : QD} : dIx (.lst (x :: r)) (.int 0) M P ↔ P x M := by
  have e : atI (x :: r) 0 = some x := atI_nat (j := 0) rfl
  simp only [dIx, e, Option.some.injEq, exists_eq_left']
theorem dix_fr0 {a : Rat} {M : Mm} {P : QD} : dIx (fr a) (.int 0) M P ↔ P (.int a.num) M := by unfold fr; exact dix_t0
theorem dix_fr1 {a : Rat} {M : Mm} {P : QD} : dIx (fr a) (.int 1) M P ↔ P (.int a.den) M := by unfold fr; exact dix_t1
theorem dix_bx0 {a b : Rat} {M : Mm} {P : QD} : dIx (bx a b) (.int 0) M P ↔ P (fr a) M := by unfold bx; exact dix_t0
theorem dix_bx1 {a b : Rat} {M : Mm} {P : QD} : dIx (bx a b) (.int 1) M P ↔ P (fr b) M := by unfold bx; exact dix_t1
theorem mk_bx {a b : Rat} : D.tup [fr a, fr b] = bx a b := rfl
theorem mk_fr0 : D.tup [.int 0, .int 1] = fr 0 := rfl
theorem mk_fr1 : D.tup [.int 1, .int 1] = fr 1 := rfl
theorem mk_neg {a : Rat} : D.tup [.int (0 - a.num), .int (a.den : Int)] = fr (-a) := by
  unfold fr
  rw [Rat.neg_num, Rat.neg_den, Int.zero_sub]
theorem mk_ab {a : Rat} : D.tup [.int (a.num.natAbs : Int), .int (a.den : Int)] = fr (ab a) := by
  unfold fr ab
  split
  · rename_i h
    rw [Rat.neg_num, Rat.neg_den]
    have := Rat.num_nonneg (q := a)
    rw [show (a.num.natAbs : Int) = -a.num by
      have : ¬ 0 ≤ a.num := fun z => by have := this.mp z; exact absurd h (Rat.not_lt.mpr this)
      omega]
  · rename_i h
    have h2 := Rat.num_nonneg.mpr (Rat.not_lt.mp h)
    rw [show (a.num.natAbs : Int) = a.num by omega]
theorem ex_f1 {x : Rat} {p : Rat → Prop} : (∃ a, fr x = fr a ∧ p a) ↔ p x := by
  constructor
  · rintro ⟨a, e, h⟩
    rw [fr_inj.mp e]; exact h
  · intro h
    exact ⟨x, rfl, h⟩
theorem ex_f2 {x y : Rat} {p : Rat → Rat → Prop} : (∃ a b, fr x = fr a ∧ fr y = fr b ∧ p a b) ↔ p x y := by
  constructor
  · rintro ⟨a, b, e, e', h⟩
    rw [fr_inj.mp e, fr_inj.mp e']; exact h
  · intro h
    exact ⟨x, y, rfl, rfl, h⟩
theorem ex_b1 {l h : Rat} {p : Rat → Rat → Prop} : (∃ a b, bx l h = bx a b ∧ p a b) ↔ p l h := by
  constructor
  · rintro ⟨a, b, e, q⟩
    obtain ⟨e1, e2⟩ := bx_inj.mp e
    rw [e1, e2]; exact q
  · intro q
    exact ⟨l, h, rfl, q⟩
theorem ex_b2 {l h l' h' : Rat} {p : Rat → Rat → Rat → Rat → Prop} : (∃ a b c d, bx l h = bx a b ∧ bx l' h' = bx c d ∧ p a b c d) ↔ p l h l' h' := by
  constructor
  · rintro ⟨a, b, c, d, e, e', q⟩
    obtain ⟨e1, e2⟩ := bx_inj.mp e
    obtain ⟨e3, e4⟩ := bx_inj.mp e'
    rw [e1, e2, e3, e4]; exact q
  · intro q
    exact ⟨l, h, l', h', rfl, rfl, q⟩
theorem two_fr {f : Rat → Rat → Rat} {a b : Rat} {M : Mm} {P : QD} {Y : XD} : sp_two f [fr a, fr b] M P Y ↔ SZ a ∧ SZ b ∧ P (fr (f a b)) M := ex_f2
theorem cmul {i j : Int} {n : Nat} (hn : n ≤ 60000000) (h1 : i.natAbs < 2 ^ n) (h2 : j.natAbs < 2 ^ n) : CMulX i j := by
  have a := PyProof.Rows.intBits_le h1
  have b := PyProof.Rows.intBits_le h2
  unfold CMulX
  omega
theorem cdiv {i j : Int} (h0 : j ≠ 0) (h : j.natAbs < 2 ^ 8999) : CDivX i j := ⟨h0, by
  have := (Nat.log2_lt (n := j.natAbs) (k := 8999) (by omega)).mpr h
  omega⟩
theorem dI (q : Rat) : ((q.den : Int)).natAbs = q.den := Int.natAbs_natCast _
theorem d0 (q : Rat) : (q.den : Int) ≠ 0 := by have := q.den_pos; omega
theorem dP (q : Rat) : 0 < (q.den : Int) := by have := q.den_pos; omega
/-- small numbers of fractions -/
theorem SZ.n {q : Rat} (h : SZ q) : q.num.natAbs < 2 ^ 20000 := Nat.lt_of_lt_of_le h.1 (Nat.pow_le_pow_right (by decide) (by decide))
theorem SZ.d {q : Rat} (h : SZ q) : (q.den : Int).natAbs < 2 ^ 20000 := by rw [dI]; exact Nat.lt_of_lt_of_le h.2 (Nat.pow_le_pow_right (by decide) (by decide))
theorem nm {i j : Int} {n m k : Nat} (h1 : i.natAbs < 2 ^ n) (h2 : j.natAbs < 2 ^ m) (h : n + m ≤ k) : (i * j).natAbs < 2 ^ k := by
  rw [Int.natAbs_mul]
  exact Nat.lt_of_lt_of_le (mul_lt_pow h1 h2) (Nat.pow_le_pow_right (by decide) h)
/-! ### isinstance -/
def isIB : D → Bool
  | .int _ => true
  | .bl _ => true
  | _ => false
def isB : D → Bool
  | .bl _ => true
  | _ => false
def isT : D → Bool
  | .tup _ => true
  | _ => false
theorem isi_int {x : D} {M : Mm} {P : QD} (h : (tyD x).isSome = true) (q : P (.bl (isIB x)) M) : dIsi [x, .ty "int"] M P := by
  cases x <;> first | (refine ⟨_, _, _, _, rfl, rfl, ?_, q⟩; simp only [isIB]; decide +kernel) | (simp [tyD] at h)
theorem isi_bool {x : D} {M : Mm} {P : QD} (h : (tyD x).isSome = true) (q : P (.bl (isB x)) M) : dIsi [x, .ty "bool"] M P := by
  cases x <;> first | (refine ⟨_, _, _, _, rfl, rfl, ?_, q⟩; simp only [isB]; decide +kernel) | (simp [tyD] at h)
theorem isi_tuple {x : D} {M : Mm} {P : QD} (h : (tyD x).isSome = true) (q : P (.bl (isT x)) M) : dIsi [x, .ty "tuple"] M P := by
  cases x <;> first | (refine ⟨_, _, _, _, rfl, rfl, ?_, q⟩; simp only [isT]; decide +kernel) | (simp [tyD] at h)
theorem fmod_small (a : Int) {b : Int} (h : b ≠ 0) : (a.fmod b).natAbs < b.natAbs := by
  rw [Int.fmod_eq_emod]
  have h1 := Int.emod_nonneg a h
  have h2 := Int.emod_lt a h
  split
  · omega
  · rename_i z
    have h3 : a % b ≠ 0 := fun e => z (.inr (Int.dvd_of_emod_eq_zero e))
    omega
theorem len_is_int : ∀ xs M P Y, sp_is_int xs M P Y → xs.length = 1 := by
  intro xs M P Y h
  unfold sp_is_int at h
  split at h
  · rfl
  · exact h.elim
theorem rd_is_int : ∀ xs M P Y, sp_is_int xs M P Y → t_is_int { nx := fun _ M' => P .non M', rt := P, ex := fun c _ M' => Y c M' } (DL.start 1 xs) M := by
  intro xs M P Y h
  unfold sp_is_int at h
  split at h
  rotate_left
  · exact h.elim
  rename_i x
  unfold t_is_int
  obtain ⟨⟨ht, _⟩, q⟩ := h
  simp only [dSeq, dLt, dLe, dGt, dGe, dNext, dRet, dRetN, dDrop, dIfS, dAsg, dPar, dPar3, hName, dIf, dTest, dNot, dAnd, dOr, dAndV, dOrV, dNotV, dUn, dNeg, dOp, dFn, dCall, dCons, dNil, dC, dvar_eq, dTup, dLstS, dLstC, dChain, dRaise, dSettle, dApp, htup2, htup2b, ex_tup, ex_tupb, ex_lst, dAdd, dSub, dMul, dFdiv, dMod, dPow, dShl, dCmpI, dIsN, dNotN, dIsB, dNotB, isNon, dix_fr0, dix_fr1, dix_bx0, dix_bx1, dix_t0, dix_t1, dix_l0, mk_bx, mk_neg, mk_ab, ex_f1, ex_f2, ex_b1, ex_b2, two_fr, dAbs, dAug, dIpAdd, dFor, forD, dRng1, dItT, dItL, dSl, dSlL, dNoPart, dPart, dInt1, DL.start, List.map_cons, List.map_nil, List.cons_append, List.nil_append, List.length_cons, List.length_nil, List.replicate, List.replicate_zero, Nat.sub_self, Nat.reduceSub, Nat.reduceAdd, Nat.zero_add, List.set_cons_zero, List.set_cons_succ, List.getElem?_cons_zero, List.getElem?_cons_succ, List.append_nil, true_and, szl0, szl1, szl2, szl3, szl4, szl5, szl6, szl7, szl8, ltl0, ltl1, ltl2, ltl3, ltl4, ltl5, ex_some, ex_bl, ex_two, ex_three, ex_int, ex_intp, ex_ints, ex_int2,  Bool.false_eq_true, if_true, if_false, Bool.not_true, Bool.not_false, reduceIte]
  refine isi_int ht ⟨_, rfl, ?_⟩
  cases x <;> first | exact q | (simp only [isIB, if_true]; exact isi_bool ht ⟨_, rfl, q⟩)
theorem len_is_within : ∀ xs M P Y, sp_is_within xs M P Y → xs.length = 3 := by
  intro xs M P Y h
  unfold sp_is_within at h
  split at h
  · rfl
  · exact h.elim
theorem rd_is_within : ∀ xs M P Y, sp_is_within xs M P Y → t_is_within { nx := fun _ M' => P .non M', rt := P, ex := fun c _ M' => Y c M' } (DL.start 3 xs) M := by
  intro xs M P Y h
  unfold sp_is_within at h
  split at h
  rotate_left
  · exact h.elim
  rename_i x a b
  unfold t_is_within
  obtain ⟨ht, q⟩ := h
  simp only [dSeq, dLt, dLe, dGt, dGe, dNext, dRet, dRetN, dDrop, dIfS, dAsg, dPar, dPar3, hName, dIf, dTest, dNot, dAnd, dOr, dAndV, dOrV, dNotV, dUn, dNeg, dOp, dFn, dCall, dCons, dNil, dC, dvar_eq, dTup, dLstS, dLstC, dChain, dRaise, dSettle, dApp, htup2, htup2b, ex_tup, ex_tupb, ex_lst, dAdd, dSub, dMul, dFdiv, dMod, dPow, dShl, dCmpI, dIsN, dNotN, dIsB, dNotB, isNon, dix_fr0, dix_fr1, dix_bx0, dix_bx1, dix_t0, dix_t1, dix_l0, mk_bx, mk_neg, mk_ab, ex_f1, ex_f2, ex_b1, ex_b2, two_fr, dAbs, dAug, dIpAdd, dFor, forD, dRng1, dItT, dItL, dSl, dSlL, dNoPart, dPart, dInt1, DL.start, List.map_cons, List.map_nil, List.cons_append, List.nil_append, List.length_cons, List.length_nil, List.replicate, List.replicate_zero, Nat.sub_self, Nat.reduceSub, Nat.reduceAdd, Nat.zero_add, List.set_cons_zero, List.set_cons_succ, List.getElem?_cons_zero, List.getElem?_cons_succ, List.append_nil, true_and, szl0, szl1, szl2, szl3, szl4, szl5, szl6, szl7, szl8, ltl0, ltl1, ltl2, ltl3, ltl4, ltl5, ex_some, ex_bl, ex_two, ex_three, ex_int, ex_intp, ex_ints, ex_int2,  Bool.false_eq_true, if_true, if_false, Bool.not_true, Bool.not_false, reduceIte, sp_is_int]
  refine ⟨ht, ?_⟩
  cases x <;> first | exact q | skip
  rename_i i
  simp only [isI, if_true]
  simp only [inR] at q
  by_cases c : a ≤ i
  · simpa [c] using q
  · simpa [c] using q
theorem len_is_sized : ∀ xs M P Y, sp_is_sized xs M P Y → xs.length = 3 := by
  intro xs M P Y h
  unfold sp_is_sized at h
  split at h
  · rfl
  · exact h.elim
theorem rd_is_sized : ∀ xs M P Y, sp_is_sized xs M P Y → t_is_sized { nx := fun _ M' => P .non M', rt := P, ex := fun c _ M' => Y c M' } (DL.start 3 xs) M := by
  intro xs M P Y h
  unfold sp_is_sized at h
  split at h
  rotate_left
  · exact h.elim
  rename_i x a b
  unfold t_is_sized
  obtain ⟨ht, q⟩ := h
  simp only [dSeq, dLt, dLe, dGt, dGe, dNext, dRet, dRetN, dDrop, dIfS, dAsg, dPar, dPar3, hName, dIf, dTest, dNot, dAnd, dOr, dAndV, dOrV, dNotV, dUn, dNeg, dOp, dFn, dCall, dCons, dNil, dC, dvar_eq, dTup, dLstS, dLstC, dChain, dRaise, dSettle, dApp, htup2, htup2b, ex_tup, ex_tupb, ex_lst, dAdd, dSub, dMul, dFdiv, dMod, dPow, dShl, dCmpI, dIsN, dNotN, dIsB, dNotB, isNon, dix_fr0, dix_fr1, dix_bx0, dix_bx1, dix_t0, dix_t1, dix_l0, mk_bx, mk_neg, mk_ab, ex_f1, ex_f2, ex_b1, ex_b2, two_fr, dAbs, dAug, dIpAdd, dFor, forD, dRng1, dItT, dItL, dSl, dSlL, dNoPart, dPart, dInt1, DL.start, List.map_cons, List.map_nil, List.cons_append, List.nil_append, List.length_cons, List.length_nil, List.replicate, List.replicate_zero, Nat.sub_self, Nat.reduceSub, Nat.reduceAdd, Nat.zero_add, List.set_cons_zero, List.set_cons_succ, List.getElem?_cons_zero, List.getElem?_cons_succ, List.append_nil, true_and, szl0, szl1, szl2, szl3, szl4, szl5, szl6, szl7, szl8, ltl0, ltl1, ltl2, ltl3, ltl4, ltl5, ex_some, ex_bl, ex_two, ex_three, ex_int, ex_intp, ex_ints, ex_int2,  Bool.false_eq_true, if_true, if_false, Bool.not_true, Bool.not_false, reduceIte]
  refine isi_tuple ht.1 ⟨_, rfl, ?_⟩
  cases x <;> first | exact q | skip
  rename_i ds
  simp only [isT, if_true]
  refine ⟨_, ds.length, rfl, rfl, ?_⟩
  simp only [dSeq, dLt, dLe, dGt, dGe, dNext, dRet, dRetN, dDrop, dIfS, dAsg, dPar, dPar3, hName, dIf, dTest, dNot, dAnd, dOr, dAndV, dOrV, dNotV, dUn, dNeg, dOp, dFn, dCall, dCons, dNil, dC, dvar_eq, dTup, dLstS, dLstC, dChain, dRaise, dSettle, dApp, htup2, htup2b, ex_tup, ex_tupb, ex_lst, dAdd, dSub, dMul, dFdiv, dMod, dPow, dShl, dCmpI, dIsN, dNotN, dIsB, dNotB, isNon, dix_fr0, dix_fr1, dix_bx0, dix_bx1, dix_t0, dix_t1, dix_l0, mk_bx, mk_neg, mk_ab, ex_f1, ex_f2, ex_b1, ex_b2, two_fr, dAbs, dAug, dIpAdd, dFor, forD, dRng1, dItT, dItL, dSl, dSlL, dNoPart, dPart, dInt1, DL.start, List.map_cons, List.map_nil, List.cons_append, List.nil_append, List.length_cons, List.length_nil, List.replicate, List.replicate_zero, Nat.sub_self, Nat.reduceSub, Nat.reduceAdd, Nat.zero_add, List.set_cons_zero, List.set_cons_succ, List.getElem?_cons_zero, List.getElem?_cons_succ, List.append_nil, true_and, szl0, szl1, szl2, szl3, szl4, szl5, szl6, szl7, szl8, ltl0, ltl1, ltl2, ltl3, ltl4, ltl5, ex_some, ex_bl, ex_two, ex_three, ex_int, ex_intp, ex_ints, ex_int2,  Bool.false_eq_true, if_true, if_false, Bool.not_true, Bool.not_false, reduceIte]
  simp only [szR] at q
  by_cases c : a ≤ (ds.length : Int)
  · simpa [c] using q
  · simpa [c] using q
theorem len_divisor : ∀ xs M P Y, sp_divisor xs M P Y → xs.length = 2 := by
  intro xs M P Y h
  unfold sp_divisor at h
  split at h
  · rfl
  · exact h.elim
theorem rd_divisor : ∀ xs M P Y, sp_divisor xs M P Y → t_divisor { nx := fun _ M' => P .non M', rt := P, ex := fun c _ M' => Y c M' } (DL.start 2 xs) M := by
  intro xs M P Y h
  unfold sp_divisor at h
  split at h
  rotate_left
  · exact h.elim
  rename_i i j
  unfold t_divisor
  simp only [dSeq]
  refine ⟨fun (m : Nat) (τ : DSt) (M' : Mm) => ∃ a b : Int, τ = [some (.int a), some (.int b)] ∧ M' = M ∧ Int.gcd a b = Int.gcd i j ∧ m = b.natAbs, ⟨_, i, j, rfl, rfl, rfl, rfl⟩, ?_⟩
  rintro m τ M' ⟨a, b, rfl, rfl, hg, rfl⟩
  simp only [dSeq, dLt, dLe, dGt, dGe, dNext, dRet, dRetN, dDrop, dIfS, dAsg, dPar, dPar3, hName, dIf, dTest, dNot, dAnd, dOr, dAndV, dOrV, dNotV, dUn, dNeg, dOp, dFn, dCall, dCons, dNil, dC, dvar_eq, dTup, dLstS, dLstC, dChain, dRaise, dSettle, dApp, htup2, htup2b, ex_tup, ex_tupb, ex_lst, dAdd, dSub, dMul, dFdiv, dMod, dPow, dShl, dCmpI, dIsN, dNotN, dIsB, dNotB, isNon, dix_fr0, dix_fr1, dix_bx0, dix_bx1, dix_t0, dix_t1, dix_l0, mk_bx, mk_neg, mk_ab, ex_f1, ex_f2, ex_b1, ex_b2, two_fr, dAbs, dAug, dIpAdd, dFor, forD, dRng1, dItT, dItL, dSl, dSlL, dNoPart, dPart, dInt1, DL.start, List.map_cons, List.map_nil, List.cons_append, List.nil_append, List.length_cons, List.length_nil, List.replicate, List.replicate_zero, Nat.sub_self, Nat.reduceSub, Nat.reduceAdd, Nat.zero_add, List.set_cons_zero, List.set_cons_succ, List.getElem?_cons_zero, List.getElem?_cons_succ, List.append_nil, true_and, szl0, szl1, szl2, szl3, szl4, szl5, szl6, szl7, szl8, ltl0, ltl1, ltl2, ltl3, ltl4, ltl5, ex_some, ex_bl, ex_two, ex_three, ex_int, ex_intp, ex_ints, ex_int2,  Bool.false_eq_true, if_true, if_false, Bool.not_true, Bool.not_false, reduceIte, dNe]
  by_cases c : b = 0
  · subst c
    simp only [decide_true, Bool.not_true, Bool.false_eq_true, if_false]
    rw [Int.gcd_zero_right] at hg
    rw [hg]
    exact h
  · simp only [c, decide_false, Bool.not_false, if_true]
    refine ⟨c, _, ?_, b, a.fmod b, rfl, ?_, rfl⟩
    · exact fmod_small a c
    · rw [gcd_step c, hg]
theorem len_fraction : ∀ xs M P Y, sp_fraction xs M P Y → xs.length = 2 := by
  intro xs M P Y h
  unfold sp_fraction at h
  split at h
  · rfl
  · exact h.elim
theorem rd_fraction : ∀ xs M P Y, sp_fraction xs M P Y → t_fraction { nx := fun _ M' => P .non M', rt := P, ex := fun c _ M' => Y c M' } (DL.start 3 xs) M := by
  intro xs M P Y h
  unfold sp_fraction at h
  split at h
  rotate_left
  · exact h.elim
  rename_i n d
  unfold t_fraction
  obtain ⟨h0, hs, q⟩ := h
  simp only [dSeq, dLt, dLe, dGt, dGe, dNext, dRet, dRetN, dDrop, dIfS, dAsg, dPar, dPar3, hName, dIf, dTest, dNot, dAnd, dOr, dAndV, dOrV, dNotV, dUn, dNeg, dOp, dFn, dCall, dCons, dNil, dC, dvar_eq, dTup, dLstS, dLstC, dChain, dRaise, dSettle, dApp, htup2, htup2b, ex_tup, ex_tupb, ex_lst, dAdd, dSub, dMul, dFdiv, dMod, dPow, dShl, dCmpI, dIsN, dNotN, dIsB, dNotB, isNon, dix_fr0, dix_fr1, dix_bx0, dix_bx1, dix_t0, dix_t1, dix_l0, mk_bx, mk_neg, mk_ab, ex_f1, ex_f2, ex_b1, ex_b2, two_fr, dAbs, dAug, dIpAdd, dFor, forD, dRng1, dItT, dItL, dSl, dSlL, dNoPart, dPart, dInt1, DL.start, List.map_cons, List.map_nil, List.cons_append, List.nil_append, List.length_cons, List.length_nil, List.replicate, List.replicate_zero, Nat.sub_self, Nat.reduceSub, Nat.reduceAdd, Nat.zero_add, List.set_cons_zero, List.set_cons_succ, List.getElem?_cons_zero, List.getElem?_cons_succ, List.append_nil, true_and, szl0, szl1, szl2, szl3, szl4, szl5, szl6, szl7, szl8, ltl0, ltl1, ltl2, ltl3, ltl4, ltl5, ex_some, ex_bl, ex_two, ex_three, ex_int, ex_intp, ex_ints, ex_int2,  Bool.false_eq_true, if_true, if_false, Bool.not_true, Bool.not_false, reduceIte, sp_divisor]
  have ps := part_small (n := n) h0
  have e1 := frac_num (n := n) h0
  have e2 := frac_den (n := n) h0
  unfold fr at q
  rw [← e1, ← e2] at q
  have lg : ∀ x : Nat, x ≠ 0 → x < 2 ^ 8000 → x.log2 < 9000 := fun x hx hl => by
    have := (Nat.log2_lt hx).mpr (Nat.lt_of_lt_of_le hl (Nat.pow_le_pow_right (by decide) (by decide : 8000 ≤ 9000)))
    exact this
  generalize hK : (2:Nat) ^ 8000 = B at *
  by_cases c : 0 < d
  · simp only [c, decide_true, if_true] at q ⊢
    exact ⟨⟨by omega, by simpa using lg _ ps.1 (by omega)⟩, ⟨by omega, by simpa using lg _ ps.1 (by omega)⟩, q⟩
  · simp only [c, decide_false, if_false] at q ⊢
    exact ⟨⟨by omega, by simpa using lg _ ps.1 (by omega)⟩, ⟨by omega, by simpa using lg _ ps.1 (by omega)⟩, q⟩
end K07

set_option Elab.async false
set_option linter.all false
set_option maxRecDepth 100000
set_option maxHeartbeats 1000000
namespace K07
open PySem PySem.Spec PyProof.Rows L2 DL
theorem len_plus : ∀ xs M P Y, sp_plus xs M P Y → xs.length = 2 := by
  intro xs M P Y h
  unfold sp_plus sp_two at h
  split at h
  · rfl
  · exact h.elim
theorem rd_plus : ∀ xs M P Y, sp_plus xs M P Y → t_plus { nx := fun _ M' => P .non M', rt := P, ex := fun c _ M' => Y c M' } (DL.start 2 xs) M := by
  intro xs M P Y h
  unfold sp_plus sp_two at h
  split at h
  rotate_left
  · exact h.elim
  rename_i x y
  unfold t_plus
  obtain ⟨a, b, rfl, rfl, ha, hb, q⟩ := h
  simp only [dSeq, dLt, dLe, dGt, dGe, dNext, dRet, dRetN, dDrop, dIfS, dAsg, dPar, dPar3, hName, dIf, dTest, dNot, dAnd, dOr, dAndV, dOrV, dNotV, dUn, dNeg, dOp, dFn, dCall, dCons, dNil, dC, dvar_eq, dTup, dLstS, dLstC, dChain, dRaise, dSettle, dApp, htup2, htup2b, ex_tup, ex_tupb, ex_lst, dAdd, dSub, dMul, dFdiv, dMod, dPow, dShl, dCmpI, dIsN, dNotN, dIsB, dNotB, isNon, dix_fr0, dix_fr1, dix_bx0, dix_bx1, dix_t0, dix_t1, dix_l0, mk_bx, mk_neg, mk_ab, ex_f1, ex_f2, ex_b1, ex_b2, two_fr, dAbs, dAug, dIpAdd, dFor, forD, dRng1, dItT, dItL, dSl, dSlL, dNoPart, dPart, dInt1, DL.start, List.map_cons, List.map_nil, List.cons_append, List.nil_append, List.length_cons, List.length_nil, List.replicate, List.replicate_zero, Nat.sub_self, Nat.reduceSub, Nat.reduceAdd, Nat.zero_add, List.set_cons_zero, List.set_cons_succ, List.getElem?_cons_zero, List.getElem?_cons_succ, List.append_nil, true_and, szl0, szl1, szl2, szl3, szl4, szl5, szl6, szl7, szl8, ltl0, ltl1, ltl2, ltl3, ltl4, ltl5, ex_some, ex_bl, ex_two, ex_three, ex_int, ex_intp, ex_ints, ex_int2,  Bool.false_eq_true, if_true, if_false, Bool.not_true, Bool.not_false, reduceIte, sp_fraction]
  have e : Rat.divInt (a.num * b.den + b.num * a.den) (a.den * b.den) = a + b := by
    rw [← Rat.divInt_add_divInt a.num b.num (d0 a) (d0 b), Rat.num_divInt_den, Rat.num_divInt_den]
  rw [e]
  exact ⟨cmul (n := 20000) (by decide) ha.n hb.d, cmul (n := 20000) (by decide) hb.n ha.d, cmul (n := 20000) (by decide) ha.d hb.d, Int.mul_ne_zero (d0 a) (d0 b), nm (n := 2000) (m := 2000) (by rw [dI]; exact ha.2) (by rw [dI]; exact hb.2) (by decide), q⟩
theorem len_times : ∀ xs M P Y, sp_times xs M P Y → xs.length = 2 := by
  intro xs M P Y h
  unfold sp_times sp_two at h
  split at h
  · rfl
  · exact h.elim
theorem rd_times : ∀ xs M P Y, sp_times xs M P Y → t_times { nx := fun _ M' => P .non M', rt := P, ex := fun c _ M' => Y c M' } (DL.start 2 xs) M := by
  intro xs M P Y h
  unfold sp_times sp_two at h
  split at h
  rotate_left
  · exact h.elim
  rename_i x y
  unfold t_times
  obtain ⟨a, b, rfl, rfl, ha, hb, q⟩ := h
  simp only [dSeq, dLt, dLe, dGt, dGe, dNext, dRet, dRetN, dDrop, dIfS, dAsg, dPar, dPar3, hName, dIf, dTest, dNot, dAnd, dOr, dAndV, dOrV, dNotV, dUn, dNeg, dOp, dFn, dCall, dCons, dNil, dC, dvar_eq, dTup, dLstS, dLstC, dChain, dRaise, dSettle, dApp, htup2, htup2b, ex_tup, ex_tupb, ex_lst, dAdd, dSub, dMul, dFdiv, dMod, dPow, dShl, dCmpI, dIsN, dNotN, dIsB, dNotB, isNon, dix_fr0, dix_fr1, dix_bx0, dix_bx1, dix_t0, dix_t1, dix_l0, mk_bx, mk_neg, mk_ab, ex_f1, ex_f2, ex_b1, ex_b2, two_fr, dAbs, dAug, dIpAdd, dFor, forD, dRng1, dItT, dItL, dSl, dSlL, dNoPart, dPart, dInt1, DL.start, List.map_cons, List.map_nil, List.cons_append, List.nil_append, List.length_cons, List.length_nil, List.replicate, List.replicate_zero, Nat.sub_self, Nat.reduceSub, Nat.reduceAdd, Nat.zero_add, List.set_cons_zero, List.set_cons_succ, List.getElem?_cons_zero, List.getElem?_cons_succ, List.append_nil, true_and, szl0, szl1, szl2, szl3, szl4, szl5, szl6, szl7, szl8, ltl0, ltl1, ltl2, ltl3, ltl4, ltl5, ex_some, ex_bl, ex_two, ex_three, ex_int, ex_intp, ex_ints, ex_int2,  Bool.false_eq_true, if_true, if_false, Bool.not_true, Bool.not_false, reduceIte, sp_fraction]
  have e : Rat.divInt (a.num * b.num) (a.den * b.den) = a * b := by
    rw [← Rat.divInt_mul_divInt, Rat.num_divInt_den, Rat.num_divInt_den]
  rw [e]
  exact ⟨cmul (n := 20000) (by decide) ha.n hb.n, cmul (n := 20000) (by decide) ha.d hb.d, Int.mul_ne_zero (d0 a) (d0 b), nm (n := 2000) (m := 2000) (by rw [dI]; exact ha.2) (by rw [dI]; exact hb.2) (by decide), q⟩
theorem len_over : ∀ xs M P Y, sp_over xs M P Y → xs.length = 2 := by
  intro xs M P Y h
  unfold sp_over at h
  split at h
  · rfl
  · exact h.elim
theorem rd_over : ∀ xs M P Y, sp_over xs M P Y → t_over { nx := fun _ M' => P .non M', rt := P, ex := fun c _ M' => Y c M' } (DL.start 2 xs) M := by
  intro xs M P Y h
  unfold sp_over at h
  split at h
  rotate_left
  · exact h.elim
  rename_i x y
  unfold t_over
  obtain ⟨a, b, rfl, rfl, ha, hb, hz, q⟩ := h
  simp only [dSeq, dLt, dLe, dGt, dGe, dNext, dRet, dRetN, dDrop, dIfS, dAsg, dPar, dPar3, hName, dIf, dTest, dNot, dAnd, dOr, dAndV, dOrV, dNotV, dUn, dNeg, dOp, dFn, dCall, dCons, dNil, dC, dvar_eq, dTup, dLstS, dLstC, dChain, dRaise, dSettle, dApp, htup2, htup2b, ex_tup, ex_tupb, ex_lst, dAdd, dSub, dMul, dFdiv, dMod, dPow, dShl, dCmpI, dIsN, dNotN, dIsB, dNotB, isNon, dix_fr0, dix_fr1, dix_bx0, dix_bx1, dix_t0, dix_t1, dix_l0, mk_bx, mk_neg, mk_ab, ex_f1, ex_f2, ex_b1, ex_b2, two_fr, dAbs, dAug, dIpAdd, dFor, forD, dRng1, dItT, dItL, dSl, dSlL, dNoPart, dPart, dInt1, DL.start, List.map_cons, List.map_nil, List.cons_append, List.nil_append, List.length_cons, List.length_nil, List.replicate, List.replicate_zero, Nat.sub_self, Nat.reduceSub, Nat.reduceAdd, Nat.zero_add, List.set_cons_zero, List.set_cons_succ, List.getElem?_cons_zero, List.getElem?_cons_succ, List.append_nil, true_and, szl0, szl1, szl2, szl3, szl4, szl5, szl6, szl7, szl8, ltl0, ltl1, ltl2, ltl3, ltl4, ltl5, ex_some, ex_bl, ex_two, ex_three, ex_int, ex_intp, ex_ints, ex_int2,  Bool.false_eq_true, if_true, if_false, Bool.not_true, Bool.not_false, reduceIte, sp_fraction]
  have e : Rat.divInt (a.num * b.den) (a.den * b.num) = a / b := by
    rw [Rat.div_def, Rat.inv_def, ← Rat.divInt_mul_divInt, Rat.num_divInt_den]
  rw [e]
  exact ⟨cmul (n := 20000) (by decide) ha.n hb.d, cmul (n := 20000) (by decide) ha.d hb.n, Int.mul_ne_zero (d0 a) (fun z => hz (Rat.num_eq_zero.mp z)), nm (n := 2000) (m := 2000) (by rw [dI]; exact ha.2) hb.1 (by decide), q⟩
theorem len_turned : ∀ xs M P Y, sp_turned xs M P Y → xs.length = 1 := by
  intro xs M P Y h
  unfold sp_turned at h
  split at h
  · rfl
  · exact h.elim
theorem rd_turned : ∀ xs M P Y, sp_turned xs M P Y → t_turned { nx := fun _ M' => P .non M', rt := P, ex := fun c _ M' => Y c M' } (DL.start 1 xs) M := by
  intro xs M P Y h
  unfold sp_turned at h
  split at h
  rotate_left
  · exact h.elim
  rename_i x
  unfold t_turned
  obtain ⟨a, rfl, q⟩ := h
  simp only [dSeq, dLt, dLe, dGt, dGe, dNext, dRet, dRetN, dDrop, dIfS, dAsg, dPar, dPar3, hName, dIf, dTest, dNot, dAnd, dOr, dAndV, dOrV, dNotV, dUn, dNeg, dOp, dFn, dCall, dCons, dNil, dC, dvar_eq, dTup, dLstS, dLstC, dChain, dRaise, dSettle, dApp, htup2, htup2b, ex_tup, ex_tupb, ex_lst, dAdd, dSub, dMul, dFdiv, dMod, dPow, dShl, dCmpI, dIsN, dNotN, dIsB, dNotB, isNon, dix_fr0, dix_fr1, dix_bx0, dix_bx1, dix_t0, dix_t1, dix_l0, mk_bx, mk_neg, mk_ab, ex_f1, ex_f2, ex_b1, ex_b2, two_fr, dAbs, dAug, dIpAdd, dFor, forD, dRng1, dItT, dItL, dSl, dSlL, dNoPart, dPart, dInt1, DL.start, List.map_cons, List.map_nil, List.cons_append, List.nil_append, List.length_cons, List.length_nil, List.replicate, List.replicate_zero, Nat.sub_self, Nat.reduceSub, Nat.reduceAdd, Nat.zero_add, List.set_cons_zero, List.set_cons_succ, List.getElem?_cons_zero, List.getElem?_cons_succ, List.append_nil, true_and, szl0, szl1, szl2, szl3, szl4, szl5, szl6, szl7, szl8, ltl0, ltl1, ltl2, ltl3, ltl4, ltl5, ex_some, ex_bl, ex_two, ex_three, ex_int, ex_intp, ex_ints, ex_int2,  Bool.false_eq_true, if_true, if_false, Bool.not_true, Bool.not_false, reduceIte]
  exact q
theorem len_sized : ∀ xs M P Y, sp_sized xs M P Y → xs.length = 1 := by
  intro xs M P Y h
  unfold sp_sized at h
  split at h
  · rfl
  · exact h.elim
theorem rd_sized : ∀ xs M P Y, sp_sized xs M P Y → t_sized { nx := fun _ M' => P .non M', rt := P, ex := fun c _ M' => Y c M' } (DL.start 1 xs) M := by
  intro xs M P Y h
  unfold sp_sized at h
  split at h
  rotate_left
  · exact h.elim
  rename_i x
  unfold t_sized
  obtain ⟨a, rfl, q⟩ := h
  simp only [dSeq, dLt, dLe, dGt, dGe, dNext, dRet, dRetN, dDrop, dIfS, dAsg, dPar, dPar3, hName, dIf, dTest, dNot, dAnd, dOr, dAndV, dOrV, dNotV, dUn, dNeg, dOp, dFn, dCall, dCons, dNil, dC, dvar_eq, dTup, dLstS, dLstC, dChain, dRaise, dSettle, dApp, htup2, htup2b, ex_tup, ex_tupb, ex_lst, dAdd, dSub, dMul, dFdiv, dMod, dPow, dShl, dCmpI, dIsN, dNotN, dIsB, dNotB, isNon, dix_fr0, dix_fr1, dix_bx0, dix_bx1, dix_t0, dix_t1, dix_l0, mk_bx, mk_neg, mk_ab, ex_f1, ex_f2, ex_b1, ex_b2, two_fr, dAbs, dAug, dIpAdd, dFor, forD, dRng1, dItT, dItL, dSl, dSlL, dNoPart, dPart, dInt1, DL.start, List.map_cons, List.map_nil, List.cons_append, List.nil_append, List.length_cons, List.length_nil, List.replicate, List.replicate_zero, Nat.sub_self, Nat.reduceSub, Nat.reduceAdd, Nat.zero_add, List.set_cons_zero, List.set_cons_succ, List.getElem?_cons_zero, List.getElem?_cons_succ, List.append_nil, true_and, szl0, szl1, szl2, szl3, szl4, szl5, szl6, szl7, szl8, ltl0, ltl1, ltl2, ltl3, ltl4, ltl5, ex_some, ex_bl, ex_two, ex_three, ex_int, ex_intp, ex_ints, ex_int2,  Bool.false_eq_true, if_true, if_false, Bool.not_true, Bool.not_false, reduceIte]
  exact q
theorem len_is_less : ∀ xs M P Y, sp_is_less xs M P Y → xs.length = 2 := by
  intro xs M P Y h
  unfold sp_is_less at h
  split at h
  · rfl
  · exact h.elim
theorem rd_is_less : ∀ xs M P Y, sp_is_less xs M P Y → t_is_less { nx := fun _ M' => P .non M', rt := P, ex := fun c _ M' => Y c M' } (DL.start 2 xs) M := by
  intro xs M P Y h
  unfold sp_is_less at h
  split at h
  rotate_left
  · exact h.elim
  rename_i a b c d
  unfold t_is_less
  obtain ⟨h1, h2, h3, h4, q⟩ := h
  simp only [dSeq, dLt, dLe, dGt, dGe, dNext, dRet, dRetN, dDrop, dIfS, dAsg, dPar, dPar3, hName, dIf, dTest, dNot, dAnd, dOr, dAndV, dOrV, dNotV, dUn, dNeg, dOp, dFn, dCall, dCons, dNil, dC, dvar_eq, dTup, dLstS, dLstC, dChain, dRaise, dSettle, dApp, htup2, htup2b, ex_tup, ex_tupb, ex_lst, dAdd, dSub, dMul, dFdiv, dMod, dPow, dShl, dCmpI, dIsN, dNotN, dIsB, dNotB, isNon, dix_fr0, dix_fr1, dix_bx0, dix_bx1, dix_t0, dix_t1, dix_l0, mk_bx, mk_neg, mk_ab, ex_f1, ex_f2, ex_b1, ex_b2, two_fr, dAbs, dAug, dIpAdd, dFor, forD, dRng1, dItT, dItL, dSl, dSlL, dNoPart, dPart, dInt1, DL.start, List.map_cons, List.map_nil, List.cons_append, List.nil_append, List.length_cons, List.length_nil, List.replicate, List.replicate_zero, Nat.sub_self, Nat.reduceSub, Nat.reduceAdd, Nat.zero_add, List.set_cons_zero, List.set_cons_succ, List.getElem?_cons_zero, List.getElem?_cons_succ, List.append_nil, true_and, szl0, szl1, szl2, szl3, szl4, szl5, szl6, szl7, szl8, ltl0, ltl1, ltl2, ltl3, ltl4, ltl5, ex_some, ex_bl, ex_two, ex_three, ex_int, ex_intp, ex_ints, ex_int2,  Bool.false_eq_true, if_true, if_false, Bool.not_true, Bool.not_false, reduceIte]
  exact ⟨cmul (by decide) h1 h4, cmul (by decide) h3 h2, q⟩
theorem less_fr {a b : Rat} {M : Mm} {P : QD} {Y : XD} (ha : SZ a) (hb : SZ b) : sp_is_less [fr a, fr b] M P Y ↔ P (.bl (decide (a < b))) M := by
  have e : decide (a.num * (b.den : Int) < b.num * a.den) = decide (a < b) := by
    rw [decide_eq_decide]
    exact (Rat.lt_iff a b).symm
  show (_ ∧ _ ∧ _ ∧ _ ∧ P (.bl (decide (a.num * (b.den : Int) < b.num * a.den))) M) ↔ _
  rw [e]
  exact ⟨fun z => z.2.2.2.2, fun z => ⟨ha.n, ha.d, hb.n, hb.d, z⟩⟩
theorem len_lesser : ∀ xs M P Y, sp_lesser xs M P Y → xs.length = 2 := by
  intro xs M P Y h
  unfold sp_lesser sp_two at h
  split at h
  · rfl
  · exact h.elim
theorem rd_lesser : ∀ xs M P Y, sp_lesser xs M P Y → t_lesser { nx := fun _ M' => P .non M', rt := P, ex := fun c _ M' => Y c M' } (DL.start 2 xs) M := by
  intro xs M P Y h
  unfold sp_lesser sp_two at h
  split at h
  rotate_left
  · exact h.elim
  rename_i x y
  unfold t_lesser
  obtain ⟨a, b, rfl, rfl, ha, hb, q⟩ := h
  simp only [dSeq, dLt, dLe, dGt, dGe, dNext, dRet, dRetN, dDrop, dIfS, dAsg, dPar, dPar3, hName, dIf, dTest, dNot, dAnd, dOr, dAndV, dOrV, dNotV, dUn, dNeg, dOp, dFn, dCall, dCons, dNil, dC, dvar_eq, dTup, dLstS, dLstC, dChain, dRaise, dSettle, dApp, htup2, htup2b, ex_tup, ex_tupb, ex_lst, dAdd, dSub, dMul, dFdiv, dMod, dPow, dShl, dCmpI, dIsN, dNotN, dIsB, dNotB, isNon, dix_fr0, dix_fr1, dix_bx0, dix_bx1, dix_t0, dix_t1, dix_l0, mk_bx, mk_neg, mk_ab, ex_f1, ex_f2, ex_b1, ex_b2, two_fr, dAbs, dAug, dIpAdd, dFor, forD, dRng1, dItT, dItL, dSl, dSlL, dNoPart, dPart, dInt1, DL.start, List.map_cons, List.map_nil, List.cons_append, List.nil_append, List.length_cons, List.length_nil, List.replicate, List.replicate_zero, Nat.sub_self, Nat.reduceSub, Nat.reduceAdd, Nat.zero_add, List.set_cons_zero, List.set_cons_succ, List.getElem?_cons_zero, List.getElem?_cons_succ, List.append_nil, true_and, szl0, szl1, szl2, szl3, szl4, szl5, szl6, szl7, szl8, ltl0, ltl1, ltl2, ltl3, ltl4, ltl5, ex_some, ex_bl, ex_two, ex_three, ex_int, ex_intp, ex_ints, ex_int2,  Bool.false_eq_true, if_true, if_false, Bool.not_true, Bool.not_false, reduceIte, less_fr ha hb]
  unfold mn at q
  by_cases c : a < b
  · simpa only [c, decide_true, if_true] using q
  · simp only [c, decide_false, if_false, Bool.false_eq_true] at q ⊢
    exact q
theorem len_greater : ∀ xs M P Y, sp_greater xs M P Y → xs.length = 2 := by
  intro xs M P Y h
  unfold sp_greater sp_two at h
  split at h
  · rfl
  · exact h.elim
theorem rd_greater : ∀ xs M P Y, sp_greater xs M P Y → t_greater { nx := fun _ M' => P .non M', rt := P, ex := fun c _ M' => Y c M' } (DL.start 2 xs) M := by
  intro xs M P Y h
  unfold sp_greater sp_two at h
  split at h
  rotate_left
  · exact h.elim
  rename_i x y
  unfold t_greater
  obtain ⟨a, b, rfl, rfl, ha, hb, q⟩ := h
  simp only [dSeq, dLt, dLe, dGt, dGe, dNext, dRet, dRetN, dDrop, dIfS, dAsg, dPar, dPar3, hName, dIf, dTest, dNot, dAnd, dOr, dAndV, dOrV, dNotV, dUn, dNeg, dOp, dFn, dCall, dCons, dNil, dC, dvar_eq, dTup, dLstS, dLstC, dChain, dRaise, dSettle, dApp, htup2, htup2b, ex_tup, ex_tupb, ex_lst, dAdd, dSub, dMul, dFdiv, dMod, dPow, dShl, dCmpI, dIsN, dNotN, dIsB, dNotB, isNon, dix_fr0, dix_fr1, dix_bx0, dix_bx1, dix_t0, dix_t1, dix_l0, mk_bx, mk_neg, mk_ab, ex_f1, ex_f2, ex_b1, ex_b2, two_fr, dAbs, dAug, dIpAdd, dFor, forD, dRng1, dItT, dItL, dSl, dSlL, dNoPart, dPart, dInt1, DL.start, List.map_cons, List.map_nil, List.cons_append, List.nil_append, List.length_cons, List.length_nil, List.replicate, List.replicate_zero, Nat.sub_self, Nat.reduceSub, Nat.reduceAdd, Nat.zero_add, List.set_cons_zero, List.set_cons_succ, List.getElem?_cons_zero, List.getElem?_cons_succ, List.append_nil, true_and, szl0, szl1, szl2, szl3, szl4, szl5, szl6, szl7, szl8, ltl0, ltl1, ltl2, ltl3, ltl4, ltl5, ex_some, ex_bl, ex_two, ex_three, ex_int, ex_intp, ex_ints, ex_int2,  Bool.false_eq_true, if_true, if_false, Bool.not_true, Bool.not_false, reduceIte, less_fr ha hb]
  unfold mx at q
  by_cases c : a < b
  · simpa only [c, decide_true, if_true] using q
  · simp only [c, decide_false, if_false, Bool.false_eq_true] at q ⊢
    exact q
theorem len_two_to : ∀ xs M P Y, sp_two_to xs M P Y → xs.length = 1 := by
  intro xs M P Y h
  unfold sp_two_to at h
  split at h
  · rfl
  · exact h.elim
theorem rd_two_to : ∀ xs M P Y, sp_two_to xs M P Y → t_two_to { nx := fun _ M' => P .non M', rt := P, ex := fun c _ M' => Y c M' } (DL.start 1 xs) M := by
  intro xs M P Y h
  unfold sp_two_to at h
  split at h
  rotate_left
  · exact h.elim
  rename_i k
  unfold t_two_to
  obtain ⟨h1, h2, q⟩ := h
  simp only [dSeq, dLt, dLe, dGt, dGe, dNext, dRet, dRetN, dDrop, dIfS, dAsg, dPar, dPar3, hName, dIf, dTest, dNot, dAnd, dOr, dAndV, dOrV, dNotV, dUn, dNeg, dOp, dFn, dCall, dCons, dNil, dC, dvar_eq, dTup, dLstS, dLstC, dChain, dRaise, dSettle, dApp, htup2, htup2b, ex_tup, ex_tupb, ex_lst, dAdd, dSub, dMul, dFdiv, dMod, dPow, dShl, dCmpI, dIsN, dNotN, dIsB, dNotB, isNon, dix_fr0, dix_fr1, dix_bx0, dix_bx1, dix_t0, dix_t1, dix_l0, mk_bx, mk_neg, mk_ab, ex_f1, ex_f2, ex_b1, ex_b2, two_fr, dAbs, dAug, dIpAdd, dFor, forD, dRng1, dItT, dItL, dSl, dSlL, dNoPart, dPart, dInt1, DL.start, List.map_cons, List.map_nil, List.cons_append, List.nil_append, List.length_cons, List.length_nil, List.replicate, List.replicate_zero, Nat.sub_self, Nat.reduceSub, Nat.reduceAdd, Nat.zero_add, List.set_cons_zero, List.set_cons_succ, List.getElem?_cons_zero, List.getElem?_cons_succ, List.append_nil, true_and, szl0, szl1, szl2, szl3, szl4, szl5, szl6, szl7, szl8, ltl0, ltl1, ltl2, ltl3, ltl4, ltl5, ex_some, ex_bl, ex_two, ex_three, ex_int, ex_intp, ex_ints, ex_int2,  Bool.false_eq_true, if_true, if_false, Bool.not_true, Bool.not_false, reduceIte]
  rw [Int.one_mul]
  exact ⟨⟨h1, by have : (Builtin.Int.intBits 1 : Int) = 1 := rfl; omega⟩, q⟩
theorem len_check_within {cl : Cls} : ∀ xs M P Y, sp_check_within cl xs M P Y → xs.length = 3 := by
  intro xs M P Y h
  unfold sp_check_within at h
  split at h
  · rfl
  · exact h.elim
theorem rd_check_within {cl : Cls} : ∀ xs M P Y, sp_check_within cl xs M P Y → t_check_within cl { nx := fun _ M' => P .non M', rt := P, ex := fun c _ M' => Y c M' } (DL.start 3 xs) M := by
  intro xs M P Y h
  unfold sp_check_within at h
  split at h
  rotate_left
  · exact h.elim
  rename_i x a b
  unfold t_check_within
  obtain ⟨h1, h2, h3⟩ := h
  simp only [dSeq, dLt, dLe, dGt, dGe, dNext, dRet, dRetN, dDrop, dIfS, dAsg, dPar, dPar3, hName, dIf, dTest, dNot, dAnd, dOr, dAndV, dOrV, dNotV, dUn, dNeg, dOp, dFn, dCall, dCons, dNil, dC, dvar_eq, dTup, dLstS, dLstC, dChain, dRaise, dSettle, dApp, htup2, htup2b, ex_tup, ex_tupb, ex_lst, dAdd, dSub, dMul, dFdiv, dMod, dPow, dShl, dCmpI, dIsN, dNotN, dIsB, dNotB, isNon, dix_fr0, dix_fr1, dix_bx0, dix_bx1, dix_t0, dix_t1, dix_l0, mk_bx, mk_neg, mk_ab, ex_f1, ex_f2, ex_b1, ex_b2, two_fr, dAbs, dAug, dIpAdd, dFor, forD, dRng1, dItT, dItL, dSl, dSlL, dNoPart, dPart, dInt1, DL.start, List.map_cons, List.map_nil, List.cons_append, List.nil_append, List.length_cons, List.length_nil, List.replicate, List.replicate_zero, Nat.sub_self, Nat.reduceSub, Nat.reduceAdd, Nat.zero_add, List.set_cons_zero, List.set_cons_succ, List.getElem?_cons_zero, List.getElem?_cons_succ, List.append_nil, true_and, szl0, szl1, szl2, szl3, szl4, szl5, szl6, szl7, szl8, ltl0, ltl1, ltl2, ltl3, ltl4, ltl5, ex_some, ex_bl, ex_two, ex_three, ex_int, ex_intp, ex_ints, ex_int2,  Bool.false_eq_true, if_true, if_false, Bool.not_true, Bool.not_false, reduceIte, sp_is_within]
  refine ⟨h1, ?_⟩
  cases c : inR x a b
  · simpa using h3 c
  · simpa using h2 c
end K07

set_option Elab.async false
set_option linter.all false
set_option maxRecDepth 100000
set_option maxHeartbeats 1000000
namespace K07
open PySem PySem.Spec PyProof.Rows L2 DL
theorem pow_odd (f b : Int) (m : Nat) : f * b * (b * b) ^ m = f * b ^ (2 * m + 1) := by
  rw [Int.pow_succ, Int.pow_mul, show b ^ 2 = b * b by rw [Int.pow_succ, Int.pow_succ, Int.pow_zero, Int.one_mul], Int.mul_assoc, Int.mul_comm b]
theorem pow_even (b : Int) (m : Nat) : (b * b) ^ m = b ^ (2 * m) := by
  rw [Int.pow_mul, show b ^ 2 = b * b by rw [Int.pow_succ, Int.pow_succ, Int.pow_zero, Int.one_mul]]
theorem len_power : ∀ xs M P Y, sp_power xs M P Y → xs.length = 2 := by
  intro xs M P Y h
  unfold sp_power at h
  split at h
  · rfl
  · exact h.elim
theorem rd_power : ∀ xs M P Y, sp_power xs M P Y → t_power { nx := fun _ M' => P .non M', rt := P, ex := fun c _ M' => Y c M' } (DL.start 3 xs) M := by
  intro xs M P Y h
  unfold sp_power at h
  split at h
  rotate_left
  · exact h.elim
  rename_i B K
  unfold t_power
  obtain ⟨h1, h2, h3, q⟩ := h
  obtain ⟨K, rfl⟩ := Int.eq_ofNat_of_zero_le h1
  simp only [dSeq, dLt, dLe, dGt, dGe, dNext, dRet, dRetN, dDrop, dIfS, dAsg, dPar, dPar3, hName, dIf, dTest, dNot, dAnd, dOr, dAndV, dOrV, dNotV, dUn, dNeg, dOp, dFn, dCall, dCons, dNil, dC, dvar_eq, dTup, dLstS, dLstC, dChain, dRaise, dSettle, dApp, htup2, htup2b, ex_tup, ex_tupb, ex_lst, dAdd, dSub, dMul, dFdiv, dMod, dPow, dShl, dCmpI, dIsN, dNotN, dIsB, dNotB, isNon, dix_fr0, dix_fr1, dix_bx0, dix_bx1, dix_t0, dix_t1, dix_l0, mk_bx, mk_neg, mk_ab, ex_f1, ex_f2, ex_b1, ex_b2, two_fr, dAbs, dAug, dIpAdd, dFor, forD, dRng1, dItT, dItL, dSl, dSlL, dNoPart, dPart, dInt1, DL.start, List.map_cons, List.map_nil, List.cons_append, List.nil_append, List.length_cons, List.length_nil, List.replicate, List.replicate_zero, Nat.sub_self, Nat.reduceSub, Nat.reduceAdd, Nat.zero_add, List.set_cons_zero, List.set_cons_succ, List.getElem?_cons_zero, List.getElem?_cons_succ, List.append_nil, true_and, szl0, szl1, szl2, szl3, szl4, szl5, szl6, szl7, szl8, ltl0, ltl1, ltl2, ltl3, ltl4, ltl5, ex_some, ex_bl, ex_two, ex_three, ex_int, ex_intp, ex_ints, ex_int2,  Bool.false_eq_true, if_true, if_false, Bool.not_true, Bool.not_false, reduceIte]
  refine ⟨fun (m : Nat) (τ : DSt) (M' : Mm) => ∃ (b f : Int) (n c v : Nat), τ = [some (.int b), some (.int (n : Int)), some (.int f)] ∧ M' = M ∧ m = n ∧ f * b ^ n = B ^ K ∧ b.natAbs < 2 ^ c ∧ f.natAbs < 2 ^ v ∧ v + c * n ≤ 320001 ∧ 1 ≤ v,
    ⟨_, B, 1, K, 20000, 1, rfl, rfl, rfl, by rw [Int.one_mul], h3, by decide, by omega, by decide⟩, ?_⟩
  rintro m τ M' ⟨b, f, n, c, v, rfl, rfl, hmn, he, hb, hf, hc, hv⟩
  simp only [dSeq, dLt, dLe, dGt, dGe, dNext, dRet, dRetN, dDrop, dIfS, dAsg, dPar, dPar3, hName, dIf, dTest, dNot, dAnd, dOr, dAndV, dOrV, dNotV, dUn, dNeg, dOp, dFn, dCall, dCons, dNil, dC, dvar_eq, dTup, dLstS, dLstC, dChain, dRaise, dSettle, dApp, htup2, htup2b, ex_tup, ex_tupb, ex_lst, dAdd, dSub, dMul, dFdiv, dMod, dPow, dShl, dCmpI, dIsN, dNotN, dIsB, dNotB, isNon, dix_fr0, dix_fr1, dix_bx0, dix_bx1, dix_t0, dix_t1, dix_l0, mk_bx, mk_neg, mk_ab, ex_f1, ex_f2, ex_b1, ex_b2, two_fr, dAbs, dAug, dIpAdd, dFor, forD, dRng1, dItT, dItL, dSl, dSlL, dNoPart, dPart, dInt1, DL.start, List.map_cons, List.map_nil, List.cons_append, List.nil_append, List.length_cons, List.length_nil, List.replicate, List.replicate_zero, Nat.sub_self, Nat.reduceSub, Nat.reduceAdd, Nat.zero_add, List.set_cons_zero, List.set_cons_succ, List.getElem?_cons_zero, List.getElem?_cons_succ, List.append_nil, true_and, szl0, szl1, szl2, szl3, szl4, szl5, szl6, szl7, szl8, ltl0, ltl1, ltl2, ltl3, ltl4, ltl5, ex_some, ex_bl, ex_two, ex_three, ex_int, ex_intp, ex_ints, ex_int2,  Bool.false_eq_true, if_true, if_false, Bool.not_true, Bool.not_false, reduceIte, dEq]
  by_cases hn : 0 < (n : Int)
  · simp only [hn, decide_true, if_true]
    have e1 : ((n : Int).fmod 2) = ((n % 2 : Nat) : Int) := by rw [Int.fmod_eq_emod_of_nonneg _ (by decide)]; omega
    have e2 : ((n : Int).fdiv 2) = ((n / 2 : Nat) : Int) := by rw [Int.fdiv_eq_ediv_of_nonneg _ (by decide)]; omega
    rw [e1, e2]
    have cn : c ≤ c * n := Nat.le_mul_of_pos_right c (by omega)
    have big : ∀ {x : Int} {k : Nat}, x.natAbs < 2 ^ k → k ≤ 320001 → x.natAbs < 2 ^ 320001 := fun h l => Nat.lt_of_lt_of_le h (Nat.pow_le_pow_right (by decide) l)
    have c1 := cmul (n := 320001) (by decide) (big hf (by omega)) (big hb (by omega))
    have c2 := cmul (n := 320001) (by decide) (big hb (by omega)) (big hb (by omega))
    have dv : CDivX (n : Int) 2 := ⟨by decide, by decide⟩
    have b2 : (b * b).natAbs < 2 ^ (2 * c) := nm hb hb (by omega)
    by_cases ho : n % 2 = 1
    · have z1 : ((n % 2 : Nat) : Int) = 1 := by omega
      simp only [z1, decide_true, if_true]
      refine ⟨by decide, c1, c2, dv, n / 2, by omega, b * b, f * b, n / 2, 2 * c, v + c, rfl, rfl, ?_, b2, nm hf hb (by omega), ?_, by omega⟩
      · rw [← he, pow_odd]
        congr 2
        omega
      · have : 2 * c * (n / 2) + c = c * n := by
          have z : n = 2 * (n / 2) + 1 := by omega
          conv => rhs; rw [z, Nat.mul_add, Nat.mul_one]
          rw [Nat.mul_comm 2 c, Nat.mul_assoc]
        omega
    · have ho2 : n % 2 = 0 := by omega
      have z1 : ((n % 2 : Nat) : Int) = 0 := by omega
      simp only [z1]
      refine ⟨by decide, ?_⟩
      simp only [show decide ((0:Int) = 1) = false from rfl, Bool.false_eq_true, if_false]
      refine ⟨c2, dv, n / 2, by omega, b * b, f, n / 2, 2 * c, v, rfl, rfl, ?_, b2, hf, ?_, hv⟩
      · rw [← he, pow_even]
        congr 2
        omega
      · have : 2 * c * (n / 2) = c * n := by
          have z : n = 2 * (n / 2) := by omega
          conv => rhs; rw [z]
          rw [Nat.mul_comm 2 c, Nat.mul_assoc]
        omega
  · simp only [hn, decide_false, Bool.false_eq_true, if_false]
    have z : n = 0 := by omega
    subst z
    rw [Int.pow_zero, Int.mul_one] at he
    rw [he]
    exact q
theorem len_raised : ∀ xs M P Y, sp_raised xs M P Y → xs.length = 2 := by
  intro xs M P Y h
  unfold sp_raised at h
  split at h
  · rfl
  · exact h.elim
theorem rd_raised : ∀ xs M P Y, sp_raised xs M P Y → t_raised { nx := fun _ M' => P .non M', rt := P, ex := fun c _ M' => Y c M' } (DL.start 2 xs) M := by
  intro xs M P Y h
  unfold sp_raised at h
  split at h
  rotate_left
  · exact h.elim
  rename_i x k
  unfold t_raised
  obtain ⟨a, rfl, h1, h2, ha, q⟩ := h
  simp only [dSeq, dLt, dLe, dGt, dGe, dNext, dRet, dRetN, dDrop, dIfS, dAsg, dPar, dPar3, hName, dIf, dTest, dNot, dAnd, dOr, dAndV, dOrV, dNotV, dUn, dNeg, dOp, dFn, dCall, dCons, dNil, dC, dvar_eq, dTup, dLstS, dLstC, dChain, dRaise, dSettle, dApp, htup2, htup2b, ex_tup, ex_tupb, ex_lst, dAdd, dSub, dMul, dFdiv, dMod, dPow, dShl, dCmpI, dIsN, dNotN, dIsB, dNotB, isNon, dix_fr0, dix_fr1, dix_bx0, dix_bx1, dix_t0, dix_t1, dix_l0, mk_bx, mk_neg, mk_ab, ex_f1, ex_f2, ex_b1, ex_b2, two_fr, dAbs, dAug, dIpAdd, dFor, forD, dRng1, dItT, dItL, dSl, dSlL, dNoPart, dPart, dInt1, DL.start, List.map_cons, List.map_nil, List.cons_append, List.nil_append, List.length_cons, List.length_nil, List.replicate, List.replicate_zero, Nat.sub_self, Nat.reduceSub, Nat.reduceAdd, Nat.zero_add, List.set_cons_zero, List.set_cons_succ, List.getElem?_cons_zero, List.getElem?_cons_succ, List.append_nil, true_and, szl0, szl1, szl2, szl3, szl4, szl5, szl6, szl7, szl8, ltl0, ltl1, ltl2, ltl3, ltl4, ltl5, ex_some, ex_bl, ex_two, ex_three, ex_int, ex_intp, ex_ints, ex_int2,  Bool.false_eq_true, if_true, if_false, Bool.not_true, Bool.not_false, reduceIte, sp_power]
  have e : D.tup [.int (a.num ^ k.toNat), .int ((a.den : Int) ^ k.toNat)] = fr (a ^ k.toNat) := by
    unfold fr
    rw [Rat.num_pow, Rat.den_pow]
    simp
  rw [e]
  exact ⟨h1, h2, ha.n, h1, h2, ha.d, q⟩
theorem powD {b k : Int} {M : Mm} {P : QD} {Y : XD} (h1 : 0 ≤ k) (h2 : k ≤ 16) (h3 : b.natAbs < 2 ^ 20000) : sp_power [.int b, .int k] M P Y ↔ P (.int (b ^ k.toNat)) M :=
  ⟨fun z => z.2.2.2, fun z => ⟨h1, h2, h3, z⟩⟩
theorem halfs (a b : Int) : (a + b).fdiv 2 = (a + b) / 2 := Int.fdiv_eq_ediv_of_nonneg _ (by decide)
theorem pow_small {a : Int} {n : Nat} (h0 : 0 ≤ a) (h : a < 2 ^ n) : a.natAbs < 2 ^ n := by
  have z : ((a.natAbs : Nat) : Int) < ((2 ^ n : Nat) : Int) := by
    rw [Int.natCast_pow]
    have : ((a.natAbs : Nat) : Int) = a := by omega
    rw [this]
    exact h
  exact_mod_cast z
theorem len_root_down : ∀ xs M P Y, sp_root_down xs M P Y → xs.length = 2 := by
  intro xs M P Y h
  unfold sp_root_down at h
  split at h
  · rfl
  · exact h.elim
theorem rd_root_down : ∀ xs M P Y, sp_root_down xs M P Y → t_root_down { nx := fun _ M' => P .non M', rt := P, ex := fun c _ M' => Y c M' } (DL.start 5 xs) M := by
  intro xs M P Y h
  unfold sp_root_down at h
  split at h
  rotate_left
  · exact h.elim
  rename_i n K
  unfold t_root_down
  obtain ⟨h1, h2, h3, h4, q⟩ := h
  obtain ⟨k, rfl⟩ := Int.eq_ofNat_of_zero_le (by omega : 0 ≤ K)
  have hk : 1 ≤ k := by omega
  have h4' : (k : Int) ≤ 16 := h4
  rw [Int.toNat_natCast] at q
  have big : ∀ a : Int, 0 ≤ a → a ≤ 2 * n + 2 → a.natAbs < 2 ^ 20000 := fun a z0 z1 => by
    refine Nat.lt_of_lt_of_le (pow_small (n := 10003) z0 ?_) (Nat.pow_le_pow_right (by decide) (by decide))
    have e : (2:Int) ^ 10003 = 8 * 2 ^ 10000 := by rw [show 10003 = 10000 + 3 from rfl, Int.pow_add, Int.mul_comm]; rfl
    rw [e]
    generalize (2:Int) ^ 10000 = B at *
    omega
  simp only [dSeq, dLt, dLe, dGt, dGe, dNext, dRet, dRetN, dDrop, dIfS, dAsg, dPar, dPar3, hName, dIf, dTest, dNot, dAnd, dOr, dAndV, dOrV, dNotV, dUn, dNeg, dOp, dFn, dCall, dCons, dNil, dC, dvar_eq, dTup, dLstS, dLstC, dChain, dRaise, dSettle, dApp, htup2, htup2b, ex_tup, ex_tupb, ex_lst, dAdd, dSub, dMul, dFdiv, dMod, dPow, dShl, dCmpI, dIsN, dNotN, dIsB, dNotB, isNon, dix_fr0, dix_fr1, dix_bx0, dix_bx1, dix_t0, dix_t1, dix_l0, mk_bx, mk_neg, mk_ab, ex_f1, ex_f2, ex_b1, ex_b2, two_fr, dAbs, dAug, dIpAdd, dFor, forD, dRng1, dItT, dItL, dSl, dSlL, dNoPart, dPart, dInt1, DL.start, List.map_cons, List.map_nil, List.cons_append, List.nil_append, List.length_cons, List.length_nil, List.replicate, List.replicate_zero, Nat.sub_self, Nat.reduceSub, Nat.reduceAdd, Nat.zero_add, List.set_cons_zero, List.set_cons_succ, List.getElem?_cons_zero, List.getElem?_cons_succ, List.append_nil, true_and, szl0, szl1, szl2, szl3, szl4, szl5, szl6, szl7, szl8, ltl0, ltl1, ltl2, ltl3, ltl4, ltl5, ex_some, ex_bl, ex_two, ex_three, ex_int, ex_intp, ex_ints, ex_int2,  Bool.false_eq_true, if_true, if_false, Bool.not_true, Bool.not_false, reduceIte]
  refine ⟨fun (m : Nat) (τ : DSt) (M' : Mm) => ∃ (b : Int), τ = [some (.int n), some (.int (k : Int)), some (.int 0), some (.int b), none] ∧ M' = M ∧ 1 ≤ b ∧ b ≤ 2 * n + 1 ∧ m = (2 * n + 1 - b).toNat, ⟨_, 1, rfl, rfl, by decide, by omega, rfl⟩, ?_⟩
  rintro m τ M' ⟨b, rfl, rfl, hb1, hb2, rfl⟩
  simp only [dSeq, dLt, dLe, dGt, dGe, dNext, dRet, dRetN, dDrop, dIfS, dAsg, dPar, dPar3, hName, dIf, dTest, dNot, dAnd, dOr, dAndV, dOrV, dNotV, dUn, dNeg, dOp, dFn, dCall, dCons, dNil, dC, dvar_eq, dTup, dLstS, dLstC, dChain, dRaise, dSettle, dApp, htup2, htup2b, ex_tup, ex_tupb, ex_lst, dAdd, dSub, dMul, dFdiv, dMod, dPow, dShl, dCmpI, dIsN, dNotN, dIsB, dNotB, isNon, dix_fr0, dix_fr1, dix_bx0, dix_bx1, dix_t0, dix_t1, dix_l0, mk_bx, mk_neg, mk_ab, ex_f1, ex_f2, ex_b1, ex_b2, two_fr, dAbs, dAug, dIpAdd, dFor, forD, dRng1, dItT, dItL, dSl, dSlL, dNoPart, dPart, dInt1, DL.start, List.map_cons, List.map_nil, List.cons_append, List.nil_append, List.length_cons, List.length_nil, List.replicate, List.replicate_zero, Nat.sub_self, Nat.reduceSub, Nat.reduceAdd, Nat.zero_add, List.set_cons_zero, List.set_cons_succ, List.getElem?_cons_zero, List.getElem?_cons_succ, List.append_nil, true_and, szl0, szl1, szl2, szl3, szl4, szl5, szl6, szl7, szl8, ltl0, ltl1, ltl2, ltl3, ltl4, ltl5, ex_some, ex_bl, ex_two, ex_three, ex_int, ex_intp, ex_ints, ex_int2,  Bool.false_eq_true, if_true, if_false, Bool.not_true, Bool.not_false, reduceIte, powD (k := (k : Int)) (by omega) h4' (big b (by omega) (by omega)), Int.toNat_natCast]
  by_cases hp : b ^ k ≤ n
  · simp only [hp, decide_true, if_true]
    have hl := self_le_pow (a := b) (by omega) k hk
    exact ⟨cmul (n := 20000) (by decide) (by decide) (big b (by omega) (by omega)), _, by omega, 2 * b, rfl, by omega, by omega, rfl⟩
  · simp only [hp, decide_false, Bool.false_eq_true, if_false]
    refine ⟨fun (m : Nat) (τ : DSt) (M2 : Mm) => ∃ (a b : Int) (d : Option D), τ = [some (.int n), some (.int (k : Int)), some (.int a), some (.int b), d] ∧ M2 = M' ∧ 0 ≤ a ∧ a < b ∧ b ≤ 2 * n + 1 ∧ a ^ k ≤ n ∧ n < b ^ k ∧ m = (b - a).toNat,
      ⟨_, 0, b, none, rfl, rfl, by decide, by omega, by omega, by rw [Int.zero_pow (by omega)]; exact h1, by omega, rfl⟩, ?_⟩
    rintro m τ M2 ⟨a, b, d, rfl, rfl, ha, hab, hb, hak, hbk, rfl⟩
    simp only [dSeq, dLt, dLe, dGt, dGe, dNext, dRet, dRetN, dDrop, dIfS, dAsg, dPar, dPar3, hName, dIf, dTest, dNot, dAnd, dOr, dAndV, dOrV, dNotV, dUn, dNeg, dOp, dFn, dCall, dCons, dNil, dC, dvar_eq, dTup, dLstS, dLstC, dChain, dRaise, dSettle, dApp, htup2, htup2b, ex_tup, ex_tupb, ex_lst, dAdd, dSub, dMul, dFdiv, dMod, dPow, dShl, dCmpI, dIsN, dNotN, dIsB, dNotB, isNon, dix_fr0, dix_fr1, dix_bx0, dix_bx1, dix_t0, dix_t1, dix_l0, mk_bx, mk_neg, mk_ab, ex_f1, ex_f2, ex_b1, ex_b2, two_fr, dAbs, dAug, dIpAdd, dFor, forD, dRng1, dItT, dItL, dSl, dSlL, dNoPart, dPart, dInt1, DL.start, List.map_cons, List.map_nil, List.cons_append, List.nil_append, List.length_cons, List.length_nil, List.replicate, List.replicate_zero, Nat.sub_self, Nat.reduceSub, Nat.reduceAdd, Nat.zero_add, List.set_cons_zero, List.set_cons_succ, List.getElem?_cons_zero, List.getElem?_cons_succ, List.append_nil, true_and, szl0, szl1, szl2, szl3, szl4, szl5, szl6, szl7, szl8, ltl0, ltl1, ltl2, ltl3, ltl4, ltl5, ex_some, ex_bl, ex_two, ex_three, ex_int, ex_intp, ex_ints, ex_int2,  Bool.false_eq_true, if_true, if_false, Bool.not_true, Bool.not_false, reduceIte]
    by_cases hd : 1 < b - a
    · simp only [hd, decide_true, if_true]
      refine ⟨⟨by decide, by decide⟩, ?_⟩
      rw [halfs]
      simp only [dSeq, dLt, dLe, dGt, dGe, dNext, dRet, dRetN, dDrop, dIfS, dAsg, dPar, dPar3, hName, dIf, dTest, dNot, dAnd, dOr, dAndV, dOrV, dNotV, dUn, dNeg, dOp, dFn, dCall, dCons, dNil, dC, dvar_eq, dTup, dLstS, dLstC, dChain, dRaise, dSettle, dApp, htup2, htup2b, ex_tup, ex_tupb, ex_lst, dAdd, dSub, dMul, dFdiv, dMod, dPow, dShl, dCmpI, dIsN, dNotN, dIsB, dNotB, isNon, dix_fr0, dix_fr1, dix_bx0, dix_bx1, dix_t0, dix_t1, dix_l0, mk_bx, mk_neg, mk_ab, ex_f1, ex_f2, ex_b1, ex_b2, two_fr, dAbs, dAug, dIpAdd, dFor, forD, dRng1, dItT, dItL, dSl, dSlL, dNoPart, dPart, dInt1, DL.start, List.map_cons, List.map_nil, List.cons_append, List.nil_append, List.length_cons, List.length_nil, List.replicate, List.replicate_zero, Nat.sub_self, Nat.reduceSub, Nat.reduceAdd, Nat.zero_add, List.set_cons_zero, List.set_cons_succ, List.getElem?_cons_zero, List.getElem?_cons_succ, List.append_nil, true_and, szl0, szl1, szl2, szl3, szl4, szl5, szl6, szl7, szl8, ltl0, ltl1, ltl2, ltl3, ltl4, ltl5, ex_some, ex_bl, ex_two, ex_three, ex_int, ex_intp, ex_ints, ex_int2,  Bool.false_eq_true, if_true, if_false, Bool.not_true, Bool.not_false, reduceIte, powD (k := (k : Int)) (b := (a + b) / 2) (by omega) h4' (big _ (by omega) (by omega)), Int.toNat_natCast]
      by_cases hm : ((a + b) / 2) ^ k ≤ n
      · simp only [hm, decide_true, if_true]
        exact ⟨_, by omega, (a + b) / 2, b, _, rfl, by omega, by omega, hb, hm, hbk, rfl⟩
      · simp only [hm, decide_false, Bool.false_eq_true, if_false]
        exact ⟨_, by omega, a, (a + b) / 2, _, rfl, ha, by omega, by omega, hak, by omega, rfl⟩
    · simp only [hd, decide_false, Bool.false_eq_true, if_false]
      have e : b = a + 1 := by omega
      subst e
      rw [rt_eq hk ⟨ha, hak, hbk⟩] at q
      exact q
end K07

set_option Elab.async false
set_option linter.all false
set_option maxRecDepth 100000
set_option maxHeartbeats 1000000
namespace K07
open PySem PySem.Spec PyProof.Rows L2 DL
theorem mup_self {M : Mm} {p : Addr} {o : MO} (h : M p = some o) : mup M p o = M := by
  funext b
  unfold mup
  split
  · rename_i e
    rw [e, h]
  · rfl
theorem lcD_map {g : TGD} {te : TED} {vs : List Nat} {p : Addr} {τ : DSt} (f : D → D) : ∀ (ds acc : List D) (M : Mm) (P : List D → Mm → Prop), (∀ d ∈ ds, ∀ (M : Mm) (P : QD), P (f d) M → g d (dwipe τ vs) M fun τ2 M2 => te τ2 M2 P fun _ _ => False) →
    M p = some (.lst acc) → acc.length + ds.length ≤ sizeLine → P (acc ++ ds.map f) (mup M p (.lst (acc ++ ds.map f))) → lcD g dYes te vs p ds acc τ M P
  | [], acc, M, P, h, hm, hl, q => by
    unfold lcD
    rw [List.map_nil, List.append_nil, mup_self hm] at q
    exact ⟨hm, q⟩
  | d :: ds, acc, M, P, h, hm, hl, q => by
    unfold lcD
    refine cast ?_ (h d List.mem_cons_self M (fun y M4 => M4 p = some (.lst acc) ∧ acc.length < sizeLine ∧ lcD g dYes te vs p ds (acc ++ [y]) τ (mup M4 p (.lst (acc ++ [y]))) P) ⟨hm, ?_, ?_⟩)
    · simp only [dYes, if_true]
    · simp only [List.length_cons] at hl
      omega
    · refine lcD_map f ds (acc ++ [f d]) _ P (fun d hd => h d (List.mem_cons_of_mem _ hd)) mup_same ?_ ?_
      · simp only [List.length_append, List.length_cons, List.length_nil] at hl ⊢
        omega
      · rw [mup_mup]
        simpa using q
theorem lc_map {g : TGD} {te : TED} {vs : List Nat} {τ : DSt} {ds : List D} {M : Mm} {R : Addr → List D → Mm → Prop} (f : D → D) (h : ∀ d ∈ ds, ∀ (M : Mm) (P : QD), P (f d) M → g d (dwipe τ vs) M fun τ2 M2 => te τ2 M2 P fun _ _ => False) (hl : ds.length ≤ sizeLine)
    (q : ∀ p, M p = none → R p (ds.map f) (mup M p (.lst (ds.map f)))) : ∀ p, M p = none → lcD g dYes te vs p ds [] τ (mup M p (.lst [])) (R p) := fun p hp => by
  refine lcD_map f ds [] _ _ h mup_same (by simpa using hl) ?_
  rw [mup_mup, List.nil_append]
  exact q p hp
theorem lcD_end {g : TGD} {te : TED} {vs : List Nat} {p : Addr} {τ : DSt} {M : Mm} {acc : List D} {P : List D → Mm → Prop} : lcD g dYes te vs p [] acc τ M P ↔ M p = some (.lst acc) ∧ P acc M := by unfold lcD; exact Iff.rfl
theorem isFr_size {x : D} (h : szR x 2 2 = false) : isFr x = false := by
  cases x <;> first | rfl | skip
  rename_i ds
  match ds with
  | [] => rfl
  | [_] => unfold isFr; split <;> first | rfl | (rename_i e; simp at e)
  | [a, b] => simp [szR] at h
  | _ :: _ :: _ :: _ => unfold isFr; split <;> first | rfl | (rename_i e; simp at e)
theorem isFr_int {a b : D} (h : (isI a && isI b) = false) : isFr (.tup [a, b]) = false := by
  unfold isFr
  split
  · rename_i e
    injection e with e
    injection e with e1 e2
    injection e2 with e2 _
    subst e1 e2
    simp [isI] at h
  · rfl
theorem isI_int {a : D} (h : isI a = true) : ∃ i, a = .int i := by
  cases a <;> simp [isI] at h
  exact ⟨_, rfl⟩
theorem sz_two {x : D} (h : szR x 2 2 = true) : ∃ a b, x = .tup [a, b] := by
  cases x <;> simp [szR] at h
  rename_i ds
  match ds, h with
  | [a, b], _ => exact ⟨a, b, rfl⟩
  | [], h => simp at h
  | [_], h => simp at h
  | _ :: _ :: _ :: r, h => simp at h; omega
theorem len_is_fraction : ∀ xs M P Y, sp_is_fraction xs M P Y → xs.length = 1 := by
  intro xs M P Y h
  unfold sp_is_fraction at h
  split at h
  · rfl
  · exact h.elim
theorem rd_is_fraction : ∀ xs M P Y, sp_is_fraction xs M P Y → t_is_fraction { nx := fun _ M' => P .non M', rt := P, ex := fun c _ M' => Y c M' } (DL.start 2 xs) M := by
  intro xs M P Y h
  unfold sp_is_fraction at h
  split at h
  rotate_left
  · exact h.elim
  rename_i x
  unfold t_is_fraction
  obtain ⟨h1, q⟩ := h
  simp only [dSeq, dLt, dLe, dGt, dGe, dNext, dRet, dRetN, dDrop, dIfS, dAsg, dPar, dPar3, hName, dIf, dTest, dNot, dAnd, dOr, dAndV, dOrV, dNotV, dUn, dNeg, dOp, dFn, dCall, dCons, dNil, dC, dvar_eq, dTup, dLstS, dLstC, dChain, dRaise, dSettle, dApp, htup2, htup2b, ex_tup, ex_tupb, ex_lst, dAdd, dSub, dMul, dFdiv, dMod, dPow, dShl, dCmpI, dIsN, dNotN, dIsB, dNotB, isNon, dix_fr0, dix_fr1, dix_bx0, dix_bx1, dix_t0, dix_t1, dix_l0, mk_bx, mk_neg, mk_ab, ex_f1, ex_f2, ex_b1, ex_b2, two_fr, dAbs, dAug, dIpAdd, dFor, forD, dRng1, dItT, dItL, dSl, dSlL, dNoPart, dPart, dInt1, DL.start, List.map_cons, List.map_nil, List.cons_append, List.nil_append, List.length_cons, List.length_nil, List.replicate, List.replicate_zero, Nat.sub_self, Nat.reduceSub, Nat.reduceAdd, Nat.zero_add, List.set_cons_zero, List.set_cons_succ, List.getElem?_cons_zero, List.getElem?_cons_succ, List.append_nil, true_and, szl0, szl1, szl2, szl3, szl4, szl5, szl6, szl7, szl8, ltl0, ltl1, ltl2, ltl3, ltl4, ltl5, ex_some, ex_bl, ex_two, ex_three, ex_int, ex_intp, ex_ints, ex_int2,  Bool.false_eq_true, if_true, if_false, Bool.not_true, Bool.not_false, reduceIte, sp_is_sized]
  refine ⟨h1.1, ?_⟩
  cases c : szR x 2 2
  · rw [isFr_size c] at q
    simp only [Bool.not_false, if_true]
    exact q
  · obtain ⟨a, b, rfl⟩ := sz_two c
    simp only [Bool.not_true, Bool.false_eq_true, if_false]
    simp only [dSeq, dLt, dLe, dGt, dGe, dNext, dRet, dRetN, dDrop, dIfS, dAsg, dPar, dPar3, hName, dIf, dTest, dNot, dAnd, dOr, dAndV, dOrV, dNotV, dUn, dNeg, dOp, dFn, dCall, dCons, dNil, dC, dvar_eq, dTup, dLstS, dLstC, dChain, dRaise, dSettle, dApp, htup2, htup2b, ex_tup, ex_tupb, ex_lst, dAdd, dSub, dMul, dFdiv, dMod, dPow, dShl, dCmpI, dIsN, dNotN, dIsB, dNotB, isNon, dix_fr0, dix_fr1, dix_bx0, dix_bx1, dix_t0, dix_t1, dix_l0, mk_bx, mk_neg, mk_ab, ex_f1, ex_f2, ex_b1, ex_b2, two_fr, dAbs, dAug, dIpAdd, dFor, forD, dRng1, dItT, dItL, dSl, dSlL, dNoPart, dPart, dInt1, DL.start, List.map_cons, List.map_nil, List.cons_append, List.nil_append, List.length_cons, List.length_nil, List.replicate, List.replicate_zero, Nat.sub_self, Nat.reduceSub, Nat.reduceAdd, Nat.zero_add, List.set_cons_zero, List.set_cons_succ, List.getElem?_cons_zero, List.getElem?_cons_succ, List.append_nil, true_and, szl0, szl1, szl2, szl3, szl4, szl5, szl6, szl7, szl8, ltl0, ltl1, ltl2, ltl3, ltl4, ltl5, ex_some, ex_bl, ex_two, ex_three, ex_int, ex_intp, ex_ints, ex_int2,  Bool.false_eq_true, if_true, if_false, Bool.not_true, Bool.not_false, reduceIte, dLc]
    refine lc_map (fun d => .bl (isI d)) (fun d hd M P z => ?_) ?_ ?_
    · simp only [dSeq, dLt, dLe, dGt, dGe, dNext, dRet, dRetN, dDrop, dIfS, dAsg, dPar, dPar3, hName, dIf, dTest, dNot, dAnd, dOr, dAndV, dOrV, dNotV, dUn, dNeg, dOp, dFn, dCall, dCons, dNil, dC, dvar_eq, dTup, dLstS, dLstC, dChain, dRaise, dSettle, dApp, htup2, htup2b, ex_tup, ex_tupb, ex_lst, dAdd, dSub, dMul, dFdiv, dMod, dPow, dShl, dCmpI, dIsN, dNotN, dIsB, dNotB, isNon, dix_fr0, dix_fr1, dix_bx0, dix_bx1, dix_t0, dix_t1, dix_l0, mk_bx, mk_neg, mk_ab, ex_f1, ex_f2, ex_b1, ex_b2, two_fr, dAbs, dAug, dIpAdd, dFor, forD, dRng1, dItT, dItL, dSl, dSlL, dNoPart, dPart, dInt1, DL.start, List.map_cons, List.map_nil, List.cons_append, List.nil_append, List.length_cons, List.length_nil, List.replicate, List.replicate_zero, Nat.sub_self, Nat.reduceSub, Nat.reduceAdd, Nat.zero_add, List.set_cons_zero, List.set_cons_succ, List.getElem?_cons_zero, List.getElem?_cons_succ, List.append_nil, true_and, szl0, szl1, szl2, szl3, szl4, szl5, szl6, szl7, szl8, ltl0, ltl1, ltl2, ltl3, ltl4, ltl5, ex_some, ex_bl, ex_two, ex_three, ex_int, ex_intp, ex_ints, ex_int2,  Bool.false_eq_true, if_true, if_false, Bool.not_true, Bool.not_false, reduceIte, sp_is_int, dwipe]
      exact ⟨h1.2 _ rfl d hd, z⟩
    · exact sz_line (by simp)
    · intro p hp
      rw [mdel_mup hp]
      refine ⟨[isI a, isI b], rfl, ?_⟩
      simp only [ex_bl, List.all_cons, List.all_nil, Bool.and_true, id_eq]
      cases c2 : (isI a && isI b)
      · rw [isFr_int c2] at q
        simp only [Bool.not_false, if_true]
        exact q
      · rw [Bool.and_eq_true] at c2
        obtain ⟨i, rfl⟩ := isI_int c2.1
        obtain ⟨j, rfl⟩ := isI_int c2.2
        simp only [Bool.not_true, Bool.false_eq_true, if_false]
        simp only [isFr] at q
        by_cases c3 : j < 1
        · have z : ¬ 1 ≤ j := by omega
          simp only [c3, z, decide_true, decide_false, if_true, Bool.false_and] at q ⊢
          exact q
        · have z : 1 ≤ j := by omega
          simp only [c3, z, decide_true, decide_false, Bool.false_eq_true, if_false, Bool.true_and] at q ⊢
          simp only [dSeq, dLt, dLe, dGt, dGe, dNext, dRet, dRetN, dDrop, dIfS, dAsg, dPar, dPar3, hName, dIf, dTest, dNot, dAnd, dOr, dAndV, dOrV, dNotV, dUn, dNeg, dOp, dFn, dCall, dCons, dNil, dC, dvar_eq, dTup, dLstS, dLstC, dChain, dRaise, dSettle, dApp, htup2, htup2b, ex_tup, ex_tupb, ex_lst, dAdd, dSub, dMul, dFdiv, dMod, dPow, dShl, dCmpI, dIsN, dNotN, dIsB, dNotB, isNon, dix_fr0, dix_fr1, dix_bx0, dix_bx1, dix_t0, dix_t1, dix_l0, mk_bx, mk_neg, mk_ab, ex_f1, ex_f2, ex_b1, ex_b2, two_fr, dAbs, dAug, dIpAdd, dFor, forD, dRng1, dItT, dItL, dSl, dSlL, dNoPart, dPart, dInt1, DL.start, List.map_cons, List.map_nil, List.cons_append, List.nil_append, List.length_cons, List.length_nil, List.replicate, List.replicate_zero, Nat.sub_self, Nat.reduceSub, Nat.reduceAdd, Nat.zero_add, List.set_cons_zero, List.set_cons_succ, List.getElem?_cons_zero, List.getElem?_cons_succ, List.append_nil, true_and, szl0, szl1, szl2, szl3, szl4, szl5, szl6, szl7, szl8, ltl0, ltl1, ltl2, ltl3, ltl4, ltl5, ex_some, ex_bl, ex_two, ex_three, ex_int, ex_intp, ex_ints, ex_int2,  Bool.false_eq_true, if_true, if_false, Bool.not_true, Bool.not_false, reduceIte, sp_divisor, dEq]
          refine cast ?_ q
          congr 2
          rw [decide_eq_decide]
          omega
theorem ltD_ints {a b c d : Int} : ltD (.tup [.int a, .int b]) (.tup [.int c, .int d]) = decide (a * d < c * b) := rfl
theorem isFr_shape {x : D} (h : isFr x = true) : ∃ i j, x = .tup [.int i, .int j] ∧ 1 ≤ j ∧ Int.gcd i j = 1 := by
  unfold isFr at h
  split at h
  · rw [Bool.and_eq_true, decide_eq_true_eq, decide_eq_true_eq] at h
    exact ⟨_, _, rfl, h.1, h.2⟩
  · cases h
theorem isBx_size {x : D} (h : szR x 2 2 = false) : isBx x = false := by
  cases x <;> first | rfl | skip
  rename_i ds
  match ds with
  | [] => rfl
  | [_] => unfold isBx; split <;> first | rfl | (rename_i e; simp at e)
  | [a, b] => simp [szR] at h
  | _ :: _ :: _ :: _ => unfold isBx; split <;> first | rfl | (rename_i e; simp at e)
theorem len_is_box : ∀ xs M P Y, sp_is_box xs M P Y → xs.length = 1 := by
  intro xs M P Y h
  unfold sp_is_box at h
  split at h
  · rfl
  · exact h.elim
theorem rd_is_box : ∀ xs M P Y, sp_is_box xs M P Y → t_is_box { nx := fun _ M' => P .non M', rt := P, ex := fun c _ M' => Y c M' } (DL.start 1 xs) M := by
  intro xs M P Y h
  unfold sp_is_box at h
  split at h
  rotate_left
  · exact h.elim
  rename_i x
  unfold t_is_box
  obtain ⟨h1, q⟩ := h
  simp only [dSeq, dLt, dLe, dGt, dGe, dNext, dRet, dRetN, dDrop, dIfS, dAsg, dPar, dPar3, hName, dIf, dTest, dNot, dAnd, dOr, dAndV, dOrV, dNotV, dUn, dNeg, dOp, dFn, dCall, dCons, dNil, dC, dvar_eq, dTup, dLstS, dLstC, dChain, dRaise, dSettle, dApp, htup2, htup2b, ex_tup, ex_tupb, ex_lst, dAdd, dSub, dMul, dFdiv, dMod, dPow, dShl, dCmpI, dIsN, dNotN, dIsB, dNotB, isNon, dix_fr0, dix_fr1, dix_bx0, dix_bx1, dix_t0, dix_t1, dix_l0, mk_bx, mk_neg, mk_ab, ex_f1, ex_f2, ex_b1, ex_b2, two_fr, dAbs, dAug, dIpAdd, dFor, forD, dRng1, dItT, dItL, dSl, dSlL, dNoPart, dPart, dInt1, DL.start, List.map_cons, List.map_nil, List.cons_append, List.nil_append, List.length_cons, List.length_nil, List.replicate, List.replicate_zero, Nat.sub_self, Nat.reduceSub, Nat.reduceAdd, Nat.zero_add, List.set_cons_zero, List.set_cons_succ, List.getElem?_cons_zero, List.getElem?_cons_succ, List.append_nil, true_and, szl0, szl1, szl2, szl3, szl4, szl5, szl6, szl7, szl8, ltl0, ltl1, ltl2, ltl3, ltl4, ltl5, ex_some, ex_bl, ex_two, ex_three, ex_int, ex_intp, ex_ints, ex_int2,  Bool.false_eq_true, if_true, if_false, Bool.not_true, Bool.not_false, reduceIte, sp_is_sized]
  refine ⟨h1.1, ?_⟩
  cases c : szR x 2 2
  · rw [isBx_size c] at q
    simp only [Bool.not_false, if_true]
    exact q
  · obtain ⟨a, b, rfl⟩ := sz_two c
    simp only [Bool.not_true, Bool.false_eq_true, if_false]
    simp only [dSeq, dLt, dLe, dGt, dGe, dNext, dRet, dRetN, dDrop, dIfS, dAsg, dPar, dPar3, hName, dIf, dTest, dNot, dAnd, dOr, dAndV, dOrV, dNotV, dUn, dNeg, dOp, dFn, dCall, dCons, dNil, dC, dvar_eq, dTup, dLstS, dLstC, dChain, dRaise, dSettle, dApp, htup2, htup2b, ex_tup, ex_tupb, ex_lst, dAdd, dSub, dMul, dFdiv, dMod, dPow, dShl, dCmpI, dIsN, dNotN, dIsB, dNotB, isNon, dix_fr0, dix_fr1, dix_bx0, dix_bx1, dix_t0, dix_t1, dix_l0, mk_bx, mk_neg, mk_ab, ex_f1, ex_f2, ex_b1, ex_b2, two_fr, dAbs, dAug, dIpAdd, dFor, forD, dRng1, dItT, dItL, dSl, dSlL, dNoPart, dPart, dInt1, DL.start, List.map_cons, List.map_nil, List.cons_append, List.nil_append, List.length_cons, List.length_nil, List.replicate, List.replicate_zero, Nat.sub_self, Nat.reduceSub, Nat.reduceAdd, Nat.zero_add, List.set_cons_zero, List.set_cons_succ, List.getElem?_cons_zero, List.getElem?_cons_succ, List.append_nil, true_and, szl0, szl1, szl2, szl3, szl4, szl5, szl6, szl7, szl8, ltl0, ltl1, ltl2, ltl3, ltl4, ltl5, ex_some, ex_bl, ex_two, ex_three, ex_int, ex_intp, ex_ints, ex_int2,  Bool.false_eq_true, if_true, if_false, Bool.not_true, Bool.not_false, reduceIte, sp_is_fraction]
    refine ⟨h1.2 _ rfl a (by simp), ?_⟩
    simp only [isBx] at q
    cases ca : isFr a
    · simp only [ca, Bool.false_and, Bool.not_false, if_true] at q ⊢
      exact q
    · simp only [ca, Bool.true_and, Bool.not_true, Bool.false_eq_true, if_false] at q ⊢
      refine ⟨h1.2 _ rfl b (by simp), ?_⟩
      cases cb : isFr b
      · simp only [cb, Bool.false_and, Bool.not_false, if_true] at q ⊢
        exact q
      · simp only [cb, Bool.true_and, Bool.not_true, Bool.false_eq_true, if_false] at q ⊢
        have ta := (h1.2 _ rfl a (by simp)).2
        have tb := (h1.2 _ rfl b (by simp)).2
        obtain ⟨i, j, rfl, _, _⟩ := isFr_shape ca
        obtain ⟨k, l, rfl, _, _⟩ := isFr_shape cb
        have up : ∀ {x : Int}, x.natAbs < 2 ^ 2000 → x.natAbs < 2 ^ 20000 := fun h => Nat.lt_of_lt_of_le h (Nat.pow_le_pow_right (by decide) (by decide))
        exact ⟨up ((tb _ rfl (.int k) (by simp)).2 _ rfl), up ((tb _ rfl (.int l) (by simp)).2 _ rfl), up ((ta _ rfl (.int i) (by simp)).2 _ rfl), up ((ta _ rfl (.int j) (by simp)).2 _ rfl), _, rfl, q⟩
theorem len_check_box {cl : Cls} : ∀ xs M P Y, sp_check_box cl xs M P Y → xs.length = 1 := by
  intro xs M P Y h
  unfold sp_check_box at h
  split at h
  · rfl
  · exact h.elim
theorem rd_check_box {cl : Cls} : ∀ xs M P Y, sp_check_box cl xs M P Y → t_check_box cl { nx := fun _ M' => P .non M', rt := P, ex := fun c _ M' => Y c M' } (DL.start 1 xs) M := by
  intro xs M P Y h
  unfold sp_check_box at h
  split at h
  rotate_left
  · exact h.elim
  rename_i x
  unfold t_check_box
  obtain ⟨h1, h2, h3⟩ := h
  simp only [dSeq, dLt, dLe, dGt, dGe, dNext, dRet, dRetN, dDrop, dIfS, dAsg, dPar, dPar3, hName, dIf, dTest, dNot, dAnd, dOr, dAndV, dOrV, dNotV, dUn, dNeg, dOp, dFn, dCall, dCons, dNil, dC, dvar_eq, dTup, dLstS, dLstC, dChain, dRaise, dSettle, dApp, htup2, htup2b, ex_tup, ex_tupb, ex_lst, dAdd, dSub, dMul, dFdiv, dMod, dPow, dShl, dCmpI, dIsN, dNotN, dIsB, dNotB, isNon, dix_fr0, dix_fr1, dix_bx0, dix_bx1, dix_t0, dix_t1, dix_l0, mk_bx, mk_neg, mk_ab, ex_f1, ex_f2, ex_b1, ex_b2, two_fr, dAbs, dAug, dIpAdd, dFor, forD, dRng1, dItT, dItL, dSl, dSlL, dNoPart, dPart, dInt1, DL.start, List.map_cons, List.map_nil, List.cons_append, List.nil_append, List.length_cons, List.length_nil, List.replicate, List.replicate_zero, Nat.sub_self, Nat.reduceSub, Nat.reduceAdd, Nat.zero_add, List.set_cons_zero, List.set_cons_succ, List.getElem?_cons_zero, List.getElem?_cons_succ, List.append_nil, true_and, szl0, szl1, szl2, szl3, szl4, szl5, szl6, szl7, szl8, ltl0, ltl1, ltl2, ltl3, ltl4, ltl5, ex_some, ex_bl, ex_two, ex_three, ex_int, ex_intp, ex_ints, ex_int2,  Bool.false_eq_true, if_true, if_false, Bool.not_true, Bool.not_false, reduceIte, sp_is_box]
  refine ⟨h1, ?_⟩
  cases c : isBx x
  · simpa using h3 c
  · simpa using h2 c
theorem len_check_two {cl : Cls} : ∀ xs M P Y, sp_check_two cl xs M P Y → xs.length = 2 := by
  intro xs M P Y h
  unfold sp_check_two at h
  split at h
  · rfl
  · exact h.elim
theorem rd_check_two {cl : Cls} : ∀ xs M P Y, sp_check_two cl xs M P Y → t_check_two cl { nx := fun _ M' => P .non M', rt := P, ex := fun c _ M' => Y c M' } (DL.start 2 xs) M := by
  intro xs M P Y h
  unfold sp_check_two at h
  split at h
  rotate_left
  · exact h.elim
  rename_i x y
  unfold t_check_two
  obtain ⟨h1, h1', h2, h3⟩ := h
  simp only [dSeq, dLt, dLe, dGt, dGe, dNext, dRet, dRetN, dDrop, dIfS, dAsg, dPar, dPar3, hName, dIf, dTest, dNot, dAnd, dOr, dAndV, dOrV, dNotV, dUn, dNeg, dOp, dFn, dCall, dCons, dNil, dC, dvar_eq, dTup, dLstS, dLstC, dChain, dRaise, dSettle, dApp, htup2, htup2b, ex_tup, ex_tupb, ex_lst, dAdd, dSub, dMul, dFdiv, dMod, dPow, dShl, dCmpI, dIsN, dNotN, dIsB, dNotB, isNon, dix_fr0, dix_fr1, dix_bx0, dix_bx1, dix_t0, dix_t1, dix_l0, mk_bx, mk_neg, mk_ab, ex_f1, ex_f2, ex_b1, ex_b2, two_fr, dAbs, dAug, dIpAdd, dFor, forD, dRng1, dItT, dItL, dSl, dSlL, dNoPart, dPart, dInt1, DL.start, List.map_cons, List.map_nil, List.cons_append, List.nil_append, List.length_cons, List.length_nil, List.replicate, List.replicate_zero, Nat.sub_self, Nat.reduceSub, Nat.reduceAdd, Nat.zero_add, List.set_cons_zero, List.set_cons_succ, List.getElem?_cons_zero, List.getElem?_cons_succ, List.append_nil, true_and, szl0, szl1, szl2, szl3, szl4, szl5, szl6, szl7, szl8, ltl0, ltl1, ltl2, ltl3, ltl4, ltl5, ex_some, ex_bl, ex_two, ex_three, ex_int, ex_intp, ex_ints, ex_int2,  Bool.false_eq_true, if_true, if_false, Bool.not_true, Bool.not_false, reduceIte, sp_check_box]
  refine ⟨h1, fun c => ⟨h1', fun c' => h2 (by rw [c, c']; rfl), fun c' => h3 (by rw [c, c']; rfl)⟩, fun c => h3 (by rw [c]; rfl)⟩
end K07

set_option Elab.async false
set_option linter.all false
set_option maxRecDepth 100000
set_option maxHeartbeats 1000000
namespace K07
open PySem PySem.Spec PyProof.Rows L2 DL
theorem len_raw_add : ∀ xs M P Y, sp_raw_add xs M P Y → xs.length = 2 := by
  intro xs M P Y h
  unfold sp_raw_add sp_bb at h
  split at h
  · rfl
  · exact h.elim
theorem rd_raw_add : ∀ xs M P Y, sp_raw_add xs M P Y → t_raw_add { nx := fun _ M' => P .non M', rt := P, ex := fun c _ M' => Y c M' } (DL.start 2 xs) M := by
  intro xs M P Y h
  unfold sp_raw_add sp_bb at h
  split at h
  rotate_left
  · exact h.elim
  rename_i x y
  unfold t_raw_add
  obtain ⟨l, h, l', h', rfl, rfl, h1, h2, h3, h4, q⟩ := h
  simp only [dSeq, dLt, dLe, dGt, dGe, dNext, dRet, dRetN, dDrop, dIfS, dAsg, dPar, dPar3, hName, dIf, dTest, dNot, dAnd, dOr, dAndV, dOrV, dNotV, dUn, dNeg, dOp, dFn, dCall, dCons, dNil, dC, dvar_eq, dTup, dLstS, dLstC, dChain, dRaise, dSettle, dApp, htup2, htup2b, ex_tup, ex_tupb, ex_lst, dAdd, dSub, dMul, dFdiv, dMod, dPow, dShl, dCmpI, dIsN, dNotN, dIsB, dNotB, isNon, dix_fr0, dix_fr1, dix_bx0, dix_bx1, dix_t0, dix_t1, dix_l0, mk_bx, mk_neg, mk_ab, ex_f1, ex_f2, ex_b1, ex_b2, two_fr, dAbs, dAug, dIpAdd, dFor, forD, dRng1, dItT, dItL, dSl, dSlL, dNoPart, dPart, dInt1, DL.start, List.map_cons, List.map_nil, List.cons_append, List.nil_append, List.length_cons, List.length_nil, List.replicate, List.replicate_zero, Nat.sub_self, Nat.reduceSub, Nat.reduceAdd, Nat.zero_add, List.set_cons_zero, List.set_cons_succ, List.getElem?_cons_zero, List.getElem?_cons_succ, List.append_nil, true_and, szl0, szl1, szl2, szl3, szl4, szl5, szl6, szl7, szl8, ltl0, ltl1, ltl2, ltl3, ltl4, ltl5, ex_some, ex_bl, ex_two, ex_three, ex_int, ex_intp, ex_ints, ex_int2,  Bool.false_eq_true, if_true, if_false, Bool.not_true, Bool.not_false, reduceIte, sp_plus]
  exact ⟨h1, h3, h2, h4, q⟩
theorem len_raw_turn : ∀ xs M P Y, sp_raw_turn xs M P Y → xs.length = 1 := by
  intro xs M P Y h
  unfold sp_raw_turn sp_b at h
  split at h
  · rfl
  · exact h.elim
theorem rd_raw_turn : ∀ xs M P Y, sp_raw_turn xs M P Y → t_raw_turn { nx := fun _ M' => P .non M', rt := P, ex := fun c _ M' => Y c M' } (DL.start 1 xs) M := by
  intro xs M P Y h
  unfold sp_raw_turn sp_b at h
  split at h
  rotate_left
  · exact h.elim
  rename_i x
  unfold t_raw_turn
  obtain ⟨l, h, rfl, h1, h2, q⟩ := h
  simp only [dSeq, dLt, dLe, dGt, dGe, dNext, dRet, dRetN, dDrop, dIfS, dAsg, dPar, dPar3, hName, dIf, dTest, dNot, dAnd, dOr, dAndV, dOrV, dNotV, dUn, dNeg, dOp, dFn, dCall, dCons, dNil, dC, dvar_eq, dTup, dLstS, dLstC, dChain, dRaise, dSettle, dApp, htup2, htup2b, ex_tup, ex_tupb, ex_lst, dAdd, dSub, dMul, dFdiv, dMod, dPow, dShl, dCmpI, dIsN, dNotN, dIsB, dNotB, isNon, dix_fr0, dix_fr1, dix_bx0, dix_bx1, dix_t0, dix_t1, dix_l0, mk_bx, mk_neg, mk_ab, ex_f1, ex_f2, ex_b1, ex_b2, two_fr, dAbs, dAug, dIpAdd, dFor, forD, dRng1, dItT, dItL, dSl, dSlL, dNoPart, dPart, dInt1, DL.start, List.map_cons, List.map_nil, List.cons_append, List.nil_append, List.length_cons, List.length_nil, List.replicate, List.replicate_zero, Nat.sub_self, Nat.reduceSub, Nat.reduceAdd, Nat.zero_add, List.set_cons_zero, List.set_cons_succ, List.getElem?_cons_zero, List.getElem?_cons_succ, List.append_nil, true_and, szl0, szl1, szl2, szl3, szl4, szl5, szl6, szl7, szl8, ltl0, ltl1, ltl2, ltl3, ltl4, ltl5, ex_some, ex_bl, ex_two, ex_three, ex_int, ex_intp, ex_ints, ex_int2,  Bool.false_eq_true, if_true, if_false, Bool.not_true, Bool.not_false, reduceIte, sp_turned]
  exact q
theorem cut_one {x : D} {r : List D} : DL.cutD (x :: r) (some 1) none = r := by
  unfold DL.cutD
  have e1 : HT.sIx (x :: r).length 0 (some 1) = 1 := by
    unfold HT.sIx
    simp
  have e2 : HT.sIx (x :: r).length (x :: r).length none = (x :: r).length := rfl
  rw [e1, e2]
  simp
theorem ends_loop {F : DEnds} {X : Option D} : ∀ (rs : List Rat) (l h : Rat) (o : Option D) (M : Mm), SZ l → SZ h → (∀ a ∈ rs, SZ a) → (∀ o', F.nx [X, some (fr (rs.foldl mn l)), some (fr (rs.foldl mx h)), o'] M) →
    forD (hName 3) (dPar 1 2 (dCons (dCall sp_lesser (dCons (dVar 1) (dCons (dVar 3) dNil))) (dCons (dCall sp_greater (dCons (dVar 2) (dCons (dVar 3) dNil))) dNil))) F (rs.map fr) [X, some (fr l), some (fr h), o] M
  | [], l, h, o, M, h1, h2, h3, q => q o
  | a :: rs, l, h, o, M, h1, h2, h3, q => by
    have ha := h3 a List.mem_cons_self
    simp only [dSeq, dLt, dLe, dGt, dGe, dNext, dRet, dRetN, dDrop, dIfS, dAsg, dPar, dPar3, hName, dIf, dTest, dNot, dAnd, dOr, dAndV, dOrV, dNotV, dUn, dNeg, dOp, dFn, dCall, dCons, dNil, dC, dvar_eq, dTup, dLstS, dLstC, dChain, dRaise, dSettle, dApp, htup2, htup2b, ex_tup, ex_tupb, ex_lst, dAdd, dSub, dMul, dFdiv, dMod, dPow, dShl, dCmpI, dIsN, dNotN, dIsB, dNotB, isNon, dix_fr0, dix_fr1, dix_bx0, dix_bx1, dix_t0, dix_t1, dix_l0, mk_bx, mk_neg, mk_ab, ex_f1, ex_f2, ex_b1, ex_b2, two_fr, dAbs, dAug, dIpAdd, dFor, forD, dRng1, dItT, dItL, dSl, dSlL, dNoPart, dPart, dInt1, DL.start, List.map_cons, List.map_nil, List.cons_append, List.nil_append, List.length_cons, List.length_nil, List.replicate, List.replicate_zero, Nat.sub_self, Nat.reduceSub, Nat.reduceAdd, Nat.zero_add, List.set_cons_zero, List.set_cons_succ, List.getElem?_cons_zero, List.getElem?_cons_succ, List.append_nil, true_and, szl0, szl1, szl2, szl3, szl4, szl5, szl6, szl7, szl8, ltl0, ltl1, ltl2, ltl3, ltl4, ltl5, ex_some, ex_bl, ex_two, ex_three, ex_int, ex_intp, ex_ints, ex_int2,  Bool.false_eq_true, if_true, if_false, Bool.not_true, Bool.not_false, reduceIte, sp_lesser, sp_greater]
    exact ⟨h1, ha, h2, ha, ends_loop rs _ _ _ M (h1.mn ha) (h2.mx ha) (fun b hb => h3 b (List.mem_cons_of_mem _ hb)) q⟩
theorem len_ends_of : ∀ xs M P Y, sp_ends_of xs M P Y → xs.length = 1 := by
  intro xs M P Y h
  unfold sp_ends_of at h
  split at h
  · rfl
  · exact h.elim
theorem rd_ends_of : ∀ xs M P Y, sp_ends_of xs M P Y → t_ends_of { nx := fun _ M' => P .non M', rt := P, ex := fun c _ M' => Y c M' } (DL.start 4 xs) M := by
  intro xs M P Y h
  unfold sp_ends_of at h
  split at h
  rotate_left
  · exact h.elim
  rename_i xs
  unfold t_ends_of
  obtain ⟨r, rs, rfl, h1, h2, h3, q⟩ := h
  simp only [dSeq, dLt, dLe, dGt, dGe, dNext, dRet, dRetN, dDrop, dIfS, dAsg, dPar, dPar3, hName, dIf, dTest, dNot, dAnd, dOr, dAndV, dOrV, dNotV, dUn, dNeg, dOp, dFn, dCall, dCons, dNil, dC, dvar_eq, dTup, dLstS, dLstC, dChain, dRaise, dSettle, dApp, htup2, htup2b, ex_tup, ex_tupb, ex_lst, dAdd, dSub, dMul, dFdiv, dMod, dPow, dShl, dCmpI, dIsN, dNotN, dIsB, dNotB, isNon, dix_fr0, dix_fr1, dix_bx0, dix_bx1, dix_t0, dix_t1, dix_l0, mk_bx, mk_neg, mk_ab, ex_f1, ex_f2, ex_b1, ex_b2, two_fr, dAbs, dAug, dIpAdd, dFor, forD, dRng1, dItT, dItL, dSl, dSlL, dNoPart, dPart, dInt1, DL.start, List.map_cons, List.map_nil, List.cons_append, List.nil_append, List.length_cons, List.length_nil, List.replicate, List.replicate_zero, Nat.sub_self, Nat.reduceSub, Nat.reduceAdd, Nat.zero_add, List.set_cons_zero, List.set_cons_succ, List.getElem?_cons_zero, List.getElem?_cons_succ, List.append_nil, true_and, szl0, szl1, szl2, szl3, szl4, szl5, szl6, szl7, szl8, ltl0, ltl1, ltl2, ltl3, ltl4, ltl5, ex_some, ex_bl, ex_two, ex_three, ex_int, ex_intp, ex_ints, ex_int2,  Bool.false_eq_true, if_true, if_false, Bool.not_true, Bool.not_false, reduceIte, cut_one]
  exact ends_loop rs r r _ M h1 h1 h2 fun o => by simp only [dSeq, dLt, dLe, dGt, dGe, dNext, dRet, dRetN, dDrop, dIfS, dAsg, dPar, dPar3, hName, dIf, dTest, dNot, dAnd, dOr, dAndV, dOrV, dNotV, dUn, dNeg, dOp, dFn, dCall, dCons, dNil, dC, dvar_eq, dTup, dLstS, dLstC, dChain, dRaise, dSettle, dApp, htup2, htup2b, ex_tup, ex_tupb, ex_lst, dAdd, dSub, dMul, dFdiv, dMod, dPow, dShl, dCmpI, dIsN, dNotN, dIsB, dNotB, isNon, dix_fr0, dix_fr1, dix_bx0, dix_bx1, dix_t0, dix_t1, dix_l0, mk_bx, mk_neg, mk_ab, ex_f1, ex_f2, ex_b1, ex_b2, two_fr, dAbs, dAug, dIpAdd, dFor, forD, dRng1, dItT, dItL, dSl, dSlL, dNoPart, dPart, dInt1, DL.start, List.map_cons, List.map_nil, List.cons_append, List.nil_append, List.length_cons, List.length_nil, List.replicate, List.replicate_zero, Nat.sub_self, Nat.reduceSub, Nat.reduceAdd, Nat.zero_add, List.set_cons_zero, List.set_cons_succ, List.getElem?_cons_zero, List.getElem?_cons_succ, List.append_nil, true_and, szl0, szl1, szl2, szl3, szl4, szl5, szl6, szl7, szl8, ltl0, ltl1, ltl2, ltl3, ltl4, ltl5, ex_some, ex_bl, ex_two, ex_three, ex_int, ex_intp, ex_ints, ex_int2,  Bool.false_eq_true, if_true, if_false, Bool.not_true, Bool.not_false, reduceIte]; exact q
theorem bt900 {a b : Rat} (h1 : bt a 900) (h2 : bt b 900) : SZ (a * b) := (h1.mul h2).mono (by decide)
theorem bt900d {a b : Rat} (h1 : bt a 900) (h2 : bt b 900) (h0 : b ≠ 0) : SZ (a / b) := (h1.div h2 h0).mono (by decide)
theorem s9 {a : Rat} (h : bt a 900) : SZ a := h.mono (by decide)
theorem len_raw_times : ∀ xs M P Y, sp_raw_times xs M P Y → xs.length = 2 := by
  intro xs M P Y h
  unfold sp_raw_times at h
  split at h
  · rfl
  · exact h.elim
theorem rd_raw_times : ∀ xs M P Y, sp_raw_times xs M P Y → t_raw_times { nx := fun _ M' => P .non M', rt := P, ex := fun c _ M' => Y c M' } (DL.start 4 xs) M := by
  intro xs M P Y h
  unfold sp_raw_times at h
  split at h
  rotate_left
  · exact h.elim
  rename_i x y
  unfold t_raw_times
  obtain ⟨l, h, l', h', rfl, rfl, h1, h2, h3, h4, q⟩ := h
  simp only [dSeq, dLt, dLe, dGt, dGe, dNext, dRet, dRetN, dDrop, dIfS, dAsg, dPar, dPar3, hName, dIf, dTest, dNot, dAnd, dOr, dAndV, dOrV, dNotV, dUn, dNeg, dOp, dFn, dCall, dCons, dNil, dC, dvar_eq, dTup, dLstS, dLstC, dChain, dRaise, dSettle, dApp, htup2, htup2b, ex_tup, ex_tupb, ex_lst, dAdd, dSub, dMul, dFdiv, dMod, dPow, dShl, dCmpI, dIsN, dNotN, dIsB, dNotB, isNon, dix_fr0, dix_fr1, dix_bx0, dix_bx1, dix_t0, dix_t1, dix_l0, mk_bx, mk_neg, mk_ab, ex_f1, ex_f2, ex_b1, ex_b2, two_fr, dAbs, dAug, dIpAdd, dFor, forD, dRng1, dItT, dItL, dSl, dSlL, dNoPart, dPart, dInt1, DL.start, List.map_cons, List.map_nil, List.cons_append, List.nil_append, List.length_cons, List.length_nil, List.replicate, List.replicate_zero, Nat.sub_self, Nat.reduceSub, Nat.reduceAdd, Nat.zero_add, List.set_cons_zero, List.set_cons_succ, List.getElem?_cons_zero, List.getElem?_cons_succ, List.append_nil, true_and, szl0, szl1, szl2, szl3, szl4, szl5, szl6, szl7, szl8, ltl0, ltl1, ltl2, ltl3, ltl4, ltl5, ex_some, ex_bl, ex_two, ex_three, ex_int, ex_intp, ex_ints, ex_int2,  Bool.false_eq_true, if_true, if_false, Bool.not_true, Bool.not_false, reduceIte, dLc2, lc2D, lcD, dwipe, dYes, sp_times, mup_same, mup_mup]
  intro p hp
  refine ⟨s9 h1, s9 h3, s9 h1, s9 h4, s9 h2, s9 h3, s9 h2, s9 h4, ?_⟩
  rw [mdel_mup hp]
  exact ⟨_, [l * h', h * l', h * h'], rfl, bt900 h1 h3, by simp only [List.mem_cons, List.not_mem_nil, or_false]; rintro a (rfl | rfl | rfl); exact bt900 h1 h4; exact bt900 h2 h3; exact bt900 h2 h4, by simp, q⟩
theorem len_has_nought : ∀ xs M P Y, sp_has_nought xs M P Y → xs.length = 1 := by
  intro xs M P Y h
  unfold sp_has_nought at h
  split at h
  · rfl
  · exact h.elim
theorem rd_has_nought : ∀ xs M P Y, sp_has_nought xs M P Y → t_has_nought { nx := fun _ M' => P .non M', rt := P, ex := fun c _ M' => Y c M' } (DL.start 1 xs) M := by
  intro xs M P Y h
  unfold sp_has_nought at h
  split at h
  rotate_left
  · exact h.elim
  rename_i x
  unfold t_has_nought
  obtain ⟨l, h, rfl, q⟩ := h
  simp only [dSeq, dLt, dLe, dGt, dGe, dNext, dRet, dRetN, dDrop, dIfS, dAsg, dPar, dPar3, hName, dIf, dTest, dNot, dAnd, dOr, dAndV, dOrV, dNotV, dUn, dNeg, dOp, dFn, dCall, dCons, dNil, dC, dvar_eq, dTup, dLstS, dLstC, dChain, dRaise, dSettle, dApp, htup2, htup2b, ex_tup, ex_tupb, ex_lst, dAdd, dSub, dMul, dFdiv, dMod, dPow, dShl, dCmpI, dIsN, dNotN, dIsB, dNotB, isNon, dix_fr0, dix_fr1, dix_bx0, dix_bx1, dix_t0, dix_t1, dix_l0, mk_bx, mk_neg, mk_ab, ex_f1, ex_f2, ex_b1, ex_b2, two_fr, dAbs, dAug, dIpAdd, dFor, forD, dRng1, dItT, dItL, dSl, dSlL, dNoPart, dPart, dInt1, DL.start, List.map_cons, List.map_nil, List.cons_append, List.nil_append, List.length_cons, List.length_nil, List.replicate, List.replicate_zero, Nat.sub_self, Nat.reduceSub, Nat.reduceAdd, Nat.zero_add, List.set_cons_zero, List.set_cons_succ, List.getElem?_cons_zero, List.getElem?_cons_succ, List.append_nil, true_and, szl0, szl1, szl2, szl3, szl4, szl5, szl6, szl7, szl8, ltl0, ltl1, ltl2, ltl3, ltl4, ltl5, ex_some, ex_bl, ex_two, ex_three, ex_int, ex_intp, ex_ints, ex_int2,  Bool.false_eq_true, if_true, if_false, Bool.not_true, Bool.not_false, reduceIte]
  unfold nought at q
  have e1 : decide (l.num ≤ 0) = decide (l ≤ 0) := by rw [decide_eq_decide, Rat.le_iff]; simp
  have e2 : decide (0 ≤ h.num) = decide (0 ≤ h) := by rw [decide_eq_decide]; exact Rat.num_nonneg
  rw [e1, e2]
  cases hc : decide (l ≤ 0) <;> (rw [hc] at q; simpa using q)
theorem nought_off {l h : Rat} (hlh : l ≤ h) (c : nought l h = false) : l ≠ 0 ∧ h ≠ 0 := by
  unfold nought at c
  constructor
  · rintro rfl
    simp [hlh] at c
  · rintro rfl
    simp [hlh] at c
theorem len_raw_over : ∀ xs M P Y, sp_raw_over xs M P Y → xs.length = 2 := by
  intro xs M P Y h
  unfold sp_raw_over at h
  split at h
  · rfl
  · exact h.elim
theorem rd_raw_over : ∀ xs M P Y, sp_raw_over xs M P Y → t_raw_over { nx := fun _ M' => P .non M', rt := P, ex := fun c _ M' => Y c M' } (DL.start 4 xs) M := by
  intro xs M P Y h
  unfold sp_raw_over at h
  split at h
  rotate_left
  · exact h.elim
  rename_i x y
  unfold t_raw_over
  obtain ⟨l, h, l', h', rfl, rfl, h1, h2, h3, h4, hle, q⟩ := h
  simp only [dSeq, dLt, dLe, dGt, dGe, dNext, dRet, dRetN, dDrop, dIfS, dAsg, dPar, dPar3, hName, dIf, dTest, dNot, dAnd, dOr, dAndV, dOrV, dNotV, dUn, dNeg, dOp, dFn, dCall, dCons, dNil, dC, dvar_eq, dTup, dLstS, dLstC, dChain, dRaise, dSettle, dApp, htup2, htup2b, ex_tup, ex_tupb, ex_lst, dAdd, dSub, dMul, dFdiv, dMod, dPow, dShl, dCmpI, dIsN, dNotN, dIsB, dNotB, isNon, dix_fr0, dix_fr1, dix_bx0, dix_bx1, dix_t0, dix_t1, dix_l0, mk_bx, mk_neg, mk_ab, ex_f1, ex_f2, ex_b1, ex_b2, two_fr, dAbs, dAug, dIpAdd, dFor, forD, dRng1, dItT, dItL, dSl, dSlL, dNoPart, dPart, dInt1, DL.start, List.map_cons, List.map_nil, List.cons_append, List.nil_append, List.length_cons, List.length_nil, List.replicate, List.replicate_zero, Nat.sub_self, Nat.reduceSub, Nat.reduceAdd, Nat.zero_add, List.set_cons_zero, List.set_cons_succ, List.getElem?_cons_zero, List.getElem?_cons_succ, List.append_nil, true_and, szl0, szl1, szl2, szl3, szl4, szl5, szl6, szl7, szl8, ltl0, ltl1, ltl2, ltl3, ltl4, ltl5, ex_some, ex_bl, ex_two, ex_three, ex_int, ex_intp, ex_ints, ex_int2,  Bool.false_eq_true, if_true, if_false, Bool.not_true, Bool.not_false, reduceIte, sp_has_nought]
  unfold overD at q
  cases c : nought l' h'
  · simp only [c, Bool.false_eq_true, if_false] at q ⊢
    obtain ⟨n1, n2⟩ := nought_off hle c
    simp only [dSeq, dLt, dLe, dGt, dGe, dNext, dRet, dRetN, dDrop, dIfS, dAsg, dPar, dPar3, hName, dIf, dTest, dNot, dAnd, dOr, dAndV, dOrV, dNotV, dUn, dNeg, dOp, dFn, dCall, dCons, dNil, dC, dvar_eq, dTup, dLstS, dLstC, dChain, dRaise, dSettle, dApp, htup2, htup2b, ex_tup, ex_tupb, ex_lst, dAdd, dSub, dMul, dFdiv, dMod, dPow, dShl, dCmpI, dIsN, dNotN, dIsB, dNotB, isNon, dix_fr0, dix_fr1, dix_bx0, dix_bx1, dix_t0, dix_t1, dix_l0, mk_bx, mk_neg, mk_ab, ex_f1, ex_f2, ex_b1, ex_b2, two_fr, dAbs, dAug, dIpAdd, dFor, forD, dRng1, dItT, dItL, dSl, dSlL, dNoPart, dPart, dInt1, DL.start, List.map_cons, List.map_nil, List.cons_append, List.nil_append, List.length_cons, List.length_nil, List.replicate, List.replicate_zero, Nat.sub_self, Nat.reduceSub, Nat.reduceAdd, Nat.zero_add, List.set_cons_zero, List.set_cons_succ, List.getElem?_cons_zero, List.getElem?_cons_succ, List.append_nil, true_and, szl0, szl1, szl2, szl3, szl4, szl5, szl6, szl7, szl8, ltl0, ltl1, ltl2, ltl3, ltl4, ltl5, ex_some, ex_bl, ex_two, ex_three, ex_int, ex_intp, ex_ints, ex_int2,  Bool.false_eq_true, if_true, if_false, Bool.not_true, Bool.not_false, reduceIte, dLc2, lc2D, lcD, dwipe, dYes, sp_over, mup_same, mup_mup]
    intro p hp
    refine ⟨s9 h1, s9 h3, n1, s9 h1, s9 h4, n2, s9 h2, s9 h3, n1, s9 h2, s9 h4, n2, ?_⟩
    rw [mdel_mup hp]
    exact ⟨_, [l / h', h / l', h / h'], rfl, bt900d h1 h3 n1, by simp only [List.mem_cons, List.not_mem_nil, or_false]; rintro a (rfl | rfl | rfl); exact bt900d h1 h4 n2; exact bt900d h2 h3 n1; exact bt900d h2 h4 n2, by simp, q⟩
  · simp only [c, if_true] at q ⊢
    exact q
theorem len_raw_more : ∀ xs M P Y, sp_raw_more xs M P Y → xs.length = 2 := by
  intro xs M P Y h
  unfold sp_raw_more sp_bb at h
  split at h
  · rfl
  · exact h.elim
theorem rd_raw_more : ∀ xs M P Y, sp_raw_more xs M P Y → t_raw_more { nx := fun _ M' => P .non M', rt := P, ex := fun c _ M' => Y c M' } (DL.start 2 xs) M := by
  intro xs M P Y h
  unfold sp_raw_more sp_bb at h
  split at h
  rotate_left
  · exact h.elim
  rename_i x y
  unfold t_raw_more
  obtain ⟨l, h, l', h', rfl, rfl, h1, h2, h3, h4, q⟩ := h
  simp only [dSeq, dLt, dLe, dGt, dGe, dNext, dRet, dRetN, dDrop, dIfS, dAsg, dPar, dPar3, hName, dIf, dTest, dNot, dAnd, dOr, dAndV, dOrV, dNotV, dUn, dNeg, dOp, dFn, dCall, dCons, dNil, dC, dvar_eq, dTup, dLstS, dLstC, dChain, dRaise, dSettle, dApp, htup2, htup2b, ex_tup, ex_tupb, ex_lst, dAdd, dSub, dMul, dFdiv, dMod, dPow, dShl, dCmpI, dIsN, dNotN, dIsB, dNotB, isNon, dix_fr0, dix_fr1, dix_bx0, dix_bx1, dix_t0, dix_t1, dix_l0, mk_bx, mk_neg, mk_ab, ex_f1, ex_f2, ex_b1, ex_b2, two_fr, dAbs, dAug, dIpAdd, dFor, forD, dRng1, dItT, dItL, dSl, dSlL, dNoPart, dPart, dInt1, DL.start, List.map_cons, List.map_nil, List.cons_append, List.nil_append, List.length_cons, List.length_nil, List.replicate, List.replicate_zero, Nat.sub_self, Nat.reduceSub, Nat.reduceAdd, Nat.zero_add, List.set_cons_zero, List.set_cons_succ, List.getElem?_cons_zero, List.getElem?_cons_succ, List.append_nil, true_and, szl0, szl1, szl2, szl3, szl4, szl5, szl6, szl7, szl8, ltl0, ltl1, ltl2, ltl3, ltl4, ltl5, ex_some, ex_bl, ex_two, ex_three, ex_int, ex_intp, ex_ints, ex_int2,  Bool.false_eq_true, if_true, if_false, Bool.not_true, Bool.not_false, reduceIte, sp_greater]
  exact ⟨h1, h3, h2, h4, q⟩
theorem len_raw_less : ∀ xs M P Y, sp_raw_less xs M P Y → xs.length = 2 := by
  intro xs M P Y h
  unfold sp_raw_less sp_bb at h
  split at h
  · rfl
  · exact h.elim
theorem rd_raw_less : ∀ xs M P Y, sp_raw_less xs M P Y → t_raw_less { nx := fun _ M' => P .non M', rt := P, ex := fun c _ M' => Y c M' } (DL.start 2 xs) M := by
  intro xs M P Y h
  unfold sp_raw_less sp_bb at h
  split at h
  rotate_left
  · exact h.elim
  rename_i x y
  unfold t_raw_less
  obtain ⟨l, h, l', h', rfl, rfl, h1, h2, h3, h4, q⟩ := h
  simp only [dSeq, dLt, dLe, dGt, dGe, dNext, dRet, dRetN, dDrop, dIfS, dAsg, dPar, dPar3, hName, dIf, dTest, dNot, dAnd, dOr, dAndV, dOrV, dNotV, dUn, dNeg, dOp, dFn, dCall, dCons, dNil, dC, dvar_eq, dTup, dLstS, dLstC, dChain, dRaise, dSettle, dApp, htup2, htup2b, ex_tup, ex_tupb, ex_lst, dAdd, dSub, dMul, dFdiv, dMod, dPow, dShl, dCmpI, dIsN, dNotN, dIsB, dNotB, isNon, dix_fr0, dix_fr1, dix_bx0, dix_bx1, dix_t0, dix_t1, dix_l0, mk_bx, mk_neg, mk_ab, ex_f1, ex_f2, ex_b1, ex_b2, two_fr, dAbs, dAug, dIpAdd, dFor, forD, dRng1, dItT, dItL, dSl, dSlL, dNoPart, dPart, dInt1, DL.start, List.map_cons, List.map_nil, List.cons_append, List.nil_append, List.length_cons, List.length_nil, List.replicate, List.replicate_zero, Nat.sub_self, Nat.reduceSub, Nat.reduceAdd, Nat.zero_add, List.set_cons_zero, List.set_cons_succ, List.getElem?_cons_zero, List.getElem?_cons_succ, List.append_nil, true_and, szl0, szl1, szl2, szl3, szl4, szl5, szl6, szl7, szl8, ltl0, ltl1, ltl2, ltl3, ltl4, ltl5, ex_some, ex_bl, ex_two, ex_three, ex_int, ex_intp, ex_ints, ex_int2,  Bool.false_eq_true, if_true, if_false, Bool.not_true, Bool.not_false, reduceIte, sp_lesser]
  exact ⟨h1, h3, h2, h4, q⟩
theorem len_raw_join : ∀ xs M P Y, sp_raw_join xs M P Y → xs.length = 2 := by
  intro xs M P Y h
  unfold sp_raw_join sp_bb at h
  split at h
  · rfl
  · exact h.elim
theorem rd_raw_join : ∀ xs M P Y, sp_raw_join xs M P Y → t_raw_join { nx := fun _ M' => P .non M', rt := P, ex := fun c _ M' => Y c M' } (DL.start 2 xs) M := by
  intro xs M P Y h
  unfold sp_raw_join sp_bb at h
  split at h
  rotate_left
  · exact h.elim
  rename_i x y
  unfold t_raw_join
  obtain ⟨l, h, l', h', rfl, rfl, h1, h2, h3, h4, q⟩ := h
  simp only [dSeq, dLt, dLe, dGt, dGe, dNext, dRet, dRetN, dDrop, dIfS, dAsg, dPar, dPar3, hName, dIf, dTest, dNot, dAnd, dOr, dAndV, dOrV, dNotV, dUn, dNeg, dOp, dFn, dCall, dCons, dNil, dC, dvar_eq, dTup, dLstS, dLstC, dChain, dRaise, dSettle, dApp, htup2, htup2b, ex_tup, ex_tupb, ex_lst, dAdd, dSub, dMul, dFdiv, dMod, dPow, dShl, dCmpI, dIsN, dNotN, dIsB, dNotB, isNon, dix_fr0, dix_fr1, dix_bx0, dix_bx1, dix_t0, dix_t1, dix_l0, mk_bx, mk_neg, mk_ab, ex_f1, ex_f2, ex_b1, ex_b2, two_fr, dAbs, dAug, dIpAdd, dFor, forD, dRng1, dItT, dItL, dSl, dSlL, dNoPart, dPart, dInt1, DL.start, List.map_cons, List.map_nil, List.cons_append, List.nil_append, List.length_cons, List.length_nil, List.replicate, List.replicate_zero, Nat.sub_self, Nat.reduceSub, Nat.reduceAdd, Nat.zero_add, List.set_cons_zero, List.set_cons_succ, List.getElem?_cons_zero, List.getElem?_cons_succ, List.append_nil, true_and, szl0, szl1, szl2, szl3, szl4, szl5, szl6, szl7, szl8, ltl0, ltl1, ltl2, ltl3, ltl4, ltl5, ex_some, ex_bl, ex_two, ex_three, ex_int, ex_intp, ex_ints, ex_int2,  Bool.false_eq_true, if_true, if_false, Bool.not_true, Bool.not_false, reduceIte, sp_lesser, sp_greater]
  exact ⟨h1, h3, h2, h4, q⟩
end K07

set_option Elab.async false
set_option linter.all false
set_option maxRecDepth 100000
set_option maxHeartbeats 1000000
namespace K07
open PySem PySem.Spec PyProof.Rows L2 DL
theorem len_raw_size : ∀ xs M P Y, sp_raw_size xs M P Y → xs.length = 1 := by
  intro xs M P Y h
  unfold sp_raw_size sp_b at h
  split at h
  · rfl
  · exact h.elim
theorem rd_raw_size : ∀ xs M P Y, sp_raw_size xs M P Y → t_raw_size { nx := fun _ M' => P .non M', rt := P, ex := fun c _ M' => Y c M' } (DL.start 1 xs) M := by
  intro xs M P Y h
  unfold sp_raw_size sp_b at h
  split at h
  rotate_left
  · exact h.elim
  rename_i x
  unfold t_raw_size
  obtain ⟨l, h, rfl, h1, h2, q⟩ := h
  simp only [dSeq, dLt, dLe, dGt, dGe, dNext, dRet, dRetN, dDrop, dIfS, dAsg, dPar, dPar3, hName, dIf, dTest, dNot, dAnd, dOr, dAndV, dOrV, dNotV, dUn, dNeg, dOp, dFn, dCall, dCons, dNil, dC, dvar_eq, dTup, dLstS, dLstC, dChain, dRaise, dSettle, dApp, htup2, htup2b, ex_tup, ex_tupb, ex_lst, dAdd, dSub, dMul, dFdiv, dMod, dPow, dShl, dCmpI, dIsN, dNotN, dIsB, dNotB, isNon, dix_fr0, dix_fr1, dix_bx0, dix_bx1, dix_t0, dix_t1, dix_l0, mk_bx, mk_neg, mk_ab, ex_f1, ex_f2, ex_b1, ex_b2, two_fr, dAbs, dAug, dIpAdd, dFor, forD, dRng1, dItT, dItL, dSl, dSlL, dNoPart, dPart, dInt1, DL.start, List.map_cons, List.map_nil, List.cons_append, List.nil_append, List.length_cons, List.length_nil, List.replicate, List.replicate_zero, Nat.sub_self, Nat.reduceSub, Nat.reduceAdd, Nat.zero_add, List.set_cons_zero, List.set_cons_succ, List.getElem?_cons_zero, List.getElem?_cons_succ, List.append_nil, true_and, szl0, szl1, szl2, szl3, szl4, szl5, szl6, szl7, szl8, ltl0, ltl1, ltl2, ltl3, ltl4, ltl5, ex_some, ex_bl, ex_two, ex_three, ex_int, ex_intp, ex_ints, ex_int2,  Bool.false_eq_true, if_true, if_false, Bool.not_true, Bool.not_false, reduceIte, sp_has_nought]
  simp only [sizeL, sizeH] at q
  cases c : nought l h
  · simp only [c, Bool.false_eq_true, if_false] at q ⊢
    simp only [dSeq, dLt, dLe, dGt, dGe, dNext, dRet, dRetN, dDrop, dIfS, dAsg, dPar, dPar3, hName, dIf, dTest, dNot, dAnd, dOr, dAndV, dOrV, dNotV, dUn, dNeg, dOp, dFn, dCall, dCons, dNil, dC, dvar_eq, dTup, dLstS, dLstC, dChain, dRaise, dSettle, dApp, htup2, htup2b, ex_tup, ex_tupb, ex_lst, dAdd, dSub, dMul, dFdiv, dMod, dPow, dShl, dCmpI, dIsN, dNotN, dIsB, dNotB, isNon, dix_fr0, dix_fr1, dix_bx0, dix_bx1, dix_t0, dix_t1, dix_l0, mk_bx, mk_neg, mk_ab, ex_f1, ex_f2, ex_b1, ex_b2, two_fr, dAbs, dAug, dIpAdd, dFor, forD, dRng1, dItT, dItL, dSl, dSlL, dNoPart, dPart, dInt1, DL.start, List.map_cons, List.map_nil, List.cons_append, List.nil_append, List.length_cons, List.length_nil, List.replicate, List.replicate_zero, Nat.sub_self, Nat.reduceSub, Nat.reduceAdd, Nat.zero_add, List.set_cons_zero, List.set_cons_succ, List.getElem?_cons_zero, List.getElem?_cons_succ, List.append_nil, true_and, szl0, szl1, szl2, szl3, szl4, szl5, szl6, szl7, szl8, ltl0, ltl1, ltl2, ltl3, ltl4, ltl5, ex_some, ex_bl, ex_two, ex_three, ex_int, ex_intp, ex_ints, ex_int2,  Bool.false_eq_true, if_true, if_false, Bool.not_true, Bool.not_false, reduceIte, sp_sized]
    exact ⟨ab l, [ab h], rfl, h1.ab, by simpa using h2.ab, by simp, q⟩
  · simp only [c, if_true] at q ⊢
    simp only [dSeq, dLt, dLe, dGt, dGe, dNext, dRet, dRetN, dDrop, dIfS, dAsg, dPar, dPar3, hName, dIf, dTest, dNot, dAnd, dOr, dAndV, dOrV, dNotV, dUn, dNeg, dOp, dFn, dCall, dCons, dNil, dC, dvar_eq, dTup, dLstS, dLstC, dChain, dRaise, dSettle, dApp, htup2, htup2b, ex_tup, ex_tupb, ex_lst, dAdd, dSub, dMul, dFdiv, dMod, dPow, dShl, dCmpI, dIsN, dNotN, dIsB, dNotB, isNon, dix_fr0, dix_fr1, dix_bx0, dix_bx1, dix_t0, dix_t1, dix_l0, mk_bx, mk_neg, mk_ab, ex_f1, ex_f2, ex_b1, ex_b2, two_fr, dAbs, dAug, dIpAdd, dFor, forD, dRng1, dItT, dItL, dSl, dSlL, dNoPart, dPart, dInt1, DL.start, List.map_cons, List.map_nil, List.cons_append, List.nil_append, List.length_cons, List.length_nil, List.replicate, List.replicate_zero, Nat.sub_self, Nat.reduceSub, Nat.reduceAdd, Nat.zero_add, List.set_cons_zero, List.set_cons_succ, List.getElem?_cons_zero, List.getElem?_cons_succ, List.append_nil, true_and, szl0, szl1, szl2, szl3, szl4, szl5, szl6, szl7, szl8, ltl0, ltl1, ltl2, ltl3, ltl4, ltl5, ex_some, ex_bl, ex_two, ex_three, ex_int, ex_intp, ex_ints, ex_int2,  Bool.false_eq_true, if_true, if_false, Bool.not_true, Bool.not_false, reduceIte, sp_sized, sp_greater, mk_fr0]
    exact ⟨h1.ab, h2.ab, q⟩
theorem len_raw_power : ∀ xs M P Y, sp_raw_power xs M P Y → xs.length = 2 := by
  intro xs M P Y h
  unfold sp_raw_power at h
  split at h
  · rfl
  · exact h.elim
theorem rd_raw_power : ∀ xs M P Y, sp_raw_power xs M P Y → t_raw_power { nx := fun _ M' => P .non M', rt := P, ex := fun c _ M' => Y c M' } (DL.start 3 xs) M := by
  intro xs M P Y h
  unfold sp_raw_power at h
  split at h
  rotate_left
  · exact h.elim
  rename_i x k
  unfold t_raw_power
  obtain ⟨l, h, rfl, h1, h2, h3, h4, q⟩ := h
  obtain ⟨K, rfl⟩ := Int.eq_ofNat_of_zero_le h1
  rw [Int.toNat_natCast] at q
  simp only [powL, powH] at q
  have hK : K ≤ 8 := by omega
  have sl : SZ (l ^ K) := (h3.pow K).mono (by omega)
  have sh : SZ (h ^ K) := (h4.pow K).mono (by omega)
  simp only [dSeq, dLt, dLe, dGt, dGe, dNext, dRet, dRetN, dDrop, dIfS, dAsg, dPar, dPar3, hName, dIf, dTest, dNot, dAnd, dOr, dAndV, dOrV, dNotV, dUn, dNeg, dOp, dFn, dCall, dCons, dNil, dC, dvar_eq, dTup, dLstS, dLstC, dChain, dRaise, dSettle, dApp, htup2, htup2b, ex_tup, ex_tupb, ex_lst, dAdd, dSub, dMul, dFdiv, dMod, dPow, dShl, dCmpI, dIsN, dNotN, dIsB, dNotB, isNon, dix_fr0, dix_fr1, dix_bx0, dix_bx1, dix_t0, dix_t1, dix_l0, mk_bx, mk_neg, mk_ab, ex_f1, ex_f2, ex_b1, ex_b2, two_fr, dAbs, dAug, dIpAdd, dFor, forD, dRng1, dItT, dItL, dSl, dSlL, dNoPart, dPart, dInt1, DL.start, List.map_cons, List.map_nil, List.cons_append, List.nil_append, List.length_cons, List.length_nil, List.replicate, List.replicate_zero, Nat.sub_self, Nat.reduceSub, Nat.reduceAdd, Nat.zero_add, List.set_cons_zero, List.set_cons_succ, List.getElem?_cons_zero, List.getElem?_cons_succ, List.append_nil, true_and, szl0, szl1, szl2, szl3, szl4, szl5, szl6, szl7, szl8, ltl0, ltl1, ltl2, ltl3, ltl4, ltl5, ex_some, ex_bl, ex_two, ex_three, ex_int, ex_intp, ex_ints, ex_int2,  Bool.false_eq_true, if_true, if_false, Bool.not_true, Bool.not_false, reduceIte, dEq]
  by_cases c : K = 0
  · subst c
    simp only [if_true] at q
    simpa [mk_fr1, mk_bx] using q
  · have c' : ¬ (K : Int) = 0 := by omega
    simp only [c, c', decide_false, Bool.false_eq_true, if_false] at q ⊢
    simp only [dSeq, dLt, dLe, dGt, dGe, dNext, dRet, dRetN, dDrop, dIfS, dAsg, dPar, dPar3, hName, dIf, dTest, dNot, dAnd, dOr, dAndV, dOrV, dNotV, dUn, dNeg, dOp, dFn, dCall, dCons, dNil, dC, dvar_eq, dTup, dLstS, dLstC, dChain, dRaise, dSettle, dApp, htup2, htup2b, ex_tup, ex_tupb, ex_lst, dAdd, dSub, dMul, dFdiv, dMod, dPow, dShl, dCmpI, dIsN, dNotN, dIsB, dNotB, isNon, dix_fr0, dix_fr1, dix_bx0, dix_bx1, dix_t0, dix_t1, dix_l0, mk_bx, mk_neg, mk_ab, ex_f1, ex_f2, ex_b1, ex_b2, two_fr, dAbs, dAug, dIpAdd, dFor, forD, dRng1, dItT, dItL, dSl, dSlL, dNoPart, dPart, dInt1, DL.start, List.map_cons, List.map_nil, List.cons_append, List.nil_append, List.length_cons, List.length_nil, List.replicate, List.replicate_zero, Nat.sub_self, Nat.reduceSub, Nat.reduceAdd, Nat.zero_add, List.set_cons_zero, List.set_cons_succ, List.getElem?_cons_zero, List.getElem?_cons_succ, List.append_nil, true_and, szl0, szl1, szl2, szl3, szl4, szl5, szl6, szl7, szl8, ltl0, ltl1, ltl2, ltl3, ltl4, ltl5, ex_some, ex_bl, ex_two, ex_three, ex_int, ex_intp, ex_ints, ex_int2,  Bool.false_eq_true, if_true, if_false, Bool.not_true, Bool.not_false, reduceIte, sp_raised, Int.toNat_natCast]
    refine ⟨h1, by omega, h3.mono (by decide), h1, by omega, h4.mono (by decide), l ^ K, [h ^ K], rfl, sl, by simpa using sh, by simp, ?_⟩
    simp only [dSeq, dLt, dLe, dGt, dGe, dNext, dRet, dRetN, dDrop, dIfS, dAsg, dPar, dPar3, hName, dIf, dTest, dNot, dAnd, dOr, dAndV, dOrV, dNotV, dUn, dNeg, dOp, dFn, dCall, dCons, dNil, dC, dvar_eq, dTup, dLstS, dLstC, dChain, dRaise, dSettle, dApp, htup2, htup2b, ex_tup, ex_tupb, ex_lst, dAdd, dSub, dMul, dFdiv, dMod, dPow, dShl, dCmpI, dIsN, dNotN, dIsB, dNotB, isNon, dix_fr0, dix_fr1, dix_bx0, dix_bx1, dix_t0, dix_t1, dix_l0, mk_bx, mk_neg, mk_ab, ex_f1, ex_f2, ex_b1, ex_b2, two_fr, dAbs, dAug, dIpAdd, dFor, forD, dRng1, dItT, dItL, dSl, dSlL, dNoPart, dPart, dInt1, DL.start, List.map_cons, List.map_nil, List.cons_append, List.nil_append, List.length_cons, List.length_nil, List.replicate, List.replicate_zero, Nat.sub_self, Nat.reduceSub, Nat.reduceAdd, Nat.zero_add, List.set_cons_zero, List.set_cons_succ, List.getElem?_cons_zero, List.getElem?_cons_succ, List.append_nil, true_and, szl0, szl1, szl2, szl3, szl4, szl5, szl6, szl7, szl8, ltl0, ltl1, ltl2, ltl3, ltl4, ltl5, ex_some, ex_bl, ex_two, ex_three, ex_int, ex_intp, ex_ints, ex_int2,  Bool.false_eq_true, if_true, if_false, Bool.not_true, Bool.not_false, reduceIte, List.foldl_cons, List.foldl_nil, dEq, sp_has_nought]
    refine ⟨by decide, ?_⟩
    have e1 : ((K : Int).fmod 2) = ((K % 2 : Nat) : Int) := by rw [Int.fmod_eq_emod_of_nonneg _ (by decide)]; omega
    rw [e1]
    by_cases c2 : K % 2 = 0
    · have z1 : ((K % 2 : Nat) : Int) = 0 := by omega
      simp only [c2, z1, true_and, decide_true, if_true] at q ⊢
      cases c3 : nought l h
      · simp only [c3, Bool.false_eq_true, if_false] at q ⊢
        exact q
      · simp only [c3, if_true] at q ⊢
        simp only [dSeq, dLt, dLe, dGt, dGe, dNext, dRet, dRetN, dDrop, dIfS, dAsg, dPar, dPar3, hName, dIf, dTest, dNot, dAnd, dOr, dAndV, dOrV, dNotV, dUn, dNeg, dOp, dFn, dCall, dCons, dNil, dC, dvar_eq, dTup, dLstS, dLstC, dChain, dRaise, dSettle, dApp, htup2, htup2b, ex_tup, ex_tupb, ex_lst, dAdd, dSub, dMul, dFdiv, dMod, dPow, dShl, dCmpI, dIsN, dNotN, dIsB, dNotB, isNon, dix_fr0, dix_fr1, dix_bx0, dix_bx1, dix_t0, dix_t1, dix_l0, mk_bx, mk_neg, mk_ab, ex_f1, ex_f2, ex_b1, ex_b2, two_fr, dAbs, dAug, dIpAdd, dFor, forD, dRng1, dItT, dItL, dSl, dSlL, dNoPart, dPart, dInt1, DL.start, List.map_cons, List.map_nil, List.cons_append, List.nil_append, List.length_cons, List.length_nil, List.replicate, List.replicate_zero, Nat.sub_self, Nat.reduceSub, Nat.reduceAdd, Nat.zero_add, List.set_cons_zero, List.set_cons_succ, List.getElem?_cons_zero, List.getElem?_cons_succ, List.append_nil, true_and, szl0, szl1, szl2, szl3, szl4, szl5, szl6, szl7, szl8, ltl0, ltl1, ltl2, ltl3, ltl4, ltl5, ex_some, ex_bl, ex_two, ex_three, ex_int, ex_intp, ex_ints, ex_int2,  Bool.false_eq_true, if_true, if_false, Bool.not_true, Bool.not_false, reduceIte, mk_fr0]
        exact q
    · have z1 : ¬ ((K % 2 : Nat) : Int) = 0 := by omega
      simp only [c2, z1, false_and, decide_false, if_false, Bool.false_eq_true] at q ⊢
      exact q
theorem two_pow_small (d k : Nat) (hd : d ≤ 400) (hk : k ≤ 16) : (((2:Int) ^ d) ^ k).natAbs < 2 ^ 6401 := by
  rw [← Int.pow_mul]
  have h1 : d * k ≤ 400 * 16 := Nat.mul_le_mul hd hk
  refine pow_small (Int.pow_nonneg (by decide)) ?_
  exact_mod_cast Nat.pow_lt_pow_right (a := 2) (by decide) (by omega : d * k < 6401)
theorem two_pow_pos (d k : Nat) : 0 < ((2:Int) ^ d) ^ k := Int.pow_pos (Int.pow_pos (by decide))
theorem root_arg {q : Rat} {k d : Nat} (h0 : 0 ≤ q) (hq : bt q 200) (hk : k ≤ 16) (hd : d ≤ 400) : 0 ≤ (q.num * (2 ^ d) ^ k).fdiv q.den ∧ (q.num * (2 ^ d) ^ k).fdiv q.den < 2 ^ 6700 := by
  have n0 := Rat.num_nonneg.mpr h0
  have p0 := two_pow_pos d k
  have m0 : 0 ≤ q.num * (2 ^ d) ^ k := Int.mul_nonneg n0 (by omega)
  rw [Int.fdiv_eq_ediv_of_nonneg _ (by omega)]
  refine ⟨Int.ediv_nonneg m0 (by omega), ?_⟩
  have l1 := Int.ediv_le_self (a := q.num * (2 ^ d) ^ k) (q.den : Int) m0
  have s1 : (q.num * (2 ^ d) ^ k).natAbs < 2 ^ 6700 := nm hq.1 (two_pow_small d k hd hk) (by decide)
  have s2 : ((q.num * (2 ^ d) ^ k).natAbs : Int) < ((2 ^ 6700 : Nat) : Int) := by exact_mod_cast s1
  rw [Int.natCast_pow] at s2
  have s3 : ((q.num * (2 ^ d) ^ k).natAbs : Int) = q.num * (2 ^ d) ^ k := by omega
  rw [s3] at s2
  exact Int.lt_of_le_of_lt l1 s2
theorem up_pow {a : Int} {n m : Nat} (h : a.natAbs < 2 ^ n) (l : n ≤ m) : a.natAbs < 2 ^ m := Nat.lt_of_lt_of_le h (Nat.pow_le_pow_right (by decide) l)
theorem two_pow_one (d : Nat) (hd : d ≤ 400) : ((2:Int) ^ d).natAbs < 2 ^ 6401 := by
  have := two_pow_small d 1 hd (by decide)
  rwa [Int.pow_succ, Int.pow_zero, Int.one_mul] at this
theorem lowI_facts {q : Rat} {k d : Nat} (h0 : 0 ≤ q) (hq : bt q 200) (hk1 : 1 ≤ k) (hk : k ≤ 16) (hd : d ≤ 400) : 0 ≤ lowI q k d ∧ (lowI q k d).natAbs < 2 ^ 6700 ∧ ((lowI q k d) ^ k).natAbs < 2 ^ 6700 := by
  obtain ⟨a1, a2⟩ := root_arg h0 hq hk hd
  have r := rt_is hk1 a1
  have r2 := rt_le hk1 a1
  unfold lowI
  generalize (q.num * (2 ^ d) ^ k).fdiv q.den = n at *
  exact ⟨r.1, pow_small r.1 (Int.lt_of_le_of_lt r2 a2), pow_small (Int.pow_nonneg r.1) (Int.lt_of_le_of_lt r.2.1 a2)⟩
theorem len_root_above : ∀ xs M P Y, sp_root_above xs M P Y → xs.length = 3 := by
  intro xs M P Y h
  unfold sp_root_above at h
  split at h
  · rfl
  · exact h.elim
theorem rd_root_above : ∀ xs M P Y, sp_root_above xs M P Y → t_root_above { nx := fun _ M' => P .non M', rt := P, ex := fun c _ M' => Y c M' } (DL.start 5 xs) M := by
  intro xs M P Y h
  unfold sp_root_above at h
  split at h
  rotate_left
  · exact h.elim
  rename_i x k d
  unfold t_root_above
  obtain ⟨a, rfl, h0, hb, h1, h2, h3, h4, q⟩ := h
  obtain ⟨K, rfl⟩ := Int.eq_ofNat_of_zero_le (by omega : 0 ≤ k)
  obtain ⟨E, rfl⟩ := Int.eq_ofNat_of_zero_le h3
  rw [Int.toNat_natCast, Int.toNat_natCast] at q
  have hK : 1 ≤ K := by omega
  obtain ⟨a1, a2⟩ := root_arg (k := K) (d := E) h0 hb (by omega) (by omega)
  obtain ⟨r1, r2, r3⟩ := lowI_facts h0 hb hK (by omega : K ≤ 16) (by omega : E ≤ 400)
  have w1 := two_pow_one E (by omega)
  have w2 := two_pow_small E K (by omega) (by omega)
  have e16 : (K : Int) ≤ 16 := by omega
  have big : ∀ n : Int, n < 2 ^ 6700 → n < 2 ^ 10000 := fun n h => Int.lt_trans h (by exact_mod_cast Nat.pow_lt_pow_right (a := 2) (by decide) (by decide : 6700 < 10000))
  simp only [dSeq, dLt, dLe, dGt, dGe, dNext, dRet, dRetN, dDrop, dIfS, dAsg, dPar, dPar3, hName, dIf, dTest, dNot, dAnd, dOr, dAndV, dOrV, dNotV, dUn, dNeg, dOp, dFn, dCall, dCons, dNil, dC, dvar_eq, dTup, dLstS, dLstC, dChain, dRaise, dSettle, dApp, htup2, htup2b, ex_tup, ex_tupb, ex_lst, dAdd, dSub, dMul, dFdiv, dMod, dPow, dShl, dCmpI, dIsN, dNotN, dIsB, dNotB, isNon, dix_fr0, dix_fr1, dix_bx0, dix_bx1, dix_t0, dix_t1, dix_l0, mk_bx, mk_neg, mk_ab, ex_f1, ex_f2, ex_b1, ex_b2, two_fr, dAbs, dAug, dIpAdd, dFor, forD, dRng1, dItT, dItL, dSl, dSlL, dNoPart, dPart, dInt1, DL.start, List.map_cons, List.map_nil, List.cons_append, List.nil_append, List.length_cons, List.length_nil, List.replicate, List.replicate_zero, Nat.sub_self, Nat.reduceSub, Nat.reduceAdd, Nat.zero_add, List.set_cons_zero, List.set_cons_succ, List.getElem?_cons_zero, List.getElem?_cons_succ, List.append_nil, true_and, szl0, szl1, szl2, szl3, szl4, szl5, szl6, szl7, szl8, ltl0, ltl1, ltl2, ltl3, ltl4, ltl5, ex_some, ex_bl, ex_two, ex_three, ex_int, ex_intp, ex_ints, ex_int2,  Bool.false_eq_true, if_true, if_false, Bool.not_true, Bool.not_false, reduceIte, sp_two_to, Int.toNat_natCast]
  refine ⟨h3, h4, ?_⟩
  simp only [dSeq, dLt, dLe, dGt, dGe, dNext, dRet, dRetN, dDrop, dIfS, dAsg, dPar, dPar3, hName, dIf, dTest, dNot, dAnd, dOr, dAndV, dOrV, dNotV, dUn, dNeg, dOp, dFn, dCall, dCons, dNil, dC, dvar_eq, dTup, dLstS, dLstC, dChain, dRaise, dSettle, dApp, htup2, htup2b, ex_tup, ex_tupb, ex_lst, dAdd, dSub, dMul, dFdiv, dMod, dPow, dShl, dCmpI, dIsN, dNotN, dIsB, dNotB, isNon, dix_fr0, dix_fr1, dix_bx0, dix_bx1, dix_t0, dix_t1, dix_l0, mk_bx, mk_neg, mk_ab, ex_f1, ex_f2, ex_b1, ex_b2, two_fr, dAbs, dAug, dIpAdd, dFor, forD, dRng1, dItT, dItL, dSl, dSlL, dNoPart, dPart, dInt1, DL.start, List.map_cons, List.map_nil, List.cons_append, List.nil_append, List.length_cons, List.length_nil, List.replicate, List.replicate_zero, Nat.sub_self, Nat.reduceSub, Nat.reduceAdd, Nat.zero_add, List.set_cons_zero, List.set_cons_succ, List.getElem?_cons_zero, List.getElem?_cons_succ, List.append_nil, true_and, szl0, szl1, szl2, szl3, szl4, szl5, szl6, szl7, szl8, ltl0, ltl1, ltl2, ltl3, ltl4, ltl5, ex_some, ex_bl, ex_two, ex_three, ex_int, ex_intp, ex_ints, ex_int2,  Bool.false_eq_true, if_true, if_false, Bool.not_true, Bool.not_false, reduceIte, powD (k := (K : Int)) (b := 2 ^ E) (by omega) e16 (up_pow w1 (by decide)), Int.toNat_natCast]
  refine ⟨cmul (n := 6401) (by decide) (up_pow hb.1 (by decide)) w2, ⟨d0 a, by rw [dI]; exact (cdiv (i := 0) (d0 a) (by rw [dI]; exact Nat.lt_of_lt_of_le hb.2 (Nat.pow_le_pow_right (by decide) (by decide)))).2 |> fun z => by simpa using z⟩, a1, big _ a2, by omega, e16, ?_⟩
  simp only [Int.toNat_natCast]
  rw [show rt K ((a.num * (2 ^ E) ^ K).fdiv a.den) = lowI a K E from rfl]
  simp only [dSeq, dLt, dLe, dGt, dGe, dNext, dRet, dRetN, dDrop, dIfS, dAsg, dPar, dPar3, hName, dIf, dTest, dNot, dAnd, dOr, dAndV, dOrV, dNotV, dUn, dNeg, dOp, dFn, dCall, dCons, dNil, dC, dvar_eq, dTup, dLstS, dLstC, dChain, dRaise, dSettle, dApp, htup2, htup2b, ex_tup, ex_tupb, ex_lst, dAdd, dSub, dMul, dFdiv, dMod, dPow, dShl, dCmpI, dIsN, dNotN, dIsB, dNotB, isNon, dix_fr0, dix_fr1, dix_bx0, dix_bx1, dix_t0, dix_t1, dix_l0, mk_bx, mk_neg, mk_ab, ex_f1, ex_f2, ex_b1, ex_b2, two_fr, dAbs, dAug, dIpAdd, dFor, forD, dRng1, dItT, dItL, dSl, dSlL, dNoPart, dPart, dInt1, DL.start, List.map_cons, List.map_nil, List.cons_append, List.nil_append, List.length_cons, List.length_nil, List.replicate, List.replicate_zero, Nat.sub_self, Nat.reduceSub, Nat.reduceAdd, Nat.zero_add, List.set_cons_zero, List.set_cons_succ, List.getElem?_cons_zero, List.getElem?_cons_succ, List.append_nil, true_and, szl0, szl1, szl2, szl3, szl4, szl5, szl6, szl7, szl8, ltl0, ltl1, ltl2, ltl3, ltl4, ltl5, ex_some, ex_bl, ex_two, ex_three, ex_int, ex_intp, ex_ints, ex_int2,  Bool.false_eq_true, if_true, if_false, Bool.not_true, Bool.not_false, reduceIte, powD (k := (K : Int)) (b := lowI a K E) (by omega) e16 (up_pow r2 (by decide)), powD (k := (K : Int)) (b := 2 ^ E) (by omega) e16 (up_pow w1 (by decide)), Int.toNat_natCast]
  refine ⟨up_pow r3 (by decide), up_pow w2 (by decide), up_pow hb.1 (by decide), by rw [dI]; exact Nat.lt_of_lt_of_le hb.2 (Nat.pow_le_pow_right (by decide) (by decide)), ?_⟩
  have nz : ((2:Int) ^ E) ≠ 0 := Int.ne_of_gt (Int.pow_pos (by decide))
  unfold upR upI at q
  by_cases c : (lowI a K E) ^ K * a.den < a.num * (2 ^ E) ^ K
  · simp only [c, decide_true, if_true] at q ⊢
    simp only [dSeq, dLt, dLe, dGt, dGe, dNext, dRet, dRetN, dDrop, dIfS, dAsg, dPar, dPar3, hName, dIf, dTest, dNot, dAnd, dOr, dAndV, dOrV, dNotV, dUn, dNeg, dOp, dFn, dCall, dCons, dNil, dC, dvar_eq, dTup, dLstS, dLstC, dChain, dRaise, dSettle, dApp, htup2, htup2b, ex_tup, ex_tupb, ex_lst, dAdd, dSub, dMul, dFdiv, dMod, dPow, dShl, dCmpI, dIsN, dNotN, dIsB, dNotB, isNon, dix_fr0, dix_fr1, dix_bx0, dix_bx1, dix_t0, dix_t1, dix_l0, mk_bx, mk_neg, mk_ab, ex_f1, ex_f2, ex_b1, ex_b2, two_fr, dAbs, dAug, dIpAdd, dFor, forD, dRng1, dItT, dItL, dSl, dSlL, dNoPart, dPart, dInt1, DL.start, List.map_cons, List.map_nil, List.cons_append, List.nil_append, List.length_cons, List.length_nil, List.replicate, List.replicate_zero, Nat.sub_self, Nat.reduceSub, Nat.reduceAdd, Nat.zero_add, List.set_cons_zero, List.set_cons_succ, List.getElem?_cons_zero, List.getElem?_cons_succ, List.append_nil, true_and, szl0, szl1, szl2, szl3, szl4, szl5, szl6, szl7, szl8, ltl0, ltl1, ltl2, ltl3, ltl4, ltl5, ex_some, ex_bl, ex_two, ex_three, ex_int, ex_intp, ex_ints, ex_int2,  Bool.false_eq_true, if_true, if_false, Bool.not_true, Bool.not_false, reduceIte, sp_fraction]
    exact ⟨nz, up_pow w1 (by decide), q⟩
  · simp only [c, decide_false, Bool.false_eq_true, if_false] at q ⊢
    simp only [dSeq, dLt, dLe, dGt, dGe, dNext, dRet, dRetN, dDrop, dIfS, dAsg, dPar, dPar3, hName, dIf, dTest, dNot, dAnd, dOr, dAndV, dOrV, dNotV, dUn, dNeg, dOp, dFn, dCall, dCons, dNil, dC, dvar_eq, dTup, dLstS, dLstC, dChain, dRaise, dSettle, dApp, htup2, htup2b, ex_tup, ex_tupb, ex_lst, dAdd, dSub, dMul, dFdiv, dMod, dPow, dShl, dCmpI, dIsN, dNotN, dIsB, dNotB, isNon, dix_fr0, dix_fr1, dix_bx0, dix_bx1, dix_t0, dix_t1, dix_l0, mk_bx, mk_neg, mk_ab, ex_f1, ex_f2, ex_b1, ex_b2, two_fr, dAbs, dAug, dIpAdd, dFor, forD, dRng1, dItT, dItL, dSl, dSlL, dNoPart, dPart, dInt1, DL.start, List.map_cons, List.map_nil, List.cons_append, List.nil_append, List.length_cons, List.length_nil, List.replicate, List.replicate_zero, Nat.sub_self, Nat.reduceSub, Nat.reduceAdd, Nat.zero_add, List.set_cons_zero, List.set_cons_succ, List.getElem?_cons_zero, List.getElem?_cons_succ, List.append_nil, true_and, szl0, szl1, szl2, szl3, szl4, szl5, szl6, szl7, szl8, ltl0, ltl1, ltl2, ltl3, ltl4, ltl5, ex_some, ex_bl, ex_two, ex_three, ex_int, ex_intp, ex_ints, ex_int2,  Bool.false_eq_true, if_true, if_false, Bool.not_true, Bool.not_false, reduceIte, sp_fraction]
    exact ⟨nz, up_pow w1 (by decide), q⟩
theorem bt0 {n : Nat} (hn : 1 ≤ n) : bt 0 n := ⟨by show 0 < 2 ^ n; exact Nat.two_pow_pos n, Nat.one_lt_two_pow (by omega)⟩
theorem mx_pos {l : Rat} : 0 ≤ mx l 0 := by
  unfold mx
  split <;> grind
theorem num_neg_iff {h : Rat} : h.num < 0 ↔ h < 0 := by
  rw [← Rat.not_le, ← Rat.num_nonneg]
  omega
theorem len_raw_root : ∀ xs M P Y, sp_raw_root xs M P Y → xs.length = 3 := by
  intro xs M P Y h
  unfold sp_raw_root at h
  split at h
  · rfl
  · exact h.elim
theorem rd_raw_root : ∀ xs M P Y, sp_raw_root xs M P Y → t_raw_root { nx := fun _ M' => P .non M', rt := P, ex := fun c _ M' => Y c M' } (DL.start 5 xs) M := by
  intro xs M P Y h
  unfold sp_raw_root at h
  split at h
  rotate_left
  · exact h.elim
  rename_i x k d
  unfold t_raw_root
  obtain ⟨l, h, rfl, hb, hb', h1, h2, h3, h4, q⟩ := h
  obtain ⟨K, rfl⟩ := Int.eq_ofNat_of_zero_le (by omega : 0 ≤ k)
  obtain ⟨E, rfl⟩ := Int.eq_ofNat_of_zero_le h3
  rw [Int.toNat_natCast, Int.toNat_natCast] at q
  simp only [dSeq, dLt, dLe, dGt, dGe, dNext, dRet, dRetN, dDrop, dIfS, dAsg, dPar, dPar3, hName, dIf, dTest, dNot, dAnd, dOr, dAndV, dOrV, dNotV, dUn, dNeg, dOp, dFn, dCall, dCons, dNil, dC, dvar_eq, dTup, dLstS, dLstC, dChain, dRaise, dSettle, dApp, htup2, htup2b, ex_tup, ex_tupb, ex_lst, dAdd, dSub, dMul, dFdiv, dMod, dPow, dShl, dCmpI, dIsN, dNotN, dIsB, dNotB, isNon, dix_fr0, dix_fr1, dix_bx0, dix_bx1, dix_t0, dix_t1, dix_l0, mk_bx, mk_neg, mk_ab, ex_f1, ex_f2, ex_b1, ex_b2, two_fr, dAbs, dAug, dIpAdd, dFor, forD, dRng1, dItT, dItL, dSl, dSlL, dNoPart, dPart, dInt1, DL.start, List.map_cons, List.map_nil, List.cons_append, List.nil_append, List.length_cons, List.length_nil, List.replicate, List.replicate_zero, Nat.sub_self, Nat.reduceSub, Nat.reduceAdd, Nat.zero_add, List.set_cons_zero, List.set_cons_succ, List.getElem?_cons_zero, List.getElem?_cons_succ, List.append_nil, true_and, szl0, szl1, szl2, szl3, szl4, szl5, szl6, szl7, szl8, ltl0, ltl1, ltl2, ltl3, ltl4, ltl5, ex_some, ex_bl, ex_two, ex_three, ex_int, ex_intp, ex_ints, ex_int2,  Bool.false_eq_true, if_true, if_false, Bool.not_true, Bool.not_false, reduceIte]
  unfold rootD at q
  by_cases c : h < 0
  · have c' := num_neg_iff.mpr c
    simp only [c, c', decide_true, if_true] at q ⊢
    exact q
  · have c' : ¬ h.num < 0 := fun z => c (num_neg_iff.mp z)
    simp only [c, c', decide_false, Bool.false_eq_true, if_false] at q ⊢
    have hK : 1 ≤ K := by omega
    have e16 : (K : Int) ≤ 16 := by omega
    have m0 : 0 ≤ mx l 0 := mx_pos
    have hm : bt (mx l 0) 200 := hb.mx (bt0 (by decide))
    obtain ⟨a1, a2⟩ := root_arg (k := K) (d := E) m0 hm (by omega) (by omega)
    have w1 := two_pow_one E (by omega)
    have w2 := two_pow_small E K (by omega) (by omega)
    have big : ∀ n : Int, n < 2 ^ 6700 → n < 2 ^ 10000 := fun n h => Int.lt_trans h (by exact_mod_cast Nat.pow_lt_pow_right (a := 2) (by decide) (by decide : 6700 < 10000))
    have nz : ((2:Int) ^ E) ≠ 0 := Int.ne_of_gt (Int.pow_pos (by decide))
    simp only [dSeq, dLt, dLe, dGt, dGe, dNext, dRet, dRetN, dDrop, dIfS, dAsg, dPar, dPar3, hName, dIf, dTest, dNot, dAnd, dOr, dAndV, dOrV, dNotV, dUn, dNeg, dOp, dFn, dCall, dCons, dNil, dC, dvar_eq, dTup, dLstS, dLstC, dChain, dRaise, dSettle, dApp, htup2, htup2b, ex_tup, ex_tupb, ex_lst, dAdd, dSub, dMul, dFdiv, dMod, dPow, dShl, dCmpI, dIsN, dNotN, dIsB, dNotB, isNon, dix_fr0, dix_fr1, dix_bx0, dix_bx1, dix_t0, dix_t1, dix_l0, mk_bx, mk_neg, mk_ab, ex_f1, ex_f2, ex_b1, ex_b2, two_fr, dAbs, dAug, dIpAdd, dFor, forD, dRng1, dItT, dItL, dSl, dSlL, dNoPart, dPart, dInt1, DL.start, List.map_cons, List.map_nil, List.cons_append, List.nil_append, List.length_cons, List.length_nil, List.replicate, List.replicate_zero, Nat.sub_self, Nat.reduceSub, Nat.reduceAdd, Nat.zero_add, List.set_cons_zero, List.set_cons_succ, List.getElem?_cons_zero, List.getElem?_cons_succ, List.append_nil, true_and, szl0, szl1, szl2, szl3, szl4, szl5, szl6, szl7, szl8, ltl0, ltl1, ltl2, ltl3, ltl4, ltl5, ex_some, ex_bl, ex_two, ex_three, ex_int, ex_intp, ex_ints, ex_int2,  Bool.false_eq_true, if_true, if_false, Bool.not_true, Bool.not_false, reduceIte, mk_fr0, sp_greater, sp_two_to, Int.toNat_natCast]
    refine ⟨hb.mono (by decide), bt0 (by decide), h3, h4, ?_⟩
    simp only [dSeq, dLt, dLe, dGt, dGe, dNext, dRet, dRetN, dDrop, dIfS, dAsg, dPar, dPar3, hName, dIf, dTest, dNot, dAnd, dOr, dAndV, dOrV, dNotV, dUn, dNeg, dOp, dFn, dCall, dCons, dNil, dC, dvar_eq, dTup, dLstS, dLstC, dChain, dRaise, dSettle, dApp, htup2, htup2b, ex_tup, ex_tupb, ex_lst, dAdd, dSub, dMul, dFdiv, dMod, dPow, dShl, dCmpI, dIsN, dNotN, dIsB, dNotB, isNon, dix_fr0, dix_fr1, dix_bx0, dix_bx1, dix_t0, dix_t1, dix_l0, mk_bx, mk_neg, mk_ab, ex_f1, ex_f2, ex_b1, ex_b2, two_fr, dAbs, dAug, dIpAdd, dFor, forD, dRng1, dItT, dItL, dSl, dSlL, dNoPart, dPart, dInt1, DL.start, List.map_cons, List.map_nil, List.cons_append, List.nil_append, List.length_cons, List.length_nil, List.replicate, List.replicate_zero, Nat.sub_self, Nat.reduceSub, Nat.reduceAdd, Nat.zero_add, List.set_cons_zero, List.set_cons_succ, List.getElem?_cons_zero, List.getElem?_cons_succ, List.append_nil, true_and, szl0, szl1, szl2, szl3, szl4, szl5, szl6, szl7, szl8, ltl0, ltl1, ltl2, ltl3, ltl4, ltl5, ex_some, ex_bl, ex_two, ex_three, ex_int, ex_intp, ex_ints, ex_int2,  Bool.false_eq_true, if_true, if_false, Bool.not_true, Bool.not_false, reduceIte, powD (k := (K : Int)) (b := 2 ^ E) (by omega) e16 (up_pow w1 (by decide)), Int.toNat_natCast, sp_fraction]
    refine ⟨cmul (n := 6401) (by decide) (up_pow hm.1 (by decide)) w2, ⟨d0 _, by rw [dI]; exact (cdiv (i := 0) (d0 (mx l 0)) (by rw [dI]; exact Nat.lt_of_lt_of_le hm.2 (Nat.pow_le_pow_right (by decide) (by decide)))).2 |> fun z => by simpa using z⟩, a1, big _ a2, by omega, e16, nz, up_pow w1 (by decide), ?_⟩
    simp only [dSeq, dLt, dLe, dGt, dGe, dNext, dRet, dRetN, dDrop, dIfS, dAsg, dPar, dPar3, hName, dIf, dTest, dNot, dAnd, dOr, dAndV, dOrV, dNotV, dUn, dNeg, dOp, dFn, dCall, dCons, dNil, dC, dvar_eq, dTup, dLstS, dLstC, dChain, dRaise, dSettle, dApp, htup2, htup2b, ex_tup, ex_tupb, ex_lst, dAdd, dSub, dMul, dFdiv, dMod, dPow, dShl, dCmpI, dIsN, dNotN, dIsB, dNotB, isNon, dix_fr0, dix_fr1, dix_bx0, dix_bx1, dix_t0, dix_t1, dix_l0, mk_bx, mk_neg, mk_ab, ex_f1, ex_f2, ex_b1, ex_b2, two_fr, dAbs, dAug, dIpAdd, dFor, forD, dRng1, dItT, dItL, dSl, dSlL, dNoPart, dPart, dInt1, DL.start, List.map_cons, List.map_nil, List.cons_append, List.nil_append, List.length_cons, List.length_nil, List.replicate, List.replicate_zero, Nat.sub_self, Nat.reduceSub, Nat.reduceAdd, Nat.zero_add, List.set_cons_zero, List.set_cons_succ, List.getElem?_cons_zero, List.getElem?_cons_succ, List.append_nil, true_and, szl0, szl1, szl2, szl3, szl4, szl5, szl6, szl7, szl8, ltl0, ltl1, ltl2, ltl3, ltl4, ltl5, ex_some, ex_bl, ex_two, ex_three, ex_int, ex_intp, ex_ints, ex_int2,  Bool.false_eq_true, if_true, if_false, Bool.not_true, Bool.not_false, reduceIte, sp_root_above, Int.toNat_natCast]
    exact ⟨Rat.not_lt.mp c, hb', by omega, h2, h3, h4, q⟩
end K07

set_option Elab.async false
set_option linter.all false
set_option maxRecDepth 100000
set_option maxHeartbeats 1000000
namespace K07
open PySem PySem.Spec PyProof.Rows L2 DL
theorem len_box_add {cl : Cls} : ∀ xs M P Y, sp_box_add cl xs M P Y → xs.length = 2 := by
  intro xs M P Y h
  unfold sp_box_add sp_box2 at h
  split at h
  · rfl
  · exact h.elim
theorem rd_box_add {cl : Cls} : ∀ xs M P Y, sp_box_add cl xs M P Y → t_box_add cl { nx := fun _ M' => P .non M', rt := P, ex := fun c _ M' => Y c M' } (DL.start 2 xs) M := by
  intro xs M P Y h
  unfold sp_box_add sp_box2 at h
  split at h
  rotate_left
  · exact h.elim
  rename_i x y
  unfold t_box_add
  obtain ⟨h1, h2, h3, h4⟩ := h
  simp only [dSeq, dLt, dLe, dGt, dGe, dNext, dRet, dRetN, dDrop, dIfS, dAsg, dPar, dPar3, hName, dIf, dTest, dNot, dAnd, dOr, dAndV, dOrV, dNotV, dUn, dNeg, dOp, dFn, dCall, dCons, dNil, dC, dvar_eq, dTup, dLstS, dLstC, dChain, dRaise, dSettle, dApp, htup2, htup2b, ex_tup, ex_tupb, ex_lst, dAdd, dSub, dMul, dFdiv, dMod, dPow, dShl, dCmpI, dIsN, dNotN, dIsB, dNotB, isNon, dix_fr0, dix_fr1, dix_bx0, dix_bx1, dix_t0, dix_t1, dix_l0, mk_bx, mk_neg, mk_ab, ex_f1, ex_f2, ex_b1, ex_b2, two_fr, dAbs, dAug, dIpAdd, dFor, forD, dRng1, dItT, dItL, dSl, dSlL, dNoPart, dPart, dInt1, DL.start, List.map_cons, List.map_nil, List.cons_append, List.nil_append, List.length_cons, List.length_nil, List.replicate, List.replicate_zero, Nat.sub_self, Nat.reduceSub, Nat.reduceAdd, Nat.zero_add, List.set_cons_zero, List.set_cons_succ, List.getElem?_cons_zero, List.getElem?_cons_succ, List.append_nil, true_and, szl0, szl1, szl2, szl3, szl4, szl5, szl6, szl7, szl8, ltl0, ltl1, ltl2, ltl3, ltl4, ltl5, ex_some, ex_bl, ex_two, ex_three, ex_int, ex_intp, ex_ints, ex_int2,  Bool.false_eq_true, if_true, if_false, Bool.not_true, Bool.not_false, reduceIte, sp_check_two]
  refine ⟨h1, h2, fun c => ?_, h3⟩
  obtain ⟨l, h, l', h', rfl, rfl, b1, b2, b3, b4, _, _, q⟩ := h4 c
  simp only [dSeq, dLt, dLe, dGt, dGe, dNext, dRet, dRetN, dDrop, dIfS, dAsg, dPar, dPar3, hName, dIf, dTest, dNot, dAnd, dOr, dAndV, dOrV, dNotV, dUn, dNeg, dOp, dFn, dCall, dCons, dNil, dC, dvar_eq, dTup, dLstS, dLstC, dChain, dRaise, dSettle, dApp, htup2, htup2b, ex_tup, ex_tupb, ex_lst, dAdd, dSub, dMul, dFdiv, dMod, dPow, dShl, dCmpI, dIsN, dNotN, dIsB, dNotB, isNon, dix_fr0, dix_fr1, dix_bx0, dix_bx1, dix_t0, dix_t1, dix_l0, mk_bx, mk_neg, mk_ab, ex_f1, ex_f2, ex_b1, ex_b2, two_fr, dAbs, dAug, dIpAdd, dFor, forD, dRng1, dItT, dItL, dSl, dSlL, dNoPart, dPart, dInt1, DL.start, List.map_cons, List.map_nil, List.cons_append, List.nil_append, List.length_cons, List.length_nil, List.replicate, List.replicate_zero, Nat.sub_self, Nat.reduceSub, Nat.reduceAdd, Nat.zero_add, List.set_cons_zero, List.set_cons_succ, List.getElem?_cons_zero, List.getElem?_cons_succ, List.append_nil, true_and, szl0, szl1, szl2, szl3, szl4, szl5, szl6, szl7, szl8, ltl0, ltl1, ltl2, ltl3, ltl4, ltl5, ex_some, ex_bl, ex_two, ex_three, ex_int, ex_intp, ex_ints, ex_int2,  Bool.false_eq_true, if_true, if_false, Bool.not_true, Bool.not_false, reduceIte, sp_raw_add, sp_bb, ex_b2]
  exact ⟨s9 b1, s9 b2, s9 b3, s9 b4, q⟩
theorem len_box_take {cl : Cls} : ∀ xs M P Y, sp_box_take cl xs M P Y → xs.length = 2 := by
  intro xs M P Y h
  unfold sp_box_take sp_box2 at h
  split at h
  · rfl
  · exact h.elim
theorem rd_box_take {cl : Cls} : ∀ xs M P Y, sp_box_take cl xs M P Y → t_box_take cl { nx := fun _ M' => P .non M', rt := P, ex := fun c _ M' => Y c M' } (DL.start 2 xs) M := by
  intro xs M P Y h
  unfold sp_box_take sp_box2 at h
  split at h
  rotate_left
  · exact h.elim
  rename_i x y
  unfold t_box_take
  obtain ⟨h1, h2, h3, h4⟩ := h
  simp only [dSeq, dLt, dLe, dGt, dGe, dNext, dRet, dRetN, dDrop, dIfS, dAsg, dPar, dPar3, hName, dIf, dTest, dNot, dAnd, dOr, dAndV, dOrV, dNotV, dUn, dNeg, dOp, dFn, dCall, dCons, dNil, dC, dvar_eq, dTup, dLstS, dLstC, dChain, dRaise, dSettle, dApp, htup2, htup2b, ex_tup, ex_tupb, ex_lst, dAdd, dSub, dMul, dFdiv, dMod, dPow, dShl, dCmpI, dIsN, dNotN, dIsB, dNotB, isNon, dix_fr0, dix_fr1, dix_bx0, dix_bx1, dix_t0, dix_t1, dix_l0, mk_bx, mk_neg, mk_ab, ex_f1, ex_f2, ex_b1, ex_b2, two_fr, dAbs, dAug, dIpAdd, dFor, forD, dRng1, dItT, dItL, dSl, dSlL, dNoPart, dPart, dInt1, DL.start, List.map_cons, List.map_nil, List.cons_append, List.nil_append, List.length_cons, List.length_nil, List.replicate, List.replicate_zero, Nat.sub_self, Nat.reduceSub, Nat.reduceAdd, Nat.zero_add, List.set_cons_zero, List.set_cons_succ, List.getElem?_cons_zero, List.getElem?_cons_succ, List.append_nil, true_and, szl0, szl1, szl2, szl3, szl4, szl5, szl6, szl7, szl8, ltl0, ltl1, ltl2, ltl3, ltl4, ltl5, ex_some, ex_bl, ex_two, ex_three, ex_int, ex_intp, ex_ints, ex_int2,  Bool.false_eq_true, if_true, if_false, Bool.not_true, Bool.not_false, reduceIte, sp_check_two]
  refine ⟨h1, h2, fun c => ?_, h3⟩
  obtain ⟨l, h, l', h', rfl, rfl, b1, b2, b3, b4, _, _, q⟩ := h4 c
  simp only [dSeq, dLt, dLe, dGt, dGe, dNext, dRet, dRetN, dDrop, dIfS, dAsg, dPar, dPar3, hName, dIf, dTest, dNot, dAnd, dOr, dAndV, dOrV, dNotV, dUn, dNeg, dOp, dFn, dCall, dCons, dNil, dC, dvar_eq, dTup, dLstS, dLstC, dChain, dRaise, dSettle, dApp, htup2, htup2b, ex_tup, ex_tupb, ex_lst, dAdd, dSub, dMul, dFdiv, dMod, dPow, dShl, dCmpI, dIsN, dNotN, dIsB, dNotB, isNon, dix_fr0, dix_fr1, dix_bx0, dix_bx1, dix_t0, dix_t1, dix_l0, mk_bx, mk_neg, mk_ab, ex_f1, ex_f2, ex_b1, ex_b2, two_fr, dAbs, dAug, dIpAdd, dFor, forD, dRng1, dItT, dItL, dSl, dSlL, dNoPart, dPart, dInt1, DL.start, List.map_cons, List.map_nil, List.cons_append, List.nil_append, List.length_cons, List.length_nil, List.replicate, List.replicate_zero, Nat.sub_self, Nat.reduceSub, Nat.reduceAdd, Nat.zero_add, List.set_cons_zero, List.set_cons_succ, List.getElem?_cons_zero, List.getElem?_cons_succ, List.append_nil, true_and, szl0, szl1, szl2, szl3, szl4, szl5, szl6, szl7, szl8, ltl0, ltl1, ltl2, ltl3, ltl4, ltl5, ex_some, ex_bl, ex_two, ex_three, ex_int, ex_intp, ex_ints, ex_int2,  Bool.false_eq_true, if_true, if_false, Bool.not_true, Bool.not_false, reduceIte, sp_raw_add, sp_raw_turn, sp_bb, sp_b, ex_b2]
  exact ⟨s9 b3, s9 b4, s9 b1, s9 b2, (s9 b4).neg, (s9 b3).neg, q⟩
theorem len_box_times {cl : Cls} : ∀ xs M P Y, sp_box_times cl xs M P Y → xs.length = 2 := by
  intro xs M P Y h
  unfold sp_box_times sp_box2 at h
  split at h
  · rfl
  · exact h.elim
theorem rd_box_times {cl : Cls} : ∀ xs M P Y, sp_box_times cl xs M P Y → t_box_times cl { nx := fun _ M' => P .non M', rt := P, ex := fun c _ M' => Y c M' } (DL.start 2 xs) M := by
  intro xs M P Y h
  unfold sp_box_times sp_box2 at h
  split at h
  rotate_left
  · exact h.elim
  rename_i x y
  unfold t_box_times
  obtain ⟨h1, h2, h3, h4⟩ := h
  simp only [dSeq, dLt, dLe, dGt, dGe, dNext, dRet, dRetN, dDrop, dIfS, dAsg, dPar, dPar3, hName, dIf, dTest, dNot, dAnd, dOr, dAndV, dOrV, dNotV, dUn, dNeg, dOp, dFn, dCall, dCons, dNil, dC, dvar_eq, dTup, dLstS, dLstC, dChain, dRaise, dSettle, dApp, htup2, htup2b, ex_tup, ex_tupb, ex_lst, dAdd, dSub, dMul, dFdiv, dMod, dPow, dShl, dCmpI, dIsN, dNotN, dIsB, dNotB, isNon, dix_fr0, dix_fr1, dix_bx0, dix_bx1, dix_t0, dix_t1, dix_l0, mk_bx, mk_neg, mk_ab, ex_f1, ex_f2, ex_b1, ex_b2, two_fr, dAbs, dAug, dIpAdd, dFor, forD, dRng1, dItT, dItL, dSl, dSlL, dNoPart, dPart, dInt1, DL.start, List.map_cons, List.map_nil, List.cons_append, List.nil_append, List.length_cons, List.length_nil, List.replicate, List.replicate_zero, Nat.sub_self, Nat.reduceSub, Nat.reduceAdd, Nat.zero_add, List.set_cons_zero, List.set_cons_succ, List.getElem?_cons_zero, List.getElem?_cons_succ, List.append_nil, true_and, szl0, szl1, szl2, szl3, szl4, szl5, szl6, szl7, szl8, ltl0, ltl1, ltl2, ltl3, ltl4, ltl5, ex_some, ex_bl, ex_two, ex_three, ex_int, ex_intp, ex_ints, ex_int2,  Bool.false_eq_true, if_true, if_false, Bool.not_true, Bool.not_false, reduceIte, sp_check_two]
  refine ⟨h1, h2, fun c => ?_, h3⟩
  obtain ⟨l, h, l', h', rfl, rfl, b1, b2, b3, b4, _, _, q⟩ := h4 c
  simp only [dSeq, dLt, dLe, dGt, dGe, dNext, dRet, dRetN, dDrop, dIfS, dAsg, dPar, dPar3, hName, dIf, dTest, dNot, dAnd, dOr, dAndV, dOrV, dNotV, dUn, dNeg, dOp, dFn, dCall, dCons, dNil, dC, dvar_eq, dTup, dLstS, dLstC, dChain, dRaise, dSettle, dApp, htup2, htup2b, ex_tup, ex_tupb, ex_lst, dAdd, dSub, dMul, dFdiv, dMod, dPow, dShl, dCmpI, dIsN, dNotN, dIsB, dNotB, isNon, dix_fr0, dix_fr1, dix_bx0, dix_bx1, dix_t0, dix_t1, dix_l0, mk_bx, mk_neg, mk_ab, ex_f1, ex_f2, ex_b1, ex_b2, two_fr, dAbs, dAug, dIpAdd, dFor, forD, dRng1, dItT, dItL, dSl, dSlL, dNoPart, dPart, dInt1, DL.start, List.map_cons, List.map_nil, List.cons_append, List.nil_append, List.length_cons, List.length_nil, List.replicate, List.replicate_zero, Nat.sub_self, Nat.reduceSub, Nat.reduceAdd, Nat.zero_add, List.set_cons_zero, List.set_cons_succ, List.getElem?_cons_zero, List.getElem?_cons_succ, List.append_nil, true_and, szl0, szl1, szl2, szl3, szl4, szl5, szl6, szl7, szl8, ltl0, ltl1, ltl2, ltl3, ltl4, ltl5, ex_some, ex_bl, ex_two, ex_three, ex_int, ex_intp, ex_ints, ex_int2,  Bool.false_eq_true, if_true, if_false, Bool.not_true, Bool.not_false, reduceIte, sp_raw_times, ex_b2]
  exact ⟨b1, b2, b3, b4, q⟩
theorem len_box_over {cl : Cls} : ∀ xs M P Y, sp_box_over cl xs M P Y → xs.length = 2 := by
  intro xs M P Y h
  unfold sp_box_over sp_box2 at h
  split at h
  · rfl
  · exact h.elim
theorem rd_box_over {cl : Cls} : ∀ xs M P Y, sp_box_over cl xs M P Y → t_box_over cl { nx := fun _ M' => P .non M', rt := P, ex := fun c _ M' => Y c M' } (DL.start 2 xs) M := by
  intro xs M P Y h
  unfold sp_box_over sp_box2 at h
  split at h
  rotate_left
  · exact h.elim
  rename_i x y
  unfold t_box_over
  obtain ⟨h1, h2, h3, h4⟩ := h
  simp only [dSeq, dLt, dLe, dGt, dGe, dNext, dRet, dRetN, dDrop, dIfS, dAsg, dPar, dPar3, hName, dIf, dTest, dNot, dAnd, dOr, dAndV, dOrV, dNotV, dUn, dNeg, dOp, dFn, dCall, dCons, dNil, dC, dvar_eq, dTup, dLstS, dLstC, dChain, dRaise, dSettle, dApp, htup2, htup2b, ex_tup, ex_tupb, ex_lst, dAdd, dSub, dMul, dFdiv, dMod, dPow, dShl, dCmpI, dIsN, dNotN, dIsB, dNotB, isNon, dix_fr0, dix_fr1, dix_bx0, dix_bx1, dix_t0, dix_t1, dix_l0, mk_bx, mk_neg, mk_ab, ex_f1, ex_f2, ex_b1, ex_b2, two_fr, dAbs, dAug, dIpAdd, dFor, forD, dRng1, dItT, dItL, dSl, dSlL, dNoPart, dPart, dInt1, DL.start, List.map_cons, List.map_nil, List.cons_append, List.nil_append, List.length_cons, List.length_nil, List.replicate, List.replicate_zero, Nat.sub_self, Nat.reduceSub, Nat.reduceAdd, Nat.zero_add, List.set_cons_zero, List.set_cons_succ, List.getElem?_cons_zero, List.getElem?_cons_succ, List.append_nil, true_and, szl0, szl1, szl2, szl3, szl4, szl5, szl6, szl7, szl8, ltl0, ltl1, ltl2, ltl3, ltl4, ltl5, ex_some, ex_bl, ex_two, ex_three, ex_int, ex_intp, ex_ints, ex_int2,  Bool.false_eq_true, if_true, if_false, Bool.not_true, Bool.not_false, reduceIte, sp_check_two]
  refine ⟨h1, h2, fun c => ?_, h3⟩
  obtain ⟨l, h, l', h', rfl, rfl, b1, b2, b3, b4, _, hle, q⟩ := h4 c
  simp only [dSeq, dLt, dLe, dGt, dGe, dNext, dRet, dRetN, dDrop, dIfS, dAsg, dPar, dPar3, hName, dIf, dTest, dNot, dAnd, dOr, dAndV, dOrV, dNotV, dUn, dNeg, dOp, dFn, dCall, dCons, dNil, dC, dvar_eq, dTup, dLstS, dLstC, dChain, dRaise, dSettle, dApp, htup2, htup2b, ex_tup, ex_tupb, ex_lst, dAdd, dSub, dMul, dFdiv, dMod, dPow, dShl, dCmpI, dIsN, dNotN, dIsB, dNotB, isNon, dix_fr0, dix_fr1, dix_bx0, dix_bx1, dix_t0, dix_t1, dix_l0, mk_bx, mk_neg, mk_ab, ex_f1, ex_f2, ex_b1, ex_b2, two_fr, dAbs, dAug, dIpAdd, dFor, forD, dRng1, dItT, dItL, dSl, dSlL, dNoPart, dPart, dInt1, DL.start, List.map_cons, List.map_nil, List.cons_append, List.nil_append, List.length_cons, List.length_nil, List.replicate, List.replicate_zero, Nat.sub_self, Nat.reduceSub, Nat.reduceAdd, Nat.zero_add, List.set_cons_zero, List.set_cons_succ, List.getElem?_cons_zero, List.getElem?_cons_succ, List.append_nil, true_and, szl0, szl1, szl2, szl3, szl4, szl5, szl6, szl7, szl8, ltl0, ltl1, ltl2, ltl3, ltl4, ltl5, ex_some, ex_bl, ex_two, ex_three, ex_int, ex_intp, ex_ints, ex_int2,  Bool.false_eq_true, if_true, if_false, Bool.not_true, Bool.not_false, reduceIte, sp_raw_over, ex_b2]
  exact ⟨b1, b2, b3, b4, hle, q⟩
theorem len_box_more {cl : Cls} : ∀ xs M P Y, sp_box_more cl xs M P Y → xs.length = 2 := by
  intro xs M P Y h
  unfold sp_box_more sp_box2 at h
  split at h
  · rfl
  · exact h.elim
theorem rd_box_more {cl : Cls} : ∀ xs M P Y, sp_box_more cl xs M P Y → t_box_more cl { nx := fun _ M' => P .non M', rt := P, ex := fun c _ M' => Y c M' } (DL.start 2 xs) M := by
  intro xs M P Y h
  unfold sp_box_more sp_box2 at h
  split at h
  rotate_left
  · exact h.elim
  rename_i x y
  unfold t_box_more
  obtain ⟨h1, h2, h3, h4⟩ := h
  simp only [dSeq, dLt, dLe, dGt, dGe, dNext, dRet, dRetN, dDrop, dIfS, dAsg, dPar, dPar3, hName, dIf, dTest, dNot, dAnd, dOr, dAndV, dOrV, dNotV, dUn, dNeg, dOp, dFn, dCall, dCons, dNil, dC, dvar_eq, dTup, dLstS, dLstC, dChain, dRaise, dSettle, dApp, htup2, htup2b, ex_tup, ex_tupb, ex_lst, dAdd, dSub, dMul, dFdiv, dMod, dPow, dShl, dCmpI, dIsN, dNotN, dIsB, dNotB, isNon, dix_fr0, dix_fr1, dix_bx0, dix_bx1, dix_t0, dix_t1, dix_l0, mk_bx, mk_neg, mk_ab, ex_f1, ex_f2, ex_b1, ex_b2, two_fr, dAbs, dAug, dIpAdd, dFor, forD, dRng1, dItT, dItL, dSl, dSlL, dNoPart, dPart, dInt1, DL.start, List.map_cons, List.map_nil, List.cons_append, List.nil_append, List.length_cons, List.length_nil, List.replicate, List.replicate_zero, Nat.sub_self, Nat.reduceSub, Nat.reduceAdd, Nat.zero_add, List.set_cons_zero, List.set_cons_succ, List.getElem?_cons_zero, List.getElem?_cons_succ, List.append_nil, true_and, szl0, szl1, szl2, szl3, szl4, szl5, szl6, szl7, szl8, ltl0, ltl1, ltl2, ltl3, ltl4, ltl5, ex_some, ex_bl, ex_two, ex_three, ex_int, ex_intp, ex_ints, ex_int2,  Bool.false_eq_true, if_true, if_false, Bool.not_true, Bool.not_false, reduceIte, sp_check_two]
  refine ⟨h1, h2, fun c => ?_, h3⟩
  obtain ⟨l, h, l', h', rfl, rfl, b1, b2, b3, b4, _, _, q⟩ := h4 c
  simp only [dSeq, dLt, dLe, dGt, dGe, dNext, dRet, dRetN, dDrop, dIfS, dAsg, dPar, dPar3, hName, dIf, dTest, dNot, dAnd, dOr, dAndV, dOrV, dNotV, dUn, dNeg, dOp, dFn, dCall, dCons, dNil, dC, dvar_eq, dTup, dLstS, dLstC, dChain, dRaise, dSettle, dApp, htup2, htup2b, ex_tup, ex_tupb, ex_lst, dAdd, dSub, dMul, dFdiv, dMod, dPow, dShl, dCmpI, dIsN, dNotN, dIsB, dNotB, isNon, dix_fr0, dix_fr1, dix_bx0, dix_bx1, dix_t0, dix_t1, dix_l0, mk_bx, mk_neg, mk_ab, ex_f1, ex_f2, ex_b1, ex_b2, two_fr, dAbs, dAug, dIpAdd, dFor, forD, dRng1, dItT, dItL, dSl, dSlL, dNoPart, dPart, dInt1, DL.start, List.map_cons, List.map_nil, List.cons_append, List.nil_append, List.length_cons, List.length_nil, List.replicate, List.replicate_zero, Nat.sub_self, Nat.reduceSub, Nat.reduceAdd, Nat.zero_add, List.set_cons_zero, List.set_cons_succ, List.getElem?_cons_zero, List.getElem?_cons_succ, List.append_nil, true_and, szl0, szl1, szl2, szl3, szl4, szl5, szl6, szl7, szl8, ltl0, ltl1, ltl2, ltl3, ltl4, ltl5, ex_some, ex_bl, ex_two, ex_three, ex_int, ex_intp, ex_ints, ex_int2,  Bool.false_eq_true, if_true, if_false, Bool.not_true, Bool.not_false, reduceIte, sp_raw_more, sp_bb, ex_b2]
  exact ⟨s9 b1, s9 b2, s9 b3, s9 b4, q⟩
theorem len_box_less {cl : Cls} : ∀ xs M P Y, sp_box_less cl xs M P Y → xs.length = 2 := by
  intro xs M P Y h
  unfold sp_box_less sp_box2 at h
  split at h
  · rfl
  · exact h.elim
theorem rd_box_less {cl : Cls} : ∀ xs M P Y, sp_box_less cl xs M P Y → t_box_less cl { nx := fun _ M' => P .non M', rt := P, ex := fun c _ M' => Y c M' } (DL.start 2 xs) M := by
  intro xs M P Y h
  unfold sp_box_less sp_box2 at h
  split at h
  rotate_left
  · exact h.elim
  rename_i x y
  unfold t_box_less
  obtain ⟨h1, h2, h3, h4⟩ := h
  simp only [dSeq, dLt, dLe, dGt, dGe, dNext, dRet, dRetN, dDrop, dIfS, dAsg, dPar, dPar3, hName, dIf, dTest, dNot, dAnd, dOr, dAndV, dOrV, dNotV, dUn, dNeg, dOp, dFn, dCall, dCons, dNil, dC, dvar_eq, dTup, dLstS, dLstC, dChain, dRaise, dSettle, dApp, htup2, htup2b, ex_tup, ex_tupb, ex_lst, dAdd, dSub, dMul, dFdiv, dMod, dPow, dShl, dCmpI, dIsN, dNotN, dIsB, dNotB, isNon, dix_fr0, dix_fr1, dix_bx0, dix_bx1, dix_t0, dix_t1, dix_l0, mk_bx, mk_neg, mk_ab, ex_f1, ex_f2, ex_b1, ex_b2, two_fr, dAbs, dAug, dIpAdd, dFor, forD, dRng1, dItT, dItL, dSl, dSlL, dNoPart, dPart, dInt1, DL.start, List.map_cons, List.map_nil, List.cons_append, List.nil_append, List.length_cons, List.length_nil, List.replicate, List.replicate_zero, Nat.sub_self, Nat.reduceSub, Nat.reduceAdd, Nat.zero_add, List.set_cons_zero, List.set_cons_succ, List.getElem?_cons_zero, List.getElem?_cons_succ, List.append_nil, true_and, szl0, szl1, szl2, szl3, szl4, szl5, szl6, szl7, szl8, ltl0, ltl1, ltl2, ltl3, ltl4, ltl5, ex_some, ex_bl, ex_two, ex_three, ex_int, ex_intp, ex_ints, ex_int2,  Bool.false_eq_true, if_true, if_false, Bool.not_true, Bool.not_false, reduceIte, sp_check_two]
  refine ⟨h1, h2, fun c => ?_, h3⟩
  obtain ⟨l, h, l', h', rfl, rfl, b1, b2, b3, b4, _, _, q⟩ := h4 c
  simp only [dSeq, dLt, dLe, dGt, dGe, dNext, dRet, dRetN, dDrop, dIfS, dAsg, dPar, dPar3, hName, dIf, dTest, dNot, dAnd, dOr, dAndV, dOrV, dNotV, dUn, dNeg, dOp, dFn, dCall, dCons, dNil, dC, dvar_eq, dTup, dLstS, dLstC, dChain, dRaise, dSettle, dApp, htup2, htup2b, ex_tup, ex_tupb, ex_lst, dAdd, dSub, dMul, dFdiv, dMod, dPow, dShl, dCmpI, dIsN, dNotN, dIsB, dNotB, isNon, dix_fr0, dix_fr1, dix_bx0, dix_bx1, dix_t0, dix_t1, dix_l0, mk_bx, mk_neg, mk_ab, ex_f1, ex_f2, ex_b1, ex_b2, two_fr, dAbs, dAug, dIpAdd, dFor, forD, dRng1, dItT, dItL, dSl, dSlL, dNoPart, dPart, dInt1, DL.start, List.map_cons, List.map_nil, List.cons_append, List.nil_append, List.length_cons, List.length_nil, List.replicate, List.replicate_zero, Nat.sub_self, Nat.reduceSub, Nat.reduceAdd, Nat.zero_add, List.set_cons_zero, List.set_cons_succ, List.getElem?_cons_zero, List.getElem?_cons_succ, List.append_nil, true_and, szl0, szl1, szl2, szl3, szl4, szl5, szl6, szl7, szl8, ltl0, ltl1, ltl2, ltl3, ltl4, ltl5, ex_some, ex_bl, ex_two, ex_three, ex_int, ex_intp, ex_ints, ex_int2,  Bool.false_eq_true, if_true, if_false, Bool.not_true, Bool.not_false, reduceIte, sp_raw_less, sp_bb, ex_b2]
  exact ⟨s9 b1, s9 b2, s9 b3, s9 b4, q⟩
theorem len_box_join {cl : Cls} : ∀ xs M P Y, sp_box_join cl xs M P Y → xs.length = 2 := by
  intro xs M P Y h
  unfold sp_box_join sp_box2 at h
  split at h
  · rfl
  · exact h.elim
theorem rd_box_join {cl : Cls} : ∀ xs M P Y, sp_box_join cl xs M P Y → t_box_join cl { nx := fun _ M' => P .non M', rt := P, ex := fun c _ M' => Y c M' } (DL.start 2 xs) M := by
  intro xs M P Y h
  unfold sp_box_join sp_box2 at h
  split at h
  rotate_left
  · exact h.elim
  rename_i x y
  unfold t_box_join
  obtain ⟨h1, h2, h3, h4⟩ := h
  simp only [dSeq, dLt, dLe, dGt, dGe, dNext, dRet, dRetN, dDrop, dIfS, dAsg, dPar, dPar3, hName, dIf, dTest, dNot, dAnd, dOr, dAndV, dOrV, dNotV, dUn, dNeg, dOp, dFn, dCall, dCons, dNil, dC, dvar_eq, dTup, dLstS, dLstC, dChain, dRaise, dSettle, dApp, htup2, htup2b, ex_tup, ex_tupb, ex_lst, dAdd, dSub, dMul, dFdiv, dMod, dPow, dShl, dCmpI, dIsN, dNotN, dIsB, dNotB, isNon, dix_fr0, dix_fr1, dix_bx0, dix_bx1, dix_t0, dix_t1, dix_l0, mk_bx, mk_neg, mk_ab, ex_f1, ex_f2, ex_b1, ex_b2, two_fr, dAbs, dAug, dIpAdd, dFor, forD, dRng1, dItT, dItL, dSl, dSlL, dNoPart, dPart, dInt1, DL.start, List.map_cons, List.map_nil, List.cons_append, List.nil_append, List.length_cons, List.length_nil, List.replicate, List.replicate_zero, Nat.sub_self, Nat.reduceSub, Nat.reduceAdd, Nat.zero_add, List.set_cons_zero, List.set_cons_succ, List.getElem?_cons_zero, List.getElem?_cons_succ, List.append_nil, true_and, szl0, szl1, szl2, szl3, szl4, szl5, szl6, szl7, szl8, ltl0, ltl1, ltl2, ltl3, ltl4, ltl5, ex_some, ex_bl, ex_two, ex_three, ex_int, ex_intp, ex_ints, ex_int2,  Bool.false_eq_true, if_true, if_false, Bool.not_true, Bool.not_false, reduceIte, sp_check_two]
  refine ⟨h1, h2, fun c => ?_, h3⟩
  obtain ⟨l, h, l', h', rfl, rfl, b1, b2, b3, b4, _, _, q⟩ := h4 c
  simp only [dSeq, dLt, dLe, dGt, dGe, dNext, dRet, dRetN, dDrop, dIfS, dAsg, dPar, dPar3, hName, dIf, dTest, dNot, dAnd, dOr, dAndV, dOrV, dNotV, dUn, dNeg, dOp, dFn, dCall, dCons, dNil, dC, dvar_eq, dTup, dLstS, dLstC, dChain, dRaise, dSettle, dApp, htup2, htup2b, ex_tup, ex_tupb, ex_lst, dAdd, dSub, dMul, dFdiv, dMod, dPow, dShl, dCmpI, dIsN, dNotN, dIsB, dNotB, isNon, dix_fr0, dix_fr1, dix_bx0, dix_bx1, dix_t0, dix_t1, dix_l0, mk_bx, mk_neg, mk_ab, ex_f1, ex_f2, ex_b1, ex_b2, two_fr, dAbs, dAug, dIpAdd, dFor, forD, dRng1, dItT, dItL, dSl, dSlL, dNoPart, dPart, dInt1, DL.start, List.map_cons, List.map_nil, List.cons_append, List.nil_append, List.length_cons, List.length_nil, List.replicate, List.replicate_zero, Nat.sub_self, Nat.reduceSub, Nat.reduceAdd, Nat.zero_add, List.set_cons_zero, List.set_cons_succ, List.getElem?_cons_zero, List.getElem?_cons_succ, List.append_nil, true_and, szl0, szl1, szl2, szl3, szl4, szl5, szl6, szl7, szl8, ltl0, ltl1, ltl2, ltl3, ltl4, ltl5, ex_some, ex_bl, ex_two, ex_three, ex_int, ex_intp, ex_ints, ex_int2,  Bool.false_eq_true, if_true, if_false, Bool.not_true, Bool.not_false, reduceIte, sp_raw_join, sp_bb, ex_b2]
  exact ⟨s9 b1, s9 b2, s9 b3, s9 b4, q⟩
theorem len_box_turn {cl : Cls} : ∀ xs M P Y, sp_box_turn cl xs M P Y → xs.length = 1 := by
  intro xs M P Y h
  unfold sp_box_turn sp_box1 at h
  split at h
  · rfl
  · exact h.elim
theorem rd_box_turn {cl : Cls} : ∀ xs M P Y, sp_box_turn cl xs M P Y → t_box_turn cl { nx := fun _ M' => P .non M', rt := P, ex := fun c _ M' => Y c M' } (DL.start 1 xs) M := by
  intro xs M P Y h
  unfold sp_box_turn sp_box1 at h
  split at h
  rotate_left
  · exact h.elim
  rename_i x
  unfold t_box_turn
  obtain ⟨h1, h3, h4⟩ := h
  simp only [dSeq, dLt, dLe, dGt, dGe, dNext, dRet, dRetN, dDrop, dIfS, dAsg, dPar, dPar3, hName, dIf, dTest, dNot, dAnd, dOr, dAndV, dOrV, dNotV, dUn, dNeg, dOp, dFn, dCall, dCons, dNil, dC, dvar_eq, dTup, dLstS, dLstC, dChain, dRaise, dSettle, dApp, htup2, htup2b, ex_tup, ex_tupb, ex_lst, dAdd, dSub, dMul, dFdiv, dMod, dPow, dShl, dCmpI, dIsN, dNotN, dIsB, dNotB, isNon, dix_fr0, dix_fr1, dix_bx0, dix_bx1, dix_t0, dix_t1, dix_l0, mk_bx, mk_neg, mk_ab, ex_f1, ex_f2, ex_b1, ex_b2, two_fr, dAbs, dAug, dIpAdd, dFor, forD, dRng1, dItT, dItL, dSl, dSlL, dNoPart, dPart, dInt1, DL.start, List.map_cons, List.map_nil, List.cons_append, List.nil_append, List.length_cons, List.length_nil, List.replicate, List.replicate_zero, Nat.sub_self, Nat.reduceSub, Nat.reduceAdd, Nat.zero_add, List.set_cons_zero, List.set_cons_succ, List.getElem?_cons_zero, List.getElem?_cons_succ, List.append_nil, true_and, szl0, szl1, szl2, szl3, szl4, szl5, szl6, szl7, szl8, ltl0, ltl1, ltl2, ltl3, ltl4, ltl5, ex_some, ex_bl, ex_two, ex_three, ex_int, ex_intp, ex_ints, ex_int2,  Bool.false_eq_true, if_true, if_false, Bool.not_true, Bool.not_false, reduceIte, sp_check_box]
  refine ⟨h1, fun c => ?_, h3⟩
  obtain ⟨l, h, rfl, b1, b2, _, q⟩ := h4 c
  simp only [dSeq, dLt, dLe, dGt, dGe, dNext, dRet, dRetN, dDrop, dIfS, dAsg, dPar, dPar3, hName, dIf, dTest, dNot, dAnd, dOr, dAndV, dOrV, dNotV, dUn, dNeg, dOp, dFn, dCall, dCons, dNil, dC, dvar_eq, dTup, dLstS, dLstC, dChain, dRaise, dSettle, dApp, htup2, htup2b, ex_tup, ex_tupb, ex_lst, dAdd, dSub, dMul, dFdiv, dMod, dPow, dShl, dCmpI, dIsN, dNotN, dIsB, dNotB, isNon, dix_fr0, dix_fr1, dix_bx0, dix_bx1, dix_t0, dix_t1, dix_l0, mk_bx, mk_neg, mk_ab, ex_f1, ex_f2, ex_b1, ex_b2, two_fr, dAbs, dAug, dIpAdd, dFor, forD, dRng1, dItT, dItL, dSl, dSlL, dNoPart, dPart, dInt1, DL.start, List.map_cons, List.map_nil, List.cons_append, List.nil_append, List.length_cons, List.length_nil, List.replicate, List.replicate_zero, Nat.sub_self, Nat.reduceSub, Nat.reduceAdd, Nat.zero_add, List.set_cons_zero, List.set_cons_succ, List.getElem?_cons_zero, List.getElem?_cons_succ, List.append_nil, true_and, szl0, szl1, szl2, szl3, szl4, szl5, szl6, szl7, szl8, ltl0, ltl1, ltl2, ltl3, ltl4, ltl5, ex_some, ex_bl, ex_two, ex_three, ex_int, ex_intp, ex_ints, ex_int2,  Bool.false_eq_true, if_true, if_false, Bool.not_true, Bool.not_false, reduceIte, sp_raw_turn, sp_b, ex_b1]
  exact ⟨b1, b2, q⟩
theorem len_box_size {cl : Cls} : ∀ xs M P Y, sp_box_size cl xs M P Y → xs.length = 1 := by
  intro xs M P Y h
  unfold sp_box_size sp_box1 at h
  split at h
  · rfl
  · exact h.elim
theorem rd_box_size {cl : Cls} : ∀ xs M P Y, sp_box_size cl xs M P Y → t_box_size cl { nx := fun _ M' => P .non M', rt := P, ex := fun c _ M' => Y c M' } (DL.start 1 xs) M := by
  intro xs M P Y h
  unfold sp_box_size sp_box1 at h
  split at h
  rotate_left
  · exact h.elim
  rename_i x
  unfold t_box_size
  obtain ⟨h1, h3, h4⟩ := h
  simp only [dSeq, dLt, dLe, dGt, dGe, dNext, dRet, dRetN, dDrop, dIfS, dAsg, dPar, dPar3, hName, dIf, dTest, dNot, dAnd, dOr, dAndV, dOrV, dNotV, dUn, dNeg, dOp, dFn, dCall, dCons, dNil, dC, dvar_eq, dTup, dLstS, dLstC, dChain, dRaise, dSettle, dApp, htup2, htup2b, ex_tup, ex_tupb, ex_lst, dAdd, dSub, dMul, dFdiv, dMod, dPow, dShl, dCmpI, dIsN, dNotN, dIsB, dNotB, isNon, dix_fr0, dix_fr1, dix_bx0, dix_bx1, dix_t0, dix_t1, dix_l0, mk_bx, mk_neg, mk_ab, ex_f1, ex_f2, ex_b1, ex_b2, two_fr, dAbs, dAug, dIpAdd, dFor, forD, dRng1, dItT, dItL, dSl, dSlL, dNoPart, dPart, dInt1, DL.start, List.map_cons, List.map_nil, List.cons_append, List.nil_append, List.length_cons, List.length_nil, List.replicate, List.replicate_zero, Nat.sub_self, Nat.reduceSub, Nat.reduceAdd, Nat.zero_add, List.set_cons_zero, List.set_cons_succ, List.getElem?_cons_zero, List.getElem?_cons_succ, List.append_nil, true_and, szl0, szl1, szl2, szl3, szl4, szl5, szl6, szl7, szl8, ltl0, ltl1, ltl2, ltl3, ltl4, ltl5, ex_some, ex_bl, ex_two, ex_three, ex_int, ex_intp, ex_ints, ex_int2,  Bool.false_eq_true, if_true, if_false, Bool.not_true, Bool.not_false, reduceIte, sp_check_box]
  refine ⟨h1, fun c => ?_, h3⟩
  obtain ⟨l, h, rfl, b1, b2, _, q⟩ := h4 c
  simp only [dSeq, dLt, dLe, dGt, dGe, dNext, dRet, dRetN, dDrop, dIfS, dAsg, dPar, dPar3, hName, dIf, dTest, dNot, dAnd, dOr, dAndV, dOrV, dNotV, dUn, dNeg, dOp, dFn, dCall, dCons, dNil, dC, dvar_eq, dTup, dLstS, dLstC, dChain, dRaise, dSettle, dApp, htup2, htup2b, ex_tup, ex_tupb, ex_lst, dAdd, dSub, dMul, dFdiv, dMod, dPow, dShl, dCmpI, dIsN, dNotN, dIsB, dNotB, isNon, dix_fr0, dix_fr1, dix_bx0, dix_bx1, dix_t0, dix_t1, dix_l0, mk_bx, mk_neg, mk_ab, ex_f1, ex_f2, ex_b1, ex_b2, two_fr, dAbs, dAug, dIpAdd, dFor, forD, dRng1, dItT, dItL, dSl, dSlL, dNoPart, dPart, dInt1, DL.start, List.map_cons, List.map_nil, List.cons_append, List.nil_append, List.length_cons, List.length_nil, List.replicate, List.replicate_zero, Nat.sub_self, Nat.reduceSub, Nat.reduceAdd, Nat.zero_add, List.set_cons_zero, List.set_cons_succ, List.getElem?_cons_zero, List.getElem?_cons_succ, List.append_nil, true_and, szl0, szl1, szl2, szl3, szl4, szl5, szl6, szl7, szl8, ltl0, ltl1, ltl2, ltl3, ltl4, ltl5, ex_some, ex_bl, ex_two, ex_three, ex_int, ex_intp, ex_ints, ex_int2,  Bool.false_eq_true, if_true, if_false, Bool.not_true, Bool.not_false, reduceIte, sp_raw_size, sp_b, ex_b1]
  exact ⟨b1, b2, q⟩
theorem inR_int {x : D} {a b : Int} (h : inR x a b = true) : ∃ i, x = .int i ∧ a ≤ i ∧ i ≤ b := by
  cases x <;> simp [inR] at h
  exact ⟨_, rfl, h.1, h.2⟩
theorem len_box_root {cl : Cls} : ∀ xs M P Y, sp_box_root cl xs M P Y → xs.length = 3 := by
  intro xs M P Y h
  unfold sp_box_root at h
  split at h
  · rfl
  · exact h.elim
theorem rd_box_root {cl : Cls} : ∀ xs M P Y, sp_box_root cl xs M P Y → t_box_root cl { nx := fun _ M' => P .non M', rt := P, ex := fun c _ M' => Y c M' } (DL.start 3 xs) M := by
  intro xs M P Y h
  unfold sp_box_root at h
  split at h
  rotate_left
  · exact h.elim
  rename_i x k d
  unfold t_box_root
  obtain ⟨h1, h2, h3, h4, h5, h6⟩ := h
  simp only [dSeq, dLt, dLe, dGt, dGe, dNext, dRet, dRetN, dDrop, dIfS, dAsg, dPar, dPar3, hName, dIf, dTest, dNot, dAnd, dOr, dAndV, dOrV, dNotV, dUn, dNeg, dOp, dFn, dCall, dCons, dNil, dC, dvar_eq, dTup, dLstS, dLstC, dChain, dRaise, dSettle, dApp, htup2, htup2b, ex_tup, ex_tupb, ex_lst, dAdd, dSub, dMul, dFdiv, dMod, dPow, dShl, dCmpI, dIsN, dNotN, dIsB, dNotB, isNon, dix_fr0, dix_fr1, dix_bx0, dix_bx1, dix_t0, dix_t1, dix_l0, mk_bx, mk_neg, mk_ab, ex_f1, ex_f2, ex_b1, ex_b2, two_fr, dAbs, dAug, dIpAdd, dFor, forD, dRng1, dItT, dItL, dSl, dSlL, dNoPart, dPart, dInt1, DL.start, List.map_cons, List.map_nil, List.cons_append, List.nil_append, List.length_cons, List.length_nil, List.replicate, List.replicate_zero, Nat.sub_self, Nat.reduceSub, Nat.reduceAdd, Nat.zero_add, List.set_cons_zero, List.set_cons_succ, List.getElem?_cons_zero, List.getElem?_cons_succ, List.append_nil, true_and, szl0, szl1, szl2, szl3, szl4, szl5, szl6, szl7, szl8, ltl0, ltl1, ltl2, ltl3, ltl4, ltl5, ex_some, ex_bl, ex_two, ex_three, ex_int, ex_intp, ex_ints, ex_int2,  Bool.false_eq_true, if_true, if_false, Bool.not_true, Bool.not_false, reduceIte, sp_check_box, sp_check_within]
  refine ⟨h1, fun c => ⟨h2, fun c2 => ⟨h3, fun c3 => ?_, fun c3 => h5 c (by rw [c2, c3]; rfl)⟩, fun c2 => h5 c (by rw [c2]; rfl)⟩, h4⟩
  obtain ⟨l, h, i, j, rfl, rfl, rfl, b1, b2, q⟩ := h6 c (by rw [c2, c3]; rfl)
  obtain ⟨_, e, k1, k2⟩ := inR_int c2
  cases e
  obtain ⟨_, e, k3, k4⟩ := inR_int c3
  cases e
  simp only [dSeq, dLt, dLe, dGt, dGe, dNext, dRet, dRetN, dDrop, dIfS, dAsg, dPar, dPar3, hName, dIf, dTest, dNot, dAnd, dOr, dAndV, dOrV, dNotV, dUn, dNeg, dOp, dFn, dCall, dCons, dNil, dC, dvar_eq, dTup, dLstS, dLstC, dChain, dRaise, dSettle, dApp, htup2, htup2b, ex_tup, ex_tupb, ex_lst, dAdd, dSub, dMul, dFdiv, dMod, dPow, dShl, dCmpI, dIsN, dNotN, dIsB, dNotB, isNon, dix_fr0, dix_fr1, dix_bx0, dix_bx1, dix_t0, dix_t1, dix_l0, mk_bx, mk_neg, mk_ab, ex_f1, ex_f2, ex_b1, ex_b2, two_fr, dAbs, dAug, dIpAdd, dFor, forD, dRng1, dItT, dItL, dSl, dSlL, dNoPart, dPart, dInt1, DL.start, List.map_cons, List.map_nil, List.cons_append, List.nil_append, List.length_cons, List.length_nil, List.replicate, List.replicate_zero, Nat.sub_self, Nat.reduceSub, Nat.reduceAdd, Nat.zero_add, List.set_cons_zero, List.set_cons_succ, List.getElem?_cons_zero, List.getElem?_cons_succ, List.append_nil, true_and, szl0, szl1, szl2, szl3, szl4, szl5, szl6, szl7, szl8, ltl0, ltl1, ltl2, ltl3, ltl4, ltl5, ex_some, ex_bl, ex_two, ex_three, ex_int, ex_intp, ex_ints, ex_int2,  Bool.false_eq_true, if_true, if_false, Bool.not_true, Bool.not_false, reduceIte, sp_raw_root, ex_b1]
  exact ⟨b1, b2, by omega, by omega, k3, k4, q⟩
theorem isFr_fr (q : Rat) : isFr (fr q) = true := by
  show (decide (1 ≤ (q.den : Int)) && decide (Int.gcd q.num q.den = 1)) = true
  have := q.den_pos
  have r := q.reduced
  rw [Bool.and_eq_true, decide_eq_true_eq, decide_eq_true_eq]
  refine ⟨by omega, ?_⟩
  unfold Int.gcd
  rw [Int.natAbs_natCast]
  exact r
theorem ltD_fr (a b : Rat) : ltD (fr a) (fr b) = decide (a < b) := by
  show decide (a.num * (b.den : Int) < b.num * a.den) = _
  rw [decide_eq_decide]
  exact (Rat.lt_iff a b).symm
theorem isBx_bx (l h : Rat) : isBx (bx l h) = decide (l ≤ h) := by
  show (isFr (fr l) && isFr (fr h) && !ltD (fr h) (fr l)) = _
  rw [isFr_fr, isFr_fr, ltD_fr, Bool.true_and, Bool.true_and, ← decide_not, decide_eq_decide]
  exact Rat.not_lt
theorem ty_int {i : Int} (h : i.natAbs < 2 ^ 2000) : Ty (.int i) := ⟨rfl, fun j e => by cases e; exact h⟩
theorem ty2_fr {q : Rat} (h : SZ q) : Ty2 (fr q) := ⟨⟨rfl, fun _ e => by unfold fr at e; cases e⟩, fun ds e d hd => by
  unfold fr at e
  cases e
  simp only [List.mem_cons, List.not_mem_nil, or_false] at hd
  rcases hd with rfl | rfl
  · exact ty_int h.1
  · exact ty_int (by rw [dI]; exact h.2)⟩
theorem ty3_bx {l h : Rat} (h1 : SZ l) (h2 : SZ h) : Ty3 (bx l h) := ⟨⟨rfl, fun _ e => by unfold bx at e; cases e⟩, fun ds e d hd => by
  unfold bx at e
  cases e
  simp only [List.mem_cons, List.not_mem_nil, or_false] at hd
  rcases hd with rfl | rfl
  · exact ty2_fr h1
  · exact ty2_fr h2⟩
theorem len_box_power {cl : Cls} : ∀ xs M P Y, sp_box_power cl xs M P Y → xs.length = 2 := by
  intro xs M P Y h
  unfold sp_box_power at h
  split at h
  · rfl
  · exact h.elim
theorem rd_box_power {cl : Cls} : ∀ xs M P Y, sp_box_power cl xs M P Y → t_box_power cl { nx := fun _ M' => P .non M', rt := P, ex := fun c _ M' => Y c M' } (DL.start 2 xs) M := by
  intro xs M P Y h
  unfold sp_box_power at h
  split at h
  rotate_left
  · exact h.elim
  rename_i x k
  unfold t_box_power
  obtain ⟨l, h, rfl, hle, b1, b2, h1, h2, q⟩ := h
  simp only [dSeq, dLt, dLe, dGt, dGe, dNext, dRet, dRetN, dDrop, dIfS, dAsg, dPar, dPar3, hName, dIf, dTest, dNot, dAnd, dOr, dAndV, dOrV, dNotV, dUn, dNeg, dOp, dFn, dCall, dCons, dNil, dC, dvar_eq, dTup, dLstS, dLstC, dChain, dRaise, dSettle, dApp, htup2, htup2b, ex_tup, ex_tupb, ex_lst, dAdd, dSub, dMul, dFdiv, dMod, dPow, dShl, dCmpI, dIsN, dNotN, dIsB, dNotB, isNon, dix_fr0, dix_fr1, dix_bx0, dix_bx1, dix_t0, dix_t1, dix_l0, mk_bx, mk_neg, mk_ab, ex_f1, ex_f2, ex_b1, ex_b2, two_fr, dAbs, dAug, dIpAdd, dFor, forD, dRng1, dItT, dItL, dSl, dSlL, dNoPart, dPart, dInt1, DL.start, List.map_cons, List.map_nil, List.cons_append, List.nil_append, List.length_cons, List.length_nil, List.replicate, List.replicate_zero, Nat.sub_self, Nat.reduceSub, Nat.reduceAdd, Nat.zero_add, List.set_cons_zero, List.set_cons_succ, List.getElem?_cons_zero, List.getElem?_cons_succ, List.append_nil, true_and, szl0, szl1, szl2, szl3, szl4, szl5, szl6, szl7, szl8, ltl0, ltl1, ltl2, ltl3, ltl4, ltl5, ex_some, ex_bl, ex_two, ex_three, ex_int, ex_intp, ex_ints, ex_int2,  Bool.false_eq_true, if_true, if_false, Bool.not_true, Bool.not_false, reduceIte, sp_check_box, sp_check_within, sp_raw_power, ex_b1]
  have tb : isBx (bx l h) = true := by rw [isBx_bx]; exact decide_eq_true hle
  have tk : inR (.int k) 0 8 = true := by simp [inR, h1, h2]
  simp only [tb, tk, true_implies, Bool.true_eq_false, false_implies, and_true]
  refine ⟨ty3_bx (b1.mono (by decide)) (b2.mono (by decide)), ty_int (pow_small (n := 2000) h1 ?_), h1, h2, b1, b2, q⟩
  refine Int.lt_of_le_of_lt h2 ?_
  exact_mod_cast (by exact Nat.lt_of_lt_of_le (by decide : 8 < 2 ^ 4) (Nat.pow_le_pow_right (by decide) (by decide)) : 8 < 2 ^ 2000)
end K07

set_option Elab.async false
set_option linter.all false
set_option maxRecDepth 100000
set_option maxHeartbeats 1000000
namespace K07
open PySem PySem.Spec PyProof.Rows L2 DL
theorem cut_to {ds : List D} {k : Nat} : DL.cutD ds none (some (k : Int)) = ds.take k := by
  unfold DL.cutD
  rw [HT.sIx_none, HT.sIx_nat]
  simp only [List.drop_zero, Nat.sub_zero]
  rw [List.take_eq_take_iff]
  omega
theorem dlen_l {ds : List D} {M : Mm} {P : QD} : dLen [.lst ds] M P ↔ P (.int (ds.length : Int)) M := by
  constructor
  · rintro ⟨x, n, e, h, q⟩
    cases e
    cases h
    exact q
  · intro q
    exact ⟨_, _, rfl, rfl, q⟩
def cellOf (i : Int) : Int := (i.natAbs : Int).fmod (10 ^ 36)
theorem cellOf_in (i : Int) : 0 ≤ cellOf i ∧ cellOf i < 10 ^ 36 := ⟨Int.fmod_nonneg_of_pos _ (by decide), Int.fmod_lt_of_pos _ (by decide)⟩
def cellD : D → D
  | .int i => .int (cellOf i)
  | d => d
theorem cells_map (ns : List Int) : (ns.map D.int).map cellD = (ns.map cellOf).map D.int := by
  rw [List.map_map, List.map_map]
  rfl
theorem len__law_hand : ∀ xs M P Y, sp__law_hand xs M P Y → xs.length = 1 := by
  intro xs M P Y h
  unfold sp__law_hand at h
  split at h
  · rfl
  · exact h.elim
theorem rd__law_hand : ∀ xs M P Y, sp__law_hand xs M P Y → t__law_hand { nx := fun _ M' => P .non M', rt := P, ex := fun c _ M' => Y c M' } (DL.start 3 xs) M := by
  intro xs M P Y h
  unfold sp__law_hand at h
  split at h
  rotate_left
  · exact h.elim
  rename_i ds
  unfold t__law_hand
  obtain ⟨ns, rfl, hl, q⟩ := h
  simp only [dSeq, dLt, dLe, dGt, dGe, dNext, dRet, dRetN, dDrop, dIfS, dAsg, dPar, dPar3, hName, dIf, dTest, dNot, dAnd, dOr, dAndV, dOrV, dNotV, dUn, dNeg, dOp, dFn, dCall, dCons, dNil, dC, dvar_eq, dTup, dLstS, dLstC, dChain, dRaise, dSettle, dApp, htup2, htup2b, ex_tup, ex_tupb, ex_lst, dAdd, dSub, dMul, dFdiv, dMod, dPow, dShl, dCmpI, dIsN, dNotN, dIsB, dNotB, isNon, dix_fr0, dix_fr1, dix_bx0, dix_bx1, dix_t0, dix_t1, dix_l0, mk_bx, mk_neg, mk_ab, ex_f1, ex_f2, ex_b1, ex_b2, two_fr, dAbs, dAug, dIpAdd, dFor, forD, dRng1, dItT, dItL, dSl, dSlL, dNoPart, dPart, dInt1, DL.start, List.map_cons, List.map_nil, List.cons_append, List.nil_append, List.length_cons, List.length_nil, List.replicate, List.replicate_zero, Nat.sub_self, Nat.reduceSub, Nat.reduceAdd, Nat.zero_add, List.set_cons_zero, List.set_cons_succ, List.getElem?_cons_zero, List.getElem?_cons_succ, List.append_nil, true_and, szl0, szl1, szl2, szl3, szl4, szl5, szl6, szl7, szl8, ltl0, ltl1, ltl2, ltl3, ltl4, ltl5, ex_some, ex_bl, ex_two, ex_three, ex_int, ex_intp, ex_ints, ex_int2,  Bool.false_eq_true, if_true, if_false, Bool.not_true, Bool.not_false, reduceIte, dLc]
  rw [show (63 : Int) = ((63 : Nat) : Int) from rfl, cut_to]
  have e1 : (ns.map D.int).take 63 = (ns.take 63).map D.int := by rw [List.map_take]
  rw [e1]
  have l63 : (ns.take 63).length ≤ 63 := by rw [List.length_take]; omega
  refine lc_map cellD (fun d hd M P z => ?_) ?_ ?_
  · obtain ⟨i, _, rfl⟩ := List.mem_map.mp hd
    simp only [dSeq, dLt, dLe, dGt, dGe, dNext, dRet, dRetN, dDrop, dIfS, dAsg, dPar, dPar3, hName, dIf, dTest, dNot, dAnd, dOr, dAndV, dOrV, dNotV, dUn, dNeg, dOp, dFn, dCall, dCons, dNil, dC, dvar_eq, dTup, dLstS, dLstC, dChain, dRaise, dSettle, dApp, htup2, htup2b, ex_tup, ex_tupb, ex_lst, dAdd, dSub, dMul, dFdiv, dMod, dPow, dShl, dCmpI, dIsN, dNotN, dIsB, dNotB, isNon, dix_fr0, dix_fr1, dix_bx0, dix_bx1, dix_t0, dix_t1, dix_l0, mk_bx, mk_neg, mk_ab, ex_f1, ex_f2, ex_b1, ex_b2, two_fr, dAbs, dAug, dIpAdd, dFor, forD, dRng1, dItT, dItL, dSl, dSlL, dNoPart, dPart, dInt1, DL.start, List.map_cons, List.map_nil, List.cons_append, List.nil_append, List.length_cons, List.length_nil, List.replicate, List.replicate_zero, Nat.sub_self, Nat.reduceSub, Nat.reduceAdd, Nat.zero_add, List.set_cons_zero, List.set_cons_succ, List.getElem?_cons_zero, List.getElem?_cons_succ, List.append_nil, true_and, szl0, szl1, szl2, szl3, szl4, szl5, szl6, szl7, szl8, ltl0, ltl1, ltl2, ltl3, ltl4, ltl5, ex_some, ex_bl, ex_two, ex_three, ex_int, ex_intp, ex_ints, ex_int2,  Bool.false_eq_true, if_true, if_false, Bool.not_true, Bool.not_false, reduceIte, dwipe]
    exact ⟨⟨by decide, by decide, by decide⟩, by decide, z⟩
  · rw [List.length_map]
    exact sz_line (by omega)
  · intro p hp
    rw [mdel_mup hp, cells_map]
    simp only [dSeq, dLt, dLe, dGt, dGe, dNext, dRet, dRetN, dDrop, dIfS, dAsg, dPar, dPar3, hName, dIf, dTest, dNot, dAnd, dOr, dAndV, dOrV, dNotV, dUn, dNeg, dOp, dFn, dCall, dCons, dNil, dC, dvar_eq, dTup, dLstS, dLstC, dChain, dRaise, dSettle, dApp, htup2, htup2b, ex_tup, ex_tupb, ex_lst, dAdd, dSub, dMul, dFdiv, dMod, dPow, dShl, dCmpI, dIsN, dNotN, dIsB, dNotB, isNon, dix_fr0, dix_fr1, dix_bx0, dix_bx1, dix_t0, dix_t1, dix_l0, mk_bx, mk_neg, mk_ab, ex_f1, ex_f2, ex_b1, ex_b2, two_fr, dAbs, dAug, dIpAdd, dFor, forD, dRng1, dItT, dItL, dSl, dSlL, dNoPart, dPart, dInt1, DL.start, List.map_cons, List.map_nil, List.cons_append, List.nil_append, List.length_cons, List.length_nil, List.replicate, List.replicate_zero, Nat.sub_self, Nat.reduceSub, Nat.reduceAdd, Nat.zero_add, List.set_cons_zero, List.set_cons_succ, List.getElem?_cons_zero, List.getElem?_cons_succ, List.append_nil, true_and, szl0, szl1, szl2, szl3, szl4, szl5, szl6, szl7, szl8, ltl0, ltl1, ltl2, ltl3, ltl4, ltl5, ex_some, ex_bl, ex_two, ex_three, ex_int, ex_intp, ex_ints, ex_int2,  Bool.false_eq_true, if_true, if_false, Bool.not_true, Bool.not_false, reduceIte, dlen_l]
    refine ⟨cmul (n := 64) (by decide) (by decide) ?_, ?_⟩
    · rw [List.length_map, List.length_map]
      omega
    · refine fun p2 hp2 => q p2 _ hp2 ⟨(ns.take 63).map cellOf, 0, 0, 431 + 7 * (((ns.take 63).map cellOf).map D.int).length, 0, rfl, ?_, ?_, by decide, by decide, by decide, by decide, ?_, ?_, by decide, by decide⟩
      · intro z hz
        obtain ⟨i, _, rfl⟩ := List.mem_map.mp hz
        exact cellOf_in i
      · rw [List.length_map]; omega
      · omega
      · rw [List.length_map, List.length_map]; omega
/-! the list of draws in the memory -/
section
variable {p : Addr} {M : Mm} {x0 x1 x2 x3 x4 d : D} {P : QD} {τ : DSt} {R : DSt → Mm → Prop}
theorem hx0 : dIx (.ref p) (.int 0) (mup M p (.lst [x0, x1, x2, x3, x4])) P ↔ P x0 (mup M p (.lst [x0, x1, x2, x3, x4])) := by
  have e : atI [x0, x1, x2, x3, x4] 0 = some x0 := atI_nat (j := 0) rfl
  simp only [dIx, mup_same, Option.some.injEq, MO.lst.injEq, exists_and_left, exists_eq_left', e]
theorem hx1 : dIx (.ref p) (.int 1) (mup M p (.lst [x0, x1, x2, x3, x4])) P ↔ P x1 (mup M p (.lst [x0, x1, x2, x3, x4])) := by
  have e : atI [x0, x1, x2, x3, x4] 1 = some x1 := atI_nat (j := 1) rfl
  simp only [dIx, mup_same, Option.some.injEq, MO.lst.injEq, exists_and_left, exists_eq_left', e]
theorem hx2 : dIx (.ref p) (.int 2) (mup M p (.lst [x0, x1, x2, x3, x4])) P ↔ P x2 (mup M p (.lst [x0, x1, x2, x3, x4])) := by
  have e : atI [x0, x1, x2, x3, x4] 2 = some x2 := atI_nat (j := 2) rfl
  simp only [dIx, mup_same, Option.some.injEq, MO.lst.injEq, exists_and_left, exists_eq_left', e]
theorem hx3 : dIx (.ref p) (.int 3) (mup M p (.lst [x0, x1, x2, x3, x4])) P ↔ P x3 (mup M p (.lst [x0, x1, x2, x3, x4])) := by
  have e : atI [x0, x1, x2, x3, x4] 3 = some x3 := atI_nat (j := 3) rfl
  simp only [dIx, mup_same, Option.some.injEq, MO.lst.injEq, exists_and_left, exists_eq_left', e]
theorem hx4 : dIx (.ref p) (.int 4) (mup M p (.lst [x0, x1, x2, x3, x4])) P ↔ P x4 (mup M p (.lst [x0, x1, x2, x3, x4])) := by
  have e : atI [x0, x1, x2, x3, x4] 4 = some x4 := atI_nat (j := 4) rfl
  simp only [dIx, mup_same, Option.some.injEq, MO.lst.injEq, exists_and_left, exists_eq_left', e]
theorem hs1 : hSub (dVar 0) (dC (.int 1)) d (some (.ref p) :: τ) (mup M p (.lst [x0, x1, x2, x3, x4])) R ↔ R (some (.ref p) :: τ) (mup M p (.lst [x0, d, x2, x3, x4])) := by
  have hx : L2.ixN 5 1 = some 1 := rfl
  constructor
  · rintro ⟨o, e, p', ds, k, j, e1, e2, e3, e4, q⟩
    cases e
    cases e1
    cases e2
    rw [mup_same] at e3
    cases e3
    rw [show ([x0, x1, x2, x3, x4] : List D).length = 5 from rfl, hx] at e4
    cases e4
    rw [mup_mup] at q
    exact q
  · intro q
    refine ⟨_, rfl, p, _, 1, 1, rfl, rfl, mup_same, hx, ?_⟩
    rw [mup_mup]
    exact q
theorem hs2 : hSub (dVar 0) (dC (.int 2)) d (some (.ref p) :: τ) (mup M p (.lst [x0, x1, x2, x3, x4])) R ↔ R (some (.ref p) :: τ) (mup M p (.lst [x0, x1, d, x3, x4])) := by
  have hx : L2.ixN 5 2 = some 2 := rfl
  constructor
  · rintro ⟨o, e, p', ds, k, j, e1, e2, e3, e4, q⟩
    cases e
    cases e1
    cases e2
    rw [mup_same] at e3
    cases e3
    rw [show ([x0, x1, x2, x3, x4] : List D).length = 5 from rfl, hx] at e4
    cases e4
    rw [mup_mup] at q
    exact q
  · intro q
    refine ⟨_, rfl, p, _, 2, 2, rfl, rfl, mup_same, hx, ?_⟩
    rw [mup_mup]
    exact q
theorem hs3 : hSub (dVar 0) (dC (.int 3)) d (some (.ref p) :: τ) (mup M p (.lst [x0, x1, x2, x3, x4])) R ↔ R (some (.ref p) :: τ) (mup M p (.lst [x0, x1, x2, d, x4])) := by
  have hx : L2.ixN 5 3 = some 3 := rfl
  constructor
  · rintro ⟨o, e, p', ds, k, j, e1, e2, e3, e4, q⟩
    cases e
    cases e1
    cases e2
    rw [mup_same] at e3
    cases e3
    rw [show ([x0, x1, x2, x3, x4] : List D).length = 5 from rfl, hx] at e4
    cases e4
    rw [mup_mup] at q
    exact q
  · intro q
    refine ⟨_, rfl, p, _, 3, 3, rfl, rfl, mup_same, hx, ?_⟩
    rw [mup_mup]
    exact q
theorem hs4 : hSub (dVar 0) (dC (.int 4)) d (some (.ref p) :: τ) (mup M p (.lst [x0, x1, x2, x3, x4])) R ↔ R (some (.ref p) :: τ) (mup M p (.lst [x0, x1, x2, x3, d])) := by
  have hx : L2.ixN 5 4 = some 4 := rfl
  constructor
  · rintro ⟨o, e, p', ds, k, j, e1, e2, e3, e4, q⟩
    cases e
    cases e1
    cases e2
    rw [mup_same] at e3
    cases e3
    rw [show ([x0, x1, x2, x3, x4] : List D).length = 5 from rfl, hx] at e4
    cases e4
    rw [mup_mup] at q
    exact q
  · intro q
    refine ⟨_, rfl, p, _, 4, 4, rfl, rfl, mup_same, hx, ?_⟩
    rw [mup_mup]
    exact q
end
theorem dI1 {i : Int} {M : Mm} {P : QD} : dInt1 [.int i] M P ↔ P (.int i) M := Iff.rfl
theorem p36 {x : Int} (h0 : 0 ≤ x) (h : x < 10 ^ 36) : x.natAbs < 2 ^ 120 := by
  have : (10:Int) ^ 36 < 2 ^ 120 := by decide
  exact pow_small h0 (Int.lt_trans h this)
theorem small_of {x : Int} {n : Nat} (h : x.natAbs < 2 ^ n) (hn : n ≤ 1000) : x.natAbs < 2 ^ 1000 := Nat.lt_of_lt_of_le h (Nat.pow_le_pow_right (by decide) hn)
theorem modb (x : Int) {m : Int} (h : 0 < m) : 0 ≤ x.fmod m ∧ x.fmod m < m := ⟨Int.fmod_nonneg_of_pos x h, Int.fmod_lt_of_pos x h⟩
theorem cm64 {i j : Int} (h1 : -(2 ^ 300) < i) (h1' : i < 2 ^ 300) (h2 : -(2 ^ 300) < j) (h2' : j < 2 ^ 300) : CMulX i j := by
  have up : ∀ x : Int, -(2 ^ 300) < x → x < 2 ^ 300 → x.natAbs < 2 ^ 300 := fun x a b => by
    have z : ((x.natAbs : Nat) : Int) < ((2 ^ 300 : Nat) : Int) := by
      rw [Int.natCast_pow]
      have e : ((2 : Nat) : Int) = 2 := rfl
      rw [e]
      omega
    exact_mod_cast z
  exact cmul (n := 300) (by decide) (up i h1 h1') (up j h2 h2')
theorem dv9 {j : Int} (h0 : 0 < j) (h : j ≤ 1000000) (i : Int) : CDivX i j := cdiv (by omega) (by
  have : j.natAbs < 2 ^ 20 := by
    have : (2:Nat) ^ 20 = 1048576 := by decide
    omega
  exact Nat.lt_of_lt_of_le this (Nat.pow_le_pow_right (by decide) (by decide)))
end K07

set_option Elab.async false
set_option linter.all false
set_option maxRecDepth 100000
set_option maxHeartbeats 1000000
namespace K07
open PySem PySem.Spec PyProof.Rows L2 DL
theorem dix_at {ds : List D} {i : Int} {d : D} {M : Mm} {P : QD} (e : atI ds i = some d) : dIx (.lst ds) (.int i) M P ↔ P d M := by
  simp only [dIx, e, Option.some.injEq, exists_eq_left']
theorem t300 : (2:Int) ^ 300 = 2037035976334486086268445688409378161051468393665936250636140449354381299763336706183397376 := by decide
theorem draw_end {p : Addr} {M : Mm} {size : Int} {P : QD} {Y : XD} {cs : D} {a b c e : Int} {o : Option D} (h1 : 0 < size) (h2 : size ≤ 1000) (hb : 0 ≤ b) (hc : 0 ≤ c) (hc' : c < 2 ^ 40) (he : 0 ≤ e) (he' : e ≤ 1000000)
    (q : ∀ d b' e', 0 ≤ d → d < size → 0 ≤ b' → b' ≤ b → 0 ≤ e' → e' ≤ e + 1 → P (.int d) (mup M p (.lst [cs, .int a, .int b', .int c, .int e']))) :
    (dSeq (dIfS (dTest (dOp dGt (dOp dIx (dVar 0) (dC (.int 2))) (dC (.int 0)))) (dSeq (dAsg (dOp dMod (dFn dInt1 (dCons (dOp dIx (dVar 0) (dC (.int 2))) dNil)) (dVar 1)) (hName 3))
    (dSeq (dAsg (dOp dFdiv (dOp dIx (dVar 0) (dC (.int 2))) (dVar 1)) (hSub (dVar 0) (dC (.int 2))))
    (dRet (dVar 3)))) dNext)
    (dSeq (dAsg (dOp dAdd (dOp dIx (dVar 0) (dC (.int 4))) (dC (.int 1))) (hSub (dVar 0) (dC (.int 4))))
    (dSeq (dAsg (dOp dMod (dFn dInt1 (dCons (dOp dMul (dFn dInt1 (dCons (dOp dAdd (dOp dIx (dVar 0) (dC (.int 3))) (dOp dMul (dC (.int 7919)) (dOp dIx (dVar 0) (dC (.int 4))))) dNil)) (dC (.int 48271))) dNil)) (dC (.int 2147483647))) (hName 4))
    (dSeq (dAsg (dOp dMod (dFn dInt1 (dCons (dOp dMul (dVar 4) (dOp dAdd (dOp dFdiv (dVar 4) (dC (.int 1009))) (dC (.int 69621)))) dNil)) (dC (.int 2147483647))) (hName 4))
    (dSeq (dAsg (dOp dMod (dFn dInt1 (dCons (dOp dMul (dVar 4) (dOp dAdd (dOp dFdiv (dVar 4) (dC (.int 2003))) (dC (.int 40014)))) dNil)) (dC (.int 2147483563))) (hName 4))
    (dRet (dOp dMod (dFn dInt1 (dCons (dOp dFdiv (dVar 4) (dC (.int 16))) dNil)) (dVar 1)))))))) { nx := fun _ M' => P .non M', rt := P, ex := fun c _ M' => Y c M' }
    [some (.ref p), some (.int size), o, none, none] (mup M p (.lst [cs, .int a, .int b, .int c, .int e])) := by
  simp only [dSeq, dLt, dLe, dGt, dGe, dNext, dRet, dRetN, dDrop, dIfS, dAsg, dPar, dPar3, hName, dIf, dTest, dNot, dAnd, dOr, dAndV, dOrV, dNotV, dUn, dNeg, dOp, dFn, dCall, dCons, dNil, dC, dvar_eq, dTup, dLstS, dLstC, dChain, dRaise, dSettle, dApp, htup2, htup2b, ex_tup, ex_tupb, ex_lst, dAdd, dSub, dMul, dFdiv, dMod, dPow, dShl, dCmpI, dIsN, dNotN, dIsB, dNotB, isNon, dix_fr0, dix_fr1, dix_bx0, dix_bx1, dix_t0, dix_t1, dix_l0, mk_bx, mk_neg, mk_ab, ex_f1, ex_f2, ex_b1, ex_b2, two_fr, dAbs, dAug, dIpAdd, dFor, forD, dRng1, dItT, dItL, dSl, dSlL, dNoPart, dPart, dInt1, DL.start, List.map_cons, List.map_nil, List.cons_append, List.nil_append, List.length_cons, List.length_nil, List.replicate, List.replicate_zero, Nat.sub_self, Nat.reduceSub, Nat.reduceAdd, Nat.zero_add, List.set_cons_zero, List.set_cons_succ, List.getElem?_cons_zero, List.getElem?_cons_succ, List.append_nil, true_and, szl0, szl1, szl2, szl3, szl4, szl5, szl6, szl7, szl8, ltl0, ltl1, ltl2, ltl3, ltl4, ltl5, ex_some, ex_bl, ex_two, ex_three, ex_int, ex_intp, ex_ints, ex_int2,  Bool.false_eq_true, if_true, if_false, Bool.not_true, Bool.not_false, reduceIte, hx2]
  by_cases c0 : 0 < b
  · simp only [c0, decide_true, if_true]
    simp only [dSeq, dLt, dLe, dGt, dGe, dNext, dRet, dRetN, dDrop, dIfS, dAsg, dPar, dPar3, hName, dIf, dTest, dNot, dAnd, dOr, dAndV, dOrV, dNotV, dUn, dNeg, dOp, dFn, dCall, dCons, dNil, dC, dvar_eq, dTup, dLstS, dLstC, dChain, dRaise, dSettle, dApp, htup2, htup2b, ex_tup, ex_tupb, ex_lst, dAdd, dSub, dMul, dFdiv, dMod, dPow, dShl, dCmpI, dIsN, dNotN, dIsB, dNotB, isNon, dix_fr0, dix_fr1, dix_bx0, dix_bx1, dix_t0, dix_t1, dix_l0, mk_bx, mk_neg, mk_ab, ex_f1, ex_f2, ex_b1, ex_b2, two_fr, dAbs, dAug, dIpAdd, dFor, forD, dRng1, dItT, dItL, dSl, dSlL, dNoPart, dPart, dInt1, DL.start, List.map_cons, List.map_nil, List.cons_append, List.nil_append, List.length_cons, List.length_nil, List.replicate, List.replicate_zero, Nat.sub_self, Nat.reduceSub, Nat.reduceAdd, Nat.zero_add, List.set_cons_zero, List.set_cons_succ, List.getElem?_cons_zero, List.getElem?_cons_succ, List.append_nil, true_and, szl0, szl1, szl2, szl3, szl4, szl5, szl6, szl7, szl8, ltl0, ltl1, ltl2, ltl3, ltl4, ltl5, ex_some, ex_bl, ex_two, ex_three, ex_int, ex_intp, ex_ints, ex_int2,  Bool.false_eq_true, if_true, if_false, Bool.not_true, Bool.not_false, reduceIte, hx2, hs2]
    have m := modb b h1
    refine ⟨by omega, dv9 h1 (by omega) _, q _ _ _ m.1 m.2 ?_ ?_ he (by omega)⟩
    · rw [Int.fdiv_eq_ediv_of_nonneg _ (by omega)]
      exact Int.ediv_nonneg hb (by omega)
    · rw [Int.fdiv_eq_ediv_of_nonneg _ (by omega)]
      exact Int.ediv_le_self _ hb
  · simp only [c0, decide_false, Bool.false_eq_true, if_false]
    simp only [dSeq, dLt, dLe, dGt, dGe, dNext, dRet, dRetN, dDrop, dIfS, dAsg, dPar, dPar3, hName, dIf, dTest, dNot, dAnd, dOr, dAndV, dOrV, dNotV, dUn, dNeg, dOp, dFn, dCall, dCons, dNil, dC, dvar_eq, dTup, dLstS, dLstC, dChain, dRaise, dSettle, dApp, htup2, htup2b, ex_tup, ex_tupb, ex_lst, dAdd, dSub, dMul, dFdiv, dMod, dPow, dShl, dCmpI, dIsN, dNotN, dIsB, dNotB, isNon, dix_fr0, dix_fr1, dix_bx0, dix_bx1, dix_t0, dix_t1, dix_l0, mk_bx, mk_neg, mk_ab, ex_f1, ex_f2, ex_b1, ex_b2, two_fr, dAbs, dAug, dIpAdd, dFor, forD, dRng1, dItT, dItL, dSl, dSlL, dNoPart, dPart, dInt1, DL.start, List.map_cons, List.map_nil, List.cons_append, List.nil_append, List.length_cons, List.length_nil, List.replicate, List.replicate_zero, Nat.sub_self, Nat.reduceSub, Nat.reduceAdd, Nat.zero_add, List.set_cons_zero, List.set_cons_succ, List.getElem?_cons_zero, List.getElem?_cons_succ, List.append_nil, true_and, szl0, szl1, szl2, szl3, szl4, szl5, szl6, szl7, szl8, ltl0, ltl1, ltl2, ltl3, ltl4, ltl5, ex_some, ex_bl, ex_two, ex_three, ex_int, ex_intp, ex_ints, ex_int2,  Bool.false_eq_true, if_true, if_false, Bool.not_true, Bool.not_false, reduceIte, hx3, hx4, hs4]
    have f40 : (2:Int) ^ 40 = 1099511627776 := by decide
    rw [f40] at hc'
    generalize en : (c + 7919 * (e + 1)) * 48271 = n1
    have m1 := modb n1 (m := 2147483647) (by decide)
    generalize n1.fmod 2147483647 = n2 at *
    have d1 : 0 ≤ n2.fdiv 1009 ∧ n2.fdiv 1009 ≤ n2 := by rw [Int.fdiv_eq_ediv_of_nonneg _ (by decide)]; omega
    generalize n2.fdiv 1009 = d2 at *
    generalize n2 * (d2 + 69621) = n3 at *
    have m2 := modb n3 (m := 2147483647) (by decide)
    generalize n3.fmod 2147483647 = n4 at *
    have d3 : 0 ≤ n4.fdiv 2003 ∧ n4.fdiv 2003 ≤ n4 := by rw [Int.fdiv_eq_ediv_of_nonneg _ (by decide)]; omega
    generalize n4.fdiv 2003 = d4 at *
    generalize n4 * (d4 + 40014) = n5 at *
    have m3 := modb n5 (m := 2147483563) (by decide)
    generalize n5.fmod 2147483563 = n6 at *
    have m4 := modb (n6.fdiv 16) h1
    have t := t300
    refine ⟨cm64 (by omega) (by omega) (by omega) (by omega), cm64 (by omega) (by omega) (by omega) (by omega), by decide, dv9 (by decide) (by decide) _, cm64 (by omega) (by omega) (by omega) (by omega), by decide, dv9 (by decide) (by decide) _, cm64 (by omega) (by omega) (by omega) (by omega), by decide, dv9 (by decide) (by decide) _, by omega, ?_⟩
    exact q _ b _ m4.1 m4.2 hb (by omega) (by omega) (by omega)
theorem draw_first {F : DEnds} {p : Addr} {M : Mm} {size : Int} {cs : List Int} {a b c e : Int} (hcs : ∀ z ∈ cs, 0 ≤ z ∧ z < 10 ^ 36) (hlen : cs.length ≤ 1000) (ha : 0 ≤ a) (ha' : a ≤ 1000) (hb : 0 ≤ b) (hb' : b < 10 ^ 36) (hc : 0 ≤ c) (hc' : c < 2 ^ 40)
    (q : ∀ (a2 b2 c2 : Int) (o : Option D), 0 ≤ a2 → a2 ≤ 1000 → 0 ≤ b2 → b2 < 10 ^ 36 → 0 ≤ c2 → c2 < 2 ^ 40 → F.nx [some (.ref p), some (.int size), o, none, none] (mup M p (.lst [.lst (cs.map .int), .int a2, .int b2, .int c2, .int e]))) :
    (dIfS (dAnd (dTest (dOp dEq (dOp dIx (dVar 0) (dC (.int 2))) (dC (.int 0)))) (dTest (dOp dLt (dOp dIx (dVar 0) (dC (.int 1))) (dFn dLen (dCons (dOp dIx (dVar 0) (dC (.int 0))) dNil))))) (dSeq (dAsg (dOp dIx (dOp dIx (dVar 0) (dC (.int 0))) (dOp dIx (dVar 0) (dC (.int 1)))) (hName 2))
    (dSeq (dAsg (dOp dAdd (dOp dIx (dVar 0) (dC (.int 1))) (dC (.int 1))) (hSub (dVar 0) (dC (.int 1))))
    (dSeq (dAsg (dOp dMod (dFn dInt1 (dCons (dOp dAdd (dOp dAdd (dOp dMul (dOp dIx (dVar 0) (dC (.int 3))) (dC (.int 69621))) (dOp dMul (dVar 2) (dC (.int 40692)))) (dC (.int 29))) dNil)) (dC (.int 2147483629))) (hSub (dVar 0) (dC (.int 3))))
    (dIfS (dTest (dOp dGe (dVar 2) (dOp dPow (dC (.int 10)) (dC (.int 18))))) (dAsg (dVar 2) (hSub (dVar 0) (dC (.int 2)))) dNext)))) dNext) F
    [some (.ref p), some (.int size), none, none, none] (mup M p (.lst [.lst (cs.map .int), .int a, .int b, .int c, .int e])) := by
  simp only [dSeq, dLt, dLe, dGt, dGe, dNext, dRet, dRetN, dDrop, dIfS, dAsg, dPar, dPar3, hName, dIf, dTest, dNot, dAnd, dOr, dAndV, dOrV, dNotV, dUn, dNeg, dOp, dFn, dCall, dCons, dNil, dC, dvar_eq, dTup, dLstS, dLstC, dChain, dRaise, dSettle, dApp, htup2, htup2b, ex_tup, ex_tupb, ex_lst, dAdd, dSub, dMul, dFdiv, dMod, dPow, dShl, dCmpI, dIsN, dNotN, dIsB, dNotB, isNon, dix_fr0, dix_fr1, dix_bx0, dix_bx1, dix_t0, dix_t1, dix_l0, mk_bx, mk_neg, mk_ab, ex_f1, ex_f2, ex_b1, ex_b2, two_fr, dAbs, dAug, dIpAdd, dFor, forD, dRng1, dItT, dItL, dSl, dSlL, dNoPart, dPart, dInt1, DL.start, List.map_cons, List.map_nil, List.cons_append, List.nil_append, List.length_cons, List.length_nil, List.replicate, List.replicate_zero, Nat.sub_self, Nat.reduceSub, Nat.reduceAdd, Nat.zero_add, List.set_cons_zero, List.set_cons_succ, List.getElem?_cons_zero, List.getElem?_cons_succ, List.append_nil, true_and, szl0, szl1, szl2, szl3, szl4, szl5, szl6, szl7, szl8, ltl0, ltl1, ltl2, ltl3, ltl4, ltl5, ex_some, ex_bl, ex_two, ex_three, ex_int, ex_intp, ex_ints, ex_int2,  Bool.false_eq_true, if_true, if_false, Bool.not_true, Bool.not_false, reduceIte, hx0, hx1, hx2, hx3, dlen_l, dEq]
  by_cases c0 : b = 0
  · simp only [c0, decide_true, if_true]
    rw [c0] at hb hb'
    by_cases c1 : a < ((cs.map D.int).length : Int)
    · simp only [c1, decide_true, if_true]
      rw [List.length_map] at c1
      obtain ⟨n, rfl⟩ := Int.eq_ofNat_of_zero_le ha
      have hn : n < cs.length := by omega
      have hz := hcs _ (List.getElem_mem hn)
      have e1 : atI (cs.map D.int) (n : Int) = some (.int cs[n]) := atI_nat (by rw [List.getElem?_map, List.getElem?_eq_getElem hn]; rfl)
      rw [dix_at e1]
      generalize cs[n] = z at *
      simp only [dSeq, dLt, dLe, dGt, dGe, dNext, dRet, dRetN, dDrop, dIfS, dAsg, dPar, dPar3, hName, dIf, dTest, dNot, dAnd, dOr, dAndV, dOrV, dNotV, dUn, dNeg, dOp, dFn, dCall, dCons, dNil, dC, dvar_eq, dTup, dLstS, dLstC, dChain, dRaise, dSettle, dApp, htup2, htup2b, ex_tup, ex_tupb, ex_lst, dAdd, dSub, dMul, dFdiv, dMod, dPow, dShl, dCmpI, dIsN, dNotN, dIsB, dNotB, isNon, dix_fr0, dix_fr1, dix_bx0, dix_bx1, dix_t0, dix_t1, dix_l0, mk_bx, mk_neg, mk_ab, ex_f1, ex_f2, ex_b1, ex_b2, two_fr, dAbs, dAug, dIpAdd, dFor, forD, dRng1, dItT, dItL, dSl, dSlL, dNoPart, dPart, dInt1, DL.start, List.map_cons, List.map_nil, List.cons_append, List.nil_append, List.length_cons, List.length_nil, List.replicate, List.replicate_zero, Nat.sub_self, Nat.reduceSub, Nat.reduceAdd, Nat.zero_add, List.set_cons_zero, List.set_cons_succ, List.getElem?_cons_zero, List.getElem?_cons_succ, List.append_nil, true_and, szl0, szl1, szl2, szl3, szl4, szl5, szl6, szl7, szl8, ltl0, ltl1, ltl2, ltl3, ltl4, ltl5, ex_some, ex_bl, ex_two, ex_three, ex_int, ex_intp, ex_ints, ex_int2,  Bool.false_eq_true, if_true, if_false, Bool.not_true, Bool.not_false, reduceIte, hx1, hx3, hs1, hs3]
      have f40 : (2:Int) ^ 40 = 1099511627776 := by decide
      have f36 : (10:Int) ^ 36 = 1000000000000000000000000000000000000 := by decide
      have t := t300
      have m1 := modb (c * 69621 + z * 40692 + 29) (m := 2147483629) (by decide)
      refine ⟨cm64 (by omega) (by omega) (by omega) (by omega), cm64 (by omega) (by omega) (by omega) (by omega), by decide, ⟨by decide, by decide, by decide⟩, ?_⟩
      by_cases c2 : (10:Int) ^ (18 : Int).toNat ≤ z
      · simp only [c2, decide_true, if_true]
        simp only [dSeq, dLt, dLe, dGt, dGe, dNext, dRet, dRetN, dDrop, dIfS, dAsg, dPar, dPar3, hName, dIf, dTest, dNot, dAnd, dOr, dAndV, dOrV, dNotV, dUn, dNeg, dOp, dFn, dCall, dCons, dNil, dC, dvar_eq, dTup, dLstS, dLstC, dChain, dRaise, dSettle, dApp, htup2, htup2b, ex_tup, ex_tupb, ex_lst, dAdd, dSub, dMul, dFdiv, dMod, dPow, dShl, dCmpI, dIsN, dNotN, dIsB, dNotB, isNon, dix_fr0, dix_fr1, dix_bx0, dix_bx1, dix_t0, dix_t1, dix_l0, mk_bx, mk_neg, mk_ab, ex_f1, ex_f2, ex_b1, ex_b2, two_fr, dAbs, dAug, dIpAdd, dFor, forD, dRng1, dItT, dItL, dSl, dSlL, dNoPart, dPart, dInt1, DL.start, List.map_cons, List.map_nil, List.cons_append, List.nil_append, List.length_cons, List.length_nil, List.replicate, List.replicate_zero, Nat.sub_self, Nat.reduceSub, Nat.reduceAdd, Nat.zero_add, List.set_cons_zero, List.set_cons_succ, List.getElem?_cons_zero, List.getElem?_cons_succ, List.append_nil, true_and, szl0, szl1, szl2, szl3, szl4, szl5, szl6, szl7, szl8, ltl0, ltl1, ltl2, ltl3, ltl4, ltl5, ex_some, ex_bl, ex_two, ex_three, ex_int, ex_intp, ex_ints, ex_int2,  Bool.false_eq_true, if_true, if_false, Bool.not_true, Bool.not_false, reduceIte, hs2]
        exact q _ _ _ _ (by omega) (by omega) hz.1 hz.2 m1.1 (by omega)
      · simp only [c2, decide_false, Bool.false_eq_true, if_false]
        exact q _ _ _ _ (by omega) (by omega) (by decide) (by decide) m1.1 (by omega)
    · simp only [c1, decide_false, Bool.false_eq_true, if_false]
      exact q _ _ _ _ ha ha' (by decide) (by decide) hc hc'
  · simp only [c0, decide_false, Bool.false_eq_true, if_false]
    exact q _ _ _ _ ha ha' hb hb' hc hc'
theorem len__law_draw : ∀ xs M P Y, sp__law_draw xs M P Y → xs.length = 2 := by
  intro xs M P Y h
  unfold sp__law_draw at h
  split at h
  · rfl
  · exact h.elim
theorem rd__law_draw : ∀ xs M P Y, sp__law_draw xs M P Y → t__law_draw { nx := fun _ M' => P .non M', rt := P, ex := fun c _ M' => Y c M' } (DL.start 5 xs) M := by
  intro xs M P Y h
  unfold sp__law_draw at h
  split at h
  rotate_left
  · exact h.elim
  rename_i p size
  unfold t__law_draw
  obtain ⟨h1, h2, k, ⟨hd, hm, cs, a, b, c, e, rfl, hcs, hlen, ha, ha', hb, hb', hc, hc', he, he'⟩, q⟩ := h
  have hM := mup_self hm
  rw [← hM]
  refine draw_first hcs hlen ha ha' hb hb' hc hc' fun a2 b2 c2 o z1 z2 z3 z4 z5 z6 => ?_
  refine draw_end h1 h2 z3 z5 z6 he (by omega) fun d b' e' y1 y2 y3 y4 y5 y6 => ?_
  exact q d _ y1 y2 ⟨cs, a2, b', c2, e', rfl, hcs, hlen, z1, z2, y3, by omega, z5, z6, y5, by omega⟩
end K07

set_option Elab.async false
set_option linter.all false
set_option maxRecDepth 100000
set_option maxHeartbeats 1000000
namespace K07
open PySem PySem.Spec PyProof.Rows L2 DL
theorem hd_mup {M : Mm} {p : Addr} {hd : List D} {k : Nat} (h : HandOK k hd) : Hd (mup M p (.lst hd)) p k := ⟨hd, mup_same, h⟩
theorem len__law_some : ∀ xs M P Y, sp__law_some xs M P Y → xs.length = 2 := by
  intro xs M P Y h
  unfold sp__law_some at h
  split at h
  · rfl
  · exact h.elim
theorem rd__law_some : ∀ xs M P Y, sp__law_some xs M P Y → t__law_some { nx := fun _ M' => P .non M', rt := P, ex := fun c _ M' => Y c M' } (DL.start 2 xs) M := by
  intro xs M P Y h
  unfold sp__law_some at h
  split at h
  rotate_left
  · exact h.elim
  rename_i p xs
  unfold t__law_some
  obtain ⟨h1, h2, k, hh, q⟩ := h
  simp only [dSeq, dLt, dLe, dGt, dGe, dNext, dRet, dRetN, dDrop, dIfS, dAsg, dPar, dPar3, hName, dIf, dTest, dNot, dAnd, dOr, dAndV, dOrV, dNotV, dUn, dNeg, dOp, dFn, dCall, dCons, dNil, dC, dvar_eq, dTup, dLstS, dLstC, dChain, dRaise, dSettle, dApp, htup2, htup2b, ex_tup, ex_tupb, ex_lst, dAdd, dSub, dMul, dFdiv, dMod, dPow, dShl, dCmpI, dIsN, dNotN, dIsB, dNotB, isNon, dix_fr0, dix_fr1, dix_bx0, dix_bx1, dix_t0, dix_t1, dix_l0, mk_bx, mk_neg, mk_ab, ex_f1, ex_f2, ex_b1, ex_b2, two_fr, dAbs, dAug, dIpAdd, dFor, forD, dRng1, dItT, dItL, dSl, dSlL, dNoPart, dPart, dInt1, DL.start, List.map_cons, List.map_nil, List.cons_append, List.nil_append, List.length_cons, List.length_nil, List.replicate, List.replicate_zero, Nat.sub_self, Nat.reduceSub, Nat.reduceAdd, Nat.zero_add, List.set_cons_zero, List.set_cons_succ, List.getElem?_cons_zero, List.getElem?_cons_succ, List.append_nil, true_and, szl0, szl1, szl2, szl3, szl4, szl5, szl6, szl7, szl8, ltl0, ltl1, ltl2, ltl3, ltl4, ltl5, ex_some, ex_bl, ex_two, ex_three, ex_int, ex_intp, ex_ints, ex_int2,  Bool.false_eq_true, if_true, if_false, Bool.not_true, Bool.not_false, reduceIte, dlen_l, sp__law_draw]
  refine ⟨by omega, by omega, k, hh, fun d hd z1 z2 z3 => ?_⟩
  obtain ⟨j, rfl⟩ := Int.eq_ofNat_of_zero_le z1
  have hj : j < xs.length := by omega
  rw [dix_at (atI_nat (List.getElem?_eq_getElem hj))]
  exact q _ (List.getElem_mem hj) hd z3
theorem lg_small {x : Nat} (hx : x ≠ 0) (hl : x < 2 ^ 8000) : x.log2 < 9000 := by
  have := (Nat.log2_lt hx).mpr (Nat.lt_of_lt_of_le hl (Nat.pow_le_pow_right (by decide) (by decide : 8000 ≤ 9000)))
  exact this
theorem len__law_frac : ∀ xs M P Y, sp__law_frac xs M P Y → xs.length = 2 := by
  intro xs M P Y h
  unfold sp__law_frac sp_fraction at h
  split at h
  · rfl
  · exact h.elim
theorem rd__law_frac : ∀ xs M P Y, sp__law_frac xs M P Y → t__law_frac { nx := fun _ M' => P .non M', rt := P, ex := fun c _ M' => Y c M' } (DL.start 4 xs) M := by
  intro xs M P Y h
  unfold sp__law_frac sp_fraction at h
  split at h
  rotate_left
  · exact h.elim
  rename_i n d
  unfold t__law_frac
  obtain ⟨h0, hs, q⟩ := h
  simp only [dSeq, dLt, dLe, dGt, dGe, dNext, dRet, dRetN, dDrop, dIfS, dAsg, dPar, dPar3, hName, dIf, dTest, dNot, dAnd, dOr, dAndV, dOrV, dNotV, dUn, dNeg, dOp, dFn, dCall, dCons, dNil, dC, dvar_eq, dTup, dLstS, dLstC, dChain, dRaise, dSettle, dApp, htup2, htup2b, ex_tup, ex_tupb, ex_lst, dAdd, dSub, dMul, dFdiv, dMod, dPow, dShl, dCmpI, dIsN, dNotN, dIsB, dNotB, isNon, dix_fr0, dix_fr1, dix_bx0, dix_bx1, dix_t0, dix_t1, dix_l0, mk_bx, mk_neg, mk_ab, ex_f1, ex_f2, ex_b1, ex_b2, two_fr, dAbs, dAug, dIpAdd, dFor, forD, dRng1, dItT, dItL, dSl, dSlL, dNoPart, dPart, dInt1, DL.start, List.map_cons, List.map_nil, List.cons_append, List.nil_append, List.length_cons, List.length_nil, List.replicate, List.replicate_zero, Nat.sub_self, Nat.reduceSub, Nat.reduceAdd, Nat.zero_add, List.set_cons_zero, List.set_cons_succ, List.getElem?_cons_zero, List.getElem?_cons_succ, List.append_nil, true_and, szl0, szl1, szl2, szl3, szl4, szl5, szl6, szl7, szl8, ltl0, ltl1, ltl2, ltl3, ltl4, ltl5, ex_some, ex_bl, ex_two, ex_three, ex_int, ex_intp, ex_ints, ex_int2,  Bool.false_eq_true, if_true, if_false, Bool.not_true, Bool.not_false, reduceIte]
  refine ⟨fun (m : Nat) (τ : DSt) (M' : Mm) => ∃ a b : Nat, τ = [some (.int n), some (.int d), some (.int (a : Int)), some (.int (b : Int))] ∧ M' = M ∧ Nat.gcd a b = Int.gcd n d ∧ m = a, ⟨_, n.natAbs, d.natAbs, rfl, rfl, rfl, rfl⟩, ?_⟩
  rintro m τ M' ⟨a, b, rfl, rfl, hg, rfl⟩
  simp only [dSeq, dLt, dLe, dGt, dGe, dNext, dRet, dRetN, dDrop, dIfS, dAsg, dPar, dPar3, hName, dIf, dTest, dNot, dAnd, dOr, dAndV, dOrV, dNotV, dUn, dNeg, dOp, dFn, dCall, dCons, dNil, dC, dvar_eq, dTup, dLstS, dLstC, dChain, dRaise, dSettle, dApp, htup2, htup2b, ex_tup, ex_tupb, ex_lst, dAdd, dSub, dMul, dFdiv, dMod, dPow, dShl, dCmpI, dIsN, dNotN, dIsB, dNotB, isNon, dix_fr0, dix_fr1, dix_bx0, dix_bx1, dix_t0, dix_t1, dix_l0, mk_bx, mk_neg, mk_ab, ex_f1, ex_f2, ex_b1, ex_b2, two_fr, dAbs, dAug, dIpAdd, dFor, forD, dRng1, dItT, dItL, dSl, dSlL, dNoPart, dPart, dInt1, DL.start, List.map_cons, List.map_nil, List.cons_append, List.nil_append, List.length_cons, List.length_nil, List.replicate, List.replicate_zero, Nat.sub_self, Nat.reduceSub, Nat.reduceAdd, Nat.zero_add, List.set_cons_zero, List.set_cons_succ, List.getElem?_cons_zero, List.getElem?_cons_succ, List.append_nil, true_and, szl0, szl1, szl2, szl3, szl4, szl5, szl6, szl7, szl8, ltl0, ltl1, ltl2, ltl3, ltl4, ltl5, ex_some, ex_bl, ex_two, ex_three, ex_int, ex_intp, ex_ints, ex_int2,  Bool.false_eq_true, if_true, if_false, Bool.not_true, Bool.not_false, reduceIte]
  by_cases c : 0 < (m : Int)
  · simp only [c, decide_true, if_true]
    refine ⟨by omega, b % m, Nat.mod_lt _ (by omega), b % m, m, ?_, ?_, rfl⟩
    · rw [Int.fmod_eq_emod_of_nonneg _ (by omega), ← Int.natCast_emod]
    · rw [← hg, ← Nat.gcd_rec]
  · simp only [c, decide_false, Bool.false_eq_true, if_false]
    have z : m = 0 := by omega
    subst z
    rw [Nat.gcd_zero_left] at hg
    subst hg
    have ps := part_small (n := n) h0
    have e1 := frac_num (n := n) h0
    have e2 := frac_den (n := n) h0
    unfold fr at q
    rw [← e1, ← e2] at q
    generalize hK : (2:Nat) ^ 8000 = B at *
    have lg : ∀ x : Nat, x ≠ 0 → x < B → x.log2 < 9000 := fun x hx hl => lg_small hx (by rw [hK]; exact hl)
    by_cases c2 : 0 < d
    · simp only [c2, decide_true, if_true] at q ⊢
      exact ⟨⟨by omega, by simpa using lg _ ps.1 (by omega)⟩, ⟨by omega, by simpa using lg _ ps.1 (by omega)⟩, q⟩
    · simp only [c2, decide_false, Bool.false_eq_true, if_false] at q ⊢
      rw [Int.zero_sub]
      exact ⟨⟨by omega, by simpa using lg _ ps.1 (by omega)⟩, ⟨by omega, by simpa using lg _ ps.1 (by omega)⟩, q⟩
theorem len__law_plus : ∀ xs M P Y, sp__law_plus xs M P Y → xs.length = 2 := by
  intro xs M P Y h
  unfold sp__law_plus sp_two at h
  split at h
  · rfl
  · exact h.elim
theorem rd__law_plus : ∀ xs M P Y, sp__law_plus xs M P Y → t__law_plus { nx := fun _ M' => P .non M', rt := P, ex := fun c _ M' => Y c M' } (DL.start 2 xs) M := by
  intro xs M P Y h
  unfold sp__law_plus sp_two at h
  split at h
  rotate_left
  · exact h.elim
  rename_i x y
  unfold t__law_plus
  obtain ⟨a, b, rfl, rfl, ha, hb, q⟩ := h
  simp only [dSeq, dLt, dLe, dGt, dGe, dNext, dRet, dRetN, dDrop, dIfS, dAsg, dPar, dPar3, hName, dIf, dTest, dNot, dAnd, dOr, dAndV, dOrV, dNotV, dUn, dNeg, dOp, dFn, dCall, dCons, dNil, dC, dvar_eq, dTup, dLstS, dLstC, dChain, dRaise, dSettle, dApp, htup2, htup2b, ex_tup, ex_tupb, ex_lst, dAdd, dSub, dMul, dFdiv, dMod, dPow, dShl, dCmpI, dIsN, dNotN, dIsB, dNotB, isNon, dix_fr0, dix_fr1, dix_bx0, dix_bx1, dix_t0, dix_t1, dix_l0, mk_bx, mk_neg, mk_ab, ex_f1, ex_f2, ex_b1, ex_b2, two_fr, dAbs, dAug, dIpAdd, dFor, forD, dRng1, dItT, dItL, dSl, dSlL, dNoPart, dPart, dInt1, DL.start, List.map_cons, List.map_nil, List.cons_append, List.nil_append, List.length_cons, List.length_nil, List.replicate, List.replicate_zero, Nat.sub_self, Nat.reduceSub, Nat.reduceAdd, Nat.zero_add, List.set_cons_zero, List.set_cons_succ, List.getElem?_cons_zero, List.getElem?_cons_succ, List.append_nil, true_and, szl0, szl1, szl2, szl3, szl4, szl5, szl6, szl7, szl8, ltl0, ltl1, ltl2, ltl3, ltl4, ltl5, ex_some, ex_bl, ex_two, ex_three, ex_int, ex_intp, ex_ints, ex_int2,  Bool.false_eq_true, if_true, if_false, Bool.not_true, Bool.not_false, reduceIte, sp__law_frac, sp_fraction]
  have e : Rat.divInt (a.num * b.den + b.num * a.den) (a.den * b.den) = a + b := by
    rw [← Rat.divInt_add_divInt a.num b.num (d0 a) (d0 b), Rat.num_divInt_den, Rat.num_divInt_den]
  rw [e]
  exact ⟨cmul (n := 20000) (by decide) ha.n hb.d, cmul (n := 20000) (by decide) hb.n ha.d, cmul (n := 20000) (by decide) ha.d hb.d, Int.mul_ne_zero (d0 a) (d0 b), nm (n := 2000) (m := 2000) (by rw [dI]; exact ha.2) (by rw [dI]; exact hb.2) (by decide), q⟩
theorem len__law_less : ∀ xs M P Y, sp__law_less xs M P Y → xs.length = 2 := by
  intro xs M P Y h
  unfold sp__law_less sp_two at h
  split at h
  · rfl
  · exact h.elim
theorem rd__law_less : ∀ xs M P Y, sp__law_less xs M P Y → t__law_less { nx := fun _ M' => P .non M', rt := P, ex := fun c _ M' => Y c M' } (DL.start 2 xs) M := by
  intro xs M P Y h
  unfold sp__law_less sp_two at h
  split at h
  rotate_left
  · exact h.elim
  rename_i x y
  unfold t__law_less
  obtain ⟨a, b, rfl, rfl, ha, hb, q⟩ := h
  simp only [dSeq, dLt, dLe, dGt, dGe, dNext, dRet, dRetN, dDrop, dIfS, dAsg, dPar, dPar3, hName, dIf, dTest, dNot, dAnd, dOr, dAndV, dOrV, dNotV, dUn, dNeg, dOp, dFn, dCall, dCons, dNil, dC, dvar_eq, dTup, dLstS, dLstC, dChain, dRaise, dSettle, dApp, htup2, htup2b, ex_tup, ex_tupb, ex_lst, dAdd, dSub, dMul, dFdiv, dMod, dPow, dShl, dCmpI, dIsN, dNotN, dIsB, dNotB, isNon, dix_fr0, dix_fr1, dix_bx0, dix_bx1, dix_t0, dix_t1, dix_l0, mk_bx, mk_neg, mk_ab, ex_f1, ex_f2, ex_b1, ex_b2, two_fr, dAbs, dAug, dIpAdd, dFor, forD, dRng1, dItT, dItL, dSl, dSlL, dNoPart, dPart, dInt1, DL.start, List.map_cons, List.map_nil, List.cons_append, List.nil_append, List.length_cons, List.length_nil, List.replicate, List.replicate_zero, Nat.sub_self, Nat.reduceSub, Nat.reduceAdd, Nat.zero_add, List.set_cons_zero, List.set_cons_succ, List.getElem?_cons_zero, List.getElem?_cons_succ, List.append_nil, true_and, szl0, szl1, szl2, szl3, szl4, szl5, szl6, szl7, szl8, ltl0, ltl1, ltl2, ltl3, ltl4, ltl5, ex_some, ex_bl, ex_two, ex_three, ex_int, ex_intp, ex_ints, ex_int2,  Bool.false_eq_true, if_true, if_false, Bool.not_true, Bool.not_false, reduceIte, sp__law_frac, sp_fraction]
  have e : Rat.divInt (a.num * b.den - b.num * a.den) (a.den * b.den) = a - b := by
    rw [Rat.sub_eq_add_neg, ← Rat.num_divInt_den (-b), Rat.neg_num, Rat.neg_den]
    conv => rhs; lhs; rw [← Rat.num_divInt_den a]
    rw [Rat.divInt_add_divInt a.num (-b.num) (d0 a) (d0 b), Int.neg_mul, Int.sub_eq_add_neg]
  rw [e]
  exact ⟨cmul (n := 20000) (by decide) ha.n hb.d, cmul (n := 20000) (by decide) hb.n ha.d, cmul (n := 20000) (by decide) ha.d hb.d, Int.mul_ne_zero (d0 a) (d0 b), nm (n := 2000) (m := 2000) (by rw [dI]; exact ha.2) (by rw [dI]; exact hb.2) (by decide), q⟩
theorem len__law_times : ∀ xs M P Y, sp__law_times xs M P Y → xs.length = 2 := by
  intro xs M P Y h
  unfold sp__law_times at h
  split at h
  · rfl
  · exact h.elim
theorem rd__law_times : ∀ xs M P Y, sp__law_times xs M P Y → t__law_times { nx := fun _ M' => P .non M', rt := P, ex := fun c _ M' => Y c M' } (DL.start 2 xs) M := by
  intro xs M P Y h
  unfold sp__law_times at h
  split at h
  rotate_left
  · exact h.elim
  rename_i a b c d
  unfold t__law_times
  obtain ⟨h1, h2, h3, h4, h5, h6, q⟩ := h
  simp only [dSeq, dLt, dLe, dGt, dGe, dNext, dRet, dRetN, dDrop, dIfS, dAsg, dPar, dPar3, hName, dIf, dTest, dNot, dAnd, dOr, dAndV, dOrV, dNotV, dUn, dNeg, dOp, dFn, dCall, dCons, dNil, dC, dvar_eq, dTup, dLstS, dLstC, dChain, dRaise, dSettle, dApp, htup2, htup2b, ex_tup, ex_tupb, ex_lst, dAdd, dSub, dMul, dFdiv, dMod, dPow, dShl, dCmpI, dIsN, dNotN, dIsB, dNotB, isNon, dix_fr0, dix_fr1, dix_bx0, dix_bx1, dix_t0, dix_t1, dix_l0, mk_bx, mk_neg, mk_ab, ex_f1, ex_f2, ex_b1, ex_b2, two_fr, dAbs, dAug, dIpAdd, dFor, forD, dRng1, dItT, dItL, dSl, dSlL, dNoPart, dPart, dInt1, DL.start, List.map_cons, List.map_nil, List.cons_append, List.nil_append, List.length_cons, List.length_nil, List.replicate, List.replicate_zero, Nat.sub_self, Nat.reduceSub, Nat.reduceAdd, Nat.zero_add, List.set_cons_zero, List.set_cons_succ, List.getElem?_cons_zero, List.getElem?_cons_succ, List.append_nil, true_and, szl0, szl1, szl2, szl3, szl4, szl5, szl6, szl7, szl8, ltl0, ltl1, ltl2, ltl3, ltl4, ltl5, ex_some, ex_bl, ex_two, ex_three, ex_int, ex_intp, ex_ints, ex_int2,  Bool.false_eq_true, if_true, if_false, Bool.not_true, Bool.not_false, reduceIte, sp__law_frac, sp_fraction]
  rw [← Rat.divInt_mul_divInt]
  exact ⟨cmul (n := 2000) (by decide) h3 h5, cmul (n := 2000) (by decide) h4 h6, Int.mul_ne_zero h1 h2, nm h4 h6 (by decide), q⟩
theorem ltimes {a b : Rat} {M : Mm} {P : QD} {Y : XD} (ha : SZ a) (hb : SZ b) : sp__law_times [fr a, fr b] M P Y ↔ P (fr (a * b)) M := by
  show (_ ∧ _ ∧ _ ∧ _ ∧ _ ∧ _ ∧ P (fr (Rat.divInt a.num a.den * Rat.divInt b.num b.den)) M) ↔ _
  rw [Rat.num_divInt_den, Rat.num_divInt_den]
  exact ⟨fun z => z.2.2.2.2.2.2, fun z => ⟨d0 a, d0 b, ha.1, by rw [dI]; exact ha.2, hb.1, by rw [dI]; exact hb.2, z⟩⟩
theorem len__law_by : ∀ xs M P Y, sp__law_by xs M P Y → xs.length = 2 := by
  intro xs M P Y h
  unfold sp__law_by sp_over at h
  split at h
  · rfl
  · exact h.elim
theorem rd__law_by : ∀ xs M P Y, sp__law_by xs M P Y → t__law_by { nx := fun _ M' => P .non M', rt := P, ex := fun c _ M' => Y c M' } (DL.start 2 xs) M := by
  intro xs M P Y h
  unfold sp__law_by sp_over at h
  split at h
  rotate_left
  · exact h.elim
  rename_i x y
  unfold t__law_by
  obtain ⟨a, b, rfl, rfl, ha, hb, hz, q⟩ := h
  simp only [dSeq, dLt, dLe, dGt, dGe, dNext, dRet, dRetN, dDrop, dIfS, dAsg, dPar, dPar3, hName, dIf, dTest, dNot, dAnd, dOr, dAndV, dOrV, dNotV, dUn, dNeg, dOp, dFn, dCall, dCons, dNil, dC, dvar_eq, dTup, dLstS, dLstC, dChain, dRaise, dSettle, dApp, htup2, htup2b, ex_tup, ex_tupb, ex_lst, dAdd, dSub, dMul, dFdiv, dMod, dPow, dShl, dCmpI, dIsN, dNotN, dIsB, dNotB, isNon, dix_fr0, dix_fr1, dix_bx0, dix_bx1, dix_t0, dix_t1, dix_l0, mk_bx, mk_neg, mk_ab, ex_f1, ex_f2, ex_b1, ex_b2, two_fr, dAbs, dAug, dIpAdd, dFor, forD, dRng1, dItT, dItL, dSl, dSlL, dNoPart, dPart, dInt1, DL.start, List.map_cons, List.map_nil, List.cons_append, List.nil_append, List.length_cons, List.length_nil, List.replicate, List.replicate_zero, Nat.sub_self, Nat.reduceSub, Nat.reduceAdd, Nat.zero_add, List.set_cons_zero, List.set_cons_succ, List.getElem?_cons_zero, List.getElem?_cons_succ, List.append_nil, true_and, szl0, szl1, szl2, szl3, szl4, szl5, szl6, szl7, szl8, ltl0, ltl1, ltl2, ltl3, ltl4, ltl5, ex_some, ex_bl, ex_two, ex_three, ex_int, ex_intp, ex_ints, ex_int2,  Bool.false_eq_true, if_true, if_false, Bool.not_true, Bool.not_false, reduceIte, sp__law_frac, sp_fraction]
  have e : Rat.divInt (a.num * b.den) (a.den * b.num) = a / b := by
    rw [Rat.div_def, Rat.inv_def, ← Rat.divInt_mul_divInt, Rat.num_divInt_den]
  rw [e]
  exact ⟨cmul (n := 20000) (by decide) ha.n hb.d, cmul (n := 20000) (by decide) ha.d hb.n, Int.mul_ne_zero (d0 a) (fun z => hz (Rat.num_eq_zero.mp z)), nm (n := 2000) (m := 2000) (by rw [dI]; exact ha.2) hb.1 (by decide), q⟩
theorem len__law_is_under : ∀ xs M P Y, sp__law_is_under xs M P Y → xs.length = 2 := by
  intro xs M P Y h
  unfold sp__law_is_under at h
  split at h
  · rfl
  · exact h.elim
theorem rd__law_is_under : ∀ xs M P Y, sp__law_is_under xs M P Y → t__law_is_under { nx := fun _ M' => P .non M', rt := P, ex := fun c _ M' => Y c M' } (DL.start 2 xs) M := by
  intro xs M P Y h
  unfold sp__law_is_under at h
  split at h
  rotate_left
  · exact h.elim
  rename_i x y
  unfold t__law_is_under
  obtain ⟨a, b, rfl, rfl, ha, hb, q⟩ := h
  simp only [dSeq, dLt, dLe, dGt, dGe, dNext, dRet, dRetN, dDrop, dIfS, dAsg, dPar, dPar3, hName, dIf, dTest, dNot, dAnd, dOr, dAndV, dOrV, dNotV, dUn, dNeg, dOp, dFn, dCall, dCons, dNil, dC, dvar_eq, dTup, dLstS, dLstC, dChain, dRaise, dSettle, dApp, htup2, htup2b, ex_tup, ex_tupb, ex_lst, dAdd, dSub, dMul, dFdiv, dMod, dPow, dShl, dCmpI, dIsN, dNotN, dIsB, dNotB, isNon, dix_fr0, dix_fr1, dix_bx0, dix_bx1, dix_t0, dix_t1, dix_l0, mk_bx, mk_neg, mk_ab, ex_f1, ex_f2, ex_b1, ex_b2, two_fr, dAbs, dAug, dIpAdd, dFor, forD, dRng1, dItT, dItL, dSl, dSlL, dNoPart, dPart, dInt1, DL.start, List.map_cons, List.map_nil, List.cons_append, List.nil_append, List.length_cons, List.length_nil, List.replicate, List.replicate_zero, Nat.sub_self, Nat.reduceSub, Nat.reduceAdd, Nat.zero_add, List.set_cons_zero, List.set_cons_succ, List.getElem?_cons_zero, List.getElem?_cons_succ, List.append_nil, true_and, szl0, szl1, szl2, szl3, szl4, szl5, szl6, szl7, szl8, ltl0, ltl1, ltl2, ltl3, ltl4, ltl5, ex_some, ex_bl, ex_two, ex_three, ex_int, ex_intp, ex_ints, ex_int2,  Bool.false_eq_true, if_true, if_false, Bool.not_true, Bool.not_false, reduceIte]
  have e : decide (a.num * (b.den : Int) < b.num * a.den) = decide (a < b) := by
    rw [decide_eq_decide]
    exact (Rat.lt_iff a b).symm
  rw [e]
  exact ⟨cmul (by decide) ha.n hb.d, cmul (by decide) hb.n ha.d, q⟩
theorem under {a b : Rat} {M : Mm} {P : QD} {Y : XD} (ha : SZ a) (hb : SZ b) : sp__law_is_under [fr a, fr b] M P Y ↔ P (.bl (decide (a < b))) M := by
  constructor
  · rintro ⟨x, y, e1, e2, _, _, q⟩
    rw [fr_inj.mp e1, fr_inj.mp e2]
    exact q
  · intro q
    exact ⟨a, b, rfl, rfl, ha, hb, q⟩
theorem mn_law {a b : Rat} : mn a b = if b < a then b else a := by
  unfold mn
  split <;> split <;> grind
theorem least_loop {F : DEnds} {X : Option D} : ∀ (rs : List Rat) (l : Rat) (o : Option D) (M : Mm), SZ l → (∀ a ∈ rs, SZ a) → (∀ o', F.nx [X, some (fr (rs.foldl mn l)), o'] M) →
    forD (hName 2) (dAsg (dIf (dTest (dCall sp__law_is_under (dCons (dVar 2) (dCons (dVar 1) dNil)))) (dVar 2) (dVar 1)) (hName 1)) F (rs.map fr) [X, some (fr l), o] M
  | [], l, o, M, h1, h3, q => q o
  | a :: rs, l, o, M, h1, h3, q => by
    have ha := h3 a List.mem_cons_self
    simp only [dSeq, dLt, dLe, dGt, dGe, dNext, dRet, dRetN, dDrop, dIfS, dAsg, dPar, dPar3, hName, dIf, dTest, dNot, dAnd, dOr, dAndV, dOrV, dNotV, dUn, dNeg, dOp, dFn, dCall, dCons, dNil, dC, dvar_eq, dTup, dLstS, dLstC, dChain, dRaise, dSettle, dApp, htup2, htup2b, ex_tup, ex_tupb, ex_lst, dAdd, dSub, dMul, dFdiv, dMod, dPow, dShl, dCmpI, dIsN, dNotN, dIsB, dNotB, isNon, dix_fr0, dix_fr1, dix_bx0, dix_bx1, dix_t0, dix_t1, dix_l0, mk_bx, mk_neg, mk_ab, ex_f1, ex_f2, ex_b1, ex_b2, two_fr, dAbs, dAug, dIpAdd, dFor, forD, dRng1, dItT, dItL, dSl, dSlL, dNoPart, dPart, dInt1, DL.start, List.map_cons, List.map_nil, List.cons_append, List.nil_append, List.length_cons, List.length_nil, List.replicate, List.replicate_zero, Nat.sub_self, Nat.reduceSub, Nat.reduceAdd, Nat.zero_add, List.set_cons_zero, List.set_cons_succ, List.getElem?_cons_zero, List.getElem?_cons_succ, List.append_nil, true_and, szl0, szl1, szl2, szl3, szl4, szl5, szl6, szl7, szl8, ltl0, ltl1, ltl2, ltl3, ltl4, ltl5, ex_some, ex_bl, ex_two, ex_three, ex_int, ex_intp, ex_ints, ex_int2,  Bool.false_eq_true, if_true, if_false, Bool.not_true, Bool.not_false, reduceIte, under ha h1]
    have ih := least_loop (F := F) (X := X) rs (mn l a) (some (fr a)) M (h1.mn ha) (fun b hb => h3 b (List.mem_cons_of_mem _ hb)) q
    rw [mn_law] at ih
    by_cases c : a < l
    · simp only [c, decide_true, if_true] at ih ⊢
      exact ih
    · simp only [c, decide_false, if_false, Bool.false_eq_true] at ih ⊢
      exact ih
theorem most_loop {F : DEnds} {X : Option D} : ∀ (rs : List Rat) (l : Rat) (o : Option D) (M : Mm), SZ l → (∀ a ∈ rs, SZ a) → (∀ o', F.nx [X, some (fr (rs.foldl mx l)), o'] M) →
    forD (hName 2) (dAsg (dIf (dTest (dCall sp__law_is_under (dCons (dVar 1) (dCons (dVar 2) dNil)))) (dVar 2) (dVar 1)) (hName 1)) F (rs.map fr) [X, some (fr l), o] M
  | [], l, o, M, h1, h3, q => q o
  | a :: rs, l, o, M, h1, h3, q => by
    have ha := h3 a List.mem_cons_self
    simp only [dSeq, dLt, dLe, dGt, dGe, dNext, dRet, dRetN, dDrop, dIfS, dAsg, dPar, dPar3, hName, dIf, dTest, dNot, dAnd, dOr, dAndV, dOrV, dNotV, dUn, dNeg, dOp, dFn, dCall, dCons, dNil, dC, dvar_eq, dTup, dLstS, dLstC, dChain, dRaise, dSettle, dApp, htup2, htup2b, ex_tup, ex_tupb, ex_lst, dAdd, dSub, dMul, dFdiv, dMod, dPow, dShl, dCmpI, dIsN, dNotN, dIsB, dNotB, isNon, dix_fr0, dix_fr1, dix_bx0, dix_bx1, dix_t0, dix_t1, dix_l0, mk_bx, mk_neg, mk_ab, ex_f1, ex_f2, ex_b1, ex_b2, two_fr, dAbs, dAug, dIpAdd, dFor, forD, dRng1, dItT, dItL, dSl, dSlL, dNoPart, dPart, dInt1, DL.start, List.map_cons, List.map_nil, List.cons_append, List.nil_append, List.length_cons, List.length_nil, List.replicate, List.replicate_zero, Nat.sub_self, Nat.reduceSub, Nat.reduceAdd, Nat.zero_add, List.set_cons_zero, List.set_cons_succ, List.getElem?_cons_zero, List.getElem?_cons_succ, List.append_nil, true_and, szl0, szl1, szl2, szl3, szl4, szl5, szl6, szl7, szl8, ltl0, ltl1, ltl2, ltl3, ltl4, ltl5, ex_some, ex_bl, ex_two, ex_three, ex_int, ex_intp, ex_ints, ex_int2,  Bool.false_eq_true, if_true, if_false, Bool.not_true, Bool.not_false, reduceIte, under h1 ha]
    have ih := most_loop (F := F) (X := X) rs (mx l a) (some (fr a)) M (h1.mx ha) (fun b hb => h3 b (List.mem_cons_of_mem _ hb)) q
    rw [show mx l a = if l < a then a else l from rfl] at ih
    by_cases c : l < a
    · simp only [c, decide_true, if_true] at ih ⊢
      exact ih
    · simp only [c, decide_false, if_false, Bool.false_eq_true] at ih ⊢
      exact ih
theorem mn_self (a : Rat) : mn a a = a := by unfold mn; split <;> rfl
theorem mx_self (a : Rat) : mx a a = a := by unfold mx; split <;> rfl
theorem len__law_least : ∀ xs M P Y, sp__law_least xs M P Y → xs.length = 1 := by
  intro xs M P Y h
  unfold sp__law_least sp_row at h
  split at h
  · rfl
  · exact h.elim
theorem rd__law_least : ∀ xs M P Y, sp__law_least xs M P Y → t__law_least { nx := fun _ M' => P .non M', rt := P, ex := fun c _ M' => Y c M' } (DL.start 3 xs) M := by
  intro xs M P Y h
  unfold sp__law_least sp_row at h
  split at h
  rotate_left
  · exact h.elim
  rename_i xs
  unfold t__law_least
  obtain ⟨r, rs, rfl, h1, h2, q⟩ := h
  simp only [dSeq, dLt, dLe, dGt, dGe, dNext, dRet, dRetN, dDrop, dIfS, dAsg, dPar, dPar3, hName, dIf, dTest, dNot, dAnd, dOr, dAndV, dOrV, dNotV, dUn, dNeg, dOp, dFn, dCall, dCons, dNil, dC, dvar_eq, dTup, dLstS, dLstC, dChain, dRaise, dSettle, dApp, htup2, htup2b, ex_tup, ex_tupb, ex_lst, dAdd, dSub, dMul, dFdiv, dMod, dPow, dShl, dCmpI, dIsN, dNotN, dIsB, dNotB, isNon, dix_fr0, dix_fr1, dix_bx0, dix_bx1, dix_t0, dix_t1, dix_l0, mk_bx, mk_neg, mk_ab, ex_f1, ex_f2, ex_b1, ex_b2, two_fr, dAbs, dAug, dIpAdd, dFor, forD, dRng1, dItT, dItL, dSl, dSlL, dNoPart, dPart, dInt1, DL.start, List.map_cons, List.map_nil, List.cons_append, List.nil_append, List.length_cons, List.length_nil, List.replicate, List.replicate_zero, Nat.sub_self, Nat.reduceSub, Nat.reduceAdd, Nat.zero_add, List.set_cons_zero, List.set_cons_succ, List.getElem?_cons_zero, List.getElem?_cons_succ, List.append_nil, true_and, szl0, szl1, szl2, szl3, szl4, szl5, szl6, szl7, szl8, ltl0, ltl1, ltl2, ltl3, ltl4, ltl5, ex_some, ex_bl, ex_two, ex_three, ex_int, ex_intp, ex_ints, ex_int2,  Bool.false_eq_true, if_true, if_false, Bool.not_true, Bool.not_false, reduceIte, under h1 h1, Rat.lt_irrefl, decide_false]
  exact least_loop rs r _ M h1 h2 fun o => by simp only [dSeq, dLt, dLe, dGt, dGe, dNext, dRet, dRetN, dDrop, dIfS, dAsg, dPar, dPar3, hName, dIf, dTest, dNot, dAnd, dOr, dAndV, dOrV, dNotV, dUn, dNeg, dOp, dFn, dCall, dCons, dNil, dC, dvar_eq, dTup, dLstS, dLstC, dChain, dRaise, dSettle, dApp, htup2, htup2b, ex_tup, ex_tupb, ex_lst, dAdd, dSub, dMul, dFdiv, dMod, dPow, dShl, dCmpI, dIsN, dNotN, dIsB, dNotB, isNon, dix_fr0, dix_fr1, dix_bx0, dix_bx1, dix_t0, dix_t1, dix_l0, mk_bx, mk_neg, mk_ab, ex_f1, ex_f2, ex_b1, ex_b2, two_fr, dAbs, dAug, dIpAdd, dFor, forD, dRng1, dItT, dItL, dSl, dSlL, dNoPart, dPart, dInt1, DL.start, List.map_cons, List.map_nil, List.cons_append, List.nil_append, List.length_cons, List.length_nil, List.replicate, List.replicate_zero, Nat.sub_self, Nat.reduceSub, Nat.reduceAdd, Nat.zero_add, List.set_cons_zero, List.set_cons_succ, List.getElem?_cons_zero, List.getElem?_cons_succ, List.append_nil, true_and, szl0, szl1, szl2, szl3, szl4, szl5, szl6, szl7, szl8, ltl0, ltl1, ltl2, ltl3, ltl4, ltl5, ex_some, ex_bl, ex_two, ex_three, ex_int, ex_intp, ex_ints, ex_int2,  Bool.false_eq_true, if_true, if_false, Bool.not_true, Bool.not_false, reduceIte]; exact q
theorem len__law_most : ∀ xs M P Y, sp__law_most xs M P Y → xs.length = 1 := by
  intro xs M P Y h
  unfold sp__law_most sp_row at h
  split at h
  · rfl
  · exact h.elim
theorem rd__law_most : ∀ xs M P Y, sp__law_most xs M P Y → t__law_most { nx := fun _ M' => P .non M', rt := P, ex := fun c _ M' => Y c M' } (DL.start 3 xs) M := by
  intro xs M P Y h
  unfold sp__law_most sp_row at h
  split at h
  rotate_left
  · exact h.elim
  rename_i xs
  unfold t__law_most
  obtain ⟨r, rs, rfl, h1, h2, q⟩ := h
  simp only [dSeq, dLt, dLe, dGt, dGe, dNext, dRet, dRetN, dDrop, dIfS, dAsg, dPar, dPar3, hName, dIf, dTest, dNot, dAnd, dOr, dAndV, dOrV, dNotV, dUn, dNeg, dOp, dFn, dCall, dCons, dNil, dC, dvar_eq, dTup, dLstS, dLstC, dChain, dRaise, dSettle, dApp, htup2, htup2b, ex_tup, ex_tupb, ex_lst, dAdd, dSub, dMul, dFdiv, dMod, dPow, dShl, dCmpI, dIsN, dNotN, dIsB, dNotB, isNon, dix_fr0, dix_fr1, dix_bx0, dix_bx1, dix_t0, dix_t1, dix_l0, mk_bx, mk_neg, mk_ab, ex_f1, ex_f2, ex_b1, ex_b2, two_fr, dAbs, dAug, dIpAdd, dFor, forD, dRng1, dItT, dItL, dSl, dSlL, dNoPart, dPart, dInt1, DL.start, List.map_cons, List.map_nil, List.cons_append, List.nil_append, List.length_cons, List.length_nil, List.replicate, List.replicate_zero, Nat.sub_self, Nat.reduceSub, Nat.reduceAdd, Nat.zero_add, List.set_cons_zero, List.set_cons_succ, List.getElem?_cons_zero, List.getElem?_cons_succ, List.append_nil, true_and, szl0, szl1, szl2, szl3, szl4, szl5, szl6, szl7, szl8, ltl0, ltl1, ltl2, ltl3, ltl4, ltl5, ex_some, ex_bl, ex_two, ex_three, ex_int, ex_intp, ex_ints, ex_int2,  Bool.false_eq_true, if_true, if_false, Bool.not_true, Bool.not_false, reduceIte, under h1 h1, Rat.lt_irrefl, decide_false]
  exact most_loop rs r _ M h1 h2 fun o => by simp only [dSeq, dLt, dLe, dGt, dGe, dNext, dRet, dRetN, dDrop, dIfS, dAsg, dPar, dPar3, hName, dIf, dTest, dNot, dAnd, dOr, dAndV, dOrV, dNotV, dUn, dNeg, dOp, dFn, dCall, dCons, dNil, dC, dvar_eq, dTup, dLstS, dLstC, dChain, dRaise, dSettle, dApp, htup2, htup2b, ex_tup, ex_tupb, ex_lst, dAdd, dSub, dMul, dFdiv, dMod, dPow, dShl, dCmpI, dIsN, dNotN, dIsB, dNotB, isNon, dix_fr0, dix_fr1, dix_bx0, dix_bx1, dix_t0, dix_t1, dix_l0, mk_bx, mk_neg, mk_ab, ex_f1, ex_f2, ex_b1, ex_b2, two_fr, dAbs, dAug, dIpAdd, dFor, forD, dRng1, dItT, dItL, dSl, dSlL, dNoPart, dPart, dInt1, DL.start, List.map_cons, List.map_nil, List.cons_append, List.nil_append, List.length_cons, List.length_nil, List.replicate, List.replicate_zero, Nat.sub_self, Nat.reduceSub, Nat.reduceAdd, Nat.zero_add, List.set_cons_zero, List.set_cons_succ, List.getElem?_cons_zero, List.getElem?_cons_succ, List.append_nil, true_and, szl0, szl1, szl2, szl3, szl4, szl5, szl6, szl7, szl8, ltl0, ltl1, ltl2, ltl3, ltl4, ltl5, ex_some, ex_bl, ex_two, ex_three, ex_int, ex_intp, ex_ints, ex_int2,  Bool.false_eq_true, if_true, if_false, Bool.not_true, Bool.not_false, reduceIte]; exact q
theorem two_loop {F : DEnds} {X : Option D} : ∀ (ds : List D) (f : Int) (o : Option D) (M : Mm), (∀ o', F.nx [X, some (.int (f * 2 ^ ds.length)), o'] M) →
    forD (hName 2) (dAsg (dOp dAdd (dVar 1) (dVar 1)) (hName 1)) F ds [X, some (.int f), o] M
  | [], f, o, M, q => by
    have := q o
    rw [List.length_nil, Int.pow_zero, Int.mul_one] at this
    exact this
  | a :: rs, f, o, M, q => by
    simp only [dSeq, dLt, dLe, dGt, dGe, dNext, dRet, dRetN, dDrop, dIfS, dAsg, dPar, dPar3, hName, dIf, dTest, dNot, dAnd, dOr, dAndV, dOrV, dNotV, dUn, dNeg, dOp, dFn, dCall, dCons, dNil, dC, dvar_eq, dTup, dLstS, dLstC, dChain, dRaise, dSettle, dApp, htup2, htup2b, ex_tup, ex_tupb, ex_lst, dAdd, dSub, dMul, dFdiv, dMod, dPow, dShl, dCmpI, dIsN, dNotN, dIsB, dNotB, isNon, dix_fr0, dix_fr1, dix_bx0, dix_bx1, dix_t0, dix_t1, dix_l0, mk_bx, mk_neg, mk_ab, ex_f1, ex_f2, ex_b1, ex_b2, two_fr, dAbs, dAug, dIpAdd, dFor, forD, dRng1, dItT, dItL, dSl, dSlL, dNoPart, dPart, dInt1, DL.start, List.map_cons, List.map_nil, List.cons_append, List.nil_append, List.length_cons, List.length_nil, List.replicate, List.replicate_zero, Nat.sub_self, Nat.reduceSub, Nat.reduceAdd, Nat.zero_add, List.set_cons_zero, List.set_cons_succ, List.getElem?_cons_zero, List.getElem?_cons_succ, List.append_nil, true_and, szl0, szl1, szl2, szl3, szl4, szl5, szl6, szl7, szl8, ltl0, ltl1, ltl2, ltl3, ltl4, ltl5, ex_some, ex_bl, ex_two, ex_three, ex_int, ex_intp, ex_ints, ex_int2,  Bool.false_eq_true, if_true, if_false, Bool.not_true, Bool.not_false, reduceIte]
    refine two_loop rs (f + f) _ M fun o' => ?_
    have := q o'
    rw [List.length_cons, Int.pow_succ] at this
    rw [show (f + f) * 2 ^ rs.length = f * (2 ^ rs.length * 2) by rw [Int.mul_comm _ 2, ← Int.mul_assoc, Int.mul_comm f 2]; congr 1; omega]
    exact this
theorem rangeD_len (a : Int) (n : Nat) : (rangeD a n).length = n := by simp [rangeD]
theorem len__law_two : ∀ xs M P Y, sp__law_two xs M P Y → xs.length = 1 := by
  intro xs M P Y h
  unfold sp__law_two sp_two_to at h
  split at h
  · rfl
  · exact h.elim
theorem rd__law_two : ∀ xs M P Y, sp__law_two xs M P Y → t__law_two { nx := fun _ M' => P .non M', rt := P, ex := fun c _ M' => Y c M' } (DL.start 3 xs) M := by
  intro xs M P Y h
  unfold sp__law_two sp_two_to at h
  split at h
  rotate_left
  · exact h.elim
  rename_i k
  unfold t__law_two
  obtain ⟨h1, h2, q⟩ := h
  simp only [dSeq, dLt, dLe, dGt, dGe, dNext, dRet, dRetN, dDrop, dIfS, dAsg, dPar, dPar3, hName, dIf, dTest, dNot, dAnd, dOr, dAndV, dOrV, dNotV, dUn, dNeg, dOp, dFn, dCall, dCons, dNil, dC, dvar_eq, dTup, dLstS, dLstC, dChain, dRaise, dSettle, dApp, htup2, htup2b, ex_tup, ex_tupb, ex_lst, dAdd, dSub, dMul, dFdiv, dMod, dPow, dShl, dCmpI, dIsN, dNotN, dIsB, dNotB, isNon, dix_fr0, dix_fr1, dix_bx0, dix_bx1, dix_t0, dix_t1, dix_l0, mk_bx, mk_neg, mk_ab, ex_f1, ex_f2, ex_b1, ex_b2, two_fr, dAbs, dAug, dIpAdd, dFor, forD, dRng1, dItT, dItL, dSl, dSlL, dNoPart, dPart, dInt1, DL.start, List.map_cons, List.map_nil, List.cons_append, List.nil_append, List.length_cons, List.length_nil, List.replicate, List.replicate_zero, Nat.sub_self, Nat.reduceSub, Nat.reduceAdd, Nat.zero_add, List.set_cons_zero, List.set_cons_succ, List.getElem?_cons_zero, List.getElem?_cons_succ, List.append_nil, true_and, szl0, szl1, szl2, szl3, szl4, szl5, szl6, szl7, szl8, ltl0, ltl1, ltl2, ltl3, ltl4, ltl5, ex_some, ex_bl, ex_two, ex_three, ex_int, ex_intp, ex_ints, ex_int2,  Bool.false_eq_true, if_true, if_false, Bool.not_true, Bool.not_false, reduceIte]
  refine ⟨by omega, by omega, two_loop _ 1 none M fun o => ?_⟩
  simp only [dSeq, dLt, dLe, dGt, dGe, dNext, dRet, dRetN, dDrop, dIfS, dAsg, dPar, dPar3, hName, dIf, dTest, dNot, dAnd, dOr, dAndV, dOrV, dNotV, dUn, dNeg, dOp, dFn, dCall, dCons, dNil, dC, dvar_eq, dTup, dLstS, dLstC, dChain, dRaise, dSettle, dApp, htup2, htup2b, ex_tup, ex_tupb, ex_lst, dAdd, dSub, dMul, dFdiv, dMod, dPow, dShl, dCmpI, dIsN, dNotN, dIsB, dNotB, isNon, dix_fr0, dix_fr1, dix_bx0, dix_bx1, dix_t0, dix_t1, dix_l0, mk_bx, mk_neg, mk_ab, ex_f1, ex_f2, ex_b1, ex_b2, two_fr, dAbs, dAug, dIpAdd, dFor, forD, dRng1, dItT, dItL, dSl, dSlL, dNoPart, dPart, dInt1, DL.start, List.map_cons, List.map_nil, List.cons_append, List.nil_append, List.length_cons, List.length_nil, List.replicate, List.replicate_zero, Nat.sub_self, Nat.reduceSub, Nat.reduceAdd, Nat.zero_add, List.set_cons_zero, List.set_cons_succ, List.getElem?_cons_zero, List.getElem?_cons_succ, List.append_nil, true_and, szl0, szl1, szl2, szl3, szl4, szl5, szl6, szl7, szl8, ltl0, ltl1, ltl2, ltl3, ltl4, ltl5, ex_some, ex_bl, ex_two, ex_three, ex_int, ex_intp, ex_ints, ex_int2,  Bool.false_eq_true, if_true, if_false, Bool.not_true, Bool.not_false, reduceIte]
  rw [rangeD_len, Int.one_mul]
  exact q
theorem power_loop {F : DEnds} {a : Rat} {X : Option D} (ha : bt a 200) : ∀ (ds : List D) (j : Nat) (o : Option D) (M : Mm), j + ds.length ≤ 8 → (∀ o', F.nx [some (fr a), X, some (fr (a ^ (j + ds.length))), o'] M) →
    forD (hName 3) (dAsg (dCall sp__law_times (dCons (dVar 2) (dCons (dVar 0) dNil))) (hName 2)) F ds [some (fr a), X, some (fr (a ^ j)), o] M
  | [], j, o, M, hl, q => q o
  | d :: ds, j, o, M, hl, q => by
    simp only [List.length_cons] at hl
    simp only [dSeq, dLt, dLe, dGt, dGe, dNext, dRet, dRetN, dDrop, dIfS, dAsg, dPar, dPar3, hName, dIf, dTest, dNot, dAnd, dOr, dAndV, dOrV, dNotV, dUn, dNeg, dOp, dFn, dCall, dCons, dNil, dC, dvar_eq, dTup, dLstS, dLstC, dChain, dRaise, dSettle, dApp, htup2, htup2b, ex_tup, ex_tupb, ex_lst, dAdd, dSub, dMul, dFdiv, dMod, dPow, dShl, dCmpI, dIsN, dNotN, dIsB, dNotB, isNon, dix_fr0, dix_fr1, dix_bx0, dix_bx1, dix_t0, dix_t1, dix_l0, mk_bx, mk_neg, mk_ab, ex_f1, ex_f2, ex_b1, ex_b2, two_fr, dAbs, dAug, dIpAdd, dFor, forD, dRng1, dItT, dItL, dSl, dSlL, dNoPart, dPart, dInt1, DL.start, List.map_cons, List.map_nil, List.cons_append, List.nil_append, List.length_cons, List.length_nil, List.replicate, List.replicate_zero, Nat.sub_self, Nat.reduceSub, Nat.reduceAdd, Nat.zero_add, List.set_cons_zero, List.set_cons_succ, List.getElem?_cons_zero, List.getElem?_cons_succ, List.append_nil, true_and, szl0, szl1, szl2, szl3, szl4, szl5, szl6, szl7, szl8, ltl0, ltl1, ltl2, ltl3, ltl4, ltl5, ex_some, ex_bl, ex_two, ex_three, ex_int, ex_intp, ex_ints, ex_int2,  Bool.false_eq_true, if_true, if_false, Bool.not_true, Bool.not_false, reduceIte, ltimes (a := a ^ j) (b := a) ((ha.pow j).mono (by omega)) (ha.mono (by decide))]
    rw [← Rat.pow_succ]
    refine power_loop ha ds (j + 1) _ M (by omega) fun o' => ?_
    have := q o'
    rw [List.length_cons, show j + (ds.length + 1) = j + 1 + ds.length by omega] at this
    exact this
theorem len__law_power : ∀ xs M P Y, sp__law_power xs M P Y → xs.length = 2 := by
  intro xs M P Y h
  unfold sp__law_power at h
  split at h
  · rfl
  · exact h.elim
theorem rd__law_power : ∀ xs M P Y, sp__law_power xs M P Y → t__law_power { nx := fun _ M' => P .non M', rt := P, ex := fun c _ M' => Y c M' } (DL.start 4 xs) M := by
  intro xs M P Y h
  unfold sp__law_power at h
  split at h
  rotate_left
  · exact h.elim
  rename_i x k
  unfold t__law_power
  obtain ⟨a, rfl, h1, h2, ha, q⟩ := h
  simp only [dSeq, dLt, dLe, dGt, dGe, dNext, dRet, dRetN, dDrop, dIfS, dAsg, dPar, dPar3, hName, dIf, dTest, dNot, dAnd, dOr, dAndV, dOrV, dNotV, dUn, dNeg, dOp, dFn, dCall, dCons, dNil, dC, dvar_eq, dTup, dLstS, dLstC, dChain, dRaise, dSettle, dApp, htup2, htup2b, ex_tup, ex_tupb, ex_lst, dAdd, dSub, dMul, dFdiv, dMod, dPow, dShl, dCmpI, dIsN, dNotN, dIsB, dNotB, isNon, dix_fr0, dix_fr1, dix_bx0, dix_bx1, dix_t0, dix_t1, dix_l0, mk_bx, mk_neg, mk_ab, ex_f1, ex_f2, ex_b1, ex_b2, two_fr, dAbs, dAug, dIpAdd, dFor, forD, dRng1, dItT, dItL, dSl, dSlL, dNoPart, dPart, dInt1, DL.start, List.map_cons, List.map_nil, List.cons_append, List.nil_append, List.length_cons, List.length_nil, List.replicate, List.replicate_zero, Nat.sub_self, Nat.reduceSub, Nat.reduceAdd, Nat.zero_add, List.set_cons_zero, List.set_cons_succ, List.getElem?_cons_zero, List.getElem?_cons_succ, List.append_nil, true_and, szl0, szl1, szl2, szl3, szl4, szl5, szl6, szl7, szl8, ltl0, ltl1, ltl2, ltl3, ltl4, ltl5, ex_some, ex_bl, ex_two, ex_three, ex_int, ex_intp, ex_ints, ex_int2,  Bool.false_eq_true, if_true, if_false, Bool.not_true, Bool.not_false, reduceIte, mk_fr1]
  refine ⟨by omega, by omega, ?_⟩
  have e : fr 1 = fr (a ^ 0) := by rw [Rat.pow_zero]
  rw [e]
  refine power_loop ha _ 0 none M (by rw [rangeD_len]; omega) fun o => ?_
  simp only [dSeq, dLt, dLe, dGt, dGe, dNext, dRet, dRetN, dDrop, dIfS, dAsg, dPar, dPar3, hName, dIf, dTest, dNot, dAnd, dOr, dAndV, dOrV, dNotV, dUn, dNeg, dOp, dFn, dCall, dCons, dNil, dC, dvar_eq, dTup, dLstS, dLstC, dChain, dRaise, dSettle, dApp, htup2, htup2b, ex_tup, ex_tupb, ex_lst, dAdd, dSub, dMul, dFdiv, dMod, dPow, dShl, dCmpI, dIsN, dNotN, dIsB, dNotB, isNon, dix_fr0, dix_fr1, dix_bx0, dix_bx1, dix_t0, dix_t1, dix_l0, mk_bx, mk_neg, mk_ab, ex_f1, ex_f2, ex_b1, ex_b2, two_fr, dAbs, dAug, dIpAdd, dFor, forD, dRng1, dItT, dItL, dSl, dSlL, dNoPart, dPart, dInt1, DL.start, List.map_cons, List.map_nil, List.cons_append, List.nil_append, List.length_cons, List.length_nil, List.replicate, List.replicate_zero, Nat.sub_self, Nat.reduceSub, Nat.reduceAdd, Nat.zero_add, List.set_cons_zero, List.set_cons_succ, List.getElem?_cons_zero, List.getElem?_cons_succ, List.append_nil, true_and, szl0, szl1, szl2, szl3, szl4, szl5, szl6, szl7, szl8, ltl0, ltl1, ltl2, ltl3, ltl4, ltl5, ex_some, ex_bl, ex_two, ex_three, ex_int, ex_intp, ex_ints, ex_int2,  Bool.false_eq_true, if_true, if_false, Bool.not_true, Bool.not_false, reduceIte, rangeD_len]
  exact q
theorem lpow {a : Rat} {k : Int} {M : Mm} {P : QD} {Y : XD} (h1 : 0 ≤ k) (h2 : k ≤ 8) (ha : bt a 200) : sp__law_power [fr a, .int k] M P Y ↔ P (fr (a ^ k.toNat)) M := by
  constructor
  · rintro ⟨x, e, _, _, _, q⟩
    rw [fr_inj.mp e]
    exact q
  · intro q
    exact ⟨a, rfl, h1, h2, ha, q⟩
theorem len__law_number : ∀ xs M P Y, sp__law_number xs M P Y → xs.length = 2 := by
  intro xs M P Y h
  unfold sp__law_number at h
  split at h
  · rfl
  · exact h.elim
theorem rd__law_number : ∀ xs M P Y, sp__law_number xs M P Y → t__law_number { nx := fun _ M' => P .non M', rt := P, ex := fun c _ M' => Y c M' } (DL.start 2 xs) M := by
  intro xs M P Y h
  unfold sp__law_number at h
  split at h
  rotate_left
  · exact h.elim
  rename_i p g
  unfold t__law_number
  obtain ⟨h1, h2, k, hh, q⟩ := h
  simp only [dSeq, dLt, dLe, dGt, dGe, dNext, dRet, dRetN, dDrop, dIfS, dAsg, dPar, dPar3, hName, dIf, dTest, dNot, dAnd, dOr, dAndV, dOrV, dNotV, dUn, dNeg, dOp, dFn, dCall, dCons, dNil, dC, dvar_eq, dTup, dLstS, dLstC, dChain, dRaise, dSettle, dApp, htup2, htup2b, ex_tup, ex_tupb, ex_lst, dAdd, dSub, dMul, dFdiv, dMod, dPow, dShl, dCmpI, dIsN, dNotN, dIsB, dNotB, isNon, dix_fr0, dix_fr1, dix_bx0, dix_bx1, dix_t0, dix_t1, dix_l0, mk_bx, mk_neg, mk_ab, ex_f1, ex_f2, ex_b1, ex_b2, two_fr, dAbs, dAug, dIpAdd, dFor, forD, dRng1, dItT, dItL, dSl, dSlL, dNoPart, dPart, dInt1, DL.start, List.map_cons, List.map_nil, List.cons_append, List.nil_append, List.length_cons, List.length_nil, List.replicate, List.replicate_zero, Nat.sub_self, Nat.reduceSub, Nat.reduceAdd, Nat.zero_add, List.set_cons_zero, List.set_cons_succ, List.getElem?_cons_zero, List.getElem?_cons_succ, List.append_nil, true_and, szl0, szl1, szl2, szl3, szl4, szl5, szl6, szl7, szl8, ltl0, ltl1, ltl2, ltl3, ltl4, ltl5, ex_some, ex_bl, ex_two, ex_three, ex_int, ex_intp, ex_ints, ex_int2,  Bool.false_eq_true, if_true, if_false, Bool.not_true, Bool.not_false, reduceIte, sp__law_draw, sp__law_frac, sp_fraction]
  refine ⟨cmul (n := 10) (by decide) (by decide) (by have : (2:Nat) ^ 10 = 1024 := by decide
                                                     omega), by omega, by omega, k + 1, hh, fun d hd z1 z2 z3 => ⟨by decide, by decide, k, hd_mup z3, fun d2 hd2 y1 y2 y3 => ⟨by omega, ?_, ?_⟩⟩⟩
  · have : (1 + d2).natAbs < 2 ^ 5 := by
      have : (2:Nat) ^ 5 = 32 := by decide
      omega
    exact Nat.lt_of_lt_of_le this (Nat.pow_le_pow_right (by decide) (by decide))
  · rw [mup_mup]
    have e5 : (2:Nat) ^ 5 = 32 := by decide
    exact q _ hd2 (bt_divInt (by omega) (by omega) (by omega)) y3
end K07

set_option Elab.async false
set_option linter.all false
set_option maxRecDepth 100000
set_option maxHeartbeats 1000000
namespace K07
open PySem PySem.Spec PyProof.Rows L2 DL
theorem mn_comm (a b : Rat) : mn a b = mn b a := by unfold mn; grind
theorem mn_assoc (a b c : Rat) : mn (mn a b) c = mn a (mn b c) := by unfold mn; grind
theorem mx_comm (a b : Rat) : mx a b = mx b a := by unfold mx; grind
theorem mx_assoc (a b c : Rat) : mx (mx a b) c = mx a (mx b c) := by unfold mx; grind
theorem mn_le (a b : Rat) : mn a b ≤ a ∧ mn a b ≤ b := by unfold mn; grind
theorem le_mx (a b : Rat) : a ≤ mx a b ∧ b ≤ mx a b := by unfold mx; grind
theorem lo4_swap (a b c d : Rat) : lo4 b a d c = lo4 a b c d := by
  unfold lo4
  rw [mn_comm b a, mn_assoc _ d c, mn_comm d c, ← mn_assoc]
theorem hi4_swap (a b c d : Rat) : hi4 b a d c = hi4 a b c d := by
  unfold hi4
  rw [mx_comm b a, mx_assoc _ d c, mx_comm d c, ← mx_assoc]
theorem lo4_le (a b c d : Rat) : lo4 a b c d ≤ a ∧ lo4 a b c d ≤ b ∧ lo4 a b c d ≤ c ∧ lo4 a b c d ≤ d := by
  unfold lo4
  have h1 := mn_le a b
  have h2 := mn_le (mn a b) c
  have h3 := mn_le (mn (mn a b) c) d
  grind
theorem le_hi4 (a b c d : Rat) : a ≤ hi4 a b c d ∧ b ≤ hi4 a b c d ∧ c ≤ hi4 a b c d ∧ d ≤ hi4 a b c d := by
  unfold hi4
  have h1 := le_mx a b
  have h2 := le_mx (mx a b) c
  have h3 := le_mx (mx (mx a b) c) d
  grind
theorem size_pos {l h : Rat} (h0 : 0 ≤ l) (hl : l ≤ h) : sizeL l h = l ∧ sizeH l h = h := by
  unfold sizeL sizeH nought ab mn mx
  grind
theorem size_neg {l h : Rat} (h0 : h ≤ 0) (hl : l ≤ h) : sizeL l h = -h ∧ sizeH l h = -l := by
  unfold sizeL sizeH nought ab mn mx
  grind
theorem size_mid {l h : Rat} (h0 : l < 0) (h1 : 0 < h) : sizeL l h = 0 ∧ sizeH l h = mx (-l) h := by
  unfold sizeL sizeH nought ab mx
  grind
/-! powers -/
theorem rpow_nn {a : Rat} (h : 0 ≤ a) : ∀ k : Nat, 0 ≤ a ^ k
  | 0 => by rw [Rat.pow_zero]; decide
  | k + 1 => by rw [Rat.pow_succ]; exact Rat.mul_nonneg (rpow_nn h k) h
theorem rpow_le {a b : Rat} (h0 : 0 ≤ a) (h : a ≤ b) : ∀ k : Nat, a ^ k ≤ b ^ k
  | 0 => by rw [Rat.pow_zero, Rat.pow_zero]; exact Rat.le_refl
  | k + 1 => by
    rw [Rat.pow_succ, Rat.pow_succ]
    have h1 := Rat.mul_le_mul_of_nonneg_right (rpow_le h0 h k) h0
    have h2 := Rat.mul_le_mul_of_nonneg_left h (rpow_nn (Rat.le_trans h0 h) k)
    grind
theorem rpow_neg (a : Rat) : ∀ k : Nat, (-a) ^ (2 * k) = a ^ (2 * k) ∧ (-a) ^ (2 * k + 1) = -(a ^ (2 * k + 1))
  | 0 => by simp [Rat.pow_succ, Rat.pow_zero]
  | k + 1 => by
    obtain ⟨h1, h2⟩ := rpow_neg a k
    have e : 2 * (k + 1) = 2 * k + 1 + 1 := by omega
    have z1 : (-a) ^ (2 * (k + 1)) = a ^ (2 * (k + 1)) := by rw [e, Rat.pow_succ, h2, Rat.pow_succ]; grind
    exact ⟨z1, by rw [Rat.pow_succ, z1, Rat.pow_succ]; grind⟩
theorem even_ab {a : Rat} {k : Nat} (hk : k % 2 = 0) : (ab a) ^ k = a ^ k := by
  obtain ⟨j, rfl⟩ : ∃ j, k = 2 * j := ⟨k / 2, by omega⟩
  unfold ab
  split
  · exact (rpow_neg a j).1
  · rfl
theorem odd_le {l h : Rat} {k : Nat} (hk : k % 2 = 1) (hl : l ≤ h) : l ^ k ≤ h ^ k := by
  obtain ⟨j, rfl⟩ : ∃ j, k = 2 * j + 1 := ⟨k / 2, by omega⟩
  by_cases c : 0 ≤ l
  · exact rpow_le c hl _
  · by_cases c2 : h ≤ 0
    · have z := rpow_le (a := -h) (b := -l) (by grind) (by grind) (2 * j + 1)
      rw [(rpow_neg h j).2, (rpow_neg l j).2] at z
      grind
    · have z1 := rpow_nn (a := -l) (by grind) (2 * j + 1)
      have z2 := rpow_nn (a := h) (by grind) (2 * j + 1)
      rw [(rpow_neg l j).2] at z1
      grind
theorem ab_nn (a : Rat) : 0 ≤ ab a := by unfold ab; grind
theorem mn_pow {a b : Rat} (ha : 0 ≤ a) (hb : 0 ≤ b) (k : Nat) : (mn a b) ^ k = mn (a ^ k) (b ^ k) := by
  rcases Rat.le_total (a := a) (b := b) with c | c
  · have z := rpow_le ha c k
    have e1 : mn a b = a := by unfold mn; grind
    rw [e1]; unfold mn; grind
  · have z := rpow_le hb c k
    have e1 : mn a b = b := by unfold mn; grind
    rw [e1]; unfold mn; grind
theorem mx_pow {a b : Rat} (ha : 0 ≤ a) (hb : 0 ≤ b) (k : Nat) : (mx a b) ^ k = mx (a ^ k) (b ^ k) := by
  rcases Rat.le_total (a := a) (b := b) with c | c
  · have z := rpow_le ha c k
    have e1 : mx a b = b := by unfold mx; grind
    rw [e1]; unfold mx; grind
  · have z := rpow_le hb c k
    have e1 : mx a b = a := by unfold mx; grind
    rw [e1]; unfold mx; grind
theorem rzero_pow {k : Nat} (hk : k ≠ 0) : (0 : Rat) ^ k = 0 := by
  obtain ⟨j, rfl⟩ : ∃ j, k = j + 1 := ⟨k - 1, by omega⟩
  rw [Rat.pow_succ]; grind
theorem pow_odd' {l h : Rat} {k : Nat} (hk : k % 2 = 1) (hl : l ≤ h) : powL l h k = l ^ k ∧ powH l h k = h ^ k := by
  have z := odd_le hk hl
  unfold powL powH
  rw [if_neg (by omega), if_neg (fun z => by omega), if_neg (by omega)]
  unfold mn mx
  grind
theorem pow_even' {l h : Rat} {k : Nat} (hk : k % 2 = 0) (h0 : k ≠ 0) : powL l h k = sizeL l h ^ k ∧ powH l h k = sizeH l h ^ k := by
  unfold powL powH sizeL sizeH
  rw [if_neg h0, if_neg h0, mx_pow (ab_nn l) (ab_nn h), even_ab hk, even_ab hk]
  refine ⟨?_, rfl⟩
  by_cases c : nought l h = true
  · rw [if_pos ⟨hk, c⟩, if_pos c, rzero_pow h0]
  · rw [if_neg (fun z => c z.2), if_neg c, mn_pow (ab_nn l) (ab_nn h), even_ab hk, even_ab hk]
/-! containment -/
theorem mul_btw {l h a c : Rat} (h1 : l ≤ a) (h2 : a ≤ h) : (l * c ≤ a * c ∧ a * c ≤ h * c) ∨ (h * c ≤ a * c ∧ a * c ≤ l * c) := by
  by_cases hc : 0 ≤ c
  · exact .inl ⟨Rat.mul_le_mul_of_nonneg_right h1 hc, Rat.mul_le_mul_of_nonneg_right h2 hc⟩
  · have z1 := Rat.mul_le_mul_of_nonneg_right h1 (c := -c) (by grind)
    have z2 := Rat.mul_le_mul_of_nonneg_right h2 (c := -c) (by grind)
    exact .inr ⟨by grind, by grind⟩
theorem times_in {l h l' h' a b : Rat} (h1 : l ≤ a) (h2 : a ≤ h) (h3 : l' ≤ b) (h4 : b ≤ h') : timesL l h l' h' ≤ a * b ∧ a * b ≤ timesH l h l' h' := by
  have x := mul_btw (c := b) h1 h2
  have y := mul_btw (c := l) h3 h4
  have z := mul_btw (c := h) h3 h4
  have p := lo4_le (l * l') (l * h') (h * l') (h * h')
  have q := le_hi4 (l * l') (l * h') (h * l') (h * h')
  unfold timesL timesH
  rw [Rat.mul_comm b l, Rat.mul_comm l' l, Rat.mul_comm h' l] at y
  rw [Rat.mul_comm b h, Rat.mul_comm l' h, Rat.mul_comm h' h] at z
  generalize lo4 (l * l') (l * h') (h * l') (h * h') = L at *
  generalize hi4 (l * l') (l * h') (h * l') (h * h') = U at *
  generalize l * l' = A at *
  generalize l * h' = B at *
  generalize h * l' = C at *
  generalize h * h' = E at *
  generalize a * b = F at *
  generalize l * b = G at *
  generalize h * b = J at *
  grind
/-! the upper root, two ways -/
def IsUp (k : Nat) (w r : Int) : Prop := 0 ≤ r ∧ w ≤ r ^ k ∧ ∀ s, 0 ≤ s → w ≤ s ^ k → r ≤ s
theorem isUp_uniq {k : Nat} {w r s : Int} (h : IsUp k w r) (g : IsUp k w s) : r = s := Int.le_antisymm (h.2.2 s g.1 g.2.1) (g.2.2 r h.1 h.2.1)
theorem up_of_rt {k : Nat} (hk : 1 ≤ k) {w : Int} (hw : 0 ≤ w) : IsUp k w (rt k w + (if (rt k w) ^ k < w then 1 else 0)) := by
  obtain ⟨h1, h2, h3⟩ := rt_is hk hw
  generalize rt k w = r at *
  split
  · rename_i c
    refine ⟨by omega, by omega, fun s s0 hs => ?_⟩
    rcases Int.lt_or_le r s with z | z
    · omega
    · have := ipow_le s0 z k
      omega
  · rename_i c
    rw [Int.add_zero]
    refine ⟨h1, by omega, fun s s0 hs => ?_⟩
    rcases Int.lt_or_le s r with z | z
    · have := ipow_lt s0 z k hk
      omega
    · exact z
theorem up_of_floor {k : Nat} (hk : 1 ≤ k) {N D f w r : Int} (hD : 0 < D) (f1 : D * f ≤ N) (f2 : N < D * f + D) (w1 : N ≤ D * w) (w2 : D * w < N + D) (hr : IsRt k f r) : IsUp k w (if r ^ k * D < N then r + 1 else r) := by
  obtain ⟨h1, h2, h3⟩ := hr
  have mono : ∀ a b : Int, D * a < D * b → a < b := fun a b h => Int.lt_of_mul_lt_mul_left h (by omega)
  have wf : w ≤ f + 1 := by
    have := mono w (f + 2) (by rw [Int.mul_add]; omega)
    omega
  have fw : f ≤ w := by
    have := mono f (w + 1) (by rw [Int.mul_add]; omega)
    omega
  rw [Int.mul_comm _ D]
  split
  · rename_i c
    refine ⟨by omega, by omega, fun s s0 hs => ?_⟩
    rcases Int.lt_or_le r s with z | z
    · omega
    · have p := ipow_le s0 z k
      have q : D * w ≤ D * r ^ k := Int.mul_le_mul_of_nonneg_left (by omega) (by omega)
      omega
  · rename_i c
    refine ⟨h1, ?_, fun s s0 hs => ?_⟩
    · have := mono w (r ^ k + 1) (by rw [Int.mul_add]; omega)
      omega
    · rcases Int.lt_or_le s r with z | z
      · have := ipow_lt s0 z k hk
        omega
      · exact z
theorem floor_facts (N : Int) {D : Int} (hD : 0 < D) : D * N.fdiv D ≤ N ∧ N < D * N.fdiv D + D := by
  rw [Int.fdiv_eq_ediv_of_nonneg _ (by omega)]
  have h1 := Int.mul_ediv_add_emod N D
  have h2 := Int.emod_nonneg N (b := D) (by omega)
  have h3 := Int.emod_lt_of_pos N hD
  omega
theorem ceil_facts (N : Int) {D : Int} (hD : 0 < D) : N ≤ D * (0 - (0 - N).fdiv D) ∧ D * (0 - (0 - N).fdiv D) < N + D := by
  have h := floor_facts (0 - N) hD
  rw [Int.mul_sub]
  omega
theorem root_up {k : Nat} (hk : 1 ≤ k) {N D : Int} (hN : 0 ≤ N) (hD : 0 < D) :
    (if (rt k (N.fdiv D)) ^ k * D < N then rt k (N.fdiv D) + 1 else rt k (N.fdiv D)) = rt k (0 - (0 - N).fdiv D) + (if (rt k (0 - (0 - N).fdiv D)) ^ k < 0 - (0 - N).fdiv D then 1 else 0) := by
  have f := floor_facts N hD
  have w := ceil_facts N hD
  have f0 : 0 ≤ N.fdiv D := by
    rw [Int.fdiv_eq_ediv_of_nonneg _ (by omega)]
    exact Int.ediv_nonneg hN (by omega)
  have w0 : 0 ≤ 0 - (0 - N).fdiv D := by
    rcases Int.lt_or_le (0 - (0 - N).fdiv D) 0 with z | z
    · have := Int.mul_neg_of_pos_of_neg hD z
      omega
    · exact z
  exact isUp_uniq (up_of_floor hk hD f.1 f.2 w.1 w.2 (rt_is hk f0)) (up_of_rt hk w0)
theorem upI_is {q : Rat} {k d : Nat} (hk : 1 ≤ k) (h0 : 0 ≤ q) : IsUp k (0 - (0 - q.num * (2 ^ d) ^ k).fdiv q.den) (upI q k d) := by
  have hN : 0 ≤ q.num * (2 ^ d) ^ k := Int.mul_nonneg (Rat.num_nonneg.mpr h0) (Int.le_of_lt (two_pow_pos d k))
  have hD := dP q
  have f := floor_facts (q.num * (2 ^ d) ^ k) hD
  have w := ceil_facts (q.num * (2 ^ d) ^ k) hD
  have f0 : 0 ≤ (q.num * (2 ^ d) ^ k).fdiv q.den := by
    rw [Int.fdiv_eq_ediv_of_nonneg _ (by omega)]
    exact Int.ediv_nonneg hN (by omega)
  exact up_of_floor hk hD f.1 f.2 w.1 w.2 (rt_is hk f0)
end K07

set_option Elab.async false
set_option linter.all false
set_option maxRecDepth 100000
set_option maxHeartbeats 1000000
namespace K07
open PySem PySem.Spec PyProof.Rows L2 DL
theorem mk_int (b : Int) : D.tup [.int b, .int 1] = fr (b : Rat) := by
  unfold fr
  rw [Rat.num_intCast, Rat.den_intCast]
  rfl
theorem ltimes_raw {a : Rat} {c d : Int} {M : Mm} {P : QD} {Y : XD} (ha : SZ a) (hd : d ≠ 0) (hc : c.natAbs < 2 ^ 2000) (hd2 : d.natAbs < 2 ^ 2000) : sp__law_times [fr a, .tup [.int c, .int d]] M P Y ↔ P (fr (a * Rat.divInt c d)) M := by
  show (_ ∧ _ ∧ _ ∧ _ ∧ _ ∧ _ ∧ P (fr (Rat.divInt a.num a.den * Rat.divInt c d)) M) ↔ _
  rw [Rat.num_divInt_den]
  exact ⟨fun z => z.2.2.2.2.2.2, fun z => ⟨d0 a, hd, ha.1, by rw [dI]; exact ha.2, hc, hd2, z⟩⟩
theorem len__law_box_times : ∀ xs M P Y, sp__law_box_times xs M P Y → xs.length = 2 := by
  intro xs M P Y h
  unfold sp__law_box_times sp_raw_times at h
  split at h
  · rfl
  · exact h.elim
theorem rd__law_box_times : ∀ xs M P Y, sp__law_box_times xs M P Y → t__law_box_times { nx := fun _ M' => P .non M', rt := P, ex := fun c _ M' => Y c M' } (DL.start 3 xs) M := by
  intro xs M P Y h
  unfold sp__law_box_times sp_raw_times at h
  split at h
  rotate_left
  · exact h.elim
  rename_i x y
  unfold t__law_box_times
  obtain ⟨l, h, l', h', rfl, rfl, h1, h2, h3, h4, q⟩ := h
  simp only [dSeq, dLt, dLe, dGt, dGe, dNext, dRet, dRetN, dDrop, dIfS, dAsg, dPar, dPar3, hName, dIf, dTest, dNot, dAnd, dOr, dAndV, dOrV, dNotV, dUn, dNeg, dOp, dFn, dCall, dCons, dNil, dC, dvar_eq, dTup, dLstS, dLstC, dChain, dRaise, dSettle, dApp, htup2, htup2b, ex_tup, ex_tupb, ex_lst, dAdd, dSub, dMul, dFdiv, dMod, dPow, dShl, dCmpI, dIsN, dNotN, dIsB, dNotB, isNon, dix_fr0, dix_fr1, dix_bx0, dix_bx1, dix_t0, dix_t1, dix_l0, mk_bx, mk_neg, mk_ab, ex_f1, ex_f2, ex_b1, ex_b2, two_fr, dAbs, dAug, dIpAdd, dFor, forD, dRng1, dItT, dItL, dSl, dSlL, dNoPart, dPart, dInt1, DL.start, List.map_cons, List.map_nil, List.cons_append, List.nil_append, List.length_cons, List.length_nil, List.replicate, List.replicate_zero, Nat.sub_self, Nat.reduceSub, Nat.reduceAdd, Nat.zero_add, List.set_cons_zero, List.set_cons_succ, List.getElem?_cons_zero, List.getElem?_cons_succ, List.append_nil, true_and, szl0, szl1, szl2, szl3, szl4, szl5, szl6, szl7, szl8, ltl0, ltl1, ltl2, ltl3, ltl4, ltl5, ex_some, ex_bl, ex_two, ex_three, ex_int, ex_intp, ex_ints, ex_int2,  Bool.false_eq_true, if_true, if_false, Bool.not_true, Bool.not_false, reduceIte, ltimes (s9 h1) (s9 h3), ltimes (s9 h1) (s9 h4), ltimes (s9 h2) (s9 h3), ltimes (s9 h2) (s9 h4), sp__law_least, sp__law_most, sp_row]
  have all : ∀ a ∈ [l * h', h * l', h * h'], SZ a := by
    simp only [List.mem_cons, List.not_mem_nil, or_false]
    rintro a (rfl | rfl | rfl)
    exact bt900 h1 h4
    exact bt900 h2 h3
    exact bt900 h2 h4
  refine ⟨l * l', [l * h', h * l', h * h'], rfl, bt900 h1 h3, all, ?_⟩
  refine ⟨l * l', [l * h', h * l', h * h'], rfl, bt900 h1 h3, all, ?_⟩
  exact q
theorem len__law_box_over : ∀ xs M P Y, sp__law_box_over xs M P Y → xs.length = 2 := by
  intro xs M P Y h
  unfold sp__law_box_over sp_raw_over at h
  split at h
  · rfl
  · exact h.elim
theorem rd__law_box_over : ∀ xs M P Y, sp__law_box_over xs M P Y → t__law_box_over { nx := fun _ M' => P .non M', rt := P, ex := fun c _ M' => Y c M' } (DL.start 2 xs) M := by
  intro xs M P Y h
  unfold sp__law_box_over sp_raw_over at h
  split at h
  rotate_left
  · exact h.elim
  rename_i x y
  unfold t__law_box_over
  obtain ⟨l, h, l', h', rfl, rfl, h1, h2, h3, h4, hle, q⟩ := h
  simp only [dSeq, dLt, dLe, dGt, dGe, dNext, dRet, dRetN, dDrop, dIfS, dAsg, dPar, dPar3, hName, dIf, dTest, dNot, dAnd, dOr, dAndV, dOrV, dNotV, dUn, dNeg, dOp, dFn, dCall, dCons, dNil, dC, dvar_eq, dTup, dLstS, dLstC, dChain, dRaise, dSettle, dApp, htup2, htup2b, ex_tup, ex_tupb, ex_lst, dAdd, dSub, dMul, dFdiv, dMod, dPow, dShl, dCmpI, dIsN, dNotN, dIsB, dNotB, isNon, dix_fr0, dix_fr1, dix_bx0, dix_bx1, dix_t0, dix_t1, dix_l0, mk_bx, mk_neg, mk_ab, ex_f1, ex_f2, ex_b1, ex_b2, two_fr, dAbs, dAug, dIpAdd, dFor, forD, dRng1, dItT, dItL, dSl, dSlL, dNoPart, dPart, dInt1, DL.start, List.map_cons, List.map_nil, List.cons_append, List.nil_append, List.length_cons, List.length_nil, List.replicate, List.replicate_zero, Nat.sub_self, Nat.reduceSub, Nat.reduceAdd, Nat.zero_add, List.set_cons_zero, List.set_cons_succ, List.getElem?_cons_zero, List.getElem?_cons_succ, List.append_nil, true_and, szl0, szl1, szl2, szl3, szl4, szl5, szl6, szl7, szl8, ltl0, ltl1, ltl2, ltl3, ltl4, ltl5, ex_some, ex_bl, ex_two, ex_three, ex_int, ex_intp, ex_ints, ex_int2,  Bool.false_eq_true, if_true, if_false, Bool.not_true, Bool.not_false, reduceIte, mk_fr0, mk_fr1, under (bt0 (by decide)) (s9 h3), under (s9 h4) (bt0 (by decide))]
  unfold overD nought at q
  have one : bt 1 900 := ⟨by show 1 < 2 ^ 900; exact Nat.one_lt_two_pow (by decide), Nat.one_lt_two_pow (by decide)⟩
  by_cases c1 : 0 < l'
  · have z1 : ¬ l' ≤ 0 := Rat.not_le.mpr c1
    have n1 : l' ≠ 0 := fun z => by rw [z] at c1; exact Rat.lt_irrefl c1
    have n2 : h' ≠ 0 := fun z => by rw [z] at hle; exact Rat.not_le.mpr c1 hle
    simp only [c1, z1, decide_true, decide_false, Bool.false_and, Bool.not_true, Bool.false_eq_true, if_false] at q ⊢
    simp only [dSeq, dLt, dLe, dGt, dGe, dNext, dRet, dRetN, dDrop, dIfS, dAsg, dPar, dPar3, hName, dIf, dTest, dNot, dAnd, dOr, dAndV, dOrV, dNotV, dUn, dNeg, dOp, dFn, dCall, dCons, dNil, dC, dvar_eq, dTup, dLstS, dLstC, dChain, dRaise, dSettle, dApp, htup2, htup2b, ex_tup, ex_tupb, ex_lst, dAdd, dSub, dMul, dFdiv, dMod, dPow, dShl, dCmpI, dIsN, dNotN, dIsB, dNotB, isNon, dix_fr0, dix_fr1, dix_bx0, dix_bx1, dix_t0, dix_t1, dix_l0, mk_bx, mk_neg, mk_ab, ex_f1, ex_f2, ex_b1, ex_b2, two_fr, dAbs, dAug, dIpAdd, dFor, forD, dRng1, dItT, dItL, dSl, dSlL, dNoPart, dPart, dInt1, DL.start, List.map_cons, List.map_nil, List.cons_append, List.nil_append, List.length_cons, List.length_nil, List.replicate, List.replicate_zero, Nat.sub_self, Nat.reduceSub, Nat.reduceAdd, Nat.zero_add, List.set_cons_zero, List.set_cons_succ, List.getElem?_cons_zero, List.getElem?_cons_succ, List.append_nil, true_and, szl0, szl1, szl2, szl3, szl4, szl5, szl6, szl7, szl8, ltl0, ltl1, ltl2, ltl3, ltl4, ltl5, ex_some, ex_bl, ex_two, ex_three, ex_int, ex_intp, ex_ints, ex_int2,  Bool.false_eq_true, if_true, if_false, Bool.not_true, Bool.not_false, reduceIte, sp__law_by, sp_over, ex_f2, sp__law_box_times, sp_raw_times, ex_b2]
    refine ⟨s9 one, s9 h4, n2, s9 one, s9 h3, n1, h1, h2, ?_, ?_, ?_⟩
    · rw [show 1 / h' = h'⁻¹ by grind]; exact h4.inv n2
    · rw [show 1 / l' = l'⁻¹ by grind]; exact h3.inv n1
    · unfold timesL timesH
      rw [show l * (1 / h') = l / h' by grind, show l * (1 / l') = l / l' by grind, show h * (1 / h') = h / h' by grind, show h * (1 / l') = h / l' by grind, lo4_swap, hi4_swap]
      exact q
  · have z1 : l' ≤ 0 := Rat.not_lt.mp c1
    by_cases c2 : h' < 0
    · have z2 : ¬ 0 ≤ h' := Rat.not_le.mpr c2
      have n2 : h' ≠ 0 := fun z => by rw [z] at c2; exact Rat.lt_irrefl c2
      have n1 : l' ≠ 0 := fun z => by rw [z] at hle; exact Rat.not_le.mpr c2 hle
      simp only [c1, c2, z1, z2, decide_true, decide_false, Bool.and_false, Bool.not_true, Bool.not_false, Bool.false_eq_true, if_false, if_true] at q ⊢
      simp only [dSeq, dLt, dLe, dGt, dGe, dNext, dRet, dRetN, dDrop, dIfS, dAsg, dPar, dPar3, hName, dIf, dTest, dNot, dAnd, dOr, dAndV, dOrV, dNotV, dUn, dNeg, dOp, dFn, dCall, dCons, dNil, dC, dvar_eq, dTup, dLstS, dLstC, dChain, dRaise, dSettle, dApp, htup2, htup2b, ex_tup, ex_tupb, ex_lst, dAdd, dSub, dMul, dFdiv, dMod, dPow, dShl, dCmpI, dIsN, dNotN, dIsB, dNotB, isNon, dix_fr0, dix_fr1, dix_bx0, dix_bx1, dix_t0, dix_t1, dix_l0, mk_bx, mk_neg, mk_ab, ex_f1, ex_f2, ex_b1, ex_b2, two_fr, dAbs, dAug, dIpAdd, dFor, forD, dRng1, dItT, dItL, dSl, dSlL, dNoPart, dPart, dInt1, DL.start, List.map_cons, List.map_nil, List.cons_append, List.nil_append, List.length_cons, List.length_nil, List.replicate, List.replicate_zero, Nat.sub_self, Nat.reduceSub, Nat.reduceAdd, Nat.zero_add, List.set_cons_zero, List.set_cons_succ, List.getElem?_cons_zero, List.getElem?_cons_succ, List.append_nil, true_and, szl0, szl1, szl2, szl3, szl4, szl5, szl6, szl7, szl8, ltl0, ltl1, ltl2, ltl3, ltl4, ltl5, ex_some, ex_bl, ex_two, ex_three, ex_int, ex_intp, ex_ints, ex_int2,  Bool.false_eq_true, if_true, if_false, Bool.not_true, Bool.not_false, reduceIte, sp__law_by, sp_over, ex_f2, sp__law_box_times, sp_raw_times, ex_b2]
      refine ⟨s9 one, s9 h4, n2, s9 one, s9 h3, n1, h1, h2, ?_, ?_, ?_⟩
      · rw [show 1 / h' = h'⁻¹ by grind]; exact h4.inv n2
      · rw [show 1 / l' = l'⁻¹ by grind]; exact h3.inv n1
      · unfold timesL timesH
        rw [show l * (1 / h') = l / h' by grind, show l * (1 / l') = l / l' by grind, show h * (1 / h') = h / h' by grind, show h * (1 / l') = h / l' by grind, lo4_swap, hi4_swap]
        exact q
    · have z2 : 0 ≤ h' := Rat.not_lt.mp c2
      simp only [c1, c2, z1, z2, decide_true, decide_false, Bool.and_true, Bool.not_false, if_true] at q ⊢
      exact q
theorem len__law_box_plus : ∀ xs M P Y, sp__law_box_plus xs M P Y → xs.length = 2 := by
  intro xs M P Y h
  unfold sp__law_box_plus sp_raw_add sp_bb at h
  split at h
  · rfl
  · exact h.elim
theorem rd__law_box_plus : ∀ xs M P Y, sp__law_box_plus xs M P Y → t__law_box_plus { nx := fun _ M' => P .non M', rt := P, ex := fun c _ M' => Y c M' } (DL.start 2 xs) M := by
  intro xs M P Y h
  unfold sp__law_box_plus sp_raw_add sp_bb at h
  split at h
  rotate_left
  · exact h.elim
  rename_i x y
  unfold t__law_box_plus
  obtain ⟨l, h, l', h', rfl, rfl, h1, h2, h3, h4, q⟩ := h
  simp only [dSeq, dLt, dLe, dGt, dGe, dNext, dRet, dRetN, dDrop, dIfS, dAsg, dPar, dPar3, hName, dIf, dTest, dNot, dAnd, dOr, dAndV, dOrV, dNotV, dUn, dNeg, dOp, dFn, dCall, dCons, dNil, dC, dvar_eq, dTup, dLstS, dLstC, dChain, dRaise, dSettle, dApp, htup2, htup2b, ex_tup, ex_tupb, ex_lst, dAdd, dSub, dMul, dFdiv, dMod, dPow, dShl, dCmpI, dIsN, dNotN, dIsB, dNotB, isNon, dix_fr0, dix_fr1, dix_bx0, dix_bx1, dix_t0, dix_t1, dix_l0, mk_bx, mk_neg, mk_ab, ex_f1, ex_f2, ex_b1, ex_b2, two_fr, dAbs, dAug, dIpAdd, dFor, forD, dRng1, dItT, dItL, dSl, dSlL, dNoPart, dPart, dInt1, DL.start, List.map_cons, List.map_nil, List.cons_append, List.nil_append, List.length_cons, List.length_nil, List.replicate, List.replicate_zero, Nat.sub_self, Nat.reduceSub, Nat.reduceAdd, Nat.zero_add, List.set_cons_zero, List.set_cons_succ, List.getElem?_cons_zero, List.getElem?_cons_succ, List.append_nil, true_and, szl0, szl1, szl2, szl3, szl4, szl5, szl6, szl7, szl8, ltl0, ltl1, ltl2, ltl3, ltl4, ltl5, ex_some, ex_bl, ex_two, ex_three, ex_int, ex_intp, ex_ints, ex_int2,  Bool.false_eq_true, if_true, if_false, Bool.not_true, Bool.not_false, reduceIte, sp__law_plus]
  exact ⟨h1, h3, h2, h4, q⟩
theorem len__law_box_turn : ∀ xs M P Y, sp__law_box_turn xs M P Y → xs.length = 1 := by
  intro xs M P Y h
  unfold sp__law_box_turn sp_raw_turn sp_b at h
  split at h
  · rfl
  · exact h.elim
theorem rd__law_box_turn : ∀ xs M P Y, sp__law_box_turn xs M P Y → t__law_box_turn { nx := fun _ M' => P .non M', rt := P, ex := fun c _ M' => Y c M' } (DL.start 1 xs) M := by
  intro xs M P Y h
  unfold sp__law_box_turn sp_raw_turn sp_b at h
  split at h
  rotate_left
  · exact h.elim
  rename_i x
  unfold t__law_box_turn
  obtain ⟨l, h, rfl, h1, h2, q⟩ := h
  simp only [dSeq, dLt, dLe, dGt, dGe, dNext, dRet, dRetN, dDrop, dIfS, dAsg, dPar, dPar3, hName, dIf, dTest, dNot, dAnd, dOr, dAndV, dOrV, dNotV, dUn, dNeg, dOp, dFn, dCall, dCons, dNil, dC, dvar_eq, dTup, dLstS, dLstC, dChain, dRaise, dSettle, dApp, htup2, htup2b, ex_tup, ex_tupb, ex_lst, dAdd, dSub, dMul, dFdiv, dMod, dPow, dShl, dCmpI, dIsN, dNotN, dIsB, dNotB, isNon, dix_fr0, dix_fr1, dix_bx0, dix_bx1, dix_t0, dix_t1, dix_l0, mk_bx, mk_neg, mk_ab, ex_f1, ex_f2, ex_b1, ex_b2, two_fr, dAbs, dAug, dIpAdd, dFor, forD, dRng1, dItT, dItL, dSl, dSlL, dNoPart, dPart, dInt1, DL.start, List.map_cons, List.map_nil, List.cons_append, List.nil_append, List.length_cons, List.length_nil, List.replicate, List.replicate_zero, Nat.sub_self, Nat.reduceSub, Nat.reduceAdd, Nat.zero_add, List.set_cons_zero, List.set_cons_succ, List.getElem?_cons_zero, List.getElem?_cons_succ, List.append_nil, true_and, szl0, szl1, szl2, szl3, szl4, szl5, szl6, szl7, szl8, ltl0, ltl1, ltl2, ltl3, ltl4, ltl5, ex_some, ex_bl, ex_two, ex_three, ex_int, ex_intp, ex_ints, ex_int2,  Bool.false_eq_true, if_true, if_false, Bool.not_true, Bool.not_false, reduceIte]
  exact q
theorem len__law_box_size : ∀ xs M P Y, sp__law_box_size xs M P Y → xs.length = 1 := by
  intro xs M P Y h
  unfold sp__law_box_size at h
  split at h
  · rfl
  · exact h.elim
theorem rd__law_box_size : ∀ xs M P Y, sp__law_box_size xs M P Y → t__law_box_size { nx := fun _ M' => P .non M', rt := P, ex := fun c _ M' => Y c M' } (DL.start 1 xs) M := by
  intro xs M P Y h
  unfold sp__law_box_size at h
  split at h
  rotate_left
  · exact h.elim
  rename_i x
  unfold t__law_box_size
  obtain ⟨l, h, rfl, h1, h2, hl, q⟩ := h
  simp only [dSeq, dLt, dLe, dGt, dGe, dNext, dRet, dRetN, dDrop, dIfS, dAsg, dPar, dPar3, hName, dIf, dTest, dNot, dAnd, dOr, dAndV, dOrV, dNotV, dUn, dNeg, dOp, dFn, dCall, dCons, dNil, dC, dvar_eq, dTup, dLstS, dLstC, dChain, dRaise, dSettle, dApp, htup2, htup2b, ex_tup, ex_tupb, ex_lst, dAdd, dSub, dMul, dFdiv, dMod, dPow, dShl, dCmpI, dIsN, dNotN, dIsB, dNotB, isNon, dix_fr0, dix_fr1, dix_bx0, dix_bx1, dix_t0, dix_t1, dix_l0, mk_bx, mk_neg, mk_ab, ex_f1, ex_f2, ex_b1, ex_b2, two_fr, dAbs, dAug, dIpAdd, dFor, forD, dRng1, dItT, dItL, dSl, dSlL, dNoPart, dPart, dInt1, DL.start, List.map_cons, List.map_nil, List.cons_append, List.nil_append, List.length_cons, List.length_nil, List.replicate, List.replicate_zero, Nat.sub_self, Nat.reduceSub, Nat.reduceAdd, Nat.zero_add, List.set_cons_zero, List.set_cons_succ, List.getElem?_cons_zero, List.getElem?_cons_succ, List.append_nil, true_and, szl0, szl1, szl2, szl3, szl4, szl5, szl6, szl7, szl8, ltl0, ltl1, ltl2, ltl3, ltl4, ltl5, ex_some, ex_bl, ex_two, ex_three, ex_int, ex_intp, ex_ints, ex_int2,  Bool.false_eq_true, if_true, if_false, Bool.not_true, Bool.not_false, reduceIte, mk_fr0, under h1 (bt0 (by decide)), under (bt0 (by decide)) h2]
  by_cases c1 : l < 0
  · simp only [c1, decide_true, Bool.not_true, Bool.false_eq_true, if_false]
    by_cases c2 : 0 < h
    · simp only [c2, decide_true, Bool.not_true, Bool.false_eq_true, if_false]
      obtain ⟨e1, e2⟩ := size_mid c1 c2
      rw [e1, e2] at q
      simp only [dSeq, dLt, dLe, dGt, dGe, dNext, dRet, dRetN, dDrop, dIfS, dAsg, dPar, dPar3, hName, dIf, dTest, dNot, dAnd, dOr, dAndV, dOrV, dNotV, dUn, dNeg, dOp, dFn, dCall, dCons, dNil, dC, dvar_eq, dTup, dLstS, dLstC, dChain, dRaise, dSettle, dApp, htup2, htup2b, ex_tup, ex_tupb, ex_lst, dAdd, dSub, dMul, dFdiv, dMod, dPow, dShl, dCmpI, dIsN, dNotN, dIsB, dNotB, isNon, dix_fr0, dix_fr1, dix_bx0, dix_bx1, dix_t0, dix_t1, dix_l0, mk_bx, mk_neg, mk_ab, ex_f1, ex_f2, ex_b1, ex_b2, two_fr, dAbs, dAug, dIpAdd, dFor, forD, dRng1, dItT, dItL, dSl, dSlL, dNoPart, dPart, dInt1, DL.start, List.map_cons, List.map_nil, List.cons_append, List.nil_append, List.length_cons, List.length_nil, List.replicate, List.replicate_zero, Nat.sub_self, Nat.reduceSub, Nat.reduceAdd, Nat.zero_add, List.set_cons_zero, List.set_cons_succ, List.getElem?_cons_zero, List.getElem?_cons_succ, List.append_nil, true_and, szl0, szl1, szl2, szl3, szl4, szl5, szl6, szl7, szl8, ltl0, ltl1, ltl2, ltl3, ltl4, ltl5, ex_some, ex_bl, ex_two, ex_three, ex_int, ex_intp, ex_ints, ex_int2,  Bool.false_eq_true, if_true, if_false, Bool.not_true, Bool.not_false, reduceIte, mk_fr0, sp__law_most, sp_row]
      refine ⟨-l, [h], rfl, h1.neg, by simpa using h2, ?_⟩
      simp only [dSeq, dLt, dLe, dGt, dGe, dNext, dRet, dRetN, dDrop, dIfS, dAsg, dPar, dPar3, hName, dIf, dTest, dNot, dAnd, dOr, dAndV, dOrV, dNotV, dUn, dNeg, dOp, dFn, dCall, dCons, dNil, dC, dvar_eq, dTup, dLstS, dLstC, dChain, dRaise, dSettle, dApp, htup2, htup2b, ex_tup, ex_tupb, ex_lst, dAdd, dSub, dMul, dFdiv, dMod, dPow, dShl, dCmpI, dIsN, dNotN, dIsB, dNotB, isNon, dix_fr0, dix_fr1, dix_bx0, dix_bx1, dix_t0, dix_t1, dix_l0, mk_bx, mk_neg, mk_ab, ex_f1, ex_f2, ex_b1, ex_b2, two_fr, dAbs, dAug, dIpAdd, dFor, forD, dRng1, dItT, dItL, dSl, dSlL, dNoPart, dPart, dInt1, DL.start, List.map_cons, List.map_nil, List.cons_append, List.nil_append, List.length_cons, List.length_nil, List.replicate, List.replicate_zero, Nat.sub_self, Nat.reduceSub, Nat.reduceAdd, Nat.zero_add, List.set_cons_zero, List.set_cons_succ, List.getElem?_cons_zero, List.getElem?_cons_succ, List.append_nil, true_and, szl0, szl1, szl2, szl3, szl4, szl5, szl6, szl7, szl8, ltl0, ltl1, ltl2, ltl3, ltl4, ltl5, ex_some, ex_bl, ex_two, ex_three, ex_int, ex_intp, ex_ints, ex_int2,  Bool.false_eq_true, if_true, if_false, Bool.not_true, Bool.not_false, reduceIte, List.foldl_cons, List.foldl_nil]
      exact q
    · simp only [c2, decide_false, Bool.not_false, if_true]
      obtain ⟨e1, e2⟩ := size_neg (Rat.not_lt.mp c2) hl
      rw [e1, e2] at q
      simp only [dSeq, dLt, dLe, dGt, dGe, dNext, dRet, dRetN, dDrop, dIfS, dAsg, dPar, dPar3, hName, dIf, dTest, dNot, dAnd, dOr, dAndV, dOrV, dNotV, dUn, dNeg, dOp, dFn, dCall, dCons, dNil, dC, dvar_eq, dTup, dLstS, dLstC, dChain, dRaise, dSettle, dApp, htup2, htup2b, ex_tup, ex_tupb, ex_lst, dAdd, dSub, dMul, dFdiv, dMod, dPow, dShl, dCmpI, dIsN, dNotN, dIsB, dNotB, isNon, dix_fr0, dix_fr1, dix_bx0, dix_bx1, dix_t0, dix_t1, dix_l0, mk_bx, mk_neg, mk_ab, ex_f1, ex_f2, ex_b1, ex_b2, two_fr, dAbs, dAug, dIpAdd, dFor, forD, dRng1, dItT, dItL, dSl, dSlL, dNoPart, dPart, dInt1, DL.start, List.map_cons, List.map_nil, List.cons_append, List.nil_append, List.length_cons, List.length_nil, List.replicate, List.replicate_zero, Nat.sub_self, Nat.reduceSub, Nat.reduceAdd, Nat.zero_add, List.set_cons_zero, List.set_cons_succ, List.getElem?_cons_zero, List.getElem?_cons_succ, List.append_nil, true_and, szl0, szl1, szl2, szl3, szl4, szl5, szl6, szl7, szl8, ltl0, ltl1, ltl2, ltl3, ltl4, ltl5, ex_some, ex_bl, ex_two, ex_three, ex_int, ex_intp, ex_ints, ex_int2,  Bool.false_eq_true, if_true, if_false, Bool.not_true, Bool.not_false, reduceIte, sp__law_box_turn, sp_raw_turn, sp_b, ex_b1]
      exact ⟨h1, h2, q⟩
  · simp only [c1, decide_false, Bool.not_false, if_true]
    obtain ⟨e1, e2⟩ := size_pos (Rat.not_lt.mp c1) hl
    rw [e1, e2] at q
    exact q
theorem size_bt {l h : Rat} {n : Nat} (hn : 1 ≤ n) (h1 : bt l n) (h2 : bt h n) : bt (sizeL l h) n ∧ bt (sizeH l h) n := by
  unfold sizeL sizeH
  refine ⟨?_, h1.ab.mx h2.ab⟩
  split
  · exact bt0 hn
  · exact h1.ab.mn h2.ab
theorem len__law_box_power : ∀ xs M P Y, sp__law_box_power xs M P Y → xs.length = 2 := by
  intro xs M P Y h
  unfold sp__law_box_power at h
  split at h
  · rfl
  · exact h.elim
theorem rd__law_box_power : ∀ xs M P Y, sp__law_box_power xs M P Y → t__law_box_power { nx := fun _ M' => P .non M', rt := P, ex := fun c _ M' => Y c M' } (DL.start 3 xs) M := by
  intro xs M P Y h
  unfold sp__law_box_power at h
  split at h
  rotate_left
  · exact h.elim
  rename_i x k
  unfold t__law_box_power
  obtain ⟨l, h, rfl, hl, h1, h2, h3, h4, q⟩ := h
  obtain ⟨K, rfl⟩ := Int.eq_ofNat_of_zero_le h1
  rw [Int.toNat_natCast] at q
  simp only [dSeq, dLt, dLe, dGt, dGe, dNext, dRet, dRetN, dDrop, dIfS, dAsg, dPar, dPar3, hName, dIf, dTest, dNot, dAnd, dOr, dAndV, dOrV, dNotV, dUn, dNeg, dOp, dFn, dCall, dCons, dNil, dC, dvar_eq, dTup, dLstS, dLstC, dChain, dRaise, dSettle, dApp, htup2, htup2b, ex_tup, ex_tupb, ex_lst, dAdd, dSub, dMul, dFdiv, dMod, dPow, dShl, dCmpI, dIsN, dNotN, dIsB, dNotB, isNon, dix_fr0, dix_fr1, dix_bx0, dix_bx1, dix_t0, dix_t1, dix_l0, mk_bx, mk_neg, mk_ab, ex_f1, ex_f2, ex_b1, ex_b2, two_fr, dAbs, dAug, dIpAdd, dFor, forD, dRng1, dItT, dItL, dSl, dSlL, dNoPart, dPart, dInt1, DL.start, List.map_cons, List.map_nil, List.cons_append, List.nil_append, List.length_cons, List.length_nil, List.replicate, List.replicate_zero, Nat.sub_self, Nat.reduceSub, Nat.reduceAdd, Nat.zero_add, List.set_cons_zero, List.set_cons_succ, List.getElem?_cons_zero, List.getElem?_cons_succ, List.append_nil, true_and, szl0, szl1, szl2, szl3, szl4, szl5, szl6, szl7, szl8, ltl0, ltl1, ltl2, ltl3, ltl4, ltl5, ex_some, ex_bl, ex_two, ex_three, ex_int, ex_intp, ex_ints, ex_int2,  Bool.false_eq_true, if_true, if_false, Bool.not_true, Bool.not_false, reduceIte, dEq]
  by_cases c : K = 0
  · subst c
    unfold powL powH at q
    simp only [if_true] at q
    simpa [mk_fr1, mk_bx] using q
  · have c' : ¬ (K : Int) = 0 := by omega
    simp only [c', decide_false, Bool.false_eq_true, if_false]
    have e1 : ((K : Int).fmod 2) = ((K % 2 : Nat) : Int) := by rw [Int.fmod_eq_emod_of_nonneg _ (by decide)]; omega
    rw [e1]
    refine ⟨by decide, ?_⟩
    by_cases c2 : K % 2 = 0
    · have z1 : ((K % 2 : Nat) : Int) = 0 := by omega
      simp only [z1, decide_true, if_true]
      obtain ⟨e1, e2⟩ := pow_even' (l := l) (h := h) c2 c
      rw [e1, e2] at q
      obtain ⟨b1, b2⟩ := size_bt (by decide) h3 h4
      simp only [dSeq, dLt, dLe, dGt, dGe, dNext, dRet, dRetN, dDrop, dIfS, dAsg, dPar, dPar3, hName, dIf, dTest, dNot, dAnd, dOr, dAndV, dOrV, dNotV, dUn, dNeg, dOp, dFn, dCall, dCons, dNil, dC, dvar_eq, dTup, dLstS, dLstC, dChain, dRaise, dSettle, dApp, htup2, htup2b, ex_tup, ex_tupb, ex_lst, dAdd, dSub, dMul, dFdiv, dMod, dPow, dShl, dCmpI, dIsN, dNotN, dIsB, dNotB, isNon, dix_fr0, dix_fr1, dix_bx0, dix_bx1, dix_t0, dix_t1, dix_l0, mk_bx, mk_neg, mk_ab, ex_f1, ex_f2, ex_b1, ex_b2, two_fr, dAbs, dAug, dIpAdd, dFor, forD, dRng1, dItT, dItL, dSl, dSlL, dNoPart, dPart, dInt1, DL.start, List.map_cons, List.map_nil, List.cons_append, List.nil_append, List.length_cons, List.length_nil, List.replicate, List.replicate_zero, Nat.sub_self, Nat.reduceSub, Nat.reduceAdd, Nat.zero_add, List.set_cons_zero, List.set_cons_succ, List.getElem?_cons_zero, List.getElem?_cons_succ, List.append_nil, true_and, szl0, szl1, szl2, szl3, szl4, szl5, szl6, szl7, szl8, ltl0, ltl1, ltl2, ltl3, ltl4, ltl5, ex_some, ex_bl, ex_two, ex_three, ex_int, ex_intp, ex_ints, ex_int2,  Bool.false_eq_true, if_true, if_false, Bool.not_true, Bool.not_false, reduceIte, sp__law_box_size, ex_b1, lpow h1 h2 b1, lpow h1 h2 b2, Int.toNat_natCast]
      exact ⟨h3.mono (by decide), h4.mono (by decide), hl, q⟩
    · have z1 : ¬ ((K % 2 : Nat) : Int) = 0 := by omega
      simp only [z1, decide_false, Bool.false_eq_true, if_false]
      obtain ⟨e1, e2⟩ := pow_odd' (by omega : K % 2 = 1) hl
      rw [e1, e2] at q
      simp only [dSeq, dLt, dLe, dGt, dGe, dNext, dRet, dRetN, dDrop, dIfS, dAsg, dPar, dPar3, hName, dIf, dTest, dNot, dAnd, dOr, dAndV, dOrV, dNotV, dUn, dNeg, dOp, dFn, dCall, dCons, dNil, dC, dvar_eq, dTup, dLstS, dLstC, dChain, dRaise, dSettle, dApp, htup2, htup2b, ex_tup, ex_tupb, ex_lst, dAdd, dSub, dMul, dFdiv, dMod, dPow, dShl, dCmpI, dIsN, dNotN, dIsB, dNotB, isNon, dix_fr0, dix_fr1, dix_bx0, dix_bx1, dix_t0, dix_t1, dix_l0, mk_bx, mk_neg, mk_ab, ex_f1, ex_f2, ex_b1, ex_b2, two_fr, dAbs, dAug, dIpAdd, dFor, forD, dRng1, dItT, dItL, dSl, dSlL, dNoPart, dPart, dInt1, DL.start, List.map_cons, List.map_nil, List.cons_append, List.nil_append, List.length_cons, List.length_nil, List.replicate, List.replicate_zero, Nat.sub_self, Nat.reduceSub, Nat.reduceAdd, Nat.zero_add, List.set_cons_zero, List.set_cons_succ, List.getElem?_cons_zero, List.getElem?_cons_succ, List.append_nil, true_and, szl0, szl1, szl2, szl3, szl4, szl5, szl6, szl7, szl8, ltl0, ltl1, ltl2, ltl3, ltl4, ltl5, ex_some, ex_bl, ex_two, ex_three, ex_int, ex_intp, ex_ints, ex_int2,  Bool.false_eq_true, if_true, if_false, Bool.not_true, Bool.not_false, reduceIte, lpow h1 h2 h3, lpow h1 h2 h4, Int.toNat_natCast]
      exact q
theorem lpow_num {b : Int} {k : Nat} : ((b : Rat) ^ k).num = b ^ k := by rw [Rat.num_pow, Rat.num_intCast]
theorem lt_200 {b : Int} (h0 : 0 ≤ b) (h : b < 2 ^ 200) : bt (b : Rat) 200 := bt_int (pow_small h0 (by exact_mod_cast h)) (by decide)
theorem len__law_root_of : ∀ xs M P Y, sp__law_root_of xs M P Y → xs.length = 2 := by
  intro xs M P Y h
  unfold sp__law_root_of at h
  split at h
  · rfl
  · exact h.elim
theorem rd__law_root_of : ∀ xs M P Y, sp__law_root_of xs M P Y → t__law_root_of { nx := fun _ M' => P .non M', rt := P, ex := fun c _ M' => Y c M' } (DL.start 5 xs) M := by
  intro xs M P Y h
  unfold sp__law_root_of at h
  split at h
  rotate_left
  · exact h.elim
  rename_i n K
  unfold t__law_root_of
  obtain ⟨h1, h2, h3, h4, q⟩ := h
  obtain ⟨k, rfl⟩ := Int.eq_ofNat_of_zero_le (by omega : 0 ≤ K)
  have hk : 1 ≤ k := by omega
  have h0 : 0 ≤ (k : Int) := by omega
  rw [Int.toNat_natCast] at q
  have big : ∀ a : Int, 0 ≤ a → a ≤ 2 * n + 2 → bt (a : Rat) 200 := fun a z0 z1 => by
    refine lt_200 z0 ?_
    have e : (2:Int) ^ 200 = 4 * 2 ^ 198 := by decide
    rw [e]
    generalize (2:Int) ^ 198 = B at *
    omega
  simp only [dSeq, dLt, dLe, dGt, dGe, dNext, dRet, dRetN, dDrop, dIfS, dAsg, dPar, dPar3, hName, dIf, dTest, dNot, dAnd, dOr, dAndV, dOrV, dNotV, dUn, dNeg, dOp, dFn, dCall, dCons, dNil, dC, dvar_eq, dTup, dLstS, dLstC, dChain, dRaise, dSettle, dApp, htup2, htup2b, ex_tup, ex_tupb, ex_lst, dAdd, dSub, dMul, dFdiv, dMod, dPow, dShl, dCmpI, dIsN, dNotN, dIsB, dNotB, isNon, dix_fr0, dix_fr1, dix_bx0, dix_bx1, dix_t0, dix_t1, dix_l0, mk_bx, mk_neg, mk_ab, ex_f1, ex_f2, ex_b1, ex_b2, two_fr, dAbs, dAug, dIpAdd, dFor, forD, dRng1, dItT, dItL, dSl, dSlL, dNoPart, dPart, dInt1, DL.start, List.map_cons, List.map_nil, List.cons_append, List.nil_append, List.length_cons, List.length_nil, List.replicate, List.replicate_zero, Nat.sub_self, Nat.reduceSub, Nat.reduceAdd, Nat.zero_add, List.set_cons_zero, List.set_cons_succ, List.getElem?_cons_zero, List.getElem?_cons_succ, List.append_nil, true_and, szl0, szl1, szl2, szl3, szl4, szl5, szl6, szl7, szl8, ltl0, ltl1, ltl2, ltl3, ltl4, ltl5, ex_some, ex_bl, ex_two, ex_three, ex_int, ex_intp, ex_ints, ex_int2,  Bool.false_eq_true, if_true, if_false, Bool.not_true, Bool.not_false, reduceIte]
  refine ⟨fun (m : Nat) (τ : DSt) (M' : Mm) => ∃ (b : Int), τ = [some (.int n), some (.int (k : Int)), some (.int 0), some (.int b), none] ∧ M' = M ∧ 1 ≤ b ∧ b ≤ 2 * n + 1 ∧ m = (2 * n + 1 - b).toNat, ⟨_, 1, rfl, rfl, by decide, by omega, rfl⟩, ?_⟩
  rintro m τ M' ⟨b, rfl, rfl, hb1, hb2, rfl⟩
  simp only [dSeq, dLt, dLe, dGt, dGe, dNext, dRet, dRetN, dDrop, dIfS, dAsg, dPar, dPar3, hName, dIf, dTest, dNot, dAnd, dOr, dAndV, dOrV, dNotV, dUn, dNeg, dOp, dFn, dCall, dCons, dNil, dC, dvar_eq, dTup, dLstS, dLstC, dChain, dRaise, dSettle, dApp, htup2, htup2b, ex_tup, ex_tupb, ex_lst, dAdd, dSub, dMul, dFdiv, dMod, dPow, dShl, dCmpI, dIsN, dNotN, dIsB, dNotB, isNon, dix_fr0, dix_fr1, dix_bx0, dix_bx1, dix_t0, dix_t1, dix_l0, mk_bx, mk_neg, mk_ab, ex_f1, ex_f2, ex_b1, ex_b2, two_fr, dAbs, dAug, dIpAdd, dFor, forD, dRng1, dItT, dItL, dSl, dSlL, dNoPart, dPart, dInt1, DL.start, List.map_cons, List.map_nil, List.cons_append, List.nil_append, List.length_cons, List.length_nil, List.replicate, List.replicate_zero, Nat.sub_self, Nat.reduceSub, Nat.reduceAdd, Nat.zero_add, List.set_cons_zero, List.set_cons_succ, List.getElem?_cons_zero, List.getElem?_cons_succ, List.append_nil, true_and, szl0, szl1, szl2, szl3, szl4, szl5, szl6, szl7, szl8, ltl0, ltl1, ltl2, ltl3, ltl4, ltl5, ex_some, ex_bl, ex_two, ex_three, ex_int, ex_intp, ex_ints, ex_int2,  Bool.false_eq_true, if_true, if_false, Bool.not_true, Bool.not_false, reduceIte, mk_int, lpow h0 h4 (big b (by omega) (by omega)), Int.toNat_natCast, lpow_num]
  by_cases hp : b ^ k ≤ n
  · simp only [hp, decide_true, if_true]
    have hl := self_le_pow (a := b) (by omega) k hk
    refine ⟨cm64 (by decide) (by decide) (by omega) ?_, _, by omega, 2 * b, rfl, by omega, by omega, rfl⟩
    have e : (2:Int) ^ 300 = 2 ^ 102 * 2 ^ 198 := by decide
    have e2 : (2:Int) ^ 102 = 5070602400912917605986812821504 := by decide
    rw [e, e2]
    generalize (2:Int) ^ 198 = B at *
    omega
  · simp only [hp, decide_false, Bool.false_eq_true, if_false]
    refine ⟨fun (m : Nat) (τ : DSt) (M2 : Mm) => ∃ (a b : Int) (d : Option D), τ = [some (.int n), some (.int (k : Int)), some (.int a), some (.int b), d] ∧ M2 = M' ∧ 0 ≤ a ∧ a < b ∧ b ≤ 2 * n + 1 ∧ a ^ k ≤ n ∧ n < b ^ k ∧ m = (b - a).toNat,
      ⟨_, 0, b, none, rfl, rfl, by decide, by omega, by omega, by rw [Int.zero_pow (by omega)]; exact h1, by omega, rfl⟩, ?_⟩
    rintro m τ M2 ⟨a, b, d, rfl, rfl, ha, hab, hb, hak, hbk, rfl⟩
    simp only [dSeq, dLt, dLe, dGt, dGe, dNext, dRet, dRetN, dDrop, dIfS, dAsg, dPar, dPar3, hName, dIf, dTest, dNot, dAnd, dOr, dAndV, dOrV, dNotV, dUn, dNeg, dOp, dFn, dCall, dCons, dNil, dC, dvar_eq, dTup, dLstS, dLstC, dChain, dRaise, dSettle, dApp, htup2, htup2b, ex_tup, ex_tupb, ex_lst, dAdd, dSub, dMul, dFdiv, dMod, dPow, dShl, dCmpI, dIsN, dNotN, dIsB, dNotB, isNon, dix_fr0, dix_fr1, dix_bx0, dix_bx1, dix_t0, dix_t1, dix_l0, mk_bx, mk_neg, mk_ab, ex_f1, ex_f2, ex_b1, ex_b2, two_fr, dAbs, dAug, dIpAdd, dFor, forD, dRng1, dItT, dItL, dSl, dSlL, dNoPart, dPart, dInt1, DL.start, List.map_cons, List.map_nil, List.cons_append, List.nil_append, List.length_cons, List.length_nil, List.replicate, List.replicate_zero, Nat.sub_self, Nat.reduceSub, Nat.reduceAdd, Nat.zero_add, List.set_cons_zero, List.set_cons_succ, List.getElem?_cons_zero, List.getElem?_cons_succ, List.append_nil, true_and, szl0, szl1, szl2, szl3, szl4, szl5, szl6, szl7, szl8, ltl0, ltl1, ltl2, ltl3, ltl4, ltl5, ex_some, ex_bl, ex_two, ex_three, ex_int, ex_intp, ex_ints, ex_int2,  Bool.false_eq_true, if_true, if_false, Bool.not_true, Bool.not_false, reduceIte]
    by_cases hd : 1 < b - a
    · simp only [hd, decide_true, if_true]
      refine ⟨⟨by decide, by decide⟩, ?_⟩
      rw [halfs]
      simp only [dSeq, dLt, dLe, dGt, dGe, dNext, dRet, dRetN, dDrop, dIfS, dAsg, dPar, dPar3, hName, dIf, dTest, dNot, dAnd, dOr, dAndV, dOrV, dNotV, dUn, dNeg, dOp, dFn, dCall, dCons, dNil, dC, dvar_eq, dTup, dLstS, dLstC, dChain, dRaise, dSettle, dApp, htup2, htup2b, ex_tup, ex_tupb, ex_lst, dAdd, dSub, dMul, dFdiv, dMod, dPow, dShl, dCmpI, dIsN, dNotN, dIsB, dNotB, isNon, dix_fr0, dix_fr1, dix_bx0, dix_bx1, dix_t0, dix_t1, dix_l0, mk_bx, mk_neg, mk_ab, ex_f1, ex_f2, ex_b1, ex_b2, two_fr, dAbs, dAug, dIpAdd, dFor, forD, dRng1, dItT, dItL, dSl, dSlL, dNoPart, dPart, dInt1, DL.start, List.map_cons, List.map_nil, List.cons_append, List.nil_append, List.length_cons, List.length_nil, List.replicate, List.replicate_zero, Nat.sub_self, Nat.reduceSub, Nat.reduceAdd, Nat.zero_add, List.set_cons_zero, List.set_cons_succ, List.getElem?_cons_zero, List.getElem?_cons_succ, List.append_nil, true_and, szl0, szl1, szl2, szl3, szl4, szl5, szl6, szl7, szl8, ltl0, ltl1, ltl2, ltl3, ltl4, ltl5, ex_some, ex_bl, ex_two, ex_three, ex_int, ex_intp, ex_ints, ex_int2,  Bool.false_eq_true, if_true, if_false, Bool.not_true, Bool.not_false, reduceIte, mk_int, lpow (a := (((a + b) / 2 : Int) : Rat)) h0 h4 (big ((a + b) / 2) (by omega) (by omega)), Int.toNat_natCast, lpow_num]
      by_cases hm : ((a + b) / 2) ^ k ≤ n
      · simp only [hm, decide_true, if_true]
        exact ⟨_, by omega, (a + b) / 2, b, _, rfl, by omega, by omega, hb, hm, hbk, rfl⟩
      · simp only [hm, decide_false, Bool.false_eq_true, if_false]
        exact ⟨_, by omega, a, (a + b) / 2, _, rfl, ha, by omega, by omega, hak, by omega, rfl⟩
    · simp only [hd, decide_false, Bool.false_eq_true, if_false]
      have e : b = a + 1 := by omega
      subst e
      rw [rt_eq hk ⟨ha, hak, hbk⟩] at q
      exact q
end K07

set_option Elab.async false
set_option linter.all false
set_option maxRecDepth 100000
set_option maxHeartbeats 1000000
namespace K07
open PySem PySem.Spec PyProof.Rows L2 DL
theorem dmax {i j : Int} {M : Mm} {P : QD} : dMax2 [.int i, .int j] M P ↔ P (.int (max i j)) M := ex_int2
theorem bool_int {b : Bool} {M : Mm} {P : QD} : dInt1 [.bl b] M P ↔ P (.int (if b = true then 1 else 0)) M := Iff.rfl
theorem len__law_box_root : ∀ xs M P Y, sp__law_box_root xs M P Y → xs.length = 3 := by
  intro xs M P Y h
  unfold sp__law_box_root at h
  split at h
  · rfl
  · exact h.elim
theorem rd__law_box_root : ∀ xs M P Y, sp__law_box_root xs M P Y → t__law_box_root { nx := fun _ M' => P .non M', rt := P, ex := fun c _ M' => Y c M' } (DL.start 7 xs) M := by
  intro xs M P Y h
  unfold sp__law_box_root at h
  split at h
  rotate_left
  · exact h.elim
  rename_i x k d
  unfold t__law_box_root
  obtain ⟨l, h, rfl, hb, hb', h1, h2, h3, h4, q⟩ := h
  obtain ⟨K, rfl⟩ := Int.eq_ofNat_of_zero_le (by omega : 0 ≤ k)
  obtain ⟨E, rfl⟩ := Int.eq_ofNat_of_zero_le h3
  rw [Int.toNat_natCast, Int.toNat_natCast] at q
  have hK : 1 ≤ K := by omega
  have hk0 : 0 ≤ (K : Int) := by omega
  have hk8 : (K : Int) ≤ 8 := by omega
  simp only [dSeq, dLt, dLe, dGt, dGe, dNext, dRet, dRetN, dDrop, dIfS, dAsg, dPar, dPar3, hName, dIf, dTest, dNot, dAnd, dOr, dAndV, dOrV, dNotV, dUn, dNeg, dOp, dFn, dCall, dCons, dNil, dC, dvar_eq, dTup, dLstS, dLstC, dChain, dRaise, dSettle, dApp, htup2, htup2b, ex_tup, ex_tupb, ex_lst, dAdd, dSub, dMul, dFdiv, dMod, dPow, dShl, dCmpI, dIsN, dNotN, dIsB, dNotB, isNon, dix_fr0, dix_fr1, dix_bx0, dix_bx1, dix_t0, dix_t1, dix_l0, mk_bx, mk_neg, mk_ab, ex_f1, ex_f2, ex_b1, ex_b2, two_fr, dAbs, dAug, dIpAdd, dFor, forD, dRng1, dItT, dItL, dSl, dSlL, dNoPart, dPart, dInt1, DL.start, List.map_cons, List.map_nil, List.cons_append, List.nil_append, List.length_cons, List.length_nil, List.replicate, List.replicate_zero, Nat.sub_self, Nat.reduceSub, Nat.reduceAdd, Nat.zero_add, List.set_cons_zero, List.set_cons_succ, List.getElem?_cons_zero, List.getElem?_cons_succ, List.append_nil, true_and, szl0, szl1, szl2, szl3, szl4, szl5, szl6, szl7, szl8, ltl0, ltl1, ltl2, ltl3, ltl4, ltl5, ex_some, ex_bl, ex_two, ex_three, ex_int, ex_intp, ex_ints, ex_int2,  Bool.false_eq_true, if_true, if_false, Bool.not_true, Bool.not_false, reduceIte]
  unfold rootD at q
  by_cases c : h < 0
  · have c' := num_neg_iff.mpr c
    simp only [c, c', decide_true, if_true] at q ⊢
    exact q
  · have c' : ¬ h.num < 0 := fun z => c (num_neg_iff.mp z)
    simp only [c, c', decide_false, Bool.false_eq_true, if_false] at q ⊢
    have hN : 0 ≤ h.num := by omega
    have tw : (2:Int) ^ E < 2 ^ 21 := by exact_mod_cast Nat.pow_lt_pow_right (a := 2) (by decide) (by omega : E < 21)
    have tp : 0 < (2:Int) ^ E := Int.pow_pos (by decide)
    have tb : bt (((2 ^ E : Int)) : Rat) 200 := lt_200 (by omega) (Int.lt_trans tw (by decide))
    have sp0 := two_pow_pos E K
    have ss : ((2:Int) ^ E) ^ K < 2 ^ 101 := by
      rw [← Int.pow_mul]
      have : E * K ≤ 20 * 5 := Nat.mul_le_mul (by omega) (by omega)
      exact_mod_cast Nat.pow_lt_pow_right (a := 2) (by decide) (by omega : E * K < 101)
    simp only [dSeq, dLt, dLe, dGt, dGe, dNext, dRet, dRetN, dDrop, dIfS, dAsg, dPar, dPar3, hName, dIf, dTest, dNot, dAnd, dOr, dAndV, dOrV, dNotV, dUn, dNeg, dOp, dFn, dCall, dCons, dNil, dC, dvar_eq, dTup, dLstS, dLstC, dChain, dRaise, dSettle, dApp, htup2, htup2b, ex_tup, ex_tupb, ex_lst, dAdd, dSub, dMul, dFdiv, dMod, dPow, dShl, dCmpI, dIsN, dNotN, dIsB, dNotB, isNon, dix_fr0, dix_fr1, dix_bx0, dix_bx1, dix_t0, dix_t1, dix_l0, mk_bx, mk_neg, mk_ab, ex_f1, ex_f2, ex_b1, ex_b2, two_fr, dAbs, dAug, dIpAdd, dFor, forD, dRng1, dItT, dItL, dSl, dSlL, dNoPart, dPart, dInt1, DL.start, List.map_cons, List.map_nil, List.cons_append, List.nil_append, List.length_cons, List.length_nil, List.replicate, List.replicate_zero, Nat.sub_self, Nat.reduceSub, Nat.reduceAdd, Nat.zero_add, List.set_cons_zero, List.set_cons_succ, List.getElem?_cons_zero, List.getElem?_cons_succ, List.append_nil, true_and, szl0, szl1, szl2, szl3, szl4, szl5, szl6, szl7, szl8, ltl0, ltl1, ltl2, ltl3, ltl4, ltl5, ex_some, ex_bl, ex_two, ex_three, ex_int, ex_intp, ex_ints, ex_int2,  Bool.false_eq_true, if_true, if_false, Bool.not_true, Bool.not_false, reduceIte, sp__law_two, sp_two_to, Int.toNat_natCast]
    refine ⟨h3, by omega, ?_⟩
    simp only [dSeq, dLt, dLe, dGt, dGe, dNext, dRet, dRetN, dDrop, dIfS, dAsg, dPar, dPar3, hName, dIf, dTest, dNot, dAnd, dOr, dAndV, dOrV, dNotV, dUn, dNeg, dOp, dFn, dCall, dCons, dNil, dC, dvar_eq, dTup, dLstS, dLstC, dChain, dRaise, dSettle, dApp, htup2, htup2b, ex_tup, ex_tupb, ex_lst, dAdd, dSub, dMul, dFdiv, dMod, dPow, dShl, dCmpI, dIsN, dNotN, dIsB, dNotB, isNon, dix_fr0, dix_fr1, dix_bx0, dix_bx1, dix_t0, dix_t1, dix_l0, mk_bx, mk_neg, mk_ab, ex_f1, ex_f2, ex_b1, ex_b2, two_fr, dAbs, dAug, dIpAdd, dFor, forD, dRng1, dItT, dItL, dSl, dSlL, dNoPart, dPart, dInt1, DL.start, List.map_cons, List.map_nil, List.cons_append, List.nil_append, List.length_cons, List.length_nil, List.replicate, List.replicate_zero, Nat.sub_self, Nat.reduceSub, Nat.reduceAdd, Nat.zero_add, List.set_cons_zero, List.set_cons_succ, List.getElem?_cons_zero, List.getElem?_cons_succ, List.append_nil, true_and, szl0, szl1, szl2, szl3, szl4, szl5, szl6, szl7, szl8, ltl0, ltl1, ltl2, ltl3, ltl4, ltl5, ex_some, ex_bl, ex_two, ex_three, ex_int, ex_intp, ex_ints, ex_int2,  Bool.false_eq_true, if_true, if_false, Bool.not_true, Bool.not_false, reduceIte, mk_int, lpow hk0 hk8 tb, Int.toNat_natCast, lpow_num]
    generalize hS : ((2:Int) ^ E) ^ K = S at *
    have num_lt : ∀ {q : Rat}, bt q 40 → -(2 ^ 40) < q.num ∧ q.num < 2 ^ 40 ∧ (q.den : Int) < 2 ^ 40 := fun {q} hq => by
      have a1 : ((q.num.natAbs : Nat) : Int) < ((2 ^ 40 : Nat) : Int) := by exact_mod_cast hq.1
      have a2 : ((q.den : Nat) : Int) < ((2 ^ 40 : Nat) : Int) := by exact_mod_cast hq.2
      rw [Int.natCast_pow] at a1 a2
      have e : ((2 : Nat) : Int) = 2 := rfl
      rw [e] at a1 a2
      omega
    obtain ⟨n1, n2, n3⟩ := num_lt hb
    obtain ⟨n4, n5, n6⟩ := num_lt hb'
    have f40 : (2:Int) ^ 40 = 1099511627776 := by decide
    have f101 : (2:Int) ^ 101 = 2535301200456458802993406410752 := by decide
    have f198 : (2:Int) ^ 198 = 401734511064747568885490523085290650630550748445698208825344 := by decide
    have t := t300
    rw [f101] at ss
    rw [f40] at n1 n2 n3 n4 n5 n6
    -- the lower end
    have elow : (max l.num 0 * S).fdiv (l.den : Int) = ((mx l 0).num * S).fdiv ((mx l 0).den : Int) := by
      unfold mx
      by_cases z : l < 0
      · rw [if_pos z]
        have zn := num_neg_iff.mpr z
        rw [show max l.num 0 = 0 by omega]
        simp
      · rw [if_neg z]
        have zn : ¬ l.num < 0 := fun y => z (num_neg_iff.mp y)
        rw [show max l.num 0 = l.num by omega]
    have prod : ∀ a : Int, 0 ≤ a → a < 1099511627776 → 0 ≤ a * S ∧ a * S ≤ 1099511627776 * S := fun a z0 z1 => ⟨Int.mul_nonneg z0 (by omega), Int.mul_le_mul_of_nonneg_right (by omega) (by omega)⟩
    have dl := dP l
    have dh := dP h
    obtain ⟨pl0, pl1⟩ := prod (max l.num 0) (by omega) (by omega)
    obtain ⟨ph0, ph1⟩ := prod h.num hN n5
    have fl0 : 0 ≤ (max l.num 0 * S).fdiv (l.den : Int) := by
      rw [Int.fdiv_eq_ediv_of_nonneg _ (by omega)]
      exact Int.ediv_nonneg pl0 (by omega)
    have fl1 : (max l.num 0 * S).fdiv (l.den : Int) ≤ max l.num 0 * S := by
      rw [Int.fdiv_eq_ediv_of_nonneg _ (by omega)]
      exact Int.ediv_le_self _ pl0
    have ce := ceil_facts (h.num * S) dh
    have ru := root_up hK ph0 dh
    have w0 : 0 ≤ 0 - (0 - h.num * S).fdiv (h.den : Int) := by
      rcases Int.lt_or_le (0 - (0 - h.num * S).fdiv (h.den : Int)) 0 with z | z
      · have := Int.mul_neg_of_pos_of_neg dh z
        omega
      · exact z
    have w1 : 0 - (0 - h.num * S).fdiv (h.den : Int) ≤ h.num * S := by
      rcases Int.lt_or_le (h.num * S) (0 - (0 - h.num * S).fdiv (h.den : Int)) with z | z
      · have y := Int.mul_le_mul_of_nonneg_left (a := h.num * S + 1) (b := 0 - (0 - h.num * S).fdiv (h.den : Int)) (c := (h.den : Int)) (by omega) (by omega)
        have y2 := Int.mul_le_mul_of_nonneg_right (a := 1) (b := (h.den : Int)) (c := h.num * S) (by omega) ph0
        rw [Int.mul_add] at y
        omega
      · exact z
    have elo : lowI (mx l 0) K E = rt K ((max l.num 0 * S).fdiv (l.den : Int)) := by
      rw [elow, ← hS]; rfl
    have eup : upI h K E = rt K (0 - (0 - h.num * S).fdiv (h.den : Int)) + (if (rt K (0 - (0 - h.num * S).fdiv (h.den : Int))) ^ K < 0 - (0 - h.num * S).fdiv (h.den : Int) then 1 else 0) := by
      rw [← ru]
      unfold upI lowI
      rw [hS]
    unfold lowR upR at q
    rw [elo, eup] at q
    have cd : ∀ (x : Int) (a : Rat), bt a 40 → CDivX x (a.den : Int) := fun x a ha => cdiv (d0 a) (by rw [dI]; exact Nat.lt_of_lt_of_le ha.2 (Nat.pow_le_pow_right (by decide) (by decide)))
    have nz : ((2:Int) ^ E) ≠ 0 := by omega
    have tn : ((2:Int) ^ E).natAbs < 2 ^ 8000 := up_pow (two_pow_one E (by omega)) (by decide)
    simp only [dSeq, dLt, dLe, dGt, dGe, dNext, dRet, dRetN, dDrop, dIfS, dAsg, dPar, dPar3, hName, dIf, dTest, dNot, dAnd, dOr, dAndV, dOrV, dNotV, dUn, dNeg, dOp, dFn, dCall, dCons, dNil, dC, dvar_eq, dTup, dLstS, dLstC, dChain, dRaise, dSettle, dApp, htup2, htup2b, ex_tup, ex_tupb, ex_lst, dAdd, dSub, dMul, dFdiv, dMod, dPow, dShl, dCmpI, dIsN, dNotN, dIsB, dNotB, isNon, dix_fr0, dix_fr1, dix_bx0, dix_bx1, dix_t0, dix_t1, dix_l0, mk_bx, mk_neg, mk_ab, ex_f1, ex_f2, ex_b1, ex_b2, two_fr, dAbs, dAug, dIpAdd, dFor, forD, dRng1, dItT, dItL, dSl, dSlL, dNoPart, dPart, dInt1, DL.start, List.map_cons, List.map_nil, List.cons_append, List.nil_append, List.length_cons, List.length_nil, List.replicate, List.replicate_zero, Nat.sub_self, Nat.reduceSub, Nat.reduceAdd, Nat.zero_add, List.set_cons_zero, List.set_cons_succ, List.getElem?_cons_zero, List.getElem?_cons_succ, List.append_nil, true_and, szl0, szl1, szl2, szl3, szl4, szl5, szl6, szl7, szl8, ltl0, ltl1, ltl2, ltl3, ltl4, ltl5, ex_some, ex_bl, ex_two, ex_three, ex_int, ex_intp, ex_ints, ex_int2,  Bool.false_eq_true, if_true, if_false, Bool.not_true, Bool.not_false, reduceIte, dmax, sp__law_root_of, Int.toNat_natCast]
    refine ⟨cm64 (by omega) (by omega) (by omega) (by omega), cd _ _ hb, fl0, by rw [f198]; omega, by omega, hk8, ?_⟩
    generalize rt K ((max l.num 0 * S).fdiv (l.den : Int)) = R1 at *
    generalize hW : 0 - (0 - h.num * S).fdiv (h.den : Int) = w at *
    have rw0 := rt_is hK w0
    have rw1 := rt_le hK w0
    refine ⟨cm64 (by omega) (by omega) (by omega) (by omega), cd _ _ hb', w0, by rw [f198]; omega, by omega, hk8, ?_⟩
    generalize rt K w = R2 at *
    have r2b : bt (R2 : Rat) 200 := lt_200 rw0.1 (by
      have f200 : (2:Int) ^ 200 = 1606938044258990275541962092341162602522202993782792835301376 := by decide
      rw [f200]
      omega)
    simp only [dSeq, dLt, dLe, dGt, dGe, dNext, dRet, dRetN, dDrop, dIfS, dAsg, dPar, dPar3, hName, dIf, dTest, dNot, dAnd, dOr, dAndV, dOrV, dNotV, dUn, dNeg, dOp, dFn, dCall, dCons, dNil, dC, dvar_eq, dTup, dLstS, dLstC, dChain, dRaise, dSettle, dApp, htup2, htup2b, ex_tup, ex_tupb, ex_lst, dAdd, dSub, dMul, dFdiv, dMod, dPow, dShl, dCmpI, dIsN, dNotN, dIsB, dNotB, isNon, dix_fr0, dix_fr1, dix_bx0, dix_bx1, dix_t0, dix_t1, dix_l0, mk_bx, mk_neg, mk_ab, ex_f1, ex_f2, ex_b1, ex_b2, two_fr, dAbs, dAug, dIpAdd, dFor, forD, dRng1, dItT, dItL, dSl, dSlL, dNoPart, dPart, dInt1, DL.start, List.map_cons, List.map_nil, List.cons_append, List.nil_append, List.length_cons, List.length_nil, List.replicate, List.replicate_zero, Nat.sub_self, Nat.reduceSub, Nat.reduceAdd, Nat.zero_add, List.set_cons_zero, List.set_cons_succ, List.getElem?_cons_zero, List.getElem?_cons_succ, List.append_nil, true_and, szl0, szl1, szl2, szl3, szl4, szl5, szl6, szl7, szl8, ltl0, ltl1, ltl2, ltl3, ltl4, ltl5, ex_some, ex_bl, ex_two, ex_three, ex_int, ex_intp, ex_ints, ex_int2,  Bool.false_eq_true, if_true, if_false, Bool.not_true, Bool.not_false, reduceIte, mk_int, lpow hk0 hk8 r2b, Int.toNat_natCast, lpow_num, bool_int, decide_eq_true_eq, sp__law_frac, sp_fraction, sp__law_two, sp_two_to]
    exact ⟨h3, by omega, nz, tn, h3, by omega, nz, tn, q⟩
end K07

set_option Elab.async false
set_option linter.all false
set_option maxRecDepth 100000
set_option maxHeartbeats 1000000
namespace K07
open PySem PySem.Spec PyProof.Rows L2 DL
/-! ### equal things, and what repr makes of them -/
theorem ofString_len (x : String) : (Str.ofString x).length = x.length := by
  rw [Str.ofString_eq_toList]
  unfold Str.length
  simp [String.length_toList]
theorem int_text_len {i : Int} (h : i.natAbs < 2 ^ 1000) : (Str.ofString (toString i)).length ≤ 402 := by
  rw [ofString_len]
  have p : (2:Nat) ^ 1000 ≤ 10 ^ 400 := by decide
  have nn : ∀ m : Nat, m < 2 ^ 1000 → (Nat.repr m).length ≤ 400 := fun m hm => (Nat.length_repr_le_iff (n := m) (by decide : 0 < 400)).mpr (Nat.lt_of_lt_of_le hm p)
  cases i with
  | ofNat m =>
    have z := nn m h
    show (Nat.repr m).length ≤ 402
    omega
  | negSucc m =>
    have z := nn (m + 1) h
    show ("-" ++ Nat.repr (m + 1)).length ≤ 402
    rw [String.length_append]
    have : ("-" : String).length = 1 := rfl
    omega
theorem tup2_len (x y : Str) : (tupleText [x, y]).length = x.length + y.length + 4 := by
  unfold tupleText
  have e1 : (Str.join ", " [x, y]).length + 2 = piled [x, y] := join_length_add [x, y] (by simp)
  rw [PySem.Str.length_append, PySem.Str.length_append]
  have e2 : (Str.ofString "(").length = 1 := rfl
  have e3 : (Str.ofString ")").length = 1 := rfl
  simp only [List.length_cons, List.length_nil, Nat.zero_add, Nat.reduceAdd, Nat.reduceBEq, Bool.false_eq_true, if_false]
  simp only [piled_cons, piled_nil] at e1
  omega
def pyF (q : Rat) : PyData := .tuple [.int q.num, .int (q.den : Int)]
def pyB (l h : Rat) : PyData := .tuple [pyF l, pyF h]
theorem toPy_bx (l h : Rat) : toPy (bx l h) = some (pyB l h) := by
  unfold bx fr pyB pyF
  simp only [toPy, toPyL]
theorem pyB_shaped (l h : Rat) : SeqAt.shaped (pyB l h) = true := by
  unfold pyB pyF SeqAt.shaped
  simp [PyData.canLay0, PyData.canLayAll0, PyData.depth, PyData.depthAll]
theorem dne_py {x : D} {e : PyData} {M : Mm} {P : QD} (hx : ∀ i, x ≠ .int i) (hs : ∀ i, x ≠ .str i) (h : toPy x = some e) (sh : SeqAt.shaped e = true) (q : P (.bl false) M) : dNe x x M P := by
  unfold dNe
  split
  · exact absurd rfl (hx _)
  · exact absurd rfl (hs _)
  · refine ⟨e, e, h, h, sh, sh, ?_⟩
    rw [SeqAt.eqv_refl e (SeqAt.canLay_of_shaped sh)]
    exact q
theorem dne_bx {l h : Rat} {M : Mm} {P : QD} (q : P (.bl false) M) : dNe (bx l h) (bx l h) M P :=
  dne_py (fun i e => by unfold bx at e; cases e) (fun i e => by unfold bx at e; cases e) (toPy_bx l h) (pyB_shaped l h) q
theorem dne_str {x : Str} {M : Mm} {P : QD} (q : P (.bl false) M) : dNe (.str x) (.str x) M P := by
  show P (.bl (!decide (x = x))) M
  rw [decide_eq_true rfl]
  exact q
theorem drepr_non {M : Mm} {P : QD} (q : P (.str "None") M) : dRepr [.non] M P := by
  refine ⟨.non, .none, rfl, rfl, .inl rfl, rfl, rfl, by decide, ?_, q⟩
  decide
theorem pyB_len {l h : Rat} (h1 : bt l 1000) (h2 : bt h 1000) : (pyB l h).shown.length ≤ sizeLine := by
  unfold pyB pyF
  simp only [PyData.shown, PyData.shownAll, tup2_len]
  have a1 := int_text_len h1.1
  have a2 := int_text_len (i := (l.den : Int)) (by rw [dI]; exact h1.2)
  have a3 := int_text_len h2.1
  have a4 := int_text_len (i := (h.den : Int)) (by rw [dI]; exact h2.2)
  have : (2000 : Nat) ≤ sizeLine := by decide
  omega
theorem drepr_bx {l h : Rat} {M : Mm} {P : QD} (h1 : bt l 1000) (h2 : bt h 1000) (q : P (.str (pyB l h).shown) M) : dRepr [bx l h] M P := by
  have lg : ∀ x : Nat, x < 2 ^ 1000 → x.log2 < 1920 := fun x hx => by
    by_cases z : x = 0
    · subst z; decide
    · have := (Nat.log2_lt z).mpr hx
      omega
  refine ⟨bx l h, pyB l h, rfl, toPy_bx l h, .inr ⟨_, rfl⟩, ?_, ?_, ?_, pyB_len h1 h2, q⟩
  · unfold pyB pyF
    simp only [PyData.showable, PyData.showableAll, Bool.and_true, Bool.and_eq_true, decide_eq_true_eq, Int.natAbs_natCast]
    exact ⟨⟨lg _ h1.1, lg _ h1.2⟩, lg _ h2.1, lg _ h2.2⟩
  · rfl
  · unfold pyB pyF
    simp [PyData.depth, PyData.depthAll]
end K07

set_option Elab.async false
set_option linter.all false
set_option maxRecDepth 100000
set_option maxHeartbeats 1000000
namespace K07
open PySem PySem.Spec PyProof.Rows L2 DL
/-! what lies in what -/
theorem inv_btw {l b h : Rat} (h1 : l ≤ b) (h2 : b ≤ h) (c : nought l h = false) : h⁻¹ ≤ b⁻¹ ∧ b⁻¹ ≤ l⁻¹ := by
  have key : ∀ x y : Rat, 0 < x → x ≤ y → y⁻¹ ≤ x⁻¹ := fun x y h0 hxy => by
    have hy : 0 < y := by grind
    have p : 0 ≤ x⁻¹ * y⁻¹ := Rat.mul_nonneg (Rat.le_of_lt (Rat.inv_pos.mpr h0)) (Rat.le_of_lt (Rat.inv_pos.mpr hy))
    have m := Rat.mul_le_mul_of_nonneg_right hxy p
    have e1 : x * (x⁻¹ * y⁻¹) = y⁻¹ := by
      have : x ≠ 0 := fun z => by rw [z] at h0; exact Rat.lt_irrefl h0
      grind
    have e2 : y * (x⁻¹ * y⁻¹) = x⁻¹ := by
      have : y ≠ 0 := fun z => by rw [z] at hy; exact Rat.lt_irrefl hy
      grind
    rw [e1, e2] at m
    exact m
  have neg : ∀ x : Rat, (-x)⁻¹ = -(x⁻¹) := fun x => by grind
  unfold nought at c
  by_cases z : l ≤ 0
  · have z2 : ¬ 0 ≤ h := fun y => by simp [z, y] at c
    have z3 : h < 0 := Rat.not_le.mp z2
    have a1 := key (-h) (-b) (by grind) (by grind)
    have a2 := key (-b) (-l) (by grind) (by grind)
    rw [neg, neg] at a1 a2
    grind
  · have z2 : 0 < l := Rat.not_le.mp z
    exact ⟨key b h (by grind) h2, key l b z2 h1⟩
theorem over_in {l h l' h' a b : Rat} (h1 : l ≤ a) (h2 : a ≤ h) (h3 : l' ≤ b) (h4 : b ≤ h') (c : nought l' h' = false) : overL l h l' h' ≤ a / b ∧ a / b ≤ overH l h l' h' := by
  obtain ⟨i1, i2⟩ := inv_btw h3 h4 c
  have t := times_in h1 h2 i1 i2
  unfold timesL timesH at t
  unfold overL overH
  rw [← lo4_swap, ← hi4_swap]
  rw [Rat.div_def, Rat.div_def, Rat.div_def, Rat.div_def, Rat.div_def]
  exact t
theorem size_in {l h a : Rat} (h1 : l ≤ a) (h2 : a ≤ h) : sizeL l h ≤ ab a ∧ ab a ≤ sizeH l h := by
  unfold sizeL sizeH nought ab mn mx
  grind
theorem sizeL_nn (l h : Rat) : 0 ≤ sizeL l h := by
  have h1 := ab_nn l
  have h2 := ab_nn h
  unfold sizeL mn
  grind
theorem size_le {l h : Rat} (hl : l ≤ h) : sizeL l h ≤ sizeH l h := Rat.le_trans (size_in (Rat.le_refl) hl).1 (size_in (Rat.le_refl) hl).2
theorem pow_in {l h a : Rat} (h1 : l ≤ a) (h2 : a ≤ h) (k : Nat) : powL l h k ≤ a ^ k ∧ a ^ k ≤ powH l h k := by
  by_cases c : k = 0
  · subst c
    unfold powL powH
    rw [if_pos rfl, if_pos rfl, Rat.pow_zero]
    exact ⟨Rat.le_refl, Rat.le_refl⟩
  · by_cases c2 : k % 2 = 0
    · obtain ⟨e1, e2⟩ := pow_even' (l := l) (h := h) c2 c
      obtain ⟨s1, s2⟩ := size_in h1 h2
      rw [e1, e2, ← even_ab (a := a) c2]
      exact ⟨rpow_le (sizeL_nn l h) s1 k, rpow_le (ab_nn a) s2 k⟩
    · obtain ⟨e1, e2⟩ := pow_odd' (k := k) (by omega) (Rat.le_trans h1 h2)
      rw [e1, e2]
      exact ⟨odd_le (by omega) h1, odd_le (by omega) h2⟩
theorem pow_le {l h : Rat} (hl : l ≤ h) (k : Nat) : powL l h k ≤ powH l h k := Rat.le_trans (pow_in (Rat.le_refl) hl k).1 (pow_in (Rat.le_refl) hl k).2
theorem le_lo4 {x a b c d : Rat} (h1 : x ≤ a) (h2 : x ≤ b) (h3 : x ≤ c) (h4 : x ≤ d) : x ≤ lo4 a b c d := by
  unfold lo4 mn
  grind
theorem hi4_le {x a b c d : Rat} (h1 : a ≤ x) (h2 : b ≤ x) (h3 : c ≤ x) (h4 : d ≤ x) : hi4 a b c d ≤ x := by
  unfold hi4 mx
  grind
theorem times_wide {l h l' h' L U : Rat} (h1 : L ≤ l) (h2 : h ≤ U) (hl : l ≤ h) (hl' : l' ≤ h') : timesL L U l' h' ≤ timesL l h l' h' ∧ timesH l h l' h' ≤ timesH L U l' h' := by
  have a := times_in (l := L) (h := U) (l' := l') (h' := h') (a := l) (b := l') h1 (Rat.le_trans hl h2) Rat.le_refl hl'
  have b := times_in (l := L) (h := U) (l' := l') (h' := h') (a := l) (b := h') h1 (Rat.le_trans hl h2) hl' Rat.le_refl
  have c := times_in (l := L) (h := U) (l' := l') (h' := h') (a := h) (b := l') (Rat.le_trans h1 hl) h2 Rat.le_refl hl'
  have d := times_in (l := L) (h := U) (l' := l') (h' := h') (a := h) (b := h') (Rat.le_trans h1 hl) h2 hl' Rat.le_refl
  exact ⟨le_lo4 a.1 b.1 c.1 d.1, hi4_le a.2 b.2 c.2 d.2⟩
theorem size_wide {l h L U : Rat} (h1 : L ≤ l) (h2 : h ≤ U) (hl : l ≤ h) : sizeL L U ≤ sizeL l h ∧ sizeH l h ≤ sizeH L U := by
  unfold sizeL sizeH nought ab mn mx
  grind
/-! roots of two depths -/
theorem lowI_ok {q : Rat} {k d : Nat} (h0 : 0 ≤ q) (hk : 1 ≤ k) : 0 ≤ lowI q k d ∧ (lowI q k d) ^ k * q.den ≤ q.num * (2 ^ d) ^ k ∧ q.num * (2 ^ d) ^ k < (lowI q k d + 1) ^ k * q.den := by
  have hN : 0 ≤ q.num * (2 ^ d) ^ k := Int.mul_nonneg (Rat.num_nonneg.mpr h0) (Int.le_of_lt (two_pow_pos d k))
  have hD := dP q
  have f := floor_facts (q.num * (2 ^ d) ^ k) hD
  have f0 : 0 ≤ (q.num * (2 ^ d) ^ k).fdiv q.den := by
    rw [Int.fdiv_eq_ediv_of_nonneg _ (by omega)]
    exact Int.ediv_nonneg hN (by omega)
  obtain ⟨r1, r2, r3⟩ := rt_is hk f0
  unfold lowI
  generalize (q.num * (2 ^ d) ^ k).fdiv q.den = n at *
  have m1 := Int.mul_le_mul_of_nonneg_left (c := (q.den : Int)) r2 (by omega)
  have m2 := Int.mul_le_mul_of_nonneg_left (c := (q.den : Int)) (show n + 1 ≤ (rt k n + 1) ^ k by omega) (by omega)
  rw [Int.mul_add] at m2
  rw [Int.mul_comm _ (q.den : Int), Int.mul_comm ((rt k n + 1) ^ k)]
  exact ⟨r1, by omega, by omega⟩
theorem two_more (d k : Nat) : ((2:Int) ^ (d + 3)) ^ k = 8 ^ k * (2 ^ d) ^ k := by
  rw [Int.pow_add, show (2:Int) ^ 3 = 8 from rfl, Int.mul_comm, Int.mul_pow]
theorem low_finer {q : Rat} {k d : Nat} (h0 : 0 ≤ q) (hk : 1 ≤ k) : 8 * lowI q k d ≤ lowI q k (d + 3) := by
  obtain ⟨a1, a2, a3⟩ := lowI_ok (d := d) h0 hk
  obtain ⟨b1, b2, b3⟩ := lowI_ok (d := d + 3) h0 hk
  rcases Int.lt_or_le (lowI q k (d + 3)) (8 * lowI q k d) with z | z
  · exfalso
    have p := ipow_le (a := lowI q k (d + 3) + 1) (b := 8 * lowI q k d) (by omega) (by omega) k
    have hD := dP q
    have m1 := Int.mul_le_mul_of_nonneg_right p (by omega : 0 ≤ (q.den : Int))
    rw [Int.mul_pow, Int.mul_assoc] at m1
    have m2 := Int.mul_le_mul_of_nonneg_left (c := (8:Int) ^ k) a2 (Int.pow_nonneg (by decide))
    rw [two_more, ← Int.mul_assoc, Int.mul_comm q.num, Int.mul_assoc] at b3
    omega
  · exact z
theorem upI_ok {q : Rat} {k d : Nat} (h0 : 0 ≤ q) (hk : 1 ≤ k) : 0 ≤ upI q k d ∧ q.num * (2 ^ d) ^ k ≤ (upI q k d) ^ k * q.den ∧ ∀ s : Int, 0 ≤ s → q.num * (2 ^ d) ^ k ≤ s ^ k * q.den → upI q k d ≤ s := by
  obtain ⟨u1, u2, u3⟩ := upI_is (d := d) hk h0
  have hD := dP q
  have w := ceil_facts (q.num * (2 ^ d) ^ k) hD
  generalize 0 - (0 - q.num * (2 ^ d) ^ k).fdiv (q.den : Int) = c at *
  refine ⟨u1, ?_, fun s s0 hs => u3 s s0 ?_⟩
  · have m := Int.mul_le_mul_of_nonneg_left (c := (q.den : Int)) u2 (by omega)
    rw [Int.mul_comm _ (q.den : Int)]
    omega
  · rw [Int.mul_comm _ (q.den : Int)] at hs
    rcases Int.lt_or_le (s ^ k) c with z | z
    · have m := Int.mul_le_mul_of_nonneg_left (c := (q.den : Int)) (show s ^ k + 1 ≤ c by omega) (by omega)
      rw [Int.mul_add] at m
      omega
    · exact z
theorem up_finer {q : Rat} {k d : Nat} (h0 : 0 ≤ q) (hk : 1 ≤ k) : upI q k (d + 3) ≤ 8 * upI q k d := by
  obtain ⟨a1, a2, a3⟩ := upI_ok (d := d) h0 hk
  obtain ⟨b1, b2, b3⟩ := upI_ok (d := d + 3) h0 hk
  refine b3 _ (by omega) ?_
  rw [two_more, Int.mul_pow, ← Int.mul_assoc, Int.mul_comm q.num, Int.mul_assoc, Int.mul_assoc]
  exact Int.mul_le_mul_of_nonneg_left a2 (Int.pow_nonneg (by decide))
theorem div_pow (a : Int) {b : Int} (k : Nat) : (Rat.divInt a b) ^ k = Rat.divInt (a ^ k) (b ^ k) := by
  induction k with
  | zero => rw [Rat.pow_zero, Int.pow_zero, Int.pow_zero]; rfl
  | succ k ih => rw [Rat.pow_succ, ih, Rat.divInt_mul_divInt, Int.pow_succ, Int.pow_succ]
theorem dle {a b c d : Int} (hb : 0 < b) (hd : 0 < d) (h : a * d ≤ c * b) : Rat.divInt a b ≤ Rat.divInt c d := by
  rw [Rat.divInt_eq_div, Rat.divInt_eq_div]
  have h' : (a : Rat) * d ≤ c * b := by exact_mod_cast h
  have b0 : (0 : Rat) < b := by exact_mod_cast hb
  have d0 : (0 : Rat) < d := by exact_mod_cast hd
  have p : 0 ≤ (b : Rat)⁻¹ * (d : Rat)⁻¹ := Rat.mul_nonneg (Rat.le_of_lt (Rat.inv_pos.mpr b0)) (Rat.le_of_lt (Rat.inv_pos.mpr d0))
  have m := Rat.mul_le_mul_of_nonneg_right h' p
  have n1 : (b : Rat) ≠ 0 := fun z => by rw [z] at b0; exact Rat.lt_irrefl b0
  have n2 : (d : Rat) ≠ 0 := fun z => by rw [z] at d0; exact Rat.lt_irrefl d0
  have e1 : (a : Rat) * d * ((b : Rat)⁻¹ * (d : Rat)⁻¹) = a / b := by grind
  have e2 : (c : Rat) * b * ((b : Rat)⁻¹ * (d : Rat)⁻¹) = c / d := by grind
  rw [e1, e2] at m
  exact m
theorem low_le (q : Rat) {k : Nat} (d : Nat) (hk : 1 ≤ k) : lowR q k d ≤ lowR q k (d + 3) := by
  unfold lowR
  have t1 : 0 < (2:Int) ^ d := Int.pow_pos (by decide)
  have t2 : 0 < (2:Int) ^ (d + 3) := Int.pow_pos (by decide)
  refine dle t1 t2 ?_
  rw [show (2:Int) ^ (d + 3) = 8 * 2 ^ d by rw [Int.pow_add, Int.mul_comm]; rfl, ← Int.mul_assoc, Int.mul_comm _ 8]
  exact Int.mul_le_mul_of_nonneg_right (low_finer mx_pos hk) (by omega)
theorem up_le {q : Rat} {k : Nat} (d : Nat) (h0 : 0 ≤ q) (hk : 1 ≤ k) : upR q k (d + 3) ≤ upR q k d := by
  unfold upR
  have t1 : 0 < (2:Int) ^ d := Int.pow_pos (by decide)
  have t2 : 0 < (2:Int) ^ (d + 3) := Int.pow_pos (by decide)
  refine dle t2 t1 ?_
  rw [show (2:Int) ^ (d + 3) = 8 * 2 ^ d by rw [Int.pow_add, Int.mul_comm]; rfl, ← Int.mul_assoc, Int.mul_comm _ 8]
  exact Int.mul_le_mul_of_nonneg_right (up_finer h0 hk) (by omega)
theorem low_pow {q : Rat} {k : Nat} (d : Nat) (h0 : 0 ≤ q) (hk : 1 ≤ k) : (lowR q k d) ^ k ≤ q := by
  unfold lowR
  have e : mx q 0 = q := by unfold mx; grind
  rw [e, div_pow]
  conv => rhs; rw [← Rat.num_divInt_den q]
  exact dle (two_pow_pos d k) (dP q) (lowI_ok h0 hk).2.1
theorem up_pow_le {q : Rat} {k : Nat} (d : Nat) (h0 : 0 ≤ q) (hk : 1 ≤ k) : q ≤ (upR q k d) ^ k := by
  unfold upR
  rw [div_pow]
  conv => lhs; rw [← Rat.num_divInt_den q]
  exact dle (dP q) (two_pow_pos d k) (upI_ok h0 hk).2.1
theorem lowI_bt {q : Rat} {k d : Nat} (h0 : 0 ≤ q) (hq : bt q 5) (hk : 1 ≤ k) (hk5 : k ≤ 5) (hd : d ≤ 16) : (lowI q k d).natAbs < 2 ^ 86 := by
  have hN : 0 ≤ q.num * (2 ^ d) ^ k := Int.mul_nonneg (Rat.num_nonneg.mpr h0) (Int.le_of_lt (two_pow_pos d k))
  have hD := dP q
  have f0 : 0 ≤ (q.num * (2 ^ d) ^ k).fdiv q.den := by
    rw [Int.fdiv_eq_ediv_of_nonneg _ (by omega)]
    exact Int.ediv_nonneg hN (by omega)
  have f1 : (q.num * (2 ^ d) ^ k).fdiv q.den ≤ q.num * (2 ^ d) ^ k := by
    rw [Int.fdiv_eq_ediv_of_nonneg _ (by omega)]
    exact Int.ediv_le_self _ hN
  have r := rt_le hk f0
  have r0 := (rt_is hk f0).1
  have t : (((2:Int) ^ d) ^ k).natAbs < 2 ^ 81 := by
    rw [← Int.pow_mul]
    have h1 : d * k ≤ 16 * 5 := Nat.mul_le_mul hd hk5
    refine pow_small (Int.pow_nonneg (by decide)) ?_
    exact_mod_cast Nat.pow_lt_pow_right (a := 2) (by decide) (by omega : d * k < 81)
  have n : (q.num * (2 ^ d) ^ k).natAbs < 2 ^ 86 := nm hq.1 t (by decide)
  unfold lowI
  generalize (q.num * (2 ^ d) ^ k).fdiv q.den = a at *
  generalize q.num * (2 ^ d) ^ k = b at *
  omega
theorem roots_bt {l h : Rat} {k d : Nat} (h0 : 0 ≤ h) (h1 : bt l 5) (h2 : bt h 5) (hk : 1 ≤ k) (hk5 : k ≤ 5) (hd : d ≤ 16) : bt (lowR l k d) 90 ∧ bt (upR h k d) 90 := by
  have tp : 0 < (2:Int) ^ d := Int.pow_pos (by decide)
  have tn : ((2:Int) ^ d).natAbs < 2 ^ 90 := by
    refine pow_small (by omega) ?_
    exact_mod_cast Nat.pow_lt_pow_right (a := 2) (by decide) (by omega : d < 90)
  have a := lowI_bt (mx_pos (l := l)) (h1.mx (bt0 (by decide))) hk hk5 hd
  have b := lowI_bt h0 h2 hk hk5 hd
  have e : (2:Nat) ^ 90 = 16 * 2 ^ 86 := by decide
  refine ⟨bt_divInt (by omega) (by omega) tn, bt_divInt (by omega) ?_ tn⟩
  unfold upI
  split <;> omega
end K07

set_option Elab.async false
set_option linter.all false
set_option maxRecDepth 100000
set_option maxHeartbeats 1000000
namespace K07
open PySem PySem.Spec PyProof.Rows L2 DL
theorem len__law_drawn : ∀ xs M P Y, sp__law_drawn xs M P Y → xs.length = 1 := by
  intro xs M P Y h
  unfold sp__law_drawn at h
  split at h
  · rfl
  · exact h.elim
theorem rd__law_drawn : ∀ xs M P Y, sp__law_drawn xs M P Y → t__law_drawn { nx := fun _ M' => P .non M', rt := P, ex := fun c _ M' => Y c M' } (DL.start 3 xs) M := by
  intro xs M P Y h
  unfold sp__law_drawn at h
  split at h
  rotate_left
  · exact h.elim
  rename_i p
  unfold t__law_drawn
  obtain ⟨k, hh, q⟩ := h
  simp only [dSeq, dLt, dLe, dGt, dGe, dNext, dRet, dRetN, dDrop, dIfS, dAsg, dPar, dPar3, hName, dIf, dTest, dNot, dAnd, dOr, dAndV, dOrV, dNotV, dUn, dNeg, dOp, dFn, dCall, dCons, dNil, dC, dvar_eq, dTup, dLstS, dLstC, dChain, dRaise, dSettle, dApp, htup2, htup2b, ex_tup, ex_tupb, ex_lst, dAdd, dSub, dMul, dFdiv, dMod, dPow, dShl, dCmpI, dIsN, dNotN, dIsB, dNotB, isNon, dix_fr0, dix_fr1, dix_bx0, dix_bx1, dix_t0, dix_t1, dix_l0, mk_bx, mk_neg, mk_ab, ex_f1, ex_f2, ex_b1, ex_b2, two_fr, dAbs, dAug, dIpAdd, dFor, forD, dRng1, dItT, dItL, dSl, dSlL, dNoPart, dPart, dInt1, DL.start, List.map_cons, List.map_nil, List.cons_append, List.nil_append, List.length_cons, List.length_nil, List.replicate, List.replicate_zero, Nat.sub_self, Nat.reduceSub, Nat.reduceAdd, Nat.zero_add, List.set_cons_zero, List.set_cons_succ, List.getElem?_cons_zero, List.getElem?_cons_succ, List.append_nil, true_and, szl0, szl1, szl2, szl3, szl4, szl5, szl6, szl7, szl8, ltl0, ltl1, ltl2, ltl3, ltl4, ltl5, ex_some, ex_bl, ex_two, ex_three, ex_int, ex_intp, ex_ints, ex_int2,  Bool.false_eq_true, if_true, if_false, Bool.not_true, Bool.not_false, reduceIte, sp__law_number]
  refine ⟨by decide, by decide, k + 3, hh, fun a hd1 ba g1 => ?_⟩
  refine ⟨by decide, by decide, k + 1, hd_mup g1, fun b hd2 bb g2 => ?_⟩
  rw [mup_mup]
  simp only [dSeq, dLt, dLe, dGt, dGe, dNext, dRet, dRetN, dDrop, dIfS, dAsg, dPar, dPar3, hName, dIf, dTest, dNot, dAnd, dOr, dAndV, dOrV, dNotV, dUn, dNeg, dOp, dFn, dCall, dCons, dNil, dC, dvar_eq, dTup, dLstS, dLstC, dChain, dRaise, dSettle, dApp, htup2, htup2b, ex_tup, ex_tupb, ex_lst, dAdd, dSub, dMul, dFdiv, dMod, dPow, dShl, dCmpI, dIsN, dNotN, dIsB, dNotB, isNon, dix_fr0, dix_fr1, dix_bx0, dix_bx1, dix_t0, dix_t1, dix_l0, mk_bx, mk_neg, mk_ab, ex_f1, ex_f2, ex_b1, ex_b2, two_fr, dAbs, dAug, dIpAdd, dFor, forD, dRng1, dItT, dItL, dSl, dSlL, dNoPart, dPart, dInt1, DL.start, List.map_cons, List.map_nil, List.cons_append, List.nil_append, List.length_cons, List.length_nil, List.replicate, List.replicate_zero, Nat.sub_self, Nat.reduceSub, Nat.reduceAdd, Nat.zero_add, List.set_cons_zero, List.set_cons_succ, List.getElem?_cons_zero, List.getElem?_cons_succ, List.append_nil, true_and, szl0, szl1, szl2, szl3, szl4, szl5, szl6, szl7, szl8, ltl0, ltl1, ltl2, ltl3, ltl4, ltl5, ex_some, ex_bl, ex_two, ex_three, ex_int, ex_intp, ex_ints, ex_int2,  Bool.false_eq_true, if_true, if_false, Bool.not_true, Bool.not_false, reduceIte, mk_fr0, sp__law_some]
  refine ⟨by decide, by decide, k, hd_mup g2, fun x hx hd3 g3 => ?_⟩
  rw [mup_mup]
  have fin : ∀ u v : Rat, bt u 5 → bt v 5 → hTup 2 (hCons (hName 1) (hCons (hName 2) hNil)) (bx u v) [some (.ref p), some (fr a), some (fr b)] (mup M p (.lst hd3)) (dRet (dIf (dNot (dTest (dCall sp__law_is_under (dCons (dVar 2) (dCons (dVar 1) dNil))))) (dTup (dCons (dVar 1) (dCons (dVar 2) dNil))) (dTup (dCons (dVar 2) (dCons (dVar 1) dNil)))) { nx := fun _ M' => P .non M', rt := P, ex := fun c _ M' => Y c M' }) := fun u v bu bv => by
    simp only [dSeq, dLt, dLe, dGt, dGe, dNext, dRet, dRetN, dDrop, dIfS, dAsg, dPar, dPar3, hName, dIf, dTest, dNot, dAnd, dOr, dAndV, dOrV, dNotV, dUn, dNeg, dOp, dFn, dCall, dCons, dNil, dC, dvar_eq, dTup, dLstS, dLstC, dChain, dRaise, dSettle, dApp, htup2, htup2b, ex_tup, ex_tupb, ex_lst, dAdd, dSub, dMul, dFdiv, dMod, dPow, dShl, dCmpI, dIsN, dNotN, dIsB, dNotB, isNon, dix_fr0, dix_fr1, dix_bx0, dix_bx1, dix_t0, dix_t1, dix_l0, mk_bx, mk_neg, mk_ab, ex_f1, ex_f2, ex_b1, ex_b2, two_fr, dAbs, dAug, dIpAdd, dFor, forD, dRng1, dItT, dItL, dSl, dSlL, dNoPart, dPart, dInt1, DL.start, List.map_cons, List.map_nil, List.cons_append, List.nil_append, List.length_cons, List.length_nil, List.replicate, List.replicate_zero, Nat.sub_self, Nat.reduceSub, Nat.reduceAdd, Nat.zero_add, List.set_cons_zero, List.set_cons_succ, List.getElem?_cons_zero, List.getElem?_cons_succ, List.append_nil, true_and, szl0, szl1, szl2, szl3, szl4, szl5, szl6, szl7, szl8, ltl0, ltl1, ltl2, ltl3, ltl4, ltl5, ex_some, ex_bl, ex_two, ex_three, ex_int, ex_intp, ex_ints, ex_int2,  Bool.false_eq_true, if_true, if_false, Bool.not_true, Bool.not_false, reduceIte, under (bv.mono (by decide)) (bu.mono (by decide))]
    by_cases c : v < u
    · simp only [c, decide_true, Bool.not_true, Bool.false_eq_true, if_false]
      exact q v u hd3 bv bu (Rat.le_of_lt c) g3
    · simp only [c, decide_false, Bool.not_false, if_true]
      exact q u v hd3 bu bv (Rat.not_lt.mp c) g3
  have z5 : bt 0 5 := bt0 (by decide)
  simp only [List.mem_cons, List.not_mem_nil, or_false] at hx
  rcases hx with rfl | rfl | rfl | rfl
  · have := fin a b ba bb; simp only [dSeq, dLt, dLe, dGt, dGe, dNext, dRet, dRetN, dDrop, dIfS, dAsg, dPar, dPar3, hName, dIf, dTest, dNot, dAnd, dOr, dAndV, dOrV, dNotV, dUn, dNeg, dOp, dFn, dCall, dCons, dNil, dC, dvar_eq, dTup, dLstS, dLstC, dChain, dRaise, dSettle, dApp, htup2, htup2b, ex_tup, ex_tupb, ex_lst, dAdd, dSub, dMul, dFdiv, dMod, dPow, dShl, dCmpI, dIsN, dNotN, dIsB, dNotB, isNon, dix_fr0, dix_fr1, dix_bx0, dix_bx1, dix_t0, dix_t1, dix_l0, mk_bx, mk_neg, mk_ab, ex_f1, ex_f2, ex_b1, ex_b2, two_fr, dAbs, dAug, dIpAdd, dFor, forD, dRng1, dItT, dItL, dSl, dSlL, dNoPart, dPart, dInt1, DL.start, List.map_cons, List.map_nil, List.cons_append, List.nil_append, List.length_cons, List.length_nil, List.replicate, List.replicate_zero, Nat.sub_self, Nat.reduceSub, Nat.reduceAdd, Nat.zero_add, List.set_cons_zero, List.set_cons_succ, List.getElem?_cons_zero, List.getElem?_cons_succ, List.append_nil, true_and, szl0, szl1, szl2, szl3, szl4, szl5, szl6, szl7, szl8, ltl0, ltl1, ltl2, ltl3, ltl4, ltl5, ex_some, ex_bl, ex_two, ex_three, ex_int, ex_intp, ex_ints, ex_int2,  Bool.false_eq_true, if_true, if_false, Bool.not_true, Bool.not_false, reduceIte] at this ⊢; exact this
  · have := fin a a ba ba; simp only [dSeq, dLt, dLe, dGt, dGe, dNext, dRet, dRetN, dDrop, dIfS, dAsg, dPar, dPar3, hName, dIf, dTest, dNot, dAnd, dOr, dAndV, dOrV, dNotV, dUn, dNeg, dOp, dFn, dCall, dCons, dNil, dC, dvar_eq, dTup, dLstS, dLstC, dChain, dRaise, dSettle, dApp, htup2, htup2b, ex_tup, ex_tupb, ex_lst, dAdd, dSub, dMul, dFdiv, dMod, dPow, dShl, dCmpI, dIsN, dNotN, dIsB, dNotB, isNon, dix_fr0, dix_fr1, dix_bx0, dix_bx1, dix_t0, dix_t1, dix_l0, mk_bx, mk_neg, mk_ab, ex_f1, ex_f2, ex_b1, ex_b2, two_fr, dAbs, dAug, dIpAdd, dFor, forD, dRng1, dItT, dItL, dSl, dSlL, dNoPart, dPart, dInt1, DL.start, List.map_cons, List.map_nil, List.cons_append, List.nil_append, List.length_cons, List.length_nil, List.replicate, List.replicate_zero, Nat.sub_self, Nat.reduceSub, Nat.reduceAdd, Nat.zero_add, List.set_cons_zero, List.set_cons_succ, List.getElem?_cons_zero, List.getElem?_cons_succ, List.append_nil, true_and, szl0, szl1, szl2, szl3, szl4, szl5, szl6, szl7, szl8, ltl0, ltl1, ltl2, ltl3, ltl4, ltl5, ex_some, ex_bl, ex_two, ex_three, ex_int, ex_intp, ex_ints, ex_int2,  Bool.false_eq_true, if_true, if_false, Bool.not_true, Bool.not_false, reduceIte] at this ⊢; exact this
  · have := fin a 0 ba z5; simp only [dSeq, dLt, dLe, dGt, dGe, dNext, dRet, dRetN, dDrop, dIfS, dAsg, dPar, dPar3, hName, dIf, dTest, dNot, dAnd, dOr, dAndV, dOrV, dNotV, dUn, dNeg, dOp, dFn, dCall, dCons, dNil, dC, dvar_eq, dTup, dLstS, dLstC, dChain, dRaise, dSettle, dApp, htup2, htup2b, ex_tup, ex_tupb, ex_lst, dAdd, dSub, dMul, dFdiv, dMod, dPow, dShl, dCmpI, dIsN, dNotN, dIsB, dNotB, isNon, dix_fr0, dix_fr1, dix_bx0, dix_bx1, dix_t0, dix_t1, dix_l0, mk_bx, mk_neg, mk_ab, ex_f1, ex_f2, ex_b1, ex_b2, two_fr, dAbs, dAug, dIpAdd, dFor, forD, dRng1, dItT, dItL, dSl, dSlL, dNoPart, dPart, dInt1, DL.start, List.map_cons, List.map_nil, List.cons_append, List.nil_append, List.length_cons, List.length_nil, List.replicate, List.replicate_zero, Nat.sub_self, Nat.reduceSub, Nat.reduceAdd, Nat.zero_add, List.set_cons_zero, List.set_cons_succ, List.getElem?_cons_zero, List.getElem?_cons_succ, List.append_nil, true_and, szl0, szl1, szl2, szl3, szl4, szl5, szl6, szl7, szl8, ltl0, ltl1, ltl2, ltl3, ltl4, ltl5, ex_some, ex_bl, ex_two, ex_three, ex_int, ex_intp, ex_ints, ex_int2,  Bool.false_eq_true, if_true, if_false, Bool.not_true, Bool.not_false, reduceIte] at this ⊢; exact this
  · have := fin a b ba bb; simp only [dSeq, dLt, dLe, dGt, dGe, dNext, dRet, dRetN, dDrop, dIfS, dAsg, dPar, dPar3, hName, dIf, dTest, dNot, dAnd, dOr, dAndV, dOrV, dNotV, dUn, dNeg, dOp, dFn, dCall, dCons, dNil, dC, dvar_eq, dTup, dLstS, dLstC, dChain, dRaise, dSettle, dApp, htup2, htup2b, ex_tup, ex_tupb, ex_lst, dAdd, dSub, dMul, dFdiv, dMod, dPow, dShl, dCmpI, dIsN, dNotN, dIsB, dNotB, isNon, dix_fr0, dix_fr1, dix_bx0, dix_bx1, dix_t0, dix_t1, dix_l0, mk_bx, mk_neg, mk_ab, ex_f1, ex_f2, ex_b1, ex_b2, two_fr, dAbs, dAug, dIpAdd, dFor, forD, dRng1, dItT, dItL, dSl, dSlL, dNoPart, dPart, dInt1, DL.start, List.map_cons, List.map_nil, List.cons_append, List.nil_append, List.length_cons, List.length_nil, List.replicate, List.replicate_zero, Nat.sub_self, Nat.reduceSub, Nat.reduceAdd, Nat.zero_add, List.set_cons_zero, List.set_cons_succ, List.getElem?_cons_zero, List.getElem?_cons_succ, List.append_nil, true_and, szl0, szl1, szl2, szl3, szl4, szl5, szl6, szl7, szl8, ltl0, ltl1, ltl2, ltl3, ltl4, ltl5, ex_some, ex_bl, ex_two, ex_three, ex_int, ex_intp, ex_ints, ex_int2,  Bool.false_eq_true, if_true, if_false, Bool.not_true, Bool.not_false, reduceIte] at this ⊢; exact this
theorem len__law_lies : ∀ xs M P Y, sp__law_lies xs M P Y → xs.length = 2 := by
  intro xs M P Y h
  unfold sp__law_lies at h
  split at h
  · rfl
  · exact h.elim
theorem rd__law_lies : ∀ xs M P Y, sp__law_lies xs M P Y → t__law_lies { nx := fun _ M' => P .non M', rt := P, ex := fun c _ M' => Y c M' } (DL.start 2 xs) M := by
  intro xs M P Y h
  unfold sp__law_lies at h
  split at h
  rotate_left
  · exact h.elim
  rename_i x y
  unfold t__law_lies
  obtain ⟨a, l, h, rfl, rfl, ba, bl, bh, q⟩ := h
  simp only [dSeq, dLt, dLe, dGt, dGe, dNext, dRet, dRetN, dDrop, dIfS, dAsg, dPar, dPar3, hName, dIf, dTest, dNot, dAnd, dOr, dAndV, dOrV, dNotV, dUn, dNeg, dOp, dFn, dCall, dCons, dNil, dC, dvar_eq, dTup, dLstS, dLstC, dChain, dRaise, dSettle, dApp, htup2, htup2b, ex_tup, ex_tupb, ex_lst, dAdd, dSub, dMul, dFdiv, dMod, dPow, dShl, dCmpI, dIsN, dNotN, dIsB, dNotB, isNon, dix_fr0, dix_fr1, dix_bx0, dix_bx1, dix_t0, dix_t1, dix_l0, mk_bx, mk_neg, mk_ab, ex_f1, ex_f2, ex_b1, ex_b2, two_fr, dAbs, dAug, dIpAdd, dFor, forD, dRng1, dItT, dItL, dSl, dSlL, dNoPart, dPart, dInt1, DL.start, List.map_cons, List.map_nil, List.cons_append, List.nil_append, List.length_cons, List.length_nil, List.replicate, List.replicate_zero, Nat.sub_self, Nat.reduceSub, Nat.reduceAdd, Nat.zero_add, List.set_cons_zero, List.set_cons_succ, List.getElem?_cons_zero, List.getElem?_cons_succ, List.append_nil, true_and, szl0, szl1, szl2, szl3, szl4, szl5, szl6, szl7, szl8, ltl0, ltl1, ltl2, ltl3, ltl4, ltl5, ex_some, ex_bl, ex_two, ex_three, ex_int, ex_intp, ex_ints, ex_int2,  Bool.false_eq_true, if_true, if_false, Bool.not_true, Bool.not_false, reduceIte, under ba bl, under bh ba]
  have e1 : (!decide (a < l)) = decide (l ≤ a) := by rw [← decide_not, decide_eq_decide]; exact Rat.not_lt
  have e2 : (!decide (h < a)) = decide (a ≤ h) := by rw [← decide_not, decide_eq_decide]; exact Rat.not_lt
  rw [e1]
  cases c : decide (l ≤ a)
  · rw [c, Bool.false_and] at q
    simpa using q
  · rw [c, Bool.true_and] at q
    simp only [if_true]
    rw [e2]
    exact q
theorem lies {a l h : Rat} {M : Mm} {P : QD} {Y : XD} (ba : SZ a) (bl : SZ l) (bh : SZ h) : sp__law_lies [fr a, bx l h] M P Y ↔ P (.bl (decide (l ≤ a) && decide (a ≤ h))) M := by
  constructor
  · rintro ⟨x, u, v, e1, e2, _, _, _, q⟩
    obtain ⟨f1, f2⟩ := bx_inj.mp e2
    rw [fr_inj.mp e1, f1, f2]
    exact q
  · intro q
    exact ⟨a, l, h, rfl, rfl, ba, bl, bh, q⟩
theorem len__law_within : ∀ xs M P Y, sp__law_within xs M P Y → xs.length = 2 := by
  intro xs M P Y h
  unfold sp__law_within at h
  split at h
  · rfl
  · exact h.elim
theorem rd__law_within : ∀ xs M P Y, sp__law_within xs M P Y → t__law_within { nx := fun _ M' => P .non M', rt := P, ex := fun c _ M' => Y c M' } (DL.start 3 xs) M := by
  intro xs M P Y h
  unfold sp__law_within at h
  split at h
  rotate_left
  · exact h.elim
  rename_i p x
  unfold t__law_within
  obtain ⟨l, h, rfl, bl, bh, hl, k, hh, q⟩ := h
  simp only [dSeq, dLt, dLe, dGt, dGe, dNext, dRet, dRetN, dDrop, dIfS, dAsg, dPar, dPar3, hName, dIf, dTest, dNot, dAnd, dOr, dAndV, dOrV, dNotV, dUn, dNeg, dOp, dFn, dCall, dCons, dNil, dC, dvar_eq, dTup, dLstS, dLstC, dChain, dRaise, dSettle, dApp, htup2, htup2b, ex_tup, ex_tupb, ex_lst, dAdd, dSub, dMul, dFdiv, dMod, dPow, dShl, dCmpI, dIsN, dNotN, dIsB, dNotB, isNon, dix_fr0, dix_fr1, dix_bx0, dix_bx1, dix_t0, dix_t1, dix_l0, mk_bx, mk_neg, mk_ab, ex_f1, ex_f2, ex_b1, ex_b2, two_fr, dAbs, dAug, dIpAdd, dFor, forD, dRng1, dItT, dItL, dSl, dSlL, dNoPart, dPart, dInt1, DL.start, List.map_cons, List.map_nil, List.cons_append, List.nil_append, List.length_cons, List.length_nil, List.replicate, List.replicate_zero, Nat.sub_self, Nat.reduceSub, Nat.reduceAdd, Nat.zero_add, List.set_cons_zero, List.set_cons_succ, List.getElem?_cons_zero, List.getElem?_cons_succ, List.append_nil, true_and, szl0, szl1, szl2, szl3, szl4, szl5, szl6, szl7, szl8, ltl0, ltl1, ltl2, ltl3, ltl4, ltl5, ex_some, ex_bl, ex_two, ex_three, ex_int, ex_intp, ex_ints, ex_int2,  Bool.false_eq_true, if_true, if_false, Bool.not_true, Bool.not_false, reduceIte, sp__law_draw]
  refine ⟨by decide, by decide, k, hh, fun d hd z1 z2 g => ?_⟩
  have s1 : (4 - d).natAbs < 2 ^ 3 := by omega
  have s2 : d.natAbs < 2 ^ 3 := by omega
  have s4 : (4 : Int).natAbs < 2 ^ 3 := by decide
  simp only [dSeq, dLt, dLe, dGt, dGe, dNext, dRet, dRetN, dDrop, dIfS, dAsg, dPar, dPar3, hName, dIf, dTest, dNot, dAnd, dOr, dAndV, dOrV, dNotV, dUn, dNeg, dOp, dFn, dCall, dCons, dNil, dC, dvar_eq, dTup, dLstS, dLstC, dChain, dRaise, dSettle, dApp, htup2, htup2b, ex_tup, ex_tupb, ex_lst, dAdd, dSub, dMul, dFdiv, dMod, dPow, dShl, dCmpI, dIsN, dNotN, dIsB, dNotB, isNon, dix_fr0, dix_fr1, dix_bx0, dix_bx1, dix_t0, dix_t1, dix_l0, mk_bx, mk_neg, mk_ab, ex_f1, ex_f2, ex_b1, ex_b2, two_fr, dAbs, dAug, dIpAdd, dFor, forD, dRng1, dItT, dItL, dSl, dSlL, dNoPart, dPart, dInt1, DL.start, List.map_cons, List.map_nil, List.cons_append, List.nil_append, List.length_cons, List.length_nil, List.replicate, List.replicate_zero, Nat.sub_self, Nat.reduceSub, Nat.reduceAdd, Nat.zero_add, List.set_cons_zero, List.set_cons_succ, List.getElem?_cons_zero, List.getElem?_cons_succ, List.append_nil, true_and, szl0, szl1, szl2, szl3, szl4, szl5, szl6, szl7, szl8, ltl0, ltl1, ltl2, ltl3, ltl4, ltl5, ex_some, ex_bl, ex_two, ex_three, ex_int, ex_intp, ex_ints, ex_int2,  Bool.false_eq_true, if_true, if_false, Bool.not_true, Bool.not_false, reduceIte, ltimes_raw (d := 4) (c := 4 - d) (bl.mono (by decide)) (by decide) (up_pow s1 (by decide)) (by exact up_pow s4 (by decide)), ltimes_raw (d := 4) (c := d) (bh.mono (by decide)) (by decide) (up_pow s2 (by decide)) (by exact up_pow s4 (by decide)), sp__law_plus]
  have b1 : bt (l * Rat.divInt (4 - d) 4) 8 := bl.mul (bt_divInt (by decide) s1 s4)
  have b2 : bt (h * Rat.divInt d 4) 8 := bh.mul (bt_divInt (by decide) s2 s4)
  refine ⟨b1.mono (by decide), b2.mono (by decide), q _ hd ((b1.add b2).mono (by decide)) ?_ ?_ g⟩
  · rw [Rat.divInt_eq_div, Rat.divInt_eq_div]
    have hd : d = 0 ∨ d = 1 ∨ d = 2 ∨ d = 3 ∨ d = 4 := by omega
    rcases hd with rfl | rfl | rfl | rfl | rfl <;> simp <;> grind
  · rw [Rat.divInt_eq_div, Rat.divInt_eq_div]
    have hd : d = 0 ∨ d = 1 ∨ d = 2 ∨ d = 3 ∨ d = 4 := by omega
    rcases hd with rfl | rfl | rfl | rfl | rfl <;> simp <;> grind
end K07

set_option Elab.async false
set_option linter.all false
set_option maxRecDepth 100000
set_option maxHeartbeats 1000000
namespace K07
open PySem PySem.Spec PyProof.Rows L2 DL
/-! the promises at boxes -/
section
variable {cl : Cls} {l h l' h' a b : Rat} {M : Mm} {P : QD} {Y : XD}
theorem two_ok {f : Rat → Rat → Rat} (ha : SZ a) (hb : SZ b) : sp_two f [fr a, fr b] M P Y ↔ P (fr (f a b)) M := two_fr.trans ⟨fun z => z.2.2, fun z => ⟨ha, hb, z⟩⟩
theorem bb_ok {f g : Rat → Rat → Rat → Rat → Rat} (h1 : SZ l) (h2 : SZ h) (h3 : SZ l') (h4 : SZ h') : sp_bb f g [bx l h, bx l' h'] M P Y ↔ P (bx (f l h l' h') (g l h l' h')) M :=
  (show sp_bb f g [bx l h, bx l' h'] M P Y ↔ _ from ex_b2).trans ⟨fun z => z.2.2.2.2, fun z => ⟨h1, h2, h3, h4, z⟩⟩
theorem b_ok {f g : Rat → Rat → Rat} (h1 : SZ l) (h2 : SZ h) : sp_b f g [bx l h] M P Y ↔ P (bx (f l h) (g l h)) M :=
  (show sp_b f g [bx l h] M P Y ↔ _ from ex_b1).trans ⟨fun z => z.2.2, fun z => ⟨h1, h2, z⟩⟩
theorem tm_ok (h1 : bt l 900) (h2 : bt h 900) (h3 : bt l' 900) (h4 : bt h' 900) : sp_raw_times [bx l h, bx l' h'] M P Y ↔ P (bx (timesL l h l' h') (timesH l h l' h')) M :=
  (show sp_raw_times [bx l h, bx l' h'] M P Y ↔ _ from ex_b2).trans ⟨fun z => z.2.2.2.2, fun z => ⟨h1, h2, h3, h4, z⟩⟩
theorem ov_ok (h1 : bt l 900) (h2 : bt h 900) (h3 : bt l' 900) (h4 : bt h' 900) (hl : l' ≤ h') : sp_raw_over [bx l h, bx l' h'] M P Y ↔ P (overD l h l' h') M :=
  (show sp_raw_over [bx l h, bx l' h'] M P Y ↔ _ from ex_b2).trans ⟨fun z => z.2.2.2.2.2, fun z => ⟨h1, h2, h3, h4, hl, z⟩⟩
theorem row2 {f : Rat → Rat → Rat} (ha : SZ a) (hb : SZ b) : sp_row f [.lst [fr a, fr b]] M P Y ↔ P (fr (f a b)) M := by
  constructor
  · rintro ⟨r, rs, e, _, _, q⟩
    cases rs with
    | nil => simp at e
    | cons s t => cases t with
      | cons _ _ => simp at e
      | nil =>
        injection e with e1 e2
        injection e2 with e2 _
        rw [fr_inj.mp e1, fr_inj.mp e2]
        exact q
  · intro q
    exact ⟨a, [b], rfl, ha, by simpa using hb, q⟩
theorem box2_ok {f : Rat → Rat → Rat → Rat → D} (hl : l ≤ h) (hl' : l' ≤ h') (h1 : bt l 900) (h2 : bt h 900) (h3 : bt l' 900) (h4 : bt h' 900) : sp_box2 cl 900 f [bx l h, bx l' h'] M P Y ↔ P (f l h l' h') M := by
  have e1 : isBx (bx l h) = true := by rw [isBx_bx]; exact decide_eq_true hl
  have e2 : isBx (bx l' h') = true := by rw [isBx_bx]; exact decide_eq_true hl'
  constructor
  · rintro ⟨_, _, _, z⟩
    obtain ⟨a, b, c, d, f1, f2, _, _, _, _, _, _, q⟩ := z (by rw [e1, e2]; rfl)
    obtain ⟨g1, g2⟩ := bx_inj.mp f1
    obtain ⟨g3, g4⟩ := bx_inj.mp f2
    rw [g1, g2, g3, g4]
    exact q
  · intro q
    exact ⟨ty3_bx (s9 h1) (s9 h2), ty3_bx (s9 h3) (s9 h4), fun z => (by rw [e1, e2] at z; cases z), fun _ => ⟨l, h, l', h', rfl, rfl, h1, h2, h3, h4, hl, hl', q⟩⟩
theorem box1_ok {f : Rat → Rat → D} (hl : l ≤ h) (h1 : SZ l) (h2 : SZ h) : sp_box1 cl f [bx l h] M P Y ↔ P (f l h) M := by
  have e1 : isBx (bx l h) = true := by rw [isBx_bx]; exact decide_eq_true hl
  constructor
  · rintro ⟨_, _, z⟩
    obtain ⟨a, b, f1, _, _, _, q⟩ := z e1
    obtain ⟨g1, g2⟩ := bx_inj.mp f1
    rw [g1, g2]
    exact q
  · intro q
    exact ⟨ty3_bx h1 h2, fun z => (by rw [e1] at z; cases z), fun _ => ⟨l, h, rfl, h1, h2, hl, q⟩⟩
theorem isbox_ok (hl : l ≤ h) (h1 : SZ l) (h2 : SZ h) : sp_is_box [bx l h] M P Y ↔ P (.bl true) M := by
  show Ty3 (bx l h) ∧ P (.bl (isBx (bx l h))) M ↔ _
  rw [isBx_bx, decide_eq_true hl]
  exact ⟨fun z => z.2, fun z => ⟨ty3_bx h1 h2, z⟩⟩
end
/-! lists that change, and are settled -/
theorem app_ref {M : Mm} {p : Addr} {xs : List D} {R : Addr → Prop} : (∃ q ds0, D.ref p = D.ref q ∧ mup M p (.lst xs) q = some (.lst ds0) ∧ R q) ↔ R p := by
  constructor
  · rintro ⟨q, _, e, _, r⟩
    cases e
    exact r
  · intro r
    exact ⟨p, xs, rfl, mup_same, r⟩
theorem app_lst {M : Mm} {p : Addr} {xs : List D} {R : List D → Prop} : (∃ ds, mup M p (.lst xs) p = some (.lst ds) ∧ ds.length < sizeLine ∧ R ds) ↔ xs.length < sizeLine ∧ R xs := by
  constructor
  · rintro ⟨ds, e, r⟩
    rw [mup_same] at e
    cases e
    exact r
  · intro r
    exact ⟨xs, mup_same, r⟩
theorem set_ref {M : Mm} {p : Addr} {xs : List D} {R : Addr → List D → Prop} : (∃ q ds, some (some (D.ref p)) = some (some (D.ref q)) ∧ mup M p (.lst xs) q = some (.lst ds) ∧ R q ds) ↔ R p xs := by
  constructor
  · rintro ⟨q, ds, e, e2, r⟩
    cases e
    rw [mup_same] at e2
    cases e2
    exact r
  · intro r
    exact ⟨p, xs, rfl, mup_same, r⟩
theorem dne_six {a1 a2 b1 b2 c1 c2 d1 d2 e1 e2 f1 f2 : Rat} {M : Mm} {P : QD} (q : P (.bl false) M) : dNe (.lst [bx a1 a2, bx b1 b2, bx c1 c2, bx d1 d2, bx e1 e2, bx f1 f2]) (.lst [bx a1 a2, bx b1 b2, bx c1 c2, bx d1 d2, bx e1 e2, bx f1 f2]) M P := by
  refine dne_py (e := .list [pyB a1 a2, pyB b1 b2, pyB c1 c2, pyB d1 d2, pyB e1 e2, pyB f1 f2]) (fun i e => by cases e) (fun i e => by cases e) ?_ ?_ q
  · simp only [toPy, toPyL, toPy_bx]
  · unfold pyB pyF SeqAt.shaped
    simp [PyData.canLay0, PyData.canLayAll0, PyData.depth, PyData.depthAll]
theorem is_non_bx {l h : Rat} : isNon (bx l h) = false := rfl
theorem tL_bt {l h l' h' : Rat} (b1 : bt l 5) (b2 : bt h 5) (b3 : bt l' 5) (b4 : bt h' 5) : SZ (timesL l h l' h') := by
  unfold timesL lo4
  exact (((b1.mul b3).mn (b1.mul b4)).mn (b2.mul b3)).mn (b2.mul b4) |> fun z => z.mono (by decide)
theorem tH_bt {l h l' h' : Rat} (b1 : bt l 5) (b2 : bt h 5) (b3 : bt l' 5) (b4 : bt h' 5) : SZ (timesH l h l' h') := by
  unfold timesH hi4
  exact (((b1.mul b3).mx (b1.mul b4)).mx (b2.mul b3)).mx (b2.mul b4) |> fun z => z.mono (by decide)
theorem oL_bt {l h l' h' : Rat} (b1 : bt l 5) (b2 : bt h 5) (b3 : bt l' 5) (b4 : bt h' 5) (z1 : l' ≠ 0) (z2 : h' ≠ 0) : bt (overL l h l' h') 10 := by
  unfold overL lo4
  exact (((b1.div b3 z1).mn (b1.div b4 z2)).mn (b2.div b3 z1)).mn (b2.div b4 z2)
theorem oH_bt {l h l' h' : Rat} (b1 : bt l 5) (b2 : bt h 5) (b3 : bt l' 5) (b4 : bt h' 5) (z1 : l' ≠ 0) (z2 : h' ≠ 0) : bt (overH l h l' h') 10 := by
  unfold overH hi4
  exact (((b1.div b3 z1).mx (b1.div b4 z2)).mx (b2.div b3 z1)).mx (b2.div b4 z2)
theorem len__law_are_two_right {cl : Cls} : ∀ xs M P Y, sp__law_are_two_right xs M P Y → xs.length = 3 := by
  intro xs M P Y h
  unfold sp__law_are_two_right at h
  split at h
  · rfl
  · exact h.elim
theorem rd__law_are_two_right {cl : Cls} : ∀ xs M P Y, sp__law_are_two_right xs M P Y → t__law_are_two_right cl { nx := fun _ M' => P .non M', rt := P, ex := fun c _ M' => Y c M' } (DL.start 11 xs) M := by
  intro xs M P Y h
  unfold sp__law_are_two_right at h
  split at h
  rotate_left
  · exact h.elim
  rename_i p x y
  unfold t__law_are_two_right
  obtain ⟨l, h, l', h', rfl, rfl, b1, b2, b3, b4, hl, hl', k, hh, q⟩ := h
  have n1 : bt l 900 := b1.mono (by decide)
  have n2 : bt h 900 := b2.mono (by decide)
  have n3 : bt l' 900 := b3.mono (by decide)
  have n4 : bt h' 900 := b4.mono (by decide)
  have m3 : SZ (-l') := (s9 n3).neg
  have m4 : SZ (-h') := (s9 n4).neg
  simp only [dSeq, dLt, dLe, dGt, dGe, dNext, dRet, dRetN, dDrop, dIfS, dAsg, dPar, dPar3, hName, dIf, dTest, dNot, dAnd, dOr, dAndV, dOrV, dNotV, dUn, dNeg, dOp, dFn, dCall, dCons, dNil, dC, dvar_eq, dTup, dLstS, dLstC, dChain, dRaise, dSettle, dApp, htup2, htup2b, ex_tup, ex_tupb, ex_lst, dAdd, dSub, dMul, dFdiv, dMod, dPow, dShl, dCmpI, dIsN, dNotN, dIsB, dNotB, isNon, dix_fr0, dix_fr1, dix_bx0, dix_bx1, dix_t0, dix_t1, dix_l0, mk_bx, mk_neg, mk_ab, ex_f1, ex_f2, ex_b1, ex_b2, two_fr, dAbs, dAug, dIpAdd, dFor, forD, dRng1, dItT, dItL, dSl, dSlL, dNoPart, dPart, dInt1, DL.start, List.map_cons, List.map_nil, List.cons_append, List.nil_append, List.length_cons, List.length_nil, List.replicate, List.replicate_zero, Nat.sub_self, Nat.reduceSub, Nat.reduceAdd, Nat.zero_add, List.set_cons_zero, List.set_cons_succ, List.getElem?_cons_zero, List.getElem?_cons_succ, List.append_nil, true_and, szl0, szl1, szl2, szl3, szl4, szl5, szl6, szl7, szl8, ltl0, ltl1, ltl2, ltl3, ltl4, ltl5, ex_some, ex_bl, ex_two, ex_three, ex_int, ex_intp, ex_ints, ex_int2,  Bool.false_eq_true, if_true, if_false, Bool.not_true, Bool.not_false, reduceIte, sp__law_within, ex_b1]
  refine ⟨b1, b2, hl, k + 1, hh, fun a hd1 ba la ah g1 => ⟨b3, b4, hl', k, hd_mup g1, fun b hd2 bb lb bh g2 => ?_⟩⟩
  have sa : SZ a := ba.mono (by decide)
  have sb : SZ b := bb.mono (by decide)
  rw [mup_mup]
  simp only [dSeq, dLt, dLe, dGt, dGe, dNext, dRet, dRetN, dDrop, dIfS, dAsg, dPar, dPar3, hName, dIf, dTest, dNot, dAnd, dOr, dAndV, dOrV, dNotV, dUn, dNeg, dOp, dFn, dCall, dCons, dNil, dC, dvar_eq, dTup, dLstS, dLstC, dChain, dRaise, dSettle, dApp, htup2, htup2b, ex_tup, ex_tupb, ex_lst, dAdd, dSub, dMul, dFdiv, dMod, dPow, dShl, dCmpI, dIsN, dNotN, dIsB, dNotB, isNon, dix_fr0, dix_fr1, dix_bx0, dix_bx1, dix_t0, dix_t1, dix_l0, mk_bx, mk_neg, mk_ab, ex_f1, ex_f2, ex_b1, ex_b2, two_fr, dAbs, dAug, dIpAdd, dFor, forD, dRng1, dItT, dItL, dSl, dSlL, dNoPart, dPart, dInt1, DL.start, List.map_cons, List.map_nil, List.cons_append, List.nil_append, List.length_cons, List.length_nil, List.replicate, List.replicate_zero, Nat.sub_self, Nat.reduceSub, Nat.reduceAdd, Nat.zero_add, List.set_cons_zero, List.set_cons_succ, List.getElem?_cons_zero, List.getElem?_cons_succ, List.append_nil, true_and, szl0, szl1, szl2, szl3, szl4, szl5, szl6, szl7, szl8, ltl0, ltl1, ltl2, ltl3, ltl4, ltl5, ex_some, ex_bl, ex_two, ex_three, ex_int, ex_intp, ex_ints, ex_int2,  Bool.false_eq_true, if_true, if_false, Bool.not_true, Bool.not_false, reduceIte, sp__law_box_plus, sp__law_box_turn, sp_raw_add, sp_raw_turn, sp__law_box_times, b_ok (s9 n3) (s9 n4), bb_ok (s9 n1) (s9 n2) (s9 n3) (s9 n4), bb_ok (s9 n1) (s9 n2) m4 m3, tm_ok n1 n2 n3 n4]
  intro p2 hp2
  simp only [dSeq, dLt, dLe, dGt, dGe, dNext, dRet, dRetN, dDrop, dIfS, dAsg, dPar, dPar3, hName, dIf, dTest, dNot, dAnd, dOr, dAndV, dOrV, dNotV, dUn, dNeg, dOp, dFn, dCall, dCons, dNil, dC, dvar_eq, dTup, dLstS, dLstC, dChain, dRaise, dSettle, dApp, htup2, htup2b, ex_tup, ex_tupb, ex_lst, dAdd, dSub, dMul, dFdiv, dMod, dPow, dShl, dCmpI, dIsN, dNotN, dIsB, dNotB, isNon, dix_fr0, dix_fr1, dix_bx0, dix_bx1, dix_t0, dix_t1, dix_l0, mk_bx, mk_neg, mk_ab, ex_f1, ex_f2, ex_b1, ex_b2, two_fr, dAbs, dAug, dIpAdd, dFor, forD, dRng1, dItT, dItL, dSl, dSlL, dNoPart, dPart, dInt1, DL.start, List.map_cons, List.map_nil, List.cons_append, List.nil_append, List.length_cons, List.length_nil, List.replicate, List.replicate_zero, Nat.sub_self, Nat.reduceSub, Nat.reduceAdd, Nat.zero_add, List.set_cons_zero, List.set_cons_succ, List.getElem?_cons_zero, List.getElem?_cons_succ, List.append_nil, true_and, szl0, szl1, szl2, szl3, szl4, szl5, szl6, szl7, szl8, ltl0, ltl1, ltl2, ltl3, ltl4, ltl5, ex_some, ex_bl, ex_two, ex_three, ex_int, ex_intp, ex_ints, ex_int2,  Bool.false_eq_true, if_true, if_false, Bool.not_true, Bool.not_false, reduceIte, app_ref, sp__law_most, sp__law_least, row2 (s9 n1) (s9 n3), row2 (s9 n2) (s9 n4), app_lst, mup_mup, set_ref, mdel_mup hp2]
  simp only [dSeq, dLt, dLe, dGt, dGe, dNext, dRet, dRetN, dDrop, dIfS, dAsg, dPar, dPar3, hName, dIf, dTest, dNot, dAnd, dOr, dAndV, dOrV, dNotV, dUn, dNeg, dOp, dFn, dCall, dCons, dNil, dC, dvar_eq, dTup, dLstS, dLstC, dChain, dRaise, dSettle, dApp, htup2, htup2b, ex_tup, ex_tupb, ex_lst, dAdd, dSub, dMul, dFdiv, dMod, dPow, dShl, dCmpI, dIsN, dNotN, dIsB, dNotB, isNon, dix_fr0, dix_fr1, dix_bx0, dix_bx1, dix_t0, dix_t1, dix_l0, mk_bx, mk_neg, mk_ab, ex_f1, ex_f2, ex_b1, ex_b2, two_fr, dAbs, dAug, dIpAdd, dFor, forD, dRng1, dItT, dItL, dSl, dSlL, dNoPart, dPart, dInt1, DL.start, List.map_cons, List.map_nil, List.cons_append, List.nil_append, List.length_cons, List.length_nil, List.replicate, List.replicate_zero, Nat.sub_self, Nat.reduceSub, Nat.reduceAdd, Nat.zero_add, List.set_cons_zero, List.set_cons_succ, List.getElem?_cons_zero, List.getElem?_cons_succ, List.append_nil, true_and, szl0, szl1, szl2, szl3, szl4, szl5, szl6, szl7, szl8, ltl0, ltl1, ltl2, ltl3, ltl4, ltl5, ex_some, ex_bl, ex_two, ex_three, ex_int, ex_intp, ex_ints, ex_int2,  Bool.false_eq_true, if_true, if_false, Bool.not_true, Bool.not_false, reduceIte, sp_box_add, sp_box_take, sp_box_times, sp_box_more, sp_box_less, sp_box_join, box2_ok (cl := cl) hl hl' n1 n2 n3 n4]
  refine dne_six ?_
  simp only [dSeq, dLt, dLe, dGt, dGe, dNext, dRet, dRetN, dDrop, dIfS, dAsg, dPar, dPar3, hName, dIf, dTest, dNot, dAnd, dOr, dAndV, dOrV, dNotV, dUn, dNeg, dOp, dFn, dCall, dCons, dNil, dC, dvar_eq, dTup, dLstS, dLstC, dChain, dRaise, dSettle, dApp, htup2, htup2b, ex_tup, ex_tupb, ex_lst, dAdd, dSub, dMul, dFdiv, dMod, dPow, dShl, dCmpI, dIsN, dNotN, dIsB, dNotB, isNon, dix_fr0, dix_fr1, dix_bx0, dix_bx1, dix_t0, dix_t1, dix_l0, mk_bx, mk_neg, mk_ab, ex_f1, ex_f2, ex_b1, ex_b2, two_fr, dAbs, dAug, dIpAdd, dFor, forD, dRng1, dItT, dItL, dSl, dSlL, dNoPart, dPart, dInt1, DL.start, List.map_cons, List.map_nil, List.cons_append, List.nil_append, List.length_cons, List.length_nil, List.replicate, List.replicate_zero, Nat.sub_self, Nat.reduceSub, Nat.reduceAdd, Nat.zero_add, List.set_cons_zero, List.set_cons_succ, List.getElem?_cons_zero, List.getElem?_cons_succ, List.append_nil, true_and, szl0, szl1, szl2, szl3, szl4, szl5, szl6, szl7, szl8, ltl0, ltl1, ltl2, ltl3, ltl4, ltl5, ex_some, ex_bl, ex_two, ex_three, ex_int, ex_intp, ex_ints, ex_int2,  Bool.false_eq_true, if_true, if_false, Bool.not_true, Bool.not_false, reduceIte, sp__law_plus, sp__law_less, two_ok sa sb, ltimes sa sb, sp__law_most, sp__law_least, row2 sa sb]
  simp only [dSeq, dLt, dLe, dGt, dGe, dNext, dRet, dRetN, dDrop, dIfS, dAsg, dPar, dPar3, hName, dIf, dTest, dNot, dAnd, dOr, dAndV, dOrV, dNotV, dUn, dNeg, dOp, dFn, dCall, dCons, dNil, dC, dvar_eq, dTup, dLstS, dLstC, dChain, dRaise, dSettle, dApp, htup2, htup2b, ex_tup, ex_tupb, ex_lst, dAdd, dSub, dMul, dFdiv, dMod, dPow, dShl, dCmpI, dIsN, dNotN, dIsB, dNotB, isNon, dix_fr0, dix_fr1, dix_bx0, dix_bx1, dix_t0, dix_t1, dix_l0, mk_bx, mk_neg, mk_ab, ex_f1, ex_f2, ex_b1, ex_b2, two_fr, dAbs, dAug, dIpAdd, dFor, forD, dRng1, dItT, dItL, dSl, dSlL, dNoPart, dPart, dInt1, DL.start, List.map_cons, List.map_nil, List.cons_append, List.nil_append, List.length_cons, List.length_nil, List.replicate, List.replicate_zero, Nat.sub_self, Nat.reduceSub, Nat.reduceAdd, Nat.zero_add, List.set_cons_zero, List.set_cons_succ, List.getElem?_cons_zero, List.getElem?_cons_succ, List.append_nil, true_and, szl0, szl1, szl2, szl3, szl4, szl5, szl6, szl7, szl8, ltl0, ltl1, ltl2, ltl3, ltl4, ltl5, ex_some, ex_bl, ex_two, ex_three, ex_int, ex_intp, ex_ints, ex_int2,  Bool.false_eq_true, if_true, if_false, Bool.not_true, Bool.not_false, reduceIte, dLc, dZip]
  refine ⟨_, _, .inl rfl, ?_⟩
  have t1 := times_in la ah lb bh
  have zs : ∀ d ∈ zipD [fr (a + b), fr (a - b), fr (a * b), fr (mx a b), fr (mn a b), fr a]
      [bx (l + l') (h + h'), bx (l + -h') (h + -l'), bx (timesL l h l' h') (timesH l h l' h'), bx (mx l l') (mx h h'), bx (mn l l') (mn h h'), bx (mn l l') (mx h h')],
      ∃ x u v : Rat, d = .tup [fr x, bx u v] ∧ SZ x ∧ SZ u ∧ SZ v ∧ u ≤ x ∧ x ≤ v := fun d hd => by
    simp only [zipD, List.zipWith_cons_cons, List.zipWith_nil_left, List.mem_cons, List.not_mem_nil, or_false] at hd
    rcases hd with rfl | rfl | rfl | rfl | rfl | rfl
    · exact ⟨_, _, _, rfl, (ba.add bb).mono (by decide), (b1.add b3).mono (by decide), (b2.add b4).mono (by decide), by grind, by grind⟩
    · exact ⟨_, _, _, rfl, (ba.sub bb).mono (by decide), (b1.add b4.neg).mono (by decide), (b2.add b3.neg).mono (by decide), by grind, by grind⟩
    · exact ⟨_, _, _, rfl, (ba.mul bb).mono (by decide), tL_bt b1 b2 b3 b4, tH_bt b1 b2 b3 b4, t1.1, t1.2⟩
    · exact ⟨_, _, _, rfl, sa.mx sb, (s9 n1).mx (s9 n3), (s9 n2).mx (s9 n4), by unfold mx; grind, by unfold mx; grind⟩
    · exact ⟨_, _, _, rfl, sa.mn sb, (s9 n1).mn (s9 n3), (s9 n2).mn (s9 n4), by unfold mn; grind, by unfold mn; grind⟩
    · exact ⟨_, _, _, rfl, sa, (s9 n1).mn (s9 n3), (s9 n2).mx (s9 n4), by unfold mn; grind, by unfold mx; grind⟩
  refine lc_map (fun _ => .bl true) (fun d hd M P z => ?_) ?_ ?_
  · obtain ⟨x, u, v, rfl, e1, e2, e3, e4, e5⟩ := zs d hd
    have c1 : decide (u ≤ x) = true := decide_eq_true e4
    have c2 : decide (x ≤ v) = true := decide_eq_true e5
    simp only [dSeq, dLt, dLe, dGt, dGe, dNext, dRet, dRetN, dDrop, dIfS, dAsg, dPar, dPar3, hName, dIf, dTest, dNot, dAnd, dOr, dAndV, dOrV, dNotV, dUn, dNeg, dOp, dFn, dCall, dCons, dNil, dC, dvar_eq, dTup, dLstS, dLstC, dChain, dRaise, dSettle, dApp, htup2, htup2b, ex_tup, ex_tupb, ex_lst, dAdd, dSub, dMul, dFdiv, dMod, dPow, dShl, dCmpI, dIsN, dNotN, dIsB, dNotB, isNon, dix_fr0, dix_fr1, dix_bx0, dix_bx1, dix_t0, dix_t1, dix_l0, mk_bx, mk_neg, mk_ab, ex_f1, ex_f2, ex_b1, ex_b2, two_fr, dAbs, dAug, dIpAdd, dFor, forD, dRng1, dItT, dItL, dSl, dSlL, dNoPart, dPart, dInt1, DL.start, List.map_cons, List.map_nil, List.cons_append, List.nil_append, List.length_cons, List.length_nil, List.replicate, List.replicate_zero, Nat.sub_self, Nat.reduceSub, Nat.reduceAdd, Nat.zero_add, List.set_cons_zero, List.set_cons_succ, List.getElem?_cons_zero, List.getElem?_cons_succ, List.append_nil, true_and, szl0, szl1, szl2, szl3, szl4, szl5, szl6, szl7, szl8, ltl0, ltl1, ltl2, ltl3, ltl4, ltl5, ex_some, ex_bl, ex_two, ex_three, ex_int, ex_intp, ex_ints, ex_int2,  Bool.false_eq_true, if_true, if_false, Bool.not_true, Bool.not_false, reduceIte, dwipe, lies e1 e2 e3, isbox_ok (Rat.le_trans e4 e5) e2 e3, c1, c2, Bool.and_self]
    exact z
  · exact sz_line (by simp [zipD])
  · intro p3 hp3
    rw [mdel_mup hp3]
    refine ⟨List.replicate 6 true, rfl, ?_⟩
    simp only [dSeq, dLt, dLe, dGt, dGe, dNext, dRet, dRetN, dDrop, dIfS, dAsg, dPar, dPar3, hName, dIf, dTest, dNot, dAnd, dOr, dAndV, dOrV, dNotV, dUn, dNeg, dOp, dFn, dCall, dCons, dNil, dC, dvar_eq, dTup, dLstS, dLstC, dChain, dRaise, dSettle, dApp, htup2, htup2b, ex_tup, ex_tupb, ex_lst, dAdd, dSub, dMul, dFdiv, dMod, dPow, dShl, dCmpI, dIsN, dNotN, dIsB, dNotB, isNon, dix_fr0, dix_fr1, dix_bx0, dix_bx1, dix_t0, dix_t1, dix_l0, mk_bx, mk_neg, mk_ab, ex_f1, ex_f2, ex_b1, ex_b2, two_fr, dAbs, dAug, dIpAdd, dFor, forD, dRng1, dItT, dItL, dSl, dSlL, dNoPart, dPart, dInt1, DL.start, List.map_cons, List.map_nil, List.cons_append, List.nil_append, List.length_cons, List.length_nil, List.replicate, List.replicate_zero, Nat.sub_self, Nat.reduceSub, Nat.reduceAdd, Nat.zero_add, List.set_cons_zero, List.set_cons_succ, List.getElem?_cons_zero, List.getElem?_cons_succ, List.append_nil, true_and, szl0, szl1, szl2, szl3, szl4, szl5, szl6, szl7, szl8, ltl0, ltl1, ltl2, ltl3, ltl4, ltl5, ex_some, ex_bl, ex_two, ex_three, ex_int, ex_intp, ex_ints, ex_int2,  Bool.false_eq_true, if_true, if_false, Bool.not_true, Bool.not_false, reduceIte, show List.all [true, true, true, true, true, true] id = true from rfl, sp__law_box_over, ov_ok n1 n2 n3 n4 hl', sp_box_over, box2_ok (cl := cl) hl hl' n1 n2 n3 n4]
    have q2 := q hd2 g2
    unfold overD
    cases c : nought l' h'
    · simp only [Bool.false_eq_true, if_false]
      obtain ⟨z1, z2⟩ := nought_off hl' c
      have i := over_in la ah lb bh c
      have o1 : bt (overL l h l' h') 10 := oL_bt b1 b2 b3 b4 z1 z2
      have o2 : bt (overH l h l' h') 10 := oH_bt b1 b2 b3 b4 z1 z2
      have b0 : b ≠ 0 := fun z => by
        rw [z] at lb bh
        unfold nought at c
        simp [lb, bh] at c
      have c1 : decide (overL l h l' h' ≤ a / b) = true := decide_eq_true i.1
      have c2 : decide (a / b ≤ overH l h l' h') = true := decide_eq_true i.2
      refine drepr_bx (o1.mono (by decide)) (o2.mono (by decide)) ?_
      refine drepr_bx (o1.mono (by decide)) (o2.mono (by decide)) ?_
      refine dne_str ⟨false, rfl, ?_⟩
      rw [if_neg Bool.false_ne_true]
      show sp__law_by [fr a, fr b] _ _ _
      simp only [dSeq, dLt, dLe, dGt, dGe, dNext, dRet, dRetN, dDrop, dIfS, dAsg, dPar, dPar3, hName, dIf, dTest, dNot, dAnd, dOr, dAndV, dOrV, dNotV, dUn, dNeg, dOp, dFn, dCall, dCons, dNil, dC, dvar_eq, dTup, dLstS, dLstC, dChain, dRaise, dSettle, dApp, htup2, htup2b, ex_tup, ex_tupb, ex_lst, dAdd, dSub, dMul, dFdiv, dMod, dPow, dShl, dCmpI, dIsN, dNotN, dIsB, dNotB, isNon, dix_fr0, dix_fr1, dix_bx0, dix_bx1, dix_t0, dix_t1, dix_l0, mk_bx, mk_neg, mk_ab, ex_f1, ex_f2, ex_b1, ex_b2, two_fr, dAbs, dAug, dIpAdd, dFor, forD, dRng1, dItT, dItL, dSl, dSlL, dNoPart, dPart, dInt1, DL.start, List.map_cons, List.map_nil, List.cons_append, List.nil_append, List.length_cons, List.length_nil, List.replicate, List.replicate_zero, Nat.sub_self, Nat.reduceSub, Nat.reduceAdd, Nat.zero_add, List.set_cons_zero, List.set_cons_succ, List.getElem?_cons_zero, List.getElem?_cons_succ, List.append_nil, true_and, szl0, szl1, szl2, szl3, szl4, szl5, szl6, szl7, szl8, ltl0, ltl1, ltl2, ltl3, ltl4, ltl5, ex_some, ex_bl, ex_two, ex_three, ex_int, ex_intp, ex_ints, ex_int2,  Bool.false_eq_true, if_true, if_false, Bool.not_true, Bool.not_false, reduceIte, sp__law_by, sp_over, ex_f2, lies (a := a / b) ((ba.div bb b0).mono (by decide)) (o1.mono (by decide)) (o2.mono (by decide)), c1, c2, Bool.and_self]
      exact ⟨sa, sb, b0, q2⟩
    · simp only [if_true]
      refine drepr_non ?_
      refine drepr_non ?_
      exact dne_str ⟨false, rfl, q2⟩
end K07

set_option Elab.async false
set_option linter.all false
set_option maxRecDepth 100000
set_option maxHeartbeats 1000000
namespace K07
open PySem PySem.Spec PyProof.Rows L2 DL
theorem powL_bt {l h : Rat} {k : Nat} (b1 : bt l 5) (b2 : bt h 5) (hk : k ≤ 8) : SZ (powL l h k) := by
  have o : SZ 1 := ⟨by show 1 < 2 ^ 2000; exact Nat.one_lt_two_pow (by decide), Nat.one_lt_two_pow (by decide)⟩
  have p1 : SZ (l ^ k) := (b1.pow k).mono (by omega)
  have p2 : SZ (h ^ k) := (b2.pow k).mono (by omega)
  unfold powL
  split
  · exact o
  · split
    · exact bt0 (by decide)
    · exact p1.mn p2
theorem powH_bt {l h : Rat} {k : Nat} (b1 : bt l 5) (b2 : bt h 5) (hk : k ≤ 8) : SZ (powH l h k) := by
  have o : SZ 1 := ⟨by show 1 < 2 ^ 2000; exact Nat.one_lt_two_pow (by decide), Nat.one_lt_two_pow (by decide)⟩
  have p1 : SZ (l ^ k) := (b1.pow k).mono (by omega)
  have p2 : SZ (h ^ k) := (b2.pow k).mono (by omega)
  unfold powH
  split
  · exact o
  · exact p1.mx p2
theorem tL8 {l h l' h' : Rat} (b1 : bt l 8) (b2 : bt h 8) (b3 : bt l' 8) (b4 : bt h' 8) : SZ (timesL l h l' h') := by
  unfold timesL lo4
  exact (((b1.mul b3).mn (b1.mul b4)).mn (b2.mul b3)).mn (b2.mul b4) |> fun z => z.mono (by decide)
theorem tH8 {l h l' h' : Rat} (b1 : bt l 8) (b2 : bt h 8) (b3 : bt l' 8) (b4 : bt h' 8) : SZ (timesH l h l' h') := by
  unfold timesH hi4
  exact (((b1.mul b3).mx (b1.mul b4)).mx (b2.mul b3)).mx (b2.mul b4) |> fun z => z.mono (by decide)
theorem ite_ff {c : Bool} {A B : Prop} (hc : c = false) (h : B) : if c = true then A else B := by
  rw [hc, if_neg Bool.false_ne_true]
  exact h
section
variable {cl : Cls} {l h : Rat} {i j : Int} {M : Mm} {P : QD} {Y : XD}
theorem powbox_ok (hl : l ≤ h) (h1 : bt l 200) (h2 : bt h 200) (h3 : 0 ≤ i) (h4 : i ≤ 8) : sp_box_power cl [bx l h, .int i] M P Y ↔ P (bx (powL l h i.toNat) (powH l h i.toNat)) M :=
  (show sp_box_power cl [bx l h, .int i] M P Y ↔ _ from ex_b1).trans ⟨fun z => z.2.2.2.2.2, fun z => ⟨hl, h1, h2, h3, h4, z⟩⟩
theorem lpowbox_ok (hl : l ≤ h) (h1 : bt l 200) (h2 : bt h 200) (h3 : 0 ≤ i) (h4 : i ≤ 8) : sp__law_box_power [bx l h, .int i] M P Y ↔ P (bx (powL l h i.toNat) (powH l h i.toNat)) M :=
  (show sp__law_box_power [bx l h, .int i] M P Y ↔ _ from ex_b1).trans ⟨fun z => z.2.2.2.2.2, fun z => ⟨hl, h3, h4, h1, h2, z⟩⟩
theorem lsize_ok (hl : l ≤ h) (h1 : SZ l) (h2 : SZ h) : sp__law_box_size [bx l h] M P Y ↔ P (bx (sizeL l h) (sizeH l h)) M :=
  (show sp__law_box_size [bx l h] M P Y ↔ _ from ex_b1).trans ⟨fun z => z.2.2.2, fun z => ⟨h1, h2, hl, z⟩⟩
theorem lroot_ok (h1 : bt l 40) (h2 : bt h 40) (h3 : 1 ≤ i) (h4 : i ≤ 5) (h5 : 0 ≤ j) (h6 : j ≤ 20) : sp__law_box_root [bx l h, .int i, .int j] M P Y ↔ P (rootD l h i.toNat j.toNat) M :=
  (show sp__law_box_root [bx l h, .int i, .int j] M P Y ↔ _ from ex_b1).trans ⟨fun z => z.2.2.2.2.2.2, fun z => ⟨h1, h2, h3, h4, h5, h6, z⟩⟩
theorem root_ok (hl : l ≤ h) (h1 : bt l 200) (h2 : bt h 200) (h3 : 2 ≤ i) (h4 : i ≤ 5) (h5 : 0 ≤ j) (h6 : j ≤ 400) : sp_box_root cl [bx l h, .int i, .int j] M P Y ↔ P (rootD l h i.toNat j.toNat) M := by
  have e1 : isBx (bx l h) = true := by rw [isBx_bx]; exact decide_eq_true hl
  have e2 : (inR (.int i) 2 5 && inR (.int j) 0 400) = true := by simp [inR, h3, h4, h5, h6]
  have ti : Ty (.int i) := ty_int (up_pow (n := 3) (by omega) (by decide))
  have tj : Ty (.int j) := ty_int (up_pow (n := 9) (by omega) (by decide))
  constructor
  · rintro ⟨_, _, _, _, _, z⟩
    obtain ⟨a, b, x, y, f1, f2, f3, _, _, q⟩ := z e1 e2
    obtain ⟨g1, g2⟩ := bx_inj.mp f1
    cases f2
    cases f3
    rw [g1, g2]
    exact q
  · intro q
    exact ⟨ty3_bx (h1.mono (by decide)) (h2.mono (by decide)), ti, tj, fun z => (by rw [e1] at z; cases z), fun _ z => (by rw [e2] at z; cases z), fun _ _ => ⟨l, h, i, j, rfl, rfl, rfl, h1, h2, q⟩⟩
end
theorem len__law_is_one_right {cl : Cls} : ∀ xs M P Y, sp__law_is_one_right xs M P Y → xs.length = 2 := by
  intro xs M P Y h
  unfold sp__law_is_one_right at h
  split at h
  · rfl
  · exact h.elim
theorem rd__law_is_one_right {cl : Cls} : ∀ xs M P Y, sp__law_is_one_right xs M P Y → t__law_is_one_right cl { nx := fun _ M' => P .non M', rt := P, ex := fun c _ M' => Y c M' } (DL.start 7 xs) M := by
  intro xs M P Y h
  unfold sp__law_is_one_right at h
  split at h
  rotate_left
  · exact h.elim
  rename_i p x
  unfold t__law_is_one_right
  obtain ⟨l, h, rfl, b1, b2, hl, k, hh, q⟩ := h
  have n1 : SZ l := b1.mono (by decide)
  have n2 : SZ h := b2.mono (by decide)
  have m1 : bt l 200 := b1.mono (by decide)
  have m2 : bt h 200 := b2.mono (by decide)
  have hn : -h ≤ -l := by grind
  simp only [dSeq, dLt, dLe, dGt, dGe, dNext, dRet, dRetN, dDrop, dIfS, dAsg, dPar, dPar3, hName, dIf, dTest, dNot, dAnd, dOr, dAndV, dOrV, dNotV, dUn, dNeg, dOp, dFn, dCall, dCons, dNil, dC, dvar_eq, dTup, dLstS, dLstC, dChain, dRaise, dSettle, dApp, htup2, htup2b, ex_tup, ex_tupb, ex_lst, dAdd, dSub, dMul, dFdiv, dMod, dPow, dShl, dCmpI, dIsN, dNotN, dIsB, dNotB, isNon, dix_fr0, dix_fr1, dix_bx0, dix_bx1, dix_t0, dix_t1, dix_l0, mk_bx, mk_neg, mk_ab, ex_f1, ex_f2, ex_b1, ex_b2, two_fr, dAbs, dAug, dIpAdd, dFor, forD, dRng1, dItT, dItL, dSl, dSlL, dNoPart, dPart, dInt1, DL.start, List.map_cons, List.map_nil, List.cons_append, List.nil_append, List.length_cons, List.length_nil, List.replicate, List.replicate_zero, Nat.sub_self, Nat.reduceSub, Nat.reduceAdd, Nat.zero_add, List.set_cons_zero, List.set_cons_succ, List.getElem?_cons_zero, List.getElem?_cons_succ, List.append_nil, true_and, szl0, szl1, szl2, szl3, szl4, szl5, szl6, szl7, szl8, ltl0, ltl1, ltl2, ltl3, ltl4, ltl5, ex_some, ex_bl, ex_two, ex_three, ex_int, ex_intp, ex_ints, ex_int2,  Bool.false_eq_true, if_true, if_false, Bool.not_true, Bool.not_false, reduceIte, sp__law_within, ex_b1]
  refine ⟨b1, b2, hl, k + 3, hh, fun a hd1 ba la ah g1 => ?_⟩
  simp only [dSeq, dLt, dLe, dGt, dGe, dNext, dRet, dRetN, dDrop, dIfS, dAsg, dPar, dPar3, hName, dIf, dTest, dNot, dAnd, dOr, dAndV, dOrV, dNotV, dUn, dNeg, dOp, dFn, dCall, dCons, dNil, dC, dvar_eq, dTup, dLstS, dLstC, dChain, dRaise, dSettle, dApp, htup2, htup2b, ex_tup, ex_tupb, ex_lst, dAdd, dSub, dMul, dFdiv, dMod, dPow, dShl, dCmpI, dIsN, dNotN, dIsB, dNotB, isNon, dix_fr0, dix_fr1, dix_bx0, dix_bx1, dix_t0, dix_t1, dix_l0, mk_bx, mk_neg, mk_ab, ex_f1, ex_f2, ex_b1, ex_b2, two_fr, dAbs, dAug, dIpAdd, dFor, forD, dRng1, dItT, dItL, dSl, dSlL, dNoPart, dPart, dInt1, DL.start, List.map_cons, List.map_nil, List.cons_append, List.nil_append, List.length_cons, List.length_nil, List.replicate, List.replicate_zero, Nat.sub_self, Nat.reduceSub, Nat.reduceAdd, Nat.zero_add, List.set_cons_zero, List.set_cons_succ, List.getElem?_cons_zero, List.getElem?_cons_succ, List.append_nil, true_and, szl0, szl1, szl2, szl3, szl4, szl5, szl6, szl7, szl8, ltl0, ltl1, ltl2, ltl3, ltl4, ltl5, ex_some, ex_bl, ex_two, ex_three, ex_int, ex_intp, ex_ints, ex_int2,  Bool.false_eq_true, if_true, if_false, Bool.not_true, Bool.not_false, reduceIte, sp__law_draw]
  refine ⟨by decide, by decide, k + 2, hd_mup g1, fun kk hd2 y1 y2 g2 => ⟨by decide, by decide, k + 1, hd_mup g2, fun dd hd3 z1 z2 g3 => ?_⟩⟩
  obtain ⟨K, rfl⟩ := Int.eq_ofNat_of_zero_le y1
  obtain ⟨E, rfl⟩ := Int.eq_ofNat_of_zero_le z1
  simp only [mup_mup]
  have sa : SZ a := ba.mono (by decide)
  have sab : SZ (ab a) := sa.ab
  obtain ⟨sb1, sb2⟩ := size_bt (n := 2000) (by decide) n1 n2
  obtain ⟨i1, i2⟩ := size_in la ah
  have ci1 : decide (sizeL l h ≤ ab a) = true := decide_eq_true i1
  have ci2 : decide (ab a ≤ sizeH l h) = true := decide_eq_true i2
  simp only [dSeq, dLt, dLe, dGt, dGe, dNext, dRet, dRetN, dDrop, dIfS, dAsg, dPar, dPar3, hName, dIf, dTest, dNot, dAnd, dOr, dAndV, dOrV, dNotV, dUn, dNeg, dOp, dFn, dCall, dCons, dNil, dC, dvar_eq, dTup, dLstS, dLstC, dChain, dRaise, dSettle, dApp, htup2, htup2b, ex_tup, ex_tupb, ex_lst, dAdd, dSub, dMul, dFdiv, dMod, dPow, dShl, dCmpI, dIsN, dNotN, dIsB, dNotB, isNon, dix_fr0, dix_fr1, dix_bx0, dix_bx1, dix_t0, dix_t1, dix_l0, mk_bx, mk_neg, mk_ab, ex_f1, ex_f2, ex_b1, ex_b2, two_fr, dAbs, dAug, dIpAdd, dFor, forD, dRng1, dItT, dItL, dSl, dSlL, dNoPart, dPart, dInt1, DL.start, List.map_cons, List.map_nil, List.cons_append, List.nil_append, List.length_cons, List.length_nil, List.replicate, List.replicate_zero, Nat.sub_self, Nat.reduceSub, Nat.reduceAdd, Nat.zero_add, List.set_cons_zero, List.set_cons_succ, List.getElem?_cons_zero, List.getElem?_cons_succ, List.append_nil, true_and, szl0, szl1, szl2, szl3, szl4, szl5, szl6, szl7, szl8, ltl0, ltl1, ltl2, ltl3, ltl4, ltl5, ex_some, ex_bl, ex_two, ex_three, ex_int, ex_intp, ex_ints, ex_int2,  Bool.false_eq_true, if_true, if_false, Bool.not_true, Bool.not_false, reduceIte, sp_box_turn, sp__law_box_turn, sp_raw_turn, box1_ok (cl := cl) hl n1 n2, b_ok n1 n2]
  refine dne_bx ⟨false, rfl, ?_⟩
  simp only [dSeq, dLt, dLe, dGt, dGe, dNext, dRet, dRetN, dDrop, dIfS, dAsg, dPar, dPar3, hName, dIf, dTest, dNot, dAnd, dOr, dAndV, dOrV, dNotV, dUn, dNeg, dOp, dFn, dCall, dCons, dNil, dC, dvar_eq, dTup, dLstS, dLstC, dChain, dRaise, dSettle, dApp, htup2, htup2b, ex_tup, ex_tupb, ex_lst, dAdd, dSub, dMul, dFdiv, dMod, dPow, dShl, dCmpI, dIsN, dNotN, dIsB, dNotB, isNon, dix_fr0, dix_fr1, dix_bx0, dix_bx1, dix_t0, dix_t1, dix_l0, mk_bx, mk_neg, mk_ab, ex_f1, ex_f2, ex_b1, ex_b2, two_fr, dAbs, dAug, dIpAdd, dFor, forD, dRng1, dItT, dItL, dSl, dSlL, dNoPart, dPart, dInt1, DL.start, List.map_cons, List.map_nil, List.cons_append, List.nil_append, List.length_cons, List.length_nil, List.replicate, List.replicate_zero, Nat.sub_self, Nat.reduceSub, Nat.reduceAdd, Nat.zero_add, List.set_cons_zero, List.set_cons_succ, List.getElem?_cons_zero, List.getElem?_cons_succ, List.append_nil, true_and, szl0, szl1, szl2, szl3, szl4, szl5, szl6, szl7, szl8, ltl0, ltl1, ltl2, ltl3, ltl4, ltl5, ex_some, ex_bl, ex_two, ex_three, ex_int, ex_intp, ex_ints, ex_int2,  Bool.false_eq_true, if_true, if_false, Bool.not_true, Bool.not_false, reduceIte, sp_box_size, box1_ok (cl := cl) hl n1 n2, lsize_ok hl n1 n2]
  refine dne_bx ⟨false, rfl, ?_⟩
  simp only [dSeq, dLt, dLe, dGt, dGe, dNext, dRet, dRetN, dDrop, dIfS, dAsg, dPar, dPar3, hName, dIf, dTest, dNot, dAnd, dOr, dAndV, dOrV, dNotV, dUn, dNeg, dOp, dFn, dCall, dCons, dNil, dC, dvar_eq, dTup, dLstS, dLstC, dChain, dRaise, dSettle, dApp, htup2, htup2b, ex_tup, ex_tupb, ex_lst, dAdd, dSub, dMul, dFdiv, dMod, dPow, dShl, dCmpI, dIsN, dNotN, dIsB, dNotB, isNon, dix_fr0, dix_fr1, dix_bx0, dix_bx1, dix_t0, dix_t1, dix_l0, mk_bx, mk_neg, mk_ab, ex_f1, ex_f2, ex_b1, ex_b2, two_fr, dAbs, dAug, dIpAdd, dFor, forD, dRng1, dItT, dItL, dSl, dSlL, dNoPart, dPart, dInt1, DL.start, List.map_cons, List.map_nil, List.cons_append, List.nil_append, List.length_cons, List.length_nil, List.replicate, List.replicate_zero, Nat.sub_self, Nat.reduceSub, Nat.reduceAdd, Nat.zero_add, List.set_cons_zero, List.set_cons_succ, List.getElem?_cons_zero, List.getElem?_cons_succ, List.append_nil, true_and, szl0, szl1, szl2, szl3, szl4, szl5, szl6, szl7, szl8, ltl0, ltl1, ltl2, ltl3, ltl4, ltl5, ex_some, ex_bl, ex_two, ex_three, ex_int, ex_intp, ex_ints, ex_int2,  Bool.false_eq_true, if_true, if_false, Bool.not_true, Bool.not_false, reduceIte, lies sab sb1 sb2, ci1, ci2, Bool.and_self, sp_box_turn, box1_ok (cl := cl) hl n1 n2, box1_ok (cl := cl) hn n2.neg n1.neg, Rat.neg_neg]
  refine dne_bx ⟨false, rfl, ?_⟩
  have k8 : (K : Int) ≤ 8 := by omega
  simp only [dSeq, dLt, dLe, dGt, dGe, dNext, dRet, dRetN, dDrop, dIfS, dAsg, dPar, dPar3, hName, dIf, dTest, dNot, dAnd, dOr, dAndV, dOrV, dNotV, dUn, dNeg, dOp, dFn, dCall, dCons, dNil, dC, dvar_eq, dTup, dLstS, dLstC, dChain, dRaise, dSettle, dApp, htup2, htup2b, ex_tup, ex_tupb, ex_lst, dAdd, dSub, dMul, dFdiv, dMod, dPow, dShl, dCmpI, dIsN, dNotN, dIsB, dNotB, isNon, dix_fr0, dix_fr1, dix_bx0, dix_bx1, dix_t0, dix_t1, dix_l0, mk_bx, mk_neg, mk_ab, ex_f1, ex_f2, ex_b1, ex_b2, two_fr, dAbs, dAug, dIpAdd, dFor, forD, dRng1, dItT, dItL, dSl, dSlL, dNoPart, dPart, dInt1, DL.start, List.map_cons, List.map_nil, List.cons_append, List.nil_append, List.length_cons, List.length_nil, List.replicate, List.replicate_zero, Nat.sub_self, Nat.reduceSub, Nat.reduceAdd, Nat.zero_add, List.set_cons_zero, List.set_cons_succ, List.getElem?_cons_zero, List.getElem?_cons_succ, List.append_nil, true_and, szl0, szl1, szl2, szl3, szl4, szl5, szl6, szl7, szl8, ltl0, ltl1, ltl2, ltl3, ltl4, ltl5, ex_some, ex_bl, ex_two, ex_three, ex_int, ex_intp, ex_ints, ex_int2,  Bool.false_eq_true, if_true, if_false, Bool.not_true, Bool.not_false, reduceIte, powbox_ok (cl := cl) hl m1 m2 y1 k8, lpowbox_ok hl m1 m2 y1 k8, Int.toNat_natCast]
  refine dne_bx ⟨false, rfl, ?_⟩
  obtain ⟨p1, p2⟩ := pow_in la ah K
  have cp1 : decide (powL l h K ≤ a ^ K) = true := decide_eq_true p1
  have cp2 : decide (a ^ K ≤ powH l h K) = true := decide_eq_true p2
  have pa : SZ (a ^ K) := (ba.pow K).mono (by omega)
  have pl : SZ (powL l h K) := powL_bt b1 b2 (by omega)
  have ph : SZ (powH l h K) := powH_bt b1 b2 (by omega)
  simp only [dSeq, dLt, dLe, dGt, dGe, dNext, dRet, dRetN, dDrop, dIfS, dAsg, dPar, dPar3, hName, dIf, dTest, dNot, dAnd, dOr, dAndV, dOrV, dNotV, dUn, dNeg, dOp, dFn, dCall, dCons, dNil, dC, dvar_eq, dTup, dLstS, dLstC, dChain, dRaise, dSettle, dApp, htup2, htup2b, ex_tup, ex_tupb, ex_lst, dAdd, dSub, dMul, dFdiv, dMod, dPow, dShl, dCmpI, dIsN, dNotN, dIsB, dNotB, isNon, dix_fr0, dix_fr1, dix_bx0, dix_bx1, dix_t0, dix_t1, dix_l0, mk_bx, mk_neg, mk_ab, ex_f1, ex_f2, ex_b1, ex_b2, two_fr, dAbs, dAug, dIpAdd, dFor, forD, dRng1, dItT, dItL, dSl, dSlL, dNoPart, dPart, dInt1, DL.start, List.map_cons, List.map_nil, List.cons_append, List.nil_append, List.length_cons, List.length_nil, List.replicate, List.replicate_zero, Nat.sub_self, Nat.reduceSub, Nat.reduceAdd, Nat.zero_add, List.set_cons_zero, List.set_cons_succ, List.getElem?_cons_zero, List.getElem?_cons_succ, List.append_nil, true_and, szl0, szl1, szl2, szl3, szl4, szl5, szl6, szl7, szl8, ltl0, ltl1, ltl2, ltl3, ltl4, ltl5, ex_some, ex_bl, ex_two, ex_three, ex_int, ex_intp, ex_ints, ex_int2,  Bool.false_eq_true, if_true, if_false, Bool.not_true, Bool.not_false, reduceIte, lpow (a := a) y1 k8 (ba.mono (by decide)), Int.toNat_natCast, lies pa pl ph, cp1, cp2, Bool.and_self, sp__law_draw]
  refine ⟨by decide, by decide, k, hd_mup g3, fun ff hd4 x1 x2 g4 => ?_⟩
  rw [mup_mup]
  obtain ⟨F, hF⟩ := Int.eq_ofNat_of_zero_le (by omega : 0 ≤ 2 + ff)
  rw [hF]
  have q2 := q hd4 g4
  have f1 : 1 ≤ (F : Int) := by omega
  have f2 : 2 ≤ (F : Int) := by omega
  have f5 : (F : Int) ≤ 5 := by omega
  have F1 : 1 ≤ F := by omega
  simp only [dSeq, dLt, dLe, dGt, dGe, dNext, dRet, dRetN, dDrop, dIfS, dAsg, dPar, dPar3, hName, dIf, dTest, dNot, dAnd, dOr, dAndV, dOrV, dNotV, dUn, dNeg, dOp, dFn, dCall, dCons, dNil, dC, dvar_eq, dTup, dLstS, dLstC, dChain, dRaise, dSettle, dApp, htup2, htup2b, ex_tup, ex_tupb, ex_lst, dAdd, dSub, dMul, dFdiv, dMod, dPow, dShl, dCmpI, dIsN, dNotN, dIsB, dNotB, isNon, dix_fr0, dix_fr1, dix_bx0, dix_bx1, dix_t0, dix_t1, dix_l0, mk_bx, mk_neg, mk_ab, ex_f1, ex_f2, ex_b1, ex_b2, two_fr, dAbs, dAug, dIpAdd, dFor, forD, dRng1, dItT, dItL, dSl, dSlL, dNoPart, dPart, dInt1, DL.start, List.map_cons, List.map_nil, List.cons_append, List.nil_append, List.length_cons, List.length_nil, List.replicate, List.replicate_zero, Nat.sub_self, Nat.reduceSub, Nat.reduceAdd, Nat.zero_add, List.set_cons_zero, List.set_cons_succ, List.getElem?_cons_zero, List.getElem?_cons_succ, List.append_nil, true_and, szl0, szl1, szl2, szl3, szl4, szl5, szl6, szl7, szl8, ltl0, ltl1, ltl2, ltl3, ltl4, ltl5, ex_some, ex_bl, ex_two, ex_three, ex_int, ex_intp, ex_ints, ex_int2,  Bool.false_eq_true, if_true, if_false, Bool.not_true, Bool.not_false, reduceIte, lroot_ok (l := l) (h := h) (b1.mono (by decide)) (b2.mono (by decide)) f1 f5 z1 (by omega), root_ok (cl := cl) (j := (E : Int)) hl m1 m2 f2 f5 z1 (by omega), Int.toNat_natCast]
  unfold rootD
  by_cases c : h < 0
  · simp only [c, if_true]
    refine drepr_non ?_
    refine drepr_non ?_
    refine dne_str ⟨false, rfl, ?_⟩
    exact q2
  · simp only [c, if_false]
    have h0 := Rat.not_lt.mp c
    obtain ⟨r1, r2⟩ := roots_bt (k := F) (d := E) h0 b1 b2 F1 (by omega) (by omega)
    obtain ⟨r3, r4⟩ := roots_bt (k := F) (d := E + 3) h0 b1 b2 F1 (by omega) (by omega)
    refine drepr_bx (r1.mono (by decide)) (r2.mono (by decide)) ?_
    refine drepr_bx (r1.mono (by decide)) (r2.mono (by decide)) ?_
    refine dne_str ⟨false, rfl, ?_⟩
    simp only [dSeq, dLt, dLe, dGt, dGe, dNext, dRet, dRetN, dDrop, dIfS, dAsg, dPar, dPar3, hName, dIf, dTest, dNot, dAnd, dOr, dAndV, dOrV, dNotV, dUn, dNeg, dOp, dFn, dCall, dCons, dNil, dC, dvar_eq, dTup, dLstS, dLstC, dChain, dRaise, dSettle, dApp, htup2, htup2b, ex_tup, ex_tupb, ex_lst, dAdd, dSub, dMul, dFdiv, dMod, dPow, dShl, dCmpI, dIsN, dNotN, dIsB, dNotB, isNon, dix_fr0, dix_fr1, dix_bx0, dix_bx1, dix_t0, dix_t1, dix_l0, mk_bx, mk_neg, mk_ab, ex_f1, ex_f2, ex_b1, ex_b2, two_fr, dAbs, dAug, dIpAdd, dFor, forD, dRng1, dItT, dItL, dSl, dSlL, dNoPart, dPart, dInt1, DL.start, List.map_cons, List.map_nil, List.cons_append, List.nil_append, List.length_cons, List.length_nil, List.replicate, List.replicate_zero, Nat.sub_self, Nat.reduceSub, Nat.reduceAdd, Nat.zero_add, List.set_cons_zero, List.set_cons_succ, List.getElem?_cons_zero, List.getElem?_cons_succ, List.append_nil, true_and, szl0, szl1, szl2, szl3, szl4, szl5, szl6, szl7, szl8, ltl0, ltl1, ltl2, ltl3, ltl4, ltl5, ex_some, ex_bl, ex_two, ex_three, ex_int, ex_intp, ex_ints, ex_int2,  Bool.false_eq_true, if_true, if_false, Bool.not_true, Bool.not_false, reduceIte]
    refine ite_ff (by rfl) ?_
    rw [show ((E : Int) + 3) = ((E + 3 : Nat) : Int) from rfl]
    have f8 : (F : Int) ≤ 8 := by omega
    have f0 : 0 ≤ (F : Int) := by omega
    have s1 : SZ (lowR l F E) := r1.mono (by decide)
    have s2 : SZ (upR h F E) := r2.mono (by decide)
    have s3 : SZ (lowR l F (E + 3)) := r3.mono (by decide)
    have s4 : SZ (upR h F (E + 3)) := r4.mono (by decide)
    have s5 : SZ (lowR l F (E + 3) ^ F) := (r3.pow F).mono (by omega)
    have s6 : SZ (upR h F (E + 3) ^ F) := (r4.pow F).mono (by omega)
    have cA : decide (lowR l F (E + 3) < lowR l F E) = false := decide_eq_false (Rat.not_lt.mpr (low_le l E F1))
    have cB : decide (upR h F E < upR h F (E + 3)) = false := decide_eq_false (Rat.not_lt.mpr (up_le E h0 F1))
    have cD : decide (upR h F (E + 3) ^ F < h) = false := decide_eq_false (Rat.not_lt.mpr (up_pow_le (E + 3) h0 F1))
    have rb : rootD l h F (E + 3) = bx (lowR l F (E + 3)) (upR h F (E + 3)) := if_neg c
    simp only [dSeq, dLt, dLe, dGt, dGe, dNext, dRet, dRetN, dDrop, dIfS, dAsg, dPar, dPar3, hName, dIf, dTest, dNot, dAnd, dOr, dAndV, dOrV, dNotV, dUn, dNeg, dOp, dFn, dCall, dCons, dNil, dC, dvar_eq, dTup, dLstS, dLstC, dChain, dRaise, dSettle, dApp, htup2, htup2b, ex_tup, ex_tupb, ex_lst, dAdd, dSub, dMul, dFdiv, dMod, dPow, dShl, dCmpI, dIsN, dNotN, dIsB, dNotB, isNon, dix_fr0, dix_fr1, dix_bx0, dix_bx1, dix_t0, dix_t1, dix_l0, mk_bx, mk_neg, mk_ab, ex_f1, ex_f2, ex_b1, ex_b2, two_fr, dAbs, dAug, dIpAdd, dFor, forD, dRng1, dItT, dItL, dSl, dSlL, dNoPart, dPart, dInt1, DL.start, List.map_cons, List.map_nil, List.cons_append, List.nil_append, List.length_cons, List.length_nil, List.replicate, List.replicate_zero, Nat.sub_self, Nat.reduceSub, Nat.reduceAdd, Nat.zero_add, List.set_cons_zero, List.set_cons_succ, List.getElem?_cons_zero, List.getElem?_cons_succ, List.append_nil, true_and, szl0, szl1, szl2, szl3, szl4, szl5, szl6, szl7, szl8, ltl0, ltl1, ltl2, ltl3, ltl4, ltl5, ex_some, ex_bl, ex_two, ex_three, ex_int, ex_intp, ex_ints, ex_int2,  Bool.false_eq_true, if_true, if_false, Bool.not_true, Bool.not_false, reduceIte, root_ok (cl := cl) (j := ((E + 3 : Nat) : Int)) hl m1 m2 f2 f5 (by omega) (by omega), Int.toNat_natCast, rb, under s3 s1, under s2 s4, cA, cB]
    by_cases c2 : 0 ≤ l.num
    · have cC : decide (l < lowR l F (E + 3) ^ F) = false := decide_eq_false (Rat.not_lt.mpr (low_pow (E + 3) (Rat.num_nonneg.mp c2) F1))
      simp only [dSeq, dLt, dLe, dGt, dGe, dNext, dRet, dRetN, dDrop, dIfS, dAsg, dPar, dPar3, hName, dIf, dTest, dNot, dAnd, dOr, dAndV, dOrV, dNotV, dUn, dNeg, dOp, dFn, dCall, dCons, dNil, dC, dvar_eq, dTup, dLstS, dLstC, dChain, dRaise, dSettle, dApp, htup2, htup2b, ex_tup, ex_tupb, ex_lst, dAdd, dSub, dMul, dFdiv, dMod, dPow, dShl, dCmpI, dIsN, dNotN, dIsB, dNotB, isNon, dix_fr0, dix_fr1, dix_bx0, dix_bx1, dix_t0, dix_t1, dix_l0, mk_bx, mk_neg, mk_ab, ex_f1, ex_f2, ex_b1, ex_b2, two_fr, dAbs, dAug, dIpAdd, dFor, forD, dRng1, dItT, dItL, dSl, dSlL, dNoPart, dPart, dInt1, DL.start, List.map_cons, List.map_nil, List.cons_append, List.nil_append, List.length_cons, List.length_nil, List.replicate, List.replicate_zero, Nat.sub_self, Nat.reduceSub, Nat.reduceAdd, Nat.zero_add, List.set_cons_zero, List.set_cons_succ, List.getElem?_cons_zero, List.getElem?_cons_succ, List.append_nil, true_and, szl0, szl1, szl2, szl3, szl4, szl5, szl6, szl7, szl8, ltl0, ltl1, ltl2, ltl3, ltl4, ltl5, ex_some, ex_bl, ex_two, ex_three, ex_int, ex_intp, ex_ints, ex_int2,  Bool.false_eq_true, if_true, if_false, Bool.not_true, Bool.not_false, reduceIte, c2, decide_true, lpow (a := lowR l F (E + 3)) f0 f8 (r3.mono (by decide)), lpow (a := upR h F (E + 3)) f0 f8 (r4.mono (by decide)), Int.toNat_natCast, under n1 s5, under s6 n2, cC, cD]
      exact q2
    · simp only [dSeq, dLt, dLe, dGt, dGe, dNext, dRet, dRetN, dDrop, dIfS, dAsg, dPar, dPar3, hName, dIf, dTest, dNot, dAnd, dOr, dAndV, dOrV, dNotV, dUn, dNeg, dOp, dFn, dCall, dCons, dNil, dC, dvar_eq, dTup, dLstS, dLstC, dChain, dRaise, dSettle, dApp, htup2, htup2b, ex_tup, ex_tupb, ex_lst, dAdd, dSub, dMul, dFdiv, dMod, dPow, dShl, dCmpI, dIsN, dNotN, dIsB, dNotB, isNon, dix_fr0, dix_fr1, dix_bx0, dix_bx1, dix_t0, dix_t1, dix_l0, mk_bx, mk_neg, mk_ab, ex_f1, ex_f2, ex_b1, ex_b2, two_fr, dAbs, dAug, dIpAdd, dFor, forD, dRng1, dItT, dItL, dSl, dSlL, dNoPart, dPart, dInt1, DL.start, List.map_cons, List.map_nil, List.cons_append, List.nil_append, List.length_cons, List.length_nil, List.replicate, List.replicate_zero, Nat.sub_self, Nat.reduceSub, Nat.reduceAdd, Nat.zero_add, List.set_cons_zero, List.set_cons_succ, List.getElem?_cons_zero, List.getElem?_cons_succ, List.append_nil, true_and, szl0, szl1, szl2, szl3, szl4, szl5, szl6, szl7, szl8, ltl0, ltl1, ltl2, ltl3, ltl4, ltl5, ex_some, ex_bl, ex_two, ex_three, ex_int, ex_intp, ex_ints, ex_int2,  Bool.false_eq_true, if_true, if_false, Bool.not_true, Bool.not_false, reduceIte, c2, decide_false, lpow (a := upR h F (E + 3)) f0 f8 (r4.mono (by decide)), Int.toNat_natCast, under s6 n2, cD]
      exact q2
theorem len__law_are_wider_right {cl : Cls} : ∀ xs M P Y, sp__law_are_wider_right xs M P Y → xs.length = 2 := by
  intro xs M P Y h
  unfold sp__law_are_wider_right at h
  split at h
  · rfl
  · exact h.elim
theorem rd__law_are_wider_right {cl : Cls} : ∀ xs M P Y, sp__law_are_wider_right xs M P Y → t__law_are_wider_right cl { nx := fun _ M' => P .non M', rt := P, ex := fun c _ M' => Y c M' } (DL.start 5 xs) M := by
  intro xs M P Y h
  unfold sp__law_are_wider_right at h
  split at h
  rotate_left
  · exact h.elim
  rename_i x y
  unfold t__law_are_wider_right
  obtain ⟨l, h, l', h', rfl, rfl, b1, b2, b3, b4, hl, hl', q⟩ := h
  have n1 : bt l 900 := b1.mono (by decide)
  have n2 : bt h 900 := b2.mono (by decide)
  have n3 : bt l' 900 := b3.mono (by decide)
  have n4 : bt h' 900 := b4.mono (by decide)
  have e2 : D.tup [.int 1, .int 2] = fr (1 / 2) := by
    unfold fr
    rw [show (1 / 2 : Rat).num = 1 by decide +kernel, show (1 / 2 : Rat).den = 2 by decide +kernel]
    rfl
  have e3 : D.tup [.int 1, .int 3] = fr (1 / 3) := by
    unfold fr
    rw [show (1 / 3 : Rat).num = 1 by decide +kernel, show (1 / 3 : Rat).den = 3 by decide +kernel]
    rfl
  have t2 : bt (1 / 2 : Rat) 2 := ⟨by decide +kernel, by decide +kernel⟩
  have t3 : bt (1 / 3 : Rat) 2 := ⟨by decide +kernel, by decide +kernel⟩
  have w1 : bt (l - 1 / 2) 8 := b1.sub t2
  have w2 : bt (h + 1 / 3) 8 := b2.add t3
  have v1 : bt (l - 1 / 2) 900 := w1.mono (by decide)
  have v2 : bt (h + 1 / 3) 900 := w2.mono (by decide)
  have wl : l - 1 / 2 ≤ l := by grind
  have wh : h ≤ h + 1 / 3 := by grind
  have ww : l - 1 / 2 ≤ h + 1 / 3 := by grind
  obtain ⟨t4, t5⟩ := times_wide (l := l) (h := h) (l' := l') (h' := h') wl wh hl hl'
  obtain ⟨t6, t7⟩ := size_wide wl wh hl
  have c4 := decide_eq_false (Rat.not_lt.mpr t4)
  have c5 := decide_eq_false (Rat.not_lt.mpr t5)
  have c6 := decide_eq_false (Rat.not_lt.mpr t6)
  have c7 := decide_eq_false (Rat.not_lt.mpr t7)
  have s1 := tL_bt b1 b2 b3 b4
  have s2 := tH_bt b1 b2 b3 b4
  have s3 : SZ (timesL (l - 1 / 2) (h + 1 / 3) l' h') := tL8 w1 w2 (b3.mono (by decide)) (b4.mono (by decide))
  have s4 : SZ (timesH (l - 1 / 2) (h + 1 / 3) l' h') := tH8 w1 w2 (b3.mono (by decide)) (b4.mono (by decide))
  obtain ⟨s5, s6⟩ := size_bt (n := 2000) (by decide) (s9 n1) (s9 n2)
  obtain ⟨s7, s8⟩ := size_bt (n := 2000) (by decide) (s9 v1) (s9 v2)
  simp only [dSeq, dLt, dLe, dGt, dGe, dNext, dRet, dRetN, dDrop, dIfS, dAsg, dPar, dPar3, hName, dIf, dTest, dNot, dAnd, dOr, dAndV, dOrV, dNotV, dUn, dNeg, dOp, dFn, dCall, dCons, dNil, dC, dvar_eq, dTup, dLstS, dLstC, dChain, dRaise, dSettle, dApp, htup2, htup2b, ex_tup, ex_tupb, ex_lst, dAdd, dSub, dMul, dFdiv, dMod, dPow, dShl, dCmpI, dIsN, dNotN, dIsB, dNotB, isNon, dix_fr0, dix_fr1, dix_bx0, dix_bx1, dix_t0, dix_t1, dix_l0, mk_bx, mk_neg, mk_ab, ex_f1, ex_f2, ex_b1, ex_b2, two_fr, dAbs, dAug, dIpAdd, dFor, forD, dRng1, dItT, dItL, dSl, dSlL, dNoPart, dPart, dInt1, DL.start, List.map_cons, List.map_nil, List.cons_append, List.nil_append, List.length_cons, List.length_nil, List.replicate, List.replicate_zero, Nat.sub_self, Nat.reduceSub, Nat.reduceAdd, Nat.zero_add, List.set_cons_zero, List.set_cons_succ, List.getElem?_cons_zero, List.getElem?_cons_succ, List.append_nil, true_and, szl0, szl1, szl2, szl3, szl4, szl5, szl6, szl7, szl8, ltl0, ltl1, ltl2, ltl3, ltl4, ltl5, ex_some, ex_bl, ex_two, ex_three, ex_int, ex_intp, ex_ints, ex_int2,  Bool.false_eq_true, if_true, if_false, Bool.not_true, Bool.not_false, reduceIte, e2, e3, sp__law_less, sp__law_plus, two_ok (f := fun a b => a - b) (s9 n1) (t2.mono (by decide) : SZ (1 / 2)), two_ok (f := fun a b => a + b) (s9 n2) (t3.mono (by decide) : SZ (1 / 3))]
  simp only [dSeq, dLt, dLe, dGt, dGe, dNext, dRet, dRetN, dDrop, dIfS, dAsg, dPar, dPar3, hName, dIf, dTest, dNot, dAnd, dOr, dAndV, dOrV, dNotV, dUn, dNeg, dOp, dFn, dCall, dCons, dNil, dC, dvar_eq, dTup, dLstS, dLstC, dChain, dRaise, dSettle, dApp, htup2, htup2b, ex_tup, ex_tupb, ex_lst, dAdd, dSub, dMul, dFdiv, dMod, dPow, dShl, dCmpI, dIsN, dNotN, dIsB, dNotB, isNon, dix_fr0, dix_fr1, dix_bx0, dix_bx1, dix_t0, dix_t1, dix_l0, mk_bx, mk_neg, mk_ab, ex_f1, ex_f2, ex_b1, ex_b2, two_fr, dAbs, dAug, dIpAdd, dFor, forD, dRng1, dItT, dItL, dSl, dSlL, dNoPart, dPart, dInt1, DL.start, List.map_cons, List.map_nil, List.cons_append, List.nil_append, List.length_cons, List.length_nil, List.replicate, List.replicate_zero, Nat.sub_self, Nat.reduceSub, Nat.reduceAdd, Nat.zero_add, List.set_cons_zero, List.set_cons_succ, List.getElem?_cons_zero, List.getElem?_cons_succ, List.append_nil, true_and, szl0, szl1, szl2, szl3, szl4, szl5, szl6, szl7, szl8, ltl0, ltl1, ltl2, ltl3, ltl4, ltl5, ex_some, ex_bl, ex_two, ex_three, ex_int, ex_intp, ex_ints, ex_int2,  Bool.false_eq_true, if_true, if_false, Bool.not_true, Bool.not_false, reduceIte, sp_box_times, sp_box_size, box2_ok (cl := cl) hl hl' n1 n2 n3 n4, box2_ok (cl := cl) ww hl' v1 v2 n3 n4, box1_ok (cl := cl) hl (s9 n1) (s9 n2), box1_ok (cl := cl) ww (s9 v1) (s9 v2), under s1 s3, under s4 s2, under s5 s7, under s8 s6, c4, c5, c6, c7]
  exact q
end K07

set_option Elab.async false
set_option linter.all false
set_option maxRecDepth 100000
set_option maxHeartbeats 1000000
namespace K07
open PySem PySem.Spec PyProof.Rows L2 DL
/-! ### what a call says: told, or the word of its error -/
abbrev s__law_word : Stmt := top 81
theorem sc__law_word : FnScope ["call", "found", "e", "flags", "names_now"] ["call"] (defScope s__law_word) := ⟨rfl, rfl, rfl, by decide +kernel, rfl, by decide +kernel, by decide +kernel⟩
/-- what is known of the errors' classes -/
structure WordF (K : PySem.W.Frag) (mg : Str → Option Value) (cl : Cls) (A : Addr) : Prop where
  gA : mg "AskError" = some (.ref A)
  gB : mg "NoBox" = some (.ref cl.box)
  gN : mg "NoNumber" = some (.ref cl.num)
  nI : mg "isinstance" = none
  nV : mg "ValueError" = none
  eB : ExcC K cl.box
  eN : ExcC K cl.num
  xB : PySem.W.exmOne K (.ref cl.box) (.ref A) = some true
  xN : PySem.W.exmOne K (.ref cl.num) (.ref A) = some true
  bb : PySem.W.kitOne K (.ref cl.box) (.ref cl.box) = some true
  bn : PySem.W.kitOne K (.ref cl.box) (.ref cl.num) = some false
  bv : PySem.W.kitOne K (.ref cl.box) (.type "ValueError") = some true
  nb : PySem.W.kitOne K (.ref cl.num) (.ref cl.box) = some false
  nn : PySem.W.kitOne K (.ref cl.num) (.ref cl.num) = some true
  nv : PySem.W.kitOne K (.ref cl.num) (.type "ValueError") = some true
/-- the word of an error -/
def WordOf (cl : Cls) (c : Value) (r : Str) : Prop := (c = .ref cl.box ∧ r = "box") ∨ (c = .ref cl.num ∧ r = "number")
def suiteT (K : PySem.W.Frag) (cl : Cls) (C a : Addr) : TSD :=
  dSeq (dAsg (dLstS (dCons (dFn (dIsE K C a) (dCons (dVar 2) (dCons (dC (.ref cl.box)) dNil))) (dCons (dFn (dIsE K C a) (dCons (dVar 2) (dCons (dC (.ref cl.num)) dNil))) dNil))) (hName 3))
    (dSeq (dAsg (dC (.str "other")) (hName 1))
      (dIfS (dAnd (dTest (dOp dEq (dCount (dVar 3) (dC (.bl true))) (dC (.int 1)))) (dTest (dFn (dIsE K C a) (dCons (dVar 2) (dCons (dC (.ty "ValueError")) dNil)))))
        (dSeq (dAsg (dLstS (dCons (dC (.str "box")) (dCons (dC (.str "number")) dNil))) (hName 4)) (dAsg (dOp dIx (dVar 4) (dIndex (dVar 3) (dC (.bl true)))) (hName 1))) dNext))
theorem disE {K : PySem.W.Frag} {C a A : Addr} {b : Bool} {M : Mm} {P : QD} (h : PySem.W.kitOne K (.ref C) (.ref A) = some b) (q : P (.bl b) M) : dIsE K C a [.ref a, .ref A] M P := ⟨_, _, b, rfl, .inl ⟨A, rfl, rfl⟩, h, q⟩
theorem disT {K : PySem.W.Frag} {C a : Addr} {T : String} {b : Bool} {M : Mm} {P : QD} (h : PySem.W.kitOne K (.ref C) (.type T) = some b) (q : P (.bl b) M) : dIsE K C a [.ref a, .ty T] M P := ⟨_, _, b, rfl, .inr ⟨T, rfl, rfl⟩, h, q⟩
theorem suite_box {K : PySem.W.Frag} {mg : Str → Option Value} {cl : Cls} {A a : Addr} (F : WordF K mg cl A) {E : DEnds} {M : Mm} {x y : Option D} (q : ∀ τ : DSt, τ[1]? = some (some (.str "box")) → E.nx τ M) : suiteT K cl cl.box a E [none, none, some (.ref a), none, none] M := by
  unfold suiteT
  simp only [dSeq, dLt, dLe, dGt, dGe, dNext, dRet, dRetN, dDrop, dIfS, dAsg, dPar, dPar3, hName, dIf, dTest, dNot, dAnd, dOr, dAndV, dOrV, dNotV, dUn, dNeg, dOp, dFn, dCall, dCons, dNil, dC, dvar_eq, dTup, dLstS, dLstC, dChain, dRaise, dSettle, dApp, htup2, htup2b, ex_tup, ex_tupb, ex_lst, dAdd, dSub, dMul, dFdiv, dMod, dPow, dShl, dCmpI, dIsN, dNotN, dIsB, dNotB, isNon, dix_fr0, dix_fr1, dix_bx0, dix_bx1, dix_t0, dix_t1, dix_l0, mk_bx, mk_neg, mk_ab, ex_f1, ex_f2, ex_b1, ex_b2, two_fr, dAbs, dAug, dIpAdd, dFor, forD, dRng1, dItT, dItL, dSl, dSlL, dNoPart, dPart, dInt1, DL.start, List.map_cons, List.map_nil, List.cons_append, List.nil_append, List.length_cons, List.length_nil, List.replicate, List.replicate_zero, Nat.sub_self, Nat.reduceSub, Nat.reduceAdd, Nat.zero_add, List.set_cons_zero, List.set_cons_succ, List.getElem?_cons_zero, List.getElem?_cons_succ, List.append_nil, true_and, szl0, szl1, szl2, szl3, szl4, szl5, szl6, szl7, szl8, ltl0, ltl1, ltl2, ltl3, ltl4, ltl5, ex_some, ex_bl, ex_two, ex_three, ex_int, ex_intp, ex_ints, ex_int2,  Bool.false_eq_true, if_true, if_false, Bool.not_true, Bool.not_false, reduceIte]
  refine disE F.bb ?_
  refine disE F.bn ?_
  simp only [dSeq, dLt, dLe, dGt, dGe, dNext, dRet, dRetN, dDrop, dIfS, dAsg, dPar, dPar3, hName, dIf, dTest, dNot, dAnd, dOr, dAndV, dOrV, dNotV, dUn, dNeg, dOp, dFn, dCall, dCons, dNil, dC, dvar_eq, dTup, dLstS, dLstC, dChain, dRaise, dSettle, dApp, htup2, htup2b, ex_tup, ex_tupb, ex_lst, dAdd, dSub, dMul, dFdiv, dMod, dPow, dShl, dCmpI, dIsN, dNotN, dIsB, dNotB, isNon, dix_fr0, dix_fr1, dix_bx0, dix_bx1, dix_t0, dix_t1, dix_l0, mk_bx, mk_neg, mk_ab, ex_f1, ex_f2, ex_b1, ex_b2, two_fr, dAbs, dAug, dIpAdd, dFor, forD, dRng1, dItT, dItL, dSl, dSlL, dNoPart, dPart, dInt1, DL.start, List.map_cons, List.map_nil, List.cons_append, List.nil_append, List.length_cons, List.length_nil, List.replicate, List.replicate_zero, Nat.sub_self, Nat.reduceSub, Nat.reduceAdd, Nat.zero_add, List.set_cons_zero, List.set_cons_succ, List.getElem?_cons_zero, List.getElem?_cons_succ, List.append_nil, true_and, szl0, szl1, szl2, szl3, szl4, szl5, szl6, szl7, szl8, ltl0, ltl1, ltl2, ltl3, ltl4, ltl5, ex_some, ex_bl, ex_two, ex_three, ex_int, ex_intp, ex_ints, ex_int2,  Bool.false_eq_true, if_true, if_false, Bool.not_true, Bool.not_false, reduceIte, dCount]
  refine ⟨rfl, rfl, ?_⟩
  show ∃ b, D.bl (decide (((1 : Nat) : Int) = 1)) = D.bl b ∧ _
  refine ⟨true, rfl, ?_⟩
  rw [if_pos rfl]
  refine disT F.bv ⟨true, rfl, ?_⟩
  rw [if_pos rfl]
  simp only [dSeq, dLt, dLe, dGt, dGe, dNext, dRet, dRetN, dDrop, dIfS, dAsg, dPar, dPar3, hName, dIf, dTest, dNot, dAnd, dOr, dAndV, dOrV, dNotV, dUn, dNeg, dOp, dFn, dCall, dCons, dNil, dC, dvar_eq, dTup, dLstS, dLstC, dChain, dRaise, dSettle, dApp, htup2, htup2b, ex_tup, ex_tupb, ex_lst, dAdd, dSub, dMul, dFdiv, dMod, dPow, dShl, dCmpI, dIsN, dNotN, dIsB, dNotB, isNon, dix_fr0, dix_fr1, dix_bx0, dix_bx1, dix_t0, dix_t1, dix_l0, mk_bx, mk_neg, mk_ab, ex_f1, ex_f2, ex_b1, ex_b2, two_fr, dAbs, dAug, dIpAdd, dFor, forD, dRng1, dItT, dItL, dSl, dSlL, dNoPart, dPart, dInt1, DL.start, List.map_cons, List.map_nil, List.cons_append, List.nil_append, List.length_cons, List.length_nil, List.replicate, List.replicate_zero, Nat.sub_self, Nat.reduceSub, Nat.reduceAdd, Nat.zero_add, List.set_cons_zero, List.set_cons_succ, List.getElem?_cons_zero, List.getElem?_cons_succ, List.append_nil, true_and, szl0, szl1, szl2, szl3, szl4, szl5, szl6, szl7, szl8, ltl0, ltl1, ltl2, ltl3, ltl4, ltl5, ex_some, ex_bl, ex_two, ex_three, ex_int, ex_intp, ex_ints, ex_int2,  Bool.false_eq_true, if_true, if_false, Bool.not_true, Bool.not_false, reduceIte, dIndex]
  refine ⟨rfl, rfl, 0, .bl true, rfl, rfl, fun m z h => absurd h (by omega), ?_⟩
  show dIx (.lst (.str "box" :: _)) (.int 0) M _
  rw [dix_l0]
  exact q _ rfl
theorem suite_num {K : PySem.W.Frag} {mg : Str → Option Value} {cl : Cls} {A a : Addr} (F : WordF K mg cl A) {E : DEnds} {M : Mm} {x y : Option D} (q : ∀ τ : DSt, τ[1]? = some (some (.str "number")) → E.nx τ M) : suiteT K cl cl.num a E [none, none, some (.ref a), none, none] M := by
  unfold suiteT
  simp only [dSeq, dLt, dLe, dGt, dGe, dNext, dRet, dRetN, dDrop, dIfS, dAsg, dPar, dPar3, hName, dIf, dTest, dNot, dAnd, dOr, dAndV, dOrV, dNotV, dUn, dNeg, dOp, dFn, dCall, dCons, dNil, dC, dvar_eq, dTup, dLstS, dLstC, dChain, dRaise, dSettle, dApp, htup2, htup2b, ex_tup, ex_tupb, ex_lst, dAdd, dSub, dMul, dFdiv, dMod, dPow, dShl, dCmpI, dIsN, dNotN, dIsB, dNotB, isNon, dix_fr0, dix_fr1, dix_bx0, dix_bx1, dix_t0, dix_t1, dix_l0, mk_bx, mk_neg, mk_ab, ex_f1, ex_f2, ex_b1, ex_b2, two_fr, dAbs, dAug, dIpAdd, dFor, forD, dRng1, dItT, dItL, dSl, dSlL, dNoPart, dPart, dInt1, DL.start, List.map_cons, List.map_nil, List.cons_append, List.nil_append, List.length_cons, List.length_nil, List.replicate, List.replicate_zero, Nat.sub_self, Nat.reduceSub, Nat.reduceAdd, Nat.zero_add, List.set_cons_zero, List.set_cons_succ, List.getElem?_cons_zero, List.getElem?_cons_succ, List.append_nil, true_and, szl0, szl1, szl2, szl3, szl4, szl5, szl6, szl7, szl8, ltl0, ltl1, ltl2, ltl3, ltl4, ltl5, ex_some, ex_bl, ex_two, ex_three, ex_int, ex_intp, ex_ints, ex_int2,  Bool.false_eq_true, if_true, if_false, Bool.not_true, Bool.not_false, reduceIte]
  refine disE F.nb ?_
  refine disE F.nn ?_
  simp only [dSeq, dLt, dLe, dGt, dGe, dNext, dRet, dRetN, dDrop, dIfS, dAsg, dPar, dPar3, hName, dIf, dTest, dNot, dAnd, dOr, dAndV, dOrV, dNotV, dUn, dNeg, dOp, dFn, dCall, dCons, dNil, dC, dvar_eq, dTup, dLstS, dLstC, dChain, dRaise, dSettle, dApp, htup2, htup2b, ex_tup, ex_tupb, ex_lst, dAdd, dSub, dMul, dFdiv, dMod, dPow, dShl, dCmpI, dIsN, dNotN, dIsB, dNotB, isNon, dix_fr0, dix_fr1, dix_bx0, dix_bx1, dix_t0, dix_t1, dix_l0, mk_bx, mk_neg, mk_ab, ex_f1, ex_f2, ex_b1, ex_b2, two_fr, dAbs, dAug, dIpAdd, dFor, forD, dRng1, dItT, dItL, dSl, dSlL, dNoPart, dPart, dInt1, DL.start, List.map_cons, List.map_nil, List.cons_append, List.nil_append, List.length_cons, List.length_nil, List.replicate, List.replicate_zero, Nat.sub_self, Nat.reduceSub, Nat.reduceAdd, Nat.zero_add, List.set_cons_zero, List.set_cons_succ, List.getElem?_cons_zero, List.getElem?_cons_succ, List.append_nil, true_and, szl0, szl1, szl2, szl3, szl4, szl5, szl6, szl7, szl8, ltl0, ltl1, ltl2, ltl3, ltl4, ltl5, ex_some, ex_bl, ex_two, ex_three, ex_int, ex_intp, ex_ints, ex_int2,  Bool.false_eq_true, if_true, if_false, Bool.not_true, Bool.not_false, reduceIte, dCount]
  refine ⟨rfl, rfl, ?_⟩
  show ∃ b, D.bl (decide (((1 : Nat) : Int) = 1)) = D.bl b ∧ _
  refine ⟨true, rfl, ?_⟩
  rw [if_pos rfl]
  refine disT F.nv ⟨true, rfl, ?_⟩
  rw [if_pos rfl]
  simp only [dSeq, dLt, dLe, dGt, dGe, dNext, dRet, dRetN, dDrop, dIfS, dAsg, dPar, dPar3, hName, dIf, dTest, dNot, dAnd, dOr, dAndV, dOrV, dNotV, dUn, dNeg, dOp, dFn, dCall, dCons, dNil, dC, dvar_eq, dTup, dLstS, dLstC, dChain, dRaise, dSettle, dApp, htup2, htup2b, ex_tup, ex_tupb, ex_lst, dAdd, dSub, dMul, dFdiv, dMod, dPow, dShl, dCmpI, dIsN, dNotN, dIsB, dNotB, isNon, dix_fr0, dix_fr1, dix_bx0, dix_bx1, dix_t0, dix_t1, dix_l0, mk_bx, mk_neg, mk_ab, ex_f1, ex_f2, ex_b1, ex_b2, two_fr, dAbs, dAug, dIpAdd, dFor, forD, dRng1, dItT, dItL, dSl, dSlL, dNoPart, dPart, dInt1, DL.start, List.map_cons, List.map_nil, List.cons_append, List.nil_append, List.length_cons, List.length_nil, List.replicate, List.replicate_zero, Nat.sub_self, Nat.reduceSub, Nat.reduceAdd, Nat.zero_add, List.set_cons_zero, List.set_cons_succ, List.getElem?_cons_zero, List.getElem?_cons_succ, List.append_nil, true_and, szl0, szl1, szl2, szl3, szl4, szl5, szl6, szl7, szl8, ltl0, ltl1, ltl2, ltl3, ltl4, ltl5, ex_some, ex_bl, ex_two, ex_three, ex_int, ex_intp, ex_ints, ex_int2,  Bool.false_eq_true, if_true, if_false, Bool.not_true, Bool.not_false, reduceIte, dIndex]
  refine ⟨rfl, rfl, 1, .bl true, rfl, rfl, fun m z h h2 => ?_, ?_⟩
  · have : m = 0 := by omega
    subst this
    cases h2
    rfl
  · show dIx (.lst [.str "box", .str "number"]) (.int ((1 : Nat) : Int)) M _
    rw [dix_at (atI_nat (j := 1) rfl)]
    exact q _ rfl
/-- the reading of a call handed to the def that tells the word -/
def TTw (cl : Cls) (Pt : Addr) (q : Str) : (XK → Hp → VK → Prop) → Hp → VK → Prop := fun tl H Q => tl (fun c d H1 => d = none ∧ LamX.TabS H1 Pt q ∧ ∃ r, WordOf cl c r ∧ ∀ H2, LamX.ExtN H1 H2 → LamX.TabS H2 Pt q → Q (.str r) H2) H (fun _ H1 => Q (.str "told") H1)
theorem pss_len {X : Cx} {sts : List Stmt} {t : TS} (h : PSs X sts t) : PSs X sts (fun D σ H => σ.length = X.N.length → t D σ H) := ⟨fun pins s σ H E I z => h.run pins s σ H E I (z I.len)⟩
theorem tab_m {K : PySem.W.Frag} {H : Hp} {Pt : Addr} {q : Str} (h : LamX.TabS H Pt q) : MRel K (tabM [Pt] q) H := fun b o e => by
  unfold tabM at e
  split at e
  · rename_i hb
    cases e
    rw [List.mem_singleton.mp hb]
    obtain ⟨ps, h1, h2, h3⟩ := h
    exact ⟨_, h1, h2, h3⟩
  · cases e
theorem tab_of {K : PySem.W.Frag} {M : Mm} {H : Hp} {Pt : Addr} {q : Str} (r : MRel K M H) (h : M Pt = some (.tab q)) : LamX.TabS H Pt q := by
  obtain ⟨u, hu, z⟩ := r Pt _ h
  cases u <;> first | exact z.elim | exact ⟨_, hu, z.1, z.2⟩
end K07

set_option Elab.async false
set_option linter.all false
set_option maxRecDepth 100000
set_option maxHeartbeats 1000000
namespace K07
open PySem PySem.Spec PyProof.Rows L2 DL
/-- the suite of the except clause -/
def wordSuite : List Stmt := match defBody s__law_word with
  | [_, .Try _ [.ExceptHandler _ _ b _] _ _ _, _] => b
  | _ => []
theorem word_gives {X : Cx} {cl : Cls} {A g Pt : Addr} {cdg : Value} {k : Nat} {q : Str} (hr : Room (k + 2) X.A) (F : WordF X.K X.mg cl A) :
    LamX.GivesTo X ["call", "found", "e", "flags", "names_now"] "_law_word" (defScope s__law_word) g cdg (defBody s__law_word) "call" q (TTw cl Pt q) := by
  intro f c' s H Q tl act hc h
  have nd := sc__law_word.nd
  have hr1 : Room (k + 1) (X.A.deeper (envOfC "_law_word" (defScope s__law_word) s.heap.objs.size g cdg)) := hr.deeper _
  have su : ∀ (C a : Addr) (oe : Obj) (pn : List (Addr × Obj)), ExcC X.K C → Zc (.ref C) none oe → (∃ vs, oe.data = .fields vs) →
      DSs ((cxOf C8.CX0 X.prog X.w X.K X.mg X.base ["call", "found", "e", "flags", "names_now"] "_law_word" (defScope s__law_word) g cdg X.A X.stack s H C8.E0).nox.suite a ((a, oe) :: pn)) W0 wordSuite (suiteT X.K cl C a) := fun C a oe pn eC hz hv =>
    dss_cons (ds_set (i := 3) nd rfl (Or.inl rfl) (de_lstS (da_cons (de_callB (call_isE eC hz hv) lf_isE rfl F.nI (by decide +kernel) (da_cons (de_var 2) (da_cons (de_gr rfl F.gB) da_nil))) (da_cons (de_callB (call_isE eC hz hv) lf_isE rfl F.nI (by decide +kernel) (da_cons (de_var 2) (da_cons (de_gr rfl F.gN) da_nil))) da_nil))))
      (dss_cons (ds_set (i := 1) nd rfl (Or.inl rfl) de_str)
        (dss_one (ds_if (DW.dt (dw_and (dt_cmp (op_eqA hr1.units) lf_eq (de_count (de_var 3) de_bl) de_int (nomark _)) (dw_and1 (dt_val (de_callB (call_isE eC hz hv) lf_isE rfl F.nI (by decide +kernel) (da_cons (de_var 2) (da_cons (de_ty rfl F.nV (by decide +kernel)) da_nil)))))))
          (dss_cons (ds_set (i := 4) nd rfl (Or.inl rfl) (de_lstS (da_cons de_str (da_cons de_str da_nil)))) (dss_one (ds_set (i := 1) nd rfl (Or.inl rfl) (de_ix (de_var 4) (de_index (de_var 3) de_bl))))) dss_nil)))
  refine ⟨_, pss_cons (ps_set (i := 1) nd rfl (Or.inl rfl) pe_str) (pss_cons (ps_try_as (X := (cxOf C8.CX0 X.prog X.w X.K X.mg X.base ["call", "found", "e", "flags", "names_now"] "_law_word" (defScope s__law_word) g cdg X.A X.stack s H C8.E0).nox) (i := 2) (c := .ref A)
    (tb := fun W D σ H => ∃ Ech : XK, (∀ cls d σ' H', Ech cls d H' → W cls d σ' H') ∧ σ[0]? = some (some (.ref f)) ∧ H c' = some (LamX.CodeO c' q) ∧ tl Ech H (fun _ H' => D.nx σ H'))
    (ts := fun a cls d D σ H => σ.length = 5 → d = none ∧ ∃ C, cls = .ref C ∧ ExcC X.K C ∧ loS X.K W0 (suiteT X.K cl C a) D σ H) (Wout := fun _ _ _ _ => False) rfl rfl nd rfl rfl ⟨rfl, by decide, .inl F.gA⟩ LamX.takes0 (fun W pn xe tk _ => ⟨fun pins s' σ H' D I h' => ?_⟩) (fun a oe cls d pn hz hv => ⟨fun pins s' σ H' D I h' => ?_⟩))
    (pss_one (ps_ret (pe_var (i := 1) rfl (Or.inl rfl))))), ?_⟩
  · obtain ⟨Ech, hW, h1, h2, h3⟩ := h'
    exact (pss_one (ps_expr (act W pn xe Ech _ _ tk hW))).run pins s' σ H' D I ⟨h1, h2, h3⟩
  · obtain ⟨e1, C, e2, eC, r⟩ := h' I.len
    subst e1 e2
    exact (su C a oe pn eC hz hv).of.run pins s' σ H' D I r
  · refine ⟨fun c d H1 => d = none ∧ LamX.TabS H1 Pt q ∧ ∃ r, WordOf cl c r ∧ ∀ H2, LamX.ExtN H1 H2 → LamX.TabS H2 Pt q → Q (.str r) H2, ?_, rfl, hc, ?_⟩
    rotate_left
    · refine cast (congrArg (tl _ H) ?_) h
      funext v H'
      apply propext
      constructor
      · intro z
        exact ⟨_, rfl, z⟩
      · rintro ⟨v, e, z⟩
        cases e
        exact z
    rintro c d σ' H1 ⟨e1, ht, r, hw, hq⟩
    subst e1
    have hx : PySem.W.exmOne X.K c (.ref A) = some true := by
      rcases hw with ⟨e, _⟩ | ⟨e, _⟩ <;> rw [e]
      · exact F.xB
      · exact F.xN
    refine ⟨true, hx, fun _ a na hl => ?_, fun z => by cases z⟩
    rw [List.length_set] at hl
    have hC : ∃ C, c = .ref C ∧ ExcC X.K C ∧ ∀ (E : DEnds) (M : Mm), (∀ τ : DSt, τ[1]? = some (some (.str r)) → E.nx τ M) → suiteT X.K cl C a E [none, none, some (.ref a), none, none] M := by
      rcases hw with ⟨e, e2⟩ | ⟨e, e2⟩
      · exact ⟨_, e, F.eB, fun E M z => by rw [e2] at z; exact suite_box (x := none) (y := none) F z⟩
      · exact ⟨_, e, F.eN, fun E M z => by rw [e2] at z; exact suite_num (x := none) (y := none) F z⟩
    obtain ⟨C, ec, eC, red⟩ := hC
    have rs : RSt X.K (tabM [Pt] q) H1 [none, none, some (.ref a), none, none] (σ'.set 2 (some (.ref a))) := by
      refine ⟨by simp [hl], fun i d e => ?_⟩
      match i, e with
      | 0, e => cases e
      | 1, e => cases e
      | 2, e =>
        cases e
        exact ⟨.ref a, by rw [List.getElem?_set_self (by omega)], .ref a⟩
      | 3, e => cases e
      | 4, e => cases e
      | n + 5, e => simp at e
    refine ⟨rfl, C, ec, eC, _, tabM [Pt] q, { nx := fun τ M => τ[1]? = some (some (.str r)) ∧ M = tabM [Pt] q, rt := fun _ _ => False }, rs, tab_m ht, red _ _ fun τ e => ⟨e, rfl⟩, ⟨fun τ' M' σ2 H2 a1 a2 a3 ⟨b1, b2⟩ => ?_, fun _ _ _ _ _ _ _ z => z.elim, fun _ _ _ _ _ _ _ z => z.elim, fun _ _ _ _ _ _ _ z => z.elim, fun _ _ _ _ _ _ _ _ z => z.elim⟩⟩
    obtain ⟨v, v1, v2⟩ := a1.2 1 _ b1
    cases v2
    refine ⟨.str r, ?_, hq H2 (fun b o e n => ?_) (tab_of a2 ?_)⟩
    · rw [List.getElem?_set_ne (by decide)]
      exact v1
    · refine (a3 b o e ?_ n).1
      unfold tabM
      rw [if_neg]
      intro hb
      obtain ⟨ps, p1, _⟩ := ht
      rw [List.mem_singleton.mp hb, p1] at e
      exact n ps (Option.some.inj e).symm
    · rw [b2]
      unfold tabM
      rw [if_pos (List.mem_singleton.mpr rfl)]
end K07

set_option Elab.async false
set_option linter.all false
set_option maxRecDepth 100000
set_option maxHeartbeats 1000000
namespace K07
open PySem PySem.Spec PyProof.Rows L2 DL
def dWord (cl : Cls) (Pt : Addr) (q : Str) (tb : TED) : TED := fun τ M P Y => M Pt = some (.tab q) ∧ (∀ a q2, M a = some (.tab q2) → a = Pt) ∧ tb τ M (fun _ M2 => P (.str "told") M2) (fun c M2 => M2 Pt = some (.tab q) ∧ (∀ a q2, M2 a = some (.tab q2) → a = Pt) ∧ ∃ r, WordOf cl c r ∧ P (.str r) M2)
theorem mrel_ext {K : PySem.W.Frag} {M : Mm} {H H1 : Hp} {Pt : Addr} {q : Str} (r : MRel K M H) (ht : M Pt = some (.tab q)) (hu : ∀ a q2, M a = some (.tab q2) → a = Pt) (eN : LamX.ExtN H H1) (t1 : LamX.TabS H1 Pt q) : MRel K M H1 := fun a o e => by
  have kk : Keep M H M H1 := fun a o e m n => ⟨eN a o e n, m⟩
  obtain ⟨u, hu1, hu2⟩ := r a o e
  by_cases c : ∃ q2, o = .tab q2
  · obtain ⟨q2, rfl⟩ := c
    have ea := hu a q2 e
    subst ea
    rw [ht] at e
    cases e
    obtain ⟨ps, z1, z2, z3⟩ := t1
    exact ⟨_, z1, z2, z3⟩
  · refine ⟨u, eN a u hu1 (fun ps z => c ?_), hu2.keep r kk⟩
    subst z
    cases o <;> first | exact hu2.elim | exact ⟨_, rfl⟩
theorem de_word {X : Cx} {W : WX} {cl : Cls} {A Pt : Addr} {k : Nat} {own : Scope} {params : Arguments} {body : Expr} {lpos pos p : Pos} {tb : TED} (hr : Room (k + 2) X.A) (F : WordF X.K X.mg cl A) (DD : DefIn X.K X.mg "_law_word" s__law_word ["call"]) (hg : Gl X "_law_word")
    (mk : MakesL X [(Pt, X.env.qual ++ "<lambda>")] own params body lpos) (L : LamD X.N X.env.scope own)
    (hb : ∀ (A : Around) (outer : List Env) (s : Shared) (H : Hp) (E : XK) (f c2 : Addr), Room k (A.deeper (LamX.lamEnv X own s.heap.objs.size f c2)) → DE (LamX.lamCx X A outer s H E own f c2) (fun c oe _ H => E c oe H) body tb) :
    DE X W (.Call (.Name "_law_word" p) [.Lambda params body own lpos] [] pos) (dWord cl Pt (X.env.qual ++ "<lambda>") tb) := ⟨⟨fun pins s σ H Q I h => by
  obtain ⟨g, fd, FF, hm, hbd⟩ := DD.ex
  have kp := FF.kp
  obtain ⟨oc, od, kV, doc, pm, an, cdv, ct, osl, rfl, lk, hcd⟩ := FF.ex
  obtain ⟨τ, M, P, Y, hs, hm', ⟨ht, hu, q⟩, hp, hy⟩ := h
  have tabs : LamX.TabS H Pt (X.env.qual ++ "<lambda>") := tab_of hm' ht
  refine (pe_lamG (a := "call") (Ng := ["call", "found", "e", "flags", "names_now"]) hg hm kp lk hcd hbd sc__law_word rfl (Or.inl rfl) (word_gives (Pt := Pt) hr F) mk hr L
    (t := fun E => DL.lo X.K (fun c oe _ H => E c oe H) (rV X.K) tb) (fun A outer s H E f c2 hr2 => (hb A outer s H E f c2 hr2).of) (by decide) (by decide) (by decide)).run pins s σ H Q I ⟨fun p hp => by rw [List.mem_singleton.mp hp]; exact tabs, fun H1 eN T1 => ?_⟩
  have t1 : LamX.TabS H1 Pt (X.env.qual ++ "<lambda>") := T1 (Pt, X.env.qual ++ "<lambda>") (List.mem_singleton.mpr rfl)
  have kk : Keep M H M H1 := fun a o e m n => ⟨eN a o e n, m⟩
  refine ⟨τ, M, _, _, hs.keep hm' kk, mrel_ext hm' ht hu eN t1, q, fun d M2 v H2 rd m2 k2 p2 => ?_, fun c M2 H2 m2 k2 ⟨y1, y0, r, y2, y3⟩ => ⟨rfl, tab_of m2 y1, r, y2, fun H3 e3 t3 => ?_⟩⟩
  · exact hp _ M2 _ H2 (.str _) m2 (kk.trans k2) p2
  · have k3 : Keep M2 H2 M2 H3 := fun a o e m n => ⟨e3 a o e n, m⟩
    exact hp _ M2 _ H3 (.str _) (mrel_ext m2 y1 y0 e3 t3) ((kk.trans k2).trans k3) y3⟩⟩
end K07

set_option Elab.async false
set_option linter.all false
set_option maxRecDepth 100000
set_option maxHeartbeats 1000000
namespace K07
open PySem PySem.Spec PyProof.Rows L2 DL
/-- a def that is known with its code -/
theorem fnG_of {P : Program} {w : World} {K : PySem.W.Frag} {mg : Str → Option Value} {base : Heap} {name qual : Str} {params : Arguments} {body : List Stmt} {scope : Scope} {f : Addr} {dV kV doc pm cdv ct oc : Value} {an od : Option Addr} {osl : Array (Option Value)} {N ps : List Str} {gz : Bool} {k : Nat} {s : SpD}
    (lk : K.lookup f = some ⟨oc, od, .func (PySem.W.fnOf name qual params body scope dV kV doc pm an cdv ct), osl⟩) (hcd : PySem.W.codeIn K cdv qual = true) (S : FnScope N ps scope) (len : ∀ xs M P Y, s xs M P Y → xs.length = ps.length)
    (hbody : ∀ (A : Around) (outer : List Env) (s0 : Shared) (H : Hp) (E : XK), Room k (A.deeper (envOfC qual scope s0.heap.objs.size f cdv)) → (gz = true → A.guards = some []) →
      ∃ t, DSs (cxOf (L2.CX P w) P w K mg base N qual scope f cdv A outer s0 H E) (fun c oe _ H => E c oe H) body t ∧ ∀ xs M P Y, s xs M P Y → t { nx := fun _ M' => P .non M', rt := P, ex := fun c _ M' => Y c M' } (DL.start N.length xs) M) :
    FnG P w K mg base gz (k + 1) f (PySem.W.fnOf name qual params body scope dV kV doc pm an cdv ct) ps s :=
  ⟨len, fun A outer s0 H args us vs Q E hr gd e0 hb r ⟨xs, M, P', Y, h1, h2, h3, h4, h5⟩ => LamX.run_ofS (N := N) (ps := ps) lk hcd S hr e0 hb r (by rw [← h1.length]; exact len _ _ _ _ h3) fun hr2 => by
    obtain ⟨t, dt, rd⟩ := hbody A outer s0 H E hr2 gd
    exact ⟨_, dt.of, DL.start N.length xs, M, _, RSt.start N h1, h2, rd xs M P' Y h3, ⟨fun τ' M' σ' H' a b c q => h4 .non M' .non H' .non b c q, fun d M' v H' a b c q => h4 d M' v H' a b c q, fun _ _ _ _ _ _ _ q => q.elim, fun _ _ _ _ _ _ _ q => q.elim, fun c τ' M' σ' H' a b kk q => h5 c M' H' b kk q⟩⟩⟩
def lamQ : Str := (("law" : Str) ++ ".<locals>.") ++ "<lambda>"
def sp_law (Pt : Addr) : SpD
  | [.scr ds], M, P, _ => ∃ ns : List Int, ds = ns.map .int ∧ ns.length ≤ 100000 ∧ M = tabM [Pt] lamQ ∧ ∀ M2, P (.bl true) M2
  | _, _, _, _ => False
abbrev s_law : Stmt := top 88
theorem sc_law : FnScope ["script", "hand", "lap", "one", "other", "bads", "heard", "bad", "box", "odd"] ["script"] (defScope s_law) := ⟨rfl, rfl, rfl, by decide +kernel, rfl, by decide +kernel, by decide +kernel⟩
def t_law (cl : Cls) (Pt : Addr) : TSD :=
    (dSeq (dAsg (dCall sp__law_hand (dCons (dVar 0) dNil)) (hName 1))
    (dSeq (dIfS (dTest (dOp dNe (dCall (sp_box_root cl) (dCons (dTup (dCons (dTup (dCons (dC (.int 2)) (dCons (dC (.int 1)) dNil))) (dCons (dTup (dCons (dC (.int 2)) (dCons (dC (.int 1)) dNil))) dNil))) (dCons (dC (.int 2)) (dCons (dC (.int 3)) dNil)))) (dTup (dCons (dTup (dCons (dC (.int 11)) (dCons (dC (.int 8)) dNil))) (dCons (dTup (dCons (dC (.int 3)) (dCons (dC (.int 2)) dNil))) dNil))))) (dRet (dC (.bl false))) dNext)
    (dSeq (dIfS (dTest (dOp dNotN (dCall (sp_box_over cl) (dCons (dTup (dCons (dTup (dCons (dC (.int 1)) (dCons (dC (.int 1)) dNil))) (dCons (dTup (dCons (dC (.int 2)) (dCons (dC (.int 1)) dNil))) dNil))) (dCons (dTup (dCons (dTup (dCons (dC (.int 0)) (dCons (dC (.int 1)) dNil))) (dCons (dTup (dCons (dC (.int 1)) (dCons (dC (.int 1)) dNil))) dNil))) dNil))) (dC .non))) (dRet (dC (.bl false))) dNext)
    (dSeq (dFor (dRng1 (dCons (dC (.int 12)) dNil)) (hName 2) (dSeq (dPar 3 4 (dCons (dCall sp__law_drawn (dCons (dVar 1) dNil)) (dCons (dCall sp__law_drawn (dCons (dVar 1) dNil)) dNil)))
    (dSeq (dIfS (dOr (dNot (dTest (dCall sp__law_are_two_right (dCons (dVar 1) (dCons (dVar 3) (dCons (dVar 4) dNil)))))) (dNot (dTest (dCall sp__law_is_one_right (dCons (dVar 1) (dCons (dVar 3) dNil)))))) (dRet (dC (.bl false))) dNext)
    (dIfS (dNot (dTest (dCall sp__law_are_wider_right (dCons (dVar 3) (dCons (dVar 4) dNil))))) (dRet (dC (.bl false))) dNext))))
    (dSeq (dAsg (dCall sp__law_drawn (dCons (dVar 1) dNil)) (hName 8))
    (dSeq (dAsg (dLstS (dCons (dC .non) (dCons (dTup dNil) (dCons (dTup (dCons (dTup (dCons (dC (.int 1)) (dCons (dC (.int 1)) dNil))) dNil)) (dCons (dTup (dCons (dTup (dCons (dC (.int 2)) (dCons (dC (.int 1)) dNil))) (dCons (dTup (dCons (dC (.int 1)) (dCons (dC (.int 1)) dNil))) dNil))) (dCons (dTup (dCons (dTup (dCons (dC (.int 1)) (dCons (dC (.int 2)) dNil))) (dCons (dTup (dCons (dC (.int 2)) (dCons (dC (.int 2)) dNil))) dNil))) (dCons (dLstS (dCons (dTup (dCons (dC (.int 0)) (dCons (dC (.int 1)) dNil))) (dCons (dTup (dCons (dC (.int 1)) (dCons (dC (.int 1)) dNil))) dNil))) (dCons (dC (.str "box")) dNil)))))))) (hName 5))
    (dSeq (dAsg (dCall sp__law_some (dCons (dVar 1) (dCons (dOp dAdd (dVar 5) (dLstS (dCons (dTup (dCons (dTup (dCons (dC (.int 0)) (dCons (dC (.int 1)) dNil))) (dCons (dTup (dCons (dC (.int 1)) (dCons (dC (.bl true)) dNil))) dNil))) dNil))) dNil))) (hName 7))
    (dSeq (dAsg (dLstS (dCons (dWord cl Pt lamQ (dCall (sp_box_add cl) (dCons (dVar 7) (dCons (dC .non) dNil)))) (dCons (dWord cl Pt lamQ (dCall (sp_box_over cl) (dCons (dVar 8) (dCons (dVar 7) dNil)))) dNil))) (hName 6))
    (dSeq (dAsg (dOp dAdd (dVar 6) (dLstS (dCons (dWord cl Pt lamQ (dCall (sp_box_join cl) (dCons (dVar 8) (dCons (dVar 7) dNil)))) (dCons (dWord cl Pt lamQ (dCall (sp_box_root cl) (dCons (dVar 7) (dCons (dC (.int 9)) (dCons (dC (.int 0)) dNil))))) dNil)))) (hName 6))
    (dSeq (dIfS (dOr (dTest (dOp dNe (dVar 6) (dOp dMul (dLstS (dCons (dC (.str "box")) dNil)) (dC (.int 4))))) (dTest (dOp dNotB (dCall sp_is_box (dCons (dVar 7) dNil)) (dC (.bl false))))) (dRet (dC (.bl false))) dNext)
    (dSeq (dAsg (dCall sp__law_some (dCons (dVar 1) (dCons (dLstS (dCons (dC .non) (dCons (dUn dNeg (dC (.int 1))) (dCons (dC (.int 401)) (dCons (dC (.str "2")) (dCons (dTup (dCons (dC (.int 2)) dNil)) (dCons (dC (.bl true)) (dCons (dC (.dct [])) dNil)))))))) dNil))) (hName 9))
    (dSeq (dAsg (dLstS (dCons (dWord cl Pt lamQ (dCall (sp_box_root cl) (dCons (dVar 8) (dCons (dC (.int 1)) (dCons (dC (.int 0)) dNil))))) (dCons (dWord cl Pt lamQ (dCall (sp_box_root cl) (dCons (dVar 8) (dCons (dC (.int 2)) (dCons (dVar 9) dNil))))) dNil))) (hName 6))
    (dRet (dOp dEq (dOp dAdd (dVar 6) (dLstS (dCons (dWord cl Pt lamQ (dCall (sp_box_root cl) (dCons (dVar 8) (dCons (dVar 9) (dCons (dC (.int 3)) dNil))))) dNil))) (dOp dMul (dLstS (dCons (dC (.str "number")) dNil)) (dC (.int 3)))))))))))))))))
theorem len_law {Pt : Addr} : ∀ xs M P Y, sp_law Pt xs M P Y → xs.length = 1 := by
  intro xs M P Y h
  unfold sp_law at h
  split at h
  · rfl
  · exact h.elim
end K07

set_option Elab.async false
set_option linter.all false
set_option maxRecDepth 100000
set_option maxHeartbeats 1000000
namespace K07
open PySem PySem.Spec PyProof.Rows L2 DL
/-! ### the law -/
def okI : D → Bool
  | .int i => decide (i.natAbs < 1000)
  | x => (tyD x).isSome
theorem i1000 {i : Int} (h : i.natAbs < 1000) : i.natAbs < 2 ^ 2000 := up_pow (n := 10) (Nat.lt_trans h (by decide)) (by decide)
theorem okI_ty {x : D} (h : okI x = true) : Ty x := by
  cases x <;> first | exact ⟨h, fun _ e => by cases e⟩ | (simp [okI] at h; exact ty_int (i1000 h)) | (simp [okI, tyD] at h)
def ok2 : D → Bool
  | .tup ds => ds.all okI
  | x => okI x
theorem ok2_ty {x : D} (h : ok2 x = true) : Ty2 x := by
  cases x <;> first | exact ⟨okI_ty h, fun _ e => by cases e⟩ | skip
  rename_i ds
  refine ⟨⟨rfl, fun _ e => by cases e⟩, fun es e d hd => ?_⟩
  cases e
  exact okI_ty (List.all_eq_true.mp h d hd)
def ok3 : D → Bool
  | .tup ds => ds.all ok2
  | x => okI x
theorem ok3_ty {x : D} (h : ok3 x = true) : Ty3 x := by
  cases x <;> first | exact ⟨okI_ty h, fun _ e => by cases e⟩ | skip
  rename_i ds
  refine ⟨⟨rfl, fun _ e => by cases e⟩, fun es e d hd => ?_⟩
  cases e
  exact ok2_ty (List.all_eq_true.mp h d hd)
theorem deq_py {x : D} {e : PyData} {M : Mm} {P : QD} (hx : ∀ i, x ≠ .int i) (hs : ∀ i, x ≠ .str i) (h : toPy x = some e) (sh : SeqAt.shaped e = true) (q : P (.bl true) M) : dEq x x M P := by
  unfold dEq
  split
  · exact absurd rfl (hx _)
  · exact absurd rfl (hs _)
  · refine ⟨e, e, h, h, sh, sh, ?_⟩
    rw [SeqAt.eqv_refl e (SeqAt.canLay_of_shaped sh)]
    exact q
theorem two_big : (2 : Rat) = ((2 : Int) : Rat) := rfl
theorem root22 : rootD 2 2 2 3 = bx (Rat.divInt 11 8) (Rat.divInt 3 2) := by
  have r : rt 2 128 = 11 := rt_eq (by decide) ⟨by decide, by decide, by decide⟩
  have lo_ : lowI 2 2 3 = 11 := by
    unfold lowI
    have e0 : Int.fdiv ((2 : Rat).num * (2 ^ 3) ^ 2) ((2 : Rat).den : Int) = 128 := by decide +kernel
    rw [e0]
    exact r
  have up_ : upI 2 2 3 = 12 := by
    unfold upI
    rw [lo_, if_pos (by decide +kernel)]
    rfl
  have m : mx 2 0 = 2 := by unfold mx; decide +kernel
  unfold rootD lowR upR
  rw [if_neg (by decide +kernel), m, lo_, up_]
  have e : Rat.divInt 12 (2 ^ 3) = Rat.divInt 3 2 := by decide +kernel
  rw [e]
  rfl
theorem word_box {cl : Cls} {Pt : Addr} {M : Mm} {P : QD} (ht : M Pt = some (.tab lamQ)) (hu : ∀ a q2, M a = some (.tab q2) → a = Pt) (q : P (.str "box") M) : (fun (c : Value) (M2 : Mm) => M2 Pt = some (.tab lamQ) ∧ (∀ a q2, M2 a = some (.tab q2) → a = Pt) ∧ ∃ r, WordOf cl c r ∧ P (.str r) M2) (.ref cl.box) M := ⟨ht, hu, _, .inl ⟨rfl, rfl⟩, q⟩
theorem word_num {cl : Cls} {Pt : Addr} {M : Mm} {P : QD} (ht : M Pt = some (.tab lamQ)) (hu : ∀ a q2, M a = some (.tab q2) → a = Pt) (q : P (.str "number") M) : (fun (c : Value) (M2 : Mm) => M2 Pt = some (.tab lamQ) ∧ (∀ a q2, M2 a = some (.tab q2) → a = Pt) ∧ ∃ r, WordOf cl c r ∧ P (.str r) M2) (.ref cl.num) M := ⟨ht, hu, _, .inr ⟨rfl, rfl⟩, q⟩
section
variable {cl : Cls} {x y k d : D} {l h : Rat} {M : Mm} {P : QD} {Y : XD} {f : Rat → Rat → Rat → Rat → D}
theorem bad2 (hx : Ty3 x) (hy : Ty3 y) (b : (isBx x && isBx y) = false) (q : Y (.ref cl.box) M) : sp_box2 cl 900 f [x, y] M P Y := ⟨hx, hy, fun _ => q, fun z => by rw [b] at z; cases z⟩
theorem badr (hx : Ty3 x) (hk : Ty k) (hd : Ty d) (b : isBx x = false) (q : Y (.ref cl.box) M) : sp_box_root cl [x, k, d] M P Y := ⟨hx, hk, hd, fun _ => q, fun z => (by rw [b] at z; cases z), fun z => (by rw [b] at z; cases z)⟩
theorem badn (hl : l ≤ h) (h1 : SZ l) (h2 : SZ h) (hk : Ty k) (hd : Ty d) (b : (inR k 2 5 && inR d 0 400) = false) (q : Y (.ref cl.num) M) : sp_box_root cl [bx l h, k, d] M P Y :=
  ⟨ty3_bx h1 h2, hk, hd, fun z => (by rw [isBx_bx, decide_eq_true hl] at z; cases z), fun _ _ => q, fun _ z => by rw [b] at z; cases z⟩
end
/-- one lap, and all of them -/
theorem law_loop {F : DEnds} {p : Addr} {sc : Option D} {M : Mm} {o5 o6 o7 o8 o9 : Option D} : ∀ (ds : List D) (o2 o3 o4 : Option D) (hd : List D), HandOK (16 * ds.length + 50) hd →
    (∀ (a b c : Option D) (hd2 : List D), HandOK 50 hd2 → F.nx [sc, some (.ref p), a, b, c, o5, o6, o7, o8, o9] (mup M p (.lst hd2))) →
    forD (hName 2) (dSeq (dPar 3 4 (dCons (dCall sp__law_drawn (dCons (dVar 1) dNil)) (dCons (dCall sp__law_drawn (dCons (dVar 1) dNil)) dNil)))
    (dSeq (dIfS (dOr (dNot (dTest (dCall sp__law_are_two_right (dCons (dVar 1) (dCons (dVar 3) (dCons (dVar 4) dNil)))))) (dNot (dTest (dCall sp__law_is_one_right (dCons (dVar 1) (dCons (dVar 3) dNil)))))) (dRet (dC (.bl false))) dNext)
    (dIfS (dNot (dTest (dCall sp__law_are_wider_right (dCons (dVar 3) (dCons (dVar 4) dNil))))) (dRet (dC (.bl false))) dNext))) F ds [sc, some (.ref p), o2, o3, o4, o5, o6, o7, o8, o9] (mup M p (.lst hd))
  | [], o2, o3, o4, hd, g, q => q _ _ _ hd g
  | d :: ds, o2, o3, o4, hd, g, q => by
    have e : 16 * (d :: ds).length + 50 = 16 * ds.length + 50 + 6 + 5 + 5 := by rw [List.length_cons]; omega
    rw [e] at g
    simp only [dSeq, dLt, dLe, dGt, dGe, dNext, dRet, dRetN, dDrop, dIfS, dAsg, dPar, dPar3, hName, dIf, dTest, dNot, dAnd, dOr, dAndV, dOrV, dNotV, dUn, dNeg, dOp, dFn, dCall, dCons, dNil, dC, dvar_eq, dTup, dLstS, dLstC, dChain, dRaise, dSettle, dApp, htup2, htup2b, ex_tup, ex_tupb, ex_lst, dAdd, dSub, dMul, dFdiv, dMod, dPow, dShl, dCmpI, dIsN, dNotN, dIsB, dNotB, isNon, dix_fr0, dix_fr1, dix_bx0, dix_bx1, dix_t0, dix_t1, dix_l0, mk_bx, mk_neg, mk_ab, ex_f1, ex_f2, ex_b1, ex_b2, two_fr, dAbs, dAug, dIpAdd, dFor, forD, dRng1, dItT, dItL, dSl, dSlL, dNoPart, dPart, dInt1, DL.start, List.map_cons, List.map_nil, List.cons_append, List.nil_append, List.length_cons, List.length_nil, List.replicate, List.replicate_zero, Nat.sub_self, Nat.reduceSub, Nat.reduceAdd, Nat.zero_add, List.set_cons_zero, List.set_cons_succ, List.getElem?_cons_zero, List.getElem?_cons_succ, List.append_nil, true_and, szl0, szl1, szl2, szl3, szl4, szl5, szl6, szl7, szl8, ltl0, ltl1, ltl2, ltl3, ltl4, ltl5, ex_some, ex_bl, ex_two, ex_three, ex_int, ex_intp, ex_ints, ex_int2,  Bool.false_eq_true, if_true, if_false, Bool.not_true, Bool.not_false, reduceIte, sp__law_drawn]
    refine ⟨_, hd_mup g, fun l h hd1 b1 b2 hl g1 => ⟨_, hd_mup g1, fun l' h' hd2 b3 b4 hl' g2 => ?_⟩⟩
    rw [mup_mup, mup_mup]
    simp only [dSeq, dLt, dLe, dGt, dGe, dNext, dRet, dRetN, dDrop, dIfS, dAsg, dPar, dPar3, hName, dIf, dTest, dNot, dAnd, dOr, dAndV, dOrV, dNotV, dUn, dNeg, dOp, dFn, dCall, dCons, dNil, dC, dvar_eq, dTup, dLstS, dLstC, dChain, dRaise, dSettle, dApp, htup2, htup2b, ex_tup, ex_tupb, ex_lst, dAdd, dSub, dMul, dFdiv, dMod, dPow, dShl, dCmpI, dIsN, dNotN, dIsB, dNotB, isNon, dix_fr0, dix_fr1, dix_bx0, dix_bx1, dix_t0, dix_t1, dix_l0, mk_bx, mk_neg, mk_ab, ex_f1, ex_f2, ex_b1, ex_b2, two_fr, dAbs, dAug, dIpAdd, dFor, forD, dRng1, dItT, dItL, dSl, dSlL, dNoPart, dPart, dInt1, DL.start, List.map_cons, List.map_nil, List.cons_append, List.nil_append, List.length_cons, List.length_nil, List.replicate, List.replicate_zero, Nat.sub_self, Nat.reduceSub, Nat.reduceAdd, Nat.zero_add, List.set_cons_zero, List.set_cons_succ, List.getElem?_cons_zero, List.getElem?_cons_succ, List.append_nil, true_and, szl0, szl1, szl2, szl3, szl4, szl5, szl6, szl7, szl8, ltl0, ltl1, ltl2, ltl3, ltl4, ltl5, ex_some, ex_bl, ex_two, ex_three, ex_int, ex_intp, ex_ints, ex_int2,  Bool.false_eq_true, if_true, if_false, Bool.not_true, Bool.not_false, reduceIte, sp__law_are_two_right, ex_b2]
    refine ⟨b1, b2, b3, b4, hl, hl', 16 * ds.length + 50 + 4, hd_mup (g2.mono (by omega)), fun hd3 g3 => ?_⟩
    rw [mup_mup]
    simp only [dSeq, dLt, dLe, dGt, dGe, dNext, dRet, dRetN, dDrop, dIfS, dAsg, dPar, dPar3, hName, dIf, dTest, dNot, dAnd, dOr, dAndV, dOrV, dNotV, dUn, dNeg, dOp, dFn, dCall, dCons, dNil, dC, dvar_eq, dTup, dLstS, dLstC, dChain, dRaise, dSettle, dApp, htup2, htup2b, ex_tup, ex_tupb, ex_lst, dAdd, dSub, dMul, dFdiv, dMod, dPow, dShl, dCmpI, dIsN, dNotN, dIsB, dNotB, isNon, dix_fr0, dix_fr1, dix_bx0, dix_bx1, dix_t0, dix_t1, dix_l0, mk_bx, mk_neg, mk_ab, ex_f1, ex_f2, ex_b1, ex_b2, two_fr, dAbs, dAug, dIpAdd, dFor, forD, dRng1, dItT, dItL, dSl, dSlL, dNoPart, dPart, dInt1, DL.start, List.map_cons, List.map_nil, List.cons_append, List.nil_append, List.length_cons, List.length_nil, List.replicate, List.replicate_zero, Nat.sub_self, Nat.reduceSub, Nat.reduceAdd, Nat.zero_add, List.set_cons_zero, List.set_cons_succ, List.getElem?_cons_zero, List.getElem?_cons_succ, List.append_nil, true_and, szl0, szl1, szl2, szl3, szl4, szl5, szl6, szl7, szl8, ltl0, ltl1, ltl2, ltl3, ltl4, ltl5, ex_some, ex_bl, ex_two, ex_three, ex_int, ex_intp, ex_ints, ex_int2,  Bool.false_eq_true, if_true, if_false, Bool.not_true, Bool.not_false, reduceIte, sp__law_is_one_right, ex_b1]
    refine ⟨b1, b2, hl, 16 * ds.length + 50, hd_mup g3, fun hd4 g4 => ?_⟩
    rw [mup_mup]
    simp only [dSeq, dLt, dLe, dGt, dGe, dNext, dRet, dRetN, dDrop, dIfS, dAsg, dPar, dPar3, hName, dIf, dTest, dNot, dAnd, dOr, dAndV, dOrV, dNotV, dUn, dNeg, dOp, dFn, dCall, dCons, dNil, dC, dvar_eq, dTup, dLstS, dLstC, dChain, dRaise, dSettle, dApp, htup2, htup2b, ex_tup, ex_tupb, ex_lst, dAdd, dSub, dMul, dFdiv, dMod, dPow, dShl, dCmpI, dIsN, dNotN, dIsB, dNotB, isNon, dix_fr0, dix_fr1, dix_bx0, dix_bx1, dix_t0, dix_t1, dix_l0, mk_bx, mk_neg, mk_ab, ex_f1, ex_f2, ex_b1, ex_b2, two_fr, dAbs, dAug, dIpAdd, dFor, forD, dRng1, dItT, dItL, dSl, dSlL, dNoPart, dPart, dInt1, DL.start, List.map_cons, List.map_nil, List.cons_append, List.nil_append, List.length_cons, List.length_nil, List.replicate, List.replicate_zero, Nat.sub_self, Nat.reduceSub, Nat.reduceAdd, Nat.zero_add, List.set_cons_zero, List.set_cons_succ, List.getElem?_cons_zero, List.getElem?_cons_succ, List.append_nil, true_and, szl0, szl1, szl2, szl3, szl4, szl5, szl6, szl7, szl8, ltl0, ltl1, ltl2, ltl3, ltl4, ltl5, ex_some, ex_bl, ex_two, ex_three, ex_int, ex_intp, ex_ints, ex_int2,  Bool.false_eq_true, if_true, if_false, Bool.not_true, Bool.not_false, reduceIte, sp__law_are_wider_right, ex_b2]
    refine ⟨b1, b2, b3, b4, hl, hl', ?_⟩
    exact law_loop ds _ _ _ hd4 g4 q
end K07

set_option Elab.async false
set_option linter.all false
set_option maxRecDepth 100000
set_option maxHeartbeats 1000000
namespace K07
open PySem PySem.Spec PyProof.Rows L2 DL
theorem tabs_ok {Pt p : Addr} {o : List D} (hp : tabM [Pt] lamQ p = none) : mup (tabM [Pt] lamQ) p (.lst o) Pt = some (.tab lamQ) ∧ ∀ a q2, mup (tabM [Pt] lamQ) p (.lst o) a = some (.tab q2) → a = Pt := by
  have e : tabM [Pt] lamQ Pt = some (.tab lamQ) := by unfold tabM; rw [if_pos (List.mem_singleton.mpr rfl)]
  have ne : Pt ≠ p := fun z => by rw [← z, e] at hp; cases hp
  refine ⟨by rw [mup_ne ne]; exact e, fun a q2 h => ?_⟩
  by_cases c : a = p
  · rw [c, mup_same] at h
    cases h
  · rw [mup_ne c] at h
    unfold tabM at h
    split at h
    · rename_i z
      exact List.mem_singleton.mp z
    · cases h
theorem ov_non : overD 1 2 0 1 = .non := by
  unfold overD
  rw [if_pos (by decide +kernel)]
theorem ty_s {i : Int} (h : i.natAbs < 1000) : Ty (.int i) := ty_int (i1000 h)
theorem rd_law {cl : Cls} {Pt : Addr} : ∀ xs M P Y, sp_law Pt xs M P Y → t_law cl Pt { nx := fun _ M' => P .non M', rt := P, ex := fun c _ M' => Y c M' } (DL.start 10 xs) M := by
  intro xs M P Y h
  unfold sp_law at h
  split at h
  rotate_left
  · exact h.elim
  rename_i ds
  unfold t_law
  obtain ⟨ns, rfl, hl, rfl, q⟩ := h
  have f2 : D.tup [.int 2, .int 1] = fr 2 := rfl
  have fa : D.tup [.int 11, .int 8] = fr (Rat.divInt 11 8) := by
    unfold fr
    rw [show (Rat.divInt 11 8).num = 11 by decide +kernel, show (Rat.divInt 11 8).den = 8 by decide +kernel]
    rfl
  have fb : D.tup [.int 3, .int 2] = fr (Rat.divInt 3 2) := by
    unfold fr
    rw [show (Rat.divInt 3 2).num = 3 by decide +kernel, show (Rat.divInt 3 2).den = 2 by decide +kernel]
    rfl
  have t2 : bt 2 200 := ⟨by show 2 < 2 ^ 200; decide, by show 1 < 2 ^ 200; decide⟩
  have t1 : bt 1 900 := ⟨by show 1 < 2 ^ 900; exact Nat.one_lt_two_pow (by decide), Nat.one_lt_two_pow (by decide)⟩
  have t0 : bt 0 900 := bt0 (by decide)
  simp only [dSeq, dLt, dLe, dGt, dGe, dNext, dRet, dRetN, dDrop, dIfS, dAsg, dPar, dPar3, hName, dIf, dTest, dNot, dAnd, dOr, dAndV, dOrV, dNotV, dUn, dNeg, dOp, dFn, dCall, dCons, dNil, dC, dvar_eq, dTup, dLstS, dLstC, dChain, dRaise, dSettle, dApp, htup2, htup2b, ex_tup, ex_tupb, ex_lst, dAdd, dSub, dMul, dFdiv, dMod, dPow, dShl, dCmpI, dIsN, dNotN, dIsB, dNotB, isNon, dix_fr0, dix_fr1, dix_bx0, dix_bx1, dix_t0, dix_t1, dix_l0, mk_bx, mk_neg, mk_ab, ex_f1, ex_f2, ex_b1, ex_b2, two_fr, dAbs, dAug, dIpAdd, dFor, forD, dRng1, dItT, dItL, dSl, dSlL, dNoPart, dPart, dInt1, DL.start, List.map_cons, List.map_nil, List.cons_append, List.nil_append, List.length_cons, List.length_nil, List.replicate, List.replicate_zero, Nat.sub_self, Nat.reduceSub, Nat.reduceAdd, Nat.zero_add, List.set_cons_zero, List.set_cons_succ, List.getElem?_cons_zero, List.getElem?_cons_succ, List.append_nil, true_and, szl0, szl1, szl2, szl3, szl4, szl5, szl6, szl7, szl8, ltl0, ltl1, ltl2, ltl3, ltl4, ltl5, ex_some, ex_bl, ex_two, ex_three, ex_int, ex_intp, ex_ints, ex_int2,  Bool.false_eq_true, if_true, if_false, Bool.not_true, Bool.not_false, reduceIte, sp__law_hand]
  refine ⟨ns, rfl, hl, fun p hd hp g => ?_⟩
  simp only [dSeq, dLt, dLe, dGt, dGe, dNext, dRet, dRetN, dDrop, dIfS, dAsg, dPar, dPar3, hName, dIf, dTest, dNot, dAnd, dOr, dAndV, dOrV, dNotV, dUn, dNeg, dOp, dFn, dCall, dCons, dNil, dC, dvar_eq, dTup, dLstS, dLstC, dChain, dRaise, dSettle, dApp, htup2, htup2b, ex_tup, ex_tupb, ex_lst, dAdd, dSub, dMul, dFdiv, dMod, dPow, dShl, dCmpI, dIsN, dNotN, dIsB, dNotB, isNon, dix_fr0, dix_fr1, dix_bx0, dix_bx1, dix_t0, dix_t1, dix_l0, mk_bx, mk_neg, mk_ab, ex_f1, ex_f2, ex_b1, ex_b2, two_fr, dAbs, dAug, dIpAdd, dFor, forD, dRng1, dItT, dItL, dSl, dSlL, dNoPart, dPart, dInt1, DL.start, List.map_cons, List.map_nil, List.cons_append, List.nil_append, List.length_cons, List.length_nil, List.replicate, List.replicate_zero, Nat.sub_self, Nat.reduceSub, Nat.reduceAdd, Nat.zero_add, List.set_cons_zero, List.set_cons_succ, List.getElem?_cons_zero, List.getElem?_cons_succ, List.append_nil, true_and, szl0, szl1, szl2, szl3, szl4, szl5, szl6, szl7, szl8, ltl0, ltl1, ltl2, ltl3, ltl4, ltl5, ex_some, ex_bl, ex_two, ex_three, ex_int, ex_intp, ex_ints, ex_int2,  Bool.false_eq_true, if_true, if_false, Bool.not_true, Bool.not_false, reduceIte, f2, fa, fb]
  simp only [dSeq, dLt, dLe, dGt, dGe, dNext, dRet, dRetN, dDrop, dIfS, dAsg, dPar, dPar3, hName, dIf, dTest, dNot, dAnd, dOr, dAndV, dOrV, dNotV, dUn, dNeg, dOp, dFn, dCall, dCons, dNil, dC, dvar_eq, dTup, dLstS, dLstC, dChain, dRaise, dSettle, dApp, htup2, htup2b, ex_tup, ex_tupb, ex_lst, dAdd, dSub, dMul, dFdiv, dMod, dPow, dShl, dCmpI, dIsN, dNotN, dIsB, dNotB, isNon, dix_fr0, dix_fr1, dix_bx0, dix_bx1, dix_t0, dix_t1, dix_l0, mk_bx, mk_neg, mk_ab, ex_f1, ex_f2, ex_b1, ex_b2, two_fr, dAbs, dAug, dIpAdd, dFor, forD, dRng1, dItT, dItL, dSl, dSlL, dNoPart, dPart, dInt1, DL.start, List.map_cons, List.map_nil, List.cons_append, List.nil_append, List.length_cons, List.length_nil, List.replicate, List.replicate_zero, Nat.sub_self, Nat.reduceSub, Nat.reduceAdd, Nat.zero_add, List.set_cons_zero, List.set_cons_succ, List.getElem?_cons_zero, List.getElem?_cons_succ, List.append_nil, true_and, szl0, szl1, szl2, szl3, szl4, szl5, szl6, szl7, szl8, ltl0, ltl1, ltl2, ltl3, ltl4, ltl5, ex_some, ex_bl, ex_two, ex_three, ex_int, ex_intp, ex_ints, ex_int2,  Bool.false_eq_true, if_true, if_false, Bool.not_true, Bool.not_false, reduceIte, root_ok (cl := cl) (l := 2) (h := 2) (i := 2) (j := 3) Rat.le_refl t2 t2 (by decide) (by decide) (by decide) (by decide), show (2 : Int).toNat = 2 from rfl, show (3 : Int).toNat = 3 from rfl, root22]
  refine dne_bx ⟨false, rfl, ?_⟩
  rw [if_neg Bool.false_ne_true]
  simp only [dSeq, dLt, dLe, dGt, dGe, dNext, dRet, dRetN, dDrop, dIfS, dAsg, dPar, dPar3, hName, dIf, dTest, dNot, dAnd, dOr, dAndV, dOrV, dNotV, dUn, dNeg, dOp, dFn, dCall, dCons, dNil, dC, dvar_eq, dTup, dLstS, dLstC, dChain, dRaise, dSettle, dApp, htup2, htup2b, ex_tup, ex_tupb, ex_lst, dAdd, dSub, dMul, dFdiv, dMod, dPow, dShl, dCmpI, dIsN, dNotN, dIsB, dNotB, isNon, dix_fr0, dix_fr1, dix_bx0, dix_bx1, dix_t0, dix_t1, dix_l0, mk_bx, mk_neg, mk_ab, ex_f1, ex_f2, ex_b1, ex_b2, two_fr, dAbs, dAug, dIpAdd, dFor, forD, dRng1, dItT, dItL, dSl, dSlL, dNoPart, dPart, dInt1, DL.start, List.map_cons, List.map_nil, List.cons_append, List.nil_append, List.length_cons, List.length_nil, List.replicate, List.replicate_zero, Nat.sub_self, Nat.reduceSub, Nat.reduceAdd, Nat.zero_add, List.set_cons_zero, List.set_cons_succ, List.getElem?_cons_zero, List.getElem?_cons_succ, List.append_nil, true_and, szl0, szl1, szl2, szl3, szl4, szl5, szl6, szl7, szl8, ltl0, ltl1, ltl2, ltl3, ltl4, ltl5, ex_some, ex_bl, ex_two, ex_three, ex_int, ex_intp, ex_ints, ex_int2,  Bool.false_eq_true, if_true, if_false, Bool.not_true, Bool.not_false, reduceIte, f2, mk_fr0, mk_fr1, sp_box_over]
  refine (box2_ok (cl := cl) (by decide +kernel) (by decide +kernel) t1 (t2.mono (by decide)) t0 t1).mpr ?_
  rw [ov_non]
  simp only [dSeq, dLt, dLe, dGt, dGe, dNext, dRet, dRetN, dDrop, dIfS, dAsg, dPar, dPar3, hName, dIf, dTest, dNot, dAnd, dOr, dAndV, dOrV, dNotV, dUn, dNeg, dOp, dFn, dCall, dCons, dNil, dC, dvar_eq, dTup, dLstS, dLstC, dChain, dRaise, dSettle, dApp, htup2, htup2b, ex_tup, ex_tupb, ex_lst, dAdd, dSub, dMul, dFdiv, dMod, dPow, dShl, dCmpI, dIsN, dNotN, dIsB, dNotB, isNon, dix_fr0, dix_fr1, dix_bx0, dix_bx1, dix_t0, dix_t1, dix_l0, mk_bx, mk_neg, mk_ab, ex_f1, ex_f2, ex_b1, ex_b2, two_fr, dAbs, dAug, dIpAdd, dFor, forD, dRng1, dItT, dItL, dSl, dSlL, dNoPart, dPart, dInt1, DL.start, List.map_cons, List.map_nil, List.cons_append, List.nil_append, List.length_cons, List.length_nil, List.replicate, List.replicate_zero, Nat.sub_self, Nat.reduceSub, Nat.reduceAdd, Nat.zero_add, List.set_cons_zero, List.set_cons_succ, List.getElem?_cons_zero, List.getElem?_cons_succ, List.append_nil, true_and, szl0, szl1, szl2, szl3, szl4, szl5, szl6, szl7, szl8, ltl0, ltl1, ltl2, ltl3, ltl4, ltl5, ex_some, ex_bl, ex_two, ex_three, ex_int, ex_intp, ex_ints, ex_int2,  Bool.false_eq_true, if_true, if_false, Bool.not_true, Bool.not_false, reduceIte]
  refine ⟨by decide, by decide, law_loop _ _ _ _ hd (by rw [rangeD_len]; exact g.mono (by decide)) fun a b c hd2 g2 => ?_⟩
  simp only [dSeq, dLt, dLe, dGt, dGe, dNext, dRet, dRetN, dDrop, dIfS, dAsg, dPar, dPar3, hName, dIf, dTest, dNot, dAnd, dOr, dAndV, dOrV, dNotV, dUn, dNeg, dOp, dFn, dCall, dCons, dNil, dC, dvar_eq, dTup, dLstS, dLstC, dChain, dRaise, dSettle, dApp, htup2, htup2b, ex_tup, ex_tupb, ex_lst, dAdd, dSub, dMul, dFdiv, dMod, dPow, dShl, dCmpI, dIsN, dNotN, dIsB, dNotB, isNon, dix_fr0, dix_fr1, dix_bx0, dix_bx1, dix_t0, dix_t1, dix_l0, mk_bx, mk_neg, mk_ab, ex_f1, ex_f2, ex_b1, ex_b2, two_fr, dAbs, dAug, dIpAdd, dFor, forD, dRng1, dItT, dItL, dSl, dSlL, dNoPart, dPart, dInt1, DL.start, List.map_cons, List.map_nil, List.cons_append, List.nil_append, List.length_cons, List.length_nil, List.replicate, List.replicate_zero, Nat.sub_self, Nat.reduceSub, Nat.reduceAdd, Nat.zero_add, List.set_cons_zero, List.set_cons_succ, List.getElem?_cons_zero, List.getElem?_cons_succ, List.append_nil, true_and, szl0, szl1, szl2, szl3, szl4, szl5, szl6, szl7, szl8, ltl0, ltl1, ltl2, ltl3, ltl4, ltl5, ex_some, ex_bl, ex_two, ex_three, ex_int, ex_intp, ex_ints, ex_int2,  Bool.false_eq_true, if_true, if_false, Bool.not_true, Bool.not_false, reduceIte, sp__law_drawn]
  refine ⟨45, hd_mup g2, fun l h hd3 b1 b2 hl g3 => ?_⟩
  rw [mup_mup]
  have n1 : SZ l := b1.mono (by decide)
  have n2 : SZ h := b2.mono (by decide)
  simp only [dSeq, dLt, dLe, dGt, dGe, dNext, dRet, dRetN, dDrop, dIfS, dAsg, dPar, dPar3, hName, dIf, dTest, dNot, dAnd, dOr, dAndV, dOrV, dNotV, dUn, dNeg, dOp, dFn, dCall, dCons, dNil, dC, dvar_eq, dTup, dLstS, dLstC, dChain, dRaise, dSettle, dApp, htup2, htup2b, ex_tup, ex_tupb, ex_lst, dAdd, dSub, dMul, dFdiv, dMod, dPow, dShl, dCmpI, dIsN, dNotN, dIsB, dNotB, isNon, dix_fr0, dix_fr1, dix_bx0, dix_bx1, dix_t0, dix_t1, dix_l0, mk_bx, mk_neg, mk_ab, ex_f1, ex_f2, ex_b1, ex_b2, two_fr, dAbs, dAug, dIpAdd, dFor, forD, dRng1, dItT, dItL, dSl, dSlL, dNoPart, dPart, dInt1, DL.start, List.map_cons, List.map_nil, List.cons_append, List.nil_append, List.length_cons, List.length_nil, List.replicate, List.replicate_zero, Nat.sub_self, Nat.reduceSub, Nat.reduceAdd, Nat.zero_add, List.set_cons_zero, List.set_cons_succ, List.getElem?_cons_zero, List.getElem?_cons_succ, List.append_nil, true_and, szl0, szl1, szl2, szl3, szl4, szl5, szl6, szl7, szl8, ltl0, ltl1, ltl2, ltl3, ltl4, ltl5, ex_some, ex_bl, ex_two, ex_three, ex_int, ex_intp, ex_ints, ex_int2,  Bool.false_eq_true, if_true, if_false, Bool.not_true, Bool.not_false, reduceIte, sp__law_some]
  refine ⟨by decide, by decide, 44, hd_mup g3, fun x hx hd4 g4 => ?_⟩
  rw [mup_mup]
  have tx : Ty3 x ∧ isBx x = false := by
    simp only [List.mem_cons, List.not_mem_nil, or_false] at hx
    rcases hx with rfl | rfl | rfl | rfl | rfl | rfl | rfl | rfl <;> exact ⟨ok3_ty (by rfl), by rfl⟩
  obtain ⟨ht, hu⟩ := tabs_ok (o := hd4) hp
  simp only [dSeq, dLt, dLe, dGt, dGe, dNext, dRet, dRetN, dDrop, dIfS, dAsg, dPar, dPar3, hName, dIf, dTest, dNot, dAnd, dOr, dAndV, dOrV, dNotV, dUn, dNeg, dOp, dFn, dCall, dCons, dNil, dC, dvar_eq, dTup, dLstS, dLstC, dChain, dRaise, dSettle, dApp, htup2, htup2b, ex_tup, ex_tupb, ex_lst, dAdd, dSub, dMul, dFdiv, dMod, dPow, dShl, dCmpI, dIsN, dNotN, dIsB, dNotB, isNon, dix_fr0, dix_fr1, dix_bx0, dix_bx1, dix_t0, dix_t1, dix_l0, mk_bx, mk_neg, mk_ab, ex_f1, ex_f2, ex_b1, ex_b2, two_fr, dAbs, dAug, dIpAdd, dFor, forD, dRng1, dItT, dItL, dSl, dSlL, dNoPart, dPart, dInt1, DL.start, List.map_cons, List.map_nil, List.cons_append, List.nil_append, List.length_cons, List.length_nil, List.replicate, List.replicate_zero, Nat.sub_self, Nat.reduceSub, Nat.reduceAdd, Nat.zero_add, List.set_cons_zero, List.set_cons_succ, List.getElem?_cons_zero, List.getElem?_cons_succ, List.append_nil, true_and, szl0, szl1, szl2, szl3, szl4, szl5, szl6, szl7, szl8, ltl0, ltl1, ltl2, ltl3, ltl4, ltl5, ex_some, ex_bl, ex_two, ex_three, ex_int, ex_intp, ex_ints, ex_int2,  Bool.false_eq_true, if_true, if_false, Bool.not_true, Bool.not_false, reduceIte, dWord, sp_box_add, sp_box_over, sp_box_join]
  refine ⟨ht, hu, bad2 tx.1 (ok3_ty (by rfl)) (by rw [tx.2]; rfl) ⟨ht, hu, _, .inl ⟨rfl, rfl⟩, ?_⟩⟩
  refine ⟨ht, hu, bad2 (ty3_bx n1 n2) tx.1 (by rw [tx.2, Bool.and_false]) ⟨ht, hu, _, .inl ⟨rfl, rfl⟩, ?_⟩⟩
  refine ⟨ht, hu, bad2 (ty3_bx n1 n2) tx.1 (by rw [tx.2, Bool.and_false]) ⟨ht, hu, _, .inl ⟨rfl, rfl⟩, ?_⟩⟩
  refine ⟨ht, hu, badr tx.1 (ty_s (by decide)) (ty_s (by decide)) tx.2 ⟨ht, hu, _, .inl ⟨rfl, rfl⟩, ?_⟩⟩
  refine ⟨by decide, by decide, by decide, ?_⟩
  refine dne_py (e := .list [.str "box", .str "box", .str "box", .str "box"]) (fun i e => by cases e) (fun i e => by cases e) rfl (by unfold SeqAt.shaped; simp [PyData.canLay0, PyData.canLayAll0, PyData.depth, PyData.depthAll]; decide +kernel) ⟨false, rfl, ?_⟩
  rw [if_neg Bool.false_ne_true]
  refine ⟨tx.1, ?_⟩
  rw [tx.2]
  refine ite_ff (by rfl) ?_
  refine ⟨by decide, by decide, 43, hd_mup g4, fun y hy hd5 g5 => ?_⟩
  simp only [mup_mup]
  have ty : Ty y ∧ inR y 0 400 = false ∧ inR y 2 5 = false := by
    simp only [List.mem_cons, List.not_mem_nil, or_false] at hy
    rcases hy with rfl | rfl | rfl | rfl | rfl | rfl | rfl <;> exact ⟨okI_ty (by rfl), by rfl, by rfl⟩
  obtain ⟨ht, hu⟩ := tabs_ok (o := hd5) hp
  refine ⟨ht, hu, badn hl n1 n2 (ty_s (by decide)) (ty_s (by decide)) (by rfl) ⟨ht, hu, _, .inr ⟨rfl, rfl⟩, ?_⟩⟩
  refine ⟨ht, hu, badn hl n1 n2 (ty_s (by decide)) ty.1 (by rw [ty.2.1, Bool.and_false]) ⟨ht, hu, _, .inr ⟨rfl, rfl⟩, ?_⟩⟩
  refine ⟨ht, hu, badn hl n1 n2 ty.1 (ty_s (by decide)) (by rw [ty.2.2, Bool.false_and]) ⟨ht, hu, _, .inr ⟨rfl, rfl⟩, ?_⟩⟩
  refine ⟨by decide, by decide, by decide, ?_⟩
  exact deq_py (e := .list [.str "number", .str "number", .str "number"]) (fun i e => by cases e) (fun i e => by cases e) rfl (by unfold SeqAt.shaped; simp [PyData.canLay0, PyData.canLayAll0, PyData.depth, PyData.depthAll]; decide +kernel) (q _)
end K07

set_option Elab.async false
set_option linter.all false
set_option maxRecDepth 100000
set_option maxHeartbeats 1000000
namespace K07
open PySem PySem.Spec PyProof.Rows L2 DL
structure Facts (K : PySem.W.Frag) (mg : Str → Option Value) (cl : Cls) : Prop where
  i_LEAST_ROOT : HasI mg "LEAST_ROOT" 2
  i_MOST_DEPTH : HasI mg "MOST_DEPTH" 400
  i_MOST_POWER : HasI mg "MOST_POWER" 8
  i_MOST_ROOT : HasI mg "MOST_ROOT" 5
  n_abs : mg "abs" = none
  n_all : mg "all" = none
  n_bool : mg "bool" = none
  n_int : mg "int" = none
  n_isinstance : mg "isinstance" = none
  n_len : mg "len" = none
  n_max : mg "max" = none
  n_range : mg "range" = none
  n_repr : mg "repr" = none
  n_tuple : mg "tuple" = none
  n_zip : mg "zip" = none
  t_ONE : HasT K mg "ONE" [1, 1]
  t_ZERO : HasT K mg "ZERO" [0, 1]
  x_NoBox : XCls K mg "NoBox" cl.box
  x_NoNumber : XCls K mg "NoNumber" cl.num
section
variable {P : Program} {w : World} {K : PySem.W.Frag} {mg : Str → Option Value} {base : Heap} {cl : Cls}
theorem kn_is_int (D : DefIn K mg "is_int" s_is_int ["thing"]) (F : Facts K mg cl)  : Kn P w K mg base false "is_int" 1 sp_is_int :=
  have nd := sc_is_int.nd
  kn_def D sc_is_int (len_is_int) (fun f cdv A outer s0 H E hr gd => ⟨t_is_int, (dss_one (ds_ret (de_and (de_callB call_isi lf_isi rfl F.n_isinstance (by decide +kernel) (da_cons (de_var 0) (da_cons (de_ty rfl F.n_int (by decide +kernel)) da_nil))) (de_one (de_not (de_callB call_isi lf_isi rfl F.n_isinstance (by decide +kernel) (da_cons (de_var 0) (da_cons (de_ty rfl F.n_bool (by decide +kernel)) da_nil)))))))), rd_is_int⟩)
theorem kn_is_within (D : DefIn K mg "is_within" s_is_within ["thing", "least", "greatest"])  (k_is_int : Kn P w K mg base false "is_int" 1 sp_is_int) : Kn P w K mg base false "is_within" 2 sp_is_within :=
  have nd := sc_is_within.nd
  kn_def D sc_is_within (len_is_within) (fun f cdv A outer s0 H E hr gd => ⟨t_is_within, (dss_one (ds_ret (de_and (de_call k_is_int (hr.mono (by decide)) (fun z => nomatch z) rfl (takes_of rfl rfl rfl rfl) (da_cons (de_var 0) da_nil)) (de_one (de_chain op_le op_le lf_cmp lf_cmp (de_var 1) (de_var 0) (de_var 2)))))), rd_is_within⟩)
theorem kn_is_sized (D : DefIn K mg "is_sized" s_is_sized ["thing", "least", "greatest"]) (F : Facts K mg cl)  : Kn P w K mg base false "is_sized" 1 sp_is_sized :=
  have nd := sc_is_sized.nd
  kn_def D sc_is_sized (len_is_sized) (fun f cdv A outer s0 H E hr gd => ⟨t_is_sized, (dss_one (ds_ret (de_and (de_callB call_isi lf_isi rfl F.n_isinstance (by decide +kernel) (da_cons (de_var 0) (da_cons (de_ty rfl F.n_tuple (by decide +kernel)) da_nil))) (de_one (de_chain op_le op_le lf_cmp lf_cmp (de_var 1) (de_callB call_len lf_len rfl F.n_len (by decide +kernel) (da_cons (de_var 0) da_nil)) (de_var 2)))))), rd_is_sized⟩)
theorem kn_divisor (D : DefIn K mg "divisor" s_divisor ["one", "other"]) (F : Facts K mg cl)  : Kn P w K mg base false "divisor" 1 sp_divisor :=
  have nd := sc_divisor.nd
  kn_def D sc_divisor (len_divisor) (fun f cdv A outer s0 H E hr gd => ⟨t_divisor, (dss_cons (ds_while (passes_of rfl) (dt_cmp (op_neA hr.units) lf_ne (de_var 1) de_int (nomark _)) (dss_one (ds_par rfl nd rfl rfl (by decide) rfl rfl (da_cons (de_var 1) (da_cons (de_op op_modN lf_mod (de_var 0) (de_var 1)) da_nil)) (by with_unfolding_all rfl))))
      (dss_one (ds_ret (de_callB call_abs lf_abs rfl F.n_abs (by decide +kernel) (da_cons (de_var 0) da_nil))))), rd_divisor⟩)
theorem kn_fraction (D : DefIn K mg "fraction" s_fraction ["top", "bottom"])  (k_divisor : Kn P w K mg base false "divisor" 1 sp_divisor) : Kn P w K mg base false "fraction" 2 sp_fraction :=
  have nd := sc_fraction.nd
  kn_def D sc_fraction (len_fraction) (fun f cdv A outer s0 H E hr gd => ⟨t_fraction, (dss_cons (ds_set nd rfl (Or.inl rfl) (de_if (dt_cmp op_gt lf_cmp (de_var 1) de_int (nomark _)) (de_call k_divisor (hr.mono (by decide)) (fun z => nomatch z) rfl (takes_of rfl rfl rfl rfl) (da_cons (de_var 0) (da_cons (de_var 1) da_nil))) (de_neg (de_call k_divisor (hr.mono (by decide)) (fun z => nomatch z) rfl (takes_of rfl rfl rfl rfl) (da_cons (de_var 0) (da_cons (de_var 1) da_nil))))))
      (dss_one (ds_ret (de_tup (da_cons (de_op op_fdivX lf_fdiv (de_var 0) (de_var 2)) (da_cons (de_op op_fdivX lf_fdiv (de_var 1) (de_var 2)) da_nil)))))), rd_fraction⟩)
theorem kn_is_fraction (D : DefIn K mg "is_fraction" s_is_fraction ["thing"]) (F : Facts K mg cl) (k_is_sized : Kn P w K mg base false "is_sized" 1 sp_is_sized) (k_is_int : Kn P w K mg base false "is_int" 1 sp_is_int) (k_divisor : Kn P w K mg base false "divisor" 1 sp_divisor) : Kn P w K mg base false "is_fraction" 2 sp_is_fraction :=
  have nd := sc_is_fraction.nd
  kn_def D sc_is_fraction (len_is_fraction) (fun f cdv A outer s0 H E hr gd => ⟨t_is_fraction, (dss_cons (ds_if (DW.dt (dw_or (dt_not (dt_val (de_call k_is_sized (hr.mono (by decide)) (fun z => nomatch z) rfl (takes_of rfl rfl rfl rfl) (da_cons (de_var 0) (da_cons de_int (da_cons de_int da_nil)))))) (dw_or (dt_not (dt_val (de_callB (cr_all rfl) lf_all rfl F.n_all (by decide +kernel) (da_cons (de_lc (own := [("one", 1)]) (gl := (gName 1)) rfl nd (di_tup (de_var 0)) (blkOk_by (N := ["thing", "one"]) (sc := defScope s_is_fraction) (by decide +kernel)) (wipeG_name (by decide)) (fun _ _ _ _ _ => pg_name (i := 1) nd rfl (Or.inl rfl)) (fun _ _ _ _ _ => dts_nil) (fun _ _ _ _ _ => (de_call k_is_int (hr.mono (by decide)) (fun z => nomatch z) rfl LamX.takes0 (da_cons (de_var 1) da_nil)))) da_nil)))) (dw_or1 (dt_cmp op_lt lf_cmp (de_ix (de_var 0) de_int) de_int (nomark _)))))) (dss_one (ds_ret de_bl)) dss_nil)
      (dss_one (ds_ret (de_cmp (op_eqA hr.units) lf_eq (de_call k_divisor (hr.mono (by decide)) (fun z => nomatch z) rfl (takes_of rfl rfl rfl rfl) (da_cons (de_ix (de_var 0) de_int) (da_cons (de_ix (de_var 0) de_int) da_nil))) de_int (nomark _))))), rd_is_fraction⟩)
theorem kn_check_within (D : DefIn K mg "check_within" s_check_within ["thing", "least", "greatest"]) (F : Facts K mg cl) (k_is_within : Kn P w K mg base false "is_within" 2 sp_is_within) : Kn P w K mg base false "check_within" 3 (sp_check_within cl) :=
  have nd := sc_check_within.nd
  kn_def D sc_check_within (len_check_within (cl := cl)) (fun f cdv A outer s0 H E hr gd => ⟨t_check_within cl, (dss_one (ds_if (dt_not (dt_val (de_call k_is_within (hr.mono (by decide)) (fun z => nomatch z) rfl (takes_of rfl rfl rfl rfl) (da_cons (de_var 0) (da_cons (de_var 1) (da_cons (de_var 2) da_nil)))))) (dss_one (ds_raise0 rfl (takes_of rfl rfl rfl rfl) F.x_NoNumber rfl)) dss_nil)), rd_check_within (cl := cl)⟩)
theorem kn_plus (D : DefIn K mg "plus" s_plus ["one", "other"])  (k_fraction : Kn P w K mg base false "fraction" 2 sp_fraction) : Kn P w K mg base false "plus" 3 sp_plus :=
  have nd := sc_plus.nd
  kn_def D sc_plus (len_plus) (fun f cdv A outer s0 H E hr gd => ⟨t_plus, (dss_one (ds_ret (de_call k_fraction (hr.mono (by decide)) (fun z => nomatch z) rfl (takes_of rfl rfl rfl rfl) (da_cons (de_op op_addD lf_add (de_op op_mulD lf_mul (de_ix (de_var 0) de_int) (de_ix (de_var 1) de_int)) (de_op op_mulD lf_mul (de_ix (de_var 1) de_int) (de_ix (de_var 0) de_int))) (da_cons (de_op op_mulD lf_mul (de_ix (de_var 0) de_int) (de_ix (de_var 1) de_int)) da_nil))))), rd_plus⟩)
theorem kn_times (D : DefIn K mg "times" s_times ["one", "other"])  (k_fraction : Kn P w K mg base false "fraction" 2 sp_fraction) : Kn P w K mg base false "times" 3 sp_times :=
  have nd := sc_times.nd
  kn_def D sc_times (len_times) (fun f cdv A outer s0 H E hr gd => ⟨t_times, (dss_one (ds_ret (de_call k_fraction (hr.mono (by decide)) (fun z => nomatch z) rfl (takes_of rfl rfl rfl rfl) (da_cons (de_op op_mulD lf_mul (de_ix (de_var 0) de_int) (de_ix (de_var 1) de_int)) (da_cons (de_op op_mulD lf_mul (de_ix (de_var 0) de_int) (de_ix (de_var 1) de_int)) da_nil))))), rd_times⟩)
theorem kn_over (D : DefIn K mg "over" s_over ["one", "other"])  (k_fraction : Kn P w K mg base false "fraction" 2 sp_fraction) : Kn P w K mg base false "over" 3 sp_over :=
  have nd := sc_over.nd
  kn_def D sc_over (len_over) (fun f cdv A outer s0 H E hr gd => ⟨t_over, (dss_one (ds_ret (de_call k_fraction (hr.mono (by decide)) (fun z => nomatch z) rfl (takes_of rfl rfl rfl rfl) (da_cons (de_op op_mulD lf_mul (de_ix (de_var 0) de_int) (de_ix (de_var 1) de_int)) (da_cons (de_op op_mulD lf_mul (de_ix (de_var 0) de_int) (de_ix (de_var 1) de_int)) da_nil))))), rd_over⟩)
theorem kn_turned (D : DefIn K mg "turned" s_turned ["one"])   : Kn P w K mg base false "turned" 1 sp_turned :=
  have nd := sc_turned.nd
  kn_def D sc_turned (len_turned) (fun f cdv A outer s0 H E hr gd => ⟨t_turned, (dss_one (ds_ret (de_tup (da_cons (de_op op_sub lf_sub de_int (de_ix (de_var 0) de_int)) (da_cons (de_ix (de_var 0) de_int) da_nil))))), rd_turned⟩)
theorem kn_sized (D : DefIn K mg "sized" s_sized ["one"]) (F : Facts K mg cl)  : Kn P w K mg base false "sized" 1 sp_sized :=
  have nd := sc_sized.nd
  kn_def D sc_sized (len_sized) (fun f cdv A outer s0 H E hr gd => ⟨t_sized, (dss_one (ds_ret (de_tup (da_cons (de_callB call_abs lf_abs rfl F.n_abs (by decide +kernel) (da_cons (de_ix (de_var 0) de_int) da_nil)) (da_cons (de_ix (de_var 0) de_int) da_nil))))), rd_sized⟩)
theorem kn_is_less (D : DefIn K mg "is_less" s_is_less ["one", "other"])   : Kn P w K mg base false "is_less" 1 sp_is_less :=
  have nd := sc_is_less.nd
  kn_def D sc_is_less (len_is_less) (fun f cdv A outer s0 H E hr gd => ⟨t_is_less, (dss_one (ds_ret (de_cmp op_lt lf_cmp (de_op op_mulD lf_mul (de_ix (de_var 0) de_int) (de_ix (de_var 1) de_int)) (de_op op_mulD lf_mul (de_ix (de_var 1) de_int) (de_ix (de_var 0) de_int)) (nomark _)))), rd_is_less⟩)
theorem kn_lesser (D : DefIn K mg "lesser" s_lesser ["one", "other"])  (k_is_less : Kn P w K mg base false "is_less" 1 sp_is_less) : Kn P w K mg base false "lesser" 2 sp_lesser :=
  have nd := sc_lesser.nd
  kn_def D sc_lesser (len_lesser) (fun f cdv A outer s0 H E hr gd => ⟨t_lesser, (dss_one (ds_ret (de_if (dt_val (de_call k_is_less (hr.mono (by decide)) (fun z => nomatch z) rfl (takes_of rfl rfl rfl rfl) (da_cons (de_var 0) (da_cons (de_var 1) da_nil)))) (de_var 0) (de_var 1)))), rd_lesser⟩)
theorem kn_greater (D : DefIn K mg "greater" s_greater ["one", "other"])  (k_is_less : Kn P w K mg base false "is_less" 1 sp_is_less) : Kn P w K mg base false "greater" 2 sp_greater :=
  have nd := sc_greater.nd
  kn_def D sc_greater (len_greater) (fun f cdv A outer s0 H E hr gd => ⟨t_greater, (dss_one (ds_ret (de_if (dt_val (de_call k_is_less (hr.mono (by decide)) (fun z => nomatch z) rfl (takes_of rfl rfl rfl rfl) (da_cons (de_var 0) (da_cons (de_var 1) da_nil)))) (de_var 1) (de_var 0)))), rd_greater⟩)
theorem kn_power (D : DefIn K mg "power" s_power ["number", "many"])   : Kn P w K mg base false "power" 1 sp_power :=
  have nd := sc_power.nd
  kn_def D sc_power (len_power) (fun f cdv A outer s0 H E hr gd => ⟨t_power, (dss_cons (ds_set nd rfl (Or.inl rfl) de_int)
      (dss_cons (ds_while (passes_of rfl) (dt_cmp op_gt lf_cmp (de_var 1) de_int (nomark _)) (dss_cons (ds_if (dt_cmp (op_eqA hr.units) lf_eq (de_op op_modN lf_mod (de_var 1) de_int) de_int (nomark _)) (dss_one (ds_set nd rfl (Or.inl rfl) (de_op op_mulD lf_mul (de_var 2) (de_var 0)))) dss_nil)
      (dss_one (ds_par rfl nd rfl rfl (by decide) rfl rfl (da_cons (de_op op_mulD lf_mul (de_var 0) (de_var 0)) (da_cons (de_op op_fdivX lf_fdiv (de_var 1) de_int) da_nil)) (by with_unfolding_all rfl)))))
      (dss_one (ds_ret (de_var 2))))), rd_power⟩)
theorem kn_raised (D : DefIn K mg "raised" s_raised ["one", "many"])  (k_power : Kn P w K mg base false "power" 1 sp_power) : Kn P w K mg base false "raised" 2 sp_raised :=
  have nd := sc_raised.nd
  kn_def D sc_raised (len_raised) (fun f cdv A outer s0 H E hr gd => ⟨t_raised, (dss_one (ds_ret (de_tup (da_cons (de_call k_power (hr.mono (by decide)) (fun z => nomatch z) rfl (takes_of rfl rfl rfl rfl) (da_cons (de_ix (de_var 0) de_int) (da_cons (de_var 1) da_nil))) (da_cons (de_call k_power (hr.mono (by decide)) (fun z => nomatch z) rfl (takes_of rfl rfl rfl rfl) (da_cons (de_ix (de_var 0) de_int) (da_cons (de_var 1) da_nil))) da_nil))))), rd_raised⟩)
theorem kn_two_to (D : DefIn K mg "two_to" s_two_to ["many"])   : Kn P w K mg base false "two_to" 1 sp_two_to :=
  have nd := sc_two_to.nd
  kn_def D sc_two_to (len_two_to) (fun f cdv A outer s0 H E hr gd => ⟨t_two_to, (dss_one (ds_ret (de_op op_shlW lf_shl de_int (de_var 0)))), rd_two_to⟩)
theorem kn_root_down (D : DefIn K mg "root_down" s_root_down ["number", "k"])  (k_power : Kn P w K mg base false "power" 1 sp_power) : Kn P w K mg base false "root_down" 2 sp_root_down :=
  have nd := sc_root_down.nd
  kn_def D sc_root_down (len_root_down) (fun f cdv A outer s0 H E hr gd => ⟨t_root_down, (dss_cons (ds_asg (de_tup (da_cons de_int (da_cons de_int da_nil))) (dg_tup rfl (dgs_cons (dg_name nd rfl (Or.inl rfl)) (dgs_cons (dg_name nd rfl (Or.inl rfl)) dgs_nil))))
      (dss_cons (ds_while (passes_of rfl) (dt_cmp op_le lf_cmp (de_call k_power (hr.mono (by decide)) (fun z => nomatch z) rfl (takes_of rfl rfl rfl rfl) (da_cons (de_var 3) (da_cons (de_var 1) da_nil))) (de_var 0) (nomark _)) (dss_one (ds_set nd rfl (Or.inl rfl) (de_op op_mulD lf_mul de_int (de_var 3)))))
      (dss_cons (ds_while (passes_of rfl) (dt_cmp op_gt lf_cmp (de_op op_sub lf_sub (de_var 3) (de_var 2)) de_int (nomark _)) (dss_cons (ds_set nd rfl (Or.inl rfl) (de_op op_fdivX lf_fdiv (de_op op_addD lf_add (de_var 2) (de_var 3)) de_int))
      (dss_one (ds_if (dt_cmp op_le lf_cmp (de_call k_power (hr.mono (by decide)) (fun z => nomatch z) rfl (takes_of rfl rfl rfl rfl) (da_cons (de_var 4) (da_cons (de_var 1) da_nil))) (de_var 0) (nomark _)) (dss_one (ds_set nd rfl (Or.inl rfl) (de_var 4))) (dss_one (ds_set nd rfl (Or.inl rfl) (de_var 4)))))))
      (dss_one (ds_ret (de_var 2)))))), rd_root_down⟩)
theorem kn_is_box (D : DefIn K mg "is_box" s_is_box ["thing"])  (k_is_sized : Kn P w K mg base false "is_sized" 1 sp_is_sized) (k_is_fraction : Kn P w K mg base false "is_fraction" 2 sp_is_fraction) (k_is_less : Kn P w K mg base false "is_less" 1 sp_is_less) : Kn P w K mg base false "is_box" 3 sp_is_box :=
  have nd := sc_is_box.nd
  kn_def D sc_is_box (len_is_box) (fun f cdv A outer s0 H E hr gd => ⟨t_is_box, (dss_cons (ds_if (DW.dt (dw_or (dt_not (dt_val (de_call k_is_sized (hr.mono (by decide)) (fun z => nomatch z) rfl (takes_of rfl rfl rfl rfl) (da_cons (de_var 0) (da_cons de_int (da_cons de_int da_nil)))))) (dw_or (dt_not (dt_val (de_call k_is_fraction (hr.mono (by decide)) (fun z => nomatch z) rfl (takes_of rfl rfl rfl rfl) (da_cons (de_ix (de_var 0) de_int) da_nil)))) (dw_or1 (dt_not (dt_val (de_call k_is_fraction (hr.mono (by decide)) (fun z => nomatch z) rfl (takes_of rfl rfl rfl rfl) (da_cons (de_ix (de_var 0) de_int) da_nil)))))))) (dss_one (ds_ret de_bl)) dss_nil)
      (dss_one (ds_ret (de_not (de_call k_is_less (hr.mono (by decide)) (fun z => nomatch z) rfl (takes_of rfl rfl rfl rfl) (da_cons (de_ix (de_var 0) de_int) (da_cons (de_ix (de_var 0) de_int) da_nil))))))), rd_is_box⟩)
theorem kn_check_box (D : DefIn K mg "check_box" s_check_box ["box"]) (F : Facts K mg cl) (k_is_box : Kn P w K mg base false "is_box" 3 sp_is_box) : Kn P w K mg base false "check_box" 4 (sp_check_box cl) :=
  have nd := sc_check_box.nd
  kn_def D sc_check_box (len_check_box (cl := cl)) (fun f cdv A outer s0 H E hr gd => ⟨t_check_box cl, (dss_one (ds_if (dt_not (dt_val (de_call k_is_box (hr.mono (by decide)) (fun z => nomatch z) rfl (takes_of rfl rfl rfl rfl) (da_cons (de_var 0) da_nil)))) (dss_one (ds_raise0 rfl (takes_of rfl rfl rfl rfl) F.x_NoBox rfl)) dss_nil)), rd_check_box (cl := cl)⟩)
theorem kn_check_two (D : DefIn K mg "check_two" s_check_two ["one", "other"])  (k_check_box : Kn P w K mg base false "check_box" 4 (sp_check_box cl)) : Kn P w K mg base false "check_two" 5 (sp_check_two cl) :=
  have nd := sc_check_two.nd
  kn_def D sc_check_two (len_check_two (cl := cl)) (fun f cdv A outer s0 H E hr gd => ⟨t_check_two cl, (dss_cons (ds_expr (de_call k_check_box (hr.mono (by decide)) (fun z => nomatch z) rfl (takes_of rfl rfl rfl rfl) (da_cons (de_var 0) da_nil)))
      (dss_one (ds_expr (de_call k_check_box (hr.mono (by decide)) (fun z => nomatch z) rfl (takes_of rfl rfl rfl rfl) (da_cons (de_var 1) da_nil))))), rd_check_two (cl := cl)⟩)
theorem kn_raw_add (D : DefIn K mg "raw_add" s_raw_add ["one", "other"])  (k_plus : Kn P w K mg base false "plus" 3 sp_plus) : Kn P w K mg base false "raw_add" 4 sp_raw_add :=
  have nd := sc_raw_add.nd
  kn_def D sc_raw_add (len_raw_add) (fun f cdv A outer s0 H E hr gd => ⟨t_raw_add, (dss_one (ds_ret (de_tup (da_cons (de_call k_plus (hr.mono (by decide)) (fun z => nomatch z) rfl (takes_of rfl rfl rfl rfl) (da_cons (de_ix (de_var 0) de_int) (da_cons (de_ix (de_var 1) de_int) da_nil))) (da_cons (de_call k_plus (hr.mono (by decide)) (fun z => nomatch z) rfl (takes_of rfl rfl rfl rfl) (da_cons (de_ix (de_var 0) de_int) (da_cons (de_ix (de_var 1) de_int) da_nil))) da_nil))))), rd_raw_add⟩)
theorem kn_raw_turn (D : DefIn K mg "raw_turn" s_raw_turn ["box"])  (k_turned : Kn P w K mg base false "turned" 1 sp_turned) : Kn P w K mg base false "raw_turn" 2 sp_raw_turn :=
  have nd := sc_raw_turn.nd
  kn_def D sc_raw_turn (len_raw_turn) (fun f cdv A outer s0 H E hr gd => ⟨t_raw_turn, (dss_one (ds_ret (de_tup (da_cons (de_call k_turned (hr.mono (by decide)) (fun z => nomatch z) rfl (takes_of rfl rfl rfl rfl) (da_cons (de_ix (de_var 0) de_int) da_nil)) (da_cons (de_call k_turned (hr.mono (by decide)) (fun z => nomatch z) rfl (takes_of rfl rfl rfl rfl) (da_cons (de_ix (de_var 0) de_int) da_nil)) da_nil))))), rd_raw_turn⟩)
theorem kn_ends_of (D : DefIn K mg "ends_of" s_ends_of ["rows"])  (k_greater : Kn P w K mg base false "greater" 2 sp_greater) (k_lesser : Kn P w K mg base false "lesser" 2 sp_lesser) : Kn P w K mg base false "ends_of" 3 sp_ends_of :=
  have nd := sc_ends_of.nd
  kn_def D sc_ends_of (len_ends_of) (fun f cdv A outer s0 H E hr gd => ⟨t_ends_of, (dss_cons (ds_par rfl nd rfl rfl (by decide) rfl rfl (da_cons (de_ix (de_var 0) de_int) (da_cons (de_ix (de_var 0) de_int) da_nil)) (by with_unfolding_all rfl))
      (dss_cons (ds_for (passes_of rfl) rfl (di_lst (de_sliceL (de_var 0) (do_some de_int) do_none)) (dg_name nd rfl (Or.inl rfl)) (dss_one (ds_par rfl nd rfl rfl (by decide) rfl rfl (da_cons (de_call k_lesser (hr.mono (by decide)) (fun z => nomatch z) rfl (takes_of rfl rfl rfl rfl) (da_cons (de_var 1) (da_cons (de_var 3) da_nil))) (da_cons (de_call k_greater (hr.mono (by decide)) (fun z => nomatch z) rfl (takes_of rfl rfl rfl rfl) (da_cons (de_var 2) (da_cons (de_var 3) da_nil))) da_nil)) (by with_unfolding_all rfl))))
      (dss_one (ds_ret (de_tup (da_cons (de_var 1) (da_cons (de_var 2) da_nil))))))), rd_ends_of⟩)
theorem kn_raw_times (D : DefIn K mg "raw_times" s_raw_times ["one", "other"])  (k_ends_of : Kn P w K mg base false "ends_of" 3 sp_ends_of) (k_times : Kn P w K mg base false "times" 3 sp_times) : Kn P w K mg base false "raw_times" 4 sp_raw_times :=
  have nd := sc_raw_times.nd
  kn_def D sc_raw_times (len_raw_times) (fun f cdv A outer s0 H E hr gd => ⟨t_raw_times, (dss_one (ds_ret (de_call k_ends_of (hr.mono (by decide)) (fun z => nomatch z) rfl (takes_of rfl rfl rfl rfl) (da_cons (de_lc2 (own := [("a", 2), ("b", 3)]) (gl := (gName 2)) (gl1 := (gName 3)) rfl nd (di_tup (de_var 0)) (blkOk_by (N := ["one", "other", "a", "b"]) (sc := defScope s_raw_times) (by decide +kernel)) (by decide) (wipeG_name (by decide)) (wipeG_name (by decide)) (fun _ _ _ _ _ => pg_name (i := 2) nd rfl (Or.inl rfl)) (fun _ _ _ _ _ => dts_nil) (fun _ _ _ _ _ => (di_tup (de_var 1))) (fun _ _ _ _ _ => pg_name (i := 3) nd rfl (Or.inl rfl)) (fun _ _ _ _ _ => dts_nil) (fun _ _ _ _ _ => (de_call k_times (hr.mono (by decide)) (fun z => nomatch z) rfl LamX.takes0 (da_cons (de_var 2) (da_cons (de_var 3) da_nil))))) da_nil)))), rd_raw_times⟩)
theorem kn_has_nought (D : DefIn K mg "has_nought" s_has_nought ["box"])   : Kn P w K mg base false "has_nought" 1 sp_has_nought :=
  have nd := sc_has_nought.nd
  kn_def D sc_has_nought (len_has_nought) (fun f cdv A outer s0 H E hr gd => ⟨t_has_nought, (dss_one (ds_ret (de_chain op_le op_le lf_cmp lf_cmp (de_ix (de_ix (de_var 0) de_int) de_int) de_int (de_ix (de_ix (de_var 0) de_int) de_int)))), rd_has_nought⟩)
theorem kn_raw_over (D : DefIn K mg "raw_over" s_raw_over ["one", "other"])  (k_has_nought : Kn P w K mg base false "has_nought" 1 sp_has_nought) (k_ends_of : Kn P w K mg base false "ends_of" 3 sp_ends_of) (k_over : Kn P w K mg base false "over" 3 sp_over) : Kn P w K mg base false "raw_over" 4 sp_raw_over :=
  have nd := sc_raw_over.nd
  kn_def D sc_raw_over (len_raw_over) (fun f cdv A outer s0 H E hr gd => ⟨t_raw_over, (dss_cons (ds_if (dt_val (de_call k_has_nought (hr.mono (by decide)) (fun z => nomatch z) rfl (takes_of rfl rfl rfl rfl) (da_cons (de_var 1) da_nil))) (dss_one (ds_ret de_non)) dss_nil)
      (dss_one (ds_ret (de_call k_ends_of (hr.mono (by decide)) (fun z => nomatch z) rfl (takes_of rfl rfl rfl rfl) (da_cons (de_lc2 (own := [("a", 2), ("b", 3)]) (gl := (gName 2)) (gl1 := (gName 3)) rfl nd (di_tup (de_var 0)) (blkOk_by (N := ["one", "other", "a", "b"]) (sc := defScope s_raw_over) (by decide +kernel)) (by decide) (wipeG_name (by decide)) (wipeG_name (by decide)) (fun _ _ _ _ _ => pg_name (i := 2) nd rfl (Or.inl rfl)) (fun _ _ _ _ _ => dts_nil) (fun _ _ _ _ _ => (di_tup (de_var 1))) (fun _ _ _ _ _ => pg_name (i := 3) nd rfl (Or.inl rfl)) (fun _ _ _ _ _ => dts_nil) (fun _ _ _ _ _ => (de_call k_over (hr.mono (by decide)) (fun z => nomatch z) rfl LamX.takes0 (da_cons (de_var 2) (da_cons (de_var 3) da_nil))))) da_nil))))), rd_raw_over⟩)
theorem kn_raw_more (D : DefIn K mg "raw_more" s_raw_more ["one", "other"])  (k_greater : Kn P w K mg base false "greater" 2 sp_greater) : Kn P w K mg base false "raw_more" 3 sp_raw_more :=
  have nd := sc_raw_more.nd
  kn_def D sc_raw_more (len_raw_more) (fun f cdv A outer s0 H E hr gd => ⟨t_raw_more, (dss_one (ds_ret (de_tup (da_cons (de_call k_greater (hr.mono (by decide)) (fun z => nomatch z) rfl (takes_of rfl rfl rfl rfl) (da_cons (de_ix (de_var 0) de_int) (da_cons (de_ix (de_var 1) de_int) da_nil))) (da_cons (de_call k_greater (hr.mono (by decide)) (fun z => nomatch z) rfl (takes_of rfl rfl rfl rfl) (da_cons (de_ix (de_var 0) de_int) (da_cons (de_ix (de_var 1) de_int) da_nil))) da_nil))))), rd_raw_more⟩)
theorem kn_raw_less (D : DefIn K mg "raw_less" s_raw_less ["one", "other"])  (k_lesser : Kn P w K mg base false "lesser" 2 sp_lesser) : Kn P w K mg base false "raw_less" 3 sp_raw_less :=
  have nd := sc_raw_less.nd
  kn_def D sc_raw_less (len_raw_less) (fun f cdv A outer s0 H E hr gd => ⟨t_raw_less, (dss_one (ds_ret (de_tup (da_cons (de_call k_lesser (hr.mono (by decide)) (fun z => nomatch z) rfl (takes_of rfl rfl rfl rfl) (da_cons (de_ix (de_var 0) de_int) (da_cons (de_ix (de_var 1) de_int) da_nil))) (da_cons (de_call k_lesser (hr.mono (by decide)) (fun z => nomatch z) rfl (takes_of rfl rfl rfl rfl) (da_cons (de_ix (de_var 0) de_int) (da_cons (de_ix (de_var 1) de_int) da_nil))) da_nil))))), rd_raw_less⟩)
theorem kn_raw_join (D : DefIn K mg "raw_join" s_raw_join ["one", "other"])  (k_greater : Kn P w K mg base false "greater" 2 sp_greater) (k_lesser : Kn P w K mg base false "lesser" 2 sp_lesser) : Kn P w K mg base false "raw_join" 3 sp_raw_join :=
  have nd := sc_raw_join.nd
  kn_def D sc_raw_join (len_raw_join) (fun f cdv A outer s0 H E hr gd => ⟨t_raw_join, (dss_one (ds_ret (de_tup (da_cons (de_call k_lesser (hr.mono (by decide)) (fun z => nomatch z) rfl (takes_of rfl rfl rfl rfl) (da_cons (de_ix (de_var 0) de_int) (da_cons (de_ix (de_var 1) de_int) da_nil))) (da_cons (de_call k_greater (hr.mono (by decide)) (fun z => nomatch z) rfl (takes_of rfl rfl rfl rfl) (da_cons (de_ix (de_var 0) de_int) (da_cons (de_ix (de_var 1) de_int) da_nil))) da_nil))))), rd_raw_join⟩)
theorem kn_raw_size (D : DefIn K mg "raw_size" s_raw_size ["box"]) (F : Facts K mg cl) (k_has_nought : Kn P w K mg base false "has_nought" 1 sp_has_nought) (k_greater : Kn P w K mg base false "greater" 2 sp_greater) (k_sized : Kn P w K mg base false "sized" 1 sp_sized) (k_ends_of : Kn P w K mg base false "ends_of" 3 sp_ends_of) : Kn P w K mg base false "raw_size" 4 sp_raw_size :=
  have nd := sc_raw_size.nd
  kn_def D sc_raw_size (len_raw_size) (fun f cdv A outer s0 H E hr gd => ⟨t_raw_size, (dss_cons (ds_if (dt_val (de_call k_has_nought (hr.mono (by decide)) (fun z => nomatch z) rfl (takes_of rfl rfl rfl rfl) (da_cons (de_var 0) da_nil))) (dss_one (ds_ret (de_tup (da_cons (de_gt rfl F.t_ZERO) (da_cons (de_call k_greater (hr.mono (by decide)) (fun z => nomatch z) rfl (takes_of rfl rfl rfl rfl) (da_cons (de_call k_sized (hr.mono (by decide)) (fun z => nomatch z) rfl (takes_of rfl rfl rfl rfl) (da_cons (de_ix (de_var 0) de_int) da_nil)) (da_cons (de_call k_sized (hr.mono (by decide)) (fun z => nomatch z) rfl (takes_of rfl rfl rfl rfl) (da_cons (de_ix (de_var 0) de_int) da_nil)) da_nil))) da_nil))))) dss_nil)
      (dss_one (ds_ret (de_call k_ends_of (hr.mono (by decide)) (fun z => nomatch z) rfl (takes_of rfl rfl rfl rfl) (da_cons (de_lstS (da_cons (de_call k_sized (hr.mono (by decide)) (fun z => nomatch z) rfl (takes_of rfl rfl rfl rfl) (da_cons (de_ix (de_var 0) de_int) da_nil)) (da_cons (de_call k_sized (hr.mono (by decide)) (fun z => nomatch z) rfl (takes_of rfl rfl rfl rfl) (da_cons (de_ix (de_var 0) de_int) da_nil)) da_nil))) da_nil))))), rd_raw_size⟩)
theorem kn_raw_power (D : DefIn K mg "raw_power" s_raw_power ["box", "k"]) (F : Facts K mg cl) (k_ends_of : Kn P w K mg base false "ends_of" 3 sp_ends_of) (k_raised : Kn P w K mg base false "raised" 2 sp_raised) (k_has_nought : Kn P w K mg base false "has_nought" 1 sp_has_nought) : Kn P w K mg base false "raw_power" 4 sp_raw_power :=
  have nd := sc_raw_power.nd
  kn_def D sc_raw_power (len_raw_power) (fun f cdv A outer s0 H E hr gd => ⟨t_raw_power, (dss_cons (ds_if (dt_cmp (op_eqA hr.units) lf_eq (de_var 1) de_int (nomark _)) (dss_one (ds_ret (de_tup (da_cons (de_gt rfl F.t_ONE) (da_cons (de_gt rfl F.t_ONE) da_nil))))) dss_nil)
      (dss_cons (ds_set nd rfl (Or.inl rfl) (de_call k_ends_of (hr.mono (by decide)) (fun z => nomatch z) rfl (takes_of rfl rfl rfl rfl) (da_cons (de_lstS (da_cons (de_call k_raised (hr.mono (by decide)) (fun z => nomatch z) rfl (takes_of rfl rfl rfl rfl) (da_cons (de_ix (de_var 0) de_int) (da_cons (de_var 1) da_nil))) (da_cons (de_call k_raised (hr.mono (by decide)) (fun z => nomatch z) rfl (takes_of rfl rfl rfl rfl) (da_cons (de_ix (de_var 0) de_int) (da_cons (de_var 1) da_nil))) da_nil))) da_nil)))
      (dss_one (ds_ret (de_if (DW.dt (dw_and (dt_cmp (op_eqA hr.units) lf_eq (de_op op_modN lf_mod (de_var 1) de_int) de_int (nomark _)) (dw_and1 (dt_val (de_call k_has_nought (hr.mono (by decide)) (fun z => nomatch z) rfl (takes_of rfl rfl rfl rfl) (da_cons (de_var 0) da_nil)))))) (de_tup (da_cons (de_gt rfl F.t_ZERO) (da_cons (de_ix (de_var 2) de_int) da_nil))) (de_var 2)))))), rd_raw_power⟩)
theorem kn_root_above (D : DefIn K mg "root_above" s_root_above ["one", "k", "depth"])  (k_two_to : Kn P w K mg base false "two_to" 1 sp_two_to) (k_root_down : Kn P w K mg base false "root_down" 2 sp_root_down) (k_power : Kn P w K mg base false "power" 1 sp_power) (k_is_less : Kn P w K mg base false "is_less" 1 sp_is_less) (k_fraction : Kn P w K mg base false "fraction" 2 sp_fraction) : Kn P w K mg base false "root_above" 3 sp_root_above :=
  have nd := sc_root_above.nd
  kn_def D sc_root_above (len_root_above) (fun f cdv A outer s0 H E hr gd => ⟨t_root_above, (dss_cons (ds_set nd rfl (Or.inl rfl) (de_call k_two_to (hr.mono (by decide)) (fun z => nomatch z) rfl (takes_of rfl rfl rfl rfl) (da_cons (de_var 2) da_nil)))
      (dss_cons (ds_set nd rfl (Or.inl rfl) (de_call k_root_down (hr.mono (by decide)) (fun z => nomatch z) rfl (takes_of rfl rfl rfl rfl) (da_cons (de_op op_fdivX lf_fdiv (de_op op_mulD lf_mul (de_ix (de_var 0) de_int) (de_call k_power (hr.mono (by decide)) (fun z => nomatch z) rfl (takes_of rfl rfl rfl rfl) (da_cons (de_var 3) (da_cons (de_var 1) da_nil)))) (de_ix (de_var 0) de_int)) (da_cons (de_var 1) da_nil))))
      (dss_cons (ds_if (dt_val (de_call k_is_less (hr.mono (by decide)) (fun z => nomatch z) rfl (takes_of rfl rfl rfl rfl) (da_cons (de_tup (da_cons (de_call k_power (hr.mono (by decide)) (fun z => nomatch z) rfl (takes_of rfl rfl rfl rfl) (da_cons (de_var 4) (da_cons (de_var 1) da_nil))) (da_cons (de_call k_power (hr.mono (by decide)) (fun z => nomatch z) rfl (takes_of rfl rfl rfl rfl) (da_cons (de_var 3) (da_cons (de_var 1) da_nil))) da_nil))) (da_cons (de_var 0) da_nil)))) (dss_one (ds_aug nd rfl (Or.inl rfl) de_int ip_add lf_ipadd)) dss_nil)
      (dss_one (ds_ret (de_call k_fraction (hr.mono (by decide)) (fun z => nomatch z) rfl (takes_of rfl rfl rfl rfl) (da_cons (de_var 4) (da_cons (de_var 3) da_nil)))))))), rd_root_above⟩)
theorem kn_raw_root (D : DefIn K mg "raw_root" s_raw_root ["box", "k", "depth"]) (F : Facts K mg cl) (k_two_to : Kn P w K mg base false "two_to" 1 sp_two_to) (k_greater : Kn P w K mg base false "greater" 2 sp_greater) (k_root_above : Kn P w K mg base false "root_above" 3 sp_root_above) (k_fraction : Kn P w K mg base false "fraction" 2 sp_fraction) (k_root_down : Kn P w K mg base false "root_down" 2 sp_root_down) (k_power : Kn P w K mg base false "power" 1 sp_power) : Kn P w K mg base false "raw_root" 4 sp_raw_root :=
  have nd := sc_raw_root.nd
  kn_def D sc_raw_root (len_raw_root) (fun f cdv A outer s0 H E hr gd => ⟨t_raw_root, (dss_cons (ds_if (dt_cmp op_lt lf_cmp (de_ix (de_ix (de_var 0) de_int) de_int) de_int (nomark _)) (dss_one (ds_ret de_non)) dss_nil)
      (dss_cons (ds_par rfl nd rfl rfl (by decide) rfl rfl (da_cons (de_call k_greater (hr.mono (by decide)) (fun z => nomatch z) rfl (takes_of rfl rfl rfl rfl) (da_cons (de_ix (de_var 0) de_int) (da_cons (de_gt rfl F.t_ZERO) da_nil))) (da_cons (de_call k_two_to (hr.mono (by decide)) (fun z => nomatch z) rfl (takes_of rfl rfl rfl rfl) (da_cons (de_var 2) da_nil)) da_nil)) (by with_unfolding_all rfl))
      (dss_one (ds_ret (de_tup (da_cons (de_call k_fraction (hr.mono (by decide)) (fun z => nomatch z) rfl (takes_of rfl rfl rfl rfl) (da_cons (de_call k_root_down (hr.mono (by decide)) (fun z => nomatch z) rfl (takes_of rfl rfl rfl rfl) (da_cons (de_op op_fdivX lf_fdiv (de_op op_mulD lf_mul (de_ix (de_var 3) de_int) (de_call k_power (hr.mono (by decide)) (fun z => nomatch z) rfl (takes_of rfl rfl rfl rfl) (da_cons (de_var 4) (da_cons (de_var 1) da_nil)))) (de_ix (de_var 3) de_int)) (da_cons (de_var 1) da_nil))) (da_cons (de_var 4) da_nil))) (da_cons (de_call k_root_above (hr.mono (by decide)) (fun z => nomatch z) rfl (takes_of rfl rfl rfl rfl) (da_cons (de_ix (de_var 0) de_int) (da_cons (de_var 1) (da_cons (de_var 2) da_nil)))) da_nil))))))), rd_raw_root⟩)
theorem kn_box_add (D : DefIn K mg "box_add" s_box_add ["one", "other"])  (k_check_two : Kn P w K mg base false "check_two" 5 (sp_check_two cl)) (k_raw_add : Kn P w K mg base false "raw_add" 4 sp_raw_add) : Kn P w K mg base false "box_add" 6 (sp_box_add cl) :=
  have nd := sc_box_add.nd
  kn_def D sc_box_add (len_box_add (cl := cl)) (fun f cdv A outer s0 H E hr gd => ⟨t_box_add cl, (dss_cons (ds_expr (de_call k_check_two (hr.mono (by decide)) (fun z => nomatch z) rfl (takes_of rfl rfl rfl rfl) (da_cons (de_var 0) (da_cons (de_var 1) da_nil))))
      (dss_one (ds_ret (de_call k_raw_add (hr.mono (by decide)) (fun z => nomatch z) rfl (takes_of rfl rfl rfl rfl) (da_cons (de_var 0) (da_cons (de_var 1) da_nil)))))), rd_box_add (cl := cl)⟩)
theorem kn_box_take (D : DefIn K mg "box_take" s_box_take ["one", "other"])  (k_check_two : Kn P w K mg base false "check_two" 5 (sp_check_two cl)) (k_raw_add : Kn P w K mg base false "raw_add" 4 sp_raw_add) (k_raw_turn : Kn P w K mg base false "raw_turn" 2 sp_raw_turn) : Kn P w K mg base false "box_take" 6 (sp_box_take cl) :=
  have nd := sc_box_take.nd
  kn_def D sc_box_take (len_box_take (cl := cl)) (fun f cdv A outer s0 H E hr gd => ⟨t_box_take cl, (dss_cons (ds_expr (de_call k_check_two (hr.mono (by decide)) (fun z => nomatch z) rfl (takes_of rfl rfl rfl rfl) (da_cons (de_var 0) (da_cons (de_var 1) da_nil))))
      (dss_one (ds_ret (de_call k_raw_add (hr.mono (by decide)) (fun z => nomatch z) rfl (takes_of rfl rfl rfl rfl) (da_cons (de_var 0) (da_cons (de_call k_raw_turn (hr.mono (by decide)) (fun z => nomatch z) rfl (takes_of rfl rfl rfl rfl) (da_cons (de_var 1) da_nil)) da_nil)))))), rd_box_take (cl := cl)⟩)
theorem kn_box_times (D : DefIn K mg "box_times" s_box_times ["one", "other"])  (k_check_two : Kn P w K mg base false "check_two" 5 (sp_check_two cl)) (k_raw_times : Kn P w K mg base false "raw_times" 4 sp_raw_times) : Kn P w K mg base false "box_times" 6 (sp_box_times cl) :=
  have nd := sc_box_times.nd
  kn_def D sc_box_times (len_box_times (cl := cl)) (fun f cdv A outer s0 H E hr gd => ⟨t_box_times cl, (dss_cons (ds_expr (de_call k_check_two (hr.mono (by decide)) (fun z => nomatch z) rfl (takes_of rfl rfl rfl rfl) (da_cons (de_var 0) (da_cons (de_var 1) da_nil))))
      (dss_one (ds_ret (de_call k_raw_times (hr.mono (by decide)) (fun z => nomatch z) rfl (takes_of rfl rfl rfl rfl) (da_cons (de_var 0) (da_cons (de_var 1) da_nil)))))), rd_box_times (cl := cl)⟩)
theorem kn_box_over (D : DefIn K mg "box_over" s_box_over ["one", "other"])  (k_check_two : Kn P w K mg base false "check_two" 5 (sp_check_two cl)) (k_raw_over : Kn P w K mg base false "raw_over" 4 sp_raw_over) : Kn P w K mg base false "box_over" 6 (sp_box_over cl) :=
  have nd := sc_box_over.nd
  kn_def D sc_box_over (len_box_over (cl := cl)) (fun f cdv A outer s0 H E hr gd => ⟨t_box_over cl, (dss_cons (ds_expr (de_call k_check_two (hr.mono (by decide)) (fun z => nomatch z) rfl (takes_of rfl rfl rfl rfl) (da_cons (de_var 0) (da_cons (de_var 1) da_nil))))
      (dss_one (ds_ret (de_call k_raw_over (hr.mono (by decide)) (fun z => nomatch z) rfl (takes_of rfl rfl rfl rfl) (da_cons (de_var 0) (da_cons (de_var 1) da_nil)))))), rd_box_over (cl := cl)⟩)
theorem kn_box_more (D : DefIn K mg "box_more" s_box_more ["one", "other"])  (k_check_two : Kn P w K mg base false "check_two" 5 (sp_check_two cl)) (k_raw_more : Kn P w K mg base false "raw_more" 3 sp_raw_more) : Kn P w K mg base false "box_more" 6 (sp_box_more cl) :=
  have nd := sc_box_more.nd
  kn_def D sc_box_more (len_box_more (cl := cl)) (fun f cdv A outer s0 H E hr gd => ⟨t_box_more cl, (dss_cons (ds_expr (de_call k_check_two (hr.mono (by decide)) (fun z => nomatch z) rfl (takes_of rfl rfl rfl rfl) (da_cons (de_var 0) (da_cons (de_var 1) da_nil))))
      (dss_one (ds_ret (de_call k_raw_more (hr.mono (by decide)) (fun z => nomatch z) rfl (takes_of rfl rfl rfl rfl) (da_cons (de_var 0) (da_cons (de_var 1) da_nil)))))), rd_box_more (cl := cl)⟩)
theorem kn_box_less (D : DefIn K mg "box_less" s_box_less ["one", "other"])  (k_check_two : Kn P w K mg base false "check_two" 5 (sp_check_two cl)) (k_raw_less : Kn P w K mg base false "raw_less" 3 sp_raw_less) : Kn P w K mg base false "box_less" 6 (sp_box_less cl) :=
  have nd := sc_box_less.nd
  kn_def D sc_box_less (len_box_less (cl := cl)) (fun f cdv A outer s0 H E hr gd => ⟨t_box_less cl, (dss_cons (ds_expr (de_call k_check_two (hr.mono (by decide)) (fun z => nomatch z) rfl (takes_of rfl rfl rfl rfl) (da_cons (de_var 0) (da_cons (de_var 1) da_nil))))
      (dss_one (ds_ret (de_call k_raw_less (hr.mono (by decide)) (fun z => nomatch z) rfl (takes_of rfl rfl rfl rfl) (da_cons (de_var 0) (da_cons (de_var 1) da_nil)))))), rd_box_less (cl := cl)⟩)
theorem kn_box_join (D : DefIn K mg "box_join" s_box_join ["one", "other"])  (k_check_two : Kn P w K mg base false "check_two" 5 (sp_check_two cl)) (k_raw_join : Kn P w K mg base false "raw_join" 3 sp_raw_join) : Kn P w K mg base false "box_join" 6 (sp_box_join cl) :=
  have nd := sc_box_join.nd
  kn_def D sc_box_join (len_box_join (cl := cl)) (fun f cdv A outer s0 H E hr gd => ⟨t_box_join cl, (dss_cons (ds_expr (de_call k_check_two (hr.mono (by decide)) (fun z => nomatch z) rfl (takes_of rfl rfl rfl rfl) (da_cons (de_var 0) (da_cons (de_var 1) da_nil))))
      (dss_one (ds_ret (de_call k_raw_join (hr.mono (by decide)) (fun z => nomatch z) rfl (takes_of rfl rfl rfl rfl) (da_cons (de_var 0) (da_cons (de_var 1) da_nil)))))), rd_box_join (cl := cl)⟩)
theorem kn_box_turn (D : DefIn K mg "box_turn" s_box_turn ["box"])  (k_check_box : Kn P w K mg base false "check_box" 4 (sp_check_box cl)) (k_raw_turn : Kn P w K mg base false "raw_turn" 2 sp_raw_turn) : Kn P w K mg base false "box_turn" 5 (sp_box_turn cl) :=
  have nd := sc_box_turn.nd
  kn_def D sc_box_turn (len_box_turn (cl := cl)) (fun f cdv A outer s0 H E hr gd => ⟨t_box_turn cl, (dss_cons (ds_expr (de_call k_check_box (hr.mono (by decide)) (fun z => nomatch z) rfl (takes_of rfl rfl rfl rfl) (da_cons (de_var 0) da_nil)))
      (dss_one (ds_ret (de_call k_raw_turn (hr.mono (by decide)) (fun z => nomatch z) rfl (takes_of rfl rfl rfl rfl) (da_cons (de_var 0) da_nil))))), rd_box_turn (cl := cl)⟩)
theorem kn_box_size (D : DefIn K mg "box_size" s_box_size ["box"])  (k_check_box : Kn P w K mg base false "check_box" 4 (sp_check_box cl)) (k_raw_size : Kn P w K mg base false "raw_size" 4 sp_raw_size) : Kn P w K mg base false "box_size" 5 (sp_box_size cl) :=
  have nd := sc_box_size.nd
  kn_def D sc_box_size (len_box_size (cl := cl)) (fun f cdv A outer s0 H E hr gd => ⟨t_box_size cl, (dss_cons (ds_expr (de_call k_check_box (hr.mono (by decide)) (fun z => nomatch z) rfl (takes_of rfl rfl rfl rfl) (da_cons (de_var 0) da_nil)))
      (dss_one (ds_ret (de_call k_raw_size (hr.mono (by decide)) (fun z => nomatch z) rfl (takes_of rfl rfl rfl rfl) (da_cons (de_var 0) da_nil))))), rd_box_size (cl := cl)⟩)
theorem kn_box_root (D : DefIn K mg "box_root" s_box_root ["box", "k", "depth"]) (F : Facts K mg cl) (k_check_box : Kn P w K mg base false "check_box" 4 (sp_check_box cl)) (k_check_within : Kn P w K mg base false "check_within" 3 (sp_check_within cl)) (k_raw_root : Kn P w K mg base false "raw_root" 4 sp_raw_root) : Kn P w K mg base false "box_root" 5 (sp_box_root cl) :=
  have nd := sc_box_root.nd
  kn_def D sc_box_root (len_box_root (cl := cl)) (fun f cdv A outer s0 H E hr gd => ⟨t_box_root cl, (dss_cons (ds_expr (de_call k_check_box (hr.mono (by decide)) (fun z => nomatch z) rfl (takes_of rfl rfl rfl rfl) (da_cons (de_var 0) da_nil)))
      (dss_cons (ds_expr (de_call k_check_within (hr.mono (by decide)) (fun z => nomatch z) rfl (takes_of rfl rfl rfl rfl) (da_cons (de_var 1) (da_cons (de_gi rfl F.i_LEAST_ROOT) (da_cons (de_gi rfl F.i_MOST_ROOT) da_nil)))))
      (dss_cons (ds_expr (de_call k_check_within (hr.mono (by decide)) (fun z => nomatch z) rfl (takes_of rfl rfl rfl rfl) (da_cons (de_var 2) (da_cons de_int (da_cons (de_gi rfl F.i_MOST_DEPTH) da_nil)))))
      (dss_one (ds_ret (de_call k_raw_root (hr.mono (by decide)) (fun z => nomatch z) rfl (takes_of rfl rfl rfl rfl) (da_cons (de_var 0) (da_cons (de_var 1) (da_cons (de_var 2) da_nil))))))))), rd_box_root (cl := cl)⟩)
theorem kn_box_power (D : DefIn K mg "box_power" s_box_power ["box", "k"]) (F : Facts K mg cl) (k_check_box : Kn P w K mg base false "check_box" 4 (sp_check_box cl)) (k_check_within : Kn P w K mg base false "check_within" 3 (sp_check_within cl)) (k_raw_power : Kn P w K mg base false "raw_power" 4 sp_raw_power) : Kn P w K mg base false "box_power" 5 (sp_box_power cl) :=
  have nd := sc_box_power.nd
  kn_def D sc_box_power (len_box_power (cl := cl)) (fun f cdv A outer s0 H E hr gd => ⟨t_box_power cl, (dss_cons (ds_expr (de_call k_check_box (hr.mono (by decide)) (fun z => nomatch z) rfl (takes_of rfl rfl rfl rfl) (da_cons (de_var 0) da_nil)))
      (dss_cons (ds_expr (de_call k_check_within (hr.mono (by decide)) (fun z => nomatch z) rfl (takes_of rfl rfl rfl rfl) (da_cons (de_var 1) (da_cons de_int (da_cons (de_gi rfl F.i_MOST_POWER) da_nil)))))
      (dss_one (ds_ret (de_call k_raw_power (hr.mono (by decide)) (fun z => nomatch z) rfl (takes_of rfl rfl rfl rfl) (da_cons (de_var 0) (da_cons (de_var 1) da_nil))))))), rd_box_power (cl := cl)⟩)
theorem kn__law_hand (D : DefIn K mg "_law_hand" s__law_hand ["script"]) (F : Facts K mg cl)  : Kn P w K mg base false "_law_hand" 1 sp__law_hand :=
  have nd := sc__law_hand.nd
  kn_def D sc__law_hand (len__law_hand) (fun f cdv A outer s0 H E hr gd => ⟨t__law_hand, (dss_cons (ds_setLc (own := [("cell", 2)]) (gl := (gName 2)) rfl nd rfl rfl (sw_true rfl rfl rfl (by decide +kernel)) (di_lst (de_sliceL (de_var 0) do_none (do_some de_int))) (blkOk_by (N := ["script", "cells", "cell"]) (sc := defScope s__law_hand) (by decide +kernel)) (wipeG_name (by decide)) (fun _ _ _ _ _ => pg_name (i := 2) nd rfl (Or.inl rfl)) (fun _ _ _ _ _ => dts_nil) (fun _ _ _ _ _ => (de_op op_modN lf_mod (de_callTy call_int1 lf_int1 rfl F.n_int (by decide +kernel) (da_cons (de_callB call_abs lf_abs rfl F.n_abs (by decide +kernel) (da_cons (de_callTy call_int1 lf_int1 rfl F.n_int (by decide +kernel) (da_cons (de_var 2) da_nil)) da_nil)) da_nil)) (de_op op_pow lf_pow de_int de_int))))
      (dss_one (ds_ret (de_lstC (da_cons (de_var 1) (da_cons de_int (da_cons de_int (da_cons (de_op op_addD lf_add de_int (de_op op_mulD lf_mul de_int (de_callB call_len lf_len rfl F.n_len (by decide +kernel) (da_cons (de_var 1) da_nil)))) (da_cons de_int da_nil))))))))), rd__law_hand⟩)
theorem kn__law_draw (D : DefIn K mg "_law_draw" s__law_draw ["hand", "size"]) (F : Facts K mg cl)  : Kn P w K mg base false "_law_draw" 1 sp__law_draw :=
  have nd := sc__law_draw.nd
  kn_def D sc__law_draw (len__law_draw) (fun f cdv A outer s0 H E hr gd => ⟨t__law_draw, (dss_cons (ds_if (DW.dt (dw_and (dt_cmp (op_eqA hr.units) lf_eq (de_ix (de_var 0) de_int) de_int (nomark _)) (dw_and1 (dt_cmp op_lt lf_cmp (de_ix (de_var 0) de_int) (de_callB call_len lf_len rfl F.n_len (by decide +kernel) (da_cons (de_ix (de_var 0) de_int) da_nil)) (nomark _))))) (dss_cons (ds_set nd rfl (Or.inl rfl) (de_ix (de_ix (de_var 0) de_int) (de_ix (de_var 0) de_int)))
      (dss_cons (ds_asg (de_op op_addD lf_add (de_ix (de_var 0) de_int) de_int) (dg_sub (de_var 0) de_int))
      (dss_cons (ds_asg (de_op op_modN lf_mod (de_callTy call_int1 lf_int1 rfl F.n_int (by decide +kernel) (da_cons (de_op op_addD lf_add (de_op op_addD lf_add (de_op op_mulD lf_mul (de_ix (de_var 0) de_int) de_int) (de_op op_mulD lf_mul (de_var 2) de_int)) de_int) da_nil)) de_int) (dg_sub (de_var 0) de_int))
      (dss_one (ds_if (dt_cmp op_ge lf_cmp (de_var 2) (de_op op_pow lf_pow de_int de_int) (nomark _)) (dss_one (ds_asg (de_var 2) (dg_sub (de_var 0) de_int))) dss_nil))))) dss_nil)
      (dss_cons (ds_if (dt_cmp op_gt lf_cmp (de_ix (de_var 0) de_int) de_int (nomark _)) (dss_cons (ds_set nd rfl (Or.inl rfl) (de_op op_modN lf_mod (de_callTy call_int1 lf_int1 rfl F.n_int (by decide +kernel) (da_cons (de_ix (de_var 0) de_int) da_nil)) (de_var 1)))
      (dss_cons (ds_asg (de_op op_fdivX lf_fdiv (de_ix (de_var 0) de_int) (de_var 1)) (dg_sub (de_var 0) de_int))
      (dss_one (ds_ret (de_var 3))))) dss_nil)
      (dss_cons (ds_asg (de_op op_addD lf_add (de_ix (de_var 0) de_int) de_int) (dg_sub (de_var 0) de_int))
      (dss_cons (ds_set nd rfl (Or.inl rfl) (de_op op_modN lf_mod (de_callTy call_int1 lf_int1 rfl F.n_int (by decide +kernel) (da_cons (de_op op_mulD lf_mul (de_callTy call_int1 lf_int1 rfl F.n_int (by decide +kernel) (da_cons (de_op op_addD lf_add (de_ix (de_var 0) de_int) (de_op op_mulD lf_mul de_int (de_ix (de_var 0) de_int))) da_nil)) de_int) da_nil)) de_int))
      (dss_cons (ds_set nd rfl (Or.inl rfl) (de_op op_modN lf_mod (de_callTy call_int1 lf_int1 rfl F.n_int (by decide +kernel) (da_cons (de_op op_mulD lf_mul (de_var 4) (de_op op_addD lf_add (de_op op_fdivX lf_fdiv (de_var 4) de_int) de_int)) da_nil)) de_int))
      (dss_cons (ds_set nd rfl (Or.inl rfl) (de_op op_modN lf_mod (de_callTy call_int1 lf_int1 rfl F.n_int (by decide +kernel) (da_cons (de_op op_mulD lf_mul (de_var 4) (de_op op_addD lf_add (de_op op_fdivX lf_fdiv (de_var 4) de_int) de_int)) da_nil)) de_int))
      (dss_one (ds_ret (de_op op_modN lf_mod (de_callTy call_int1 lf_int1 rfl F.n_int (by decide +kernel) (da_cons (de_op op_fdivX lf_fdiv (de_var 4) de_int) da_nil)) (de_var 1)))))))))), rd__law_draw⟩)
theorem kn__law_some (D : DefIn K mg "_law_some" s__law_some ["hand", "things"]) (F : Facts K mg cl) (k__law_draw : Kn P w K mg base false "_law_draw" 1 sp__law_draw) : Kn P w K mg base false "_law_some" 2 sp__law_some :=
  have nd := sc__law_some.nd
  kn_def D sc__law_some (len__law_some) (fun f cdv A outer s0 H E hr gd => ⟨t__law_some, (dss_one (ds_ret (de_ix (de_var 1) (de_call k__law_draw (hr.mono (by decide)) (fun z => nomatch z) rfl (takes_of rfl rfl rfl rfl) (da_cons (de_var 0) (da_cons (de_callB call_len lf_len rfl F.n_len (by decide +kernel) (da_cons (de_var 1) da_nil)) da_nil)))))), rd__law_some⟩)
theorem kn__law_frac (D : DefIn K mg "_law_frac" s__law_frac ["top", "bottom"]) (F : Facts K mg cl)  : Kn P w K mg base false "_law_frac" 1 sp__law_frac :=
  have nd := sc__law_frac.nd
  kn_def D sc__law_frac (len__law_frac) (fun f cdv A outer s0 H E hr gd => ⟨t__law_frac, (dss_cons (ds_par rfl nd rfl rfl (by decide) rfl rfl (da_cons (de_callB call_abs lf_abs rfl F.n_abs (by decide +kernel) (da_cons (de_var 0) da_nil)) (da_cons (de_callB call_abs lf_abs rfl F.n_abs (by decide +kernel) (da_cons (de_var 1) da_nil)) da_nil)) (by with_unfolding_all rfl))
      (dss_cons (ds_while (passes_of rfl) (dt_cmp op_gt lf_cmp (de_var 2) de_int (nomark _)) (dss_one (ds_par rfl nd rfl rfl (by decide) rfl rfl (da_cons (de_op op_modN lf_mod (de_callTy call_int1 lf_int1 rfl F.n_int (by decide +kernel) (da_cons (de_var 3) da_nil)) (de_var 2)) (da_cons (de_var 2) da_nil)) (by with_unfolding_all rfl))))
      (dss_cons (ds_set nd rfl (Or.inl rfl) (de_if (dt_cmp op_gt lf_cmp (de_var 1) de_int (nomark _)) (de_var 3) (de_op op_sub lf_sub de_int (de_var 3))))
      (dss_one (ds_ret (de_tup (da_cons (de_op op_fdivX lf_fdiv (de_var 0) (de_var 3)) (da_cons (de_op op_fdivX lf_fdiv (de_var 1) (de_var 3)) da_nil)))))))), rd__law_frac⟩)
theorem kn__law_plus (D : DefIn K mg "_law_plus" s__law_plus ["one", "other"])  (k__law_frac : Kn P w K mg base false "_law_frac" 1 sp__law_frac) : Kn P w K mg base false "_law_plus" 2 sp__law_plus :=
  have nd := sc__law_plus.nd
  kn_def D sc__law_plus (len__law_plus) (fun f cdv A outer s0 H E hr gd => ⟨t__law_plus, (dss_one (ds_ret (de_call k__law_frac (hr.mono (by decide)) (fun z => nomatch z) rfl (takes_of rfl rfl rfl rfl) (da_cons (de_op op_addD lf_add (de_op op_mulD lf_mul (de_ix (de_var 0) de_int) (de_ix (de_var 1) de_int)) (de_op op_mulD lf_mul (de_ix (de_var 1) de_int) (de_ix (de_var 0) de_int))) (da_cons (de_op op_mulD lf_mul (de_ix (de_var 0) de_int) (de_ix (de_var 1) de_int)) da_nil))))), rd__law_plus⟩)
theorem kn__law_less (D : DefIn K mg "_law_less" s__law_less ["one", "other"])  (k__law_frac : Kn P w K mg base false "_law_frac" 1 sp__law_frac) : Kn P w K mg base false "_law_less" 2 sp__law_less :=
  have nd := sc__law_less.nd
  kn_def D sc__law_less (len__law_less) (fun f cdv A outer s0 H E hr gd => ⟨t__law_less, (dss_one (ds_ret (de_call k__law_frac (hr.mono (by decide)) (fun z => nomatch z) rfl (takes_of rfl rfl rfl rfl) (da_cons (de_op op_sub lf_sub (de_op op_mulD lf_mul (de_ix (de_var 0) de_int) (de_ix (de_var 1) de_int)) (de_op op_mulD lf_mul (de_ix (de_var 1) de_int) (de_ix (de_var 0) de_int))) (da_cons (de_op op_mulD lf_mul (de_ix (de_var 0) de_int) (de_ix (de_var 1) de_int)) da_nil))))), rd__law_less⟩)
theorem kn__law_times (D : DefIn K mg "_law_times" s__law_times ["one", "other"])  (k__law_frac : Kn P w K mg base false "_law_frac" 1 sp__law_frac) : Kn P w K mg base false "_law_times" 2 sp__law_times :=
  have nd := sc__law_times.nd
  kn_def D sc__law_times (len__law_times) (fun f cdv A outer s0 H E hr gd => ⟨t__law_times, (dss_one (ds_ret (de_call k__law_frac (hr.mono (by decide)) (fun z => nomatch z) rfl (takes_of rfl rfl rfl rfl) (da_cons (de_op op_mulD lf_mul (de_ix (de_var 0) de_int) (de_ix (de_var 1) de_int)) (da_cons (de_op op_mulD lf_mul (de_ix (de_var 0) de_int) (de_ix (de_var 1) de_int)) da_nil))))), rd__law_times⟩)
theorem kn__law_by (D : DefIn K mg "_law_by" s__law_by ["one", "other"])  (k__law_frac : Kn P w K mg base false "_law_frac" 1 sp__law_frac) : Kn P w K mg base false "_law_by" 2 sp__law_by :=
  have nd := sc__law_by.nd
  kn_def D sc__law_by (len__law_by) (fun f cdv A outer s0 H E hr gd => ⟨t__law_by, (dss_one (ds_ret (de_call k__law_frac (hr.mono (by decide)) (fun z => nomatch z) rfl (takes_of rfl rfl rfl rfl) (da_cons (de_op op_mulD lf_mul (de_ix (de_var 0) de_int) (de_ix (de_var 1) de_int)) (da_cons (de_op op_mulD lf_mul (de_ix (de_var 0) de_int) (de_ix (de_var 1) de_int)) da_nil))))), rd__law_by⟩)
theorem kn__law_is_under (D : DefIn K mg "_law_is_under" s__law_is_under ["one", "other"])   : Kn P w K mg base false "_law_is_under" 1 sp__law_is_under :=
  have nd := sc__law_is_under.nd
  kn_def D sc__law_is_under (len__law_is_under) (fun f cdv A outer s0 H E hr gd => ⟨t__law_is_under, (dss_one (ds_ret (de_cmp op_lt lf_cmp (de_op op_mulD lf_mul (de_ix (de_var 0) de_int) (de_ix (de_var 1) de_int)) (de_op op_mulD lf_mul (de_ix (de_var 1) de_int) (de_ix (de_var 0) de_int)) (nomark _)))), rd__law_is_under⟩)
theorem kn__law_least (D : DefIn K mg "_law_least" s__law_least ["some"])  (k__law_is_under : Kn P w K mg base false "_law_is_under" 1 sp__law_is_under) : Kn P w K mg base false "_law_least" 2 sp__law_least :=
  have nd := sc__law_least.nd
  kn_def D sc__law_least (len__law_least) (fun f cdv A outer s0 H E hr gd => ⟨t__law_least, (dss_cons (ds_set nd rfl (Or.inl rfl) (de_ix (de_var 0) de_int))
      (dss_cons (ds_for (passes_of rfl) rfl (di_lst (de_var 0)) (dg_name nd rfl (Or.inl rfl)) (dss_one (ds_set nd rfl (Or.inl rfl) (de_if (dt_val (de_call k__law_is_under (hr.mono (by decide)) (fun z => nomatch z) rfl (takes_of rfl rfl rfl rfl) (da_cons (de_var 2) (da_cons (de_var 1) da_nil)))) (de_var 2) (de_var 1)))))
      (dss_one (ds_ret (de_var 1))))), rd__law_least⟩)
theorem kn__law_most (D : DefIn K mg "_law_most" s__law_most ["some"])  (k__law_is_under : Kn P w K mg base false "_law_is_under" 1 sp__law_is_under) : Kn P w K mg base false "_law_most" 2 sp__law_most :=
  have nd := sc__law_most.nd
  kn_def D sc__law_most (len__law_most) (fun f cdv A outer s0 H E hr gd => ⟨t__law_most, (dss_cons (ds_set nd rfl (Or.inl rfl) (de_ix (de_var 0) de_int))
      (dss_cons (ds_for (passes_of rfl) rfl (di_lst (de_var 0)) (dg_name nd rfl (Or.inl rfl)) (dss_one (ds_set nd rfl (Or.inl rfl) (de_if (dt_val (de_call k__law_is_under (hr.mono (by decide)) (fun z => nomatch z) rfl (takes_of rfl rfl rfl rfl) (da_cons (de_var 1) (da_cons (de_var 2) da_nil)))) (de_var 2) (de_var 1)))))
      (dss_one (ds_ret (de_var 1))))), rd__law_most⟩)
theorem kn__law_two (D : DefIn K mg "_law_two" s__law_two ["many"]) (F : Facts K mg cl)  : Kn P w K mg base false "_law_two" 1 sp__law_two :=
  have nd := sc__law_two.nd
  kn_def D sc__law_two (len__law_two) (fun f cdv A outer s0 H E hr gd => ⟨t__law_two, (dss_cons (ds_set nd rfl (Or.inl rfl) de_int)
      (dss_cons (ds_for (passes_of rfl) rfl (di_rng1 rfl F.n_range (da_cons (de_var 0) da_nil)) (dg_name nd rfl (Or.inl rfl)) (dss_one (ds_set nd rfl (Or.inl rfl) (de_op op_addD lf_add (de_var 1) (de_var 1)))))
      (dss_one (ds_ret (de_var 1))))), rd__law_two⟩)
theorem kn__law_power (D : DefIn K mg "_law_power" s__law_power ["one", "many"]) (F : Facts K mg cl) (k__law_times : Kn P w K mg base false "_law_times" 2 sp__law_times) : Kn P w K mg base false "_law_power" 3 sp__law_power :=
  have nd := sc__law_power.nd
  kn_def D sc__law_power (len__law_power) (fun f cdv A outer s0 H E hr gd => ⟨t__law_power, (dss_cons (ds_set nd rfl (Or.inl rfl) (de_tup (da_cons de_int (da_cons de_int da_nil))))
      (dss_cons (ds_for (passes_of rfl) rfl (di_rng1 rfl F.n_range (da_cons (de_var 1) da_nil)) (dg_name nd rfl (Or.inl rfl)) (dss_one (ds_set nd rfl (Or.inl rfl) (de_call k__law_times (hr.mono (by decide)) (fun z => nomatch z) rfl (takes_of rfl rfl rfl rfl) (da_cons (de_var 2) (da_cons (de_var 0) da_nil))))))
      (dss_one (ds_ret (de_var 2))))), rd__law_power⟩)
theorem kn__law_number (D : DefIn K mg "_law_number" s__law_number ["hand", "great"])  (k__law_frac : Kn P w K mg base false "_law_frac" 1 sp__law_frac) (k__law_draw : Kn P w K mg base false "_law_draw" 1 sp__law_draw) : Kn P w K mg base false "_law_number" 2 sp__law_number :=
  have nd := sc__law_number.nd
  kn_def D sc__law_number (len__law_number) (fun f cdv A outer s0 H E hr gd => ⟨t__law_number, (dss_one (ds_ret (de_call k__law_frac (hr.mono (by decide)) (fun z => nomatch z) rfl (takes_of rfl rfl rfl rfl) (da_cons (de_op op_sub lf_sub (de_call k__law_draw (hr.mono (by decide)) (fun z => nomatch z) rfl (takes_of rfl rfl rfl rfl) (da_cons (de_var 0) (da_cons (de_op op_addD lf_add (de_op op_mulD lf_mul de_int (de_var 1)) de_int) da_nil))) (de_var 1)) (da_cons (de_op op_addD lf_add de_int (de_call k__law_draw (hr.mono (by decide)) (fun z => nomatch z) rfl (takes_of rfl rfl rfl rfl) (da_cons (de_var 0) (da_cons de_int da_nil)))) da_nil))))), rd__law_number⟩)
theorem kn__law_box_times (D : DefIn K mg "_law_box_times" s__law_box_times ["one", "other"])  (k__law_times : Kn P w K mg base false "_law_times" 2 sp__law_times) (k__law_most : Kn P w K mg base false "_law_most" 2 sp__law_most) (k__law_least : Kn P w K mg base false "_law_least" 2 sp__law_least) : Kn P w K mg base false "_law_box_times" 3 sp__law_box_times :=
  have nd := sc__law_box_times.nd
  kn_def D sc__law_box_times (len__law_box_times) (fun f cdv A outer s0 H E hr gd => ⟨t__law_box_times, (dss_cons (ds_set nd rfl (Or.inl rfl) (de_lstS (da_cons (de_call k__law_times (hr.mono (by decide)) (fun z => nomatch z) rfl (takes_of rfl rfl rfl rfl) (da_cons (de_ix (de_var 0) de_int) (da_cons (de_ix (de_var 1) de_int) da_nil))) (da_cons (de_call k__law_times (hr.mono (by decide)) (fun z => nomatch z) rfl (takes_of rfl rfl rfl rfl) (da_cons (de_ix (de_var 0) de_int) (da_cons (de_ix (de_var 1) de_int) da_nil))) da_nil))))
      (dss_cons (ds_set nd rfl (Or.inl rfl) (de_op op_addD lf_add (de_var 2) (de_lstS (da_cons (de_call k__law_times (hr.mono (by decide)) (fun z => nomatch z) rfl (takes_of rfl rfl rfl rfl) (da_cons (de_ix (de_var 0) de_int) (da_cons (de_ix (de_var 1) de_int) da_nil))) (da_cons (de_call k__law_times (hr.mono (by decide)) (fun z => nomatch z) rfl (takes_of rfl rfl rfl rfl) (da_cons (de_ix (de_var 0) de_int) (da_cons (de_ix (de_var 1) de_int) da_nil))) da_nil)))))
      (dss_one (ds_ret (de_tup (da_cons (de_call k__law_least (hr.mono (by decide)) (fun z => nomatch z) rfl (takes_of rfl rfl rfl rfl) (da_cons (de_var 2) da_nil)) (da_cons (de_call k__law_most (hr.mono (by decide)) (fun z => nomatch z) rfl (takes_of rfl rfl rfl rfl) (da_cons (de_var 2) da_nil)) da_nil))))))), rd__law_box_times⟩)
theorem kn__law_box_over (D : DefIn K mg "_law_box_over" s__law_box_over ["one", "other"])  (k__law_is_under : Kn P w K mg base false "_law_is_under" 1 sp__law_is_under) (k__law_box_times : Kn P w K mg base false "_law_box_times" 3 sp__law_box_times) (k__law_by : Kn P w K mg base false "_law_by" 2 sp__law_by) : Kn P w K mg base false "_law_box_over" 4 sp__law_box_over :=
  have nd := sc__law_box_over.nd
  kn_def D sc__law_box_over (len__law_box_over) (fun f cdv A outer s0 H E hr gd => ⟨t__law_box_over, (dss_cons (ds_if (DW.dt (dw_and (dt_not (dt_val (de_call k__law_is_under (hr.mono (by decide)) (fun z => nomatch z) rfl (takes_of rfl rfl rfl rfl) (da_cons (de_tup (da_cons de_int (da_cons de_int da_nil))) (da_cons (de_ix (de_var 1) de_int) da_nil))))) (dw_and1 (dt_not (dt_val (de_call k__law_is_under (hr.mono (by decide)) (fun z => nomatch z) rfl (takes_of rfl rfl rfl rfl) (da_cons (de_ix (de_var 1) de_int) (da_cons (de_tup (da_cons de_int (da_cons de_int da_nil))) da_nil)))))))) (dss_one (ds_ret de_non)) dss_nil)
      (dss_one (ds_ret (de_call k__law_box_times (hr.mono (by decide)) (fun z => nomatch z) rfl (takes_of rfl rfl rfl rfl) (da_cons (de_var 0) (da_cons (de_tup (da_cons (de_call k__law_by (hr.mono (by decide)) (fun z => nomatch z) rfl (takes_of rfl rfl rfl rfl) (da_cons (de_tup (da_cons de_int (da_cons de_int da_nil))) (da_cons (de_ix (de_var 1) de_int) da_nil))) (da_cons (de_call k__law_by (hr.mono (by decide)) (fun z => nomatch z) rfl (takes_of rfl rfl rfl rfl) (da_cons (de_tup (da_cons de_int (da_cons de_int da_nil))) (da_cons (de_ix (de_var 1) de_int) da_nil))) da_nil))) da_nil)))))), rd__law_box_over⟩)
theorem kn__law_box_plus (D : DefIn K mg "_law_box_plus" s__law_box_plus ["one", "other"])  (k__law_plus : Kn P w K mg base false "_law_plus" 2 sp__law_plus) : Kn P w K mg base false "_law_box_plus" 3 sp__law_box_plus :=
  have nd := sc__law_box_plus.nd
  kn_def D sc__law_box_plus (len__law_box_plus) (fun f cdv A outer s0 H E hr gd => ⟨t__law_box_plus, (dss_one (ds_ret (de_tup (da_cons (de_call k__law_plus (hr.mono (by decide)) (fun z => nomatch z) rfl (takes_of rfl rfl rfl rfl) (da_cons (de_ix (de_var 0) de_int) (da_cons (de_ix (de_var 1) de_int) da_nil))) (da_cons (de_call k__law_plus (hr.mono (by decide)) (fun z => nomatch z) rfl (takes_of rfl rfl rfl rfl) (da_cons (de_ix (de_var 0) de_int) (da_cons (de_ix (de_var 1) de_int) da_nil))) da_nil))))), rd__law_box_plus⟩)
theorem kn__law_box_turn (D : DefIn K mg "_law_box_turn" s__law_box_turn ["box"])   : Kn P w K mg base false "_law_box_turn" 1 sp__law_box_turn :=
  have nd := sc__law_box_turn.nd
  kn_def D sc__law_box_turn (len__law_box_turn) (fun f cdv A outer s0 H E hr gd => ⟨t__law_box_turn, (dss_one (ds_ret (de_tup (da_cons (de_tup (da_cons (de_op op_sub lf_sub de_int (de_ix (de_ix (de_var 0) de_int) de_int)) (da_cons (de_ix (de_ix (de_var 0) de_int) de_int) da_nil))) (da_cons (de_tup (da_cons (de_op op_sub lf_sub de_int (de_ix (de_ix (de_var 0) de_int) de_int)) (da_cons (de_ix (de_ix (de_var 0) de_int) de_int) da_nil))) da_nil))))), rd__law_box_turn⟩)
theorem kn__law_box_size (D : DefIn K mg "_law_box_size" s__law_box_size ["box"])  (k__law_is_under : Kn P w K mg base false "_law_is_under" 1 sp__law_is_under) (k__law_box_turn : Kn P w K mg base false "_law_box_turn" 1 sp__law_box_turn) (k__law_most : Kn P w K mg base false "_law_most" 2 sp__law_most) : Kn P w K mg base false "_law_box_size" 3 sp__law_box_size :=
  have nd := sc__law_box_size.nd
  kn_def D sc__law_box_size (len__law_box_size) (fun f cdv A outer s0 H E hr gd => ⟨t__law_box_size, (dss_cons (ds_if (dt_not (dt_val (de_call k__law_is_under (hr.mono (by decide)) (fun z => nomatch z) rfl (takes_of rfl rfl rfl rfl) (da_cons (de_ix (de_var 0) de_int) (da_cons (de_tup (da_cons de_int (da_cons de_int da_nil))) da_nil))))) (dss_one (ds_ret (de_var 0))) dss_nil)
      (dss_cons (ds_if (dt_not (dt_val (de_call k__law_is_under (hr.mono (by decide)) (fun z => nomatch z) rfl (takes_of rfl rfl rfl rfl) (da_cons (de_tup (da_cons de_int (da_cons de_int da_nil))) (da_cons (de_ix (de_var 0) de_int) da_nil))))) (dss_one (ds_ret (de_call k__law_box_turn (hr.mono (by decide)) (fun z => nomatch z) rfl (takes_of rfl rfl rfl rfl) (da_cons (de_var 0) da_nil)))) dss_nil)
      (dss_one (ds_ret (de_tup (da_cons (de_tup (da_cons de_int (da_cons de_int da_nil))) (da_cons (de_call k__law_most (hr.mono (by decide)) (fun z => nomatch z) rfl (takes_of rfl rfl rfl rfl) (da_cons (de_lstS (da_cons (de_tup (da_cons (de_op op_sub lf_sub de_int (de_ix (de_ix (de_var 0) de_int) de_int)) (da_cons (de_ix (de_ix (de_var 0) de_int) de_int) da_nil))) (da_cons (de_ix (de_var 0) de_int) da_nil))) da_nil)) da_nil))))))), rd__law_box_size⟩)
theorem kn__law_box_power (D : DefIn K mg "_law_box_power" s__law_box_power ["box", "k"]) (F : Facts K mg cl) (k__law_box_size : Kn P w K mg base false "_law_box_size" 3 sp__law_box_size) (k__law_power : Kn P w K mg base false "_law_power" 3 sp__law_power) : Kn P w K mg base false "_law_box_power" 4 sp__law_box_power :=
  have nd := sc__law_box_power.nd
  kn_def D sc__law_box_power (len__law_box_power) (fun f cdv A outer s0 H E hr gd => ⟨t__law_box_power, (dss_cons (ds_if (dt_cmp (op_eqA hr.units) lf_eq (de_var 1) de_int (nomark _)) (dss_one (ds_ret (de_tup (da_cons (de_tup (da_cons de_int (da_cons de_int da_nil))) (da_cons (de_tup (da_cons de_int (da_cons de_int da_nil))) da_nil))))) dss_nil)
      (dss_cons (ds_set nd rfl (Or.inl rfl) (de_if (dt_cmp (op_eqA hr.units) lf_eq (de_op op_modN lf_mod (de_callTy call_int1 lf_int1 rfl F.n_int (by decide +kernel) (da_cons (de_var 1) da_nil)) de_int) de_int (nomark _)) (de_call k__law_box_size (hr.mono (by decide)) (fun z => nomatch z) rfl (takes_of rfl rfl rfl rfl) (da_cons (de_var 0) da_nil)) (de_var 0)))
      (dss_one (ds_ret (de_tup (da_cons (de_call k__law_power (hr.mono (by decide)) (fun z => nomatch z) rfl (takes_of rfl rfl rfl rfl) (da_cons (de_ix (de_var 2) de_int) (da_cons (de_var 1) da_nil))) (da_cons (de_call k__law_power (hr.mono (by decide)) (fun z => nomatch z) rfl (takes_of rfl rfl rfl rfl) (da_cons (de_ix (de_var 2) de_int) (da_cons (de_var 1) da_nil))) da_nil))))))), rd__law_box_power⟩)
theorem kn__law_root_of (D : DefIn K mg "_law_root_of" s__law_root_of ["number", "k"])  (k__law_power : Kn P w K mg base false "_law_power" 3 sp__law_power) : Kn P w K mg base false "_law_root_of" 4 sp__law_root_of :=
  have nd := sc__law_root_of.nd
  kn_def D sc__law_root_of (len__law_root_of) (fun f cdv A outer s0 H E hr gd => ⟨t__law_root_of, (dss_cons (ds_asg (de_tup (da_cons de_int (da_cons de_int da_nil))) (dg_tup rfl (dgs_cons (dg_name nd rfl (Or.inl rfl)) (dgs_cons (dg_name nd rfl (Or.inl rfl)) dgs_nil))))
      (dss_cons (ds_while (passes_of rfl) (dt_cmp op_le lf_cmp (de_ix (de_call k__law_power (hr.mono (by decide)) (fun z => nomatch z) rfl (takes_of rfl rfl rfl rfl) (da_cons (de_tup (da_cons (de_var 3) (da_cons de_int da_nil))) (da_cons (de_var 1) da_nil))) de_int) (de_var 0) (nomark _)) (dss_one (ds_set nd rfl (Or.inl rfl) (de_op op_mulD lf_mul de_int (de_var 3)))))
      (dss_cons (ds_while (passes_of rfl) (dt_cmp op_gt lf_cmp (de_op op_sub lf_sub (de_var 3) (de_var 2)) de_int (nomark _)) (dss_cons (ds_set nd rfl (Or.inl rfl) (de_op op_fdivX lf_fdiv (de_op op_addD lf_add (de_var 2) (de_var 3)) de_int))
      (dss_one (ds_if (dt_cmp op_le lf_cmp (de_ix (de_call k__law_power (hr.mono (by decide)) (fun z => nomatch z) rfl (takes_of rfl rfl rfl rfl) (da_cons (de_tup (da_cons (de_var 4) (da_cons de_int da_nil))) (da_cons (de_var 1) da_nil))) de_int) (de_var 0) (nomark _)) (dss_one (ds_set nd rfl (Or.inl rfl) (de_var 4))) (dss_one (ds_set nd rfl (Or.inl rfl) (de_var 4)))))))
      (dss_one (ds_ret (de_var 2)))))), rd__law_root_of⟩)
theorem kn__law_box_root (D : DefIn K mg "_law_box_root" s__law_box_root ["box", "k", "depth"]) (F : Facts K mg cl) (k__law_power : Kn P w K mg base false "_law_power" 3 sp__law_power) (k__law_two : Kn P w K mg base false "_law_two" 1 sp__law_two) (k__law_root_of : Kn P w K mg base false "_law_root_of" 4 sp__law_root_of) (k__law_frac : Kn P w K mg base false "_law_frac" 1 sp__law_frac) : Kn P w K mg base false "_law_box_root" 5 sp__law_box_root :=
  have nd := sc__law_box_root.nd
  kn_def D sc__law_box_root (len__law_box_root) (fun f cdv A outer s0 H E hr gd => ⟨t__law_box_root, (dss_cons (ds_if (dt_cmp op_lt lf_cmp (de_ix (de_ix (de_var 0) de_int) de_int) de_int (nomark _)) (dss_one (ds_ret de_non)) dss_nil)
      (dss_cons (ds_set nd rfl (Or.inl rfl) (de_ix (de_call k__law_power (hr.mono (by decide)) (fun z => nomatch z) rfl (takes_of rfl rfl rfl rfl) (da_cons (de_tup (da_cons (de_call k__law_two (hr.mono (by decide)) (fun z => nomatch z) rfl (takes_of rfl rfl rfl rfl) (da_cons (de_var 2) da_nil)) (da_cons de_int da_nil))) (da_cons (de_var 1) da_nil))) de_int))
      (dss_cons (ds_set nd rfl (Or.inl rfl) (de_call k__law_root_of (hr.mono (by decide)) (fun z => nomatch z) rfl (takes_of rfl rfl rfl rfl) (da_cons (de_op op_fdivX lf_fdiv (de_op op_mulD lf_mul (de_callB (call_max2 rfl) lf_max2 rfl F.n_max (by decide +kernel) (da_cons (de_ix (de_ix (de_var 0) de_int) de_int) (da_cons de_int da_nil))) (de_var 3)) (de_ix (de_ix (de_var 0) de_int) de_int)) (da_cons (de_var 1) da_nil))))
      (dss_cons (ds_set nd rfl (Or.inl rfl) (de_op op_sub lf_sub de_int (de_op op_fdivX lf_fdiv (de_op op_sub lf_sub de_int (de_op op_mulD lf_mul (de_ix (de_ix (de_var 0) de_int) de_int) (de_var 3))) (de_ix (de_ix (de_var 0) de_int) de_int))))
      (dss_cons (ds_set nd rfl (Or.inl rfl) (de_call k__law_root_of (hr.mono (by decide)) (fun z => nomatch z) rfl (takes_of rfl rfl rfl rfl) (da_cons (de_var 5) (da_cons (de_var 1) da_nil))))
      (dss_cons (ds_set nd rfl (Or.inl rfl) (de_op op_addD lf_add (de_var 6) (de_callTy call_int1 lf_int1 rfl F.n_int (by decide +kernel) (da_cons (de_cmp op_lt lf_cmp (de_ix (de_call k__law_power (hr.mono (by decide)) (fun z => nomatch z) rfl (takes_of rfl rfl rfl rfl) (da_cons (de_tup (da_cons (de_var 6) (da_cons de_int da_nil))) (da_cons (de_var 1) da_nil))) de_int) (de_var 5) (nomark _)) da_nil))))
      (dss_one (ds_ret (de_tup (da_cons (de_call k__law_frac (hr.mono (by decide)) (fun z => nomatch z) rfl (takes_of rfl rfl rfl rfl) (da_cons (de_var 4) (da_cons (de_call k__law_two (hr.mono (by decide)) (fun z => nomatch z) rfl (takes_of rfl rfl rfl rfl) (da_cons (de_var 2) da_nil)) da_nil))) (da_cons (de_call k__law_frac (hr.mono (by decide)) (fun z => nomatch z) rfl (takes_of rfl rfl rfl rfl) (da_cons (de_var 6) (da_cons (de_call k__law_two (hr.mono (by decide)) (fun z => nomatch z) rfl (takes_of rfl rfl rfl rfl) (da_cons (de_var 2) da_nil)) da_nil))) da_nil))))))))))), rd__law_box_root⟩)
theorem kn__law_drawn (D : DefIn K mg "_law_drawn" s__law_drawn ["hand"])  (k__law_number : Kn P w K mg base false "_law_number" 2 sp__law_number) (k__law_some : Kn P w K mg base false "_law_some" 2 sp__law_some) (k__law_is_under : Kn P w K mg base false "_law_is_under" 1 sp__law_is_under) : Kn P w K mg base false "_law_drawn" 3 sp__law_drawn :=
  have nd := sc__law_drawn.nd
  kn_def D sc__law_drawn (len__law_drawn) (fun f cdv A outer s0 H E hr gd => ⟨t__law_drawn, (dss_cons (ds_par rfl nd rfl rfl (by decide) rfl rfl (da_cons (de_call k__law_number (hr.mono (by decide)) (fun z => nomatch z) rfl (takes_of rfl rfl rfl rfl) (da_cons (de_var 0) (da_cons de_int da_nil))) (da_cons (de_call k__law_number (hr.mono (by decide)) (fun z => nomatch z) rfl (takes_of rfl rfl rfl rfl) (da_cons (de_var 0) (da_cons de_int da_nil))) da_nil)) (by with_unfolding_all rfl))
      (dss_cons (ds_asg (de_call k__law_some (hr.mono (by decide)) (fun z => nomatch z) rfl (takes_of rfl rfl rfl rfl) (da_cons (de_var 0) (da_cons (de_lstS (da_cons (de_tup (da_cons (de_var 1) (da_cons (de_var 2) da_nil))) (da_cons (de_tup (da_cons (de_var 1) (da_cons (de_var 1) da_nil))) (da_cons (de_tup (da_cons (de_var 1) (da_cons (de_tup (da_cons de_int (da_cons de_int da_nil))) da_nil))) (da_cons (de_tup (da_cons (de_var 1) (da_cons (de_var 2) da_nil))) da_nil))))) da_nil))) (dg_tup rfl (dgs_cons (dg_name nd rfl (Or.inl rfl)) (dgs_cons (dg_name nd rfl (Or.inl rfl)) dgs_nil))))
      (dss_one (ds_ret (de_if (dt_not (dt_val (de_call k__law_is_under (hr.mono (by decide)) (fun z => nomatch z) rfl (takes_of rfl rfl rfl rfl) (da_cons (de_var 2) (da_cons (de_var 1) da_nil))))) (de_tup (da_cons (de_var 1) (da_cons (de_var 2) da_nil))) (de_tup (da_cons (de_var 2) (da_cons (de_var 1) da_nil)))))))), rd__law_drawn⟩)
theorem kn__law_within (D : DefIn K mg "_law_within" s__law_within ["hand", "box"])  (k__law_draw : Kn P w K mg base false "_law_draw" 1 sp__law_draw) (k__law_plus : Kn P w K mg base false "_law_plus" 2 sp__law_plus) (k__law_times : Kn P w K mg base false "_law_times" 2 sp__law_times) : Kn P w K mg base false "_law_within" 3 sp__law_within :=
  have nd := sc__law_within.nd
  kn_def D sc__law_within (len__law_within) (fun f cdv A outer s0 H E hr gd => ⟨t__law_within, (dss_cons (ds_set nd rfl (Or.inl rfl) (de_call k__law_draw (hr.mono (by decide)) (fun z => nomatch z) rfl (takes_of rfl rfl rfl rfl) (da_cons (de_var 0) (da_cons de_int da_nil))))
      (dss_one (ds_ret (de_call k__law_plus (hr.mono (by decide)) (fun z => nomatch z) rfl (takes_of rfl rfl rfl rfl) (da_cons (de_call k__law_times (hr.mono (by decide)) (fun z => nomatch z) rfl (takes_of rfl rfl rfl rfl) (da_cons (de_ix (de_var 1) de_int) (da_cons (de_tup (da_cons (de_op op_sub lf_sub de_int (de_var 2)) (da_cons de_int da_nil))) da_nil))) (da_cons (de_call k__law_times (hr.mono (by decide)) (fun z => nomatch z) rfl (takes_of rfl rfl rfl rfl) (da_cons (de_ix (de_var 1) de_int) (da_cons (de_tup (da_cons (de_var 2) (da_cons de_int da_nil))) da_nil))) da_nil)))))), rd__law_within⟩)
theorem kn__law_lies (D : DefIn K mg "_law_lies" s__law_lies ["one", "box"])  (k__law_is_under : Kn P w K mg base false "_law_is_under" 1 sp__law_is_under) : Kn P w K mg base false "_law_lies" 2 sp__law_lies :=
  have nd := sc__law_lies.nd
  kn_def D sc__law_lies (len__law_lies) (fun f cdv A outer s0 H E hr gd => ⟨t__law_lies, (dss_one (ds_ret (de_and (de_not (de_call k__law_is_under (hr.mono (by decide)) (fun z => nomatch z) rfl (takes_of rfl rfl rfl rfl) (da_cons (de_var 0) (da_cons (de_ix (de_var 1) de_int) da_nil)))) (de_one (de_not (de_call k__law_is_under (hr.mono (by decide)) (fun z => nomatch z) rfl (takes_of rfl rfl rfl rfl) (da_cons (de_ix (de_var 1) de_int) (da_cons (de_var 0) da_nil)))))))), rd__law_lies⟩)
theorem kn__law_are_two_right (D : DefIn K mg "_law_are_two_right" s__law_are_two_right ["hand", "one", "other"]) (F : Facts K mg cl) (k__law_within : Kn P w K mg base false "_law_within" 3 sp__law_within) (k__law_box_times : Kn P w K mg base false "_law_box_times" 3 sp__law_box_times) (k__law_box_plus : Kn P w K mg base false "_law_box_plus" 3 sp__law_box_plus) (k__law_box_turn : Kn P w K mg base false "_law_box_turn" 1 sp__law_box_turn) (k__law_most : Kn P w K mg base false "_law_most" 2 sp__law_most) (k__law_least : Kn P w K mg base false "_law_least" 2 sp__law_least) (k_box_more : Kn P w K mg base false "box_more" 6 (sp_box_more cl)) (k_box_times : Kn P w K mg base false "box_times" 6 (sp_box_times cl)) (k_box_take : Kn P w K mg base false "box_take" 6 (sp_box_take cl)) (k_box_add : Kn P w K mg base false "box_add" 6 (sp_box_add cl)) (k_box_join : Kn P w K mg base false "box_join" 6 (sp_box_join cl)) (k_box_less : Kn P w K mg base false "box_less" 6 (sp_box_less cl)) (k__law_times : Kn P w K mg base false "_law_times" 2 sp__law_times) (k__law_less : Kn P w K mg base false "_law_less" 2 sp__law_less) (k__law_plus : Kn P w K mg base false "_law_plus" 2 sp__law_plus) (k__law_lies : Kn P w K mg base false "_law_lies" 2 sp__law_lies) (k_is_box : Kn P w K mg base false "is_box" 3 sp_is_box) (k__law_box_over : Kn P w K mg base false "_law_box_over" 4 sp__law_box_over) (k_box_over : Kn P w K mg base false "box_over" 6 (sp_box_over cl)) (k__law_by : Kn P w K mg base false "_law_by" 2 sp__law_by) : Kn P w K mg base true "_law_are_two_right" 7 sp__law_are_two_right :=
  have nd := sc__law_are_two_right.nd
  kn_def D sc__law_are_two_right (len__law_are_two_right (cl := cl)) (fun f cdv A outer s0 H E hr gd => ⟨t__law_are_two_right cl, (dss_cons (ds_par rfl nd rfl rfl (by decide) rfl rfl (da_cons (de_call k__law_within (hr.mono (by decide)) (fun z => nomatch z) rfl (takes_of rfl rfl rfl rfl) (da_cons (de_var 0) (da_cons (de_var 1) da_nil))) (da_cons (de_call k__law_within (hr.mono (by decide)) (fun z => nomatch z) rfl (takes_of rfl rfl rfl rfl) (da_cons (de_var 0) (da_cons (de_var 2) da_nil))) da_nil)) (by with_unfolding_all rfl))
      (dss_cons (ds_set nd rfl (Or.inl rfl) (de_lstC (da_cons (de_call k__law_box_plus (hr.mono (by decide)) (fun z => nomatch z) rfl (takes_of rfl rfl rfl rfl) (da_cons (de_var 1) (da_cons (de_var 2) da_nil))) (da_cons (de_call k__law_box_plus (hr.mono (by decide)) (fun z => nomatch z) rfl (takes_of rfl rfl rfl rfl) (da_cons (de_var 1) (da_cons (de_call k__law_box_turn (hr.mono (by decide)) (fun z => nomatch z) rfl (takes_of rfl rfl rfl rfl) (da_cons (de_var 2) da_nil)) da_nil))) (da_cons (de_call k__law_box_times (hr.mono (by decide)) (fun z => nomatch z) rfl (takes_of rfl rfl rfl rfl) (da_cons (de_var 1) (da_cons (de_var 2) da_nil))) da_nil)))))
      (dss_cons (ds_expr (de_append (de_var 5) (de_tup (da_cons (de_call k__law_most (hr.mono (by decide)) (fun z => nomatch z) rfl (takes_of rfl rfl rfl rfl) (da_cons (de_lstS (da_cons (de_ix (de_var 1) de_int) (da_cons (de_ix (de_var 2) de_int) da_nil))) da_nil)) (da_cons (de_call k__law_most (hr.mono (by decide)) (fun z => nomatch z) rfl (takes_of rfl rfl rfl rfl) (da_cons (de_lstS (da_cons (de_ix (de_var 1) de_int) (da_cons (de_ix (de_var 2) de_int) da_nil))) da_nil)) da_nil)))))
      (dss_cons (ds_expr (de_append (de_var 5) (de_tup (da_cons (de_call k__law_least (hr.mono (by decide)) (fun z => nomatch z) rfl (takes_of rfl rfl rfl rfl) (da_cons (de_lstS (da_cons (de_ix (de_var 1) de_int) (da_cons (de_ix (de_var 2) de_int) da_nil))) da_nil)) (da_cons (de_call k__law_least (hr.mono (by decide)) (fun z => nomatch z) rfl (takes_of rfl rfl rfl rfl) (da_cons (de_lstS (da_cons (de_ix (de_var 1) de_int) (da_cons (de_ix (de_var 2) de_int) da_nil))) da_nil)) da_nil)))))
      (dss_cons (ds_expr (de_append (de_var 5) (de_tup (da_cons (de_call k__law_least (hr.mono (by decide)) (fun z => nomatch z) rfl (takes_of rfl rfl rfl rfl) (da_cons (de_lstS (da_cons (de_ix (de_var 1) de_int) (da_cons (de_ix (de_var 2) de_int) da_nil))) da_nil)) (da_cons (de_call k__law_most (hr.mono (by decide)) (fun z => nomatch z) rfl (takes_of rfl rfl rfl rfl) (da_cons (de_lstS (da_cons (de_ix (de_var 1) de_int) (da_cons (de_ix (de_var 2) de_int) da_nil))) da_nil)) da_nil)))))
      (dss_settle 5 (dss_cons (ds_set nd rfl (Or.inl rfl) (de_lstS (da_cons (de_call k_box_add (hr.mono (by decide)) (fun z => nomatch z) rfl (takes_of rfl rfl rfl rfl) (da_cons (de_var 1) (da_cons (de_var 2) da_nil))) (da_cons (de_call k_box_take (hr.mono (by decide)) (fun z => nomatch z) rfl (takes_of rfl rfl rfl rfl) (da_cons (de_var 1) (da_cons (de_var 2) da_nil))) (da_cons (de_call k_box_times (hr.mono (by decide)) (fun z => nomatch z) rfl (takes_of rfl rfl rfl rfl) (da_cons (de_var 1) (da_cons (de_var 2) da_nil))) (da_cons (de_call k_box_more (hr.mono (by decide)) (fun z => nomatch z) rfl (takes_of rfl rfl rfl rfl) (da_cons (de_var 1) (da_cons (de_var 2) da_nil))) da_nil))))))
      (dss_cons (ds_if (dt_cmp (op_neA hr.units) lf_ne (de_op op_addD lf_add (de_var 6) (de_lstS (da_cons (de_call k_box_less (hr.mono (by decide)) (fun z => nomatch z) rfl (takes_of rfl rfl rfl rfl) (da_cons (de_var 1) (da_cons (de_var 2) da_nil))) (da_cons (de_call k_box_join (hr.mono (by decide)) (fun z => nomatch z) rfl (takes_of rfl rfl rfl rfl) (da_cons (de_var 1) (da_cons (de_var 2) da_nil))) da_nil)))) (de_var 5) (nomark _)) (dss_one (ds_ret de_bl)) dss_nil)
      (dss_cons (ds_set nd rfl (Or.inl rfl) (de_lstS (da_cons (de_call k__law_plus (hr.mono (by decide)) (fun z => nomatch z) rfl (takes_of rfl rfl rfl rfl) (da_cons (de_var 3) (da_cons (de_var 4) da_nil))) (da_cons (de_call k__law_less (hr.mono (by decide)) (fun z => nomatch z) rfl (takes_of rfl rfl rfl rfl) (da_cons (de_var 3) (da_cons (de_var 4) da_nil))) (da_cons (de_call k__law_times (hr.mono (by decide)) (fun z => nomatch z) rfl (takes_of rfl rfl rfl rfl) (da_cons (de_var 3) (da_cons (de_var 4) da_nil))) (da_cons (de_call k__law_most (hr.mono (by decide)) (fun z => nomatch z) rfl (takes_of rfl rfl rfl rfl) (da_cons (de_lstS (da_cons (de_var 3) (da_cons (de_var 4) da_nil))) da_nil)) (da_cons (de_call k__law_least (hr.mono (by decide)) (fun z => nomatch z) rfl (takes_of rfl rfl rfl rfl) (da_cons (de_lstS (da_cons (de_var 3) (da_cons (de_var 4) da_nil))) da_nil)) (da_cons (de_var 3) da_nil))))))))
      (dss_cons (ds_if (dt_not (dt_val (de_callB (cr_all rfl) lf_all rfl F.n_all (by decide +kernel) (da_cons (de_lc (own := [("part", 9), ("box", 10)]) (gl := (gTup K 2 (gCons (gName 9) (gCons (gName 10) gNil)))) rfl nd (di_zip rfl F.n_zip (da_cons (de_var 7) (da_cons (de_var 5) da_nil))) (blkOk_by (N := ["hand", "one", "other", "a", "b", "due", "told", "some", "found", "part", "box"]) (sc := defScope s__law_are_two_right) (by decide +kernel)) (wipeG_tup2 (by decide) (by decide)) (fun _ _ _ _ _ => pg_tup rfl (pgs_cons (pg_name (i := 9) nd rfl (Or.inl rfl)) (pgs_cons (pg_name (i := 10) nd rfl (Or.inl rfl)) pgs_nil))) (fun _ _ _ _ _ => dts_nil) (fun _ _ _ _ _ => (de_and (de_call k__law_lies (hr.mono (by decide)) (fun z => nomatch z) rfl LamX.takes0 (da_cons (de_var 9) (da_cons (de_var 10) da_nil))) (de_one (de_call k_is_box (hr.mono (by decide)) (fun z => nomatch z) rfl LamX.takes0 (da_cons (de_var 10) da_nil)))))) da_nil)))) (dss_one (ds_ret de_bl)) dss_nil)
      (dss_cons (ds_set nd rfl (Or.inl rfl) (de_call k__law_box_over (hr.mono (by decide)) (fun z => nomatch z) rfl (takes_of rfl rfl rfl rfl) (da_cons (de_var 1) (da_cons (de_var 2) da_nil))))
      (dss_cons (ds_if (dt_cmp (op_neA hr.units) lf_ne (de_callB (call_reprD (gd rfl) hr.units) lf_repr rfl F.n_repr (by decide +kernel) (da_cons (de_call k_box_over (hr.mono (by decide)) (fun z => nomatch z) rfl (takes_of rfl rfl rfl rfl) (da_cons (de_var 1) (da_cons (de_var 2) da_nil))) da_nil)) (de_callB (call_reprD (gd rfl) hr.units) lf_repr rfl F.n_repr (by decide +kernel) (da_cons (de_var 8) da_nil)) (nomark _)) (dss_one (ds_ret de_bl)) dss_nil)
      (dss_one (ds_ret (de_or (de_cmp op_isN lf_isN (de_var 8) de_non (nomark _)) (de_one (de_call k__law_lies (hr.mono (by decide)) (fun z => nomatch z) rfl (takes_of rfl rfl rfl rfl) (da_cons (de_call k__law_by (hr.mono (by decide)) (fun z => nomatch z) rfl (takes_of rfl rfl rfl rfl) (da_cons (de_var 3) (da_cons (de_var 4) da_nil))) (da_cons (de_var 8) da_nil))))))))))))))))))), rd__law_are_two_right (cl := cl)⟩)
theorem kn__law_is_one_right (D : DefIn K mg "_law_is_one_right" s__law_is_one_right ["hand", "box"]) (F : Facts K mg cl) (k__law_draw : Kn P w K mg base false "_law_draw" 1 sp__law_draw) (k__law_within : Kn P w K mg base false "_law_within" 3 sp__law_within) (k_box_turn : Kn P w K mg base false "box_turn" 5 (sp_box_turn cl)) (k__law_box_turn : Kn P w K mg base false "_law_box_turn" 1 sp__law_box_turn) (k_box_size : Kn P w K mg base false "box_size" 5 (sp_box_size cl)) (k__law_box_size : Kn P w K mg base false "_law_box_size" 3 sp__law_box_size) (k__law_lies : Kn P w K mg base false "_law_lies" 2 sp__law_lies) (k_box_power : Kn P w K mg base false "box_power" 5 (sp_box_power cl)) (k__law_box_power : Kn P w K mg base false "_law_box_power" 4 sp__law_box_power) (k__law_power : Kn P w K mg base false "_law_power" 3 sp__law_power) (k__law_box_root : Kn P w K mg base false "_law_box_root" 5 sp__law_box_root) (k_box_root : Kn P w K mg base false "box_root" 5 (sp_box_root cl)) (k__law_is_under : Kn P w K mg base false "_law_is_under" 1 sp__law_is_under) : Kn P w K mg base true "_law_is_one_right" 6 sp__law_is_one_right :=
  have nd := sc__law_is_one_right.nd
  kn_def D sc__law_is_one_right (len__law_is_one_right (cl := cl)) (fun f cdv A outer s0 H E hr gd => ⟨t__law_is_one_right cl, (dss_cons (ds_par3 rfl nd rfl rfl rfl (by decide) (by decide) (by decide) rfl rfl rfl (da_cons (de_call k__law_within (hr.mono (by decide)) (fun z => nomatch z) rfl (takes_of rfl rfl rfl rfl) (da_cons (de_var 0) (da_cons (de_var 1) da_nil))) (da_cons (de_call k__law_draw (hr.mono (by decide)) (fun z => nomatch z) rfl (takes_of rfl rfl rfl rfl) (da_cons (de_var 0) (da_cons de_int da_nil))) (da_cons (de_call k__law_draw (hr.mono (by decide)) (fun z => nomatch z) rfl (takes_of rfl rfl rfl rfl) (da_cons (de_var 0) (da_cons de_int da_nil))) da_nil))) (by with_unfolding_all rfl))
      (dss_cons (ds_if (DW.dt (dw_or (dt_cmp (op_neA hr.units) lf_ne (de_call k_box_turn (hr.mono (by decide)) (fun z => nomatch z) rfl (takes_of rfl rfl rfl rfl) (da_cons (de_var 1) da_nil)) (de_call k__law_box_turn (hr.mono (by decide)) (fun z => nomatch z) rfl (takes_of rfl rfl rfl rfl) (da_cons (de_var 1) da_nil)) (nomark _)) (dw_or1 (dt_cmp (op_neA hr.units) lf_ne (de_call k_box_size (hr.mono (by decide)) (fun z => nomatch z) rfl (takes_of rfl rfl rfl rfl) (da_cons (de_var 1) da_nil)) (de_call k__law_box_size (hr.mono (by decide)) (fun z => nomatch z) rfl (takes_of rfl rfl rfl rfl) (da_cons (de_var 1) da_nil)) (nomark _))))) (dss_one (ds_ret de_bl)) dss_nil)
      (dss_cons (ds_if (DW.dt (dw_or (dt_not (dt_val (de_call k__law_lies (hr.mono (by decide)) (fun z => nomatch z) rfl (takes_of rfl rfl rfl rfl) (da_cons (de_tup (da_cons (de_callB call_abs lf_abs rfl F.n_abs (by decide +kernel) (da_cons (de_ix (de_var 2) de_int) da_nil)) (da_cons (de_ix (de_var 2) de_int) da_nil))) (da_cons (de_call k_box_size (hr.mono (by decide)) (fun z => nomatch z) rfl (takes_of rfl rfl rfl rfl) (da_cons (de_var 1) da_nil)) da_nil))))) (dw_or1 (dt_cmp (op_neA hr.units) lf_ne (de_call k_box_turn (hr.mono (by decide)) (fun z => nomatch z) rfl (takes_of rfl rfl rfl rfl) (da_cons (de_call k_box_turn (hr.mono (by decide)) (fun z => nomatch z) rfl (takes_of rfl rfl rfl rfl) (da_cons (de_var 1) da_nil)) da_nil)) (de_var 1) (nomark _))))) (dss_one (ds_ret de_bl)) dss_nil)
      (dss_cons (ds_if (DW.dt (dw_or (dt_cmp (op_neA hr.units) lf_ne (de_call k_box_power (hr.mono (by decide)) (fun z => nomatch z) rfl (takes_of rfl rfl rfl rfl) (da_cons (de_var 1) (da_cons (de_var 3) da_nil))) (de_call k__law_box_power (hr.mono (by decide)) (fun z => nomatch z) rfl (takes_of rfl rfl rfl rfl) (da_cons (de_var 1) (da_cons (de_var 3) da_nil))) (nomark _)) (dw_or1 (dt_not (dt_val (de_call k__law_lies (hr.mono (by decide)) (fun z => nomatch z) rfl (takes_of rfl rfl rfl rfl) (da_cons (de_call k__law_power (hr.mono (by decide)) (fun z => nomatch z) rfl (takes_of rfl rfl rfl rfl) (da_cons (de_var 2) (da_cons (de_var 3) da_nil))) (da_cons (de_call k_box_power (hr.mono (by decide)) (fun z => nomatch z) rfl (takes_of rfl rfl rfl rfl) (da_cons (de_var 1) (da_cons (de_var 3) da_nil))) da_nil)))))))) (dss_one (ds_ret de_bl)) dss_nil)
      (dss_cons (ds_set nd rfl (Or.inl rfl) (de_op op_addD lf_add de_int (de_call k__law_draw (hr.mono (by decide)) (fun z => nomatch z) rfl (takes_of rfl rfl rfl rfl) (da_cons (de_var 0) (da_cons de_int da_nil)))))
      (dss_cons (ds_set nd rfl (Or.inl rfl) (de_call k__law_box_root (hr.mono (by decide)) (fun z => nomatch z) rfl (takes_of rfl rfl rfl rfl) (da_cons (de_var 1) (da_cons (de_var 3) (da_cons (de_var 4) da_nil)))))
      (dss_cons (ds_if (dt_cmp (op_neA hr.units) lf_ne (de_callB (call_reprD (gd rfl) hr.units) lf_repr rfl F.n_repr (by decide +kernel) (da_cons (de_call k_box_root (hr.mono (by decide)) (fun z => nomatch z) rfl (takes_of rfl rfl rfl rfl) (da_cons (de_var 1) (da_cons (de_var 3) (da_cons (de_var 4) da_nil)))) da_nil)) (de_callB (call_reprD (gd rfl) hr.units) lf_repr rfl F.n_repr (by decide +kernel) (da_cons (de_var 5) da_nil)) (nomark _)) (dss_one (ds_ret de_bl)) dss_nil)
      (dss_cons (ds_if (dt_cmp op_isN lf_isN (de_var 5) de_non (nomark _)) (dss_one (ds_ret de_bl)) dss_nil)
      (dss_cons (ds_set nd rfl (Or.inl rfl) (de_call k_box_root (hr.mono (by decide)) (fun z => nomatch z) rfl (takes_of rfl rfl rfl rfl) (da_cons (de_var 1) (da_cons (de_var 3) (da_cons (de_op op_addD lf_add (de_var 4) de_int) da_nil)))))
      (dss_cons (ds_if (DW.dt (dw_or (dt_val (de_call k__law_is_under (hr.mono (by decide)) (fun z => nomatch z) rfl (takes_of rfl rfl rfl rfl) (da_cons (de_ix (de_var 6) de_int) (da_cons (de_ix (de_var 5) de_int) da_nil)))) (dw_or1 (dt_val (de_call k__law_is_under (hr.mono (by decide)) (fun z => nomatch z) rfl (takes_of rfl rfl rfl rfl) (da_cons (de_ix (de_var 5) de_int) (da_cons (de_ix (de_var 6) de_int) da_nil))))))) (dss_one (ds_ret de_bl)) dss_nil)
      (dss_cons (ds_if (DW.dt (dw_and (dt_cmp op_ge lf_cmp (de_ix (de_ix (de_var 1) de_int) de_int) de_int (nomark _)) (dw_and1 (dt_val (de_call k__law_is_under (hr.mono (by decide)) (fun z => nomatch z) rfl (takes_of rfl rfl rfl rfl) (da_cons (de_ix (de_var 1) de_int) (da_cons (de_call k__law_power (hr.mono (by decide)) (fun z => nomatch z) rfl (takes_of rfl rfl rfl rfl) (da_cons (de_ix (de_var 6) de_int) (da_cons (de_var 3) da_nil))) da_nil))))))) (dss_one (ds_ret de_bl)) dss_nil)
      (dss_one (ds_ret (de_not (de_call k__law_is_under (hr.mono (by decide)) (fun z => nomatch z) rfl (takes_of rfl rfl rfl rfl) (da_cons (de_call k__law_power (hr.mono (by decide)) (fun z => nomatch z) rfl (takes_of rfl rfl rfl rfl) (da_cons (de_ix (de_var 6) de_int) (da_cons (de_var 3) da_nil))) (da_cons (de_ix (de_var 1) de_int) da_nil))))))))))))))))), rd__law_is_one_right (cl := cl)⟩)
theorem kn__law_are_wider_right (D : DefIn K mg "_law_are_wider_right" s__law_are_wider_right ["one", "other"])  (k__law_plus : Kn P w K mg base false "_law_plus" 2 sp__law_plus) (k__law_less : Kn P w K mg base false "_law_less" 2 sp__law_less) (k_box_size : Kn P w K mg base false "box_size" 5 (sp_box_size cl)) (k_box_times : Kn P w K mg base false "box_times" 6 (sp_box_times cl)) (k__law_is_under : Kn P w K mg base false "_law_is_under" 1 sp__law_is_under) : Kn P w K mg base false "_law_are_wider_right" 7 sp__law_are_wider_right :=
  have nd := sc__law_are_wider_right.nd
  kn_def D sc__law_are_wider_right (len__law_are_wider_right (cl := cl)) (fun f cdv A outer s0 H E hr gd => ⟨t__law_are_wider_right cl, (dss_cons (ds_set nd rfl (Or.inl rfl) (de_tup (da_cons (de_call k__law_less (hr.mono (by decide)) (fun z => nomatch z) rfl (takes_of rfl rfl rfl rfl) (da_cons (de_ix (de_var 0) de_int) (da_cons (de_tup (da_cons de_int (da_cons de_int da_nil))) da_nil))) (da_cons (de_call k__law_plus (hr.mono (by decide)) (fun z => nomatch z) rfl (takes_of rfl rfl rfl rfl) (da_cons (de_ix (de_var 0) de_int) (da_cons (de_tup (da_cons de_int (da_cons de_int da_nil))) da_nil))) da_nil))))
      (dss_cons (ds_for (passes_of rfl) rfl (di_tup (de_tup (da_cons (de_tup (da_cons (de_call k_box_times (hr.mono (by decide)) (fun z => nomatch z) rfl (takes_of rfl rfl rfl rfl) (da_cons (de_var 0) (da_cons (de_var 1) da_nil))) (da_cons (de_call k_box_times (hr.mono (by decide)) (fun z => nomatch z) rfl (takes_of rfl rfl rfl rfl) (da_cons (de_var 2) (da_cons (de_var 1) da_nil))) da_nil))) (da_cons (de_tup (da_cons (de_call k_box_size (hr.mono (by decide)) (fun z => nomatch z) rfl (takes_of rfl rfl rfl rfl) (da_cons (de_var 0) da_nil)) (da_cons (de_call k_box_size (hr.mono (by decide)) (fun z => nomatch z) rfl (takes_of rfl rfl rfl rfl) (da_cons (de_var 2) da_nil)) da_nil))) da_nil)))) (dg_tup rfl (dgs_cons (dg_name nd rfl (Or.inl rfl)) (dgs_cons (dg_name nd rfl (Or.inl rfl)) dgs_nil))) (dss_one (ds_if (DW.dt (dw_or (dt_val (de_call k__law_is_under (hr.mono (by decide)) (fun z => nomatch z) rfl (takes_of rfl rfl rfl rfl) (da_cons (de_ix (de_var 3) de_int) (da_cons (de_ix (de_var 4) de_int) da_nil)))) (dw_or1 (dt_val (de_call k__law_is_under (hr.mono (by decide)) (fun z => nomatch z) rfl (takes_of rfl rfl rfl rfl) (da_cons (de_ix (de_var 4) de_int) (da_cons (de_ix (de_var 3) de_int) da_nil))))))) (dss_one (ds_ret de_bl)) dss_nil)))
      (dss_one (ds_ret de_bl)))), rd__law_are_wider_right (cl := cl)⟩)
theorem fn_law {A fa c Pt : Addr} {oc kV doc pm ct : Value} {od an : Option Addr} {osl : Array (Option Value)} (lk : K.lookup fa = some ⟨oc, od, .func (PySem.W.fnOf "law" "law" (defArgs s_law) (defBody s_law) (defScope s_law) .none kV doc pm an (.ref c) ct), osl⟩) (hcd : PySem.W.codeIn K (.ref c) "law" = true)
    (TB : LamX.TabB base mg c Pt) (F : Facts K mg cl) (WF : WordF K mg cl A) (DWd : DefIn K mg "_law_word" s__law_word ["call"])  (k__law_hand : Kn P w K mg base false "_law_hand" 1 sp__law_hand) (k_box_root : Kn P w K mg base false "box_root" 5 (sp_box_root cl)) (k_box_over : Kn P w K mg base false "box_over" 6 (sp_box_over cl)) (k__law_drawn : Kn P w K mg base false "_law_drawn" 3 sp__law_drawn) (k__law_are_two_right : Kn P w K mg base true "_law_are_two_right" 7 sp__law_are_two_right) (k__law_is_one_right : Kn P w K mg base true "_law_is_one_right" 6 sp__law_is_one_right) (k__law_are_wider_right : Kn P w K mg base false "_law_are_wider_right" 7 sp__law_are_wider_right) (k__law_some : Kn P w K mg base false "_law_some" 2 sp__law_some) (k_box_add : Kn P w K mg base false "box_add" 6 (sp_box_add cl)) (k_box_join : Kn P w K mg base false "box_join" 6 (sp_box_join cl)) (k_is_box : Kn P w K mg base false "is_box" 3 sp_is_box) :
    FnG P w K mg base true 14 fa (PySem.W.fnOf "law" "law" (defArgs s_law) (defBody s_law) (defScope s_law) .none kV doc pm an (.ref c) ct) ["script"] (sp_law Pt) :=
  have nd := sc_law.nd
  fnG_of (k := 13) lk hcd sc_law len_law (fun A outer s0 H E hr gd => ⟨t_law cl Pt, (dss_cons (ds_set nd rfl (Or.inl rfl) (de_call k__law_hand (hr.mono (by decide)) (fun z => nomatch z) rfl (takes_of rfl rfl rfl rfl) (da_cons (de_var 0) da_nil)))
      (dss_cons (ds_if (dt_cmp (op_neA hr.units) lf_ne (de_call k_box_root (hr.mono (by decide)) (fun z => nomatch z) rfl (takes_of rfl rfl rfl rfl) (da_cons (de_tup (da_cons (de_tup (da_cons de_int (da_cons de_int da_nil))) (da_cons (de_tup (da_cons de_int (da_cons de_int da_nil))) da_nil))) (da_cons de_int (da_cons de_int da_nil)))) (de_tup (da_cons (de_tup (da_cons de_int (da_cons de_int da_nil))) (da_cons (de_tup (da_cons de_int (da_cons de_int da_nil))) da_nil))) (nomark _)) (dss_one (ds_ret de_bl)) dss_nil)
      (dss_cons (ds_if (dt_cmp op_notN lf_notN (de_call k_box_over (hr.mono (by decide)) (fun z => nomatch z) rfl (takes_of rfl rfl rfl rfl) (da_cons (de_tup (da_cons (de_tup (da_cons de_int (da_cons de_int da_nil))) (da_cons (de_tup (da_cons de_int (da_cons de_int da_nil))) da_nil))) (da_cons (de_tup (da_cons (de_tup (da_cons de_int (da_cons de_int da_nil))) (da_cons (de_tup (da_cons de_int (da_cons de_int da_nil))) da_nil))) da_nil))) de_non (nomark _)) (dss_one (ds_ret de_bl)) dss_nil)
      (dss_cons (ds_for (passes_of rfl) rfl (di_rng1 rfl F.n_range (da_cons de_int da_nil)) (dg_name nd rfl (Or.inl rfl)) (dss_cons (ds_par rfl nd rfl rfl (by decide) rfl rfl (da_cons (de_call k__law_drawn (hr.mono (by decide)) (fun z => nomatch z) rfl (takes_of rfl rfl rfl rfl) (da_cons (de_var 1) da_nil)) (da_cons (de_call k__law_drawn (hr.mono (by decide)) (fun z => nomatch z) rfl (takes_of rfl rfl rfl rfl) (da_cons (de_var 1) da_nil)) da_nil)) (by with_unfolding_all rfl))
      (dss_cons (ds_if (DW.dt (dw_or (dt_not (dt_val (de_call k__law_are_two_right (hr.mono (by decide)) gd rfl (takes_of rfl rfl rfl rfl) (da_cons (de_var 1) (da_cons (de_var 3) (da_cons (de_var 4) da_nil)))))) (dw_or1 (dt_not (dt_val (de_call k__law_is_one_right (hr.mono (by decide)) gd rfl (takes_of rfl rfl rfl rfl) (da_cons (de_var 1) (da_cons (de_var 3) da_nil)))))))) (dss_one (ds_ret de_bl)) dss_nil)
      (dss_one (ds_if (dt_not (dt_val (de_call k__law_are_wider_right (hr.mono (by decide)) (fun z => nomatch z) rfl (takes_of rfl rfl rfl rfl) (da_cons (de_var 3) (da_cons (de_var 4) da_nil))))) (dss_one (ds_ret de_bl)) dss_nil)))))
      (dss_cons (ds_set nd rfl (Or.inr rfl) (de_call k__law_drawn (hr.mono (by decide)) (fun z => nomatch z) rfl (takes_of rfl rfl rfl rfl) (da_cons (de_var 1) da_nil)))
      (dss_cons (ds_set nd rfl (Or.inl rfl) (de_lstS (da_cons de_non (da_cons (de_tup da_nil) (da_cons (de_tup (da_cons (de_tup (da_cons de_int (da_cons de_int da_nil))) da_nil)) (da_cons (de_tup (da_cons (de_tup (da_cons de_int (da_cons de_int da_nil))) (da_cons (de_tup (da_cons de_int (da_cons de_int da_nil))) da_nil))) (da_cons (de_tup (da_cons (de_tup (da_cons de_int (da_cons de_int da_nil))) (da_cons (de_tup (da_cons de_int (da_cons de_int da_nil))) da_nil))) (da_cons (de_lstS (da_cons (de_tup (da_cons de_int (da_cons de_int da_nil))) (da_cons (de_tup (da_cons de_int (da_cons de_int da_nil))) da_nil))) (da_cons de_str da_nil)))))))))
      (dss_cons (ds_set nd rfl (Or.inr rfl) (de_call k__law_some (hr.mono (by decide)) (fun z => nomatch z) rfl (takes_of rfl rfl rfl rfl) (da_cons (de_var 1) (da_cons (de_op op_addD lf_add (de_var 5) (de_lstS (da_cons (de_tup (da_cons (de_tup (da_cons de_int (da_cons de_int da_nil))) (da_cons (de_tup (da_cons de_int (da_cons de_bl da_nil))) da_nil))) da_nil))) da_nil))))
      (dss_cons (ds_set nd rfl (Or.inl rfl) (de_lstS (da_cons (de_word (k := 8) (hr.mono (by decide)) WF DWd rfl (makes0 TB rfl (List.mem_singleton.mpr rfl) (fun p hp _ => by rw [List.mem_singleton.mp hp]) rfl (lamD_by (N := ["script", "hand", "lap", "one", "other", "bads", "heard", "bad", "box", "odd"]) (sc := defScope s_law) (by decide +kernel)) (fun _ _ _ _ _ => rfl)) (lamD_by (N := ["script", "hand", "lap", "one", "other", "bads", "heard", "bad", "box", "odd"]) (sc := defScope s_law) (by decide +kernel)) (fun A outer s H E f c2 hr => (de_call k_box_add (hr.mono (by decide)) (fun z => nomatch z) rfl (takes_of rfl rfl rfl rfl) (da_cons (de_var 7) (da_cons de_non da_nil))))) (da_cons (de_word (k := 8) (hr.mono (by decide)) WF DWd rfl (makes1 TB rfl (List.mem_singleton.mpr rfl) (fun p hp _ => by rw [List.mem_singleton.mp hp]) rfl rfl (lamD_by (N := ["script", "hand", "lap", "one", "other", "bads", "heard", "bad", "box", "odd"]) (sc := defScope s_law) (by decide +kernel)) rfl (fun _ _ _ _ _ _ _ => ⟨_, rfl, rfl⟩)) (lamD_by (N := ["script", "hand", "lap", "one", "other", "bads", "heard", "bad", "box", "odd"]) (sc := defScope s_law) (by decide +kernel)) (fun A outer s H E f c2 hr => (de_call k_box_over (hr.mono (by decide)) (fun z => nomatch z) rfl (takes_of rfl rfl rfl rfl) (da_cons (de_var 8) (da_cons (de_var 7) da_nil))))) da_nil))))
      (dss_cons (ds_set nd rfl (Or.inl rfl) (de_op op_addD lf_add (de_var 6) (de_lstS (da_cons (de_word (k := 8) (hr.mono (by decide)) WF DWd rfl (makes0 TB rfl (List.mem_singleton.mpr rfl) (fun p hp _ => by rw [List.mem_singleton.mp hp]) rfl (lamD_by (N := ["script", "hand", "lap", "one", "other", "bads", "heard", "bad", "box", "odd"]) (sc := defScope s_law) (by decide +kernel)) (fun _ _ _ _ _ => rfl)) (lamD_by (N := ["script", "hand", "lap", "one", "other", "bads", "heard", "bad", "box", "odd"]) (sc := defScope s_law) (by decide +kernel)) (fun A outer s H E f c2 hr => (de_call k_box_join (hr.mono (by decide)) (fun z => nomatch z) rfl (takes_of rfl rfl rfl rfl) (da_cons (de_var 8) (da_cons (de_var 7) da_nil))))) (da_cons (de_word (k := 8) (hr.mono (by decide)) WF DWd rfl (makes1 TB rfl (List.mem_singleton.mpr rfl) (fun p hp _ => by rw [List.mem_singleton.mp hp]) rfl rfl (lamD_by (N := ["script", "hand", "lap", "one", "other", "bads", "heard", "bad", "box", "odd"]) (sc := defScope s_law) (by decide +kernel)) rfl (fun _ _ _ _ _ _ _ => ⟨_, rfl, rfl⟩)) (lamD_by (N := ["script", "hand", "lap", "one", "other", "bads", "heard", "bad", "box", "odd"]) (sc := defScope s_law) (by decide +kernel)) (fun A outer s H E f c2 hr => (de_call k_box_root (hr.mono (by decide)) (fun z => nomatch z) rfl (takes_of rfl rfl rfl rfl) (da_cons (de_var 7) (da_cons de_int (da_cons de_int da_nil)))))) da_nil)))))
      (dss_cons (ds_if (DW.dt (dw_or (dt_cmp (op_neA hr.units) lf_ne (de_var 6) (de_op op_mulD lf_mul (de_lstS (da_cons de_str da_nil)) de_int) (nomark _)) (dw_or1 (dt_cmp op_notBl lf_notB (de_call k_is_box (hr.mono (by decide)) (fun z => nomatch z) rfl (takes_of rfl rfl rfl rfl) (da_cons (de_var 7) da_nil)) de_bl (nomark _))))) (dss_one (ds_ret de_bl)) dss_nil)
      (dss_cons (ds_set nd rfl (Or.inr rfl) (de_call k__law_some (hr.mono (by decide)) (fun z => nomatch z) rfl (takes_of rfl rfl rfl rfl) (da_cons (de_var 1) (da_cons (de_lstS (da_cons de_non (da_cons (de_neg de_int) (da_cons de_int (da_cons de_str (da_cons (de_tup (da_cons de_int da_nil)) (da_cons de_bl (da_cons de_dct0 da_nil)))))))) da_nil))))
      (dss_cons (ds_set nd rfl (Or.inl rfl) (de_lstS (da_cons (de_word (k := 8) (hr.mono (by decide)) WF DWd rfl (makes0 TB rfl (List.mem_singleton.mpr rfl) (fun p hp _ => by rw [List.mem_singleton.mp hp]) rfl (lamD_by (N := ["script", "hand", "lap", "one", "other", "bads", "heard", "bad", "box", "odd"]) (sc := defScope s_law) (by decide +kernel)) (fun _ _ _ _ _ => rfl)) (lamD_by (N := ["script", "hand", "lap", "one", "other", "bads", "heard", "bad", "box", "odd"]) (sc := defScope s_law) (by decide +kernel)) (fun A outer s H E f c2 hr => (de_call k_box_root (hr.mono (by decide)) (fun z => nomatch z) rfl (takes_of rfl rfl rfl rfl) (da_cons (de_var 8) (da_cons de_int (da_cons de_int da_nil)))))) (da_cons (de_word (k := 8) (hr.mono (by decide)) WF DWd rfl (makes1 TB rfl (List.mem_singleton.mpr rfl) (fun p hp _ => by rw [List.mem_singleton.mp hp]) rfl rfl (lamD_by (N := ["script", "hand", "lap", "one", "other", "bads", "heard", "bad", "box", "odd"]) (sc := defScope s_law) (by decide +kernel)) rfl (fun _ _ _ _ _ _ _ => ⟨_, rfl, rfl⟩)) (lamD_by (N := ["script", "hand", "lap", "one", "other", "bads", "heard", "bad", "box", "odd"]) (sc := defScope s_law) (by decide +kernel)) (fun A outer s H E f c2 hr => (de_call k_box_root (hr.mono (by decide)) (fun z => nomatch z) rfl (takes_of rfl rfl rfl rfl) (da_cons (de_var 8) (da_cons de_int (da_cons (de_var 9) da_nil)))))) da_nil))))
      (dss_one (ds_ret (de_cmp (op_eqA hr.units) lf_eq (de_op op_addD lf_add (de_var 6) (de_lstS (da_cons (de_word (k := 8) (hr.mono (by decide)) WF DWd rfl (makes0 TB rfl (List.mem_singleton.mpr rfl) (fun p hp _ => by rw [List.mem_singleton.mp hp]) rfl (lamD_by (N := ["script", "hand", "lap", "one", "other", "bads", "heard", "bad", "box", "odd"]) (sc := defScope s_law) (by decide +kernel)) (fun _ _ _ _ _ => rfl)) (lamD_by (N := ["script", "hand", "lap", "one", "other", "bads", "heard", "bad", "box", "odd"]) (sc := defScope s_law) (by decide +kernel)) (fun A outer s H E f c2 hr => (de_call k_box_root (hr.mono (by decide)) (fun z => nomatch z) rfl (takes_of rfl rfl rfl rfl) (da_cons (de_var 8) (da_cons (de_var 9) (da_cons de_int da_nil)))))) da_nil))) (de_op op_mulD lf_mul (de_lstS (da_cons de_str da_nil)) de_int) (nomark _)))))))))))))))), rd_law⟩)
end
/-! ### what the top has written -/
section
variable {K : PySem.W.Frag} {h : Heap} {mg : Str → Option Value}
theorem defin_mk {x : Str} {st : Stmt} {ps : List Str} {f : Addr} {oc kV doc pm cdv ct : Value} {od an : Option Addr} {osl : Array (Option Value)} (X : K.In h) (G : h.Ns mainGlobals mg) (b : ∀ (kV doc pm : Value) (an : Option Addr) (cdv ct : Value) (us : List Value), us.length = ps.length → bindArgs (PySem.W.fnOf x x (defArgs st) (defBody st) (defScope st) .none kV doc pm an cdv ct) ⟨us, []⟩ = pure (ps.zip us))
    (a : PySem.W.nsIn K mainGlobals x = some (some (.ref f))) (l : K.lookup f = some ⟨oc, od, .func (PySem.W.fnOf x x (defArgs st) (defBody st) (defScope st) .none kV doc pm an cdv ct), osl⟩) (c : PySem.W.codeIn K cdv x = true) (k : PySem.W.keepIn K (.ref f) = true) : DefIn K mg x st ps :=
  ⟨f, _, fun_mk l c k, PySem.W.mg_of X G a, (fun_mk l c k).binds b⟩
theorem hasI_mk {x : Str} {i : Int} {t : Tok} (X : K.In h) (G : h.Ns mainGlobals mg) (a : PySem.W.nsIn K mainGlobals x = some (some (.int i t))) : HasI mg x i := ⟨t, PySem.W.mg_of X G a⟩
theorem hasT_mk {x : Str} {i j : Int} {t u : Tok} {A : Addr} {n : Nat} {sl : Array (Option Value)} (X : K.In h) (G : h.Ns mainGlobals mg) (a : PySem.W.nsIn K mainGlobals x = some (some (.ref A))) (l : K.lookup A = some ⟨.type "tuple", none, .seq #[.int i t, .int j u] n, sl⟩) : HasT K mg x [i, j] :=
  ⟨A, _, _, n, PySem.W.mg_of X G a, l, rfl, rfl, rfl, (by show 2 ≤ sizeLine; decide), .cons ⟨t, rfl⟩ (.cons ⟨u, rfl⟩ .nil)⟩
end
section
variable {P : Program} {w : World} {K : PySem.W.Frag} {mg : Str → Option Value} {base : Heap} {cl : Cls}
structure Defs (K : PySem.W.Frag) (mg : Str → Option Value) : Prop where
  is_int : DefIn K mg "is_int" s_is_int ["thing"]
  is_within : DefIn K mg "is_within" s_is_within ["thing", "least", "greatest"]
  is_sized : DefIn K mg "is_sized" s_is_sized ["thing", "least", "greatest"]
  divisor : DefIn K mg "divisor" s_divisor ["one", "other"]
  fraction : DefIn K mg "fraction" s_fraction ["top", "bottom"]
  is_fraction : DefIn K mg "is_fraction" s_is_fraction ["thing"]
  check_within : DefIn K mg "check_within" s_check_within ["thing", "least", "greatest"]
  plus : DefIn K mg "plus" s_plus ["one", "other"]
  times : DefIn K mg "times" s_times ["one", "other"]
  over : DefIn K mg "over" s_over ["one", "other"]
  turned : DefIn K mg "turned" s_turned ["one"]
  sized : DefIn K mg "sized" s_sized ["one"]
  is_less : DefIn K mg "is_less" s_is_less ["one", "other"]
  lesser : DefIn K mg "lesser" s_lesser ["one", "other"]
  greater : DefIn K mg "greater" s_greater ["one", "other"]
  power : DefIn K mg "power" s_power ["number", "many"]
  raised : DefIn K mg "raised" s_raised ["one", "many"]
  two_to : DefIn K mg "two_to" s_two_to ["many"]
  root_down : DefIn K mg "root_down" s_root_down ["number", "k"]
  is_box : DefIn K mg "is_box" s_is_box ["thing"]
  check_box : DefIn K mg "check_box" s_check_box ["box"]
  check_two : DefIn K mg "check_two" s_check_two ["one", "other"]
  raw_add : DefIn K mg "raw_add" s_raw_add ["one", "other"]
  raw_turn : DefIn K mg "raw_turn" s_raw_turn ["box"]
  ends_of : DefIn K mg "ends_of" s_ends_of ["rows"]
  raw_times : DefIn K mg "raw_times" s_raw_times ["one", "other"]
  has_nought : DefIn K mg "has_nought" s_has_nought ["box"]
  raw_over : DefIn K mg "raw_over" s_raw_over ["one", "other"]
  raw_more : DefIn K mg "raw_more" s_raw_more ["one", "other"]
  raw_less : DefIn K mg "raw_less" s_raw_less ["one", "other"]
  raw_join : DefIn K mg "raw_join" s_raw_join ["one", "other"]
  raw_size : DefIn K mg "raw_size" s_raw_size ["box"]
  raw_power : DefIn K mg "raw_power" s_raw_power ["box", "k"]
  root_above : DefIn K mg "root_above" s_root_above ["one", "k", "depth"]
  raw_root : DefIn K mg "raw_root" s_raw_root ["box", "k", "depth"]
  box_add : DefIn K mg "box_add" s_box_add ["one", "other"]
  box_take : DefIn K mg "box_take" s_box_take ["one", "other"]
  box_times : DefIn K mg "box_times" s_box_times ["one", "other"]
  box_over : DefIn K mg "box_over" s_box_over ["one", "other"]
  box_more : DefIn K mg "box_more" s_box_more ["one", "other"]
  box_less : DefIn K mg "box_less" s_box_less ["one", "other"]
  box_join : DefIn K mg "box_join" s_box_join ["one", "other"]
  box_turn : DefIn K mg "box_turn" s_box_turn ["box"]
  box_size : DefIn K mg "box_size" s_box_size ["box"]
  box_root : DefIn K mg "box_root" s_box_root ["box", "k", "depth"]
  box_power : DefIn K mg "box_power" s_box_power ["box", "k"]
  _law_hand : DefIn K mg "_law_hand" s__law_hand ["script"]
  _law_draw : DefIn K mg "_law_draw" s__law_draw ["hand", "size"]
  _law_some : DefIn K mg "_law_some" s__law_some ["hand", "things"]
  _law_frac : DefIn K mg "_law_frac" s__law_frac ["top", "bottom"]
  _law_plus : DefIn K mg "_law_plus" s__law_plus ["one", "other"]
  _law_less : DefIn K mg "_law_less" s__law_less ["one", "other"]
  _law_times : DefIn K mg "_law_times" s__law_times ["one", "other"]
  _law_by : DefIn K mg "_law_by" s__law_by ["one", "other"]
  _law_is_under : DefIn K mg "_law_is_under" s__law_is_under ["one", "other"]
  _law_least : DefIn K mg "_law_least" s__law_least ["some"]
  _law_most : DefIn K mg "_law_most" s__law_most ["some"]
  _law_two : DefIn K mg "_law_two" s__law_two ["many"]
  _law_power : DefIn K mg "_law_power" s__law_power ["one", "many"]
  _law_number : DefIn K mg "_law_number" s__law_number ["hand", "great"]
  _law_box_times : DefIn K mg "_law_box_times" s__law_box_times ["one", "other"]
  _law_box_over : DefIn K mg "_law_box_over" s__law_box_over ["one", "other"]
  _law_box_plus : DefIn K mg "_law_box_plus" s__law_box_plus ["one", "other"]
  _law_box_turn : DefIn K mg "_law_box_turn" s__law_box_turn ["box"]
  _law_box_size : DefIn K mg "_law_box_size" s__law_box_size ["box"]
  _law_box_power : DefIn K mg "_law_box_power" s__law_box_power ["box", "k"]
  _law_root_of : DefIn K mg "_law_root_of" s__law_root_of ["number", "k"]
  _law_box_root : DefIn K mg "_law_box_root" s__law_box_root ["box", "k", "depth"]
  _law_drawn : DefIn K mg "_law_drawn" s__law_drawn ["hand"]
  _law_within : DefIn K mg "_law_within" s__law_within ["hand", "box"]
  _law_lies : DefIn K mg "_law_lies" s__law_lies ["one", "box"]
  _law_are_two_right : DefIn K mg "_law_are_two_right" s__law_are_two_right ["hand", "one", "other"]
  _law_is_one_right : DefIn K mg "_law_is_one_right" s__law_is_one_right ["hand", "box"]
  _law_are_wider_right : DefIn K mg "_law_are_wider_right" s__law_are_wider_right ["one", "other"]
theorem fn_all {A fa c Pt : Addr} {oc kV doc pm ct : Value} {od an : Option Addr} {osl : Array (Option Value)} (lk : K.lookup fa = some ⟨oc, od, .func (PySem.W.fnOf "law" "law" (defArgs s_law) (defBody s_law) (defScope s_law) .none kV doc pm an (.ref c) ct), osl⟩) (hcd : PySem.W.codeIn K (.ref c) "law" = true)
    (TB : LamX.TabB base mg c Pt) (F : Facts K mg cl) (WF : WordF K mg cl A) (DWd : DefIn K mg "_law_word" s__law_word ["call"]) (DD : Defs K mg) :
    FnG P w K mg base true 14 fa (PySem.W.fnOf "law" "law" (defArgs s_law) (defBody s_law) (defScope s_law) .none kV doc pm an (.ref c) ct) ["script"] (sp_law Pt) := by
  have k_is_int := kn_is_int (P := P) (w := w) (base := base) DD.is_int F 
  have k_is_within := kn_is_within (P := P) (w := w) (base := base) DD.is_within k_is_int
  have k_is_sized := kn_is_sized (P := P) (w := w) (base := base) DD.is_sized F 
  have k_divisor := kn_divisor (P := P) (w := w) (base := base) DD.divisor F 
  have k_fraction := kn_fraction (P := P) (w := w) (base := base) DD.fraction k_divisor
  have k_is_fraction := kn_is_fraction (P := P) (w := w) (base := base) DD.is_fraction F k_is_sized k_is_int k_divisor
  have k_check_within := kn_check_within (P := P) (w := w) (base := base) DD.check_within F k_is_within
  have k_plus := kn_plus (P := P) (w := w) (base := base) DD.plus k_fraction
  have k_times := kn_times (P := P) (w := w) (base := base) DD.times k_fraction
  have k_over := kn_over (P := P) (w := w) (base := base) DD.over k_fraction
  have k_turned := kn_turned (P := P) (w := w) (base := base) DD.turned 
  have k_sized := kn_sized (P := P) (w := w) (base := base) DD.sized F 
  have k_is_less := kn_is_less (P := P) (w := w) (base := base) DD.is_less 
  have k_lesser := kn_lesser (P := P) (w := w) (base := base) DD.lesser k_is_less
  have k_greater := kn_greater (P := P) (w := w) (base := base) DD.greater k_is_less
  have k_power := kn_power (P := P) (w := w) (base := base) DD.power 
  have k_raised := kn_raised (P := P) (w := w) (base := base) DD.raised k_power
  have k_two_to := kn_two_to (P := P) (w := w) (base := base) DD.two_to 
  have k_root_down := kn_root_down (P := P) (w := w) (base := base) DD.root_down k_power
  have k_is_box := kn_is_box (P := P) (w := w) (base := base) DD.is_box k_is_sized k_is_fraction k_is_less
  have k_check_box := kn_check_box (P := P) (w := w) (base := base) DD.check_box F k_is_box
  have k_check_two := kn_check_two (P := P) (w := w) (base := base) DD.check_two k_check_box
  have k_raw_add := kn_raw_add (P := P) (w := w) (base := base) DD.raw_add k_plus
  have k_raw_turn := kn_raw_turn (P := P) (w := w) (base := base) DD.raw_turn k_turned
  have k_ends_of := kn_ends_of (P := P) (w := w) (base := base) DD.ends_of k_greater k_lesser
  have k_raw_times := kn_raw_times (P := P) (w := w) (base := base) DD.raw_times k_ends_of k_times
  have k_has_nought := kn_has_nought (P := P) (w := w) (base := base) DD.has_nought 
  have k_raw_over := kn_raw_over (P := P) (w := w) (base := base) DD.raw_over k_has_nought k_ends_of k_over
  have k_raw_more := kn_raw_more (P := P) (w := w) (base := base) DD.raw_more k_greater
  have k_raw_less := kn_raw_less (P := P) (w := w) (base := base) DD.raw_less k_lesser
  have k_raw_join := kn_raw_join (P := P) (w := w) (base := base) DD.raw_join k_greater k_lesser
  have k_raw_size := kn_raw_size (P := P) (w := w) (base := base) DD.raw_size F k_has_nought k_greater k_sized k_ends_of
  have k_raw_power := kn_raw_power (P := P) (w := w) (base := base) DD.raw_power F k_ends_of k_raised k_has_nought
  have k_root_above := kn_root_above (P := P) (w := w) (base := base) DD.root_above k_two_to k_root_down k_power k_is_less k_fraction
  have k_raw_root := kn_raw_root (P := P) (w := w) (base := base) DD.raw_root F k_two_to k_greater k_root_above k_fraction k_root_down k_power
  have k_box_add := kn_box_add (P := P) (w := w) (base := base) DD.box_add k_check_two k_raw_add
  have k_box_take := kn_box_take (P := P) (w := w) (base := base) DD.box_take k_check_two k_raw_add k_raw_turn
  have k_box_times := kn_box_times (P := P) (w := w) (base := base) DD.box_times k_check_two k_raw_times
  have k_box_over := kn_box_over (P := P) (w := w) (base := base) DD.box_over k_check_two k_raw_over
  have k_box_more := kn_box_more (P := P) (w := w) (base := base) DD.box_more k_check_two k_raw_more
  have k_box_less := kn_box_less (P := P) (w := w) (base := base) DD.box_less k_check_two k_raw_less
  have k_box_join := kn_box_join (P := P) (w := w) (base := base) DD.box_join k_check_two k_raw_join
  have k_box_turn := kn_box_turn (P := P) (w := w) (base := base) DD.box_turn k_check_box k_raw_turn
  have k_box_size := kn_box_size (P := P) (w := w) (base := base) DD.box_size k_check_box k_raw_size
  have k_box_root := kn_box_root (P := P) (w := w) (base := base) DD.box_root F k_check_box k_check_within k_raw_root
  have k_box_power := kn_box_power (P := P) (w := w) (base := base) DD.box_power F k_check_box k_check_within k_raw_power
  have k__law_hand := kn__law_hand (P := P) (w := w) (base := base) DD._law_hand F 
  have k__law_draw := kn__law_draw (P := P) (w := w) (base := base) DD._law_draw F 
  have k__law_some := kn__law_some (P := P) (w := w) (base := base) DD._law_some F k__law_draw
  have k__law_frac := kn__law_frac (P := P) (w := w) (base := base) DD._law_frac F 
  have k__law_plus := kn__law_plus (P := P) (w := w) (base := base) DD._law_plus k__law_frac
  have k__law_less := kn__law_less (P := P) (w := w) (base := base) DD._law_less k__law_frac
  have k__law_times := kn__law_times (P := P) (w := w) (base := base) DD._law_times k__law_frac
  have k__law_by := kn__law_by (P := P) (w := w) (base := base) DD._law_by k__law_frac
  have k__law_is_under := kn__law_is_under (P := P) (w := w) (base := base) DD._law_is_under 
  have k__law_least := kn__law_least (P := P) (w := w) (base := base) DD._law_least k__law_is_under
  have k__law_most := kn__law_most (P := P) (w := w) (base := base) DD._law_most k__law_is_under
  have k__law_two := kn__law_two (P := P) (w := w) (base := base) DD._law_two F 
  have k__law_power := kn__law_power (P := P) (w := w) (base := base) DD._law_power F k__law_times
  have k__law_number := kn__law_number (P := P) (w := w) (base := base) DD._law_number k__law_frac k__law_draw
  have k__law_box_times := kn__law_box_times (P := P) (w := w) (base := base) DD._law_box_times k__law_times k__law_most k__law_least
  have k__law_box_over := kn__law_box_over (P := P) (w := w) (base := base) DD._law_box_over k__law_is_under k__law_box_times k__law_by
  have k__law_box_plus := kn__law_box_plus (P := P) (w := w) (base := base) DD._law_box_plus k__law_plus
  have k__law_box_turn := kn__law_box_turn (P := P) (w := w) (base := base) DD._law_box_turn 
  have k__law_box_size := kn__law_box_size (P := P) (w := w) (base := base) DD._law_box_size k__law_is_under k__law_box_turn k__law_most
  have k__law_box_power := kn__law_box_power (P := P) (w := w) (base := base) DD._law_box_power F k__law_box_size k__law_power
  have k__law_root_of := kn__law_root_of (P := P) (w := w) (base := base) DD._law_root_of k__law_power
  have k__law_box_root := kn__law_box_root (P := P) (w := w) (base := base) DD._law_box_root F k__law_power k__law_two k__law_root_of k__law_frac
  have k__law_drawn := kn__law_drawn (P := P) (w := w) (base := base) DD._law_drawn k__law_number k__law_some k__law_is_under
  have k__law_within := kn__law_within (P := P) (w := w) (base := base) DD._law_within k__law_draw k__law_plus k__law_times
  have k__law_lies := kn__law_lies (P := P) (w := w) (base := base) DD._law_lies k__law_is_under
  have k__law_are_two_right := kn__law_are_two_right (P := P) (w := w) (base := base) DD._law_are_two_right F k__law_within k__law_box_times k__law_box_plus k__law_box_turn k__law_most k__law_least k_box_more k_box_times k_box_take k_box_add k_box_join k_box_less k__law_times k__law_less k__law_plus k__law_lies k_is_box k__law_box_over k_box_over k__law_by
  have k__law_is_one_right := kn__law_is_one_right (P := P) (w := w) (base := base) DD._law_is_one_right F k__law_draw k__law_within k_box_turn k__law_box_turn k_box_size k__law_box_size k__law_lies k_box_power k__law_box_power k__law_power k__law_box_root k_box_root k__law_is_under
  have k__law_are_wider_right := kn__law_are_wider_right (P := P) (w := w) (base := base) DD._law_are_wider_right k__law_plus k__law_less k_box_size k_box_times k__law_is_under
  exact fn_law lk hcd TB F WF DWd k__law_hand k_box_root k_box_over k__law_drawn k__law_are_two_right k__law_is_one_right k__law_are_wider_right k__law_some k_box_add k_box_join k_is_box
end
/-- the law's own table, as the top left it -/
def OwnT (K : PySem.W.Frag) (fa : Addr) (h : Heap) : Prop := ∀ (c T : Addr) (ob : Obj) (fd : FuncData) (e : Value) (dd : Option Addr) (vs : Array Value) (sl : Array (Option Value)), K.lookup fa = some ob → ob.data = .func fd → fd.code = .ref c → K.lookup c = some ⟨e, dd, .fields vs, sl⟩ → vs[11]? = some (.ref T) →
  h.get? T = some { cls := .none, data := .fields #[] } ∧ PySem.W.CodeHd h c T
theorem walk_K {l : PySem.W.OpenLaw} {n : Nat} {p : Program} {loose : List Str} {XP : (Str → Option Value) → Heap → Prop} {YP : World → Heap → Prop} {d : DefRec} {K : Params → PySem.W.Frag}
    (hn : l.most = some n) (hn2 : n ≤ 100000) (hn3 : n ≤ sizeLine) (hdf : d.params.defaults = []) (hrec : ((recsOf p).any fun e => e.name == d.name) = true) (hY : ∀ (w : World) (h : Heap), YP w h → (K w.params).In h)
    (F : ∀ (w : World) (mg : Str → Option Value) (fa : Addr) (h : Heap), YP w h → (K w.params).In h → h.Ns mainGlobals mg → mg d.name = some (.ref fa) → OwnT (K w.params) fa h →
      ∃ (fd : FuncData) (cs : List (Addr × Addr)), (∀ p ∈ cs, h.get? p.2 = some { cls := .none, data := .fields #[] } ∧ (K w.params).lookup p.2 = none ∧ PySem.W.CodeHd h p.1 p.2) ∧ (∀ (s : Shared) (u : Value), BindsTo s fd ⟨[u], []⟩ [("script", u)]) ∧
        ∀ base : Heap, (K w.params).In base → base.Ns mainGlobals mg → (∀ p ∈ cs, LamX.TabB base mg p.1 p.2) → FnLaw l.prog w (K w.params) mg base 14 fa fd "script" n (cs.map (·.2)) lamQ) :
    PySem.W.WalkO p loose XP YP l.row.toRowW d [] (fun f vs => PySem.call f vs) :=
  Att.attach_callB hn hdf fun w s0 s1 mg mb fa o pm cd doc a vs ns G Y _ _ _ hmg hobj hints hlen hbits hg => by
    have KX := hY w _ Y
    have own : OwnT (K w.params) fa s1.heap := fun c T ob fd e dd vs2 sl k1 k2 k3 k4 k5 => by
      obtain ⟨dL, hm, hn1⟩ := List.any_eq_true.mp hrec
      obtain ⟨a2, o2, fd2, c2, T2, h1, h2, h3, h4, h5, h6⟩ := G.T.tab dL hm
      have hd := PySem.W.CodeHd.of h5 h6
      rw [beq_iff_eq.mp hn1, hmg] at h1
      cases h1
      rw [KX _ _ k1] at h2
      cases h2
      rw [k2] at h3
      cases h3
      rw [k3] at h4
      cases h4
      obtain ⟨⟨oc, vc, e1, _, e3, e4⟩, hP⟩ := h6
      rw [KX _ _ k4] at e1
      cases e1
      cases e3
      rw [k5] at e4
      cases e4
      exact ⟨hP, hd⟩
    obtain ⟨fd, cs, hT, hb, hF⟩ := F w mg fa _ Y KX G.T.g hmg own
    exact law_end KX G.T.g G.T.b G.T.builtins G.T.nolimit hg hT G.T.bmain hobj hints (Nat.le_trans hlen hn3) hlen hbits ⟨rfl, by decide, by decide⟩ hF hb
theorem all_mk {l : PySem.W.OpenLaw} {w : World} {K : PySem.W.Frag} {h : Heap} {mg : Str → Option Value} {fa f c T A : Addr} {n : Nat} {cl : Cls} {oc kV doc pm ct e : Value} {od an dd : Option Addr} {osl sl : Array (Option Value)} {vs : Array Value} (hn2 : n ≤ 100000) (X : K.In h) (G : h.Ns mainGlobals mg) (hfa : mg "law" = some (.ref fa)) (own : OwnT K fa h)
    (DD : Defs K mg) (F : Facts K mg cl) (WF : WordF K mg cl A) (DWd : DefIn K mg "_law_word" s__law_word ["call"])
    (a : PySem.W.nsIn K mainGlobals "law" = some (some (.ref f))) (lk : K.lookup f = some ⟨oc, od, .func (PySem.W.fnOf "law" "law" (defArgs s_law) (defBody s_law) (defScope s_law) .none kV doc pm an (.ref c) ct), osl⟩) (hcd : PySem.W.codeIn K (.ref c) "law" = true)
    (lc : K.lookup c = some ⟨e, dd, .fields vs, sl⟩) (v11 : vs[11]? = some (.ref T)) (nT : K.lookup T = none) :
    ∃ (fd : FuncData) (cs : List (Addr × Addr)), (∀ p ∈ cs, h.get? p.2 = some { cls := .none, data := .fields #[] } ∧ K.lookup p.2 = none ∧ PySem.W.CodeHd h p.1 p.2) ∧ (∀ (s : Shared) (u : Value), BindsTo s fd ⟨[u], []⟩ [("script", u)]) ∧
        ∀ base : Heap, K.In base → base.Ns mainGlobals mg → (∀ p ∈ cs, LamX.TabB base mg p.1 p.2) → FnLaw l.prog w K mg base 14 fa fd "script" n (cs.map (·.2)) lamQ := by
  have e2 := hfa.symm.trans (PySem.W.mg_of X G a)
  cases e2
  refine ⟨_, [(c, T)], fun p hp => ?_, fun s u => .of_eq (by rfl), fun base _ _ tb => ⟨sp_law T, fn_all lk hcd (tb _ (List.mem_singleton.mpr rfl)) F WF DWd DD, fun ns hl _ => ⟨ns, rfl, Nat.le_trans hl hn2, rfl, fun _ => rfl⟩⟩⟩
  rw [List.mem_singleton.mp hp]
  obtain ⟨z1, z2⟩ := own c T _ _ _ _ _ _ lk rfl rfl lc v11
  exact ⟨z1, nT, z2⟩

end K07

set_option Elab.async false
set_option linter.all false
set_option maxRecDepth 100000
set_option maxHeartbeats 1000000
namespace K07
open PySem PySem.Spec PyProof.Rows L2 DL
section
variable {K : PySem.W.Frag} {h : Heap} {mg : Str → Option Value}
theorem kit_same {C : Addr} : PySem.W.kitOne K (.ref C) (.ref C) = some true := by
  unfold PySem.W.kitOne
  rw [if_pos (beq_self_eq_true _)]
theorem kit_other {C E : Addr} {b : Bool} (ne : C ≠ E) (hd : PySem.W.hasDictIn K E = true) (ht : PySem.W.typeIn K (.ref E) = some (.type "type")) (hs : PySem.W.subIn K (.ref C) (.ref E) = some b) : PySem.W.kitOne K (.ref C) (.ref E) = some b := by
  obtain ⟨cd, hc, _⟩ := PySem.W.any_some hd
  have n1 : ¬ ((Value.ref C == Value.ref E) = true) := fun z => ne (Value.ref.inj (beq_iff_eq.mp z))
  have n2 : ((PySem.W.clsIn K E).isSome && PySem.W.typeIn K (.ref E) == some (.type "type")) = true := by rw [hc, ht] <;> rfl
  unfold PySem.W.kitOne
  rw [if_neg n1]
  show (if ((PySem.W.clsIn K E).isSome && PySem.W.typeIn K (.ref E) == some (.type "type")) = true then PySem.W.subIn K (.ref C) (.ref E) else none) = some b
  rw [if_pos n2]
  exact hs
theorem kit_builtin {C : Addr} {T : String} {b : Bool} (m : PySem.W.kitMeta T = true) (hs : PySem.W.subIn K (.ref C) (.type T) = some b) : PySem.W.kitOne K (.ref C) (.type T) = some b := by
  have n1 : ¬ ((Value.ref C == Value.type T) = true) := fun z => by cases beq_iff_eq.mp z
  unfold PySem.W.kitOne
  rw [if_neg n1]
  show (if PySem.W.kitMeta T = true then PySem.W.subIn K (.ref C) (.type T) else none) = some b
  rw [if_pos m]
  exact hs
theorem words_mk {A B N : Addr} (X : K.In h) (G : h.Ns mainGlobals mg) (aA : PySem.W.nsIn K mainGlobals "AskError" = some (some (.ref A))) (gB : mg "NoBox" = some (.ref B)) (gN : mg "NoNumber" = some (.ref N)) (nI : mg "isinstance" = none) (nV : PySem.W.nsIn K mainGlobals "ValueError" = some none) (eB : ExcC K B) (eN : ExcC K N)
    (sA : PySem.W.subIn K (.ref A) (.type "BaseException") = some true) (dA : PySem.W.hasDictIn K A = true) (tA : PySem.W.typeIn K (.ref A) = some (.type "type")) (tB : PySem.W.typeIn K (.ref B) = some (.type "type")) (tN : PySem.W.typeIn K (.ref N) = some (.type "type"))
    (sBA : PySem.W.subIn K (.ref B) (.ref A) = some true) (sNA : PySem.W.subIn K (.ref N) (.ref A) = some true) (sBN : PySem.W.subIn K (.ref B) (.ref N) = some false) (sNB : PySem.W.subIn K (.ref N) (.ref B) = some false)
    (sBV : PySem.W.subIn K (.ref B) (.type "ValueError") = some true) (sNV : PySem.W.subIn K (.ref N) (.type "ValueError") = some true) (ne : B ≠ N) : WordF K mg ⟨B, N⟩ A where
  gA := PySem.W.mg_of X G aA
  gB := gB
  gN := gN
  nI := nI
  nV := PySem.W.mg_none_of X G nV
  eB := eB
  eN := eN
  xB := PySem.W.exm_ref sA dA tA sBA
  xN := PySem.W.exm_ref sA dA tA sNA
  bb := kit_same
  bn := kit_other ne eN.hd tN sBN
  bv := kit_builtin (by decide +kernel) sBV
  nb := kit_other (Ne.symm ne) eB.hd tB sNB
  nn := kit_same
  nv := kit_builtin (by decide +kernel) sNV
end
theorem fin_mk {l : PySem.W.OpenLaw} {w : World} {K : PySem.W.Frag} {h : Heap} {mg : Str → Option Value} {fa f c T A B N AZERO AONE : Addr} {n nZERO nONE : Nat} {tMOST_DEPTH tLEAST_ROOT tMOST_ROOT tMOST_POWER uZERO vZERO uONE vONE : Tok} {oc kV doc pm ct e : Value} {od an dd : Option Addr} {osl sl sZERO sONE : Array (Option Value)} {vs : Array Value} (hn2 : n ≤ 100000) (X : K.In h) (G : h.Ns mainGlobals mg) (hfa : mg "law" = some (.ref fa)) (own : OwnT K fa h) (DD : Defs K mg) (DWd : DefIn K mg "_law_word" s__law_word ["call"])
    (aA : PySem.W.nsIn K mainGlobals "AskError" = some (some (.ref A)))
    (aB : PySem.W.nsIn K mainGlobals "NoBox" = some (some (.ref B)))
    (xB : PySem.W.excIn K B [.type "ValueError", .type "Exception", .type "BaseException", .type "object"] "ValueError.__new__" = true)
    (kB : PySem.W.keepIn K (.ref B) = true)
    (tB : PySem.W.typeIn K (.ref B) = some (.type "type"))
    (hgB : PySem.W.findIn K (.ref B) "__getattribute__" = some (some (.builtin "BaseException.__getattribute__")))
    (hkB : PySem.W.findIn K (.ref B) "__getattr__" = some none)
    (hsB : PySem.W.subIn K (.ref B) (.type "BaseException") = some true)
    (hdB : PySem.W.hasDictIn K B = true)
    (haB : PySem.W.findIn K (.ref B) "__class__" = some (some (.builtin "object.__class__")))
    (hnB : PySem.W.specialIn K (.builtin "object.__class__") "__get__" = some (some (.builtin "getset_descriptor.__get__")))
    (htB : PySem.W.takesIn K (.builtin "object.__class__") = some true)
    (hmB : PySem.W.mroIn K B (.type "object") = some true)
    (aN : PySem.W.nsIn K mainGlobals "NoNumber" = some (some (.ref N)))
    (xN : PySem.W.excIn K N [.type "ValueError", .type "Exception", .type "BaseException", .type "object"] "ValueError.__new__" = true)
    (kN : PySem.W.keepIn K (.ref N) = true)
    (tN : PySem.W.typeIn K (.ref N) = some (.type "type"))
    (hgN : PySem.W.findIn K (.ref N) "__getattribute__" = some (some (.builtin "BaseException.__getattribute__")))
    (hkN : PySem.W.findIn K (.ref N) "__getattr__" = some none)
    (hsN : PySem.W.subIn K (.ref N) (.type "BaseException") = some true)
    (hdN : PySem.W.hasDictIn K N = true)
    (haN : PySem.W.findIn K (.ref N) "__class__" = some (some (.builtin "object.__class__")))
    (hnN : PySem.W.specialIn K (.builtin "object.__class__") "__get__" = some (some (.builtin "getset_descriptor.__get__")))
    (htN : PySem.W.takesIn K (.builtin "object.__class__") = some true)
    (hmN : PySem.W.mroIn K N (.type "object") = some true)
    (sA : PySem.W.subIn K (.ref A) (.type "BaseException") = some true)
    (dA : PySem.W.hasDictIn K A = true)
    (tA : PySem.W.typeIn K (.ref A) = some (.type "type"))
    (sBA : PySem.W.subIn K (.ref B) (.ref A) = some true)
    (sNA : PySem.W.subIn K (.ref N) (.ref A) = some true)
    (sBN : PySem.W.subIn K (.ref B) (.ref N) = some false)
    (sNB : PySem.W.subIn K (.ref N) (.ref B) = some false)
    (sBV : PySem.W.subIn K (.ref B) (.type "ValueError") = some true)
    (sNV : PySem.W.subIn K (.ref N) (.type "ValueError") = some true)
    (ne : B ≠ N)
    (iMOST_DEPTH : PySem.W.nsIn K mainGlobals "MOST_DEPTH" = some (some (.int 400 tMOST_DEPTH)))
    (iLEAST_ROOT : PySem.W.nsIn K mainGlobals "LEAST_ROOT" = some (some (.int 2 tLEAST_ROOT)))
    (iMOST_ROOT : PySem.W.nsIn K mainGlobals "MOST_ROOT" = some (some (.int 5 tMOST_ROOT)))
    (iMOST_POWER : PySem.W.nsIn K mainGlobals "MOST_POWER" = some (some (.int 8 tMOST_POWER)))
    (gZERO : PySem.W.nsIn K mainGlobals "ZERO" = some (some (.ref AZERO)))
    (lZERO : K.lookup AZERO = some ⟨.type "tuple", none, .seq #[.int 0 uZERO, .int 1 vZERO] nZERO, sZERO⟩)
    (gONE : PySem.W.nsIn K mainGlobals "ONE" = some (some (.ref AONE)))
    (lONE : K.lookup AONE = some ⟨.type "tuple", none, .seq #[.int 1 uONE, .int 1 vONE] nONE, sONE⟩)
    (nabs : PySem.W.nsIn K mainGlobals "abs" = some none)
    (nall : PySem.W.nsIn K mainGlobals "all" = some none)
    (nbool : PySem.W.nsIn K mainGlobals "bool" = some none)
    (nint : PySem.W.nsIn K mainGlobals "int" = some none)
    (nisinstance : PySem.W.nsIn K mainGlobals "isinstance" = some none)
    (nlen : PySem.W.nsIn K mainGlobals "len" = some none)
    (nmax : PySem.W.nsIn K mainGlobals "max" = some none)
    (nrange : PySem.W.nsIn K mainGlobals "range" = some none)
    (nrepr : PySem.W.nsIn K mainGlobals "repr" = some none)
    (ntuple : PySem.W.nsIn K mainGlobals "tuple" = some none)
    (nzip : PySem.W.nsIn K mainGlobals "zip" = some none)
    (nValueError : PySem.W.nsIn K mainGlobals "ValueError" = some none)
    (aL : PySem.W.nsIn K mainGlobals "law" = some (some (.ref f)))
    (lL : K.lookup f = some ⟨oc, od, .func (PySem.W.fnOf "law" "law" (defArgs s_law) (defBody s_law) (defScope s_law) .none kV doc pm an (.ref c) ct), osl⟩)
    (cL : PySem.W.codeIn K (.ref c) "law" = true)
    (lc : K.lookup c = some ⟨e, dd, .fields vs, sl⟩)
    (v11 : vs[11]? = some (.ref T))
    (nT : K.lookup T = none)
    : ∃ (fd : FuncData) (cs : List (Addr × Addr)), (∀ p ∈ cs, h.get? p.2 = some { cls := .none, data := .fields #[] } ∧ K.lookup p.2 = none ∧ PySem.W.CodeHd h p.1 p.2) ∧ (∀ (s : Shared) (u : Value), BindsTo s fd ⟨[u], []⟩ [("script", u)]) ∧
        ∀ base : Heap, K.In base → base.Ns mainGlobals mg → (∀ p ∈ cs, LamX.TabB base mg p.1 p.2) → FnLaw l.prog w K mg base 14 fa fd "script" n (cs.map (·.2)) lamQ :=
  all_mk (cl := ⟨B, N⟩) hn2 X G hfa own DD ⟨hasI_mk X G iLEAST_ROOT, hasI_mk X G iMOST_DEPTH, hasI_mk X G iMOST_POWER, hasI_mk X G iMOST_ROOT, PySem.W.mg_none_of X G nabs, PySem.W.mg_none_of X G nall, PySem.W.mg_none_of X G nbool, PySem.W.mg_none_of X G nint, PySem.W.mg_none_of X G nisinstance, PySem.W.mg_none_of X G nlen, PySem.W.mg_none_of X G nmax, PySem.W.mg_none_of X G nrange, PySem.W.mg_none_of X G nrepr, PySem.W.mg_none_of X G ntuple, PySem.W.mg_none_of X G nzip, hasT_mk X G gONE lONE, hasT_mk X G gZERO lZERO, ⟨PySem.W.mg_of X G aB, xB, kB, hsB, tB⟩, ⟨PySem.W.mg_of X G aN, xN, kN, hsN, tN⟩⟩
    (words_mk X G aA (PySem.W.mg_of X G aB) (PySem.W.mg_of X G aN) (PySem.W.mg_none_of X G nisinstance) nValueError ⟨hgB, hkB, hsB, hdB, haB, hnB, htB, hmB⟩ ⟨hgN, hkN, hsN, hdN, haN, hnN, htN, hmN⟩ sA dA tA tB tN sBA sNA sBN sNB sBV sNV ne) DWd aL lL cL lc v11 nT
end K07

open PySem PySem.W PyProof.Rows in
set_option maxRecDepth 100000 in
set_option maxHeartbeats 0 in
theorem PySem.Challenge.cw_digitsasked_k07_whole_boxes_by_rules_holds : PySem.Challenge.rw_digitsasked_k07_whole_boxes_by_rules.Holds := by
  w_on; o_law; k_head; (case hw => w_witness2)
  k_fill
  refine K07.walk_K (l := PySem.Challenge.rw_digitsasked_k07_whole_boxes_by_rules) (n := 63) rfl (by decide) (by decide) rfl (by rfl) (fun w h Y => PySem.W.km_in_of Y) ?F
  case F =>
    intro w mg fa h Y KX G hmg own
    refine' K07.fin_mk (by decide) KX G hmg own ⟨?D_is_int, ?D_is_within, ?D_is_sized, ?D_divisor, ?D_fraction, ?D_is_fraction, ?D_check_within, ?D_plus, ?D_times, ?D_over, ?D_turned, ?D_sized, ?D_is_less, ?D_lesser, ?D_greater, ?D_power, ?D_raised, ?D_two_to, ?D_root_down, ?D_is_box, ?D_check_box, ?D_check_two, ?D_raw_add, ?D_raw_turn, ?D_ends_of, ?D_raw_times, ?D_has_nought, ?D_raw_over, ?D_raw_more, ?D_raw_less, ?D_raw_join, ?D_raw_size, ?D_raw_power, ?D_root_above, ?D_raw_root, ?D_box_add, ?D_box_take, ?D_box_times, ?D_box_over, ?D_box_more, ?D_box_less, ?D_box_join, ?D_box_turn, ?D_box_size, ?D_box_root, ?D_box_power, ?D__law_hand, ?D__law_draw, ?D__law_some, ?D__law_frac, ?D__law_plus, ?D__law_less, ?D__law_times, ?D__law_by, ?D__law_is_under, ?D__law_least, ?D__law_most, ?D__law_two, ?D__law_power, ?D__law_number, ?D__law_box_times, ?D__law_box_over, ?D__law_box_plus, ?D__law_box_turn, ?D__law_box_size, ?D__law_box_power, ?D__law_root_of, ?D__law_box_root, ?D__law_drawn, ?D__law_within, ?D__law_lies, ?D__law_are_two_right, ?D__law_is_one_right, ?D__law_are_wider_right⟩ ?D__law_word ?aA ?aB ?xB ?kB ?tB ?hgB ?hkB ?hsB ?hdB ?haB ?hnB ?htB ?hmB ?aN ?xN ?kN ?tN ?hgN ?hkN ?hsN ?hdN ?haN ?hnN ?htN ?hmN ?sA ?dA ?tA ?sBA ?sNA ?sBN ?sNB ?sBV ?sNV ?ne ?iMOST_DEPTH ?iLEAST_ROOT ?iMOST_ROOT ?iMOST_POWER ?gZERO ?lZERO ?gONE ?lONE ?nabs ?nall ?nbool ?nint ?nisinstance ?nlen ?nmax ?nrange ?nrepr ?ntuple ?nzip ?nValueError ?aL ?lL ?cL ?lc ?v11 ?nT
    (case D_is_int => refine' K07.defin_mk KX G (fun _ _ _ _ _ _ us hl => match us, hl with | [_], _ => rfl) ?a ?l ?c ?k; (case a => k_is); (case l => k_is); (case c => k_is); (case k => k_is))
    (case D_is_within => refine' K07.defin_mk KX G (fun _ _ _ _ _ _ us hl => match us, hl with | [_, _, _], _ => rfl) ?a ?l ?c ?k; (case a => k_is); (case l => k_is); (case c => k_is); (case k => k_is))
    (case D_is_sized => refine' K07.defin_mk KX G (fun _ _ _ _ _ _ us hl => match us, hl with | [_, _, _], _ => rfl) ?a ?l ?c ?k; (case a => k_is); (case l => k_is); (case c => k_is); (case k => k_is))
    (case D_divisor => refine' K07.defin_mk KX G (fun _ _ _ _ _ _ us hl => match us, hl with | [_, _], _ => rfl) ?a ?l ?c ?k; (case a => k_is); (case l => k_is); (case c => k_is); (case k => k_is))
    (case D_fraction => refine' K07.defin_mk KX G (fun _ _ _ _ _ _ us hl => match us, hl with | [_, _], _ => rfl) ?a ?l ?c ?k; (case a => k_is); (case l => k_is); (case c => k_is); (case k => k_is))
    (case D_is_fraction => refine' K07.defin_mk KX G (fun _ _ _ _ _ _ us hl => match us, hl with | [_], _ => rfl) ?a ?l ?c ?k; (case a => k_is); (case l => k_is); (case c => k_is); (case k => k_is))
    (case D_check_within => refine' K07.defin_mk KX G (fun _ _ _ _ _ _ us hl => match us, hl with | [_, _, _], _ => rfl) ?a ?l ?c ?k; (case a => k_is); (case l => k_is); (case c => k_is); (case k => k_is))
    (case D_plus => refine' K07.defin_mk KX G (fun _ _ _ _ _ _ us hl => match us, hl with | [_, _], _ => rfl) ?a ?l ?c ?k; (case a => k_is); (case l => k_is); (case c => k_is); (case k => k_is))
    (case D_times => refine' K07.defin_mk KX G (fun _ _ _ _ _ _ us hl => match us, hl with | [_, _], _ => rfl) ?a ?l ?c ?k; (case a => k_is); (case l => k_is); (case c => k_is); (case k => k_is))
    (case D_over => refine' K07.defin_mk KX G (fun _ _ _ _ _ _ us hl => match us, hl with | [_, _], _ => rfl) ?a ?l ?c ?k; (case a => k_is); (case l => k_is); (case c => k_is); (case k => k_is))
    (case D_turned => refine' K07.defin_mk KX G (fun _ _ _ _ _ _ us hl => match us, hl with | [_], _ => rfl) ?a ?l ?c ?k; (case a => k_is); (case l => k_is); (case c => k_is); (case k => k_is))
    (case D_sized => refine' K07.defin_mk KX G (fun _ _ _ _ _ _ us hl => match us, hl with | [_], _ => rfl) ?a ?l ?c ?k; (case a => k_is); (case l => k_is); (case c => k_is); (case k => k_is))
    (case D_is_less => refine' K07.defin_mk KX G (fun _ _ _ _ _ _ us hl => match us, hl with | [_, _], _ => rfl) ?a ?l ?c ?k; (case a => k_is); (case l => k_is); (case c => k_is); (case k => k_is))
    (case D_lesser => refine' K07.defin_mk KX G (fun _ _ _ _ _ _ us hl => match us, hl with | [_, _], _ => rfl) ?a ?l ?c ?k; (case a => k_is); (case l => k_is); (case c => k_is); (case k => k_is))
    (case D_greater => refine' K07.defin_mk KX G (fun _ _ _ _ _ _ us hl => match us, hl with | [_, _], _ => rfl) ?a ?l ?c ?k; (case a => k_is); (case l => k_is); (case c => k_is); (case k => k_is))
    (case D_power => refine' K07.defin_mk KX G (fun _ _ _ _ _ _ us hl => match us, hl with | [_, _], _ => rfl) ?a ?l ?c ?k; (case a => k_is); (case l => k_is); (case c => k_is); (case k => k_is))
    (case D_raised => refine' K07.defin_mk KX G (fun _ _ _ _ _ _ us hl => match us, hl with | [_, _], _ => rfl) ?a ?l ?c ?k; (case a => k_is); (case l => k_is); (case c => k_is); (case k => k_is))
    (case D_two_to => refine' K07.defin_mk KX G (fun _ _ _ _ _ _ us hl => match us, hl with | [_], _ => rfl) ?a ?l ?c ?k; (case a => k_is); (case l => k_is); (case c => k_is); (case k => k_is))
    (case D_root_down => refine' K07.defin_mk KX G (fun _ _ _ _ _ _ us hl => match us, hl with | [_, _], _ => rfl) ?a ?l ?c ?k; (case a => k_is); (case l => k_is); (case c => k_is); (case k => k_is))
    (case D_is_box => refine' K07.defin_mk KX G (fun _ _ _ _ _ _ us hl => match us, hl with | [_], _ => rfl) ?a ?l ?c ?k; (case a => k_is); (case l => k_is); (case c => k_is); (case k => k_is))
    (case D_check_box => refine' K07.defin_mk KX G (fun _ _ _ _ _ _ us hl => match us, hl with | [_], _ => rfl) ?a ?l ?c ?k; (case a => k_is); (case l => k_is); (case c => k_is); (case k => k_is))
    (case D_check_two => refine' K07.defin_mk KX G (fun _ _ _ _ _ _ us hl => match us, hl with | [_, _], _ => rfl) ?a ?l ?c ?k; (case a => k_is); (case l => k_is); (case c => k_is); (case k => k_is))
    (case D_raw_add => refine' K07.defin_mk KX G (fun _ _ _ _ _ _ us hl => match us, hl with | [_, _], _ => rfl) ?a ?l ?c ?k; (case a => k_is); (case l => k_is); (case c => k_is); (case k => k_is))
    (case D_raw_turn => refine' K07.defin_mk KX G (fun _ _ _ _ _ _ us hl => match us, hl with | [_], _ => rfl) ?a ?l ?c ?k; (case a => k_is); (case l => k_is); (case c => k_is); (case k => k_is))
    (case D_ends_of => refine' K07.defin_mk KX G (fun _ _ _ _ _ _ us hl => match us, hl with | [_], _ => rfl) ?a ?l ?c ?k; (case a => k_is); (case l => k_is); (case c => k_is); (case k => k_is))
    (case D_raw_times => refine' K07.defin_mk KX G (fun _ _ _ _ _ _ us hl => match us, hl with | [_, _], _ => rfl) ?a ?l ?c ?k; (case a => k_is); (case l => k_is); (case c => k_is); (case k => k_is))
    (case D_has_nought => refine' K07.defin_mk KX G (fun _ _ _ _ _ _ us hl => match us, hl with | [_], _ => rfl) ?a ?l ?c ?k; (case a => k_is); (case l => k_is); (case c => k_is); (case k => k_is))
    (case D_raw_over => refine' K07.defin_mk KX G (fun _ _ _ _ _ _ us hl => match us, hl with | [_, _], _ => rfl) ?a ?l ?c ?k; (case a => k_is); (case l => k_is); (case c => k_is); (case k => k_is))
    (case D_raw_more => refine' K07.defin_mk KX G (fun _ _ _ _ _ _ us hl => match us, hl with | [_, _], _ => rfl) ?a ?l ?c ?k; (case a => k_is); (case l => k_is); (case c => k_is); (case k => k_is))
    (case D_raw_less => refine' K07.defin_mk KX G (fun _ _ _ _ _ _ us hl => match us, hl with | [_, _], _ => rfl) ?a ?l ?c ?k; (case a => k_is); (case l => k_is); (case c => k_is); (case k => k_is))
    (case D_raw_join => refine' K07.defin_mk KX G (fun _ _ _ _ _ _ us hl => match us, hl with | [_, _], _ => rfl) ?a ?l ?c ?k; (case a => k_is); (case l => k_is); (case c => k_is); (case k => k_is))
    (case D_raw_size => refine' K07.defin_mk KX G (fun _ _ _ _ _ _ us hl => match us, hl with | [_], _ => rfl) ?a ?l ?c ?k; (case a => k_is); (case l => k_is); (case c => k_is); (case k => k_is))
    (case D_raw_power => refine' K07.defin_mk KX G (fun _ _ _ _ _ _ us hl => match us, hl with | [_, _], _ => rfl) ?a ?l ?c ?k; (case a => k_is); (case l => k_is); (case c => k_is); (case k => k_is))
    (case D_root_above => refine' K07.defin_mk KX G (fun _ _ _ _ _ _ us hl => match us, hl with | [_, _, _], _ => rfl) ?a ?l ?c ?k; (case a => k_is); (case l => k_is); (case c => k_is); (case k => k_is))
    (case D_raw_root => refine' K07.defin_mk KX G (fun _ _ _ _ _ _ us hl => match us, hl with | [_, _, _], _ => rfl) ?a ?l ?c ?k; (case a => k_is); (case l => k_is); (case c => k_is); (case k => k_is))
    (case D_box_add => refine' K07.defin_mk KX G (fun _ _ _ _ _ _ us hl => match us, hl with | [_, _], _ => rfl) ?a ?l ?c ?k; (case a => k_is); (case l => k_is); (case c => k_is); (case k => k_is))
    (case D_box_take => refine' K07.defin_mk KX G (fun _ _ _ _ _ _ us hl => match us, hl with | [_, _], _ => rfl) ?a ?l ?c ?k; (case a => k_is); (case l => k_is); (case c => k_is); (case k => k_is))
    (case D_box_times => refine' K07.defin_mk KX G (fun _ _ _ _ _ _ us hl => match us, hl with | [_, _], _ => rfl) ?a ?l ?c ?k; (case a => k_is); (case l => k_is); (case c => k_is); (case k => k_is))
    (case D_box_over => refine' K07.defin_mk KX G (fun _ _ _ _ _ _ us hl => match us, hl with | [_, _], _ => rfl) ?a ?l ?c ?k; (case a => k_is); (case l => k_is); (case c => k_is); (case k => k_is))
    (case D_box_more => refine' K07.defin_mk KX G (fun _ _ _ _ _ _ us hl => match us, hl with | [_, _], _ => rfl) ?a ?l ?c ?k; (case a => k_is); (case l => k_is); (case c => k_is); (case k => k_is))
    (case D_box_less => refine' K07.defin_mk KX G (fun _ _ _ _ _ _ us hl => match us, hl with | [_, _], _ => rfl) ?a ?l ?c ?k; (case a => k_is); (case l => k_is); (case c => k_is); (case k => k_is))
    (case D_box_join => refine' K07.defin_mk KX G (fun _ _ _ _ _ _ us hl => match us, hl with | [_, _], _ => rfl) ?a ?l ?c ?k; (case a => k_is); (case l => k_is); (case c => k_is); (case k => k_is))
    (case D_box_turn => refine' K07.defin_mk KX G (fun _ _ _ _ _ _ us hl => match us, hl with | [_], _ => rfl) ?a ?l ?c ?k; (case a => k_is); (case l => k_is); (case c => k_is); (case k => k_is))
    (case D_box_size => refine' K07.defin_mk KX G (fun _ _ _ _ _ _ us hl => match us, hl with | [_], _ => rfl) ?a ?l ?c ?k; (case a => k_is); (case l => k_is); (case c => k_is); (case k => k_is))
    (case D_box_root => refine' K07.defin_mk KX G (fun _ _ _ _ _ _ us hl => match us, hl with | [_, _, _], _ => rfl) ?a ?l ?c ?k; (case a => k_is); (case l => k_is); (case c => k_is); (case k => k_is))
    (case D_box_power => refine' K07.defin_mk KX G (fun _ _ _ _ _ _ us hl => match us, hl with | [_, _], _ => rfl) ?a ?l ?c ?k; (case a => k_is); (case l => k_is); (case c => k_is); (case k => k_is))
    (case D__law_hand => refine' K07.defin_mk KX G (fun _ _ _ _ _ _ us hl => match us, hl with | [_], _ => rfl) ?a ?l ?c ?k; (case a => k_is); (case l => k_is); (case c => k_is); (case k => k_is))
    (case D__law_draw => refine' K07.defin_mk KX G (fun _ _ _ _ _ _ us hl => match us, hl with | [_, _], _ => rfl) ?a ?l ?c ?k; (case a => k_is); (case l => k_is); (case c => k_is); (case k => k_is))
    (case D__law_some => refine' K07.defin_mk KX G (fun _ _ _ _ _ _ us hl => match us, hl with | [_, _], _ => rfl) ?a ?l ?c ?k; (case a => k_is); (case l => k_is); (case c => k_is); (case k => k_is))
    (case D__law_frac => refine' K07.defin_mk KX G (fun _ _ _ _ _ _ us hl => match us, hl with | [_, _], _ => rfl) ?a ?l ?c ?k; (case a => k_is); (case l => k_is); (case c => k_is); (case k => k_is))
    (case D__law_plus => refine' K07.defin_mk KX G (fun _ _ _ _ _ _ us hl => match us, hl with | [_, _], _ => rfl) ?a ?l ?c ?k; (case a => k_is); (case l => k_is); (case c => k_is); (case k => k_is))
    (case D__law_less => refine' K07.defin_mk KX G (fun _ _ _ _ _ _ us hl => match us, hl with | [_, _], _ => rfl) ?a ?l ?c ?k; (case a => k_is); (case l => k_is); (case c => k_is); (case k => k_is))
    (case D__law_times => refine' K07.defin_mk KX G (fun _ _ _ _ _ _ us hl => match us, hl with | [_, _], _ => rfl) ?a ?l ?c ?k; (case a => k_is); (case l => k_is); (case c => k_is); (case k => k_is))
    (case D__law_by => refine' K07.defin_mk KX G (fun _ _ _ _ _ _ us hl => match us, hl with | [_, _], _ => rfl) ?a ?l ?c ?k; (case a => k_is); (case l => k_is); (case c => k_is); (case k => k_is))
    (case D__law_is_under => refine' K07.defin_mk KX G (fun _ _ _ _ _ _ us hl => match us, hl with | [_, _], _ => rfl) ?a ?l ?c ?k; (case a => k_is); (case l => k_is); (case c => k_is); (case k => k_is))
    (case D__law_least => refine' K07.defin_mk KX G (fun _ _ _ _ _ _ us hl => match us, hl with | [_], _ => rfl) ?a ?l ?c ?k; (case a => k_is); (case l => k_is); (case c => k_is); (case k => k_is))
    (case D__law_most => refine' K07.defin_mk KX G (fun _ _ _ _ _ _ us hl => match us, hl with | [_], _ => rfl) ?a ?l ?c ?k; (case a => k_is); (case l => k_is); (case c => k_is); (case k => k_is))
    (case D__law_two => refine' K07.defin_mk KX G (fun _ _ _ _ _ _ us hl => match us, hl with | [_], _ => rfl) ?a ?l ?c ?k; (case a => k_is); (case l => k_is); (case c => k_is); (case k => k_is))
    (case D__law_power => refine' K07.defin_mk KX G (fun _ _ _ _ _ _ us hl => match us, hl with | [_, _], _ => rfl) ?a ?l ?c ?k; (case a => k_is); (case l => k_is); (case c => k_is); (case k => k_is))
    (case D__law_number => refine' K07.defin_mk KX G (fun _ _ _ _ _ _ us hl => match us, hl with | [_, _], _ => rfl) ?a ?l ?c ?k; (case a => k_is); (case l => k_is); (case c => k_is); (case k => k_is))
    (case D__law_box_times => refine' K07.defin_mk KX G (fun _ _ _ _ _ _ us hl => match us, hl with | [_, _], _ => rfl) ?a ?l ?c ?k; (case a => k_is); (case l => k_is); (case c => k_is); (case k => k_is))
    (case D__law_box_over => refine' K07.defin_mk KX G (fun _ _ _ _ _ _ us hl => match us, hl with | [_, _], _ => rfl) ?a ?l ?c ?k; (case a => k_is); (case l => k_is); (case c => k_is); (case k => k_is))
    (case D__law_box_plus => refine' K07.defin_mk KX G (fun _ _ _ _ _ _ us hl => match us, hl with | [_, _], _ => rfl) ?a ?l ?c ?k; (case a => k_is); (case l => k_is); (case c => k_is); (case k => k_is))
    (case D__law_box_turn => refine' K07.defin_mk KX G (fun _ _ _ _ _ _ us hl => match us, hl with | [_], _ => rfl) ?a ?l ?c ?k; (case a => k_is); (case l => k_is); (case c => k_is); (case k => k_is))
    (case D__law_box_size => refine' K07.defin_mk KX G (fun _ _ _ _ _ _ us hl => match us, hl with | [_], _ => rfl) ?a ?l ?c ?k; (case a => k_is); (case l => k_is); (case c => k_is); (case k => k_is))
    (case D__law_box_power => refine' K07.defin_mk KX G (fun _ _ _ _ _ _ us hl => match us, hl with | [_, _], _ => rfl) ?a ?l ?c ?k; (case a => k_is); (case l => k_is); (case c => k_is); (case k => k_is))
    (case D__law_root_of => refine' K07.defin_mk KX G (fun _ _ _ _ _ _ us hl => match us, hl with | [_, _], _ => rfl) ?a ?l ?c ?k; (case a => k_is); (case l => k_is); (case c => k_is); (case k => k_is))
    (case D__law_box_root => refine' K07.defin_mk KX G (fun _ _ _ _ _ _ us hl => match us, hl with | [_, _, _], _ => rfl) ?a ?l ?c ?k; (case a => k_is); (case l => k_is); (case c => k_is); (case k => k_is))
    (case D__law_drawn => refine' K07.defin_mk KX G (fun _ _ _ _ _ _ us hl => match us, hl with | [_], _ => rfl) ?a ?l ?c ?k; (case a => k_is); (case l => k_is); (case c => k_is); (case k => k_is))
    (case D__law_within => refine' K07.defin_mk KX G (fun _ _ _ _ _ _ us hl => match us, hl with | [_, _], _ => rfl) ?a ?l ?c ?k; (case a => k_is); (case l => k_is); (case c => k_is); (case k => k_is))
    (case D__law_lies => refine' K07.defin_mk KX G (fun _ _ _ _ _ _ us hl => match us, hl with | [_, _], _ => rfl) ?a ?l ?c ?k; (case a => k_is); (case l => k_is); (case c => k_is); (case k => k_is))
    (case D__law_are_two_right => refine' K07.defin_mk KX G (fun _ _ _ _ _ _ us hl => match us, hl with | [_, _, _], _ => rfl) ?a ?l ?c ?k; (case a => k_is); (case l => k_is); (case c => k_is); (case k => k_is))
    (case D__law_is_one_right => refine' K07.defin_mk KX G (fun _ _ _ _ _ _ us hl => match us, hl with | [_, _], _ => rfl) ?a ?l ?c ?k; (case a => k_is); (case l => k_is); (case c => k_is); (case k => k_is))
    (case D__law_are_wider_right => refine' K07.defin_mk KX G (fun _ _ _ _ _ _ us hl => match us, hl with | [_, _], _ => rfl) ?a ?l ?c ?k; (case a => k_is); (case l => k_is); (case c => k_is); (case k => k_is))
    (case D__law_word => refine' K07.defin_mk KX G (fun _ _ _ _ _ _ us hl => match us, hl with | [_], _ => rfl) ?a ?l ?c ?k; (case a => k_is); (case l => k_is); (case c => k_is); (case k => k_is))
    (case aA => k_is)
    (case aB => k_is)
    (case xB => k_exc)
    (case kB => k_is)
    (case tB => k_is)
    (case hgB => k_is)
    (case hkB => k_is)
    (case hsB => k_is)
    (case hdB => k_is)
    (case haB => k_is)
    (case hnB => k_is)
    (case htB => k_is)
    (case hmB => k_is)
    (case aN => k_is)
    (case xN => k_exc)
    (case kN => k_is)
    (case tN => k_is)
    (case hgN => k_is)
    (case hkN => k_is)
    (case hsN => k_is)
    (case hdN => k_is)
    (case haN => k_is)
    (case hnN => k_is)
    (case htN => k_is)
    (case hmN => k_is)
    (case sA => k_is)
    (case dA => k_is)
    (case tA => k_is)
    (case sBA => first | k_is | rfl)
    (case sNA => first | k_is | rfl)
    (case sBN => first | k_is | rfl)
    (case sNB => first | k_is | rfl)
    (case sBV => first | k_is | rfl)
    (case sNV => first | k_is | rfl)
    (case ne => decide)
    (case iMOST_DEPTH => k_is)
    (case iLEAST_ROOT => k_is)
    (case iMOST_ROOT => k_is)
    (case iMOST_POWER => k_is)
    (case gZERO => k_is)
    (case lZERO => k_is)
    (case gONE => k_is)
    (case lONE => k_is)
    (case nabs => k_is)
    (case nall => k_is)
    (case nbool => k_is)
    (case nint => k_is)
    (case nisinstance => k_is)
    (case nlen => k_is)
    (case nmax => k_is)
    (case nrange => k_is)
    (case nrepr => k_is)
    (case ntuple => k_is)
    (case nzip => k_is)
    (case nValueError => k_is)
    (case aL => k_is)
    (case lL => k_is)
    (case cL => k_is)
    (case lc => k_is)
    (case v11 => rfl)
    (case nT => first | rfl | k_is | decide +kernel)
