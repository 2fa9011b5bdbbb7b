import PyProof.Rows.All
import Wide.All
import OpenK.AllK
import Wide.FinOn
import HandS.ForMost
import HandS.Walk
import HandS.Exc
import HandS.Defaults
import HandS.IsInst
import HandS.FStr
import HandS.TupAny
import HandS.Wide
import HandS.WideBits
import HandS.RaiseMore
import PyProof.ReprRoads
import KE.GoesMore
import KE.KStateDown
import HandS.Head0
import HandS.Head1
import HandS.Head2
import HandS.HeadEnd
import HandS.HeadHook1
import HandS.HeadHook2
import PyProof.ReprLen
import HandS.FStrTup
import PySem.Challenge.RW_pairstruck_k96_plan_texts
import HandS.HeadHook3
import HandS.HeadHook4
set_option Elab.async false
set_option linter.all false
set_option maxRecDepth 100000
set_option maxHeartbeats 4000000
/-! The layer of data (pairstruck proofs): expressions and statements judged by what data stand in the slots; the heap is hidden. -/
namespace Z
open PySem PySem.Spec PyProof.Rows L2

/-! ### heaps that only grow -/
def Ex (H H' : Hp) : Prop := ∀ a o, H a = some o → H' a = some o
theorem Ex.refl (H : Hp) : Ex H H := fun _ _ h => h
theorem Ex.trans {H G F : Hp} (x : Ex H G) (y : Ex G F) : Ex H F := fun a o h => y a o (x a o h)
theorem Ex.new {H : Hp} {p : Addr} {o : HO} (h : H p = none) : Ex H (upd H p o) := fun a u e => by
  rw [upd_ne (ne_of_none e h)]; exact e
theorem Ex.back {H H' : Hp} {p : Addr} (x : Ex H H') (h : H' p = none) : H p = none := by
  cases q : H p with
  | none => rfl
  | some o => rw [x p o q] at h; cases h
theorem Ex.rd {H H' : Hp} {a : Addr} {u : HO} (x : Ex H H') (h : Rd H a u) : Rd H' a u :=
  h.elim (fun q => .inl (x a _ q)) fun ⟨o, q⟩ => .inr ⟨o, x a _ q⟩
theorem Ex.sqL {K : PySem.W.Frag} {H H' : Hp} {a : Addr} {xs : List V} (x : Ex H H') (h : SqL K H a xs) : SqL K H' a xs := h.elim (fun q => .inl (x.rd q)) .inr
theorem Ex.sqT {K : PySem.W.Frag} {H H' : Hp} {a : Addr} {xs : List V} (x : Ex H H') (h : SqT K H a xs) : SqT K H' a xs := h.elim (fun q => .inl (x.rd q)) .inr

/-! ### data -/
inductive D where
  | v (x : V)
  | lst (ds : List D)
  | tup (ds : List D)
  | ins (C : Addr) (fs : List (Str × D))
abbrev D.i (n : Int) : D := .v (.int n)
abbrev D.s (x : Str) : D := .v (.str x)
abbrev D.b (c : Bool) : D := .v (.bl c)
abbrev D.non : D := .v .non
abbrev D.r (a : Addr) : D := .v (.ref a)

mutual
inductive Dn (K : PySem.W.Frag) (B : Hp) : V → D → Prop
  | v (x : V) : Dn K B x (.v x)
  | lst {a : Addr} {xs : List V} {ds : List D} : SqL K B a xs → DnA K B xs ds → Dn K B (.ref a) (.lst ds)
  | tup {a : Addr} {xs : List V} {ds : List D} : SqT K B a xs → DnA K B xs ds → Dn K B (.ref a) (.tup ds)
  | ins {a dx C : Addr} {fs : List (Str × V)} {gs : List (Str × D)} : B a = some (.ins C dx fs) → DnF K B fs gs → Dn K B (.ref a) (.ins C gs)
inductive DnA (K : PySem.W.Frag) (B : Hp) : List V → List D → Prop
  | nil : DnA K B [] []
  | cons {x : V} {d : D} {xs : List V} {ds : List D} : Dn K B x d → DnA K B xs ds → DnA K B (x :: xs) (d :: ds)
inductive DnF (K : PySem.W.Frag) (B : Hp) : List (Str × V) → List (Str × D) → Prop
  | nil : DnF K B [] []
  | cons {f : Str} {x : V} {d : D} {xs : List (Str × V)} {ds : List (Str × D)} : Dn K B x d → DnF K B xs ds → DnF K B ((f, x) :: xs) ((f, d) :: ds)
end

section
variable {K : PySem.W.Frag} {B B' : Hp}
mutual
theorem Dn.mono (e : Ex B B') : ∀ (d : D) (x : V), Dn K B x d → Dn K B' x d
  | .v _, _, h => by cases h; exact .v _
  | .lst ds, _, h => by
    cases h with
    | lst q r => exact .lst (e.sqL q) (DnA.mono e ds _ r)
  | .tup ds, _, h => by
    cases h with
    | tup q r => exact .tup (e.sqT q) (DnA.mono e ds _ r)
  | .ins C fs, _, h => by
    cases h with
    | ins q r => exact .ins (e _ _ q) (DnF.mono e fs _ r)
theorem DnA.mono (e : Ex B B') : ∀ (ds : List D) (xs : List V), DnA K B xs ds → DnA K B' xs ds
  | [], _, h => by cases h; exact .nil
  | d :: ds, _, h => by
    cases h with
    | cons q r => exact .cons (Dn.mono e d _ q) (DnA.mono e ds _ r)
theorem DnF.mono (e : Ex B B') : ∀ (ds : List (Str × D)) (xs : List (Str × V)), DnF K B xs ds → DnF K B' xs ds
  | [], _, h => by cases h; exact .nil
  | (f, d) :: ds, _, h => by
    cases h with
    | cons q r => exact .cons (Dn.mono e d _ q) (DnF.mono e ds _ r)
end
theorem Dn.up {d : D} {x : V} (h : Dn K B x d) (e : Ex B B') : Dn K B' x d := Dn.mono e d x h
theorem DnA.up {d : List D} {x : List V} (h : DnA K B x d) (e : Ex B B') : DnA K B' x d := DnA.mono e d x h
theorem DnA.length {xs : List V} {ds : List D} (h : DnA K B xs ds) : xs.length = ds.length := by
  induction ds generalizing xs with
  | nil => cases h; rfl
  | cons d ds ih =>
    cases h with
    | cons q r => simp [ih r]
theorem DnA.get {xs : List V} {ds : List D} (h : DnA K B xs ds) {i : Nat} {d : D} (e : ds[i]? = some d) : ∃ x, xs[i]? = some x ∧ Dn K B x d := by
  induction ds generalizing xs i with
  | nil => simp at e
  | cons c ds ih =>
    cases h with
    | cons q r =>
      cases i with
      | zero => simp at e; subst e; exact ⟨_, rfl, q⟩
      | succ i => simpa using ih r (by simpa using e)
theorem DnA.getV {xs : List V} {ds : List D} (h : DnA K B xs ds) {i : Nat} {x : V} (e : xs[i]? = some x) : ∃ d, ds[i]? = some d ∧ Dn K B x d := by
  induction ds generalizing xs i with
  | nil => cases h; simp at e
  | cons c ds ih =>
    cases h with
    | cons q r =>
      cases i with
      | zero => simp at e; subst e; exact ⟨_, rfl, q⟩
      | succ i => simpa using ih r (by simpa using e)
theorem DnA.app {xs ys : List V} {ds es : List D} (h : DnA K B xs ds) (g : DnA K B ys es) : DnA K B (xs ++ ys) (ds ++ es) := by
  induction ds generalizing xs with
  | nil => cases h; exact g
  | cons c ds ih =>
    cases h with
    | cons q r => exact .cons q (ih r)
theorem DnA.one {x : V} {d : D} (h : Dn K B x d) : DnA K B [x] [d] := .cons h .nil
theorem DnA.drop {xs : List V} {ds : List D} (n : Nat) (h : DnA K B xs ds) : DnA K B (xs.drop n) (ds.drop n) := by
  induction n generalizing xs ds with
  | zero => exact h
  | succ n ih =>
    cases h with
    | nil => exact .nil
    | cons q r => exact ih r
theorem DnA.take {xs : List V} {ds : List D} (n : Nat) (h : DnA K B xs ds) : DnA K B (xs.take n) (ds.take n) := by
  induction n generalizing xs ds with
  | zero => exact .nil
  | succ n ih =>
    cases h with
    | nil => exact .nil
    | cons q r => exact .cons q (ih r)
theorem DnA.eraseIdx {xs : List V} {ds : List D} (n : Nat) (h : DnA K B xs ds) : DnA K B (xs.eraseIdx n) (ds.eraseIdx n) := by
  induction n generalizing xs ds with
  | zero =>
    cases h with
    | nil => exact .nil
    | cons q r => exact r
  | succ n ih =>
    cases h with
    | nil => exact .nil
    | cons q r => exact .cons q (ih r)
theorem DnA.rev {xs : List V} {ds : List D} (h : DnA K B xs ds) : DnA K B xs.reverse ds.reverse := by
  induction ds generalizing xs with
  | nil => cases h; exact .nil
  | cons c ds ih =>
    cases h with
    | cons q r => rw [List.reverse_cons, List.reverse_cons]; exact (ih r).app (.one q)
/-- a list of leaves is itself -/
theorem DnA.leaf {xs ys : List V} (h : DnA K B xs (ys.map D.v)) : xs = ys := by
  induction ys generalizing xs with
  | nil => cases h; rfl
  | cons y ys ih =>
    cases h with
    | cons q r => cases q; rw [ih r]
theorem DnA.ofLeaf (ys : List V) : DnA K B ys (ys.map D.v) := by
  induction ys with
  | nil => exact .nil
  | cons y ys ih => exact .cons (.v y) ih
end

/-! ### what stands besides: S B H, B the part of H that never changes -/
abbrev SRel := Hp → Hp → Prop
class SOk (S : SRel) : Prop where
  sub : ∀ {B H}, S B H → Ex B H
  new : ∀ {B H p o}, S B H → H p = none → S (upd B p o) (upd H p o)
theorem SOk.bnone {S : SRel} [SOk S] {B H : Hp} {p : Addr} (h : S B H) (q : H p = none) : B p = none := (SOk.sub h).back q
theorem SOk.bex {S : SRel} [SOk S] {B H : Hp} {p : Addr} {o : HO} (h : S B H) (q : H p = none) : Ex B (upd B p o) := Ex.new (SOk.bnone h q)

/-- the slots -/
abbrev Gm := List (Option D)
def Sl (K : PySem.W.Frag) (B : Hp) (σ : L2.St) (Γ : Gm) : Prop := σ.length = Γ.length ∧ ∀ (i : Nat) (d : D), Γ[i]? = some (some d) → ∃ x, σ[i]? = some (some x) ∧ Dn K B x d
section
variable {K : PySem.W.Frag} {B B' : Hp} {σ : L2.St} {Γ : Gm}
theorem Sl.up (h : Sl K B σ Γ) (e : Ex B B') : Sl K B' σ Γ := ⟨h.1, fun i d q => let ⟨x, a, b⟩ := h.2 i d q; ⟨x, a, b.up e⟩⟩
theorem Sl.set (h : Sl K B σ Γ) (i : Nat) {x : V} {d : D} (r : Dn K B x d) : Sl K B (σ.set i (some x)) (Γ.set i (some d)) := by
  refine ⟨by simp [h.1], fun j e q => ?_⟩
  by_cases hj : i = j
  · subst hj
    have hl : i < Γ.length := by
      have := (List.getElem?_eq_some_iff.mp q).1
      simpa using this
    rw [List.getElem?_set_self hl] at q
    cases q
    exact ⟨x, List.getElem?_set_self (by rw [h.1]; exact hl), r⟩
  · rw [List.getElem?_set_ne hj] at q ⊢
    exact h.2 j e q
theorem Sl.off (h : Sl K B σ Γ) (i : Nat) (x : Option V) : Sl K B (σ.set i x) (Γ.set i Option.none) := by
  refine ⟨by simp [h.1], fun j e q => ?_⟩
  by_cases hj : i = j
  · subst hj
    have hl : i < Γ.length := by
      have := (List.getElem?_eq_some_iff.mp q).1
      simpa using this
    rw [List.getElem?_set_self hl] at q
    cases q
  · rw [List.getElem?_set_ne hj] at q ⊢
    exact h.2 j e q
theorem Sl.weak {Γ' : Gm} (h : Sl K B σ Γ) (hl : Γ'.length = Γ.length) (w : ∀ (i : Nat) (d : D), Γ'[i]? = some (some d) → Γ[i]? = some (some d)) : Sl K B σ Γ' :=
  ⟨by rw [h.1, hl], fun i d q => h.2 i d (w i d q)⟩
theorem Sl.start {N : List Str} {vs : List V} {ds : List D} (h : DnA K B vs ds) (hl : vs.length ≤ N.length) : Sl K B (L2.start N vs) (ds.map some ++ List.replicate (N.length - ds.length) Option.none) := by
  have e := h.length
  refine ⟨by unfold L2.start; simp; omega, fun i d q => ?_⟩
  have hi : i < ds.length := by
    by_cases hi : i < ds.length
    · exact hi
    · rw [List.getElem?_append_right (by simpa using hi), List.getElem?_replicate] at q
      split at q <;> cases q
  rw [List.getElem?_append_left (by simpa using hi), List.getElem?_map] at q
  cases z : ds[i]? with
  | none => rw [z] at q; cases q
  | some c =>
    rw [z] at q; cases q
    obtain ⟨x, a, b⟩ := h.get z
    refine ⟨x, ?_, b⟩
    unfold L2.start
    rw [List.getElem?_append_left (by simp; omega), List.getElem?_map, a] <;> rfl
end

/-! ### the plain readings: a thing's own run -/
section
variable (X : Cx)
def wE (e : Expr) : TE := fun σ H Q => ∀ (pins : List (Addr × Obj)) (s : Shared), Inv X pins σ H s → wpAny (model X.prog X.w) X.A (eval e X.env) (EP X pins σ Q) X.xe s
def wT (e : Expr) : TT := fun σ H Q => ∀ (pins : List (Addr × Obj)) (s : Shared), Inv X pins σ H s → wpAny (model X.prog X.w) X.A (isTrue e X.env (eval e X.env)) (TP X pins σ Q) X.xe s
def wW (e : Expr) : TT := fun σ H Q => ∀ (whole : Sem Value) (pins : List (Addr × Obj)) (s : Shared), Inv X pins σ H s → wpAny (model X.prog X.w) X.A (isTrue e X.env whole) (TP X pins σ Q) X.xe s
def wA (es : List Expr) : TA := fun σ H Q => ∀ (pos : Pos) (pins : List (Addr × Obj)) (s : Shared), Inv X pins σ H s → wpAny (model X.prog X.w) X.A (spliced (backTo pos (starEach es X.env))) (AP X pins σ Q) X.xe s
def wS (st : Stmt) : TS := fun D σ H => ∀ (pins : List (Addr × Obj)) (s : Shared), Inv X pins σ H s → wpAny (model X.prog X.w) X.A (exec st X.env) (SP X pins D) X.xe s
def wSs (st : List Stmt) : TS := fun D σ H => ∀ (pins : List (Addr × Obj)) (s : Shared), Inv X pins σ H s → wpAny (model X.prog X.w) X.A (execs st X.env) (SP X pins D) X.xe s
end
section
variable {X : Cx}
theorem peW {e : Expr} : PE X e (wE X e) := ⟨fun pins s _ _ _ I h => h pins s I⟩
theorem ptW {e : Expr} : PT X e (wT X e) := ⟨fun pins s _ _ _ I h => h pins s I⟩
theorem pwW {e : Expr} : PW X e (wW X e) := ⟨fun w pins s _ _ _ I h => h w pins s I⟩
theorem paW {es : List Expr} : PA X es (wA X es) := ⟨fun p pins s _ _ _ I h => h p pins s I⟩
theorem psW {st : Stmt} : PS X st (wS X st) := ⟨fun pins s _ _ _ I h => h pins s I⟩
theorem pssW {st : List Stmt} : PSs X st (wSs X st) := ⟨fun pins s _ _ _ I h => h pins s I⟩
theorem PE.w {e : Expr} {t : TE} (h : PE X e t) {σ : L2.St} {H : Hp} {Q : VK} (q : t σ H Q) : wE X e σ H Q := fun pins s I => h.run pins s σ H Q I q
theorem PT.w {e : Expr} {t : TT} (h : PT X e t) {σ : L2.St} {H : Hp} {Q : Bool → Hp → Prop} (q : t σ H Q) : wT X e σ H Q := fun pins s I => h.run pins s σ H Q I q
theorem PW.w {e : Expr} {t : TT} (h : PW X e t) {σ : L2.St} {H : Hp} {Q : Bool → Hp → Prop} (q : t σ H Q) : wW X e σ H Q := fun w pins s I => h.run w pins s σ H Q I q
theorem PA.w {es : List Expr} {t : TA} (h : PA X es t) {σ : L2.St} {H : Hp} {Q : List V → Hp → Prop} (q : t σ H Q) : wA X es σ H Q := fun p pins s I => h.run p pins s σ H Q I q
theorem PS.w {st : Stmt} {t : TS} (h : PS X st t) {σ : L2.St} {H : Hp} {D : Ends} (q : t D σ H) : wS X st D σ H := fun pins s I => h.run pins s σ H D I q
theorem PSs.w {st : List Stmt} {t : TS} (h : PSs X st t) {σ : L2.St} {H : Hp} {D : Ends} (q : t D σ H) : wSs X st D σ H := fun pins s I => h.run pins s σ H D I q
end

/-! ### the judgements -/
def XE (X : Cx) (S : SRel) (Γ : Gm) (e : Expr) (R : D → Prop) : Prop := ∀ (B : Hp) (σ : L2.St) (H : Hp), Sl X.K B σ Γ → S B H → ∀ Q : VK,
  (∀ x B' H' d, Ex B B' → S B' H' → R d → Dn X.K B' x d → Q x H') → wE X e σ H Q
def XT (X : Cx) (S : SRel) (Γ : Gm) (e : Expr) (R : Bool → Prop) : Prop := ∀ (B : Hp) (σ : L2.St) (H : Hp), Sl X.K B σ Γ → S B H → ∀ Q : Bool → Hp → Prop,
  (∀ c B' H', Ex B B' → S B' H' → R c → Q c H') → wT X e σ H Q
def XW (X : Cx) (S : SRel) (Γ : Gm) (e : Expr) (R : Bool → Prop) : Prop := ∀ (B : Hp) (σ : L2.St) (H : Hp), Sl X.K B σ Γ → S B H → ∀ Q : Bool → Hp → Prop,
  (∀ c B' H', Ex B B' → S B' H' → R c → Q c H') → wW X e σ H Q
def XA (X : Cx) (S : SRel) (Γ : Gm) (es : List Expr) (R : List D → Prop) : Prop := ∀ (B : Hp) (σ : L2.St) (H : Hp), Sl X.K B σ Γ → S B H → ∀ Q : List V → Hp → Prop,
  (∀ xs B' H' ds, Ex B B' → S B' H' → R ds → DnA X.K B' xs ds → Q xs H') → wA X es σ H Q
/-- a block -/
def XS (X : Cx) (S : SRel) (Γ : Gm) (sts : List Stmt) (E : Ends) : Prop := ∀ (B : Hp) (σ : L2.St) (H : Hp), Sl X.K B σ Γ → S B H → wSs X sts E σ H
/-- the state is told by S and Γ -/
def At (K : PySem.W.Frag) (S : SRel) (Γ : Gm) (σ : L2.St) (H : Hp) : Prop := ∃ B, Sl K B σ Γ ∧ S B H

section
variable {X : Cx} {S : SRel} {Γ : Gm} {e a b c : Expr} {pos p : Pos} {R Ra Rb : D → Prop} {d d1 d2 : D} {P P1 P2 : Bool → Prop}

theorem XE.imp (h : XE X S Γ e R) (w : ∀ d, R d → Ra d) : XE X S Γ e Ra := fun B σ H hs hS Q k => h B σ H hs hS Q fun x B' H' d e1 s1 r n => k x B' H' d e1 s1 (w d r) n
theorem XT.imp (h : XT X S Γ e P) (w : ∀ d, P d → P1 d) : XT X S Γ e P1 := fun B σ H hs hS Q k => h B σ H hs hS Q fun c B' H' e1 s1 r => k c B' H' e1 s1 (w c r)
theorem XE.is (h : XE X S Γ e (· = d)) (w : d = d1) : XE X S Γ e (· = d1) := w ▸ h

/-! #### names, constants -/
theorem x_var (i : Nat) {x : Str} (hd : Γ[i]? = some (some d)) (hN : X.N[i]? = some x := by rfl) (hv : Vis X.env.scope x := by first | exact Or.inl rfl | exact Or.inr (Or.inl rfl) | exact Or.inr (Or.inr rfl))
    (h1 : (x == ("__debug__" : Str)) = false := by decide) (h2 : (x == ("__classdict__" : Str)) = false := by decide) : XE X S Γ (.Name x pos) (· = d) := fun B σ H hs hS Q k => by
  obtain ⟨y, q, r⟩ := hs.2 i d hd
  exact PE.w (pe_var hN hv h1 h2) ⟨y, q, k y B H d (.refl B) hS rfl r⟩
theorem x_int {n : Int} {j} : XE X S Γ (.Constant (.int n) j pos) (· = .i n) := fun B σ H hs hS Q k => PE.w pe_int (k _ B H _ (.refl B) hS rfl (.v _))
theorem x_str {n : Str} {j} : XE X S Γ (.Constant (.str n) j pos) (· = .s n) := fun B σ H hs hS Q k => PE.w pe_str (k _ B H _ (.refl B) hS rfl (.v _))
theorem x_bl {n : Bool} {j} : XE X S Γ (.Constant (.bool n) j pos) (· = .b n) := fun B σ H hs hS Q k => PE.w pe_bl (k _ B H _ (.refl B) hS rfl (.v _))
theorem x_non {j} : XE X S Γ (.Constant .none j pos) (· = .non) := fun B σ H hs hS Q k => PE.w pe_non (k _ B H _ (.refl B) hS rfl (.v _))
theorem x_glob {x : Str} {u : Value} {v : V} (hg : Gl X x) (hm : X.mg x = some u) (r : RelV v u) (hd : ∀ B, Dn X.K B v d) (h1 : (x == ("__debug__" : Str)) = false := by decide) : XE X S Γ (.Name x pos) (· = d) :=
  fun B σ H hs hS Q k => PE.w (pe_glob hg hm r h1) (k _ B H _ (.refl B) hS rfl (hd B))
theorem x_globS {x z : Str} (hm : ∃ t, X.mg x = some (.str z t)) (hg : Gl X x := by rfl) (h1 : (x == ("__debug__" : Str)) = false := by decide) : XE X S Γ (.Name x pos) (· = .s z) :=
  let ⟨t, h⟩ := hm; x_glob (v := .str z) hg h ⟨t, rfl⟩ (fun _ => .v _) h1
theorem x_globI {x : Str} {n : Int} (hm : ∃ t, X.mg x = some (.int n t)) (hg : Gl X x := by rfl) (h1 : (x == ("__debug__" : Str)) = false := by decide) : XE X S Γ (.Name x pos) (· = .i n) :=
  let ⟨t, h⟩ := hm; x_glob (v := .int n) hg h ⟨t, rfl⟩ (fun _ => .v _) h1
theorem x_globT {x : Str} {A : Addr} {xs : List V} (hm : X.mg x = some (.ref A)) (hs : ∀ H, SqT X.K H A xs) (hg : Gl X x := by rfl) (h1 : (x == ("__debug__" : Str)) = false := by decide) : XE X S Γ (.Name x pos) (· = .tup (xs.map .v)) :=
  x_glob (v := .ref A) hg hm rfl (fun B => .tup (hs B) (DnA.ofLeaf xs)) h1

/-! #### operators -/
/-- an operation by values, on data -/
def OpD (K : PySem.W.Frag) (S : SRel) (r : R2) (d1 d2 : D) (R : D → Prop) : Prop := ∀ (B H : Hp) (x y : V), S B H → Dn K B x d1 → Dn K B y d2 → ∀ Q : VK,
  (∀ v B' H' d, Ex B B' → S B' H' → R d → Dn K B' v d → Q v H') → r x y H Q
theorem x_op {op : Operator} {r : R2} (ho : OpR X (binaryOp op) r) (ha : XE X S Γ a Ra) (hb : XE X S Γ b Rb) (h : ∀ d1 d2, Ra d1 → Rb d2 → OpD X.K S r d1 d2 R) : XE X S Γ (.BinOp a op b pos) R :=
  fun B σ H hs hS Q k => PE.w (pe_op ho peW peW) (ha B σ H hs hS _ fun x B1 H1 d1 e1 s1 r1 n1 => hb B1 σ H1 (hs.up e1) s1 _ fun y B2 H2 d2 e2 s2 r2 n2 =>
    h d1 d2 r1 r2 B2 H2 x y s2 (n1.up e2) n2 Q fun v B' H' d e3 s3 r3 n3 => k v B' H' d ((e1.trans e2).trans e3) s3 r3 n3)
theorem x_cmp {op : CmpOp} {r : R2} (ho : OpR X (compareOp op) r) (ha : XE X S Γ a Ra) (hb : XE X S Γ b Rb) (h : ∀ d1 d2, Ra d1 → Rb d2 → OpD X.K S r d1 d2 R) (hm : behindInMarks op b = false) : XE X S Γ (.Compare a [op] [b] pos) R :=
  fun B σ H hs hS Q k => PE.w (pe_cmpR ho peW peW hm) (ha B σ H hs hS _ fun x B1 H1 d1 e1 s1 r1 n1 => hb B1 σ H1 (hs.up e1) s1 _ fun y B2 H2 d2 e2 s2 r2 n2 =>
    h d1 d2 r1 r2 B2 H2 x y s2 (n1.up e2) n2 Q fun v B' H' d e3 s3 r3 n3 => k v B' H' d ((e1.trans e2).trans e3) s3 r3 n3)
/-- .. as a test -/
theorem t_cmp {op : CmpOp} {r : R2} (ho : OpR X (compareOp op) r) (ha : XE X S Γ a Ra) (hb : XE X S Γ b Rb) (h : ∀ d1 d2, Ra d1 → Rb d2 → OpD X.K S r d1 d2 (fun d => ∃ c, d = .b c ∧ P c)) (hm : behindInMarks op b = false) : XT X S Γ (.Compare a [op] [b] pos) P :=
  fun B σ H hs hS Q k => PT.w (pt_cmpR ho peW peW hm) (ha B σ H hs hS _ fun x B1 H1 d1 e1 s1 r1 n1 => hb B1 σ H1 (hs.up e1) s1 _ fun y B2 H2 d2 e2 s2 r2 n2 =>
    h d1 d2 r1 r2 B2 H2 x y s2 (n1.up e2) n2 _ fun v B' H' d e3 s3 ⟨c, ec, r3⟩ n3 => by
      subst ec
      cases n3
      exact ⟨c, rfl, k c B' H' ((e1.trans e2).trans e3) s3 r3⟩)
theorem x_un {op : UnaryOp} {r : V → Hp → VK → Prop} (ho : UnR X (unaryOp op) r) (ha : XE X S Γ a Ra) (h : ∀ d1, Ra d1 → OpD X.K S (fun x _ H Q => r x H Q) d1 .non R) : XE X S Γ (.UnaryOp op a pos) R :=
  fun B σ H hs hS Q k => PE.w (pe_un ho peW) (ha B σ H hs hS _ fun x B1 H1 d1 e1 s1 r1 n1 =>
    h d1 r1 B1 H1 x .non s1 n1 (.v _) Q fun v B' H' d e3 s3 r3 n3 => k v B' H' d (e1.trans e3) s3 r3 n3)

/-- pure: a value that hangs on nothing -/
theorem opd_v {K : PySem.W.Frag} {r : R2} {x y : V} {z : D} {u : V} (hz : ∀ B, Dn K B u z) (h : ∀ (H : Hp) (Q : VK), Q u H → r x y H Q) : OpD K S r (.v x) (.v y) (· = z) := fun B H x' y' hS n1 n2 Q k => by
  cases n1
  cases n2
  exact h H Q (k u B H z (.refl B) hS rfl (hz B))
theorem opd_b {K : PySem.W.Frag} {r : R2} {x y : V} {c : Bool} (h : ∀ (H : Hp) (Q : VK), Q (.bl c) H → r x y H Q) (hP : P c) : OpD K S r (.v x) (.v y) (fun d => ∃ c, d = .b c ∧ P c) := fun B H x' y' hS n1 n2 Q k => by
  cases n1
  cases n2
  exact h H Q (k (.bl c) B H (.b c) (.refl B) hS ⟨c, rfl, hP⟩ (.v _))

/-! #### tests -/
theorem t_val (h : XE X S Γ e (fun d => ∃ c, d = .b c ∧ P c)) (he : ∀ whole, isTrue e X.env whole = (do let v ← whole; standAt e.pos; holding [v] (truthy v)) := by intro _; rfl) : XT X S Γ e P :=
  fun B σ H hs hS Q k => PT.w (pt_val peW he) (h B σ H hs hS _ fun v B' H' d e1 s1 ⟨c, ec, r⟩ n => by
    subst ec
    cases n
    exact ⟨c, rfl, k c B' H' e1 s1 r⟩)
theorem t_not (h : XT X S Γ a P) : XT X S Γ (.UnaryOp .Not a pos) (fun c => P (!c)) := fun B σ H hs hS Q k => PT.w (pt_not ptW) (h B σ H hs hS _ fun c B' H' e1 s1 r => k (!c) B' H' e1 s1 (by show P (!(!c)); rw [Bool.not_not]; exact r))
theorem t_w (h : XW X S Γ e P) : XT X S Γ e P := fun B σ H hs hS Q k => PT.w (PW.pt pwW) (h B σ H hs hS Q k)
theorem w_and1 (h : XT X S Γ a P) : XW X S Γ (.BoolOp .And [a] pos) P := fun B σ H hs hS Q k => PW.w (pw_and1 ptW) (h B σ H hs hS Q k)
theorem w_or1 (h : XT X S Γ a P) : XW X S Γ (.BoolOp .Or [a] pos) P := fun B σ H hs hS Q k => PW.w (pw_or1 ptW) (h B σ H hs hS Q k)
variable {rest : List Expr}
theorem w_and (h : XT X S Γ a P1) (g : P1 true → XW X S Γ (.BoolOp .And (b :: rest) pos) P) (f : P1 false → P false) : XW X S Γ (.BoolOp .And (a :: b :: rest) pos) P := fun B σ H hs hS Q k =>
  PW.w (pw_and ptW pwW) (h B σ H hs hS _ fun c B1 H1 e1 s1 r1 => by
    cases c with
    | true => exact iteT (g r1 B1 σ H1 (hs.up e1) s1 Q fun c B' H' e2 s2 r2 => k c B' H' (e1.trans e2) s2 r2)
    | false => exact iteF (k false B1 H1 e1 s1 (f r1)))
theorem w_or (h : XT X S Γ a P1) (g : P1 false → XW X S Γ (.BoolOp .Or (b :: rest) pos) P) (f : P1 true → P true) : XW X S Γ (.BoolOp .Or (a :: b :: rest) pos) P := fun B σ H hs hS Q k =>
  PW.w (pw_or ptW pwW) (h B σ H hs hS _ fun c B1 H1 e1 s1 r1 => by
    cases c with
    | false => exact iteF (g r1 B1 σ H1 (hs.up e1) s1 Q fun c B' H' e2 s2 r2 => k c B' H' (e1.trans e2) s2 r2)
    | true => exact iteT (k true B1 H1 e1 s1 (f r1)))
/-- and, or, not as values: truth values -/
theorem x_one {op} (h : XE X S Γ a R) : XE X S Γ (.BoolOp op [a] pos) R := fun B σ H hs hS Q k => PE.w (pe_one peW) (h B σ H hs hS Q k)
theorem x_and {c1 : Bool} (h : XE X S Γ a (· = .b c1)) (g : c1 = true → XE X S Γ (.BoolOp .And (b :: rest) pos) R) (f : c1 = false → R (.b false)) : XE X S Γ (.BoolOp .And (a :: b :: rest) pos) R := fun B σ H hs hS Q k =>
  PE.w (pe_and peW peW) (h B σ H hs hS _ fun v B1 H1 d e1 s1 r1 n1 => by
    subst r1
    cases n1
    refine ⟨c1, rfl, ?_⟩
    cases c1 with
    | true => exact iteT (g rfl B1 σ H1 (hs.up e1) s1 Q fun c B' H' d e2 s2 r2 => k c B' H' d (e1.trans e2) s2 r2)
    | false => exact iteF (k _ B1 H1 _ e1 s1 (f rfl) (.v _)))
theorem x_or {c1 : Bool} (h : XE X S Γ a (· = .b c1)) (g : c1 = false → XE X S Γ (.BoolOp .Or (b :: rest) pos) R) (f : c1 = true → R (.b true)) : XE X S Γ (.BoolOp .Or (a :: b :: rest) pos) R := fun B σ H hs hS Q k =>
  PE.w (pe_or peW peW) (h B σ H hs hS _ fun v B1 H1 d e1 s1 r1 n1 => by
    subst r1
    cases n1
    refine ⟨c1, rfl, ?_⟩
    cases c1 with
    | false => exact iteF (g rfl B1 σ H1 (hs.up e1) s1 Q fun c B' H' d e2 s2 r2 => k c B' H' d (e1.trans e2) s2 r2)
    | true => exact iteT (k _ B1 H1 _ e1 s1 (f rfl) (.v _)))
theorem x_not {c1 : Bool} (h : XE X S Γ a (· = .b c1)) : XE X S Γ (.UnaryOp .Not a pos) (· = .b (!c1)) := fun B σ H hs hS Q k =>
  PE.w (pe_not peW) (h B σ H hs hS _ fun v B1 H1 d e1 s1 r1 n1 => by
    subst r1
    cases n1
    exact ⟨c1, rfl, k _ B1 H1 _ e1 s1 rfl (.v _)⟩)
theorem x_ifE (h : XT X S Γ c P) (g : P true → XE X S Γ a R) (f : P false → XE X S Γ b R) : XE X S Γ (.IfExp c a b pos) R := fun B σ H hs hS Q k =>
  PE.w (pe_ifExp ptW peW peW) (h B σ H hs hS _ fun c B1 H1 e1 s1 r1 => by
    cases c with
    | true => exact iteT (g r1 B1 σ H1 (hs.up e1) s1 Q fun c B' H' d e2 s2 r2 => k c B' H' d (e1.trans e2) s2 r2)
    | false => exact iteF (f r1 B1 σ H1 (hs.up e1) s1 Q fun c B' H' d e2 s2 r2 => k c B' H' d (e1.trans e2) s2 r2))

/-! #### arguments, displays -/
variable {es : List Expr} {RA : List D → Prop}
theorem a_nil : XA X S Γ [] (· = []) := fun B σ H hs hS Q k => PA.w pa_nil (k [] B H [] (.refl B) hS rfl .nil)
theorem a_cons (h : XE X S Γ e R) (g : XA X S Γ es RA) (hs : starEach (e :: es) X.env = (false, eval e X.env) :: starEach es X.env := by rfl) : XA X S Γ (e :: es) (fun ds => ∃ d ds', ds = d :: ds' ∧ R d ∧ RA ds') := fun B σ H hsl hS Q k =>
  PA.w (pa_cons peW paW hs) (h B σ H hsl hS _ fun v B1 H1 d e1 s1 r1 n1 => g B1 σ H1 (hsl.up e1) s1 _ fun xs B2 H2 ds e2 s2 r2 n2 =>
    k (v :: xs) B2 H2 (d :: ds) (e1.trans e2) s2 ⟨d, ds, rfl, r1, r2⟩ (.cons (n1.up e2) n2))
/-- each by one data -/
theorem a_consD {ds : List D} (h : XE X S Γ e (· = d)) (g : XA X S Γ es (· = ds)) (hs : starEach (e :: es) X.env = (false, eval e X.env) :: starEach es X.env := by rfl) : XA X S Γ (e :: es) (· = d :: ds) := fun B σ H hsl hS Q k =>
  a_cons h g hs B σ H hsl hS Q fun xs B' H' ds' e1 s1 ⟨d', es', ed, ea, eb⟩ n => k xs B' H' ds' e1 s1 (by rw [ed, ea, eb]) n
theorem a_imp {RB : List D → Prop} (h : XA X S Γ es RA) (w : ∀ d, RA d → RB d) : XA X S Γ es RB := fun B σ H hs hS Q k => h B σ H hs hS Q fun x B' H' d e1 s1 r n => k x B' H' d e1 s1 (w d r) n
theorem x_tup [SOk S] {x1} (h : XA X S Γ es RA) (hl : ∀ ds, RA ds → ds.length ≤ 1000) : XE X S Γ (.Tuple es x1 pos) (fun d => ∃ ds, d = .tup ds ∧ RA ds) := fun B σ H hs hS Q k =>
  PE.w (pe_tup paW) (h B σ H hs hS _ fun xs B1 H1 ds e1 s1 r1 n1 => ⟨Nat.le_trans (by rw [n1.length]; exact hl ds r1) (by decide), fun q hq =>
    k (.ref q) _ _ (.tup ds) (e1.trans (SOk.bex s1 hq)) (SOk.new s1 hq) ⟨ds, rfl, r1⟩ (.tup (SqT.of upd_same) (n1.up (SOk.bex s1 hq)))⟩)
theorem x_lst [SOk S] (h : XA X S Γ es RA) (hl : ∀ ds, RA ds → ds.length ≤ 1000) : XE X S Γ (.List es pos) (fun d => ∃ ds, d = .lst ds ∧ RA ds) := fun B σ H hs hS Q k =>
  PE.w (pe_lst paW) (h B σ H hs hS _ fun xs B1 H1 ds e1 s1 r1 n1 => ⟨Nat.le_trans (by rw [n1.length]; exact hl ds r1) (by decide), fun q hq =>
    k (.ref q) _ _ (.lst ds) (e1.trans (SOk.bex s1 hq)) (SOk.new s1 hq) ⟨ds, rfl, r1⟩ (.lst (SqL.of upd_same) (n1.up (SOk.bex s1 hq)))⟩)
theorem x_tupD [SOk S] {x1} {ds : List D} (h : XA X S Γ es (· = ds)) (hl : ds.length ≤ 1000 := by decide) : XE X S Γ (.Tuple es x1 pos) (· = .tup ds) := (x_tup h fun _ q => q ▸ hl).imp fun _ ⟨_, q, r⟩ => by rw [q, r]
theorem x_lstD [SOk S] {ds : List D} (h : XA X S Γ es (· = ds)) (hl : ds.length ≤ 1000 := by decide) : XE X S Γ (.List es pos) (· = .lst ds) := (x_lst h fun _ q => q ▸ hl).imp fun _ ⟨_, q, r⟩ => by rw [q, r]
end
end Z

/-! Statements, loops, comprehensions, calls, by data. -/
namespace Z
open PySem PySem.Spec PyProof.Rows L2

/-! ### frames upon frames -/
def keep (B0 : Hp) (S : SRel) : SRel := fun B H => Ex B0 B ∧ S B H
instance {B0 : Hp} {S : SRel} [SOk S] : SOk (keep B0 S) := ⟨fun h => SOk.sub h.2, fun h q => ⟨h.1.trans (SOk.bex h.2 q), SOk.new h.2 q⟩⟩
def del (H : Hp) (l : Addr) : Hp := fun a => if a = l then none else H a
theorem del_same {H : Hp} {l : Addr} : del H l l = none := if_pos rfl
theorem del_ne {H : Hp} {l a : Addr} (h : a ≠ l) : del H l a = H a := if_neg h
theorem del_upd_same {H : Hp} {l : Addr} {o : HO} : del (upd H l o) l = del H l := by
  funext a; unfold del; split
  · rfl
  · rename_i h; rw [upd_ne h]
theorem del_upd_ne {H : Hp} {l p : Addr} {o : HO} (h : p ≠ l) : del (upd H p o) l = upd (del H l) p o := by
  funext a
  by_cases ha : a = l
  · subst ha; rw [del_same, upd_ne (Ne.symm h), del_same]
  · rw [del_ne ha]
    by_cases hp : a = p
    · subst hp; rw [upd_same, upd_same]
    · rw [upd_ne hp, upd_ne hp, del_ne ha]
theorem upd_del {H : Hp} {l : Addr} {o : HO} (h : H l = some o) : upd (del H l) l o = H := by
  funext a
  by_cases ha : a = l
  · subst ha; rw [upd_same, h]
  · rw [upd_ne ha, del_ne ha]
theorem del_none {H : Hp} {l : Addr} (h : H l = none) : del H l = H := by
  funext a
  by_cases ha : a = l
  · subst ha; rw [del_same, h]
  · rw [del_ne ha]
/-- a thing of one's own at l: φ B o -/
def own (K : PySem.W.Frag) (l : Addr) (ds : List D) (S : SRel) : SRel := fun B H => ∃ xs, H l = some (.lst xs) ∧ DnA K B xs ds ∧ B l = none ∧ S B (del H l)
instance {K : PySem.W.Frag} {l : Addr} {ds : List D} {S : SRel} [SOk S] : SOk (own K l ds S) := ⟨fun {B H} h => by
    obtain ⟨xs, a, b, c, d⟩ := h
    intro p o e
    have ne : p ≠ l := fun q => by rw [q, c] at e; cases e
    have := SOk.sub d p o e
    rwa [del_ne ne] at this, fun {B H p o} h q => by
    obtain ⟨xs, a, b, c, d⟩ := h
    have ne : p ≠ l := fun z => by rw [z, a] at q; cases q
    have q' : del H l p = none := by rw [del_ne ne]; exact q
    exact ⟨xs, by rw [upd_ne (Ne.symm ne)]; exact a, b.up (SOk.bex d q'), by rw [upd_ne (Ne.symm ne)]; exact c, by rw [del_upd_ne ne]; exact SOk.new d q'⟩⟩
/-- S gives T, some more of it unchanging -/
class Le (S T : SRel) : Prop where
  le : ∀ {B H}, S B H → ∃ B', Ex B B' ∧ T B' H
instance (S : SRel) : Le S S := ⟨fun h => ⟨_, .refl _, h⟩⟩
instance {B0 : Hp} {S T : SRel} [Le S T] : Le (keep B0 S) T := ⟨fun h => Le.le h.2⟩
theorem own_out {K : PySem.W.Frag} {l : Addr} {ds : List D} {S : SRel} [SOk S] {B H : Hp} (h : own K l ds S B H) : ∃ xs, S (upd B l (.lst xs)) H ∧ Ex B (upd B l (.lst xs)) ∧ Dn K (upd B l (.lst xs)) (.ref l) (.lst ds) := by
  obtain ⟨xs, a, b, c, d⟩ := h
  have e := Ex.new (o := .lst xs) c
  have s := SOk.new (o := .lst xs) d del_same
  rw [upd_del a] at s
  exact ⟨xs, s, e, .lst (SqL.of upd_same) (b.up e)⟩
instance {K : PySem.W.Frag} {l : Addr} {ds : List D} {S T : SRel} [SOk S] [Le S T] : Le (own K l ds S) T := ⟨fun h => by
  obtain ⟨xs, s, e, _⟩ := own_out h
  obtain ⟨B', e', t⟩ := Le.le (T := T) s
  exact ⟨B', e.trans e', t⟩⟩
/-- S holds, at l, a list of ds of its own; S' ds' is S with ds' there -/
class Has (K : PySem.W.Frag) (l : Addr) (S : SRel) (ds : List D) (S' : List D → SRel) : Prop where
  get : ∀ {B H}, S B H → ∃ xs, H l = some (.lst xs) ∧ DnA K B xs ds
  put : ∀ {B H xs ds'}, S B H → DnA K B xs ds' → S' ds' B (upd H l (.lst xs))
instance (K : PySem.W.Frag) (l : Addr) (S : SRel) (ds : List D) : Has K l (own K l ds S) ds (fun ds' => own K l ds' S) := ⟨fun ⟨xs, a, b, _⟩ => ⟨xs, a, b⟩, fun ⟨_, _, _, c, d⟩ r => ⟨_, upd_same, r, c, by rw [del_upd_same]; exact d⟩⟩
instance {K : PySem.W.Frag} {l : Addr} {S : SRel} {ds : List D} {S' : List D → SRel} {B0 : Hp} [h : Has K l S ds S'] : Has K l (keep B0 S) ds (fun ds' => keep B0 (S' ds')) := ⟨fun q => h.get q.2, fun q r => ⟨q.1, h.put q.2 r⟩⟩
theorem has_skip {K : PySem.W.Frag} {l m : Addr} {S : SRel} {ds es : List D} {S' : List D → SRel} (hne : l ≠ m) [h : Has K l S ds S'] : Has K l (own K m es S) ds (fun ds' => own K m es (S' ds')) := ⟨fun ⟨xs, a, b, c, d⟩ => by
    obtain ⟨ys, p, q⟩ := h.get d
    rw [del_ne hne] at p
    exact ⟨ys, p, q⟩, fun ⟨xs, a, b, c, d⟩ r => ⟨xs, by rw [upd_ne (Ne.symm hne)]; exact a, b, c, by rw [del_upd_ne hne]; exact h.put d r⟩⟩

/-! ### targets -/
section
variable (X : Cx)
def wG (tg : Expr) : TG := fun v σ H Q => ∀ (pins : List (Addr × Obj)) (s : Shared) (u : Value), Inv X pins σ H s → RelV v u → wpAny (model X.prog X.w) X.A (assign tg X.env u) (fun _ s' => ∃ σ' H', Inv X pins σ' H' s' ∧ Q σ' H') X.xe s
def wGs (ts : List Expr) : TGs := fun vs σ H Q => ∀ (pins : List (Addr × Obj)) (s : Shared) (us : List Value), Inv X pins σ H s → Vals vs us → wpAny (model X.prog X.w) X.A (assignInOrder ((assignEach ts X.env).map (·.2)) us) (fun _ s' => ∃ σ' H', Inv X pins σ' H' s' ∧ Q σ' H') X.xe s
def wI (tg iter : Expr) : TI := fun σ H R => ∀ (pins : List (Addr × Obj)) (s : Shared), Inv X pins σ H s → wpAny (model X.prog X.w) X.A (eval iter X.env) (fun v s1 => wpAny (model X.prog X.w) X.A (pyIter v) (PIE X pins σ tg R) X.xe s1) X.xe s
def wTs (ifs : List Expr) : TT := fun σ H Q => ∀ (pins : List (Addr × Obj)) (s : Shared), Inv X pins σ H s →
    wpAny (model X.prog X.w) X.A (forIn ifs true fun c r => if r = true then do let ok ← isTrue c X.env (eval c X.env); pure (ForInStep.yield ok) else pure (ForInStep.yield r)) (TP X pins σ Q) X.xe s
end
section
variable {X : Cx}
theorem pgW {e : Expr} : PG X e (wG X e) := ⟨fun pins s _ _ _ u _ I r h => h pins s u I r⟩
theorem pgsW {e : List Expr} : PGs X e (wGs X e) := ⟨fun pins s _ _ _ u _ I r h => h pins s u I r⟩
theorem piW {tg e : Expr} : PI X tg e (wI X tg e) := ⟨fun pins s _ _ _ I h => h pins s I⟩
theorem ptsW {e : List Expr} : PTs X e (wTs X e) := ⟨fun pins s _ _ _ I h => h pins s I⟩
theorem PG.w {e : Expr} {t : TG} (h : PG X e t) {σ : L2.St} {H : Hp} {v : V} {Q : L2.St → Hp → Prop} (q : t v σ H Q) : wG X e v σ H Q := fun pins s u I r => h.run pins s σ H v u Q I r q
theorem PGs.w {e : List Expr} {t : TGs} (h : PGs X e t) {σ : L2.St} {H : Hp} {v : List V} {Q : L2.St → Hp → Prop} (q : t v σ H Q) : wGs X e v σ H Q := fun pins s u I r => h.run pins s σ H v u Q I r q
theorem PI.w {tg e : Expr} {t : TI} (h : PI X tg e t) {σ : L2.St} {H : Hp} {Q : It → Hp → Prop} (q : t σ H Q) : wI X tg e σ H Q := fun pins s I => h.run pins s σ H Q I q
theorem PTs.w {e : List Expr} {t : TT} (h : PTs X e t) {σ : L2.St} {H : Hp} {Q : Bool → Hp → Prop} (q : t σ H Q) : wTs X e σ H Q := fun pins s I => h.run pins s σ H Q I q
end
/-- storing data d at the target turns Γ into Γ'; ws: the slots written -/
def But (ws : List Nat) (σ σ' : L2.St) : Prop := σ'.length = σ.length ∧ ∀ i, i ∉ ws → σ'[i]? = σ[i]?
theorem But.refl (σ : L2.St) : But [] σ σ := ⟨rfl, fun _ _ => rfl⟩
theorem But.set (σ : L2.St) (i : Nat) (x : Option V) : But [i] σ (σ.set i x) := ⟨by simp, fun j hj => List.getElem?_set_ne (fun e => hj (by simp [e]))⟩
theorem But.trans {ws vs : List Nat} {a b c : L2.St} (x : But ws a b) (y : But vs b c) : But (ws ++ vs) a c := ⟨y.1.trans x.1, fun i hi => (y.2 i fun z => hi (List.mem_append_right _ z)).trans (x.2 i fun z => hi (List.mem_append_left _ z))⟩
def XG (X : Cx) (Γ : Gm) (tg : Expr) (d : D) (Γ' : Gm) (ws : List Nat) : Prop := ∀ (B : Hp) (σ : L2.St) (H : Hp) (v : V), Sl X.K B σ Γ → Ex B H → Dn X.K B v d → ∀ Q : L2.St → Hp → Prop, (∀ σ', Sl X.K B σ' Γ' → But ws σ σ' → Q σ' H) → wG X tg v σ H Q
def XGs (X : Cx) (Γ : Gm) (ts : List Expr) (ds : List D) (Γ' : Gm) (ws : List Nat) : Prop := ∀ (B : Hp) (σ : L2.St) (H : Hp) (vs : List V), Sl X.K B σ Γ → Ex B H → DnA X.K B vs ds → ∀ Q : L2.St → Hp → Prop, (∀ σ', Sl X.K B σ' Γ' → But ws σ σ' → Q σ' H) → wGs X ts vs σ H Q
section
variable {X : Cx} {S : SRel} {Γ Γ' Γ'' : Gm} {e : Expr} {es : List Expr} {d : D} {ds : List D} {pos : Pos} {ws vs : List Nat}
theorem g_name (i : Nat) {x : Str} (hN : X.N.Nodup) (hi : X.N[i]? = some x := by rfl) (hx : Loc X.env.scope x := by first | exact Or.inl rfl | exact Or.inr rfl) (hf : X.fn x = true ∨ X.env.scope.names.lookup x = some .local := by first | exact .inl rfl | exact .inr rfl) : XG X Γ (.Name x pos) d (Γ.set i (some d)) [i] :=
  fun B σ H v hs _ hd Q k => PG.w (pg_name (i := i) hN hi hx hf) (k _ (hs.set i hd) (.set σ i _))
theorem gs_nil : XGs X Γ [] [] Γ [] := fun B σ H vs hs _ hd Q k => by
  cases hd
  exact PGs.w pgs_nil ⟨rfl, k σ hs (.refl σ)⟩
theorem gs_cons (h : XG X Γ e d Γ' ws) (g : XGs X Γ' es ds Γ'' vs) (hs : (assignEach (e :: es) X.env).map (·.2) = assign e X.env :: (assignEach es X.env).map (·.2) := by rfl) : XGs X Γ (e :: es) (d :: ds) Γ'' (ws ++ vs) := fun B σ H vs hsl hx hd Q k => by
  cases hd with
  | cons r rr => exact PGs.w (pgs_cons pgW pgsW hs) ⟨_, _, rfl, h B σ H _ hsl hx r _ fun σ' s' b' => g B σ' H _ s' hx rr Q fun σ2 s2 b2 => k σ2 s2 (b'.trans b2)⟩
theorem g_tup {j : Nat} (hc : X.calm = true) (h : XGs X Γ es ds Γ' ws) (hn : (assignEach es X.env).length = ds.length := by rfl) (hst : (assignEach es X.env).findIdx? (·.1) = none := by rfl) : XG X Γ (.Tuple es j pos) (.tup ds) Γ' ws := fun B σ H v hs hx hd Q k => by
  cases hd with
  | tup q r => exact PG.w (pg_tup (n := ds.length) hc pgsW hn hst) ⟨_, _, rfl, hx.sqT q, r.length, h B σ H _ hs hx r Q k⟩
end

/-! ### what is walked, by data: n turns, Y i what comes at turn i -/
structure DW (K : PySem.W.Frag) (J : It) (n : Nat) (B0 : Hp) (Y : Nat → D → Prop) : Prop where
  goes : ∀ (i : Nat) (B H : Hp), i < n → Ex B0 B → Ex B H → J.go i H
  stops : ∀ (B H : Hp), Ex B0 B → Ex B H → J.stop n H
  gives : ∀ (i : Nat) (B H : Hp) (x : V) (H' : Hp) (S : SRel) [SOk S], i < n → Ex B0 B → S B H → J.yld i H x H' → ∃ B' d, Ex B B' ∧ S B' H' ∧ Y i d ∧ Dn K B' x d
def XI (X : Cx) (S : SRel) (Γ : Gm) (tg iter : Expr) (n : Nat) (Y : Nat → D → Prop) : Prop := ∀ (B : Hp) (σ : L2.St) (H : Hp), Sl X.K B σ Γ → S B H → ∀ R : It → Hp → Prop,
  (∀ J B' H', Ex B B' → S B' H' → DW X.K J n B' Y → R J H') → wI X tg iter σ H R
section
variable {X : Cx} {S : SRel} {Γ : Gm} {e tg : Expr} {ds : List D} {pos p : Pos}
theorem dw_at {K : PySem.W.Frag} {B0 : Hp} {xs : List V} (r : DnA K B0 xs ds) {i : Nat} {B H : Hp} {x : V} {S : SRel} (e0 : Ex B0 B) (s : S B H) (hx : xs[i]? = some x) : ∃ B' d, Ex B B' ∧ S B' H ∧ ds[i]? = some d ∧ Dn K B' x d := by
  obtain ⟨d, q, n⟩ := r.getV hx
  exact ⟨B, d, .refl B, s, q, n.up e0⟩
theorem i_list [SOk S] (h : XE X S Γ e (· = .lst ds)) : XI X S Γ tg e ds.length (fun i d => ds[i]? = some d) := fun B σ H hs hS R k => PI.w (pi_list peW) (h B σ H hs hS _ fun v B1 H1 d e1 s1 r1 n1 => by
  subst r1
  cases n1 with
  | @lst a xs _ q r =>
    refine ⟨a, rfl, ⟨xs, (SOk.sub s1).sqL q⟩, k _ B1 H1 e1 s1 ⟨fun i B H hi e0 eh => ⟨xs, xs[i]'(by rw [r.length]; exact hi), (e0.trans eh).sqL q, by simp [r.length, hi]⟩, fun B H e0 eh => ⟨xs, (e0.trans eh).sqL q, by rw [r.length]; exact Nat.le_refl _⟩, fun i B H x H' S _ hi e0 s y => ?_⟩⟩
    obtain ⟨rfl, y2⟩ := y
    exact dw_at r e0 s (y2 xs ((e0.trans (SOk.sub s)).sqL q)))
theorem i_tup [SOk S] (h : XE X S Γ e (· = .tup ds)) : XI X S Γ tg e ds.length (fun i d => ds[i]? = some d) := fun B σ H hs hS R k => PI.w (pi_tup peW) (h B σ H hs hS _ fun v B1 H1 d e1 s1 r1 n1 => by
  subst r1
  cases n1 with
  | @tup a xs _ q r =>
    refine ⟨a, rfl, ⟨xs, (SOk.sub s1).sqT q⟩, k _ B1 H1 e1 s1 ⟨fun i B H hi e0 eh => ⟨xs, xs[i]'(by rw [r.length]; exact hi), (e0.trans eh).sqT q, by simp [r.length, hi]⟩, fun B H e0 eh => ⟨xs, (e0.trans eh).sqT q, by rw [r.length]; exact Nat.le_refl _⟩, fun i B H x H' S _ hi e0 s y => ?_⟩⟩
    obtain ⟨rfl, y2⟩ := y
    exact dw_at r e0 s (y2 xs ((e0.trans (SOk.sub s)).sqT q)))
theorem dw_fn {K : PySem.W.Frag} {B0 : Hp} {J : It} {n : Nat} {f : Nat → V} (h1 : ∀ i H, i < n → J.go i H) (h2 : ∀ H, J.stop n H) (h3 : ∀ i H x H', J.yld i H x H' → H' = H ∧ x = f i) : DW K J n B0 (fun i d => d = .v (f i)) :=
  ⟨fun i B H hi _ _ => h1 i H hi, fun B H _ _ => h2 H, fun i B H x H' S _ hi e0 s y => by
    obtain ⟨rfl, rfl⟩ := h3 i H x H' y
    exact ⟨B, _, .refl B, s, rfl, .v _⟩⟩
theorem i_range1 {n : Int} (h : XE X S Γ e (· = .i n)) (hz : -(2 ^ 62) ≤ n ∧ n < 2 ^ 62) (hm : X.mg "range" = none) (hg : Gl X "range" := by rfl) (hs : starEach [e] X.env = [(false, eval e X.env)] := by rfl) :
    XI X S Γ tg (.Call (.Name "range" p) [e] [] pos) n.toNat (fun i d => d = .i (i : Int)) := fun B σ H hsl hS R k => PI.w (pi_range1 hg hm (pa_cons peW pa_nil hs) hs) (h B σ H hsl hS _ fun v B1 H1 d e1 s1 r1 n1 => by
  subst r1
  cases n1
  refine ⟨n, rfl, hz.1, hz.2, k _ B1 H1 e1 s1 (dw_fn (f := fun i => .int (i : Int)) (fun i H hi => hi) (fun _ => Nat.le_refl _) fun i H x H' y => ⟨y.1, ?_⟩)⟩
  rw [y.2, Int.zero_add])
theorem i_range2 {lo n : Int} {e2 : Expr} (h : XE X S Γ e (· = .i lo)) (h2 : XE X S Γ e2 (· = .i n)) (hz : -(2 ^ 62) ≤ lo ∧ lo < 2 ^ 62 ∧ -(2 ^ 62) ≤ n ∧ n < 2 ^ 62) (hm : X.mg "range" = none) (hg : Gl X "range" := by rfl)
    (hs : starEach [e, e2] X.env = [(false, eval e X.env), (false, eval e2 X.env)] := by rfl) (hs2 : starEach [e2] X.env = [(false, eval e2 X.env)] := by rfl) :
    XI X S Γ tg (.Call (.Name "range" p) [e, e2] [] pos) (n - lo).toNat (fun i d => d = .i (lo + (i : Int))) := fun B σ H hsl hS R k =>
  PI.w (pi_range2 hg hm (pa_cons peW (pa_cons peW pa_nil hs2) (by rw [hs, hs2])) hs hs2) (h B σ H hsl hS _ fun v B1 H1 d e1 s1 r1 n1 => h2 B1 σ H1 (hsl.up e1) s1 _ fun v2 B2 H2 d2 e2 s2 r2 n2 => by
  subst r1 r2
  cases n1
  cases n2
  exact ⟨lo, n, rfl, hz, k _ B2 H2 (e1.trans e2) s2 (dw_fn (f := fun i => .int (lo + (i : Int))) (fun i H hi => hi) (fun _ => Nat.le_refl _) fun i H x H' y => ⟨y.1, y.2⟩)⟩)
theorem i_str {z : Str} (h : XE X S Γ e (· = .s z)) : XI X S Γ tg e z.cps.size (fun i d => ∃ c, z.cps[i]? = some c ∧ d = .s ⟨#[c]⟩) := fun B σ H hsl hS R k => PI.w (pi_str peW) (h B σ H hsl hS _ fun v B1 H1 d e1 s1 r1 n1 => by
  subst r1
  cases n1
  refine ⟨z, rfl, k _ B1 H1 e1 s1 ⟨fun i B H hi _ _ => hi, fun B H _ _ => Nat.le_refl _, fun i B H x H' S _ hi e0 s y => ?_⟩⟩
  obtain ⟨rfl, c, hc, rfl⟩ := y
  exact ⟨B, _, .refl B, s, ⟨c, hc, rfl⟩, .v _⟩)
theorem dw_pair {K : PySem.W.Frag} {B0 : Hp} {J : It} {n : Nat} {f g : Nat → Option D} (h1 : ∀ i B H, i < n → Ex B0 B → Ex B H → J.go i H) (h2 : ∀ B H, Ex B0 B → Ex B H → J.stop n H)
    (h3 : ∀ i B H x H', i < n → Ex B0 B → Ex B H → J.yld i H x H' → ∃ T y z a b, x = .ref T ∧ H T = none ∧ H' = upd H T (.tup [y, z]) ∧ f i = some a ∧ g i = some b ∧ Dn K B y a ∧ Dn K B z b) :
    DW K J n B0 (fun i d => ∃ a b, f i = some a ∧ g i = some b ∧ d = .tup [a, b]) := ⟨h1, h2, fun i B H x H' S _ hi e0 s y => by
  obtain ⟨T, u, z, a, b, rfl, hT, rfl, fa, gb, na, nb⟩ := h3 i B H x H' hi e0 (SOk.sub s) y
  have e := SOk.bex (o := .tup [u, z]) s hT
  exact ⟨_, _, e, SOk.new s hT, ⟨a, b, fa, gb, rfl⟩, .tup (SqT.of upd_same) (.cons (na.up e) (.cons (nb.up e) .nil))⟩⟩
theorem i_enumL [SOk S] {elts : List Expr} {j : Nat} {tpos : Pos} (h : XE X S Γ e (· = .lst ds)) (hm : X.mg "enumerate" = none) (hg : Gl X "enumerate" := by rfl) (hs : starEach [e] X.env = [(false, eval e X.env)] := by rfl) :
    XI X S Γ (.Tuple elts j tpos) (.Call (.Name "enumerate" p) [e] [] pos) ds.length (fun i d => ∃ a b, some (D.i (i : Int)) = some a ∧ ds[i]? = some b ∧ d = .tup [a, b]) := fun B σ H hsl hS R k =>
  PI.w (pi_enum hg hm (pa_cons peW pa_nil hs) hs) (h B σ H hsl hS _ fun v B1 H1 d e1 s1 r1 n1 => by
    subst r1
    cases n1 with
    | @lst a xs _ q r =>
      refine ⟨a, xs, rfl, (SOk.sub s1).sqL q, k _ B1 H1 e1 s1 (dw_pair (f := fun i => some (D.i (i : Int))) (g := fun i => ds[i]?) (fun i B H hi e0 eh => ⟨xs, xs[i]'(by rw [r.length]; exact hi), (e0.trans eh).sqL q, by simp [r.length, hi]⟩) (fun B H e0 eh => ⟨xs, (e0.trans eh).sqL q, by rw [r.length]; exact Nat.le_refl _⟩) fun i B H x H' hi e0 eh y => ?_)⟩
      obtain ⟨T, z, h1, h2, h3, h4⟩ := y
      obtain ⟨c, hc, hn⟩ := r.getV (h4 xs ((e0.trans eh).sqL q))
      exact ⟨T, .int (i : Nat), z, .i (i : Int), c, h1, h2, h3, rfl, hc, .v _, hn.up e0⟩)
theorem i_zipL [SOk S] {elts : List Expr} {j : Nat} {tpos : Pos} {e2 : Expr} {es : List D} (h : XE X S Γ e (· = .lst ds)) (h2 : XE X S Γ e2 (· = .lst es)) (hm : X.mg "zip" = none) (hg : Gl X "zip" := by rfl)
    (hs : starEach [e, e2] X.env = (false, eval e X.env) :: starEach [e2] X.env := by rfl) (hpl : (backTo pos (starEach [e2] X.env)).any (·.1) = false := by rfl) (hs2 : starEach [e2] X.env = (false, eval e2 X.env) :: starEach [] X.env := by rfl) :
    XI X S Γ (.Tuple elts j tpos) (.Call (.Name "zip" p) [e, e2] [] pos) (min ds.length es.length) (fun i d => ∃ a b, ds[i]? = some a ∧ es[i]? = some b ∧ d = .tup [a, b]) := fun B σ H hsl hS R k =>
  PI.w (pi_zip hg hm (pa_cons peW (pa_cons peW pa_nil hs2) hs) hs hpl) (h B σ H hsl hS _ fun v B1 H1 d e1 s1 r1 n1 => h2 B1 σ H1 (hsl.up e1) s1 _ fun v2 B2 H2 d2 e2 s2 r2 n2 => by
    subst r1 r2
    cases n1 with
    | @lst a xs _ q r =>
      cases n2 with
      | @lst b ys _ q2 r2 =>
        refine ⟨a, b, xs, ys, rfl, ((e2.trans (SOk.sub s2))).sqL q, (SOk.sub s2).sqL q2, k _ B2 H2 (e1.trans e2) s2 (dw_pair (f := fun i => ds[i]?) (g := fun i => es[i]?) (fun i B H hi e0 eh => ⟨xs, ys, xs[i]'(by rw [r.length]; omega), ys[i]'(by rw [r2.length]; omega), ((e2.trans e0).trans eh).sqL q, (e0.trans eh).sqL q2, by (simp [r.length] <;> omega), by (simp [r2.length] <;> omega)⟩)
          (fun B H e0 eh => ⟨xs, ys, ((e2.trans e0).trans eh).sqL q, (e0.trans eh).sqL q2, by rw [r.length, r2.length]; omega⟩) fun i B H x H' hi e0 eh y => ?_)⟩
        obtain ⟨T, u, w, h1, h2, h3, h4, h5⟩ := y
        obtain ⟨c, hc, hn⟩ := r.getV (h4 xs (((e2.trans e0).trans eh).sqL q))
        obtain ⟨c2, hc2, hn2⟩ := r2.getV (h5 ys ((e0.trans eh).sqL q2))
        exact ⟨T, u, w, c, c2, h1, h2, h3, hc, hc2, hn.up (e2.trans e0), hn2.up e0⟩)
end

/-! ### statements -/
section
variable {X : Cx} {S : SRel} {Γ : Gm} {e c : Expr} {pos p : Pos} {R : D → Prop} {d : D} {P : Bool → Prop} {rest body orelse : List Stmt} {E : Ends}
theorem s_nil (h : ∀ σ H, At X.K S Γ σ H → E.nx σ H) : XS X S Γ [] E := fun B σ H hs hS => PSs.w pss_nil (h σ H ⟨B, hs, hS⟩)
theorem s_weak {S' : SRel} {Γ' : Gm} (h : XS X S' Γ' rest E) (w : ∀ σ H, At X.K S Γ σ H → At X.K S' Γ' σ H) : XS X S Γ rest E := fun B σ H hs hS => let ⟨B', a, b⟩ := w σ H ⟨B, hs, hS⟩; h B' σ H a b
/-- the end of a branch: what stands behind goes on -/
theorem s_on {nx : L2.St → Hp → Prop} {rt : VK} {bk ct : L2.St → Hp → Prop} (h : XS X S Γ rest E) : XS X S Γ [] ⟨wSs X rest E, rt, bk, ct⟩ := s_nil fun σ H ⟨B, a, b⟩ => h B σ H a b
/-- name = e -/
theorem s_set (i : Nat) {x : Str} {pos' : Pos} (hN : X.N.Nodup) (he : XE X S Γ e R) (k : ∀ d, R d → XS X S (Γ.set i (some d)) rest E) (hi : X.N[i]? = some x := by rfl) (hx : Loc X.env.scope x := by first | exact Or.inl rfl | exact Or.inr rfl)
    (hs : swapsWith e (some (.Name x pos')) pos.line X.env = pure false := by rfl) (hf : X.fn x = true ∨ X.env.scope.names.lookup x = some .local := by first | exact .inl rfl | exact .inr rfl) : XS X S Γ (.Assign [.Name x pos'] e pos :: rest) E := fun B σ H hsl hS =>
  PSs.w (pss_cons (ps_set (i := i) hN hi hx peW hs hf) pssW) (he B σ H hsl hS _ fun v B1 H1 d e1 s1 r1 n1 => k d r1 B1 _ H1 ((hsl.up e1).set i n1) s1)
/-- target = e -/
theorem s_asg {tg : Expr} (he : XE X S Γ e R) (k : ∀ d, R d → ∃ Γ' ws, XG X Γ tg d Γ' ws ∧ XS X S Γ' rest E) [SOk S] (hs : swapsWithSole [tg] e pos.line X.env = pure false := by rfl) (hw : swappedStores [tg] e X.env = pure none := by rfl)
    (h1 : (assignEach [tg] X.env).map (·.2) = [assign tg X.env] := by rfl) : XS X S Γ (.Assign [tg] e pos :: rest) E := fun B σ H hsl hS =>
  PSs.w (pss_cons (ps_asg peW pgW hs hw h1) pssW) (he B σ H hsl hS _ fun v B1 H1 d e1 s1 r1 n1 => by
    obtain ⟨Γ', ws, g, q⟩ := k d r1
    exact g B1 σ H1 v (hsl.up e1) (SOk.sub s1) n1 _ fun σ' s' _ => q B1 σ' H1 s' s1)
/-- a, b = e1, e2 (two locals) -/
theorem s_par (i j : Nat) {x y : Str} {a b : Expr} {px py pt : Pos} {kt k2 pt2} {Ra Rb : D → Prop} (hc : X.calm = true) (hN : X.N.Nodup) (ha : XE X S Γ a Ra) (hb : XE X S Γ b Rb) (k : ∀ d1 d2, Ra d1 → Rb d2 → XS X S ((Γ.set i (some d1)).set j (some d2)) rest E)
    (hij : i ≠ j := by decide) (hi : X.N[i]? = some x := by rfl) (hj : X.N[j]? = some y := by rfl) (hx : X.env.scope.names.lookup x = some .local := by rfl) (hy : X.env.scope.names.lookup y = some .local := by rfl)
    (hw : swappedStores [.Tuple [.Name x px, .Name y py] kt pt] (.Tuple [a, b] k2 pt2) X.env = pure (some [x, y]) := by rfl) (h1 : starEach [a, b] X.env = (false, eval a X.env) :: starEach [b] X.env := by rfl) (h2 : starEach [b] X.env = (false, eval b X.env) :: starEach [] X.env := by rfl)
    (hs : swapsWithSole [.Tuple [.Name x px, .Name y py] kt pt] (.Tuple [a, b] k2 pt2) pos.line X.env = pure false := by rfl) : XS X S Γ (.Assign [.Tuple [.Name x px, .Name y py] kt pt] (.Tuple [a, b] k2 pt2) pos :: rest) E := fun B σ H hsl hS =>
  PSs.w (pss_cons (ps_par hc hN hi hj hij hx hy (pa_cons peW (pa_cons peW pa_nil h2) h1) hw hs) pssW) (ha B σ H hsl hS _ fun v B1 H1 d e1 s1 r1 n1 => hb B1 σ H1 (hsl.up e1) s1 _ fun v2 B2 H2 d2 e2 s2 r2 n2 =>
    ⟨v, v2, rfl, k d d2 r1 r2 B2 _ H2 (((hsl.up (e1.trans e2)).set i (n1.up e2)).set j n2) s2⟩)
theorem s_drop (he : XE X S Γ e R) (k : XS X S Γ rest E) (hs : swapsWith e none pos.line X.env = pure false := by rfl) : XS X S Γ (.Expr e pos :: rest) E := fun B σ H hsl hS =>
  PSs.w (pss_cons (ps_expr peW hs) pssW) (he B σ H hsl hS _ fun v B1 H1 d e1 s1 r1 n1 => k B1 _ H1 (hsl.up e1) s1)
theorem s_doc {x j pos'} (k : XS X S Γ rest E) : XS X S Γ (.Expr (.Constant (.str x) j pos) pos' :: rest) E := fun B σ H hsl hS => PSs.w (pss_cons ps_doc pssW) (k B _ H hsl hS)
theorem s_pass (k : XS X S Γ rest E) : XS X S Γ (.Pass pos :: rest) E := fun B σ H hsl hS => PSs.w (pss_cons ps_pass pssW) (k B _ H hsl hS)
/-- what a def is to hand back -/
def Out (K : PySem.W.Frag) (S : SRel) (R : D → Prop) (rt : VK) : Prop := ∀ v B H d, S B H → R d → Dn K B v d → rt v H
theorem s_ret {T : SRel} {R' : D → Prop} (O : Out X.K T R' E.rt) [Le S T] (he : XE X S Γ e R) (w : ∀ d, R d → R' d) : XS X S Γ (.Return (some e) pos :: rest) E := fun B σ H hsl hS =>
  PSs.w (pss_cons (ps_ret peW) pssW) (he B σ H hsl hS _ fun v B1 H1 d e1 s1 r1 n1 => let ⟨B', e', t⟩ := Le.le (T := T) s1; O v B' H1 d t (w d r1) (n1.up e'))
theorem s_retN {T : SRel} {R' : D → Prop} (O : Out X.K T R' E.rt) [Le S T] (w : R' .non) : XS X S Γ (.Return none pos :: rest) E := fun B σ H hsl hS =>
  PSs.w (pss_cons ps_retN pssW) (let ⟨B', e', t⟩ := Le.le (T := T) hS; O .non B' H .non t w (.v _))
theorem s_if (hc : XT X S Γ c P) (h1 : P true → XS X S Γ body { E with nx := wSs X rest E }) (h2 : P false → XS X S Γ orelse { E with nx := wSs X rest E }) : XS X S Γ (.If c body orelse pos :: rest) E := fun B σ H hsl hS =>
  PSs.w (pss_cons (ps_if ptW pssW pssW) pssW) (hc B σ H hsl hS _ fun b B1 H1 e1 s1 r1 => by
    cases b with
    | true => exact iteT (h1 r1 B1 σ H1 (hsl.up e1) s1)
    | false => exact iteF (h2 r1 B1 σ H1 (hsl.up e1) s1))
/-- if without else -/
theorem s_when (hc : XT X S Γ c P) (h1 : P true → XS X S Γ body { E with nx := wSs X rest E }) (h2 : P false → XS X S Γ rest E) : XS X S Γ (.If c body [] pos :: rest) E := s_if hc h1 fun q => s_on (nx := E.nx) (h2 q)
theorem s_break (h : ∀ σ H, At X.K S Γ σ H → E.bk σ H) : XS X S Γ (.Break pos :: rest) E := fun B σ H hs hS => PSs.w (pss_cons ps_break pssW) (h σ H ⟨B, hs, hS⟩)
theorem s_cont (h : ∀ σ H, At X.K S Γ σ H → E.ct σ H) : XS X S Γ (.Continue pos :: rest) E := fun B σ H hs hS => PSs.w (pss_cons ps_continue pssW) (h σ H ⟨B, hs, hS⟩)
end

/-! ### a new list, not yet shared -/
def XN (X : Cx) (S : SRel) (Γ : Gm) (e : Expr) (R : List D → Prop) : Prop := ∀ (B : Hp) (σ : L2.St) (H : Hp), Sl X.K B σ Γ → S B H → ∀ Q : VK,
  (∀ l xs B' H' ds, Ex B B' → S B' H' → R ds → DnA X.K B' xs ds → H' l = none → Q (.ref l) (upd H' l (.lst xs))) → wE X e σ H Q
section
variable {X : Cx} {S : SRel} {Γ : Gm} {e a b : Expr} {es : List Expr} {pos p : Pos} {R R' : List D → Prop} {ds : List D} {rest : List Stmt} {E : Ends}
theorem XN.imp (h : XN X S Γ e R) (w : ∀ d, R d → R' d) : XN X S Γ e R' := fun B σ H hs hS Q k => h B σ H hs hS Q fun l xs B' H' d e1 s1 r n m => k l xs B' H' d e1 s1 (w d r) n m
theorem XN.x [SOk S] (h : XN X S Γ e R) : XE X S Γ e (fun d => ∃ ds, d = .lst ds ∧ R ds) := fun B σ H hs hS Q k => h B σ H hs hS Q fun l xs B' H' ds e1 s1 r n m =>
  k (.ref l) _ _ (.lst ds) (e1.trans (SOk.bex s1 m)) (SOk.new s1 m) ⟨ds, rfl, r⟩ (.lst (SqL.of upd_same) (n.up (SOk.bex s1 m)))
theorem XN.xD [SOk S] (h : XN X S Γ e (· = ds)) : XE X S Γ e (· = .lst ds) := h.x.imp fun d ⟨_, q, r⟩ => by rw [q, r]
theorem n_lst {RA : List D → Prop} (h : XA X S Γ es RA) (hl : ∀ ds, RA ds → ds.length ≤ 1000) : XN X S Γ (.List es pos) RA := fun B σ H hs hS Q k =>
  PE.w (pe_lst paW) (h B σ H hs hS _ fun xs B1 H1 ds e1 s1 r1 n1 => ⟨Nat.le_trans (by rw [n1.length]; exact hl ds r1) (by decide), fun q hq => k q xs B1 H1 ds e1 s1 r1 n1 hq⟩)
theorem n_nil : XN X S Γ (.List [] pos) (· = []) := n_lst a_nil fun _ q => by rw [q]; decide
theorem n_list [SOk S] {d : List D} (h : XE X S Γ e (· = .lst d) ∨ XE X S Γ e (· = .tup d)) (hm : X.mg "list" = none) (hg : Gl X "list" := by rfl) (hs : starEach [e] X.env = (false, eval e X.env) :: starEach [] X.env := by rfl) : XN X S Γ (.Call (.Name "list" p) [e] [] pos) (· = d) := fun B σ H hsl hS Q k =>
  PE.w (pe_callTy call_list_of hg hm (by decide +kernel) (pa_cons peW pa_nil hs) (by decide) (by decide) hs) (by
    rcases h with h | h
    · refine h B σ H hsl hS _ fun v B1 H1 d' e1 s1 r1 n1 => ?_
      subst r1
      cases n1 with
      | @lst a xs _ q r => exact ⟨a, xs, rfl, .inl ((SOk.sub s1).sqL q), fun l hl => k l xs B1 H1 d e1 s1 rfl r hl⟩
    · refine h B σ H hsl hS _ fun v B1 H1 d' e1 s1 r1 n1 => ?_
      subst r1
      cases n1 with
      | @tup a xs _ q r => exact ⟨a, xs, rfl, .inr ((SOk.sub s1).sqT q), fun l hl => k l xs B1 H1 d e1 s1 rfl r hl⟩)
theorem own_mk {K : PySem.W.Frag} {S : SRel} [SOk S] {l : Addr} {xs : List V} {ds : List D} {B H : Hp} (s : S B H) (n : DnA K B xs ds) (hl : H l = none) : own K l ds S B (upd H l (.lst xs)) :=
  ⟨xs, upd_same, n, SOk.bnone s hl, by rw [del_upd_same, del_none hl]; exact s⟩
/-- name = a new list of one's own -/
theorem s_setN [SOk S] (i : Nat) {x : Str} {pos' : Pos} (hN : X.N.Nodup) (he : XN X S Γ e R) (k : ∀ l ds, R ds → XS X (own X.K l ds S) (Γ.set i (some (.r l))) rest E) (hi : X.N[i]? = some x := by rfl) (hx : Loc X.env.scope x := by first | exact Or.inl rfl | exact Or.inr rfl)
    (hs : swapsWith e (some (.Name x pos')) pos.line X.env = pure false := by rfl) (hf : X.fn x = true ∨ X.env.scope.names.lookup x = some .local := by first | exact .inl rfl | exact .inr rfl) : XS X S Γ (.Assign [.Name x pos'] e pos :: rest) E := fun B σ H hsl hS =>
  PSs.w (pss_cons (ps_set (i := i) hN hi hx peW hs hf) pssW) (he B σ H hsl hS _ fun l xs B1 H1 ds e1 s1 r1 n1 m => k l ds r1 B1 _ _ ((hsl.up e1).set i (.v _)) (own_mk s1 n1 m))
/-- a, b = two new lists -/
theorem s_parNN [SOk S] (i j : Nat) {x y : Str} {px py pt : Pos} {kt k2 pt2} (hc : X.calm = true) (hN : X.N.Nodup) (ha : XN X S Γ a R) (hb : ∀ l ds, XN X (own X.K l ds S) Γ b R') (k : ∀ l m d1 d2, l ≠ m → R d1 → R' d2 → XS X (own X.K m d2 (own X.K l d1 S)) ((Γ.set i (some (.r l))).set j (some (.r m))) rest E)
    (hij : i ≠ j := by decide) (hi : X.N[i]? = some x := by rfl) (hj : X.N[j]? = some y := by rfl) (hx : X.env.scope.names.lookup x = some .local := by rfl) (hy : X.env.scope.names.lookup y = some .local := by rfl)
    (hw : swappedStores [.Tuple [.Name x px, .Name y py] kt pt] (.Tuple [a, b] k2 pt2) X.env = pure (some [x, y]) := by rfl) (h1 : starEach [a, b] X.env = (false, eval a X.env) :: starEach [b] X.env := by rfl) (h2 : starEach [b] X.env = (false, eval b X.env) :: starEach [] X.env := by rfl)
    (hs : swapsWithSole [.Tuple [.Name x px, .Name y py] kt pt] (.Tuple [a, b] k2 pt2) pos.line X.env = pure false := by rfl) : XS X S Γ (.Assign [.Tuple [.Name x px, .Name y py] kt pt] (.Tuple [a, b] k2 pt2) pos :: rest) E := fun B σ H hsl hS =>
  PSs.w (pss_cons (ps_par hc hN hi hj hij hx hy (pa_cons peW (pa_cons peW pa_nil h2) h1) hw hs) pssW) (ha B σ H hsl hS _ fun l xs B1 H1 d1 e1 s1 r1 n1 m1 => hb l d1 B1 σ _ (hsl.up e1) (own_mk s1 n1 m1) _ fun m ys B2 H2 d2 e2 s2 r2 n2 m2 => by
    refine ⟨_, _, rfl, k l m d1 d2 (fun z => ?_) r1 r2 B2 _ _ (((hsl.up (e1.trans e2)).set i (.v _)).set j (.v _)) (own_mk s2 n2 m2)⟩
    obtain ⟨zs, q, _⟩ := s2
    rw [z, m2] at q
    cases q)
theorem set_self {Γ : Gm} {i : Nat} {c d : D} (h : Γ[i]? = some (some c)) : (Γ.set i (some d))[i]? = some (some d) := List.getElem?_set_self (List.getElem?_eq_some_iff.mp h).1
/-- a list of one's own is shared from now on -/
theorem s_give [SOk S] (i : Nat) {l : Addr} (hi : Γ[i]? = some (some (.r l))) (k : XS X S (Γ.set i (some (.lst ds))) rest E) : XS X (own X.K l ds S) Γ rest E := fun B σ H hsl hS => by
  obtain ⟨xs, s, e, n⟩ := own_out hS
  refine k _ σ H ?_ s
  have hs := hsl.up e
  refine ⟨by simp [hs.1], fun j d q => ?_⟩
  by_cases hj : i = j
  · subst hj
    rw [set_self hi] at q
    cases q
    obtain ⟨x, a, b⟩ := hs.2 i _ hi
    cases b
    exact ⟨_, a, n⟩
  · rw [List.getElem?_set_ne hj] at q
    exact hs.2 j d q
/-- return of a list of one's own -/
theorem s_retOwn {T : SRel} {Rt : D → Prop} (O : Out X.K T Rt E.rt) [SOk S] [Le S T] {i : Nat} {l : Addr} {x : Str} {px : Pos} (hi : Γ[i]? = some (some (.r l))) (w : Rt (.lst ds)) (hN : X.N[i]? = some x := by rfl) (hv : Vis X.env.scope x := by first | exact Or.inl rfl | exact Or.inr (Or.inl rfl) | exact Or.inr (Or.inr rfl))
    (h1 : (x == ("__debug__" : Str)) = false := by decide) (h2 : (x == ("__classdict__" : Str)) = false := by decide) : XS X (own X.K l ds S) Γ (.Return (some (.Name x px)) pos :: rest) E :=
  s_give i hi (s_ret (R := (· = .lst ds)) O (x_var i (set_self hi) hN hv h1 h2) fun d q => q ▸ w)
end
end Z

/-! Loops, comprehensions, defs, by data. -/
namespace Z
open PySem PySem.Spec PyProof.Rows L2

/-! ### for, while -/
section
variable {X : Cx} {S : SRel} {Γ : Gm} {tg iter c : Expr} {pos : Pos} {rest body : List Stmt} {E : Ends} {n : Nat} {Y : Nat → D → Prop}
/-- Iv k: what S and Γ may be ahead of turn k -/
theorem s_for (Iv : Nat → SRel → Gm → Prop) (hc : X.calm = true) (hp : PassesOwn (model X.prog X.w) X.A X.env X.xe) (hi : XI X S Γ tg iter n Y) (h0 : Iv 0 S Γ) (hok : ∀ k S' Γ', Iv k S' Γ' → SOk S')
    (hb : ∀ k d B1 S' Γ', k < n → Y k d → Iv k S' Γ' → ∃ Γ'' ws, XG X Γ' tg d Γ'' ws ∧ ∀ nx : L2.St → Hp → Prop, (∀ S2 Γ2, Iv (k + 1) S2 Γ2 → ∀ σ H, At X.K (keep B1 S2) Γ2 σ H → nx σ H) → XS X (keep B1 S') Γ'' body ⟨nx, E.rt, wSs X rest E, nx⟩)
    (hd : ∀ S' Γ', Iv n S' Γ' → XS X S' Γ' rest E) (hs : ∀ x, foldedSetIterable iter X.env x = pure x := by intro _; rfl) : XS X S Γ (.For tg iter body [] pos :: rest) E := fun B σ H hsl hS =>
  PSs.w (pss_cons (ps_for hp hc piW pgW pssW hs) pssW) (hi B σ H hsl hS _ fun J B1 H1 e1 s1 dw =>
    ⟨fun i m σ H => m = n - i ∧ i ≤ n ∧ ∃ S' Γ', Iv i S' Γ' ∧ At X.K (keep B1 S') Γ' σ H, ⟨n, by simp, Nat.zero_le _, S, Γ, h0, B1, hsl.up e1, .refl B1, s1⟩, by
      rintro i m σ H ⟨rfl, hin, S', Γ', iv, B2, sl2, e2, s2⟩
      haveI : SOk S' := hok _ _ _ iv
      by_cases hlt : i < n
      · refine .inr ⟨dw.goes i B2 H hlt e2 (SOk.sub s2), fun σ' H' => ∃ S2 Γ2, Iv (i + 1) S2 Γ2 ∧ At X.K (keep B1 S2) Γ2 σ' H', fun σ' H' q => ⟨n - (i + 1), by omega, rfl, hlt, q⟩, fun x H' y => ?_⟩
        obtain ⟨B3, d, e3, s3, yd, nd⟩ := dw.gives i B2 H x H' (keep B1 S') hlt e2 ⟨e2, s2⟩ y
        obtain ⟨Γ'', ws, g, q⟩ := hb i d B1 S' Γ' hlt yd iv
        exact g B3 σ H' x (sl2.up e3) (SOk.sub s3) nd _ fun σ2 sl3 _ => q _ (fun S2 Γ2 iv2 σ' H' a => ⟨S2, Γ2, iv2, a⟩) B3 σ2 H' sl3 s3
      · have e : i = n := by omega
        subst e
        exact .inl ⟨dw.stops B2 H e2 (SOk.sub s2), hd S' Γ' iv B2 σ H sl2 s2⟩⟩)
/-- the same where nothing but the slots turns -/
theorem s_while (Iv : Nat → SRel → Gm → Prop) (hp : PassesOwn (model X.prog X.w) X.A X.env X.xe) {m0 : Nat} (h0 : Iv m0 S Γ)
    (hb : ∀ m S' Γ', Iv m S' Γ' → ∃ P, XT X S' Γ' c P ∧ (P true → ∀ nx : L2.St → Hp → Prop, (∀ m' S2 Γ2, m' < m → Iv m' S2 Γ2 → ∀ σ H, At X.K S2 Γ2 σ H → nx σ H) → XS X S' Γ' body ⟨nx, E.rt, wSs X rest E, nx⟩) ∧ (P false → XS X S' Γ' rest E)) :
    XS X S Γ (.While c body [] pos :: rest) E := fun B σ H hsl hS =>
  PSs.w (pss_cons (ps_while hp ptW pssW) pssW) ⟨fun m σ H => ∃ S' Γ', Iv m S' Γ' ∧ At X.K S' Γ' σ H, ⟨m0, S, Γ, h0, B, hsl, hS⟩, by
    rintro m σ H ⟨S', Γ', iv, B1, sl1, s1⟩
    obtain ⟨P, ht, h1, h2⟩ := hb m S' Γ' iv
    refine ht B1 σ H sl1 s1 _ fun b B2 H2 e2 s2 r2 => ?_
    cases b with
    | true => exact iteT ⟨fun σ' H' => ∃ m', m' < m ∧ ∃ S2 Γ2, Iv m' S2 Γ2 ∧ At X.K S2 Γ2 σ' H', fun _ _ q => q, h1 r2 _ (fun m' S2 Γ2 hm iv2 σ' H' a => ⟨m', hm, S2, Γ2, iv2, a⟩) B2 σ H2 (sl1.up e2) s2⟩
    | false => exact iteF (h2 r2 B2 σ H2 (sl1.up e2) s2)⟩
end

/-! ### comprehensions -/
def wipeG (Γ : Gm) : List Nat → Gm
  | [] => Γ
  | v :: vs => (wipeG Γ vs).set v Option.none
theorem Sl.wipe {K : PySem.W.Frag} {B : Hp} {σ : L2.St} {Γ : Gm} (h : Sl K B σ Γ) : ∀ vs : List Nat, Sl K B (L2.wipe σ vs) (wipeG Γ vs)
  | [] => h
  | v :: vs => (Sl.wipe h vs).off v none
theorem wipe_get (σ : L2.St) : ∀ (vs : List Nat) (i : Nat), (L2.wipe σ vs)[i]? = if i ∈ vs ∧ i < σ.length then some none else σ[i]?
  | [], i => by simp [L2.wipe]
  | v :: vs, i => by
    have ih := wipe_get σ vs i
    have hl := L2.wipe_length σ vs
    unfold L2.wipe
    by_cases hv : v = i
    · subst hv
      by_cases hi : v < σ.length
      · rw [List.getElem?_set_self (by omega)]; simp [hi]
      · rw [List.getElem?_eq_none (by simp; omega), List.getElem?_eq_none (by omega)]; simp [hi]
    · rw [List.getElem?_set_ne hv, ih]
      have : (i = v) ↔ False := ⟨fun e => hv e.symm, False.elim⟩
      simp [this]
theorem wipe_but {σ σ' : L2.St} {ws vs : List Nat} (h : But ws (L2.wipe σ vs) σ') (hs : ∀ i ∈ ws, i ∈ vs) : L2.wipe σ' vs = L2.wipe σ vs := by
  have hl : σ'.length = σ.length := h.1.trans (L2.wipe_length σ vs)
  apply List.ext_getElem?
  intro i
  rw [wipe_get, wipe_get, hl]
  by_cases hi : i ∈ vs
  · by_cases hz : i < σ.length
    · rw [if_pos ⟨hi, hz⟩, if_pos ⟨hi, hz⟩]
    · rw [if_neg fun q => hz q.2, if_neg fun q => hz q.2, List.getElem?_eq_none (by omega), List.getElem?_eq_none (by omega)]
  · rw [if_neg fun q => hi q.1, if_neg fun q => hi q.1, h.2 i fun z => hi (hs i z), wipe_get, if_neg fun q => hi q.1]
def XTs (X : Cx) (S : SRel) (Γ : Gm) (ifs : List Expr) (R : Bool → Prop) : Prop := ∀ (B : Hp) (σ : L2.St) (H : Hp), Sl X.K B σ Γ → S B H → ∀ Q : Bool → Hp → Prop,
  (∀ c B' H', Ex B B' → S B' H' → R c → Q c H') → wTs X ifs σ H Q
theorem ts_nil {X : Cx} {S : SRel} {Γ : Gm} : XTs X S Γ [] (· = true) := fun B σ H hs hS Q k => PTs.w pts_nil (k true B H (.refl B) hS rfl)
theorem ts_one {X : Cx} {S : SRel} {Γ : Gm} {c : Expr} {P : Bool → Prop} (h : XT X S Γ c P) : XTs X S Γ [c] P := fun B σ H hs hS Q k => PTs.w (pts_one ptW) (h B σ H hs hS Q k)

section
variable {X : Cx} {S : SRel} {Γ : Gm} {tg iter elt : Expr} {ifs : List Expr} {scope : Scope} {pos : Pos} {n : Nat} {Y : Nat → D → Prop} {vs : List Nat}
abbrev bX (X : Cx) (scope : Scope) (s : Shared) (H : Hp) (C : Addr) (cl : List (Str × Addr)) (fp : List Addr) : Cx := X.blk s H scope (compEnvC scope cl C X.env) fp
/-- the block's own readings, whatever block it is -/
def bG (X : Cx) (scope : Scope) (tg : Expr) : TG := fun v σ H Q => ∀ (s : Shared) (H0 : Hp) (C : Addr) (cl : List (Str × Addr)) (fp : List Addr), wG (bX X scope s H0 C cl fp) tg v σ H Q
def bT (X : Cx) (scope : Scope) (ifs : List Expr) : TT := fun σ H Q => ∀ (s : Shared) (H0 : Hp) (C : Addr) (cl : List (Str × Addr)) (fp : List Addr), wTs (bX X scope s H0 C cl fp) ifs σ H Q
def bE (X : Cx) (scope : Scope) (e : Expr) : TE := fun σ H Q => ∀ (s : Shared) (H0 : Hp) (C : Addr) (cl : List (Str × Addr)) (fp : List Addr), wE (bX X scope s H0 C cl fp) e σ H Q
theorem bGp (s : Shared) (H : Hp) (C : Addr) (cl : List (Str × Addr)) (fp : List Addr) : PG (bX X scope s H C cl fp) tg (bG X scope tg) := ⟨fun pins s' _ _ _ u _ I r h => h s H C cl fp pins s' u I r⟩
theorem bTp (s : Shared) (H : Hp) (C : Addr) (cl : List (Str × Addr)) (fp : List Addr) : PTs (bX X scope s H C cl fp) ifs (bT X scope ifs) := ⟨fun pins s' _ _ _ I h => h s H C cl fp pins s' I⟩
theorem bEp (s : Shared) (H : Hp) (C : Addr) (cl : List (Str × Addr)) (fp : List Addr) : PE (bX X scope s H C cl fp) elt (bE X scope elt) := ⟨fun pins s' _ _ _ I h => h s H C cl fp pins s' I⟩
/-- one turn of a comprehension, by data (its list stands besides) -/
structure LT (X : Cx) (scope : Scope) (S : SRel) (Γ : Gm) (vs : List Nat) (tg : Expr) (ifs : List Expr) (elt : Expr) (d : D) (Yes : D → Prop) (No : Prop) : Prop where
  ex : ∃ (Γ' : Gm) (ws : List Nat) (P : Bool → Prop), (∀ i ∈ ws, i ∈ vs) ∧ ∀ (s : Shared) (H0 : Hp) (C : Addr) (cl : List (Str × Addr)) (fp : List Addr) (l : Addr) (as : List D), XG (bX X scope s H0 C cl fp) (wipeG Γ vs) tg d Γ' ws ∧
    XTs (bX X scope s H0 C cl fp) (own X.K l as S) Γ' ifs P ∧ (P true → XE (bX X scope s H0 C cl fp) (own X.K l as S) Γ' elt Yes) ∧ (P false → No)
theorem lc_run [SOk S] (hi : XI X S Γ tg iter n Y) (Acc : Nat → List D → Prop) (h0 : Acc 0 []) (ht : ∀ k d acc, k < n → Y k d → Acc k acc → LT X scope S Γ vs tg ifs elt d (fun d' => Acc (k + 1) (acc ++ [d'])) (Acc (k + 1) acc))
    (hl : ∀ k acc, k ≤ n → Acc k acc → acc.length ≤ 100000) {B : Hp} {σ : L2.St} {H : Hp} (hsl : Sl X.K B σ Γ) (hS : S B H) {Q : VK} (k : ∀ l xs B' H' ds, Ex B B' → S B' H' → Acc n ds → DnA X.K B' xs ds → H' l = none → Q (.ref l) (upd H' l (.lst xs))) :
    tLc (wI X tg iter) (bG X scope tg) (bT X scope ifs) (bE X scope elt) vs σ H Q := hi B σ H hsl hS _ fun J B1 H1 e1 s1 dw Dl hD =>
    ⟨fun i m H => m = n - i ∧ i ≤ n ∧ ∃ acc B2, Acc i acc ∧ Ex B1 B2 ∧ own X.K Dl acc S B2 H, ⟨n, by simp, Nat.zero_le _, [], B1, h0, .refl B1, own_mk s1 .nil hD⟩, by
      rintro i m H ⟨rfl, hin, acc, B2, ac, e2, s2⟩
      by_cases hlt : i < n
      · refine .inr ⟨dw.goes i B2 H hlt e2 (SOk.sub s2), fun H' => ∃ acc B2, Acc (i + 1) acc ∧ Ex B1 B2 ∧ own X.K Dl acc S B2 H', fun H' q => ⟨n - (i + 1), by omega, rfl, hlt, q⟩, fun x H' y => ?_⟩
        obtain ⟨B3, d, e3, s3, yd, nd⟩ := dw.gives i B2 H x H' (own X.K Dl acc S) hlt e2 s2 y
        obtain ⟨Γ', ws, P, hw, hx⟩ := (ht i d acc hlt yd ac).ex
        have sl3 : Sl X.K B3 (L2.wipe σ vs) (wipeG Γ vs) := ((hsl.up (e1.trans (e2.trans e3))).wipe vs)
        have ex3 : Ex B3 H' := SOk.sub s3
        intro s' H0 C cl fp
        refine (hx s' H0 C cl fp Dl acc).1 B3 _ H' x sl3 ex3 nd _ fun σ2 slg bt => ⟨wipe_but bt hw, fun s2' H0' C' cl' fp' => ?_⟩
        refine (hx s2' H0' C' cl' fp' Dl acc).2.1 B3 σ2 H' slg s3 _ fun b B4 H4 e4 s4 r4 => ?_
        cases b with
        | false => exact iteF ⟨acc, B4, (hx s2' H0' C' cl' fp' Dl acc).2.2.2 r4, e2.trans (e3.trans e4), s4⟩
        | true =>
          refine iteT fun s5 H5 C5 cl5 fp5 => ?_
          refine (hx s5 H5 C5 cl5 fp5 Dl acc).2.2.1 r4 B4 σ2 H4 (slg.up e4) s4 _ fun y B6 H6 d6 e6 s6 r6 n6 => ?_
          obtain ⟨ys, a6, b6, c6, t6⟩ := s6
          refine ⟨ys, a6, ?_, acc ++ [d6], B6, r6, e2.trans (e3.trans (e4.trans e6)), ys ++ [y], upd_same, b6.app (.one n6), c6, by rw [del_upd_same]; exact t6⟩
          have := hl i acc (Nat.le_of_lt hlt) ac
          rw [b6.length]
          exact Nat.lt_of_le_of_lt this (by decide)
      · have e : i = n := by omega
        subst e
        obtain ⟨xs, a, b, c, s⟩ := s2
        have r := k Dl xs B2 (del H Dl) acc (e1.trans e2) s ac b del_same
        rw [upd_del a] at r
        exact .inl ⟨dw.stops B2 H e2 (SOk.sub (S := own X.K Dl acc S) ⟨xs, a, b, c, s⟩), r⟩⟩
/-- [elt for target in iter if ..], a new list -/
theorem n_lc [SOk S] {own : List (Str × Nat)} (hc : X.calm = true) (hN : X.N.Nodup) (ok : BlkOk X.N X.env.scope scope own) (hi : XI X S Γ tg iter n Y) (Acc : Nat → List D → Prop) (h0 : Acc 0 [])
    (ht : ∀ k d acc, k < n → Y k d → Acc k acc → LT X scope S Γ (own.map (·.2)) tg ifs elt d (fun d' => Acc (k + 1) (acc ++ [d'])) (Acc (k + 1) acc)) (hl : ∀ k acc, k ≤ n → Acc k acc → acc.length ≤ 100000)
    (hs : ∀ x, foldedSetIterable iter X.env x = pure x := by intro _; rfl) : XN X S Γ (.ListComp elt [⟨tg, iter, ifs, 0⟩] scope pos) (Acc n) := fun B σ H hsl hS Q k =>
  PE.w (pe_lc hc hN piW ok bGp bTp bEp hs)
    (lc_run hi Acc h0 ht hl hsl hS k)
/-- name = [..] on one line -/
theorem s_setLc [SOk S] {own : List (Str × Nat)} {rest : List Stmt} {E : Ends} (i : Nat) {y : Str} {py spos : Pos} (hc : X.calm = true) (hN : X.N.Nodup) (ok : BlkOk X.N X.env.scope scope own) (hi : XI X S Γ tg iter n Y) (Acc : Nat → List D → Prop) (h0 : Acc 0 [])
    (ht : ∀ k d acc, k < n → Y k d → Acc k acc → LT X scope S Γ (own.map (·.2)) tg ifs elt d (fun d' => Acc (k + 1) (acc ++ [d'])) (Acc (k + 1) acc)) (hl : ∀ k acc, k ≤ n → Acc k acc → acc.length ≤ 100000)
    (go : ∀ l ds, Acc n ds → XS X (Z.own X.K l ds S) (Γ.set i (some (.r l))) rest E) (hy : X.N[i]? = some y := by rfl) (hyl : X.env.scope.names.lookup y = some .local := by rfl)
    (hsw : swapsWith (.ListComp elt [⟨tg, iter, ifs, 0⟩] scope pos) (some (.Name y py)) spos.line X.env = pure true := by exact sw_true rfl rfl rfl (by decide +kernel))
    (hs : ∀ x, foldedSetIterable iter X.env x = pure x := by intro _; rfl) : XS X S Γ (.Assign [.Name y py] (.ListComp elt [⟨tg, iter, ifs, 0⟩] scope pos) spos :: rest) E := fun B σ H hsl hS =>
  PSs.w (pss_cons (ps_setLc hc hN hy hyl hsw piW ok bGp bTp bEp hs) pssW)
    (lc_run (Q := fun x H1 => gName i x σ H1 (wSs X rest E)) hi Acc h0 ht hl hsl hS fun l xs B' H' ds e1 s1 r n m => go l ds r B' _ _ ((hsl.up e1).set i (.v _)) (own_mk s1 n m))
end

/-! ### defs -/
/-- a promise by data: G S ds R: called with ds (S stands besides), the answer is R -/
abbrev GT := SRel → List D → (D → Prop) → Prop
def spS (K : PySem.W.Frag) (G : GT) : Sp := fun vs H Q _ => ∃ (S : SRel) (B : Hp) (ds : List D) (R : D → Prop), SOk S ∧ S B H ∧ DnA K B vs ds ∧ G S ds R ∧ ∀ v B' H' d, Ex B B' → S B' H' → R d → Dn K B' v d → Q v H'
class GK (G : GT) : Prop where
  up : ∀ {S ds R B0}, SOk S → G S ds R → G (keep B0 S) ds R
/-- the context of a def's body -/
abbrev dX (P : Program) (w : World) (K : PySem.W.Frag) (mg : Str → Option Value) (base : Heap) (N : List Str) (qual : Str) (scope : Scope) (f : Addr) (cdv : Value) (A : Around) (outer : List Env) (s : Shared) (H : Hp) (E : XK) : Cx := (cxOf CX0 P w K mg base N qual scope f cdv A outer s H E).nox
abbrev g0 (N : List Str) (ds : List D) : Gm := ds.map some ++ List.replicate (N.length - ds.length) none
section
variable {P : Program} {w : World} {K : PySem.W.Frag} {mg : Str → Option Value} {base : Heap} {x qual : Str} {args : Arguments} {body : List Stmt} {scope : Scope} {f : Addr} {fd : FuncData} {N ps : List Str} {k : Nat} {G : GT} {dvs : List V} {kws : List (Str × V)}
theorem fn_mk [GK G] (F : FunD K x qual args body scope dvs kws f fd) (Sc : FnScope N ps scope) (len : ∀ S ds R, G S ds R → ds.length = ps.length)
    (h : ∀ (cdv : Value) (A : Around) (outer : List Env) (s : Shared) (H : Hp) (E : XK), Room k (A.deeper (envOfC qual scope s.heap.objs.size f cdv)) → ∀ (S : SRel) [SOk S] (ds : List D) (R : D → Prop), G S ds R → ∀ rt : VK, Out K S R rt →
      XS (dX P w K mg base N qual scope f cdv A outer s H E) S (g0 N ds) body ⟨fun _ H => rt .non H, rt, fun _ _ => False, fun _ _ => False⟩) : FnOk P w K mg base CX0 (k + 1) f fd ps (spS K G) := by
  have len' : ∀ vs H Q E, spS K G vs H Q E → vs.length = ps.length := fun vs H Q E ⟨S, B, ds, R, _, _, n, g, _⟩ => by rw [n.length]; exact len S ds R g
  refine F.ok Sc len' fun cdv A outer s H vs Q E hr hsp => ?_
  have hvl := len' vs H Q E hsp
  obtain ⟨S, B, ds, R, ok, s0, n, g, hQ⟩ := hsp
  haveI := ok
  refine ⟨wSs (dX P w K mg base N qual scope f cdv A outer s H E) body, PSs.nox pssW, ?_⟩
  have hN : ps.length ≤ N.length := by have := congrArg List.length Sc.pre; rw [List.length_take] at this; omega
  exact h cdv A outer s H E hr (keep B S) ds R (GK.up ok g) Q (fun v B' H' d ⟨e, t⟩ r nd => hQ v B' H' d e t r nd) B (start N vs) H (Sl.start n (by rw [hvl]; exact hN)) ⟨.refl B, s0⟩
/-- a def as its callers know it -/
structure Fnc (P : Program) (w : World) (K : PySem.W.Frag) (mg : Str → Option Value) (base : Heap) (j : Nat) (x : Str) (ps : List Str) (G : GT) : Prop where
  ex : ∃ (f : Addr) (fd : FuncData), mg x = some (.ref f) ∧ PySem.W.keepIn K (.ref f) = true ∧ Binds K fd ps [] ∧ (∀ us : List Value, us.length = ps.length → ∀ s : Shared, BindsTo s fd ⟨[], ps.zip us⟩ (ps.zip us)) ∧ FnOk P w K mg base CX0 j f fd ps (spS K G)
theorem Fnc.mono {i j : Nat} (F : Fnc P w K mg base i x ps G) (h : i ≤ j) : Fnc P w K mg base j x ps G := let ⟨f, fd, a, b, c, c2, d⟩ := F.ex; ⟨f, fd, a, b, c, c2, d.mono h⟩
/-- where a def of the top stands -/
structure DefAt (K : PySem.W.Frag) (mg : Str → Option Value) (x : Str) (st : Stmt) : Prop where
  ex : ∃ (f : Addr) (fd : FuncData), mg x = some (.ref f) ∧ FunD K x x (defArgs st) (defBody st) (defScope st) [] [] f fd
theorem fnc_mk [GK G] {st : Stmt} (Dt : DefAt K mg x st) (Sc : FnScope N ps (defScope st)) (len : ∀ S ds R, G S ds R → ds.length = ps.length)
    (hb : ∀ (kV doc pm : Value) (an : Option Addr) (cdv ct : Value) (us : List Value), us.length = ps.length → bindArgs (PySem.W.fnOf x x (defArgs st) (defBody st) (defScope st) .none kV doc pm an cdv ct) ⟨us, []⟩ = pure (ps.zip us))
    (hk : ∀ (kV doc pm : Value) (an : Option Addr) (cdv ct : Value) (us : List Value), us.length = ps.length → bindArgs (PySem.W.fnOf x x (defArgs st) (defBody st) (defScope st) .none kV doc pm an cdv ct) ⟨[], ps.zip us⟩ = pure (ps.zip us))
    (h : ∀ (f : Addr) (cdv : Value) (A : Around) (outer : List Env) (s : Shared) (H : Hp) (E : XK), Room k (A.deeper (envOfC x (defScope st) s.heap.objs.size f cdv)) → ∀ (S : SRel) [SOk S] (ds : List D) (R : D → Prop), G S ds R → ∀ rt : VK, Out K S R rt →
      XS (dX P w K mg base N x (defScope st) f cdv A outer s H E) S (g0 N ds) (defBody st) ⟨fun _ H => rt .non H, rt, fun _ _ => False, fun _ _ => False⟩) : Fnc P w K mg base (k + 1) x ps G := by
  obtain ⟨f, fd, hm, F⟩ := Dt.ex
  refine ⟨f, fd, hm, F.kp, F.bindsN hb, fun us hl s => ?_, fn_mk F Sc len fun cdv A outer s H E hr S _ ds R g rt o => h f cdv A outer s H E hr S ds R g rt o⟩
  obtain ⟨oc, od, dV, kV, doc, pm, an, cdv, ct, osl, rfl, lk, hcd, hD, hK⟩ := F.ex
  rcases hD with ⟨_, rfl⟩ | ⟨e, _⟩
  · exact .of_eq (hk kV doc pm an cdv ct us hl)
  · exact absurd rfl e
end
section
variable {X : Cx} {S : SRel} {Γ : Gm} {e : Expr} {es : List Expr} {x : Str} {p pos : Pos} {j : Nat} {ps : List Str} {G : GT} {R : D → Prop} {RA : List D → Prop}
theorem x_call [ok : SOk S] (F : Fnc X.prog X.w X.K X.mg X.base j x ps G) (hr : Room j X.A) (ha : XA X S Γ (e :: es) RA) (hG : ∀ ds, RA ds → G S ds R) (hg : Gl X x := by rfl) (hdb : (x == ("__debug__" : Str)) = false := by decide)
    (he : starEach (e :: es) X.env = (false, eval e X.env) :: starEach es X.env := by rfl) (hpl : (backTo pos (starEach es X.env)).any (·.1) = false := by rfl) : XE X S Γ (.Call (.Name x p) (e :: es) [] pos) R := fun B σ H hsl hS Q k => by
  obtain ⟨f, fd, a, b, c, _, d⟩ := F.ex
  exact PE.w (pe_call (E := E0) d hr hg a b c .nil pass0 paW hdb he hpl) (ha B σ H hsl hS _ fun vs B1 H1 ds e1 s1 r1 n1 =>
    ⟨S, B1, ds, R, ok, s1, by rw [List.append_nil]; exact n1, hG ds r1, fun v B' H' d' e2 s2 r2 n2 => k v B' H' d' (e1.trans e2) s2 r2 n2⟩)
theorem x_call0 [ok : SOk S] (F : Fnc X.prog X.w X.K X.mg X.base j x ps G) (hr : Room j X.A) (hG : G S [] R) (hg : Gl X x := by rfl) (hdb : (x == ("__debug__" : Str)) = false := by decide) : XE X S Γ (.Call (.Name x p) [] [] pos) R := fun B σ H hsl hS Q k => by
  obtain ⟨f, fd, a, b, c, _, d⟩ := F.ex
  exact PE.w (pe_call0 (E := E0) d hr hg a b c .nil pass0 hdb) ⟨S, B, [], R, ok, hS, .nil, hG, fun v B' H' d' e2 s2 r2 n2 => k v B' H' d' e2 s2 r2 n2⟩
/-- keyword values -/
def wK (X : Cx) (kws : List Keyword) : TA := fun σ H Q => ∀ (pos : Pos) (pins : List (Addr × Obj)) (s : Shared), Inv X pins σ H s → wpAny (model X.prog X.w) X.A (evalAll ((backToKw pos (keywordEach kws X.env)).map (·.2))) (AP X pins σ Q) X.xe s
theorem pkW {kws : List Keyword} : PK X kws (wK X kws) := ⟨fun p pins s _ _ _ I h => h p pins s I⟩
def XK' (X : Cx) (S : SRel) (Γ : Gm) (kws : List Keyword) (R : List D → Prop) : Prop := ∀ (B : Hp) (σ : L2.St) (H : Hp), Sl X.K B σ Γ → S B H → ∀ Q : List V → Hp → Prop,
  (∀ xs B' H' ds, Ex B B' → S B' H' → R ds → DnA X.K B' xs ds → Q xs H') → wK X kws σ H Q
theorem k_nil : XK' X S Γ [] (· = []) := fun B σ H hs hS Q k => fun p pins s I => pk_nil.run p pins s σ H Q I (k [] B H [] (.refl B) hS rfl .nil)
theorem k_cons {nm : Option Str} {kpos : Pos} {kws : List Keyword} {Rd : D → Prop} (h : XE X S Γ e Rd) (g : XK' X S Γ kws RA) : XK' X S Γ (⟨nm, e, kpos⟩ :: kws) (fun ds => ∃ d ds', ds = d :: ds' ∧ Rd d ∧ RA ds') := fun B σ H hsl hS Q k => fun p pins s I =>
  (pk_cons peW pkW).run p pins s σ H Q I (h B σ H hsl hS _ fun v B1 H1 d e1 s1 r1 n1 => g B1 σ H1 (hsl.up e1) s1 _ fun xs B2 H2 ds e2 s2 r2 n2 => k (v :: xs) B2 H2 (d :: ds) (e1.trans e2) s2 ⟨d, ds, rfl, r1, r2⟩ (.cons (n1.up e2) n2))
/-- f(k = v, ..), the keywords in the parameters' order -/
theorem x_callK [ok : SOk S] {kws : List Keyword} (F : Fnc X.prog X.w X.K X.mg X.base j x ps G) (hr : Room j X.A) (ha : XK' X S Γ kws RA) (hG : ∀ ds, RA ds → G S ds R) (hg : Gl X x := by rfl) (hdb : (x == ("__debug__" : Str)) = false := by decide)
    (hall : (backToKw pos (keywordEach kws X.env)).all (·.1.isSome) = true := by rfl) (hks : (backToKw pos (keywordEach kws X.env)).filterMap (·.1) = ps := by rfl)
    (hpl : ((backTo pos (starEach [] X.env)).any (·.1) || (backToKw pos (keywordEach kws X.env)).any (·.1.isNone)) = false := by rfl) : XE X S Γ (.Call (.Name x p) [] kws pos) R := fun B σ H hsl hS Q k pins s I => by
  obtain ⟨f, fd, a, b, _, c, d⟩ := F.ex
  refine wpAny_Call_Name_kw (ld_glob I hg a ?_ hdb)
  have h1 := ha B σ H hsl hS (fun vs H' => ∃ B' ds, Ex B B' ∧ S B' H' ∧ RA ds ∧ DnA X.K B' vs ds) (fun vs B1 H1 ds e1 s1 r1 n1 => ⟨B1, ds, e1, s1, r1, n1⟩) pos pins s I
  refine PySem.W.callWith_KW0 (h₀ := X.base) I.ok.mod.kin b hall (thn h1 fun ws s2 ⟨vs, H2, I2, rv, B2, ds, e2, s2', r2, n2⟩ => ⟨I2.kIn, ?_⟩) hpl
  rw [hks]
  have hsp : spS X.K G vs H2 Q E0 := ⟨S, B2, ds, R, ok, s2', n2, hG ds r2, fun v B' H' d' e3 s3 r3 n3 => k v B' H' d' (e2.trans e3) s3 r3 n3⟩
  have hl : ws.length = ps.length := by rw [← rv.length]; exact d.len _ _ _ _ hsp
  refine wpAny_call (codeAny_mono (d.run X.A X.stack s2 H2 ⟨[], ps.zip ws⟩ ws vs Q E0 hr I2.env0 (c ws hl s2) rv hsp) fun r s' hq => ?_)
  cases r with
  | error e => exact hq.elim
  | ok fl =>
    cases fl with
    | ret u => exact I2.after hq
    | next => exact hq.elim
    | brk => exact hq.elim
    | cont => exact hq.elim
end
end Z

/-! Operators, indices, slices, built-ins, by data. -/
namespace Z
open PySem PySem.Spec PyProof.Rows L2

/-! ### data as plain data -/
mutual
def D.py : D → PyData
  | .v .non => .none
  | .v (.bl c) => .bool c
  | .v (.int n) => .int n
  | .v (.str x) => .str x
  | .v _ => .none
  | .lst ds => .list (pyA ds)
  | .tup ds => .tuple (pyA ds)
  | .ins _ _ => .none
def pyA : List D → List PyData
  | [] => []
  | d :: ds => d.py :: pyA ds
end
mutual
def D.plain : D → Bool
  | .v .non => true
  | .v (.bl _) => true
  | .v (.int _) => true
  | .v (.str _) => true
  | .v _ => false
  | .lst ds => plainA ds
  | .tup ds => plainA ds
  | .ins _ _ => false
def plainA : List D → Bool
  | [] => true
  | d :: ds => d.plain && plainA ds
end
section
variable {K : PySem.W.Frag} {B H : Hp}
mutual
theorem Dn.dp (e : Ex B H) : ∀ (d : D) (x : V), Dn K B x d → d.plain = true → Dp K H x d.py
  | .v y, _, h, p => by
    cases h
    cases y with
    | non => exact .non
    | bl c => exact .bl c
    | int n => exact .int n
    | str z => exact .str z
    | _ => cases p
  | .lst ds, _, h, p => by
    cases h with
    | lst q r => exact .lst (e.sqL q) (DnA.dp e ds _ r p)
  | .tup ds, _, h, p => by
    cases h with
    | tup q r => exact .tup (e.sqT q) (DnA.dp e ds _ r p)
  | .ins _ _, _, _, p => by cases p
theorem DnA.dp (e : Ex B H) : ∀ (ds : List D) (xs : List V), DnA K B xs ds → plainA ds = true → DpAll K H xs (pyA ds)
  | [], _, h, _ => by cases h; exact .nil
  | d :: ds, _, h, p => by
    have p' : (d.plain && plainA ds) = true := p
    obtain ⟨p1, p2⟩ := Bool.and_eq_true_iff.mp p'
    cases h with
    | cons q r => exact .cons (Dn.dp e d _ q p1) (DnA.dp e ds _ r p2)
end
end
theorem pyA_map (ds : List D) : pyA ds = ds.map D.py := by
  induction ds with
  | nil => rfl
  | cons d ds ih => rw [pyA, ih]; rfl
theorem plainA_all {ds : List D} (h : ∀ d ∈ ds, d.plain = true) : plainA ds = true := by
  induction ds with
  | nil => rfl
  | cons d ds ih => rw [plainA, h d List.mem_cons_self, ih fun c hc => h c (List.mem_cons_of_mem _ hc)]; rfl

section
variable {X : Cx} {S : SRel} {Γ : Gm} {e a b c : Expr} {pos p : Pos} {R Ra Rb : D → Prop} {d : D} {x y : Str} {m n : Int} {ds es : List D} {P : Bool → Prop}

/-! ### ints, texts -/
theorem x_addI (ha : XE X S Γ a (· = .i m)) (hb : XE X S Γ b (· = .i n)) : XE X S Γ (.BinOp a .Add b pos) (· = .i (m + n)) := x_op op_add ha hb fun _ _ r1 r2 => by subst r1 r2; exact opd_v (fun _ => .v _) fun H Q q => ⟨m, n, rfl, rfl, q⟩
theorem x_subI (ha : XE X S Γ a (· = .i m)) (hb : XE X S Γ b (· = .i n)) : XE X S Γ (.BinOp a .Sub b pos) (· = .i (m - n)) := x_op op_sub ha hb fun _ _ r1 r2 => by subst r1 r2; exact opd_v (fun _ => .v _) fun H Q q => ⟨m, n, rfl, rfl, q⟩
theorem x_mulI (ha : XE X S Γ a (· = .i m)) (hb : XE X S Γ b (· = .i n)) (hz : CMul m n) : XE X S Γ (.BinOp a .Mult b pos) (· = .i (m * n)) := x_op op_mul ha hb fun _ _ r1 r2 => by subst r1 r2; exact opd_v (fun _ => .v _) fun H Q q => ⟨m, n, rfl, rfl, hz, q⟩
theorem x_powI (ha : XE X S Γ a (· = .i m)) (hb : XE X S Γ b (· = .i n)) (hz : CPow m n) : XE X S Γ (.BinOp a .Pow b pos) (· = .i (m ^ n.toNat)) := x_op op_pow ha hb fun _ _ r1 r2 => by subst r1 r2; exact opd_v (fun _ => .v _) fun H Q q => ⟨m, n, rfl, rfl, hz, q⟩
theorem x_modI (ha : XE X S Γ a (· = .i m)) (hb : XE X S Γ b (· = .i n)) (hz : 0 < n) : XE X S Γ (.BinOp a .Mod b pos) (· = .i (m % n)) := x_op op_mod ha hb fun _ _ r1 r2 => by subst r1 r2; exact opd_v (fun _ => .v _) fun H Q q => ⟨m, n, rfl, rfl, hz, q⟩
theorem x_divI (ha : XE X S Γ a (· = .i m)) (hb : XE X S Γ b (· = .i n)) (hz : CDiv m n) : XE X S Γ (.BinOp a .FloorDiv b pos) (· = .i (m / n)) := x_op op_fdiv ha hb fun _ _ r1 r2 => by subst r1 r2; exact opd_v (fun _ => .v _) fun H Q q => ⟨m, n, rfl, rfl, hz, q⟩
theorem x_negI (ha : XE X S Γ a (· = .i m)) : XE X S Γ (.UnaryOp .USub a pos) (· = .i (-m)) := x_un un_neg ha fun _ r1 => by subst r1; exact opd_v (fun _ => .v _) fun H Q q => ⟨m, rfl, q⟩
theorem sz_of {n : Nat} (h : n ≤ 1000000) : n ≤ sizeLine := Nat.le_trans h (by decide)
theorem x_addS (ha : XE X S Γ a (· = .s x)) (hb : XE X S Γ b (· = .s y)) (hz : x.length + y.length ≤ 1000000) : XE X S Γ (.BinOp a .Add b pos) (· = .s (x ++ y)) := x_op op_add_str ha hb fun _ _ r1 r2 => by subst r1 r2; exact opd_v (fun _ => .v _) fun H Q q => ⟨x, y, rfl, rfl, sz_of hz, q⟩
/-- a text times a number -/
theorem op_mulS : OpR X (binaryOp .Mult) (fun x y H Q => ∃ (z : Str) (k : Int), x = .str z ∧ y = .int k ∧ 0 ≤ k ∧ k ≤ 1000 ∧ z.length ≤ 1000 ∧ Q (.str (Txt.mul z k)) H) := by
  intro pins s σ H x y v u Q I rx ry h
  obtain ⟨z, k, rfl, rfl, h0, h1, h2, q⟩ := h
  obtain ⟨t, rfl⟩ := rx
  obtain ⟨t', rfl⟩ := ry
  refine PySem.SB.mul ?_ fun t' k' => ⟨.str _, H, I.tok _, ⟨_, rfl⟩, q⟩
  refine ⟨by rw [decide_eq_false (by omega), decide_eq_false (by omega)]; rfl, fun h3 h4 => ?_, fun h3 h4 => ?_⟩
  · have : (z.length : Int) * k ≤ 1000 * 1000 := Int.mul_le_mul (by omega) h1 h0 (by omega)
    have hk : 0 < k := by omega
    rw [Int.not_lt, Int.le_ediv_iff_mul_le hk]
    omega
  · have : z.length * k.toNat ≤ 1000 * 1000 := Nat.mul_le_mul h2 (by omega)
    exact notLongL (Nat.le_trans this (by decide))
theorem x_mulS (ha : XE X S Γ a (· = .s x)) (hb : XE X S Γ b (· = .i n)) (h0 : 0 ≤ n ∧ n ≤ 1000) (h1 : x.length ≤ 1000) : XE X S Γ (.BinOp a .Mult b pos) (· = .s (Txt.mul x n)) := x_op op_mulS ha hb fun _ _ r1 r2 => by subst r1 r2; exact opd_v (fun _ => .v _) fun H Q q => ⟨x, n, rfl, rfl, h0.1, h0.2, h1, q⟩

/-! ### comparisons -/
section
variable {u v : V}
theorem x_eq (ha : XE X S Γ a (· = .v u)) (hb : XE X S Γ b (· = .v v)) (hs : scal u v = true := by rfl) : XE X S Γ (.Compare a [.Eq] [b] pos) (· = .b (decide (u = v))) := x_cmp op_eq ha hb (fun _ _ r1 r2 => by subst r1 r2; exact opd_v (fun _ => .v _) fun H Q q => ⟨hs, q⟩) (nobehind _ (by decide) (by decide))
theorem x_ne (ha : XE X S Γ a (· = .v u)) (hb : XE X S Γ b (· = .v v)) (hs : scal u v = true := by rfl) : XE X S Γ (.Compare a [.NotEq] [b] pos) (· = .b (!decide (u = v))) := x_cmp op_ne ha hb (fun _ _ r1 r2 => by subst r1 r2; exact opd_v (fun _ => .v _) fun H Q q => ⟨hs, q⟩) (nobehind _ (by decide) (by decide))
theorem t_eq (ha : XE X S Γ a (· = .v u)) (hb : XE X S Γ b (· = .v v)) (hs : scal u v = true := by rfl) : XT X S Γ (.Compare a [.Eq] [b] pos) (· = decide (u = v)) := t_cmp op_eq ha hb (fun _ _ r1 r2 => by subst r1 r2; exact opd_b (fun H Q q => ⟨hs, q⟩) rfl) (nobehind _ (by decide) (by decide))
theorem t_ne (ha : XE X S Γ a (· = .v u)) (hb : XE X S Γ b (· = .v v)) (hs : scal u v = true := by rfl) : XT X S Γ (.Compare a [.NotEq] [b] pos) (· = !decide (u = v)) := t_cmp op_ne ha hb (fun _ _ r1 r2 => by subst r1 r2; exact opd_b (fun H Q q => ⟨hs, q⟩) rfl) (nobehind _ (by decide) (by decide))
end
/-- two ints compared; by the operator's rule -/
theorem t_cmpI {op : CmpOp} {g : Int → Int → Bool} (ho : OpR X (compareOp op) (rI0 fun i j => .bl (g i j))) (ha : XE X S Γ a (· = .i m)) (hb : XE X S Γ b (· = .i n)) (hm : behindInMarks op b = false) : XT X S Γ (.Compare a [op] [b] pos) (· = g m n) :=
  t_cmp ho ha hb (fun _ _ r1 r2 => by subst r1 r2; exact opd_b (fun H Q q => ⟨m, n, rfl, rfl, q⟩) rfl) hm
theorem x_cmpI {op : CmpOp} {g : Int → Int → Bool} (ho : OpR X (compareOp op) (rI0 fun i j => .bl (g i j))) (ha : XE X S Γ a (· = .i m)) (hb : XE X S Γ b (· = .i n)) (hm : behindInMarks op b = false) : XE X S Γ (.Compare a [op] [b] pos) (· = .b (g m n)) :=
  x_cmp ho ha hb (fun _ _ r1 r2 => by subst r1 r2; exact opd_v (fun _ => .v _) fun H Q q => ⟨m, n, rfl, rfl, q⟩) hm
theorem t_lt (ha : XE X S Γ a (· = .i m)) (hb : XE X S Γ b (· = .i n)) : XT X S Γ (.Compare a [.Lt] [b] pos) (· = decide (m < n)) := t_cmpI op_lt ha hb (nobehind _ (by decide) (by decide))
theorem t_le (ha : XE X S Γ a (· = .i m)) (hb : XE X S Γ b (· = .i n)) : XT X S Γ (.Compare a [.LtE] [b] pos) (· = decide (m ≤ n)) := t_cmpI op_le ha hb (nobehind _ (by decide) (by decide))
theorem t_gt (ha : XE X S Γ a (· = .i m)) (hb : XE X S Γ b (· = .i n)) : XT X S Γ (.Compare a [.Gt] [b] pos) (· = decide (n < m)) := t_cmpI op_gt ha hb (nobehind _ (by decide) (by decide))
theorem t_ge (ha : XE X S Γ a (· = .i m)) (hb : XE X S Γ b (· = .i n)) : XT X S Γ (.Compare a [.GtE] [b] pos) (· = decide (n ≤ m)) := t_cmpI op_ge ha hb (nobehind _ (by decide) (by decide))
theorem x_lt (ha : XE X S Γ a (· = .i m)) (hb : XE X S Γ b (· = .i n)) : XE X S Γ (.Compare a [.Lt] [b] pos) (· = .b (decide (m < n))) := x_cmpI op_lt ha hb (nobehind _ (by decide) (by decide))
theorem x_le (ha : XE X S Γ a (· = .i m)) (hb : XE X S Γ b (· = .i n)) : XE X S Γ (.Compare a [.LtE] [b] pos) (· = .b (decide (m ≤ n))) := x_cmpI op_le ha hb (nobehind _ (by decide) (by decide))
theorem x_gt (ha : XE X S Γ a (· = .i m)) (hb : XE X S Γ b (· = .i n)) : XE X S Γ (.Compare a [.Gt] [b] pos) (· = .b (decide (n < m))) := x_cmpI op_gt ha hb (nobehind _ (by decide) (by decide))
theorem x_ge (ha : XE X S Γ a (· = .i m)) (hb : XE X S Γ b (· = .i n)) : XE X S Γ (.Compare a [.GtE] [b] pos) (· = .b (decide (n ≤ m))) := x_cmpI op_ge ha hb (nobehind _ (by decide) (by decide))
/-- x ≤ y ≤ z of ints -/
theorem t_chainI {op op' : CmpOp} {g g' : Int → Int → Bool} {k : Int} (ho : OpR X (compareOp op) (rI0 fun i j => .bl (g i j))) (ho' : OpR X (compareOp op') (rI0 fun i j => .bl (g' i j))) (ha : XE X S Γ a (· = .i m)) (hb : XE X S Γ b (· = .i n)) (hc : XE X S Γ c (· = .i k)) 
    (hm : lastMarks [op, op'] [b, c] = false := by with_unfolding_all rfl) : XT X S Γ (.Compare a [op, op'] [b, c] pos) (· = (g m n && g' n k)) := fun B σ H hs hS Q q =>
  PT.w (pt_chain ho ho' peW peW peW hm) (ha B σ H hs hS _ fun v B1 H1 d1 e1 s1 r1 n1 => hb B1 σ H1 (hs.up e1) s1 _ fun v2 B2 H2 d2 e2 s2 r2 n2 => by
    subst r1 r2
    cases n1
    cases n2
    refine ⟨m, n, rfl, rfl, g m n, rfl, ?_⟩
    cases hg : g m n with
    | false => exact iteF ⟨false, rfl, q _ B2 H2 (e1.trans e2) s2 (by rw [hg] <;> rfl)⟩
    | true => exact iteT (hc B2 σ H2 (hs.up (e1.trans e2)) s2 _ fun v3 B3 H3 d3 e3 s3 r3 n3 => by
        subst r3
        cases n3
        exact ⟨n, k, rfl, rfl, g' n k, rfl, q _ B3 H3 (e1.trans (e2.trans e3)) s3 (by rw [hg, Bool.true_and])⟩))

/-! ### == of plain data -/
theorem x_eqP {u v : D} [SOk S] {k : Nat} (hr : Room k X.A) (ha : XE X S Γ a (· = u)) (hb : XE X S Γ b (· = v)) (h1 : u.plain = true) (h2 : v.plain = true) (h3 : SeqAt.shaped u.py = true) (h4 : SeqAt.shaped v.py = true) : XE X S Γ (.Compare a [.Eq] [b] pos) (· = .b (PyData.eqv u.py v.py)) :=
  x_cmp (op_eqD hr.units) ha hb (fun _ _ r1 r2 => by
    subst r1 r2
    intro B H x y s n1 n2 Q q
    exact ⟨_, _, n1.dp (SOk.sub s) _ _ h1, n2.dp (SOk.sub s) _ _ h2, h3, h4, q _ B H _ (.refl B) s rfl (.v _)⟩) (nobehind _ (by decide) (by decide))
theorem x_neP {u v : D} [SOk S] {k : Nat} (hr : Room k X.A) (ha : XE X S Γ a (· = u)) (hb : XE X S Γ b (· = v)) (h1 : u.plain = true) (h2 : v.plain = true) (h3 : SeqAt.shaped u.py = true) (h4 : SeqAt.shaped v.py = true) : XE X S Γ (.Compare a [.NotEq] [b] pos) (· = .b (!PyData.eqv u.py v.py)) :=
  x_cmp (op_neD hr.units) ha hb (fun _ _ r1 r2 => by
    subst r1 r2
    intro B H x y s n1 n2 Q q
    exact ⟨_, _, n1.dp (SOk.sub s) _ _ h1, n2.dp (SOk.sub s) _ _ h2, h3, h4, q _ B H _ (.refl B) s rfl (.v _)⟩) (nobehind _ (by decide) (by decide))

/-! ### indices -/
theorem atI_dn {K : PySem.W.Frag} {B : Hp} {xs : List V} {ds : List D} {k : Int} {d : D} (h : DnA K B xs ds) (e : atI ds k = some d) : ∃ x, atI xs k = some x ∧ Dn K B x d := by
  unfold atI at e ⊢
  rw [h.length]
  cases q : ixN ds.length k with
  | none => rw [q] at e; cases e
  | some j => rw [q] at e; exact h.get e
theorem x_ixG {r : R2} (hr : IxR X r) (ha : XE X S Γ a Ra) (hb : XE X S Γ b Rb) (h : ∀ d1 d2, Ra d1 → Rb d2 → OpD X.K S r d1 d2 R) (hs : PlainIx b := by exact fun _ _ => rfl) : XE X S Γ (.Subscript a b pos) R :=
  fun B σ H hsl hS Q k => PE.w (pe_ix hr peW peW hs) (ha B σ H hsl hS _ fun x B1 H1 d1 e1 s1 r1 n1 => hb B1 σ H1 (hsl.up e1) s1 _ fun y B2 H2 d2 e2 s2 r2 n2 =>
    h d1 d2 r1 r2 B2 H2 x y s2 (n1.up e2) n2 Q fun v B' H' d e3 s3 r3 n3 => k v B' H' d ((e1.trans e2).trans e3) s3 r3 n3)
theorem opd_ixT {K : PySem.W.Frag} [SOk S] {k : Int} (h : atI ds k = some d) : OpD K S (rIxT K) (.tup ds) (.i k) (· = d) := fun B H x y s n1 n2 Q q => by
  cases n2
  cases n1 with
  | @tup a xs _ ht hd =>
    obtain ⟨v, hv, nv⟩ := atI_dn hd h
    exact ⟨a, xs, k, v, rfl, rfl, (SOk.sub s).sqT ht, hv, q v B H d (.refl B) s rfl nv⟩
theorem opd_ixL {K : PySem.W.Frag} [SOk S] {k : Int} (h : atI ds k = some d) : OpD K S (rIxL K) (.lst ds) (.i k) (· = d) := fun B H x y s n1 n2 Q q => by
  cases n2
  cases n1 with
  | @lst a xs _ ht hd =>
    obtain ⟨v, hv, nv⟩ := atI_dn hd h
    exact ⟨a, xs, k, v, rfl, rfl, (SOk.sub s).sqL ht, hv, q v B H d (.refl B) s rfl nv⟩
theorem OpD.imp {K : PySem.W.Frag} {r : R2} {u v : D} (h : OpD K S r u v R) (w : ∀ d, R d → Ra d) : OpD K S r u v Ra := fun B H x y s n1 n2 Q q => h B H x y s n1 n2 Q fun z B' H' d' e1 s1 r1 n3 => q z B' H' d' e1 s1 (w _ r1) n3
theorem x_ixT [SOk S] {k : Int} (ha : XE X S Γ a (· = .tup ds)) (hb : XE X S Γ b (· = .i k)) (h : atI ds k = some d) (hs : PlainIx b := by exact fun _ _ => rfl) : XE X S Γ (.Subscript a b pos) (· = d) := x_ixG ix_tup ha hb (fun _ _ r1 r2 => by subst r1 r2; exact opd_ixT h) hs
theorem x_ixL [SOk S] {k : Int} (ha : XE X S Γ a (· = .lst ds)) (hb : XE X S Γ b (· = .i k)) (h : atI ds k = some d) (hs : PlainIx b := by exact fun _ _ => rfl) : XE X S Γ (.Subscript a b pos) (· = d) := x_ixG ix_list ha hb (fun _ _ r1 r2 => by subst r1 r2; exact opd_ixL h) hs
/-- the index drawn -/
theorem x_ixLn [SOk S] (ha : XE X S Γ a (· = .lst ds)) (hb : XE X S Γ b Rb) (h : ∀ d, Rb d → ∃ k e, d = .i k ∧ atI ds k = some e ∧ R e) (hs : PlainIx b := by exact fun _ _ => rfl) : XE X S Γ (.Subscript a b pos) R := x_ixG ix_list ha hb (fun _ d2 r1 r2 => by
  subst r1
  obtain ⟨k, e, rfl, h1, h2⟩ := h d2 r2
  exact (opd_ixL h1).imp fun _ q => q ▸ h2) hs
theorem x_ixS {k : Int} {c : Nat} (ha : XE X S Γ a (· = .s x)) (hb : XE X S Γ b (· = .i k)) (hz : x.length ≤ 1000000) (h : atI x.cps.toList k = some c) (hs : PlainIx b := by exact fun _ _ => rfl) : XE X S Γ (.Subscript a b pos) (· = .s ⟨#[c]⟩) := x_ixG ix_str ha hb (fun _ _ r1 r2 => by
  subst r1 r2
  exact opd_v (fun _ => .v _) fun H Q q => ⟨x, k, c, rfl, rfl, sz_of hz, h, q⟩) hs
theorem x_ixSn (ha : XE X S Γ a (· = .s x)) (hb : XE X S Γ b Rb) (hz : x.length ≤ 1000000) (h : ∀ d, Rb d → ∃ k c, d = .i k ∧ atI x.cps.toList k = some c ∧ R (.s ⟨#[c]⟩)) (hs : PlainIx b := by exact fun _ _ => rfl) : XE X S Γ (.Subscript a b pos) R := x_ixG ix_str ha hb (fun _ d2 r1 r2 => by
  subst r1
  obtain ⟨k, c, rfl, h1, h2⟩ := h d2 r2
  exact (opd_v (z := .s ⟨#[c]⟩) (u := .str ⟨#[c]⟩) (fun _ => .v _) fun H Q q => ⟨x, k, c, rfl, rfl, sz_of hz, h1, q⟩).imp fun _ q => q ▸ h2) hs
/-- the place k of n -/
theorem atI_of {α : Type} {xs : List α} {k : Int} (h0 : 0 ≤ k) (h1 : k < xs.length) : ∃ e, atI xs k = some e ∧ e ∈ xs := by
  have h2 : k.toNat < xs.length := by omega
  refine ⟨xs[k.toNat], ?_, List.getElem_mem h2⟩
  have := atI_nat (xs := xs) (j := k.toNat) (v := xs[k.toNat]) (by simp [h2])
  rwa [Int.toNat_of_nonneg h0] at this

/-! ### slices -/
def XO (X : Cx) (S : SRel) (Γ : Gm) (e : Option Expr) (R : Option Int → Prop) : Prop := ∀ (B : Hp) (σ : L2.St) (H : Hp), Sl X.K B σ Γ → S B H → ∀ Q : Option Int → Hp → Prop,
  (∀ c B' H', Ex B B' → S B' H' → R c → Q c H') → ∀ (pins : List (Addr × Obj)) (s : Shared), Inv X pins σ H s → wpAny (model X.prog X.w) X.A (evalPart e X.env) (fun u s' => ∃ o H', Inv X pins σ H' s' ∧ IsPart u o ∧ Q o H') X.xe s
theorem o_none : XO X S Γ none (· = none) := fun B σ H hs hS Q k pins s I => po_none.run pins s σ H Q I (k none B H (.refl B) hS rfl)
theorem o_some {Ro : Option Int → Prop} (h : XE X S Γ e Rb) (w : ∀ d, Rb d → ∃ k, d = .i k ∧ Ro (some k)) : XO X S Γ (some e) Ro := fun B σ H hs hS Q k pins s I => (po_some peW).run pins s σ H Q I (h B σ H hs hS _ fun v B1 H1 d e1 s1 r1 n1 => by
  obtain ⟨i, rfl, r⟩ := w d r1
  cases n1
  exact ⟨i, rfl, k _ B1 H1 e1 s1 r⟩)
theorem o_int {k : Int} (h : XE X S Γ e (· = .i k)) : XO X S Γ (some e) (· = some k) := o_some h fun d r => ⟨k, r, rfl⟩
def wO (X : Cx) (e : Option Expr) : TO := fun σ H Q => ∀ (pins : List (Addr × Obj)) (s : Shared), Inv X pins σ H s → wpAny (model X.prog X.w) X.A (evalPart e X.env) (fun u s' => ∃ o H', Inv X pins σ H' s' ∧ IsPart u o ∧ Q o H') X.xe s
theorem poW {e : Option Expr} : PO X e (wO X e) := ⟨fun pins s _ _ _ I h => h pins s I⟩
/-- the items of xs[lo:hi] -/
def cutG {α : Type} (xs : List α) (lo hi : Option Int) : List α := (xs.drop (HT.sIx xs.length 0 lo)).take (HT.sIx xs.length xs.length hi - HT.sIx xs.length 0 lo)
theorem DnA.cut {K : PySem.W.Frag} {B : Hp} {xs : List V} {ds : List D} (h : DnA K B xs ds) (lo hi : Option Int) : DnA K B (cutV xs lo hi) (cutG ds lo hi) := by
  unfold cutV cutG
  rw [h.length]
  exact (h.drop _).take _
variable {lo hi : Option Expr} {Rl Rh : Option Int → Prop} {p2 : Pos}
theorem n_sliceL [SOk S] (ha : XE X S Γ a (· = .lst ds)) (hl : XO X S Γ lo Rl) (hh : XO X S Γ hi Rh) : XN X S Γ (.Subscript a (.Slice lo hi none p2) pos) (fun r => ∃ l h, Rl l ∧ Rh h ∧ r = cutG ds l h) := fun B σ H hs hS Q k =>
  PE.w (pe_slice sl_list peW poW poW) (ha B σ H hs hS _ fun v B1 H1 d e1 s1 r1 n1 => hl B1 σ H1 (hs.up e1) s1 _ fun l B2 H2 e2 s2 r2 => hh B2 σ H2 (hs.up (e1.trans e2)) s2 _ fun h B3 H3 e3 s3 r3 => by
    subst r1
    cases n1 with
    | @lst q xs _ hq hd => exact ⟨q, xs, rfl, (e2.trans (e3.trans (SOk.sub s3))).sqL hq, fun p hp => k p _ B3 H3 _ (e1.trans (e2.trans e3)) s3 ⟨l, h, r2, r3, rfl⟩ ((hd.up (e2.trans e3)).cut l h) hp⟩)
theorem cut_whole {α : Type} {xs : List α} {lo hi : Option Int} (h : HT.sIx xs.length 0 lo = 0 ∧ HT.sIx xs.length xs.length hi = xs.length) : cutG xs lo hi = xs := by
  unfold cutG
  rw [h.1, h.2]
  simp
theorem x_sliceT [SOk S] (ha : XE X S Γ a (· = .tup ds)) (hl : XO X S Γ lo Rl) (hh : XO X S Γ hi Rh) : XE X S Γ (.Subscript a (.Slice lo hi none p2) pos) (fun r => ∃ l h, Rl l ∧ Rh h ∧ r = .tup (cutG ds l h)) := fun B σ H hs hS Q k =>
  PE.w (pe_slice sl_tupA peW poW poW) (ha B σ H hs hS _ fun v B1 H1 d e1 s1 r1 n1 => hl B1 σ H1 (hs.up e1) s1 _ fun l B2 H2 e2 s2 r2 => hh B2 σ H2 (hs.up (e1.trans e2)) s2 _ fun h B3 H3 e3 s3 r3 => by
    subst r1
    cases n1 with
    | @tup q xs _ hq hd =>
      have hd3 := hd.up (e2.trans e3)
      refine ⟨q, xs, rfl, (e2.trans (e3.trans (SOk.sub s3))).sqT hq, fun z => ?_, fun _ p hp => ?_⟩
      · rw [hd.length] at z
        exact k _ B3 H3 _ (e1.trans (e2.trans e3)) s3 ⟨l, h, r2, r3, rfl⟩ (by rw [cut_whole z]; exact .tup ((e2.trans e3).sqT hq) hd3)
      · have e4 := SOk.bex (o := .tup (cutV xs l h)) s3 hp
        exact k _ _ _ _ (e1.trans (e2.trans (e3.trans e4))) (SOk.new s3 hp) ⟨l, h, r2, r3, rfl⟩ (.tup (SqT.of upd_same) ((hd3.cut l h).up e4)))
theorem x_sliceS (ha : XE X S Γ a (· = .s x)) (hl : XO X S Γ lo Rl) (hh : XO X S Γ hi Rh) (hz : x.length ≤ 1000000) : XE X S Γ (.Subscript a (.Slice lo hi none p2) pos) (fun r => ∃ l h, Rl l ∧ Rh h ∧ r = .s (cutS x l h)) := fun B σ H hs hS Q k =>
  PE.w (pe_slice sl_str peW poW poW) (ha B σ H hs hS _ fun v B1 H1 d e1 s1 r1 n1 => hl B1 σ H1 (hs.up e1) s1 _ fun l B2 H2 e2 s2 r2 => hh B2 σ H2 (hs.up (e1.trans e2)) s2 _ fun h B3 H3 e3 s3 r3 => by
    subst r1
    cases n1
    exact ⟨x, rfl, sz_of hz, k _ B3 H3 _ (e1.trans (e2.trans e3)) s3 ⟨l, h, r2, r3, rfl⟩ (.v _)⟩)

/-! ### t + u, xs + ys -/
theorem x_addT [SOk S] (ha : XE X S Γ a (· = .tup ds)) (hb : XE X S Γ b (· = .tup es)) (hz : ds.length + es.length ≤ 1000000) : XE X S Γ (.BinOp a .Add b pos) (· = .tup (ds ++ es)) := x_op op_catA ha hb fun _ _ r1 r2 => by
  subst r1 r2
  intro B H x y s n1 n2 Q q
  cases n1 with
  | @tup p1 xs _ h1 g1 =>
    cases n2 with
    | @tup p2 ys _ h2 g2 =>
      have e0 := SOk.sub s
      refine ⟨p1, p2, xs, ys, rfl, rfl, e0.sqT h1, e0.sqT h2, by rw [g1.length, g2.length]; exact sz_of hz, fun z => ?_, fun _ z => ?_, fun _ _ p hp => ?_⟩
      · subst z
        cases g1
        exact q _ B H _ (.refl B) s rfl (.tup h2 g2)
      · subst z
        cases g2
        exact q _ B H _ (.refl B) s rfl (by rw [List.append_nil]; exact .tup h1 g1)
      · have e4 := SOk.bex (o := .tup (xs ++ ys)) s hp
        exact q _ _ _ _ e4 (SOk.new s hp) rfl (.tup (SqT.of upd_same) ((g1.app g2).up e4))
/-- lists that are read, added -/
def rCatL (K : PySem.W.Frag) : R2 := fun x y H Q => ∃ l b xs zs, x = .ref l ∧ y = .ref b ∧ SqL K H l xs ∧ SqL K H b zs ∧ xs.length + zs.length ≤ sizeLine ∧ ∀ p, H p = none → Q (.ref p) (upd H p (.lst (xs ++ zs)))
theorem op_catL : OpR X (binaryOp .Add) (rCatL X.K) := by
  intro pins s σ H x y v u Q I rx ry h
  obtain ⟨l, b, xs, zs, rfl, rfl, h1, h2, hz, q⟩ := h
  cases rx
  cases ry
  obtain ⟨its, r1, ⟨⟨c1, d1, t1, sl1⟩, n1, e1, ec1, ed1, et1⟩, z1⟩ := I.list h1
  obtain ⟨its2, r2, ⟨⟨c2, d2, t2, sl2⟩, n2, e2, ec2, ed2, et2⟩, z2⟩ := I.list h2
  simp only at ec1 ed1 et1 ec2 ed2 et2
  subst ec1 ed1 et1 ec2 ed2 et2
  have l1 := r1.length
  have l2 := r2.length
  refine concat_meets ⟨_, e1, rfl⟩ ⟨_, e2, rfl⟩ noFill_list_add seq_list_add PySem.F.slot_list_add PySem.F.entry_list_add (PySem.F.args_list_add_2 _ _) (PyProof.Rows.list_addW l b its.toArray its2.toArray n1 n2 none none sl1 sl2 (by rw [List.size_toArray, List.size_toArray]; omega)) ⟨e1, e2, ?_⟩
  have ea : its.toArray ++ its2.toArray = (its ++ its2).toArray := by simp
  rw [ea]
  have hf : H s.heap.objs.size = none := I.hok.fresh (Nat.le_refl _)
  refine ⟨.ref s.heap.objs.size, _, I.laid (t' := s.toks) (o := .lst (xs ++ zs)) (fun b u e => Heap.get?_push_of_some _ e) (Nat.le_refl _) ?_, rfl, q _ hf⟩
  exact ⟨by rw [List.length_append]; exact hz, its ++ its2, 0, r1.append r2, Heap.get?_push_size _ rfl⟩
theorem x_addL [SOk S] (ha : XE X S Γ a (· = .lst ds)) (hb : XE X S Γ b (· = .lst es)) (hz : ds.length + es.length ≤ 1000000) : XE X S Γ (.BinOp a .Add b pos) (· = .lst (ds ++ es)) := x_op op_catL ha hb fun _ _ r1 r2 => by
  subst r1 r2
  intro B H x y s n1 n2 Q q
  cases n1 with
  | @lst p1 xs _ h1 g1 =>
    cases n2 with
    | @lst p2 ys _ h2 g2 =>
      have e0 := SOk.sub s
      refine ⟨p1, p2, xs, ys, rfl, rfl, e0.sqL h1, e0.sqL h2, by rw [g1.length, g2.length]; exact sz_of hz, fun p hp => ?_⟩
      have e4 := SOk.bex (o := .lst (xs ++ ys)) s hp
      exact q _ _ _ _ e4 (SOk.new s hp) rfl (.lst (SqL.of upd_same) ((g1.app g2).up e4))

/-! ### in -/
theorem opd_in [SOk S] {K : PySem.W.Frag} {u : V} {ys : List V} {neg : Bool} {v : D} (hv : v = .tup (ys.map .v) ∨ v = .lst (ys.map .v)) (hu : flatV u = true) (hy : ys.all flatV = true) : OpD K S (rIn K neg) (.v u) v (· = .b (if neg then !inV u ys else inV u ys)) := fun B H x y s n1 n2 Q q => by
  cases n1
  rcases hv with rfl | rfl
  · cases n2 with
    | @tup p xs _ ht hd =>
      have e := hd.leaf
      subst e
      exact ⟨p, xs, rfl, .inr ((SOk.sub s).sqT ht), hu, hy, q _ B H _ (.refl B) s rfl (.v _)⟩
  · cases n2 with
    | @lst p xs _ ht hd =>
      have e := hd.leaf
      subst e
      exact ⟨p, xs, rfl, .inl ((SOk.sub s).sqL ht), hu, hy, q _ B H _ (.refl B) s rfl (.v _)⟩
section
variable {u : V} {ys : List V} {v : D}
theorem x_in [SOk S] (ha : XE X S Γ a (· = .v u)) (hb : XE X S Γ b (· = v)) (hv : v = .tup (ys.map .v) ∨ v = .lst (ys.map .v)) (hy : ys.all flatV = true) (hu : flatV u = true := by rfl) (hm : behindInMarks .In b = false := by rfl) : XE X S Γ (.Compare a [.In] [b] pos) (· = .b (inV u ys)) :=
  x_cmp op_in_seq ha hb (fun _ _ r1 r2 => by subst r1 r2; exact opd_in hv hu hy) hm
theorem x_notIn [SOk S] (ha : XE X S Γ a (· = .v u)) (hb : XE X S Γ b (· = v)) (hv : v = .tup (ys.map .v) ∨ v = .lst (ys.map .v)) (hy : ys.all flatV = true) (hu : flatV u = true := by rfl) (hm : behindInMarks .NotIn b = false := by rfl) : XE X S Γ (.Compare a [.NotIn] [b] pos) (· = .b (!inV u ys)) :=
  x_cmp op_notIn_seq ha hb (fun _ _ r1 r2 => by subst r1 r2; exact opd_in hv hu hy) hm
end
theorem XE.t {c : Bool} (h : XE X S Γ e (· = .b c)) (he : ∀ whole, isTrue e X.env whole = (do let v ← whole; standAt e.pos; holding [v] (truthy v)) := by intro _; rfl) : XT X S Γ e (· = c) := t_val (h.imp fun d r => ⟨c, r, rfl⟩) he
/-- a comparison known as a value, as a test -/
theorem t_of {op : CmpOp} {r : R2} {u v : D} {c : Bool} (ho : OpR X (compareOp op) r) (ha : XE X S Γ a (· = u)) (hb : XE X S Γ b (· = v)) (h : OpD X.K S r u v (· = .b c)) (hm : behindInMarks op b = false) : XT X S Γ (.Compare a [op] [b] pos) (· = c) :=
  t_cmp ho ha hb (fun _ _ r1 r2 => by subst r1 r2; exact h.imp fun d q => ⟨c, q, rfl⟩) hm
theorem t_in [SOk S] {u : V} {ys : List V} {v : D} (ha : XE X S Γ a (· = .v u)) (hb : XE X S Γ b (· = v)) (hv : v = .tup (ys.map .v) ∨ v = .lst (ys.map .v)) (hy : ys.all flatV = true) (hu : flatV u = true := by rfl) (hm : behindInMarks .In b = false := by rfl) : XT X S Γ (.Compare a [.In] [b] pos) (· = inV u ys) := t_of op_in_seq ha hb (opd_in hv hu hy) hm
theorem t_notIn [SOk S] {u : V} {ys : List V} {v : D} (ha : XE X S Γ a (· = .v u)) (hb : XE X S Γ b (· = v)) (hv : v = .tup (ys.map .v) ∨ v = .lst (ys.map .v)) (hy : ys.all flatV = true) (hu : flatV u = true := by rfl) (hm : behindInMarks .NotIn b = false := by rfl) : XT X S Γ (.Compare a [.NotIn] [b] pos) (· = !inV u ys) := t_of op_notIn_seq ha hb (opd_in hv hu hy) hm
theorem t_eqP {u v : D} [SOk S] {k : Nat} (hr : Room k X.A) (ha : XE X S Γ a (· = u)) (hb : XE X S Γ b (· = v)) (h1 : u.plain = true) (h2 : v.plain = true) (h3 : SeqAt.shaped u.py = true) (h4 : SeqAt.shaped v.py = true) : XT X S Γ (.Compare a [.Eq] [b] pos) (· = PyData.eqv u.py v.py) :=
  t_of (op_eqD hr.units) ha hb (fun B H x y s n1 n2 Q q => ⟨_, _, n1.dp (SOk.sub s) _ _ h1, n2.dp (SOk.sub s) _ _ h2, h3, h4, q _ B H _ (.refl B) s rfl (.v _)⟩) (nobehind _ (by decide) (by decide))
theorem t_neP {u v : D} [SOk S] {k : Nat} (hr : Room k X.A) (ha : XE X S Γ a (· = u)) (hb : XE X S Γ b (· = v)) (h1 : u.plain = true) (h2 : v.plain = true) (h3 : SeqAt.shaped u.py = true) (h4 : SeqAt.shaped v.py = true) : XT X S Γ (.Compare a [.NotEq] [b] pos) (· = !PyData.eqv u.py v.py) :=
  t_of (op_neD hr.units) ha hb (fun B H x y s n1 n2 Q q => ⟨_, _, n1.dp (SOk.sub s) _ _ h1, n2.dp (SOk.sub s) _ _ h2, h3, h4, q _ B H _ (.refl B) s rfl (.v _)⟩) (nobehind _ (by decide) (by decide))
/-- one sign in a text -/
theorem x_inSign {c : Nat} {z : Str} (ha : XE X S Γ a (· = .s ⟨#[c]⟩)) (hb : XE X S Γ b (· = .s z)) (hm : behindInMarks .In b = false := by rfl) : XE X S Γ (.Compare a [.In] [b] pos) (· = .b (decide (c ∈ z.cps.toList))) :=
  x_cmp op_in_sign ha hb (fun _ _ r1 r2 => by subst r1 r2; exact opd_v (fun _ => .v _) fun H Q q => ⟨c, z, rfl, rfl, q⟩) hm
end
end Z

/-! Built-ins, methods, texts, by data. -/
namespace Z
open PySem PySem.Spec PyProof.Rows L2
section
variable {X : Cx} {S : SRel} {Γ : Gm} {e a b c : Expr} {es : List Expr} {pos p : Pos} {R Ra Rb : D → Prop} {RA : List D → Prop} {d : D} {x y : Str} {m n : Int} {ds : List D} {P : Bool → Prop}

/-! ### calls of built-ins, by values -/
def CaD (K : PySem.W.Frag) (S : SRel) (r : List V → Hp → VK → Prop) (ds : List D) (R : D → Prop) : Prop := ∀ (B H : Hp) (vs : List V), S B H → DnA K B vs ds → ∀ Q : VK, (∀ v B' H' d, Ex B B' → S B' H' → R d → Dn K B' v d → Q v H') → r vs H Q
theorem x_blt {x : Str} {id : String} {r : List V → Hp → VK → Prop} (hc : CallR X (.builtin id) r) (hm : X.mg x = none) (hv : bootBuiltins x = some (.builtin id)) (ha : XA X S Γ (e :: es) RA) (h : ∀ ds, RA ds → CaD X.K S r ds R) (hg : Gl X x := by rfl)
    (hn : x ≠ "__name__" := by decide) (hdb : (x == ("__debug__" : Str)) = false := by decide) (he : starEach (e :: es) X.env = (false, eval e X.env) :: starEach es X.env := by rfl) (hpl : (backTo pos (starEach es X.env)).any (·.1) = false := by rfl) : XE X S Γ (.Call (.Name x p) (e :: es) [] pos) R := fun B σ H hs hS Q k =>
  PE.w (pe_callB hc hg hm hv paW hn hdb he hpl) (ha B σ H hs hS _ fun vs B1 H1 ds e1 s1 r1 n1 => h ds r1 B1 H1 vs s1 n1 Q fun v B' H' d e2 s2 r2 n2 => k v B' H' d (e1.trans e2) s2 r2 n2)
theorem x_bty {x : Str} {T : String} {r : List V → Hp → VK → Prop} (hc : CallR X (.type T) r) (hm : X.mg x = none) (hv : bootBuiltins x = some (.type T)) (ha : XA X S Γ (e :: es) RA) (h : ∀ ds, RA ds → CaD X.K S r ds R) (hg : Gl X x := by rfl)
    (hn : x ≠ "__name__" := by decide) (hdb : (x == ("__debug__" : Str)) = false := by decide) (he : starEach (e :: es) X.env = (false, eval e X.env) :: starEach es X.env := by rfl) (hpl : (backTo pos (starEach es X.env)).any (·.1) = false := by rfl) : XE X S Γ (.Call (.Name x p) (e :: es) [] pos) R := fun B σ H hs hS Q k =>
  PE.w (pe_callTy hc hg hm hv paW hn hdb he hpl) (ha B σ H hs hS _ fun vs B1 H1 ds e1 s1 r1 n1 => h ds r1 B1 H1 vs s1 n1 Q fun v B' H' d e2 s2 r2 n2 => k v B' H' d (e1.trans e2) s2 r2 n2)
/-- a leaf from leaves -/
theorem cad_v {K : PySem.W.Frag} {r : List V → Hp → VK → Prop} {vs : List V} {u : V} (h : ∀ (H : Hp) (Q : VK), Q u H → r vs H Q) : CaD K S r (vs.map .v) (· = .v u) := fun B H ws s n Q q => by
  have e := n.leaf
  subst e
  exact h H Q (q u B H _ (.refl B) s rfl (.v _))
abbrev a1 (h : XE X S Γ e (· = d)) (hs : starEach [e] X.env = (false, eval e X.env) :: starEach [] X.env := by rfl) : XA X S Γ [e] (· = [d]) := a_consD h a_nil hs
abbrev a2 {d2 : D} (h : XE X S Γ a (· = d)) (g : XE X S Γ b (· = d2)) (hs : starEach [a, b] X.env = (false, eval a X.env) :: starEach [b] X.env := by rfl) (hs2 : starEach [b] X.env = (false, eval b X.env) :: starEach [] X.env := by rfl) : XA X S Γ [a, b] (· = [d, d2]) := a_consD h (a1 g hs2) hs
section
variable (hs : starEach [e] X.env = (false, eval e X.env) :: starEach [] X.env)
theorem x_abs (h : XE X S Γ e (· = .i n)) (hm : X.mg "abs" = none) (hg : Gl X "abs" := by rfl) (hs : starEach [e] X.env = (false, eval e X.env) :: starEach [] X.env := by rfl) : XE X S Γ (.Call (.Name "abs" p) [e] [] pos) (· = .i (if n < 0 then -n else n)) :=
  x_blt call_abs hm (by decide +kernel) (a1 h hs) (fun _ r => by subst r; exact cad_v (vs := [.int n]) fun H Q q => ⟨n, rfl, q⟩) hg (by decide) (by decide) hs
theorem x_intI (h : XE X S Γ e (· = .i n)) (hm : X.mg "int" = none) (hg : Gl X "int" := by rfl) (hs : starEach [e] X.env = (false, eval e X.env) :: starEach [] X.env := by rfl) : XE X S Γ (.Call (.Name "int" p) [e] [] pos) (· = .i n) :=
  x_bty call_int1 hm (by decide +kernel) (a1 h hs) (fun _ r => by subst r; exact cad_v (vs := [.int n]) fun H Q q => .inl ⟨n, rfl, q⟩) hg (by decide) (by decide) hs
theorem x_intB {k : Bool} (h : XE X S Γ e (· = .b k)) (hm : X.mg "int" = none) (hg : Gl X "int" := by rfl) (hs : starEach [e] X.env = (false, eval e X.env) :: starEach [] X.env := by rfl) : XE X S Γ (.Call (.Name "int" p) [e] [] pos) (· = .i (if k then 1 else 0)) :=
  x_bty call_int1 hm (by decide +kernel) (a1 h hs) (fun _ r => by subst r; exact cad_v (vs := [.bl k]) fun H Q q => .inr ⟨k, rfl, q⟩) hg (by decide) (by decide) hs
theorem x_strI (h : XE X S Γ e (· = .i n)) (hz : n.natAbs.log2 < 1920) (hm : X.mg "str" = none) (hg : Gl X "str" := by rfl) (hs : starEach [e] X.env = (false, eval e X.env) :: starEach [] X.env := by rfl) : XE X S Γ (.Call (.Name "str" p) [e] [] pos) (· = .s (toString n)) :=
  x_bty call_str_int hm (by decide +kernel) (a1 h hs) (fun _ r => by subst r; exact cad_v (vs := [.int n]) fun H Q q => ⟨n, rfl, hz, q⟩) hg (by decide) (by decide) hs
theorem x_strS (h : XE X S Γ e (· = .s x)) (hm : X.mg "str" = none) (hg : Gl X "str" := by rfl) (hs : starEach [e] X.env = (false, eval e X.env) :: starEach [] X.env := by rfl) : XE X S Γ (.Call (.Name "str" p) [e] [] pos) (· = .s x) :=
  x_bty SkE.call_str_str hm (by decide +kernel) (a1 h hs) (fun _ r => by subst r; exact cad_v (vs := [.str x]) fun H Q q => ⟨x, rfl, q⟩) hg (by decide) (by decide) hs
theorem x_max2 (hc : X.calm = true) (h : XE X S Γ a (· = .i m)) (g : XE X S Γ b (· = .i n)) (hm : X.mg "max" = none) (hg : Gl X "max" := by rfl) (hs : starEach [a, b] X.env = (false, eval a X.env) :: starEach [b] X.env := by rfl) (hs2 : starEach [b] X.env = (false, eval b X.env) :: starEach [] X.env := by rfl) (hpl : (backTo pos (starEach [b] X.env)).any (·.1) = false := by rfl) :
    XE X S Γ (.Call (.Name "max" p) [a, b] [] pos) (· = .i (if n > m then n else m)) :=
  x_blt (call_max2 hc) hm (by decide +kernel) (a2 h g hs hs2) (fun _ r => by subst r; exact cad_v (vs := [.int m, .int n]) fun H Q q => ⟨m, n, rfl, q⟩) hg (by decide) (by decide) hs hpl
theorem x_min2 (hc : X.calm = true) (h : XE X S Γ a (· = .i m)) (g : XE X S Γ b (· = .i n)) (hm : X.mg "min" = none) (hg : Gl X "min" := by rfl) (hs : starEach [a, b] X.env = (false, eval a X.env) :: starEach [b] X.env := by rfl) (hs2 : starEach [b] X.env = (false, eval b X.env) :: starEach [] X.env := by rfl) (hpl : (backTo pos (starEach [b] X.env)).any (·.1) = false := by rfl) :
    XE X S Γ (.Call (.Name "min" p) [a, b] [] pos) (· = .i (if n < m then n else m)) :=
  x_blt (call_min2 hc) hm (by decide +kernel) (a2 h g hs hs2) (fun _ r => by subst r; exact cad_v (vs := [.int m, .int n]) fun H Q q => ⟨m, n, rfl, q⟩) hg (by decide) (by decide) hs hpl
theorem x_divmod [SOk S] (h : XE X S Γ a (· = .i m)) (g : XE X S Γ b (· = .i n)) (hz : CDiv m n) (hm : X.mg "divmod" = none) (hg : Gl X "divmod" := by rfl) (hs : starEach [a, b] X.env = (false, eval a X.env) :: starEach [b] X.env := by rfl) (hs2 : starEach [b] X.env = (false, eval b X.env) :: starEach [] X.env := by rfl) (hpl : (backTo pos (starEach [b] X.env)).any (·.1) = false := by rfl) :
    XE X S Γ (.Call (.Name "divmod" p) [a, b] [] pos) (· = .tup [.i (m / n), .i (m % n)]) :=
  x_blt call_divmod hm (by decide +kernel) (a2 h g hs hs2) (fun _ r => by
    subst r
    intro B H ws s nn Q q
    have e := DnA.leaf (ys := [.int m, .int n]) nn
    subst e
    exact ⟨m, n, rfl, hz, fun pp hp => q _ _ _ _ (SOk.bex s hp) (SOk.new s hp) rfl (.tup (SqT.of upd_same) (.cons (.v _) (.cons (.v _) .nil)))⟩) hg (by decide) (by decide) hs hpl
/-! ### len, tuple, all, any -/
theorem x_lenL [SOk S] (h : XE X S Γ e (· = .lst ds)) (hm : X.mg "len" = none) (hg : Gl X "len" := by rfl) (hs : starEach [e] X.env = (false, eval e X.env) :: starEach [] X.env := by rfl) : XE X S Γ (.Call (.Name "len" p) [e] [] pos) (· = .i (ds.length : Int)) :=
  x_blt call_len hm PySem.boot_len (a1 h hs) (fun _ r => by
    subst r
    intro B H ws s nn Q q
    cases nn with
    | cons n1 n2 =>
      cases n2
      cases n1 with
      | @lst l xs _ g1 g2 => exact ⟨_, xs.length, rfl, .inl ⟨xs, (SOk.sub s).sqL g1, rfl⟩, q _ B H _ (.refl B) s rfl (by rw [g2.length]; exact .v _)⟩) hg (by decide) (by decide) hs
theorem x_lenT [SOk S] (h : XE X S Γ e (· = .tup ds)) (hm : X.mg "len" = none) (hg : Gl X "len" := by rfl) (hs : starEach [e] X.env = (false, eval e X.env) :: starEach [] X.env := by rfl) : XE X S Γ (.Call (.Name "len" p) [e] [] pos) (· = .i (ds.length : Int)) :=
  x_blt call_len hm PySem.boot_len (a1 h hs) (fun _ r => by
    subst r
    intro B H ws s nn Q q
    cases nn with
    | cons n1 n2 =>
      cases n2
      cases n1 with
      | @tup l xs _ g1 g2 => exact ⟨_, xs.length, rfl, .inr ⟨xs, (SOk.sub s).sqT g1, rfl⟩, q _ B H _ (.refl B) s rfl (by rw [g2.length]; exact .v _)⟩) hg (by decide) (by decide) hs
theorem x_lenS (h : XE X S Γ e (· = .s x)) (hz : x.length ≤ 1000000) (hm : X.mg "len" = none) (hg : Gl X "len" := by rfl) (hs : starEach [e] X.env = (false, eval e X.env) :: starEach [] X.env := by rfl) : XE X S Γ (.Call (.Name "len" p) [e] [] pos) (· = .i (x.length : Int)) :=
  x_blt call_len hm PySem.boot_len (a1 h hs) (fun _ r => by subst r; exact cad_v (vs := [.str x]) fun H Q q => ⟨.str x, x.length, rfl, ⟨sz_of hz, rfl⟩, q⟩) hg (by decide) (by decide) hs
theorem x_lenO [SOk S] {l : Addr} {S' : List D → SRel} (hh : Has X.K l S ds S') (h : XE X S Γ e (· = .r l)) (hm : X.mg "len" = none) (hg : Gl X "len" := by rfl) (hs : starEach [e] X.env = (false, eval e X.env) :: starEach [] X.env := by rfl) : XE X S Γ (.Call (.Name "len" p) [e] [] pos) (· = .i (ds.length : Int)) :=
  x_blt call_len hm PySem.boot_len (a1 h hs) (fun _ r => by
    subst r
    intro B H ws s nn Q q
    have e := DnA.leaf (ys := [.ref l]) nn
    subst e
    obtain ⟨xs, g1, g2⟩ := hh.get s
    exact ⟨_, xs.length, rfl, .inl ⟨xs, SqL.of g1, rfl⟩, q _ B H _ (.refl B) s rfl (by rw [g2.length]; exact .v _)⟩) hg (by decide) (by decide) hs
theorem x_tupL [SOk S] (h : XE X S Γ e (· = .lst ds)) (hm : X.mg "tuple" = none) (hg : Gl X "tuple" := by rfl) (hs : starEach [e] X.env = (false, eval e X.env) :: starEach [] X.env := by rfl) : XE X S Γ (.Call (.Name "tuple" p) [e] [] pos) (· = .tup ds) :=
  x_bty call_tuple_of hm (by decide +kernel) (a1 h hs) (fun _ r => by
    subst r
    intro B H ws s nn Q q
    cases nn with
    | cons n1 n2 =>
      cases n2
      cases n1 with
      | @lst l xs _ g1 g2 => exact ⟨_, xs, rfl, .inl ⟨(SOk.sub s).sqL g1, fun pp hp => q _ _ _ _ (SOk.bex s hp) (SOk.new s hp) rfl (.tup (SqT.of upd_same) (g2.up (SOk.bex s hp)))⟩⟩) hg (by decide) (by decide) hs
theorem x_tupR [SOk S] (h : XE X S Γ e (fun d => ∃ ds, d = .lst ds ∧ RA ds)) (hm : X.mg "tuple" = none) (hg : Gl X "tuple" := by rfl) (hs : starEach [e] X.env = (false, eval e X.env) :: starEach [] X.env := by rfl) : XE X S Γ (.Call (.Name "tuple" p) [e] [] pos) (fun d => ∃ ds, d = .tup ds ∧ RA ds) :=
  x_bty call_tuple_of hm (by decide +kernel) (a_cons h a_nil hs) (fun _ r => by
    obtain ⟨_, _, rfl, ⟨ds, rfl, r⟩, rfl⟩ := r
    intro B H ws s nn Q q
    cases nn with
    | cons n1 n2 =>
      cases n2
      cases n1 with
      | @lst l xs _ g1 g2 => exact ⟨_, xs, rfl, .inl ⟨(SOk.sub s).sqL g1, fun pp hp => q _ _ _ _ (SOk.bex s hp) (SOk.new s hp) ⟨_, rfl, r⟩ (.tup (SqT.of upd_same) (g2.up (SOk.bex s hp)))⟩⟩) hg (by decide) (by decide) hs
theorem x_tupT [SOk S] (h : XE X S Γ e (· = .tup ds)) (hm : X.mg "tuple" = none) (hg : Gl X "tuple" := by rfl) (hs : starEach [e] X.env = (false, eval e X.env) :: starEach [] X.env := by rfl) : XE X S Γ (.Call (.Name "tuple" p) [e] [] pos) (· = .tup ds) :=
  x_bty call_tuple_of hm (by decide +kernel) (a1 h hs) (fun _ r => by
    subst r
    intro B H ws s nn Q q
    cases nn with
    | cons n1 n2 =>
      cases n2
      cases n1 with
      | @tup l xs _ g1 g2 => exact ⟨_, xs, rfl, .inr ⟨(SOk.sub s).sqT g1, q _ B H _ (.refl B) s rfl (.tup g1 g2)⟩⟩) hg (by decide) (by decide) hs
theorem x_all [SOk S] {bs : List Bool} (hc : X.calm = true) (h : XE X S Γ e (· = .lst (bs.map .b))) (hm : X.mg "all" = none) (hg : Gl X "all" := by rfl) (hs : starEach [e] X.env = (false, eval e X.env) :: starEach [] X.env := by rfl) : XE X S Γ (.Call (.Name "all" p) [e] [] pos) (· = .b (bs.all id)) :=
  x_blt (cr_all hc) hm (by decide +kernel) (a1 h hs) (fun _ r => by
    subst r
    intro B H ws s nn Q q
    cases nn with
    | cons n1 n2 =>
      cases n2
      cases n1 with
      | @lst l xs _ g1 g2 =>
        have g2' : DnA X.K B xs ((bs.map V.bl).map .v) := by rw [List.map_map]; exact g2
        have e := g2'.leaf
        subst e
        exact ⟨l, bs, rfl, (SOk.sub s).sqL g1, q _ B H _ (.refl B) s rfl (.v _)⟩) hg (by decide) (by decide) hs
theorem x_any [SOk S] {bs : List Bool} (hc : X.calm = true) (h : XE X S Γ e (· = .lst (bs.map .b))) (hm : X.mg "any" = none) (hg : Gl X "any" := by rfl) (hs : starEach [e] X.env = (false, eval e X.env) :: starEach [] X.env := by rfl) : XE X S Γ (.Call (.Name "any" p) [e] [] pos) (· = .b (bs.any id)) :=
  x_blt (cr_any hc) hm (by decide +kernel) (a1 h hs) (fun _ r => by
    subst r
    intro B H ws s nn Q q
    cases nn with
    | cons n1 n2 =>
      cases n2
      cases n1 with
      | @lst l xs _ g1 g2 =>
        have g2' : DnA X.K B xs ((bs.map V.bl).map .v) := by rw [List.map_map]; exact g2
        have e := g2'.leaf
        subst e
        exact ⟨l, bs, rfl, (SOk.sub s).sqL g1, q _ B H _ (.refl B) s rfl (.v _)⟩) hg (by decide) (by decide) hs
end

/-! ### isinstance -/
/-- the built-in class of data -/
inductive TyD : D → String → Prop
  | non : TyD .non "NoneType"
  | bl (c : Bool) : TyD (.b c) "bool"
  | int (n : Int) : TyD (.i n) "int"
  | str (x : Str) : TyD (.s x) "str"
  | lst (ds : List D) : TyD (.lst ds) "list"
  | tup (ds : List D) : TyD (.tup ds) "tuple"
theorem TyD.tx {K : PySem.W.Frag} {B H : Hp} {d : D} {T : String} {v : V} (h : TyD d T) (n : Dn K B v d) (e : Ex B H) : TyX K H v (.type T) := by
  cases h with
  | non => cases n; exact .base .non
  | bl c => cases n; exact .base (.bl c)
  | int i => cases n; exact .base (.int i)
  | str z => cases n; exact .base (.str z)
  | lst ds =>
    cases n with
    | @lst a xs _ q r =>
      rcases q with (q | ⟨o, q⟩) | ⟨o, its, m, hk, hc, _⟩
      · exact .base (.lst (e _ _ q))
      · exact .base (.frz (e _ _ q))
      · exact .kList hk hc
  | tup ds =>
    cases n with
    | @tup a xs _ q r =>
      rcases q with (q | ⟨o, q⟩) | ⟨o, its, m, hk, hc, _⟩
      · exact .base (.tup (e _ _ q))
      · exact .fTuple (e _ _ q)
      · exact .kTuple hk hc
theorem x_bltn {x : Str} {T : String} (hm : X.mg x = none) (hv : bootBuiltins x = some (.type T)) (hg : Gl X x := by rfl) (hn : x ≠ "__name__" := by decide) (hd : (x == ("__debug__" : Str)) = false := by decide) : XE X S Γ (.Name x pos) (· = .v (.ty T)) := fun B σ H hs hS Q k =>
  PE.w (pe_bltn (v := .ty T) hg hm hv rfl hn hd) (k _ B H _ (.refl B) hS rfl (.v _))
/-- isinstance(x, T), T a built-in class -/
theorem x_isi [SOk S] {T U : String} {k : Bool} (h : XE X S Γ a (· = d)) (g : XE X S Γ b (· = .v (.ty U))) (t : TyD d T) (ht : kitB T U = some k) (hm : X.mg "isinstance" = none) (hg : Gl X "isinstance" := by rfl)
    (hs : starEach [a, b] X.env = (false, eval a X.env) :: starEach [b] X.env := by rfl) (hs2 : starEach [b] X.env = (false, eval b X.env) :: starEach [] X.env := by rfl) (hpl : (backTo pos (starEach [b] X.env)).any (·.1) = false := by rfl) : XE X S Γ (.Call (.Name "isinstance" p) [a, b] [] pos) (· = .b k) :=
  x_blt call_isi hm boot_isinstance (a2 h g hs hs2) (fun _ r => by
    subst r
    intro B H ws s nn Q q
    cases nn with
    | cons n1 n2 =>
      cases n2 with
      | cons n2 n3 =>
        cases n3
        cases n2
        exact ⟨_, _, _, _, k, rfl, .ty U, t.tx n1 (SOk.sub s), kit_ty ht, q _ B H _ (.refl B) s rfl (.v _)⟩) hg (by decide) (by decide) hs hpl
/-- .. with a tuple of two -/
theorem x_isi2 [SOk S] {T U W : String} {k1 k2 : Bool} (h : XE X S Γ a (· = d)) (g : XE X S Γ b (· = .tup [.v (.ty U), .v (.ty W)])) (t : TyD d T) (h1 : kitB T U = some k1) (h2 : kitB T W = some k2) (fresh : ∀ (B : Hp) (v : V), Dn X.K B v (.tup [.v (.ty U), .v (.ty W)]) → True := by intros; trivial)
    (hm : X.mg "isinstance" = none) {es2 : List Expr} {x1} {tp : Pos} (hb : b = .Tuple es2 x1 tp) (hA : XA X S Γ es2 (· = [.v (.ty U), .v (.ty W)])) (hg : Gl X "isinstance" := by rfl)
    (hs : starEach [a, b] X.env = (false, eval a X.env) :: starEach [b] X.env := by rfl) (hs2 : starEach [b] X.env = (false, eval b X.env) :: starEach [] X.env := by rfl) (hpl : (backTo pos (starEach [b] X.env)).any (·.1) = false := by rfl) : XE X S Γ (.Call (.Name "isinstance" p) [a, b] [] pos) (· = .b (k1 || k2)) := fun B σ H hsl hS Q k => by
  subst hb
  refine PE.w (pe_callB call_isiT hg hm boot_isinstance (pa_cons (te := wE X a) peW (pa_cons (pe_tup paW) pa_nil hs2) hs) (by decide) (by decide) hs hpl) ?_
  refine h B σ H hsl hS _ fun v B1 H1 d1 e1 s1 r1 n1 => hA B1 σ H1 (hsl.up e1) s1 _ fun vs B2 H2 ds2 e2 s2 r2 n2 => ?_
  subst r1 r2
  have ev := DnA.leaf (ys := [.ty U, .ty W]) n2
  subst ev
  refine ⟨by show 2 ≤ sizeLine; decide, fun q hq => ?_⟩
  have e3 := SOk.bex (o := .tup [.ty U, .ty W]) s2 hq
  refine ⟨v, q, [.ty U, .ty W], .type T, [.type U, .type W], k1 || k2, rfl, upd_same, .cons (.ty U) (.cons (.ty W) .nil), t.tx (n1.up (e2.trans e3)) (SOk.sub (SOk.new (o := .tup [.ty U, .ty W]) s2 hq)), ?_, k _ _ _ _ (e1.trans (e2.trans e3)) (SOk.new s2 hq) rfl (.v _)⟩
  refine kitAny_cons (kit_ty h1) (fun z => ?_) (fun z => by rw [z, Bool.true_or])
  refine kitAny_cons (kit_ty h2) (fun z2 => ?_) (fun z2 => by rw [z2, Bool.or_true])
  rw [z, z2]
  exact kitAny_nil
end
end Z

/-! Texts, own lists, the pot, repr, by data. -/
namespace Z
open PySem PySem.Spec PyProof.Rows L2
section
variable {X : Cx} {S : SRel} {Γ : Gm} {e a b c o : Expr} {es : List Expr} {pos p : Pos} {R Ra Rb : D → Prop} {RA : List D → Prop} {d : D} {x y : Str} {m n : Int} {ds : List D} {P : Bool → Prop}

/-! ### methods of texts -/
theorem n_split {apos : Pos} (h : XE X S Γ o (· = .s x)) (g : XE X S Γ e (· = .s y)) (h1 : (y.length == 0) = false) (h2 : x.length ≤ 1000000) (hs : starEach [e] X.env = [(false, eval e X.env)] := by rfl) (hbase : attributeBase o "split" X.env (eval o X.env) = eval o X.env := by rfl) (hline : (apos.endLine == pos.line) = true := by rfl) :
    XN X S Γ (.Call (.Attribute o "split" apos) [e] [] pos) (· = (Txt.split x y).map .s) := fun B σ H hsl hS Q k =>
  PE.w (pe_split peW peW hs hbase hline) (h B σ H hsl hS _ fun v B1 H1 d1 e1 s1 r1 n1 => by
    subst r1
    cases n1
    refine ⟨⟨x, rfl⟩, g B1 σ H1 (hsl.up e1) s1 _ fun v2 B2 H2 d2 e2 s2 r2 n2 => ?_⟩
    subst r2
    cases n2
    refine ⟨x, y, rfl, rfl, h1, Nat.le_trans (Nat.add_le_add_right h2 2) (by decide), fun q hq => k q _ B2 H2 _ (e1.trans e2) s2 rfl ?_ hq⟩
    have := DnA.ofLeaf (K := X.K) (B := B2) ((Txt.split x y).map V.str)
    rwa [List.map_map] at this)
theorem x_join [SOk S] {apos : Pos} {ys : List Str} (h : XE X S Γ o (· = .s x)) (g : XE X S Γ e (· = .lst (ys.map .s)) ∨ XE X S Γ e (· = .tup (ys.map .s))) (hz : (ys.map (·.length)).sum + ys.length * x.length ≤ 1000000) (hs : starEach [e] X.env = [(false, eval e X.env)] := by rfl)
    (hbase : attributeBase o "join" X.env (eval o X.env) = eval o X.env := by rfl) (hline : (apos.endLine == pos.line) = true := by rfl) : XE X S Γ (.Call (.Attribute o "join" apos) [e] [] pos) (· = .s (Str.join x ys)) := fun B σ H hsl hS Q k =>
  PE.w (pe_join peW peW hs hbase hline) (h B σ H hsl hS _ fun v B1 H1 d1 e1 s1 r1 n1 => by
    subst r1
    cases n1
    refine ⟨⟨x, rfl⟩, ?_⟩
    have hz' : (ys.map (·.length)).sum + ys.length * x.length ≤ 16777216 := Nat.le_trans hz (by decide)
    have leaf : ∀ {B : Hp} {xs : List V}, DnA X.K B xs (ys.map D.s) → xs = ys.map V.str := fun {B xs} hh => by
      have h2 : DnA X.K B xs ((ys.map V.str).map .v) := by rw [List.map_map]; exact hh
      exact h2.leaf
    rcases g with g | g
    · refine g B1 σ H1 (hsl.up e1) s1 _ fun v2 B2 H2 d2 e2 s2 r2 n2 => ?_
      subst r2
      cases n2 with
      | @lst q xs _ hq hd =>
        have := leaf hd
        subst this
        exact ⟨x, q, ys, rfl, rfl, .inl ((SOk.sub s2).sqL hq), hz', by rw [TL.join_eq]; exact k _ B2 H2 _ (e1.trans e2) s2 rfl (.v _)⟩
    · refine g B1 σ H1 (hsl.up e1) s1 _ fun v2 B2 H2 d2 e2 s2 r2 n2 => ?_
      subst r2
      cases n2 with
      | @tup q xs _ hq hd =>
        have := leaf hd
        subst this
        exact ⟨x, q, ys, rfl, rfl, .inr ((SOk.sub s2).sqT hq), hz', by rw [TL.join_eq]; exact k _ B2 H2 _ (e1.trans e2) s2 rfl (.v _)⟩)

/-! ### f-strings -/
inductive XJ (X : Cx) (S : SRel) (Γ : Gm) : List Expr → List Str → Prop
  | nil : XJ X S Γ [] []
  | cons {e : Expr} {y : Str} {es : List Expr} {ys : List Str} (h : XE X S Γ e (· = .s y)) (r : XJ X S Γ es ys) : XJ X S Γ (e :: es) (y :: ys)
theorem xj_pj : ∀ {es : List Expr} {ys : List Str}, XJ X S Γ es ys → PJ X es (es.map (wE X))
  | _, _, .nil => .nil
  | _, _, .cons _ r => .cons peW (xj_pj r)
def catS (acc : Str) : List Str → Str
  | [] => acc
  | y :: ys => catS (acc ++ y) ys
theorem tl_catS : ∀ (ys : List Str) (acc : Str), TL.tl (catS acc ys) = TL.tl acc ++ (ys.map TL.tl).flatten
  | [], acc => by simp [catS]
  | y :: ys, acc => by rw [catS, tl_catS ys, TL.tl_append, List.map_cons, List.flatten_cons, List.append_assoc]
theorem len_append (x y : Str) : (x ++ y).length = x.length + y.length := by rw [TL.len_tl, TL.len_tl x, TL.len_tl y, TL.tl_append, List.length_append]
theorem xj_run : ∀ {es : List Expr} {ys : List Str}, XJ X S Γ es ys → ∀ (acc : Str), acc.length + (ys.map (·.length)).sum ≤ 1000000 → ∀ (B : Hp) (σ : L2.St) (H : Hp), Sl X.K B σ Γ → S B H → ∀ Q : Str → Hp → Prop, (∀ B' H', Ex B B' → S B' H' → Q (catS acc ys) H') → tJs (es.map (wE X)) acc σ H Q
  | _, _, .nil, acc, _, B, σ, H, _, hS, Q, k => k B H (.refl B) hS
  | _, _, .cons (y := y) (ys := ys) h r, acc, hz, B, σ, H, hs, hS, Q, k => h B σ H hs hS _ fun v B1 H1 d1 e1 s1 r1 n1 => by
    subst r1
    cases n1
    rw [List.map_cons, List.sum_cons] at hz
    refine ⟨y, rfl, sz_of (by rw [len_append]; omega), xj_run r (acc ++ y) (by rw [len_append]; omega) B1 σ H1 (hs.up e1) s1 Q fun B' H' e2 s2 => k B' H' (e1.trans e2) s2⟩
theorem x_fstr {v1 v2 : Expr} {rest : List Expr} {ys : List Str} (h : XJ X S Γ (v1 :: v2 :: rest) ys) (hz : (ys.map (·.length)).sum ≤ 1000000) : XE X S Γ (.JoinedStr (v1 :: v2 :: rest) pos) (· = .s (catS Str.empty ys)) := fun B σ H hs hS Q k =>
  PE.w (pe_joined (xj_pj h)) (xj_run h Str.empty (by rw [show Str.empty.length = 0 from rfl]; omega) B σ H hs hS _ fun B' H' e1 s1 => k _ B' H' _ e1 s1 rfl (.v _))
theorem x_fmtS (h : XE X S Γ e (· = .s x)) (hz : x.length ≤ 1000000) : XE X S Γ (.FormattedValue e (-1) none pos) (· = .s x) := fun B σ H hs hS Q k => PE.w (pe_fmt peW) (h B σ H hs hS _ fun v B1 H1 d1 e1 s1 r1 n1 => by
  subst r1
  cases n1
  exact .inl ⟨x, rfl, sz_of hz, k _ B1 H1 _ e1 s1 rfl (.v _)⟩)
theorem x_fmtI (h : XE X S Γ e (· = .i n)) (hz : n.natAbs.log2 < 1920) : XE X S Γ (.FormattedValue e (-1) none pos) (· = .s (toString n)) := fun B σ H hs hS Q k => PE.w (pe_fmt peW) (h B σ H hs hS _ fun v B1 H1 d1 e1 s1 r1 n1 => by
  subst r1
  cases n1
  exact .inr ⟨n, rfl, hz, k _ B1 H1 _ e1 s1 rfl (.v _)⟩)

/-! ### repr of plain data -/
theorem call_reprD (hg : X.A.guards = some []) (hu : X.A.units + 66 < cLine) : CallR X (.builtin "repr") (fun xs H Q => ∃ (a : Addr) (q : PyData), xs = [.ref a] ∧ Dp X.K H (.ref a) q ∧ q.showable = true ∧ q.hasDict = false ∧ q.depth ≤ 64 ∧ q.shown.length ≤ 1000000 ∧ Q (.str q.shown) H) := by
  intro pins s σ H xs us Q I r h
  obtain ⟨a, q, rfl, hd, hs, hh, hdep, hz, k⟩ := h
  obtain ⟨u, rfl, ru⟩ := r.one
  cases ru
  obtain ⟨as, rd⟩ := Dp.reads I q _ _ hd rfl
  refine repr_of_reads' rd hs (PyData.noDict_hsm hh) hg (by omega) (fun _ _ e => e) (fun h' u tk hk => ?_) (sz_of hz)
  exact ⟨.str q.shown, H, I.kept (t' := tk) hk, ⟨u, rfl⟩, k⟩
theorem x_repr [SOk S] (hgu : X.A.guards = some []) {k : Nat} (hr : Room k X.A) (h : XE X S Γ e (· = d)) (hd : (∃ ds, d = .tup ds) ∨ ∃ ds, d = .lst ds) (h1 : d.plain = true) (h2 : d.py.showable = true) (h3 : d.py.hasDict = false) (h4 : d.py.depth ≤ 64) (h5 : d.py.shown.length ≤ 1000000) (hm : X.mg "repr" = none) (hg : Gl X "repr" := by rfl)
    (hs : starEach [e] X.env = (false, eval e X.env) :: starEach [] X.env := by rfl) : XE X S Γ (.Call (.Name "repr" p) [e] [] pos) (· = .s d.py.shown) :=
  x_blt (call_reprD hgu (by have := hr.un; omega)) hm (by decide +kernel) (a1 h hs) (fun _ r => by
    subst r
    intro B H ws s nn Q q
    cases nn with
    | cons n1 n2 =>
      cases n2
      have key := n1.dp (SOk.sub s) _ _ h1
      rcases hd with ⟨ds, rfl⟩ | ⟨ds, rfl⟩
      · cases n1 with
        | tup g1 g2 => exact ⟨_, _, rfl, key, h2, h3, h4, h5, q _ B H _ (.refl B) s rfl (.v _)⟩
      · cases n1 with
        | lst g1 g2 => exact ⟨_, _, rfl, key, h2, h3, h4, h5, q _ B H _ (.refl B) s rfl (.v _)⟩) hg (by decide) (by decide) hs

/-! ### own lists: append, pop -/
/-- an expression that turns S: behind it T i, for some i with Rv i of the value -/
def XM (X : Cx) (S : SRel) (Γ : Gm) (e : Expr) {ι : Type} (T : ι → SRel) (Rv : ι → D → Prop) : Prop := ∀ (B : Hp) (σ : L2.St) (H : Hp), Sl X.K B σ Γ → S B H → ∀ Q : VK,
  (∀ v B' H' i d, Ex B B' → T i B' H' → Rv i d → Dn X.K B' v d → Q v H') → wE X e σ H Q
theorem XE.toM (h : XE X S Γ e R) : XM X S Γ e (fun _ : Unit => S) (fun _ => R) := fun B σ H hs hS Q k => h B σ H hs hS Q fun v B' H' d e1 s1 r1 n1 => k v B' H' () d e1 s1 r1 n1
section
variable {ι : Type} {T : ι → SRel} {Rv : ι → D → Prop} {rest : List Stmt} {E : Ends}
/-- l.append(e), l a list of one's own in slot i -/
theorem s_appendM {l : Addr} {nx : Str} {np apos pos' : Pos} (i : Nat) (hi : Γ[i]? = some (some (.r l))) (hL : ∀ {B H}, S B H → ∃ xs, H l = some (.lst xs)) (he : XM X S Γ e T Rv) (hh : ∀ j d, Rv j d → ∃ ds S', Has X.K l (T j) ds S' ∧ ds.length ≤ 1000000 ∧ XS X (S' (ds ++ [d])) Γ rest E)
    (hN : X.N[i]? = some nx := by rfl) (hv : Vis X.env.scope nx := by first | exact Or.inl rfl | exact Or.inr (Or.inl rfl) | exact Or.inr (Or.inr rfl)) (h1 : (nx == ("__debug__" : Str)) = false := by decide) (h2 : (nx == ("__classdict__" : Str)) = false := by decide)
    (hbase : attributeBase (.Name nx np) "append" X.env (eval (.Name nx np) X.env) = eval (.Name nx np) X.env := by rfl)
    (hfew : ((backTo pos (starEach [e] X.env)).all (fun x => !x.1) && (backToKw pos (keywordEach [] X.env)).all (fun x => x.1.isSome) && decide ([e].length + ([] : List Keyword).length + (if ([] : List Keyword).isEmpty then 0 else 1) < 30)) = true := by rfl)
    (hline : (apos.endLine == pos.line) = true := by rfl) (hs : starEach [e] X.env = (false, eval e X.env) :: starEach [] X.env := by rfl) (hplain : (backTo pos (starEach [] X.env)).any (·.1) = false := by rfl)
    (hsw : swapsWith (.Call (.Attribute (.Name nx np) "append" apos) [e] [] pos) none pos'.line X.env = pure false := by rfl) : XS X S Γ (.Expr (.Call (.Attribute (.Name nx np) "append" apos) [e] [] pos) pos' :: rest) E := fun B σ H hsl hS =>
  PSs.w (pss_cons (ps_expr (pe_bm PySem.F.plainAttrs_list PySem.F.slot_list_append PySem.F.type_list_append mt_append (pe_var hN hv h1 h2) (pa_cons peW pa_nil hs) hbase hfew hline hs hplain) hsw) pssW) (by
    obtain ⟨v, hv1, hv2⟩ := hsl.2 i _ hi
    cases hv2
    obtain ⟨xs0, h0⟩ := hL hS
    refine ⟨.ref l, hv1, .inl ⟨rfl, xs0, SqL.of h0⟩, he B σ H hsl hS _ fun u B1 H1 j d e1 s1 r1 n1 => ?_⟩
    obtain ⟨ds, S', hp, hz, k⟩ := hh j d r1
    obtain ⟨xs, g1, g2⟩ := hp.get s1
    exact ⟨l, xs, u, rfl, rfl, g1, by rw [g2.length]; exact Nat.lt_of_le_of_lt hz (by decide), k B1 σ _ (hsl.up e1) (hp.put s1 (g2.app (.one n1)))⟩)
theorem s_append {l : Addr} {S' : List D → SRel} {nx : Str} {np apos pos' : Pos} (i : Nat) (hi : Γ[i]? = some (some (.r l))) (hh : Has X.K l S ds S') (hz : ds.length ≤ 1000000) (he : XE X S Γ e R) (k : ∀ d, R d → XS X (S' (ds ++ [d])) Γ rest E)
    (hN : X.N[i]? = some nx := by rfl) (hv : Vis X.env.scope nx := by first | exact Or.inl rfl | exact Or.inr (Or.inl rfl) | exact Or.inr (Or.inr rfl)) (h1 : (nx == ("__debug__" : Str)) = false := by decide) (h2 : (nx == ("__classdict__" : Str)) = false := by decide)
    (hbase : attributeBase (.Name nx np) "append" X.env (eval (.Name nx np) X.env) = eval (.Name nx np) X.env := by rfl)
    (hfew : ((backTo pos (starEach [e] X.env)).all (fun x => !x.1) && (backToKw pos (keywordEach [] X.env)).all (fun x => x.1.isSome) && decide ([e].length + ([] : List Keyword).length + (if ([] : List Keyword).isEmpty then 0 else 1) < 30)) = true := by rfl)
    (hline : (apos.endLine == pos.line) = true := by rfl) (hs : starEach [e] X.env = (false, eval e X.env) :: starEach [] X.env := by rfl) (hplain : (backTo pos (starEach [] X.env)).any (·.1) = false := by rfl)
    (hsw : swapsWith (.Call (.Attribute (.Name nx np) "append" apos) [e] [] pos) none pos'.line X.env = pure false := by rfl) : XS X S Γ (.Expr (.Call (.Attribute (.Name nx np) "append" apos) [e] [] pos) pos' :: rest) E :=
  s_appendM i hi (fun h => let ⟨xs, a, _⟩ := hh.get h; ⟨xs, a⟩) he.toM (fun _ d r => ⟨ds, S', hh, hz, k d r⟩) hN hv h1 h2 hbase hfew hline hs hplain hsw
/-- l.pop(k) -/
theorem m_popAt {l : Addr} {S' : List D → SRel} {nx : Str} {np apos : Pos} (i : Nat) (hi : Γ[i]? = some (some (.r l))) (hh : Has X.K l S ds S') (he : XE X S Γ e R) (hk : ∀ d, R d → ∃ k : Int, d = .i k ∧ 0 ≤ k ∧ k < ds.length) (hz : ds.length ≤ 1000000)
    (hN : X.N[i]? = some nx := by rfl) (hv : Vis X.env.scope nx := by first | exact Or.inl rfl | exact Or.inr (Or.inl rfl) | exact Or.inr (Or.inr rfl)) (h1 : (nx == ("__debug__" : Str)) = false := by decide) (h2 : (nx == ("__classdict__" : Str)) = false := by decide)
    (hbase : attributeBase (.Name nx np) "pop" X.env (eval (.Name nx np) X.env) = eval (.Name nx np) X.env := by rfl)
    (hfew : ((backTo pos (starEach [e] X.env)).all (fun x => !x.1) && (backToKw pos (keywordEach [] X.env)).all (fun x => x.1.isSome) && decide ([e].length + ([] : List Keyword).length + (if ([] : List Keyword).isEmpty then 0 else 1) < 30)) = true := by rfl)
    (hline : (apos.endLine == pos.line) = true := by rfl) (hs : starEach [e] X.env = (false, eval e X.env) :: starEach [] X.env := by rfl) (hplain : (backTo pos (starEach [] X.env)).any (·.1) = false := by rfl) :
    XM X S Γ (.Call (.Attribute (.Name nx np) "pop" apos) [e] [] pos) (fun k : Nat => S' (ds.eraseIdx k)) (fun k d => ds[k]? = some d) := fun B σ H hsl hS Q q =>
  PE.w (pe_bm PySem.F.plainAttrs_list PySem.F.slot_list_pop PySem.F.type_list_pop mt_popAt (pe_var hN hv h1 h2) (pa_cons peW pa_nil hs) hbase hfew hline hs hplain) (by
    obtain ⟨v, hv1, hv2⟩ := hsl.2 i _ hi
    cases hv2
    obtain ⟨xs0, h0, _⟩ := hh.get hS
    refine ⟨.ref l, hv1, .inl ⟨rfl, xs0, SqL.of h0⟩, he B σ H hsl hS _ fun u B1 H1 d e1 s1 r1 n1 => ?_⟩
    obtain ⟨k, rfl, k0, k1⟩ := hk d r1
    cases n1
    obtain ⟨xs, g1, g2⟩ := hh.get s1
    have hl := g2.length
    have hlt : k.toNat < xs.length := by omega
    obtain ⟨dd, hd1, hd2⟩ := g2.getV (i := k.toNat) (x := xs[k.toNat]) (by simp [hlt])
    have hix : seqIndex? k xs.length = some k.toNat := (ixN_seq (n := xs.length) (i := k) (j := k.toNat) (by unfold ixN; rw [if_pos k0, if_pos (by omega)])).1
    exact ⟨l, xs, k, k.toNat, xs[k.toNat], rfl, rfl, g1, by omega, by omega, hix, by simp [hlt], q _ B1 _ k.toNat dd e1 (hh.put s1 (g2.eraseIdx _)) hd1 hd2⟩)
theorem s_setM {i : Nat} {nx : Str} {pos' : Pos} (hNd : X.N.Nodup) (he : XM X S Γ e T Rv) (k : ∀ j d, Rv j d → XS X (T j) (Γ.set i (some d)) rest E) (hi : X.N[i]? = some nx := by rfl) (hx : Loc X.env.scope nx := by first | exact Or.inl rfl | exact Or.inr rfl)
    (hs : swapsWith e (some (.Name nx pos')) pos.line X.env = pure false := by rfl) (hf : X.fn nx = true ∨ X.env.scope.names.lookup nx = some .local := by first | exact .inl rfl | exact .inr rfl) : XS X S Γ (.Assign [.Name nx pos'] e pos :: rest) E := fun B σ H hsl hS =>
  PSs.w (pss_cons (ps_set (i := i) hNd hi hx peW hs hf) pssW) (he B σ H hsl hS _ fun v B1 H1 j d e1 s1 r1 n1 => k j d r1 B1 _ H1 ((hsl.up e1).set i n1) s1)
end

/-! ### the pot: a list of two numbers that turn -/
def PotOk (m n : Int) : Prop := 0 ≤ m ∧ 0 ≤ n ∧ n < 2147483587
class PotIn (K : PySem.W.Frag) (pot : Addr) (S : SRel) : Prop where
  get : ∀ {B H}, S B H → ∃ m n, PotOk m n ∧ H pot = some (.lst [.int m, .int n]) ∧ ∀ m' n', PotOk m' n' → S B (upd H pot (.lst [.int m', .int n']))
instance {K : PySem.W.Frag} {pot : Addr} {B0 : Hp} {S : SRel} [h : PotIn K pot S] : PotIn K pot (keep B0 S) := ⟨fun q => let ⟨m, n, a, b, c⟩ := h.get q.2; ⟨m, n, a, b, fun m' n' r => ⟨q.1, c m' n' r⟩⟩⟩
instance {K : PySem.W.Frag} {pot l : Addr} {es : List D} {S : SRel} [h : PotIn K pot S] : PotIn K pot (own K l es S) := ⟨fun ⟨xs, a, b, c, d⟩ => by
  obtain ⟨m, n, g1, g2, g3⟩ := h.get d
  have ne : pot ≠ l := fun z => by rw [z, del_same] at g2; cases g2
  rw [del_ne ne] at g2
  exact ⟨m, n, g1, g2, fun m' n' r => ⟨xs, by rw [upd_ne (Ne.symm ne)]; exact a, b, c, by rw [del_upd_ne ne]; exact g3 m' n' r⟩⟩⟩
end
end Z

/-! Comprehensions in short. -/
namespace Z
open PySem PySem.Spec PyProof.Rows L2
section
variable {X : Cx} {S : SRel} {Γ : Gm} {tg iter elt c : Expr} {ifs : List Expr} {scope : Scope} {pos : Pos} {n : Nat} {Y : Nat → D → Prop} {vs : List Nat} {d : D} {Yes : D → Prop} {No : Prop} {P : Bool → Prop}
theorem lt_imp {Yes' : D → Prop} {No' : Prop} (h : LT X scope S Γ vs tg ifs elt d Yes No) (w : ∀ d, Yes d → Yes' d) (v : No → No') : LT X scope S Γ vs tg ifs elt d Yes' No' := ⟨by
  obtain ⟨Γ', ws, P, hw, hx⟩ := h.ex
  refine ⟨Γ', ws, P, hw, fun s H0 C cl fp l as => ?_⟩
  obtain ⟨h1, h2, h3, h4⟩ := hx s H0 C cl fp l as
  exact ⟨h1, h2, fun z => (h3 z).imp w, fun z => v (h4 z)⟩⟩
/-- one name, no test -/
theorem lt_map {x : Str} {px : Pos} (i : Nat) (hN : X.N.Nodup) (he : ∀ (s : Shared) (H0 : Hp) (C : Addr) (cl : List (Str × Addr)) (fp : List Addr) (l : Addr) (as : List D), XE (bX X scope s H0 C cl fp) (own X.K l as S) ((wipeG Γ vs).set i (some d)) elt Yes) (hi : X.N[i]? = some x := by rfl) (hv : i ∈ vs := by decide)
    (hx : ∀ (s : Shared) (H0 : Hp) (C : Addr) (cl : List (Str × Addr)) (fp : List Addr), Loc (bX X scope s H0 C cl fp).env.scope x := by first | exact fun _ _ _ _ _ => Or.inl rfl | exact fun _ _ _ _ _ => Or.inr rfl)
    (hf : ∀ (s : Shared) (H0 : Hp) (C : Addr) (cl : List (Str × Addr)) (fp : List Addr), (bX X scope s H0 C cl fp).fn x = true ∨ (bX X scope s H0 C cl fp).env.scope.names.lookup x = some .local := by first | exact fun _ _ _ _ _ => .inr rfl | exact fun _ _ _ _ _ => .inl rfl) : LT X scope S Γ vs (.Name x px) [] elt d Yes No :=
  ⟨_, [i], (· = true), fun j hj => by rw [List.mem_singleton] at hj; rw [hj]; exact hv, fun s H0 C cl fp l as => ⟨g_name (X := bX X scope s H0 C cl fp) i hN hi (hx s H0 C cl fp) (hf s H0 C cl fp), ts_nil, fun _ => he s H0 C cl fp l as, fun z => by cases z⟩⟩
/-- one name, one test -/
theorem lt_if {x : Str} {px : Pos} (i : Nat) (hN : X.N.Nodup) (hc : ∀ (s : Shared) (H0 : Hp) (C : Addr) (cl : List (Str × Addr)) (fp : List Addr) (l : Addr) (as : List D), XT (bX X scope s H0 C cl fp) (own X.K l as S) ((wipeG Γ vs).set i (some d)) c P)
    (he : P true → ∀ (s : Shared) (H0 : Hp) (C : Addr) (cl : List (Str × Addr)) (fp : List Addr) (l : Addr) (as : List D), XE (bX X scope s H0 C cl fp) (own X.K l as S) ((wipeG Γ vs).set i (some d)) elt Yes) (hno : P false → No) (hi : X.N[i]? = some x := by rfl) (hv : i ∈ vs := by decide)
    (hx : ∀ (s : Shared) (H0 : Hp) (C : Addr) (cl : List (Str × Addr)) (fp : List Addr), Loc (bX X scope s H0 C cl fp).env.scope x := by first | exact fun _ _ _ _ _ => Or.inl rfl | exact fun _ _ _ _ _ => Or.inr rfl)
    (hf : ∀ (s : Shared) (H0 : Hp) (C : Addr) (cl : List (Str × Addr)) (fp : List Addr), (bX X scope s H0 C cl fp).fn x = true ∨ (bX X scope s H0 C cl fp).env.scope.names.lookup x = some .local := by first | exact fun _ _ _ _ _ => .inr rfl | exact fun _ _ _ _ _ => .inl rfl) : LT X scope S Γ vs (.Name x px) [c] elt d Yes No :=
  ⟨_, [i], P, fun j hj => by rw [List.mem_singleton] at hj; rw [hj]; exact hv, fun s H0 C cl fp l as => ⟨g_name (X := bX X scope s H0 C cl fp) i hN hi (hx s H0 C cl fp) (hf s H0 C cl fp), ts_one (hc s H0 C cl fp l as), fun z => he z s H0 C cl fp l as, hno⟩⟩
/-- each turn's outcome told: some d, or left out -/
theorem n_lcF [SOk S] {own : List (Str × Nat)} (rs : List (Option D)) (hn : rs.length = n) (hz : n ≤ 100000) (hc : X.calm = true) (hN : X.N.Nodup) (ok : BlkOk X.N X.env.scope scope own) (hi : XI X S Γ tg iter n Y)
    (ht : ∀ k d r, Y k d → rs[k]? = some r → LT X scope S Γ (own.map (·.2)) tg ifs elt d (fun d' => r = some d') (r = none)) (hs : ∀ x, foldedSetIterable iter X.env x = pure x := by intro _; rfl) : XN X S Γ (.ListComp elt [⟨tg, iter, ifs, 0⟩] scope pos) (· = rs.filterMap id) :=
  (n_lc (Acc := fun k acc => acc = (rs.take k).filterMap id) hc hN ok hi rfl (fun k d acc hk yd ac => by
    have hlt : k < rs.length := by omega
    have e : rs.take (k + 1) = rs.take k ++ [rs[k]] := List.take_succ_eq_append_getElem hlt
    refine lt_imp (ht k d rs[k] yd (by simp [hlt])) (fun d' hd => ?_) fun hd => ?_
    · subst ac
      rw [e, List.filterMap_append, hd] <;> rfl
    · subst ac
      rw [e, List.filterMap_append, hd]
      exact (List.append_nil _).symm) (fun k acc hk ac => by
    subst ac
    refine Nat.le_trans (List.length_filterMap_le _ _) ?_
    rw [List.length_take]
    omega) hs).imp fun ds q => by rw [q, ← hn, List.take_length]
/-- .. all of them come -/
theorem n_lcD [SOk S] {own : List (Str × Nat)} (rs : List D) (hn : rs.length = n) (hz : n ≤ 100000) (hc : X.calm = true) (hN : X.N.Nodup) (ok : BlkOk X.N X.env.scope scope own) (hi : XI X S Γ tg iter n Y)
    (ht : ∀ k d r, Y k d → rs[k]? = some r → LT X scope S Γ (own.map (·.2)) tg ifs elt d (· = r) False) (hs : ∀ x, foldedSetIterable iter X.env x = pure x := by intro _; rfl) : XN X S Γ (.ListComp elt [⟨tg, iter, ifs, 0⟩] scope pos) (· = rs) :=
  (n_lcF (rs.map some) (by simp [hn]) hz hc hN ok hi (fun k d r yd hr => by
    rw [List.getElem?_map] at hr
    cases q : rs[k]? with
    | none => rw [q] at hr; cases hr
    | some u =>
      rw [q] at hr
      cases hr
      exact lt_imp (ht k d u yd q) (fun d' e => by rw [e]) False.elim) hs).imp fun ds q => by rw [q, List.filterMap_map]; exact List.filterMap_some
end
end Z

/-! More to be walked: enumerate over a tuple. -/
namespace Z
open PySem PySem.Spec PyProof.Rows L2
/-- enumerate of one thing, whatever its iterator is -/
theorem enum_one {v : Value} {ob : Obj} {Hh : Heap → Prop} (beg : Begins v ob Hh) :
    Meets (Builtin.«enumerate.__new__» ⟨[.type "enumerate", v], []⟩) (fun _ R s => Hh s.heap ∧ R (.ok (.ret (.ref (s.heap.push ob).objs.size)))
      { s with heap := (s.heap.push ob).push { cls := .type "enumerate", data := .fields #[.none, .bool false, .ref s.heap.objs.size, rawInt 0, .none, .none] } }) := by
  refine .of_wp fun P' W' A' R' st ⟨g1, g2⟩ => ?_
  obtain ⟨hh, gg, dd, tt, oo⟩ := st
  have isub := sub_enumerate
  have go : ∀ {A2 : Around} {E2 : Value → Shared → Prop} {Q2 : Value → Shared → Prop}, Q2 (.ref hh.objs.size) ⟨hh.push ob, gg, dd, tt, oo⟩ → wpAny (model P' W') A2 (pyIter v) Q2 E2 ⟨hh, gg, dd, tt, oo⟩ := fun q2 => beg.iter P' W' _ _ ⟨hh, gg, dd, tt, oo⟩ _ g1 q2
  wp_walk using go
  refine wpAny_stack_any fun stk => wpAny_pure ?_
  split
  · rename_i cc _ _ _ _ _
    cases (cc == Value.type "enumerate") <;> (wp_walk using go; exact ⟨_, rfl, g2⟩)
  · wp_walk using go; exact ⟨_, rfl, g2⟩
section
variable {prog : Program} {w : World} {A : Around} {E : Value → Shared → Prop} {s : Shared}
theorem enum_starts {v : Value} {ob : Obj} {Hh : Heap → Prop} {Q : Value → Shared → Prop} (beg : Begins v ob Hh) (h1 : Hh s.heap)
    (k : ∀ h', IsEnum h' (s.heap.objs.size + 1) s.heap.objs.size 0 .none → h'.get? s.heap.objs.size = some ob → h'.objs.size = s.heap.objs.size + 2 → (∀ b o, s.heap.get? b = some o → h'.get? b = some o) → Q (.ref (s.heap.objs.size + 1)) { s with heap := h' }) :
    wpAny (model prog w) A (call (.type "enumerate") [v]) Q E s := by
  refine callType_new F.called_enumerate (by decide) (F.typeCall_enumerate_1 _) (F.newCall_enumerate_1 _) (fun obj => F.args_object_init_2 obj _) F.entry_enumerate_new (enum_one beg) ⟨h1, ?_⟩
  have sz : (s.heap.push ob).objs.size = s.heap.objs.size + 1 := Heap.size_push ..
  have gt : ((s.heap.push ob).push { cls := .type "enumerate", data := .fields #[.none, .bool false, .ref s.heap.objs.size, rawInt 0, .none, .none] }).get? (s.heap.push ob).objs.size = some { cls := .type "enumerate", data := .fields #[.none, .bool false, .ref s.heap.objs.size, rawInt 0, .none, .none] } := Heap.get?_push_size _ rfl
  show _ ∧ _
  rw [sz] at gt ⊢
  exact ⟨⟨_, gt, rfl⟩, k _ gt (Heap.get?_push_of_some _ (Heap.get?_push_size _ beg.free)) (by rw [Heap.size_push, sz]) fun b o x => Heap.get?_push_of_some _ (Heap.get?_push_of_some _ x)⟩
end
/-- the tuple at a: its items in pairs with their positions -/
def ItU (K : PySem.W.Frag) (a : Addr) : It where
  go := fun i H => ∃ (xs : List V) (x : V), SqT K H a xs ∧ xs[i]? = some x
  yld := fun i H v H' => ∃ T x, v = .ref T ∧ H T = none ∧ H' = upd H T (.tup [.int (i : Nat), x]) ∧ ∀ xs, SqT K H a xs → xs[i]? = some x
  stop := fun i H => ∃ xs : List V, SqT K H a xs ∧ xs.length = i
theorem turnU {P : Program} {w : World} {K : PySem.W.Frag} {elts : List Expr} {kk : Nat} {tpos : Pos} (a e it : Addr) :
    Turn P w K (.Tuple elts kk tpos) (ItU K a) [e, it] e (fun i h => (∃ old, IsEnum h e it ((i : Nat) : Int) old) ∧ h.IsTupleIter it a i ∧ e ≠ it) where
  mem := by simp
  obj := fun i h st b hb => by
    obtain ⟨⟨old, he⟩, ⟨o, ho, hc, hd⟩, _⟩ := st
    rcases (by simpa using hb : b = e ∨ b = it) with rfl | rfl
    · exact ⟨_, he, fun v q => nomatch q⟩
    · exact ⟨o, ho, fun v q => by rw [hd] at q; cases q⟩
  keep := fun i h h' ⟨⟨old, he⟩, ⟨o, ho, r⟩, hne⟩ k => ⟨⟨old, k e (by simp) _ he⟩, ⟨o, k it (by simp) _ ho, r⟩, hne⟩
  item := by
    intro X hP hw hK hc i pins s σ H E I hf st hg
    subst hP hw hK
    obtain ⟨⟨old, he⟩, hit, hne⟩ := st
    obtain ⟨xs, x, hq, hx⟩ := hg
    obtain ⟨its, rv, p, hz⟩ := I.tuple hq
    obtain ⟨u, hu, ru⟩ := rv.get hx
    have hel : e < s.heap.objs.size := Heap.lt_size he
    have hil : it < s.heap.objs.size := by obtain ⟨_, q, _⟩ := hit; exact Heap.lt_size q
    have hlt : i < its.toArray.size := by
      have := (List.getElem?_eq_some_iff.mp hu).1
      simpa using this
    have hait : a ≠ it := by
      intro z
      obtain ⟨o1, p1, p2, _⟩ := p
      obtain ⟨o2, q1, q2, _⟩ := hit
      rw [z] at p1
      rw [p1] at q1
      cases q1
      rw [p2] at q2
      exact absurd q2 (by decide)
    have hae : a ≠ e := by
      intro z
      obtain ⟨o1, p1, p2, _⟩ := p
      rw [z] at p1
      have q1 := he
      unfold IsEnum at q1
      rw [p1] at q1
      cases q1
      exact absurd p2 (fun z => by simp at z)
    refine wpAny_pyNext_enum_itemD (Draws.tuple (A := X.A.in1) (I.ok.hd hc) it a hait its.toArray) he ⟨hit, p⟩ hlt hne (by simp [hne, Ne.symm hae]) fun u' h' tk hP ho hst' hT hsz hk => ?_
    have eu : u' = u := by
      have : its.toArray[i]? = some u := by simpa using hu
      rw [this] at hP
      cases hP
      rfl
    subst eu
    refine ⟨_, rfl, wpAny_letOwnedTupleGo_enum (s := { s with heap := h', toks := tk + 1 }) ho fun h'' he' sb => ?_⟩
    have hT2 : h''.get? s.heap.objs.size = some { cls := .type "tuple", data := .seq #[.int i tk, u'] } := (sb.2 _ (Nat.ne_of_gt hel)).trans hT
    have fresh : ObjOk X.prog X.w (upd H s.heap.objs.size (.tup [.int (i : Nat), x])) h'' s.heap.objs.size (.tup [.int (i : Nat), x]) := ⟨by show 2 ≤ sizeLine; decide, [.int i tk, u'], .cons ⟨_, rfl⟩ (.cons ru .nil), ⟨_, hT2, rfl, _, rfl⟩⟩
    have I1 : Inv X pins σ (upd H s.heap.objs.size (.tup [.int (i : Nat), x])) { s with heap := h'', toks := tk + 1 } :=
      I.turnedNew (ch := [e, it]) (fun b ob hb q => (sb.2 b (fun z => hb (by simp [z]))).trans (hk b ob (fun z => hb (by simp [z])) (fun z => hb (by simp [z])) q)) hf (Nat.le_refl _) fresh
    refine ⟨.ref s.heap.objs.size, _, I1, rfl, ⟨_, x, rfl, I.hok.fresh (Nat.le_refl _), rfl, fun ys hy => by rw [I.tuple_inj hy hq]; exact hx⟩, ⟨⟨u', ?_⟩, ?_, hne⟩, fun b hb => ?_⟩
    · rw [show ((i + 1 : Nat) : Int) = (i : Int) + 1 by omega]; exact he'
    · obtain ⟨o, q, r⟩ := hst'.1
      exact ⟨o, (sb.2 it (Ne.symm hne)).trans q, r⟩
    · have hb' : b < s.heap.objs.size := by
        rcases (by simpa using hb : b = e ∨ b = it) with z | z
        · rw [z]; exact hel
        · rw [z]; exact hil
      rw [upd_ne (Nat.ne_of_lt hb')]
      exact (hf b hb).1
  done := by
    intro X hP hw hK hc i pins s σ H E I hf st hg
    subst hP hw hK
    obtain ⟨⟨old, he⟩, hit, hne⟩ := st
    obtain ⟨xs, hq, hx⟩ := hg
    obtain ⟨its, rv, p, hz⟩ := I.tuple hq
    obtain ⟨f0, f1, f2, f3, f4, f5⟩ := hf it (by simp)
    have hl := rv.length
    have hst : (fun i (h : Heap) => h.IsTupleIter it a i ∧ h.IsTuple a its.toArray) its.toArray.size s.heap := ⟨by rw [show its.toArray.size = i by simp; omega]; exact hit, p⟩
    have hait : a ≠ it := by
      intro z
      obtain ⟨o1, p1, p2, _⟩ := p
      obtain ⟨o2, q1, q2, _⟩ := hit
      rw [z] at p1
      rw [p1] at q1
      cases q1
      rw [p2] at q2
      exact absurd q2 (by decide)
    exact wpAny_pyNext_enum_endD (Draws.tuple (A := X.A.in1) (I.ok.hd hc) it a hait its.toArray) he hst fun h' eb => ⟨rfl, I.turned (t' := s.toks) (fun b o hb q => eb b o hb q) f0 f1 f3 f4 f5⟩
  self := fun A i s Q E st h => let ⟨⟨_, he⟩, _⟩ := st; wpAny_pyIter_enum he h
def iEnumU (K : PySem.W.Frag) (ta : TA) : TI := fun σ H R => ta σ H fun vs H1 => ∃ a xs, vs = [.ref a] ∧ SqT K H1 a xs ∧ R (ItU K a) H1
theorem pi_enumU {X : Cx} {e : Expr} {ta : TA} {p pos tpos : Pos} {elts : List Expr} {kk : Nat} (hg : Gl X "enumerate") (hm : X.mg "enumerate" = none) (ha : PA X [e] ta) (hs : starEach [e] X.env = [(false, eval e X.env)] := by rfl) :
    PI X (.Tuple elts kk tpos) (.Call (.Name "enumerate" p) [e] [] pos) (iEnumU X.K ta) := ⟨fun pins s σ H R I h => by
  refine Call_ (ld_blt I hg hm boot_enumerate (PyProof.Rows.callWith_type1 (thn (ha.run pos pins s σ H _ I h) fun us s1 ⟨vs, H1, I1, r1, a, xs, ex, hq, q⟩ => ?_) hs rfl))
  subst ex
  cases r1 with
  | cons r rr =>
    cases rr
    cases r
    obtain ⟨its, rv, p', hz⟩ := I1.tuple hq
    refine enum_starts (begins_tuple a its.toArray) p' fun h' he hit hsz hk => wpAny_pyIter_enum he ?_
    have I2 : Inv X pins σ H1 { s1 with heap := h' } := I1.kept (t' := s1.toks) hk
    refine ⟨s1.heap.objs.size + 1, [s1.heap.objs.size + 1, s1.heap.objs.size], _, _, H1, rfl, I2, turnU a (s1.heap.objs.size + 1) s1.heap.objs.size, ⟨⟨.none, he⟩, ⟨_, hit, rfl, rfl⟩, Nat.succ_ne_self _⟩, fun b hb => ?_, q⟩
    have hle : s1.heap.objs.size ≤ b := by
      rcases (by simpa using hb : b = s1.heap.objs.size + 1 ∨ b = s1.heap.objs.size) with z | z
      · rw [z]; exact Nat.le_add_right _ _
      · rw [z]; exact Nat.le_refl _
    exact I1.fpOk hle (I1.hok.fresh hle)⟩
section
variable {X : Cx} {S : SRel} {Γ : Gm} {e tg : Expr} {ds : List D} {pos p : Pos}
theorem i_enumT [SOk S] {elts : List Expr} {j : Nat} {tpos : Pos} (h : XE X S Γ e (· = .tup ds)) (hm : X.mg "enumerate" = none) (hg : Gl X "enumerate" := by rfl) (hs : starEach [e] X.env = [(false, eval e X.env)] := by rfl) :
    XI X S Γ (.Tuple elts j tpos) (.Call (.Name "enumerate" p) [e] [] pos) ds.length (fun i d => ∃ a b, some (D.i (i : Int)) = some a ∧ ds[i]? = some b ∧ d = .tup [a, b]) := fun B σ H hsl hS R k =>
  PI.w (pi_enumU hg hm (pa_cons peW pa_nil hs) hs) (h B σ H hsl hS _ fun v B1 H1 d e1 s1 r1 n1 => by
    subst r1
    cases n1 with
    | @tup a xs _ q r =>
      refine ⟨a, xs, rfl, (SOk.sub s1).sqT q, k _ B1 H1 e1 s1 (dw_pair (f := fun i => some (D.i (i : Int))) (g := fun i => ds[i]?) (fun i B H hi e0 eh => ⟨xs, xs[i]'(by rw [r.length]; exact hi), (e0.trans eh).sqT q, by simp [r.length, hi]⟩) (fun B H e0 eh => ⟨xs, (e0.trans eh).sqT q, r.length⟩) fun i B H x H' hi e0 eh y => ?_)⟩
      obtain ⟨T, z, h1, h2, h3, h4⟩ := y
      obtain ⟨c, hc, hn⟩ := r.getV (h4 xs ((e0.trans eh).sqT q))
      exact ⟨T, .int (i : Nat), z, .i (i : Int), c, h1, h2, h3, rfl, hc, .v _, hn.up e0⟩)
end
theorem has1 {K : PySem.W.Frag} {l : Addr} {S : SRel} {ds : List D} : Has K l (own K l ds S) ds (fun ds' => own K l ds' S) := inferInstance
theorem hasK {K : PySem.W.Frag} {l : Addr} {B0 : Hp} {S : SRel} {ds : List D} : Has K l (keep B0 (own K l ds S)) ds (fun ds' => keep B0 (own K l ds' S)) := inferInstance
section
variable {X : Cx} {S : SRel} {Γ : Gm} {a b : Expr} {pos : Pos}
/-- x in a list of one's own -/
theorem opd_inO {K : PySem.W.Frag} {l : Addr} {u : V} {ys : List V} {S' : List D → SRel} {neg : Bool} (hh : Has K l S (ys.map .v) S') (hu : flatV u = true) (hy : ys.all flatV = true) : OpD K S (rIn K neg) (.v u) (.r l) (· = .b (if neg then !inV u ys else inV u ys)) := fun B H x y s n1 n2 Q q => by
  cases n1
  cases n2
  obtain ⟨xs, g1, g2⟩ := hh.get s
  have e := g2.leaf
  subst e
  exact ⟨l, xs, rfl, .inl (SqL.of g1), hu, hy, q _ B H _ (.refl B) s rfl (.v _)⟩
theorem t_inO {l : Addr} {u : V} {ys : List V} {S' : List D → SRel} (hh : Has X.K l S (ys.map .v) S') (ha : XE X S Γ a (· = .v u)) (hb : XE X S Γ b (· = .r l)) (hy : ys.all flatV = true) (hu : flatV u = true := by rfl) (hm : behindInMarks .In b = false := by rfl) : XT X S Γ (.Compare a [.In] [b] pos) (· = inV u ys) := t_of op_in_seq ha hb (opd_inO hh hu hy) hm
theorem t_notInO {l : Addr} {u : V} {ys : List V} {S' : List D → SRel} (hh : Has X.K l S (ys.map .v) S') (ha : XE X S Γ a (· = .v u)) (hb : XE X S Γ b (· = .r l)) (hy : ys.all flatV = true) (hu : flatV u = true := by rfl) (hm : behindInMarks .NotIn b = false := by rfl) : XT X S Γ (.Compare a [.NotIn] [b] pos) (· = !inV u ys) := t_of op_notIn_seq ha hb (opd_inO hh hu hy) hm
end
/-- the end of a turn of a for -/
theorem s_turn {X : Cx} {S2 : SRel} {Γ : Gm} {B1 : Hp} {Iv : SRel → Gm → Prop} {E : Ends} (hnx : ∀ S2 Γ2, Iv S2 Γ2 → ∀ σ H, At X.K (keep B1 S2) Γ2 σ H → E.nx σ H) (h : Iv S2 Γ) : XS X (keep B1 S2) Γ [] E := s_nil fun σ H a => hnx S2 Γ h σ H a
/-- a turn of a comprehension, any target, no test -/
theorem lt_g {X : Cx} {scope : Scope} {S : SRel} {Γ Γ' : Gm} {vs ws : List Nat} {tg elt : Expr} {d : D} {Yes : D → Prop} {No : Prop} (hg : ∀ (s : Shared) (H0 : Hp) (C : Addr) (cl : List (Str × Addr)) (fp : List Addr), XG (bX X scope s H0 C cl fp) (wipeG Γ vs) tg d Γ' ws)
    (he : ∀ (s : Shared) (H0 : Hp) (C : Addr) (cl : List (Str × Addr)) (fp : List Addr) (l : Addr) (as : List D), XE (bX X scope s H0 C cl fp) (own X.K l as S) Γ' elt Yes) (hw : ∀ i ∈ ws, i ∈ vs := by decide) : LT X scope S Γ vs tg [] elt d Yes No :=
  ⟨Γ', ws, (· = true), hw, fun s H0 C cl fp l as => ⟨hg s H0 C cl fp, ts_nil, fun _ => he s H0 C cl fp l as, fun z => by cases z⟩⟩
/-- target = e, the value known -/
theorem s_asgD {X : Cx} {S : SRel} {Γ Γ' : Gm} {ws : List Nat} {e tg : Expr} {d : D} {pos : Pos} {rest : List Stmt} {E : Ends} [SOk S] (he : XE X S Γ e (· = d)) (g : XG X Γ tg d Γ' ws) (k : XS X S Γ' rest E) (hs : swapsWithSole [tg] e pos.line X.env = pure false := by rfl) (hw : swappedStores [tg] e X.env = pure none := by rfl)
    (h1 : (assignEach [tg] X.env).map (·.2) = [assign tg X.env] := by rfl) : XS X S Γ (.Assign [tg] e pos :: rest) E := s_asg he (fun d' q => ⟨Γ', ws, by rw [q]; exact g, k⟩) hs hw h1
end Z

/-! Objects: made, read, written while they are one's own; their methods. -/
namespace Z
open PySem PySem.Spec PyProof.Rows L2

/-- an instance of one's own -/
def ownI (K : PySem.W.Frag) (l C : Addr) (fs : List (Str × D)) (S : SRel) : SRel := fun B H => ∃ dx xs, H l = some (.ins C dx xs) ∧ DnF K B xs fs ∧ B l = none ∧ S B (del H l)
instance {K : PySem.W.Frag} {l C : Addr} {fs : List (Str × D)} {S : SRel} [SOk S] : SOk (ownI K l C fs S) := ⟨fun {B H} h => by
    obtain ⟨dx, xs, a, b, c, d⟩ := h
    intro p o e
    have ne : p ≠ l := fun q => by rw [q, c] at e; cases e
    have := SOk.sub d p o e
    rwa [del_ne ne] at this, fun {B H p o} h q => by
    obtain ⟨dx, xs, a, b, c, d⟩ := h
    have ne : p ≠ l := fun z => by rw [z, a] at q; cases q
    have q' : del H l p = none := by rw [del_ne ne]; exact q
    exact ⟨dx, xs, by rw [upd_ne (Ne.symm ne)]; exact a, DnF.mono (SOk.bex d q') fs xs b, by rw [upd_ne (Ne.symm ne)]; exact c, by rw [del_upd_ne ne]; exact SOk.new d q'⟩⟩
theorem ownI_out {K : PySem.W.Frag} {l C : Addr} {fs : List (Str × D)} {S : SRel} [SOk S] {B H : Hp} (h : ownI K l C fs S B H) : ∃ o, S (upd B l o) H ∧ Ex B (upd B l o) ∧ Dn K (upd B l o) (.ref l) (.ins C fs) := by
  obtain ⟨dx, xs, a, b, c, d⟩ := h
  have e := Ex.new (o := .ins C dx xs) c
  have s := SOk.new (o := .ins C dx xs) d del_same
  rw [upd_del a] at s
  exact ⟨_, s, e, .ins (dx := dx) upd_same (DnF.mono e fs xs b)⟩
instance {K : PySem.W.Frag} {l C : Addr} {fs : List (Str × D)} {S T : SRel} [SOk S] [Le S T] : Le (ownI K l C fs S) T := ⟨fun h => by
  obtain ⟨o, s, e, _⟩ := ownI_out h
  obtain ⟨B', e', t⟩ := Le.le (T := T) s
  exact ⟨B', e.trans e', t⟩⟩
class HasI (K : PySem.W.Frag) (l C : Addr) (S : SRel) (fs : List (Str × D)) (S' : List (Str × D) → SRel) : Prop where
  get : ∀ {B H}, S B H → ∃ dx xs, H l = some (.ins C dx xs) ∧ DnF K B xs fs
  put : ∀ {B H dx xs xs' fs'}, S B H → H l = some (.ins C dx xs) → DnF K B xs' fs' → S' fs' B (upd H l (.ins C dx xs'))
instance (K : PySem.W.Frag) (l C : Addr) (S : SRel) (fs : List (Str × D)) : HasI K l C (ownI K l C fs S) fs (fun fs' => ownI K l C fs' S) := ⟨fun ⟨dx, xs, a, b, _⟩ => ⟨dx, xs, a, b⟩, fun ⟨_, _, a', _, c, d⟩ a r => ⟨_, _, upd_same, r, c, by rw [del_upd_same]; exact d⟩⟩
instance {K : PySem.W.Frag} {l C : Addr} {S : SRel} {fs : List (Str × D)} {S' : List (Str × D) → SRel} {B0 : Hp} [h : HasI K l C S fs S'] : HasI K l C (keep B0 S) fs (fun fs' => keep B0 (S' fs')) := ⟨fun q => h.get q.2, fun q a r => ⟨q.1, h.put q.2 a r⟩⟩

/-- an object's own state, whatever stands about it -/
structure OwnI (K : PySem.W.Frag) (l C : Addr) (S : SRel) (fs : List (Str × D)) (S' : List (Str × D) → SRel) : Prop where
  has : HasI K l C S fs S'
  more : ∀ fs, HasI K l C (S' fs) fs S'
  ok : ∀ fs, SOk (S' fs)
theorem OwnI.mk0 {K : PySem.W.Frag} {l C : Addr} {S : SRel} [SOk S] {fs : List (Str × D)} : OwnI K l C (ownI K l C fs S) fs (fun fs' => ownI K l C fs' S) := ⟨inferInstance, fun _ => inferInstance, fun _ => inferInstance⟩
theorem OwnI.keep {K : PySem.W.Frag} {l C : Addr} {S : SRel} {fs : List (Str × D)} {S' : List (Str × D) → SRel} {B0 : Hp} (h : OwnI K l C S fs S') : OwnI K l C (Z.keep B0 S) fs (fun fs' => Z.keep B0 (S' fs')) :=
  ⟨haveI := h.has; inferInstance, fun fs => haveI := h.more fs; inferInstance, fun fs => haveI := h.ok fs; inferInstance⟩
def putD (f : Str) (v : D) : List (Str × D) → List (Str × D)
  | [] => [(f, v)]
  | (g, x) :: r => if g = f then (g, v) :: r else (g, x) :: putD f v r
section
variable {K : PySem.W.Frag} {B : Hp} {f : Str} {d : D} {v : V}
theorem DnF.put (n : Dn K B v d) : ∀ {fs : List (Str × D)} {xs : List (Str × V)}, DnF K B xs fs → DnF K B (putF f v xs) (putD f d fs)
  | [], _, h => by cases h; exact .cons n .nil
  | (g, c) :: fs, _, h => by
    cases h with
    | cons q r =>
      unfold putF putD
      by_cases e : g = f
      · rw [if_pos e, if_pos e]; exact .cons n r
      · rw [if_neg e, if_neg e]; exact .cons q (DnF.put n r)
theorem DnF.look : ∀ {fs : List (Str × D)} {xs : List (Str × V)}, DnF K B xs fs → fs.lookup f = some d → ∃ v, xs.lookup f = some v ∧ Dn K B v d
  | [], _, h, e => by cases e
  | (g, c) :: fs, _, h, e => by
    cases h with
    | @cons _ x _ _ _ q r =>
      by_cases z : (f == g) = true
      · rw [List.lookup_cons, z] at e
        cases e
        exact ⟨x, by rw [List.lookup_cons, z], q⟩
      · rw [Bool.not_eq_true] at z
        rw [List.lookup_cons, z] at e
        obtain ⟨v, a, b⟩ := DnF.look r e
        exact ⟨v, by rw [List.lookup_cons, z]; exact a, b⟩
theorem DnF.lookN : ∀ {fs : List (Str × D)} {xs : List (Str × V)}, DnF K B xs fs → fs.lookup f = none → xs.lookup f = none
  | [], _, h, e => by cases h; rfl
  | (g, c) :: fs, _, h, e => by
    cases h with
    | @cons _ x _ _ _ q r =>
      by_cases z : (f == g) = true
      · rw [List.lookup_cons, z] at e; cases e
      · rw [Bool.not_eq_true] at z
        rw [List.lookup_cons, z] at e ⊢
        exact DnF.lookN r e
theorem DnF.length : ∀ {fs : List (Str × D)} {xs : List (Str × V)}, DnF K B xs fs → xs.length = fs.length
  | [], _, h => by cases h; rfl
  | _ :: fs, _, h => by
    cases h with
    | cons q r => simp [DnF.length r]
end
section
variable {X : Cx} {S : SRel} {Γ : Gm} {e value o : Expr} {f : Str} {C : Addr} {pos pos' : Pos} {fs : List (Str × D)} {d : D} {R : D → Prop} {rest : List Stmt} {E : Ends}
/-- e.f, of a shared object -/
theorem x_fld [SOk S] (h : XE X S Γ e (· = .ins C fs)) (c : Cls X.K C) (n : NoAttr X.K C f) (l : fs.lookup f = some d) (hb : attributeBase e f X.env (eval e X.env) = eval e X.env := by rfl) : XE X S Γ (.Attribute e f pos) (· = d) := fun B σ H hsl hS Q k =>
  PE.w (pe_fld peW hb) (h B σ H hsl hS _ fun v B1 H1 d1 e1 s1 r1 n1 => by
    subst r1
    cases n1 with
    | @ins a dx _ xs _ q r =>
      obtain ⟨v, a1, b1⟩ := DnF.look r l
      exact ⟨a, C, dx, xs, v, rfl, SOk.sub s1 _ _ q, c, n, a1, k v B1 H1 d e1 s1 rfl b1⟩)
/-- .. of one's own -/
theorem x_fldO {l : Addr} {S' : List (Str × D) → SRel} (hh : HasI X.K l C S fs S') (h : XE X S Γ e (· = .r l)) (c : Cls X.K C) (n : NoAttr X.K C f) (lk : fs.lookup f = some d) (hb : attributeBase e f X.env (eval e X.env) = eval e X.env := by rfl) : XE X S Γ (.Attribute e f pos) (· = d) := fun B σ H hsl hS Q k =>
  PE.w (pe_fld peW hb) (h B σ H hsl hS _ fun v B1 H1 d1 e1 s1 r1 n1 => by
    subst r1
    cases n1
    obtain ⟨dx, xs, a, b⟩ := hh.get s1
    obtain ⟨v, a1, b1⟩ := DnF.look b lk
    exact ⟨l, C, dx, xs, v, rfl, a, c, n, a1, k v B1 H1 d e1 s1 rfl b1⟩)
/-- self.f = value -/
theorem s_setFld {l : Addr} {S' : List (Str × D) → SRel} (hh : HasI X.K l C S fs S') (hv : XE X S Γ value R) (ho : XE X S Γ o (· = .r l)) (c : Cls X.K C) (n : NoAttr X.K C f) (hz : fs.length < 1000) (k : ∀ d, R d → XS X (S' (putD f d fs)) Γ rest E)
    (hs : swapsWith value (some (.Attribute o f pos')) pos.line X.env = pure false := by rfl) : XS X S Γ (.Assign [.Attribute o f pos'] value pos :: rest) E := fun B σ H hsl hS =>
  PSs.w (pss_cons (ps_fld peW peW hs) pssW) (hv B σ H hsl hS _ fun y B1 H1 d1 e1 s1 r1 n1 => ho B1 σ H1 (hsl.up e1) s1 _ fun x B2 H2 d2 e2 s2 r2 n2 => by
    subst r2
    cases n2
    obtain ⟨dx, xs, a, b⟩ := hh.get s2
    exact ⟨l, C, dx, xs, rfl, a, c, n, by rw [b.length]; exact hz, k d1 r1 B2 σ _ (hsl.up (e1.trans e2)) (hh.put s2 a (b.put (n1.up e2)))⟩)
end

/-! ### promises that change the state -/
/-- G S ds T R: called with ds where S stands, T stands behind and the answer is R -/
abbrev GM := SRel → List D → SRel → (D → Prop) → Prop
def spM (K : PySem.W.Frag) (G : GM) : Sp := fun vs H Q _ => ∃ (S T : SRel) (B : Hp) (ds : List D) (R : D → Prop), SOk S ∧ S B H ∧ DnA K B vs ds ∧ G S ds T R ∧ ∀ v B' H' d, Ex B B' → T B' H' → R d → Dn K B' v d → Q v H'
class GMK (G : GM) : Prop where
  up : ∀ {S ds T R B0}, SOk S → G S ds T R → G (keep B0 S) ds (keep B0 T) R
section
variable {P : Program} {w : World} {K : PySem.W.Frag} {mg : Str → Option Value} {base : Heap} {x qual : Str} {args : Arguments} {body : List Stmt} {scope : Scope} {f C : Addr} {fd : FuncData} {N ps : List Str} {k : Nat} {G : GM} {dvs : List V} {kws : List (Str × V)}
theorem fnm_mk [GMK G] (F : FunD K x qual args body scope dvs kws f fd) (Sc : FnScope N ps scope) (len : ∀ S ds T R, G S ds T R → ds.length = ps.length)
    (h : ∀ (cdv : Value) (A : Around) (outer : List Env) (s : Shared) (H : Hp) (E : XK), Room k (A.deeper (envOfC qual scope s.heap.objs.size f cdv)) → ∀ (S T : SRel) [SOk S] (ds : List D) (R : D → Prop), G S ds T R → ∀ rt : VK, Out K T R rt →
      XS (dX P w K mg base N qual scope f cdv A outer s H E) S (g0 N ds) body ⟨fun _ H => rt .non H, rt, fun _ _ => False, fun _ _ => False⟩) : FnOk P w K mg base CX0 (k + 1) f fd ps (spM K G) := by
  have len' : ∀ vs H Q E, spM K G vs H Q E → vs.length = ps.length := fun vs H Q E ⟨S, T, B, ds, R, _, _, n, g, _⟩ => by rw [n.length]; exact len S ds T R g
  refine F.ok Sc len' fun cdv A outer s H vs Q E hr hsp => ?_
  have hvl := len' vs H Q E hsp
  obtain ⟨S, T, B, ds, R, ok, s0, n, g, hQ⟩ := hsp
  haveI := ok
  refine ⟨wSs (dX P w K mg base N qual scope f cdv A outer s H E) body, PSs.nox pssW, ?_⟩
  have hN : ps.length ≤ N.length := by have := congrArg List.length Sc.pre; rw [List.length_take] at this; omega
  exact h cdv A outer s H E hr (keep B S) (keep B T) ds R (GMK.up ok g) Q (fun v B' H' d ⟨e, t⟩ r nd => hQ v B' H' d e t r nd) B (start N vs) H (Sl.start n (by rw [hvl]; exact hN)) ⟨.refl B, s0⟩
/-- a method as its callers know it -/
structure Mtd (P : Program) (w : World) (K : PySem.W.Frag) (mg : Str → Option Value) (base : Heap) (j : Nat) (C : Addr) (m : Str) (ps : List Str) (G : GM) : Prop where
  ex : ∃ (f : Addr) (fd : FuncData), Meth K C m f ∧ Binds K fd ps [] ∧ FnOk P w K mg base CX0 j f fd ps (spM K G)
theorem Mtd.mono {i j : Nat} {m : Str} (F : Mtd P w K mg base i C m ps G) (h : i ≤ j) : Mtd P w K mg base j C m ps G := let ⟨f, fd, a, b, d⟩ := F.ex; ⟨f, fd, a, b, d.mono h⟩
/-- where a method stands -/
structure MethAt (K : PySem.W.Frag) (C : Addr) (m qual : Str) (dvs : List V) (st : Stmt) : Prop where
  ex : ∃ (f : Addr) (fd : FuncData), Meth K C m f ∧ FunD K m qual (defArgs st) (defBody st) (defScope st) dvs [] f fd
/-- a class as its callers know it -/
structure Mkr (P : Program) (w : World) (K : PySem.W.Frag) (mg : Str → Option Value) (base : Heap) (j : Nat) (x : Str) (C : Addr) (ps : List Str) (G : GM) : Prop where
  ex : ∃ (f : Addr) (fd : FuncData), mg x = some (.ref C) ∧ Mk K C f ∧ Binds K fd ps [] ∧ FnOk P w K mg base CX0 j f fd ps (spM K G)
theorem Mkr.mono {i j : Nat} {x : Str} (F : Mkr P w K mg base i x C ps G) (h : i ≤ j) : Mkr P w K mg base j x C ps G := let ⟨f, fd, a, b, c, d⟩ := F.ex; ⟨f, fd, a, b, c, d.mono h⟩
theorem mtd_mk [GMK G] {m : Str} {st : Stmt} (Dt : MethAt K C m qual [] st) (Sc : FnScope N ps (defScope st)) (len : ∀ S ds T R, G S ds T R → ds.length = ps.length)
    (hb : ∀ (kV doc pm : Value) (an : Option Addr) (cdv ct : Value) (us : List Value), us.length = ps.length → bindArgs (PySem.W.fnOf m qual (defArgs st) (defBody st) (defScope st) .none kV doc pm an cdv ct) ⟨us, []⟩ = pure (ps.zip us))
    (h : ∀ (f : Addr) (cdv : Value) (A : Around) (outer : List Env) (s : Shared) (H : Hp) (E : XK), Room k (A.deeper (envOfC qual (defScope st) s.heap.objs.size f cdv)) → ∀ (S T : SRel) [SOk S] (ds : List D) (R : D → Prop), G S ds T R → ∀ rt : VK, Out K T R rt →
      XS (dX P w K mg base N qual (defScope st) f cdv A outer s H E) S (g0 N ds) (defBody st) ⟨fun _ H => rt .non H, rt, fun _ _ => False, fun _ _ => False⟩) : Mtd P w K mg base (k + 1) C m ps G := by
  obtain ⟨f, fd, hm, F⟩ := Dt.ex
  exact ⟨f, fd, hm, F.bindsN hb, fnm_mk F Sc len fun cdv A outer s H E hr S T _ ds R g rt o => h f cdv A outer s H E hr S T ds R g rt o⟩
end
section
variable {X : Cx} {S T : SRel} {Γ : Gm} {e o : Expr} {es : List Expr} {x m : Str} {C : Addr} {p pos apos : Pos} {j : Nat} {ps : List Str} {G : GM} {R : D → Prop} {RA : List D → Prop} {fs : List (Str × D)}
/-- C(e, ..) -/
theorem x_make [ok : SOk S] (M : Mkr X.prog X.w X.K X.mg X.base j x C ps G) (hr : Room (j + 1) X.A) (ha : XA X S Γ (e :: es) RA) (hG : ∀ ds, RA ds → ∃ fs, R (.ins C fs) ∧ ∀ l, G (ownI X.K l C [] S) (.r l :: ds) (ownI X.K l C fs S) (· = .non)) (hg : Gl X x := by rfl) (hdb : (x == ("__debug__" : Str)) = false := by decide)
    (he : starEach (e :: es) X.env = (false, eval e X.env) :: starEach es X.env := by rfl) (hpl : (backTo pos (starEach es X.env)).any (·.1) = false := by rfl) : XE X S Γ (.Call (.Name x p) (e :: es) [] pos) R := fun B σ H hsl hS Q k => by
  obtain ⟨f, fd, a, b, c, d⟩ := M.ex
  refine PE.w (pe_make (E := E0) b d hr hg a c .nil pass0 paW hdb he hpl) (ha B σ H hsl hS _ fun vs B1 H1 ds e1 s1 r1 n1 l dx h1 h2 hne => ?_)
  obtain ⟨fs, hR, g⟩ := hG ds r1
  have s2 := SOk.new (o := .own l) s1 h2
  have e2 := SOk.bex (o := .own l) s1 h2
  have hl : upd H1 dx (.own l) l = none := by rw [upd_ne (Ne.symm hne)]; exact h1
  refine ⟨ownI X.K l C [] S, ownI X.K l C fs S, _, .r l :: ds, _, inferInstance, ⟨dx, [], upd_same, .nil, SOk.bnone s2 hl, by rw [del_upd_same, del_none hl]; exact s2⟩, .cons (.v _) (by rw [List.append_nil]; exact n1.up e2), g l, fun v B' H' d' e3 s3 r3 n3 => ?_⟩
  subst r3
  cases n3
  obtain ⟨o, s4, e4, n4⟩ := ownI_out s3
  exact ⟨rfl, k _ _ _ _ (e1.trans (e2.trans (e3.trans e4))) s4 hR n4⟩
/-- o.m(e, ..), o shared, nothing else changed -/
theorem x_meth [ok : SOk S] {pl : Sem Bool} (F : Mtd X.prog X.w X.K X.mg X.base j C m ps G) (c : Cls X.K C) (hr : Room j X.A) (ho : XE X S Γ o (· = .ins C fs)) (hl : fs.lookup m = none) (ha : XA X S Γ (e :: es) RA) (hG : ∀ ds, RA ds → G S (.ins C fs :: ds) S R)
    (hst : starEach (e :: es) X.env = (false, eval e X.env) :: starEach es X.env := by rfl) (hpl : (backTo pos (starEach es X.env)).any (·.1) = false := by rfl)
    (ht : eval (.Call (.Attribute o m apos) (e :: es) [] pos) X.env = (do
      let ov ← eval o X.env
      standAt apos.atName
      let (f, first) ← holding [ov] (getMethod ov m pl)
      callWith pos f first (backTo pos (starEach (e :: es) X.env)) (backToKw pos (keywordEach [] X.env))) := by rfl) : XE X S Γ (.Call (.Attribute o m apos) (e :: es) [] pos) R := fun B σ H hsl hS Q k => by
  obtain ⟨f, fd, a, b, d⟩ := F.ex
  refine PE.w (pe_meth (E := E0) peW c a d hr b .nil pass0 paW hst hpl ht) (ho B σ H hsl hS _ fun v B1 H1 d1 e1 s1 r1 n1 => ?_)
  subst r1
  cases n1 with
  | @ins l dx _ xs _ q r =>
    exact ⟨l, dx, xs, rfl, SOk.sub s1 _ _ q, r.lookN hl, ha B1 σ H1 (hsl.up e1) s1 _ fun vs B2 H2 ds e2 s2 r2 n2 =>
      ⟨S, S, B2, .ins C fs :: ds, R, ok, s2, .cons (.ins (e2 _ _ q) (DnF.mono e2 _ _ r)) (by rw [List.append_nil]; exact n2), hG ds r2, fun v B' H' d' e3 s3 r3 n3 => k v B' H' d' (e1.trans (e2.trans e3)) s3 r3 n3⟩⟩
theorem x_meth0 [ok : SOk S] {pl : Sem Bool} (F : Mtd X.prog X.w X.K X.mg X.base j C m ps G) (c : Cls X.K C) (hr : Room j X.A) (ho : XE X S Γ o (· = .ins C fs)) (hl : fs.lookup m = none) (hG : G S [.ins C fs] S R)
    (ht : eval (.Call (.Attribute o m apos) [] [] pos) X.env = (do
      let ov ← eval o X.env
      standAt apos.atName
      let (f, first) ← holding [ov] (getMethod ov m pl)
      callWith pos f first (backTo pos (starEach [] X.env)) (backToKw pos (keywordEach [] X.env))) := by rfl) : XE X S Γ (.Call (.Attribute o m apos) [] [] pos) R := fun B σ H hsl hS Q k => by
  obtain ⟨f, fd, a, b, d⟩ := F.ex
  refine PE.w (pe_meth0 (E := E0) peW c a d hr b .nil pass0 ht) (ho B σ H hsl hS _ fun v B1 H1 d1 e1 s1 r1 n1 => ?_)
  subst r1
  cases n1 with
  | @ins l dx _ xs _ q r =>
    exact ⟨l, dx, xs, rfl, SOk.sub s1 _ _ q, r.lookN hl, S, S, B1, [.ins C fs], R, ok, s1, .cons (.ins q r) .nil, hG, fun v B' H' d' e3 s3 r3 n3 => k v B' H' d' (e1.trans e3) s3 r3 n3⟩

/-! ### str(o), len(o), isinstance(x, C) -/
theorem Inv.atIn {pins : List (Addr × Obj)} {σ : L2.St} {H : Hp} {s : Shared} {a C dx : Addr} {fs : List (Str × V)} (I : Inv X pins σ H s) (e : H a = some (.ins C dx fs)) : ∃ od, PySem.W.InstAt s.heap a (PySem.W.instObj C dx) C (some od) :=
  let ⟨_, M, _⟩ := ins_get I.hok e
  let ⟨od, i, _⟩ := M.look
  ⟨od, i⟩
/-- a special method, run one or two steps in -/
theorem run_at {A : Around} {pins : List (Addr × Obj)} {σ : L2.St} {H : Hp} {s : Shared} {Q : VK} {f : Addr} {fd : FuncData} {us : List Value} {vs : List V} {sp : Sp} (F : FnOk X.prog X.w X.K X.mg X.base CX0 j f fd ps sp) (hr : Room j A) (hb : Binds X.K fd ps []) (hE : Env0 X.prog X.w X.K X.mg X.base A X.stack s H)
    (I : Inv X pins σ H s) (r : Vals vs us) (h : sp vs H Q E0) {E : Value → Shared → Prop} : wpAny (model X.prog X.w) A (call (.ref f) us) (EP X pins σ Q) E s := by
  have hl : (us ++ []).length = ps.length := by rw [List.append_nil, ← r.length]; exact F.len _ _ _ _ h
  have hb' := hb s us I.kIn hl
  rw [List.append_nil] at hb'
  refine wpAny_call (codeAny_mono (F.run A X.stack s H ⟨us, []⟩ us vs Q E0 hr hE hb' r h) fun r s' hq => ?_)
  cases r with
  | error e => exact hq.elim
  | ok fl =>
    cases fl with
    | ret u => exact I.after hq
    | next => exact False.elim hq
    | brk => exact False.elim hq
    | cont => exact False.elim hq
theorem call_strOb (F : Mtd X.prog X.w X.K X.mg X.base j C "__str__" ps G) (hr : Room (j + 2) X.A) : CallR X (.type "str") (fun xs H Q => ∃ a dx fs, xs = [.ref a] ∧ H a = some (.ins C dx fs) ∧ spM X.K G [.ref a] H (fun v H' => (∃ z, v = .str z) ∧ Q v H') E0) := by
  obtain ⟨f, fd, mt, b, d⟩ := F.ex
  rintro pins s σ H xs us Q I r ⟨a, dx, fs, rfl, ea, h⟩
  cases r with
  | cons r1 r2 =>
    cases r2
    cases r1
    obtain ⟨od, J⟩ := Inv.atIn I ea
    have hr1 : Room j X.A.in1.in1 := hr.in1.in1
    refine PySem.W.kso_call (by have := hr1.un; omega) I.kIn J mt.at_ mt.fn (wpAny_mono (run_at d hr1 b I.env0.in1.in1 I (us := [.ref a]) (vs := [.ref a]) (.cons rfl .nil) h) (fun v s1 hq => ?_) fun _ _ q => q)
    obtain ⟨x, H', I', rx, ⟨z, rfl⟩, q⟩ := hq
    obtain ⟨t, rfl⟩ := (show ∃ t, v = Value.str z t from rx)
    exact ⟨.str z, H', I', ⟨t, rfl⟩, q⟩
theorem x_strOb [ok : SOk S] (F : Mtd X.prog X.w X.K X.mg X.base j C "__str__" ps G) (hr : Room (j + 2) X.A) {z : Str} (h : XE X S Γ e (· = .ins C fs)) (hG : G S [.ins C fs] S (· = .s z)) (hm : X.mg "str" = none) (hg : Gl X "str" := by rfl) (hs : starEach [e] X.env = (false, eval e X.env) :: starEach [] X.env := by rfl) :
    XE X S Γ (.Call (.Name "str" p) [e] [] pos) (· = .s z) :=
  x_bty (call_strOb F hr) hm (by decide +kernel) (a1 h hs) (fun _ r => by
    subst r
    intro B H ws s nn Q q
    cases nn with
    | cons n1 n2 =>
      cases n2
      cases n1 with
      | @ins l dx _ xs _ g1 g2 =>
        exact ⟨l, dx, xs, rfl, SOk.sub s _ _ g1, S, S, B, [.ins C fs], _, ok, s, .cons (.ins g1 g2) .nil, hG, fun v B' H' d' e3 s3 r3 n3 => by
          subst r3
          cases n3
          exact ⟨⟨z, rfl⟩, q _ B' H' _ e3 s3 rfl (.v _)⟩⟩) hg (by decide) (by decide) hs
theorem call_lenOb (F : Mtd X.prog X.w X.K X.mg X.base j C "__len__" ps G) (hr : Room (j + 1) X.A) : CallR X (.builtin "len") (fun xs H Q => ∃ a dx fs, xs = [.ref a] ∧ H a = some (.ins C dx fs) ∧ spM X.K G [.ref a] H (fun v H' => ∃ n : Int, v = .int n ∧ 0 ≤ n ∧ n < 2 ^ 63 ∧ Q (.int n) H') E0) := by
  obtain ⟨f, fd, mt, b, d⟩ := F.ex
  rintro pins s σ H xs us Q I r ⟨a, dx, fs, rfl, ea, h⟩
  cases r with
  | cons r1 r2 =>
    cases r2
    cases r1
    obtain ⟨od, J⟩ := Inv.atIn I ea
    have core := run_at (E := X.xe) d hr.in1 b I.env0.in1 I (us := [.ref a]) (vs := [.ref a]) (.cons rfl .nil) h
    refine Calls.call_function_entry PySem.kind_len PySem.plain_len PySem.entry_len (PySem.args_len1 _) ?_
    unfold Builtin.«len»
    refine wpAny_bind (m := oneArg "len" _) (wpAny_pure ?_)
    refine wpAny_bind (m := callSpecial? (.ref a) (Str.ofString "__len__")) (PySem.W.special_fn I.kIn J mt.at_ (beq_iff_eq.mp mt.fn) (wpAny_mono core (fun v s1 hq => ?_) fun _ _ y => y))
    obtain ⟨x, H', I', rx, n, rfl, h0, h1, q⟩ := hq
    obtain ⟨t, rfl⟩ := (show ∃ t, v = Value.int n t from rx)
    refine wpAny_bind (wpAny_holding (wpAny_pure ?_))
    refine wpAny_bind (wpAny_letGo ?_)
    show wpAny _ _ (if n < 0 then _ else _) _ _ _
    rw [if_neg (by omega)]
    show wpAny _ _ (if n ≥ 2 ^ 63 then _ else _) _ _ _
    rw [if_neg (by omega)]
    exact wpAny_bind (wpAny_mkInt (wpAny_pure ⟨_, rfl, ⟨.int n, H', I'.tok _, ⟨_, rfl⟩, q⟩⟩))
theorem x_lenOb [ok : SOk S] (F : Mtd X.prog X.w X.K X.mg X.base j C "__len__" ps G) (hr : Room (j + 1) X.A) {n : Nat} (hn : n ≤ 1000000) (h : XE X S Γ e (· = .ins C fs)) (hG : G S [.ins C fs] S (· = .i (n : Int))) (hm : X.mg "len" = none) (hg : Gl X "len" := by rfl) (hs : starEach [e] X.env = (false, eval e X.env) :: starEach [] X.env := by rfl) :
    XE X S Γ (.Call (.Name "len" p) [e] [] pos) (· = .i (n : Int)) :=
  x_blt (call_lenOb F hr) hm boot_len (a1 h hs) (fun _ r => by
    subst r
    intro B H ws s nn Q q
    cases nn with
    | cons n1 n2 =>
      cases n2
      cases n1 with
      | @ins l dx _ xs _ g1 g2 =>
        exact ⟨l, dx, xs, rfl, SOk.sub s _ _ g1, S, S, B, [.ins C fs], _, ok, s, .cons (.ins g1 g2) .nil, hG, fun v B' H' d' e3 s3 r3 n3 => by
          subst r3
          cases n3
          exact ⟨(n : Int), rfl, by omega, by omega, q _ B' H' _ e3 s3 rfl (.v _)⟩⟩) hg (by decide) (by decide) hs
/-- the name of a class -/
theorem x_cls (hm : X.mg x = some (.ref C)) (hg : Gl X x := by rfl) (h1 : (x == ("__debug__" : Str)) = false := by decide) : XE X S Γ (.Name x pos) (· = .r C) := fun B σ H hs hS Q k => PE.w (pe_glob (v := .ref C) hg hm rfl h1) (k _ B H _ (.refl B) hS rfl (.v _))
theorem x_isiC [SOk S] {a b : Expr} {d : D} {U : String} {k : Bool} (h : XE X S Γ a (· = d)) (g : XE X S Γ b (· = .r C)) (t : TyD d U) (ht : PySem.W.kitOne X.K (.type U) (.ref C) = some k) (hm : X.mg "isinstance" = none) (hg : Gl X "isinstance" := by rfl)
    (hs : starEach [a, b] X.env = (false, eval a X.env) :: starEach [b] X.env := by rfl) (hs2 : starEach [b] X.env = (false, eval b X.env) :: starEach [] X.env := by rfl) (hpl : (backTo pos (starEach [b] X.env)).any (·.1) = false := by rfl) : XE X S Γ (.Call (.Name "isinstance" p) [a, b] [] pos) (· = .b k) :=
  x_blt call_isi hm boot_isinstance (a2 h g hs hs2) (fun _ r => by
    subst r
    intro B H ws s nn Q q
    cases nn with
    | cons n1 n2 =>
      cases n2 with
      | cons n2 n3 =>
        cases n3
        cases n2
        exact ⟨_, _, _, _, k, rfl, .own C, t.tx n1 (SOk.sub s), ht, q _ B H _ (.refl B) s rfl (.v _)⟩) hg (by decide) (by decide) hs hpl
end
end Z

/-! The pot, while one looks into it. -/
namespace Z
open PySem PySem.Spec PyProof.Rows L2
def potAt (pot : Addr) (m n : Int) (S : SRel) : SRel := fun B H => S B H ∧ H pot = some (.lst [.int m, .int n])
instance {pot : Addr} {m n : Int} {S : SRel} [SOk S] : SOk (potAt pot m n S) := ⟨fun h => SOk.sub h.1, fun {B H p o} h q => ⟨SOk.new h.1 q, by rw [upd_ne (fun z => by have h2 := h.2; rw [z, q] at h2; cases h2)]; exact h.2⟩⟩
instance {pot : Addr} {m n : Int} {S T : SRel} [Le S T] : Le (potAt pot m n S) T := ⟨fun h => Le.le h.1⟩
section
variable {X : Cx} {S : SRel} {Γ : Gm} {e e2 : Expr} {pot : Addr} {m n a b : Int} {rest : List Stmt} {E : Ends} {pos p p0 px pt : Pos} {nx : Str}
theorem s_look [hp : PotIn X.K pot S] (k : ∀ m n, PotOk m n → XS X (potAt pot m n S) Γ rest E) : XS X S Γ rest E := fun B σ H hs hS =>
  let ⟨m, n, a, b, _⟩ := hp.get hS
  k m n a B σ H hs ⟨hS, b⟩
theorem x_pot [hp : PotIn X.K pot S] (h : XE X (potAt pot m n S) Γ e (· = .r pot)) {k : Int} {u : V} (g : XE X (potAt pot m n S) Γ e2 (· = .i k)) (hk : atI [V.int m, .int n] k = some u) (hs : PlainIx e2 := by exact fun _ _ => rfl) : XE X (potAt pot m n S) Γ (.Subscript e e2 pos) (· = .v u) :=
  x_ixG ix_list h g (fun _ _ r1 r2 => by
    subst r1 r2
    intro B H x y s n1 n2 Q q
    cases n1
    cases n2
    exact ⟨pot, _, k, u, rfl, rfl, SqL.of s.2, hk, q u B H _ (.refl B) s rfl (.v _)⟩) hs
/-- pot[1] = .. -/
theorem s_pot1 [hp : PotIn X.K pot S] (hm : PotOk m n) {j} (i : Nat) (hi : Γ[i]? = some (some (.r pot))) (h : XE X (potAt pot m n S) Γ e (· = .i b)) (hb : 0 ≤ b ∧ b < 2147483587) (k : XS X (potAt pot m b S) Γ rest E)
    (hN : X.N[i]? = some nx := by rfl) (hv : Vis X.env.scope nx := by first | exact Or.inl rfl | exact Or.inr (Or.inl rfl) | exact Or.inr (Or.inr rfl)) (h1 : (nx == ("__debug__" : Str)) = false := by decide) (h2 : (nx == ("__classdict__" : Str)) = false := by decide)
    (hsw : swapsWithSole [.Subscript (.Name nx px) (.Constant (.int 1) j p0) pt] e pos.line X.env = pure false := by rfl) (hw : swappedStores [.Subscript (.Name nx px) (.Constant (.int 1) j p0) pt] e X.env = pure none := by rfl) (ha : (assignEach [.Subscript (.Name nx px) (.Constant (.int 1) j p0) pt] X.env).map (·.2) = [assign (.Subscript (.Name nx px) (.Constant (.int 1) j p0) pt) X.env] := by rfl) :
    XS X (potAt pot m n S) Γ (.Assign [.Subscript (.Name nx px) (.Constant (.int 1) j p0) pt] e pos :: rest) E := fun B σ H hsl hS =>
  PSs.w (pss_cons (ps_asg peW (pg_sub (pe_var (i := i) hN hv h1 h2) pe_int set_list) hsw hw ha) pssW) (h B σ H hsl hS _ fun v B1 H1 d e1 s1 r1 n1 => by
    subst r1
    cases n1
    obtain ⟨x, hx, hd⟩ := (hsl.up e1).2 i _ hi
    cases hd
    obtain ⟨m', n', q1, q2, q3⟩ := hp.get s1.1
    rw [s1.2] at q2
    cases q2
    exact ⟨.ref pot, hx, pot, [.int m, .int n], 1, 1, rfl, rfl, s1.2, rfl, k B1 σ _ (hsl.up e1) ⟨q3 m b ⟨q1.1, hb.1, hb.2⟩, upd_same⟩⟩)
/-- pot[0], x = a pair -/
theorem s_pot0 [SOk S] [hp : PotIn X.K pot S] (hc : X.calm = true) (hNd : X.N.Nodup) {j jt} {y : Str} {py : Pos} (i iy : Nat) (hi : Γ[i]? = some (some (.r pot))) (h : XE X (potAt pot m n S) Γ e (· = .tup [.i a, .i b])) (ha0 : 0 ≤ a) (k : XS X (potAt pot a n S) (Γ.set iy (some (.i b))) rest E)
    (hN : X.N[i]? = some nx := by rfl) (hv : Vis X.env.scope nx := by first | exact Or.inl rfl | exact Or.inr (Or.inl rfl) | exact Or.inr (Or.inr rfl)) (h1 : (nx == ("__debug__" : Str)) = false := by decide) (h2 : (nx == ("__classdict__" : Str)) = false := by decide)
    (hy : X.N[iy]? = some y := by rfl) (hx : Loc X.env.scope y := by first | exact Or.inl rfl | exact Or.inr rfl) (hf : X.fn y = true ∨ X.env.scope.names.lookup y = some .local := by first | exact .inl rfl | exact .inr rfl)
    (hsw : swapsWithSole [.Tuple [.Subscript (.Name nx px) (.Constant (.int 0) j p0) pt, .Name y py] jt p] e pos.line X.env = pure false := by rfl) (hw : swappedStores [.Tuple [.Subscript (.Name nx px) (.Constant (.int 0) j p0) pt, .Name y py] jt p] e X.env = pure none := by rfl)
    (ha : (assignEach [.Tuple [.Subscript (.Name nx px) (.Constant (.int 0) j p0) pt, .Name y py] jt p] X.env).map (·.2) = [assign (.Tuple [.Subscript (.Name nx px) (.Constant (.int 0) j p0) pt, .Name y py] jt p) X.env] := by rfl)
    (hc1 : (assignEach [.Subscript (.Name nx px) (.Constant (.int 0) j p0) pt, .Name y py] X.env).map (·.2) = assign (.Subscript (.Name nx px) (.Constant (.int 0) j p0) pt) X.env :: (assignEach [.Name y py] X.env).map (·.2) := by rfl)
    (hc2 : (assignEach [.Name y py] X.env).map (·.2) = assign (.Name y py) X.env :: (assignEach [] X.env).map (·.2) := by rfl)
    (hn : (assignEach [.Subscript (.Name nx px) (.Constant (.int 0) j p0) pt, .Name y py] X.env).length = 2 := by rfl) (hst : (assignEach [.Subscript (.Name nx px) (.Constant (.int 0) j p0) pt, .Name y py] X.env).findIdx? (·.1) = none := by rfl) :
    XS X (potAt pot m n S) Γ (.Assign [.Tuple [.Subscript (.Name nx px) (.Constant (.int 0) j p0) pt, .Name y py] jt p] e pos :: rest) E := fun B σ H hsl hS =>
  PSs.w (pss_cons (ps_asg peW (pg_tup (n := 2) hc (pgs_cons (pg_sub (pe_var (i := i) hN hv h1 h2) pe_int set_list) (pgs_cons (pg_name (i := iy) hNd hy hx hf) pgs_nil hc2) hc1) hn hst) hsw hw ha) pssW) (h B σ H hsl hS _ fun v B1 H1 d e1 s1 r1 n1 => by
    subst r1
    cases n1 with
    | @tup tp xs _ q r =>
      have ex := DnA.leaf (ys := [.int a, .int b]) r
      subst ex
      obtain ⟨x, hx', hd⟩ := (hsl.up e1).2 i _ hi
      cases hd
      obtain ⟨m', n', q1, q2, q3⟩ := hp.get s1.1
      rw [s1.2] at q2
      cases q2
      exact ⟨tp, _, rfl, (SOk.sub s1).sqT q, rfl, .int a, [.int b], rfl, ⟨.ref pot, hx', pot, [.int m, .int n], 0, 0, rfl, rfl, s1.2, rfl, .int b, [], rfl, rfl, k B1 _ _ ((hsl.up e1).set iy (.v _)) ⟨q3 a n ⟨ha0, q1.2.1, q1.2.2⟩, upd_same⟩⟩⟩)
end
end Z

/-! Defs that hand back a new list; a pot of one's own; lists lent to a callee. -/
namespace Z
open PySem PySem.Spec PyProof.Rows L2
abbrev GN := SRel → List D → (List D → Prop) → Prop
def spN (K : PySem.W.Frag) (G : GN) : Sp := fun vs H Q _ => ∃ (S : SRel) (B : Hp) (ds : List D) (R : List D → Prop), SOk S ∧ S B H ∧ DnA K B vs ds ∧ G S ds R ∧ ∀ l xs B' H' es, Ex B B' → S B' H' → R es → DnA K B' xs es → H' l = none → Q (.ref l) (upd H' l (.lst xs))
class GNK (G : GN) : Prop where
  up : ∀ {S ds R B0}, SOk S → G S ds R → G (keep B0 S) ds R
def OutN (K : PySem.W.Frag) (S : SRel) (R : List D → Prop) (rt : VK) : Prop := ∀ l xs B H es, S B H → R es → DnA K B xs es → H l = none → rt (.ref l) (upd H l (.lst xs))
structure FncN (P : Program) (w : World) (K : PySem.W.Frag) (mg : Str → Option Value) (base : Heap) (j : Nat) (x : Str) (ps : List Str) (G : GN) : Prop where
  ex : ∃ (f : Addr) (fd : FuncData), mg x = some (.ref f) ∧ PySem.W.keepIn K (.ref f) = true ∧ Binds K fd ps [] ∧ FnOk P w K mg base CX0 j f fd ps (spN K G)
section
variable {P : Program} {w : World} {K : PySem.W.Frag} {mg : Str → Option Value} {base : Heap} {x : Str} {N ps : List Str} {k : Nat} {G : GN}
theorem FncN.mono {i j : Nat} (F : FncN P w K mg base i x ps G) (h : i ≤ j) : FncN P w K mg base j x ps G := let ⟨f, fd, a, b, c, d⟩ := F.ex; ⟨f, fd, a, b, c, d.mono h⟩
theorem fncN_mk [GNK G] {st : Stmt} (Dt : DefAt K mg x st) (Sc : FnScope N ps (defScope st)) (len : ∀ S ds R, G S ds R → ds.length = ps.length)
    (hb : ∀ (kV doc pm : Value) (an : Option Addr) (cdv ct : Value) (us : List Value), us.length = ps.length → bindArgs (PySem.W.fnOf x x (defArgs st) (defBody st) (defScope st) .none kV doc pm an cdv ct) ⟨us, []⟩ = pure (ps.zip us))
    (h : ∀ (f : Addr) (cdv : Value) (A : Around) (outer : List Env) (s : Shared) (H : Hp) (E : XK), Room k (A.deeper (envOfC x (defScope st) s.heap.objs.size f cdv)) → ∀ (S : SRel) [SOk S] (ds : List D) (R : List D → Prop), G S ds R → ∀ rt : VK, OutN K S R rt →
      XS (dX P w K mg base N x (defScope st) f cdv A outer s H E) S (g0 N ds) (defBody st) ⟨fun _ _ => False, rt, fun _ _ => False, fun _ _ => False⟩) : FncN P w K mg base (k + 1) x ps G := by
  obtain ⟨f, fd, hm, F⟩ := Dt.ex
  have len' : ∀ vs H Q E, spN K G vs H Q E → vs.length = ps.length := fun vs H Q E ⟨S, B, ds, R, _, _, n, g, _⟩ => by rw [n.length]; exact len S ds R g
  refine ⟨f, fd, hm, F.kp, F.bindsN hb, F.ok Sc len' fun cdv A outer s H vs Q E hr hsp => ?_⟩
  have hvl := len' vs H Q E hsp
  obtain ⟨S, B, ds, R, ok, s0, n, g, hQ⟩ := hsp
  haveI := ok
  refine ⟨wSs (dX P w K mg base N x (defScope st) f cdv A outer s H E) (defBody st), PSs.nox pssW, ?_⟩
  have hN : ps.length ≤ N.length := by have := congrArg List.length Sc.pre; rw [List.length_take] at this; omega
  have := h f cdv A outer s H E hr (keep B S) ds R (GNK.up ok g) Q (fun l xs B' H' es ⟨e, t⟩ r nd hl => hQ l xs B' H' es e t r nd hl) B (start N vs) H (Sl.start n (by rw [hvl]; exact hN)) ⟨.refl B, s0⟩
  exact fun pins s' I => wpAny_mono (this pins s' I) (fun f s2 q => by
    cases f with
    | next => obtain ⟨_, _, _, z⟩ := q; exact z.elim
    | brk => obtain ⟨_, _, _, z⟩ := q; exact z.elim
    | cont => obtain ⟨_, _, _, z⟩ := q; exact z.elim
    | ret u => exact q) fun _ _ z => z
end
section
variable {X : Cx} {S T : SRel} {Γ : Gm} {e : Expr} {es : List Expr} {x : Str} {p pos : Pos} {j : Nat} {ps : List Str} {G : GN} {R R' : List D → Prop} {RA : List D → Prop} {E : Ends} {rest : List Stmt} {ds : List D}
theorem s_retNew (O : OutN X.K T R' E.rt) [hle : Le S T] (he : XN X S Γ e R) (w : ∀ d, R d → R' d) : XS X S Γ (.Return (some e) pos :: rest) E := fun B σ H hsl hS =>
  PSs.w (pss_cons (ps_ret peW) pssW) (he B σ H hsl hS _ fun l xs B1 H1 ds e1 s1 r1 n1 hl => let ⟨B', e', t⟩ := hle.le s1; O l xs B' H1 ds t (w ds r1) (n1.up e') hl)
theorem x_callN [ok : SOk S] (F : FncN X.prog X.w X.K X.mg X.base j x ps G) (hr : Room j X.A) (ha : XA X S Γ (e :: es) RA) (hG : ∀ ds, RA ds → G S ds R) (hg : Gl X x := by rfl) (hdb : (x == ("__debug__" : Str)) = false := by decide)
    (he : starEach (e :: es) X.env = (false, eval e X.env) :: starEach es X.env := by rfl) (hpl : (backTo pos (starEach es X.env)).any (·.1) = false := by rfl) : XN X S Γ (.Call (.Name x p) (e :: es) [] pos) R := fun B σ H hsl hS Q k => by
  obtain ⟨f, fd, a, b, c, d⟩ := F.ex
  exact PE.w (pe_call (E := E0) d hr hg a b c .nil pass0 paW hdb he hpl) (ha B σ H hsl hS _ fun vs B1 H1 ds e1 s1 r1 n1 =>
    ⟨S, B1, ds, R, ok, s1, by rw [List.append_nil]; exact n1, hG ds r1, fun l xs B' H' es e2 s2 r2 n2 hl => k l xs B' H' es (e1.trans e2) s2 r2 n2 hl⟩)

/-! ### a pot of one's own -/
def potF (K : PySem.W.Frag) (pot : Addr) (S : SRel) : SRel := fun B H => ∃ m n : Int, PotOk m n ∧ own K pot [.i m, .i n] S B H
instance {K : PySem.W.Frag} {pot : Addr} {S : SRel} [SOk S] : SOk (potF K pot S) := ⟨fun ⟨_, _, _, h⟩ => SOk.sub h, fun ⟨m, n, a, h⟩ q => ⟨m, n, a, SOk.new h q⟩⟩
instance {K : PySem.W.Frag} {pot : Addr} {S : SRel} : PotIn K pot (potF K pot S) := ⟨fun {B H} ⟨m, n, a, h⟩ => by
  obtain ⟨xs, a1, b1, c1, d1⟩ := h
  have e := DnA.leaf (ys := [.int m, .int n]) b1
  subst e
  exact ⟨m, n, a, a1, fun m' n' r => ⟨m', n', r, _, upd_same, .cons (.v _) (.cons (.v _) .nil), c1, by rw [del_upd_same]; exact d1⟩⟩⟩
/-- f(a new pot) -/
theorem x_callPot [ok : SOk S] {G : GT} {Rr : D → Prop} (F : Fnc X.prog X.w X.K X.mg X.base j x ps G) (hr : Room j X.A) (he : XN X S Γ e (fun ds => ∃ m n : Int, PotOk m n ∧ ds = [.i m, .i n])) (hG : ∀ l, G (potF X.K l S) [.r l] Rr) (hv : ∀ d, Rr d → ∃ u, d = .v u) (hg : Gl X x := by rfl) (hdb : (x == ("__debug__" : Str)) = false := by decide)
    (hs : starEach [e] X.env = (false, eval e X.env) :: starEach [] X.env := by rfl) (hpl : (backTo pos (starEach [] X.env)).any (·.1) = false := by rfl) : XE X S Γ (.Call (.Name x p) [e] [] pos) Rr := fun B σ H hsl hS Q k => by
  obtain ⟨f, fd, a, b, c, _, d⟩ := F.ex
  refine PE.w (pe_call (E := E0) d hr hg a b c .nil pass0 (pa_cons peW pa_nil hs) hdb hs hpl) (he B σ H hsl hS _ fun l xs B1 H1 ds e1 s1 r1 n1 hl => ?_)
  obtain ⟨m, n, hok, rfl⟩ := r1
  refine ⟨potF X.K l S, B1, [.r l], Rr, inferInstance, ⟨m, n, hok, own_mk s1 n1 hl⟩, .cons (.v _) .nil, hG l, fun v B' H' d' e2 s2 r2 n2 => ?_⟩
  obtain ⟨u, rfl⟩ := hv d' r2
  cases n2
  obtain ⟨m', n', _, h2⟩ := s2
  obtain ⟨xs', s3, e3, _⟩ := own_out h2
  exact k _ _ H' _ (e1.trans (e2.trans e3)) s3 r2 (.v _)

/-! ### lists lent -/
/-- l, otherwise one's own, stands with what never changes -/
def lend (l : Addr) (xs : List V) (S : SRel) : SRel := fun B H => B l = some (.lst xs) ∧ H l = some (.lst xs) ∧ S (del B l) H
instance {l : Addr} {xs : List V} {S : SRel} [SOk S] : SOk (lend l xs S) := ⟨fun {B H} ⟨a, b, c⟩ p o e => by
    by_cases z : p = l
    · subst z; rw [a] at e; rw [b]; exact e
    · exact SOk.sub c p o (by rw [del_ne z]; exact e), fun {B H p o} ⟨a, b, c⟩ q => by
    have ne : p ≠ l := fun z => by rw [z, b] at q; cases q
    exact ⟨by rw [upd_ne (Ne.symm ne)]; exact a, by rw [upd_ne (Ne.symm ne)]; exact b, by rw [del_upd_ne ne]; exact SOk.new c q⟩⟩
theorem own_pot {K : PySem.W.Frag} {pot l : Addr} {ds : List D} {S : SRel} [h : PotIn K pot S] {B H : Hp} (q : own K l ds S B H) : pot ≠ l := fun z => by
  obtain ⟨xs, a, b, c, d⟩ := q
  obtain ⟨m, n, g1, g2, g3⟩ := h.get d
  rw [z, del_same] at g2
  cases g2
/-- the pot is not the list -/
theorem PotIn.lend {K : PySem.W.Frag} {pot l : Addr} {xs : List V} {S : SRel} (h : PotIn K pot S) (hne : pot ≠ l) : PotIn K pot (Z.lend l xs S) := ⟨fun {B H} ⟨a, b, c⟩ => by
  obtain ⟨m, n, g1, g2, g3⟩ := h.get c
  exact ⟨m, n, g1, g2, fun m' n' r => ⟨a, by rw [upd_ne (Ne.symm hne)]; exact b, g3 m' n' r⟩⟩⟩
/-- f(.., l): l, a list of one's own, is only read by f; the answer is a plain value -/
theorem x_callLend [ok : SOk S] {G : GT} {Rr : D → Prop} {l : Addr} {S' : List D → SRel} {as bs : List D} (hh : Has X.K l S ds S') (hn : ∀ {B H}, S B H → B l = none) (F : Fnc X.prog X.w X.K X.mg X.base j x ps G) (hr : Room j X.A) (ha : XA X S Γ (e :: es) (· = as ++ .r l :: bs)) (hG : ∀ xs B H, S B H → G (lend l xs S) (as ++ .lst ds :: bs) Rr)
    (hv : ∀ d, Rr d → ∃ u, d = .v u) (hg : Gl X x := by rfl) (hdb : (x == ("__debug__" : Str)) = false := by decide) (he : starEach (e :: es) X.env = (false, eval e X.env) :: starEach es X.env := by rfl) (hpl : (backTo pos (starEach es X.env)).any (·.1) = false := by rfl) : XE X S Γ (.Call (.Name x p) (e :: es) [] pos) Rr := fun B σ H hsl hS Q k => by
  obtain ⟨f, fd, a, b, c, _, d⟩ := F.ex
  refine PE.w (pe_call (E := E0) d hr hg a b c .nil pass0 paW hdb he hpl) (ha B σ H hsl hS _ fun vs B1 H1 ds1 e1 s1 r1 n1 => ?_)
  subst r1
  obtain ⟨xs, g1, g2⟩ := hh.get s1
  have hB := hn s1
  have e2 : Ex B1 (upd B1 l (.lst xs)) := Ex.new hB
  have hd : del (upd B1 l (.lst xs)) l = B1 := by rw [del_upd_same, del_none hB]
  have conv : ∀ (as : List D) (vs : List V), DnA X.K B1 vs (as ++ .r l :: bs) → DnA X.K (upd B1 l (.lst xs)) vs (as ++ .lst ds :: bs) := by
    intro as
    induction as with
    | nil =>
      intro vs h
      cases h with
      | cons q r =>
        cases q
        exact .cons (.lst (SqL.of upd_same) (g2.up e2)) (r.up e2)
    | cons a as ih =>
      intro vs h
      cases h with
      | cons q r => exact .cons (q.up e2) (ih _ r)
  refine ⟨lend l xs S, upd B1 l (.lst xs), as ++ .lst ds :: bs, Rr, inferInstance, ⟨upd_same, g1, by rw [hd]; exact s1⟩, by rw [List.append_nil]; exact conv as vs n1, hG xs _ _ s1, fun v B' H' d' e3 s3 r3 n3 => ?_⟩
  obtain ⟨u, rfl⟩ := hv d' r3
  cases n3
  refine k _ (del B' l) H' _ (e1.trans fun p o q => ?_) s3.2.2 r3 (.v _)
  have ne : p ≠ l := fun z => by rw [z, hB] at q; cases q
  rw [del_ne ne]
  exact e3 p o (e2 p o q)
end
end Z

/-! The same where what is walked is known but for a choice ι. -/
namespace Z
open PySem PySem.Spec PyProof.Rows L2
def XIg (X : Cx) (S : SRel) (Γ : Gm) (tg iter : Expr) {ι : Type} (Pr : ι → Prop) (n : ι → Nat) (Y : ι → Nat → D → Prop) : Prop := ∀ (B : Hp) (σ : L2.St) (H : Hp), Sl X.K B σ Γ → S B H → ∀ R : It → Hp → Prop,
  (∀ i J B' H', Pr i → Ex B B' → S B' H' → DW X.K J (n i) B' (Y i) → R J H') → wI X tg iter σ H R
section
variable {X : Cx} {S : SRel} {Γ : Gm} {e e2 tg : Expr} {pos p : Pos} {RA RB : List D → Prop}
theorem i_listR [SOk S] (h : XE X S Γ e (fun d => ∃ ds, d = .lst ds ∧ RA ds)) : XIg X S Γ tg e RA List.length (fun ds i d => ds[i]? = some d) := fun B σ H hs hS R k => PI.w (pi_list peW) (h B σ H hs hS _ fun v B1 H1 d e1 s1 ⟨ds, ed, ra⟩ n1 => by
  subst ed
  cases n1 with
  | @lst a xs _ q r =>
    refine ⟨a, rfl, ⟨xs, (SOk.sub s1).sqL q⟩, k ds _ B1 H1 ra e1 s1 ⟨fun i B H hi e0 eh => ⟨xs, xs[i]'(by rw [r.length]; exact hi), (e0.trans eh).sqL q, by simp [r.length, hi]⟩, fun B H e0 eh => ⟨xs, (e0.trans eh).sqL q, by rw [r.length]; exact Nat.le_refl _⟩, fun i B H x H' S _ hi e0 s y => ?_⟩⟩
    obtain ⟨rfl, y2⟩ := y
    exact dw_at r e0 s (y2 xs ((e0.trans (SOk.sub s)).sqL q)))
theorem i_rangeR {RN : Int → Prop} (h : XE X S Γ e (fun d => ∃ n : Int, d = .i n ∧ RN n)) (hz : ∀ n, RN n → -(2 ^ 62) ≤ n ∧ n < 2 ^ 62) (hm : X.mg "range" = none) (hg : Gl X "range" := by rfl) (hs : starEach [e] X.env = [(false, eval e X.env)] := by rfl) :
    XIg X S Γ tg (.Call (.Name "range" p) [e] [] pos) RN Int.toNat (fun _ i d => d = .i (i : Int)) := fun B σ H hsl hS R k => PI.w (pi_range1 hg hm (pa_cons peW pa_nil hs) hs) (h B σ H hsl hS _ fun v B1 H1 d e1 s1 ⟨n, ed, rn⟩ n1 => by
  subst ed
  cases n1
  refine ⟨n, rfl, (hz n rn).1, (hz n rn).2, k n _ B1 H1 rn e1 s1 (dw_fn (f := fun i => .int (i : Int)) (fun i H hi => hi) (fun _ => Nat.le_refl _) fun i H x H' y => ⟨y.1, ?_⟩)⟩
  rw [y.2, Int.zero_add])
theorem i_enumLR [SOk S] {elts : List Expr} {j : Nat} {tpos : Pos} (h : XE X S Γ e (fun d => ∃ ds, d = .lst ds ∧ RA ds)) (hm : X.mg "enumerate" = none) (hg : Gl X "enumerate" := by rfl) (hs : starEach [e] X.env = [(false, eval e X.env)] := by rfl) :
    XIg X S Γ (.Tuple elts j tpos) (.Call (.Name "enumerate" p) [e] [] pos) RA List.length (fun ds i d => ∃ b, ds[i]? = some b ∧ d = .tup [.i (i : Int), b]) := fun B σ H hsl hS R k =>
  PI.w (pi_enum hg hm (pa_cons peW pa_nil hs) hs) (h B σ H hsl hS _ fun v B1 H1 d e1 s1 ⟨ds, ed, ra⟩ n1 => by
    subst ed
    cases n1 with
    | @lst a xs _ q r =>
      have dw : DW X.K (Ite X.K a) ds.length B1 (fun i d => ∃ a b, some (D.i (i : Int)) = some a ∧ ds[i]? = some b ∧ d = .tup [a, b]) := by
        refine dw_pair (f := fun i => some (D.i (i : Int))) (g := fun i => ds[i]?) (fun i B H hi e0 eh => ⟨xs, xs[i]'(by rw [r.length]; exact hi), (e0.trans eh).sqL q, by simp [r.length, hi]⟩) (fun B H e0 eh => ⟨xs, (e0.trans eh).sqL q, by rw [r.length]; exact Nat.le_refl _⟩) fun i B H x H' hi e0 eh y => ?_
        obtain ⟨T, z, h1, h2, h3, h4⟩ := y
        obtain ⟨c, hc, hn⟩ := r.getV (h4 xs ((e0.trans eh).sqL q))
        exact ⟨T, .int (i : Nat), z, .i (i : Int), c, h1, h2, h3, rfl, hc, .v _, hn.up e0⟩
      refine ⟨a, xs, rfl, (SOk.sub s1).sqL q, k ds _ B1 H1 ra e1 s1 ⟨dw.goes, dw.stops, fun i B H x H' S _ hi e0 s y => ?_⟩⟩
      obtain ⟨B2, d2, g1, g2, ⟨a2, b2, g3, g4, g5⟩, g6⟩ := dw.gives i B H x H' S hi e0 s y
      cases g3
      exact ⟨B2, d2, g1, g2, ⟨b2, g4, g5⟩, g6⟩)
theorem i_zipLR [SOk S] {elts : List Expr} {j : Nat} {tpos : Pos} (h : XE X S Γ e (fun d => ∃ ds, d = .lst ds ∧ RA ds)) (h2 : XE X S Γ e2 (fun d => ∃ ds, d = .lst ds ∧ RB ds)) (hm : X.mg "zip" = none) (hg : Gl X "zip" := by rfl)
    (hs : starEach [e, e2] X.env = (false, eval e X.env) :: starEach [e2] X.env := by rfl) (hpl : (backTo pos (starEach [e2] X.env)).any (·.1) = false := by rfl) (hs2 : starEach [e2] X.env = (false, eval e2 X.env) :: starEach [] X.env := by rfl) :
    XIg X S Γ (.Tuple elts j tpos) (.Call (.Name "zip" p) [e, e2] [] pos) (fun z : List D × List D => RA z.1 ∧ RB z.2) (fun z => min z.1.length z.2.length) (fun z i d => ∃ a b, z.1[i]? = some a ∧ z.2[i]? = some b ∧ d = .tup [a, b]) := fun B σ H hsl hS R k =>
  PI.w (pi_zip hg hm (pa_cons peW (pa_cons peW pa_nil hs2) hs) hs hpl) (h B σ H hsl hS _ fun v B1 H1 d e1 s1 ⟨ds, ed, ra⟩ n1 => h2 B1 σ H1 (hsl.up e1) s1 _ fun v2 B2 H2 d2 e2 s2 ⟨es, ed2, rb⟩ n2 => by
    subst ed ed2
    cases n1 with
    | @lst a xs _ q r =>
      cases n2 with
      | @lst b ys _ q2 r2 =>
        refine ⟨a, b, xs, ys, rfl, ((e2.trans (SOk.sub s2))).sqL q, (SOk.sub s2).sqL q2, k (ds, es) _ B2 H2 ⟨ra, rb⟩ (e1.trans e2) s2 (dw_pair (f := fun i => ds[i]?) (g := fun i => es[i]?) (fun i B H hi e0 eh => ?_) (fun B H e0 eh => ⟨xs, ys, ((e2.trans e0).trans eh).sqL q, (e0.trans eh).sqL q2, ?_⟩) fun i B H x H' hi e0 eh y => ?_)⟩
        · have hi' : i < min ds.length es.length := hi
          exact ⟨xs, ys, xs[i]'(by rw [r.length]; omega), ys[i]'(by rw [r2.length]; omega), ((e2.trans e0).trans eh).sqL q, (e0.trans eh).sqL q2, by (simp [r.length] <;> omega), by (simp [r2.length] <;> omega)⟩
        · show xs.length ≤ min ds.length es.length ∨ ys.length ≤ min ds.length es.length
          rw [r.length, r2.length]; omega
        · obtain ⟨T, u, w, h1, h2, h3, h4, h5⟩ := y
          obtain ⟨c, hc, hn⟩ := r.getV (h4 xs (((e2.trans e0).trans eh).sqL q))
          obtain ⟨c2, hc2, hn2⟩ := r2.getV (h5 ys ((e0.trans eh).sqL q2))
          exact ⟨T, u, w, c, c2, h1, h2, h3, hc, hc2, hn.up (e2.trans e0), hn2.up e0⟩)
end

/-! ### for -/
section
variable {X : Cx} {S : SRel} {Γ : Gm} {tg iter : Expr} {pos : Pos} {rest body : List Stmt} {E : Ends} {ι : Type} {Pr : ι → Prop} {n : ι → Nat} {Y : ι → Nat → D → Prop}
theorem s_forR (Iv : ι → Nat → SRel → Gm → Prop) (hc : X.calm = true) (hp : PassesOwn (model X.prog X.w) X.A X.env X.xe) (hi : XIg X S Γ tg iter Pr n Y) (h0 : ∀ j, Pr j → Iv j 0 S Γ) (hok : ∀ j k S' Γ', Iv j k S' Γ' → SOk S')
    (hb : ∀ j, Pr j → ∀ k d B1 S' Γ', k < n j → Y j k d → Iv j k S' Γ' → ∃ Γ'' ws, XG X Γ' tg d Γ'' ws ∧ ∀ nx : L2.St → Hp → Prop, (∀ S2 Γ2, Iv j (k + 1) S2 Γ2 → ∀ σ H, At X.K (keep B1 S2) Γ2 σ H → nx σ H) → XS X (keep B1 S') Γ'' body ⟨nx, E.rt, wSs X rest E, nx⟩)
    (hd : ∀ j, Pr j → ∀ S' Γ', Iv j (n j) S' Γ' → XS X S' Γ' rest E) (hs : ∀ x, foldedSetIterable iter X.env x = pure x := by intro _; rfl) : XS X S Γ (.For tg iter body [] pos :: rest) E := fun B σ H hsl hS =>
  PSs.w (pss_cons (ps_for hp hc piW pgW pssW hs) pssW) (hi B σ H hsl hS _ fun j J B1 H1 pr e1 s1 dw =>
    ⟨fun i m σ H => m = n j - i ∧ i ≤ n j ∧ ∃ S' Γ', Iv j i S' Γ' ∧ At X.K (keep B1 S') Γ' σ H, ⟨n j, by simp, Nat.zero_le _, S, Γ, h0 j pr, B1, hsl.up e1, .refl B1, s1⟩, by
      rintro i m σ H ⟨rfl, hin, S', Γ', iv, B2, sl2, e2, s2⟩
      haveI : SOk S' := hok _ _ _ _ iv
      by_cases hlt : i < n j
      · refine .inr ⟨dw.goes i B2 H hlt e2 (SOk.sub s2), fun σ' H' => ∃ S2 Γ2, Iv j (i + 1) S2 Γ2 ∧ At X.K (keep B1 S2) Γ2 σ' H', fun σ' H' q => ⟨n j - (i + 1), by omega, rfl, hlt, q⟩, fun x H' y => ?_⟩
        obtain ⟨B3, d, e3, s3, yd, nd⟩ := dw.gives i B2 H x H' (keep B1 S') hlt e2 ⟨e2, s2⟩ y
        obtain ⟨Γ'', ws, g, q⟩ := hb j pr i d B1 S' Γ' hlt yd iv
        exact g B3 σ H' x (sl2.up e3) (SOk.sub s3) nd _ fun σ2 sl3 _ => q _ (fun S2 Γ2 iv2 σ' H' a => ⟨S2, Γ2, iv2, a⟩) B3 σ2 H' sl3 s3
      · have e : i = n j := by omega
        subst e
        exact .inl ⟨dw.stops B2 H e2 (SOk.sub s2), hd j pr S' Γ' iv B2 σ H sl2 s2⟩⟩)
end

/-! ### comprehensions -/
section
variable {X : Cx} {S : SRel} {Γ : Gm} {tg iter elt : Expr} {ifs : List Expr} {scope : Scope} {pos : Pos} {ι : Type} {Pr : ι → Prop} {n : ι → Nat} {Y : ι → Nat → D → Prop} {vs : List Nat}
theorem lc_runR [SOk S] (hi : XIg X S Γ tg iter Pr n Y) (Acc : ι → Nat → List D → Prop) (h0 : ∀ j, Pr j → Acc j 0 []) (ht : ∀ j, Pr j → ∀ k d acc, k < n j → Y j k d → Acc j k acc → LT X scope S Γ vs tg ifs elt d (fun d' => Acc j (k + 1) (acc ++ [d'])) (Acc j (k + 1) acc))
    (hl : ∀ j, Pr j → ∀ k acc, k ≤ n j → Acc j k acc → acc.length ≤ 100000) {B : Hp} {σ : L2.St} {H : Hp} (hsl : Sl X.K B σ Γ) (hS : S B H) {Q : VK} (k : ∀ j l xs B' H' ds, Pr j → Ex B B' → S B' H' → Acc j (n j) ds → DnA X.K B' xs ds → H' l = none → Q (.ref l) (upd H' l (.lst xs))) :
    tLc (wI X tg iter) (bG X scope tg) (bT X scope ifs) (bE X scope elt) vs σ H Q := hi B σ H hsl hS _ fun j J B1 H1 pr e1 s1 dw Dl hD =>
    ⟨fun i m H => m = n j - i ∧ i ≤ n j ∧ ∃ acc B2, Acc j i acc ∧ Ex B1 B2 ∧ own X.K Dl acc S B2 H, ⟨n j, by simp, Nat.zero_le _, [], B1, h0 j pr, .refl B1, own_mk s1 .nil hD⟩, by
      rintro i m H ⟨rfl, hin, acc, B2, ac, e2, s2⟩
      by_cases hlt : i < n j
      · refine .inr ⟨dw.goes i B2 H hlt e2 (SOk.sub s2), fun H' => ∃ acc B2, Acc j (i + 1) acc ∧ Ex B1 B2 ∧ own X.K Dl acc S B2 H', fun H' q => ⟨n j - (i + 1), by omega, rfl, hlt, q⟩, fun x H' y => ?_⟩
        obtain ⟨B3, d, e3, s3, yd, nd⟩ := dw.gives i B2 H x H' (own X.K Dl acc S) hlt e2 s2 y
        obtain ⟨Γ', ws, P, hw, hx⟩ := (ht j pr i d acc hlt yd ac).ex
        have sl3 : Sl X.K B3 (L2.wipe σ vs) (wipeG Γ vs) := ((hsl.up (e1.trans (e2.trans e3))).wipe vs)
        have ex3 : Ex B3 H' := SOk.sub s3
        intro s' H0 C cl fp
        refine (hx s' H0 C cl fp Dl acc).1 B3 _ H' x sl3 ex3 nd _ fun σ2 slg bt => ⟨wipe_but bt hw, fun s2' H0' C' cl' fp' => ?_⟩
        refine (hx s2' H0' C' cl' fp' Dl acc).2.1 B3 σ2 H' slg s3 _ fun b B4 H4 e4 s4 r4 => ?_
        cases b with
        | false => exact iteF ⟨acc, B4, (hx s2' H0' C' cl' fp' Dl acc).2.2.2 r4, e2.trans (e3.trans e4), s4⟩
        | true =>
          refine iteT fun s5 H5 C5 cl5 fp5 => ?_
          refine (hx s5 H5 C5 cl5 fp5 Dl acc).2.2.1 r4 B4 σ2 H4 (slg.up e4) s4 _ fun y B6 H6 d6 e6 s6 r6 n6 => ?_
          obtain ⟨ys, a6, b6, c6, t6⟩ := s6
          refine ⟨ys, a6, ?_, acc ++ [d6], B6, r6, e2.trans (e3.trans (e4.trans e6)), ys ++ [y], upd_same, b6.app (.one n6), c6, by rw [del_upd_same]; exact t6⟩
          have := hl j pr i acc (Nat.le_of_lt hlt) ac
          rw [b6.length]
          exact Nat.lt_of_le_of_lt this (by decide)
      · have e : i = n j := by omega
        subst e
        obtain ⟨xs, a, b, c, s⟩ := s2
        have r := k j Dl xs B2 (del H Dl) acc pr (e1.trans e2) s ac b del_same
        rw [upd_del a] at r
        exact .inl ⟨dw.stops B2 H e2 (SOk.sub (S := own X.K Dl acc S) ⟨xs, a, b, c, s⟩), r⟩⟩
theorem n_lcR [SOk S] {own : List (Str × Nat)} (hc : X.calm = true) (hN : X.N.Nodup) (ok : BlkOk X.N X.env.scope scope own) (hi : XIg X S Γ tg iter Pr n Y) (Acc : ι → Nat → List D → Prop) (h0 : ∀ j, Pr j → Acc j 0 [])
    (ht : ∀ j, Pr j → ∀ k d acc, k < n j → Y j k d → Acc j k acc → LT X scope S Γ (own.map (·.2)) tg ifs elt d (fun d' => Acc j (k + 1) (acc ++ [d'])) (Acc j (k + 1) acc)) (hl : ∀ j, Pr j → ∀ k acc, k ≤ n j → Acc j k acc → acc.length ≤ 100000)
    (hs : ∀ x, foldedSetIterable iter X.env x = pure x := by intro _; rfl) : XN X S Γ (.ListComp elt [⟨tg, iter, ifs, 0⟩] scope pos) (fun ds => ∃ j, Pr j ∧ Acc j (n j) ds) := fun B σ H hsl hS Q k =>
  PE.w (pe_lc hc hN piW ok bGp bTp bEp hs) (lc_runR hi Acc h0 ht hl hsl hS fun j l xs B' H' ds pr e1 s1 r n m => k l xs B' H' ds e1 s1 ⟨j, pr, r⟩ n m)
theorem s_setLcR [SOk S] {own : List (Str × Nat)} {rest : List Stmt} {E : Ends} (i : Nat) {y : Str} {py spos : Pos} (hc : X.calm = true) (hN : X.N.Nodup) (ok : BlkOk X.N X.env.scope scope own) (hi : XIg X S Γ tg iter Pr n Y) (Acc : ι → Nat → List D → Prop) (h0 : ∀ j, Pr j → Acc j 0 [])
    (ht : ∀ j, Pr j → ∀ k d acc, k < n j → Y j k d → Acc j k acc → LT X scope S Γ (own.map (·.2)) tg ifs elt d (fun d' => Acc j (k + 1) (acc ++ [d'])) (Acc j (k + 1) acc)) (hl : ∀ j, Pr j → ∀ k acc, k ≤ n j → Acc j k acc → acc.length ≤ 100000)
    (go : ∀ l j ds, Pr j → Acc j (n j) ds → XS X (Z.own X.K l ds S) (Γ.set i (some (.r l))) rest E) (hy : X.N[i]? = some y := by rfl) (hyl : X.env.scope.names.lookup y = some .local := by rfl)
    (hsw : swapsWith (.ListComp elt [⟨tg, iter, ifs, 0⟩] scope pos) (some (.Name y py)) spos.line X.env = pure true := by exact sw_true rfl rfl rfl (by decide +kernel))
    (hs : ∀ x, foldedSetIterable iter X.env x = pure x := by intro _; rfl) : XS X S Γ (.Assign [.Name y py] (.ListComp elt [⟨tg, iter, ifs, 0⟩] scope pos) spos :: rest) E := fun B σ H hsl hS =>
  PSs.w (pss_cons (ps_setLc hc hN hy hyl hsw piW ok bGp bTp bEp hs) pssW)
    (lc_runR (Q := fun x H1 => gName i x σ H1 (wSs X rest E)) hi Acc h0 ht hl hsl hS fun j l xs B' H' ds pr e1 s1 r n m => go l j ds pr r B' _ _ ((hsl.up e1).set i (.v _)) (own_mk s1 n m))
end

/-! ### small things -/
section
variable {X : Cx} {S : SRel} {Γ : Gm} {e a b o : Expr} {pos p p2 : Pos} {RA : List D → Prop} {x : Str}
theorem x_joinR [SOk S] {apos : Pos} {RS : List Str → Prop} (h : XE X S Γ o (· = .s x)) (g : XE X S Γ e (fun d => ∃ ys : List Str, d = .lst (ys.map .s) ∧ RS ys)) (hz : ∀ ys, RS ys → (ys.map (·.length)).sum + ys.length * x.length ≤ 1000000) (hs : starEach [e] X.env = [(false, eval e X.env)] := by rfl)
    (hbase : attributeBase o "join" X.env (eval o X.env) = eval o X.env := by rfl) (hline : (apos.endLine == pos.line) = true := by rfl) : XE X S Γ (.Call (.Attribute o "join" apos) [e] [] pos) (fun d => ∃ ys, d = .s (Str.join x ys) ∧ RS ys) := fun B σ H hsl hS Q k =>
  PE.w (pe_join peW peW hs hbase hline) (h B σ H hsl hS _ fun v B1 H1 d1 e1 s1 r1 n1 => by
    subst r1
    cases n1
    refine ⟨⟨x, rfl⟩, g B1 σ H1 (hsl.up e1) s1 _ fun v2 B2 H2 d2 e2 s2 ⟨ys, ed, rs⟩ n2 => ?_⟩
    subst ed
    have hz' : (ys.map (·.length)).sum + ys.length * x.length ≤ 16777216 := Nat.le_trans (hz ys rs) (by decide)
    cases n2 with
    | @lst q xs _ hq hd =>
      have h2 : DnA X.K B2 xs ((ys.map V.str).map .v) := by rw [List.map_map]; exact hd
      have := h2.leaf
      subst this
      exact ⟨x, q, ys, rfl, rfl, .inl ((SOk.sub s2).sqL hq), hz', by rw [TL.join_eq]; exact k _ B2 H2 _ (e1.trans e2) s2 ⟨ys, rfl, rs⟩ (.v _)⟩)
theorem n_sliceLR [SOk S] {lo hi : Option Expr} {Rl Rh : Option Int → Prop} (ha : XE X S Γ a (fun d => ∃ ds, d = .lst ds ∧ RA ds)) (hl : XO X S Γ lo Rl) (hh : XO X S Γ hi Rh) : XN X S Γ (.Subscript a (.Slice lo hi none p2) pos) (fun r => ∃ ds l h, RA ds ∧ Rl l ∧ Rh h ∧ r = cutG ds l h) := fun B σ H hs hS Q k =>
  PE.w (pe_slice sl_list peW poW poW) (ha B σ H hs hS _ fun v B1 H1 d1 e1 s1 ⟨ds, ed, ra⟩ n1 => hl B1 σ H1 (hs.up e1) s1 _ fun l B2 H2 e2 s2 r2 => hh B2 σ H2 (hs.up (e1.trans e2)) s2 _ fun h B3 H3 e3 s3 r3 => by
    subst ed
    cases n1 with
    | @lst p xs _ h1 h2 =>
      have e0 := e3.trans (SOk.sub s3)
      refine ⟨p, xs, rfl, (e2.trans e0).sqL h1, fun q hq => ?_⟩
      exact k q _ B3 H3 _ (e1.trans (e2.trans e3)) s3 ⟨ds, l, h, ra, r2, r3, rfl⟩ ((h2.up (e2.trans e3)).cut l h) hq)
theorem x_addIR {m : Int} {Pi : Int → Prop} (ha : XE X S Γ a (· = .i m)) (hb : XE X S Γ b (fun d => ∃ i : Int, d = .i i ∧ Pi i)) : XE X S Γ (.BinOp a .Add b pos) (fun d => ∃ i : Int, d = .i (m + i) ∧ Pi i) := x_op op_add ha hb fun _ _ r1 ⟨i, r2, pi⟩ => by
  subst r1 r2
  exact OpD.imp (opd_v (fun _ => .v _) fun H Q q => ⟨m, i, rfl, rfl, q⟩) fun d q => ⟨i, q, pi⟩
theorem t_cmpR {op : CmpOp} {g : Int → Int → Bool} {n : Int} {Pi : Int → Prop} (ho : OpR X (compareOp op) (rI0 fun i j => .bl (g i j))) (ha : XE X S Γ a (fun d => ∃ i : Int, d = .i i ∧ Pi i)) (hb : XE X S Γ b (· = .i n)) (hm : behindInMarks op b = false) : XT X S Γ (.Compare a [op] [b] pos) (fun _ => True) :=
  t_cmp ho ha hb (fun _ _ ⟨i, r1, _⟩ r2 => by subst r1 r2; exact opd_b (fun H Q q => ⟨i, n, rfl, rfl, q⟩) trivial) hm
theorem t_gtR {n : Int} {Pi : Int → Prop} (ha : XE X S Γ a (fun d => ∃ i : Int, d = .i i ∧ Pi i)) (hb : XE X S Γ b (· = .i n)) : XT X S Γ (.Compare a [.Gt] [b] pos) (fun _ => True) := t_cmpR op_gt ha hb (nobehind _ (by decide) (by decide))
theorem t_eqR {n : Int} {Pi : Int → Prop} (ha : XE X S Γ a (fun d => ∃ i : Int, d = .i i ∧ Pi i)) (hb : XE X S Γ b (· = .i n)) : XT X S Γ (.Compare a [.Eq] [b] pos) (fun _ => True) :=
  t_cmp op_eq ha hb (fun _ _ ⟨i, r1, _⟩ r2 => by subst r1 r2; exact opd_b (fun H Q q => ⟨rfl, q⟩) trivial) (nobehind _ (by decide) (by decide))
/-- a, b = a new list, a value -/
theorem s_parNV [SOk S] {rest : List Stmt} {E : Ends} (i j : Nat) {x y : Str} {px py pt : Pos} {kt k2 pt2} {R : List D → Prop} {Rb : D → Prop} (hc : X.calm = true) (hN : X.N.Nodup) (ha : XN X S Γ a R) (hb : ∀ l ds, XE X (own X.K l ds S) Γ b Rb) (k : ∀ l ds d, R ds → Rb d → XS X (own X.K l ds S) ((Γ.set i (some (.r l))).set j (some d)) rest E)
    (hij : i ≠ j := by decide) (hi : X.N[i]? = some x := by rfl) (hj : X.N[j]? = some y := by rfl) (hx : X.env.scope.names.lookup x = some .local := by rfl) (hy : X.env.scope.names.lookup y = some .local := by rfl)
    (hw : swappedStores [.Tuple [.Name x px, .Name y py] kt pt] (.Tuple [a, b] k2 pt2) X.env = pure (some [x, y]) := by rfl) (h1 : starEach [a, b] X.env = (false, eval a X.env) :: starEach [b] X.env := by rfl) (h2 : starEach [b] X.env = (false, eval b X.env) :: starEach [] X.env := by rfl)
    (hs : swapsWithSole [.Tuple [.Name x px, .Name y py] kt pt] (.Tuple [a, b] k2 pt2) pos.line X.env = pure false := by rfl) : XS X S Γ (.Assign [.Tuple [.Name x px, .Name y py] kt pt] (.Tuple [a, b] k2 pt2) pos :: rest) E := fun B σ H hsl hS =>
  PSs.w (pss_cons (ps_par hc hN hi hj hij hx hy (pa_cons peW (pa_cons peW pa_nil h2) h1) hw hs) pssW) (ha B σ H hsl hS _ fun l xs B1 H1 d1 e1 s1 r1 n1 m1 => hb l d1 B1 σ _ (hsl.up e1) (own_mk s1 n1 m1) _ fun v B2 H2 d2 e2 s2 r2 n2 =>
    ⟨_, _, rfl, k l d1 d2 r1 r2 B2 _ _ (((hsl.up (e1.trans e2)).set i (.v _)).set j n2) s2⟩)
theorem x_ixLL [SOk S] {k : Int} {R : D → Prop} (ha : XE X S Γ a (fun d => ∃ ds, d = .lst ds ∧ RA ds)) (hb : XE X S Γ b (· = .i k)) (h : ∀ ds, RA ds → ∃ e, atI ds k = some e ∧ R e) (hs : PlainIx b := by exact fun _ _ => rfl) : XE X S Γ (.Subscript a b pos) R :=
  x_ixG ix_list ha hb (fun _ _ ⟨ds, r1, ra⟩ r2 => by
    subst r1 r2
    obtain ⟨e, h1, h2⟩ := h ds ra
    exact OpD.imp (opd_ixL h1) fun d q => q ▸ h2) hs
end
end Z

/-! Defs that are run while no repr is under way (repr asks for it). -/
namespace Z
open PySem PySem.Spec PyProof.Rows L2
structure FnG (P : Program) (w : World) (K : PySem.W.Frag) (mg : Str → Option Value) (base : Heap) (k : Nat) (f : Addr) (fd : FuncData) (ps : List Str) (sp : Sp) : Prop where
  len : ∀ vs H Q E, sp vs H Q E → vs.length = ps.length
  run : ∀ (A : Around) (out : List Env) (s : Shared) (H : Hp) (args : Args) (us : List Value) (vs : List V) (Q : VK) (E : XK), Room k A → A.guards = some [] → Env0 P w K mg base A out s H →
    BindsTo s fd args (ps.zip us) → Vals vs us → sp vs H Q E → codeAny (model P w) A (.call (.ref f) args) (CR CX0 out P w H s Q E) s
theorem FnG.mono {P : Program} {w : World} {K : PySem.W.Frag} {mg : Str → Option Value} {base : Heap} {j k : Nat} {f : Addr} {fd : FuncData} {ps : List Str} {sp : Sp} (F : FnG P w K mg base j f fd ps sp) (h : j ≤ k) : FnG P w K mg base k f fd ps sp :=
  ⟨F.len, fun A o s H a us vs Q E hr => F.run A o s H a us vs Q E (hr.mono h)⟩
theorem fnG_of {P : Program} {w : World} {K : PySem.W.Frag} {mg : Str → Option Value} {base : Heap} {k : Nat} {f : Addr} {nm ql : Str} {pr : Arguments} {bd : List Stmt} {sc : Scope} {v1 v2 v3 v4 v5 v6 v7 : Value} {q1 q2 : Option Addr} {osl : Array (Option Value)} {N ps : List Str} {sp : Sp}
    (lk : K.lookup f = some ⟨v7, q2, .func (PySem.W.fnOf nm ql pr bd sc v1 v2 v3 v4 q1 v5 v6), osl⟩) (hc : PySem.W.codeIn K v5 ql = true) (Sc : FnScope N ps sc) (len : ∀ vs H Q E, sp vs H Q E → vs.length = ps.length)
    (hb : ∀ (A : Around) (out : List Env) (s : Shared) (H : Hp) (vs : List V) (Q : VK) (E : XK), Room k (A.deeper (envOfC ql sc s.heap.objs.size f v5)) → A.guards = some [] → sp vs H Q E →
      ∃ t, PSs (cxOf CX0 P w K mg base N ql sc f v5 A out s H E) bd t ∧ t { nx := fun _ H' => Q .non H', rt := Q } (start N vs) H) : FnG P w K mg base (k + 1) f (PySem.W.fnOf nm ql pr bd sc v1 v2 v3 v4 q1 v5 v6) ps sp := ⟨len, by
  intro A out s H args us vs Q E hr hgu e0 hbi rv hsp
  have hlen := len vs H Q E hsp
  have inK : K.In s.heap := e0.mod.kin.keeps fun b o e => (e0.bs b o e).1
  have nolim : s.heap.NoLimit := e0.mod.nolimit.keeps fun b o e => (e0.bs b o e).1
  have kinds : ∀ z ∈ ps.zip us, sc.names.lookup z.1 = some .local ∨ (sc.names.lookup z.1 = some .cell ∧ ((cellsFrom (s.heap.objs.size + 1) sc.names []).lookup z.1).isSome = true) := by
    rintro ⟨n, v⟩ hz
    exact (Sc.par n (List.of_mem_zip hz).1).imp id fun q => ⟨q, PySem.W.cellsFrom_some _ _ _ (.inl q)⟩
  refine codeAny_call_function hr.depth (inK _ _ lk) rfl Sc.co Sc.gen rfl (PySem.W.codeRec_of inK hc) (hbi _ _ _ _ ?_)
  refine wpAny_newFunctionEnv_cells Sc.kind kinds fun env eq s1 x => ?_
  subst eq
  refine ⟨nolim.keeps x.toInCall.keep, codeAny_func ?_⟩
  obtain ⟨t, ht, hq⟩ := hb A out s H vs Q E (hr.deeper _) hgu hsp
  have I := inv_start (CX := CX0) (E := E) Sc hr.hd e0 hlen rv x
  refine wpAny_mono (ht.run [] s1 (start N vs) H _ I hq) (fun fl s' hs => ?_) fun e s' hs => hs
  have back : ∀ {σ' : L2.St} {H' : Hp} {v : V} {u : Value}, Inv (cxOf CX0 P w K mg base N ql sc f v5 A out s H E) [] σ' H' s' → RelV v u → Q v H' → CE out P w H s Q u s' := fun J r q => ⟨_, _, J.os, J.bare, J.base, J.hok, r, q⟩
  match fl, hs with
  | .ret u, ⟨v, σ', H', J, r, q⟩ => exact back J r q
  | .next, ⟨σ', H', J, q⟩ => exact back (v := V.non) (u := Value.none) J rfl q
  | .brk, ⟨_, _, _, q⟩ => exact q.elim
  | .cont, ⟨_, _, _, q⟩ => exact q.elim⟩
structure FncG (P : Program) (w : World) (K : PySem.W.Frag) (mg : Str → Option Value) (base : Heap) (j : Nat) (x : Str) (ps : List Str) (G : GT) : Prop where
  ex : ∃ (f : Addr) (fd : FuncData), mg x = some (.ref f) ∧ PySem.W.keepIn K (.ref f) = true ∧ Binds K fd ps [] ∧ FnG P w K mg base j f fd ps (spS K G)
theorem FncG.mono {P : Program} {w : World} {K : PySem.W.Frag} {mg : Str → Option Value} {base : Heap} {i j : Nat} {x : Str} {ps : List Str} {G : GT} (F : FncG P w K mg base i x ps G) (h : i ≤ j) : FncG P w K mg base j x ps G := let ⟨f, fd, a, b, c, d⟩ := F.ex; ⟨f, fd, a, b, c, d.mono h⟩
section
variable {P : Program} {w : World} {K : PySem.W.Frag} {mg : Str → Option Value} {base : Heap} {x : Str} {N ps : List Str} {k : Nat} {G : GT}
theorem fnG_body [GK G] {f : Addr} {fd : FuncData} {qual : Str} {args : Arguments} {body : List Stmt} {scope : Scope} {dvs : List V} {kws : List (Str × V)} (F : FunD K x qual args body scope dvs kws f fd) (Sc : FnScope N ps scope) (len : ∀ S ds R, G S ds R → ds.length = ps.length)
    (h : ∀ (cdv : Value) (A : Around) (outer : List Env) (s : Shared) (H : Hp) (E : XK), Room k (A.deeper (envOfC qual scope s.heap.objs.size f cdv)) → A.guards = some [] → ∀ (S : SRel) [SOk S] (ds : List D) (R : D → Prop), G S ds R → ∀ rt : VK, Out K S R rt →
      XS (dX P w K mg base N qual scope f cdv A outer s H E) S (g0 N ds) body ⟨fun _ H => rt .non H, rt, fun _ _ => False, fun _ _ => False⟩) : FnG P w K mg base (k + 1) f fd ps (spS K G) := by
  have len' : ∀ vs H Q E, spS K G vs H Q E → vs.length = ps.length := fun vs H Q E ⟨S, B, ds, R, _, _, n, g, _⟩ => by rw [n.length]; exact len S ds R g
  obtain ⟨oc, od, dV, kV, doc, pm, an, cdv, ct, osl, rfl, lk, hcd, _, _⟩ := F.ex
  refine fnG_of lk hcd Sc len' fun A outer s H vs Q E hr hgu hsp => ?_
  have hvl := len' vs H Q E hsp
  obtain ⟨S, B, ds, R, ok, s0, n, g, hQ⟩ := hsp
  haveI := ok
  refine ⟨wSs (dX P w K mg base N qual scope f cdv A outer s H E) body, PSs.nox pssW, ?_⟩
  have hN : ps.length ≤ N.length := by have := congrArg List.length Sc.pre; rw [List.length_take] at this; omega
  exact h cdv A outer s H E hr hgu (keep B S) ds R (GK.up ok g) Q (fun v B' H' d ⟨e, t⟩ r nd => hQ v B' H' d e t r nd) B (start N vs) H (Sl.start n (by rw [hvl]; exact hN)) ⟨.refl B, s0⟩
theorem fncG_mk [GK G] {st : Stmt} (Dt : DefAt K mg x st) (Sc : FnScope N ps (defScope st)) (len : ∀ S ds R, G S ds R → ds.length = ps.length)
    (hb : ∀ (kV doc pm : Value) (an : Option Addr) (cdv ct : Value) (us : List Value), us.length = ps.length → bindArgs (PySem.W.fnOf x x (defArgs st) (defBody st) (defScope st) .none kV doc pm an cdv ct) ⟨us, []⟩ = pure (ps.zip us))
    (h : ∀ (f : Addr) (cdv : Value) (A : Around) (outer : List Env) (s : Shared) (H : Hp) (E : XK), Room k (A.deeper (envOfC x (defScope st) s.heap.objs.size f cdv)) → A.guards = some [] → ∀ (S : SRel) [SOk S] (ds : List D) (R : D → Prop), G S ds R → ∀ rt : VK, Out K S R rt →
      XS (dX P w K mg base N x (defScope st) f cdv A outer s H E) S (g0 N ds) (defBody st) ⟨fun _ H => rt .non H, rt, fun _ _ => False, fun _ _ => False⟩) : FncG P w K mg base (k + 1) x ps G := by
  obtain ⟨f, fd, hm, F⟩ := Dt.ex
  exact ⟨f, fd, hm, F.kp, F.bindsN hb, fnG_body F Sc len fun cdv A outer s H E hr hgu S _ ds R g rt o => h f cdv A outer s H E hr hgu S ds R g rt o⟩
end
section
variable {X : Cx} {S : SRel} {Γ : Gm} {e : Expr} {x : Str} {p pos : Pos} {j : Nat} {ps : List Str} {G : GT}
theorem runG {pins : List (Addr × Obj)} {σ : L2.St} {H : Hp} {s : Shared} {Q : VK} {f : Addr} {fd : FuncData} {us : List Value} {vs : List V} {sp : Sp} (F : FnG X.prog X.w X.K X.mg X.base j f fd ps sp) (hr : Room j X.A) (hgu : X.A.guards = some []) (hb : Binds X.K fd ps [])
    (I : Inv X pins σ H s) (r : Vals vs us) (h : sp vs H Q E0) {E : Value → Shared → Prop} : wpAny (model X.prog X.w) X.A (call (.ref f) us) (EP X pins σ Q) E s := by
  have hl : (us ++ []).length = ps.length := by rw [List.append_nil, ← r.length]; exact F.len _ _ _ _ h
  have hb' := hb s us I.kIn hl
  rw [List.append_nil] at hb'
  refine wpAny_call (codeAny_mono (F.run X.A X.stack s H ⟨us, []⟩ us vs Q E0 hr hgu I.env0 hb' r h) fun r s' hq => ?_)
  match r, hq with
  | .ok (.ret u), hq => exact I.after hq
theorem x_callPotG [ok : SOk S] {Rr : D → Prop} (F : FncG X.prog X.w X.K X.mg X.base j x ps G) (hr : Room j X.A) (hgu : X.A.guards = some []) (he : XN X S Γ e (fun ds => ∃ m n : Int, PotOk m n ∧ ds = [.i m, .i n])) (hG : ∀ l, G (potF X.K l S) [.r l] Rr) (hv : ∀ d, Rr d → ∃ u, d = .v u) (hg : Gl X x := by rfl) (hdb : (x == ("__debug__" : Str)) = false := by decide)
    (hs : starEach [e] X.env = (false, eval e X.env) :: starEach [] X.env := by rfl) (hpl : (backTo pos (starEach [] X.env)).any (·.1) = false := by rfl) : XE X S Γ (.Call (.Name x p) [e] [] pos) Rr := fun B σ H hsl hS Q k pins s I => by
  obtain ⟨f, fd, a, b, c, d⟩ := F.ex
  refine wpAny_Call_Name_kw (ld_glob I hg a ?_ hdb)
  have ha : wA X [e] σ H (fun vs H1 => spS X.K G vs H1 Q E0) := PA.w (pa_cons peW pa_nil hs) (he B σ H hsl hS _ fun l xs B1 H1 ds e1 s1 r1 n1 hl => by
    obtain ⟨m, n, hok, rfl⟩ := r1
    refine ⟨potF X.K l S, B1, [.r l], Rr, inferInstance, ⟨m, n, hok, own_mk s1 n1 hl⟩, .cons (.v _) .nil, hG l, fun v B' H' d' e2 s2 r2 n2 => ?_⟩
    obtain ⟨u, rfl⟩ := hv d' r2
    cases n2
    obtain ⟨m', n', _, h2⟩ := s2
    obtain ⟨xs', s3, e3, _⟩ := own_out h2
    exact k _ _ H' _ (e1.trans (e2.trans e3)) s3 r2 (.v _))
  refine PySem.W.callWith_K (h₀ := X.base) I.ok.mod.kin b (thn (ha pos pins s I) fun us s1 ⟨vs, H1, I1, r, q⟩ => ⟨I1.kIn, ?_⟩) hs hpl
  exact runG d hr hgu c I1 r q
end
instance : SOk Ex := ⟨fun h => h, fun {B H p o} h q a u e => by
  by_cases z : a = p
  · subst z; rw [upd_same] at e ⊢; exact e
  · rw [upd_ne z] at e ⊢; exact h a u e⟩
end Z

/-! The law's call, made while no repr is under way. -/
namespace Z
open PySem PySem.Spec PyProof.Rows L2
section
variable {P : Program} {w : World} {K : PySem.W.Frag} {mg mb : Str → Option Value} {k : Nat} {fa a : Addr} {fd : FuncData} {x : Str} {sp : Sp} {st : Shared} {vs : List Value} {ns : List Int}
/-- from an abstract heap that tells nothing but, perhaps, the script -/
theorem call_from (inK : K.In st.heap) (hm : st.heap.Ns mainGlobals mg) (hb : st.heap.Ns builtinsNs mb) (hbb : ∀ y : Str, y ≠ "__name__" → mb y = bootBuiltins y) (hlim : st.heap.NoLimit) (hg : st.gens = #[])
    (ha : st.heap.get? a = some { cls := .type "list", data := .seq vs.toArray }) (hr : Room k callerA) (hgu : callerA.guards = some []) (F : ∀ base : Heap, K.In base → base.Ns mainGlobals mg → FnG P w K mg base k fa fd [x] sp) (hbind : ∀ (s : Shared) (u : Value), BindsTo s fd ⟨[u], []⟩ [(x, u)])
    (H : Hp) (one : ∀ b u, H b = some u → b = a ∧ ∃ o xs, u = .frz o (.lst xs)) (hok : HOk P w H st.heap) (hK : H a ≠ none → K.lookup a = none) (hs : sp [.ref a] H (fun v _ => v = .bl true) E0) :
    codeAny (model P w) callerA (.call (.ref fa) ⟨[.ref a], []⟩) (fun r s' => r = .ok (.ret (.bool true)) ∧ OldK st.heap s'.heap ∧ s'.os = st.os ∧ AllBare s'.gens) st := by
  have keepB : ∀ {b : Addr} {o : Obj}, st.heap.get? b = some o → H b = none → (hidT st.heap H).get? b = some o := fun e n => hidT_get e n
  have dictN : ∀ {b : Addr} {o : Obj} {es : Array DictEntry} {ep : Nat}, st.heap.get? b = some o → o.data = .dict es ep → H b = none := by
    intro b o es ep e d
    match q : H b with
    | none => rfl
    | some u =>
      obtain ⟨rfl, _⟩ := one b u q
      rw [ha] at e
      cases e
      have d' : Data.seq vs.toArray _ = Data.dict es ep := d
      cases d'
  have nsB : ∀ {b : Addr} {m : Str → Option Value}, st.heap.Ns b m → (hidT st.heap H).Ns b m := by
    rintro b m ⟨o, es, ep, e, d, r⟩
    exact ⟨o, es, ep, keepB e (dictN e d), d, r⟩
  have inB : K.In (hidT st.heap H) := by
    intro b o e
    refine keepB (inK b o e) ?_
    match q : H b with
    | none => rfl
    | some u =>
      obtain ⟨rfl, _⟩ := one b u q
      rw [hK (by rw [q]; exact Option.some_ne_none u)] at e
      cases e
  have lim : (hidT st.heap H).NoLimit := let ⟨mc, l1, l2⟩ := hlim; ⟨mc, nsB l1, l2⟩
  have env : Env0 P w K mg (hidT st.heap H) callerA [] st H := ⟨rfl, ⟨inB, nsB hm, ⟨mb, nsB hb, hbb⟩, lim⟩, fun b o e => of_hidT e, Nat.le_of_eq (hidT_size _ _), trivial, fun b z => (List.not_mem_nil z).elim, hok, .of_eq hg⟩
  refine codeAny_mono ((F _ inB (nsB hm)).run callerA [] st H ⟨[.ref a], []⟩ [.ref a] [.ref a] _ _ hr hgu env (hbind st (.ref a)) (.cons rfl .nil) hs) fun r s' h => ?_
  match r, h with
  | .ok (.ret u), ⟨v, H', eos, ebare, un, hok', rv, q⟩ =>
    have q : v = .bl true := q
    subst q
    have rv : u = Value.bool true := rv
    subst rv
    refine ⟨rfl, OldK.of_keep fun b o e => ?_, eos, ebare⟩
    match q : H b with
    | none => exact un.keep b o e q (fun z => (List.not_mem_nil z).elim) (fun z => by cases z)
    | some u =>
      obtain ⟨rfl, ob, xs, rfl⟩ := one b u q
      have z2 := un.frzs b ob _ q
      have e1 := (hok b _ q).1
      have e2 := (hok' b _ z2).1
      rw [e] at e1
      cases e1
      exact e2
theorem call_law (inK : K.In st.heap) (hm : st.heap.Ns mainGlobals mg) (hb : st.heap.Ns builtinsNs mb) (hbb : ∀ y : Str, y ≠ "__name__" → mb y = bootBuiltins y) (hlim : st.heap.NoLimit) (hg : st.gens = #[])
    (ha : st.heap.get? a = some { cls := .type "list", data := .seq vs.toArray }) (hi : IntsAre vs ns) (hl : ns.length ≤ sizeLine) (hr : Room k callerA) (hgu : callerA.guards = some []) (F : ∀ base : Heap, K.In base → base.Ns mainGlobals mg → FnG P w K mg base k fa fd [x] sp) (hbind : ∀ (s : Shared) (u : Value), BindsTo s fd ⟨[u], []⟩ [(x, u)])
    (hsp : ∀ H : Hp, SqL K H a (ns.map V.int) → sp [.ref a] H (fun v _ => v = .bl true) E0) :
    codeAny (model P w) callerA (.call (.ref fa) ⟨[.ref a], []⟩) (fun r s' => r = .ok (.ret (.bool true)) ∧ OldK st.heap s'.heap ∧ s'.os = st.os ∧ AllBare s'.gens) st := by
  have rv := vals_ints hi
  match q : K.lookup a with
  | some o =>
    have e := inK a o q
    rw [ha] at e
    cases e
    exact call_from inK hm hb hbb hlim hg ha hr hgu F hbind (fun _ => none) (fun b u z => by cases z) (fun b u z => by cases z) (fun z => absurd rfl z) (hsp _ (.inr ⟨_, vs.toArray, _, q, rfl, rfl, rfl, by rw [List.size_toArray, hi.length]; exact hl, by simpa using rv⟩))
  | none =>
    have at_ : ∀ {b u}, (if b = a then some (HO.frz { cls := .type "list", data := .seq vs.toArray } (.lst (ns.map V.int))) else none) = some u → b = a ∧ u = .frz { cls := .type "list", data := .seq vs.toArray } (.lst (ns.map V.int)) := by
      intro b u z
      by_cases hb : b = a
      · rw [if_pos hb] at z
        exact ⟨hb, (Option.some.inj z).symm⟩
      · rw [if_neg hb] at z
        cases z
    refine call_from inK hm hb hbb hlim hg ha hr hgu F hbind (fun b => if b = a then some (.frz { cls := .type "list", data := .seq vs.toArray } (.lst (ns.map V.int))) else none) (fun b u z => let ⟨h1, h2⟩ := at_ z; ⟨h1, _, _, h2⟩) (fun b u z => ?_) (fun _ => q) (hsp _ (.inl (.inr ⟨_, if_pos rfl⟩)))
    obtain ⟨rfl, rfl⟩ := at_ z
    exact ⟨ha, by rw [List.length_map]; exact hl, vs, _, rv, ha⟩
end
theorem walkG {l : PySem.W.OpenLaw} {n k : Nat} {q : Program} {loose : List Str} {XP : (Str → Option Value) → Heap → Prop} {YP : World → Heap → Prop} {d : DefRec} {x : Str} (hn : l.most = some n) (hn2 : n ≤ sizeLine) (hdf : d.params.defaults = []) (hr : Room k callerA) (hgu : callerA.guards = some [])
    (F : ∀ (w : World) (mg : Str → Option Value) (fa : Addr) (h : Heap), YP w h → h.Ns mainGlobals mg → mg d.name = some (.ref fa) →
      ∃ (K : PySem.W.Frag) (fd : FuncData) (sp : Sp), K.In h ∧ (∀ (s : Shared) (u : Value), BindsTo s fd ⟨[u], []⟩ [(x, u)]) ∧ (∀ (H : Hp) (a : Addr) (ns : List Int), ns.length ≤ n → SqL K H a (ns.map V.int) → sp [.ref a] H (fun v _ => v = .bl true) E0) ∧
        ∀ base : Heap, K.In base → base.Ns mainGlobals mg → FnG l.prog w K mg base k fa fd [x] sp) : PySem.W.WalkO q loose XP YP l.row.toRowW d [] (fun f vs => PySem.call f vs) := by
  refine Att.attach_call hn hdf fun w s₀ st mg mb fa o pm cd doc a vs ns G Y ho hd hcd hmg hobj hints hlen hg => ?_
  obtain ⟨K, fd, sp, KX, hb, hsp, hF⟩ := F w mg fa _ Y G.T.g hmg
  exact call_law KX G.T.g G.T.b G.T.builtins G.T.nolimit hg hobj hints (Nat.le_trans hlen hn2) hr hgu hF hb fun H hS => hsp H a ns hlen hS
end Z

/-! k96: the mathematics: plans, their texts, no two alike. -/
namespace K96
open PySem PySem.Spec PyProof.Rows L2 Z

/-! ### signs -/
def lett (l : List Nat) : Prop := ∀ c ∈ l, 97 ≤ c ∧ c ≤ 122
abbrev mkS (l : List Nat) : Str := ⟨l.toArray⟩
theorem tl_mkS (l : List Nat) : TL.tl (mkS l) = l := rfl
theorem mkS_tl (x : Str) : mkS (TL.tl x) = x := TL.ext_tl rfl
theorem mkS_app (a b : List Nat) : mkS a ++ mkS b = mkS (a ++ b) := TL.ext_tl (by rw [TL.tl_append])
theorem len_mkS (l : List Nat) : (mkS l).length = l.length := by rw [TL.len_tl]
theorem mkS_inj {a b : List Nat} (h : mkS a = mkS b) : a = b := by have := congrArg TL.tl h; exact this
/-- a name: one to eight letters -/
structure Nm (l : List Nat) : Prop where
  le : lett l
  lo : 1 ≤ l.length
  hi : l.length ≤ 8
/-- a reference -/
def Rf (l : List Nat) : Prop := ∃ t w, Nm t ∧ Nm w ∧ l = t ++ 46 :: w

/-! ### plans -/
inductive Tree where
  | heap (t : List Nat)
  | index (t n : List Nat)
  | sort (o : List (List Nat × Bool)) (a : Tree)
  | merge (p : List (List Nat × List Nat × Bool)) (a b : Tree)
  | seek (a : Tree) (t n : List Nat) (k : Nat)
  | op (w : Nat) (a : Tree)
def wHeap : List Nat := [104, 101, 97, 112]
def wIndex : List Nat := [105, 110, 100, 101, 120]
def wSort : List Nat := [115, 111, 114, 116]
def wMerge : List Nat := [109, 101, 114, 103, 101]
def wSeek : List Nat := [115, 101, 101, 107]
def wOp : Nat → List Nat
  | 0 => [100, 105, 115, 116, 105, 110, 99, 116]
  | 1 => [103, 114, 111, 117, 112, 115]
  | _ => [102, 105, 114, 115, 116]
def wUp : List Nat := [117, 112]
def wDown : List Nat := [100, 111, 119, 110]
def wNone : List Nat := [110, 111, 110, 101]
def dir (u : Bool) : List Nat := if u then wUp else wDown
abbrev sL (l : List Nat) : D := .s (mkS l)
def encE (e : List Nat × Bool) : D := .tup [sL e.1, sL (dir e.2)]
def encP (e : List Nat × List Nat × Bool) : D := .tup [sL e.1, sL e.2.1, sL (dir e.2.2)]
def enc : Tree → D
  | .heap t => .tup [sL wHeap, sL t]
  | .index t n => .tup [sL wIndex, sL t, sL n]
  | .sort o a => .tup [sL wSort, .tup (o.map encE), enc a]
  | .merge p a b => .tup [sL wMerge, .tup (p.map encP), enc a, enc b]
  | .seek a t n k => .tup [sL wSeek, enc a, sL t, sL n, .i (k : Int)]
  | .op w a => .tup [sL (wOp w), enc a]
structure OkO (o : List (List Nat × Bool)) : Prop where
  rf : ∀ e ∈ o, Rf e.1
  nd : (o.map (·.1)).Nodup
  hi : o.length ≤ 8
def Good : Tree → Prop
  | .heap t => Nm t
  | .index t n => Nm t ∧ Nm n
  | .sort o a => OkO o ∧ Good a
  | .merge p a b => (∀ e ∈ p, Rf e.1 ∧ Rf e.2.1) ∧ p ≠ [] ∧ p.length ≤ 8 ∧ Good a ∧ Good b
  | .seek a t n k => Good a ∧ Nm t ∧ Nm n ∧ 1 ≤ k ∧ k ≤ 3
  | .op w a => w ≤ 2 ∧ Good a
def ht : Tree → Nat
  | .heap _ => 1
  | .index _ _ => 1
  | .sort _ a => ht a + 1
  | .merge _ a b => max (ht a) (ht b) + 1
  | .seek a _ _ _ => ht a + 1
  | .op _ a => ht a + 1

/-! ### texts -/
def sep : List Nat := [44, 32]
def semi : List Nat := [59, 32]
def txtE (e : List Nat × Bool) : List Nat := if e.2 then e.1 else e.1 ++ 32 :: wDown
def txtP (e : List Nat × List Nat × Bool) : List Nat := e.1 ++ [32, 61, 32] ++ txtE e.2
def txtO (o : List (List Nat × Bool)) : List Nat := if o = [] then wNone else TL.joinL sep (o.map txtE)
def body : Tree → List Nat
  | .heap t => t
  | .index t n => t ++ (sep ++ n)
  | .sort o a => txtO o ++ (semi ++ (wof a ++ 40 :: (body a ++ [41])))
  | .merge p a b => TL.joinL sep (p.map txtP) ++ (semi ++ ((wof a ++ 40 :: (body a ++ [41])) ++ (semi ++ (wof b ++ 40 :: (body b ++ [41])))))
  | .seek a t n k => (wof a ++ 40 :: (body a ++ [41])) ++ (semi ++ (t ++ (sep ++ (n ++ (sep ++ [48 + k])))))
  | .op _ a => wof a ++ 40 :: (body a ++ [41])
where wof : Tree → List Nat
  | .heap _ => wHeap
  | .index _ _ => wIndex
  | .sort _ _ => wSort
  | .merge _ _ _ => wMerge
  | .seek _ _ _ _ => wSeek
  | .op w _ => wOp w
abbrev wof := body.wof
def txt (t : Tree) : List Nat := wof t ++ 40 :: (body t ++ [41])

/-! ### reading on from the left -/
/-- two runs of signs of one kind, ended by others -/
theorem span {P : Nat → Prop} : ∀ {a b r s : List Nat}, (∀ c ∈ a, P c) → (∀ c ∈ b, P c) → (∀ c, r.head? = some c → ¬ P c) → (∀ c, s.head? = some c → ¬ P c) → a ++ r = b ++ s → a = b ∧ r = s
  | [], [], _, _, _, _, _, _, h => ⟨rfl, h⟩
  | [], y :: b, r, s, _, hb, hr, _, h => by
    have h' : r = y :: (b ++ s) := h
    exact absurd (hb y List.mem_cons_self) (hr y (by rw [h']; rfl))
  | x :: a, [], r, s, ha, _, _, hs, h => by
    have h' : x :: (a ++ r) = s := h
    exact absurd (ha x List.mem_cons_self) (hs x (by rw [← h']; rfl))
  | x :: a, y :: b, r, s, ha, hb, hr, hs, h => by
    have h' : x :: (a ++ r) = y :: (b ++ s) := h
    injection h' with h1 h2
    obtain ⟨h3, h4⟩ := span (fun c hc => ha c (List.mem_cons_of_mem _ hc)) (fun c hc => hb c (List.mem_cons_of_mem _ hc)) hr hs h2
    exact ⟨by rw [h1, h3], h4⟩
def isL (c : Nat) : Prop := 97 ≤ c ∧ c ≤ 122
theorem spanL {a b r s : List Nat} {c d : Nat} (ha : lett a) (hb : lett b) (hc : ¬ isL c) (hd : ¬ isL d) (h : a ++ c :: r = b ++ d :: s) : a = b ∧ c = d ∧ r = s := by
  obtain ⟨h1, h2⟩ := span (P := isL) ha hb (fun x hx => by cases hx; exact hc) (fun x hx => by cases hx; exact hd) h
  injection h2 with h3 h4
  exact ⟨h1, h3, h4⟩
theorem lett_wOp : ∀ w, lett (wOp w)
  | 0 => by show ∀ c ∈ [100, 105, 115, 116, 105, 110, 99, 116], 97 ≤ c ∧ c ≤ 122; decide
  | 1 => by show ∀ c ∈ [103, 114, 111, 117, 112, 115], 97 ≤ c ∧ c ≤ 122; decide
  | _ + 2 => by show ∀ c ∈ [102, 105, 114, 115, 116], 97 ≤ c ∧ c ≤ 122; decide
theorem lett_word (t : Tree) : lett (wof t) := by
  cases t with
  | op w a => exact lett_wOp w
  | heap _ => show ∀ c ∈ wHeap, 97 ≤ c ∧ c ≤ 122; decide
  | index _ _ => show ∀ c ∈ wIndex, 97 ≤ c ∧ c ≤ 122; decide
  | sort _ _ => show ∀ c ∈ wSort, 97 ≤ c ∧ c ≤ 122; decide
  | merge _ _ _ => show ∀ c ∈ wMerge, 97 ≤ c ∧ c ≤ 122; decide
  | seek _ _ _ _ => show ∀ c ∈ wSeek, 97 ≤ c ∧ c ≤ 122; decide
/-- joined texts without the comma -/
theorem join_inj {xs ys : List (List Nat)} (hx : xs ≠ []) (hy : ys ≠ []) (h1 : ∀ x ∈ xs, 44 ∉ x) (h2 : ∀ y ∈ ys, 44 ∉ y) (h : TL.joinL sep xs = TL.joinL sep ys) : xs = ys := by
  have e1 := TL.spl_join (s := 44) (S := [32]) hx h1
  have e2 := TL.spl_join (s := 44) (S := [32]) hy h2
  rw [← e1, ← e2]
  exact congrArg (TL.spl [44, 32] 0 []) h
/-- signs of a reference -/
theorem Rf.sign {l : List Nat} (h : Rf l) : ∀ c ∈ l, isL c ∨ c = 46 := by
  obtain ⟨t, w, ht, hw, rfl⟩ := h
  intro c hc
  rcases List.mem_append.mp hc with q | q
  · exact .inl (ht.le c q)
  · rcases List.mem_cons.mp q with q | q
    · exact .inr q
    · exact .inl (hw.le c q)
theorem Rf.dot {l : List Nat} (h : Rf l) : 46 ∈ l := by
  obtain ⟨t, w, ht, hw, rfl⟩ := h
  simp
theorem Rf.len {l : List Nat} (h : Rf l) : 3 ≤ l.length ∧ l.length ≤ 17 := by
  obtain ⟨t, w, ht, hw, rfl⟩ := h
  have := ht.lo; have := ht.hi; have := hw.lo; have := hw.hi
  simp only [List.length_append, List.length_cons]
  omega
theorem Rf.no {l : List Nat} (h : Rf l) {c : Nat} (hc : ¬ isL c) (h46 : c ≠ 46) : c ∉ l := fun q => (h.sign c q).elim hc h46
theorem isL_no {c : Nat} (h : c < 97 := by decide) : ¬ isL c := fun q => by have := q.1; omega
theorem txtE_sign {e : List Nat × Bool} (h : Rf e.1) : ∀ c ∈ txtE e, isL c ∨ c = 46 ∨ c = 32 := by
  obtain ⟨x, u⟩ := e
  intro c hc
  unfold txtE at hc
  split at hc
  · rcases h.sign c hc with q | q
    · exact .inl q
    · exact .inr (.inl q)
  · rcases List.mem_append.mp hc with q | q
    · rcases h.sign c q with q | q
      · exact .inl q
      · exact .inr (.inl q)
    · rcases List.mem_cons.mp q with q | q
      · exact .inr (.inr q)
      · exact .inl ((show ∀ c ∈ wDown, 97 ≤ c ∧ c ≤ 122 by decide) c q)
theorem txtE_inj {e f : List Nat × Bool} (he : Rf e.1) (hf : Rf f.1) (h : txtE e = txtE f) : e = f := by
  obtain ⟨x, u⟩ := e
  obtain ⟨y, v⟩ := f
  have nx : 32 ∉ x := Rf.no he isL_no (by decide)
  have ny : 32 ∉ y := Rf.no hf isL_no (by decide)
  unfold txtE at h
  cases u with
  | true =>
    cases v with
    | true =>
      have h' : x = y := h
      rw [h']
    | false =>
      have h' : x = y ++ 32 :: wDown := h
      exact absurd (by rw [h']; simp) nx
  | false =>
    cases v with
    | true =>
      have h' : x ++ 32 :: wDown = y := h
      exact absurd (by rw [← h']; simp) ny
    | false =>
      have h' : x ++ 32 :: wDown = y ++ 32 :: wDown := h
      rw [List.append_cancel_right h']
theorem map_inj {α β : Type} {f : α → β} {P : α → Prop} (hf : ∀ a b, P a → P b → f a = f b → a = b) : ∀ {xs ys : List α}, (∀ a ∈ xs, P a) → (∀ a ∈ ys, P a) → xs.map f = ys.map f → xs = ys
  | [], [], _, _, _ => rfl
  | [], _ :: _, _, _, h => by simp at h
  | _ :: _, [], _, _, h => by simp at h
  | x :: xs, y :: ys, hx, hy, h => by
    rw [List.map_cons, List.map_cons] at h
    injection h with h1 h2
    rw [hf x y (hx x List.mem_cons_self) (hy y List.mem_cons_self) h1, map_inj hf (fun a ha => hx a (List.mem_cons_of_mem _ ha)) (fun a ha => hy a (List.mem_cons_of_mem _ ha)) h2]
theorem join_mem {c : Nat} : ∀ {xs : List (List Nat)}, c ∈ TL.joinL sep xs → (∃ x ∈ xs, c ∈ x) ∨ c = 44 ∨ c = 32
  | [], h => by cases h
  | [x], h => .inl ⟨x, List.mem_cons_self, h⟩
  | x :: y :: xs, h => by
    have h' : c ∈ x ++ (sep ++ TL.joinL sep (y :: xs)) := h
    rcases List.mem_append.mp h' with q | q
    · exact .inl ⟨x, List.mem_cons_self, q⟩
    · rcases List.mem_append.mp q with q | q
      · refine .inr ?_
        simpa [sep] using q
      · rcases join_mem q with ⟨z, hz, hc⟩ | q
        · exact .inl ⟨z, List.mem_cons_of_mem _ hz, hc⟩
        · exact .inr q
theorem join_sub : ∀ {xs : List (List Nat)} {x : List Nat} {c : Nat}, x ∈ xs → c ∈ x → c ∈ TL.joinL sep xs
  | [], _, _, h, _ => by cases h
  | [y], x, c, h, hc => by
    rw [List.mem_singleton] at h
    subst h
    exact hc
  | y :: z :: xs, x, c, h, hc => by
    show c ∈ y ++ (sep ++ TL.joinL sep (z :: xs))
    rcases List.mem_cons.mp h with q | q
    · subst q
      exact List.mem_append_left _ hc
    · exact List.mem_append_right _ (List.mem_append_right _ (join_sub q hc))
theorem txtO_inj {o q : List (List Nat × Bool)} (ho : OkO o) (hq : OkO q) (h : txtO o = txtO q) : o = q := by
  have key : ∀ {o : List (List Nat × Bool)}, OkO o → o ≠ [] → 46 ∈ TL.joinL sep (o.map txtE) := fun {o} ho hne => by
    cases o with
    | nil => exact absurd rfl hne
    | cons e r =>
      refine join_sub (x := txtE e) (by simp) ?_
      have hd := (ho.rf e List.mem_cons_self).dot
      unfold txtE
      split
      · exact hd
      · exact List.mem_append_left _ hd
  unfold txtO at h
  by_cases h1 : o = []
  · by_cases h2 : q = []
    · rw [h1, h2]
    · rw [if_pos h1, if_neg h2] at h
      have := key hq h2
      rw [← h] at this
      exact absurd this (by unfold wNone; decide)
  · by_cases h2 : q = []
    · rw [if_neg h1, if_pos h2] at h
      have := key ho h1
      rw [h] at this
      exact absurd this (by unfold wNone; decide)
    · rw [if_neg h1, if_neg h2] at h
      have nc : ∀ {o : List (List Nat × Bool)}, OkO o → ∀ x ∈ o.map txtE, 44 ∉ x := fun {o} ho x hx => by
        obtain ⟨e, he, rfl⟩ := List.mem_map.mp hx
        intro hc
        rcases txtE_sign (ho.rf e he) 44 hc with q | q | q
        · exact isL_no (by decide) q
        · cases q
        · cases q
      have h3 := join_inj (by simpa using h1) (by simpa using h2) (nc ho) (nc hq) h
      exact map_inj (P := fun e => Rf e.1) (fun a b => txtE_inj) ho.rf hq.rf h3
theorem txtP_inj {e f : List Nat × List Nat × Bool} (he : Rf e.1 ∧ Rf e.2.1) (hf : Rf f.1 ∧ Rf f.2.1) (h : txtP e = txtP f) : e = f := by
  obtain ⟨x, e2⟩ := e
  obtain ⟨y, f2⟩ := f
  have h' : x ++ (32 :: 61 :: 32 :: txtE e2) = y ++ (32 :: 61 :: 32 :: txtE f2) := by simpa [txtP] using h
  obtain ⟨h1, h2⟩ := span (P := fun c => c ≠ 32) (fun c hc e => Rf.no he.1 (c := 32) isL_no (by decide) (e ▸ hc)) (fun c hc e => Rf.no hf.1 (c := 32) isL_no (by decide) (e ▸ hc)) (fun c hc => by cases hc; simp) (fun c hc => by cases hc; simp) h'
  injection h2 with _ h2
  injection h2 with _ h2
  injection h2 with _ h2
  exact Prod.ext h1 (txtE_inj he.2 hf.2 h2)
theorem txtP_sign {e : List Nat × List Nat × Bool} (h : Rf e.1 ∧ Rf e.2.1) : ∀ c ∈ txtP e, c ≠ 44 ∧ c ≠ 59 := by
  intro c hc
  unfold txtP at hc
  rcases List.mem_append.mp hc with q | q
  · rcases List.mem_append.mp q with q | q
    · rcases h.1.sign c q with z | z
      · have := z.1; omega
      · omega
    · simp at q
      omega
  · rcases txtE_sign h.2 c q with z | z | z
    · have := z.1; omega
    · omega
    · omega
theorem txtO_semi {o : List (List Nat × Bool)} (h : OkO o) : ∀ c ∈ txtO o, c ≠ 59 := by
  intro c hc
  unfold txtO at hc
  split at hc
  · revert c; unfold wNone; decide
  · rcases join_mem hc with ⟨x, hx, q⟩ | q | q
    · obtain ⟨e, he, rfl⟩ := List.mem_map.mp hx
      rcases txtE_sign (h.rf e he) c q with z | z | z
      · have := z.1; omega
      · omega
      · omega
    · omega
    · omega
theorem pairs_semi {p : List (List Nat × List Nat × Bool)} (h : ∀ e ∈ p, Rf e.1 ∧ Rf e.2.1) : ∀ c ∈ TL.joinL sep (p.map txtP), c ≠ 59 := by
  intro c hc
  rcases join_mem hc with ⟨x, hx, q⟩ | q | q
  · obtain ⟨e, he, rfl⟩ := List.mem_map.mp hx
    exact (txtP_sign (h e he) c q).2
  · omega
  · omega
theorem span59 {a b r s : List Nat} (ha : ∀ c ∈ a, c ≠ 59) (hb : ∀ c ∈ b, c ≠ 59) (h : a ++ (semi ++ r) = b ++ (semi ++ s)) : a = b ∧ r = s := by
  have h' : a ++ (59 :: 32 :: r) = b ++ (59 :: 32 :: s) := h
  obtain ⟨h1, h2⟩ := span (P := fun c => c ≠ 59) ha hb (fun c hc => by cases hc; simp) (fun c hc => by cases hc; simp) h'
  injection h2 with _ h2
  injection h2 with _ h2
  exact ⟨h1, h2⟩
theorem comma_span {a b r s : List Nat} (ha : lett a) (hb : lett b) (h : a ++ (sep ++ r) = b ++ (sep ++ s)) : a = b ∧ r = s := by
  have h' : a ++ (44 :: 32 :: r) = b ++ (44 :: 32 :: s) := h
  obtain ⟨h1, _, h2⟩ := spanL ha hb isL_no isL_no h'
  injection h2 with _ h2
  exact ⟨h1, h2⟩
theorem wOp_inj {u v : Nat} (hu : u ≤ 2) (hv : v ≤ 2) (h : wOp u = wOp v) : u = v := by
  match u, v, hu, hv, h with
  | 0, 0, _, _, _ => rfl
  | 1, 1, _, _, _ => rfl
  | 2, 2, _, _, _ => rfl
  | 0, 1, _, _, h => exact absurd h (by decide)
  | 0, 2, _, _, h => exact absurd h (by decide)
  | 1, 0, _, _, h => exact absurd h (by decide)
  | 1, 2, _, _, h => exact absurd h (by decide)
  | 2, 0, _, _, h => exact absurd h (by decide)
  | 2, 1, _, _, h => exact absurd h (by decide)
theorem wOp_ne {w : Nat} : wOp w ≠ wHeap ∧ wOp w ≠ wIndex ∧ wOp w ≠ wSort ∧ wOp w ≠ wMerge ∧ wOp w ≠ wSeek := by
  match w with
  | 0 => decide
  | 1 => decide
  | w + 2 => show [102, 105, 114, 115, 116] ≠ wHeap ∧ [102, 105, 114, 115, 116] ≠ wIndex ∧ [102, 105, 114, 115, 116] ≠ wSort ∧ [102, 105, 114, 115, 116] ≠ wMerge ∧ [102, 105, 114, 115, 116] ≠ wSeek; decide
/-- no plan's text is the beginning of another one's -/
theorem txt_inj : ∀ (t u : Tree) (r s : List Nat), Good t → Good u → txt t ++ r = txt u ++ s → t = u ∧ r = s := by
  have start : ∀ {t u : Tree} {r s : List Nat}, txt t ++ r = txt u ++ s → wof t = wof u ∧ body t ++ 41 :: r = body u ++ 41 :: s := fun {t u r s} h => by
    have h' : wof t ++ 40 :: (body t ++ 41 :: r) = wof u ++ 40 :: (body u ++ 41 :: s) := by simpa [txt] using h
    obtain ⟨h1, _, h2⟩ := spanL (lett_word t) (lett_word u) isL_no isL_no h'
    exact ⟨h1, h2⟩
  intro t
  induction t with
  | heap t =>
    intro u r s ht hu h
    obtain ⟨h1, h2⟩ := start h
    cases u with
    | heap v =>
      obtain ⟨h3, _, h4⟩ := spanL (show lett t from Nm.le ht) (show lett v from Nm.le hu) isL_no isL_no h2
      exact ⟨by rw [h3], h4⟩
    | op w a => exact absurd h1.symm wOp_ne.1
    | _ => cases h1
  | index t n =>
    intro u r s ht hu h
    obtain ⟨h1, h2⟩ := start h
    cases u with
    | index v m =>
      have h2' : t ++ (sep ++ (n ++ 41 :: r)) = v ++ (sep ++ (m ++ 41 :: s)) := by simpa [body] using h2
      obtain ⟨h3, h4⟩ := comma_span ht.1.le hu.1.le h2'
      obtain ⟨h5, _, h6⟩ := spanL ht.2.le hu.2.le isL_no isL_no h4
      exact ⟨by rw [h3, h5], h6⟩
    | op w a => exact absurd h1.symm wOp_ne.2.1
    | _ => cases h1
  | sort o a ih =>
    intro u r s ht hu h
    obtain ⟨h1, h2⟩ := start h
    cases u with
    | sort q b =>
      have h2' : txtO o ++ (semi ++ (txt a ++ 41 :: r)) = txtO q ++ (semi ++ (txt b ++ 41 :: s)) := by simpa [body, txt] using h2
      obtain ⟨h3, h4⟩ := span59 (txtO_semi ht.1) (txtO_semi hu.1) h2'
      obtain ⟨h5, h6⟩ := ih b _ _ ht.2 hu.2 h4
      injection h6 with _ h6
      exact ⟨by rw [txtO_inj ht.1 hu.1 h3, h5], h6⟩
    | op w a => exact absurd h1.symm wOp_ne.2.2.1
    | _ => cases h1
  | merge p a b iha ihb =>
    intro u r s ht hu h
    obtain ⟨h1, h2⟩ := start h
    cases u with
    | merge q c d =>
      obtain ⟨hp, hp1, hp2, hga, hgb⟩ := ht
      obtain ⟨hq, hq1, hq2, hgc, hgd⟩ := hu
      have h2' : TL.joinL sep (p.map txtP) ++ (semi ++ (txt a ++ (semi ++ (txt b ++ 41 :: r)))) = TL.joinL sep (q.map txtP) ++ (semi ++ (txt c ++ (semi ++ (txt d ++ 41 :: s)))) := by simpa [body, txt] using h2
      obtain ⟨h3, h4⟩ := span59 (pairs_semi hp) (pairs_semi hq) h2'
      obtain ⟨h5, h6⟩ := iha c _ _ hga hgc h4
      have h6' : txt b ++ 41 :: r = txt d ++ 41 :: s := List.append_cancel_left h6
      obtain ⟨h7, h8⟩ := ihb d _ _ hgb hgd h6'
      injection h8 with _ h8
      have h9 := join_inj (by simpa using hp1) (by simpa using hq1) (fun x hx => by
        obtain ⟨e, he, rfl⟩ := List.mem_map.mp hx
        exact fun z => (txtP_sign (hp e he) 44 z).1 rfl) (fun x hx => by
        obtain ⟨e, he, rfl⟩ := List.mem_map.mp hx
        exact fun z => (txtP_sign (hq e he) 44 z).1 rfl) h3
      have h10 := map_inj (P := fun e : List Nat × List Nat × Bool => Rf e.1 ∧ Rf e.2.1) (fun a b => txtP_inj) hp hq h9
      exact ⟨by rw [h10, h5, h7], h8⟩
    | op w a => exact absurd h1.symm wOp_ne.2.2.2.1
    | _ => cases h1
  | seek a t n k ih =>
    intro u r s ht hu h
    obtain ⟨h1, h2⟩ := start h
    cases u with
    | seek b v m j =>
      obtain ⟨hga, ht1, hn1, hk1, hk2⟩ := ht
      obtain ⟨hgb, hv1, hm1, hj1, hj2⟩ := hu
      have h2' : txt a ++ (semi ++ (t ++ (sep ++ (n ++ (sep ++ (48 + k) :: 41 :: r))))) = txt b ++ (semi ++ (v ++ (sep ++ (m ++ (sep ++ (48 + j) :: 41 :: s))))) := by simpa [body, txt] using h2
      obtain ⟨h3, h4⟩ := ih b _ _ hga hgb h2'
      have h5 := List.append_cancel_left h4
      obtain ⟨h6, h7⟩ := comma_span ht1.le hv1.le h5
      obtain ⟨h8, h9⟩ := comma_span hn1.le hm1.le h7
      injection h9 with h10 h11
      injection h11 with _ h11
      have e : k = j := by omega
      exact ⟨by rw [h3, h6, h8, e], h11⟩
    | op w a => exact absurd h1.symm wOp_ne.2.2.2.2
    | _ => cases h1
  | op w a ih =>
    intro u r s ht hu h
    obtain ⟨h1, h2⟩ := start h
    cases u with
    | op v b =>
      have h2' : txt a ++ 41 :: r = txt b ++ 41 :: s := by simpa [body, txt] using h2
      obtain ⟨h3, h4⟩ := ih b _ _ ht.2 hu.2 h2'
      injection h4 with _ h4
      exact ⟨by rw [wOp_inj ht.1 hu.1 h1, h3], h4⟩
    | heap _ => exact absurd h1 wOp_ne.1
    | index _ _ => exact absurd h1 wOp_ne.2.1
    | sort _ _ => exact absurd h1 wOp_ne.2.2.1
    | merge _ _ _ => exact absurd h1 wOp_ne.2.2.2.1
    | seek _ _ _ _ => exact absurd h1 wOp_ne.2.2.2.2

/-! ### as plain data -/
mutual
def nb : PyData → Bool
  | .bool _ => false
  | .dict _ => false
  | .list xs => nbA xs
  | .tuple xs => nbA xs
  | .none => true
  | .int _ => true
  | .str _ => true
def nbA : List PyData → Bool
  | [] => true
  | x :: xs => nb x && nbA xs
end
mutual
theorem eqv_eq : ∀ (a b : PyData), nb a = true → nb b = true → PyData.eqv a b = true → a = b
  | .none, b, _, hb, h => by cases b <;> first | rfl | (simp [PyData.eqv] at h) | (simp [nb] at hb)
  | .bool _, _, ha, _, _ => by simp [nb] at ha
  | .dict _, _, ha, _, _ => by simp [nb] at ha
  | .int i, b, _, hb, h => by
    cases b <;> first | (simp [nb] at hb; done) | (simp [PyData.eqv] at h; done) | skip
    simp [PyData.eqv] at h
    rw [h]
  | .str i, b, _, hb, h => by
    cases b <;> first | (simp [nb] at hb; done) | (simp [PyData.eqv] at h; done) | skip
    simp [PyData.eqv] at h
    rw [h]
  | .list xs, b, ha, hb, h => by
    cases b <;> first | (simp [PyData.eqv] at h; done) | (simp [nb] at hb; done) | skip
    rename_i ys
    rw [nb] at ha hb
    rw [PyData.eqv] at h
    rw [eqvA_eq xs ys ha hb h]
  | .tuple xs, b, ha, hb, h => by
    cases b <;> first | (simp [PyData.eqv] at h; done) | (simp [nb] at hb; done) | skip
    rename_i ys
    rw [nb] at ha hb
    rw [PyData.eqv] at h
    rw [eqvA_eq xs ys ha hb h]
theorem eqvA_eq : ∀ (a b : List PyData), nbA a = true → nbA b = true → PyData.eqvAll a b = true → a = b
  | [], [], _, _, _ => rfl
  | [], _ :: _, _, _, h => by simp [PyData.eqvAll] at h
  | _ :: _, [], _, _, h => by simp [PyData.eqvAll] at h
  | x :: xs, y :: ys, ha, hb, h => by
    rw [nbA, Bool.and_eq_true] at ha hb
    rw [PyData.eqvAll, Bool.and_eq_true] at h
    rw [eqv_eq x y ha.1 hb.1 h.1, eqvA_eq xs ys ha.2 hb.2 h.2]
end
theorem nbA_all {ds : List PyData} (h : ∀ d ∈ ds, nb d = true) : nbA ds = true := by
  induction ds with
  | nil => rfl
  | cons d ds ih => rw [nbA, h d List.mem_cons_self, ih fun c hc => h c (List.mem_cons_of_mem _ hc)] <;> rfl
abbrev pS (l : List Nat) : PyData := .str (mkS l)
def pyE (e : List Nat × Bool) : PyData := .tuple [pS e.1, pS (dir e.2)]
def pyP (e : List Nat × List Nat × Bool) : PyData := .tuple [pS e.1, pS e.2.1, pS (dir e.2.2)]
def py : Tree → PyData
  | .heap t => .tuple [pS wHeap, pS t]
  | .index t n => .tuple [pS wIndex, pS t, pS n]
  | .sort o a => .tuple [pS wSort, .tuple (o.map pyE), py a]
  | .merge p a b => .tuple [pS wMerge, .tuple (p.map pyP), py a, py b]
  | .seek a t n k => .tuple [pS wSeek, py a, pS t, pS n, .int (k : Int)]
  | .op w a => .tuple [pS (wOp w), py a]
theorem enc_py : ∀ t : Tree, (enc t).py = py t
  | .heap t => by simp [enc, py, D.py, pyA]
  | .index t n => by simp [enc, py, D.py, pyA]
  | .sort o a => by
    have e : (o.map encE).map D.py = o.map pyE := by rw [List.map_map]; exact List.map_congr_left fun x _ => by simp [encE, pyE, D.py, pyA]
    simp [enc, py, D.py, pyA, enc_py a, pyA_map, e]
  | .merge p a b => by
    have e : (p.map encP).map D.py = p.map pyP := by rw [List.map_map]; exact List.map_congr_left fun x _ => by simp [encP, pyP, D.py, pyA]
    simp [enc, py, D.py, pyA, enc_py a, enc_py b, pyA_map, e]
  | .seek a t n k => by simp [enc, py, D.py, pyA, enc_py a]
  | .op w a => by simp [enc, py, D.py, pyA, enc_py a]
theorem enc_plain : ∀ t : Tree, (enc t).plain = true
  | .heap t => by simp [enc, D.plain, plainA]
  | .index t n => by simp [enc, D.plain, plainA]
  | .sort o a => by
    have e : plainA (o.map encE) = true := plainA_all fun d hd => by
      obtain ⟨x, _, rfl⟩ := List.mem_map.mp hd
      simp [encE, D.plain, plainA]
    simp [enc, D.plain, plainA, enc_plain a, e]
  | .merge p a b => by
    have e : plainA (p.map encP) = true := plainA_all fun d hd => by
      obtain ⟨x, _, rfl⟩ := List.mem_map.mp hd
      simp [encP, D.plain, plainA]
    simp [enc, D.plain, plainA, enc_plain a, enc_plain b, e]
  | .seek a t n k => by simp [enc, D.plain, plainA, enc_plain a]
  | .op w a => by simp [enc, D.plain, plainA, enc_plain a]
theorem py_nb : ∀ t : Tree, nb (py t) = true
  | .heap t => by simp [py, nb, nbA]
  | .index t n => by simp [py, nb, nbA]
  | .sort o a => by
    have e : nbA (o.map pyE) = true := nbA_all fun d hd => by
      obtain ⟨x, _, rfl⟩ := List.mem_map.mp hd
      simp [pyE, nb, nbA]
    simp [py, nb, nbA, py_nb a, e]
  | .merge p a b => by
    have e : nbA (p.map pyP) = true := nbA_all fun d hd => by
      obtain ⟨x, _, rfl⟩ := List.mem_map.mp hd
      simp [pyP, nb, nbA]
    simp [py, nb, nbA, py_nb a, py_nb b, e]
  | .seek a t n k => by simp [py, nb, nbA, py_nb a]
  | .op w a => by simp [py, nb, nbA, py_nb a]
theorem pS_inj {a b : List Nat} (h : pS a = pS b) : a = b := by
  injection h with h
  exact mkS_inj h
theorem dir_inj {u v : Bool} (h : dir u = dir v) : u = v := by
  cases u <;> cases v <;> first | rfl | exact absurd h (by decide)
theorem pyE_inj (a b : List Nat × Bool) (h : pyE a = pyE b) : a = b := by
  obtain ⟨x, u⟩ := a
  obtain ⟨y, v⟩ := b
  simp only [pyE, PyData.tuple.injEq, List.cons.injEq, and_true] at h
  rw [pS_inj h.1, dir_inj (pS_inj h.2)]
theorem pyP_inj (a b : List Nat × List Nat × Bool) (h : pyP a = pyP b) : a = b := by
  obtain ⟨x, x', u⟩ := a
  obtain ⟨y, y', v⟩ := b
  simp only [pyP, PyData.tuple.injEq, List.cons.injEq, and_true] at h
  rw [pS_inj h.1, pS_inj h.2.1, dir_inj (pS_inj h.2.2)]
theorem py_inj : ∀ (t u : Tree), Good t → Good u → py t = py u → t = u := by
  have ab : ∀ {w l : List Nat}, w ≠ l → pS w = pS l → False := fun hne h => hne (pS_inj h)
  intro t
  induction t with
  | heap t =>
    intro u _ _ h
    cases u <;> simp only [py, PyData.tuple.injEq, List.cons.injEq, and_true] at h
    · rw [pS_inj h.2]
    · exact (ab (by decide) h.1).elim
    · exact (ab (by decide) h.1).elim
    · exact (ab (by decide) h.1).elim
    · exact (ab (by decide) h.1).elim
    · exact (ab (Ne.symm wOp_ne.1) h.1).elim
  | index t n =>
    intro u _ _ h
    cases u <;> simp only [py, PyData.tuple.injEq, List.cons.injEq, and_true] at h
    · exact (ab (by decide) h.1).elim
    · rw [pS_inj h.2.1, pS_inj h.2.2]
    · exact (ab (by decide) h.1).elim
    · exact (ab (by decide) h.1).elim
    · exact (ab (by decide) h.1).elim
    · exact (ab (Ne.symm wOp_ne.2.1) h.1).elim
  | sort o a ih =>
    intro u ht hu h
    cases u <;> simp only [py, PyData.tuple.injEq, List.cons.injEq, and_true] at h
    · exact (ab (by decide) h.1).elim
    · exact (ab (by decide) h.1).elim
    · rw [map_inj (P := fun _ => True) (fun a b _ _ => pyE_inj a b) (fun _ _ => trivial) (fun _ _ => trivial) h.2.1, ih _ ht.2 hu.2 h.2.2]
    · exact (ab (by decide) h.1).elim
    · exact (ab (by decide) h.1).elim
    · exact (ab (Ne.symm wOp_ne.2.2.1) h.1).elim
  | merge p a b iha ihb =>
    intro u ht hu h
    cases u <;> simp only [py, PyData.tuple.injEq, List.cons.injEq, and_true] at h
    · exact (ab (by decide) h.1).elim
    · exact (ab (by decide) h.1).elim
    · exact (ab (by decide) h.1).elim
    · rw [map_inj (P := fun _ => True) (fun a b _ _ => pyP_inj a b) (fun _ _ => trivial) (fun _ _ => trivial) h.2.1, iha _ ht.2.2.2.1 hu.2.2.2.1 h.2.2.1, ihb _ ht.2.2.2.2 hu.2.2.2.2 h.2.2.2]
    · exact (ab (by decide) h.1).elim
    · exact (ab (Ne.symm wOp_ne.2.2.2.1) h.1).elim
  | seek a t n k ih =>
    intro u ht hu h
    cases u <;> simp only [py, PyData.tuple.injEq, List.cons.injEq, and_true] at h
    · exact (ab (by decide) h.1).elim
    · exact (ab (by decide) h.1).elim
    · exact (ab (by decide) h.1).elim
    · exact (ab (by decide) h.1).elim
    · have e := h.2.2.2.2
      injection e with e
      rw [ih _ ht.1 hu.1 h.2.1, pS_inj h.2.2.1, pS_inj h.2.2.2.1, Int.ofNat.inj e]
    · exact (ab (Ne.symm wOp_ne.2.2.2.2) h.1).elim
  | op w a ih =>
    intro u ht hu h
    cases u <;> simp only [py, PyData.tuple.injEq, List.cons.injEq, and_true] at h
    · exact (ab wOp_ne.1 h.1).elim
    · exact (ab wOp_ne.2.1 h.1).elim
    · exact (ab wOp_ne.2.2.1 h.1).elim
    · exact (ab wOp_ne.2.2.2.1 h.1).elim
    · exact (ab wOp_ne.2.2.2.2 h.1).elim
    · rw [wOp_inj ht.1 hu.1 (pS_inj h.1), ih _ ht.2 hu.2 h.2]
/-! ### weight -/
def wt : Tree → Nat
  | .heap _ => 1
  | .index _ _ => 1
  | .sort _ a => wt a + 1
  | .merge _ a b => wt a + wt b + 1
  | .seek a _ _ _ => wt a + 1
  | .op _ a => wt a + 1

mutual
/-- small plain data -/
def okc : PyData → Bool
  | .none => true
  | .bool _ => true
  | .int i => decide (0 ≤ i ∧ i ≤ 9)
  | .str x => PyData.strOk x
  | .list xs => okcA xs
  | .tuple xs => okcA xs
  | .dict _ => false
def okcA : List PyData → Bool
  | [] => true
  | x :: xs => okc x && okcA xs
end
mutual
def szp : PyData → Nat
  | .none => 4
  | .bool _ => 5
  | .int _ => 1
  | .str x => 10 * x.length + 2
  | .list xs => szA xs + 3
  | .tuple xs => szA xs + 3
  | .dict _ => 0
def szA : List PyData → Nat
  | [] => 0
  | x :: xs => szp x + 2 + szA xs
end
theorem okcA_all {ds : List PyData} (h : ∀ d ∈ ds, okc d = true) : okcA ds = true := by
  induction ds with
  | nil => rfl
  | cons d ds ih => rw [okcA, h d List.mem_cons_self, ih fun c hc => h c (List.mem_cons_of_mem _ hc)] <;> rfl
mutual
theorem okc_lay : ∀ d : PyData, okc d = true → d.canLay0 = true
  | .none, _ => by simp [PyData.canLay0]
  | .bool _, _ => by simp [PyData.canLay0]
  | .int _, _ => by simp [PyData.canLay0]
  | .str x, h => by rw [okc] at h; simpa [PyData.canLay0] using h
  | .list xs, h => by rw [okc] at h; rw [PyData.canLay0]; exact okcA_lay xs h
  | .tuple xs, h => by rw [okc] at h; rw [PyData.canLay0]; exact okcA_lay xs h
  | .dict _, h => by rw [okc] at h; cases h
theorem okcA_lay : ∀ d : List PyData, okcA d = true → PyData.canLayAll0 d = true
  | [], _ => by simp [PyData.canLayAll0]
  | x :: xs, h => by
    rw [okcA, Bool.and_eq_true] at h
    rw [PyData.canLayAll0, okc_lay x h.1, okcA_lay xs h.2] <;> rfl
end
mutual
theorem okc_show : ∀ d : PyData, okc d = true → d.showable = true
  | .none, _ => by simp [PyData.showable]
  | .bool _, _ => by simp [PyData.showable]
  | .int i, h => by
    rw [okc] at h
    have h' := of_decide_eq_true h
    have : i = ((i.toNat : Nat) : Int) := by omega
    have hi : i.toNat < 10 := by omega
    rw [this]
    generalize i.toNat = k at hi
    revert k
    decide +kernel
  | .str x, h => by simp [PyData.showable]
  | .list xs, h => by rw [okc] at h; rw [PyData.showable]; exact okcA_show xs h
  | .tuple xs, h => by rw [okc] at h; rw [PyData.showable]; exact okcA_show xs h
  | .dict _, h => by rw [okc] at h; cases h
theorem okcA_show : ∀ d : List PyData, okcA d = true → PyData.showableAll d = true
  | [], _ => by simp [PyData.showableAll]
  | x :: xs, h => by
    rw [okcA, Bool.and_eq_true] at h
    rw [PyData.showableAll, okc_show x h.1, okcA_show xs h.2] <;> rfl
end
theorem digit_len : ∀ k : Nat, k < 10 → ((toString (k : Int) : String) : Str).length = 1 := by decide +kernel
theorem piled_sum (ts : List Str) : piled ts = (ts.map (·.length)).sum + 2 * ts.length := by
  induction ts with
  | nil => rfl
  | cons x xs ih => rw [piled_cons, ih, List.map_cons, List.sum_cons, List.length_cons]; omega
mutual
theorem okc_len : ∀ d : PyData, okc d = true → d.shown.length ≤ szp d
  | .none, _ => by rw [PyData.shown, szp]; decide +kernel
  | .bool b, _ => by rw [PyData.shown, szp]; cases b <;> decide +kernel
  | .int i, h => by
    rw [okc] at h
    have h' := of_decide_eq_true h
    have : i = ((i.toNat : Nat) : Int) := by omega
    rw [PyData.shown, szp, this]
    exact Nat.le_of_eq (digit_len i.toNat (by omega))
  | .str x, h => by
    rw [okc] at h
    rw [PyData.shown, szp]
    refine StrLaws.reprText_len x fun c hc => ?_
    have h2 := Array.all_eq_true_iff_forall_mem.mp h c (by simpa using hc)
    have := of_decide_eq_true h2
    omega
  | .list xs, h => by
    rw [okc] at h
    rw [PyData.shown, szp]
    have h1 := okcA_len xs h
    have h2 := listText_len_le (PyData.shownAll xs)
    have h3 := piled_sum (PyData.shownAll xs)
    omega
  | .tuple xs, h => by
    rw [okc] at h
    rw [PyData.shown, szp]
    have h1 := okcA_len xs h
    have h2 := fmt_text (PyData.shownAll xs)
    omega
  | .dict _, h => by rw [okc] at h; cases h
theorem okcA_len : ∀ d : List PyData, okcA d = true → piled (PyData.shownAll d) ≤ szA d
  | [], _ => by rw [PyData.shownAll, szA]; exact Nat.le_refl 0
  | x :: xs, h => by
    rw [okcA, Bool.and_eq_true] at h
    have h1 := okc_len x h.1
    have h2 := okcA_len xs h.2
    rw [PyData.shownAll, szA, piled_cons]
    omega
end

theorem strOk_of {l : List Nat} (h : ∀ c ∈ l, c ≤ 122) : PyData.strOk (mkS l) = true := by
  refine Array.all_eq_true_iff_forall_mem.mpr fun c hc => ?_
  have := h c (by simpa using hc)
  exact decide_eq_true (by omega)
theorem Nm.le122 {l : List Nat} (h : Nm l) : ∀ c ∈ l, c ≤ 122 := fun c hc => (h.le c hc).2
theorem Rf.le122 {l : List Nat} (h : Rf l) : ∀ c ∈ l, c ≤ 122 := fun c hc => by
  rcases h.sign c hc with q | q
  · exact q.2
  · omega
theorem dir_le (u : Bool) : ∀ c ∈ dir u, c ≤ 122 := by cases u <;> decide
theorem wof_le (t : Tree) : ∀ c ∈ wof t, c ≤ 122 := fun c hc => (lett_word t c hc).2
theorem okc_str {l : List Nat} (h : ∀ c ∈ l, c ≤ 122) : okc (pS l) = true := by rw [okc]; exact strOk_of h
theorem okc_E {e : List Nat × Bool} (h : Rf e.1) : okc (pyE e) = true := by
  simp only [pyE, okc, okcA, Bool.and_eq_true]
  exact ⟨strOk_of h.le122, strOk_of (dir_le _), trivial⟩
theorem okc_P {e : List Nat × List Nat × Bool} (h : Rf e.1 ∧ Rf e.2.1) : okc (pyP e) = true := by
  simp only [pyP, okc, okcA, Bool.and_eq_true]
  exact ⟨strOk_of h.1.le122, strOk_of h.2.le122, strOk_of (dir_le _), trivial⟩
theorem okc_py : ∀ t : Tree, Good t → okc (py t) = true
  | .heap t, h => by
    simp only [py, okc, okcA, Bool.and_eq_true]
    exact ⟨strOk_of (wof_le (.heap t)), strOk_of (Nm.le122 h), trivial⟩
  | .index t n, h => by
    simp only [py, okc, okcA, Bool.and_eq_true]
    exact ⟨strOk_of (wof_le (.index t n)), strOk_of h.1.le122, strOk_of h.2.le122, trivial⟩
  | .sort o a, h => by
    simp only [py, okc, okcA, Bool.and_eq_true]
    exact ⟨strOk_of (wof_le (.sort o a)), okcA_all (fun d hd => by
      obtain ⟨e, he, rfl⟩ := List.mem_map.mp hd
      exact okc_E (h.1.rf e he)), okc_py a h.2, trivial⟩
  | .merge p a b, h => by
    simp only [py, okc, okcA, Bool.and_eq_true]
    exact ⟨strOk_of (wof_le (.merge p a b)), okcA_all (fun d hd => by
      obtain ⟨e, he, rfl⟩ := List.mem_map.mp hd
      exact okc_P (h.1 e he)), okc_py a h.2.2.2.1, okc_py b h.2.2.2.2, trivial⟩
  | .seek a t n k, h => by
    obtain ⟨h1, h2, h3, h4, h5⟩ := h
    simp only [py, okc, okcA, Bool.and_eq_true]
    exact ⟨strOk_of (wof_le (.seek a t n k)), okc_py a h1, strOk_of h2.le122, strOk_of h3.le122, decide_eq_true (by omega), trivial⟩
  | .op w a, h => by
    simp only [py, okc, okcA, Bool.and_eq_true]
    exact ⟨strOk_of (wof_le (.op w a)), okc_py a h.2, trivial⟩
theorem depthA_le {ds : List PyData} {n : Nat} (h : ∀ d ∈ ds, d.depth ≤ n) : PyData.depthAll ds ≤ n := by
  induction ds with
  | nil => simp [PyData.depthAll]
  | cons d ds ih =>
    rw [PyData.depthAll]
    have := h d List.mem_cons_self
    have := ih fun c hc => h c (List.mem_cons_of_mem _ hc)
    omega
theorem depth_py : ∀ t : Tree, (py t).depth ≤ wt t + 2
  | .heap t => by simp only [py, PyData.depth, PyData.depthAll, wt]; omega
  | .index t n => by simp only [py, PyData.depth, PyData.depthAll, wt]; omega
  | .sort o a => by
    have e : PyData.depthAll (o.map pyE) ≤ 1 := depthA_le fun d hd => by
      obtain ⟨x, _, rfl⟩ := List.mem_map.mp hd
      simp [pyE, PyData.depth, PyData.depthAll]
    have := depth_py a
    simp only [py, PyData.depth, PyData.depthAll, wt]
    omega
  | .merge p a b => by
    have e : PyData.depthAll (p.map pyP) ≤ 1 := depthA_le fun d hd => by
      obtain ⟨x, _, rfl⟩ := List.mem_map.mp hd
      simp [pyP, PyData.depth, PyData.depthAll]
    have := depth_py a
    have := depth_py b
    simp only [py, PyData.depth, PyData.depthAll, wt]
    omega
  | .seek a t n k => by
    have := depth_py a
    simp only [py, PyData.depth, PyData.depthAll, wt]
    omega
  | .op w a => by
    have := depth_py a
    simp only [py, PyData.depth, PyData.depthAll, wt]
    omega
theorem szA_le {ds : List PyData} {n : Nat} (h : ∀ d ∈ ds, szp d ≤ n) : szA ds ≤ (n + 2) * ds.length := by
  induction ds with
  | nil => simp [szA]
  | cons d ds ih =>
    rw [szA, List.length_cons, Nat.mul_succ]
    have := h d List.mem_cons_self
    have := ih fun c hc => h c (List.mem_cons_of_mem _ hc)
    omega
theorem wOp_len (w : Nat) : (wOp w).length ≤ 8 := by
  match w with
  | 0 => decide
  | 1 => decide
  | w + 2 => show [102, 105, 114, 115, 116].length ≤ 8; decide
theorem dir_len (u : Bool) : (dir u).length ≤ 4 := by cases u <;> decide
theorem szE {e : List Nat × Bool} (h : Rf e.1) : szp (pyE e) ≤ 300 := by
  have h1 := h.len
  have h2 := dir_len e.2
  simp only [pyE, szp, szA, len_mkS]
  omega
theorem szP {e : List Nat × List Nat × Bool} (h : Rf e.1 ∧ Rf e.2.1) : szp (pyP e) ≤ 500 := by
  have h1 := h.1.len
  have h1 := h.2.len
  have h2 := dir_len e.2.2
  simp only [pyP, szp, szA, len_mkS]
  omega
theorem size_py : ∀ t : Tree, Good t → szp (py t) ≤ 10000 * wt t
  | .heap t, h => by
    have := Nm.hi h
    have e : wHeap.length = 4 := rfl
    simp only [py, szp, szA, len_mkS, wt, e]
    omega
  | .index t n, h => by
    have := h.1.hi
    have := h.2.hi
    have e : wIndex.length = 5 := rfl
    simp only [py, szp, szA, len_mkS, wt, e]
    omega
  | .sort o a, h => by
    have h1 := size_py a h.2
    have e : wSort.length = 4 := rfl
    have h2 : szA (o.map pyE) ≤ (300 + 2) * (o.map pyE).length := szA_le fun d hd => by
      obtain ⟨x, hx, rfl⟩ := List.mem_map.mp hd
      exact szE (h.1.rf x hx)
    have h3 := h.1.hi
    rw [List.length_map] at h2
    simp only [py, szp, szA, len_mkS, wt, e]
    omega
  | .merge p a b, h => by
    have h1 := size_py a h.2.2.2.1
    have h1' := size_py b h.2.2.2.2
    have e : wMerge.length = 5 := rfl
    have h2 : szA (p.map pyP) ≤ (500 + 2) * (p.map pyP).length := szA_le fun d hd => by
      obtain ⟨x, hx, rfl⟩ := List.mem_map.mp hd
      exact szP (h.1 x hx)
    have h3 := h.2.2.1
    rw [List.length_map] at h2
    simp only [py, szp, szA, len_mkS, wt, e]
    omega
  | .seek a t n k, h => by
    have h1 := size_py a h.1
    have e : wSeek.length = 4 := rfl
    have := h.2.1.hi
    have := h.2.2.1.hi
    simp only [py, szp, szA, len_mkS, wt, e]
    omega
  | .op w a, h => by
    have h1 := size_py a h.2
    have := wOp_len w
    simp only [py, szp, szA, len_mkS, wt]
    omega
theorem join_len : ∀ {xs : List (List Nat)} {n : Nat}, (∀ x ∈ xs, x.length ≤ n) → (TL.joinL sep xs).length ≤ (n + 2) * xs.length
  | [], _, _ => by simp [TL.joinL]
  | [x], n, h => by
    have := h x List.mem_cons_self
    show x.length ≤ (n + 2) * 1
    omega
  | x :: y :: xs, n, h => by
    have h1 := h x List.mem_cons_self
    have h2 := join_len (xs := y :: xs) (n := n) fun z hz => h z (List.mem_cons_of_mem _ hz)
    show (x ++ (sep ++ TL.joinL sep (y :: xs))).length ≤ _
    rw [List.length_append, List.length_append, List.length_cons, Nat.mul_succ]
    have : sep.length = 2 := rfl
    omega
theorem txtE_len {e : List Nat × Bool} (h : Rf e.1) : (txtE e).length ≤ 22 := by
  have := h.len
  unfold txtE
  split
  · omega
  · rw [List.length_append]
    show e.1.length + 5 ≤ 22
    omega
theorem txtP_len {e : List Nat × List Nat × Bool} (h : Rf e.1 ∧ Rf e.2.1) : (txtP e).length ≤ 42 := by
  have := h.1.len
  have := txtE_len h.2
  unfold txtP
  simp only [List.length_append, List.length_cons, List.length_nil]
  omega
theorem txtO_len {o : List (List Nat × Bool)} (h : OkO o) : (txtO o).length ≤ 192 := by
  unfold txtO
  split
  · decide
  · have h1 := join_len (xs := o.map txtE) (n := 22) fun x hx => by
      obtain ⟨e, he, rfl⟩ := List.mem_map.mp hx
      exact txtE_len (h.rf e he)
    have h2 := h.hi
    rw [List.length_map] at h1
    omega
theorem pairs_len {p : List (List Nat × List Nat × Bool)} (h : ∀ e ∈ p, Rf e.1 ∧ Rf e.2.1) (hz : p.length ≤ 8) : (TL.joinL sep (p.map txtP)).length ≤ 352 := by
  have h1 := join_len (xs := p.map txtP) (n := 42) fun x hx => by
    obtain ⟨e, he, rfl⟩ := List.mem_map.mp hx
    exact txtP_len (h e he)
  rw [List.length_map] at h1
  omega
theorem txt_len : ∀ t : Tree, Good t → (txt t).length ≤ 400 * wt t
  | .heap t, h => by
    have := Nm.hi h
    show (wHeap ++ 40 :: (t ++ [41])).length ≤ 400 * 1
    simp only [List.length_append, List.length_cons, List.length_nil, wHeap]
    omega
  | .index t n, h => by
    have := h.1.hi
    have := h.2.hi
    show (wIndex ++ 40 :: ((t ++ (sep ++ n)) ++ [41])).length ≤ 400 * 1
    simp only [List.length_append, List.length_cons, List.length_nil, wIndex, sep]
    omega
  | .sort o a, h => by
    have h1 := txt_len a h.2
    have h2 := txtO_len h.1
    show (wSort ++ 40 :: ((txtO o ++ (semi ++ txt a)) ++ [41])).length ≤ 400 * (wt a + 1)
    simp only [List.length_append, List.length_cons, List.length_nil, wSort, semi] at h1 ⊢
    omega
  | .merge p a b, h => by
    have h1 := txt_len a h.2.2.2.1
    have h1' := txt_len b h.2.2.2.2
    have h2 := pairs_len h.1 h.2.2.1
    show (wMerge ++ 40 :: ((TL.joinL sep (p.map txtP) ++ (semi ++ (txt a ++ (semi ++ txt b)))) ++ [41])).length ≤ 400 * (wt a + wt b + 1)
    simp only [List.length_append, List.length_cons, List.length_nil, wMerge, semi] at h1 h1' ⊢
    omega
  | .seek a t n k, h => by
    have h1 := txt_len a h.1
    have := h.2.1.hi
    have := h.2.2.1.hi
    show (wSeek ++ 40 :: ((txt a ++ (semi ++ (t ++ (sep ++ (n ++ (sep ++ [48 + k])))))) ++ [41])).length ≤ 400 * (wt a + 1)
    simp only [List.length_append, List.length_cons, List.length_nil, wSeek, semi, sep] at h1 ⊢
    omega
  | .op w a, h => by
    have h1 := txt_len a h.2
    have := wOp_len w
    show (wOp w ++ 40 :: (txt a ++ [41])).length ≤ 400 * (wt a + 1)
    simp only [List.length_append, List.length_cons, List.length_nil] at h1 ⊢
    omega
/-- two plans have one text exactly if they are one -/
theorem same_law {t u : Tree} (ht : Good t) (hu : Good u) : decide (V.str (mkS (txt t)) = V.str (mkS (txt u))) = PyData.eqv (py t) (py u) := by
  cases h : PyData.eqv (py t) (py u) with
  | true =>
    have e := py_inj t u ht hu (eqv_eq _ _ (py_nb t) (py_nb u) h)
    rw [e]
    exact decide_eq_true rfl
  | false =>
    refine decide_eq_false fun e => ?_
    injection e with e
    have e2 := (txt_inj t u [] [] ht hu (by rw [mkS_inj e])).1
    rw [e2, SeqAt.eqv_refl _ (okc_lay _ (okc_py u hu))] at h
    cases h
end K96

namespace K96
open PySem PySem.Spec PyProof.Rows L2 Z
def top (i : Nat) : Stmt := PySem.Challenge.pw_pairstruck_k96_plan_texts.main.body.getD i (.Pass ⟨0, 0, 0, 0⟩)
/-- what the top leaves -/
structure Tx (K : PySem.W.Frag) (mg : Str → Option Value) : Prop where
  all : mg "all" = none
  isinstance : mg "isinstance" = none
  str : mg "str" = none
  len : mg "len" = none
  tuple : mg "tuple" = none
  list : mg "list" = none
  enumerate : mg "enumerate" = none
  zip : mg "zip" = none
  range : mg "range" = none
  abs : mg "abs" = none
  max : mg "max" = none
  min : mg "min" = none
  int : mg "int" = none
  divmod : mg "divmod" = none
  repr : mg "repr" = none
  up : ∃ t, mg "UP" = some (.str "up" t)
  down : ∃ t, mg "DOWN" = some (.str "down" t)
  noEntries : ∃ t, mg "NO_ENTRIES" = some (.str "none" t)
  letters : ∃ t, mg "LETTERS" = some (.str "abcdefghijklmnopqrstuvwxyz" t)
  most : ∃ t, mg "MOST_COLUMN_LETTERS" = some (.int 17 t)
  heap : ∃ t, mg "HEAP" = some (.str "heap" t)
  index : ∃ t, mg "INDEX" = some (.str "index" t)
  sort : ∃ t, mg "SORT" = some (.str "sort" t)
  merge : ∃ t, mg "MERGE" = some (.str "merge" t)
  seek : ∃ t, mg "SEEK" = some (.str "seek" t)
  between : ∃ t, mg "BETWEEN" = some (.str ", " t)
theorem s_letters : ("abcdefghijklmnopqrstuvwxyz" : Str).cps.toList = [97, 98, 99, 100, 101, 102, 103, 104, 105, 106, 107, 108, 109, 110, 111, 112, 113, 114, 115, 116, 117, 118, 119, 120, 121, 122] := by decide +kernel
theorem in_letters (c : Nat) : decide (c ∈ ("abcdefghijklmnopqrstuvwxyz" : Str).cps.toList) = decide (97 ≤ c ∧ c ≤ 122) := by
  rw [s_letters]
  by_cases h : 97 ≤ c ∧ c ≤ 122
  · rw [decide_eq_true h]
    have : ∃ k, k < 26 ∧ c = 97 + k := ⟨c - 97, by omega, by omega⟩
    obtain ⟨k, hk, rfl⟩ := this
    revert k
    decide +kernel
  · rw [decide_eq_false h]
    exact decide_eq_false fun hc => h ((show ∀ c ∈ [97, 98, 99, 100, 101, 102, 103, 104, 105, 106, 107, 108, 109, 110, 111, 112, 113, 114, 115, 116, 117, 118, 119, 120, 121, 122], 97 ≤ c ∧ c ≤ 122 by decide) c hc)
section
variable {P : Program} {w : World} {K : PySem.W.Frag} {mg : Str → Option Value} {base : Heap}
/-! ### has_letters_only -/
theorem sc10 : FnScope ["text", "letter"] ["text"] (defScope (top 10)) := ⟨rfl, rfl, rfl, by decide +kernel, rfl, by decide +kernel, by decide +kernel⟩
def gLet : GT := fun S ds R => ∃ l : List Nat, l.length ≤ 1000 ∧ ds = [sL l] ∧ R (.b (l.all fun c => decide (97 ≤ c ∧ c ≤ 122)))
instance : GK gLet := ⟨fun _ h => h⟩
theorem ok_letters (T : Tx K mg) (Dt : DefAt K mg "has_letters_only" (top 10)) : Fnc P w K mg base 1 "has_letters_only" ["text"] gLet := by
  refine fnc_mk Dt sc10 (fun S ds R ⟨l, _, e, _⟩ => by rw [e] <;> rfl) (fun _ _ _ _ _ _ us hl => match us, hl with | [_], _ => rfl) (fun _ _ _ _ _ _ us hl => match us, hl with | [_], _ => rfl) fun f cdv A outer s H E hr S _ ds R g rt O => ?_
  obtain ⟨l, hl, rfl, hR⟩ := g
  refine s_ret O (x_all (bs := l.map fun c => decide (97 ≤ c ∧ c ≤ 122)) rfl (XN.xD (n_lcD (own := [("letter", 1)]) ((l.map fun c => decide (97 ≤ c ∧ c ≤ 122)).map D.b) (by simp) (by simpa using Nat.le_trans hl (by decide)) rfl sc10.nd (blkOk_by (N := ["text", "letter"]) (sc := defScope (top 10)) (by decide +kernel)) (i_str (z := mkS l) (x_var 0 rfl)) fun k d r yd hk => ?_)) T.all) fun d q => ?_
  · obtain ⟨c, hc, rfl⟩ := yd
    have hc' : l[k]? = some c := by simpa using hc
    rw [List.map_map, List.getElem?_map, hc'] at hk
    cases hk
    refine lt_map 1 sc10.nd fun s H0 C cl fp l as => ?_
    exact XE.is (x_inSign (x_var 1 rfl) (x_globS T.letters)) (by rw [in_letters] <;> rfl)
  · subst q
    rw [List.all_map]
    exact hR

/-! ### is_column -/
theorem t_notD {X : Cx} {S : SRel} {Γ : Gm} {a : Expr} {pos : Pos} {b : Bool} (h : XT X S Γ a (· = b)) : XT X S Γ (.UnaryOp .Not a pos) (· = !b) := (t_not h).imp fun c q => by rw [← q, Bool.not_not]
theorem split_rf {t w : List Nat} (ht : Nm t) (hw : Nm w) : Txt.split (mkS (t ++ 46 :: w)) "." = [mkS t, mkS w] := by
  refine TL.map_tl_inj ?_
  have e : TL.tl ("." : Str) = [46] := by decide +kernel
  have hk : ¬ Builtin.Str.strKind (mkS (t ++ 46 :: w)) < Builtin.Str.strKind ("." : Str) := TL.kind_ok (by decide +kernel)
  rw [TL.split_spl _ _ (by rw [e]; simp) hk, e]
  have n1 : 46 ∉ t := fun q => by have := (ht.le _ q).1; omega
  have n2 : 46 ∉ w := fun q => by have := (hw.le _ q).1; omega
  have := TL.spl_join (s := 46) (S := []) (parts := [t, w]) (by simp) (fun p hp => by
    rcases List.mem_cons.mp hp with q | q
    · rw [q]; exact n1
    · rw [List.mem_singleton] at q; rw [q]; exact n2)
  exact this
theorem sc11 : FnScope ["value", "parts", "part"] ["value"] (defScope (top 11)) := ⟨rfl, rfl, rfl, by decide +kernel, rfl, by decide +kernel, by decide +kernel⟩
def gCol : GT := fun S ds R => ∃ l : List Nat, Rf l ∧ ds = [sL l] ∧ R (.b true)
instance : GK gCol := ⟨fun _ h => h⟩
theorem rf_ne {l : List Nat} (h : Rf l) : decide (V.str (mkS l) = V.str "none") = false := decide_eq_false fun e => by
  injection e with e
  have e2 := congrArg TL.tl e
  have e3 : TL.tl ("none" : Str) = wNone := by decide +kernel
  rw [e3] at e2
  have := h.dot
  rw [show l = wNone from e2] at this
  revert this
  decide
theorem nm_ne {l : List Nat} (h : Nm l) : decide (V.str (mkS l) = V.str "") = false := decide_eq_false fun e => by
  injection e with e
  have e2 := congrArg TL.tl e
  have e3 : TL.tl ("" : Str) = [] := by decide +kernel
  rw [e3] at e2
  have := h.lo
  rw [show l = [] from e2] at this
  exact absurd this (by decide)
theorem nm_all {l : List Nat} (h : Nm l) : (l.all fun c => decide (97 ≤ c ∧ c ≤ 122)) = true := List.all_eq_true.mpr fun c hc => decide_eq_true (h.le c hc)
theorem ok_column (T : Tx K mg) (Dt : DefAt K mg "is_column" (top 11)) (F : Fnc P w K mg base 1 "has_letters_only" ["text"] gLet) : Fnc P w K mg base 2 "is_column" ["value"] gCol := by
  refine fnc_mk Dt sc11 (fun S ds R ⟨l, _, e, _⟩ => by rw [e] <;> rfl) (fun _ _ _ _ _ _ us hl => match us, hl with | [_], _ => rfl) (fun _ _ _ _ _ _ us hl => match us, hl with | [_], _ => rfl) fun f cdv A outer s H E hr S _ ds R g rt O => ?_
  obtain ⟨l, hl, rfl, hR⟩ := g
  have hlen := hl.len
  have hlenI : (3 : Int) ≤ ((mkS l).length : Int) ∧ ((mkS l).length : Int) ≤ 17 := by rw [len_mkS]; omega
  refine s_when (P := (· = false)) (t_w (w_or (t_notD (XE.t (x_isi (x_var 0 rfl) (x_bltn (T := "str") T.str (by decide +kernel)) (.str _) (k := true) (by decide +kernel) T.isinstance))) (fun _ => w_or (t_eq (x_var 0 rfl) (x_globS T.noEntries)) (fun _ => w_or1
    (XT.imp (t_notD (t_chainI op_le op_le x_int (x_lenS (x_var 0 rfl) (by rw [len_mkS]; omega) T.len) (x_globI T.most))) fun c q => ?_)) fun q => ?_) fun q => ?_)) (fun q => by cases q) fun _ => ?_
  · rw [q, decide_eq_true (by omega), decide_eq_true (by omega)] <;> rfl
  · rw [rf_ne hl] at q
    cases q
  · cases q
  obtain ⟨t, w, ht, hw, rfl⟩ := hl
  have hsp := split_rf ht hw
  refine s_set 1 sc11.nd (XN.xD (n_split (x_var 0 rfl) x_str (by decide +kernel) (by rw [len_mkS]; omega))) fun d q => ?_
  subst q
  rw [hsp]
  refine s_ret (R := (· = .b true)) O (x_and (c1 := true) (XE.is (x_le (x_lenL (x_var 1 rfl) T.len) x_int) rfl) (fun _ => x_one (x_all (bs := [true, true]) rfl (XN.xD (n_lcD (own := [("part", 2)]) [D.b true, D.b true] (by rfl) (by show 2 ≤ 100000; decide) rfl sc11.nd (blkOk_by (N := ["value", "parts", "part"]) (sc := defScope (top 11)) (by decide +kernel)) (i_list (x_var 1 rfl)) fun k d r yd hk => ?_)) T.all)) fun z => by cases z) fun d q => q ▸ hR
  obtain ⟨l, hl, rfl, rfl⟩ : ∃ l, Nm l ∧ d = sL l ∧ r = D.b true := by
    match k, yd, hk with
    | 0, yd, hk => cases yd; cases hk; exact ⟨t, ht, rfl, rfl⟩
    | 1, yd, hk => cases yd; cases hk; exact ⟨w, hw, rfl, rfl⟩
    | k + 2, yd, hk => cases yd
  refine lt_map 2 sc11.nd fun s H0 C cl fp l0 as => ?_
  exact x_and (c1 := true) (XE.is (x_ne (x_var 2 rfl) x_str) (by rw [nm_ne hl] <;> rfl)) (fun _ => x_one (x_call F (hr.mono (by decide)) (a1 (x_var 2 rfl)) fun ds q => ⟨l, Nat.le_trans hl.hi (by decide), q, by rw [nm_all hl]⟩)) fun z => by cases z
end
end K96

namespace K96
open PySem PySem.Spec PyProof.Rows L2 Z
theorem inV_str {l : List Nat} {ls : List (List Nat)} : inV (.str (mkS l)) (ls.map fun x => .str (mkS x)) = decide (l ∈ ls) := by
  unfold inV
  rw [List.any_map]
  by_cases h : l ∈ ls
  · rw [decide_eq_true h]
    exact List.any_eq_true.mpr ⟨l, h, by simp [eqV]⟩
  · rw [decide_eq_false h]
    refine List.any_eq_false.mpr fun x hx q => h ?_
    have : mkS x = mkS l := by simpa [eqV] using q
    rw [← mkS_inj this]
    exact hx
theorem flat_strs (ls : List (List Nat)) : (ls.map fun x => V.str (mkS x)).all flatV = true := by
  rw [List.all_map]
  exact List.all_eq_true.mpr fun _ _ => rfl
section
variable {P : Program} {w : World} {K : PySem.W.Frag} {mg : Str → Option Value} {base : Heap}
/-! ### is_entry -/
theorem sc12 : FnScope ["value"] ["value"] (defScope (top 12)) := ⟨rfl, rfl, rfl, by decide +kernel, rfl, by decide +kernel, by decide +kernel⟩
def gEnt : GT := fun S ds R => ∃ e : List Nat × Bool, Rf e.1 ∧ ds = [encE e] ∧ R (.b true)
instance : GK gEnt := ⟨fun _ h => h⟩
theorem up_mk : ("up" : Str) = mkS wUp := TL.ext_tl (by decide +kernel)
theorem down_mk : ("down" : Str) = mkS wDown := TL.ext_tl (by decide +kernel)
theorem none_mk : ("none" : Str) = mkS wNone := TL.ext_tl (by decide +kernel)
theorem in_dirs (u : Bool) : inV (.str (mkS (dir u))) [.str "up", .str "down"] = true := by
  rw [up_mk, down_mk]
  have := inV_str (l := dir u) (ls := [wUp, wDown])
  rw [show ([wUp, wDown].map fun x => V.str (mkS x)) = [V.str (mkS wUp), V.str (mkS wDown)] from rfl] at this
  rw [this]
  cases u <;> decide
theorem ok_entry (T : Tx K mg) (Dt : DefAt K mg "is_entry" (top 12)) (F : Fnc P w K mg base 2 "is_column" ["value"] gCol) : Fnc P w K mg base 3 "is_entry" ["value"] gEnt := by
  refine fnc_mk Dt sc12 (fun S ds R ⟨l, _, e, _⟩ => by rw [e] <;> rfl) (fun _ _ _ _ _ _ us hl => match us, hl with | [_], _ => rfl) (fun _ _ _ _ _ _ us hl => match us, hl with | [_], _ => rfl) fun f cdv A outer s H E hr S _ ds R g rt O => ?_
  obtain ⟨e, hl, rfl, hR⟩ := g
  refine s_ret (R := (· = .b true)) O (x_and (c1 := true) (x_isi (x_var 0 rfl) (x_bltn (T := "tuple") T.tuple (by decide +kernel)) (.tup _) (k := true) (by decide +kernel) T.isinstance) (fun _ =>
    x_and (c1 := true) (XE.is (x_eq (x_lenT (x_var 0 rfl) T.len) x_int) rfl) (fun _ =>
    x_and (c1 := true) (x_call F (hr.mono (by decide)) (a1 (x_ixT (x_var 0 rfl) x_int rfl)) fun ds q => ⟨e.1, hl, q, rfl⟩) (fun _ => x_one
      (XE.is (x_in (ys := [.str "up", .str "down"]) (x_ixT (x_var 0 rfl) x_int rfl) (x_tupD (a_consD (x_globS T.up) (a_consD (x_globS T.down) a_nil))) (.inl rfl) rfl) (by rw [in_dirs] <;> rfl)))
      fun z => by cases z) fun z => by cases z) fun z => by cases z) fun d q => q ▸ hR
/-! ### checked_entries -/
theorem sc13 : FnScope ["value", "columns", "position", "entry"] ["value"] (defScope (top 13)) := ⟨rfl, rfl, rfl, by decide +kernel, rfl, by decide +kernel, by decide +kernel⟩
def encO (o : List (List Nat × Bool)) : D := .tup (o.map encE)
def gChk : GT := fun S ds R => ∃ o : List (List Nat × Bool), OkO o ∧ ds = [encO o] ∧ R (encO o)
instance : GK gChk := ⟨fun _ h => h⟩
theorem ok_checked (T : Tx K mg) (Dt : DefAt K mg "checked_entries" (top 13)) (F : Fnc P w K mg base 3 "is_entry" ["value"] gEnt) : Fnc P w K mg base 4 "checked_entries" ["value"] gChk := by
  refine fnc_mk Dt sc13 (fun S ds R ⟨l, _, e, _⟩ => by rw [e] <;> rfl) (fun _ _ _ _ _ _ us hl => match us, hl with | [_], _ => rfl) (fun _ _ _ _ _ _ us hl => match us, hl with | [_], _ => rfl) fun f cdv A outer s H E hr S _ ds R g rt O => ?_
  obtain ⟨o, ho, rfl, hR⟩ := g
  refine s_when (P := (· = false)) (t_notD (XE.t (x_isi2 (x_var 0 rfl) (x_tupD (a_consD (x_bltn (T := "list") T.list (by decide +kernel)) (a_consD (x_bltn (T := "tuple") T.tuple (by decide +kernel)) a_nil))) (.tup _) (k1 := false) (k2 := true) (by decide +kernel) (by decide +kernel) (hm := T.isinstance) (hb := rfl) (hA := a_consD (x_bltn (T := "list") T.list (by decide +kernel)) (a_consD (x_bltn (T := "tuple") T.tuple (by decide +kernel)) a_nil))))) (fun q => by cases q) fun _ => ?_
  refine s_setN 1 sc13.nd n_nil fun l ds q => ?_
  subst q
  refine s_for (Iv := fun k S' Γ' => S' = own K l ((o.take k).map fun e => sL e.1) S ∧ ∃ a b, Γ' = [some (encO o), some (.r l), a, b]) rfl PassesOwn.never (i_enumT (x_var 0 rfl) T.enumerate) ⟨rfl, _, _, rfl⟩ (fun k S' Γ' h => by rw [h.1]; infer_instance) (fun k d B1 S' Γ' hk yd iv => ?_) fun S' Γ' iv => ?_
  · obtain ⟨rfl, g3, g4, rfl⟩ := iv
    obtain ⟨a, b, ea, eb, rfl⟩ := yd
    cases ea
    rw [List.getElem?_map] at eb
    cases he : o[k]? with
    | none => rw [he] at eb; cases eb
    | some e =>
    rw [he] at eb
    cases eb
    refine ⟨_, _, g_tup rfl (gs_cons (g_name 2 sc13.nd) (gs_cons (g_name 3 sc13.nd) gs_nil)), fun nx hnx => ?_⟩
    have hm : e ∈ o := List.mem_of_getElem? he
    have hrf : Rf e.1 := ho.rf e hm
    have hni : e.1 ∉ (o.take k).map (·.1) := by
      intro z
      obtain ⟨c, hc, ec⟩ := List.mem_map.mp z
      obtain ⟨i, hi, ei⟩ := List.mem_iff_getElem.mp hc
      have hkl : k < o.length := (List.getElem?_eq_some_iff.mp he).1
      have hik : i < k := by rw [List.length_take] at hi; omega
      have h2 := List.pairwise_iff_getElem.mp ho.nd i k (by simp; omega) (by simpa using hkl) hik
      refine h2 ?_
      rw [List.getElem_map, List.getElem_map]
      have e1 : o[k] = e := by
        have := List.getElem?_eq_getElem hkl
        rw [he] at this
        exact (Option.some.inj this).symm
      have e2 : o[i]'(by omega) = c := by rw [← ei, List.getElem_take]
      rw [e1, e2]
      exact ec
    refine s_when (P := (· = false)) (t_w (w_or (t_notD (XE.t (x_call F (hr.mono (by decide)) (a1 (x_var 3 rfl)) fun ds q => ⟨e, hrf, q, rfl⟩))) (fun _ => w_or1 (XT.imp (t_inO (ys := ((o.take k).map (·.1)).map fun x => V.str (mkS x)) (S' := fun ds' => keep B1 (own K l ds' S)) ?_ (x_ixT (x_var 3 rfl) x_int rfl) (x_var 1 rfl) (flat_strs _)) fun c q => ?_)) fun q => q)) (fun q => by cases q) fun _ => ?_
    · rw [List.map_map, List.map_map]
      exact inferInstanceAs (Has K l (keep B1 (own K l ((o.take k).map fun e => sL e.1) S)) ((o.take k).map fun e => sL e.1) fun ds' => keep B1 (own K l ds' S))
    · rw [q]
      exact inV_str.trans (decide_eq_false hni)
    refine s_append (S' := fun ds' => keep B1 (own K l ds' S)) (ds := (o.take k).map fun (c : List Nat × Bool) => sL c.1) 1 rfl hasK (by simp; have := ho.hi; omega) (x_ixT (x_var 3 rfl) x_int rfl) fun d q => ?_
    subst q
    refine s_turn hnx ⟨?_, _, _, rfl⟩
    rw [List.take_succ, he, List.map_append] <;> rfl
  · obtain ⟨rfl, g3, g4, rfl⟩ := iv
    exact s_ret O (x_tupT (x_var 0 rfl) T.tuple) fun d q => q ▸ hR
end
end K96

namespace K96
open PySem PySem.Spec PyProof.Rows L2 Z
def inCls : Stmt → List Stmt
  | .ClassDef (body := b) .. => b
  | _ => []
def meth (i : Nat) : Stmt := (inCls (top 15)).getD i (.Pass ⟨0, 0, 0, 0⟩)
/-- what the top leaves of Order -/
structure TxO (K : PySem.W.Frag) (mg : Str → Option Value) (C : Addr) : Prop where
  at_ : mg "Order" = some (.ref C)
  cls : Cls K C
  noE : NoAttr K C "own_entries"
  noC : NoAttr K C "own_columns"
  nIs : PySem.W.kitOne K (.type "tuple") (.ref C) = some false
  init : ∃ (f : Addr) (fd : FuncData) (x : V), Mk K C f ∧ FunD K "__init__" "Order.__init__" (defArgs (meth 0)) (defBody (meth 0)) (defScope (meth 0)) [x] [] f fd
  len : MethAt K C "__len__" "Order.__len__" [] (meth 8)
  str : MethAt K C "__str__" "Order.__str__" [] (meth 11)
def colsO (o : List (List Nat × Bool)) : D := .tup (o.map fun e => sL e.1)
def fsO (o : List (List Nat × Bool)) : List (Str × D) := [("own_entries", encO o), ("own_columns", colsO o)]
theorem cat_mk (ls : List (List Nat)) : catS Str.empty (ls.map mkS) = mkS ls.flatten := TL.ext_tl (by rw [tl_catS, List.map_map]; show [] ++ (ls.map fun l => l).flatten = ls.flatten; rw [List.map_id', List.nil_append])
theorem join_mk (s : List Nat) (ls : List (List Nat)) : Str.join (mkS s) (ls.map mkS) = mkS (TL.joinL s ls) := TL.ext_tl (by rw [TL.tl_join, List.map_map]; show TL.joinL s (ls.map fun l => l) = TL.joinL s ls; rw [List.map_id'])
theorem sum_mk (ls : List (List Nat)) : ((ls.map mkS).map (·.length)).sum = (ls.map List.length).sum := by
  rw [List.map_map]
  exact congrArg List.sum (List.map_congr_left fun l _ => len_mkS l)
section
variable {P : Program} {w : World} {K : PySem.W.Frag} {mg : Str → Option Value} {base : Heap} {C : Addr}
/-! ### entry_text -/
theorem sc14 : FnScope ["entry", "column", "direction"] ["entry"] (defScope (top 14)) := ⟨rfl, rfl, rfl, by decide +kernel, rfl, by decide +kernel, by decide +kernel⟩
def gETx : GT := fun S ds R => ∃ e : List Nat × Bool, Rf e.1 ∧ ds = [encE e] ∧ R (sL (txtE e))
instance : GK gETx := ⟨fun _ h => h⟩
theorem dir_up (u : Bool) : decide (V.str (mkS (dir u)) = V.str "up") = u := by
  rw [up_mk]
  cases u with
  | true => exact decide_eq_true rfl
  | false => exact decide_eq_false fun e => absurd (mkS_inj (by injection e)) (by decide)
theorem dir_down (u : Bool) : decide (V.str (mkS (dir u)) = V.str "down") = !u := by
  rw [down_mk]
  cases u with
  | false => exact decide_eq_true rfl
  | true => exact decide_eq_false fun e => absurd (mkS_inj (by injection e)) (by decide)
theorem s_blank : (" " : Str) = mkS [32] := TL.ext_tl (by decide +kernel)
theorem ok_etext (T : Tx K mg) (Dt : DefAt K mg "entry_text" (top 14)) : Fnc P w K mg base 1 "entry_text" ["entry"] gETx := by
  refine fnc_mk Dt sc14 (fun S ds R ⟨l, _, e, _⟩ => by rw [e] <;> rfl) (fun _ _ _ _ _ _ us hl => match us, hl with | [_], _ => rfl) (fun _ _ _ _ _ _ us hl => match us, hl with | [_], _ => rfl) fun f cdv A outer s H E hr S _ ds R g rt O => ?_
  obtain ⟨e, he, rfl, hR⟩ := g
  refine s_asgD (x_var 0 rfl) (g_tup rfl (gs_cons (g_name 1 sc14.nd) (gs_cons (g_name 2 sc14.nd) gs_nil))) ?_
  have hl := he.len
  refine s_ret (R := (· = sL (txtE e))) O (x_ifE (t_eq (x_var 2 rfl) (x_globS T.up)) (fun q => (x_var 1 rfl).is ?_) fun q => (x_addS (x_addS (x_var 1 rfl) x_str ?_) (x_globS T.down) ?_).is ?_) fun d q => q ▸ hR
  · have q2 := q.symm
    rw [dir_up] at q2
    unfold txtE
    rw [if_pos q2]
  · rw [len_mkS, s_blank, len_mkS]
    show _ + 1 ≤ _
    omega
  · rw [s_blank, mkS_app, len_mkS, down_mk, len_mkS, List.length_append]
    show _ + 1 + 4 ≤ _
    omega
  · have q2 := q.symm
    rw [dir_up] at q2
    unfold txtE
    rw [q2, if_neg (by decide), s_blank, down_mk, mkS_app, mkS_app, List.append_assoc] <;> rfl

/-! ### Order -/
def gIni (K : PySem.W.Frag) (C : Addr) : GM := fun S ds T R => ∃ (l : Addr) (o : List (List Nat × Bool)) (S' : List (Str × D) → SRel), OkO o ∧ OwnI K l C S [] S' ∧ T = S' (fsO o) ∧ ds = [.r l, encO o] ∧ R .non
instance : GMK (gIni K C) := ⟨fun _ ⟨l, o, S', a, b, c, d, e⟩ => ⟨l, o, _, a, b.keep, by rw [c], d, e⟩⟩
theorem scI : FnScope ["self", "entries", "column", "direction"] ["self", "entries"] (defScope (meth 0)) := ⟨rfl, rfl, rfl, by decide +kernel, rfl, by decide +kernel, by decide +kernel⟩
theorem ok_init (T : Tx K mg) (TO : TxO K mg C) (F : Fnc P w K mg base 4 "checked_entries" ["value"] gChk) : Mkr P w K mg base 5 "Order" C ["self", "entries"] (gIni K C) := by
  obtain ⟨f, fd, x, mk, fu⟩ := TO.init
  obtain ⟨ds, hv, hb⟩ := fu.binds1 (ps := ["self", "entries"]) 2 1 (by simp) rfl fun T kV doc pm an cdv ct us its hl hi => by
    match us, hl, its, hi with
    | [a, b], _, [c], _ => exact ⟨_, rfl, rfl⟩
  cases hv
  refine ⟨f, fd, TO.at_, mk, hb, fnm_mk fu scI (fun S ds T R ⟨_, _, _, _, _, _, e, _⟩ => by rw [e] <;> rfl) fun cdv A outer s H E hr S T' _ ds R g rt O => ?_⟩
  obtain ⟨l, o, S', ho, oi, rfl, rfl, hR⟩ := g
  haveI := oi.ok
  refine s_setFld (hh := oi.has) (x_ifE (P := (· = false)) (XE.t (x_isiC (x_var 1 rfl) (x_cls TO.at_) (.tup _) TO.nIs T.isinstance)) (fun q => by cases q) fun _ => x_call F hr (a1 (x_var 1 rfl)) fun ds q => ⟨o, ho, q, rfl⟩) (x_var 0 rfl) TO.cls TO.noE (by decide) fun d q => ?_
  subst q
  refine s_setFld (hh := oi.more _) (x_tupL (XN.xD (n_lcD (own := [("column", 2), ("direction", 3)]) (o.map fun e => sL e.1) (by simp) (by have := ho.hi; simp; omega) rfl scI.nd (blkOk_by (N := ["self", "entries", "column", "direction"]) (sc := defScope (meth 0)) (by decide +kernel)) (i_tup (x_fldO (oi.more _) (x_var 0 rfl) TO.cls TO.noE rfl)) fun k d r yd hk => ?_)) T.tuple) (x_var 0 rfl) TO.cls TO.noC (by show 1 < 1000; decide) fun d q => ?_
  · rw [List.getElem?_map] at yd hk
    cases he : o[k]? with
    | none => rw [he] at hk; cases hk
    | some e =>
    rw [he] at yd hk
    cases yd
    cases hk
    exact lt_g (fun s H0 C cl fp => g_tup rfl (gs_cons (g_name 2 scI.nd) (gs_cons (g_name 3 scI.nd) gs_nil))) fun s H0 C cl fp l as => x_var 2 rfl
  · subst q
    exact s_nil fun σ H ⟨B, sl, st⟩ => O .non B H .non st hR (.v _)
def gLen (C : Addr) : GM := fun S ds T R => ∃ o, OkO o ∧ T = S ∧ ds = [.ins C (fsO o)] ∧ R (.i (o.length : Int))
instance : GMK (gLen C) := ⟨fun _ ⟨o, a, b, c, d⟩ => ⟨o, a, by rw [b], c, d⟩⟩
theorem scL : FnScope ["self"] ["self"] (defScope (meth 8)) := ⟨rfl, rfl, rfl, by decide +kernel, rfl, by decide +kernel, by decide +kernel⟩
theorem ok_len (T : Tx K mg) (TO : TxO K mg C) : Mtd P w K mg base 1 C "__len__" ["self"] (gLen C) := by
  refine mtd_mk TO.len scL (fun S ds T R ⟨_, _, _, e, _⟩ => by rw [e] <;> rfl) (fun _ _ _ _ _ _ us hl => match us, hl with | [_], _ => rfl) fun f cdv A outer s H E hr S T' _ ds R g rt O => ?_
  obtain ⟨o, ho, rfl, rfl, hR⟩ := g
  exact s_ret O (x_lenT (x_fld (x_var 0 rfl) TO.cls TO.noE rfl) T.len) fun d q => by rw [q]; simpa [encO] using hR
def gStr (C : Addr) : GM := fun S ds T R => ∃ o, OkO o ∧ T = S ∧ ds = [.ins C (fsO o)] ∧ R (sL (txtO o))
instance : GMK (gStr C) := ⟨fun _ ⟨o, a, b, c, d⟩ => ⟨o, a, by rw [b], c, d⟩⟩
theorem scS : FnScope ["self", "entry"] ["self"] (defScope (meth 11)) := ⟨rfl, rfl, rfl, by decide +kernel, rfl, by decide +kernel, by decide +kernel⟩
theorem s_sep : (", " : Str) = mkS sep := TL.ext_tl (by decide +kernel)
theorem join_sum {ls : List (List Nat)} {n m : Nat} (h : ∀ l ∈ ls, l.length ≤ n) (hm : ls.length ≤ m) : ((ls.map mkS).map (·.length)).sum + (ls.map mkS).length * (mkS sep).length ≤ (n + 2) * m := by
  rw [sum_mk, len_mkS, List.length_map]
  have : (ls.map List.length).sum + ls.length * 2 ≤ (n + 2) * ls.length := by
    clear hm
    induction ls with
    | nil => simp
    | cons a ls ih =>
      have h1 := h a List.mem_cons_self
      have h2 := ih fun l hl => h l (List.mem_cons_of_mem _ hl)
      simp only [List.map_cons, List.sum_cons, List.length_cons, Nat.mul_add, Nat.add_mul] at h2 ⊢
      omega
  exact Nat.le_trans this (Nat.mul_le_mul_left _ hm)
theorem ok_str (T : Tx K mg) (TO : TxO K mg C) (FL : Mtd P w K mg base 1 C "__len__" ["self"] (gLen C)) (FE : Fnc P w K mg base 1 "entry_text" ["entry"] gETx) : Mtd P w K mg base 3 C "__str__" ["self"] (gStr C) := by
  refine mtd_mk TO.str scS (fun S ds T R ⟨_, _, _, e, _⟩ => by rw [e] <;> rfl) (fun _ _ _ _ _ _ us hl => match us, hl with | [_], _ => rfl) fun f cdv A outer s H E hr S T' _ ds R g rt O => ?_
  obtain ⟨o, ho, rfl, rfl, hR⟩ := g
  have hz := ho.hi
  refine s_when (P := (· = decide (o = []))) (XT.imp (t_eq (x_lenOb FL hr (n := o.length) (by omega) (x_var 0 rfl) ⟨o, ho, rfl, rfl, rfl⟩ T.len) x_int) fun c q => ?_) (fun q => ?_) fun q => ?_
  · rw [q]
    cases o with
    | nil => rfl
    | cons a o =>
      refine (decide_eq_false fun e => ?_).trans (decide_eq_false (by simp)).symm
      have e2 : ((a :: o).length : Int) = 0 := by injection e
      rw [List.length_cons] at e2
      omega
  · refine s_ret O (x_strS (x_globS T.noEntries) T.str) fun d e => ?_
    rw [e, none_mk]
    have h : o = [] := of_decide_eq_true q.symm
    rw [txtO, if_pos h] at hR
    exact hR
  · have h : ¬ o = [] := of_decide_eq_false q.symm
    refine s_ret O (x_join (x := ", ") (ys := (o.map txtE).map mkS) x_str (.inl (XN.xD (n_lcD (own := [("entry", 1)]) (((o.map txtE).map mkS).map .s) (by simp [encO]) (by simp; omega) rfl scS.nd (blkOk_by (N := ["self", "entry"]) (sc := defScope (meth 11)) (by decide +kernel)) (i_tup (x_fld (x_var 0 rfl) TO.cls TO.noE rfl)) fun k d r yd hk => ?_))) ?_) fun d e => ?_
    · rw [List.getElem?_map] at yd
      rw [List.map_map, List.map_map, List.getElem?_map] at hk
      cases he : o[k]? with
      | none => rw [he] at hk; cases hk
      | some e =>
      rw [he] at yd hk
      cases yd
      cases hk
      exact lt_map 1 scS.nd fun s H0 C cl fp l as => x_call FE (hr.mono (by decide)) (a1 (x_var 1 rfl)) fun ds q => ⟨e, ho.rf e (List.mem_of_getElem? he), q, rfl⟩
    · rw [s_sep]
      refine Nat.le_trans (join_sum (n := 22) (m := 8) (fun l hl => ?_) (by simpa using hz)) (by decide)
      obtain ⟨e, he, rfl⟩ := List.mem_map.mp hl
      exact txtE_len (ho.rf e he)
    · rw [e, s_sep, join_mk]
      rw [txtO, if_neg h] at hR
      exact hR
end
end K96

namespace K96
open PySem PySem.Spec PyProof.Rows L2 Z
theorem heap_mk : ("heap" : Str) = mkS wHeap := TL.ext_tl (by decide +kernel)
theorem index_mk : ("index" : Str) = mkS wIndex := TL.ext_tl (by decide +kernel)
theorem sort_mk : ("sort" : Str) = mkS wSort := TL.ext_tl (by decide +kernel)
theorem merge_mk : ("merge" : Str) = mkS wMerge := TL.ext_tl (by decide +kernel)
theorem seek_mk : ("seek" : Str) = mkS wSeek := TL.ext_tl (by decide +kernel)
theorem s_lp : ("(" : Str) = mkS [40] := TL.ext_tl (by decide +kernel)
theorem s_rp : (")" : Str) = mkS [41] := TL.ext_tl (by decide +kernel)
theorem s_semi : ("; " : Str) = mkS semi := TL.ext_tl (by decide +kernel)
theorem s_eq : (" = " : Str) = mkS [32, 61, 32] := TL.ext_tl (by decide +kernel)
theorem eq_mk {l m : List Nat} {s : Str} (h : s = mkS m) : decide (V.str (mkS l) = V.str s) = decide (l = m) := by
  rw [h]
  exact decide_eq_decide.mpr ⟨fun e => mkS_inj (by injection e), fun e => by rw [e]⟩
theorem in_hi (l : List Nat) : inV (.str (mkS l)) [.str "heap", .str "index"] = decide (l ∈ [wHeap, wIndex]) := by
  rw [heap_mk, index_mk]
  exact inV_str (l := l) (ls := [wHeap, wIndex])
theorem toS (k : Nat) (h : 1 ≤ k ∧ k ≤ 3) : ((toString (k : Int) : String) : Str) = mkS [48 + k] := by
  obtain rfl | rfl | rfl : k = 1 ∨ k = 2 ∨ k = 3 := by omega
  · exact TL.ext_tl (by decide +kernel)
  · exact TL.ext_tl (by decide +kernel)
  · exact TL.ext_tl (by decide +kernel)
section
variable {P : Program} {w : World} {K : PySem.W.Frag} {mg : Str → Option Value} {base : Heap} {C : Addr}
/-- a literal sign run -/
theorem x_lit {X : Cx} {S : SRel} {Γ : Gm} {s : Str} {l : List Nat} {j} {pos : Pos} (h : s = mkS l) : XE X S Γ (.Constant (.str s) j pos) (· = .s (mkS l)) := x_str.is (by rw [h])
theorem x_fmtL {X : Cx} {S : SRel} {Γ : Gm} {e : Expr} {l : List Nat} {pos : Pos} (h : XE X S Γ e (· = sL l)) (hz : l.length ≤ 100000) : XE X S Γ (.FormattedValue e (-1) none pos) (· = .s (mkS l)) := x_fmtS h (by rw [len_mkS]; omega)
theorem x_joinK {X : Cx} {S : SRel} [SOk S] {Γ : Gm} {o e : Expr} {apos pos : Pos} {ls : List (List Nat)} (n m : Nat) (h : XE X S Γ o (· = .s ", ")) (g : XE X S Γ e (· = .lst ((ls.map mkS).map .s)) ∨ XE X S Γ e (· = .tup ((ls.map mkS).map .s))) (hb : ∀ l ∈ ls, l.length ≤ n) (hm : ls.length ≤ m) (hz : (n + 2) * m ≤ 1000000)
    (hs : starEach [e] X.env = [(false, eval e X.env)] := by rfl) (hbase : attributeBase o "join" X.env (eval o X.env) = eval o X.env := by rfl) (hline : (apos.endLine == pos.line) = true := by rfl) : XE X S Γ (.Call (.Attribute o "join" apos) [e] [] pos) (· = sL (TL.joinL sep ls)) :=
  (x_join h g (by rw [s_sep]; exact Nat.le_trans (join_sum hb hm) hz) hs hbase hline).is (by rw [s_sep, join_mk])
/-! ### pair_text -/
theorem sc23 : FnScope ["pair", "one", "other", "direction"] ["pair"] (defScope (top 23)) := ⟨rfl, rfl, rfl, by decide +kernel, rfl, by decide +kernel, by decide +kernel⟩
def gPTx : GT := fun S ds R => ∃ e : List Nat × List Nat × Bool, Rf e.1 ∧ Rf e.2.1 ∧ ds = [encP e] ∧ R (sL (txtP e))
instance : GK gPTx := ⟨fun _ h => h⟩
theorem ok_ptext (T : Tx K mg) (Dt : DefAt K mg "pair_text" (top 23)) : Fnc P w K mg base 1 "pair_text" ["pair"] gPTx := by
  refine fnc_mk Dt sc23 (fun S ds R ⟨l, _, _, e, _⟩ => by rw [e] <;> rfl) (fun _ _ _ _ _ _ us hl => match us, hl with | [_], _ => rfl) (fun _ _ _ _ _ _ us hl => match us, hl with | [_], _ => rfl) fun f cdv A outer s H E hr S _ ds R g rt O => ?_
  obtain ⟨e, h1, h2, rfl, hR⟩ := g
  refine s_asgD (x_var 0 rfl) (g_tup rfl (gs_cons (g_name 1 sc23.nd) (gs_cons (g_name 2 sc23.nd) (gs_cons (g_name 3 sc23.nd) gs_nil)))) ?_
  have l1 := h1.len
  have l2 := h2.len
  refine s_ret (R := (· = sL (txtP e))) O (x_ifE (t_eq (x_var 3 rfl) (x_globS T.down))
    (fun q => XE.is (x_fstr (ys := [e.1, [32, 61, 32], e.2.1, [32], wDown].map mkS) (.cons (x_fmtL (x_var 1 rfl) (by omega)) (.cons (x_lit s_eq) (.cons (x_fmtL (x_var 2 rfl) (by omega)) (.cons (x_lit s_blank) (.cons (x_fmtL ((x_globS T.down).is (by rw [down_mk])) (by decide)) .nil))))) ?_) ?_)
    fun q => XE.is (x_fstr (ys := [e.1, [32, 61, 32], e.2.1].map mkS) (.cons (x_fmtL (x_var 1 rfl) (by omega)) (.cons (x_lit s_eq) (.cons (x_fmtL (x_var 2 rfl) (by omega)) .nil))) ?_) ?_) fun d q => q ▸ hR
  · rw [sum_mk]
    simp [wDown]
    omega
  · have q2 : e.2.2 = false := by
      have := q.symm
      rw [dir_down] at this
      simpa using this
    rw [cat_mk]
    unfold txtP txtE
    rw [q2, if_neg (by decide)]
    simp
  · rw [sum_mk]
    simp
    omega
  · have q2 : e.2.2 = true := by
      have := q.symm
      rw [dir_down] at this
      simpa using this
    rw [cat_mk]
    unfold txtP txtE
    rw [q2, if_pos rfl]
    simp

/-! ### plan_text -/
theorem sc24 : FnScope ["plan", "word", "pairs", "pair"] ["plan"] (defScope (top 24)) := ⟨rfl, rfl, rfl, by decide +kernel, rfl, by decide +kernel, by decide +kernel⟩
def gPlan (n : Nat) : GT := fun S ds R => ∃ t : Tree, Good t ∧ wt t ≤ n ∧ ds = [enc t] ∧ R (sL (txt t))
instance {n : Nat} : GK (gPlan n) := ⟨fun _ h => h⟩
theorem wt1 (t : Tree) : 1 ≤ wt t := by cases t <;> (unfold wt; omega)
theorem wof_enc (t : Tree) : ∃ ds, enc t = .tup (sL (wof t) :: ds) := by cases t <;> exact ⟨_, rfl⟩
theorem wof_len (t : Tree) : (wof t).length ≤ 8 := by
  cases t with
  | op w a => exact wOp_len w
  | heap _ => exact (by decide : 4 ≤ 8)
  | index _ _ => exact (by decide : 5 ≤ 8)
  | sort _ _ => exact (by decide : 4 ≤ 8)
  | merge _ _ _ => exact (by decide : 5 ≤ 8)
  | seek _ _ _ _ => exact (by decide : 4 ≤ 8)
theorem ok_plan (T : Tx K mg) (TO : TxO K mg C) (Dt : DefAt K mg "plan_text" (top 24)) (FP : Fnc P w K mg base 1 "pair_text" ["pair"] gPTx) (FI : Mkr P w K mg base 5 "Order" C ["self", "entries"] (gIni K C)) (FS : Mtd P w K mg base 3 C "__str__" ["self"] (gStr C)) :
    ∀ n, n ≤ 100 → Fnc P w K mg base (7 + n) "plan_text" ["plan"] (gPlan n) := by
  intro n
  induction n with
  | zero =>
    intro hn
    refine fnc_mk Dt sc24 (fun S ds R ⟨l, _, _, e, _⟩ => by rw [e] <;> rfl) (fun _ _ _ _ _ _ us hl => match us, hl with | [_], _ => rfl) (fun _ _ _ _ _ _ us hl => match us, hl with | [_], _ => rfl) fun f cdv A outer s H E hr S _ ds R g rt O => ?_
    obtain ⟨t, _, h, _⟩ := g
    have := wt1 t
    omega
  | succ n ih =>
    intro hn
    have ih := ih (by omega)
    refine fnc_mk Dt sc24 (fun S ds R ⟨l, _, _, e, _⟩ => by rw [e] <;> rfl) (fun _ _ _ _ _ _ us hl => match us, hl with | [_], _ => rfl) (fun _ _ _ _ _ _ us hl => match us, hl with | [_], _ => rfl) fun f cdv A outer s H E hr S _ ds R g rt O => ?_
    obtain ⟨t, ht, hw, rfl, hR⟩ := g
    have htx := txt_len t ht
    have hr : Room (7 + n) (A.deeper (envOfC "plan_text" (defScope (top 24)) s.heap.objs.size f cdv)) := hr
    have hr7 := hr.mono (Nat.le_add_right 7 n)
    cases t with
    | heap t =>
      refine s_set (R := (· = sL wHeap)) 1 sc24.nd (x_ixT (x_var 0 rfl) x_int rfl) fun d q => ?_
      subst q
      have h1 := Nm.hi ht
      refine s_when (P := (· = true)) (XT.imp (t_in (ys := [.str "heap", .str "index"]) (x_var 1 rfl) (x_tupD (a_consD (x_globS T.heap) (a_consD (x_globS T.index) a_nil))) (.inl rfl) rfl) fun c q => q.trans ((in_hi _).trans (by decide))) (fun _ => ?_) (fun q => by cases q)
      refine s_ret (R := (· = sL (txt (.heap t)))) O ((x_fstr (ys := [wHeap, [40], TL.joinL sep [t], [41]].map mkS) (.cons (x_fmtL (x_var 1 rfl) (by decide)) (.cons (x_lit s_lp) (.cons (x_fmtL (x_joinK 8 1 (x_globS T.between) (.inr ((x_sliceT (x_var 0 rfl) (o_int x_int) o_none).imp fun d ⟨l, h, q1, q2, q3⟩ => by subst q1 q2; exact q3)) (by simpa using h1) (by simp) (by decide)) (by show t.length ≤ _; omega)) (.cons (x_lit s_rp) .nil)))) ?_).is ?_) fun d q => q ▸ hR
      · rw [sum_mk]; simp [wHeap, TL.joinL]; omega
      · rw [cat_mk]; simp [txt, body.wof, body, TL.joinL]
    | index t u =>
      refine s_set (R := (· = sL wIndex)) 1 sc24.nd (x_ixT (x_var 0 rfl) x_int rfl) fun d q => ?_
      subst q
      have h1 := ht.1.hi
      have h2 := ht.2.hi
      refine s_when (P := (· = true)) (XT.imp (t_in (ys := [.str "heap", .str "index"]) (x_var 1 rfl) (x_tupD (a_consD (x_globS T.heap) (a_consD (x_globS T.index) a_nil))) (.inl rfl) rfl) fun c q => q.trans ((in_hi _).trans (by decide))) (fun _ => ?_) (fun q => by cases q)
      refine s_ret (R := (· = sL (txt (.index t u)))) O ((x_fstr (ys := [wIndex, [40], TL.joinL sep [t, u], [41]].map mkS) (.cons (x_fmtL (x_var 1 rfl) (by decide)) (.cons (x_lit s_lp) (.cons (x_fmtL (x_joinK 8 2 (x_globS T.between) (.inr ((x_sliceT (x_var 0 rfl) (o_int x_int) o_none).imp fun d ⟨l, h, q1, q2, q3⟩ => by subst q1 q2; exact q3)) (by simp; omega) (by simp) (by decide)) (by show (t ++ (sep ++ u)).length ≤ _; simp [sep]; omega)) (.cons (x_lit s_rp) .nil)))) ?_).is ?_) fun d q => q ▸ hR
      · rw [sum_mk]; simp [wIndex, TL.joinL, sep]; omega
      · rw [cat_mk]; simp [txt, body.wof, body, TL.joinL]
    | sort o a =>
      refine s_set (R := (· = sL wSort)) 1 sc24.nd (x_ixT (x_var 0 rfl) x_int rfl) fun d q => ?_
      subst q
      have h1 := txtO_len ht.1
      have h2 := txt_len a ht.2
      have hwa : wt a ≤ n := by unfold wt at hw; omega
      refine s_when (P := (· = false)) (XT.imp (t_in (ys := [.str "heap", .str "index"]) (x_var 1 rfl) (x_tupD (a_consD (x_globS T.heap) (a_consD (x_globS T.index) a_nil))) (.inl rfl) rfl) fun c q => q.trans ((in_hi _).trans (by decide))) (fun q => by cases q) fun _ => ?_
      refine s_when (P := (· = true)) (XT.imp (t_eq (x_var 1 rfl) (x_globS T.sort)) fun c q => q.trans ((eq_mk sort_mk).trans (by decide))) (fun _ => ?_) (fun q => by cases q)
      refine s_ret (R := (· = sL (txt (.sort o a)))) O ((x_fstr (ys := [wSort, [40], txtO o, semi, txt a, [41]].map mkS) (.cons (x_fmtL (x_var 1 rfl) (by decide)) (.cons (x_lit s_lp) (.cons (x_fmtL
        (x_strOb FS (hr7.mono (by decide)) (fs := fsO o) (x_make FI (hr7.mono (by decide)) (a1 (x_ixT (x_var 0 rfl) x_int rfl)) fun ds q => ⟨fsO o, rfl, fun l => ⟨l, o, _, ht.1, .mk0, rfl, by rw [q] <;> rfl, rfl⟩⟩) ⟨o, ht.1, rfl, rfl, rfl⟩ T.str) (by omega))
        (.cons (x_lit s_semi) (.cons (x_fmtL (x_call ih hr (a1 (x_ixT (x_var 0 rfl) x_int rfl)) fun ds q => ⟨a, ht.2, hwa, q, rfl⟩) (by omega)) (.cons (x_lit s_rp) .nil)))))) ?_).is ?_) fun d q => q ▸ hR
      · rw [sum_mk]; simp [wSort, semi, -List.length_append]; omega
      · rw [cat_mk]; simp [txt, body.wof, body] <;> rfl
    | merge p a b =>
      refine s_set (R := (· = sL wMerge)) 1 sc24.nd (x_ixT (x_var 0 rfl) x_int rfl) fun d q => ?_
      subst q
      obtain ⟨hp, hne, hl8, ha, hb⟩ := ht
      have h1 := pairs_len hp hl8
      have h2 := txt_len a ha
      have h3 := txt_len b hb
      have hwab : wt a + wt b ≤ n := by unfold wt at hw; omega
      refine s_when (P := (· = false)) (XT.imp (t_in (ys := [.str "heap", .str "index"]) (x_var 1 rfl) (x_tupD (a_consD (x_globS T.heap) (a_consD (x_globS T.index) a_nil))) (.inl rfl) rfl) fun c q => q.trans ((in_hi _).trans (by decide))) (fun q => by cases q) fun _ => ?_
      refine s_when (P := (· = false)) (XT.imp (t_eq (x_var 1 rfl) (x_globS T.sort)) fun c q => q.trans ((eq_mk sort_mk).trans (by decide))) (fun q => by cases q) fun _ => ?_
      refine s_when (P := (· = true)) (XT.imp (t_eq (x_var 1 rfl) (x_globS T.merge)) fun c q => q.trans ((eq_mk merge_mk).trans (by decide))) (fun _ => ?_) (fun q => by cases q)
      refine s_set (R := (· = sL (TL.joinL sep (p.map txtP)))) 2 sc24.nd (x_joinK 42 8 (x_globS T.between) (.inl (XN.xD (n_lcD (own := [("pair", 3)]) (((p.map txtP).map mkS).map .s) (by simp) (by simp; omega) rfl sc24.nd (blkOk_by (N := ["plan", "word", "pairs", "pair"]) (sc := defScope (top 24)) (by decide +kernel)) (i_tup (ds := p.map encP) (x_ixT (x_var 0 rfl) x_int rfl)) fun k d r yd hk => ?_))) (fun l hl => ?_) (by simpa using hl8) (by decide)) fun d q => ?_
      · rw [List.getElem?_map] at yd
        rw [List.map_map, List.map_map, List.getElem?_map] at hk
        cases he : p[k]? with
        | none => rw [he] at hk; cases hk
        | some e =>
        rw [he] at yd hk
        cases yd
        cases hk
        have hm := hp e (List.mem_of_getElem? he)
        exact lt_map 3 sc24.nd fun s H0 C cl fp l as => x_call FP (hr7.mono (by decide)) (a1 (x_var 3 rfl)) fun ds q => ⟨e, hm.1, hm.2, q, rfl⟩
      · obtain ⟨e, he, rfl⟩ := List.mem_map.mp hl
        exact txtP_len (hp e he)
      subst q
      refine s_ret (R := (· = sL (txt (.merge p a b)))) O ((x_fstr (ys := [wMerge, [40], TL.joinL sep (p.map txtP), semi, txt a, semi, txt b, [41]].map mkS) (.cons (x_fmtL (x_var 1 rfl) (by decide)) (.cons (x_lit s_lp) (.cons (x_fmtL (x_var 2 rfl) (by omega))
        (.cons (x_lit s_semi) (.cons (x_fmtL (x_call ih hr (a1 (x_ixT (x_var 0 rfl) x_int rfl)) fun ds q => ⟨a, ha, by omega, q, rfl⟩) (by omega)) (.cons (x_lit s_semi) (.cons (x_fmtL (x_call ih hr (a1 (x_ixT (x_var 0 rfl) x_int rfl)) fun ds q => ⟨b, hb, by omega, q, rfl⟩) (by omega)) (.cons (x_lit s_rp) .nil)))))))) ?_).is ?_) fun d q => q ▸ hR
      · rw [sum_mk]; simp [wMerge, semi, -List.length_append]; omega
      · rw [cat_mk]; simp [txt, body.wof, body] <;> rfl
    | seek a t u k =>
      refine s_set (R := (· = sL wSeek)) 1 sc24.nd (x_ixT (x_var 0 rfl) x_int rfl) fun d q => ?_
      subst q
      obtain ⟨ha, h3, h4, hk⟩ := ht
      have l3 := h3.hi
      have l4 := h4.hi
      have h2 := txt_len a ha
      have hwa : wt a ≤ n := by unfold wt at hw; omega
      refine s_when (P := (· = false)) (XT.imp (t_in (ys := [.str "heap", .str "index"]) (x_var 1 rfl) (x_tupD (a_consD (x_globS T.heap) (a_consD (x_globS T.index) a_nil))) (.inl rfl) rfl) fun c q => q.trans ((in_hi _).trans (by decide))) (fun q => by cases q) fun _ => ?_
      refine s_when (P := (· = false)) (XT.imp (t_eq (x_var 1 rfl) (x_globS T.sort)) fun c q => q.trans ((eq_mk sort_mk).trans (by decide))) (fun q => by cases q) fun _ => ?_
      refine s_when (P := (· = false)) (XT.imp (t_eq (x_var 1 rfl) (x_globS T.merge)) fun c q => q.trans ((eq_mk merge_mk).trans (by decide))) (fun q => by cases q) fun _ => ?_
      refine s_when (P := (· = true)) (XT.imp (t_eq (x_var 1 rfl) (x_globS T.seek)) fun c q => q.trans ((eq_mk seek_mk).trans (by decide))) (fun _ => ?_) (fun q => by cases q)
      refine s_ret (R := (· = sL (txt (.seek a t u k)))) O ((x_fstr (ys := [wSeek, [40], txt a, semi, t, sep, u, sep, [48 + k], [41]].map mkS) (.cons (x_fmtL (x_var 1 rfl) (by decide)) (.cons (x_lit s_lp)
        (.cons (x_fmtL (x_call ih hr (a1 (x_ixT (x_var 0 rfl) x_int rfl)) fun ds q => ⟨a, ha, hwa, q, rfl⟩) (by omega)) (.cons (x_lit s_semi) (.cons (x_fmtL (x_ixT (x_var 0 rfl) x_int rfl) (by omega)) (.cons (x_lit s_sep) (.cons (x_fmtL (x_ixT (x_var 0 rfl) x_int rfl) (by omega)) (.cons (x_lit s_sep)
        (.cons ((x_fmtI (n := (k : Int)) (x_ixT (x_var 0 rfl) x_int rfl) ?_).is (by rw [toS k hk])) (.cons (x_lit s_rp) .nil)))))))))) ?_).is ?_) fun d q => q ▸ hR
      · obtain rfl | rfl | rfl : k = 1 ∨ k = 2 ∨ k = 3 := by omega
        all_goals decide
      · rw [sum_mk]; simp [wSeek, semi, sep, -List.length_append]; omega
      · rw [cat_mk]; simp [txt, body.wof, body] <;> rfl
    | op v a =>
      refine s_set (R := (· = sL (wOp v))) 1 sc24.nd (x_ixT (x_var 0 rfl) x_int rfl) fun d q => ?_
      subst q
      have h2 := txt_len a ht.2
      have hv := wOp_len v
      obtain ⟨n1, n2, n3, n4, n5⟩ := wOp_ne (w := v)
      have hwa : wt a ≤ n := by unfold wt at hw; omega
      refine s_when (P := (· = false)) (XT.imp (t_in (ys := [.str "heap", .str "index"]) (x_var 1 rfl) (x_tupD (a_consD (x_globS T.heap) (a_consD (x_globS T.index) a_nil))) (.inl rfl) rfl) fun c q => q.trans ((in_hi _).trans (decide_eq_false (by simp [n1, n2])))) (fun q => by cases q) fun _ => ?_
      refine s_when (P := (· = false)) (XT.imp (t_eq (x_var 1 rfl) (x_globS T.sort)) fun c q => q.trans ((eq_mk sort_mk).trans (decide_eq_false n3))) (fun q => by cases q) fun _ => ?_
      refine s_when (P := (· = false)) (XT.imp (t_eq (x_var 1 rfl) (x_globS T.merge)) fun c q => q.trans ((eq_mk merge_mk).trans (decide_eq_false n4))) (fun q => by cases q) fun _ => ?_
      refine s_when (P := (· = false)) (XT.imp (t_eq (x_var 1 rfl) (x_globS T.seek)) fun c q => q.trans ((eq_mk seek_mk).trans (decide_eq_false n5))) (fun q => by cases q) fun _ => ?_
      refine s_ret (R := (· = sL (txt (.op v a)))) O ((x_fstr (ys := [wOp v, [40], txt a, [41]].map mkS) (.cons (x_fmtL (x_var 1 rfl) (by omega)) (.cons (x_lit s_lp)
        (.cons (x_fmtL (x_call ih hr (a1 (x_ixT (x_var 0 rfl) x_int rfl)) fun ds q => ⟨a, ht.2, hwa, q, rfl⟩) (by omega)) (.cons (x_lit s_rp) .nil)))) ?_).is ?_) fun d q => q ▸ hR
      · rw [sum_mk]; simp [-List.length_append]; omega
      · rw [cat_mk]; simp [txt, body.wof, body] <;> rfl
end
end K96

namespace K96
open PySem PySem.Spec PyProof.Rows L2 Z
section
variable {P : Program} {w : World} {K : PySem.W.Frag} {mg : Str → Option Value} {base : Heap} {C : Addr}
/-! ### _law_pot -/
theorem sc26 : FnScope ["script", "k", "cell"] ["script", "k"] (defScope (top 26)) := ⟨rfl, rfl, rfl, by decide +kernel, rfl, by decide +kernel, by decide +kernel⟩
def gPot : GN := fun S ds R => ∃ (ns : List Int) (k : Nat), k ≤ 100 ∧ ns.length ≤ 100000 ∧ ds = [.lst (ns.map .i), .i (k : Int)] ∧ ∀ m n : Int, PotOk m n → R [.i m, .i n]
instance : GNK gPot := ⟨fun _ h => h⟩
theorem atI_nat {α : Type} {xs : List α} (k : Nat) : atI xs (k : Int) = xs[k]? := by
  unfold atI ixN
  rw [if_pos (by omega)]
  by_cases h : k < xs.length
  · rw [if_pos (by omega)] <;> rfl
  · rw [if_neg (by omega), List.getElem?_eq_none (by omega)] <;> rfl
theorem absI (c : Int) : (if c < 0 then -c else c) = (c.natAbs : Int) := by
  split <;> omega
theorem ok_pot (T : Tx K mg) (Dt : DefAt K mg "_law_pot" (top 26)) : FncN P w K mg base 1 "_law_pot" ["script", "k"] gPot := by
  refine fncN_mk Dt sc26 (fun S ds R ⟨_, _, _, _, e, _⟩ => by rw [e] <;> rfl) (fun _ _ _ _ _ _ us hl => match us, hl with | [_, _], _ => rfl) fun f cdv A outer s H E hr S _ ds R g rt O => ?_
  obtain ⟨ns, k, hk, hz, rfl, hR⟩ := g
  have fin : ∀ c : Int, XS (dX P w K mg base ["script", "k", "cell"] "_law_pot" (defScope (top 26)) f cdv A outer s H E) S [some (.lst (ns.map .i)), some (.i (k : Int)), some (.i c)] ((defBody (top 26)).drop 2) ⟨fun _ _ => False, rt, fun _ _ => False, fun _ _ => False⟩ := by
    intro c
    have hm1 : 0 < ((k : Int) + 3) ^ 3 := Int.pow_pos (by omega)
    have hm2 : ((k : Int) + 3) ^ 3 ≤ 103 ^ 3 := by
      have h1 : (k + 3) ^ 3 ≤ 103 ^ 3 := Nat.pow_le_pow_left (by omega) 3
      have h2 : (((k + 3) ^ 3 : Nat) : Int) ≤ ((103 ^ 3 : Nat) : Int) := Int.ofNat_le.mpr h1
      simpa using h2
    refine s_retNew O (n_lst (a_consD (x_max2 rfl x_int (x_subI (x_abs (x_var 2 rfl) T.abs) (x_powI x_int x_int ⟨by decide, by decide, by decide⟩)) T.max) (a_consD (x_addI (x_modI (x_intI (x_mulI (x_addI (x_modI (x_intI (x_abs (x_var 2 rfl) T.abs) T.int) x_int (by decide)) x_int) (x_powI (x_addI (x_var 1 rfl) x_int) x_int ⟨by decide, by decide, ?_⟩) ?_) T.int) x_int (by decide)) x_int) a_nil)) fun ds q => by rw [q]; show 2 ≤ 1000; decide) fun ds q => ?_
    · omega
    · exact .inr ⟨Int.lt_of_lt_of_le (by decide) (Int.le_of_lt hm1), Int.lt_of_le_of_lt hm2 (by decide)⟩
    · rw [q]
      refine hR _ _ ⟨?_, ?_, ?_⟩
      · split <;> omega
      · have := Int.emod_nonneg (((if c < 0 then -c else c) % 2147483579 + 1) * ((k : Int) + 3) ^ Int.toNat 3) (b := 2147483563) (by decide)
        omega
      · have := Int.emod_lt_of_pos (((if c < 0 then -c else c) % 2147483579 + 1) * ((k : Int) + 3) ^ Int.toNat 3) (b := 2147483563) (by decide)
        omega
  refine s_set (R := (· = .i (7 * (k : Int) + 3))) 2 sc26.nd (x_addI (x_mulI x_int (x_var 1 rfl) (.inl ⟨by decide, by decide⟩)) x_int) fun d q => ?_
  subst q
  refine s_when (P := (· = decide ((k : Int) < ((ns.map D.i).length : Int)))) (t_lt (x_var 1 rfl) (x_lenL (x_var 0 rfl) T.len)) (fun q => ?_) fun _ => fin _
  have hlt : k < ns.length := by
    have := of_decide_eq_true q.symm
    rw [List.length_map] at this
    omega
  obtain ⟨c, hc⟩ : ∃ c, ns[k]? = some c := ⟨_, List.getElem?_eq_getElem hlt⟩
  have hix : atI (ns.map D.i) (k : Int) = some (.i c) := by rw [atI_nat, List.getElem?_map, hc] <;> rfl
  refine s_set (R := (· = .i c)) 2 sc26.nd (x_ixL (x_var 0 rfl) (x_var 1 rfl) hix) fun d q => ?_
  subst q
  exact s_on (nx := fun _ _ => False) (fin c)
/-! ### _law_draw -/
theorem sc27 : FnScope ["pot", "many", "digit"] ["pot", "many"] (defScope (top 27)) := ⟨rfl, rfl, rfl, by decide +kernel, rfl, by decide +kernel, by decide +kernel⟩
def gDraw (K : PySem.W.Frag) : GT := fun S ds R => ∃ (pot : Addr) (many : Int), 0 < many ∧ many < 1073741824 ∧ PotIn K pot S ∧ ds = [.r pot, .i many] ∧ ∀ d : Int, 0 ≤ d → d < many → R (.i d)
instance : GK (gDraw K) := ⟨fun _ ⟨pot, many, a, b, c, d, e⟩ => ⟨pot, many, a, b, inferInstance, d, e⟩⟩
theorem ok_draw (T : Tx K mg) (Dt : DefAt K mg "_law_draw" (top 27)) : Fnc P w K mg base 1 "_law_draw" ["pot", "many"] (gDraw K) := by
  refine fnc_mk Dt sc27 (fun S ds R ⟨_, _, _, _, _, e, _⟩ => by rw [e] <;> rfl) (fun _ _ _ _ _ _ us hl => match us, hl with | [_, _], _ => rfl) (fun _ _ _ _ _ _ us hl => match us, hl with | [_, _], _ => rfl) fun f cdv A outer s H E hr S _ ds R g rt O => ?_
  obtain ⟨pot, many, h0, h1, hp, rfl, hR⟩ := g
  refine s_look (pot := pot) (hp := hp) fun m n hok => ?_
  refine s_when (P := (· = decide (0 < m))) (t_gt (x_pot (hp := hp) (x_var 0 rfl) x_int rfl) x_int) (fun q => ?_) fun _ => ?_
  · have hm : 0 < m := of_decide_eq_true q.symm
    refine s_pot0 (hp := hp) rfl sc27.nd 0 2 rfl (x_divmod (x_pot (hp := hp) (x_var 0 rfl) x_int rfl) (x_var 1 rfl) ⟨h0, h1⟩ T.divmod) (Int.ediv_nonneg (Int.le_of_lt hm) (Int.le_of_lt h0)) ?_
    exact s_ret O (x_var 2 rfl) fun d q => q ▸ hR _ (Int.emod_nonneg _ (by omega)) (Int.emod_lt_of_pos _ h0)
  · obtain ⟨k1, k2, k3⟩ := hok
    refine s_pot1 (hp := hp) ⟨k1, k2, k3⟩ 0 rfl (x_modI (x_intI (x_addI (x_mulI (x_pot (hp := hp) (x_var 0 rfl) x_int rfl) x_int (.inr ⟨by decide, by decide⟩)) x_int) T.int) x_int (by decide)) ⟨Int.emod_nonneg _ (by decide), Int.emod_lt_of_pos _ (by decide)⟩ ?_
    have e1 : 0 ≤ (n * 48283 + 10007) % 2147483587 := Int.emod_nonneg _ (by decide)
    have e2 : (n * 48283 + 10007) % 2147483587 < 2147483587 := Int.emod_lt_of_pos _ (by decide)
    exact s_ret O (x_modI (x_divI (x_modI (x_intI (x_mulI (x_pot (hp := hp) (x_var 0 rfl) x_int rfl) (x_pot (hp := hp) (x_var 0 rfl) x_int rfl) (.inl ⟨by omega, by omega⟩)) T.int) x_int (by decide)) x_int ⟨by decide, by decide⟩) (x_var 1 rfl) h0) fun d q => q ▸ hR _ (Int.emod_nonneg _ (by omega)) (Int.emod_lt_of_pos _ h0)
/-! ### _law_choice -/
theorem sc28 : FnScope ["pot", "options"] ["pot", "options"] (defScope (top 28)) := ⟨rfl, rfl, rfl, by decide +kernel, rfl, by decide +kernel, by decide +kernel⟩
def gChoice (K : PySem.W.Frag) : GT := fun S ds R => ∃ (pot : Addr) (es : List D), es ≠ [] ∧ es.length ≤ 1000 ∧ PotIn K pot S ∧ ds = [.r pot, .lst es] ∧ ∀ d ∈ es, R d
instance : GK (gChoice K) := ⟨fun _ ⟨pot, many, a, b, c, d, e⟩ => ⟨pot, many, a, b, inferInstance, d, e⟩⟩
theorem ok_choice (T : Tx K mg) (Dt : DefAt K mg "_law_choice" (top 28)) (F : Fnc P w K mg base 1 "_law_draw" ["pot", "many"] (gDraw K)) : Fnc P w K mg base 2 "_law_choice" ["pot", "options"] (gChoice K) := by
  refine fnc_mk Dt sc28 (fun S ds R ⟨_, _, _, _, _, e, _⟩ => by rw [e] <;> rfl) (fun _ _ _ _ _ _ us hl => match us, hl with | [_, _], _ => rfl) (fun _ _ _ _ _ _ us hl => match us, hl with | [_, _], _ => rfl) fun f cdv A outer s H E hr S _ ds R g rt O => ?_
  obtain ⟨pot, es, h0, h1, hp, rfl, hR⟩ := g
  have hl : 0 < es.length := List.length_pos_iff.mpr h0
  refine s_ret (R := R) O (x_ixLn (x_var 1 rfl) (x_call (R := fun d => ∃ i : Int, d = .i i ∧ 0 ≤ i ∧ i < es.length) F hr (a2 (x_var 0 rfl) (x_lenL (x_var 1 rfl) T.len)) fun ds q => ⟨pot, _, by omega, by omega, hp, q, fun d a b => ⟨d, rfl, a, b⟩⟩) fun d ⟨i, e, a, b⟩ => ?_) fun d q => q
  obtain ⟨c, h2, h3⟩ := atI_of (xs := es) a b
  exact ⟨i, c, e, h2, hR c h3⟩
end
end K96

namespace K96
open PySem PySem.Spec PyProof.Rows L2 Z
/-! ### lists of names -/
theorem join_signs : ∀ l : List Nat, TL.joinL [] (l.map fun c => [c]) = l
  | [] => rfl
  | [_] => rfl
  | a :: b :: l => by
    have h := join_signs (b :: l)
    show [a] ++ ([] ++ TL.joinL [] ((b :: l).map fun c => [c])) = _
    rw [h] <;> rfl
theorem reps_list (c : Array Nat) : ∀ (k : Nat) (acc : Array Nat), ((List.replicate k c).foldl (· ++ ·) acc).toList = acc.toList ++ (List.replicate k c.toList).flatten
  | 0, acc => by simp
  | k + 1, acc => by
    rw [List.replicate_succ, List.foldl_cons, reps_list c k]
    simp [List.replicate_succ]
theorem mul_sign {x : Str} {n : Int} {c : Nat} (h : c ∈ TL.tl (Txt.mul x n)) : c ∈ TL.tl x := by
  unfold Txt.mul at h
  split at h
  · exact absurd h (by simp [TL.tl, Str.empty])
  · split at h
    · exact h
    · have e : TL.tl (⟨(List.replicate n.toNat x.cps).foldl (· ++ ·) #[]⟩ : Str) = (List.replicate n.toNat x.cps.toList).flatten := (reps_list x.cps n.toNat #[]).trans (by simp)
      rw [e] at h
      obtain ⟨l, hl, hc⟩ := List.mem_flatten.mp h
      rw [(List.mem_replicate.mp hl).2] at hc
      exact hc
theorem sub_len {α : Type} [DecidableEq α] : ∀ {xs ys : List α}, xs.Nodup → (∀ x ∈ xs, x ∈ ys) → xs.length ≤ ys.length
  | [], _, _, _ => Nat.zero_le _
  | x :: xs, ys, nd, h => by
    have h1 := h x List.mem_cons_self
    obtain ⟨n1, n2⟩ := List.nodup_cons.mp nd
    have := sub_len (ys := ys.erase x) n2 fun y hy => (List.mem_erase_of_ne (fun e => n1 (by rw [← e]; exact hy))).mpr (h y (List.mem_cons_of_mem _ hy))
    rw [List.length_erase_of_mem h1] at this
    have hp : 0 < ys.length := List.length_pos_of_mem h1
    rw [List.length_cons]
    omega
def abc : List Nat := [97, 98, 99, 100, 101, 102, 103, 104, 105, 106, 107, 108, 109, 110, 111, 112, 113, 114, 115, 116, 117, 118, 119, 120, 121, 122]
theorem abc_nd : (abc.map fun c => [c]).Nodup := by decide
theorem abc_le : ∀ c ∈ abc, 97 ≤ c ∧ c ≤ 122 := by decide
theorem abc_mk : ("abcdefghijklmnopqrstuvwxyz" : Str) = mkS abc := TL.ext_tl (by decide +kernel)
theorem free_letter {names : List (List Nat)} (h : names.length ≤ 25) : ∃ c ∈ abc, [c] ∉ names := by
  apply Classical.byContradiction
  intro hn
  have : (abc.map fun c => [c]).length ≤ names.length := sub_len abc_nd fun x hx => by
    obtain ⟨c, hc, rfl⟩ := List.mem_map.mp hx
    exact Classical.byContradiction fun z => hn ⟨c, hc, z⟩
  have e : (abc.map fun c => [c]).length = 26 := rfl
  omega
theorem nm_one {c : Nat} (h : c ∈ abc) : Nm [c] := ⟨fun x hx => by rw [List.mem_singleton.mp hx]; exact abc_le c h, by simp, by simp⟩
theorem atI_last {α : Type} {xs : List α} {x : α} : atI (xs ++ [x]) (-1) = some x := by
  unfold atI ixN
  simp
  rw [if_pos (by omega), show (-1 + ((xs.length : Int) + 1)).toNat = xs.length by omega]
  simp
/-- rows of signs drawn one by one -/
def Drawn (ds : List D) (k : Nat) : Prop := ∃ l : List Nat, lett l ∧ l.length = k ∧ ds = l.map fun c => sL [c]
theorem names_plain (names : List (List Nat)) : (D.lst (names.map sL)).plain = true := by
  show plainA (names.map sL) = true
  exact plainA_all fun d hd => by obtain ⟨l, _, rfl⟩ := List.mem_map.mp hd; rfl
theorem names_py (names : List (List Nat)) : (D.lst (names.map sL)).py = .list (names.map pS) := by
  show PyData.list (pyA (names.map sL)) = _
  rw [pyA_map, List.map_map] <;> rfl
theorem eqv_nil (names : List (List Nat)) : PyData.eqv (.list (names.map pS)) (.list []) = decide (names = []) := by
  cases names with
  | nil => rfl
  | cons a l =>
    show false = _
    exact (decide_eq_false (by simp)).symm
theorem shape_names (names : List (List Nat)) (hn : ∀ l ∈ names, Nm l) : SeqAt.shaped (.list (names.map pS)) = true := by
  have h1 : okcA (names.map pS) = true → PyData.canLayAll0 (names.map pS) = true := okcA_lay _
  refine Bool.and_eq_true_iff.mpr ⟨h1 (okcA_all fun d hd => ?_), decide_eq_true ?_⟩
  · obtain ⟨l, hl, rfl⟩ := List.mem_map.mp hd
    exact okc_str (hn l hl).le122
  · have : PyData.depthAll (names.map pS) ≤ 1 := depthA_le fun d hd => by
      obtain ⟨l, hl, rfl⟩ := List.mem_map.mp hd
      exact (by decide : 0 ≤ 1)
    show PyData.depthAll (names.map pS) + 1 ≤ 64
    omega
theorem tl_cut8 (z : Str) : TL.tl (cutS z none (some 8)) = (TL.tl z).take 8 := by
  show ((z.cps.toList.drop 0).take (min 8 z.length - 0)) = z.cps.toList.take 8
  rw [List.drop_zero, Nat.sub_zero]
  have : z.length = z.cps.toList.length := TL.len_tl z
  rw [this, ← List.take_take, List.take_length]
section
variable {P : Program} {w : World} {K : PySem.W.Frag} {mg : Str → Option Value} {base : Heap} {C : Addr}
/-! ### _law_name -/
theorem sc29 : FnScope ["pot", "taken", "letters", "word", "k", "letter"] ["pot", "taken"] (defScope (top 29)) := ⟨rfl, rfl, rfl, by decide +kernel, rfl, by decide +kernel, by decide +kernel⟩
def gName (K : PySem.W.Frag) : GT := fun S ds R => ∃ (pot : Addr) (names : List (List Nat)), (∀ l ∈ names, Nm l) ∧ names.length ≤ 25 ∧ PotIn K pot S ∧ ds = [.r pot, .lst (names.map sL)] ∧ ∀ l, Nm l → l ∉ names → R (sL l)
instance : GK (gName K) := ⟨fun _ ⟨pot, many, a, b, c, d, e⟩ => ⟨pot, many, a, b, inferInstance, d, e⟩⟩
theorem ok_name (T : Tx K mg) (Dt : DefAt K mg "_law_name" (top 29)) (F : Fnc P w K mg base 1 "_law_draw" ["pot", "many"] (gDraw K)) : Fnc P w K mg base 2 "_law_name" ["pot", "taken"] (gName K) := by
  refine fnc_mk Dt sc29 (fun S ds R ⟨_, _, _, _, _, e, _⟩ => by rw [e] <;> rfl) (fun _ _ _ _ _ _ us hl => match us, hl with | [_, _], _ => rfl) (fun _ _ _ _ _ _ us hl => match us, hl with | [_, _], _ => rfl) fun f cdv A outer s H E hr S _ ds R g rt O => ?_
  obtain ⟨pot, names, hn, h1, hp, rfl, hR⟩ := g
  refine s_set (R := (· = sL abc)) 2 sc29.nd (x_str.is (by rw [abc_mk])) fun d q => ?_
  subst q
  refine s_set (R := fun d => ∃ l, Nm l ∧ d = sL l) 3 sc29.nd (XE.imp (x_joinR (x := "") (RS := fun ys => ∃ l : List Nat, Nm l ∧ ys = (l.map fun c => [c]).map mkS) x_str
      ((n_lcR (own := [("k", 4)]) rfl sc29.nd (blkOk_by (N := ["pot", "taken", "letters", "word", "k", "letter"]) (sc := defScope (top 29)) (by decide +kernel))
        (i_rangeR (RN := fun n => 1 ≤ n ∧ n ≤ 8) (x_ixLn (x_lstD (a_consD x_int (a_consD x_int (a_consD x_int (a_consD x_int a_nil))))) (x_call (R := fun d => ∃ i : Int, d = .i i ∧ 0 ≤ i ∧ i < 4) F (hr.mono (by decide)) (a2 (x_var 0 rfl) x_int) fun ds q => ⟨pot, 4, by decide, by decide, hp, q, fun d a b => ⟨d, rfl, a, b⟩⟩)
          fun d ⟨i, e, a, b⟩ => ?_) (fun n h => ⟨by omega, by omega⟩) T.range)
        (fun _ k acc => Drawn acc k) (fun _ _ => ⟨[], (fun c hc => by cases hc), rfl, rfl⟩) (fun n hn2 k d acc hk yd ac => ?_) fun n hn2 k acc hk ac => ?_).x.imp fun d ⟨ds, e, n, hn2, l, a, b, c⟩ => ?_) fun ys ⟨l, a, b⟩ => ?_) fun d ⟨ys, e, l, a, b⟩ => ?_) fun d ⟨word, hw, e⟩ => ?_
  · subst e
    obtain rfl | rfl | rfl | rfl : i = 0 ∨ i = 1 ∨ i = 2 ∨ i = 3 := by omega
    · exact ⟨0, _, rfl, rfl, 1, rfl, by decide, by decide⟩
    · exact ⟨1, _, rfl, rfl, 1, rfl, by decide, by decide⟩
    · exact ⟨2, _, rfl, rfl, 2, rfl, by decide, by decide⟩
    · exact ⟨3, _, rfl, rfl, 8, rfl, by decide, by decide⟩
  · obtain ⟨l, a, b, rfl⟩ := ac
    refine lt_map 4 sc29.nd fun s H0 C cl fp q' as => ?_
    refine x_ixSn (R := fun d' => Drawn (l.map (fun c => sL [c]) ++ [d']) (k + 1)) (x_var 2 rfl) (x_call (R := fun d => ∃ i : Int, d = .i i ∧ 0 ≤ i ∧ i < 26) F (hr.mono (by decide)) (a2 (x_var 0 rfl) x_int) fun ds q => ⟨pot, 26, by decide, by decide, inferInstanceAs (PotIn K pot (own K q' as S)), q, fun d a b => ⟨d, rfl, a, b⟩⟩) (by decide) fun d ⟨i, e, a2, b2⟩ => ?_
    obtain ⟨c, h2, h3⟩ := atI_of (xs := abc) a2 b2
    refine ⟨i, c, e, h2, l ++ [c], fun x hx => ?_, by simp [b], by simp⟩
    rcases List.mem_append.mp hx with z | z
    · exact a x z
    · rw [List.mem_singleton.mp z]; exact abc_le c h3
  · obtain ⟨l, a, b, rfl⟩ := ac
    have : (k : Int) ≤ n := by omega
    simp
    omega
  · refine ⟨(l.map fun c => [c]).map mkS, ?_, l, ⟨a, ?_, ?_⟩, rfl⟩
    · rw [e, c, List.map_map, List.map_map] <;> rfl
    · omega
    · omega
  · subst b
    have h8 := a.hi
    have e1 : ("" : Str).length = 0 := by decide +kernel
    rw [sum_mk, e1, List.map_map]
    have : ∀ l : List Nat, (l.map (List.length ∘ fun c => [c])).sum = l.length := fun l => by
      induction l with
      | nil => rfl
      | cons x l ih => rw [List.map_cons, List.sum_cons, ih, List.length_cons]; show 1 + _ = _; omega
    rw [this]
    omega
  · refine ⟨l, a, ?_⟩
    rw [e, b, show ("" : Str) = mkS [] from TL.ext_tl (by decide +kernel), join_mk, join_signs]
  subst e
  have rest : ∀ word : List Nat, Nm word → XS (dX P w K mg base ["pot", "taken", "letters", "word", "k", "letter"] "_law_name" (defScope (top 29)) f cdv A outer s H E) S [some (.r pot), some (.lst (names.map sL)), some (sL abc), some (sL word), none, none] ((defBody (top 29)).drop 3) ⟨fun _ H => rt .non H, rt, fun _ _ => False, fun _ _ => False⟩ := by
    intro word hw
    have last : ∀ word : List Nat, Nm word → word ∉ names → XS (dX P w K mg base ["pot", "taken", "letters", "word", "k", "letter"] "_law_name" (defScope (top 29)) f cdv A outer s H E) S [some (.r pot), some (.lst (names.map sL)), some (sL abc), some (sL word), none, none] ((defBody (top 29)).drop 4) ⟨fun _ H => rt .non H, rt, fun _ _ => False, fun _ _ => False⟩ := fun word hw hni =>
      s_ret O (x_var 3 rfl) fun d q => q ▸ hR word hw hni
    refine s_when (P := fun c => c = false → word ∉ names) (t_w (w_or (P1 := (· = decide (word ∈ names))) (XT.imp (t_in (ys := names.map fun x => V.str (mkS x)) (x_var 3 rfl) (x_var 1 rfl) (.inr (by rw [List.map_map] <;> rfl)) (flat_strs _)) fun c q => q.trans inV_str) (fun q => w_or1 (XT.imp (t_eq (x_var 3 rfl) x_str) fun c _ _ => of_decide_eq_false q.symm)) fun q z => by cases z)) (fun _ => ?_) fun q => last word hw (q rfl)
    obtain ⟨c, hc, hcn⟩ := free_letter h1
    have hmem : sL [c] ∈ (abc.map fun c => if [c] ∈ names then none else some (sL [c])).filterMap id := List.mem_filterMap.mpr ⟨_, List.mem_map.mpr ⟨c, hc, rfl⟩, by rw [if_neg hcn] <;> rfl⟩
    have hall : ∀ d ∈ (abc.map fun c => if [c] ∈ names then none else some (sL [c])).filterMap id, ∃ c ∈ abc, [c] ∉ names ∧ d = sL [c] := by
      intro d hd
      obtain ⟨o, ho, e⟩ := List.mem_filterMap.mp hd
      obtain ⟨c, hc, rfl⟩ := List.mem_map.mp ho
      by_cases hm : [c] ∈ names
      · rw [if_pos hm] at e; cases e
      · rw [if_neg hm] at e; cases e; exact ⟨c, hc, hm, rfl⟩
    refine s_set (R := fun d => ∃ c ∈ abc, [c] ∉ names ∧ d = sL [c]) 3 sc29.nd (x_ixLL (n_lcF (own := [("letter", 5)]) (abc.map fun c => if [c] ∈ names then none else some (sL [c])) (n := (mkS abc).cps.size) (by rfl) (by decide) rfl sc29.nd (blkOk_by (N := ["pot", "taken", "letters", "word", "k", "letter"]) (sc := defScope (top 29)) (by decide +kernel)) (i_str (z := mkS abc) (x_var 2 rfl)) fun k d r yd hk => ?_).x x_int fun ds e => ?_) fun d ⟨c, hc, hcn, e⟩ => ?_
    · obtain ⟨c, hc, rfl⟩ := yd
      have hc' : abc[k]? = some c := by simpa using hc
      rw [List.getElem?_map, hc'] at hk
      cases hk
      refine lt_if (P := (· = !decide ([c] ∈ names))) 5 sc29.nd (fun s H0 C cl fp l as => XT.imp (t_notIn (ys := names.map fun x => V.str (mkS x)) (x_var 5 rfl) (x_var 1 rfl) (.inr (by rw [List.map_map] <;> rfl)) (flat_strs _)) fun b q => q.trans (congrArg (!·) (inV_str (l := [c])))) (fun q s H0 C cl fp l as => (x_var 5 rfl).imp fun d e => ?_) fun q => ?_
      · have : [c] ∉ names := by simpa using q
        show (if [c] ∈ names then none else some (sL [c])) = some d
        rw [if_neg this, e]
      · have : [c] ∈ names := by simpa using q
        show (if [c] ∈ names then none else some (sL [c])) = none
        rw [if_pos this]
    · subst e
      match h : (abc.map fun c => if [c] ∈ names then none else some (sL [c])).filterMap id with
      | [] => rw [h] at hmem; cases hmem
      | d0 :: fs => exact ⟨d0, atI_nat (xs := d0 :: fs) 0, hall d0 (by rw [h]; exact List.mem_cons_self)⟩
    · subst e
      exact s_on (nx := fun _ H => rt .non H) (last [c] (nm_one hc) hcn)
  refine s_when (P := fun c => c = true → names ≠ []) (t_w (w_and (P1 := (· = !decide (names = []))) (XT.imp (t_neP (hr.mono (Nat.zero_le _)) (x_var 1 rfl) (x_lstD a_nil) (names_plain names) rfl ?_ rfl) fun c q => q.trans ?_) (fun q => w_and1 (XT.imp (t_eqR (Pi := fun _ => True) (x_call (R := fun d => ∃ i : Int, d = .i i ∧ True) F (hr.mono (by decide)) (a2 (x_var 0 rfl) x_int) fun ds q => ⟨pot, 5, by decide, by decide, hp, q, fun d a b => ⟨d, rfl, trivial⟩⟩) x_int) fun c _ _ => by simpa using q)) fun q z => by cases z)) (fun q => ?_) fun _ => rest word hw
  · rw [names_py]
    exact shape_names names hn
  · rw [names_py]
    exact congrArg (!·) (eqv_nil names)
  · obtain ⟨ns, l0, rfl⟩ : ∃ ns l0, names = ns ++ [l0] := ⟨names.dropLast, names.getLast (q rfl), (List.dropLast_concat_getLast (q rfl)).symm⟩
    have hl0 := hn l0 (by simp)
    have l1 := hl0.lo
    have l2 := hl0.hi
    have w1 := hw.lo
    have w2 := hw.hi
    have lm : (Txt.mul (mkS word) 8).length = word.length * 8 := by
      have := len_mul (mkS word) 8
      have l0 : (mkS word).length = word.length := len_mkS word
      have e : (if decide ((8 : Int) < 0) = true then (0 : Int) else 8) = 8 := rfl
      rw [e, l0] at this
      omega
    refine s_set (R := fun d => ∃ l, Nm l ∧ d = sL l) 3 sc29.nd ((x_sliceS (x_addS (x := mkS l0) (x_ixL (x_var 1 rfl) (x_negI x_int) (by rw [List.map_append]; exact atI_last)) (x_mulS (x_var 3 rfl) x_int ⟨by decide, by decide⟩ (by rw [len_mkS]; omega)) (by rw [len_mkS, lm]; omega)) o_none (o_int x_int) (by rw [len_append, len_mkS, lm]; omega)).imp fun d ⟨l, h, e1, e2, e3⟩ => ?_) fun d ⟨l, hl, e⟩ => ?_
    · subst e1 e2
      have hz : (mkS l0 ++ Txt.mul (mkS word) 8).length = l0.length + word.length * 8 := by rw [len_append, len_mkS, lm]
      refine ⟨TL.tl (cutS (mkS l0 ++ Txt.mul (mkS word) 8) none (some 8)), ⟨fun c hc => ?_, ?_, ?_⟩, by rw [e3]⟩
      · have h1 : c ∈ TL.tl (mkS l0 ++ Txt.mul (mkS word) 8) := List.mem_of_mem_drop (List.mem_of_mem_take hc)
        rw [TL.tl_append] at h1
        rcases List.mem_append.mp h1 with z | z
        · exact hl0.le c z
        · exact hw.le c (mul_sign z)
      · rw [tl_cut8, List.length_take, ← TL.len_tl, hz]
        omega
      · rw [tl_cut8, List.length_take]
        omega
    · subst e
      exact s_on (nx := fun _ H => rt .non H) (rest l hl)
end
end K96

namespace K96
open PySem PySem.Spec PyProof.Rows L2 Z
/-- a table: its title, its words, its indexes -/
abbrev Tab := List Nat × List (List Nat) × List (List Nat)
def refT (t : Tab) : List (List Nat) := t.2.1.map fun w => t.1 ++ 46 :: w
def encT (t : Tab) : D := .tup [sL t.1, .lst ((refT t).map sL), .lst (t.2.2.map sL)]
structure TabOk (t : Tab) : Prop where
  nm : Nm t.1
  ws : ∀ w ∈ t.2.1, Nm w
  nd : t.2.1.Nodup
  lo : 1 ≤ t.2.1.length
  hi : t.2.1.length ≤ 3
  ix : ∀ w ∈ t.2.2, Nm w
  il : t.2.2.length = 2
theorem dot_inj {t u v w : List Nat} (ht : Nm t) (hu : Nm u) (h : t ++ 46 :: v = u ++ 46 :: w) : t = u ∧ v = w :=
  let ⟨a, _, b⟩ := spanL ht.le hu.le isL_no isL_no h
  ⟨a, b⟩
theorem rf_T {t : Tab} (h : TabOk t) : ∀ r ∈ refT t, Rf r := fun r hr => by
  obtain ⟨w, hw, rfl⟩ := List.mem_map.mp hr
  exact ⟨t.1, w, h.nm, h.ws w hw, rfl⟩
theorem nd_map {α β : Type} {f : α → β} : ∀ {xs : List α}, (∀ a ∈ xs, ∀ b ∈ xs, f a = f b → a = b) → xs.Nodup → (xs.map f).Nodup
  | [], _, _ => List.nodup_nil
  | x :: xs, hf, h => by
    obtain ⟨h1, h2⟩ := List.nodup_cons.mp h
    rw [List.map_cons]
    refine List.nodup_cons.mpr ⟨fun hm => ?_, nd_map (fun a ha b hb => hf a (List.mem_cons_of_mem _ ha) b (List.mem_cons_of_mem _ hb)) h2⟩
    obtain ⟨y, hy, e⟩ := List.mem_map.mp hm
    exact h1 (hf y (List.mem_cons_of_mem _ hy) x List.mem_cons_self e ▸ hy)
theorem nd_T {t : Tab} (h : TabOk t) : (refT t).Nodup := nd_map (fun a ha b hb e => (dot_inj h.nm h.nm e).2) h.nd
theorem nd_Ts : ∀ {ts : List Tab}, (∀ t ∈ ts, TabOk t) → (ts.map (·.1)).Nodup → (ts.flatMap refT).Nodup
  | [], _, _ => List.nodup_nil
  | t :: ts, h, nd => by
    rw [List.map_cons] at nd
    obtain ⟨n1, n2⟩ := List.nodup_cons.mp nd
    rw [List.flatMap_cons]
    refine List.nodup_append.mpr ⟨nd_T (h t List.mem_cons_self), nd_Ts (fun u hu => h u (List.mem_cons_of_mem _ hu)) n2, fun a ha b hb e => ?_⟩
    subst e
    obtain ⟨u, hu, hb⟩ := List.mem_flatMap.mp hb
    obtain ⟨w, hw, rfl⟩ := List.mem_map.mp ha
    obtain ⟨w2, hw2, e⟩ := List.mem_map.mp hb
    have := (dot_inj (h u (List.mem_cons_of_mem _ hu)).nm (h t List.mem_cons_self).nm e).1
    exact n1 (List.mem_map.mpr ⟨u, hu, this⟩)
theorem erase_perm {α : Type} {d : α} : ∀ {xs : List α} {k : Nat}, xs[k]? = some d → (d :: xs.eraseIdx k).Perm xs
  | [], _, h => by simp at h
  | x :: xs, 0, h => by
    have e : x = d := by simpa using h
    rw [e]
    exact List.Perm.refl _
  | x :: xs, k + 1, h => by
    have h' : xs[k]? = some d := by simpa using h
    exact (List.Perm.swap x d _).trans (List.Perm.cons x (erase_perm h'))
section
variable {P : Program} {w : World} {K : PySem.W.Frag} {mg : Str → Option Value} {base : Heap} {C : Addr}
/-! ### _law_names -/
theorem sc30 : FnScope ["pot", "many", "listed", "k"] ["pot", "many"] (defScope (top 30)) := ⟨rfl, rfl, rfl, by decide +kernel, rfl, by decide +kernel, by decide +kernel⟩
def gNames (K : PySem.W.Frag) : GT := fun S ds R => ∃ (pot : Addr) (many : Nat), many ≤ 20 ∧ PotIn K pot S ∧ ds = [.r pot, .i (many : Int)] ∧ ∀ names : List (List Nat), (∀ l ∈ names, Nm l) → names.Nodup → names.length = many → R (.lst (names.map sL))
instance : GK (gNames K) := ⟨fun _ ⟨pot, many, a, b, c, d⟩ => ⟨pot, many, a, inferInstance, c, d⟩⟩
theorem ok_names (T : Tx K mg) (Dt : DefAt K mg "_law_names" (top 30)) (F : Fnc P w K mg base 2 "_law_name" ["pot", "taken"] (gName K)) : Fnc P w K mg base 3 "_law_names" ["pot", "many"] (gNames K) := by
  refine fnc_mk Dt sc30 (fun S ds R ⟨_, _, _, _, e, _⟩ => by rw [e] <;> rfl) (fun _ _ _ _ _ _ us hl => match us, hl with | [_, _], _ => rfl) (fun _ _ _ _ _ _ us hl => match us, hl with | [_, _], _ => rfl) fun f cdv A outer s H E hr S _ ds R g rt O => ?_
  obtain ⟨pot, many, hm, hp, rfl, hR⟩ := g
  refine s_setN 2 sc30.nd n_nil fun l ds q => ?_
  subst q
  refine s_for (Iv := fun k S' Γ' => ∃ names : List (List Nat), (∀ l ∈ names, Nm l) ∧ names.Nodup ∧ names.length = k ∧ S' = own K l (names.map sL) S ∧ ∃ a, Γ' = [some (.r pot), some (.i (many : Int)), some (.r l), a]) rfl PassesOwn.never (i_range1 (x_var 1 rfl) ⟨by omega, by omega⟩ T.range) ⟨[], fun _ h => (by cases h), List.nodup_nil, rfl, rfl, _, rfl⟩
    (fun k S' Γ' ⟨_, _, _, _, h, _⟩ => by rw [h]; infer_instance) (fun k d B1 S' Γ' hk yd iv => ?_) fun S' Γ' iv => ?_
  · obtain ⟨names, h1, h2, h3, rfl, g4, rfl⟩ := iv
    subst yd
    refine ⟨_, _, g_name 3 sc30.nd, fun nx hnx => ?_⟩
    refine s_append (S' := fun ds' => keep B1 (own K l ds' S)) (ds := names.map sL) 2 rfl hasK (by simp; omega) (x_callLend (Rr := fun d => ∃ l, Nm l ∧ l ∉ names ∧ d = sL l) (as := [.r pot]) (bs := []) (ds := names.map sL) (hasK (K := K) (S := S)) (fun {B H} q => ?_) F hr (a2 (x_var 0 rfl) (x_var 2 rfl)) (fun xs B H q => ⟨pot, names, h1, by omega, ?_, rfl, fun l a b => ⟨l, a, b, rfl⟩⟩) fun d ⟨l, _, _, e⟩ => ⟨_, e⟩) fun d ⟨nl, a, b, e⟩ => ?_
    · obtain ⟨_, _, _, _, z, _⟩ := q
      exact z
    · exact PotIn.lend inferInstance (own_pot q.2)
    · subst e
      refine s_turn hnx ⟨names ++ [nl], fun x hx => ?_, ?_, by simp [h3], by rw [List.map_append] <;> rfl, _, rfl⟩
      · rcases List.mem_append.mp hx with z | z
        · exact h1 x z
        · rw [List.mem_singleton.mp z]; exact a
      · exact List.nodup_append.mpr ⟨h2, by simp, fun x hx y hy e => by rw [List.mem_singleton.mp hy] at e; exact b (e ▸ hx)⟩
  · obtain ⟨names, h1, h2, h3, rfl, g4, rfl⟩ := iv
    exact s_retOwn (i := 2) O rfl (hR names h1 h2 (by rw [h3]; omega))
/-! ### _law_shuffled -/
theorem sc31 : FnScope ["pot", "some", "left", "mixed", "one"] ["pot", "some"] (defScope (top 31)) := ⟨rfl, rfl, rfl, by decide +kernel, rfl, by decide +kernel, by decide +kernel⟩
def gShuf (K : PySem.W.Frag) : GT := fun S ds R => ∃ (pot : Addr) (es : List D), es.length ≤ 1000 ∧ PotIn K pot S ∧ ds = [.r pot, .lst es] ∧ ∀ fs : List D, fs.Perm es → R (.lst fs)
instance : GK (gShuf K) := ⟨fun _ ⟨pot, many, a, b, c, d⟩ => ⟨pot, many, a, inferInstance, c, d⟩⟩
theorem ok_shuf (T : Tx K mg) (Dt : DefAt K mg "_law_shuffled" (top 31)) (F : Fnc P w K mg base 1 "_law_draw" ["pot", "many"] (gDraw K)) : Fnc P w K mg base 2 "_law_shuffled" ["pot", "some"] (gShuf K) := by
  refine fnc_mk Dt sc31 (fun S ds R ⟨_, _, _, _, e, _⟩ => by rw [e] <;> rfl) (fun _ _ _ _ _ _ us hl => match us, hl with | [_, _], _ => rfl) (fun _ _ _ _ _ _ us hl => match us, hl with | [_, _], _ => rfl) fun f cdv A outer s H E hr S _ ds R g rt O => ?_
  obtain ⟨pot, es, hm, hp, rfl, hR⟩ := g
  refine s_parNN 2 3 rfl sc31.nd (n_list (.inl (x_var 1 rfl)) T.list) (fun l ds => n_nil) fun l m d1 d2 hlm q1 q2 => ?_
  subst q2
  have q1 := q1.symm
  subst q1
  refine s_for (Iv := fun k S' Γ' => ∃ a b : List D, (a ++ b).Perm es ∧ b.length = k ∧ S' = own K m b (own K l a S) ∧ ∃ g, Γ' = [some (.r pot), some (.lst es), some (.r l), some (.r m), g]) rfl PassesOwn.never (i_list (x_var 1 rfl)) ⟨es, [], by simp, rfl, rfl, _, rfl⟩
    (fun k S' Γ' ⟨_, _, _, _, h, _⟩ => by rw [h]; infer_instance) (fun k d B1 S' Γ' hk yd iv => ?_) fun S' Γ' iv => ?_
  · obtain ⟨a, b, h1, h2, rfl, g4, rfl⟩ := iv
    have hl := h1.length_eq
    rw [List.length_append] at hl
    refine ⟨_, _, g_name 4 sc31.nd, fun nx hnx => ?_⟩
    have hasL : ∀ a, Has K l (keep B1 (own K m b (own K l a S))) a (fun a' => keep B1 (own K m b (own K l a' S))) := fun a => haveI := has_skip (K := K) (m := m) (es := b) hlm (h := has1 (K := K) (l := l) (S := S) (ds := a)); inferInstance
    refine s_appendM (T := fun k => keep B1 (own K m b (own K l (a.eraseIdx k) S))) (Rv := fun k d => a[k]? = some d) 3 rfl (fun {B H} q => ?_) (m_popAt (S' := fun a' => keep B1 (own K m b (own K l a' S))) 2 rfl (hasL a) (x_call (R := fun d => ∃ i : Int, d = .i i ∧ 0 ≤ i ∧ i < a.length) F hr (a2 (x_var 0 rfl) (x_lenO (hasL a) (x_var 2 rfl) T.len)) fun ds q => ⟨pot, _, by omega, by omega, inferInstance, q, fun d a b => ⟨d, rfl, a, b⟩⟩) (fun d h => h) (by omega)) fun j d hd => ⟨b, fun b' => keep B1 (own K m b' (own K l (a.eraseIdx j) S)), hasK, by omega, ?_⟩
    · obtain ⟨_, xs, z, _⟩ := q
      exact ⟨xs, z⟩
    · refine s_turn hnx ⟨a.eraseIdx j, b ++ [d], ?_, by simp [h2], rfl, _, rfl⟩
      refine List.Perm.trans ?_ h1
      have p1 := erase_perm hd
      refine List.Perm.trans ?_ (p1.append_right b)
      rw [← List.append_assoc]
      refine List.perm_append_comm.trans ?_
      exact List.Perm.refl _
  · obtain ⟨a, b, h1, h2, rfl, g4, rfl⟩ := iv
    have hl := h1.length_eq
    rw [List.length_append] at hl
    have : a = [] := List.eq_nil_of_length_eq_zero (by omega)
    subst this
    exact s_retOwn (i := 3) O rfl (hR b h1)
/-! ### _law_tables -/
theorem sc32 : FnScope ["pot", "tables", "at", "title", "references", "word"] ["pot"] (defScope (top 32)) := ⟨rfl, rfl, rfl, by decide +kernel, rfl, by decide +kernel, by decide +kernel⟩
def gTabs (K : PySem.W.Frag) : GT := fun S ds R => ∃ pot : Addr, PotIn K pot S ∧ ds = [.r pot] ∧ ∀ ts : List Tab, ts.length = 3 → (∀ t ∈ ts, TabOk t) → (ts.map (·.1)).Nodup → R (.lst (ts.map encT))
instance : GK (gTabs K) := ⟨fun _ ⟨pot, b, c, d⟩ => ⟨pot, inferInstance, c, d⟩⟩
theorem dot_mk : ("." : Str) = mkS [46] := TL.ext_tl (by decide +kernel)
theorem ok_tabs (T : Tx K mg) (Dt : DefAt K mg "_law_tables" (top 32)) (F : Fnc P w K mg base 3 "_law_names" ["pot", "many"] (gNames K)) : Fnc P w K mg base 4 "_law_tables" ["pot"] (gTabs K) := by
  refine fnc_mk Dt sc32 (fun S ds R ⟨_, _, e, _⟩ => by rw [e] <;> rfl) (fun _ _ _ _ _ _ us hl => match us, hl with | [_], _ => rfl) (fun _ _ _ _ _ _ us hl => match us, hl with | [_], _ => rfl) fun f cdv A outer s H E hr S _ ds R g rt O => ?_
  obtain ⟨pot, hp, rfl, hR⟩ := g
  refine s_setN 1 sc32.nd n_nil fun l ds q => ?_
  subst q
  refine s_forR (Pr := fun ds => ∃ ns : List (List Nat), (∀ l ∈ ns, Nm l) ∧ ns.Nodup ∧ ns.length = 3 ∧ ds = ns.map sL) (Iv := fun js k S' Γ' => ∃ ts : List Tab, ts.length = k ∧ (∀ t ∈ ts, TabOk t) ∧ ts.map (fun t => sL t.1) = js.take k ∧ S' = own K l (ts.map encT) S ∧ ∃ a b c d, Γ' = [some (.r pot), some (.r l), a, b, c, d]) rfl PassesOwn.never
    (i_enumLR (x_call F hr (a2 (x_var 0 rfl) x_int) fun ds q => ⟨pot, 3, by decide, inferInstanceAs (PotIn K pot (own K l [] S)), q, fun ns a b c => ⟨_, rfl, ns, a, b, c, rfl⟩⟩) T.enumerate) (fun js _ => ⟨[], rfl, (fun _ h => by cases h), rfl, rfl, _, _, _, _, rfl⟩)
    (fun js k S' Γ' ⟨_, _, _, _, h, _⟩ => by rw [h]; infer_instance) (fun js ⟨ns, n1, n2, n3, e⟩ k d B1 S' Γ' hk yd iv => ?_) fun js ⟨ns, n1, n2, n3, e⟩ S' Γ' iv => ?_
  · obtain ⟨ts, h1, h2, h3, rfl, g1, g2, g3, g4, rfl⟩ := iv
    obtain ⟨b, hb, rfl⟩ := yd
    subst e
    rw [List.getElem?_map] at hb
    cases hx : ns[k]? with
    | none => rw [hx] at hb; cases hb
    | some t =>
    rw [hx] at hb
    cases hb
    have ht : Nm t := n1 t (List.mem_of_getElem? hx)
    have hk3 : k < 3 := by rw [List.length_map, n3] at hk; exact hk
    refine ⟨_, _, g_tup rfl (gs_cons (g_name 2 sc32.nd) (gs_cons (g_name 3 sc32.nd) gs_nil)), fun nx hnx => ?_⟩
    have kk : (3 : Int) - (k : Int) / 2 = ((3 - k / 2 : Nat) : Int) := by omega
    refine s_setLcR (own := [("word", 5)]) (Pr := fun ds => ∃ ws : List (List Nat), (∀ l ∈ ws, Nm l) ∧ ws.Nodup ∧ ws.length = 3 - k / 2 ∧ ds = ws.map sL) 4 rfl sc32.nd (blkOk_by (N := ["pot", "tables", "at", "title", "references", "word"]) (sc := defScope (top 32)) (by decide +kernel))
      (i_listR (x_call F hr (a2 (x_var 0 rfl) ((x_subI x_int (x_divI (x_var 2 rfl) x_int ⟨by decide, by decide⟩)).is (congrArg D.i kk))) fun ds q => ⟨pot, 3 - k / 2, by omega, inferInstanceAs (PotIn K pot (keep B1 (own K l (ts.map encT) S))), q, fun ns a b c => ⟨_, rfl, ns, a, b, c, rfl⟩⟩))
      (fun js i acc => ∃ ws : List (List Nat), js = ws.map sL ∧ acc = (ws.take i).map fun w => sL (t ++ 46 :: w)) (fun js ⟨ws, _, _, _, e⟩ => ⟨ws, e, by simp⟩) (fun js ⟨ws0, m1, _, _, e0⟩ i d acc hi yd ⟨ws, e, ea⟩ => ?_) (fun js ⟨ws0, _, _, m3, e0⟩ i acc hi ⟨ws, e, ea⟩ => ?_) fun q js ds ⟨ws0, m1, m2, m3, e0⟩ ⟨ws, e, ea⟩ => ?_
    · subst e
      have e1 : ws0 = ws := by
        have : ws0.map sL = ws.map sL := e0.symm
        exact List.map_inj_right (fun a b z => mkS_inj (by injection z with z; injection z)) |>.mp this
      subst e1
      rw [List.getElem?_map] at yd
      cases hw : ws0[i]? with
      | none => rw [hw] at yd; cases yd
      | some wd =>
      rw [hw] at yd
      cases yd
      have hwd := m1 wd (List.mem_of_getElem? hw)
      have a1 := ht.hi
      have a2 := hwd.hi
      refine lt_map 5 sc32.nd fun s H0 C cl fp q as => (x_addS (x_addS (x_var 3 rfl) x_str ?_) (x_var 5 rfl) ?_).imp fun d e => ⟨ws0, rfl, ?_⟩
      · rw [dot_mk, len_mkS, len_mkS]; show _ + 1 ≤ _; omega
      · rw [dot_mk, mkS_app, len_mkS, len_mkS, List.length_append]; show _ + 1 + _ ≤ _; omega
      · rw [ea, List.take_succ, hw, List.map_append, e, dot_mk, mkS_app, mkS_app, List.append_assoc] <;> rfl
    · subst e
      have e1 : (ws0.map sL).length = (ws.map sL).length := by rw [e0]
      rw [List.length_map, List.length_map] at e1
      rw [ea, List.length_map, List.length_take]
      omega
    · subst e
      have e1 : ws0 = ws := by
        have : ws0.map sL = ws.map sL := e0.symm
        exact List.map_inj_right (fun a b z => mkS_inj (by injection z with z; injection z)) |>.mp this
      subst e1
      rw [List.length_map, List.take_length] at ea
      subst ea
      refine s_give 4 rfl ?_
      refine s_append (S' := fun ds' => keep B1 (own K l ds' S)) (ds := ts.map encT) (R := fun d => ∃ ix : List (List Nat), (∀ l ∈ ix, Nm l) ∧ ix.length = 2 ∧ d = encT (t, ws0, ix)) 1 rfl hasK (by simp; omega) ((x_tup (RA := fun ds => ∃ ix : List (List Nat), (∀ l ∈ ix, Nm l) ∧ ix.length = 2 ∧ ds = [sL t, .lst ((refT (t, ws0, ix)).map sL), .lst (ix.map sL)]) (a_imp (a_cons (x_var 3 rfl) (a_cons (x_var 4 rfl) (a_cons (x_call (R := fun d => ∃ ix : List (List Nat), (∀ l ∈ ix, Nm l) ∧ ix.length = 2 ∧ d = .lst (ix.map sL)) F hr (a2 (x_var 0 rfl) x_int) fun ds q => ⟨pot, 2, by decide, inferInstanceAs (PotIn K pot (keep B1 (own K l (ts.map encT) S))), q, fun ns a b c => ⟨ns, a, c, rfl⟩⟩) a_nil))) fun ds h => ?_) fun ds ⟨ix, _, _, e⟩ => ?_).imp fun d ⟨ds, e, ix, a, b, c⟩ => ⟨ix, a, b, by rw [e, c] <;> rfl⟩) fun d ⟨ix, a, b, e⟩ => ?_
      · obtain ⟨d1, ds1, rfl, rfl, d2, ds2, rfl, rfl, d3, ds3, rfl, ⟨ix, a, b, rfl⟩, rfl⟩ := h
        exact ⟨ix, a, b, by unfold refT; rw [List.map_map] <;> rfl⟩
      · rw [e]; show 3 ≤ 1000; decide
      · subst e
        have e0' : ws0.length = 3 - k / 2 := m3
        refine s_turn hnx ⟨ts ++ [(t, ws0, ix)], by simp [h1], fun x hx => ?_, ?_, by rw [List.map_append] <;> rfl, _, _, _, _, rfl⟩
        · rcases List.mem_append.mp hx with z | z
          · exact h2 x z
          · rw [List.mem_singleton.mp z]; exact ⟨ht, m1, m2, by show 1 ≤ ws0.length; omega, by show ws0.length ≤ 3; omega, a, b⟩
        · rw [List.map_append, h3, List.take_succ, List.getElem?_map, hx] <;> rfl
  · obtain ⟨ts, h1, h2, h3, rfl, g1, g2, g3, g4, rfl⟩ := iv
    subst e
    rw [List.length_map, n3] at h1
    refine s_retOwn (i := 1) O rfl (hR ts h1 h2 ?_)
    have h4 : ts.map (fun t => sL t.1) = ns.map sL := by rw [h3, List.take_length]
    have h5 : (ts.map (·.1)).map sL = ns.map sL := by rw [List.map_map]; exact h4
    have : ts.map (·.1) = ns := List.map_inj_right (fun a b z => mkS_inj (by injection z with z; injection z)) |>.mp h5
    rw [this]
    exact n2
end
end K96

namespace K96
open PySem PySem.Spec PyProof.Rows L2 Z
theorem cut_take {α : Type} {xs : List α} {k : Int} (h : 0 ≤ k) : cutG xs none (some k) = xs.take k.toNat := by
  obtain ⟨n, rfl⟩ := Int.eq_ofNat_of_zero_le h
  unfold cutG
  rw [HT.sIx_nat]
  show (xs.drop 0).take (min n xs.length - 0) = xs.take n
  rw [List.drop_zero, Nat.sub_zero, ← List.take_take, List.take_length]
theorem sL_inj {xs ys : List (List Nat)} (h : xs.map sL = ys.map sL) : xs = ys := List.map_inj_right (fun a b z => mkS_inj (by injection z with z; injection z)) |>.mp h
/-- a row of names that is, but for the sequence, xs: told by its data -/
theorem perm_map {α : Type} {f : α → D} {fs : List D} : ∀ {xs : List α}, fs.Perm (xs.map f) → ∃ ys : List α, ys.Perm xs ∧ fs = ys.map f := by
  intro xs h
  have key : ∀ {as bs : List D}, as.Perm bs → ∀ xs : List α, bs = xs.map f → ∃ ys : List α, ys.Perm xs ∧ as = ys.map f := by
    intro as bs p
    induction p with
    | nil => 
      intro xs e
      cases xs with
      | nil => exact ⟨[], List.Perm.refl _, rfl⟩
      | cons a l => cases e
    | cons x p ih =>
      intro xs e
      cases xs with
      | nil => cases e
      | cons a l =>
        rw [List.map_cons] at e
        injection e with e1 e2
        obtain ⟨ys, h1, h2⟩ := ih l e2
        exact ⟨a :: ys, h1.cons a, by rw [List.map_cons, e1, h2]⟩
    | swap x y l =>
      intro xs e
      match xs, e with
      | a :: b :: l', e =>
        rw [List.map_cons, List.map_cons] at e
        injection e with e1 e2
        injection e2 with e2 e3
        exact ⟨b :: a :: l', List.Perm.swap a b l', by rw [List.map_cons, List.map_cons, e1, e2, e3]⟩
    | trans p1 p2 ih1 ih2 =>
      intro xs e
      obtain ⟨ys, h1, h2⟩ := ih2 xs e
      obtain ⟨zs, h3, h4⟩ := ih1 ys h2
      exact ⟨zs, h3.trans h1, h4⟩
  exact key h xs rfl
def dirs : List D := [.s "up", .s "down"]
theorem dirs_at {i : Int} (a : 0 ≤ i) (b : i < 2) : ∃ u : Bool, atI dirs i = some (sL (dir u)) := by
  obtain rfl | rfl : i = 0 ∨ i = 1 := by omega
  · exact ⟨true, by rw [show dirs = [sL wUp, sL wDown] by unfold dirs; rw [up_mk, down_mk]] <;> rfl⟩
  · exact ⟨false, by rw [show dirs = [sL wUp, sL wDown] by unfold dirs; rw [up_mk, down_mk]] <;> rfl⟩
section
variable {P : Program} {w : World} {K : PySem.W.Frag} {mg : Str → Option Value} {base : Heap} {C : Addr}
/-! ### _law_entries_of -/
theorem sc33 : FnScope ["pot", "references", "most", "picked", "one"] ["pot", "references", "most"] (defScope (top 33)) := ⟨rfl, rfl, rfl, by decide +kernel, rfl, by decide +kernel, by decide +kernel⟩
def gEof (K : PySem.W.Frag) : GT := fun S ds R => ∃ (pot : Addr) (refs : List (List Nat)) (most : Nat), (∀ r ∈ refs, Rf r) ∧ refs.Nodup ∧ refs.length ≤ 100 ∧ 1 ≤ most ∧ most ≤ 6 ∧ PotIn K pot S ∧ ds = [.r pot, .lst (refs.map sL), .i (most : Int)] ∧ ∀ o, OkO o → R (encO o)
instance : GK (gEof K) := ⟨fun _ ⟨a, b, c, d, e, f, g, h, i, j⟩ => ⟨a, b, c, d, e, f, g, h, inferInstance, j⟩⟩
theorem ok_eof (T : Tx K mg) (Dt : DefAt K mg "_law_entries_of" (top 33)) (F : Fnc P w K mg base 1 "_law_draw" ["pot", "many"] (gDraw K)) (FS : Fnc P w K mg base 2 "_law_shuffled" ["pot", "some"] (gShuf K)) : Fnc P w K mg base 3 "_law_entries_of" ["pot", "references", "most"] (gEof K) := by
  refine fnc_mk Dt sc33 (fun S ds R ⟨_, _, _, _, _, _, _, _, _, e, _⟩ => by rw [e] <;> rfl) (fun _ _ _ _ _ _ us hl => match us, hl with | [_, _, _], _ => rfl) (fun _ _ _ _ _ _ us hl => match us, hl with | [_, _, _], _ => rfl) fun f cdv A outer s H E hr S _ ds R g rt O => ?_
  obtain ⟨pot, refs, most, h1, h2, h3, h4, h5, hp, rfl, hR⟩ := g
  refine s_set (R := fun d => ∃ ps : List (List Nat), (∀ r ∈ ps, Rf r) ∧ ps.Nodup ∧ ps.length ≤ 6 ∧ d = .lst (ps.map sL)) 3 sc33.nd ((n_sliceLR (RA := fun fs => fs.Perm (refs.map sL)) (x_call FS hr (a2 (x_var 0 rfl) (x_var 1 rfl)) fun ds q => ⟨pot, _, by simp; omega, hp, q, fun fs h => ⟨fs, rfl, h⟩⟩) o_none
    (o_some (Ro := fun o => ∃ i : Int, o = some (1 + i) ∧ 0 ≤ i ∧ i < most) (x_addIR (Pi := fun i => 0 ≤ i ∧ i < most) x_int (x_call F (hr.mono (by decide)) (a2 (x_var 0 rfl) (x_var 2 rfl)) fun ds q => ⟨pot, most, by omega, by omega, hp, q, fun d a b => ⟨d, rfl, a, b⟩⟩)) fun d ⟨i, e, a, b⟩ => ⟨1 + i, e, i, rfl, a, b⟩)).x.imp fun d ⟨ds, e, fs, l, h, pf, el, ⟨i, eh, a, b⟩, ed⟩ => ?_) fun d ⟨ps, p1, p2, p3, e⟩ => ?_
  · obtain ⟨ys, py, rfl⟩ := perm_map pf
    subst el eh
    rw [cut_take (by omega), ← List.map_take] at ed
    refine ⟨ys.take (1 + i).toNat, fun r hr => h1 r (py.mem_iff.mp (List.mem_of_mem_take hr)), (py.nodup_iff.mpr h2).sublist (List.take_sublist _ _), ?_, by rw [e, ed]⟩
    rw [List.length_take]
    omega
  subst e
  refine s_ret O (x_tupR (RA := fun ds => ∃ o : List (List Nat × Bool), o.map (·.1) = ps ∧ ds = o.map encE) ((n_lc (own := [("one", 4)]) rfl sc33.nd (blkOk_by (N := ["pot", "references", "most", "picked", "one"]) (sc := defScope (top 33)) (by decide +kernel)) (i_list (x_var 3 rfl)) (fun k acc => ∃ o : List (List Nat × Bool), o.map (·.1) = ps.take k ∧ acc = o.map encE) ⟨[], rfl, rfl⟩ (fun k d acc hk yd ⟨o, eo, ea⟩ => ?_) fun k acc hk ⟨o, eo, ea⟩ => ?_).imp fun ds ⟨o, eo, ea⟩ => ⟨o, by rw [eo, List.length_map, List.take_length], ea⟩).x T.tuple) fun d ⟨ds, e, o, eo, ea⟩ => ?_
  · rw [List.getElem?_map] at yd
    cases hx : ps[k]? with
    | none => rw [hx] at yd; cases yd
    | some r =>
    rw [hx] at yd
    cases yd
    refine lt_map 4 sc33.nd fun s H0 C cl fp q as => ?_
    refine (x_tup (RA := fun ds => ∃ u : Bool, ds = [sL r, sL (dir u)]) (a_imp (a_cons (x_var 4 rfl) (a_cons (x_ixLn (R := fun d => ∃ u : Bool, d = sL (dir u)) (x_lstD (ds := dirs) (a_consD x_str (a_consD x_str a_nil))) (x_call (R := fun d => ∃ i : Int, d = .i i ∧ 0 ≤ i ∧ i < 2) F (hr.mono (by decide)) (a2 (x_var 0 rfl) x_int) fun ds q' => ⟨pot, 2, by decide, by decide, inferInstanceAs (PotIn K pot (own K q as S)), q', fun d a b => ⟨d, rfl, a, b⟩⟩) fun d ⟨i, e, a, b⟩ => ?_) a_nil)) fun ds h => ?_) fun ds ⟨u, e⟩ => by rw [e]; show 2 ≤ 1000; decide).imp fun d ⟨ds, e, u, e2⟩ => ?_
    · obtain ⟨u, hu⟩ := dirs_at a b
      exact ⟨i, _, e, hu, u, rfl⟩
    · obtain ⟨d1, ds1, rfl, rfl, d2, ds2, rfl, ⟨u, rfl⟩, rfl⟩ := h
      exact ⟨u, rfl⟩
    · refine ⟨o ++ [(r, u)], ?_, ?_⟩
      · rw [List.map_append, eo, List.take_succ, hx] <;> rfl
      · rw [ea, List.map_append, e, e2] <;> rfl
  · have := congrArg List.length eo
    rw [List.length_map, List.length_take] at this
    rw [ea, List.length_map]
    omega
  · rw [e, ea]
    refine hR o ⟨fun c hc => p1 _ (eo ▸ List.mem_map.mpr ⟨c, hc, rfl⟩), eo ▸ p2, ?_⟩
    have := congrArg List.length eo
    rw [List.length_map] at this
    omega
/-! ### _law_side -/
theorem sc34 : FnScope ["pot", "table", "tree"] ["pot", "table"] (defScope (top 34)) := ⟨rfl, rfl, rfl, by decide +kernel, rfl, by decide +kernel, by decide +kernel⟩
def gSide (K : PySem.W.Frag) : GT := fun S ds R => ∃ (pot : Addr) (t : Tab), TabOk t ∧ PotIn K pot S ∧ ds = [.r pot, encT t] ∧ ∀ u : Tree, Good u → wt u ≤ 2 → R (enc u)
instance : GK (gSide K) := ⟨fun _ ⟨pot, many, a, b, c, d⟩ => ⟨pot, many, a, inferInstance, c, d⟩⟩
theorem ok_side (T : Tx K mg) (Dt : DefAt K mg "_law_side" (top 34)) (F : Fnc P w K mg base 1 "_law_draw" ["pot", "many"] (gDraw K)) (FC : Fnc P w K mg base 2 "_law_choice" ["pot", "options"] (gChoice K)) (FE : Fnc P w K mg base 3 "_law_entries_of" ["pot", "references", "most"] (gEof K)) : Fnc P w K mg base 4 "_law_side" ["pot", "table"] (gSide K) := by
  refine fnc_mk Dt sc34 (fun S ds R ⟨_, _, _, _, e, _⟩ => by rw [e] <;> rfl) (fun _ _ _ _ _ _ us hl => match us, hl with | [_, _], _ => rfl) (fun _ _ _ _ _ _ us hl => match us, hl with | [_, _], _ => rfl) fun f cdv A outer s H E hr S _ ds R g rt O => ?_
  obtain ⟨pot, t, ht, hp, rfl, hR⟩ := g
  have hix : t.2.2.map sL ≠ [] := by
    intro e
    have h1 := congrArg List.length e
    rw [List.length_map, ht.il] at h1
    cases h1
  refine s_set (R := fun d => ∃ u : Tree, Good u ∧ wt u = 1 ∧ d = enc u) 2 sc34.nd (x_call FC (hr.mono (by decide)) (a_cons (x_var 0 rfl) (a_cons (x_lst (RA := fun ds => ∃ l, Nm l ∧ ds = [enc (.heap t.1), enc (.index t.1 l)]) (a_imp (a_cons (x_tupD (a_consD (x_lit heap_mk) (a_consD (x_ixT (x_var 1 rfl) x_int rfl) a_nil)) (by show 2 ≤ 1000; decide)) (a_cons (x_tup (RA := fun ds => ∃ l, Nm l ∧ ds = [sL wIndex, sL t.1, sL l])
      (a_imp (a_cons (x_lit index_mk) (a_cons (x_ixT (x_var 1 rfl) x_int rfl) (a_cons (x_call (R := fun d => ∃ l, Nm l ∧ d = sL l) FC (hr.mono (by decide)) (a2 (x_var 0 rfl) (x_ixT (x_var 1 rfl) x_int rfl)) fun ds q => ⟨pot, _, hix, by rw [List.length_map, ht.il]; decide, hp, q, fun d hd => ?_⟩) a_nil))) fun ds h => ?_) fun ds ⟨l, _, e⟩ => by rw [e]; show 3 ≤ 1000; decide) a_nil)) fun ds h => ?_) fun ds ⟨l, _, e⟩ => by rw [e]; show 2 ≤ 1000; decide) a_nil)) fun ds h => ?_) fun d ⟨u, hu, hw, e⟩ => ?_
  · obtain ⟨l, hl, rfl⟩ := List.mem_map.mp hd
    exact ⟨l, ht.ix l hl, rfl⟩
  · obtain ⟨d1, ds1, rfl, rfl, d2, ds2, rfl, rfl, d3, ds3, rfl, ⟨l, a, rfl⟩, rfl⟩ := h
    exact ⟨l, a, rfl⟩
  · obtain ⟨d1, ds1, rfl, rfl, d2, ds2, rfl, ⟨ds3, rfl, l, a, rfl⟩, rfl⟩ := h
    exact ⟨l, a, rfl⟩
  · obtain ⟨d1, ds1, rfl, rfl, d2, ds2, rfl, ⟨ds3, rfl, l, a, rfl⟩, rfl⟩ := h
    refine ⟨pot, _, by simp, by show 2 ≤ 1000; decide, hp, rfl, fun d hd => ?_⟩
    rcases List.mem_cons.mp hd with rfl | hd
    · exact ⟨.heap t.1, ht.nm, rfl, rfl⟩
    · rw [List.mem_singleton.mp hd]
      exact ⟨.index t.1 l, ⟨ht.nm, a⟩, rfl, rfl⟩
  subst e
  refine s_when (P := fun _ => True) (t_gtR (Pi := fun _ => True) (x_call (R := fun d => ∃ i : Int, d = .i i ∧ True) F (hr.mono (by decide)) (a2 (x_var 0 rfl) x_int) fun ds q => ⟨pot, 3, by decide, by decide, hp, q, fun d a b => ⟨d, rfl, trivial⟩⟩) x_int) (fun _ => ?_) fun _ => ?_
  · exact s_ret O (x_var 2 rfl) fun d q => q ▸ hR u hu (by omega)
  · refine s_ret O (x_tup (RA := fun ds => ∃ o, OkO o ∧ ds = [sL wSort, encO o, enc u]) (a_imp (a_cons (x_lit sort_mk) (a_cons (x_call (R := fun d => ∃ o, OkO o ∧ d = encO o) FE hr (a_consD (x_var 0 rfl) (a_consD (x_ixT (d := .lst ((refT t).map sL)) (x_var 1 rfl) x_int rfl) (a_consD x_int a_nil))) fun ds q => ⟨pot, refT t, 3, rf_T ht, nd_T ht, ?_, by decide, by decide, hp, q, fun o ho => ⟨o, ho, rfl⟩⟩) (a_cons (x_var 2 rfl) a_nil))) fun ds h => ?_) fun ds ⟨o, _, e⟩ => by rw [e]; show 3 ≤ 1000; decide) fun d ⟨ds, e, o, ho, e2⟩ => ?_
    · have := ht.hi
      unfold refT
      rw [List.length_map]
      omega
    · obtain ⟨d1, ds1, rfl, rfl, d2, ds2, rfl, ⟨o, a, rfl⟩, d3, ds3, rfl, rfl, rfl⟩ := h
      exact ⟨o, a, rfl⟩
    · rw [e, e2]
      exact hR (.sort o u) ⟨ho, hu⟩ (by show wt u + 1 ≤ 2; omega)
end
end K96

namespace K96
open PySem PySem.Spec PyProof.Rows L2 Z
theorem atI_head {α : Type} {x : α} {xs : List α} : atI (x :: xs) 0 = some x := atI_nat (xs := x :: xs) 0
theorem cut_one {α : Type} {x : α} {xs : List α} : cutG (x :: xs) (some 1) none = xs := by
  unfold cutG
  rw [show (1 : Int) = ((1 : Nat) : Int) from rfl, HT.sIx_nat, HT.sIx_none]
  have e : min 1 (x :: xs).length = 1 := by rw [List.length_cons]; omega
  rw [e, List.length_cons, List.drop_one, List.tail_cons]
  exact List.take_of_length_le (by omega)
theorem cut_two {α : Type} {x y : α} {xs : List α} : cutG (x :: y :: xs) (some 2) none = xs := by
  unfold cutG
  rw [show (2 : Int) = ((2 : Nat) : Int) from rfl, HT.sIx_nat, HT.sIx_none]
  have e : min 2 (x :: y :: xs).length = 2 := by rw [List.length_cons, List.length_cons]; omega
  rw [e, List.length_cons, List.length_cons]
  show (xs).take _ = xs
  exact List.take_of_length_le (by omega)
section
variable {P : Program} {w : World} {K : PySem.W.Frag} {mg : Str → Option Value} {base : Heap} {C : Addr}
/-! ### _law_more -/
theorem sc35 : FnScope ["pot", "tree", "references", "table", "pairs", "many", "one", "other"] ["pot", "tree", "references", "table"] (defScope (top 35)) := ⟨rfl, rfl, rfl, by decide +kernel, rfl, by decide +kernel, by decide +kernel⟩
def gMore (K : PySem.W.Frag) : GT := fun S ds R => ∃ (pot : Addr) (t : Tree) (refs : List (List Nat)) (tb : Tab), Good t ∧ (∀ r ∈ refs, Rf r) ∧ refs ≠ [] ∧ refs.length ≤ 100 ∧ TabOk tb ∧ PotIn K pot S ∧ ds = [.r pot, enc t, .lst (refs.map sL), encT tb] ∧ ∀ u : Tree, Good u → wt u ≤ wt t + 3 → R (enc u)
instance : GK (gMore K) := ⟨fun _ ⟨a, b, c, d, e, f, g, h, i, j, k, l⟩ => ⟨a, b, c, d, e, f, g, h, i, inferInstance, k, l⟩⟩
theorem ok_more (T : Tx K mg) (Dt : DefAt K mg "_law_more" (top 35)) (F : Fnc P w K mg base 1 "_law_draw" ["pot", "many"] (gDraw K)) (FC : Fnc P w K mg base 2 "_law_choice" ["pot", "options"] (gChoice K)) (FS : Fnc P w K mg base 2 "_law_shuffled" ["pot", "some"] (gShuf K)) (FD : Fnc P w K mg base 4 "_law_side" ["pot", "table"] (gSide K)) :
    Fnc P w K mg base 5 "_law_more" ["pot", "tree", "references", "table"] (gMore K) := by
  refine fnc_mk Dt sc35 (fun S ds R ⟨_, _, _, _, _, _, _, _, _, _, e, _⟩ => by rw [e] <;> rfl) (fun _ _ _ _ _ _ us hl => match us, hl with | [_, _, _, _], _ => rfl) (fun _ _ _ _ _ _ us hl => match us, hl with | [_, _, _, _], _ => rfl) fun f cdv A outer s H E hr S _ ds R g rt O => ?_
  obtain ⟨pot, t, refs, tb, ht, h1, h2, h3, hb, hp, rfl, hR⟩ := g
  have hix : tb.2.2.map sL ≠ [] := by
    intro e
    have h1 := congrArg List.length e
    rw [List.length_map, hb.il] at h1
    cases h1
  refine s_when (P := fun _ => True) (t_eqR (Pi := fun _ => True) (x_call (R := fun d => ∃ i : Int, d = .i i ∧ True) F (hr.mono (by decide)) (a2 (x_var 0 rfl) x_int) fun ds q => ⟨pot, 3, by decide, by decide, hp, q, fun d a b => ⟨d, rfl, trivial⟩⟩) x_int) (fun _ => ?_) fun _ => ?_
  · refine s_ret O (x_tup (RA := fun ds => ∃ (n : List Nat) (k : Nat), Nm n ∧ 1 ≤ k ∧ k ≤ 3 ∧ ds = [sL wSeek, enc t, sL tb.1, sL n, .i (k : Int)]) (a_imp (a_cons (x_lit seek_mk) (a_cons (x_var 1 rfl) (a_cons (x_ixT (d := sL tb.1) (x_var 3 rfl) x_int rfl) (a_cons (x_call (R := fun d => ∃ l, Nm l ∧ d = sL l) FC (hr.mono (by decide)) (a2 (x_var 0 rfl) (x_ixT (x_var 3 rfl) x_int rfl)) fun ds q => ⟨pot, _, hix, by rw [List.length_map, hb.il]; decide, hp, q, fun d hd => ?_⟩)
      (a_cons (x_addIR (Pi := fun i => 0 ≤ i ∧ i < 3) x_int (x_call F (hr.mono (by decide)) (a2 (x_var 0 rfl) x_int) fun ds q => ⟨pot, 3, by decide, by decide, hp, q, fun d a b => ⟨d, rfl, a, b⟩⟩)) a_nil))))) fun ds h => ?_) fun ds ⟨n, k, _, _, _, e⟩ => by rw [e]; show 5 ≤ 1000; decide) fun d ⟨ds, e, n, k, a, b, c, e2⟩ => ?_
    · obtain ⟨l, hl, rfl⟩ := List.mem_map.mp hd
      exact ⟨l, hb.ix l hl, rfl⟩
    · obtain ⟨d1, ds1, rfl, rfl, d2, ds2, rfl, rfl, d3, ds3, rfl, rfl, d4, ds4, rfl, ⟨l, a, rfl⟩, d5, ds5, rfl, ⟨i, rfl, b, c⟩, rfl⟩ := h
      exact ⟨l, (1 + i).toNat, a, by omega, by omega, by rw [Int.toNat_of_nonneg (by omega)]⟩
    · rw [e, e2]
      exact hR (.seek t tb.1 n k) ⟨ht, hb.nm, a, b, c⟩ (by show wt t + 1 ≤ _; omega)
  · refine s_parNV 4 5 (Rb := fun d => ∃ i : Int, d = .i (1 + i) ∧ 0 ≤ i ∧ i < 3) rfl sc35.nd n_nil (fun l ds => x_addIR (Pi := fun i => 0 ≤ i ∧ i < 3) x_int (x_call F (hr.mono (by decide)) (a2 (x_var 0 rfl) x_int) fun ds' q => ⟨pot, 3, by decide, by decide, inferInstanceAs (PotIn K pot (own K l ds S)), q, fun d a b => ⟨d, rfl, a, b⟩⟩)) fun l ds d q ⟨i, ed, i0, i3⟩ => ?_
    subst q ed
    refine s_forR (Iv := fun (js : List D × List D) k S' Γ' => ∃ p : List (List Nat × List Nat × Bool), (∀ e ∈ p, Rf e.1 ∧ Rf e.2.1) ∧ p.length = k ∧ S' = own K l (p.map encP) S ∧ ∃ a b c, Γ' = [some (.r pot), some (enc t), some (.lst (refs.map sL)), some (encT tb), some (.r l), a, b, c]) rfl PassesOwn.never
      (i_zipLR (RA := fun ds => ∃ ps : List (List Nat), (∀ r ∈ ps, Rf r) ∧ 1 ≤ ps.length ∧ ps.length ≤ 3 ∧ ds = ps.map sL) (RB := fun ds => ∃ ps : List (List Nat), (∀ r ∈ ps, Rf r) ∧ 1 ≤ ps.length ∧ ds = ps.map sL)
        ((n_sliceLR (RA := fun fs => fs.Perm (refs.map sL)) (x_call FS (hr.mono (by decide)) (a2 (x_var 0 rfl) (x_var 2 rfl)) fun ds q => ⟨pot, _, by simp; omega, inferInstanceAs (PotIn K pot (own K l [] S)), q, fun fs h => ⟨fs, rfl, h⟩⟩) o_none (o_int (x_var 5 rfl))).x.imp fun d ⟨ds, e, fs, lo, hi, pf, el, eh, ed⟩ => ?_)
        (x_call FS (hr.mono (by decide)) (a2 (x_var 0 rfl) (x_ixT (d := .lst ((refT tb).map sL)) (x_var 3 rfl) x_int rfl)) fun ds q => ⟨pot, _, ?_, inferInstanceAs (PotIn K pot (own K l [] S)), q, fun fs h => ?_⟩) T.zip)
      (fun js _ => ⟨[], (fun _ h => by cases h), rfl, rfl, _, _, _, rfl⟩) (fun js k S' Γ' ⟨_, _, _, h, _⟩ => by rw [h]; infer_instance) (fun js ⟨⟨ps, p1, p2, p3, e1⟩, qs, q1, q2, e2⟩ k d B1 S' Γ' hk yd iv => ?_) fun js ⟨⟨ps, p1, p2, p3, e1⟩, qs, q1, q2, e2⟩ S' Γ' iv => ?_
    · obtain ⟨ys, py, rfl⟩ := perm_map pf
      subst el eh
      rw [cut_take (by omega), ← List.map_take] at ed
      have hl := py.length_eq
      have hl2 : 0 < refs.length := List.length_pos_iff.mpr h2
      refine ⟨ds, e, ys.take (1 + i).toNat, fun r hr => h1 r (py.mem_iff.mp (List.mem_of_mem_take hr)), ?_, ?_, ed⟩
      · rw [List.length_take]; omega
      · rw [List.length_take]; omega
    · have := hb.hi
      unfold refT
      rw [List.length_map, List.length_map]
      omega
    · obtain ⟨ys, py, rfl⟩ := perm_map h
      have hl := py.length_eq
      have h8 := hb.lo
      refine ⟨_, rfl, ys, fun r hr => rf_T hb r (py.mem_iff.mp hr), ?_, rfl⟩
      rw [hl]
      unfold refT
      rw [List.length_map]
      omega
    · obtain ⟨p, h5, h6, rfl, g1, g2, g3, rfl⟩ := iv
      obtain ⟨a, b, ha, hb', rfl⟩ := yd
      obtain ⟨js1, js2⟩ := js
      have e1 : js1 = ps.map sL := e1
      have e2 : js2 = qs.map sL := e2
      subst e1 e2
      have ha : (ps.map sL)[k]? = some a := ha
      have hb' : (qs.map sL)[k]? = some b := hb'
      rw [List.getElem?_map] at ha hb'
      cases hx : ps[k]? with
      | none => rw [hx] at ha; cases ha
      | some x =>
      cases hy : qs[k]? with
      | none => rw [hy] at hb'; cases hb'
      | some y =>
      rw [hx] at ha
      rw [hy] at hb'
      cases ha
      cases hb'
      have hk3 : k < min (ps.map sL).length (qs.map sL).length := hk
      rw [List.length_map, List.length_map] at hk3
      refine ⟨_, _, g_tup rfl (gs_cons (g_name 6 sc35.nd) (gs_cons (g_name 7 sc35.nd) gs_nil)), fun nx hnx => ?_⟩
      refine s_append (S' := fun ds' => keep B1 (own K l ds' S)) (ds := p.map encP) (R := fun d => ∃ u : Bool, d = encP (x, y, u)) 4 rfl hasK (by simp; omega) ((x_tup (RA := fun ds => ∃ u : Bool, ds = [sL x, sL y, sL (dir u)]) (a_imp (a_cons (x_var 6 rfl) (a_cons (x_var 7 rfl) (a_cons (x_ixLn (R := fun d => ∃ u : Bool, d = sL (dir u)) (x_lstD (ds := dirs) (a_consD x_str (a_consD x_str a_nil))) (x_call (R := fun d => ∃ i : Int, d = .i i ∧ 0 ≤ i ∧ i < 2) F (hr.mono (by decide)) (a2 (x_var 0 rfl) x_int) fun ds q' => ⟨pot, 2, by decide, by decide, inferInstanceAs (PotIn K pot (keep B1 (own K l (p.map encP) S))), q', fun d a b => ⟨d, rfl, a, b⟩⟩) fun d ⟨i, e, a, b⟩ => ?_) a_nil))) fun ds h => ?_) fun ds ⟨u, e⟩ => by rw [e]; show 3 ≤ 1000; decide).imp fun d ⟨ds, e, u, e2⟩ => ⟨u, by rw [e, e2] <;> rfl⟩) fun d ⟨u, e⟩ => ?_
      · obtain ⟨u, hu⟩ := dirs_at a b
        exact ⟨i, _, e, hu, u, rfl⟩
      · obtain ⟨d1, ds1, rfl, rfl, d2, ds2, rfl, rfl, d3, ds3, rfl, ⟨u, rfl⟩, rfl⟩ := h
        exact ⟨u, rfl⟩
      · subst e
        refine s_turn hnx ⟨p ++ [(x, y, u)], fun z hz => ?_, by simp [h6], by rw [List.map_append] <;> rfl, _, _, _, rfl⟩
        rcases List.mem_append.mp hz with z1 | z1
        · exact h5 z z1
        · rw [List.mem_singleton.mp z1]; exact ⟨p1 x (List.mem_of_getElem? hx), q1 y (List.mem_of_getElem? hy)⟩
    · obtain ⟨p, h5, h6, rfl, g1, g2, g3, rfl⟩ := iv
      obtain ⟨js1, js2⟩ := js
      have e1 : js1 = ps.map sL := e1
      have e2 : js2 = qs.map sL := e2
      subst e1 e2
      have h6 : p.length = min (ps.map sL).length (qs.map sL).length := h6
      rw [List.length_map, List.length_map] at h6
      refine s_give (ds := p.map encP) 4 rfl ?_
      refine s_ret O (x_tup (RA := fun ds => ∃ u : Tree, Good u ∧ wt u ≤ 2 ∧ ds = [sL wMerge, .tup (p.map encP), enc t, enc u]) (a_imp (a_cons (x_lit merge_mk) (a_cons (x_tupL (x_var 4 rfl) T.tuple) (a_cons (x_var 1 rfl) (a_cons (x_call (R := fun d => ∃ u : Tree, Good u ∧ wt u ≤ 2 ∧ d = enc u) FD hr (a2 (x_var 0 rfl) (x_var 3 rfl)) fun ds q => ⟨pot, tb, hb, hp, q, fun u a b => ⟨u, a, b, rfl⟩⟩) a_nil)))) fun ds h => ?_) fun ds ⟨u, _, _, e⟩ => by rw [e]; show 4 ≤ 1000; decide) fun d ⟨ds, e, u, a, b, e2⟩ => ?_
      · obtain ⟨d1, ds1, rfl, rfl, d2, ds2, rfl, rfl, d3, ds3, rfl, rfl, d4, ds4, rfl, ⟨u, a, b, rfl⟩, rfl⟩ := h
        exact ⟨u, a, b, rfl⟩
      · rw [e, e2]
        refine hR (.merge p t u) ⟨h5, fun z => ?_, by omega, ht, a⟩ (by show wt t + wt u + 1 ≤ wt t + 3; omega)
        rw [z] at h6
        have : (0 : Nat) = min ps.length qs.length := h6
        omega
/-! ### _law_stream -/
theorem sc36 : FnScope ["pot", "tables", "left", "tree", "references", "table"] ["pot", "tables"] (defScope (top 36)) := ⟨rfl, rfl, rfl, by decide +kernel, rfl, by decide +kernel, by decide +kernel⟩
structure TabsOk (ts : List Tab) : Prop where
  ok : ∀ t ∈ ts, TabOk t
  nd : (ts.map (·.1)).Nodup
def gStream (K : PySem.W.Frag) : GT := fun S ds R => ∃ (pot : Addr) (ts : List Tab), TabsOk ts ∧ ts.length = 3 ∧ PotIn K pot S ∧ ds = [.r pot, .lst (ts.map encT)] ∧ ∀ (u : Tree) (refs : List (List Nat)), Good u → wt u ≤ 10 → (∀ r ∈ refs, Rf r) → refs.Nodup → refs.length ≤ 100 → R (.tup [enc u, .lst (refs.map sL)])
instance : GK (gStream K) := ⟨fun _ ⟨a, b, c, d, e, f, g⟩ => ⟨a, b, c, d, inferInstance, f, g⟩⟩
theorem refs_len : ∀ {ts : List Tab}, (∀ t ∈ ts, TabOk t) → (ts.flatMap refT).length ≤ 3 * ts.length
  | [], _ => Nat.le_refl _
  | t :: ts, h => by
    have := refs_len fun u hu => h u (List.mem_cons_of_mem _ hu)
    have h1 := (h t List.mem_cons_self).hi
    rw [List.flatMap_cons, List.length_append, List.length_cons]
    unfold refT at this ⊢
    rw [List.length_map]
    omega
theorem refs_rf {ts : List Tab} (h : ∀ t ∈ ts, TabOk t) : ∀ r ∈ ts.flatMap refT, Rf r := fun r hr => by
  obtain ⟨t, ht, hr⟩ := List.mem_flatMap.mp hr
  exact rf_T (h t ht) r hr
theorem ok_stream (T : Tx K mg) (Dt : DefAt K mg "_law_stream" (top 36)) (F : Fnc P w K mg base 1 "_law_draw" ["pot", "many"] (gDraw K)) (FS : Fnc P w K mg base 2 "_law_shuffled" ["pot", "some"] (gShuf K)) (FE : Fnc P w K mg base 3 "_law_entries_of" ["pot", "references", "most"] (gEof K)) (FD : Fnc P w K mg base 4 "_law_side" ["pot", "table"] (gSide K))
    (FM : Fnc P w K mg base 5 "_law_more" ["pot", "tree", "references", "table"] (gMore K)) : Fnc P w K mg base 6 "_law_stream" ["pot", "tables"] (gStream K) := by
  refine fnc_mk Dt sc36 (fun S ds R ⟨_, _, _, _, _, e, _⟩ => by rw [e] <;> rfl) (fun _ _ _ _ _ _ us hl => match us, hl with | [_, _], _ => rfl) (fun _ _ _ _ _ _ us hl => match us, hl with | [_, _], _ => rfl) fun f cdv A outer s H E hr S _ ds R g rt O => ?_
  obtain ⟨pot, ts, hts, hl3, hp, rfl, hR⟩ := g
  refine s_set (R := fun d => ∃ (t0 : Tab) (us : List Tab), TabsOk (t0 :: us) ∧ us.length ≤ 2 ∧ d = .lst ((t0 :: us).map encT)) 2 sc36.nd ((n_sliceLR (RA := fun fs => fs.Perm (ts.map encT)) (x_call FS (hr.mono (by decide)) (a2 (x_var 0 rfl) (x_var 1 rfl)) fun ds q => ⟨pot, _, by simp; omega, hp, q, fun fs h => ⟨fs, rfl, h⟩⟩) o_none
    (o_some (Ro := fun o => ∃ i : Int, o = some (1 + i) ∧ 0 ≤ i ∧ i < 3) (x_addIR (Pi := fun i => 0 ≤ i ∧ i < 3) x_int (x_call F (hr.mono (by decide)) (a2 (x_var 0 rfl) x_int) fun ds q => ⟨pot, 3, by decide, by decide, hp, q, fun d a b => ⟨d, rfl, a, b⟩⟩)) fun d ⟨i, e, a, b⟩ => ⟨1 + i, e, i, rfl, a, b⟩)).x.imp fun d ⟨ds, e, fs, lo, hi, pf, el, ⟨i, eh, a, b⟩, ed⟩ => ?_) fun d ⟨t0, us, ok, hul, e⟩ => ?_
  · obtain ⟨ys, py, rfl⟩ := perm_map pf
    subst el eh
    rw [cut_take (by omega), ← List.map_take] at ed
    have hyl := py.length_eq
    have ok : TabsOk (ys.take (1 + i).toNat) := ⟨fun t ht => hts.ok t (py.mem_iff.mp (List.mem_of_mem_take ht)), by rw [List.map_take]; exact ((py.map (·.1)).nodup_iff.mpr hts.nd).sublist (List.take_sublist _ _)⟩
    have hz : (ys.take (1 + i).toNat).length = (1 + i).toNat := by rw [List.length_take]; omega
    generalize ys.take (1 + i).toNat = zs at ok hz ed
    cases zs with
    | nil => have hz : 0 = (1 + i).toNat := hz; omega
    | cons t0 us => exact ⟨t0, us, ok, by rw [List.length_cons] at hz; omega, by rw [e, ed]⟩
  subst e
  have hok0 := ok.ok t0 List.mem_cons_self
  refine s_par 3 4 (Ra := fun d => ∃ u : Tree, Good u ∧ wt u ≤ 2 ∧ d = enc u) (Rb := (· = .lst ((refT t0).map sL))) rfl sc36.nd (x_call FD (hr.mono (by decide)) (a2 (x_var 0 rfl) (x_ixL (d := encT t0) (x_var 2 rfl) x_int atI_head)) fun ds q => ⟨pot, t0, hok0, hp, q, fun u a b => ⟨u, a, b, rfl⟩⟩)
    (XN.xD (n_list (.inl (x_ixT (ds := [sL t0.1, .lst ((refT t0).map sL), .lst (t0.2.2.map sL)]) (x_ixL (d := encT t0) (x_var 2 rfl) x_int atI_head) x_int rfl)) T.list)) fun d1 d2 ⟨u, hu, hw, e1⟩ e2 => ?_
  subst e1 e2
  have e00 : (t0 :: us.take 0).flatMap refT = refT t0 := by rw [List.take_zero, List.flatMap_cons, List.flatMap_nil, List.append_nil]
  refine s_for (Iv := fun k S' Γ' => ∃ t : Tree, Good t ∧ wt t ≤ 2 + 4 * k ∧ S' = S ∧ ∃ a, Γ' = [some (.r pot), some (.lst (ts.map encT)), some (.lst ((t0 :: us).map encT)), some (enc t), some (.lst (((t0 :: us.take k).flatMap refT).map sL)), a]) rfl PassesOwn.never
    (i_list (ds := us.map encT) ((n_sliceL (x_var 2 rfl) (o_int x_int) o_none).x.imp fun d ⟨ds, e, lo, hi, el, eh, ed⟩ => ?_)) ⟨u, hu, by omega, rfl, none, by rw [e00] <;> rfl⟩ (fun k S' Γ' ⟨_, _, _, h, _⟩ => by rw [h]; infer_instance) (fun k d B1 S' Γ' hk yd iv => ?_) fun S' Γ' iv => ?_
  · subst el eh
    rw [e, ed, List.map_cons, cut_one]
  · obtain ⟨t, ht, hwt, rfl, g, rfl⟩ := iv
    rw [List.length_map] at hk
    rw [List.getElem?_map] at yd
    cases hx : us[k]? with
    | none => rw [hx] at yd; cases yd
    | some tb =>
    rw [hx] at yd
    cases yd
    have hbt := ok.ok tb (List.mem_cons_of_mem _ (List.mem_of_getElem? hx))
    have hsub : ∀ x ∈ t0 :: us.take k, x ∈ t0 :: us := fun x hx => by
      rcases List.mem_cons.mp hx with z | z
      · rw [z]; exact List.mem_cons_self
      · exact List.mem_cons_of_mem _ (List.mem_of_mem_take z)
    have hokk : ∀ x ∈ t0 :: us.take k, TabOk x := fun x hx => ok.ok x (hsub x hx)
    have hlen := refs_len hokk
    have hl2 : (t0 :: us.take k).length ≤ 3 := by rw [List.length_cons, List.length_take]; omega
    have hne : (t0 :: us.take k).flatMap refT ≠ [] := by
      intro z
      have h1 := congrArg List.length z
      rw [List.flatMap_cons, List.length_append] at h1
      have h2 := hok0.lo
      unfold refT at h1
      rw [List.length_map] at h1
      have h1 : _ = 0 := h1
      omega
    refine ⟨_, _, g_name 5 sc36.nd, fun nx hnx => ?_⟩
    refine s_set (R := fun d => ∃ u : Tree, Good u ∧ wt u ≤ wt t + 3 ∧ d = enc u) 3 sc36.nd (x_call FM hr (a_consD (x_var 0 rfl) (a_consD (x_var 3 rfl) (a_consD (x_var 4 rfl) (a_consD (x_var 5 rfl) a_nil)))) fun ds q => ⟨pot, t, _, tb, ht, refs_rf hokk, hne, by omega, hbt, inferInstance, q, fun u a b => ⟨u, a, b, rfl⟩⟩) fun d ⟨u, hu, hwu, e⟩ => ?_
    subst e
    have hokk2 : ∀ x ∈ t0 :: us.take (k + 1), TabOk x := fun x hx => by
      rcases List.mem_cons.mp hx with z | z
      · rw [z]; exact hok0
      · exact ok.ok x (List.mem_cons_of_mem _ (List.mem_of_mem_take z))
    have hlen2 := refs_len hokk2
    have hl4 : (t0 :: us.take (k + 1)).length ≤ 3 := by rw [List.length_cons, List.length_take]; omega
    have enext : ((t0 :: us.take k).flatMap refT).map sL ++ (refT tb).map sL = ((t0 :: us.take (k + 1)).flatMap refT).map sL := by
      rw [List.take_succ, hx, ← List.map_append]
      show _ = ((t0 :: (us.take k ++ [tb])).flatMap refT).map sL
      rw [List.flatMap_cons, List.flatMap_cons, List.flatMap_append, List.flatMap_singleton, List.append_assoc]
    have ndn : ((t0 :: us.take (k + 1)).flatMap refT).Nodup := nd_Ts hokk2 (ok.nd.sublist (((List.take_sublist _ us).cons_cons t0).map _))
    refine s_set (R := (· = .lst (((t0 :: us.take (k + 1)).flatMap refT).map sL))) 4 sc36.nd ((x_addL (x_var 4 rfl) (x_ixT (d := .lst ((refT tb).map sL)) (x_var 5 rfl) x_int rfl) (by rw [List.length_map, List.length_map]; have := hbt.hi; unfold refT at hlen ⊢; rw [List.length_map]; omega)).is (by rw [enext])) fun d q => ?_
    subst q
    refine s_when (P := fun _ => True) (t_eqR (Pi := fun _ => True) (x_call (R := fun d => ∃ i : Int, d = .i i ∧ True) F (hr.mono (by decide)) (a2 (x_var 0 rfl) x_int) fun ds q => ⟨pot, 3, by decide, by decide, inferInstance, q, fun d a b => ⟨d, rfl, trivial⟩⟩) x_int) (fun _ => ?_) fun _ => ?_
    · refine s_set (R := fun d => ∃ o, OkO o ∧ d = enc (.sort o u)) 3 sc36.nd ((x_tup (RA := fun ds => ∃ o, OkO o ∧ ds = [sL wSort, encO o, enc u]) (a_imp (a_cons (x_lit sort_mk) (a_cons (x_call (R := fun d => ∃ o, OkO o ∧ d = encO o) FE (hr.mono (by decide)) (a_consD (x_var 0 rfl) (a_consD (x_var 4 rfl) (a_consD x_int a_nil))) fun ds q => ⟨pot, _, 6, refs_rf hokk2, ndn, by omega, by decide, by decide, inferInstance, q, fun o ho => ⟨o, ho, rfl⟩⟩) (a_cons (x_var 3 rfl) a_nil))) fun ds h => ?_) fun ds ⟨o, _, e⟩ => by rw [e]; show 3 ≤ 1000; decide).imp fun d ⟨ds, e, o, a, e2⟩ => ⟨o, a, by rw [e, e2] <;> rfl⟩) fun d ⟨o, ho, e⟩ => ?_
      · obtain ⟨d1, ds1, rfl, rfl, d2, ds2, rfl, ⟨o, a, rfl⟩, d3, ds3, rfl, rfl, rfl⟩ := h
        exact ⟨o, a, rfl⟩
      · subst e
        exact s_on (nx := nx) (rt := rt) (s_turn (E := ⟨nx, rt, nx, nx⟩) hnx ⟨.sort o u, ⟨ho, hu⟩, by show wt u + 1 ≤ _; omega, rfl, _, rfl⟩)
    · exact s_turn hnx ⟨u, hu, by omega, rfl, _, rfl⟩
  · obtain ⟨t, ht, hwt, rfl, g, rfl⟩ := iv
    rw [List.length_map] at hwt
    rw [List.length_map, List.take_length]
    have hlen := refs_len ok.ok
    rw [List.length_cons] at hlen
    refine s_ret O (x_tupD (a_consD (x_var 3 rfl) (a_consD (x_var 4 rfl) a_nil)) (by show 2 ≤ 1000; decide)) fun d q => q ▸ hR t _ ht (by omega) (refs_rf ok.ok) (nd_Ts ok.ok ok.nd) (by omega)
/-! ### _law_emptied -/
def empt : Tree → Tree
  | .heap t => .heap t
  | .index t n => .index t n
  | .sort _ a => .sort [] (empt a)
  | .merge p a b => .merge p (empt a) (empt b)
  | .seek a t n k => .seek (empt a) t n k
  | .op v a => .op v (empt a)
theorem empt_good : ∀ t : Tree, Good t → Good (empt t) ∧ wt (empt t) = wt t
  | .heap t, h => ⟨h, rfl⟩
  | .index t n, h => ⟨h, rfl⟩
  | .sort _ a, h => ⟨⟨⟨(fun _ z => by cases z), List.nodup_nil, Nat.zero_le _⟩, (empt_good a h.2).1⟩, congrArg (· + 1) (empt_good a h.2).2⟩
  | .merge p a b, h => ⟨⟨h.1, h.2.1, h.2.2.1, (empt_good a h.2.2.2.1).1, (empt_good b h.2.2.2.2).1⟩, by show wt (empt a) + wt (empt b) + 1 = wt a + wt b + 1; rw [(empt_good a h.2.2.2.1).2, (empt_good b h.2.2.2.2).2]⟩
  | .seek a t n k, h => ⟨⟨(empt_good a h.1).1, h.2⟩, congrArg (· + 1) (empt_good a h.1).2⟩
  | .op v a, h => ⟨⟨h.1, (empt_good a h.2).1⟩, congrArg (· + 1) (empt_good a h.2).2⟩
theorem sc38 : FnScope ["tree"] ["tree"] (defScope (top 38)) := ⟨rfl, rfl, rfl, by decide +kernel, rfl, by decide +kernel, by decide +kernel⟩
def gEmp (n : Nat) : GT := fun S ds R => ∃ t : Tree, Good t ∧ wt t ≤ n ∧ ds = [enc t] ∧ R (enc (empt t))
instance {n : Nat} : GK (gEmp n) := ⟨fun _ h => h⟩
theorem ok_emp (T : Tx K mg) (Dt : DefAt K mg "_law_emptied" (top 38)) : ∀ n, n ≤ 100 → Fnc P w K mg base (1 + n) "_law_emptied" ["tree"] (gEmp n) := by
  intro n
  induction n with
  | zero =>
    intro hn
    refine fnc_mk Dt sc38 (fun S ds R ⟨l, _, _, e, _⟩ => by rw [e] <;> rfl) (fun _ _ _ _ _ _ us hl => match us, hl with | [_], _ => rfl) (fun _ _ _ _ _ _ us hl => match us, hl with | [_], _ => rfl) fun f cdv A outer s H E hr S _ ds R g rt O => ?_
    obtain ⟨t, _, h, _⟩ := g
    have := wt1 t
    omega
  | succ n ih =>
    intro hn
    have ih := ih (by omega)
    refine fnc_mk Dt sc38 (fun S ds R ⟨l, _, _, e, _⟩ => by rw [e] <;> rfl) (fun _ _ _ _ _ _ us hl => match us, hl with | [_], _ => rfl) (fun _ _ _ _ _ _ us hl => match us, hl with | [_], _ => rfl) fun f cdv A outer s H E hr S _ ds R g rt O => ?_
    obtain ⟨t, ht, hw, rfl, hR⟩ := g
    have hr : Room (1 + n) (A.deeper (envOfC "_law_emptied" (defScope (top 38)) s.heap.objs.size f cdv)) := hr
    cases t with
    | heap t =>
      refine s_when (P := (· = true)) (XT.imp (t_in (u := .str (mkS wHeap)) (ys := [.str "heap", .str "index"]) (x_ixT (x_var 0 rfl) x_int rfl) (x_tupD (a_consD x_str (a_consD x_str a_nil))) (.inl rfl) rfl) fun c q => q.trans ((in_hi _).trans (by decide))) (fun _ => ?_) (fun q => by cases q)
      exact s_ret O (x_var 0 rfl) fun d q => q ▸ hR
    | index t u =>
      refine s_when (P := (· = true)) (XT.imp (t_in (u := .str (mkS wIndex)) (ys := [.str "heap", .str "index"]) (x_ixT (x_var 0 rfl) x_int rfl) (x_tupD (a_consD x_str (a_consD x_str a_nil))) (.inl rfl) rfl) fun c q => q.trans ((in_hi _).trans (by decide))) (fun _ => ?_) (fun q => by cases q)
      exact s_ret O (x_var 0 rfl) fun d q => q ▸ hR
    | sort o a =>
      have hwa : wt a ≤ n := by unfold wt at hw; omega
      refine s_when (P := (· = false)) (XT.imp (t_in (u := .str (mkS wSort)) (ys := [.str "heap", .str "index"]) (x_ixT (x_var 0 rfl) x_int rfl) (x_tupD (a_consD x_str (a_consD x_str a_nil))) (.inl rfl) rfl) fun c q => q.trans ((in_hi _).trans (by decide))) (fun q => by cases q) fun _ => ?_
      refine s_when (P := (· = true)) (XT.imp (t_eq (u := .str (mkS wSort)) (x_ixT (x_var 0 rfl) x_int rfl) x_str) fun c q => q.trans ((eq_mk sort_mk).trans (by decide))) (fun _ => ?_) (fun q => by cases q)
      exact s_ret O (x_tupD (a_consD (x_lit sort_mk) (a_consD (x_tupD a_nil) (a_consD (x_call ih hr (a1 (x_ixT (d := enc a) (x_var 0 rfl) x_int rfl)) fun ds q => ⟨a, ht.2, hwa, q, rfl⟩) a_nil))) (by show 3 ≤ 1000; decide)) fun d q => q ▸ hR
    | merge p a b =>
      obtain ⟨hp, hne, hl8, ha, hb⟩ := ht
      have hwab : wt a + wt b ≤ n := by unfold wt at hw; omega
      refine s_when (P := (· = false)) (XT.imp (t_in (u := .str (mkS wMerge)) (ys := [.str "heap", .str "index"]) (x_ixT (x_var 0 rfl) x_int rfl) (x_tupD (a_consD x_str (a_consD x_str a_nil))) (.inl rfl) rfl) fun c q => q.trans ((in_hi _).trans (by decide))) (fun q => by cases q) fun _ => ?_
      refine s_when (P := (· = false)) (XT.imp (t_eq (u := .str (mkS wMerge)) (x_ixT (x_var 0 rfl) x_int rfl) x_str) fun c q => q.trans ((eq_mk sort_mk).trans (by decide))) (fun q => by cases q) fun _ => ?_
      refine s_when (P := (· = true)) (XT.imp (t_eq (u := .str (mkS wMerge)) (x_ixT (x_var 0 rfl) x_int rfl) x_str) fun c q => q.trans ((eq_mk merge_mk).trans (by decide))) (fun _ => ?_) (fun q => by cases q)
      refine s_ret O (x_addT (ds := [sL wMerge, .tup (p.map encP)]) ((x_sliceT (x_var 0 rfl) o_none (o_int x_int)).imp fun d ⟨l, h, q1, q2, q3⟩ => by subst q1 q2; exact q3) (x_tupD (a_consD (x_call ih hr (a1 (x_ixT (d := enc a) (x_var 0 rfl) x_int rfl)) fun ds q => ⟨a, ha, by omega, q, rfl⟩) (a_consD (x_call ih hr (a1 (x_ixT (d := enc b) (x_var 0 rfl) x_int rfl)) fun ds q => ⟨b, hb, by omega, q, rfl⟩) a_nil)) (by show 2 ≤ 1000; decide)) (by show 2 + 2 ≤ 1000000; decide)) fun d q => q ▸ hR
    | seek a t u k =>
      have hwa : wt a ≤ n := by unfold wt at hw; omega
      refine s_when (P := (· = false)) (XT.imp (t_in (u := .str (mkS wSeek)) (ys := [.str "heap", .str "index"]) (x_ixT (x_var 0 rfl) x_int rfl) (x_tupD (a_consD x_str (a_consD x_str a_nil))) (.inl rfl) rfl) fun c q => q.trans ((in_hi _).trans (by decide))) (fun q => by cases q) fun _ => ?_
      refine s_when (P := (· = false)) (XT.imp (t_eq (u := .str (mkS wSeek)) (x_ixT (x_var 0 rfl) x_int rfl) x_str) fun c q => q.trans ((eq_mk sort_mk).trans (by decide))) (fun q => by cases q) fun _ => ?_
      refine s_when (P := (· = false)) (XT.imp (t_eq (u := .str (mkS wSeek)) (x_ixT (x_var 0 rfl) x_int rfl) x_str) fun c q => q.trans ((eq_mk merge_mk).trans (by decide))) (fun q => by cases q) fun _ => ?_
      refine s_ret O (x_addT (es := [sL t, sL u, .i (k : Int)]) (x_tupD (a_consD (x_ixT (d := sL wSeek) (x_var 0 rfl) x_int rfl) (a_consD (x_call ih hr (a1 (x_ixT (d := enc a) (x_var 0 rfl) x_int rfl)) fun ds q => ⟨a, ht.1, hwa, q, rfl⟩) a_nil)) (by show 2 ≤ 1000; decide)) ((x_sliceT (x_var 0 rfl) (o_int x_int) o_none).imp fun d ⟨l, h, q1, q2, q3⟩ => by subst q1 q2; exact q3.trans (congrArg D.tup cut_two)) (by show 2 + 3 ≤ 1000000; decide)) fun d q => q ▸ hR
    | op v a =>
      have hwa : wt a ≤ n := by unfold wt at hw; omega
      obtain ⟨n1, n2, n3, n4, n5⟩ := wOp_ne (w := v)
      refine s_when (P := (· = false)) (XT.imp (t_in (u := .str (mkS (wOp v))) (ys := [.str "heap", .str "index"]) (x_ixT (x_var 0 rfl) x_int rfl) (x_tupD (a_consD x_str (a_consD x_str a_nil))) (.inl rfl) rfl) fun c q => q.trans ((in_hi _).trans (decide_eq_false (by simp [n1, n2])))) (fun q => by cases q) fun _ => ?_
      refine s_when (P := (· = false)) (XT.imp (t_eq (u := .str (mkS (wOp v))) (x_ixT (x_var 0 rfl) x_int rfl) x_str) fun c q => q.trans ((eq_mk sort_mk).trans (decide_eq_false n3))) (fun q => by cases q) fun _ => ?_
      refine s_when (P := (· = false)) (XT.imp (t_eq (u := .str (mkS (wOp v))) (x_ixT (x_var 0 rfl) x_int rfl) x_str) fun c q => q.trans ((eq_mk merge_mk).trans (decide_eq_false n4))) (fun q => by cases q) fun _ => ?_
      refine s_ret O (x_addT (es := []) (x_tupD (a_consD (x_ixT (d := sL (wOp v)) (x_var 0 rfl) x_int rfl) (a_consD (x_call ih hr (a1 (x_ixT (d := enc a) (x_var 0 rfl) x_int rfl)) fun ds q => ⟨a, ht.2, hwa, q, rfl⟩) a_nil)) (by show 2 ≤ 1000; decide)) ((x_sliceT (x_var 0 rfl) (o_int x_int) o_none).imp fun d ⟨l, h, q1, q2, q3⟩ => by subst q1 q2; exact q3.trans (congrArg D.tup cut_two)) (by show 2 + 0 ≤ 1000000; decide)) fun d q => q ▸ hR
/-! ### _law_plan -/
theorem sc37 : FnScope ["pot", "tables", "tree", "references", "way"] ["pot", "tables"] (defScope (top 37)) := ⟨rfl, rfl, rfl, by decide +kernel, rfl, by decide +kernel, by decide +kernel⟩
def gLp (K : PySem.W.Frag) : GT := fun S ds R => ∃ (pot : Addr) (ts : List Tab), TabsOk ts ∧ ts.length = 3 ∧ PotIn K pot S ∧ ds = [.r pot, .lst (ts.map encT)] ∧ ∀ u : Tree, Good u → wt u ≤ 13 → R (enc u)
instance : GK (gLp K) := ⟨fun _ ⟨a, b, c, d, e, f, g⟩ => ⟨a, b, c, d, inferInstance, f, g⟩⟩
theorem first_mk : ("first" : Str) = mkS (wOp 2) := TL.ext_tl (by decide +kernel)
theorem ways_at {i : Int} (h : i = 1 ∨ i = 2) : ∃ v, v ≤ 1 ∧ atI [D.s "distinct", .s "groups"] (i - 1) = some (sL (wOp v)) := by
  have e1 : ("distinct" : Str) = mkS (wOp 0) := TL.ext_tl (by decide +kernel)
  have e2 : ("groups" : Str) = mkS (wOp 1) := TL.ext_tl (by decide +kernel)
  rcases h with rfl | rfl
  · exact ⟨0, by decide, by rw [e1, e2] <;> rfl⟩
  · exact ⟨1, by decide, by rw [e1, e2] <;> rfl⟩
theorem ok_lplan (T : Tx K mg) (Dt : DefAt K mg "_law_plan" (top 37)) (F : Fnc P w K mg base 1 "_law_draw" ["pot", "many"] (gDraw K)) (FE : Fnc P w K mg base 3 "_law_entries_of" ["pot", "references", "most"] (gEof K)) (FT : Fnc P w K mg base 6 "_law_stream" ["pot", "tables"] (gStream K)) (FX : Fnc P w K mg base 14 "_law_emptied" ["tree"] (gEmp 13)) :
    Fnc P w K mg base 15 "_law_plan" ["pot", "tables"] (gLp K) := by
  refine fnc_mk Dt sc37 (fun S ds R ⟨_, _, _, _, _, e, _⟩ => by rw [e] <;> rfl) (fun _ _ _ _ _ _ us hl => match us, hl with | [_, _], _ => rfl) (fun _ _ _ _ _ _ us hl => match us, hl with | [_, _], _ => rfl) fun f cdv A outer s H E hr S _ ds R g rt O => ?_
  obtain ⟨pot, ts, hts, hl3, hp, rfl, hR⟩ := g
  refine s_asg (R := fun d => ∃ (u : Tree) (refs : List (List Nat)), Good u ∧ wt u ≤ 10 ∧ (∀ r ∈ refs, Rf r) ∧ refs.Nodup ∧ refs.length ≤ 100 ∧ d = .tup [enc u, .lst (refs.map sL)]) (x_call FT (hr.mono (by decide)) (a2 (x_var 0 rfl) (x_var 1 rfl)) fun ds q => ⟨pot, ts, hts, hl3, hp, q, fun u refs a b c d e => ⟨u, refs, a, b, c, d, e, rfl⟩⟩) fun d ⟨u, refs, hu, hw, r1, r2, r3, e⟩ => ?_
  subst e
  refine ⟨_, _, g_tup rfl (gs_cons (g_name 2 sc37.nd) (gs_cons (g_name 3 sc37.nd) gs_nil)), ?_⟩
  refine s_set (R := fun d => ∃ i : Int, d = .i i) 4 sc37.nd (x_call F (hr.mono (by decide)) (a2 (x_var 0 rfl) x_int) fun ds q => ⟨pot, 5, by decide, by decide, hp, q, fun d a b => ⟨d, rfl⟩⟩) fun d ⟨i, e⟩ => ?_
  subst e
  have fin : ∀ v : Tree, Good v → wt v ≤ 12 → XS (dX P w K mg base ["pot", "tables", "tree", "references", "way"] "_law_plan" (defScope (top 37)) f cdv A outer s H E) S [some (.r pot), some (.lst (ts.map encT)), some (enc v), some (.lst (refs.map sL)), some (.i i)] ((defBody (top 37)).drop 3) ⟨fun _ H => rt .non H, rt, fun _ _ => False, fun _ _ => False⟩ := by
    intro v hv hwv
    refine s_when (P := fun _ => True) (XT.imp (t_eq (u := .int i) (x_var 4 rfl) x_int) fun _ _ => trivial) (fun _ => ?_) fun _ => ?_
    · exact s_ret O (x_call (R := (· = enc (empt v))) FX hr (a1 (x_var 2 rfl)) fun ds q => ⟨v, hv, by omega, q, rfl⟩) fun d q => q ▸ hR _ (empt_good v hv).1 (by rw [(empt_good v hv).2]; omega)
    · refine s_ret (R := R) O (x_ifE (P := fun _ => True) (t_eqR (Pi := fun _ => True) (x_call (R := fun d => ∃ i : Int, d = .i i ∧ True) F (hr.mono (by decide)) (a2 (x_var 0 rfl) x_int) fun ds q => ⟨pot, 3, by decide, by decide, hp, q, fun d a b => ⟨d, rfl, trivial⟩⟩) x_int) (fun _ => ?_) fun _ => ?_) fun d q => q
      · exact (x_tupD (a_consD (x_lit first_mk) (a_consD (x_var 2 rfl) a_nil)) (by show 2 ≤ 1000; decide)).imp fun d q => q ▸ hR (.op 2 v) ⟨by decide, hv⟩ (by show wt v + 1 ≤ 13; omega)
      · exact (x_var 2 rfl).imp fun d q => q ▸ hR v hv (by omega)
  refine s_when (P := fun c => c = true → i = 1 ∨ i = 2) (t_w (w_or (P1 := (· = decide (V.int i = V.int 1))) (t_eq (x_var 4 rfl) x_int) (fun _ => w_or1 (XT.imp (t_eq (u := .int i) (x_var 4 rfl) x_int) fun c q z => .inr ?_)) fun q _ => .inl ?_)) (fun q => ?_) fun _ => fin u hu (by omega)
  · rw [q] at z
    have := of_decide_eq_true z
    injection this
  · have := of_decide_eq_true q.symm
    injection this
  · obtain ⟨v, hv, hat⟩ := ways_at (q rfl)
    refine s_set (R := (· = enc (.op v u))) 2 sc37.nd (x_tupD (a_consD (x_ixL (x_lstD (a_consD x_str (a_consD x_str a_nil))) (x_subI (x_var 4 rfl) x_int) hat) (a_consD (x_var 2 rfl) a_nil)) (by show 2 ≤ 1000; decide)) fun d q => ?_
    subst q
    have hg : Good (.op v u) := ⟨by omega, hu⟩
    have hwo : wt (.op v u) = wt u + 1 := rfl
    refine s_when (P := fun _ => True) (t_eqR (Pi := fun _ => True) (x_call (R := fun d => ∃ i : Int, d = .i i ∧ True) F (hr.mono (by decide)) (a2 (x_var 0 rfl) x_int) fun ds q => ⟨pot, 2, by decide, by decide, hp, q, fun d a b => ⟨d, rfl, trivial⟩⟩) x_int) (fun _ => ?_) fun _ => ?_
    · refine s_set (R := fun d => ∃ o, OkO o ∧ d = enc (.sort o (.op v u))) 2 sc37.nd ((x_tup (RA := fun ds => ∃ o, OkO o ∧ ds = [sL wSort, encO o, enc (.op v u)]) (a_imp (a_cons (x_lit sort_mk) (a_cons (x_call (R := fun d => ∃ o, OkO o ∧ d = encO o) FE (hr.mono (by decide)) (a_consD (x_var 0 rfl) (a_consD (x_var 3 rfl) (a_consD x_int a_nil))) fun ds q => ⟨pot, refs, 3, r1, r2, r3, by decide, by decide, hp, q, fun o ho => ⟨o, ho, rfl⟩⟩) (a_cons (x_var 2 rfl) a_nil))) fun ds h => ?_) fun ds ⟨o, _, e⟩ => by rw [e]; show 3 ≤ 1000; decide).imp fun d ⟨ds, e, o, a, e2⟩ => ⟨o, a, by rw [e, e2] <;> rfl⟩) fun d ⟨o, ho, e⟩ => ?_
      · obtain ⟨d1, ds1, rfl, rfl, d2, ds2, rfl, ⟨o, a, rfl⟩, d3, ds3, rfl, rfl, rfl⟩ := h
        exact ⟨o, a, rfl⟩
      · subst e
        refine s_on (nx := fun _ _ => True) (s_on (nx := fun _ H => rt .non H) (fin (.sort o (.op v u)) ⟨ho, hg⟩ ?_))
        show wt (.op v u) + 1 ≤ 12
        omega
    · exact s_on (nx := fun _ _ => True) (fin (.op v u) hg (by omega))
end
end K96

namespace K96
open PySem PySem.Spec PyProof.Rows L2 Z
theorem s_down : (" down" : Str) = mkS (32 :: wDown) := TL.ext_tl (by decide +kernel)
theorem x_addM {X : Cx} {S : SRel} {Γ : Gm} {a b : Expr} {pos : Pos} {l m : List Nat} (ha : XE X S Γ a (· = sL l)) (hb : XE X S Γ b (· = sL m)) (hz : l.length + m.length ≤ 1000000) : XE X S Γ (.BinOp a .Add b pos) (· = sL (l ++ m)) := (x_addS ha hb (by rw [len_mkS, len_mkS]; exact hz)).is (by rw [mkS_app])
theorem encO_py (o : List (List Nat × Bool)) : (encO o).py = .tuple (o.map pyE) := by
  show PyData.tuple (pyA (o.map encE)) = _
  rw [pyA_map, List.map_map] <;> rfl
theorem encO_plain (o : List (List Nat × Bool)) : (encO o).plain = true := by
  show plainA (o.map encE) = true
  exact plainA_all fun d hd => by obtain ⟨e, _, rfl⟩ := List.mem_map.mp hd; rfl
theorem shape_O {o : List (List Nat × Bool)} (ho : OkO o) : SeqAt.shaped (.tuple (o.map pyE)) = true := by
  have h1 : okcA (o.map pyE) = true → PyData.canLayAll0 (o.map pyE) = true := okcA_lay _
  refine Bool.and_eq_true_iff.mpr ⟨h1 (okcA_all fun d hd => ?_), decide_eq_true ?_⟩
  · obtain ⟨e, he, rfl⟩ := List.mem_map.mp hd
    exact okc_E (ho.rf e he)
  · have : PyData.depthAll (o.map pyE) ≤ 1 := depthA_le fun d hd => by
      obtain ⟨x, _, rfl⟩ := List.mem_map.mp hd
      simp [pyE, PyData.depth, PyData.depthAll]
    show PyData.depthAll (o.map pyE) + 1 ≤ 64
    omega
theorem eqv_nilT (o : List (List Nat × Bool)) : PyData.eqv (.tuple (o.map pyE)) (.tuple []) = decide (o = []) := by
  cases o with
  | nil => rfl
  | cons a l =>
    show false = _
    exact (decide_eq_false (by simp)).symm
section
variable {P : Program} {w : World} {K : PySem.W.Frag} {mg : Str → Option Value} {base : Heap} {C : Addr}
theorem sc39 : FnScope ["entry"] ["entry"] (defScope (top 39)) := ⟨rfl, rfl, rfl, by decide +kernel, rfl, by decide +kernel, by decide +kernel⟩
theorem ok_le (T : Tx K mg) (Dt : DefAt K mg "_law_entry_text" (top 39)) : Fnc P w K mg base 1 "_law_entry_text" ["entry"] gETx := by
  refine fnc_mk Dt sc39 (fun S ds R ⟨l, _, e, _⟩ => by rw [e] <;> rfl) (fun _ _ _ _ _ _ us hl => match us, hl with | [_], _ => rfl) (fun _ _ _ _ _ _ us hl => match us, hl with | [_], _ => rfl) fun f cdv A outer s H E hr S _ ds R g rt O => ?_
  obtain ⟨e, he, rfl, hR⟩ := g
  have hl := he.len
  refine s_ret (R := (· = sL (txtE e))) O (x_ifE (t_eq (u := .str (mkS (dir e.2))) (x_ixT (x_var 0 rfl) x_int rfl) x_str) (fun q => (x_ixT (d := sL e.1) (x_var 0 rfl) x_int rfl).is ?_) fun q => (x_addM (x_ixT (d := sL e.1) (x_var 0 rfl) x_int rfl) (x_lit s_down) (by simp [wDown]; omega)).is ?_) fun d q => q ▸ hR
  · have q2 := q.symm
    rw [dir_up] at q2
    unfold txtE
    rw [if_pos q2]
  · have q2 := q.symm
    rw [dir_up] at q2
    unfold txtE
    rw [q2, if_neg (by decide)]
theorem sc40 : FnScope ["entries", "entry"] ["entries"] (defScope (top 40)) := ⟨rfl, rfl, rfl, by decide +kernel, rfl, by decide +kernel, by decide +kernel⟩
def gOTx : GT := fun S ds R => ∃ o, OkO o ∧ ds = [encO o] ∧ R (sL (txtO o))
instance : GK gOTx := ⟨fun _ h => h⟩
theorem ok_lo (T : Tx K mg) (Dt : DefAt K mg "_law_order_text" (top 40)) (F : Fnc P w K mg base 1 "_law_entry_text" ["entry"] gETx) : Fnc P w K mg base 2 "_law_order_text" ["entries"] gOTx := by
  refine fnc_mk Dt sc40 (fun S ds R ⟨l, _, e, _⟩ => by rw [e] <;> rfl) (fun _ _ _ _ _ _ us hl => match us, hl with | [_], _ => rfl) (fun _ _ _ _ _ _ us hl => match us, hl with | [_], _ => rfl) fun f cdv A outer s H E hr S _ ds R g rt O => ?_
  obtain ⟨o, ho, rfl, hR⟩ := g
  have hz := ho.hi
  refine s_ret (R := (· = sL (txtO o))) O (x_ifE (P := (· = decide (o = []))) (XT.imp (t_eqP (hr.mono (Nat.zero_le _)) (x_var 0 rfl) (x_tupD a_nil) (encO_plain o) rfl ?_ rfl) fun c q => q.trans ?_) (fun q => ?_) fun q => ?_) fun d q => q ▸ hR
  · rw [encO_py]
    exact shape_O ho
  · rw [encO_py]
    exact eqv_nilT o
  · have h : o = [] := of_decide_eq_true q.symm
    refine (x_lit none_mk).is ?_
    rw [txtO, if_pos h]
  · have h : ¬ o = [] := of_decide_eq_false q.symm
    refine (x_joinK (ls := o.map txtE) 22 8 x_str (.inl (XN.xD (n_lcD (own := [("entry", 1)]) (((o.map txtE).map mkS).map .s) (by simp) (by simp; omega) rfl sc40.nd (blkOk_by (N := ["entries", "entry"]) (sc := defScope (top 40)) (by decide +kernel)) (i_tup (ds := o.map encE) (x_var 0 rfl)) fun k d r yd hk => ?_))) (fun l hl => ?_) (by simpa using hz) (by decide)).is ?_
    · rw [List.getElem?_map] at yd
      rw [List.map_map, List.map_map, List.getElem?_map] at hk
      cases he : o[k]? with
      | none => rw [he] at hk; cases hk
      | some e =>
      rw [he] at yd hk
      cases yd
      cases hk
      exact lt_map 1 sc40.nd fun s H0 C cl fp l as => x_call F hr (a1 (x_var 1 rfl)) fun ds q => ⟨e, ho.rf e (List.mem_of_getElem? he), q, rfl⟩
    · obtain ⟨e, he, rfl⟩ := List.mem_map.mp hl
      exact txtE_len (ho.rf e he)
    · rw [txtO, if_neg h]
theorem sc41 : FnScope ["pair"] ["pair"] (defScope (top 41)) := ⟨rfl, rfl, rfl, by decide +kernel, rfl, by decide +kernel, by decide +kernel⟩
theorem ok_lp (T : Tx K mg) (Dt : DefAt K mg "_law_pair_text" (top 41)) (F : Fnc P w K mg base 1 "_law_entry_text" ["entry"] gETx) : Fnc P w K mg base 2 "_law_pair_text" ["pair"] gPTx := by
  refine fnc_mk Dt sc41 (fun S ds R ⟨l, _, _, e, _⟩ => by rw [e] <;> rfl) (fun _ _ _ _ _ _ us hl => match us, hl with | [_], _ => rfl) (fun _ _ _ _ _ _ us hl => match us, hl with | [_], _ => rfl) fun f cdv A outer s H E hr S _ ds R g rt O => ?_
  obtain ⟨e, h1, h2, rfl, hR⟩ := g
  have l1 := h1.len
  have l2 := txtE_len (e := e.2) h2
  refine s_ret (R := (· = sL (txtP e))) O ((x_addM (x_addM (x_ixT (d := sL e.1) (x_var 0 rfl) x_int rfl) (x_lit s_eq) (by simp; omega)) (x_call (R := (· = sL (txtE e.2))) F hr (a1 (d := encE e.2) ((x_sliceT (x_var 0 rfl) (o_int x_int) o_none).imp fun d ⟨l, h, q1, q2, q3⟩ => by subst q1 q2; exact q3.trans (congrArg D.tup cut_one))) fun ds q => ⟨e.2, h2, q, rfl⟩) (by simp; omega)).is rfl) fun d q => q ▸ hR
theorem sc42 : FnScope ["tree", "parts", "pair"] ["tree"] (defScope (top 42)) := ⟨rfl, rfl, rfl, by decide +kernel, rfl, by decide +kernel, by decide +kernel⟩
theorem ok_ltext (T : Tx K mg) (Dt : DefAt K mg "_law_text" (top 42)) (FO : Fnc P w K mg base 2 "_law_order_text" ["entries"] gOTx) (FP : Fnc P w K mg base 2 "_law_pair_text" ["pair"] gPTx) : ∀ n, n ≤ 100 → Fnc P w K mg base (3 + n) "_law_text" ["tree"] (gPlan n) := by
  intro n
  induction n with
  | zero =>
    intro hn
    refine fnc_mk Dt sc42 (fun S ds R ⟨l, _, _, e, _⟩ => by rw [e] <;> rfl) (fun _ _ _ _ _ _ us hl => match us, hl with | [_], _ => rfl) (fun _ _ _ _ _ _ us hl => match us, hl with | [_], _ => rfl) fun f cdv A outer s H E hr S _ ds R g rt O => ?_
    obtain ⟨t, _, h, _⟩ := g
    have := wt1 t
    omega
  | succ n ih =>
    intro hn
    have ih := ih (by omega)
    refine fnc_mk Dt sc42 (fun S ds R ⟨l, _, _, e, _⟩ => by rw [e] <;> rfl) (fun _ _ _ _ _ _ us hl => match us, hl with | [_], _ => rfl) (fun _ _ _ _ _ _ us hl => match us, hl with | [_], _ => rfl) fun f cdv A outer s H E hr S _ ds R g rt O => ?_
    obtain ⟨t, ht, hw, rfl, hR⟩ := g
    have hr : Room (3 + n) (A.deeper (envOfC "_law_text" (defScope (top 42)) s.heap.objs.size f cdv)) := hr
    have hr3 := hr.mono (Nat.le_add_right 3 n)
    have htx := txt_len t ht
    have fin : ∀ g2, XS (dX P w K mg base ["tree", "parts", "pair"] "_law_text" (defScope (top 42)) f cdv A outer s H E) S [some (enc t), some (sL (body t)), g2] ((defBody (top 42)).drop 1) ⟨fun _ H => rt .non H, rt, fun _ _ => False, fun _ _ => False⟩ := by
      intro g2
      have htz : (wof t).length + ((body t).length + 2) = (txt t).length := by simp [txt] <;> omega
      refine s_ret (R := (· = sL (txt t))) O ((x_addM (l := wof t ++ [40] ++ body t) (x_addM (x_addM (l := wof t) (XE.is (d := sL (wof t)) ?_ rfl) (x_lit s_lp) (by simp; omega)) (x_var 1 rfl) (by simp; omega)) (x_lit s_rp) (by simp; omega)).is ?_) fun d q => q ▸ hR
      · cases t <;> exact x_ixT (x_var 0 rfl) x_int rfl
      · simp [txt]
    cases t with
    | heap t =>
      refine s_if (P := (· = true)) (XT.imp (t_eq (u := .str (mkS wHeap)) (x_ixT (x_var 0 rfl) x_int rfl) x_str) fun c q => q.trans ((eq_mk heap_mk).trans (by decide))) (fun _ => ?_) (fun q => by cases q)
      refine s_set (R := (· = sL t)) 1 sc42.nd (x_ixT (x_var 0 rfl) x_int rfl) fun d q => ?_
      subst q
      exact s_on (nx := fun _ H => rt .non H) (fin none)
    | index t u =>
      have h1 := ht.1.hi
      have h2 := ht.2.hi
      refine s_if (P := (· = false)) (XT.imp (t_eq (u := .str (mkS wIndex)) (x_ixT (x_var 0 rfl) x_int rfl) x_str) fun c q => q.trans ((eq_mk heap_mk).trans (by decide))) (fun q => by cases q) fun _ => ?_
      refine s_if (P := (· = true)) (XT.imp (t_eq (u := .str (mkS wIndex)) (x_ixT (x_var 0 rfl) x_int rfl) x_str) fun c q => q.trans ((eq_mk index_mk).trans (by decide))) (fun _ => ?_) (fun q => by cases q)
      refine s_set (R := (· = sL (body (.index t u)))) 1 sc42.nd ((x_addM (x_addM (x_ixT (d := sL t) (x_var 0 rfl) x_int rfl) (x_lit s_sep) (by simp [sep]; omega)) (x_ixT (d := sL u) (x_var 0 rfl) x_int rfl) (by simp [sep]; omega)).is (by simp [body])) fun d q => ?_
      subst q
      exact s_on (nx := fun _ _ => True) (s_on (nx := fun _ H => rt .non H) (fin none))
    | sort o a =>
      have hwa : wt a ≤ n := by unfold wt at hw; omega
      have h1 := txtO_len ht.1
      have h2 := txt_len a ht.2
      refine s_if (P := (· = false)) (XT.imp (t_eq (u := .str (mkS wSort)) (x_ixT (x_var 0 rfl) x_int rfl) x_str) fun c q => q.trans ((eq_mk heap_mk).trans (by decide))) (fun q => by cases q) fun _ => ?_
      refine s_if (P := (· = false)) (XT.imp (t_eq (u := .str (mkS wSort)) (x_ixT (x_var 0 rfl) x_int rfl) x_str) fun c q => q.trans ((eq_mk index_mk).trans (by decide))) (fun q => by cases q) fun _ => ?_
      refine s_if (P := (· = true)) (XT.imp (t_eq (u := .str (mkS wSort)) (x_ixT (x_var 0 rfl) x_int rfl) x_str) fun c q => q.trans ((eq_mk sort_mk).trans (by decide))) (fun _ => ?_) (fun q => by cases q)
      refine s_set (R := (· = sL (body (.sort o a)))) 1 sc42.nd ((x_addM (x_addM (x_call (R := (· = sL (txtO o))) FO (hr3.mono (by decide)) (a1 (x_ixT (d := encO o) (x_var 0 rfl) x_int rfl)) fun ds q => ⟨o, ht.1, q, rfl⟩) (x_lit s_semi) (by simp [semi]; omega)) (x_call (R := (· = sL (txt a))) ih hr (a1 (x_ixT (d := enc a) (x_var 0 rfl) x_int rfl)) fun ds q => ⟨a, ht.2, hwa, q, rfl⟩) (by simp [semi, -List.length_append]; rw [List.length_append]; simp; omega)).is (by rw [List.append_assoc] <;> rfl)) fun d q => ?_
      subst q
      exact s_on (nx := fun _ _ => True) (s_on (nx := fun _ _ => True) (s_on (nx := fun _ H => rt .non H) (fin none)))
    | merge p a b =>
      obtain ⟨hp, hne, hl8, ha, hb⟩ := ht
      have h1 := pairs_len hp hl8
      have h2 := txt_len a ha
      have h3 := txt_len b hb
      have hwab : wt a + wt b ≤ n := by unfold wt at hw; omega
      refine s_if (P := (· = false)) (XT.imp (t_eq (u := .str (mkS wMerge)) (x_ixT (x_var 0 rfl) x_int rfl) x_str) fun c q => q.trans ((eq_mk heap_mk).trans (by decide))) (fun q => by cases q) fun _ => ?_
      refine s_if (P := (· = false)) (XT.imp (t_eq (u := .str (mkS wMerge)) (x_ixT (x_var 0 rfl) x_int rfl) x_str) fun c q => q.trans ((eq_mk index_mk).trans (by decide))) (fun q => by cases q) fun _ => ?_
      refine s_if (P := (· = false)) (XT.imp (t_eq (u := .str (mkS wMerge)) (x_ixT (x_var 0 rfl) x_int rfl) x_str) fun c q => q.trans ((eq_mk sort_mk).trans (by decide))) (fun q => by cases q) fun _ => ?_
      refine s_if (P := (· = true)) (XT.imp (t_eq (u := .str (mkS wMerge)) (x_ixT (x_var 0 rfl) x_int rfl) x_str) fun c q => q.trans ((eq_mk merge_mk).trans (by decide))) (fun _ => ?_) (fun q => by cases q)
      refine s_set (R := (· = sL (TL.joinL sep (p.map txtP)))) 1 sc42.nd (x_joinK 42 8 x_str (.inl (XN.xD (n_lcD (own := [("pair", 2)]) (((p.map txtP).map mkS).map .s) (by simp) (by simp; omega) rfl sc42.nd (blkOk_by (N := ["tree", "parts", "pair"]) (sc := defScope (top 42)) (by decide +kernel)) (i_tup (ds := p.map encP) (x_ixT (x_var 0 rfl) x_int rfl)) fun k d r yd hk => ?_))) (fun l hl => ?_) (by simpa using hl8) (by decide)) fun d q => ?_
      · rw [List.getElem?_map] at yd
        rw [List.map_map, List.map_map, List.getElem?_map] at hk
        cases he : p[k]? with
        | none => rw [he] at hk; cases hk
        | some e =>
        rw [he] at yd hk
        cases yd
        cases hk
        have hm := hp e (List.mem_of_getElem? he)
        exact lt_map 2 sc42.nd fun s H0 C cl fp l as => x_call FP (hr3.mono (by decide)) (a1 (x_var 2 rfl)) fun ds q => ⟨e, hm.1, hm.2, q, rfl⟩
      · obtain ⟨e, he, rfl⟩ := List.mem_map.mp hl
        exact txtP_len (hp e he)
      subst q
      refine s_set (R := (· = sL (body (.merge p a b)))) 1 sc42.nd ((x_addM (x_addM (x_addM (x_addM (x_var 1 rfl) (x_lit s_semi) ?_) (x_call (R := (· = sL (txt a))) ih hr (a1 (x_ixT (d := enc a) (x_var 0 rfl) x_int rfl)) fun ds q => ⟨a, ha, by omega, q, rfl⟩) ?_) (x_lit s_semi) ?_) (x_call (R := (· = sL (txt b))) ih hr (a1 (x_ixT (d := enc b) (x_var 0 rfl) x_int rfl)) fun ds q => ⟨b, hb, by omega, q, rfl⟩) ?_).is ?_) fun d q => ?_
      · show _ + 2 ≤ _; omega
      · rw [List.length_append]; show _ + 2 + _ ≤ _; omega
      · rw [List.length_append, List.length_append]; show _ + 2 + _ + 2 ≤ _; omega
      · rw [List.length_append, List.length_append, List.length_append]; show _ + 2 + _ + 2 + _ ≤ _; omega
      · rw [List.append_assoc, List.append_assoc, List.append_assoc] <;> rfl
      subst q
      exact s_on (nx := fun _ _ => True) (s_on (nx := fun _ _ => True) (s_on (nx := fun _ _ => True) (s_on (nx := fun _ H => rt .non H) (fin none))))
    | seek a t u k =>
      obtain ⟨ha, h3, h4, hk⟩ := ht
      have l3 := h3.hi
      have l4 := h4.hi
      have h2 := txt_len a ha
      have hwa : wt a ≤ n := by unfold wt at hw; omega
      refine s_if (P := (· = false)) (XT.imp (t_eq (u := .str (mkS wSeek)) (x_ixT (x_var 0 rfl) x_int rfl) x_str) fun c q => q.trans ((eq_mk heap_mk).trans (by decide))) (fun q => by cases q) fun _ => ?_
      refine s_if (P := (· = false)) (XT.imp (t_eq (u := .str (mkS wSeek)) (x_ixT (x_var 0 rfl) x_int rfl) x_str) fun c q => q.trans ((eq_mk index_mk).trans (by decide))) (fun q => by cases q) fun _ => ?_
      refine s_if (P := (· = false)) (XT.imp (t_eq (u := .str (mkS wSeek)) (x_ixT (x_var 0 rfl) x_int rfl) x_str) fun c q => q.trans ((eq_mk sort_mk).trans (by decide))) (fun q => by cases q) fun _ => ?_
      refine s_if (P := (· = false)) (XT.imp (t_eq (u := .str (mkS wSeek)) (x_ixT (x_var 0 rfl) x_int rfl) x_str) fun c q => q.trans ((eq_mk merge_mk).trans (by decide))) (fun q => by cases q) fun _ => ?_
      refine s_if (P := (· = true)) (XT.imp (t_eq (u := .str (mkS wSeek)) (x_ixT (x_var 0 rfl) x_int rfl) x_str) fun c q => q.trans ((eq_mk seek_mk).trans (by decide))) (fun _ => ?_) (fun q => by cases q)
      refine s_set (R := (· = sL (body (.seek a t u k)))) 1 sc42.nd ((x_addM (m := TL.joinL sep [t, u, [48 + k]]) (x_addM (x_call (R := (· = sL (txt a))) ih hr (a1 (x_ixT (d := enc a) (x_var 0 rfl) x_int rfl)) fun ds q => ⟨a, ha, hwa, q, rfl⟩) (x_lit s_semi) ?_) (x_joinK (ls := [t, u, [48 + k]]) 8 3 x_str (.inl (x_lstD (a_consD (x_ixT (d := sL t) (x_var 0 rfl) x_int rfl) (a_consD (x_ixT (d := sL u) (x_var 0 rfl) x_int rfl) (a_consD ((x_strI (n := (k : Int)) (x_ixT (x_var 0 rfl) x_int rfl) ?_ T.str).is (by rw [toS k hk])) a_nil))) (by show 3 ≤ 1000; decide))) ?_ (by simp) (by decide)) ?_).is ?_) fun d q => ?_
      · show _ + 2 ≤ _; omega
      · obtain rfl | rfl | rfl : k = 1 ∨ k = 2 ∨ k = 3 := by omega
        all_goals decide
      · intro l hl
        rcases List.mem_cons.mp hl with rfl | hl
        · exact l3
        · rcases List.mem_cons.mp hl with rfl | hl
          · exact l4
          · rw [List.mem_singleton.mp hl]; exact (by decide : 1 ≤ 8)
      · rw [List.length_append]
        show _ + 2 + (t ++ (sep ++ (u ++ (sep ++ [48 + k])))).length ≤ _
        simp [sep]
        omega
      · rw [List.append_assoc] <;> rfl
      subst q
      exact s_on (nx := fun _ _ => True) (s_on (nx := fun _ _ => True) (s_on (nx := fun _ _ => True) (s_on (nx := fun _ _ => True) (s_on (nx := fun _ H => rt .non H) (fin none)))))
    | op v a =>
      have hwa : wt a ≤ n := by unfold wt at hw; omega
      obtain ⟨n1, n2, n3, n4, n5⟩ := wOp_ne (w := v)
      refine s_if (P := (· = false)) (XT.imp (t_eq (u := .str (mkS (wOp v))) (x_ixT (x_var 0 rfl) x_int rfl) x_str) fun c q => q.trans ((eq_mk heap_mk).trans (decide_eq_false n1))) (fun q => by cases q) fun _ => ?_
      refine s_if (P := (· = false)) (XT.imp (t_eq (u := .str (mkS (wOp v))) (x_ixT (x_var 0 rfl) x_int rfl) x_str) fun c q => q.trans ((eq_mk index_mk).trans (decide_eq_false n2))) (fun q => by cases q) fun _ => ?_
      refine s_if (P := (· = false)) (XT.imp (t_eq (u := .str (mkS (wOp v))) (x_ixT (x_var 0 rfl) x_int rfl) x_str) fun c q => q.trans ((eq_mk sort_mk).trans (decide_eq_false n3))) (fun q => by cases q) fun _ => ?_
      refine s_if (P := (· = false)) (XT.imp (t_eq (u := .str (mkS (wOp v))) (x_ixT (x_var 0 rfl) x_int rfl) x_str) fun c q => q.trans ((eq_mk merge_mk).trans (decide_eq_false n4))) (fun q => by cases q) fun _ => ?_
      refine s_if (P := (· = false)) (XT.imp (t_eq (u := .str (mkS (wOp v))) (x_ixT (x_var 0 rfl) x_int rfl) x_str) fun c q => q.trans ((eq_mk seek_mk).trans (decide_eq_false n5))) (fun q => by cases q) fun _ => ?_
      refine s_set (R := (· = sL (body (.op v a)))) 1 sc42.nd ((x_call (R := (· = sL (txt a))) ih hr (a1 (x_ixT (d := enc a) (x_var 0 rfl) x_int rfl)) fun ds q => ⟨a, ht.2, hwa, q, rfl⟩).is rfl) fun d q => ?_
      subst q
      exact s_on (nx := fun _ _ => True) (s_on (nx := fun _ _ => True) (s_on (nx := fun _ _ => True) (s_on (nx := fun _ _ => True) (s_on (nx := fun _ H => rt .non H) (fin none)))))
end
end K96

namespace K96
open PySem PySem.Spec PyProof.Rows L2 Z
theorem shape_py {t : Tree} (h : Good t) (hw : wt t ≤ 13) : SeqAt.shaped (py t) = true := by
  have := depth_py t
  exact Bool.and_eq_true_iff.mpr ⟨okc_lay _ (okc_py t h), decide_eq_true (by omega)⟩
theorem ne_self {v : V} : (!decide (v = v)) = false := by rw [decide_eq_true rfl] <;> rfl
theorem enc_tup (t : Tree) : ∃ ds, enc t = .tup ds := by cases t <;> exact ⟨_, rfl⟩
theorem noDict_okc (d : PyData) (h : okc d = true) : d.hasDict = false := PyData.hasDict_of_canLay d (okc_lay d h)
section
variable {P : Program} {w : World} {K : PySem.W.Frag} {mg : Str → Option Value} {base : Heap} {C : Addr}
theorem sc43 : FnScope ["pot", "tables", "plans", "one", "shown", "other", "turn"] ["pot"] (defScope (top 43)) := ⟨rfl, rfl, rfl, by decide +kernel, rfl, by decide +kernel, by decide +kernel⟩
def gRight (K : PySem.W.Frag) : GT := fun S ds R => ∃ pot : Addr, PotIn K pot S ∧ ds = [.r pot] ∧ R (.b true)
instance : GK (gRight K) := ⟨fun _ ⟨a, b, c, d⟩ => ⟨a, inferInstance, c, d⟩⟩
theorem ok_right (T : Tx K mg) (Dt : DefAt K mg "_law_right" (top 43)) (FT : Fnc P w K mg base 4 "_law_tables" ["pot"] (gTabs K)) (FP : Fnc P w K mg base 15 "_law_plan" ["pot", "tables"] (gLp K)) (FX : Fnc P w K mg base 20 "plan_text" ["plan"] (gPlan 13)) (FL : Fnc P w K mg base 16 "_law_text" ["tree"] (gPlan 13)) :
    FncG P w K mg base 21 "_law_right" ["pot"] (gRight K) := by
  refine fncG_mk Dt sc43 (fun S ds R ⟨_, _, e, _⟩ => by rw [e] <;> rfl) (fun _ _ _ _ _ _ us hl => match us, hl with | [_], _ => rfl) fun f cdv A outer s H E hr hgu S _ ds R g rt O => ?_
  obtain ⟨pot, hp, rfl, hR⟩ := g
  refine s_set (R := fun d => ∃ ts : List Tab, TabsOk ts ∧ ts.length = 3 ∧ d = .lst (ts.map encT)) 1 sc43.nd (x_call FT (hr.mono (by decide)) (a1 (x_var 0 rfl)) fun ds q => ⟨pot, hp, q, fun ts a b c => ⟨ts, ⟨b, c⟩, a, rfl⟩⟩) fun d ⟨ts, hts, hl3, e⟩ => ?_
  subst e
  refine s_setLc (own := [("turn", 6)]) (n := 5) 2 rfl sc43.nd (blkOk_by (N := ["pot", "tables", "plans", "one", "shown", "other", "turn"]) (sc := defScope (top 43)) (by decide +kernel)) (i_range1 (n := 5) x_int (by decide) T.range) (fun k acc => ∃ us : List Tree, us.length = k ∧ (∀ u ∈ us, Good u ∧ wt u ≤ 13) ∧ acc = us.map enc) ⟨[], rfl, (fun _ h => by cases h), rfl⟩
    (fun k d acc hk yd ⟨us, h1, h2, h3⟩ => lt_map 6 sc43.nd fun s H0 C cl fp q as => (x_call (R := fun d => ∃ u : Tree, Good u ∧ wt u ≤ 13 ∧ d = enc u) FP (hr.mono (by decide)) (a2 (x_var 0 rfl) (x_var 1 rfl)) fun ds q' => ⟨pot, ts, hts, hl3, inferInstanceAs (PotIn K pot (own K q as S)), q', fun u a b => ⟨u, a, b, rfl⟩⟩).imp fun d ⟨u, a, b, e⟩ => ⟨us ++ [u], by simp [h1], fun z hz => ?_, by rw [h3, e, List.map_append] <;> rfl⟩)
    (fun k acc hk ⟨us, h1, h2, h3⟩ => by rw [h3, List.length_map, h1]; omega) fun l ds ⟨us, h1, h2, h3⟩ => ?_
  · rcases List.mem_append.mp hz with z1 | z1
    · exact h2 z z1
    · rw [List.mem_singleton.mp z1]; exact ⟨a, b⟩
  subst h3
  refine s_give 2 rfl ?_
  have plan : ∀ {X : Cx} {S : SRel} [SOk S] {Γ : Gm} {e : Expr} {p pos : Pos} {t : Tree}, X.prog = P → True := fun _ => trivial
  refine s_for (Iv := fun k S' Γ' => S' = S ∧ ∃ a b c d, Γ' = [some (.r pot), some (.lst (ts.map encT)), some (.lst (us.map enc)), a, b, c, d]) rfl PassesOwn.never (i_list (ds := us.map enc) (x_var 2 rfl)) ⟨rfl, _, _, _, _, rfl⟩ (fun k S' Γ' ⟨h, _⟩ => by rw [h]; infer_instance) (fun k d B1 S' Γ' hk yd iv => ?_) fun S' Γ' iv => ?_
  · obtain ⟨rfl, g1, g2, g3, g4, rfl⟩ := iv
    rw [List.getElem?_map] at yd
    cases hx : us[k]? with
    | none => rw [hx] at yd; cases yd
    | some t =>
    rw [hx] at yd
    cases yd
    obtain ⟨ht, hwt⟩ := h2 t (List.mem_of_getElem? hx)
    have hsz := size_py t ht
    have hln := okc_len (py t) (okc_py t ht)
    have hdp := depth_py t
    refine ⟨_, _, g_name 3 sc43.nd, fun nx hnx => ?_⟩
    refine s_set (R := (· = .s (py t).shown)) 4 sc43.nd ((x_repr hgu hr (x_var 3 rfl) (.inl (enc_tup t)) (enc_plain t) (by rw [enc_py]; exact okc_show _ (okc_py t ht)) (by rw [enc_py]; exact noDict_okc _ (okc_py t ht)) (by rw [enc_py]; omega) (by rw [enc_py]; omega) T.repr).is (by rw [enc_py])) fun d q => ?_
    subst q
    refine s_when (P := (· = false)) (t_w (w_or (P1 := (· = false)) (XT.imp (t_ne (u := .str (mkS (txt t))) (v := .str (mkS (txt t))) (x_call (R := (· = sL (txt t))) FX (hr.mono (by decide)) (a1 (x_var 3 rfl)) fun ds q => ⟨t, ht, hwt, q, rfl⟩) (x_call (R := (· = sL (txt t))) FL (hr.mono (by decide)) (a1 (x_var 3 rfl)) fun ds q => ⟨t, ht, hwt, q, rfl⟩)) fun c q => q.trans ne_self) (fun _ =>
      w_or (P1 := (· = false)) (XT.imp (t_ne (u := .str (mkS (txt t))) (v := .str (mkS (txt t))) (x_callK (R := (· = sL (txt t))) FX (hr.mono (by decide)) (k_cons (x_var 3 rfl) k_nil) fun ds ⟨d1, ds1, e1, e2, e3⟩ => ⟨t, ht, hwt, by rw [e1, e2, e3], rfl⟩) (x_call (R := (· = sL (txt t))) FL (hr.mono (by decide)) (a1 (x_var 3 rfl)) fun ds q => ⟨t, ht, hwt, q, rfl⟩)) fun c q => q.trans ne_self) (fun _ =>
      w_or1 (XT.imp (t_ne (u := .str (py t).shown) (v := .str (py t).shown) ((x_repr hgu hr (x_var 3 rfl) (.inl (enc_tup t)) (enc_plain t) (by rw [enc_py]; exact okc_show _ (okc_py t ht)) (by rw [enc_py]; exact noDict_okc _ (okc_py t ht)) (by rw [enc_py]; omega) (by rw [enc_py]; omega) T.repr).is (by rw [enc_py])) (x_var 4 rfl)) fun c q => q.trans ne_self)) fun q => by cases q) fun q => by cases q)) (fun q => by cases q) fun _ => ?_
    refine s_for (Iv := fun j S2 Γ2 => S2 = keep B1 S' ∧ ∃ c d, Γ2 = [some (.r pot), some (.lst (ts.map encT)), some (.lst (us.map enc)), some (enc t), some (.s (py t).shown), c, d]) rfl PassesOwn.never (i_list (ds := us.map enc) (x_var 2 rfl)) ⟨rfl, _, _, rfl⟩ (fun k S2 Γ2 ⟨h, _⟩ => by rw [h]; infer_instance) (fun j d B2 S2 Γ2 hj yd2 iv2 => ?_) fun S2 Γ2 iv2 => ?_
    · obtain ⟨rfl, c1, c2, rfl⟩ := iv2
      rw [List.getElem?_map] at yd2
      cases hy : us[j]? with
      | none => rw [hy] at yd2; cases yd2
      | some u =>
      rw [hy] at yd2
      cases yd2
      obtain ⟨hu, hwu⟩ := h2 u (List.mem_of_getElem? hy)
      refine ⟨_, _, g_name 5 sc43.nd, fun nx2 hnx2 => ?_⟩
      refine s_when (P := (· = false)) (XT.imp (t_ne (u := .bl (decide (V.str (mkS (txt t)) = V.str (mkS (txt u))))) (v := .bl (PyData.eqv (py t) (py u))) (x_eq (x_call (R := (· = sL (txt t))) FX (hr.mono (by decide)) (a1 (x_var 3 rfl)) fun ds q => ⟨t, ht, hwt, q, rfl⟩) (x_call (R := (· = sL (txt u))) FX (hr.mono (by decide)) (a1 (x_var 5 rfl)) fun ds q => ⟨u, hu, hwu, q, rfl⟩))
        ((x_eqP hr (x_var 3 rfl) (x_var 5 rfl) (enc_plain t) (enc_plain u) (by rw [enc_py]; exact shape_py ht hwt) (by rw [enc_py]; exact shape_py hu hwu)).is (by rw [enc_py, enc_py]))) fun c q => q.trans (by rw [same_law ht hu]; exact ne_self)) (fun q => by cases q) fun _ => ?_
      exact s_turn hnx2 ⟨rfl, _, _, rfl⟩
    · obtain ⟨rfl, c1, c2, rfl⟩ := iv2
      exact s_turn hnx ⟨rfl, _, _, _, _, rfl⟩
  · obtain ⟨rfl, g1, g2, g3, g4, rfl⟩ := iv
    exact s_ret O x_bl fun d q => q ▸ hR
/-! ### law -/
theorem sc44 : FnScope ["script", "k"] ["script"] (defScope (top 44)) := ⟨rfl, rfl, rfl, by decide +kernel, rfl, by decide +kernel, by decide +kernel⟩
def gLaw : GT := fun S ds R => ∃ ns : List Int, ns.length ≤ 100000 ∧ ds = [.lst (ns.map .i)] ∧ R (.b true)
instance : GK gLaw := ⟨fun _ h => h⟩
theorem ok_law (T : Tx K mg) {f : Addr} {fd : FuncData} (Dt : FunD K "law" "law" (defArgs (top 44)) (defBody (top 44)) (defScope (top 44)) [] [] f fd) (FP : FncN P w K mg base 1 "_law_pot" ["script", "k"] gPot) (FR : FncG P w K mg base 21 "_law_right" ["pot"] (gRight K)) : FnG P w K mg base 22 f fd ["script"] (spS K gLaw) := by
  refine fnG_body Dt sc44 (fun S ds R ⟨_, _, e, _⟩ => by rw [e] <;> rfl) fun cdv A outer s H E hr hgu S _ ds R g rt O => ?_
  obtain ⟨ns, hn, rfl, hR⟩ := g
  have hm : ∃ m : Nat, m ≤ 6 ∧ (if (if (6 : Int) < ((ns.map D.i).length : Int) then 6 else ((ns.map D.i).length : Int)) > 1 then (if (6 : Int) < ((ns.map D.i).length : Int) then 6 else ((ns.map D.i).length : Int)) else 1) = (m : Int) := by
    rw [List.length_map]
    obtain ⟨j, hj, ej⟩ : ∃ j : Nat, j ≤ 6 ∧ (if (6 : Int) < (ns.length : Int) then 6 else (ns.length : Int)) = (j : Int) := by
      by_cases h : 6 < ns.length
      · exact ⟨6, by omega, if_pos (by omega)⟩
      · exact ⟨ns.length, by omega, if_neg (by omega)⟩
    rw [ej]
    by_cases h1 : 1 < j
    · exact ⟨j, hj, if_pos (by omega)⟩
    · exact ⟨1, by omega, if_neg (by omega)⟩
  obtain ⟨m, hm6, hme⟩ := hm
  refine s_ret (R := (· = .b true)) O ((x_all (bs := List.replicate m true) rfl (XN.xD (n_lcD (own := [("k", 1)]) ((List.replicate m true).map .b) (n := m) (by simp) (by omega) rfl sc44.nd (blkOk_by (N := ["script", "k"]) (sc := defScope (top 44)) (by decide +kernel))
    (i_range1 (n := (m : Int)) ((x_max2 rfl x_int (x_min2 rfl (x_lenL (x_var 0 rfl) T.len) x_int T.min) T.max).is (congrArg D.i hme)) ⟨by omega, by omega⟩ T.range) fun k d r yd hk => ?_)) T.all).is (by simp)) fun d q => q ▸ hR
  subst yd
  have hkm : k < m := by
    have := (List.getElem?_eq_some_iff.mp hk).1
    simpa using this
  have er : r = .b true := by
    rw [List.getElem?_map, List.getElem?_replicate, if_pos hkm] at hk
    exact (Option.some.inj hk).symm
  subst er
  refine lt_map 1 sc44.nd fun s H0 C cl fp q as => ?_
  exact x_callPotG FR hr hgu (x_callN FP (hr.mono (by decide)) (a2 (x_var 0 rfl) (x_var 1 rfl)) fun ds q' => ⟨ns, k, by omega, hn, q', fun a b c => ⟨a, b, c, rfl⟩⟩) (fun l => ⟨l, inferInstanceAs (PotIn K l (potF K l (own K q as S))), rfl, rfl⟩) fun d e => ⟨_, e⟩
end
end K96

set_option maxHeartbeats 0
namespace K96
open PySem PySem.Spec PyProof.Rows L2 Z
/-! ### the head -/
abbrev R : PySem.W.OpenRow := PySem.W.OpenLaw.row PySem.Challenge.rw_pairstruck_k96_plan_texts
def dOf (i : Nat) (x : Str) : He.DefD := ⟨(x, none), x, x, defArgs (top i), defBody (top i), defScope (top i), [], []⟩
def dM (i : Nat) (m q : Str) (ds : List He.Dv) : He.DefD := ⟨("Order", some m), m, q, defArgs (meth i), defBody (meth i), defScope (meth i), ds, []⟩
def fn : List He.DefD := [dOf 10 "has_letters_only", dOf 11 "is_column", dOf 12 "is_entry", dOf 13 "checked_entries", dOf 14 "entry_text", dOf 23 "pair_text", dOf 24 "plan_text", dOf 26 "_law_pot", dOf 27 "_law_draw", dOf 28 "_law_choice", dOf 29 "_law_name", dOf 30 "_law_names", dOf 31 "_law_shuffled", dOf 32 "_law_tables",
  dOf 33 "_law_entries_of", dOf 34 "_law_side", dOf 35 "_law_more", dOf 36 "_law_stream", dOf 37 "_law_plan", dOf 38 "_law_emptied", dOf 39 "_law_entry_text", dOf 40 "_law_order_text", dOf 41 "_law_pair_text", dOf 42 "_law_text", dOf 43 "_law_right", dOf 44 "law",
  dM 0 "__init__" "Order.__init__" [.adr (He.dflAt ("Order", some "__init__") 0)], dM 8 "__len__" "Order.__len__" [], dM 11 "__str__" "Order.__str__" []]
def fGlo : List He.Fa := fn.take 26 |>.map fun d => .glo d.name
def bltN : List Str := ["all", "isinstance", "str", "len", "tuple", "list", "enumerate", "zip", "range", "abs", "max", "min", "int", "divmod", "repr"]
def fBlt : List He.Fa := bltN.map He.Fa.free
def fStr : List He.Fa := [.str "UP" "up", .str "DOWN" "down", .str "NO_ENTRIES" "none", .str "LETTERS" "abcdefghijklmnopqrstuvwxyz", .int "MOST_COLUMN_LETTERS" 17, .str "HEAP" "heap", .str "INDEX" "index", .str "SORT" "sort", .str "MERGE" "merge", .str "SEEK" "seek", .str "BETWEEN" ", "]
def fOrd : List He.Fa := [.glo "Order", .cls "Order", .noat "Order" "own_entries", .noat "Order" "own_columns", .mkr "Order", .meth "Order" "__len__", .meth "Order" "__str__"]
def fa : List He.Fa := fGlo ++ (fBlt ++ (fStr ++ fOrd))
def ex (K : PySem.W.Frag) : Bool := decide (PySem.W.kitOne K (.type "tuple") (.ref (He.ga K "Order")) = some false)
abbrev hk : PySem.W.Hook := He.hookX 5 fa fn [] [] ex
def ob (s : PySem.W.SharedT) : He.AlX := He.obsX 5 fa fn [] [] ex (HandSHeadRun.getT s)
theorem ob_eq (s : PySem.W.SharedT) : ob s = hk.obs s.abs := He.obsX_eq (HandSHeadRun.getT_eq s)
def names1 : List Str := ["_wall", "PairError", "InvalidOrder", "UP", "DOWN", "NO_ENTRIES", "LETTERS", "MOST_COLUMN_LETTERS", "has_letters_only", "is_column", "is_entry", "checked_entries", "entry_text", "Order", "HEAP", "INDEX", "SORT", "MERGE", "SEEK", "BETWEEN", "pair_text", "plan_text"]
def names2 : List Str := ["_law_pot", "_law_draw", "_law_choice", "_law_name", "_law_names", "_law_shuffled", "_law_tables", "_law_entries_of", "_law_side", "_law_more", "_law_stream", "_law_plan", "_law_emptied", "_law_entry_text", "_law_order_text", "_law_pair_text", "_law_text", "_law_right"]
def names : List Str := names1 ++ names2
theorem run (w : World) : HandSHeadRun.RunEq R (PySem.W.view R.prog [44]) hk ob 20000 names w := by
  intro os
  kernel_rfl
section
variable {P : Program} {w : World} {K : PySem.W.Frag} {h : Heap} {mg : Str → Option Value} {f : Addr}
theorem tx_of (X : K.In h) (G : h.Ns mainGlobals mg) (c : He.SaysD fa fn K) : Tx K mg :=
  ⟨He.free_ok X G (c.fact 26 (f := .free "all") rfl), He.free_ok X G (c.fact 27 (f := .free "isinstance") rfl), He.free_ok X G (c.fact 28 (f := .free "str") rfl), He.free_ok X G (c.fact 29 (f := .free "len") rfl), He.free_ok X G (c.fact 30 (f := .free "tuple") rfl),
    He.free_ok X G (c.fact 31 (f := .free "list") rfl), He.free_ok X G (c.fact 32 (f := .free "enumerate") rfl), He.free_ok X G (c.fact 33 (f := .free "zip") rfl), He.free_ok X G (c.fact 34 (f := .free "range") rfl), He.free_ok X G (c.fact 35 (f := .free "abs") rfl),
    He.free_ok X G (c.fact 36 (f := .free "max") rfl), He.free_ok X G (c.fact 37 (f := .free "min") rfl), He.free_ok X G (c.fact 38 (f := .free "int") rfl), He.free_ok X G (c.fact 39 (f := .free "divmod") rfl), He.free_ok X G (c.fact 40 (f := .free "repr") rfl),
    He.str_ok X G (c.fact 41 (f := .str "UP" "up") rfl), He.str_ok X G (c.fact 42 (f := .str "DOWN" "down") rfl), He.str_ok X G (c.fact 43 (f := .str "NO_ENTRIES" "none") rfl), He.str_ok X G (c.fact 44 (f := .str "LETTERS" "abcdefghijklmnopqrstuvwxyz") rfl), He.int_ok X G (c.fact 45 (f := .int "MOST_COLUMN_LETTERS" 17) rfl),
    He.str_ok X G (c.fact 46 (f := .str "HEAP" "heap") rfl), He.str_ok X G (c.fact 47 (f := .str "INDEX" "index") rfl), He.str_ok X G (c.fact 48 (f := .str "SORT" "sort") rfl), He.str_ok X G (c.fact 49 (f := .str "MERGE" "merge") rfl), He.str_ok X G (c.fact 50 (f := .str "SEEK" "seek") rfl), He.str_ok X G (c.fact 51 (f := .str "BETWEEN" ", ") rfl)⟩
theorem def_of (X : K.In h) (G : h.Ns mainGlobals mg) (c : He.SaysD fa fn K) (i j : Nat) (x : Str) (e1 : fn[i]? = some (dOf j x)) (e2 : fa[i]? = some (.glo x)) : DefAt K mg x (top j) := by
  obtain ⟨fd, F⟩ := c.def_ i e1
  exact ⟨_, fd, He.glo_ok X G (c.fact i e2), F⟩
theorem txO_of (X : K.In h) (G : h.Ns mainGlobals mg) (c : He.SaysD fa fn K) (hx : ex K = true) : TxO K mg (He.ga K "Order") := by
  obtain ⟨f0, F0⟩ := c.def_ 26 (d := dM 0 "__init__" "Order.__init__" [.adr (He.dflAt ("Order", some "__init__") 0)]) rfl
  obtain ⟨f1, F1⟩ := c.def_ 27 (d := dM 8 "__len__" "Order.__len__" []) rfl
  obtain ⟨f2, F2⟩ := c.def_ 28 (d := dM 11 "__str__" "Order.__str__" []) rfl
  exact ⟨He.glo_ok X G (c.fact 52 (f := .glo "Order") rfl), He.cls_ok (c.fact 53 (f := .cls "Order") rfl), He.noat_ok (c.fact 54 (f := .noat "Order" "own_entries") rfl), He.noat_ok (c.fact 55 (f := .noat "Order" "own_columns") rfl), of_decide_eq_true hx,
    ⟨_, f0, _, He.mkr_ok (c.fact 56 (f := .mkr "Order") rfl), F0⟩, ⟨_, f1, He.meth_ok (c.fact 57 (f := .meth "Order" "__len__") rfl), F1⟩, ⟨_, f2, He.meth_ok (c.fact 58 (f := .meth "Order" "__str__") rfl), F2⟩⟩
theorem facts (X : K.In h) (G : h.Ns mainGlobals mg) (hfa : mg ("law" : Str) = some (.ref f)) (c : He.SaysD fa fn K) (hx : ex K = true) :
    ∃ fd : FuncData, (∀ (s : Shared) (v : Value), BindsTo s fd ⟨[v], []⟩ [("script", v)]) ∧ ∀ base : Heap, K.In base → base.Ns mainGlobals mg → FnG P w K mg base 22 f fd ["script"] (spS K gLaw) := by
  obtain ⟨fd, F⟩ := c.def_ 25 (d := dOf 44 "law") rfl
  have e := hfa.symm.trans (He.glo_ok X G (c.fact 25 (f := .glo "law") rfl))
  cases e
  have b := FunD.bindsA (ps := ["script"]) F fun _ _ _ _ _ _ us hl => match us, hl with | [_], _ => rfl
  refine ⟨fd, fun s v => b s [v] rfl, fun base _ _ => ?_⟩
  have T := tx_of X G c
  have TO := txO_of X G c hx
  have D := fun (i j : Nat) (x : Str) (e1 : fn[i]? = some (dOf j x)) (e2 : fa[i]? = some (.glo x)) => def_of X G c i j x e1 e2
  have F1 := ok_letters (P := P) (w := w) (base := base) T (D 0 10 "has_letters_only" rfl rfl)
  have F2 := ok_column T (D 1 11 "is_column" rfl rfl) F1
  have F3 := ok_entry T (D 2 12 "is_entry" rfl rfl) F2
  have F4 := ok_checked T (D 3 13 "checked_entries" rfl rfl) F3
  have FE := ok_etext (P := P) (w := w) (base := base) T (D 4 14 "entry_text" rfl rfl)
  have FI := ok_init T TO F4
  have FN := ok_len (P := P) (w := w) (base := base) T TO
  have FS := ok_str T TO FN FE
  have FQ := ok_ptext (P := P) (w := w) (base := base) T (D 5 23 "pair_text" rfl rfl)
  have FX := ok_plan T TO (D 6 24 "plan_text" rfl rfl) FQ FI FS 13 (by decide)
  have L1 := ok_pot (P := P) (w := w) (base := base) T (D 7 26 "_law_pot" rfl rfl)
  have L2 := ok_draw (P := P) (w := w) (base := base) T (D 8 27 "_law_draw" rfl rfl)
  have L3 := ok_choice T (D 9 28 "_law_choice" rfl rfl) L2
  have L4 := ok_name T (D 10 29 "_law_name" rfl rfl) L2
  have L5 := ok_names T (D 11 30 "_law_names" rfl rfl) L4
  have L6 := ok_shuf T (D 12 31 "_law_shuffled" rfl rfl) L2
  have L7 := ok_tabs T (D 13 32 "_law_tables" rfl rfl) L5
  have L8 := ok_eof T (D 14 33 "_law_entries_of" rfl rfl) L2 L6
  have L9 := ok_side T (D 15 34 "_law_side" rfl rfl) L2 L3 L8
  have L10 := ok_more T (D 16 35 "_law_more" rfl rfl) L2 L3 L6 L9
  have L11 := ok_stream T (D 17 36 "_law_stream" rfl rfl) L2 L6 L8 L9 L10
  have L12 := ok_emp (P := P) (w := w) (base := base) T (D 19 38 "_law_emptied" rfl rfl) 13 (by decide)
  have L13 := ok_lplan T (D 18 37 "_law_plan" rfl rfl) L2 L8 L11 L12
  have M1 := ok_le (P := P) (w := w) (base := base) T (D 20 39 "_law_entry_text" rfl rfl)
  have M2 := ok_lo T (D 21 40 "_law_order_text" rfl rfl) M1
  have M3 := ok_lp T (D 22 41 "_law_pair_text" rfl rfl) M1
  have M4 := ok_ltext T (D 23 42 "_law_text" rfl rfl) M2 M3 13 (by decide)
  have M5 := ok_right T (D 24 43 "_law_right" rfl rfl) L7 L13 FX M4
  exact ok_law T F L1 M5
end
end K96
open PySem PySem.W PySem.Calls PyProof.Rows
theorem PySem.Challenge.cw_pairstruck_k96_plan_texts_holds : PySem.Challenge.rw_pairstruck_k96_plan_texts.Holds := by
  w_on; o_law
  refine HandSHeadRun.head_any (r := K96.R) (q := view K96.R.prog [44]) (H := K96.hk) (ob := K96.ob) (M := 20000) (loose := K96.names) (d := HandSHeadRun.topDef K96.R.prog 44) (kwd := []) K96.ob_eq
    (by kernel_rfl) (fun s => by kernel_rfl) K96.run (by kernel_rfl) (by kernel_rfl) (by kernel_rfl) (by rfl) (by first | assumption | decide +kernel) (by decide +kernel) ⟨rfl, rfl, rfl, rfl, rfl, by decide +kernel⟩ ?hw ?hc
  case hw => w_witness2
  case hc =>
    refine Z.walkG (l := PySem.Challenge.rw_pairstruck_k96_plan_texts) (n := 63) (k := 22) (x := "script") rfl (by decide) (by kernel_rfl) ⟨rfl, by decide, by decide⟩ rfl ?F
    intro w mg fa h Y G hmg0
    obtain ⟨K, KX, c⟩ := Y
    have hmg : mg ("law" : PySem.Str) = some (.ref fa) := by
      have e : (HandSHeadRun.topDef K96.R.prog 44).name = ("law" : PySem.Str) := by kernel_rfl
      rw [← e]
      exact hmg0
    obtain ⟨fd, hb, hF⟩ := K96.facts (P := (PySem.Challenge.rw_pairstruck_k96_plan_texts).prog) (w := w) KX G hmg c.t.d c.more
    refine ⟨K, fd, Z.spS K K96.gLaw, KX, hb, fun H a ns hl hS => ?_, hF⟩
    refine ⟨Z.Ex, H, [.lst (ns.map .i)], (· = .b true), inferInstance, Z.Ex.refl H, .cons (.lst hS ?_) .nil, ⟨ns, Nat.le_trans hl (by decide), rfl, rfl⟩, fun v B' H' d _ _ r n => ?_⟩
    · have := Z.DnA.ofLeaf (K := K) (B := H) (ns.map L2.V.int)
      rwa [List.map_map] at this
    · subst r
      cases n
      rfl

