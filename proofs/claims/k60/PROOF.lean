import PyProof.Rows.All
import Wide.All
import OpenK.AllK
import Wide.FinOn
import HandS.ForMost
import HandS.ForExc
import HandS.Wide
import HandS.WideBits
import HandS.TupAny
import HandS.TupMul
import HandS.IsInst
import HandS.RaiseMore
import KE.KExcIs
import KE.KExcSuper
import KE.KTryMore
import KE.KIsAll
import HandS.ExcSuper
import HandS.Style
import PySem.Challenge.RW_addnests_k60_floor_sums
set_option Elab.async false
set_option linter.all false
set_option maxRecDepth 100000
set_option maxHeartbeats 8100000
set_option autoImplicit false
/-! Tr, part A: trees, what they denote, environments, the reading of a function on trees. -/
namespace Tr
open PySem PySem.Spec PyProof.Rows L2
abbrev Sg := L2.St

/-- a tree of data -/
inductive D where
  | non | bl (b : Bool) | int (i : Int) | str (x : Str)
  | lst (xs : List D) | tup (xs : List D)
  | dK (ks : List Key) (vs : List D) | dT (ks : List (List Key)) (vs : List D)
  | ins (c : Str) (ns : List Str) (vs : List D)
  | exn (c n : Str) (d : D)
  | ty (n : String) | glo (x : Str)
  /-- the script: a list that is only read -/
  | scr (ns : List Int)

/-- what the written part and the module's names tell -/
structure Tx where
  K : PySem.W.Frag
  mg : Str → Option Value

/-- a caught exception that is held as a value -/
def exv (C dx a : Addr) : HO := .ext fun h => ∃ (oe : Obj) (vs : Array Value), h.get? a = some oe ∧ oe.cls = .ref C ∧ oe.dict = some dx ∧ oe.data = .fields vs

mutual
/-- the value x is the tree d, over the heap F of what stays -/
def Den (T : Tx) (F : Hp) : D → V → Prop
  | .non, x => x = .non
  | .bl b, x => x = .bl b
  | .int i, x => x = .int i
  | .str s, x => x = .str s
  | .lst ds, x => ∃ a xs, x = .ref a ∧ F a = some (.lst xs) ∧ DenL T F ds xs
  | .tup ds, x => ∃ a xs, x = .ref a ∧ SqT T.K F a xs ∧ DenL T F ds xs
  | .dK ks ds, x => ∃ a xs, x = .ref a ∧ F a = some (.dK (ks.zip xs)) ∧ ks.length = xs.length ∧ DenL T F ds xs
  | .dT ks ds, x => ∃ a xs, x = .ref a ∧ F a = some (.dT (ks.zip xs)) ∧ ks.length = xs.length ∧ DenL T F ds xs
  | .ins c ns ds, x => ∃ a C dx xs, x = .ref a ∧ T.mg c = some (.ref C) ∧ F a = some (.ins C dx (ns.zip xs)) ∧ F dx = some (.own a) ∧ ns.length = xs.length ∧ DenL T F ds xs
  | .exn c n d, x => ∃ a C dx y, x = .ref a ∧ T.mg c = some (.ref C) ∧ F a = some (exv C dx a) ∧ F dx = some (.xd [(n, y)]) ∧ Den T F d y
  | .ty n, x => x = .ty n
  | .glo g, x => ∃ a, T.mg g = some (.ref a) ∧ x = .ref a
  | .scr ns, x => ∃ a, x = .ref a ∧ SqL T.K F a (ns.map V.int)
def DenL (T : Tx) (F : Hp) : List D → List V → Prop
  | [], xs => xs = []
  | d :: ds, xs => ∃ x r, xs = x :: r ∧ Den T F d x ∧ DenL T F ds r
end

theorem Same.sqL {K : PySem.W.Frag} {H H' : Hp} {a : Addr} {xs : List V} (e : Same H H') (h : SqL K H a xs) : SqL K H' a xs := Same.seq e h
theorem Same.sqT {K : PySem.W.Frag} {H H' : Hp} {a : Addr} {xs : List V} (e : Same H H') (h : SqT K H a xs) : SqT K H' a xs := by
  rcases h with (h | ⟨o, h⟩) | h
  · exact .inl (.inl (e _ _ h))
  · exact .inl (.inr ⟨o, e _ _ h⟩)
  · exact .inr h

mutual
theorem Den.mono {T : Tx} {F F' : Hp} (e : Same F F') : ∀ (d : D) {x : V}, Den T F d x → Den T F' d x
  | .non, _, h => h
  | .bl _, _, h => h
  | .int _, _, h => h
  | .str _, _, h => h
  | .lst ds, _, ⟨a, xs, h1, h2, h3⟩ => ⟨a, xs, h1, e _ _ h2, DenL.mono e ds h3⟩
  | .tup ds, _, ⟨a, xs, h1, h2, h3⟩ => ⟨a, xs, h1, Same.sqT e h2, DenL.mono e ds h3⟩
  | .dK ks ds, _, ⟨a, xs, h1, h2, h3, h4⟩ => ⟨a, xs, h1, e _ _ h2, h3, DenL.mono e ds h4⟩
  | .dT ks ds, _, ⟨a, xs, h1, h2, h3, h4⟩ => ⟨a, xs, h1, e _ _ h2, h3, DenL.mono e ds h4⟩
  | .ins c ns ds, _, ⟨a, C, dx, xs, h1, h2, h3, h4, h5, h6⟩ => ⟨a, C, dx, xs, h1, h2, e _ _ h3, e _ _ h4, h5, DenL.mono e ds h6⟩
  | .exn c n d, _, ⟨a, C, dx, y, h1, h2, h3, h4, h5⟩ => ⟨a, C, dx, y, h1, h2, e _ _ h3, e _ _ h4, Den.mono e d h5⟩
  | .ty _, _, h => h
  | .glo _, _, h => h
  | .scr _, _, ⟨a, h1, h2⟩ => ⟨a, h1, Same.sqL e h2⟩
theorem DenL.mono {T : Tx} {F F' : Hp} (e : Same F F') : ∀ (ds : List D) {xs : List V}, DenL T F ds xs → DenL T F' ds xs
  | [], _, h => h
  | d :: ds, _, ⟨x, r, h1, h2, h3⟩ => ⟨x, r, h1, Den.mono e d h2, DenL.mono e ds h3⟩
end

theorem DenL.nil {T : Tx} {F : Hp} : DenL T F [] [] := rfl
theorem DenL.cons {T : Tx} {F : Hp} {d : D} {ds : List D} {x : V} {xs : List V} (h : Den T F d x) (r : DenL T F ds xs) : DenL T F (d :: ds) (x :: xs) := ⟨x, xs, rfl, h, r⟩
theorem DenL.length {T : Tx} {F : Hp} : ∀ {ds : List D} {xs : List V}, DenL T F ds xs → ds.length = xs.length
  | [], _, h => by have h : _ = [] := h; rw [h]; rfl
  | d :: ds, _, ⟨x, r, h1, _, h3⟩ => by rw [h1, List.length_cons, List.length_cons, DenL.length h3]
theorem DenL.get {T : Tx} {F : Hp} : ∀ {ds : List D} {xs : List V} {i : Nat} {d : D}, DenL T F ds xs → ds[i]? = some d → ∃ x, xs[i]? = some x ∧ Den T F d x
  | [], _, _, _, _, e => by simp at e
  | d :: ds, _, 0, _, ⟨x, r, h1, h2, h3⟩, e => by
    subst h1
    have e : d = _ := Option.some.inj e
    subst e
    exact ⟨x, rfl, h2⟩
  | d :: ds, _, i + 1, _, ⟨x, r, h1, h2, h3⟩, e => by
    subst h1
    exact DenL.get (i := i) h3 e
theorem DenL.append {T : Tx} {F : Hp} : ∀ {ds es : List D} {xs ys : List V}, DenL T F ds xs → DenL T F es ys → DenL T F (ds ++ es) (xs ++ ys)
  | [], _, _, _, h, h' => by have h : _ = [] := h; rw [h]; exact h'
  | d :: ds, _, _, _, ⟨x, r, h1, h2, h3⟩, h' => by subst h1; exact ⟨x, r ++ _, rfl, h2, DenL.append h3 h'⟩
theorem DenL.snoc {T : Tx} {F : Hp} {ds : List D} {xs : List V} {d : D} {x : V} (h : DenL T F ds xs) (h' : Den T F d x) : DenL T F (ds ++ [d]) (xs ++ [x]) := h.append (.cons h' .nil)
theorem DenL.set {T : Tx} {F : Hp} {d : D} {x : V} (hd : Den T F d x) : ∀ {ds : List D} {xs : List V} (i : Nat), DenL T F ds xs → DenL T F (ds.set i d) (xs.set i x)
  | [], _, _, h => by have h : _ = [] := h; rw [h]; rfl
  | e :: ds, _, 0, ⟨y, r, h1, h2, h3⟩ => by subst h1; exact ⟨x, r, rfl, hd, h3⟩
  | e :: ds, _, i + 1, ⟨y, r, h1, h2, h3⟩ => by subst h1; exact ⟨y, r.set i x, rfl, h2, DenL.set hd i h3⟩
theorem DenL.take {T : Tx} {F : Hp} : ∀ {ds : List D} {xs : List V} (n : Nat), DenL T F ds xs → DenL T F (ds.take n) (xs.take n)
  | [], _, n, h => by have h : _ = [] := h; rw [h]; cases n <;> rfl
  | d :: ds, _, 0, _ => rfl
  | d :: ds, _, n + 1, ⟨x, r, h1, h2, h3⟩ => by subst h1; exact ⟨x, r.take n, rfl, h2, DenL.take n h3⟩
theorem DenL.drop {T : Tx} {F : Hp} : ∀ {ds : List D} {xs : List V} (n : Nat), DenL T F ds xs → DenL T F (ds.drop n) (xs.drop n)
  | [], _, n, h => by have h : _ = [] := h; rw [h]; cases n <;> rfl
  | d :: ds, _, 0, h => h
  | d :: ds, _, n + 1, ⟨x, r, h1, h2, h3⟩ => by subst h1; exact DenL.drop n h3

/-! ### environments of trees -/
/-- a slot: nothing; a tree that stays; a tree whose root object is this slot's own; one that the caller has lent -/
inductive Slot where
  | un | sh (d : D) | ow (d : D) | bo (d : D)
abbrev En := List Slot
/-- the slot's object may be changed -/
def Slot.mu : Slot → Option D
  | .ow d => some d
  | .bo d => some d
  | _ => none
/-- an object that may still be changed holds the tree d; what it holds stays -/
def OwnAt (T : Tx) (F H : Hp) (d : D) (a : Addr) : Prop :=
  match d with
  | .lst ds => ∃ xs, H a = some (.lst xs) ∧ DenL T F ds xs
  | .dK ks ds => ∃ xs, H a = some (.dK (ks.zip xs)) ∧ ks.length = xs.length ∧ DenL T F ds xs
  | .dT ks ds => ∃ xs, H a = some (.dT (ks.zip xs)) ∧ ks.length = xs.length ∧ DenL T F ds xs
  | .ins c ns ds => ∃ C dx xs, T.mg c = some (.ref C) ∧ H a = some (.ins C dx (ns.zip xs)) ∧ H dx = some (.own a) ∧ ns.length = xs.length ∧ DenL T F ds xs
  | _ => False
/-- slot i may change its object, which holds d -/
def MuAt (ρ : En) (i : Nat) (d : D) : Prop := ∃ s, ρ[i]? = some s ∧ s.mu = some d
/-- a is the object of such a slot -/
def Owned (ρ : En) (σ : Sg) (a : Addr) : Prop := ∃ (i : Nat) (d : D), MuAt ρ i d ∧ σ[i]? = some (some (.ref a))
structure Rel (T : Tx) (F H : Hp) (ρ : En) (σ : Sg) : Prop where
  len : ρ.length = σ.length
  sub : Same F H
  sh : ∀ (i : Nat) (d : D), ρ[i]? = some (.sh d) → ∃ x, σ[i]? = some (some x) ∧ Den T F d x
  ow : ∀ (i : Nat) (d : D), MuAt ρ i d → ∃ a, σ[i]? = some (some (.ref a)) ∧ F a = none ∧ OwnAt T F H d a
  dis : ∀ (i j : Nat) (d e : D) (a : Addr), MuAt ρ i d → MuAt ρ j e → σ[i]? = some (some (.ref a)) → σ[j]? = some (some (.ref a)) → i = j
/-- from one state to another -/
structure Stp (T : Tx) (F H : Hp) (ρ : En) (σ : Sg) (F' H' : Hp) (ρ' : En) (σ' : Sg) : Prop where
  rel : Rel T F' H' ρ' σ'
  same : Same F F'
  keep : ∀ b o, H b = some o → ¬ Owned ρ σ b → H' b = some o
  own : ∀ b, Owned ρ' σ' b → Owned ρ σ b ∨ H b = none
  dom : ∀ b o, H b = some o → ∃ o', H' b = some o'
  bo : ∀ (i : Nat) (d : D), ρ[i]? = some (.bo d) → (∃ d', ρ'[i]? = some (.bo d')) ∧ σ'[i]? = σ[i]?
  fz : ∀ b o, H b = some o → ¬ Owned ρ σ b → (∀ c, o ≠ .own c) → F' b = F b
  nb : ∀ (i : Nat) (d : D), ρ'[i]? = some (.bo d) → ∃ d0, ρ[i]? = some (.bo d0)
theorem Stp.refl {T : Tx} {F H : Hp} {ρ : En} {σ : Sg} (r : Rel T F H ρ σ) : Stp T F H ρ σ F H ρ σ := ⟨r, Same.refl F, fun _ _ h _ => h, fun _ h => .inl h, fun _ o h => ⟨o, h⟩, fun _ d h => ⟨⟨d, h⟩, rfl⟩, fun _ _ _ _ _ => rfl, fun _ d h => ⟨d, h⟩⟩
theorem Stp.trans {T : Tx} {F H F1 H1 F2 H2 : Hp} {ρ ρ1 ρ2 : En} {σ σ1 σ2 : Sg} (a : Stp T F H ρ σ F1 H1 ρ1 σ1) (b : Stp T F1 H1 ρ1 σ1 F2 H2 ρ2 σ2) : Stp T F H ρ σ F2 H2 ρ2 σ2 where
  rel := b.rel
  same := a.same.trans b.same
  keep := fun c o h n => b.keep c o (a.keep c o h n) fun z => by
    rcases a.own c z with q | q
    · exact n q
    · rw [h] at q; cases q
  own := fun c z => by
    rcases b.own c z with q | q
    · exact a.own c q
    · by_cases w : Owned ρ σ c
      · exact .inl w
      · refine .inr ?_
        cases e : H c with
        | none => rfl
        | some o => rw [a.keep c o e w] at q; cases q
  dom := fun c o h => by
    obtain ⟨o1, h1⟩ := a.dom c o h
    exact b.dom c o1 h1
  bo := fun i d h => by
    obtain ⟨⟨d1, h1⟩, e1⟩ := a.bo i d h
    obtain ⟨⟨d2, h2⟩, e2⟩ := b.bo i d1 h1
    exact ⟨⟨d2, h2⟩, e2.trans e1⟩
  fz := fun c o h n q => by
    have n1 : ¬ Owned ρ1 σ1 c := fun z => by
      rcases a.own c z with w | w
      · exact n w
      · rw [h] at w; cases w
    exact (b.fz c o (a.keep c o h n) n1 q).trans (a.fz c o h n q)
  nb := fun i d h => by
    obtain ⟨d1, h1⟩ := b.nb i d h
    exact a.nb i d1 h1
theorem Stp.free {T : Tx} {F H F1 H1 : Hp} {ρ ρ1 : En} {σ σ1 : Sg} (a : Stp T F H ρ σ F1 H1 ρ1 σ1) {b : Addr} (h : H1 b = none) : H b = none := by
  cases e : H b with
  | none => rfl
  | some o =>
    obtain ⟨o', h'⟩ := a.dom b o e
    rw [h] at h'; cases h'

/-- values of an expression: a tree that stays, a new object that nobody else has, the object of a slot -/
inductive Val where
  | sh (d : D) | fr (d : D) | rf (i : Nat)
/-- what an expression comes to -/
inductive R (α : Type) where
  | ok (a : α) | ex (c n : Str) (d : D) (ρ : En) | no
def R.bind {α β : Type} (r : R α) (f : α → R β) : R β := match r with
  | .ok a => f a
  | .ex c n d ρ => .ex c n d ρ
  | .no => .no
abbrev FE := En → R (Val × En)
/-- a value's meaning; H: the heap ahead of the expression -/
def VRel (T : Tx) (H F' H' : Hp) (ρ' : En) (σ : Sg) : Val → V → Prop
  | .sh d, x => Den T F' d x
  | .fr d, x => ∃ a, x = .ref a ∧ F' a = none ∧ H a = none ∧ ¬ Owned ρ' σ a ∧ OwnAt T F' H' d a
  | .rf i, x => σ[i]? = some (some x) ∧ ∃ d, MuAt ρ' i d
/-- an exception's meaning -/
def ERel (T : Tx) (F' : Hp) (c n : Str) (d : D) (cls : Value) (dx : Option Addr) : Prop :=
  ∃ C e x, T.mg c = some (.ref C) ∧ cls = .ref C ∧ dx = some e ∧ F' e = some (.xd [(n, x)]) ∧ Den T F' d x
/-- the reading of a function on environments: for an expression -/
def tOf (T : Tx) (W : WX) (f : FE) : TE := fun σ H Q => ∃ ρ F, Rel T F H ρ σ ∧ match f ρ with
  | .ok r => ∀ x F' H', Stp T F H ρ σ F' H' r.2 σ → VRel T H F' H' r.2 σ r.1 x → Q x H'
  | .ex c n d ρ' => ∀ F' H' cls dx, Stp T F H ρ σ F' H' ρ' σ → ERel T F' c n d cls dx → W cls dx σ H'
  | .no => False
/-- .. for a test -/
abbrev FT := En → R (Bool × En)
def tOfT (T : Tx) (W : WX) (f : FT) : TT := fun σ H Q => ∃ ρ F, Rel T F H ρ σ ∧ match f ρ with
  | .ok r => ∀ F' H', Stp T F H ρ σ F' H' r.2 σ → Q r.1 H'
  | .ex c n d ρ' => ∀ F' H' cls dx, Stp T F H ρ σ F' H' ρ' σ → ERel T F' c n d cls dx → W cls dx σ H'
  | .no => False
/-- a value that waits while others are worked out: known to stay, or the object of a slot -/
def Pend (T : Tx) (F : Hp) (σ : Sg) : Val → V → Prop
  | .sh d, x => Den T F d x
  | .fr _, _ => False
  | .rf i, x => σ[i]? = some (some x)
def PendL (T : Tx) (F : Hp) (σ : Sg) : List Val → List V → Prop
  | [], xs => xs = []
  | v :: vs, xs => ∃ x r, xs = x :: r ∧ Pend T F σ v x ∧ PendL T F σ vs r
/-- .. for arguments -/
abbrev FA := En → R (List Val × En)
def tOfA (T : Tx) (W : WX) (f : FA) : TA := fun σ H Q => ∃ ρ F, Rel T F H ρ σ ∧ match f ρ with
  | .ok r => ∀ xs F' H', Stp T F H ρ σ F' H' r.2 σ → PendL T F' σ r.1 xs → Q xs H'
  | .ex c n d ρ' => ∀ F' H' cls dx, Stp T F H ρ σ F' H' ρ' σ → ERel T F' c n d cls dx → W cls dx σ H'
  | .no => False
/-- .. for a statement -/
inductive Fl where
  | nx | bk | ct | rt (v : Val)
abbrev FS := En → R (Fl × En)
def flOk (T : Tx) (H F' H' : Hp) (ρ' : En) (σ' : Sg) (D : Ends) : Fl → Prop
  | .nx => D.nx σ' H'
  | .bk => D.bk σ' H'
  | .ct => D.ct σ' H'
  | .rt v => ∀ x, VRel T H F' H' ρ' σ' v x → D.rt x H'
def tOfS (T : Tx) (W : WX) (f : FS) : TS := fun D σ H => ∃ ρ F, Rel T F H ρ σ ∧ match f ρ with
  | .ok r => ∀ σ' F' H', Stp T F H ρ σ F' H' r.2 σ' → flOk T H F' H' r.2 σ' D r.1
  | .ex c n d ρ' => ∀ σ' F' H' cls dx, Stp T F H ρ σ F' H' ρ' σ' → ERel T F' c n d cls dx → W cls dx σ' H'
  | .no => False

abbrev Tx.of (X : Cx) : Tx := ⟨X.K, X.mg⟩
/-- the judgements -/
def SE (X : Cx) (W : WX) (e : Expr) (f : FE) : Prop := PE X e (tOf (.of X) W f)
def ST (X : Cx) (W : WX) (e : Expr) (f : FT) : Prop := PT X e (tOfT (.of X) W f)
def SA (X : Cx) (W : WX) (es : List Expr) (f : FA) : Prop := PA X es (tOfA (.of X) W f)
def SS (X : Cx) (W : WX) (st : Stmt) (f : FS) : Prop := PS X st (tOfS (.of X) W f)
def SSs (X : Cx) (W : WX) (st : List Stmt) (f : FS) : Prop := PSs X st (tOfS (.of X) W f)

/-! ### weakening a reading -/
theorem pe_imp {X : Cx} {e : Expr} {t t' : TE} (h : PE X e t) (i : ∀ σ H Q, t' σ H Q → t σ H Q) : PE X e t' := ⟨fun pins s σ H Q I q => h.run pins s σ H Q I (i σ H Q q)⟩
theorem pt_imp {X : Cx} {e : Expr} {t t' : TT} (h : PT X e t) (i : ∀ σ H Q, t' σ H Q → t σ H Q) : PT X e t' := ⟨fun pins s σ H Q I q => h.run pins s σ H Q I (i σ H Q q)⟩
theorem pa_imp {X : Cx} {es : List Expr} {t t' : TA} (h : PA X es t) (i : ∀ σ H Q, t' σ H Q → t σ H Q) : PA X es t' := ⟨fun pos pins s σ H Q I q => h.run pos pins s σ H Q I (i σ H Q q)⟩
theorem ps_imp {X : Cx} {st : Stmt} {t t' : TS} (h : PS X st t) (i : ∀ D σ H, t' D σ H → t D σ H) : PS X st t' := ⟨fun pins s σ H D I q => h.run pins s σ H D I (i D σ H q)⟩
theorem pss_imp {X : Cx} {st : List Stmt} {t t' : TS} (h : PSs X st t) (i : ∀ D σ H, t' D σ H → t D σ H) : PSs X st t' := ⟨fun pins s σ H D I q => h.run pins s σ H D I (i D σ H q)⟩

/-! ### reading a value: peeked at, or made to stay -/
/-- what a slot's tree is -/
def Slot.tr : Slot → Option D
  | .un => none
  | .sh d => some d
  | .ow d => some d
  | .bo d => some d
/-- what a value holds now -/
def peek (ρ : En) : Val → Option D
  | .sh d => some d
  | .fr d => some d
  | .rf i => (ρ[i]?).bind Slot.tr
/-- it stays from now on -/
def frz (ρ : En) : Val → Option (D × En)
  | .sh d => some (d, ρ)
  | .fr d => some (d, ρ)
  | .rf i => match ρ[i]? with
    | some (.ow d) => some (d, ρ.set i (.sh d))
    | some (.sh d) => some (d, ρ)
    | _ => none
/-- it waits -/
def Val.held : Val → Val
  | .fr d => .sh d
  | v => v
/-- the object holds the tree now: it stays, or it may change later -/
def Pk (T : Tx) (F H : Hp) (d : D) (x : V) : Prop := Den T F d x ∨ ∃ a, x = .ref a ∧ OwnAt T F H d a

theorem OwnAt.mono {T : Tx} {F F' H H' : Hp} {d : D} {a : Addr} (h : OwnAt T F H d a) (e : Same F F') (k : H' a = H a) (ko : ∀ b, H b = some (.own a) → H' b = some (.own a)) : OwnAt T F' H' d a := by
  cases d with
  | lst ds => obtain ⟨xs, h1, h2⟩ := h; exact ⟨xs, k.trans h1, DenL.mono e _ h2⟩
  | dK ks ds => obtain ⟨xs, h1, h2, h3⟩ := h; exact ⟨xs, k.trans h1, h2, DenL.mono e _ h3⟩
  | dT ks ds => obtain ⟨xs, h1, h2, h3⟩ := h; exact ⟨xs, k.trans h1, h2, DenL.mono e _ h3⟩
  | ins c ns ds => obtain ⟨C, dx, xs, h1, h2, h3, h4, h5⟩ := h; exact ⟨C, dx, xs, h1, k.trans h2, ko _ h3, h4, DenL.mono e _ h5⟩
  | non => exact h.elim
  | bl _ => exact h.elim
  | int _ => exact h.elim
  | str _ => exact h.elim
  | tup _ => exact h.elim
  | exn _ _ _ => exact h.elim
  | ty _ => exact h.elim
  | glo _ => exact h.elim
  | scr _ => exact h.elim
theorem OwnAt.some {T : Tx} {F H : Hp} {d : D} {a : Addr} (h : OwnAt T F H d a) : ∃ o, H a = some o ∧ ∀ b, o ≠ .own b := by
  cases d with
  | lst ds => obtain ⟨xs, h1, h2⟩ := h; exact ⟨_, h1, fun b z => by cases z⟩
  | dK ks ds => obtain ⟨xs, h1, h2, h3⟩ := h; exact ⟨_, h1, fun b z => by cases z⟩
  | dT ks ds => obtain ⟨xs, h1, h2, h3⟩ := h; exact ⟨_, h1, fun b z => by cases z⟩
  | ins c ns ds => obtain ⟨C, dx, xs, h1, h2, h3, h4, h5⟩ := h; exact ⟨_, h2, fun b z => by cases z⟩
  | non => exact h.elim
  | bl _ => exact h.elim
  | int _ => exact h.elim
  | str _ => exact h.elim
  | tup _ => exact h.elim
  | exn _ _ _ => exact h.elim
  | ty _ => exact h.elim
  | glo _ => exact h.elim
  | scr _ => exact h.elim
/-- all is kept: the object holds what it held -/
theorem OwnAt.same {T : Tx} {F F' H H' : Hp} {d : D} {a : Addr} (h : OwnAt T F H d a) (e : Same F F') (k : Same H H') : OwnAt T F' H' d a := by
  obtain ⟨o, h1, _⟩ := h.some
  exact h.mono e ((k a o h1).trans h1.symm) fun b q => k b _ q
open Classical in
/-- the heap of what stays, with the object at a (and an instance's own dict) taken in -/
noncomputable def frzAt (F H : Hp) (a : Addr) : Hp := fun b => if b = a ∨ H b = some (.own a) then H b else F b
theorem frzAt_sub {F H : Hp} {a : Addr} (s : Same F H) : Same (frzAt F H a) H := fun b o e => by
  unfold frzAt at e
  split at e
  · exact e
  · exact s b o e
theorem frzAt_same {F H : Hp} {a : Addr} (s : Same F H) : Same F (frzAt F H a) := fun b o e => by
  unfold frzAt
  split
  · exact s b o e
  · exact e
theorem OwnAt.den {T : Tx} {F H : Hp} {d : D} {a : Addr} (s : Same F H) (h : OwnAt T F H d a) : Den T (frzAt F H a) d (.ref a) := by
  have at_a : frzAt F H a a = H a := by unfold frzAt; rw [if_pos (.inl rfl)]
  have m := frzAt_same (a := a) s
  cases d with
  | lst ds => obtain ⟨xs, h1, h2⟩ := h; exact ⟨a, xs, rfl, at_a.trans h1, DenL.mono m _ h2⟩
  | dK ks ds => obtain ⟨xs, h1, h2, h3⟩ := h; exact ⟨a, xs, rfl, at_a.trans h1, h2, DenL.mono m _ h3⟩
  | dT ks ds => obtain ⟨xs, h1, h2, h3⟩ := h; exact ⟨a, xs, rfl, at_a.trans h1, h2, DenL.mono m _ h3⟩
  | ins c ns ds =>
    obtain ⟨C, dx, xs, h1, h2, h3, h4, h5⟩ := h
    exact ⟨a, C, dx, xs, rfl, h1, at_a.trans h2, by unfold frzAt; rw [if_pos (.inr h3)]; exact h3, h4, DenL.mono m _ h5⟩
  | non => exact h.elim
  | bl _ => exact h.elim
  | int _ => exact h.elim
  | str _ => exact h.elim
  | tup _ => exact h.elim
  | exn _ _ _ => exact h.elim
  | ty _ => exact h.elim
  | glo _ => exact h.elim
  | scr _ => exact h.elim
theorem frzAt_none {F H : Hp} {a b : Addr} (n : F b = none) (h : b ≠ a) (o : ∃ u, H b = some u ∧ ∀ c, u ≠ .own c) : frzAt F H a b = none := by
  obtain ⟨u, e, q⟩ := o
  unfold frzAt
  rw [if_neg]
  · exact n
  · rintro (z | z)
    · exact h z
    · rw [e] at z
      exact q a (Option.some.inj z)

theorem get_set_self {ρ : En} {i : Nat} {s t : Slot} (h : ρ[i]? = some s) : (ρ.set i t)[i]? = some t := by
  have : i < ρ.length := (List.getElem?_eq_some_iff.mp h).1
  rw [List.getElem?_set_self this]
theorem get_set_ne {ρ : En} {i j : Nat} {t : Slot} (h : i ≠ j) : (ρ.set i t)[j]? = ρ[j]? := List.getElem?_set_ne h
theorem mu_set_ne {ρ : En} {i j : Nat} {t : Slot} {d : D} (h : i ≠ j) (m : MuAt (ρ.set i t) j d) : MuAt ρ j d := by
  obtain ⟨s, e, q⟩ := m
  rw [get_set_ne h] at e
  exact ⟨s, e, q⟩
theorem mu_sh {ρ : En} {i : Nat} {s : Slot} {d e : D} (h : ρ[i]? = some s) : ¬ MuAt (ρ.set i (.sh d)) i e := by
  rintro ⟨s', q, z⟩
  rw [get_set_self h] at q
  cases q
  cases z
/-- a slot's object is made to stay -/
theorem Stp.freeze {T : Tx} {F H : Hp} {ρ : En} {σ : Sg} {i : Nat} {d : D} {a : Addr} (r : Rel T F H ρ σ) (h : ρ[i]? = some (.ow d)) (ha : σ[i]? = some (some (.ref a))) :
    Stp T F H ρ σ (frzAt F H a) H (ρ.set i (.sh d)) σ ∧ Den T (frzAt F H a) d (.ref a) := by
  have hm : MuAt ρ i d := ⟨_, h, rfl⟩
  obtain ⟨b, hb, hn, ho⟩ := r.ow i d hm
  have e : b = a := by rw [ha] at hb; cases hb; rfl
  subst e
  have dn := OwnAt.den r.sub ho
  have m := frzAt_same (a := b) r.sub
  refine ⟨⟨⟨by rw [List.length_set]; exact r.len, frzAt_sub r.sub, fun j e q => ?_, fun j e q => ?_, fun j k e e' c q q' s s' => ?_⟩, m, fun _ _ h _ => h, fun b ⟨j, e, q, s⟩ => .inl ?_, fun _ o h => ⟨o, h⟩, fun j e q => ?_, fun c o hc no hw => ?_, fun j e q => ?_⟩, dn⟩
  · by_cases w : i = j
    · subst w
      rw [get_set_self h] at q
      cases q
      exact ⟨_, ha, dn⟩
    · rw [get_set_ne w] at q
      obtain ⟨x, s1, s2⟩ := r.sh j e q
      exact ⟨x, s1, s2.mono m⟩
  · by_cases w : i = j
    · subst w
      exact (mu_sh h q).elim
    · have q := mu_set_ne w q
      obtain ⟨c, s1, s2, s3⟩ := r.ow j e q
      have hne : c ≠ b := fun z => w (r.dis i j d e b hm q ha (by rw [s1, z]))
      exact ⟨c, s1, frzAt_none s2 hne s3.some, s3.mono m rfl fun _ z => z⟩
  · by_cases w : i = j
    · subst w
      exact (mu_sh h q).elim
    · by_cases w' : i = k
      · subst w'
        exact (mu_sh h q').elim
      · exact r.dis j k e e' c (mu_set_ne w q) (mu_set_ne w' q') s s'
  · by_cases w : i = j
    · subst w
      exact (mu_sh h q).elim
    · exact ⟨j, e, mu_set_ne w q, s⟩
  · by_cases w : i = j
    · subst w
      rw [h] at q
      cases q
    · exact ⟨⟨e, by rw [get_set_ne w]; exact q⟩, rfl⟩
  · unfold frzAt
    rw [if_neg]
    rintro (z | z)
    · exact no ⟨i, d, hm, by rw [z]; exact ha⟩
    · rw [hc] at z
      exact hw b (Option.some.inj z)
  · by_cases w : i = j
    · subst w
      rw [get_set_self h] at q
      cases q
    · rw [get_set_ne w] at q
      exact ⟨e, q⟩
/-- a new object of nobody's is made to stay -/
theorem Stp.freezeNew {T : Tx} {F H F' H' : Hp} {ρ ρ' : En} {σ σ' : Sg} {d : D} {a : Addr} (s : Stp T F H ρ σ F' H' ρ' σ') (hn : F' a = none) (h0 : H a = none) (no : ¬ Owned ρ' σ' a) (ho : OwnAt T F' H' d a) :
    Stp T F H ρ σ (frzAt F' H' a) H' ρ' σ' ∧ Den T (frzAt F' H' a) d (.ref a) ∧ Same F' (frzAt F' H' a) := by
  have r := s.rel
  have m := frzAt_same (a := a) r.sub
  refine ⟨⟨⟨r.len, frzAt_sub r.sub, fun j e q => ?_, fun j e q => ?_, r.dis⟩, s.same.trans m, s.keep, s.own, s.dom, s.bo, fun b o h no' hw => ?_, s.nb⟩, OwnAt.den r.sub ho, m⟩
  · obtain ⟨x, s1, s2⟩ := r.sh j e q
    exact ⟨x, s1, s2.mono m⟩
  · obtain ⟨c, s1, s2, s3⟩ := r.ow j e q
    have hne : c ≠ a := fun z => no ⟨j, e, q, by rw [s1, z]⟩
    exact ⟨c, s1, frzAt_none s2 hne s3.some, s3.mono m rfl fun _ z => z⟩
  · rw [← s.fz b o h no' hw]
    unfold frzAt
    rw [if_neg]
    rintro (z | z)
    · rw [z, h0] at h; cases h
    · rw [s.keep b o h no'] at z
      exact hw a (Option.some.inj z)
/-- any value held: a new one stays from now on -/
theorem held_ok {T : Tx} {F H F' H' : Hp} {ρ ρ' : En} {σ σ' : Sg} {v : Val} {x : V} (s : Stp T F H ρ σ F' H' ρ' σ') (h : VRel T H F' H' ρ' σ' v x) :
    ∃ F'', Stp T F H ρ σ F'' H' ρ' σ' ∧ Same F' F'' ∧ Pend T F'' σ' v.held x := by
  cases v with
  | sh d0 => exact ⟨F', s, Same.refl _, h⟩
  | fr d0 =>
    obtain ⟨a, rfl, hn, h0, no, ho⟩ := h
    obtain ⟨s2, q, m⟩ := s.freezeNew hn h0 no ho
    exact ⟨_, s2, m, q⟩
  | rf i => exact ⟨F', s, Same.refl _, h.1⟩
theorem Pend.mono {T : Tx} {F F' : Hp} {σ : Sg} {v : Val} {x : V} (e : Same F F') (h : Pend T F σ v x) : Pend T F' σ v x := by
  cases v with
  | sh d => exact Den.mono e d h
  | fr d => exact h
  | rf i => exact h
theorem PendL.mono {T : Tx} {F F' : Hp} {σ : Sg} (e : Same F F') : ∀ {vs : List Val} {xs : List V}, PendL T F σ vs xs → PendL T F' σ vs xs
  | [], _, h => h
  | _ :: _, _, ⟨x, r, h1, h2, h3⟩ => ⟨x, r, h1, h2.mono e, PendL.mono e h3⟩
/-- what a waiting value holds now -/
theorem Pend.peek {T : Tx} {F H : Hp} {ρ : En} {σ : Sg} {v : Val} {x : V} {d : D} (r : Rel T F H ρ σ) (h : Pend T F σ v x) (e : Tr.peek ρ v = some d) : Pk T F H d x := by
  cases v with
  | sh d0 => cases e; exact .inl h
  | fr d0 => exact h.elim
  | rf i =>
    have h : σ[i]? = some (some x) := h
    have e : (ρ[i]?).bind Slot.tr = some d := e
    cases q : ρ[i]? with
    | none => rw [q] at e; cases e
    | some s =>
      rw [q] at e
      have e : s.tr = some d := e
      cases s with
      | un => cases e
      | sh d0 =>
        cases e
        obtain ⟨y, h1, h2⟩ := r.sh i _ q
        rw [h] at h1; cases h1
        exact .inl h2
      | ow d0 =>
        cases e
        obtain ⟨a, h1, _, h2⟩ := r.ow i _ ⟨_, q, rfl⟩
        rw [h] at h1; cases h1
        exact .inr ⟨a, rfl, h2⟩
      | bo d0 =>
        cases e
        obtain ⟨a, h1, _, h2⟩ := r.ow i _ ⟨_, q, rfl⟩
        rw [h] at h1; cases h1
        exact .inr ⟨a, rfl, h2⟩
/-- a waiting value stays from now on -/
theorem Pend.frz {T : Tx} {F H : Hp} {ρ ρ' : En} {σ : Sg} {v : Val} {x : V} {d : D} (r : Rel T F H ρ σ) (h : Pend T F σ v x) (e : Tr.frz ρ v = some (d, ρ')) :
    ∃ F', Stp T F H ρ σ F' H ρ' σ ∧ Den T F' d x := by
  cases v with
  | sh d0 => cases e; exact ⟨F, Stp.refl r, h⟩
  | fr d0 => exact h.elim
  | rf i =>
    have h : σ[i]? = some (some x) := h
    cases q : ρ[i]? with
    | none => simp only [Tr.frz, q] at e; cases e
    | some s =>
      cases s with
      | un => simp only [Tr.frz, q] at e; cases e
      | sh d0 =>
        simp only [Tr.frz, q] at e
        cases e
        obtain ⟨y, h1, h2⟩ := r.sh i _ q
        rw [h] at h1; cases h1
        exact ⟨F, Stp.refl r, h2⟩
      | ow d0 =>
        simp only [Tr.frz, q] at e
        cases e
        obtain ⟨a, h1, _, h2⟩ := r.ow i _ ⟨_, q, rfl⟩
        rw [h] at h1; cases h1
        obtain ⟨s, dn⟩ := Stp.freeze r q h
        exact ⟨_, s, dn⟩
      | bo d0 => simp only [Tr.frz, q] at e; cases e
theorem frz_held (ρ : En) (v : Val) : frz ρ v.held = frz ρ v := by cases v <;> rfl
theorem peek_held (ρ : En) (v : Val) : peek ρ v.held = peek ρ v := by cases v <;> rfl

/-! ### a value made without touching what stands -/
structure New (T : Tx) (F H F' H' : Hp) : Prop where
  hh : Same H H'
  ff : Same F F'
  fh : Same F' H'
  old : ∀ b o, H b = some o → F' b = F b
theorem New.refl {T : Tx} {F H : Hp} (s : Same F H) : New T F H F H := ⟨Same.refl H, Same.refl F, s, fun _ _ _ => rfl⟩
theorem New.trans {T : Tx} {F H F1 H1 F2 H2 : Hp} (a : New T F H F1 H1) (b : New T F1 H1 F2 H2) : New T F H F2 H2 :=
  ⟨a.hh.trans b.hh, a.ff.trans b.ff, b.fh, fun c o h => (b.old c o (a.hh c o h)).trans (a.old c o h)⟩
theorem same_upd {H : Hp} {p : Addr} {o : HO} (h : H p = none) : Same H (upd H p o) := fun b x e => by
  rw [upd_ne (ne_of_none e h)]
  exact e
/-- a new thing that stays -/
theorem New.sh {T : Tx} {F H : Hp} {p : Addr} {o : HO} (s : Same F H) (h : H p = none) : New T F H (upd F p o) (upd H p o) := by
  have fp : F p = none := s.free h
  refine ⟨same_upd h, same_upd fp, fun b x e => ?_, fun b x e => ?_⟩
  · by_cases w : b = p
    · subst w; rw [upd_same] at e ⊢; exact e
    · rw [upd_ne w] at e ⊢; exact s b x e
  · rw [upd_ne (ne_of_none e h)]
/-- a new thing that may change -/
theorem New.fr {T : Tx} {F H : Hp} {p : Addr} {o : HO} (s : Same F H) (h : H p = none) : New T F H F (upd H p o) :=
  ⟨same_upd h, Same.refl F, s.trans (same_upd h), fun _ _ _ => rfl⟩
/-- the value's meaning beside it -/
def NRel (T : Tx) (H F' H' : Hp) : Val → V → Prop
  | .sh d, x => Den T F' d x
  | .fr d, x => ∃ a, x = .ref a ∧ F' a = none ∧ H a = none ∧ OwnAt T F' H' d a
  | .rf _, _ => False
theorem New.stp {T : Tx} {F H F' H' : Hp} {ρ : En} {σ : Sg} (n : New T F H F' H') (r : Rel T F H ρ σ) : Stp T F H ρ σ F' H' ρ σ where
  rel := ⟨r.len, n.fh, fun i d q => by
      obtain ⟨x, h1, h2⟩ := r.sh i d q
      exact ⟨x, h1, h2.mono n.ff⟩, fun i d q => by
      obtain ⟨a, h1, h2, h3⟩ := r.ow i d q
      obtain ⟨o, h4, _⟩ := h3.some
      exact ⟨a, h1, (n.old a o h4).trans h2, h3.same n.ff n.hh⟩, r.dis⟩
  same := n.ff
  keep := fun b o h _ => n.hh b o h
  own := fun _ h => .inl h
  dom := fun b o h => ⟨o, n.hh b o h⟩
  bo := fun _ d h => ⟨⟨d, h⟩, rfl⟩
  fz := fun b o h _ _ => n.old b o h
  nb := fun _ d h => ⟨d, h⟩
theorem NRel.vrel {T : Tx} {F H F' H' : Hp} {ρ : En} {σ : Sg} {v : Val} {x : V} (r : Rel T F H ρ σ) (h : NRel T H F' H' v x) : VRel T H F' H' ρ σ v x := by
  cases v with
  | sh d => exact h
  | fr d =>
    obtain ⟨a, h1, h2, h3, h4⟩ := h
    refine ⟨a, h1, h2, h3, fun ⟨i, e, m, q⟩ => ?_, h4⟩
    obtain ⟨b, q1, _, q2⟩ := r.ow i e m
    rw [q] at q1; cases q1
    obtain ⟨o, q3, _⟩ := q2.some
    rw [h3] at q3; cases q3
  | rf i => exact h.elim
/-- the same, as seen from further back -/
theorem VRel.back {T : Tx} {F H F1 H1 F' H' : Hp} {ρ ρ1 ρ' : En} {σ σ1 σ' : Sg} {v : Val} {x : V} (s : Stp T F H ρ σ F1 H1 ρ1 σ1) (h : VRel T H1 F' H' ρ' σ' v x) : VRel T H F' H' ρ' σ' v x := by
  cases v with
  | sh d => exact h
  | fr d =>
    obtain ⟨a, h1, h2, h3, h4, h5⟩ := h
    exact ⟨a, h1, h2, s.free h3, h4, h5⟩
  | rf i => exact h
end Tr
/-! Tr, part B: expressions, tests, arguments, plain statements. -/
namespace Tr
open PySem PySem.Spec PyProof.Rows L2
section
variable {X : Cx} {W : WX}

/-! ### names and constants -/
def evVar (i : Nat) : FE := fun ρ => match ρ[i]? with
  | some (.sh d) => .ok (.sh d, ρ)
  | some (.ow _) => .ok (.rf i, ρ)
  | some (.bo _) => .ok (.rf i, ρ)
  | _ => .no
def evC (d : D) : FE := fun ρ => .ok (.sh d, ρ)
theorem evVar_ok {T : Tx} {F H : Hp} {ρ : En} {σ : Sg} {i : Nat} {Q : V → Hp → Prop} (r : Rel T F H ρ σ)
    (h : match evVar i ρ with
      | .ok r => ∀ x F' H', Stp T F H ρ σ F' H' r.2 σ → VRel T H F' H' r.2 σ r.1 x → Q x H'
      | .ex c n d ρ' => ∀ F' H' cls dx, Stp T F H ρ σ F' H' ρ' σ → ERel T F' c n d cls dx → W cls dx σ H'
      | .no => False) : ∃ x, σ[i]? = some (some x) ∧ Q x H := by
  unfold evVar at h
  cases q : ρ[i]? with
  | none => rw [q] at h; exact h.elim
  | some s =>
    rw [q] at h
    cases s with
    | un => exact h.elim
    | sh d =>
      obtain ⟨x, h1, h2⟩ := r.sh i d q
      exact ⟨x, h1, h x F H (Stp.refl r) h2⟩
    | ow d =>
      obtain ⟨a, h1, h2, h3⟩ := r.ow i d ⟨_, q, rfl⟩
      exact ⟨.ref a, h1, h _ F H (Stp.refl r) ⟨h1, d, _, q, rfl⟩⟩
    | bo d =>
      obtain ⟨a, h1, h2, h3⟩ := r.ow i d ⟨_, q, rfl⟩
      exact ⟨.ref a, h1, h _ F H (Stp.refl r) ⟨h1, d, _, q, rfl⟩⟩
theorem se_var (i : Nat) {x : Str} {pos : Pos} (hN : X.N[i]? = some x := by rfl) (hv : Vis X.env.scope x := by first | exact Or.inl rfl | exact Or.inr (Or.inl rfl) | exact Or.inr (Or.inr rfl))
    (hd : (x == ("__debug__" : Str)) = false := by decide) (hcd : (x == ("__classdict__" : Str)) = false := by decide) : SE X W (.Name x pos) (evVar i) :=
  pe_imp (pe_var hN hv hd hcd) fun σ H Q ⟨ρ, F, r, h⟩ => evVar_ok r h
theorem se_int {i : Int} {j pos} : SE X W (.Constant (.int i) j pos) (evC (.int i)) := pe_imp pe_int fun σ H Q ⟨ρ, F, r, h⟩ => h _ F H (Stp.refl r) rfl
theorem se_bl {b : Bool} {j pos} : SE X W (.Constant (.bool b) j pos) (evC (.bl b)) := pe_imp pe_bl fun σ H Q ⟨ρ, F, r, h⟩ => h _ F H (Stp.refl r) rfl
theorem se_non {j pos} : SE X W (.Constant .none j pos) (evC .non) := pe_imp pe_non fun σ H Q ⟨ρ, F, r, h⟩ => h _ F H (Stp.refl r) rfl
theorem se_str {x : Str} {j pos} : SE X W (.Constant (.str x) j pos) (evC (.str x)) := pe_imp pe_str fun σ H Q ⟨ρ, F, r, h⟩ => h _ F H (Stp.refl r) rfl
/-- a def or class of the module, as a value -/
theorem se_glo {x : Str} {a : Addr} {pos : Pos} (hm : X.mg x = some (.ref a)) (hg : Gl X x := by rfl) (hd : (x == ("__debug__" : Str)) = false := by decide) : SE X W (.Name x pos) (evC (.glo x)) :=
  pe_imp (pe_glob (v := .ref a) hg hm rfl hd) fun σ H Q ⟨ρ, F, r, h⟩ => h _ F H (Stp.refl r) ⟨a, hm, rfl⟩
/-- an int of the module -/
theorem se_gint {x : Str} {i : Int} {t : Tok} {pos : Pos} (hm : X.mg x = some (.int i t)) (hg : Gl X x := by rfl) (hd : (x == ("__debug__" : Str)) = false := by decide) : SE X W (.Name x pos) (evC (.int i)) :=
  pe_imp (pe_glob (v := .int i) hg hm ⟨t, rfl⟩ hd) fun σ H Q ⟨ρ, F, r, h⟩ => h _ F H (Stp.refl r) rfl
/-- a text of the module -/
theorem se_gstr {x s : Str} {t : Tok} {pos : Pos} (hm : X.mg x = some (.str s t)) (hg : Gl X x := by rfl) (hd : (x == ("__debug__" : Str)) = false := by decide) : SE X W (.Name x pos) (evC (.str s)) :=
  pe_imp (pe_glob (v := .str s) hg hm ⟨t, rfl⟩ hd) fun σ H Q ⟨ρ, F, r, h⟩ => h _ F H (Stp.refl r) rfl
/-- a built-in class, as a value -/
theorem se_ty {x : Str} {n : String} {pos : Pos} (hm : X.mg x = none) (hv : bootBuiltins x = some (.type n)) (hg : Gl X x := by rfl) (hn : x ≠ "__name__" := by decide) (hd : (x == ("__debug__" : Str)) = false := by decide) : SE X W (.Name x pos) (evC (.ty n)) :=
  pe_imp (pe_bltn (v := .ty n) hg hm hv rfl hn hd) fun σ H Q ⟨ρ, F, r, h⟩ => h _ F H (Stp.refl r) rfl

/-! ### operators -/
/-- one value out of two, without touching what stands -/
def op2 (g : D → D → Option Val) (ρ : En) (v w : Val) : R (Val × En) := match peek ρ v, peek ρ w with
  | some d, some e => (match g d e with
    | some z => .ok (z, ρ)
    | none => .no)
  | _, _ => .no
def evOp (g : D → D → Option Val) (fa fb : FE) : FE := fun ρ => (fa ρ).bind fun r => (fb r.2).bind fun q => op2 g q.2 r.1 q.1
/-- an operator does what g says -/
def OpS (X : Cx) (f : Value → Value → Sem Value) (g : D → D → Option Val) : Prop := ∃ r : R2, OpR X f r ∧
  ∀ (F H : Hp) (x y : V) (d e : D) (z : Val) (Q : VK), Same F H → Pk (.of X) F H d x → Pk (.of X) F H e y → g d e = some z → (∀ w F' H', New (.of X) F H F' H' → NRel (.of X) H F' H' z w → Q w H') → r x y H Q
theorem evOp_ok {fa fb : FE} {g : D → D → Option Val} {f : Value → Value → Sem Value} {r : R2} (hr : ∀ (F H : Hp) (x y : V) (d e : D) (z : Val) (Q : VK), Same F H → Pk (.of X) F H d x → Pk (.of X) F H e y → g d e = some z → (∀ w F' H', New (.of X) F H F' H' → NRel (.of X) H F' H' z w → Q w H') → r x y H Q)
    {σ : Sg} {H : Hp} {Q : VK} (h : tOf (.of X) W (evOp g fa fb) σ H Q) : tOp r (tOf (.of X) W fa) (tOf (.of X) W fb) σ H Q := by
  obtain ⟨ρ, F, rl, h⟩ := h
  unfold evOp at h
  refine ⟨ρ, F, rl, ?_⟩
  cases ea : fa ρ with
  | no => rw [ea] at h; exact h
  | ex c n d ρ' => rw [ea] at h; exact h
  | ok ra =>
    rw [ea] at h
    intro x F1 H1 s1 v1
    obtain ⟨F2, s12, m2, p2⟩ := held_ok s1 v1
    refine ⟨ra.2, F2, s12.rel, ?_⟩
    have h : (match (fb ra.2).bind fun q => op2 g q.2 ra.1 q.1 with
      | .ok r => ∀ x F' H', Stp (.of X) F H ρ σ F' H' r.2 σ → VRel (.of X) H F' H' r.2 σ r.1 x → Q x H'
      | .ex c n d ρ' => ∀ F' H' cls dx, Stp (.of X) F H ρ σ F' H' ρ' σ → ERel (.of X) F' c n d cls dx → W cls dx σ H'
      | .no => False) := h
    cases eb : fb ra.2 with
    | no => rw [eb] at h; exact h
    | ex c n d ρ' =>
      rw [eb] at h
      exact fun F' H' cls dx s e => h F' H' cls dx (s12.trans s) e
    | ok rb =>
      rw [eb] at h
      intro y F3 H3 s3 v3
      have h : (match op2 g rb.2 ra.1 rb.1 with
        | .ok r => ∀ x F' H', Stp (.of X) F H ρ σ F' H' r.2 σ → VRel (.of X) H F' H' r.2 σ r.1 x → Q x H'
        | .ex c n d ρ' => ∀ F' H' cls dx, Stp (.of X) F H ρ σ F' H' ρ' σ → ERel (.of X) F' c n d cls dx → W cls dx σ H'
        | .no => False) := h
      obtain ⟨F4, s4, m4, p4⟩ := held_ok s3 v3
      have s14 := s12.trans s4
      unfold op2 at h
      cases e1 : peek rb.2 ra.1 with
      | none => rw [e1] at h; exact h.elim
      | some d =>
        cases e2 : peek rb.2 rb.1 with
        | none => rw [e1, e2] at h; exact h.elim
        | some e =>
          rw [e1, e2] at h
          cases e3 : g d e with
          | none => simp only [e3] at h
          | some z =>
            simp only [e3] at h
            have k1 := (p2.mono s4.same).peek s4.rel (by rw [peek_held]; exact e1)
            have k2 := p4.peek s4.rel (by rw [peek_held]; exact e2)
            refine hr F4 H3 x y d e z Q s4.rel.sub k1 k2 e3 fun w F5 H5 n5 r5 => ?_
            exact h w F5 H5 (s14.trans (n5.stp s4.rel)) ((r5.vrel s4.rel).back s14)
theorem se_op {a b : Expr} {op : Operator} {pos : Pos} {fa fb : FE} {g : D → D → Option Val} (ho : OpS X (binaryOp op) g) (ha : SE X W a fa) (hb : SE X W b fb) : SE X W (.BinOp a op b pos) (evOp g fa fb) := by
  obtain ⟨r, h1, h2⟩ := ho
  exact pe_imp (pe_op h1 ha hb) fun σ H Q h => evOp_ok (f := binaryOp op) h2 h
theorem se_cmp {a b : Expr} {op : CmpOp} {pos : Pos} {fa fb : FE} {g : D → D → Option Val} (ho : OpS X (compareOp op) g) (ha : SE X W a fa) (hb : SE X W b fb) (hm : behindInMarks op b = false := by first | exact nomark _ | rfl) : SE X W (.Compare a [op] [b] pos) (evOp g fa fb) := by
  obtain ⟨r, h1, h2⟩ := ho
  exact pe_imp (pe_cmpR h1 ha hb hm) fun σ H Q h => evOp_ok (f := compareOp op) h2 h
/-- xs[i] -/
def IxS (X : Cx) (g : D → D → Option Val) : Prop := ∃ r : R2, IxR X r ∧
  ∀ (F H : Hp) (x y : V) (d e : D) (z : Val) (Q : VK), Same F H → Pk (.of X) F H d x → Pk (.of X) F H e y → g d e = some z → (∀ w F' H', New (.of X) F H F' H' → NRel (.of X) H F' H' z w → Q w H') → r x y H Q
theorem se_ix {a b : Expr} {pos : Pos} {fa fb : FE} {g : D → D → Option Val} (ho : IxS X g) (ha : SE X W a fa) (hb : SE X W b fb) (hs : PlainIx b := by exact fun _ _ => rfl) : SE X W (.Subscript a b pos) (evOp g fa fb) := by
  obtain ⟨r, h1, h2⟩ := ho
  exact pe_imp (pe_ix h1 ha hb hs) fun σ H Q h => evOp_ok (f := fun _ _ => pure .none) h2 h
/-- an operator of one operand -/
def op1 (g : D → Option Val) (ρ : En) (v : Val) : R (Val × En) := match peek ρ v with
  | some d => (match g d with
    | some z => .ok (z, ρ)
    | none => .no)
  | none => .no
def evUn (g : D → Option Val) (fa : FE) : FE := fun ρ => (fa ρ).bind fun r => op1 g r.2 r.1
def UnS (X : Cx) (r : V → Hp → VK → Prop) (g : D → Option Val) : Prop :=
  ∀ (F H : Hp) (x : V) (d : D) (z : Val) (Q : VK), Same F H → Pk (.of X) F H d x → g d = some z → (∀ w F' H', New (.of X) F H F' H' → NRel (.of X) H F' H' z w → Q w H') → r x H Q
theorem evUn_ok {fa : FE} {g : D → Option Val} {r : V → Hp → VK → Prop} (hr : UnS X r g) {σ : Sg} {H : Hp} {Q : VK} (h : tOf (.of X) W (evUn g fa) σ H Q) : tOf (.of X) W fa σ H fun x H1 => r x H1 Q := by
  obtain ⟨ρ, F, rl, h⟩ := h
  unfold evUn at h
  refine ⟨ρ, F, rl, ?_⟩
  cases ea : fa ρ with
  | no => rw [ea] at h; exact h
  | ex c n d ρ' => rw [ea] at h; exact h
  | ok ra =>
    rw [ea] at h
    intro x F1 H1 s1 v1
    obtain ⟨F2, s12, m2, p2⟩ := held_ok s1 v1
    have h : (match op1 g ra.2 ra.1 with
      | .ok r => ∀ x F' H', Stp (.of X) F H ρ σ F' H' r.2 σ → VRel (.of X) H F' H' r.2 σ r.1 x → Q x H'
      | .ex c n d ρ' => ∀ F' H' cls dx, Stp (.of X) F H ρ σ F' H' ρ' σ → ERel (.of X) F' c n d cls dx → W cls dx σ H'
      | .no => False) := h
    unfold op1 at h
    cases e1 : peek ra.2 ra.1 with
    | none => simp only [e1] at h
    | some d =>
      simp only [e1] at h
      cases e3 : g d with
      | none => simp only [e3] at h
      | some z =>
        simp only [e3] at h
        have k1 := p2.peek s12.rel (by rw [peek_held]; exact e1)
        exact hr F2 H1 x d z Q s12.rel.sub k1 e3 fun w F5 H5 n5 r5 => h w F5 H5 (s12.trans (n5.stp s12.rel)) ((r5.vrel s12.rel).back s12)
theorem se_un {a : Expr} {op : UnaryOp} {pos : Pos} {fa : FE} {g : D → Option Val} {r : V → Hp → VK → Prop} (ho : UnR X (unaryOp op) r) (hr : UnS X r g) (ha : SE X W a fa) : SE X W (.UnaryOp op a pos) (evUn g fa) :=
  pe_imp (pe_un ho ha) fun σ H Q h => evUn_ok hr h

/-! ### tests -/
def asB : Val × En → R (Bool × En)
  | (.sh (.bl b), ρ) => .ok (b, ρ)
  | _ => .no
def ftVal (f : FE) : FT := fun ρ => (f ρ).bind asB
theorem tB_of {f : FE} {σ : Sg} {H : Hp} {Q : Bool → Hp → Prop} (h : tOfT (.of X) W (ftVal f) σ H Q) : tB (tOf (.of X) W f) σ H Q := by
  obtain ⟨ρ, F, rl, h⟩ := h
  unfold ftVal at h
  refine ⟨ρ, F, rl, ?_⟩
  cases ea : f ρ with
  | no => rw [ea] at h; exact h
  | ex c n d ρ' => rw [ea] at h; exact h
  | ok ra =>
    obtain ⟨v, ρ'⟩ := ra
    rw [ea] at h
    intro x F1 H1 s1 v1
    cases v with
    | sh d =>
      cases d with
      | bl b => exact ⟨b, v1, h F1 H1 s1⟩
      | _ => exact h.elim
    | fr d => exact h.elim
    | rf i => exact h.elim
theorem st_val {e : Expr} {f : FE} (h : SE X W e f) (he : ∀ whole, isTrue e X.env whole = (do let v ← whole; standAt e.pos; holding [v] (truthy v)) := by intro _; rfl) : ST X W e (ftVal f) :=
  pt_imp (pt_val h he) fun σ H Q h => tB_of h
theorem st_cmp {a b : Expr} {op : CmpOp} {pos : Pos} {fa fb : FE} {g : D → D → Option Val} (ho : OpS X (compareOp op) g) (ha : SE X W a fa) (hb : SE X W b fb) (hm : behindInMarks op b = false := by first | exact nomark _ | rfl) : ST X W (.Compare a [op] [b] pos) (ftVal (evOp g fa fb)) := by
  obtain ⟨r, h1, h2⟩ := ho
  refine pt_imp (pt_cmpR h1 ha hb hm) fun σ H Q h => ?_
  have h := tB_of h
  exact evOp_ok (f := compareOp op) h2 h
/-- one test, then another one by its answer -/
def ftThen (f : FT) (g : Bool → FT) : FT := fun ρ => (f ρ).bind fun r => g r.1 r.2
theorem ftThen_ok {f : FT} {g : Bool → FT} {σ : Sg} {H : Hp} {Q : Bool → Hp → Prop} {P : Bool → Hp → Prop} (h : tOfT (.of X) W (ftThen f g) σ H Q)
    (k : ∀ b H1, tOfT (.of X) W (g b) σ H1 Q → P b H1) : tOfT (.of X) W f σ H P := by
  obtain ⟨ρ, F, rl, h⟩ := h
  unfold ftThen at h
  refine ⟨ρ, F, rl, ?_⟩
  cases ea : f ρ with
  | no => rw [ea] at h; exact h
  | ex c n d ρ' => rw [ea] at h; exact h
  | ok ra =>
    rw [ea] at h
    intro F1 H1 s1
    refine k ra.1 H1 ⟨ra.2, F1, s1.rel, ?_⟩
    have h : (match g ra.1 ra.2 with
      | .ok r => ∀ F' H', Stp (.of X) F H ρ σ F' H' r.2 σ → Q r.1 H'
      | .ex c n d ρ' => ∀ F' H' cls dx, Stp (.of X) F H ρ σ F' H' ρ' σ → ERel (.of X) F' c n d cls dx → W cls dx σ H'
      | .no => False) := h
    cases eb : g ra.1 ra.2 with
    | no => rw [eb] at h; exact h
    | ex c n d ρ' => rw [eb] at h; exact fun F' H' cls dx s e => h F' H' cls dx (s1.trans s) e
    | ok rb => rw [eb] at h; exact fun F' H' s => h F' H' (s1.trans s)
def ftC (b : Bool) : FT := fun ρ => .ok (b, ρ)
theorem ftC_ok {b : Bool} {σ : Sg} {H : Hp} {Q : Bool → Hp → Prop} (h : tOfT (.of X) W (ftC b) σ H Q) : Q b H := by
  obtain ⟨ρ, F, rl, h⟩ := h
  exact h F H (Stp.refl rl)
def ftAnd (f g : FT) : FT := ftThen f fun b => if b = true then g else ftC false
def ftOr (f g : FT) : FT := ftThen f fun b => if b = true then ftC true else g
def ftNot (f : FT) : FT := ftThen f fun b => ftC (!b)
/-- and, or as tests: the whole is not looked at -/
def SW (X : Cx) (W : WX) (e : Expr) (f : FT) : Prop := PW X e (tOfT (.of X) W f)
theorem SW.st {e : Expr} {f : FT} (h : SW X W e f) : ST X W e f := PW.pt h
theorem pw_imp {e : Expr} {t t' : TT} (h : PW X e t) (i : ∀ σ H Q, t' σ H Q → t σ H Q) : PW X e t' := ⟨fun wh pins s σ H Q I q => h.run wh pins s σ H Q I (i σ H Q q)⟩
theorem sw_and1 {a : Expr} {pos : Pos} {f : FT} (h : ST X W a f) : SW X W (.BoolOp .And [a] pos) f := pw_and1 h
theorem sw_or1 {a : Expr} {pos : Pos} {f : FT} (h : ST X W a f) : SW X W (.BoolOp .Or [a] pos) f := pw_or1 h
theorem sw_and {a b : Expr} {rest : List Expr} {pos : Pos} {f g : FT} (h : ST X W a f) (k : SW X W (.BoolOp .And (b :: rest) pos) g) : SW X W (.BoolOp .And (a :: b :: rest) pos) (ftAnd f g) :=
  pw_imp (pw_and h k) fun σ H Q q => ftThen_ok q fun b H1 z => by
    cases b with
    | true => rw [if_pos rfl] at z ⊢; exact z
    | false => rw [if_neg Bool.false_ne_true] at z ⊢; exact ftC_ok z
theorem sw_or {a b : Expr} {rest : List Expr} {pos : Pos} {f g : FT} (h : ST X W a f) (k : SW X W (.BoolOp .Or (b :: rest) pos) g) : SW X W (.BoolOp .Or (a :: b :: rest) pos) (ftOr f g) :=
  pw_imp (pw_or h k) fun σ H Q q => ftThen_ok q fun b H1 z => by
    cases b with
    | true => rw [if_pos rfl] at z ⊢; exact ftC_ok z
    | false => rw [if_neg Bool.false_ne_true] at z ⊢; exact z
theorem st_not {a : Expr} {pos : Pos} {f : FT} (h : ST X W a f) : ST X W (.UnaryOp .Not a pos) (ftNot f) :=
  pt_imp (pt_not h) fun σ H Q q => ftThen_ok q fun b H1 z => ftC_ok z
/-- a test's answer as a value, an expression by a test's answer -/
def evThen (f : FT) (g : Bool → FE) : FE := fun ρ => (f ρ).bind fun r => g r.1 r.2
theorem evThen_ok {f : FT} {g : Bool → FE} {σ : Sg} {H : Hp} {Q : VK} {P : Bool → Hp → Prop} (h : tOf (.of X) W (evThen f g) σ H Q)
    (k : ∀ b H1, tOf (.of X) W (g b) σ H1 Q → P b H1) : tOfT (.of X) W f σ H P := by
  obtain ⟨ρ, F, rl, h⟩ := h
  unfold evThen at h
  refine ⟨ρ, F, rl, ?_⟩
  cases ea : f ρ with
  | no => rw [ea] at h; exact h
  | ex c n d ρ' => rw [ea] at h; exact h
  | ok ra =>
    rw [ea] at h
    intro F1 H1 s1
    refine k ra.1 H1 ⟨ra.2, F1, s1.rel, ?_⟩
    have h : (match g ra.1 ra.2 with
      | .ok r => ∀ x F' H', Stp (.of X) F H ρ σ F' H' r.2 σ → VRel (.of X) H F' H' r.2 σ r.1 x → Q x H'
      | .ex c n d ρ' => ∀ F' H' cls dx, Stp (.of X) F H ρ σ F' H' ρ' σ → ERel (.of X) F' c n d cls dx → W cls dx σ H'
      | .no => False) := h
    cases eb : g ra.1 ra.2 with
    | no => rw [eb] at h; exact h
    | ex c n d ρ' => rw [eb] at h; exact fun F' H' cls dx s e => h F' H' cls dx (s1.trans s) e
    | ok rb => rw [eb] at h; exact fun x F' H' s v => h x F' H' (s1.trans s) (v.back s1)
def evIf (c : FT) (fa fb : FE) : FE := evThen c fun b => if b = true then fa else fb
theorem se_if {c a b : Expr} {pos : Pos} {fc : FT} {fa fb : FE} (hc : ST X W c fc) (ha : SE X W a fa) (hb : SE X W b fb) : SE X W (.IfExp c a b pos) (evIf fc fa fb) :=
  pe_imp (pe_ifExp hc ha hb) fun σ H Q q => evThen_ok q fun b H1 z => by
    cases b with
    | true => rw [if_pos rfl] at z ⊢; exact z
    | false => rw [if_neg Bool.false_ne_true] at z ⊢; exact z
/-- and, or, not as values: all but the last are bools -/
def evAnd (fa fb : FE) : FE := evThen (ftVal fa) fun b => if b = true then fb else evC (.bl false)
def evOr (fa fb : FE) : FE := evThen (ftVal fa) fun b => if b = true then evC (.bl true) else fb
def evNot (fa : FE) : FE := evThen (ftVal fa) fun b => evC (.bl (!b))
theorem evC_ok {d : D} {x : V} {σ : Sg} {H : Hp} {Q : VK} (h : tOf (.of X) W (evC d) σ H Q) (hd : ∀ F, Den (.of X) F d x) : Q x H := by
  obtain ⟨ρ, F, rl, h⟩ := h
  exact h x F H (Stp.refl rl) (hd F)
theorem se_one {a : Expr} {op} {pos : Pos} {f : FE} (h : SE X W a f) : SE X W (.BoolOp op [a] pos) f := pe_one h
theorem se_and {a b : Expr} {rest : List Expr} {pos : Pos} {fa fb : FE} (ha : SE X W a fa) (hb : SE X W (.BoolOp .And (b :: rest) pos) fb) : SE X W (.BoolOp .And (a :: b :: rest) pos) (evAnd fa fb) :=
  pe_imp (pe_and ha hb) fun σ H Q q => tB_of (Q := fun c H1 => if c = true then tOf (.of X) W fb σ H1 Q else Q (.bl false) H1) (evThen_ok q fun b H1 z => by
    cases b with
    | true => rw [if_pos rfl] at z ⊢; exact z
    | false => rw [if_neg Bool.false_ne_true] at z ⊢; exact evC_ok z fun _ => rfl)
theorem se_or {a b : Expr} {rest : List Expr} {pos : Pos} {fa fb : FE} (ha : SE X W a fa) (hb : SE X W (.BoolOp .Or (b :: rest) pos) fb) : SE X W (.BoolOp .Or (a :: b :: rest) pos) (evOr fa fb) :=
  pe_imp (pe_or ha hb) fun σ H Q q => tB_of (Q := fun c H1 => if c = true then Q (.bl true) H1 else tOf (.of X) W fb σ H1 Q) (evThen_ok q fun b H1 z => by
    cases b with
    | true => rw [if_pos rfl] at z ⊢; exact evC_ok z fun _ => rfl
    | false => rw [if_neg Bool.false_ne_true] at z ⊢; exact z)
theorem se_not {a : Expr} {pos : Pos} {fa : FE} (ha : SE X W a fa) : SE X W (.UnaryOp .Not a pos) (evNot fa) :=
  pe_imp (pe_not ha) fun σ H Q q => tB_of (Q := fun c H1 => Q (.bl (!c)) H1) (evThen_ok q fun b H1 z => evC_ok z fun _ => rfl)

/-! ### arguments, displays -/
def faNil : FA := fun ρ => .ok ([], ρ)
def faCons (f : FE) (g : FA) : FA := fun ρ => (f ρ).bind fun r => (g r.2).bind fun q => .ok (r.1.held :: q.1, q.2)
theorem sa_nil : SA X W [] faNil := pa_imp pa_nil fun σ H Q ⟨ρ, F, r, h⟩ => h [] F H (Stp.refl r) rfl
theorem sa_cons {e : Expr} {es : List Expr} {f : FE} {g : FA} (he : SE X W e f) (hr : SA X W es g) (hs : starEach (e :: es) X.env = (false, eval e X.env) :: starEach es X.env := by rfl) : SA X W (e :: es) (faCons f g) :=
  pa_imp (pa_cons he hr hs) fun σ H Q ⟨ρ, F, rl, h⟩ => by
    unfold faCons at h
    refine ⟨ρ, F, rl, ?_⟩
    cases ea : f ρ with
    | no => rw [ea] at h; exact h
    | ex c n d ρ' => rw [ea] at h; exact h
    | ok ra =>
      rw [ea] at h
      intro x F1 H1 s1 v1
      obtain ⟨F2, s12, m2, p2⟩ := held_ok s1 v1
      refine ⟨ra.2, F2, s12.rel, ?_⟩
      have h : (match (g ra.2).bind fun q => R.ok (ra.1.held :: q.1, q.2) with
        | .ok r => ∀ xs F' H', Stp (.of X) F H ρ σ F' H' r.2 σ → PendL (.of X) F' σ r.1 xs → Q xs H'
        | .ex c n d ρ' => ∀ F' H' cls dx, Stp (.of X) F H ρ σ F' H' ρ' σ → ERel (.of X) F' c n d cls dx → W cls dx σ H'
        | .no => False) := h
      cases eb : g ra.2 with
      | no => rw [eb] at h; exact h
      | ex c n d ρ' => rw [eb] at h; exact fun F' H' cls dx s e => h F' H' cls dx (s12.trans s) e
      | ok rb =>
        rw [eb] at h
        exact fun xs F' H' s p => h (x :: xs) F' H' (s12.trans s) ⟨x, xs, rfl, p2.mono s.same, p⟩
/-- all of them stay from now on -/
def frzL (ρ : En) : List Val → Option (List D × En)
  | [] => some ([], ρ)
  | v :: vs => match frz ρ v with
    | some (d, ρ') => (match frzL ρ' vs with
      | some (ds, ρ'') => some (d :: ds, ρ'')
      | none => none)
    | none => none
theorem PendL.frz {T : Tx} {H : Hp} {σ : Sg} : ∀ {vs : List Val} {F : Hp} {ρ ρ' : En} {xs : List V} {ds : List D}, Rel T F H ρ σ → PendL T F σ vs xs → frzL ρ vs = some (ds, ρ') → ∃ F', Stp T F H ρ σ F' H ρ' σ ∧ DenL T F' ds xs
  | [], F, ρ, ρ', xs, ds, r, h, e => by
    cases e
    exact ⟨F, Stp.refl r, h⟩
  | v :: vs, F, ρ, ρ', xs, ds, r, ⟨x, xr, h1, h2, h3⟩, e => by
    unfold frzL at e
    cases e1 : Tr.frz ρ v with
    | none => rw [e1] at e; cases e
    | some q =>
      obtain ⟨d, ρ1⟩ := q
      simp only [e1] at e
      cases e2 : frzL ρ1 vs with
      | none => rw [e2] at e; cases e
      | some q2 =>
        obtain ⟨ds2, ρ2⟩ := q2
        simp only [e2] at e
        cases e
        obtain ⟨F1, s1, d1⟩ := h2.frz r e1
        obtain ⟨F2, s2, d2⟩ := PendL.frz s1.rel (h3.mono s1.same) e2
        exact ⟨F2, s1.trans s2, x, xr, h1, d1.mono s2.same, d2⟩
def dispT (ρ : En) (vs : List Val) : R (Val × En) := match frzL ρ vs with
  | some (ds, ρ') => if ds.length ≤ 16777216 then .ok (.sh (.tup ds), ρ') else .no
  | none => .no
def dispL (ρ : En) (vs : List Val) : R (Val × En) := match frzL ρ vs with
  | some (ds, ρ') => if ds.length ≤ 16777216 then .ok (.fr (.lst ds), ρ') else .no
  | none => .no
def evTup (f : FA) : FE := fun ρ => (f ρ).bind fun r => dispT r.2 r.1
def evLst (f : FA) : FE := fun ρ => (f ρ).bind fun r => dispL r.2 r.1
theorem size_le {n : Nat} (h : n ≤ 16777216) : n ≤ sizeLine := by rw [sizeLine_eq]; exact h
theorem size_lt {n : Nat} (h : n < 16777216) : n < sizeLine := by rw [sizeLine_eq]; exact h
theorem se_tup {es : List Expr} {x1} {pos : Pos} {f : FA} (h : SA X W es f) : SE X W (.Tuple es x1 pos) (evTup f) :=
  pe_imp (pe_tup h) fun σ H Q ⟨ρ, F, rl, h⟩ => by
    unfold evTup at h
    refine ⟨ρ, F, rl, ?_⟩
    cases ea : f ρ with
    | no => rw [ea] at h; exact h
    | ex c n d ρ' => rw [ea] at h; exact h
    | ok ra =>
      rw [ea] at h
      intro xs F1 H1 s1 p1
      have h : (match dispT ra.2 ra.1 with
        | .ok r => ∀ x F' H', Stp (.of X) F H ρ σ F' H' r.2 σ → VRel (.of X) H F' H' r.2 σ r.1 x → Q x H'
        | .ex c n d ρ' => ∀ F' H' cls dx, Stp (.of X) F H ρ σ F' H' ρ' σ → ERel (.of X) F' c n d cls dx → W cls dx σ H'
        | .no => False) := h
      unfold dispT at h
      cases e1 : frzL ra.2 ra.1 with
      | none => rw [e1] at h; exact h.elim
      | some q =>
        obtain ⟨ds, ρ2⟩ := q
        simp only [e1] at h
        by_cases hl : ds.length ≤ 16777216
        · rw [if_pos hl] at h
          obtain ⟨F2, s2, d2⟩ := p1.frz s1.rel e1
          refine ⟨size_le (by rw [← d2.length]; exact hl), fun p hp => ?_⟩
          have n3 : New (.of X) F2 H1 (upd F2 p (.tup xs)) (upd H1 p (.tup xs)) := New.sh s2.rel.sub hp
          exact h _ _ _ ((s1.trans s2).trans (n3.stp s2.rel)) ⟨p, xs, rfl, SqT.of upd_same, d2.mono n3.ff⟩
        · rw [if_neg hl] at h; exact h.elim
theorem se_lst {es : List Expr} {pos : Pos} {f : FA} (h : SA X W es f) : SE X W (.List es pos) (evLst f) :=
  pe_imp (pe_lst h) fun σ H Q ⟨ρ, F, rl, h⟩ => by
    unfold evLst at h
    refine ⟨ρ, F, rl, ?_⟩
    cases ea : f ρ with
    | no => rw [ea] at h; exact h
    | ex c n d ρ' => rw [ea] at h; exact h
    | ok ra =>
      rw [ea] at h
      intro xs F1 H1 s1 p1
      have h : (match dispL ra.2 ra.1 with
        | .ok r => ∀ x F' H', Stp (.of X) F H ρ σ F' H' r.2 σ → VRel (.of X) H F' H' r.2 σ r.1 x → Q x H'
        | .ex c n d ρ' => ∀ F' H' cls dx, Stp (.of X) F H ρ σ F' H' ρ' σ → ERel (.of X) F' c n d cls dx → W cls dx σ H'
        | .no => False) := h
      unfold dispL at h
      cases e1 : frzL ra.2 ra.1 with
      | none => rw [e1] at h; exact h.elim
      | some q =>
        obtain ⟨ds, ρ2⟩ := q
        simp only [e1] at h
        by_cases hl : ds.length ≤ 16777216
        · rw [if_pos hl] at h
          obtain ⟨F2, s2, d2⟩ := p1.frz s1.rel e1
          refine ⟨size_le (by rw [← d2.length]; exact hl), fun p hp => ?_⟩
          have n3 : New (.of X) F2 H1 F2 (upd H1 p (.lst xs)) := New.fr s2.rel.sub hp
          have nr : NRel (.of X) H1 F2 (upd H1 p (.lst xs)) (.fr (.lst ds)) (.ref p) := ⟨p, rfl, s2.rel.sub.free hp, hp, xs, upd_same, d2⟩
          exact h _ _ _ ((s1.trans s2).trans (n3.stp s2.rel)) ((nr.vrel s2.rel).back (s1.trans s2))
        · rw [if_neg hl] at h; exact h.elim
end
end Tr
/-! Tr, part C: statements, stores, loops, comprehensions. -/
namespace Tr
open PySem PySem.Spec PyProof.Rows L2
section
variable {X : Cx} {W : WX}

/-! ### blocks -/
def fsNil : FS := fun ρ => .ok (.nx, ρ)
def fsSeq (f g : FS) : FS := fun ρ => (f ρ).bind fun r => match r.1 with
  | .nx => g r.2
  | fl => .ok (fl, r.2)
theorem flOk_back {T : Tx} {F H F1 H1 F' H' : Hp} {ρ ρ1 ρ' : En} {σ σ1 σ' : Sg} {D : Ends} {fl : Fl} (s : Stp T F H ρ σ F1 H1 ρ1 σ1) (h : flOk T H F' H' ρ' σ' D fl) : flOk T H1 F' H' ρ' σ' D fl := by
  cases fl with
  | nx => exact h
  | bk => exact h
  | ct => exact h
  | rt v => exact fun x q => h x (q.back s)
theorem sss_nil : SSs X W [] fsNil := pss_imp pss_nil fun D σ H ⟨ρ, F, r, h⟩ => h σ F H (Stp.refl r)
theorem fsSeq_ok {f g : FS} {D : Ends} {σ : Sg} {H : Hp} (h : tOfS (.of X) W (fsSeq f g) D σ H) : tOfS (.of X) W f { D with nx := tOfS (.of X) W g D } σ H := by
  obtain ⟨ρ, F, rl, h⟩ := h
  unfold fsSeq at h
  refine ⟨ρ, F, rl, ?_⟩
  cases ea : f ρ with
  | no => rw [ea] at h; exact h
  | ex c n d ρ' => rw [ea] at h; exact h
  | ok ra =>
    obtain ⟨fl, ρ1⟩ := ra
    rw [ea] at h
    intro σ1 F1 H1 s1
    cases fl with
    | nx =>
      refine ⟨ρ1, F1, s1.rel, ?_⟩
      have h : (match g ρ1 with
        | .ok r => ∀ σ' F' H', Stp (.of X) F H ρ σ F' H' r.2 σ' → flOk (.of X) H F' H' r.2 σ' D r.1
        | .ex c n d ρ' => ∀ σ' F' H' cls dx, Stp (.of X) F H ρ σ F' H' ρ' σ' → ERel (.of X) F' c n d cls dx → W cls dx σ' H'
        | .no => False) := h
      cases eb : g ρ1 with
      | no => rw [eb] at h; exact h
      | ex c n d ρ' => rw [eb] at h; exact fun σ' F' H' cls dx s e => h σ' F' H' cls dx (s1.trans s) e
      | ok rb => rw [eb] at h; exact fun σ' F' H' s => flOk_back s1 (h σ' F' H' (s1.trans s))
    | bk => exact h σ1 F1 H1 s1
    | ct => exact h σ1 F1 H1 s1
    | rt v => exact h σ1 F1 H1 s1
theorem sss_cons {st : Stmt} {rest : List Stmt} {f g : FS} (h1 : SS X W st f) (h2 : SSs X W rest g) : SSs X W (st :: rest) (fsSeq f g) := pss_imp (pss_cons h1 h2) fun D σ H h => fsSeq_ok h
theorem sss_one {st : Stmt} {f : FS} (h1 : SS X W st f) : SSs X W [st] f := pss_one h1
/-- a statement that is not come to -/
def fsNever : FS := fun _ => .no
theorem ss_never {st : Stmt} : SS X W st fsNever := ps_imp ps_never fun D σ H ⟨ρ, F, r, h⟩ => h
theorem ss_pass {pos : Pos} : SS X W (.Pass pos) fsNil := ps_imp ps_pass fun D σ H ⟨ρ, F, r, h⟩ => h σ F H (Stp.refl r)
/-- an expression, and what becomes of its value -/
def fsVal (f : FE) (k : Val → En → R (Fl × En)) : FS := fun ρ => (f ρ).bind fun r => k r.1 r.2
theorem fsVal_ok {f : FE} {k : Val → En → R (Fl × En)} {D : Ends} {σ : Sg} {H : Hp} {Q : VK} (h : tOfS (.of X) W (fsVal f k) D σ H)
    (hk : ∀ (ρ : En) (F : Hp) (v : Val) (ρ1 : En) (x : V) (F1 H1 : Hp), Stp (.of X) F H ρ σ F1 H1 ρ1 σ → VRel (.of X) H F1 H1 ρ1 σ v x → (match k v ρ1 with
      | .ok r => ∀ σ' F' H', Stp (.of X) F H ρ σ F' H' r.2 σ' → flOk (.of X) H F' H' r.2 σ' D r.1
      | .ex c n d ρ' => ∀ σ' F' H' cls dx, Stp (.of X) F H ρ σ F' H' ρ' σ' → ERel (.of X) F' c n d cls dx → W cls dx σ' H'
      | .no => False) → Q x H1) : tOf (.of X) W f σ H Q := by
  obtain ⟨ρ, F, rl, h⟩ := h
  unfold fsVal at h
  refine ⟨ρ, F, rl, ?_⟩
  cases ea : f ρ with
  | no => rw [ea] at h; exact h
  | ex c n d ρ' => rw [ea] at h; exact fun F' H' cls dx s e => h σ F' H' cls dx s e
  | ok ra =>
    rw [ea] at h
    exact fun x F1 H1 s1 v1 => hk ρ F ra.1 ra.2 x F1 H1 s1 v1 h
def fsExpr (f : FE) : FS := fsVal f fun _ ρ => .ok (.nx, ρ)
theorem ss_expr {e : Expr} {pos : Pos} {f : FE} (he : SE X W e f) (hs : swapsWith e none pos.line X.env = pure false := by rfl) : SS X W (.Expr e pos) (fsExpr f) :=
  ps_imp (ps_expr he hs) fun D σ H h => fsVal_ok h fun ρ F v ρ1 x F1 H1 s1 v1 q => q σ F1 H1 s1
def fsRet (f : FE) : FS := fsVal f fun v ρ => .ok (.rt v, ρ)
theorem ss_ret {e : Expr} {pos : Pos} {f : FE} (he : SE X W e f) : SS X W (.Return (some e) pos) (fsRet f) :=
  ps_imp (ps_ret he) fun D σ H h => fsVal_ok h fun ρ F v ρ1 x F1 H1 s1 v1 q => q σ F1 H1 s1 x v1
def fsRetN : FS := fun ρ => .ok (.rt (.sh .non), ρ)
theorem ss_retN {pos : Pos} : SS X W (.Return none pos) fsRetN := ps_imp ps_retN fun D σ H ⟨ρ, F, r, h⟩ => h σ F H (Stp.refl r) .non rfl
def fsIf (c : FT) (f g : FS) : FS := fun ρ => (c ρ).bind fun r => if r.1 = true then f r.2 else g r.2
theorem ss_if {c : Expr} {a b : List Stmt} {pos : Pos} {fc : FT} {f g : FS} (hc : ST X W c fc) (ha : SSs X W a f) (hb : SSs X W b g) : SS X W (.If c a b pos) (fsIf fc f g) :=
  ps_imp (ps_if hc ha hb) fun D σ H ⟨ρ, F, rl, h⟩ => by
    unfold fsIf at h
    refine ⟨ρ, F, rl, ?_⟩
    cases ea : fc ρ with
    | no => rw [ea] at h; exact h
    | ex c n d ρ' => rw [ea] at h; exact fun F' H' cls dx s e => h σ F' H' cls dx s e
    | ok ra =>
      obtain ⟨b, ρ1⟩ := ra
      rw [ea] at h
      intro F1 H1 s1
      have h : (match (if b = true then f ρ1 else g ρ1) with
        | .ok r => ∀ σ' F' H', Stp (.of X) F H ρ σ F' H' r.2 σ' → flOk (.of X) H F' H' r.2 σ' D r.1
        | .ex c n d ρ' => ∀ σ' F' H' cls dx, Stp (.of X) F H ρ σ F' H' ρ' σ' → ERel (.of X) F' c n d cls dx → W cls dx σ' H'
        | .no => False) := h
      have go : ∀ k : FS, (match k ρ1 with
        | .ok r => ∀ σ' F' H', Stp (.of X) F H ρ σ F' H' r.2 σ' → flOk (.of X) H F' H' r.2 σ' D r.1
        | .ex c n d ρ' => ∀ σ' F' H' cls dx, Stp (.of X) F H ρ σ F' H' ρ' σ' → ERel (.of X) F' c n d cls dx → W cls dx σ' H'
        | .no => False) → tOfS (.of X) W k D σ H1 := fun k h => by
        refine ⟨ρ1, F1, s1.rel, ?_⟩
        cases eb : k ρ1 with
        | no => rw [eb] at h; exact h
        | ex c n d ρ' => rw [eb] at h; exact fun σ' F' H' cls dx s e => h σ' F' H' cls dx (s1.trans s) e
        | ok rb => rw [eb] at h; exact fun σ' F' H' s => flOk_back s1 (h σ' F' H' (s1.trans s))
      cases b with
      | true => rw [if_pos rfl] at h; show (if true = true then _ else _); rw [if_pos rfl]; exact go f h
      | false => rw [if_neg Bool.false_ne_true] at h; show (if false = true then _ else _); rw [if_neg Bool.false_ne_true]; exact go g h

/-! ### stores -/
def nbo (ρ : En) (i : Nat) : Bool := match ρ[i]? with
  | some (.bo _) => false
  | _ => true
theorem nbo_ne {ρ : En} {i j : Nat} {d : D} (h : nbo ρ i = true) (q : ρ[j]? = some (.bo d)) : i ≠ j := fun e => by
  subst e
  unfold nbo at h
  rw [q] at h
  cases h
theorem set_get_self {α : Type} {l : List α} {i : Nat} {x y : α} (h : (l.set i x)[i]? = some y) : x = y ∧ i < l.length := by
  have hi : i < (l.set i x).length := (List.getElem?_eq_some_iff.mp h).1
  rw [List.length_set] at hi
  rw [List.getElem?_set_self hi] at h
  exact ⟨Option.some.inj h, hi⟩
theorem sg_set_self {σ : Sg} {ρ : En} {i : Nat} {x : Option V} (hl : ρ.length = σ.length) (h : i < ρ.length) : (σ.set i x)[i]? = some x := by
  rw [List.getElem?_set_self (by rw [← hl]; exact h)]
theorem mu_set {ρ : En} {i j : Nat} {s : Slot} {d : D} (m : MuAt (ρ.set i s) j d) : (i = j ∧ s.mu = some d ∧ i < ρ.length) ∨ (i ≠ j ∧ MuAt ρ j d) := by
  by_cases w : i = j
  · subst w
    obtain ⟨s', q, z⟩ := m
    obtain ⟨e, hi⟩ := set_get_self q
    subst e
    exact .inl ⟨rfl, z, hi⟩
  · exact .inr ⟨w, mu_set_ne w m⟩
theorem store_sh {T : Tx} {F H : Hp} {ρ : En} {σ : Sg} {i : Nat} {d : D} {x : V} (r : Rel T F H ρ σ) (hd : Den T F d x) (hb : nbo ρ i = true) :
    Stp T F H ρ σ F H (ρ.set i (.sh d)) (σ.set i (some x)) where
  rel := by
    refine ⟨by rw [List.length_set, List.length_set]; exact r.len, r.sub, fun j e q => ?_, fun j e q => ?_, fun j k e e' c q q' s s' => ?_⟩
    · by_cases w : i = j
      · subst w
        obtain ⟨z, hi⟩ := set_get_self q
        cases z
        exact ⟨x, sg_set_self r.len hi, hd⟩
      · rw [get_set_ne w] at q
        rw [List.getElem?_set_ne w]
        exact r.sh j e q
    · rcases mu_set q with ⟨_, z, _⟩ | ⟨w, q⟩
      · cases z
      · rw [List.getElem?_set_ne w]
        exact r.ow j e q
    · rcases mu_set q with ⟨_, z, _⟩ | ⟨w, q⟩
      · cases z
      · rcases mu_set q' with ⟨_, z, _⟩ | ⟨w', q'⟩
        · cases z
        · rw [List.getElem?_set_ne w] at s
          rw [List.getElem?_set_ne w'] at s'
          exact r.dis j k e e' c q q' s s'
  same := Same.refl F
  keep := fun _ _ h _ => h
  own := fun b ⟨j, e, q, s⟩ => by
    rcases mu_set q with ⟨_, z, _⟩ | ⟨w, q⟩
    · cases z
    · rw [List.getElem?_set_ne w] at s
      exact .inl ⟨j, e, q, s⟩
  dom := fun _ o h => ⟨o, h⟩
  bo := fun j e q => by
    have w := nbo_ne hb q
    exact ⟨⟨e, by rw [get_set_ne w]; exact q⟩, by rw [List.getElem?_set_ne w]⟩
  fz := fun _ _ _ _ _ => rfl
  nb := fun j e q => by
    by_cases w : i = j
    · subst w
      obtain ⟨z, _⟩ := set_get_self q
      cases z
    · rw [get_set_ne w] at q
      exact ⟨e, q⟩
theorem store_ow {T : Tx} {F H F0 H0 : Hp} {ρ ρ0 : En} {σ σ0 : Sg} {i : Nat} {d : D} {a : Addr} (s0 : Stp T F0 H0 ρ0 σ0 F H ρ σ) (hn : F a = none) (h0 : H0 a = none) (no : ¬ Owned ρ σ a) (ho : OwnAt T F H d a) (hb : nbo ρ i = true) :
    Stp T F0 H0 ρ0 σ0 F H (ρ.set i (.ow d)) (σ.set i (some (.ref a))) where
  rel := by
    have r := s0.rel
    refine ⟨by rw [List.length_set, List.length_set]; exact r.len, r.sub, fun j e q => ?_, fun j e q => ?_, fun j k e e' c q q' s s' => ?_⟩
    · by_cases w : i = j
      · subst w
        obtain ⟨z, hi⟩ := set_get_self q
        cases z
      · rw [get_set_ne w] at q
        rw [List.getElem?_set_ne w]
        exact r.sh j e q
    · rcases mu_set q with ⟨w, z, hi⟩ | ⟨w, q⟩
      · subst w
        cases z
        exact ⟨a, sg_set_self r.len hi, hn, ho⟩
      · rw [List.getElem?_set_ne w]
        exact r.ow j e q
    · rcases mu_set q with ⟨w, z, hi⟩ | ⟨w, q⟩
      · rcases mu_set q' with ⟨w', z', _⟩ | ⟨w', q'⟩
        · exact w.symm.trans w'
        · subst w
          rw [sg_set_self r.len hi] at s
          cases s
          rw [List.getElem?_set_ne w'] at s'
          exact (no ⟨k, e', q', s'⟩).elim
      · rcases mu_set q' with ⟨w', z', hi⟩ | ⟨w', q'⟩
        · subst w'
          rw [sg_set_self r.len hi] at s'
          cases s'
          rw [List.getElem?_set_ne w] at s
          exact (no ⟨j, e, q, s⟩).elim
        · rw [List.getElem?_set_ne w] at s
          rw [List.getElem?_set_ne w'] at s'
          exact r.dis j k e e' c q q' s s'
  same := s0.same
  keep := s0.keep
  own := fun b ⟨j, e, q, s⟩ => by
    rcases mu_set q with ⟨w, z, hi⟩ | ⟨w, q⟩
    · subst w
      rw [sg_set_self s0.rel.len hi] at s
      cases s
      exact .inr h0
    · rw [List.getElem?_set_ne w] at s
      exact s0.own b ⟨j, e, q, s⟩
  dom := s0.dom
  bo := fun j e q => by
    obtain ⟨⟨d1, q1⟩, e1⟩ := s0.bo j e q
    have w := nbo_ne hb q1
    exact ⟨⟨d1, by rw [get_set_ne w]; exact q1⟩, by rw [List.getElem?_set_ne w]; exact e1⟩
  fz := s0.fz
  nb := fun j e q => by
    by_cases w : i = j
    · subst w
      obtain ⟨z, _⟩ := set_get_self q
      cases z
    · rw [get_set_ne w] at q
      exact s0.nb j e q
/-- a value put into a slot -/
def store (ρ : En) (i : Nat) (v : Val) : Option En := if nbo ρ i = true then (match v with
    | .sh d => some (ρ.set i (.sh d))
    | .fr d => some (ρ.set i (.ow d))
    | .rf j => (match frz ρ (.rf j) with
      | some (d, ρ') => if nbo ρ' i = true then some (ρ'.set i (.sh d)) else none
      | none => none)) else none
theorem store_ok' {T : Tx} {F0 H0 F H : Hp} {ρ0 ρ ρ' : En} {σ0 σ : Sg} {i : Nat} {v : Val} {x : V} (s : Stp T F0 H0 ρ0 σ0 F H ρ σ) (h : VRel T H0 F H ρ σ v x) (e : store ρ i v = some ρ') :
    ∃ F', Stp T F0 H0 ρ0 σ0 F' H ρ' (σ.set i (some x)) := by
  unfold store at e
  by_cases hb : nbo ρ i = true
  · rw [if_pos hb] at e
    cases v with
    | sh d => cases e; exact ⟨F, s.trans (store_sh s.rel h hb)⟩
    | fr d =>
      cases e
      obtain ⟨a, rfl, h1, h2, h3, h4⟩ := h
      exact ⟨F, store_ow s h1 h2 h3 h4 hb⟩
    | rf j =>
      have h : Pend T F σ (.rf j) x := h.1
      cases q : frz ρ (.rf j) with
      | none => simp only [q] at e; cases e
      | some z =>
        obtain ⟨d, ρ1⟩ := z
        simp only [q] at e
        by_cases hb1 : nbo ρ1 i = true
        · rw [if_pos hb1] at e
          cases e
          obtain ⟨F1, s1, d1⟩ := h.frz s.rel q
          exact ⟨F1, (s.trans s1).trans (store_sh s1.rel d1 hb1)⟩
        · rw [if_neg hb1] at e; cases e
  · rw [if_neg hb] at e; cases e
def fsSet (i : Nat) (f : FE) : FS := fsVal f fun v ρ => match store ρ i v with
  | some ρ' => .ok (.nx, ρ')
  | none => .no
theorem ss_set {i : Nat} {x : Str} {e : Expr} {f : FE} {pos pos' : Pos} (hN : X.N.Nodup) (he : SE X W e f) (hi : X.N[i]? = some x := by rfl) (hx : Loc X.env.scope x := by first | exact Or.inl rfl | exact Or.inr rfl)
    (hs : swapsWith e (some (.Name x pos')) pos.line X.env = pure false := by rfl) (hf : X.fn x = true ∨ X.env.scope.names.lookup x = some .local := by first | exact .inl rfl | exact .inr rfl) :
    SS X W (.Assign [.Name x pos'] e pos) (fsSet i f) :=
  ps_imp (ps_set hN hi hx he hs hf) fun D σ H h => fsVal_ok h fun ρ F v ρ1 x F1 H1 s1 v1 q => by
    cases e1 : store ρ1 i v with
    | none => simp only [e1] at q
    | some ρ2 =>
      simp only [e1] at q
      obtain ⟨F2, s2⟩ := store_ok' s1 v1 e1
      exact q _ F2 H1 s2

/-! ### targets -/
inductive Pat where
  | nm (i : Nat) | tp (ps : List Pat)
mutual
def bindP : Pat → D → En → Option En
  | .nm i, d, ρ => if nbo ρ i = true then some (ρ.set i (.sh d)) else none
  | .tp ps, d, ρ => match d with
    | .tup ds => bindPs ps ds ρ
    | _ => none
def bindPs : List Pat → List D → En → Option En
  | [], ds, ρ => match ds with
    | [] => some ρ
    | _ => none
  | p :: ps, ds, ρ => match ds with
    | [] => none
    | d :: r => match bindP p d ρ with
      | some ρ' => bindPs ps r ρ'
      | none => none
end
mutual
def Pat.slots : Pat → List Nat
  | .nm i => [i]
  | .tp ps => slotsL ps
def slotsL : List Pat → List Nat
  | [] => []
  | p :: ps => p.slots ++ slotsL ps
end
/-- what a target leaves of the slots -/
structure Bnd (T : Tx) (F H : Hp) (ρ : En) (σ : Sg) (ρ' : En) (σ' : Sg) (vs : List Nat) : Prop where
  stp : Stp T F H ρ σ F H ρ' σ'
  oth : ∀ j : Nat, j ∉ vs → σ'[j]? = σ[j]?
  len : σ'.length = σ.length
def gOf (T : Tx) (p : Pat) : TG := fun v σ H Q => ∃ ρ F d ρ', Rel T F H ρ σ ∧ Den T F d v ∧ bindP p d ρ = some ρ' ∧ ∀ σ', Bnd T F H ρ σ ρ' σ' p.slots → Q σ' H
def gOfs (T : Tx) (ps : List Pat) : TGs := fun vs σ H Q => ∃ ρ F ds ρ', Rel T F H ρ σ ∧ DenL T F ds vs ∧ bindPs ps ds ρ = some ρ' ∧ ∀ σ', Bnd T F H ρ σ ρ' σ' (slotsL ps) → Q σ' H
def SG (X : Cx) (tg : Expr) (p : Pat) : Prop := PG X tg (gOf (.of X) p)
def SGs (X : Cx) (tgs : List Expr) (ps : List Pat) : Prop := PGs X tgs (gOfs (.of X) ps)
theorem pg_imp {tg : Expr} {t t' : TG} (h : PG X tg t) (i : ∀ v σ H Q, t' v σ H Q → t v σ H Q) : PG X tg t' := ⟨fun pins s σ H v u Q I r q => h.run pins s σ H v u Q I r (i v σ H Q q)⟩
theorem pgs_imp {tg : List Expr} {t t' : TGs} (h : PGs X tg t) (i : ∀ v σ H Q, t' v σ H Q → t v σ H Q) : PGs X tg t' := ⟨fun pins s σ H v u Q I r q => h.run pins s σ H v u Q I r (i v σ H Q q)⟩
theorem sg_nm {i : Nat} {x : Str} {pos : Pos} (hN : X.N.Nodup) (hi : X.N[i]? = some x := by rfl) (hx : Loc X.env.scope x := by first | exact Or.inl rfl | exact Or.inr rfl)
    (hf : X.fn x = true ∨ X.env.scope.names.lookup x = some .local := by first | exact .inl rfl | exact .inr rfl) : SG X (.Name x pos) (.nm i) :=
  pg_imp (pg_name hN hi hx hf) fun v σ H Q ⟨ρ, F, d, ρ', r, hd, hb, h⟩ => by
    simp only [bindP] at hb
    by_cases hn : nbo ρ i = true
    · rw [if_pos hn] at hb
      cases hb
      refine h _ ⟨store_sh r hd hn, fun j hj => ?_, List.length_set⟩
      exact List.getElem?_set_ne fun e => hj (by simp [Pat.slots, e])
    · rw [if_neg hn] at hb; cases hb
theorem sgs_nil : SGs X [] [] := pgs_imp pgs_nil fun v σ H Q ⟨ρ, F, ds, ρ', r, hd, hb, h⟩ => by
  simp only [bindPs] at hb
  cases ds with
  | nil =>
    cases hb
    exact ⟨hd, h σ ⟨Stp.refl r, fun _ _ => rfl, rfl⟩⟩
  | cons d ds => cases hb
theorem sgs_cons {e : Expr} {es : List Expr} {p : Pat} {ps : List Pat} (h1 : SG X e p) (h2 : SGs X es ps) (hs : (assignEach (e :: es) X.env).map (·.2) = assign e X.env :: (assignEach es X.env).map (·.2) := by rfl) : SGs X (e :: es) (p :: ps) :=
  pgs_imp (pgs_cons h1 h2 hs) fun v σ H Q ⟨ρ, F, ds, ρ', r, hd, hb, h⟩ => by
    simp only [bindPs] at hb
    cases ds with
    | nil => cases hb
    | cons d ds =>
      obtain ⟨x, xr, h1, h2, h3⟩ := hd
      simp only at hb
      cases e1 : bindP p d ρ with
      | none => simp only [e1] at hb; cases hb
      | some ρ1 =>
        simp only [e1] at hb
        refine ⟨x, xr, h1, ρ, F, d, ρ1, r, h2, e1, fun σ1 b1 => ⟨ρ1, F, ds, ρ', b1.stp.rel, h3, hb, fun σ2 b2 => h σ2 ⟨b1.stp.trans b2.stp, fun j hj => ?_, b2.len.trans b1.len⟩⟩⟩
        simp only [slotsL, List.mem_append, not_or] at hj
        exact (b2.oth j hj.2).trans (b1.oth j hj.1)
theorem sg_tp {es : List Expr} {k : Nat} {ps : List Pat} {pos : Pos} (hc : X.calm = true) (h : SGs X es ps) (hl : ps.length = es.length := by rfl)
    (hn : (assignEach es X.env).length = es.length := by rfl) (hst : (assignEach es X.env).findIdx? (·.1) = none := by rfl) : SG X (.Tuple es k pos) (.tp ps) :=
  pg_imp (pg_tup hc h hn hst) fun v σ H Q ⟨ρ, F, d, ρ', r, hd, hb, h⟩ => by
    simp only [bindP] at hb
    cases d with
    | tup ds =>
      obtain ⟨a, xs, h1, h2, h3⟩ := hd
      have hlen : ∀ (ps : List Pat) (ds : List D) (ρ ρ' : En), bindPs ps ds ρ = some ρ' → ps.length = ds.length := by
        intro ps
        induction ps with
        | nil => intro ds ρ ρ' q; cases ds with
          | nil => rfl
          | cons _ _ => simp [bindPs] at q
        | cons p ps ih => intro ds ρ ρ' q; cases ds with
          | nil => simp [bindPs] at q
          | cons d ds =>
            simp only [bindPs] at q
            cases e1 : bindP p d ρ with
            | none => simp only [e1] at q; cases q
            | some ρ1 => simp only [e1] at q; rw [List.length_cons, List.length_cons, ih ds ρ1 ρ' q]
      exact ⟨a, xs, h1, Same.sqT r.sub h2, by rw [← h3.length, ← hlen ps ds ρ ρ' hb]; exact hl, ρ, F, ds, ρ', r, h3, hb, fun σ' b => h σ' ⟨b.stp, b.oth, b.len⟩⟩
    | _ => cases hb
/-- target = value, the target a tuple of names -/
def fsPat (p : Pat) (f : FE) : FS := fsVal f fun v ρ => match frz ρ v with
  | some (d, ρ1) => (match bindP p d ρ1 with
    | some ρ2 => .ok (.nx, ρ2)
    | none => .no)
  | none => .no
theorem frz_val {T : Tx} {F H F' H' : Hp} {ρ ρ' ρ'' : En} {σ σ' : Sg} {v : Val} {x : V} {d : D} (s : Stp T F H ρ σ F' H' ρ' σ') (h : VRel T H F' H' ρ' σ' v x) (e : frz ρ' v = some (d, ρ'')) :
    ∃ F'', Stp T F H ρ σ F'' H' ρ'' σ' ∧ Same F' F'' ∧ Den T F'' d x := by
  obtain ⟨F2, s2, m2, p2⟩ := held_ok s h
  obtain ⟨F3, s3, d3⟩ := p2.frz s2.rel (by rw [frz_held]; exact e)
  exact ⟨F3, s2.trans s3, m2.trans s3.same, d3⟩
theorem ss_pat {tg e : Expr} {p : Pat} {f : FE} {pos : Pos} (he : SE X W e f) (hg : SG X tg p) (hs : swapsWithSole [tg] e pos.line X.env = pure false := by rfl) (hw : swappedStores [tg] e X.env = pure none := by rfl)
    (h1 : (assignEach [tg] X.env).map (·.2) = [assign tg X.env] := by rfl) : SS X W (.Assign [tg] e pos) (fsPat p f) :=
  ps_imp (ps_asg he hg hs hw h1) fun D σ H h => fsVal_ok h fun ρ F v ρ1 x F1 H1 s1 v1 q => by
    cases e1 : frz ρ1 v with
    | none => simp only [e1] at q
    | some z =>
      obtain ⟨d, ρ2⟩ := z
      simp only [e1] at q
      cases e2 : bindP p d ρ2 with
      | none => simp only [e2] at q
      | some ρ3 =>
        simp only [e2] at q
        obtain ⟨F2, s2, _, d2⟩ := frz_val s1 v1 e1
        exact ⟨ρ2, F2, d, ρ3, s2.rel, d2, e2, fun σ' b => q σ' F2 H1 (s2.trans b.stp)⟩

/-! ### an object changed -/
def Slot.put : Slot → D → Slot
  | .bo _, d => .bo d
  | _, d => .ow d
def setMu (ρ : En) (i : Nat) (d : D) : En := match ρ[i]? with
  | some s => ρ.set i (s.put d)
  | none => ρ
theorem mutate {T : Tx} {F H : Hp} {ρ : En} {σ : Sg} {i : Nat} {d d' : D} {a : Addr} {o : HO} (r : Rel T F H ρ σ) (hm : MuAt ρ i d) (ha : σ[i]? = some (some (.ref a))) (no : ∀ c, H a ≠ some (.own c)) (ho : OwnAt T F (upd H a o) d' a) :
    Stp T F H ρ σ F (upd H a o) (setMu ρ i d') σ := by
  obtain ⟨s, hs, hd⟩ := id hm
  have e : setMu ρ i d' = ρ.set i (s.put d') := by unfold setMu; rw [hs]
  have hp : (s.put d').mu = some d' := by cases s <;> first | rfl | cases hd
  obtain ⟨b, hb, hn, _⟩ := r.ow i d hm
  have eb : b = a := by rw [ha] at hb; cases hb; rfl
  subst eb
  have own : Owned ρ σ b := ⟨i, d, hm, ha⟩
  have mm : ∀ j e, MuAt (ρ.set i (s.put d')) j e → ∃ e', MuAt ρ j e' := fun j e m => by
    rcases mu_set m with ⟨w, _, _⟩ | ⟨_, m⟩
    · exact ⟨d, by rw [← w]; exact hm⟩
    · exact ⟨e, m⟩
  rw [e]
  refine ⟨⟨by rw [List.length_set]; exact r.len, fun c u q => ?_, fun j e q => ?_, fun j e q => ?_, fun j k e e' c q q' s s' => ?_⟩, Same.refl F, fun c u q n => ?_, fun c ⟨j, e, q, s⟩ => .inl ?_, fun c u q => ?_, fun j e q => ?_, fun _ _ _ _ _ => rfl, fun j e q => ?_⟩
  · rw [upd_ne (fun z => by rw [z, hn] at q; cases q)]
    exact r.sub c u q
  · by_cases w : i = j
    · subst w
      obtain ⟨z, _⟩ := set_get_self q
      rw [z] at hp
      cases hp
    · rw [get_set_ne w] at q
      exact r.sh j e q
  · rcases mu_set q with ⟨w, z, hi⟩ | ⟨w, q⟩
    · subst w
      rw [hp] at z
      cases z
      exact ⟨b, ha, hn, ho⟩
    · obtain ⟨c, s1, s2, s3⟩ := r.ow j e q
      have hne : c ≠ b := fun z => w (r.dis i j d e b hm q ha (by rw [s1, z]))
      exact ⟨c, s1, s2, s3.mono (Same.refl F) (upd_ne hne) fun f z => by rw [upd_ne (fun z' => no c (by rw [← z']; exact z))]; exact z⟩
  · obtain ⟨f, q⟩ := mm j e q
    obtain ⟨f', q'⟩ := mm k e' q'
    exact r.dis j k f f' c q q' s s'
  · rw [upd_ne (fun z => n (by rw [z]; exact own))]
    exact q
  · obtain ⟨f, q⟩ := mm j e q
    exact ⟨j, f, q, s⟩
  · by_cases w : c = b
    · subst w; exact ⟨_, upd_same⟩
    · exact ⟨u, by rw [upd_ne w]; exact q⟩
  · refine ⟨?_, rfl⟩
    by_cases w : i = j
    · subst w
      rw [hs] at q
      cases q
      exact ⟨d', get_set_self hs⟩
    · exact ⟨e, by rw [get_set_ne w]; exact q⟩
  · by_cases w : i = j
    · subst w
      obtain ⟨z, _⟩ := set_get_self q
      cases s with
      | bo d0 => exact ⟨d0, hs⟩
      | _ => cases z
    · rw [get_set_ne w] at q
      exact ⟨e, q⟩
/-- the slot's list, and what to do with it -/
def muL (ρ : En) (i : Nat) : Option (List D) := match ρ[i]? with
  | some (.ow (.lst ds)) => some ds
  | some (.bo (.lst ds)) => some ds
  | _ => none
theorem muL_at {ρ : En} {i : Nat} {ds : List D} (h : muL ρ i = some ds) : MuAt ρ i (.lst ds) := by
  unfold muL at h
  split at h
  · cases h; rename_i q; exact ⟨_, q, rfl⟩
  · cases h; rename_i q; exact ⟨_, q, rfl⟩
  · cases h
/-- xs.append(e), xs a name -/
def appV (i : Nat) (v : Val) (ρ : En) : R (Fl × En) := match frz ρ v with
  | some (d, ρ1) => (match muL ρ1 i with
    | some ds => if ds.length < 16777216 then .ok (.nx, setMu ρ1 i (.lst (ds ++ [d]))) else .no
    | none => .no)
  | none => .no
def fsApp (i : Nat) (f : FE) : FS := fun ρ => match muL ρ i with
  | some _ => fsVal f (appV i) ρ
  | none => .no
theorem ss_app {i : Nat} {x : Str} {e : Expr} {f : FE} {p1 p2 p3 p4 : Pos} (he : SE X W e f) (hN : X.N[i]? = some x := by rfl) (hv : Vis X.env.scope x := by first | exact Or.inl rfl | exact Or.inr (Or.inl rfl) | exact Or.inr (Or.inr rfl))
    (hd : (x == ("__debug__" : Str)) = false := by decide) (hcd : (x == ("__classdict__" : Str)) = false := by decide)
    (hse : starEach [e] X.env = (false, eval e X.env) :: starEach [] X.env := by rfl)
    (hbase : attributeBase (.Name x p1) "append" X.env (eval (.Name x p1) X.env) = eval (.Name x p1) X.env := by rfl)
    (hfew : ((backTo p3 (starEach [e] X.env)).all (fun x => !x.1) && (backToKw p3 (keywordEach [] X.env)).all (fun x => x.1.isSome) && decide ([e].length + ([] : List Keyword).length + (if ([] : List Keyword).isEmpty then 0 else 1) < 30)) = true := by rfl)
    (hline : (p2.endLine == p3.line) = true := by rfl) (hplain : (backTo p3 (starEach [] X.env)).any (·.1) = false := by rfl)
    (hs : swapsWith (.Call (.Attribute (.Name x p1) "append" p2) [e] [] p3) none p4.line X.env = pure false := by rfl) :
    SS X W (.Expr (.Call (.Attribute (.Name x p1) "append" p2) [e] [] p3) p4) (fsApp i f) :=
  ps_imp (ps_expr (pe_bm PySem.F.plainAttrs_list PySem.F.slot_list_append PySem.F.type_list_append mt_append (pe_var (i := i) hN hv hd hcd) (pa_cons he pa_nil hse) hbase hfew hline hse hplain) hs) fun D σ H h => by
    obtain ⟨ρ, F, rl, h⟩ := h
    unfold fsApp at h
    cases em : muL ρ i with
    | none => simp only [em] at h
    | some ds0 =>
      simp only [em] at h
      obtain ⟨a, ha, hn, xs0, hx0, _⟩ := rl.ow i _ (muL_at em)
      refine ⟨.ref a, ha, .inl ⟨rfl, xs0, SqL.of hx0⟩, ?_⟩
      refine fsVal_ok (k := appV i) (D := D) ⟨ρ, F, rl, h⟩ fun ρ F v ρ1 x F1 H1 s1 v1 q => ?_
      unfold appV at q
      cases e1 : frz ρ1 v with
      | none => simp only [e1] at q
      | some z =>
        obtain ⟨d, ρ2⟩ := z
        simp only [e1] at q
        cases e2 : muL ρ2 i with
        | none => simp only [e2] at q
        | some ds =>
          simp only [e2] at q
          by_cases hl : ds.length < 16777216
          · rw [if_pos hl] at q
            obtain ⟨F2, s2, _, d2⟩ := frz_val s1 v1 e1
            obtain ⟨b, hb, _, xs, hx, hxs⟩ := s2.rel.ow i _ (muL_at e2)
            rw [ha] at hb
            cases hb
            refine ⟨a, xs, x, rfl, rfl, hx, size_lt (by rw [← hxs.length]; exact hl), ?_⟩
            have ho : OwnAt (.of X) F2 (upd H1 a (.lst (xs ++ [x]))) (.lst (ds ++ [d])) a := ⟨_, upd_same, hxs.snoc d2⟩
            exact q σ F2 _ (s2.trans (mutate s2.rel (muL_at e2) ha (by rw [hx]; intro c z; cases z) ho))
          · rw [if_neg hl] at q; exact q.elim
/-- xs[i] = e, xs a name -/
def setV (i : Nat) (fi : FE) (v : Val) (ρ : En) : R (Fl × En) := match frz ρ v with
  | some (d, ρ1) => (match muL ρ1 i with
    | some _ => (fi ρ1).bind fun r => (match peek r.2 r.1 with
      | some (.int k) => (match muL r.2 i with
        | some ds => (match ixN ds.length k with
          | some j => .ok (.nx, setMu r.2 i (.lst (ds.set j d)))
          | none => .no)
        | none => .no)
      | _ => .no)
    | none => .no)
  | none => .no
def fsPut (i : Nat) (fi f : FE) : FS := fsVal f (setV i fi)
theorem ss_put {i : Nat} {x : Str} {e b : Expr} {f fi : FE} {p1 p2 pos : Pos} (he : SE X W e f) (hb : SE X W b fi) (hN : X.N[i]? = some x := by rfl) (hv : Vis X.env.scope x := by first | exact Or.inl rfl | exact Or.inr (Or.inl rfl) | exact Or.inr (Or.inr rfl))
    (hd : (x == ("__debug__" : Str)) = false := by decide) (hcd : (x == ("__classdict__" : Str)) = false := by decide)
    (ha : ∀ v, assign (.Subscript (.Name x p1) b p2) X.env v = (do
      let ov ← holding [v] (eval (.Name x p1) X.env)
      let iv ← holding [v, ov] (eval b X.env)
      standAt p2
      holding [v, ov, iv] (setItem ov iv v)
      release [v, ov, iv] []) := by intro _; rfl)
    (hs : swapsWithSole [.Subscript (.Name x p1) b p2] e pos.line X.env = pure false := by rfl) (hw : swappedStores [.Subscript (.Name x p1) b p2] e X.env = pure none := by rfl)
    (h1 : (assignEach [.Subscript (.Name x p1) b p2] X.env).map (·.2) = [assign (.Subscript (.Name x p1) b p2) X.env] := by rfl) :
    SS X W (.Assign [.Subscript (.Name x p1) b p2] e pos) (fsPut i fi f) :=
  ps_imp (ps_asg he (pg_sub (pe_var (i := i) hN hv hd hcd) hb set_list ha) hs hw h1) fun D σ H h => fsVal_ok h fun ρ F v ρ1 x F1 H1 s1 v1 q => by
    unfold setV at q
    cases e1 : frz ρ1 v with
    | none => simp only [e1] at q
    | some z =>
      obtain ⟨d, ρ2⟩ := z
      simp only [e1] at q
      cases e2 : muL ρ2 i with
      | none => simp only [e2] at q
      | some ds0 =>
        simp only [e2] at q
        obtain ⟨F2, s2, _, d2⟩ := frz_val s1 v1 e1
        obtain ⟨a, ha, _, xs0, hx0, _⟩ := s2.rel.ow i _ (muL_at e2)
        refine ⟨.ref a, ha, ρ2, F2, s2.rel, ?_⟩
        cases e3 : fi ρ2 with
        | no => simp only [e3, R.bind] at q
        | ex c n d ρ' =>
          simp only [e3, R.bind] at q
          exact fun F' H' cls dx s e => q σ F' H' cls dx (s2.trans s) e
        | ok ri =>
          simp only [e3, R.bind] at q
          intro y F3 H3 s3 v3
          cases e4 : peek ri.2 ri.1 with
          | none => simp only [e4] at q
          | some dk =>
            obtain ⟨F4, s4, m4, p4⟩ := held_ok s3 v3
            have k4 := p4.peek s4.rel (by rw [peek_held]; exact e4)
            cases dk with
            | int k =>
              simp only [e4] at q
              cases e5 : muL ri.2 i with
              | none => simp only [e5] at q
              | some ds =>
                simp only [e5] at q
                cases e6 : ixN ds.length k with
                | none => simp only [e6] at q
                | some j =>
                  simp only [e6] at q
                  obtain ⟨b, hb, _, xs, hx, hxs⟩ := s4.rel.ow i _ (muL_at e5)
                  rw [ha] at hb
                  cases hb
                  have ey : y = .int k := by
                    rcases k4 with z | ⟨_, _, z⟩
                    · exact z
                    · exact z.elim
                  refine ⟨a, xs, k, j, rfl, ey, hx, by rw [← hxs.length]; exact e6, ?_⟩
                  have ho : OwnAt (.of X) F4 (upd H3 a (.lst (xs.set j x))) (.lst (ds.set j d)) a := ⟨_, upd_same, hxs.set (d2.mono s4.same) j⟩
                  exact q σ F4 _ ((s2.trans s4).trans (mutate s4.rel (muL_at e5) ha (by rw [hx]; intro c z; cases z) ho))
            | _ => simp only [e4] at q
/-- x op= e -/
def augV (i : Nat) (g : D → D → Option Val) (d : D) (v : Val) (ρ : En) : R (Fl × En) := match peek ρ v with
  | some e => (match g d e with
    | some z => (match store ρ i z with
      | some ρ' => .ok (.nx, ρ')
      | none => .no)
    | none => .no)
  | none => .no
def fsAug (i : Nat) (g : D → D → Option Val) (f : FE) : FS := fun ρ => match ρ[i]? with
  | some (.sh d) => fsVal f (augV i g d) ρ
  | _ => .no
theorem ss_aug {i : Nat} {x : Str} {e : Expr} {f : FE} {op : Operator} {g : D → D → Option Val} {pos pos' : Pos} (hN : X.N.Nodup) (ho : OpS X (inplaceOp op) g) (he : SE X W e f) (hi : X.N[i]? = some x := by rfl) (hx : Loc X.env.scope x := by first | exact Or.inl rfl | exact Or.inr rfl)
    (hf : X.fn x = true ∨ X.env.scope.names.lookup x = some .local := by first | exact .inl rfl | exact .inr rfl) : SS X W (.AugAssign (.Name x pos') op e pos) (fsAug i g f) := by
  obtain ⟨r, h1, h2⟩ := ho
  refine ps_imp (ps_aug hN hi hx he (show PIp X op r from h1) hf) fun D σ H h => ?_
  obtain ⟨ρ, F, rl, h⟩ := h
  unfold fsAug at h
  cases e0 : ρ[i]? with
  | none => simp only [e0] at h
  | some s =>
    cases s with
    | sh d =>
      simp only [e0] at h
      obtain ⟨x0, hx0, hd0⟩ := rl.sh i d e0
      refine ⟨x0, hx0, ?_⟩
      have hk := h
      unfold fsVal at h
      refine ⟨ρ, F, rl, ?_⟩
      cases ea : f ρ with
      | no => rw [ea] at h; exact h
      | ex c n d ρ' => rw [ea] at h; exact fun F' H' cls dx s e => h σ F' H' cls dx s e
      | ok ra =>
        rw [ea] at h
        intro y F1 H1 s1 v1
        have h : (match augV i g d ra.1 ra.2 with
          | .ok r => ∀ σ' F' H', Stp (.of X) F H ρ σ F' H' r.2 σ' → flOk (.of X) H F' H' r.2 σ' D r.1
          | .ex c n d ρ' => ∀ σ' F' H' cls dx, Stp (.of X) F H ρ σ F' H' ρ' σ' → ERel (.of X) F' c n d cls dx → W cls dx σ' H'
          | .no => False) := h
        unfold augV at h
        obtain ⟨F2, s2, m2, p2⟩ := held_ok s1 v1
        cases e1 : peek ra.2 ra.1 with
        | none => simp only [e1] at h
        | some e =>
          simp only [e1] at h
          cases e2 : g d e with
          | none => simp only [e2] at h
          | some z =>
            simp only [e2] at h
            cases e3 : store ra.2 i z with
            | none => simp only [e3] at h
            | some ρ3 =>
              simp only [e3] at h
              have k2 := p2.peek s2.rel (by rw [peek_held]; exact e1)
              refine h2 F2 H1 x0 y d e z _ s2.rel.sub (.inl (hd0.mono s2.same)) k2 e2 fun w F5 H5 n5 r5 => ?_
              have s5 := s2.trans (n5.stp s2.rel)
              obtain ⟨F6, s6⟩ := store_ok' s5 ((r5.vrel s2.rel).back s2) e3
              exact h _ F6 H5 s6
    | _ => simp only [e0] at h
end
end Tr
/-! Tr, part D: what is walked, for, while, comprehensions. -/
namespace Tr
open PySem PySem.Spec PyProof.Rows L2
section
variable {X : Cx} {W : WX}

/-- J yields the trees ds, one after another, whatever else happens meanwhile -/
def Wk (T : Tx) (F : Hp) (J : It) (ds : List D) : Prop := ∀ Fc Hc, Same F Fc → Same Fc Hc → ∀ i : Nat,
  (∀ d, ds[i]? = some d → J.go i Hc ∧ ∀ x H', J.yld i Hc x H' → ∃ F', New T Fc Hc F' H' ∧ Den T F' d x) ∧ (ds.length ≤ i → J.stop i Hc)
abbrev FI := En → R (List D × En)
def tOfI (T : Tx) (W : WX) (f : FI) : TI := fun σ H Q => ∃ ρ F, Rel T F H ρ σ ∧ match f ρ with
  | .ok r => ∀ J F' H', Stp T F H ρ σ F' H' r.2 σ → Wk T F' J r.1 → Q J H'
  | .ex c n d ρ' => ∀ F' H' cls dx, Stp T F H ρ σ F' H' ρ' σ → ERel T F' c n d cls dx → W cls dx σ H'
  | .no => False
def SI (X : Cx) (W : WX) (tg e : Expr) (f : FI) : Prop := PI X tg e (tOfI (.of X) W f)
theorem pi_imp {tg e : Expr} {t t' : TI} (h : PI X tg e t) (i : ∀ σ H Q, t' σ H Q → t σ H Q) : PI X tg e t' := ⟨fun pins s σ H Q I q => h.run pins s σ H Q I (i σ H Q q)⟩
/-- a list -/
def asL (r : Val × En) : R (List D × En) := match frz r.2 r.1 with
  | some (.lst ds, ρ) => .ok (ds, ρ)
  | _ => .no
def asT (r : Val × En) : R (List D × En) := match frz r.2 r.1 with
  | some (.tup ds, ρ) => .ok (ds, ρ)
  | _ => .no
/-- a list or a tuple -/
def asQ (r : Val × En) : R (List D × En) := match frz r.2 r.1 with
  | some (.lst ds, ρ) => .ok (ds, ρ)
  | some (.tup ds, ρ) => .ok (ds, ρ)
  | _ => .no
theorem wk_list {T : Tx} {F : Hp} {a : Addr} {xs : List V} {ds : List D} (h : SqL T.K F a xs) (hd : DenL T F ds xs) : Wk T F (Itl T.K a) ds := fun Fc Hc s1 s2 i => by
  have q : SqL T.K Hc a xs := Same.sqL s2 (Same.sqL s1 h)
  refine ⟨fun d e => ?_, fun hl => ⟨xs, q, by rw [← hd.length]; exact hl⟩⟩
  obtain ⟨x, hx, dx⟩ := hd.get e
  refine ⟨⟨xs, x, q, hx⟩, fun y H' ⟨e1, e2⟩ => ?_⟩
  subst e1
  have ey : x = y := Option.some.inj (hx.symm.trans (e2 xs q))
  subst ey
  exact ⟨Fc, New.refl s2, dx.mono s1⟩
theorem wk_tup {T : Tx} {F : Hp} {a : Addr} {xs : List V} {ds : List D} (h : SqT T.K F a xs) (hd : DenL T F ds xs) : Wk T F (Itt T.K a) ds := fun Fc Hc s1 s2 i => by
  have q : SqT T.K Hc a xs := Same.sqT s2 (Same.sqT s1 h)
  refine ⟨fun d e => ?_, fun hl => ⟨xs, q, by rw [← hd.length]; exact hl⟩⟩
  obtain ⟨x, hx, dx⟩ := hd.get e
  refine ⟨⟨xs, x, q, hx⟩, fun y H' ⟨e1, e2⟩ => ?_⟩
  subst e1
  have ey : x = y := Option.some.inj (hx.symm.trans (e2 xs q))
  subst ey
  exact ⟨Fc, New.refl s2, dx.mono s1⟩
theorem wk_range {T : Tx} {F : Hp} (lo : Int) (n : Nat) : Wk T F (Itr lo n) ((List.range n).map fun (i : Nat) => D.int (lo + i)) := fun Fc Hc s1 s2 i => by
  refine ⟨fun d e => ?_, fun hl => ?_⟩
  · rw [List.getElem?_map] at e
    by_cases hi : i < n
    · rw [List.getElem?_range hi] at e
      cases e
      exact ⟨hi, fun x H' ⟨e1, e2⟩ => by subst e1; exact ⟨Fc, New.refl s2, e2⟩⟩
    · rw [List.getElem?_eq_none (by rw [List.length_range]; omega)] at e
      cases e
  · rw [List.length_map, List.length_range] at hl
    exact hl
/-- what an iterable's expression gives, taken as items -/
def fiOf (f : FE) (k : Val × En → R (List D × En)) : FI := fun ρ => (f ρ).bind k
theorem si_list {tg e : Expr} {f : FE} (he : SE X W e f) : SI X W tg e (fiOf f asL) :=
  pi_imp (pi_list he) fun σ H Q ⟨ρ, F, rl, h⟩ => by
    unfold fiOf at h
    refine ⟨ρ, F, rl, ?_⟩
    cases ea : f ρ with
    | no => rw [ea] at h; exact h
    | ex c n d ρ' => rw [ea] at h; exact h
    | ok ra =>
      rw [ea] at h
      intro x F1 H1 s1 v1
      have h : (match asL ra with
        | .ok r => ∀ J F' H', Stp (.of X) F H ρ σ F' H' r.2 σ → Wk (.of X) F' J r.1 → Q J H'
        | .ex c n d ρ' => ∀ F' H' cls dx, Stp (.of X) F H ρ σ F' H' ρ' σ → ERel (.of X) F' c n d cls dx → W cls dx σ H'
        | .no => False) := h
      unfold asL at h
      cases e1 : frz ra.2 ra.1 with
      | none => simp only [e1] at h
      | some z =>
        obtain ⟨d, ρ2⟩ := z
        obtain ⟨F2, s2, _, d2⟩ := frz_val s1 v1 e1
        cases d with
        | lst ds =>
          simp only [e1] at h
          obtain ⟨a, xs, h1, h2, h3⟩ := d2
          exact ⟨a, h1, ⟨xs, SqL.of (s2.rel.sub _ _ h2)⟩, h _ F2 H1 s2 (wk_list (SqL.of h2) h3)⟩
        | _ => simp only [e1] at h
theorem si_tup {tg e : Expr} {f : FE} (he : SE X W e f) : SI X W tg e (fiOf f asT) :=
  pi_imp (pi_tup he) fun σ H Q ⟨ρ, F, rl, h⟩ => by
    unfold fiOf at h
    refine ⟨ρ, F, rl, ?_⟩
    cases ea : f ρ with
    | no => rw [ea] at h; exact h
    | ex c n d ρ' => rw [ea] at h; exact h
    | ok ra =>
      rw [ea] at h
      intro x F1 H1 s1 v1
      have h : (match asT ra with
        | .ok r => ∀ J F' H', Stp (.of X) F H ρ σ F' H' r.2 σ → Wk (.of X) F' J r.1 → Q J H'
        | .ex c n d ρ' => ∀ F' H' cls dx, Stp (.of X) F H ρ σ F' H' ρ' σ → ERel (.of X) F' c n d cls dx → W cls dx σ H'
        | .no => False) := h
      unfold asT at h
      cases e1 : frz ra.2 ra.1 with
      | none => simp only [e1] at h
      | some z =>
        obtain ⟨d, ρ2⟩ := z
        obtain ⟨F2, s2, _, d2⟩ := frz_val s1 v1 e1
        cases d with
        | tup ds =>
          simp only [e1] at h
          obtain ⟨a, xs, h1, h2, h3⟩ := d2
          exact ⟨a, h1, ⟨xs, Same.sqT s2.rel.sub h2⟩, h _ F2 H1 s2 (wk_tup h2 h3)⟩
        | _ => simp only [e1] at h
/-- a list or a tuple, as it comes -/
theorem pi_seq {tg l : Expr} {tl : TE} (hl : PE X l tl) : PI X tg l (fun σ H R => tl σ H fun x H1 => ∃ a, x = .ref a ∧ ((∃ xs, SqL X.K H1 a xs) ∧ R (Itl X.K a) H1 ∨ (∃ xs, SqT X.K H1 a xs) ∧ R (Itt X.K a) H1)) := by
  refine ⟨fun pins s σ H R I h => thn (hl.run pins s σ H _ I h) fun v s1 hh => ?_⟩
  obtain ⟨x, H1, I1, r1, a, e, q⟩ := hh
  subst e
  cases r1
  have fp : ∀ b ∈ [s1.heap.objs.size], FpOk X pins H1 b := fun b hb => by
    rw [List.mem_singleton.mp hb]
    exact I1.fpOk (Nat.le_refl _) (I1.hok.fresh (Nat.le_refl _))
  rcases q with ⟨⟨xs, hq⟩, q⟩ | ⟨⟨xs, hq⟩, q⟩
  · obtain ⟨its, _, p, _⟩ := I1.list hq
    exact wpAny_pyIter_list p.isList ⟨_, _, _, _, H1, rfl, I1.kept (t' := s1.toks) (fun b o e => Heap.get?_push_of_some _ e), turn_list a _, ⟨_, Heap.get?_push_size _ rfl, rfl, rfl⟩, fp, q⟩
  · obtain ⟨its, _, p, _⟩ := I1.tuple hq
    exact wpAny_pyIter_tuple (show s1.heap.IsTuple a its.toArray from p) ⟨_, _, _, _, H1, rfl, I1.kept (t' := s1.toks) (fun b o e => Heap.get?_push_of_some _ e), turn_tuple a _, ⟨_, Heap.get?_push_size _ rfl, rfl, rfl⟩, fp, q⟩
theorem si_seq {tg e : Expr} {f : FE} (he : SE X W e f) : SI X W tg e (fiOf f asQ) :=
  pi_imp (pi_seq he) fun σ H Q ⟨ρ, F, rl, h⟩ => by
    unfold fiOf at h
    refine ⟨ρ, F, rl, ?_⟩
    cases ea : f ρ with
    | no => rw [ea] at h; exact h
    | ex c n d ρ' => rw [ea] at h; exact h
    | ok ra =>
      rw [ea] at h
      intro x F1 H1 s1 v1
      have h : (match asQ ra with
        | .ok r => ∀ J F' H', Stp (.of X) F H ρ σ F' H' r.2 σ → Wk (.of X) F' J r.1 → Q J H'
        | .ex c n d ρ' => ∀ F' H' cls dx, Stp (.of X) F H ρ σ F' H' ρ' σ → ERel (.of X) F' c n d cls dx → W cls dx σ H'
        | .no => False) := h
      unfold asQ at h
      cases e1 : frz ra.2 ra.1 with
      | none => simp only [e1] at h
      | some z =>
        obtain ⟨d, ρ2⟩ := z
        obtain ⟨F2, s2, _, d2⟩ := frz_val s1 v1 e1
        cases d with
        | lst ds =>
          simp only [e1] at h
          obtain ⟨a, xs, h1, h2, h3⟩ := d2
          exact ⟨a, h1, .inl ⟨⟨xs, SqL.of (s2.rel.sub _ _ h2)⟩, h _ F2 H1 s2 (wk_list (SqL.of h2) h3)⟩⟩
        | tup ds =>
          simp only [e1] at h
          obtain ⟨a, xs, h1, h2, h3⟩ := d2
          exact ⟨a, h1, .inr ⟨⟨xs, Same.sqT s2.rel.sub h2⟩, h _ F2 H1 s2 (wk_tup h2 h3)⟩⟩
        | _ => simp only [e1] at h
/-- range(n), range(a, b): ends within 2 ^ 62 -/
def peekL (ρ : En) : List Val → Option (List D)
  | [] => some []
  | v :: vs => match peek ρ v, peekL ρ vs with
    | some d, some ds => some (d :: ds)
    | _, _ => none
inductive PkL (T : Tx) (F H : Hp) : List D → List V → Prop
  | nil : PkL T F H [] []
  | cons {d : D} {x : V} {ds : List D} {xs : List V} (h : Pk T F H d x) (t : PkL T F H ds xs) : PkL T F H (d :: ds) (x :: xs)
theorem PendL.peek {T : Tx} {F H : Hp} {ρ : En} {σ : Sg} (r : Rel T F H ρ σ) : ∀ {vs : List Val} {xs : List V} {ds : List D}, PendL T F σ vs xs → peekL ρ vs = some ds → PkL T F H ds xs
  | [], xs, ds, h, e => by cases e; have h : xs = [] := h; subst h; exact .nil
  | v :: vs, xs, ds, ⟨x, xr, h1, h2, h3⟩, e => by
    unfold peekL at e
    cases e1 : Tr.peek ρ v with
    | none => simp only [e1] at e; cases e
    | some d =>
      cases e2 : peekL ρ vs with
      | none => simp only [e1, e2] at e; cases e
      | some ds2 =>
        simp only [e1, e2] at e
        cases e
        subst h1
        exact .cons (h2.peek r e1) (PendL.peek r h3 e2)
theorem Pk.int {T : Tx} {F H : Hp} {i : Int} {x : V} (h : Pk T F H (.int i) x) : x = .int i := by
  rcases h with h | ⟨_, _, h⟩
  · exact h
  · exact h.elim
def rng1 (r : List Val × En) : R (List D × En) := match peekL r.2 r.1 with
  | some [.int n] => if -(2 ^ 62) ≤ n ∧ n < 2 ^ 62 then .ok ((List.range n.toNat).map fun (i : Nat) => D.int (0 + i), r.2) else .no
  | _ => .no
def rng2 (r : List Val × En) : R (List D × En) := match peekL r.2 r.1 with
  | some [.int m, .int n] => if -(2 ^ 62) ≤ m ∧ m < 2 ^ 62 ∧ -(2 ^ 62) ≤ n ∧ n < 2 ^ 62 then .ok ((List.range (n - m).toNat).map fun (i : Nat) => D.int (m + i), r.2) else .no
  | _ => .no
def fiA (f : FA) (k : List Val × En → R (List D × En)) : FI := fun ρ => (f ρ).bind k
theorem si_range1 {tg a : Expr} {p pos : Pos} {f : FA} (hm : X.mg "range" = none) (ha : SA X W [a] f) (hg : Gl X "range" := by rfl) (hs : starEach [a] X.env = [(false, eval a X.env)] := by rfl) : SI X W tg (.Call (.Name "range" p) [a] [] pos) (fiA f rng1) :=
  pi_imp (pi_range1 hg hm ha hs) fun σ H Q ⟨ρ, F, rl, h⟩ => by
    unfold fiA at h
    refine ⟨ρ, F, rl, ?_⟩
    cases ea : f ρ with
    | no => rw [ea] at h; exact h
    | ex c n d ρ' => rw [ea] at h; exact h
    | ok ra =>
      rw [ea] at h
      intro xs F1 H1 s1 p1
      have h : (match rng1 ra with
        | .ok r => ∀ J F' H', Stp (.of X) F H ρ σ F' H' r.2 σ → Wk (.of X) F' J r.1 → Q J H'
        | .ex c n d ρ' => ∀ F' H' cls dx, Stp (.of X) F H ρ σ F' H' ρ' σ → ERel (.of X) F' c n d cls dx → W cls dx σ H'
        | .no => False) := h
      unfold rng1 at h
      cases e1 : peekL ra.2 ra.1 with
      | none => simp only [e1] at h
      | some ds =>
        have k1 := p1.peek s1.rel e1
        rw [e1] at h
        split at h
        · rename_i q
          split at q
          · rename_i z
            cases z
            rename_i n
            split at q
            · rename_i hn
              cases q
              cases k1 with
              | cons k t =>
                cases t
                exact ⟨n, by rw [k.int], hn.1, hn.2, h _ F1 H1 s1 (wk_range 0 n.toNat)⟩
            · cases q
          · cases q
        · rename_i q
          split at q
          · split at q <;> cases q
          · cases q
        · exact h.elim
theorem si_range2 {tg a b : Expr} {p pos : Pos} {f : FA} (hm : X.mg "range" = none) (ha : SA X W [a, b] f) (hg : Gl X "range" := by rfl) (hs : starEach [a, b] X.env = [(false, eval a X.env), (false, eval b X.env)] := by rfl) (hs2 : starEach [b] X.env = [(false, eval b X.env)] := by rfl) :
    SI X W tg (.Call (.Name "range" p) [a, b] [] pos) (fiA f rng2) :=
  pi_imp (pi_range2 hg hm ha hs hs2) fun σ H Q ⟨ρ, F, rl, h⟩ => by
    unfold fiA at h
    refine ⟨ρ, F, rl, ?_⟩
    cases ea : f ρ with
    | no => rw [ea] at h; exact h
    | ex c n d ρ' => rw [ea] at h; exact h
    | ok ra =>
      rw [ea] at h
      intro xs F1 H1 s1 p1
      have h : (match rng2 ra with
        | .ok r => ∀ J F' H', Stp (.of X) F H ρ σ F' H' r.2 σ → Wk (.of X) F' J r.1 → Q J H'
        | .ex c n d ρ' => ∀ F' H' cls dx, Stp (.of X) F H ρ σ F' H' ρ' σ → ERel (.of X) F' c n d cls dx → W cls dx σ H'
        | .no => False) := h
      unfold rng2 at h
      cases e1 : peekL ra.2 ra.1 with
      | none => simp only [e1] at h
      | some ds =>
        have k1 := p1.peek s1.rel e1
        rw [e1] at h
        split at h
        · rename_i q
          split at q
          · rename_i z
            cases z
            rename_i m n
            split at q
            · rename_i hn
              cases q
              cases k1 with
              | cons k t =>
                cases t with
                | cons k2 t2 =>
                  cases t2
                  exact ⟨m, n, by rw [k.int, k2.int], ⟨hn.1, hn.2.1, hn.2.2.1, hn.2.2.2⟩, h _ F1 H1 s1 (wk_range m (n - m).toNat)⟩
            · cases q
          · cases q
        · rename_i q
          split at q
          · split at q <;> cases q
          · cases q
        · exact h.elim

/-! ### for -/
def loopD (p : Pat) (body : FS) : List D → FS
  | [], ρ => .ok (.nx, ρ)
  | d :: ds, ρ => match bindP p d ρ with
    | none => .no
    | some ρ1 => (body ρ1).bind fun r => match r.1 with
      | .nx => loopD p body ds r.2
      | .ct => loopD p body ds r.2
      | .bk => .ok (.nx, r.2)
      | .rt v => .ok (.rt v, r.2)
def fsFor (fi : FI) (p : Pat) (body : FS) : FS := fun ρ => (fi ρ).bind fun r => loopD p body r.1 r.2
theorem ss_for {tg iter : Expr} {body : List Stmt} {fi : FI} {p : Pat} {fb : FS} {pos : Pos} (hp : PassesOwn (model X.prog X.w) X.A X.env X.xe) (hc : X.calm = true) (hi : SI X W tg iter fi) (hg : SG X tg p) (hb : SSs X W body fb)
    (hs : ∀ x, foldedSetIterable iter X.env x = pure x := by intro _; rfl) : SS X W (.For tg iter body [] pos) (fsFor fi p fb) :=
  ps_imp (ps_for hp hc hi hg hb hs) fun D σ H ⟨ρ, F, rl, h⟩ => by
    unfold fsFor at h
    refine ⟨ρ, F, rl, ?_⟩
    cases ea : fi ρ with
    | no => rw [ea] at h; exact h
    | ex c n d ρ' => rw [ea] at h; exact fun F' H' cls dx s e => h σ F' H' cls dx s e
    | ok ri =>
      rw [ea] at h
      intro J F1 H1 s1 w1
      obtain ⟨ds, ρ0⟩ := ri
      have h : (match loopD p fb ds ρ0 with
        | .ok r => ∀ σ' F' H', Stp (.of X) F H ρ σ F' H' r.2 σ' → flOk (.of X) H F' H' r.2 σ' D r.1
        | .ex c n d ρ' => ∀ σ' F' H' cls dx, Stp (.of X) F H ρ σ F' H' ρ' σ' → ERel (.of X) F' c n d cls dx → W cls dx σ' H'
        | .no => False) := h
      refine ⟨fun i m σi Hi => m = ds.length - i ∧ ∃ Fi ρi, Stp (.of X) F H ρ σ Fi Hi ρi σi ∧ Same F1 Fi ∧ loopD p fb (ds.drop i) ρi = loopD p fb ds ρ0, ⟨ds.length, by simp, F1, ρ0, s1, Same.refl F1, rfl⟩, ?_⟩
      rintro i m σi Hi ⟨rfl, Fi, ρi, si, mi, ei⟩
      have wi := w1 Fi Hi mi si.rel.sub i
      by_cases hlt : i < ds.length
      · refine .inr ?_
        have e0 : ds[i]? = some ds[i] := List.getElem?_eq_getElem hlt
        obtain ⟨go, yl⟩ := wi.1 _ e0
        rw [List.drop_eq_getElem_cons hlt] at ei
        refine ⟨go, fun σ' H' => ∃ m', m' < ds.length - i ∧ (m' = ds.length - (i + 1) ∧ ∃ Fi ρi, Stp (.of X) F H ρ σ Fi H' ρi σ' ∧ Same F1 Fi ∧ loopD p fb (ds.drop (i + 1)) ρi = loopD p fb ds ρ0), fun _ _ z => z, fun x H2 y => ?_⟩
        obtain ⟨F2, n2, d2⟩ := yl x H2 y
        have s2 := n2.stp si.rel
        have si2 := si.trans s2
        simp only [loopD] at ei
        cases eb : bindP p ds[i] ρi with
        | none => simp only [eb] at ei; rw [← ei] at h; exact h.elim
        | some ρ1 =>
          simp only [eb] at ei
          refine ⟨ρi, F2, ds[i], ρ1, s2.rel, d2, eb, fun σ2 b2 => ⟨ρ1, F2, b2.stp.rel, ?_⟩⟩
          have si3 := si2.trans b2.stp
          cases er : fb ρ1 with
          | no => simp only [er, R.bind] at ei; rw [← ei] at h; exact h
          | ex c n d ρ' =>
            simp only [er, R.bind] at ei
            rw [← ei] at h
            exact fun σ' F' H' cls dx s e => h σ' F' H' cls dx (si3.trans s) e
          | ok rb =>
            obtain ⟨fl, ρ3⟩ := rb
            simp only [er, R.bind] at ei
            intro σ3 F3 H3 s3
            have again : loopD p fb (ds.drop (i + 1)) ρ3 = loopD p fb ds ρ0 → ∃ m', m' < ds.length - i ∧ (m' = ds.length - (i + 1) ∧ ∃ Fi ρi, Stp (.of X) F H ρ σ Fi H3 ρi σ3 ∧ Same F1 Fi ∧ loopD p fb (ds.drop (i + 1)) ρi = loopD p fb ds ρ0) := fun q =>
              ⟨_, by omega, rfl, F3, ρ3, si3.trans s3, (mi.trans n2.ff).trans s3.same, q⟩
            cases fl with
            | nx => exact again ei
            | ct => exact again ei
            | bk =>
              simp only at ei
              rw [← ei] at h
              exact h σ3 F3 H3 (si3.trans s3)
            | rt v =>
              simp only at ei
              rw [← ei] at h
              exact fun y q => h σ3 F3 H3 (si3.trans s3) y (q.back si3)
      · refine .inl ⟨wi.2 (show ds.length ≤ i by omega), ?_⟩
        rw [List.drop_eq_nil_of_le (by omega)] at ei
        simp only [loopD] at ei
        rw [← ei] at h
        exact h σi Fi Hi si

/-! ### while -/
def whileN (c : FT) (body : FS) : Nat → FS
  | 0, _ => .no
  | n + 1, ρ => (c ρ).bind fun r => if r.1 = true then (body r.2).bind fun q => (match q.1 with
      | .nx => whileN c body n q.2
      | .ct => whileN c body n q.2
      | .bk => .ok (.nx, q.2)
      | .rt v => .ok (.rt v, q.2)) else .ok (.nx, r.2)
/-- by a number of turns that will do -/
def fsWhile (μ : En → Nat) (c : FT) (body : FS) : FS := fun ρ => whileN c body (μ ρ) ρ
theorem ss_while {c : Expr} {body : List Stmt} {fc : FT} {fb : FS} {pos : Pos} (μ : En → Nat) (hp : PassesOwn (model X.prog X.w) X.A X.env X.xe) (hc : ST X W c fc) (hb : SSs X W body fb) : SS X W (.While c body [] pos) (fsWhile μ fc fb) :=
  ps_imp (ps_while hp hc hb) fun D σ H ⟨ρ, F, rl, h⟩ => by
    unfold fsWhile at h
    refine ⟨fun m σi Hi => ∃ Fi ρi, Stp (.of X) F H ρ σ Fi Hi ρi σi ∧ whileN fc fb m ρi = whileN fc fb (μ ρ) ρ, ⟨μ ρ, F, ρ, Stp.refl rl, rfl⟩, ?_⟩
    rintro m σi Hi ⟨Fi, ρi, si, ei⟩
    refine ⟨ρi, Fi, si.rel, ?_⟩
    cases m with
    | zero => simp only [whileN] at ei; rw [← ei] at h; exact h.elim
    | succ m =>
      simp only [whileN] at ei
      cases ec : fc ρi with
      | no => simp only [ec, R.bind] at ei; rw [← ei] at h; exact h
      | ex c n d ρ' =>
        simp only [ec, R.bind] at ei
        rw [← ei] at h
        exact fun F' H' cls dx s e => h σi F' H' cls dx (si.trans s) e
      | ok rc =>
        obtain ⟨b, ρ1⟩ := rc
        simp only [ec, R.bind] at ei
        intro F1 H1 s1
        have si1 := si.trans s1
        cases b with
        | false =>
          rw [if_neg Bool.false_ne_true] at ei
          show (if false = true then _ else _)
          rw [if_neg Bool.false_ne_true]
          rw [← ei] at h
          exact h σi F1 H1 si1
        | true =>
          rw [if_pos rfl] at ei
          show (if true = true then _ else _)
          rw [if_pos rfl]
          refine ⟨fun σ' H' => ∃ m', m' < m + 1 ∧ ∃ Fi ρi, Stp (.of X) F H ρ σ Fi H' ρi σ' ∧ whileN fc fb m' ρi = whileN fc fb (μ ρ) ρ, fun _ _ z => z, ρ1, F1, s1.rel, ?_⟩
          cases er : fb ρ1 with
          | no => simp only [er] at ei; rw [← ei] at h; exact h
          | ex c n d ρ' =>
            simp only [er] at ei
            rw [← ei] at h
            exact fun σ' F' H' cls dx s e => h σ' F' H' cls dx (si1.trans s) e
          | ok rb =>
            obtain ⟨fl, ρ3⟩ := rb
            simp only [er] at ei
            intro σ3 F3 H3 s3
            cases fl with
            | nx => exact ⟨m, Nat.lt_succ_self m, F3, ρ3, si1.trans s3, ei⟩
            | ct => exact ⟨m, Nat.lt_succ_self m, F3, ρ3, si1.trans s3, ei⟩
            | bk =>
              simp only at ei
              rw [← ei] at h
              exact h σ3 F3 H3 (si1.trans s3)
            | rt v =>
              simp only at ei
              rw [← ei] at h
              exact fun y q => h σ3 F3 H3 (si1.trans s3) y (q.back si1)
end
end Tr
/-! Tr, part E: comprehensions. -/
namespace Tr
open PySem PySem.Spec PyProof.Rows L2
section
variable {X : Cx} {W : WX}

/-- nothing is let out -/
abbrev W0 : WX := fun _ _ _ _ => False
def R.sure {α : Type} : R α → R α
  | .ex _ _ _ _ => .no
  | r => r
/-- slots forgotten -/
def wipeE (ρ : En) : List Nat → En
  | [] => ρ
  | v :: vs => (wipeE ρ vs).set v .un
def restE (ρ : En) (ρ2 : En) : List Nat → En
  | [] => ρ2
  | v :: vs => match ρ[v]? with
    | some s => (restE ρ ρ2 vs).set v s
    | none => restE ρ ρ2 vs
def okW (ρ : En) (vs : List Nat) : Bool := vs.all fun v => match ρ[v]? with
  | some (.ow _) => false
  | some (.bo _) => false
  | _ => true
theorem wipeE_len (ρ : En) : ∀ vs : List Nat, (wipeE ρ vs).length = ρ.length
  | [] => rfl
  | v :: vs => by unfold wipeE; rw [List.length_set, wipeE_len ρ vs]
theorem wipeE_get {ρ : En} {j : Nat} : ∀ {vs : List Nat}, j ∉ vs → (wipeE ρ vs)[j]? = ρ[j]?
  | [], _ => rfl
  | v :: vs, h => by
    simp only [List.mem_cons, not_or] at h
    unfold wipeE
    rw [List.getElem?_set_ne (Ne.symm h.1), wipeE_get h.2]
theorem wipeE_un {ρ : En} {j : Nat} {s : Slot} : ∀ {vs : List Nat}, j ∈ vs → (wipeE ρ vs)[j]? = some s → s = .un
  | v :: vs, h, e => by
    unfold wipeE at e
    by_cases w : v = j
    · subst w
      exact (set_get_self e).1.symm
    · rw [List.getElem?_set_ne w] at e
      rcases List.mem_cons.mp h with z | z
      · exact (w z.symm).elim
      · exact wipeE_un z e
theorem wipe_get {σ : Sg} {j : Nat} : ∀ {vs : List Nat}, j ∉ vs → (wipe σ vs)[j]? = σ[j]?
  | [], _ => rfl
  | v :: vs, h => by
    simp only [List.mem_cons, not_or] at h
    unfold wipe
    rw [List.getElem?_set_ne (Ne.symm h.1), wipe_get h.2]
theorem restE_len {ρ ρ2 : En} : ∀ vs : List Nat, (restE ρ ρ2 vs).length = ρ2.length
  | [] => rfl
  | v :: vs => by
    unfold restE
    split
    · rw [List.length_set, restE_len vs]
    · exact restE_len vs
theorem restE_out {ρ ρ2 : En} {j : Nat} : ∀ {vs : List Nat}, j ∉ vs → (restE ρ ρ2 vs)[j]? = ρ2[j]?
  | [], _ => rfl
  | v :: vs, h => by
    simp only [List.mem_cons, not_or] at h
    unfold restE
    split
    · rw [List.getElem?_set_ne (Ne.symm h.1), restE_out h.2]
    · exact restE_out h.2
theorem restE_in {ρ ρ2 : En} (hl : ρ2.length = ρ.length) {j : Nat} : ∀ {vs : List Nat}, j ∈ vs → (restE ρ ρ2 vs)[j]? = ρ[j]?
  | v :: vs, h => by
    unfold restE
    by_cases w : v = j
    · subst w
      cases e : ρ[v]? with
      | none =>
        simp only
        have h1 : ρ.length ≤ v := List.getElem?_eq_none_iff.mp e
        exact List.getElem?_eq_none_iff.mpr (by rw [restE_len, hl]; exact h1)
      | some s =>
        simp only
        have h1 : v < ρ.length := (List.getElem?_eq_some_iff.mp e).1
        rw [List.getElem?_set_self (by rw [restE_len, hl]; exact h1)]
    · have hz : j ∈ vs := by
        rcases List.mem_cons.mp h with z | z
        · exact (w z.symm).elim
        · exact z
      split
      · rw [List.getElem?_set_ne w, restE_in hl hz]
      · exact restE_in hl hz
theorem mu_wipe {ρ : En} {vs : List Nat} {j : Nat} {d : D} (m : MuAt (wipeE ρ vs) j d) : j ∉ vs ∧ MuAt ρ j d := by
  obtain ⟨s, e, q⟩ := m
  by_cases h : j ∈ vs
  · rw [wipeE_un h e] at q; cases q
  · rw [wipeE_get h] at e
    exact ⟨h, s, e, q⟩
theorem okW_nbo {ρ : En} {vs : List Nat} (h : okW ρ vs = true) : ∀ v ∈ vs, ∀ d, ρ[v]? ≠ some (.bo d) := fun v hv d e => by
  unfold okW at h
  have q := List.all_eq_true.mp h v hv
  rw [e] at q
  cases q
/-- forgetting slots that are not lent -/
theorem Stp.wipe {T : Tx} {F H : Hp} {ρ : En} {σ : Sg} {vs : List Nat} (r : Rel T F H ρ σ) (hb : ∀ v ∈ vs, ∀ d, ρ[v]? ≠ some (.bo d)) : Stp T F H ρ σ F H (wipeE ρ vs) (L2.wipe σ vs) where
  rel := by
    refine ⟨by rw [wipeE_len, wipe_length]; exact r.len, r.sub, fun j e q => ?_, fun j e q => ?_, fun j k e e' c q q' s s' => ?_⟩
    · by_cases h : j ∈ vs
      · have z := wipeE_un h q; cases z
      · rw [wipeE_get h] at q
        rw [wipe_get h]
        exact r.sh j e q
    · obtain ⟨h, q⟩ := mu_wipe q
      rw [wipe_get h]
      exact r.ow j e q
    · obtain ⟨h, q⟩ := mu_wipe q
      obtain ⟨h', q'⟩ := mu_wipe q'
      rw [wipe_get h] at s
      rw [wipe_get h'] at s'
      exact r.dis j k e e' c q q' s s'
  same := Same.refl F
  keep := fun _ _ h _ => h
  own := fun b ⟨j, e, q, s⟩ => by
    obtain ⟨h, q⟩ := mu_wipe q
    rw [wipe_get h] at s
    exact .inl ⟨j, e, q, s⟩
  dom := fun _ o h => ⟨o, h⟩
  bo := fun j e q => by
    have h : j ∉ vs := fun z => hb j z e q
    exact ⟨⟨e, by rw [wipeE_get h]; exact q⟩, wipe_get h⟩
  fz := fun _ _ _ _ _ => rfl
  nb := fun j e q => by
    by_cases h : j ∈ vs
    · have z := wipeE_un h q; cases z
    · rw [wipeE_get h] at q
      exact ⟨e, q⟩
/-- and taking them back -/
theorem Stp.rest {T : Tx} {F H F' H' : Hp} {ρ ρ2 : En} {σ : Sg} {vs : List Nat} (s : Stp T F H ρ σ F' H' ρ2 (L2.wipe σ vs)) (r : Rel T F H ρ σ) (hw : okW ρ vs = true) : Stp T F H ρ σ F' H' (restE ρ ρ2 vs) σ := by
  have hl : ρ2.length = ρ.length := by rw [s.rel.len, wipe_length, r.len]
  have mu : ∀ j d, MuAt (restE ρ ρ2 vs) j d → j ∉ vs ∧ MuAt ρ2 j d := fun j d ⟨sl, e, q⟩ => by
    by_cases h : j ∈ vs
    · rw [restE_in hl h] at e
      unfold okW at hw
      have z := List.all_eq_true.mp hw j h
      rw [e] at z
      cases sl with
      | un => cases q
      | sh _ => cases q
      | ow _ => cases z
      | bo _ => cases z
    · rw [restE_out h] at e
      exact ⟨h, sl, e, q⟩
  refine ⟨⟨by rw [restE_len, hl]; exact r.len, s.rel.sub, fun j e q => ?_, fun j e q => ?_, fun j k e e' c q q' t t' => ?_⟩, s.same, s.keep, fun b ⟨j, e, q, t⟩ => ?_, s.dom, fun j e q => ?_, s.fz, fun j e q => ?_⟩
  · by_cases h : j ∈ vs
    · rw [restE_in hl h] at q
      obtain ⟨x, h1, h2⟩ := r.sh j e q
      exact ⟨x, h1, h2.mono s.same⟩
    · rw [restE_out h] at q
      obtain ⟨x, h1, h2⟩ := s.rel.sh j e q
      rw [wipe_get h] at h1
      exact ⟨x, h1, h2⟩
  · obtain ⟨h, q⟩ := mu j e q
    obtain ⟨a, h1, h2⟩ := s.rel.ow j e q
    rw [wipe_get h] at h1
    exact ⟨a, h1, h2⟩
  · obtain ⟨h, q⟩ := mu j e q
    obtain ⟨h', q'⟩ := mu k e' q'
    exact s.rel.dis j k e e' c q q' (by rw [wipe_get h]; exact t) (by rw [wipe_get h']; exact t')
  · obtain ⟨h, q⟩ := mu j e q
    exact s.own b ⟨j, e, q, by rw [wipe_get h]; exact t⟩
  · have h : j ∉ vs := fun z => okW_nbo hw j z e q
    obtain ⟨⟨d1, h1⟩, h2⟩ := s.bo j e q
    exact ⟨⟨d1, by rw [restE_out h]; exact h1⟩, rfl⟩
  · by_cases h : j ∈ vs
    · rw [restE_in hl h] at q
      exact ⟨e, q⟩
    · rw [restE_out h] at q
      exact s.nb j e q
theorem wipe_eq {σ σ' : Sg} {vs : List Nat} (hl : σ'.length = σ.length) (h : ∀ j : Nat, j ∉ vs → σ'[j]? = σ[j]?) : L2.wipe σ' vs = L2.wipe σ vs := by
  apply List.ext_getElem?
  intro j
  by_cases hj : j ∈ vs
  · have key : ∀ (τ : Sg) (us : List Nat), j ∈ us → (L2.wipe τ us)[j]? = if j < τ.length then some none else none := by
      intro τ us
      induction us with
      | nil => intro z; cases z
      | cons v us ih =>
        intro z
        unfold L2.wipe
        by_cases w : v = j
        · subst w
          by_cases hi : v < τ.length
          · rw [List.getElem?_set_self (by rw [wipe_length]; exact hi), if_pos hi]
          · rw [if_neg hi]
            exact List.getElem?_eq_none_iff.mpr (by rw [List.length_set, wipe_length]; omega)
        · rw [List.getElem?_set_ne w]
          rcases List.mem_cons.mp z with q | q
          · exact (w q.symm).elim
          · exact ih q
    rw [key σ' vs hj, key σ vs hj, hl]
  · rw [wipe_get hj, wipe_get hj, h j hj]

/-! ### the comprehension -/
/-- one after another: the target bound, the test, the element -/
def lcL (vs : List Nat) (p : Pat) (t : FT) (f : FE) : List D → En → R (List D × En)
  | [], ρ => .ok ([], ρ)
  | d :: ds, ρ => match bindP p d ρ with
    | none => .no
    | some ρ1 => (t ρ1).sure.bind fun rt => if rt.1 = true then (f rt.2).sure.bind fun rf => (match frz rf.2 rf.1 with
        | none => .no
        | some z => (lcL vs p t f ds (wipeE z.2 vs)).bind fun q => .ok (z.1 :: q.1, q.2)) else lcL vs p t f ds (wipeE rt.2 vs)
def lcEnd (vs : List Nat) (p : Pat) (t : FT) (f : FE) (ri : List D × En) : R (Val × En) :=
  if okW ri.2 vs = true ∧ ri.1.length ≤ 16777216 then (lcL vs p t f ri.1 (wipeE ri.2 vs)).bind fun q => .ok (.fr (.lst q.1), restE ri.2 q.2 vs) else .no
def evLC (vs : List Nat) (fi : FI) (p : Pat) (t : FT) (f : FE) : FE := fun ρ => (fi ρ).bind (lcEnd vs p t f)
theorem evLC_ok {vs : List Nat} {fi : FI} {p : Pat} {t : FT} {f : FE} (hp : ∀ j ∈ p.slots, j ∈ vs) {tt : TT} (htt : ∀ (σ : Sg) (H : Hp) (Q : Bool → Hp → Prop), tOfT (.of X) W0 t σ H Q → tt σ H Q) {σ : Sg} {H : Hp} {Q : VK}
    (h : tOf (.of X) W (evLC vs fi p t f) σ H Q) : tLc (tOfI (.of X) W fi) (gOf (.of X) p) tt (tOf (.of X) W0 f) vs σ H Q := by
  obtain ⟨ρ, F, rl, h⟩ := h
  unfold evLC at h
  refine ⟨ρ, F, rl, ?_⟩
  cases ea : fi ρ with
  | no => rw [ea] at h; exact h
  | ex c n d ρ' => rw [ea] at h; exact h
  | ok ri =>
    rw [ea] at h
    obtain ⟨ds, ρ0⟩ := ri
    intro J F1 H1 s1 w1 A hA
    have h : (match lcEnd vs p t f (ds, ρ0) with
      | .ok r => ∀ x F' H', Stp (.of X) F H ρ σ F' H' r.2 σ → VRel (.of X) H F' H' r.2 σ r.1 x → Q x H'
      | .ex c n d ρ' => ∀ F' H' cls dx, Stp (.of X) F H ρ σ F' H' ρ' σ → ERel (.of X) F' c n d cls dx → W cls dx σ H'
      | .no => False) := h
    unfold lcEnd at h
    by_cases hw : okW ρ0 vs = true ∧ ds.length ≤ 16777216
    · rw [if_pos hw] at h
      obtain ⟨hw, hlen⟩ := hw
      -- the step to the wiped state, the new list laid
      have n1 : New (.of X) F1 H1 F1 (upd H1 A (.lst [])) := New.fr s1.rel.sub hA
      have sA := s1.trans (n1.stp s1.rel)
      have nb0 : ∀ v ∈ vs, ∀ d, ρ0[v]? ≠ some (.bo d) := okW_nbo hw
      have sW : Stp (.of X) F1 H1 ρ0 σ F1 (upd H1 A (.lst [])) (wipeE ρ0 vs) (L2.wipe σ vs) := (n1.stp s1.rel).trans (Stp.wipe (n1.stp s1.rel).rel nb0)
      refine ⟨fun i m Hi => m = ds.length - i ∧ i ≤ ds.length ∧ ∃ Fi ρi done acc, Stp (.of X) F1 H1 ρ0 σ Fi Hi ρi (L2.wipe σ vs) ∧ Same F1 Fi ∧ Hi A = some (.lst acc) ∧ Fi A = none ∧ ¬ Owned ρi (L2.wipe σ vs) A ∧ DenL (.of X) Fi done acc ∧ done.length ≤ i ∧
          (lcL vs p t f (ds.drop i) ρi).bind (fun q => .ok (done ++ q.1, q.2)) = lcL vs p t f ds (wipeE ρ0 vs), ⟨ds.length, by simp, Nat.zero_le _, F1, wipeE ρ0 vs, [], [], sW, Same.refl F1, upd_same, s1.rel.sub.free hA, fun z => ?_, rfl, Nat.zero_le _, ?_⟩, ?_⟩
      · obtain ⟨i, d, m, q⟩ := z
        obtain ⟨hj, m⟩ := mu_wipe m
        rw [wipe_get hj] at q
        obtain ⟨b, hb, _, ho⟩ := s1.rel.ow i d m
        rw [q] at hb
        cases hb
        obtain ⟨o, ho, _⟩ := ho.some
        rw [hA] at ho; cases ho
      · rw [List.drop_zero]
        cases lcL vs p t f ds (wipeE ρ0 vs) with
        | ok r => rfl
        | ex c n d ρ' => rfl
        | no => rfl
      · rintro i m Hi ⟨rfl, hi, Fi, ρi, done, acc, si, mi, hAi, fAi, nAi, dl, dn, ei⟩
        have wi := w1 Fi Hi mi si.rel.sub i
        by_cases hlt : i < ds.length
        · refine .inr ?_
          have e0 : ds[i]? = some ds[i] := List.getElem?_eq_getElem hlt
          obtain ⟨go, yl⟩ := wi.1 _ e0
          rw [List.drop_eq_getElem_cons hlt] at ei
          refine ⟨go, fun H' => ∃ m', m' < ds.length - i ∧ (m' = ds.length - (i + 1) ∧ i + 1 ≤ ds.length ∧ ∃ Fi ρi done acc, Stp (.of X) F1 H1 ρ0 σ Fi H' ρi (L2.wipe σ vs) ∧ Same F1 Fi ∧ H' A = some (.lst acc) ∧ Fi A = none ∧ ¬ Owned ρi (L2.wipe σ vs) A ∧ DenL (.of X) Fi done acc ∧ done.length ≤ i + 1 ∧
            (lcL vs p t f (ds.drop (i + 1)) ρi).bind (fun q => .ok (done ++ q.1, q.2)) = lcL vs p t f ds (wipeE ρ0 vs)), fun _ z => z, fun x H2 y => ?_⟩
          obtain ⟨F2, n2, d2⟩ := yl x H2 y
          have s2 := n2.stp si.rel
          simp only [lcL] at ei
          cases eb : bindP p ds[i] ρi with
          | none => simp only [eb, R.bind] at ei; rw [← ei] at h; exact h.elim
          | some ρ1 =>
            simp only [eb] at ei
            refine ⟨ρi, F2, ds[i], ρ1, s2.rel, d2, eb, fun σ2 b2 => ⟨?_, ?_⟩⟩
            · have z := wipe_eq (vs := vs) b2.len fun j hj => b2.oth j fun w => hj (hp j w)
              rw [z]
              exact wipe_eq (wipe_length σ vs) fun j hj => wipe_get hj
            · have ew : L2.wipe σ2 vs = L2.wipe σ vs := (wipe_eq (vs := vs) b2.len fun j hj => b2.oth j fun w => hj (hp j w)).trans (wipe_eq (wipe_length σ vs) fun j hj => wipe_get hj)
              have s3 := s2.trans b2.stp
              refine htt σ2 H2 _ ⟨ρ1, F2, b2.stp.rel, ?_⟩
              cases et : t ρ1 with
              | no => simp only [et, R.sure, R.bind] at ei; rw [← ei] at h; exact h
              | ex c n d ρ' => simp only [et, R.sure, R.bind] at ei; rw [← ei] at h; exact h.elim
              | ok rt =>
                obtain ⟨b, ρ2⟩ := rt
                simp only [et, R.sure, R.bind] at ei
                intro F3 H3 t3
                have s4 := s3.trans t3
                -- the list stands, whatever was done
                have stand : ∀ {F4 H4 ρ4}, Stp (.of X) Fi Hi ρi (L2.wipe σ vs) F4 H4 ρ4 σ2 → H4 A = some (.lst acc) ∧ F4 A = none ∧ ¬ Owned ρ4 σ2 A := fun {F4 H4 ρ4} s => by
                  refine ⟨s.keep A _ hAi nAi, (s.fz A _ hAi nAi fun c z => by cases z).trans fAi, fun z => ?_⟩
                  rcases s.own A z with q | q
                  · exact nAi q
                  · rw [hAi] at q; cases q
                have wiped : ∀ {F4 H4 ρ4}, Stp (.of X) Fi Hi ρi (L2.wipe σ vs) F4 H4 ρ4 σ2 → Stp (.of X) F4 H4 ρ4 σ2 F4 H4 (wipeE ρ4 vs) (L2.wipe σ vs) := fun {F4 H4 ρ4} s => by
                  rw [← ew]
                  refine Stp.wipe s.rel fun v hv d e => ?_
                  obtain ⟨d1, e1⟩ := s.nb v d e
                  obtain ⟨d2, e2⟩ := si.nb v d1 e1
                  exact nb0 v hv d2 e2
                have unw : ∀ {ρ4 : En}, ¬ Owned ρ4 σ2 A → ¬ Owned (wipeE ρ4 vs) (L2.wipe σ vs) A := fun {ρ4} n z => by
                  obtain ⟨k, d, m, q⟩ := z
                  obtain ⟨hk, m⟩ := mu_wipe m
                  rw [← ew, wipe_get hk] at q
                  exact n ⟨k, d, m, q⟩
                cases b with
                | false =>
                  simp only [Bool.false_eq_true, if_false] at ei ⊢
                  obtain ⟨a1, a2, a3⟩ := stand s4
                  exact ⟨_, by omega, rfl, hlt, F3, wipeE ρ2 vs, done, acc, (si.trans s4).trans (wiped s4), mi.trans s4.same, a1, a2, unw a3, DenL.mono s4.same _ dl, by omega, ei⟩
                | true =>
                  simp only [if_true] at ei ⊢
                  refine ⟨ρ2, F3, t3.rel, ?_⟩
                  cases ef : f ρ2 with
                  | no => simp only [ef] at ei; rw [← ei] at h; exact h
                  | ex c n d ρ' => simp only [ef] at ei; rw [← ei] at h; exact h.elim
                  | ok rf =>
                    obtain ⟨v, ρ3⟩ := rf
                    simp only [ef] at ei
                    intro y F4 H4 t4 v4
                    cases ez : frz ρ3 v with
                    | none => simp only [ez] at ei; rw [← ei] at h; exact h.elim
                    | some z =>
                      obtain ⟨e, ρ4⟩ := z
                      simp only [ez] at ei
                      obtain ⟨F5, t5, _, d5⟩ := frz_val t4 v4 ez
                      have s5 := s4.trans t5
                      obtain ⟨a1, a2, a3⟩ := stand s5
                      have la : acc.length < 16777216 := by rw [← dl.length]; omega
                      refine ⟨acc, a1, size_lt la, ?_⟩
                      have w5 := wiped s5
                      have si5 := (si.trans s5).trans w5
                      -- the list grows
                      have grow : Stp (.of X) F1 H1 ρ0 σ F5 (upd H4 A (.lst (acc ++ [y]))) (wipeE ρ4 vs) (L2.wipe σ vs) := by
                        refine ⟨⟨si5.rel.len, fun b o q => ?_, si5.rel.sh, fun j d q => ?_, si5.rel.dis⟩, si5.same, fun b o q no => ?_, si5.own, fun b o q => ?_, si5.bo, si5.fz, si5.nb⟩
                        · rw [upd_ne (fun z => by rw [z, a2] at q; cases q)]
                          exact si5.rel.sub b o q
                        · obtain ⟨c, c1, c2, c3⟩ := si5.rel.ow j d q
                          have hne : c ≠ A := fun z => unw a3 ⟨j, d, q, by rw [c1, z]⟩
                          exact ⟨c, c1, c2, c3.mono (Same.refl _) (upd_ne hne) fun g z => by rw [upd_ne (fun z' => by rw [z', a1] at z; cases z)]; exact z⟩
                        · rw [upd_ne (ne_of_none q hA)]
                          exact si5.keep b o q no
                        · rw [upd_ne (ne_of_none q hA)]
                          exact si5.dom b o q
                      refine ⟨_, by omega, rfl, hlt, F5, wipeE ρ4 vs, done ++ [e], acc ++ [y], grow, mi.trans s5.same, upd_same, a2, unw a3, (DenL.mono s5.same _ dl).snoc d5, by rw [List.length_append]; simp; omega, ?_⟩
                      rw [← ei]
                      cases lcL vs p t f (ds.drop (i + 1)) (wipeE ρ4 vs) with
                      | ok r => simp [R.bind]
                      | ex c n d ρ' => rfl
                      | no => rfl
        · refine .inl ⟨wi.2 (show ds.length ≤ i by omega), ?_⟩
          rw [List.drop_eq_nil_of_le (by omega)] at ei
          simp only [lcL, R.bind, List.append_nil] at ei
          rw [← ei] at h
          have h : ∀ x F' H', Stp (.of X) F H ρ σ F' H' (restE ρ0 ρi vs) σ → VRel (.of X) H F' H' (restE ρ0 ρi vs) σ (.fr (.lst done)) x → Q x H' := h
          have sr := Stp.rest si s1.rel hw
          refine h (.ref A) Fi Hi (s1.trans sr) ⟨A, rfl, fAi, s1.free hA, fun z => ?_, acc, hAi, dl⟩
          rcases sr.own A z with q | q
          · obtain ⟨k, d, m, q⟩ := q
            obtain ⟨b, hb, _, ho⟩ := s1.rel.ow k d m
            rw [q] at hb
            cases hb
            obtain ⟨o, ho, _⟩ := ho.some
            rw [hA] at ho; cases ho
          · obtain ⟨k, d, ⟨sl, e, q2⟩, q3⟩ := z
            have hl : ρi.length = ρ0.length := by rw [si.rel.len, wipe_length, s1.rel.len]
            by_cases hk : k ∈ vs
            · rw [restE_in hl hk] at e
              unfold okW at hw
              have z := List.all_eq_true.mp hw k hk
              rw [e] at z
              cases sl with
              | un => cases q2
              | sh _ => cases q2
              | ow _ => cases z
              | bo _ => cases z
            · rw [restE_out hk] at e
              exact nAi ⟨k, d, ⟨sl, e, q2⟩, by rw [wipe_get hk]; exact q3⟩
    · rw [if_neg hw] at h; exact h.elim
/-- no test, one test -/
def ftYes : FT := fun ρ => .ok (true, ρ)
theorem yes_ok {σ : Sg} {H : Hp} {Q : Bool → Hp → Prop} (h : tOfT (.of X) W0 ftYes σ H Q) : tYes σ H Q := by
  obtain ⟨ρ, F, rl, h⟩ := h
  exact h F H (Stp.refl rl)
theorem se_lc {elt tg iter : Expr} {scope : Scope} {own : List (Str × Nat)} {pos : Pos} {fi : FI} {p : Pat} {f : FE} (hc : X.calm = true) (hN : X.N.Nodup) (hi : SI X W tg iter fi) (ok : BlkOk X.N X.env.scope scope own)
    (hg : ∀ (s : Shared) (H : Hp) (C : Addr) (cl : List (Str × Addr)) (fp : List Addr), SG (X.blk s H scope (compEnvC scope cl C X.env) fp) tg p)
    (he : ∀ (s : Shared) (H : Hp) (C : Addr) (cl : List (Str × Addr)) (fp : List Addr), SE (X.blk s H scope (compEnvC scope cl C X.env) fp) W0 elt f)
    (hp : ∀ j ∈ p.slots, j ∈ own.map (·.2) := by decide) (hs : ∀ x, foldedSetIterable iter X.env x = pure x := by intro _; rfl) :
    SE X W (.ListComp elt [⟨tg, iter, [], 0⟩] scope pos) (evLC (own.map (·.2)) fi p ftYes f) :=
  pe_imp (pe_lc (g := gOf (.of X) p) (tt := tYes) (te := tOf (.of X) W0 f) hc hN hi ok hg (fun _ _ _ _ _ => pts_nil) he hs) fun σ H Q h => evLC_ok hp (fun _ _ _ z => yes_ok z) h
theorem se_lcIf {elt tg iter c : Expr} {scope : Scope} {own : List (Str × Nat)} {pos : Pos} {fi : FI} {p : Pat} {t : FT} {f : FE} (hc : X.calm = true) (hN : X.N.Nodup) (hi : SI X W tg iter fi) (ok : BlkOk X.N X.env.scope scope own)
    (hg : ∀ (s : Shared) (H : Hp) (C : Addr) (cl : List (Str × Addr)) (fp : List Addr), SG (X.blk s H scope (compEnvC scope cl C X.env) fp) tg p)
    (ht : ∀ (s : Shared) (H : Hp) (C : Addr) (cl : List (Str × Addr)) (fp : List Addr), ST (X.blk s H scope (compEnvC scope cl C X.env) fp) W0 c t)
    (he : ∀ (s : Shared) (H : Hp) (C : Addr) (cl : List (Str × Addr)) (fp : List Addr), SE (X.blk s H scope (compEnvC scope cl C X.env) fp) W0 elt f)
    (hp : ∀ j ∈ p.slots, j ∈ own.map (·.2) := by decide) (hs : ∀ x, foldedSetIterable iter X.env x = pure x := by intro _; rfl) :
    SE X W (.ListComp elt [⟨tg, iter, [c], 0⟩] scope pos) (evLC (own.map (·.2)) fi p t f) :=
  pe_imp (pe_lc (g := gOf (.of X) p) (tt := tOfT (.of X) W0 t) (te := tOf (.of X) W0 f) hc hN hi ok hg (fun s H C cl fp => pts_one (ht s H C cl fp)) he hs) fun σ H Q h => evLC_ok hp (fun _ _ _ z => z) h
/-- y = [..] -/
theorem ss_setLc {i : Nat} {y : Str} {py : Pos} {elt tg iter : Expr} {scope : Scope} {own : List (Str × Nat)} {pos spos : Pos} {fi : FI} {p : Pat} {f : FE} (hc : X.calm = true) (hN : X.N.Nodup) (hi : SI X W tg iter fi) (ok : BlkOk X.N X.env.scope scope own)
    (hg : ∀ (s : Shared) (H : Hp) (C : Addr) (cl : List (Str × Addr)) (fp : List Addr), SG (X.blk s H scope (compEnvC scope cl C X.env) fp) tg p)
    (he : ∀ (s : Shared) (H : Hp) (C : Addr) (cl : List (Str × Addr)) (fp : List Addr), SE (X.blk s H scope (compEnvC scope cl C X.env) fp) W0 elt f)
    (hsw : swapsWith (.ListComp elt [⟨tg, iter, [], 0⟩] scope pos) (some (.Name y py)) spos.line X.env = pure true)
    (hy : X.N[i]? = some y := by rfl) (hyl : X.env.scope.names.lookup y = some .local := by rfl) (hp : ∀ j ∈ p.slots, j ∈ own.map (·.2) := by decide) (hs : ∀ x, foldedSetIterable iter X.env x = pure x := by intro _; rfl) :
    SS X W (.Assign [.Name y py] (.ListComp elt [⟨tg, iter, [], 0⟩] scope pos) spos) (fsSet i (evLC (own.map (·.2)) fi p ftYes f)) :=
  ps_imp (ps_setLc (g := gOf (.of X) p) (tt := tYes) (te := tOf (.of X) W0 f) hc hN hy hyl hsw hi ok hg (fun _ _ _ _ _ => pts_nil) he hs) fun D σ H h => evLC_ok hp (fun _ _ _ z => yes_ok z) (fsVal_ok h fun ρ F v ρ1 x F1 H1 s1 v1 q => by
    cases e1 : store ρ1 i v with
    | none => simp only [e1] at q
    | some ρ2 =>
      simp only [e1] at q
      obtain ⟨F2, s2⟩ := store_ok' s1 v1 e1
      exact q _ F2 H1 s2)
theorem ss_setLcIf {i : Nat} {y : Str} {py : Pos} {elt tg iter c : Expr} {scope : Scope} {own : List (Str × Nat)} {pos spos : Pos} {fi : FI} {p : Pat} {t : FT} {f : FE} (hc : X.calm = true) (hN : X.N.Nodup) (hi : SI X W tg iter fi) (ok : BlkOk X.N X.env.scope scope own)
    (hg : ∀ (s : Shared) (H : Hp) (C : Addr) (cl : List (Str × Addr)) (fp : List Addr), SG (X.blk s H scope (compEnvC scope cl C X.env) fp) tg p)
    (ht : ∀ (s : Shared) (H : Hp) (C : Addr) (cl : List (Str × Addr)) (fp : List Addr), ST (X.blk s H scope (compEnvC scope cl C X.env) fp) W0 c t)
    (he : ∀ (s : Shared) (H : Hp) (C : Addr) (cl : List (Str × Addr)) (fp : List Addr), SE (X.blk s H scope (compEnvC scope cl C X.env) fp) W0 elt f)
    (hsw : swapsWith (.ListComp elt [⟨tg, iter, [c], 0⟩] scope pos) (some (.Name y py)) spos.line X.env = pure true)
    (hy : X.N[i]? = some y := by rfl) (hyl : X.env.scope.names.lookup y = some .local := by rfl) (hp : ∀ j ∈ p.slots, j ∈ own.map (·.2) := by decide) (hs : ∀ x, foldedSetIterable iter X.env x = pure x := by intro _; rfl) :
    SS X W (.Assign [.Name y py] (.ListComp elt [⟨tg, iter, [c], 0⟩] scope pos) spos) (fsSet i (evLC (own.map (·.2)) fi p t f)) :=
  ps_imp (ps_setLc (g := gOf (.of X) p) (tt := tOfT (.of X) W0 t) (te := tOf (.of X) W0 f) hc hN hy hyl hsw hi ok hg (fun s H C cl fp => pts_one (ht s H C cl fp)) he hs) fun D σ H h => evLC_ok hp (fun _ _ _ z => z) (fsVal_ok h fun ρ F v ρ1 x F1 H1 s1 v1 q => by
    cases e1 : store ρ1 i v with
    | none => simp only [e1] at q
    | some ρ2 =>
      simp only [e1] at q
      obtain ⟨F2, s2⟩ := store_ok' s1 v1 e1
      exact q _ F2 H1 s2)
end
end Tr
/-! Tr, part F: defs of the module as functions on trees; their calls. -/
namespace Tr
open PySem PySem.Spec PyProof.Rows L2

/-- what a def comes to: a value (new or not) and what its first, lent argument holds then; an error -/
inductive RF where
  | ok (fr : Bool) (d b : D) | ex (c n : Str) (d : D) | no
abbrev FF := List D → RF
/-- from the state at a call to the state behind it; A: the lent object -/
structure Cst (F H F' H' : Hp) (A : Option Addr) : Prop where
  ff : Same F F'
  fh : Same F' H'
  keep : ∀ b o, H b = some o → A ≠ some b → H' b = some o
  dom : ∀ b o, H b = some o → ∃ o', H' b = some o'
  fz : ∀ b o, H b = some o → A ≠ some b → (∀ c, o ≠ .own c) → F' b = F b
/-- the value that comes back -/
def BRel (T : Tx) (H F' H' : Hp) (fr : Bool) (d : D) (x : V) : Prop :=
  if fr = true then ∃ p, x = .ref p ∧ H p = none ∧ F' p = none ∧ OwnAt T F' H' d p else Den T F' d x
/-- the promise of a def without a lent argument -/
def spP (T : Tx) (run : FF) : Sp := fun vs H Q E => ∃ F ds, Same F H ∧ DenL T F ds vs ∧ match run ds with
  | .ok fr d _ => ∀ x F' H', Cst F H F' H' none → BRel T H F' H' fr d x → Q x H'
  | .ex c n d => ∀ F' H' cls dx, Cst F H F' H' none → ERel T F' c n d cls dx → E cls dx H'
  | .no => False
/-- .. with its first argument lent -/
def spB (T : Tx) (run : FF) : Sp := fun vs H Q E => ∃ F a vr d dr, vs = .ref a :: vr ∧ Same F H ∧ F a = none ∧ OwnAt T F H d a ∧ DenL T F dr vr ∧ match run (d :: dr) with
  | .ok fr e b => ∀ x F' H', Cst F H F' H' (some a) → F' a = none → OwnAt T F' H' b a → BRel T H F' H' fr e x → Q x H'
  | .ex _ _ _ => False
  | .no => False

/-! ### from a body -/
def startP (n : Nat) (ds : List D) : En := ds.map .sh ++ List.replicate (n - ds.length) .un
def startB (n : Nat) : List D → En
  | [] => []
  | d :: ds => .bo d :: (ds.map .sh ++ List.replicate (n - 1 - ds.length) .un)
def retV (ρ : En) (b : D) : Val → RF
  | .sh d => .ok false d b
  | .fr d => .ok true d b
  | .rf i => match ρ[i]? with
    | some (.ow d) => .ok true d b
    | some (.sh d) => .ok false d b
    | _ => .no
def finP : R (Fl × En) → RF
  | .ok (.nx, _) => .ok false .non .non
  | .ok (.rt v, ρ) => retV ρ .non v
  | .ex c n d _ => .ex c n d
  | _ => .no
def finB : R (Fl × En) → RF
  | .ok (fl, ρ) => (match (ρ[0]? : Option Slot) with
    | some (Slot.bo b) => (match fl with
      | .nx => .ok false .non b
      | .rt v => retV ρ b v
      | _ => .no)
    | _ => .no)
  | _ => .no
def runP (n m : Nat) (fb : FS) : FF := fun ds => if ds.length = m then finP (fb (startP n ds)) else .no
def runB (n m : Nat) (fb : FS) : FF := fun ds => if ds.length = m then finB (fb (startB n ds)) else .no
theorem startP_rel {T : Tx} {F H : Hp} {N : List Str} {ds : List D} {vs : List V} (s : Same F H) (h : DenL T F ds vs) : Rel T F H (startP N.length ds) (start N vs) := by
  have hl := h.length
  have nmu : ∀ i d, ¬ MuAt (startP N.length ds) i d := fun i d ⟨sl, e, q⟩ => by
    unfold startP at e
    by_cases hi : i < ds.length
    · rw [List.getElem?_append_left (by rw [List.length_map]; exact hi), List.getElem?_map, List.getElem?_eq_getElem hi] at e
      cases e; cases q
    · rw [List.getElem?_append_right (by rw [List.length_map]; omega)] at e
      have := List.mem_of_getElem? e
      rw [List.eq_of_mem_replicate this] at q
      cases q
  refine ⟨?_, s, fun i d e => ?_, fun i d m => (nmu i d m).elim, fun i j d e a m => (nmu i d m).elim⟩
  · unfold startP L2.start
    rw [List.length_append, List.length_append, List.length_map, List.length_map, List.length_replicate, List.length_replicate, hl]
  · unfold startP at e
    by_cases hi : i < ds.length
    · rw [List.getElem?_append_left (by rw [List.length_map]; exact hi), List.getElem?_map, List.getElem?_eq_getElem hi] at e
      cases e
      obtain ⟨x, hx, hd⟩ := h.get (List.getElem?_eq_getElem hi)
      refine ⟨x, ?_, hd⟩
      unfold L2.start
      rw [List.getElem?_append_left (by rw [List.length_map]; omega), List.getElem?_map, hx]
      rfl
    · rw [List.getElem?_append_right (by rw [List.length_map]; omega)] at e
      have := List.eq_of_mem_replicate (List.mem_of_getElem? e)
      cases this
theorem startB_get {n : Nat} {d : D} {ds : List D} {i : Nat} {sl : Slot} (e : (startB n (d :: ds))[i + 1]? = some sl) : (∃ c, ds[i]? = some c ∧ sl = .sh c) ∨ sl = .un := by
  simp only [startB, List.getElem?_cons_succ] at e
  by_cases hi : i < ds.length
  · rw [List.getElem?_append_left (by rw [List.length_map]; exact hi), List.getElem?_map, List.getElem?_eq_getElem hi] at e
    cases e
    exact .inl ⟨_, List.getElem?_eq_getElem hi, rfl⟩
  · rw [List.getElem?_append_right (by rw [List.length_map]; omega)] at e
    exact .inr (List.eq_of_mem_replicate (List.mem_of_getElem? e))
theorem startB_rel {T : Tx} {F H : Hp} {N : List Str} {a : Addr} {d : D} {ds : List D} {vr : List V} (s : Same F H) (hn : F a = none) (ho : OwnAt T F H d a) (h : DenL T F ds vr) (hN : ds.length < N.length) : Rel T F H (startB N.length (d :: ds)) (start N (.ref a :: vr)) := by
  have hl := h.length
  have mu : ∀ i e, MuAt (startB N.length (d :: ds)) i e → i = 0 ∧ e = d := fun i e ⟨sl, q, z⟩ => by
    cases i with
    | zero => cases q; cases z; exact ⟨rfl, rfl⟩
    | succ i =>
      rcases startB_get q with ⟨c, _, w⟩ | w
      · rw [w] at z; cases z
      · rw [w] at z; cases z
  refine ⟨?_, s, fun i e q => ?_, fun i e m => ?_, fun i j e e' b m m' _ _ => ?_⟩
  · unfold startB L2.start
    simp only [List.length_append, List.length_map, List.length_replicate, List.length_cons]
    omega
  · cases i with
    | zero => cases q
    | succ i =>
      rcases startB_get q with ⟨c, hc, w⟩ | w
      · cases w
        obtain ⟨x, hx, hd⟩ := h.get hc
        refine ⟨x, ?_, hd⟩
        unfold L2.start
        have hi : i < vr.length := (List.getElem?_eq_some_iff.mp hx).1
        rw [List.getElem?_append_left (by rw [List.length_map, List.length_cons]; omega), List.getElem?_map, List.getElem?_cons_succ, hx]
        rfl
      · cases w
  · obtain ⟨rfl, rfl⟩ := mu i e m
    exact ⟨a, rfl, hn, ho⟩
  · rw [(mu i e m).1, (mu j e' m').1]
theorem retV_rel {T : Tx} {F H F' H' : Hp} {ρ0 ρ' : En} {σ0 σ' : Sg} {v : Val} {x : V} {b d e : D} {fr : Bool} (s : Stp T F H ρ0 σ0 F' H' ρ' σ') (only : ∀ i d, MuAt ρ0 i d → ∃ d', ρ0[i]? = some (.bo d')) (h : VRel T H F' H' ρ' σ' v x) (q : retV ρ' b v = .ok fr d e) :
    BRel T H F' H' fr d x ∧ e = b := by
  unfold BRel
  cases v with
  | sh c => cases q; exact ⟨by rw [if_neg Bool.false_ne_true]; exact h, rfl⟩
  | fr c =>
    cases q
    obtain ⟨a, h1, h2, h3, _, h5⟩ := h
    exact ⟨by rw [if_pos rfl]; exact ⟨a, h1, h3, h2, h5⟩, rfl⟩
  | rf i =>
    obtain ⟨h1, c, h2⟩ := h
    unfold retV at q
    cases e1 : ρ'[i]? with
    | none => simp only [e1] at q; cases q
    | some sl =>
      cases sl with
      | un => simp only [e1] at q; cases q
      | bo c => simp only [e1] at q; cases q
      | sh c =>
        simp only [e1] at q
        cases q
        obtain ⟨y, y1, y2⟩ := s.rel.sh i _ e1
        rw [h1] at y1
        cases y1
        exact ⟨by rw [if_neg Bool.false_ne_true]; exact y2, rfl⟩
      | ow c =>
        simp only [e1] at q
        cases q
        have m : MuAt ρ' i d := ⟨_, e1, rfl⟩
        obtain ⟨a, a1, a2, a3⟩ := s.rel.ow i _ m
        rw [h1] at a1
        cases a1
        suffices hz : H a = none from ⟨by rw [if_pos rfl]; exact ⟨a, rfl, hz, a2, a3⟩, rfl⟩
        rcases s.own a ⟨i, d, m, h1⟩ with ⟨j, f, mj, hj⟩ | z
        · obtain ⟨d0, hb⟩ := only j f mj
          obtain ⟨⟨d1, hb1⟩, es⟩ := s.bo j d0 hb
          have ij := s.rel.dis i j d d1 a m ⟨_, hb1, rfl⟩ h1 (by rw [es]; exact hj)
          subst ij
          rw [e1] at hb1
          cases hb1
        · exact z
section
variable {P : Program} {w : World} {K : PySem.W.Frag} {mg : Str → Option Value} {base : Heap}
/-- the context of a def's body -/
abbrev cxD (P : Program) (w : World) (K : PySem.W.Frag) (mg : Str → Option Value) (base : Heap) (N : List Str) (qual : Str) (st : Stmt) (f : Addr) (cdv : Value) (A : Around) (outer : List Env) (s : Shared) (H : Hp) (E : XK) : Cx :=
  cxOf (L2.CX P w) P w K mg base N qual (defScope st) f cdv A outer s H E
/-- a body does what fb says, wherever it is entered with room for k calls -/
def Bd (P : Program) (w : World) (K : PySem.W.Frag) (mg : Str → Option Value) (base : Heap) (N : List Str) (qual : Str) (st : Stmt) (f : Addr) (k : Nat) (fb : FS) : Prop :=
  ∀ (cdv : Value) (A : Around) (outer : List Env) (s : Shared) (H : Hp) (E : XK), Room k (A.deeper (envOfC qual (defScope st) s.heap.objs.size f cdv)) →
    SSs (cxD P w K mg base N qual st f cdv A outer s H E) (fun cls d _ H' => E cls d H') (defBody st) fb
theorem fnP {x qual : Str} {st : Stmt} {f : Addr} {fd : FuncData} {N ps : List Str} {k : Nat} {fb : FS} (F : Fun K x qual st f fd) (S : FnScope N ps (defScope st)) (hb : Bd P w K mg base N qual st f k fb) :
    FnOk P w K mg base (L2.CX P w) (k + 1) f fd ps (spP ⟨K, mg⟩ (runP N.length ps.length fb)) := by
  refine F.okX S (fun vs H Q E h => ?_) (fun cdv A outer s H vs Q E hr h => ?_)
  · obtain ⟨G, ds, s, hd, h⟩ := h
    unfold runP at h
    by_cases hl : ds.length = ps.length
    · rw [← hd.length, hl]
    · rw [if_neg hl] at h; exact h.elim
  · obtain ⟨G, ds, s0, hd, h⟩ := h
    unfold runP at h
    by_cases hl : ds.length = ps.length
    · rw [if_pos hl] at h
      refine ⟨_, hb cdv A outer s H E hr, startP N.length ds, G, startP_rel s0 hd, ?_⟩
      have nown : ∀ b, ¬ Owned (startP N.length ds) (start N vs) b := fun b ⟨i, d, ⟨sl, e, q⟩, _⟩ => by
        unfold startP at e
        by_cases hi : i < ds.length
        · rw [List.getElem?_append_left (by rw [List.length_map]; exact hi), List.getElem?_map, List.getElem?_eq_getElem hi] at e
          cases e; cases q
        · rw [List.getElem?_append_right (by rw [List.length_map]; omega)] at e
          rw [List.eq_of_mem_replicate (List.mem_of_getElem? e)] at q
          cases q
      have only : ∀ i d, MuAt (startP N.length ds) i d → ∃ d', (startP N.length ds)[i]? = some (.bo d') := fun i d ⟨sl, e, q⟩ => by
        unfold startP at e
        by_cases hi : i < ds.length
        · rw [List.getElem?_append_left (by rw [List.length_map]; exact hi), List.getElem?_map, List.getElem?_eq_getElem hi] at e
          cases e; cases q
        · rw [List.getElem?_append_right (by rw [List.length_map]; omega)] at e
          rw [List.eq_of_mem_replicate (List.mem_of_getElem? e)] at q
          cases q
      have cst : ∀ {F' H' ρ' σ'}, Stp ⟨K, mg⟩ G H (startP N.length ds) (start N vs) F' H' ρ' σ' → Cst G H F' H' none := fun {F' H' ρ' σ'} t =>
        ⟨t.same, t.rel.sub, fun b o q _ => t.keep b o q (nown b), t.dom, fun b o q _ z => t.fz b o q (nown b) z⟩
      cases er : fb (startP N.length ds) with
      | no => rw [er] at h; exact h
      | ex c n d ρ' => rw [er] at h; exact fun σ' F' H' cls dx t e => h F' H' cls dx (cst t) e
      | ok r =>
        obtain ⟨fl, ρ'⟩ := r
        rw [er] at h
        intro σ' F' H' t
        cases fl with
        | nx => exact h .non F' H' (cst t) (by unfold BRel; rw [if_neg Bool.false_ne_true]; rfl)
        | bk => exact h.elim
        | ct => exact h.elim
        | rt v =>
          intro y hv
          have h : (match retV ρ' .non v with
            | .ok fr d _ => ∀ x F' H', Cst G H F' H' none → BRel ⟨K, mg⟩ H F' H' fr d x → Q x H'
            | .ex c n d => ∀ F' H' cls dx, Cst G H F' H' none → ERel ⟨K, mg⟩ F' c n d cls dx → E cls dx H'
            | .no => False) := h
          cases eq : retV ρ' .non v with
          | no => rw [eq] at h; exact h.elim
          | ex c n d =>
            exfalso
            revert eq
            unfold retV
            cases v with
            | sh d => intro z; cases z
            | fr d => intro z; cases z
            | rf i => simp only; split <;> (intro z; cases z)
          | ok fr d b =>
            rw [eq] at h
            exact h y F' H' (cst t) (retV_rel t only hv eq).1
    · rw [if_neg hl] at h; exact h.elim
theorem fnB {x qual : Str} {st : Stmt} {f : Addr} {fd : FuncData} {N ps : List Str} {k : Nat} {fb : FS} (F : Fun K x qual st f fd) (S : FnScope N ps (defScope st)) (hN : ps.length ≤ N.length) (hb : Bd P w K mg base N qual st f k fb) :
    FnOk P w K mg base (L2.CX P w) (k + 1) f fd ps (spB ⟨K, mg⟩ (runB N.length ps.length fb)) := by
  refine F.okX S (fun vs H Q E h => ?_) (fun cdv A outer s H vs Q E hr h => ?_)
  · obtain ⟨G, a, vr, d, dr, e, s, _, _, hd, h⟩ := h
    unfold runB at h
    by_cases hl : (d :: dr).length = ps.length
    · rw [e, List.length_cons, ← hd.length, ← hl, List.length_cons]
    · rw [if_neg hl] at h; exact h.elim
  · obtain ⟨G, a, vr, d, dr, e, s0, hn, ho, hd, h⟩ := h
    subst e
    unfold runB at h
    by_cases hl : (d :: dr).length = ps.length
    · rw [if_pos hl] at h
      have hlen : dr.length < N.length := by rw [List.length_cons] at hl; omega
      refine ⟨_, hb cdv A outer s H E hr, startB N.length (d :: dr), G, startB_rel s0 hn ho hd hlen, ?_⟩
      have mu : ∀ i e, MuAt (startB N.length (d :: dr)) i e → i = 0 := fun i e ⟨sl, q, z⟩ => by
        cases i with
        | zero => rfl
        | succ i =>
          rcases startB_get q with ⟨c, _, w⟩ | w
          · rw [w] at z; cases z
          · rw [w] at z; cases z
      have nown : ∀ b, some a ≠ some b → ¬ Owned (startB N.length (d :: dr)) (start N (.ref a :: vr)) b := fun b hne ⟨i, e, m, q⟩ => by
        have := mu i e m
        subst this
        cases q
        exact hne rfl
      have only : ∀ i e, MuAt (startB N.length (d :: dr)) i e → ∃ d', (startB N.length (d :: dr))[i]? = some (.bo d') := fun i e m => by
        have := mu i e m
        subst this
        exact ⟨d, rfl⟩
      have cst : ∀ {F' H' ρ' σ'}, Stp ⟨K, mg⟩ G H (startB N.length (d :: dr)) (start N (.ref a :: vr)) F' H' ρ' σ' → Cst G H F' H' (some a) := fun {F' H' ρ' σ'} t =>
        ⟨t.same, t.rel.sub, fun b o q z => t.keep b o q (nown b z), t.dom, fun b o q z z' => t.fz b o q (nown b z) z'⟩
      have lent : ∀ {F' H' ρ' σ' b}, Stp ⟨K, mg⟩ G H (startB N.length (d :: dr)) (start N (.ref a :: vr)) F' H' ρ' σ' → ρ'[0]? = some (.bo b) → F' a = none ∧ OwnAt ⟨K, mg⟩ F' H' b a := fun {F' H' ρ' σ' b} t e => by
        obtain ⟨c, c1, c2, c3⟩ := t.rel.ow 0 b ⟨_, e, rfl⟩
        obtain ⟨_, es⟩ := t.bo 0 d rfl
        rw [es] at c1
        cases c1
        exact ⟨c2, c3⟩
      cases er : fb (startB N.length (d :: dr)) with
      | no => rw [er] at h; exact h
      | ex c n d ρ' => rw [er] at h; exact h.elim
      | ok r =>
        obtain ⟨fl, ρ'⟩ := r
        rw [er] at h
        intro σ' F' H' t
        simp only [finB] at h
        cases e0 : ρ'[0]? with
        | none => simp only [e0] at h
        | some sl =>
          cases sl with
          | bo b =>
            simp only [e0] at h
            obtain ⟨l1, l2⟩ := lent t e0
            cases fl with
            | nx => exact h .non F' H' (cst t) l1 l2 (by unfold BRel; rw [if_neg Bool.false_ne_true]; rfl)
            | bk => exact h.elim
            | ct => exact h.elim
            | rt v =>
              intro y hv
              simp only at h
              cases eq : retV ρ' b v with
              | no => rw [eq] at h; exact h.elim
              | ex c n d => rw [eq] at h; exact h.elim
              | ok fr e b' =>
                rw [eq] at h
                obtain ⟨r1, r2⟩ := retV_rel t only hv eq
                subst r2
                exact h y F' H' (cst t) l1 l2 r1
          | _ => simp only [e0] at h
    · rw [if_neg hl] at h; exact h.elim
end

/-! ### calls -/
section
variable {X : Cx} {W : WX}
/-- the value of a call -/
def backV (fr : Bool) (d : D) : Val := if fr = true then .fr d else .sh d
theorem Cst.stp {T : Tx} {F H F' H' : Hp} {ρ : En} {σ : Sg} (c : Cst F H F' H' none) (r : Rel T F H ρ σ) : Stp T F H ρ σ F' H' ρ σ where
  rel := by
    refine ⟨r.len, c.fh, fun i d q => ?_, fun i d q => ?_, r.dis⟩
    · obtain ⟨x, h1, h2⟩ := r.sh i d q
      exact ⟨x, h1, h2.mono c.ff⟩
    · obtain ⟨a, h1, h2, h3⟩ := r.ow i d q
      obtain ⟨o, h4, h5⟩ := h3.some
      refine ⟨a, h1, (c.fz a o h4 (by simp) h5).trans h2, h3.mono c.ff ((c.keep a o h4 (by simp)).trans h4.symm) fun b q => c.keep b _ q (by simp)⟩
  same := c.ff
  keep := fun b o h _ => c.keep b o h (by simp)
  own := fun _ h => .inl h
  dom := c.dom
  bo := fun _ d h => ⟨⟨d, h⟩, rfl⟩
  fz := fun b o h _ z => c.fz b o h (by simp) z
  nb := fun _ d h => ⟨d, h⟩
theorem BRel.vrel {T : Tx} {F H F' H' : Hp} {ρ : En} {σ : Sg} {fr : Bool} {d : D} {x : V} (r : Rel T F H ρ σ) (h : BRel T H F' H' fr d x) : VRel T H F' H' ρ σ (backV fr d) x := by
  unfold BRel at h
  unfold backV
  cases fr with
  | false => rw [if_neg Bool.false_ne_true] at h ⊢; exact h
  | true =>
    rw [if_pos rfl] at h ⊢
    obtain ⟨p, h1, h2, h3, h4⟩ := h
    exact NRel.vrel (v := .fr d) r ⟨p, h1, h3, h2, h4⟩
/-- f(e, ..): all arguments stay -/
def callP (run : FF) (ds0 : List D) (r : List Val × En) : R (Val × En) := match frzL r.2 r.1 with
  | some (ds, ρ) => (match run (ds ++ ds0) with
    | .ok fr d _ => .ok (backV fr d, ρ)
    | .ex c n d => .ex c n d ρ
    | .no => .no)
  | none => .no
def evCall (run : FF) (ds0 : List D) (f : FA) : FE := fun ρ => (f ρ).bind (callP run ds0)
theorem evCall_ok {run : FF} {ds0 : List D} {dvs : List V} {f : FA} {E : XK} (hd0 : ∀ F, DenL (.of X) F ds0 dvs) {σ : Sg} {H : Hp} {Q : VK} (hE : ∀ cls d H, E cls d H → W cls d σ H) (hE' : ∀ cls d H, W cls d σ H → E cls d H) (h : tOf (.of X) W (evCall run ds0 f) σ H Q) :
    tCall (spP (.of X) run) dvs E (tOfA (.of X) W f) σ H Q := by
  obtain ⟨ρ, F, rl, h⟩ := h
  unfold evCall at h
  refine ⟨ρ, F, rl, ?_⟩
  cases ea : f ρ with
  | no => rw [ea] at h; exact h
  | ex c n d ρ' => rw [ea] at h; exact h
  | ok ra =>
    rw [ea] at h
    intro xs F1 H1 s1 p1
    have h : (match callP run ds0 ra with
      | .ok r => ∀ x F' H', Stp (.of X) F H ρ σ F' H' r.2 σ → VRel (.of X) H F' H' r.2 σ r.1 x → Q x H'
      | .ex c n d ρ' => ∀ F' H' cls dx, Stp (.of X) F H ρ σ F' H' ρ' σ → ERel (.of X) F' c n d cls dx → W cls dx σ H'
      | .no => False) := h
    unfold callP at h
    cases e1 : frzL ra.2 ra.1 with
    | none => simp only [e1] at h
    | some z =>
      obtain ⟨ds, ρ2⟩ := z
      simp only [e1] at h
      obtain ⟨F2, s2, d2⟩ := p1.frz s1.rel e1
      have s12 := s1.trans s2
      refine ⟨F2, ds ++ ds0, s2.rel.sub, d2.append (hd0 F2), ?_⟩
      cases e2 : run (ds ++ ds0) with
      | no => simp only [e2] at h
      | ex c n d =>
        simp only [e2] at h
        exact fun F' H' cls dx c e => hE' _ _ _ (h F' H' cls dx (s12.trans (c.stp s2.rel)) e)
      | ok fr d b =>
        simp only [e2] at h
        exact fun x F' H' c r => h x F' H' (s12.trans (c.stp s2.rel)) ((r.vrel s2.rel).back s12)
/-- what a body's wish says of slots is not looked at -/
def Flat (W : WX) : Prop := ∀ cls d σ σ' H, W cls d σ H → W cls d σ' H
theorem se_call {x : Str} {f : Addr} {fd : FuncData} {ps : List Str} {k : Nat} {run : FF} {e : Expr} {es : List Expr} {fa : FA} {p pos : Pos} (G : FnOk X.prog X.w X.K X.mg X.base (L2.CX X.prog X.w) k f fd ps (spP (.of X) run)) (hr : Room k X.A) (hm : X.mg x = some (.ref f))
    (hk : PySem.W.keepIn X.K (.ref f) = true) (hb : Binds X.K fd ps []) (tk : Takes X W) (fl : Flat W) (ha : SA X W (e :: es) fa) (hg : Gl X x := by rfl) (hdb : (x == ("__debug__" : Str)) = false := by decide)
    (he : starEach (e :: es) X.env = (false, eval e X.env) :: starEach es X.env := by rfl) (hpl : (backTo pos (starEach es X.env)).any (·.1) = false := by rfl) :
    SE X W (.Call (.Name x p) (e :: es) [] pos) (evCall run [] fa) :=
  ⟨fun pins s σ H Q I q => (pe_call (E := fun cls d H => W cls d σ H) G hr hg hm hk hb (dvs := []) .nil (passes_call tk fun cls d σ' H h => fl cls d σ σ' H h) ha hdb he hpl).run pins s σ H Q I (evCall_ok (ds0 := []) (fun _ => DenL.nil) (fun _ _ _ h => h) (fun _ _ _ h => h) q)⟩
end
end Tr
/-! Tr, part G: defs that may be called only where nothing is being written by repr; the law's end over such a def; calls with a lent argument. -/
namespace Tr
open PySem PySem.Spec PyProof.Rows L2
section
variable {P : Program} {w : World} {K : PySem.W.Frag} {mg : Str → Option Value} {base : Heap}
/-- room for k calls, one within the other -/
structure Room (k : Nat) (A : Around) : Prop where
  hd : A.handled = none
  dp : A.depth + k + 8 < recursionLimit
  un : A.units + 16 * k + 200 < cLine
theorem Room.mono {j k : Nat} {A : Around} (r : Room k A) (h : j ≤ k) : Room j A := ⟨r.hd, by have := r.dp; omega, by have := r.un; omega⟩
theorem Room.deeper {k : Nat} {A : Around} (r : Room (k + 1) A) (env : Env) : Room k (A.deeper env) :=
  ⟨r.hd, by have := r.dp; show A.depth + 1 + k + 8 < _; omega, by have := r.un; show A.units + 3 + 16 * k + 200 < _; omega⟩
theorem Room.depth {k : Nat} {A : Around} (r : Room k A) : A.depth < recursionLimit := by have := r.dp; omega
theorem Room.units {k : Nat} {A : Around} (r : Room k A) : A.units + 64 < cLine := by have := r.un; omega
/-- as FnOk, under no repr -/
structure FnA (P : Program) (w : World) (K : PySem.W.Frag) (mg : Str → Option Value) (base : Heap) (k : Nat) (f : Addr) (fd : FuncData) (ps : List Str) (sp : Sp) : Prop where
  len : ∀ vs H Q E, sp vs H Q E → vs.length = ps.length
  go : ∀ (A : Around) (outer : List Env) (s : Shared) (H : Hp) (args : Args) (us : List Value) (vs : List V) (Q : VK) (E : XK), A.guards = some [] → Room k A → Env0 P w K mg base A outer s H →
    BindsTo s fd args (ps.zip us) → Vals vs us → sp vs H Q E → codeAny (model P w) A (.call (.ref f) args) (CR (L2.CX P w) outer P w H s Q E) s
theorem FnA.mono {j k : Nat} {f : Addr} {fd : FuncData} {ps : List Str} {sp : Sp} (h : FnA P w K mg base j f fd ps sp) (l : j ≤ k) : FnA P w K mg base k f fd ps sp :=
  ⟨h.len, fun A outer s H args us vs Q E g hr => h.go A outer s H args us vs Q E g (hr.mono l)⟩
theorem FnA.imp {k : Nat} {f : Addr} {fd : FuncData} {ps : List Str} {sp sp' : Sp} (h : FnA P w K mg base k f fd ps sp) (i : ∀ vs H Q E, sp' vs H Q E → sp vs H Q E) : FnA P w K mg base k f fd ps sp' :=
  ⟨fun vs H Q E q => h.len vs H Q E (i _ _ _ _ q), fun A outer s H args us vs Q E g hr he hb hv q => h.go A outer s H args us vs Q E g hr he hb hv (i _ _ _ _ q)⟩
/-- a def by its body, for such places -/
theorem fnA_body {x qual : Str} {st : Stmt} {f : Addr} {fd : FuncData} {N ps : List Str} {k : Nat} {sp : Sp} (F : Fun K x qual st f fd) (S : FnScope N ps (defScope st)) (len : ∀ vs H Q E, sp vs H Q E → vs.length = ps.length)
    (hb : ∀ (cdv : Value) (A : Around) (outer : List Env) (s : Shared) (H : Hp) (vs : List V) (Q : VK) (E : XK), A.guards = some [] → Room k (A.deeper (envOfC qual (defScope st) s.heap.objs.size f cdv)) → sp vs H Q E →
      ∃ t, PSs (cxD P w K mg base N qual st f cdv A outer s H E) (defBody st) t ∧ t { nx := fun _ H' => Q .non H', rt := Q } (L2.start N vs) H) : FnA P w K mg base (k + 1) f fd ps sp := by
  obtain ⟨oc, od, kV, doc, pm, an, cdv, ct, osl, rfl, lk, hcd⟩ := F.ex
  refine ⟨len, fun A outer s H args us vs Q E hgu hr e0 hbi r hsp => ?_⟩
  have hlen := len vs H Q E hsp
  have inS : K.In s.heap := e0.mod.kin.keeps (fun b o e => And.left (e0.bs b o e))
  have nolim := e0.mod.nolimit.keeps (fun b o e => And.left (e0.bs b o e))
  have kinds : ∀ y, y ∈ ps.zip us → (defScope st).names.lookup y.1 = some .local ∨ ((defScope st).names.lookup y.1 = some .cell ∧ ((cellsFrom (s.heap.objs.size + 1) (defScope st).names []).lookup y.1).isSome = true) := by
    rintro ⟨n, v⟩ hy
    have hn : n ∈ ps := (List.of_mem_zip hy).1
    cases S.par n hn with
    | inl q => exact Or.inl q
    | inr q => exact Or.inr ⟨q, PySem.W.cellsFrom_some _ _ _ (Or.inl q)⟩
  apply codeAny_call_function hr.depth (inS _ _ lk) rfl S.co S.gen rfl (PySem.W.codeRec_of inS hcd)
  apply hbi
  apply wpAny_newFunctionEnv_cells S.kind kinds
  intro env he s1 x
  subst he
  constructor
  · exact nolim.keeps x.toInCall.keep
  · apply codeAny_func
    obtain ⟨t, ht, hq⟩ := hb cdv A outer s H vs Q E hgu (hr.deeper _) hsp
    have I0 := inv_start (CX := L2.CX P w) (E := E) S hr.hd e0 hlen r x
    refine wpAny_mono (ht.run [] s1 _ H _ I0 hq) (fun fl s' hs => ?_) (fun _ _ hs => hs)
    cases fl with
    | brk =>
      obtain ⟨_, _, _, z⟩ := hs
      exact z.elim
    | cont =>
      obtain ⟨_, _, _, z⟩ := hs
      exact z.elim
    | ret u =>
      obtain ⟨v, σ1, H1, J, rv, q⟩ := hs
      exact ⟨v, H1, J.os, J.bare, J.base, J.hok, rv, q⟩
    | next =>
      obtain ⟨σ1, H1, J, q⟩ := hs
      exact ⟨V.non, H1, J.os, J.bare, J.base, J.hok, rfl, q⟩
/-- a body, where no repr is under way -/
def BdA (P : Program) (w : World) (K : PySem.W.Frag) (mg : Str → Option Value) (base : Heap) (N : List Str) (qual : Str) (st : Stmt) (f : Addr) (k : Nat) (fb : FS) : Prop :=
  ∀ (cdv : Value) (A : Around) (outer : List Env) (s : Shared) (H : Hp) (E : XK), A.guards = some [] → Room k (A.deeper (envOfC qual (defScope st) s.heap.objs.size f cdv)) →
    SSs (cxD P w K mg base N qual st f cdv A outer s H E) (fun cls d _ H' => E cls d H') (defBody st) fb
theorem spP_run {N ps : List Str} {X : Cx} {body : List Stmt} {fb : FS} {vs : List V} {H : Hp} {Q : VK} {E : XK} (h : spP (.of X) (runP N.length ps.length fb) vs H Q E) :
    tOfS (.of X) (fun cls d _ H' => E cls d H') fb { nx := fun _ H' => Q .non H', rt := Q } (L2.start N vs) H := by
  obtain ⟨G, ds, s0, hd, h⟩ := h
  unfold runP at h
  by_cases hl : ds.length = ps.length
  · rw [if_pos hl] at h
    refine ⟨startP N.length ds, G, startP_rel s0 hd, ?_⟩
    have only : ∀ i d, MuAt (startP N.length ds) i d → ∃ d', (startP N.length ds)[i]? = some (.bo d') := fun i d ⟨sl, e, q⟩ => by
      unfold startP at e
      by_cases hi : i < ds.length
      · rw [List.getElem?_append_left (by rw [List.length_map]; exact hi), List.getElem?_map, List.getElem?_eq_getElem hi] at e
        cases e; cases q
      · rw [List.getElem?_append_right (by rw [List.length_map]; omega)] at e
        rw [List.eq_of_mem_replicate (List.mem_of_getElem? e)] at q
        cases q
    have nown : ∀ b, ¬ Owned (startP N.length ds) (L2.start N vs) b := fun b ⟨i, d, m, _⟩ => by
      obtain ⟨sl, e, q⟩ := id m
      unfold startP at e
      by_cases hi : i < ds.length
      · rw [List.getElem?_append_left (by rw [List.length_map]; exact hi), List.getElem?_map, List.getElem?_eq_getElem hi] at e
        cases e; cases q
      · rw [List.getElem?_append_right (by rw [List.length_map]; omega)] at e
        rw [List.eq_of_mem_replicate (List.mem_of_getElem? e)] at q
        cases q
    have cst : ∀ {F' H' ρ' σ'}, Stp (.of X) G H (startP N.length ds) (L2.start N vs) F' H' ρ' σ' → Cst G H F' H' none := fun {F' H' ρ' σ'} t =>
      ⟨t.same, t.rel.sub, fun b o q _ => t.keep b o q (nown b), t.dom, fun b o q _ z => t.fz b o q (nown b) z⟩
    cases er : fb (startP N.length ds) with
    | no => rw [er] at h; exact h
    | ex c n d ρ' => rw [er] at h; exact fun σ' F' H' cls dx t e => h F' H' cls dx (cst t) e
    | ok r =>
      obtain ⟨fl, ρ'⟩ := r
      rw [er] at h
      intro σ' F' H' t
      cases fl with
      | nx => exact h .non F' H' (cst t) (by unfold BRel; rw [if_neg Bool.false_ne_true]; rfl)
      | bk => exact h.elim
      | ct => exact h.elim
      | rt v =>
        intro y hv
        have h : (match retV ρ' .non v with
          | .ok fr d _ => ∀ x F' H', Cst G H F' H' none → BRel (.of X) H F' H' fr d x → Q x H'
          | .ex c n d => ∀ F' H' cls dx, Cst G H F' H' none → ERel (.of X) F' c n d cls dx → E cls dx H'
          | .no => False) := h
        cases eq : retV ρ' .non v with
        | no => rw [eq] at h; exact h.elim
        | ex c n d =>
          exfalso
          revert eq
          unfold retV
          cases v with
          | sh d => intro z; cases z
          | fr d => intro z; cases z
          | rf i => simp only; split <;> (intro z; cases z)
        | ok fr d b =>
          rw [eq] at h
          exact h y F' H' (cst t) (retV_rel t only hv eq).1
  · rw [if_neg hl] at h; exact h.elim
theorem fnPA {x qual : Str} {st : Stmt} {f : Addr} {fd : FuncData} {N ps : List Str} {k : Nat} {fb : FS} (F : Fun K x qual st f fd) (S : FnScope N ps (defScope st)) (hb : BdA P w K mg base N qual st f k fb) :
    FnA P w K mg base (k + 1) f fd ps (spP ⟨K, mg⟩ (runP N.length ps.length fb)) := by
  refine fnA_body F S (fun vs H Q E h => ?_) (fun cdv A outer s H vs Q E hg hr h => ⟨_, hb cdv A outer s H E hg hr, spP_run (X := cxD P w K mg base N qual st f cdv A outer s H E) (body := []) h⟩)
  obtain ⟨G, ds, s, hd, h⟩ := h
  unfold runP at h
  by_cases hl : ds.length = ps.length
  · rw [← hd.length, hl]
  · rw [if_neg hl] at h; exact h.elim
/-- the law's call, where nothing is written by repr -/
theorem law_callA {mb : Str → Option Value} {k : Nat} {fa a : Addr} {fd : FuncData} {x : Str} {sp : Sp} {s1 : Shared} {vs : List Value} {ns : List Int}
    (KX : K.In s1.heap) (hns : s1.heap.Ns mainGlobals mg) (hb : s1.heap.Ns builtinsNs mb) (hbb : ∀ x : Str, x ≠ "__name__" → mb x = bootBuiltins x) (hlim : s1.heap.NoLimit) (hg : s1.gens = #[])
    (ha : s1.heap.get? a = some { cls := .type "list", data := .seq vs.toArray }) (hi : IntsAre vs ns) (hl : ns.length ≤ sizeLine) (hr : Room k callerA)
    (F : ∀ base : Heap, K.In base → base.Ns mainGlobals mg → FnA P w K mg base k fa fd [x] sp) (hbind : ∀ (s : Shared) (u : Value), BindsTo s fd ⟨[u], []⟩ [(x, u)])
    (hsp : ∀ H : Hp, SqL K H a (ns.map V.int) → sp [.ref a] H (fun v _ => v = .bl true) fun _ _ _ => False) :
    codeAny (model P w) callerA (.call (.ref fa) ⟨[.ref a], []⟩) (fun r s' => r = .ok (.ret (.bool true)) ∧ OldK s1.heap s'.heap ∧ s'.os = s1.os ∧ AllBare s'.gens) s1 := by
  -- H: nothing is tracked but, at most, the script as it is
  have main : ∀ H : Hp, (∀ b, H b = none ∨ (b = a ∧ H b = some (.frz { cls := .type "list", data := .seq vs.toArray } (.lst (ns.map V.int))))) → SqL K H a (ns.map V.int) → (H a = none ∨ K.lookup a = none) →
      codeAny (model P w) callerA (.call (.ref fa) ⟨[.ref a], []⟩) (fun r s' => r = .ok (.ret (.bool true)) ∧ OldK s1.heap s'.heap ∧ s'.os = s1.os ∧ AllBare s'.gens) s1 := by
    intro H hO hS hK
    have hok : HOk P w H s1.heap := fun b u z => by
      rcases hO b with q | ⟨q1, q2⟩
      · rw [q] at z; cases z
      · rw [q2] at z; cases z; subst q1
        exact ⟨ha, by rw [List.length_map]; exact hl, vs, _, vals_ints hi, ha⟩
    have free : ∀ b o es ep, s1.heap.get? b = some o → o.data = .dict es ep → H b = none := fun b o es ep e d => by
      rcases hO b with q | ⟨q1, _⟩
      · exact q
      · subst q1; rw [ha] at e; cases e
        have d' : Data.seq vs.toArray _ = Data.dict es ep := d
        cases d'
    have nsB : ∀ b m, s1.heap.Ns b m → (hidT s1.heap H).Ns b m := by
      rintro b m ⟨o, es, ep, e, d, r⟩
      exact ⟨o, es, ep, hidT_get e (free b o es ep e d), d, r⟩
    have kB : K.In (hidT s1.heap H) := fun b o e => hidT_get (KX b o e) (by
      rcases hO b with q | ⟨q1, q2⟩
      · exact q
      · subst q1
        rcases hK with z | z
        · exact z
        · rw [z] at e; cases e)
    have md : Mod K mg (hidT s1.heap H) := by
      refine ⟨kB, nsB _ _ hns, ⟨mb, nsB _ _ hb, hbb⟩, ?_⟩
      obtain ⟨mc, h1, h2⟩ := hlim
      exact ⟨mc, nsB _ _ h1, h2⟩
    have e0 : Env0 P w K mg (hidT s1.heap H) callerA [] s1 H :=
      ⟨rfl, md, fun b o e => of_hidT e, Nat.le_of_eq (hidT_size _ _), trivial, (fun b hb => by cases hb), hok, .of_eq hg⟩
    refine codeAny_mono ((F _ kB (nsB _ _ hns)).go callerA [] s1 H ⟨[.ref a], []⟩ [.ref a] [.ref a] _ _ rfl hr e0 (hbind s1 (.ref a)) (.cons rfl .nil) (hsp H hS)) ?_
    intro r s' h
    cases r with
    | error e =>
      obtain ⟨_, _, _, _, _, _, _, _, _, _, _, _, z⟩ := h
      exact z.elim
    | ok fl =>
      cases fl with
      | ret u =>
        obtain ⟨v, H', os, bare, un, hok', r', q⟩ := h
        have ev : v = .bl true := q
        subst ev
        have eu : u = Value.bool true := r'
        subst eu
        refine ⟨rfl, OldK.of_keep fun b o e => ?_, os, bare⟩
        rcases hO b with q | ⟨_, q2⟩
        · exact un.keep b o e q (fun z => by cases z) (fun z => by cases z)
        · obtain ⟨e1, _⟩ := hok b _ q2
          obtain ⟨e2, _⟩ := hok' b _ (un.frzs b _ _ q2)
          rw [e] at e1; cases e1
          exact e2
      | next => exact h.elim
      | brk => exact h.elim
      | cont => exact h.elim
  cases hk : K.lookup a with
  | some o =>
    have e := KX a o hk
    rw [ha] at e
    cases e
    refine main (fun _ => none) (fun _ => .inl rfl) ?_ (.inl rfl)
    refine .inr ⟨_, vs.toArray, _, hk, rfl, rfl, rfl, ?_, ?_⟩
    · rw [List.size_toArray, hi.length]; exact hl
    · simpa using vals_ints hi
  | none =>
    refine main (fun b => if b = a then some (.frz { cls := .type "list", data := .seq vs.toArray } (.lst (ns.map V.int))) else none) (fun b => ?_) ?_ (.inr hk)
    · by_cases q : b = a
      · exact .inr ⟨q, if_pos q⟩
      · exact .inl (if_neg q)
    · exact .inl (.inr ⟨{ cls := .type "list", data := .seq vs.toArray }, if_pos rfl⟩)
/-- the goal that the head leaves, from the law's body -/
theorem walkA {l : PySem.W.OpenLaw} {n k : Nat} {q : Program} {loose : List Str} {XP : (Str → Option Value) → Heap → Prop} {YP : World → Heap → Prop} {d : DefRec} {K : Params → PySem.W.Frag} {sp : PySem.W.Frag → (Str → Option Value) → Sp} {x : Str}
    (hn : l.most = some n) (hn2 : n ≤ sizeLine) (hdf : d.params.defaults = []) (hr : Room k callerA)
    (hY : ∀ (w : World) (h : Heap), YP w h → (K w.params).In h)
    (F : ∀ (w : World) (mg : Str → Option Value) (fa : Addr) (h : Heap), (K w.params).In h → h.Ns mainGlobals mg → mg d.name = some (.ref fa) →
      ∃ fd : FuncData, (∀ (s : Shared) (u : Value), BindsTo s fd ⟨[u], []⟩ [(x, u)]) ∧
        ∀ base : Heap, (K w.params).In base → base.Ns mainGlobals mg → FnA l.prog w (K w.params) mg base k fa fd [x] (sp (K w.params) mg))
    (hsp : ∀ (K : PySem.W.Frag) (mg : Str → Option Value) (H : Hp) (a : Addr) (ns : List Int), ns.length ≤ n → SqL K H a (ns.map V.int) → sp K mg [.ref a] H (fun v _ => v = .bl true) fun _ _ _ => False) :
    PySem.W.WalkO q loose XP YP l.row.toRowW d [] (fun f vs => PySem.call f vs) := by
  refine Att.attach_call hn hdf ?_
  intro w s0 s1 mg mb fa o pm cd doc a vs ns G Y ho hd hcd hmg hobj hints hlen hg
  obtain ⟨fd, hb, hF⟩ := F w mg fa _ (hY w _ Y) G.T.g hmg
  exact law_callA (hY w _ Y) G.T.g G.T.b G.T.builtins G.T.nolimit hg hobj hints (Nat.le_trans hlen hn2) hr hF hb (fun H hS => hsp _ mg H a ns hlen hS)
end

/-! ### calls, further -/
section
variable {X : Cx} {W : WX}
/-- f(e, ..), f such a def -/
theorem run_fnA {CX : CXT} {k : Nat} {f : Addr} {fd : FuncData} {ps : List Str} {sp : Sp} {dvs : List V} {ds : List Value} {E : XK} {pins : List (Addr × Obj)} {σ : Sg} {H : Hp} {s : Shared} {Q : VK} {us : List Value} {vs : List V}
    (G : FnA X.prog X.w X.K X.mg X.base k f fd ps sp) (hgu : X.A.guards = some []) (hr : Room k X.A) (hb : Binds X.K fd ps ds) (hd : Vals dvs ds) (hx : Passes (L2.CX X.prog X.w) X E)
    (I : Inv X pins σ H s) (r : Vals vs us) (h : sp (vs ++ dvs) H Q E) : wpAny (model X.prog X.w) X.A (call (.ref f) us) (EP X pins σ Q) X.xe s := by
  have rr := r.append hd
  have hl : (us ++ ds).length = ps.length := rr.length.symm.trans (G.len _ _ _ _ h)
  refine wpAny_call (codeAny_mono (G.go X.A X.stack s H ⟨us, []⟩ _ _ Q E hgu hr I.env0 (hb s us I.kIn hl) rr h) ?_)
  intro r s' hq
  match r, hq with
  | .error e, hq => exact hx pins σ H s e s' I hq
  | .ok (.ret u), hq => exact I.after hq
  | .ok .next, hq => exact hq.elim
  | .ok .brk, hq => exact hq.elim
  | .ok .cont, hq => exact hq.elim
theorem pe_callA {k : Nat} {f : Addr} {fd : FuncData} {ps : List Str} {sp : Sp} {dvs : List V} {ds : List Value} {E : XK} {x : Str} {p pos : Pos} {e : Expr} {es : List Expr} {t : TA}
    (G : FnA X.prog X.w X.K X.mg X.base k f fd ps sp) (hgu : X.A.guards = some []) (hr : Room k X.A) (hg : Gl X x) (hm : X.mg x = some (.ref f)) (hk : PySem.W.keepIn X.K (.ref f) = true) (hb : Binds X.K fd ps ds) (hd : Vals dvs ds) (hx : Passes (L2.CX X.prog X.w) X E)
    (ha : PA X (e :: es) t) (hdb : (x == ("__debug__" : Str)) = false) (he : starEach (e :: es) X.env = (false, eval e X.env) :: starEach es X.env) (hpl : (backTo pos (starEach es X.env)).any (·.1) = false) :
    PE X (.Call (.Name x p) (e :: es) [] pos) (tCall sp dvs E t) :=
  ⟨fun pins s σ H Q I h => wpAny_Call_Name_kw (ld_glob I hg hm (PySem.W.callWith_K (h₀ := X.base) I.ok.mod.kin hk (thn (ha.run pos pins s σ H _ I h) fun us s1 hh => by
    obtain ⟨vs, H1, I1, r, q⟩ := hh
    exact ⟨I1.kIn, run_fnA (CX := L2.CX X.prog X.w) G hgu hr hb hd hx I1 r q⟩) he hpl) hdb)⟩
theorem pe_callA0 {k : Nat} {f : Addr} {fd : FuncData} {ps : List Str} {sp : Sp} {dvs : List V} {ds : List Value} {E : XK} {x : Str} {p pos : Pos}
    (G : FnA X.prog X.w X.K X.mg X.base k f fd ps sp) (hgu : X.A.guards = some []) (hr : Room k X.A) (hg : Gl X x) (hm : X.mg x = some (.ref f)) (hk : PySem.W.keepIn X.K (.ref f) = true) (hb : Binds X.K fd ps ds) (hd : Vals dvs ds) (hx : Passes (L2.CX X.prog X.w) X E)
    (hdb : (x == ("__debug__" : Str)) = false) : PE X (.Call (.Name x p) [] [] pos) (tCall sp dvs E tNil) :=
  ⟨fun pins s σ H Q I h => wpAny_Call_Name_kw (ld_glob I hg hm (PySem.W.callWith_K0 I.kIn hk (run_fnA (CX := L2.CX X.prog X.w) (us := []) (vs := []) G hgu hr hb hd hx I .nil h)) hdb)⟩
theorem se_callA {x : Str} {f : Addr} {fd : FuncData} {ps : List Str} {k : Nat} {run : FF} {e : Expr} {es : List Expr} {fa : FA} {p pos : Pos} {ds0 : List D} {dvs : List V} {ds : List Value} (G : FnA X.prog X.w X.K X.mg X.base k f fd ps (spP (.of X) run)) (hgu : X.A.guards = some []) (hr : Room k X.A) (hm : X.mg x = some (.ref f))
    (hk : PySem.W.keepIn X.K (.ref f) = true) (hb : Binds X.K fd ps ds) (hd : Vals dvs ds) (hd0 : ∀ F, DenL (.of X) F ds0 dvs) (tk : Takes X W) (fl : Flat W) (ha : SA X W (e :: es) fa) (hg : Gl X x := by rfl) (hdb : (x == ("__debug__" : Str)) = false := by decide)
    (he : starEach (e :: es) X.env = (false, eval e X.env) :: starEach es X.env := by rfl) (hpl : (backTo pos (starEach es X.env)).any (·.1) = false := by rfl) :
    SE X W (.Call (.Name x p) (e :: es) [] pos) (evCall run ds0 fa) :=
  ⟨fun pins s σ H Q I q => (pe_callA (E := fun cls d H => W cls d σ H) G hgu hr hg hm hk hb hd (passes_call tk fun cls d σ' H h => fl cls d σ σ' H h) ha hdb he hpl).run pins s σ H Q I (evCall_ok hd0 (fun _ _ _ h => h) (fun _ _ _ h => h) q)⟩
theorem se_callA0 {x : Str} {f : Addr} {fd : FuncData} {ps : List Str} {k : Nat} {run : FF} {p pos : Pos} {ds0 : List D} {dvs : List V} {ds : List Value} (G : FnA X.prog X.w X.K X.mg X.base k f fd ps (spP (.of X) run)) (hgu : X.A.guards = some []) (hr : Room k X.A) (hm : X.mg x = some (.ref f))
    (hk : PySem.W.keepIn X.K (.ref f) = true) (hb : Binds X.K fd ps ds) (hd : Vals dvs ds) (hd0 : ∀ F, DenL (.of X) F ds0 dvs) (tk : Takes X W) (fl : Flat W) (hg : Gl X x := by rfl) (hdb : (x == ("__debug__" : Str)) = false := by decide) :
    SE X W (.Call (.Name x p) [] [] pos) (evCall run ds0 faNil) :=
  ⟨fun pins s σ H Q I q => (pe_callA0 (E := fun cls d H => W cls d σ H) G hgu hr hg hm hk hb hd (passes_call tk fun cls d σ' H h => fl cls d σ σ' H h) hdb).run pins s σ H Q I (by
    have z := evCall_ok (E := fun cls d H => W cls d σ H) hd0 (fun _ _ _ h => h) (fun _ _ _ h => h) q
    obtain ⟨ρ, F, rl, z⟩ := z
    exact z [] F H (Stp.refl rl) rfl)⟩
/-! ### the first argument lent -/
def muD (ρ : En) (i : Nat) : Option D := (ρ[i]?).bind Slot.mu
theorem muD_at {ρ : En} {i : Nat} {d : D} (h : muD ρ i = some d) : MuAt ρ i d := by
  unfold muD at h
  cases e : ρ[i]? with
  | none => rw [e] at h; cases h
  | some s => rw [e] at h; exact ⟨s, e, h⟩
theorem Cst.stpB {T : Tx} {F H F' H' : Hp} {ρ : En} {σ : Sg} {i : Nat} {d b : D} {a : Addr} (c : Cst F H F' H' (some a)) (r : Rel T F H ρ σ) (hm : MuAt ρ i d) (ha : σ[i]? = some (some (.ref a))) (fa : F' a = none) (ho : OwnAt T F' H' b a) : Stp T F H ρ σ F' H' (setMu ρ i b) σ := by
  obtain ⟨s, hs, hd⟩ := id hm
  have e : setMu ρ i b = ρ.set i (s.put b) := by unfold setMu; rw [hs]
  have hp : (s.put b).mu = some b := by cases s <;> first | rfl | cases hd
  have own : Owned ρ σ a := ⟨i, d, hm, ha⟩
  obtain ⟨a', ha', _, oa⟩ := r.ow i d hm
  rw [ha] at ha'
  cases ha'
  obtain ⟨ob, hob, nob⟩ := oa.some
  have mm : ∀ j e, MuAt (ρ.set i (s.put b)) j e → ∃ e', MuAt ρ j e' := fun j e m => by
    rcases mu_set m with ⟨w, _, _⟩ | ⟨_, m⟩
    · exact ⟨d, by rw [← w]; exact hm⟩
    · exact ⟨e, m⟩
  rw [e]
  refine ⟨⟨by rw [List.length_set]; exact r.len, c.fh, fun j e q => ?_, fun j e q => ?_, fun j k e e' f q q' t t' => ?_⟩, c.ff, fun f u q n => c.keep f u q fun z => n (by cases z; exact own), fun f ⟨j, e, q, t⟩ => .inl ?_, c.dom, fun j e q => ?_, fun f u q n z => c.fz f u q (fun y => n (by cases y; exact own)) z, fun j e q => ?_⟩
  · by_cases w : i = j
    · subst w
      obtain ⟨z, _⟩ := set_get_self q
      rw [z] at hp
      cases hp
    · rw [get_set_ne w] at q
      obtain ⟨x, h1, h2⟩ := r.sh j e q
      exact ⟨x, h1, h2.mono c.ff⟩
  · rcases mu_set q with ⟨w, z, hi⟩ | ⟨w, q⟩
    · subst w
      rw [hp] at z
      cases z
      exact ⟨a, ha, fa, ho⟩
    · obtain ⟨f, s1, s2, s3⟩ := r.ow j e q
      have hne : f ≠ a := fun z => w (r.dis i j d e a hm q ha (by rw [s1, z]))
      have hne' : some a ≠ some f := fun z => hne (Option.some.inj z).symm
      obtain ⟨o, h4, h5⟩ := s3.some
      refine ⟨f, s1, (c.fz f o h4 hne' h5).trans s2, s3.mono c.ff ((c.keep f o h4 hne').trans h4.symm) fun g z => c.keep g _ z fun y => ?_⟩
      cases y
      rw [hob] at z
      exact nob f (Option.some.inj z)
  · obtain ⟨g, q⟩ := mm j e q
    obtain ⟨g', q'⟩ := mm k e' q'
    exact r.dis j k g g' f q q' t t'
  · obtain ⟨g, q⟩ := mm j e q
    exact ⟨j, g, q, t⟩
  · refine ⟨?_, rfl⟩
    by_cases w : i = j
    · subst w
      rw [hs] at q
      cases q
      exact ⟨b, get_set_self hs⟩
    · exact ⟨e, by rw [get_set_ne w]; exact q⟩
  · by_cases w : i = j
    · subst w
      obtain ⟨z, _⟩ := set_get_self q
      cases s with
      | bo d0 => exact ⟨d0, hs⟩
      | _ => cases z
    · rw [get_set_ne w] at q
      exact ⟨e, q⟩
def callB (run : FF) (r : List Val × En) : R (Val × En) := match r.1 with
  | .rf i :: vs => (match frzL r.2 vs with
    | some (ds, ρ) => (match muD ρ i with
      | some d => (match run (d :: ds) with
        | .ok fr e b => .ok (backV fr e, setMu ρ i b)
        | _ => .no)
      | none => .no)
    | none => .no)
  | _ => .no
def evCallB (run : FF) (f : FA) : FE := fun ρ => (f ρ).bind (callB run)
theorem evCallB_ok {run : FF} {f : FA} {E : XK} {σ : Sg} {H : Hp} {Q : VK} (h : tOf (.of X) W (evCallB run f) σ H Q) : tCall (spB (.of X) run) [] E (tOfA (.of X) W f) σ H Q := by
  obtain ⟨ρ, F, rl, h⟩ := h
  unfold evCallB at h
  refine ⟨ρ, F, rl, ?_⟩
  cases ea : f ρ with
  | no => rw [ea] at h; exact h
  | ex c n d ρ' => rw [ea] at h; exact h
  | ok ra =>
    rw [ea] at h
    obtain ⟨us, ρ1⟩ := ra
    intro xs F1 H1 s1 p1
    have h : (match callB run (us, ρ1) with
      | .ok r => ∀ x F' H', Stp (.of X) F H ρ σ F' H' r.2 σ → VRel (.of X) H F' H' r.2 σ r.1 x → Q x H'
      | .ex c n d ρ' => ∀ F' H' cls dx, Stp (.of X) F H ρ σ F' H' ρ' σ → ERel (.of X) F' c n d cls dx → W cls dx σ H'
      | .no => False) := h
    unfold callB at h
    cases us with
    | nil => exact h.elim
    | cons u us =>
      cases u with
      | sh d => exact h.elim
      | fr d => exact h.elim
      | rf i =>
        obtain ⟨x, xr, ex, px, pr⟩ := p1
        simp only at h
        cases e1 : frzL ρ1 us with
        | none => simp only [e1] at h
        | some z =>
          obtain ⟨ds, ρ2⟩ := z
          simp only [e1] at h
          obtain ⟨F2, s2, d2⟩ := pr.frz s1.rel e1
          have s12 := s1.trans s2
          cases e2 : muD ρ2 i with
          | none => simp only [e2] at h
          | some d =>
            simp only [e2] at h
            obtain ⟨a, ha, fa, oa⟩ := s2.rel.ow i d (muD_at e2)
            have hx : σ[i]? = some (some x) := px
            rw [ha] at hx
            cases hx
            refine ⟨F2, a, xr, d, ds, by rw [ex, List.append_nil], s2.rel.sub, fa, oa, d2, ?_⟩
            cases e3 : run (d :: ds) with
            | no => simp only [e3] at h
            | ex c n d => simp only [e3] at h
            | ok fr e b =>
              simp only [e3] at h
              intro y F' H' c fa' oa' br
              have s3 := c.stpB s2.rel (muD_at e2) ha fa' oa'
              refine h y F' H' (s12.trans s3) (VRel.back s12 ?_)
              unfold BRel at br
              unfold backV
              cases fr with
              | false => rw [if_neg Bool.false_ne_true] at br ⊢; exact br
              | true =>
                rw [if_pos rfl] at br ⊢
                obtain ⟨p, h1, h2, h3, h4⟩ := br
                refine ⟨p, h1, h3, h2, fun z => ?_, h4⟩
                rcases s3.own p z with ⟨j, g, m, t⟩ | _
                · obtain ⟨p', t', _, o'⟩ := s2.rel.ow j g m
                  rw [t] at t'
                  cases t'
                  obtain ⟨o, o1, _⟩ := o'.some
                  rw [h2] at o1; cases o1
                · obtain ⟨j, g, ⟨sl, q1, q2⟩, t⟩ := z
                  obtain ⟨p', t', _, o'⟩ := s3.rel.ow j g ⟨sl, q1, q2⟩
                  have mm : ∃ g', MuAt ρ2 j g' := by
                    obtain ⟨s0, hs0, _⟩ := muD_at e2
                    have es : setMu ρ2 i b = ρ2.set i (s0.put b) := by unfold setMu; rw [hs0]
                    rw [es] at q1
                    rcases mu_set ⟨sl, q1, q2⟩ with ⟨w, _, _⟩ | ⟨_, m⟩
                    · exact ⟨d, by rw [← w]; exact muD_at e2⟩
                    · exact ⟨g, m⟩
                  obtain ⟨g', m⟩ := mm
                  obtain ⟨p2, t2, _, o2⟩ := s2.rel.ow j g' m
                  rw [t] at t2
                  cases t2
                  obtain ⟨o, o1, _⟩ := o2.some
                  rw [h2] at o1; cases o1
end
end Tr
/-! Tr, part H: built-in operations on trees. -/
namespace Tr
open PySem PySem.Spec PyProof.Rows L2

section
variable {T : Tx} {F H : Hp} {x : V}
theorem Pk.bl {b : Bool} (h : Pk T F H (.bl b) x) : x = .bl b := by
  rcases h with h | ⟨_, _, h⟩
  · exact h
  · exact h.elim
theorem Pk.str {b : Str} (h : Pk T F H (.str b) x) : x = .str b := by
  rcases h with h | ⟨_, _, h⟩
  · exact h
  · exact h.elim
theorem Pk.non (h : Pk T F H .non x) : x = .non := by
  rcases h with h | ⟨_, _, h⟩
  · exact h
  · exact h.elim
theorem Pk.lst {ds : List D} (s : Same F H) (h : Pk T F H (.lst ds) x) : ∃ a xs, x = .ref a ∧ H a = some (.lst xs) ∧ DenL T F ds xs := by
  rcases h with ⟨a, xs, h1, h2, h3⟩ | ⟨a, h1, xs, h2, h3⟩
  · exact ⟨a, xs, h1, s _ _ h2, h3⟩
  · exact ⟨a, xs, h1, h2, h3⟩
theorem Pk.tup {ds : List D} (s : Same F H) (h : Pk T F H (.tup ds) x) : ∃ a xs, x = .ref a ∧ SqT T.K H a xs ∧ DenL T F ds xs ∧ SqT T.K F a xs := by
  rcases h with ⟨a, xs, h1, h2, h3⟩ | ⟨a, h1, h2⟩
  · exact ⟨a, xs, h1, Same.sqT s h2, h3, h2⟩
  · exact h2.elim
theorem Pk.scr {ns : List Int} (s : Same F H) (h : Pk T F H (.scr ns) x) : ∃ a, x = .ref a ∧ SqL T.K H a (ns.map V.int) := by
  rcases h with ⟨a, h1, h2⟩ | ⟨a, h1, h2⟩
  · exact ⟨a, h1, Same.sqL s h2⟩
  · exact h2.elim
end

section
variable {X : Cx} {W : WX}
abbrev vI (i : Int) : Val := .sh (.int i)
abbrev vB (b : Bool) : Val := .sh (.bl b)
/-- a plain value comes back -/
theorem plainQ {F H : Hp} {d : D} {w : V} {Q : VK} (s : Same F H) (k : ∀ w F' H', New (.of X) F H F' H' → NRel (.of X) H F' H' (.sh d) w → Q w H') (h : Den (.of X) F d w) : Q w H := k w F H (New.refl s) h

/-! ### + - * // % ** -/
def addD : D → D → Option Val
  | .int i, .int j => some (vI (i + j))
  | .str a, .str b => if a.length + b.length ≤ 16777216 then some (.sh (.str (a ++ b))) else none
  | .lst xs, .lst ys => if xs.length + ys.length ≤ 16777216 then some (.fr (.lst (xs ++ ys))) else none
  | .tup xs, .tup ys => if xs.length + ys.length ≤ 16777216 then some (.sh (.tup (xs ++ ys))) else none
  | _, _ => none
theorem os_add : OpS X (binaryOp .Add) addD := by
  refine ⟨_, OpR.or (OpR.or op_add op_add_str) (OpR.or op_cat op_catA), fun F H x y d e z Q s px py hg k => ?_⟩
  unfold addD at hg
  split at hg
  · cases hg
    exact .inl (.inl ⟨_, _, px.int, py.int, plainQ s k rfl⟩)
  · split at hg
    · rename_i hl
      cases hg
      exact .inl (.inr ⟨_, _, px.str, py.str, size_le hl, plainQ s k rfl⟩)
    · cases hg
  · split at hg
    · rename_i hl
      cases hg
      obtain ⟨a, xs, e1, h1, d1⟩ := px.lst s
      obtain ⟨b, ys, e2, h2, d2⟩ := py.lst s
      refine .inr (.inl ⟨a, b, xs, ys, e1, e2, h1, h2, size_le (by rw [← d1.length, ← d2.length]; exact hl), fun p hp => ?_⟩)
      exact k _ F _ (New.fr s hp) ⟨p, rfl, s.free hp, hp, _, upd_same, d1.append d2⟩
    · cases hg
  · split at hg
    · rename_i hl
      cases hg
      obtain ⟨a, xs, e1, h1, d1, f1⟩ := px.tup s
      obtain ⟨b, ys, e2, h2, d2, f2⟩ := py.tup s
      refine .inr (.inr ⟨a, b, xs, ys, e1, e2, h1, h2, size_le (by rw [← d1.length, ← d2.length]; exact hl), fun z => ?_, fun _ z => ?_, fun _ _ p hp => ?_⟩)
      · refine plainQ s k ⟨b, ys, rfl, f2, ?_⟩
        have l1 := d1.length
        rw [z] at l1
        rw [List.eq_nil_of_length_eq_zero l1]
        exact d2
      · refine plainQ s k ⟨a, xs, rfl, f1, ?_⟩
        have l2 := d2.length
        rw [z] at l2
        rw [List.eq_nil_of_length_eq_zero l2, List.append_nil]
        exact d1
      · exact k _ _ _ (New.sh s hp) ⟨p, _, rfl, SqT.of upd_same, (d1.append d2).mono (same_upd (s.free hp))⟩
    · cases hg
  · cases hg
def iaddD : D → D → Option Val
  | .int i, .int j => some (vI (i + j))
  | .str a, .str b => if a.length + b.length ≤ 16777216 then some (.sh (.str (a ++ b))) else none
  | _, _ => none
theorem os_iadd : OpS X (inplaceOp .Add) iaddD := by
  refine ⟨_, OpR.or iop_add iop_add_str, fun F H x y d e z Q s px py hg k => ?_⟩
  unfold iaddD at hg
  split at hg
  · cases hg
    exact .inl ⟨_, _, px.int, py.int, plainQ s k rfl⟩
  · split at hg
    · rename_i hl
      cases hg
      exact .inr ⟨_, _, px.str, py.str, size_le hl, plainQ s k rfl⟩
    · cases hg
  · cases hg
def subD : D → D → Option Val
  | .int i, .int j => some (vI (i - j))
  | _, _ => none
theorem os_sub : OpS X (binaryOp .Sub) subD := by
  refine ⟨_, op_sub, fun F H x y d e z Q s px py hg k => ?_⟩
  unfold subD at hg
  split at hg
  · cases hg
    exact ⟨_, _, px.int, py.int, plainQ s k rfl⟩
  · cases hg
theorem os_isub : OpS X (inplaceOp .Sub) subD := by
  refine ⟨_, iop_sub, fun F H x y d e z Q s px py hg k => ?_⟩
  unfold subD at hg
  split at hg
  · cases hg
    exact ⟨_, _, px.int, py.int, plainQ s k rfl⟩
  · cases hg
/-- the factors have together less than a million bits -/
def mulOk (i j : Int) : Prop := i.natAbs.log2 + j.natAbs.log2 < 1000000
instance (i j : Int) : Decidable (mulOk i j) := inferInstanceAs (Decidable (_ < _))
def mulD : D → D → Option Val
  | .int i, .int j => if mulOk i j then some (vI (i * j)) else none
  | .lst xs, .int k => if -(2 ^ 63) ≤ k ∧ k < 2 ^ 63 ∧ xs.length * k.toNat ≤ 16777216 then some (.fr (.lst (List.replicate k.toNat xs).flatten)) else none
  | .tup xs, .int k => if xs ≠ [] ∧ 2 ≤ k ∧ k ≤ 1000 ∧ xs.length ≤ 1000 then some (.sh (.tup (List.replicate k.toNat xs).flatten)) else none
  | _, _ => none
theorem DenL.rep {T : Tx} {F : Hp} {ds : List D} {xs : List V} (h : DenL T F ds xs) : ∀ n : Nat, DenL T F (List.replicate n ds).flatten (List.replicate n xs).flatten
  | 0 => rfl
  | n + 1 => by
    rw [List.replicate_succ, List.replicate_succ, List.flatten_cons, List.flatten_cons]
    exact h.append (h.rep n)
theorem os_mul : OpS X (binaryOp .Mult) mulD := by
  refine ⟨_, OpR.or op_mulW (OpR.or op_rep op_repT), fun F H x y d e z Q s px py hg k => ?_⟩
  unfold mulD at hg
  split at hg
  · split at hg
    · rename_i hl
      cases hg
      exact .inl ⟨_, _, px.int, py.int, hl, plainQ s k rfl⟩
    · cases hg
  · split at hg
    · rename_i hl
      cases hg
      obtain ⟨a, xs, e1, h1, d1⟩ := px.lst s
      refine .inr (.inl ⟨a, _, xs, e1, py.int, h1, hl.1, hl.2.1, size_le (by rw [← d1.length]; exact hl.2.2), fun p hp => ?_⟩)
      exact k _ F _ (New.fr s hp) ⟨p, rfl, s.free hp, hp, _, upd_same, d1.rep _⟩
    · cases hg
  · split at hg
    · rename_i hl
      cases hg
      obtain ⟨a, xs, e1, h1, d1, f1⟩ := px.tup s
      have hne : xs ≠ [] := fun z => hl.1 (List.eq_nil_of_length_eq_zero (by rw [d1.length, z]; rfl))
      refine .inr (.inr ⟨a, _, xs, e1, py.int, h1, hne, hl.2.1, hl.2.2.1, by rw [← d1.length]; exact hl.2.2.2, fun p hp => ?_⟩)
      exact k _ _ _ (New.sh s hp) ⟨p, _, rfl, SqT.of upd_same, (d1.rep _).mono (same_upd (s.free hp))⟩
    · cases hg
  · cases hg
/-- // by a divisor of less than 9000 bits -/
def divOk (j : Int) : Prop := j ≠ 0 ∧ j.natAbs.log2 < 9000
instance (j : Int) : Decidable (divOk j) := inferInstanceAs (Decidable (_ ∧ _))
def divD : D → D → Option Val
  | .int i, .int j => if divOk j then some (vI (i.fdiv j)) else none
  | _, _ => none
theorem op_fdivA : OpR X (binaryOp .FloorDiv) (rI (fun _ j => divOk j) fun i j => .int (i.fdiv j)) := opI fun i j _ _ _ _ _ hc q => floordiv_int hc.1 q (.inl (PyProof.noPylong_of_log2 hc.2))
theorem os_div : OpS X (binaryOp .FloorDiv) divD := by
  refine ⟨_, op_fdivA, fun F H x y d e z Q s px py hg k => ?_⟩
  unfold divD at hg
  split at hg
  · split at hg
    · rename_i hl
      cases hg
      exact ⟨_, _, px.int, py.int, hl, plainQ s k rfl⟩
    · cases hg
  · cases hg
def modD : D → D → Option Val
  | .int i, .int j => if j ≠ 0 then some (vI (i.fmod j)) else none
  | _, _ => none
theorem os_mod : OpS X (binaryOp .Mod) modD := by
  refine ⟨_, op_modN, fun F H x y d e z Q s px py hg k => ?_⟩
  unfold modD at hg
  split at hg
  · split at hg
    · rename_i hl
      cases hg
      exact ⟨_, _, px.int, py.int, hl, plainQ s k rfl⟩
    · cases hg
  · cases hg
def powOk (i j : Int) : Prop := 0 ≤ j ∧ (Builtin.Int.intBits i : Int) * j ≤ 2 ^ 27
instance (i j : Int) : Decidable (powOk i j) := inferInstanceAs (Decidable (_ ∧ _))
def powD : D → D → Option Val
  | .int i, .int j => if powOk i j then some (vI (i ^ j.toNat)) else none
  | _, _ => none
theorem op_powW : OpR X (binaryOp .Pow) (rI powOk fun i j => .int (i ^ j.toNat)) := opI fun _ _ _ _ _ _ _ hc q => pow_int hc.1 hc.2 q
theorem os_pow : OpS X (binaryOp .Pow) powD := by
  refine ⟨_, op_powW, fun F H x y d e z Q s px py hg k => ?_⟩
  unfold powD at hg
  split at hg
  · split at hg
    · rename_i hl
      cases hg
      exact ⟨_, _, px.int, py.int, hl, plainQ s k rfl⟩
    · cases hg
  · cases hg
def negD : D → Option Val
  | .int i => some (vI (-i))
  | _ => none
theorem us_neg : UnS X (rU fun i => .int (-i)) negD := fun F H x d z Q s px hg k => by
  unfold negD at hg
  split at hg
  · cases hg
    exact ⟨_, px.int, plainQ s k rfl⟩
  · cases hg

/-! ### comparisons -/
def ltD : D → D → Option Val
  | .int i, .int j => some (vB (decide (i < j)))
  | _, _ => none
theorem os_lt : OpS X (compareOp .Lt) ltD := by
  refine ⟨_, op_lt, fun F H x y d e z Q s px py hg k => ?_⟩
  unfold ltD at hg
  split at hg
  · cases hg
    exact ⟨_, _, px.int, py.int, plainQ s k rfl⟩
  · cases hg
def leD : D → D → Option Val
  | .int i, .int j => some (vB (decide (i ≤ j)))
  | _, _ => none
theorem os_le : OpS X (compareOp .LtE) leD := by
  refine ⟨_, op_le, fun F H x y d e z Q s px py hg k => ?_⟩
  unfold leD at hg
  split at hg
  · cases hg
    exact ⟨_, _, px.int, py.int, plainQ s k rfl⟩
  · cases hg
def gtD : D → D → Option Val
  | .int i, .int j => some (vB (decide (j < i)))
  | _, _ => none
theorem os_gt : OpS X (compareOp .Gt) gtD := by
  refine ⟨_, op_gt, fun F H x y d e z Q s px py hg k => ?_⟩
  unfold gtD at hg
  split at hg
  · cases hg
    exact ⟨_, _, px.int, py.int, plainQ s k rfl⟩
  · cases hg
def geD : D → D → Option Val
  | .int i, .int j => some (vB (decide (j ≤ i)))
  | _, _ => none
theorem os_ge : OpS X (compareOp .GtE) geD := by
  refine ⟨_, op_ge, fun F H x y d e z Q s px py hg k => ?_⟩
  unfold geD at hg
  split at hg
  · cases hg
    exact ⟨_, _, px.int, py.int, plainQ s k rfl⟩
  · cases hg
/-- x is None -/
def isND : D → D → Option Val
  | .non, .non => some (vB true)
  | .bl _, .non => some (vB false)
  | .int _, .non => some (vB false)
  | .str _, .non => some (vB false)
  | .lst _, .non => some (vB false)
  | .tup _, .non => some (vB false)
  | .exn _ _ _, .non => some (vB false)
  | .ins _ _ _, .non => some (vB false)
  | .dK _ _, .non => some (vB false)
  | .dT _ _, .non => some (vB false)
  | _, _ => none
theorem isND_ok {F H : Hp} {x y : V} {d e : D} {z : Val} (s : Same F H) (px : Pk (.of X) F H d x) (py : Pk (.of X) F H e y) (hg : isND d e = some z) : y = .non ∧ z = vB (decide (x = .non)) := by
  unfold isND at hg
  split at hg <;> first
    | (cases hg; refine ⟨py.non, ?_⟩; rw [px.non]; rfl)
    | (cases hg; refine ⟨py.non, ?_⟩; rw [px.bl]; rfl)
    | (cases hg; refine ⟨py.non, ?_⟩; rw [px.int]; rfl)
    | (cases hg; refine ⟨py.non, ?_⟩; rw [px.str]; rfl)
    | (cases hg
       refine ⟨py.non, ?_⟩
       rcases px with px | ⟨a, e1, _⟩
       · first
           | (obtain ⟨a, _, e1, _⟩ := px; rw [e1]; rfl)
           | (obtain ⟨a, _, _, _, e1, _⟩ := px; rw [e1]; rfl)
       · rw [e1]; rfl)
    | cases hg
theorem os_isN : OpS X (compareOp .Is) isND := by
  refine ⟨_, op_isN, fun F H x y d e z Q s px py hg k => ?_⟩
  obtain ⟨h1, h2⟩ := isND_ok s px py hg
  subst h2
  exact ⟨h1, plainQ s k rfl⟩
def isNotND (d e : D) : Option Val := match isND d e with
  | some (.sh (.bl b)) => some (vB (!b))
  | _ => none
theorem os_notN : OpS X (compareOp .IsNot) isNotND := by
  refine ⟨_, op_notN, fun F H x y d e z Q s px py hg k => ?_⟩
  unfold isNotND at hg
  split at hg
  · rename_i b q
    obtain ⟨h1, h2⟩ := isND_ok s px py q
    cases h2
    cases hg
    exact ⟨h1, plainQ s k rfl⟩
  · cases hg

/-! ### == -/
mutual
def toPy : D → Option PyData
  | .non => some .none
  | .bl b => some (.bool b)
  | .int i => some (.int i)
  | .str x => some (.str x)
  | .lst ds => (toPys ds).map .list
  | .tup ds => (toPys ds).map .tuple
  | _ => none
def toPys : List D → Option (List PyData)
  | [] => some []
  | d :: ds => match toPy d, toPys ds with
    | some p, some ps => some (p :: ps)
    | _, _ => none
end
mutual
theorem toPy_dp {T : Tx} {F H : Hp} (s : Same F H) : ∀ (d : D) {p : PyData} {x : V}, toPy d = some p → Den T F d x → Dp T.K H x p
  | .non, _, _, e, h => by cases e; cases h; exact .non
  | .bl b, _, _, e, h => by cases e; cases h; exact .bl b
  | .int i, _, _, e, h => by cases e; cases h; exact .int i
  | .str i, _, _, e, h => by cases e; cases h; exact .str i
  | .lst ds, _, _, e, ⟨a, xs, h1, h2, h3⟩ => by
    simp only [toPy, Option.map_eq_some_iff] at e
    obtain ⟨ps, e1, e2⟩ := e
    subst e2 h1
    exact .lst (SqL.of (s _ _ h2)) (toPys_dp s ds e1 h3)
  | .tup ds, _, _, e, ⟨a, xs, h1, h2, h3⟩ => by
    simp only [toPy, Option.map_eq_some_iff] at e
    obtain ⟨ps, e1, e2⟩ := e
    subst e2 h1
    exact .tup (Same.sqT s h2) (toPys_dp s ds e1 h3)
  | .dK _ _, _, _, e, _ => by cases e
  | .dT _ _, _, _, e, _ => by cases e
  | .ins _ _ _, _, _, e, _ => by cases e
  | .exn _ _ _, _, _, e, _ => by cases e
  | .ty _, _, _, e, _ => by cases e
  | .glo _, _, _, e, _ => by cases e
  | .scr _, _, _, e, _ => by cases e
theorem toPys_dp {T : Tx} {F H : Hp} (s : Same F H) : ∀ (ds : List D) {ps : List PyData} {xs : List V}, toPys ds = some ps → DenL T F ds xs → DpAll T.K H xs ps
  | [], _, _, e, h => by cases e; have h : _ = [] := h; subst h; exact .nil
  | d :: ds, _, _, e, ⟨x, r, h1, h2, h3⟩ => by
    simp only [toPys] at e
    cases e1 : toPy d with
    | none => simp only [e1] at e; cases e
    | some p =>
      cases e2 : toPys ds with
      | none => simp only [e1, e2] at e; cases e
      | some ps =>
        simp only [e1, e2] at e
        cases e
        subst h1
        exact .cons (toPy_dp s d e1 h2) (toPys_dp s ds e2 h3)
end
theorem Pk.dp {T : Tx} {F H : Hp} {d : D} {p : PyData} {x : V} (s : Same F H) (h : Pk T F H d x) (e : toPy d = some p) : Dp T.K H x p := by
  rcases h with h | ⟨a, rfl, h⟩
  · exact toPy_dp s d e h
  · cases d with
    | lst ds =>
      obtain ⟨xs, h1, h2⟩ := h
      simp only [toPy, Option.map_eq_some_iff] at e
      obtain ⟨ps, e1, e2⟩ := e
      subst e2
      exact .lst (SqL.of h1) (toPys_dp s ds e1 h2)
    | dK _ _ => cases e
    | dT _ _ => cases e
    | ins _ _ _ => cases e
    | _ => exact h.elim
/-- whether two trees are equal -/
def eqB (d e : D) : Option Bool := match d, e with
  | .str a, .str b => some (decide (a = b))
  | d, e => match toPy d, toPy e with
    | some p, some q => if SeqAt.shaped p = true ∧ SeqAt.shaped q = true then some (PyData.eqv p q) else none
    | _, _ => none
def eqD (d e : D) : Option Val := (eqB d e).map vB
def neD (d e : D) : Option Val := (eqB d e).map fun b => vB (!b)
theorem os_eq (hu : X.A.units + 64 < cLine) : OpS X (compareOp .Eq) eqD := by
  refine ⟨_, OpR.or op_eq (op_eqD hu), fun F H x y d e z Q s px py hg k => ?_⟩
  unfold eqD at hg
  rw [Option.map_eq_some_iff] at hg
  obtain ⟨b, hb, rfl⟩ := hg
  unfold eqB at hb
  split at hb
  · rename_i a c
    cases hb
    have ex := px.str
    have ey := py.str
    subst ex ey
    refine .inl ⟨rfl, ?_⟩
    have q : decide (V.str a = V.str c) = decide (a = c) := by
      by_cases h : a = c
      · subst h; simp
      · rw [decide_eq_false h, decide_eq_false fun z => h (V.str.inj z)]
    rw [q]
    exact plainQ s k rfl
  · split at hb
    · rename_i p q e1 e2
      split at hb
      · rename_i hs
        cases hb
        exact .inr ⟨p, q, px.dp s e1, py.dp s e2, hs.1, hs.2, plainQ s k rfl⟩
      · cases hb
    · cases hb
theorem os_ne (hu : X.A.units + 64 < cLine) : OpS X (compareOp .NotEq) neD := by
  refine ⟨_, OpR.or op_ne (op_neD hu), fun F H x y d e z Q s px py hg k => ?_⟩
  unfold neD at hg
  rw [Option.map_eq_some_iff] at hg
  obtain ⟨b, hb, rfl⟩ := hg
  unfold eqB at hb
  split at hb
  · rename_i a c
    cases hb
    have ex := px.str
    have ey := py.str
    subst ex ey
    refine .inl ⟨rfl, ?_⟩
    have q : decide (V.str a = V.str c) = decide (a = c) := by
      by_cases h : a = c
      · subst h; simp
      · rw [decide_eq_false h, decide_eq_false fun z => h (V.str.inj z)]
    rw [q]
    exact plainQ s k rfl
  · split at hb
    · rename_i p q e1 e2
      split at hb
      · rename_i hs
        cases hb
        exact .inr ⟨p, q, px.dp s e1, py.dp s e2, hs.1, hs.2, plainQ s k rfl⟩
      · cases hb
    · cases hb

/-! ### items, slices -/
theorem DenL.at {T : Tx} {F : Hp} {ds : List D} {xs : List V} {k : Int} {d : D} (h : DenL T F ds xs) (e : atI ds k = some d) : ∃ x, atI xs k = some x ∧ Den T F d x := by
  unfold atI at e ⊢
  rw [← h.length]
  cases q : ixN ds.length k with
  | none => rw [q] at e; cases e
  | some j =>
    rw [q] at e
    exact h.get e
def ixD : D → D → Option Val
  | .lst ds, .int k => (atI ds k).map .sh
  | .tup ds, .int k => (atI ds k).map .sh
  | .scr ns, .int k => (atI ns k).map vI
  | _, _ => none
theorem IxR.or {r r' : R2} (h : IxR X r) (h' : IxR X r') : IxR X (fun x y H Q => r x y H Q ∨ r' x y H Q) := by
  intro va sl pins s σ H x y v u Q I r1 r2 q e
  rcases q with q | q
  · exact h va sl pins s σ H x y v u Q I r1 r2 q e
  · exact h' va sl pins s σ H x y v u Q I r1 r2 q e
theorem is_ix : IxS X ixD := by
  refine ⟨_, IxR.or ix_list ix_tup, fun F H x y d e z Q s px py hg k => ?_⟩
  unfold ixD at hg
  split at hg
  · rw [Option.map_eq_some_iff] at hg
    obtain ⟨d, hd, rfl⟩ := hg
    obtain ⟨a, xs, e1, h1, d1⟩ := px.lst s
    obtain ⟨v, hv, dv⟩ := d1.at hd
    exact .inl ⟨a, xs, _, v, e1, py.int, SqL.of h1, hv, plainQ s k dv⟩
  · rw [Option.map_eq_some_iff] at hg
    obtain ⟨d, hd, rfl⟩ := hg
    obtain ⟨a, xs, e1, h1, d1, _⟩ := px.tup s
    obtain ⟨v, hv, dv⟩ := d1.at hd
    exact .inr ⟨a, xs, _, v, e1, py.int, h1, hv, plainQ s k dv⟩
  · rw [Option.map_eq_some_iff] at hg
    obtain ⟨n, hd, rfl⟩ := hg
    obtain ⟨a, e1, h1⟩ := px.scr s
    refine .inl ⟨a, _, _, .int n, e1, py.int, h1, ?_, plainQ s k rfl⟩
    unfold atI at hd ⊢
    rw [List.length_map]
    cases q : ixN _ _ with
    | none => rw [q] at hd; cases hd
    | some j =>
      rw [q] at hd
      simp only [Option.bind_some] at hd ⊢
      rw [List.getElem?_map, hd]
      rfl
  · cases hg
/-- the bounds of a slice -/
abbrev FO := En → R (Option Int × En)
def tOfO (T : Tx) (W : WX) (f : FO) : TO := fun σ H Q => ∃ ρ F, Rel T F H ρ σ ∧ match f ρ with
  | .ok r => ∀ F' H', Stp T F H ρ σ F' H' r.2 σ → Q r.1 H'
  | .ex c n d ρ' => ∀ F' H' cls dx, Stp T F H ρ σ F' H' ρ' σ → ERel T F' c n d cls dx → W cls dx σ H'
  | .no => False
def SO (X : Cx) (W : WX) (e : Option Expr) (f : FO) : Prop := PO X e (tOfO (.of X) W f)
theorem po_imp {e : Option Expr} {t t' : TO} (h : PO X e t) (i : ∀ σ H Q, t' σ H Q → t σ H Q) : PO X e t' := ⟨fun pins s σ H Q I q => h.run pins s σ H Q I (i σ H Q q)⟩
def foN : FO := fun ρ => .ok (none, ρ)
def asI : Val × En → R (Option Int × En)
  | (.sh (.int i), ρ) => .ok (some i, ρ)
  | _ => .no
def foS (f : FE) : FO := fun ρ => (f ρ).bind asI
theorem so_none : SO X W none foN := po_imp po_none fun σ H Q ⟨ρ, F, r, h⟩ => h F H (Stp.refl r)
theorem so_some {e : Expr} {f : FE} (h : SE X W e f) : SO X W (some e) (foS f) := po_imp (po_some h) fun σ H Q ⟨ρ, F, rl, h⟩ => by
  unfold foS at h
  refine ⟨ρ, F, rl, ?_⟩
  cases ea : f ρ with
  | no => rw [ea] at h; exact h
  | ex c n d ρ' => rw [ea] at h; exact h
  | ok ra =>
    obtain ⟨v, ρ'⟩ := ra
    rw [ea] at h
    intro x F1 H1 s1 v1
    cases v with
    | sh d =>
      cases d with
      | int i => exact ⟨i, v1, h F1 H1 s1⟩
      | _ => exact h.elim
    | fr d => exact h.elim
    | rf i => exact h.elim
def cut {α : Type} (xs : List α) (lo hi : Option Int) : List α := (xs.drop (HT.sIx xs.length 0 lo)).take (HT.sIx xs.length xs.length hi - HT.sIx xs.length 0 lo)
theorem DenL.cut {T : Tx} {F : Hp} {ds : List D} {xs : List V} (h : DenL T F ds xs) (lo hi : Option Int) : DenL T F (Tr.cut ds lo hi) (cutV xs lo hi) := by
  unfold Tr.cut cutV
  rw [h.length]
  exact (h.drop _).take _
def slD : D → Option Int → Option Int → Option Val
  | .lst ds, lo, hi => some (.fr (.lst (cut ds lo hi)))
  | .tup ds, lo, hi => some (.sh (.tup (cut ds lo hi)))
  | .scr ns, lo, hi => some (.fr (.lst ((cut ns lo hi).map .int)))
  | _, _, _ => none
theorem SlR.or {r r' : V → Option Int → Option Int → Hp → VK → Prop} (h : SlR X r) (h' : SlR X r') : SlR X (fun x lo hi H Q => r x lo hi H Q ∨ r' x lo hi H Q) := fun pins s σ H x v vl vu lo hi sl Q I rx hs pl pu q => q.elim (h pins s σ H x v vl vu lo hi sl Q I rx hs pl pu) (h' pins s σ H x v vl vu lo hi sl Q I rx hs pl pu)
theorem denL_ints {T : Tx} {F : Hp} : ∀ ns : List Int, DenL T F (ns.map D.int) (ns.map V.int)
  | [] => rfl
  | n :: ns => ⟨_, _, rfl, rfl, denL_ints ns⟩
theorem cutV_ints (ns : List Int) (lo hi : Option Int) : cutV (ns.map V.int) lo hi = (cut ns lo hi).map V.int := by
  unfold cutV cut
  rw [List.length_map, List.map_take, List.map_drop]
theorem slD_ok {F H : Hp} {x : V} {d : D} {lo hi : Option Int} {z : Val} {Q : VK} (s : Same F H) (px : Pk (.of X) F H d x) (hg : slD d lo hi = some z) (k : ∀ w F' H', New (.of X) F H F' H' → NRel (.of X) H F' H' z w → Q w H') :
    rSlL X.K x lo hi H Q ∨ rSlA X.K x lo hi H Q := by
  unfold slD at hg
  split at hg
  · cases hg
    obtain ⟨a, xs, e1, h1, d1⟩ := px.lst s
    refine .inl ⟨a, xs, e1, SqL.of h1, fun p hp => ?_⟩
    exact k _ F _ (New.fr s hp) ⟨p, rfl, s.free hp, hp, _, upd_same, d1.cut _ _⟩
  · cases hg
    obtain ⟨a, xs, e1, h1, d1, f1⟩ := px.tup s
    refine .inr ⟨a, xs, e1, h1, fun w => ?_, fun _ p hp => ?_⟩
    · refine plainQ s k ⟨a, xs, rfl, f1, ?_⟩
      have q := d1.cut lo hi
      have e : cutV xs lo hi = xs := by
        unfold cutV
        rw [w.1, w.2, List.drop_zero, Nat.sub_zero, List.take_length]
      rw [e] at q
      exact q
    · exact k _ _ _ (New.sh s hp) ⟨p, _, rfl, SqT.of upd_same, (d1.cut _ _).mono (same_upd (s.free hp))⟩
  · cases hg
    obtain ⟨a, e1, h1⟩ := px.scr s
    refine .inl ⟨a, _, e1, h1, fun p hp => ?_⟩
    exact k _ F _ (New.fr s hp) ⟨p, rfl, s.free hp, hp, _, upd_same, by rw [cutV_ints]; exact denL_ints _⟩
  · cases hg
def slEnd (ρ : En) (v : Val) (lo hi : Option Int) : R (Val × En) := match peek ρ v with
  | some d => (match slD d lo hi with
    | some z => .ok (z, ρ)
    | none => .no)
  | none => .no
def evSl (f : FE) (fl fh : FO) : FE := fun ρ => (f ρ).bind fun r => (fl r.2).bind fun l => (fh l.2).bind fun h => slEnd h.2 r.1 l.1 h.1
theorem se_sl {e : Expr} {lo hi : Option Expr} {p2 pos : Pos} {f : FE} {fl fh : FO} (he : SE X W e f) (hl : SO X W lo fl) (hh : SO X W hi fh) : SE X W (.Subscript e (.Slice lo hi none p2) pos) (evSl f fl fh) :=
  pe_imp (pe_slice (SlR.or sl_list sl_tupA) he hl hh) fun σ H Q ⟨ρ, F, rl, h⟩ => by
    unfold evSl at h
    refine ⟨ρ, F, rl, ?_⟩
    cases ea : f ρ with
    | no => rw [ea] at h; exact h
    | ex c n d ρ' => rw [ea] at h; exact h
    | ok ra =>
      simp only [ea, R.bind] at h
      intro x F1 H1 s1 v1
      obtain ⟨F2, s2, m2, p2⟩ := held_ok s1 v1
      refine ⟨ra.2, F2, s2.rel, ?_⟩
      cases eb : fl ra.2 with
      | no => simp only [eb] at h
      | ex c n d ρ' => simp only [eb] at h; exact fun F' H' cls dx s e => h F' H' cls dx (s2.trans s) e
      | ok rb =>
        simp only [eb] at h
        intro F3 H3 s3
        have s23 := s2.trans s3
        refine ⟨rb.2, F3, s3.rel, ?_⟩
        cases ec : fh rb.2 with
        | no => simp only [ec] at h
        | ex c n d ρ' => simp only [ec] at h; exact fun F' H' cls dx s e => h F' H' cls dx (s23.trans s) e
        | ok rc =>
          simp only [ec] at h
          intro F4 H4 s4
          have s24 := s23.trans s4
          unfold slEnd at h
          cases e1 : peek rc.2 ra.1 with
          | none => simp only [e1] at h
          | some d =>
            simp only [e1] at h
            cases e2 : slD d rb.1 rc.1 with
            | none => simp only [e2] at h
            | some z =>
              simp only [e2] at h
              have k1 := (p2.mono (s3.same.trans s4.same)).peek s4.rel (by rw [peek_held]; exact e1)
              exact slD_ok s4.rel.sub k1 e2 fun w F5 H5 n5 r5 => h w F5 H5 (s24.trans (n5.stp s4.rel)) ((r5.vrel s4.rel).back s24)

/-! ### built-ins by name -/
def callG (g : List D → Option Val) (r : List Val × En) : R (Val × En) := match peekL r.2 r.1 with
  | some ds => (match g ds with
    | some z => .ok (z, r.2)
    | none => .no)
  | none => .no
def evB (g : List D → Option Val) (f : FA) : FE := fun ρ => (f ρ).bind (callG g)
def CallS (X : Cx) (f : Value) (g : List D → Option Val) : Prop := ∃ r, CallR X f r ∧
  ∀ (F H : Hp) (xs : List V) (ds : List D) (z : Val) (Q : VK), Same F H → PkL (.of X) F H ds xs → g ds = some z → (∀ w F' H', New (.of X) F H F' H' → NRel (.of X) H F' H' z w → Q w H') → r xs H Q
theorem evB_ok {f : FA} {g : List D → Option Val} {r : List V → Hp → VK → Prop} (hr : ∀ (F H : Hp) (xs : List V) (ds : List D) (z : Val) (Q : VK), Same F H → PkL (.of X) F H ds xs → g ds = some z → (∀ w F' H', New (.of X) F H F' H' → NRel (.of X) H F' H' z w → Q w H') → r xs H Q)
    {σ : Sg} {H : Hp} {Q : VK} (h : tOf (.of X) W (evB g f) σ H Q) : tCB r (tOfA (.of X) W f) σ H Q := by
  obtain ⟨ρ, F, rl, h⟩ := h
  unfold evB at h
  refine ⟨ρ, F, rl, ?_⟩
  cases ea : f ρ with
  | no => rw [ea] at h; exact h
  | ex c n d ρ' => rw [ea] at h; exact h
  | ok ra =>
    simp only [ea, R.bind] at h
    intro xs F1 H1 s1 p1
    unfold callG at h
    cases e1 : peekL ra.2 ra.1 with
    | none => simp only [e1] at h
    | some ds =>
      simp only [e1] at h
      cases e2 : g ds with
      | none => simp only [e2] at h
      | some z =>
        simp only [e2] at h
        exact hr F1 H1 xs ds z Q s1.rel.sub (p1.peek s1.rel e1) e2 fun w F5 H5 n5 r5 => h w F5 H5 (s1.trans (n5.stp s1.rel)) ((r5.vrel s1.rel).back s1)
theorem se_b {x : Str} {id : String} {e : Expr} {es : List Expr} {p pos : Pos} {f : FA} {g : List D → Option Val} (hc : CallS X (.builtin id) g) (hm : X.mg x = none) (hv : bootBuiltins x = some (.builtin id)) (ha : SA X W (e :: es) f) (hg : Gl X x := by rfl) (hn : x ≠ "__name__" := by decide) (hdb : (x == ("__debug__" : Str)) = false := by decide)
    (he : starEach (e :: es) X.env = (false, eval e X.env) :: starEach es X.env := by rfl) (hpl : (backTo pos (starEach es X.env)).any (·.1) = false := by rfl) : SE X W (.Call (.Name x p) (e :: es) [] pos) (evB g f) := by
  obtain ⟨r, h1, h2⟩ := hc
  exact pe_imp (pe_callB h1 hg hm hv ha hn hdb he hpl) fun σ H Q h => evB_ok h2 h
theorem se_bt {x : Str} {id : String} {e : Expr} {es : List Expr} {p pos : Pos} {f : FA} {g : List D → Option Val} (hc : CallS X (.type id) g) (hm : X.mg x = none) (hv : bootBuiltins x = some (.type id)) (ha : SA X W (e :: es) f) (hg : Gl X x := by rfl) (hn : x ≠ "__name__" := by decide) (hdb : (x == ("__debug__" : Str)) = false := by decide)
    (he : starEach (e :: es) X.env = (false, eval e X.env) :: starEach es X.env := by rfl) (hpl : (backTo pos (starEach es X.env)).any (·.1) = false := by rfl) : SE X W (.Call (.Name x p) (e :: es) [] pos) (evB g f) := by
  obtain ⟨r, h1, h2⟩ := hc
  exact pe_imp (pe_callTy h1 hg hm hv ha hn hdb he hpl) fun σ H Q h => evB_ok h2 h
theorem PkL.one {T : Tx} {F H : Hp} {d : D} {xs : List V} (h : PkL T F H [d] xs) : ∃ x, xs = [x] ∧ Pk T F H d x := by
  cases h with
  | cons k t => cases t; exact ⟨_, rfl, k⟩
theorem PkL.two {T : Tx} {F H : Hp} {d e : D} {xs : List V} (h : PkL T F H [d, e] xs) : ∃ x y, xs = [x, y] ∧ Pk T F H d x ∧ Pk T F H e y := by
  cases h with
  | cons k t =>
    cases t with
    | cons k2 t2 => cases t2; exact ⟨_, _, rfl, k, k2⟩
def intD : List D → Option Val
  | [.int i] => some (vI i)
  | [.bl b] => some (vI (if b then 1 else 0))
  | _ => none
theorem cs_int : CallS X (.type "int") intD := by
  refine ⟨_, call_int1, fun F H xs ds z Q s px hg k => ?_⟩
  unfold intD at hg
  split at hg
  · cases hg
    obtain ⟨x, rfl, p⟩ := px.one
    exact .inl ⟨_, by rw [p.int], plainQ s k rfl⟩
  · cases hg
    obtain ⟨x, rfl, p⟩ := px.one
    exact .inr ⟨_, by rw [p.bl], plainQ s k rfl⟩
  · cases hg
def absD : List D → Option Val
  | [.int i] => some (vI (if i < 0 then -i else i))
  | _ => none
theorem cs_abs : CallS X (.builtin "abs") absD := by
  refine ⟨_, call_abs, fun F H xs ds z Q s px hg k => ?_⟩
  unfold absD at hg
  split at hg
  · cases hg
    obtain ⟨x, rfl, p⟩ := px.one
    exact ⟨_, by rw [p.int], plainQ s k rfl⟩
  · cases hg
def maxD : List D → Option Val
  | [.int i, .int j] => some (vI (if j > i then j else i))
  | _ => none
theorem cs_max (hc : X.calm = true) : CallS X (.builtin "max") maxD := by
  refine ⟨_, call_max2 hc, fun F H xs ds z Q s px hg k => ?_⟩
  unfold maxD at hg
  split at hg
  · cases hg
    obtain ⟨x, y, rfl, p, q⟩ := px.two
    exact ⟨_, _, by rw [p.int, q.int], plainQ s k rfl⟩
  · cases hg
def minD : List D → Option Val
  | [.int i, .int j] => some (vI (if j < i then j else i))
  | _ => none
theorem cs_min (hc : X.calm = true) : CallS X (.builtin "min") minD := by
  refine ⟨_, call_min2 hc, fun F H xs ds z Q s px hg k => ?_⟩
  unfold minD at hg
  split at hg
  · cases hg
    obtain ⟨x, y, rfl, p, q⟩ := px.two
    exact ⟨_, _, by rw [p.int, q.int], plainQ s k rfl⟩
  · cases hg
def lenD : List D → Option Val
  | [.lst ds] => some (vI ds.length)
  | [.tup ds] => some (vI ds.length)
  | [.scr ns] => some (vI ns.length)
  | _ => none
theorem cs_len : CallS X (.builtin "len") lenD := by
  refine ⟨_, call_len_seq, fun F H xs ds z Q s px hg k => ?_⟩
  unfold lenD at hg
  split at hg
  · cases hg
    obtain ⟨x, rfl, p⟩ := px.one
    obtain ⟨a, xs, e1, h1, d1⟩ := p.lst s
    exact ⟨a, xs, by rw [e1], .inl (SqL.of h1), plainQ s k (by rw [d1.length]; rfl)⟩
  · cases hg
    obtain ⟨x, rfl, p⟩ := px.one
    obtain ⟨a, xs, e1, h1, d1, _⟩ := p.tup s
    exact ⟨a, xs, by rw [e1], .inr h1, plainQ s k (by rw [d1.length]; rfl)⟩
  · cases hg
    obtain ⟨x, rfl, p⟩ := px.one
    obtain ⟨a, e1, h1⟩ := p.scr s
    exact ⟨a, _, by rw [e1], .inl h1, plainQ s k (by rw [List.length_map]; rfl)⟩
  · cases hg
def allInts : List D → Option (List Int)
  | [] => some []
  | .int i :: ds => (allInts ds).map (i :: ·)
  | _ :: _ => none
theorem allInts_eq : ∀ {ds : List D} {ns : List Int}, allInts ds = some ns → ds = ns.map D.int
  | [], _, h => by cases h; rfl
  | .int i :: ds, _, h => by
    simp only [allInts, Option.map_eq_some_iff] at h
    obtain ⟨ms, h1, rfl⟩ := h
    rw [allInts_eq h1]; rfl
  | .non :: _, _, h => by cases h
  | .bl _ :: _, _, h => by cases h
  | .str _ :: _, _, h => by cases h
  | .lst _ :: _, _, h => by cases h
  | .tup _ :: _, _, h => by cases h
  | .dK _ _ :: _, _, h => by cases h
  | .dT _ _ :: _, _, h => by cases h
  | .ins _ _ _ :: _, _, h => by cases h
  | .exn _ _ _ :: _, _, h => by cases h
  | .ty _ :: _, _, h => by cases h
  | .glo _ :: _, _, h => by cases h
  | .scr _ :: _, _, h => by cases h
theorem denL_ints_eq {T : Tx} {F : Hp} : ∀ {ns : List Int} {xs : List V}, DenL T F (ns.map D.int) xs → xs = ns.map V.int
  | [], _, h => h
  | n :: ns, _, ⟨x, r, h1, h2, h3⟩ => by
    have h2 : x = .int n := h2
    rw [h1, h2, denL_ints_eq h3]; rfl
def sumD : List D → Option Val
  | [.lst ds] => (allInts ds).map fun ns => vI ns.sum
  | _ => none
theorem cs_sum (hc : X.calm = true) : CallS X (.builtin "sum") sumD := by
  refine ⟨_, cr_sum hc, fun F H xs ds z Q s px hg k => ?_⟩
  unfold sumD at hg
  split at hg
  · rw [Option.map_eq_some_iff] at hg
    obtain ⟨ns, h1, rfl⟩ := hg
    obtain ⟨x, rfl, p⟩ := px.one
    obtain ⟨a, xs, e1, h2, d1⟩ := p.lst s
    rw [allInts_eq h1] at d1
    exact ⟨a, ns, by rw [e1], SqL.of (by rw [← denL_ints_eq d1]; exact h2), plainQ s k rfl⟩
  · cases hg
/-- list(x), tuple(x) of a list or tuple -/
def listD : List D → Option Val
  | [.lst ds] => some (.fr (.lst ds))
  | [.tup ds] => some (.fr (.lst ds))
  | _ => none
theorem cs_list : CallS X (.type "list") listD := by
  refine ⟨_, call_list_of, fun F H xs ds z Q s px hg k => ?_⟩
  unfold listD at hg
  split at hg
  · cases hg
    obtain ⟨x, rfl, p⟩ := px.one
    obtain ⟨a, xs, e1, h1, d1⟩ := p.lst s
    exact ⟨a, xs, by rw [e1], .inl (SqL.of h1), fun l hl => k _ F _ (New.fr s hl) ⟨l, rfl, s.free hl, hl, _, upd_same, d1⟩⟩
  · cases hg
    obtain ⟨x, rfl, p⟩ := px.one
    obtain ⟨a, xs, e1, h1, d1, _⟩ := p.tup s
    exact ⟨a, xs, by rw [e1], .inr h1, fun l hl => k _ F _ (New.fr s hl) ⟨l, rfl, s.free hl, hl, _, upd_same, d1⟩⟩
  · cases hg
def tupleD : List D → Option Val
  | [.lst ds] => some (.sh (.tup ds))
  | [.tup ds] => some (.sh (.tup ds))
  | _ => none
theorem cs_tuple : CallS X (.type "tuple") tupleD := by
  refine ⟨_, call_tuple_of, fun F H xs ds z Q s px hg k => ?_⟩
  unfold tupleD at hg
  split at hg
  · cases hg
    obtain ⟨x, rfl, p⟩ := px.one
    obtain ⟨a, xs, e1, h1, d1⟩ := p.lst s
    exact ⟨a, xs, by rw [e1], .inl ⟨SqL.of h1, fun l hl => k _ _ _ (New.sh s hl) ⟨l, _, rfl, SqT.of upd_same, d1.mono (same_upd (s.free hl))⟩⟩⟩
  · cases hg
    obtain ⟨x, rfl, p⟩ := px.one
    obtain ⟨a, xs, e1, h1, d1, f1⟩ := p.tup s
    exact ⟨a, xs, by rw [e1], .inr ⟨h1, plainQ s k ⟨a, xs, rfl, f1, d1⟩⟩⟩
  · cases hg
/-- n.bit_length() -/
def bitsD : D → Option Val
  | .int i => some (vI (Builtin.Int.intBits i : Nat))
  | _ => none
theorem se_bits {o : Expr} {f : FE} {apos pos : Pos} (ho : SE X W o f) (hbase : attributeBase o "bit_length" X.env (eval o X.env) = eval o X.env := by rfl) (hline : (apos.endLine == pos.line) = true := by rfl) :
    SE X W (.Call (.Attribute o "bit_length" apos) [] [] pos) (evUn bitsD f) :=
  pe_imp (pe_bits ho hbase hline) fun σ H Q h => evUn_ok (r := fun x H1 Q => ∃ i, x = .int i ∧ Q (.int (Builtin.Int.intBits i : Nat)) H1) (fun F H x d z Q s px hg k => by
    unfold bitsD at hg
    split at hg
    · cases hg
      exact ⟨_, px.int, plainQ s k rfl⟩
    · cases hg) h
end
end Tr
/-! Tr, part I: the package's own errors: made, raised. -/
namespace PySem
namespace ErrX
open PySem.W PySem.Calls PyProof.Rows PySem.HandSPX
/-! ### the text of an error's __init__ -/
def eA (v : Str) (p1 p2 p3 : Pos) : Arguments := { posonlyargs := [], args := [{ arg := "self", annotation := none, pos := p1 }, { arg := v, annotation := none, pos := p2 }], vararg := none, kwonlyargs := [], kw_defaults := [], kwarg := none, defaults := [.Constant .none 0 p3] }
def eB (v : Str) (q1 q2 q3 q4 q5 q6 r1 r2 r3 r4 : Pos) : List Stmt := [.Expr (.Call (.Attribute (.Call (.Name "super" q1) [] [] q2) "__init__" q3) [.Name v q4] [] q5) q6, .Assign [.Attribute (.Name "self" r1) v r2] (.Name v r3) r4]
def eS (v : Str) : Scope := { kind := .function, names := [(PySem.Str.ofString "self", .local), (v, .local), (PySem.Str.ofString "__class__", .free), (PySem.Str.ofString "super", .globalImplicit)], isGenerator := false, isCoroutine := false, more := [] }
/-- a name that such a field may have -/
def FldOk (v : Str) : Prop := (v == ("self" : Str)) = false ∧ (v == ("__debug__" : Str)) = false ∧ (("__class__" : Str) == v) = false ∧ (("super" : Str) == v) = false ∧ (("self" : Str) == v) = false
/-- its arguments are bound -/
def BndOk (v : Str) : Prop := ∀ (s : Shared) (qual : Str) (dT : Addr) (doc pm : Value) (an : Option Addr) (cdv ct : Value) (cc : Addr) (p1 p2 p3 : Pos) (body : List Stmt) (o : Addr) (u : Value) (ot : Obj) (n : Nat), s.heap.get? dT = some ot → ot.data = .seq #[.none] n →
  BindsTo s (ksFn "__init__" qual (eA v p1 p2 p3) body (eS v) (.ref dT) .none doc pm an cdv ct cc) ⟨[.ref o, u], []⟩ [("self", .ref o), (v, u)]
theorem bnd_value : BndOk "value" := fun s qual dT doc pm an cdv ct cc p1 p2 p3 body o u ot n h1 h2 => BindsTo.of_defaults (T := dT) rfl h1 h2 rfl (by first | rfl | with_unfolding_all rfl)
theorem bnd_axes : BndOk "axes" := fun s qual dT doc pm an cdv ct cc p1 p2 p3 body o u ot n h1 h2 => BindsTo.of_defaults (T := dT) rfl h1 h2 rfl (by first | rfl | with_unfolding_all rfl)
theorem bnd_place : BndOk "place" := fun s qual dT doc pm an cdv ct cc p1 p2 p3 body o u ot n h1 h2 => BindsTo.of_defaults (T := dT) rfl h1 h2 rfl (by first | rfl | with_unfolding_all rfl)
theorem bnd_number : BndOk "number" := fun s qual dT doc pm an cdv ct cc p1 p2 p3 body o u ot n h1 h2 => BindsTo.of_defaults (T := dT) rfl h1 h2 rfl (by first | rfl | with_unfolding_all rfl)
theorem bnd_name : BndOk "name" := fun s qual dT doc pm an cdv ct cc p1 p2 p3 body o u ot n h1 h2 => BindsTo.of_defaults (T := dT) rfl h1 h2 rfl (by first | rfl | with_unfolding_all rfl)
theorem fld_value : FldOk "value" := ⟨by decide, by decide, by decide, by decide, by decide⟩
theorem fld_axes : FldOk "axes" := ⟨by decide, by decide, by decide, by decide, by decide⟩
theorem fld_place : FldOk "place" := ⟨by decide, by decide, by decide, by decide, by decide⟩
theorem fld_number : FldOk "number" := ⟨by decide, by decide, by decide, by decide, by decide⟩
theorem fld_name : FldOk "name" := ⟨by decide, by decide, by decide, by decide, by decide⟩
/-- what the written part says of the error class at C, and of its __init__, at fI -/
structure ErrTxt (P : Program) (K : Frag) (mg : Str → Option Value) (Ad : Addr) (x v : Str) (C fI : Addr) : Prop where
  fld : FldOk v
  bnd : BndOk v
  gC : mg x = some (.ref C)
  cls : ∃ q N bs sn sub ab col dd k0 k1 k2 k3 k5, K.lookup C = some (excClassObj x q C N bs (.ref Ad :: veTail) true sn sub ab col dd k0 k1 k2 k3 k5 "ValueError.__new__")
  sa : findIn K (.ref C) "__setattr__" = some (some (.builtin "object.__setattr__"))
  ga : findIn K (.ref C) "__getattribute__" = some (some (.builtin "BaseException.__getattribute__"))
  gg : findIn K (.ref C) "__getattr__" = some none
  noN : findIn K (.ref C) v = some none
  iC : findIn K (.ref C) "__init__" = some (some (.ref fI))
  tC : typeIn K (.ref fI) = some (.type "function")
  kC : keepIn K (.ref C) = true
  hdC : hasDictIn K C = true
  clC : findIn K (.ref C) "__class__" = some (some (.builtin "object.__class__"))
  sup : ks_superIn K C C "__init__" = some (some (.builtin "ValueError.__init__"))
  opq : nsIn K cStatics "thirdparty.any" = some none
  gS : mg "super" = none
  topS : (P.main.scope.names.lookup ("super" : Str)).isSome = false
  fn : ∃ (oc : Value) (od : Option Addr) (qual : Str) (dT : Addr) (doc pm : Value) (an : Option Addr) (cda cc : Addr) (ct : Value) (osl : Array (Option Value)) (p1 p2 p3 q1 q2 q3 q4 q5 q6 r1 r2 r3 r4 : Pos),
    K.lookup fI = some ⟨oc, od, .func (ksFn "__init__" qual (eA v p1 p2 p3) (eB v q1 q2 q3 q4 q5 q6 r1 r2 r3 r4) (eS v) (.ref dT) .none doc pm an (.ref cda) ct cc), osl⟩ ∧ codeIn K (.ref cda) qual = true ∧
    (∃ tc td tn ts, K.lookup dT = some ⟨tc, td, .seq #[.none] tn, ts⟩) ∧ (q3.endLine == q5.line) = true ∧
    (∃ cl cld csl, K.lookup cc = some ⟨cl, cld, .cell (some (.ref C)), csl⟩) ∧
    ∃ ccl cdd ccs vs file tf, K.lookup cda = some ⟨ccl, cdd, .fields vs, ccs⟩ ∧ vs[2]? = some (.str file tf) ∧ ((P.main.file : Str) == file) = true
section
variable {P : Program} {K : Frag} {mg : Str → Option Value} {Ad C fI : Addr} {x v : Str}
theorem ErrTxt.mro (T : ErrTxt P K mg Ad x v C fI) (b : Value) : mroIn K C b = some ((.ref C :: .ref Ad :: veTail).contains b) := by
  obtain ⟨q, N, bs, sn, sub, ab, col, dd, k0, k1, k2, k3, k5, hC⟩ := T.cls
  unfold mroIn clsIn
  rw [hC]
  rfl
theorem has_ty (T : String) (h : veTail.contains (.type T) = true) : (Value.ref C :: .ref Ad :: veTail).contains (.type T) = true := by
  rw [List.contains_cons, List.contains_cons, h, Bool.or_true, Bool.or_true]
theorem ErrTxt.exC (T : ErrTxt P K mg Ad x v C fI) : subIn K (.ref C) (.type "BaseException") = some true := (T.mro _).trans (by rw [has_ty _ (by decide)])
theorem ErrTxt.veC (T : ErrTxt P K mg Ad x v C fI) : subIn K (.ref C) (.type "ValueError") = some true := (T.mro _).trans (by rw [has_ty _ (by decide)])
theorem ErrTxt.obC (T : ErrTxt P K mg Ad x v C fI) : mroIn K C (.type "object") = some true := (T.mro _).trans (by rw [has_ty _ (by decide)])
theorem ErrTxt.mroC (T : ErrTxt P K mg Ad x v C fI) : mroIn K C (.ref C) = some true := (T.mro _).trans (by rw [List.contains_cons, beq_self_eq_true, Bool.true_or])
theorem ErrTxt.tyC (T : ErrTxt P K mg Ad x v C fI) : typeIn K (.ref C) = some (.type "type") := by
  obtain ⟨q, N, bs, sn, sub, ab, col, dd, k0, k1, k2, k3, k5, hC⟩ := T.cls
  show (K.lookup C).map (·.cls) = _
  rw [hC]
  rfl
theorem ErrTxt.isC (T : ErrTxt P K mg Ad x v C fI) : (clsIn K C).isSome = true := by
  obtain ⟨q, N, bs, sn, sub, ab, col, dd, k0, k1, k2, k3, k5, hC⟩ := T.cls
  unfold clsIn
  rw [hC]
  rfl
theorem oc_get : specialIn K (.builtin "object.__class__") "__get__" = some (some (.builtin "getset_descriptor.__get__")) := by kernel_rfl
theorem oc_takes : takesIn K (.builtin "object.__class__") = some true := by kernel_rfl
end
theorem boot_super : bootBuiltins "super" = some (.type "super") := by decide +kernel
theorem one_size (v : Value) : [v].length ≤ sizeLine := by
  rw [sizeLine_eq]
  exact (by decide : 1 ≤ 16777216)
/-- the module's names and the built-ins in this heap -/
structure Mo (mg : Str → Option Value) (h : Heap) : Prop where
  glob : h.Ns mainGlobals mg
  blt : ∃ mb, h.Ns builtinsNs mb ∧ ∀ x : Str, x ≠ "__name__" → mb x = bootBuiltins x
theorem Mo.keeps {mg : Str → Option Value} {h h' : Heap} (m : Mo mg h) (k : ∀ b o, h.get? b = some o → h'.get? b = some o) : Mo mg h' := ⟨m.glob.keeps k, by
  obtain ⟨mb, h1, h2⟩ := m.blt
  exact ⟨mb, h1.keeps k, h2⟩⟩
structure InitEnd (h h' : Heap) (x C dx t1 : Addr) (f : Str) (v : Value) : Prop where
  keep : ∀ b o, b ≠ x → h.get? b = some o → h'.get? b = some o
  obj : h'.get? x = some { cls := .ref C, dict := some dx, data := .fields #[.ref t1, .none, .none, .none, .bool false, .none] }
  dbig : h.objs.size ≤ dx
  dne : dx ≠ x
  ns : h'.Ns1 dx (fun y => if y = f then some v else none)
structure OwnMade (h h' : Heap) (e C d : Addr) (f : Str) (v : Value) : Prop where
  keep : ∀ b o, h.get? b = some o → h'.get? b = some o
  new : h.objs.size ≤ e
  obj : ∃ oe vs, h'.get? e = some oe ∧ oe.cls = .ref C ∧ oe.dict = some d ∧ oe.data = .fields vs ∧ vs[1]? = some .none
  dbig : h.objs.size ≤ d
  dne : d ≠ e
  ns : h'.Ns1 d (fun y => if y = f then some v else none)
section
variable {prog : Program} {w : World} {A : Around} {E : Value → Shared → Prop} {R : Result → Shared → Prop} {s : Shared} {K : Frag} {mg : Str → Option Value} {Ad C fI : Addr} {x v : Str}
/-- ValueError.__init__ bound to an error, called -/
theorem call_veinit {h : Heap} {g : Array GenState} {d : Drawn} {t : Nat} {os : OsState} {nm q : Str} {N : Addr} {bs bm : List Value} {hdct : Bool} {sn : List Str} {sub : List Value} {ab : Bool} {col : Option Bool} {dd : Option Addr} {k0 k1 k2 k3 k5 : Option Value}
    {u e t0 : Addr} {rest : List Value} {Q : Value → Shared → Prop}
    (hC : h.get? C = some (excClassObj nm q C N bs bm hdct sn sub ab col dd k0 k1 k2 k3 k5 "ValueError.__new__")) (he : h.get? e = some (excO C t0)) (hu : h.get? u = some (kxs_mw "ValueError.__init__" e)) (hrest : rest.length ≤ sizeLine)
    (hq : ∀ h' t1, (∀ b o, b ≠ e → h.get? b = some o → h'.get? b = some o) → h'.get? e = some (excO C t1) → Q .none ⟨h', g, d, t, os⟩) :
    wpAny (model prog w) A (call (.ref u) rest) Q E ⟨h, g, d, t, os⟩ := by
  refine wpAny_call (codeAny_of_tree ?_)
  show wpAny _ A.in1 (callAny (.ref u) ⟨rest, []⟩) _ _ _
  simp only [callAny]
  refine wpAny_bind (wpAny_load hu ?_)
  simp only [kxs_mw, show (Value.type "method-wrapper" == Value.type "method" || Value.type "method-wrapper" == Value.type "builtin_function_or_method" || Value.type "method-wrapper" == Value.type "method-wrapper") = true by decide, if_true]
  refine KFB.if_so (by decide) ?_
  refine wpAny_bind (ESX.check_bound F.excBase_ValueError hC he rfl ?_)
  refine wpAny_bind (wpAny_pure (wpAny_pure ?_))
  refine ⟨plainId_quiet F.excBase_ValueError.init.plain _, codeAny_builtin F.excBase_ValueError.initEntry ?_⟩
  exact exc_init_tree (cls := .ref C) (t0 := t0) (dv := none) (c2 := .none) (c3 := .none) (b4 := .bool false) he hrest fun h' k e' _ => hq h' _ k e'
theorem ldK {M : Model} {env : Env} {m : Str → Option Value} {y : Str} {pos : Pos} {u : Value} {Q : Value → Shared → Prop} (hn : s.heap.Ns env.locals m) (hv : m y = some u) (h : Q u s)
    (hk : env.scope.kind = .function) (hl : env.kindOf y = some .local) (hd : (y == ("__debug__" : Str)) = false) : wpAny M A (eval (.Name y pos) env) Q E s := wpAny_Name (wpAny_loadName_local hk hl hn hv h) hd
theorem meth_eq {o : Expr} {name : Str} {apos pos : Pos} {args : List Expr} {env : Env} (hline : (apos.endLine == pos.line) = true) (hf : methodCallForm (args.length + ([] : List Keyword).length) (backTo pos (starEach args env)) (backToKw pos (keywordEach [] env)) = true) :
    eval (.Call (.Attribute o name apos) args [] pos) env = (do
      let ov ← attributeBase o name env (eval o env)
      standAt apos.atName
      let (f, first) ← holding [ov] (getMethod ov name (do return (← importBound o env).getD true))
      callWith pos f first (backTo pos (starEach args env)) []) := by
  have hpos : methodCallPos true o env apos pos = pure pos := by unfold methodCallPos; simp [hline]
  rw [arm_eval_Call]
  unfold methodCall
  rw [hf, hpos]
  simp only [pure_bind]
  rfl
theorem err_init (T : ErrTxt prog K mg Ad x v C fI) {o t0 : Addr} {u : Value} (X : K.In s.heap) (hm : Mo mg s.heap) (hlim : s.heap.NoLimit) (hx : s.heap.get? o = some (excO C t0)) (hnx : K.lookup o = none) (hroom : A.depth < recursionLimit)
    (hq : ∀ h' tk dx t1, InitEnd s.heap h' o C dx t1 v u → R (.ok (.ret .none)) { s with heap := h', toks := tk }) :
    codeAny (model prog w) A (.call (.ref fI) ⟨[.ref o, u], []⟩) R s := by
  obtain ⟨oc, od, qual, dT, doc, pm, an, cda, cc, ct, osl, p1, p2, p3, q1, q2, q3, q4, q5, q6, r1, r2, r3, r4, ho, hcd, ⟨tc, td, tn, ts, hdT⟩, hline, ⟨cl, cld, csl, hcell⟩, ccl, cdd, ccs, vs, file, tf, hcode, hvs, hfile⟩ := T.fn
  obtain ⟨q, N, bs, sn, sub, ab, col, dd, k0, k1, k2, k3, k5, hC⟩ := T.cls
  have hbm : refsVE (.ref Ad :: veTail) = true := by first | rfl | (simp only [refsVE]; decide)
  obtain ⟨f1, f2, f3, f4, f5⟩ := T.fld
  have hcl : clsIn K C = some { name := x, bases := bs, mro := .ref C :: .ref Ad :: veTail, ns := N, qualname := q, hasDict := true, slotNames := sn, subclasses := sub, abstract := ab, collection := col, hasDel := false } := by unfold clsIn; rw [hC] <;> rfl
  have lv : (eS v).names.lookup v = some .local := by
    show List.lookup v [(("self" : Str), NameKind.local), (v, .local), (("__class__" : Str), .free), (("super" : Str), .globalImplicit)] = _
    simp [List.lookup, f1]
  have lc : (eS v).names.lookup ("__class__" : Str) = some .free := by
    show List.lookup ("__class__" : Str) [(("self" : Str), NameKind.local), (v, .local), (("__class__" : Str), .free), (("super" : Str), .globalImplicit)] = _
    simp [List.lookup, f3, show (("__class__" : Str) == ("self" : Str)) = false by decide]
  have ls : (eS v).names.lookup ("super" : Str) = some .globalImplicit := by
    show List.lookup ("super" : Str) [(("self" : Str), NameKind.local), (v, .local), (("__class__" : Str), .free), (("super" : Str), .globalImplicit)] = _
    simp [List.lookup, f4, show (("super" : Str) == ("self" : Str)) = false by decide, show (("super" : Str) == ("__class__" : Str)) = false by decide]
  have bv : ([(("self" : Str), Value.ref o), (v, u)] : List (Str × Value)).reverse.lookup v = some u := by simp [List.lookup]
  have bs' : ([(("self" : Str), Value.ref o), (v, u)] : List (Str × Value)).reverse.lookup ("self" : Str) = some (.ref o) := by simp [List.lookup, f5]
  refine ks_codeAny_call_defAt (fd := ksFn "__init__" qual (eA v p1 p2 p3) (eB v q1 q2 q3 q4 q5 q6 r1 r2 r3 r4) (eS v) (.ref dT) .none doc pm an (.ref cda) ct cc) (body := eB v q1 q2 q3 q4 q5 q6 r1 r2 r3 r4) (binds := [("self", .ref o), (v, u)]) hroom (X _ _ ho) rfl hlim (codeRec_of X hcd) rfl
    (T.bnd _ _ _ _ _ _ _ _ _ _ _ _ _ _ _ _ _ (X _ _ hdT) rfl) ?hcell ?hloc (fun h₁ hns k₁ => ?_) rfl rfl rfl
  case hcell =>
    intro y hy
    simp only [eS, List.mem_cons, List.not_mem_nil, or_false] at hy
    rcases hy with rfl | rfl | rfl | rfl <;> simp
  case hloc =>
    intro y hy
    simp only [List.mem_cons, List.not_mem_nil, or_false] at hy
    rcases hy with rfl | rfl
    · rfl
    · exact lv
  show wpAt _ (A.deeper (ksEnv qual (eS v) s.heap.objs.size fI (.ref cda) cc)) (.func (eB v q1 q2 q3 q4 q5 q6 r1 r2 r3 r4) (ksEnv qual (eS v) s.heap.objs.size fI (.ref cda) cc)) (execs (eB v q1 q2 q3 q4 q5 q6 r1 r2 r3 r4) (ksEnv qual (eS v) s.heap.objs.size fI (.ref cda) cc)) _ _ _
  have X₁ : K.In h₁ := X.keeps k₁
  have hx₁ := k₁ _ _ hx
  have hoC : o ≠ C := fun z => by
    have y := X _ _ hC
    rw [← z, hx] at y
    cases y
  refine ks_wpAt_execs_cons (ks_wpAt_Expr_any (ks_wpAt_MethodCall ?_ (meth_eq hline rfl)) rfl rfl)
  refine ks_wpAt_super_base (env := ksEnv qual (eS v) s.heap.objs.size fI (.ref cda) cc) ls lc (by decide) rfl (X₁ _ _ ho) rfl rfl rfl (X₁ _ _ hcode) rfl hvs hfile T.topS ?_
  obtain ⟨mb, m1, m2⟩ := hm.blt
  refine ks_loadName_global rfl ls (loadGlobal_builtin (env := ksEnv qual (eS v) s.heap.objs.size fI (.ref cda) cc) (hm.glob.keeps k₁) T.gS (m1.keeps k₁) ((m2 _ (by decide)).trans boot_super) ⟨rfl, ?_⟩)
  refine wpAny_loadName_free rfl lc rfl ⟨_, X₁ _ _ hcell, rfl⟩ ?_
  refine wpAny_loadName_local rfl rfl hns bs' ?_
  refine ks_wpAny_isType_cls (X₁ _ _ hC) rfl ⟨rfl, ?_⟩
  refine ks_wpAny_call_super (X₁ _ _ hC) rfl hx₁ rfl (fun c e => by cases e) (looks_mroIn X₁ T.mroC) (fun h₂ e2 k₂ => ?_)
  have X₂ : K.In h₂ := X₁.keeps k₂
  have hx₂ := k₂ _ _ hx₁
  have hI : W.InstAt h₂ o (excO C t0) C none := ⟨hx₂, rfl, rfl, trivial⟩
  have sup := T.sup
  unfold ks_superIn at sup
  rw [hcl, Option.bind_some] at sup
  refine kxs_getMethod kxs_ValueError e2 (looks_opaque X₂ T.opq) (l₀ := .ref C :: .ref Ad :: veTail) (fun A Q E s k q => wpAny_bind ((looks_clsIn X₂ hcl) A _ E s k (wpAny_pure q))) rfl X₂ sup (hI.type.andThen (looks_subIn X₂ T.veC)) hoC (by decide) ?_
  have k₃ : ∀ b ob, h₂.get? b = some ob → (h₂.push (kxs_mw "ValueError.__init__" o)).get? b = some ob := fun b ob e => Heap.get?_push_of_some _ e
  have kk : ∀ b ob, h₁.get? b = some ob → (h₂.push (kxs_mw "ValueError.__init__" o)).get? b = some ob := fun b ob e => k₃ _ _ (k₂ _ _ e)
  refine kxs_callWith (i := "ValueError.__init__") (x := o) rfl (evalArgs_plain (spliced_cons (ldK (hns.keeps kk) bv ?_ rfl lv f2)))
  refine spliced_nil ⟨Heap.get?_push_at rfl rfl, ?_⟩
  show wpAny _ _ (call (.ref h₂.objs.size) [u]) _ _ _
  refine call_veinit (kk _ _ (X₁ _ _ hC)) (k₃ _ _ hx₂) (Heap.get?_push_at rfl rfl) (one_size u) (fun h₄ t1 k₄ hx₄ => ?_)
  show wpAt _ _ _ (execs _ _) _ _ _
  have hne : s.heap.objs.size ≠ o := Nat.ne_of_gt (Heap.lt_size hx)
  have hns₄ : h₄.Ns s.heap.objs.size (fun y => ([(("self" : Str), Value.ref o), (v, u)] : List (Str × Value)).reverse.lookup y) := by
    obtain ⟨oL, es, ep, hL, r⟩ := hns
    exact ⟨oL, es, ep, k₄ _ _ hne (kk _ _ hL), r⟩
  have X₄ : K.In h₄ := fun a ob e => k₄ a ob (fun z => by rw [z, hnx] at e; cases e) (kk _ _ (X₁ a ob e))
  refine wpAt_of_wpAny ?_
  refine wpAny_execs_cons (plainObj_wpAny_Assign_Attribute ?_)
  refine ldK hns₄ bv (ldK (u := .ref o) hns₄ bs' ?_ rfl rfl (by decide)) rfl lv f2
  refine set_plain X₄ (ox := excO C t1) (od := none) ⟨hx₄, rfl, rfl, trivial⟩ T.sa ?_
  refine exc_osa X₄ hx₄ hcl (show refsVE (.ref C :: .ref Ad :: veTail) = true from hbm) rfl T.noN (fun h₅ tk₅ dx k₅ dn dne hx₅ hn₅ => ?_)
  show wpAny _ _ (execs _ _) _ _ _
  have z : s.heap.objs.size < h₄.objs.size := hns₄.lt
  refine wpAny_execs_nil (hq h₅ tk₅ dx t1 ⟨fun b ob hb e => k₅ b ob hb (k₄ b ob hb (kk _ _ (k₁ _ _ e))), hx₅, Nat.le_of_lt (Nat.lt_of_lt_of_le z dn), dne, hn₅⟩)
theorem err_made (T : ErrTxt prog K mg Ad x v C fI) {u : Value} (X : K.In s.heap) (hm : Mo mg s.heap) (hlim : s.heap.NoLimit) (hroom : A.depth + 1 < recursionLimit)
    (hq : ∀ h' tk e d, OwnMade s.heap h' e C d v u → R (.ok (.ret (.ref e))) { s with heap := h', toks := tk }) :
    codeAny (model prog w) A (.call (.ref C) ⟨[u], []⟩) R s := by
  obtain ⟨q, N, bs, sn, sub, ab, col, dd, k0, k1, k2, k3, k5, hC⟩ := T.cls
  have hbm : refsVE (.ref Ad :: veTail) = true := by first | rfl | (simp only [refsVE]; decide)
  obtain ⟨hp, g, dr, tk, os⟩ := s
  have k : ∀ b o, hp.get? b = some o → ((hp.push (kdv_tup [u])).push (excO C hp.objs.size)).get? b = some o := fun b o e => Heap.get?_push_of_some _ (Heap.get?_push_of_some _ e)
  have hget : ((hp.push (kdv_tup [u])).push (excO C hp.objs.size)).get? (hp.objs.size + 1) = some (excO C hp.objs.size) := by heap_get
  have hnx : K.lookup (hp.objs.size + 1) = none := by
    cases e : K.lookup (hp.objs.size + 1) with
    | none => rfl
    | some o =>
      have z : hp.get? (hp.objs.size + 1) = some o := X _ _ e
      exact absurd (Nat.lt_of_succ_lt (Heap.lt_size z)) (Nat.lt_irrefl _)
  refine call_own F.excBase_ValueError (fun X => refsVE_contains X _ hbm) (X _ _ hC) (looks_findIn X T.iC) (fun self => bind_fn X self T.tC) (one_size u) ?_
  refine err_init (s := ⟨(hp.push (kdv_tup [u])).push (excO C hp.objs.size), g, dr, tk, os⟩) T (X.keeps k) (hm.keeps k) (hlim.keeps k) hget hnx ?_ fun h' tk' dx t1 ⟨k', hx, dn, dne, hns⟩ => ?_
  · show A.depth + 1 < recursionLimit
    exact hroom
  · have old : ∀ b o, hp.get? b = some o → h'.get? b = some o := fun b o e => k' b o (Nat.ne_of_lt (Nat.lt_succ_of_lt (Heap.lt_size e))) (k b o e)
    have z : hp.objs.size + 1 + 1 ≤ dx := by
      first
        | (simpa only [Heap.size_push] using dn)
        | exact dn
        | (have q := dn; rw [Heap.size_push, Heap.size_push] at q; exact q)
    exact ⟨rfl, hq h' tk' (hp.objs.size + 1) dx ⟨old, Nat.le_succ _, ⟨_, _, hx, rfl, rfl, rfl, rfl⟩, Nat.le_trans (Nat.le_trans (Nat.le_succ _) (Nat.le_succ _)) z, dne, hns⟩⟩
end
end ErrX
end PySem
namespace Tr
open PySem PySem.Spec PyProof.Rows L2
theorem relO_one {v : V} {v' : Value} (n : Str) (r : RelV v v') (f : Str) : RelO (List.lookup f [(n, v)]) (if f = n then some v' else none) := by
  by_cases hw : f = n
  · subst hw
    rw [if_pos rfl]
    have q : List.lookup f [(f, v)] = some v := by simp [List.lookup]
    rw [q]
    exact r
  · rw [if_neg hw]
    have qw : (f == n) = false := by simpa using hw
    have q2 : List.lookup f [(n, v)] = none := by simp [List.lookup, qw]
    rw [q2]
    trivial
section
variable {X : Cx} {W : WX} {Ad C fI : Addr} {x v : Str}
/-- X(e) for an own error -/
def tMkE (C : Addr) (v : Str) (ta : TA) : Sg → Hp → XK → Prop := fun σ H Q => ta σ H fun vs H1 => ∃ y, vs = [y] ∧ ∀ d, H1 d = none → Q (.ref C) (some d) (upd H1 d (.xd [(v, y)]))
theorem pmk_err {a : Expr} {ta : TA} {p pos : Pos} {k : Nat} (T : PySem.ErrX.ErrTxt X.prog X.K X.mg Ad x v C fI) (hr : Room k X.A) (ha : PA X [a] ta) (hg : Gl X x := by rfl) (hdb : (x == ("__debug__" : Str)) = false := by decide)
    (he : starEach (a :: []) X.env = (false, eval a X.env) :: starEach [] X.env := by rfl) (hpl : (backTo pos (starEach [] X.env)).any (·.1) = false := by rfl) :
    PMk X (.Call (.Name x p) [a] [] pos) (tMkE C v ta) := by
  intro pins s σ H Q I h
  refine wpAny_Call_Name_kw (ld_glob I hg T.gC ?_ hdb)
  refine PySem.W.callWith_K (h₀ := X.base) I.ok.mod.kin T.kC (thn (ha.run pos pins s σ H _ I h) fun us s1 hh => ?_) he hpl
  obtain ⟨vs, H1, I1, r1, y, ev, q1⟩ := hh
  subst ev
  refine ⟨I1.kIn, ?_⟩
  cases r1 with
  | cons rv rn =>
    rename_i v' us'
    cases rn
    show wpAny _ _ (call (.ref C) [v']) _ _ _
    have hlim := I1.nolimit
    have hmo : PySem.ErrX.Mo X.mg s1.heap := PySem.ErrX.Mo.keeps ⟨I1.ok.mod.glob, I1.ok.mod.blt⟩ I1.bk
    obtain ⟨hp, g, dr, tk, os⟩ := s1
    refine wpAny_call (PySem.ErrX.err_made T I1.kIn hmo hlim (by have := hr.dp; omega) fun h' tk' e d M => ?_)
    show MkP X pins σ Q (.ref e) ⟨h', g, dr, tk', os⟩
    obtain ⟨oe, fv, hoe, hc, hd, hdat, h1⟩ := M.obj
    have hns := M.ns
    obtain ⟨G', g1, g2⟩ := restrict h' fun b => decide (b ≠ e)
    have gk : ∀ b, b ≠ e → G'.get? b = h'.get? b := fun b hb => g1 b (decide_eq_true hb)
    have ge : G'.get? e = none := g2 e (by simp)
    have old : ∀ b o, hp.get? b = some o → G'.get? b = some o := fun b o q => (gk b (Nat.ne_of_lt (Nat.lt_of_lt_of_le (Heap.lt_size q) M.new))).trans (M.keep b o q)
    have ob : ObjOk X.prog X.w (upd H1 d (.xd [(v, y)])) G' d (.xd [(v, y)]) :=
      ⟨_, hns.at (fun o q => (gk d M.dne).trans q), fun f => relO_one v rv f⟩
    have J : Inv X pins σ (upd H1 d (.xd [(v, y)])) ⟨G', g, dr, tk', os⟩ := I1.laid (t' := tk') old M.dbig ob
    refine ⟨e, oe, fv, ⟨G', g, dr, tk', os⟩, _, .ref C, some d, rfl, J, fun b o q => ?_, ge, hoe, ⟨hc, hd⟩, hdat, h1, ?_, rfl, I1.bare, raises_own T.exC T.tyC, q1 d (I1.hok.fresh M.dbig)⟩
    · by_cases hb : b = e
      · have q' : G'.get? b = some o := q
        rw [hb, ge] at q'; cases q'
      · exact (gk b hb).symm.trans q
    · rw [upd_ne (Ne.symm M.dne)]
      exact I1.hok.fresh M.new
/-- raise X(e) -/
def fsRaise (c n : Str) (f : FE) : FS := fun ρ => (f ρ).bind fun r => match frz r.2 r.1 with
  | some (d, ρ') => .ex c n d ρ'
  | none => .no
theorem ss_raise {a : Expr} {f : FE} {p pos pos2 : Pos} {k : Nat} (hc : X.calm = true) (T : PySem.ErrX.ErrTxt X.prog X.K X.mg Ad x v C fI) (hr : Room k X.A) (tk : Takes X W) (ha : SE X W a f) (hg : Gl X x := by rfl) (hdb : (x == ("__debug__" : Str)) = false := by decide)
    (he : starEach (a :: []) X.env = (false, eval a X.env) :: starEach [] X.env := by rfl) (hpl : (backTo pos (starEach [] X.env)).any (·.1) = false := by rfl) :
    SS X W (.Raise (some (.Call (.Name x p) [a] [] pos)) none pos2) (fsRaise x v f) :=
  ps_imp (ps_raise hc tk (pmk_err T hr (sa_cons ha sa_nil he) hg hdb he hpl)) fun D σ H ⟨ρ, F, rl, h⟩ => by
    unfold fsRaise at h
    refine ⟨ρ, F, rl, ?_⟩
    unfold faCons
    cases ea : f ρ with
    | no => rw [ea] at h; exact h
    | ex c n d ρ' => rw [ea] at h; exact fun F' H' cls dx s e => h σ F' H' cls dx s e
    | ok ra =>
      rw [ea] at h
      simp only [R.bind, faNil] at h ⊢
      intro xs F1 H1 s1 ⟨y, r, ex, py, pr⟩
      have pr : r = [] := pr
      subst pr
      refine ⟨y, ex, fun d hd => ?_⟩
      have pf : frz ra.2 ra.1.held = frz ra.2 ra.1 := frz_held _ _
      cases ef : frz ra.2 ra.1 with
      | none => simp only [ef] at h
      | some z =>
        obtain ⟨dd, ρ2⟩ := z
        simp only [ef] at h
        obtain ⟨F2, s2, dn⟩ := py.frz s1.rel (pf.trans ef)
        have nw : New (.of X) F2 H1 (upd F2 d (.xd [(v, y)])) (upd H1 d (.xd [(v, y)])) := New.sh s2.rel.sub hd
        exact h σ _ _ _ _ ((s1.trans s2).trans (nw.stp s2.rel)) ⟨C, d, y, T.gC, rfl, rfl, upd_same, dn.mono nw.ff⟩
end
end Tr
/-! Tr, part J: calls of known defs by name, pairs stored at once, try .. except .. as. -/
namespace Tr
open PySem PySem.Spec PyProof.Rows L2
/-- a def of the module, known by name: with room for k calls it does run; ds0: the defaults that fill up -/
structure Cal (P : Program) (w : World) (K : PySem.W.Frag) (mg : Str → Option Value) (base : Heap) (k : Nat) (x : Str) (ds0 : List D) (run : FF) : Prop where
  ex : ∃ (f : Addr) (fd : FuncData) (ps : List Str) (ds : List Value) (dvs : List V), FnA P w K mg base k f fd ps (spP ⟨K, mg⟩ run) ∧ mg x = some (.ref f) ∧ PySem.W.keepIn K (.ref f) = true ∧ Binds K fd ps ds ∧ Vals dvs ds ∧ ∀ F, DenL ⟨K, mg⟩ F ds0 dvs
/-- .. that may change its first argument -/
structure CalB (P : Program) (w : World) (K : PySem.W.Frag) (mg : Str → Option Value) (base : Heap) (k : Nat) (x : Str) (run : FF) : Prop where
  ex : ∃ (f : Addr) (fd : FuncData) (ps : List Str), FnA P w K mg base k f fd ps (spB ⟨K, mg⟩ run) ∧ mg x = some (.ref f) ∧ PySem.W.keepIn K (.ref f) = true ∧ Binds K fd ps []
theorem Cal.mono {P : Program} {w : World} {K : PySem.W.Frag} {mg : Str → Option Value} {base : Heap} {j k : Nat} {x : Str} {ds0 : List D} {run : FF} (c : Cal P w K mg base j x ds0 run) (l : j ≤ k) : Cal P w K mg base k x ds0 run := by
  obtain ⟨f, fd, ps, ds, dvs, h, r⟩ := c.ex
  exact ⟨f, fd, ps, ds, dvs, h.mono l, r⟩
section
variable {X : Cx} {W : WX}
theorem run_fnS' {k : Nat} {f : Addr} {fd : FuncData} {ps : List Str} {sp : Sp} {dvs : List V} {ds : List Value} {E : XK} {pins : List (Addr × Obj)} {σ : Sg} {H : Hp} {s : Shared} {Q : VK} {us : List Value} {vs : List V}
    (G : FnA X.prog X.w X.K X.mg X.base k f fd ps sp) (hgu : X.A.guards = some []) (hr : Room k X.A) (hb : Binds X.K fd ps ds) (hd : Vals dvs ds) (hx : PassesAt (L2.CX X.prog X.w) X σ E)
    (I : Inv X pins σ H s) (r : Vals vs us) (h : sp (vs ++ dvs) H Q E) : wpAny (model X.prog X.w) X.A (call (.ref f) us) (EP X pins σ Q) X.xe s := by
  have rr := r.append hd
  have hl : (us ++ ds).length = ps.length := rr.length.symm.trans (G.len _ _ _ _ h)
  refine wpAny_call (codeAny_mono (G.go X.A X.stack s H ⟨us, []⟩ _ _ Q E hgu hr I.env0 (hb s us I.kIn hl) rr h) ?_)
  intro r s' hq
  match r, hq with
  | .error e, hq => exact hx pins H s e s' I hq
  | .ok (.ret u), hq => exact I.after hq
  | .ok .next, hq => exact hq.elim
  | .ok .brk, hq => exact hq.elim
  | .ok .cont, hq => exact hq.elim
/-- f(e, ..) -/
theorem se_c {x : Str} {k : Nat} {run : FF} {e : Expr} {es : List Expr} {fa : FA} {p pos : Pos} {ds0 : List D} (c : Cal X.prog X.w X.K X.mg X.base k x ds0 run) (hgu : X.A.guards = some []) (hr : Room k X.A) (tk : Takes X W) (ha : SA X W (e :: es) fa) (hg : Gl X x := by rfl) (hdb : (x == ("__debug__" : Str)) = false := by decide)
    (he : starEach (e :: es) X.env = (false, eval e X.env) :: starEach es X.env := by rfl) (hpl : (backTo pos (starEach es X.env)).any (·.1) = false := by rfl) :
    SE X W (.Call (.Name x p) (e :: es) [] pos) (evCall run ds0 fa) := by
  obtain ⟨f, fd, ps, ds, dvs, G, hm, hk, hb, hd, hd0⟩ := c.ex
  refine ⟨fun pins s σ H Q I q => ?_⟩
  have h := evCall_ok (E := fun cls d H => W cls d σ H) hd0 (fun _ _ _ h => h) (fun _ _ _ h => h) q
  exact wpAny_Call_Name_kw (ld_glob I hg hm (PySem.W.callWith_K (h₀ := X.base) I.ok.mod.kin hk (thn (ha.run pos pins s σ H _ I h) fun us s1 hh => by
    obtain ⟨vs, H1, I1, r, q⟩ := hh
    exact ⟨I1.kIn, run_fnS' G hgu hr hb hd (passAt tk σ) I1 r q⟩) he hpl) hdb)
/-- f() -/
theorem se_c0 {x : Str} {k : Nat} {run : FF} {p pos : Pos} {ds0 : List D} (c : Cal X.prog X.w X.K X.mg X.base k x ds0 run) (hgu : X.A.guards = some []) (hr : Room k X.A) (tk : Takes X W) (hg : Gl X x := by rfl) (hdb : (x == ("__debug__" : Str)) = false := by decide) :
    SE X W (.Call (.Name x p) [] [] pos) (evCall run ds0 faNil) := by
  obtain ⟨f, fd, ps, ds, dvs, G, hm, hk, hb, hd, hd0⟩ := c.ex
  refine ⟨fun pins s σ H Q I q => ?_⟩
  have h := evCall_ok (E := fun cls d H => W cls d σ H) hd0 (fun _ _ _ h => h) (fun _ _ _ h => h) q
  obtain ⟨ρ, F, rl, z⟩ := h
  exact wpAny_Call_Name_kw (ld_glob I hg hm (PySem.W.callWith_K0 I.kIn hk (run_fnS' (us := []) (vs := []) G hgu hr hb hd (passAt tk σ) I .nil (z [] F H (Stp.refl rl) rfl))) hdb)
/-- f(x, ..), x lent -/
theorem se_cB {x : Str} {k : Nat} {run : FF} {e : Expr} {es : List Expr} {fa : FA} {p pos : Pos} (c : CalB X.prog X.w X.K X.mg X.base k x run) (hgu : X.A.guards = some []) (hr : Room k X.A) (ha : SA X W (e :: es) fa) (hg : Gl X x := by rfl) (hdb : (x == ("__debug__" : Str)) = false := by decide)
    (he : starEach (e :: es) X.env = (false, eval e X.env) :: starEach es X.env := by rfl) (hpl : (backTo pos (starEach es X.env)).any (·.1) = false := by rfl) :
    SE X W (.Call (.Name x p) (e :: es) [] pos) (evCallB run fa) := by
  obtain ⟨f, fd, ps, G, hm, hk, hb⟩ := c.ex
  refine ⟨fun pins s σ H Q I q => ?_⟩
  have h := evCallB_ok (E := E0) q
  exact wpAny_Call_Name_kw (ld_glob I hg hm (PySem.W.callWith_K (h₀ := X.base) I.ok.mod.kin hk (thn (ha.run pos pins s σ H _ I h) fun us s1 hh => by
    obtain ⟨vs, H1, I1, r, q⟩ := hh
    exact ⟨I1.kIn, run_fnA (CX := L2.CX X.prog X.w) G hgu hr hb (dvs := []) .nil passL I1 r q⟩) he hpl) hdb)

/-! ### a, b = x, y -/
def fsPar (i j : Nat) (fa : FA) : FS := fun ρ => (fa ρ).bind fun r => match frzL r.2 r.1 with
  | some ([d, e], ρ1) => if nbo ρ1 i = true then (if nbo (ρ1.set i (.sh d)) j = true then .ok (.nx, (ρ1.set i (.sh d)).set j (.sh e)) else .no) else .no
  | _ => .no
theorem ss_par {i j : Nat} {x y : Str} {a b : Expr} {fa : FA} {px py pt pos : Pos} {kt k2 pt2} (hc : X.calm = true) (hN : X.N.Nodup) (ha : SA X W [a, b] fa) (hi : X.N[i]? = some x := by rfl) (hj : X.N[j]? = some y := by rfl) (hij : i ≠ j := by decide)
    (hx : X.env.scope.names.lookup x = some .local := by rfl) (hy : X.env.scope.names.lookup y = some .local := by rfl)
    (hw : swappedStores [.Tuple [.Name x px, .Name y py] kt pt] (.Tuple [a, b] k2 pt2) X.env = pure (some [x, y]) := by rfl)
    (hs : swapsWithSole [.Tuple [.Name x px, .Name y py] kt pt] (.Tuple [a, b] k2 pt2) pos.line X.env = pure false := by rfl) :
    SS X W (.Assign [.Tuple [.Name x px, .Name y py] kt pt] (.Tuple [a, b] k2 pt2) pos) (fsPar i j fa) :=
  ps_imp (ps_par hc hN hi hj hij hx hy ha hw hs) fun D σ H ⟨ρ, F, rl, h⟩ => by
    unfold fsPar at h
    refine ⟨ρ, F, rl, ?_⟩
    cases ea : fa ρ with
    | no => rw [ea] at h; exact h
    | ex c n d ρ' => rw [ea] at h; exact fun F' H' cls dx s e => h σ F' H' cls dx s e
    | ok ra =>
      rw [ea] at h
      simp only [R.bind] at h
      intro xs F1 H1 s1 p1
      cases e1 : frzL ra.2 ra.1 with
      | none => simp only [e1] at h
      | some z =>
        obtain ⟨ds, ρ1⟩ := z
        simp only [e1] at h
        obtain ⟨F2, s2, d2⟩ := p1.frz s1.rel e1
        match ds, h, d2 with
        | [d, e], h, ⟨v, r1, ex, dv, w, r2, ew, dw, er⟩ =>
          have er : r2 = [] := er
          subst er
          refine ⟨v, w, by rw [ex, ew], ?_⟩
          by_cases h1 : nbo ρ1 i = true
          · simp only [h1, if_true] at h
            by_cases h2 : nbo (ρ1.set i (.sh d)) j = true
            · simp only [h2, if_true] at h
              have s3 := store_sh s2.rel dv h1
              have s4 := store_sh s3.rel dw h2
              exact h _ F2 H1 ((s1.trans s2).trans (s3.trans s4))
            · simp only [h2] at h; exact h.elim
          · simp only [h1] at h; exact h.elim
def fsPar3 (i j l : Nat) (fa : FA) : FS := fun ρ => (fa ρ).bind fun r => match frzL r.2 r.1 with
  | some ([d, e, f], ρ1) => if nbo ρ1 i = true then (if nbo (ρ1.set i (.sh d)) j = true then (if nbo ((ρ1.set i (.sh d)).set j (.sh e)) l = true then .ok (.nx, ((ρ1.set i (.sh d)).set j (.sh e)).set l (.sh f)) else .no) else .no) else .no
  | _ => .no
theorem ss_par3 {i j l : Nat} {x y z : Str} {a b c : Expr} {fa : FA} {px py pz pt pos : Pos} {kt k2 pt2} (hc : X.calm = true) (hN : X.N.Nodup) (ha : SA X W [a, b, c] fa) (hi : X.N[i]? = some x := by rfl) (hj : X.N[j]? = some y := by rfl) (hl : X.N[l]? = some z := by rfl) (hij : i ≠ j := by decide) (hil : i ≠ l := by decide) (hjl : j ≠ l := by decide)
    (hx : X.env.scope.names.lookup x = some .local := by rfl) (hy : X.env.scope.names.lookup y = some .local := by rfl) (hz : X.env.scope.names.lookup z = some .local := by rfl)
    (hw : swappedStores [.Tuple [.Name x px, .Name y py, .Name z pz] kt pt] (.Tuple [a, b, c] k2 pt2) X.env = pure (some [x, y, z]) := by rfl)
    (hs : swapsWithSole [.Tuple [.Name x px, .Name y py, .Name z pz] kt pt] (.Tuple [a, b, c] k2 pt2) pos.line X.env = pure false := by rfl) :
    SS X W (.Assign [.Tuple [.Name x px, .Name y py, .Name z pz] kt pt] (.Tuple [a, b, c] k2 pt2) pos) (fsPar3 i j l fa) :=
  ps_imp (ps_par3 hc hN hi hj hl hij hil hjl hx hy hz ha hw hs) fun D σ H ⟨ρ, F, rl, h⟩ => by
    unfold fsPar3 at h
    refine ⟨ρ, F, rl, ?_⟩
    cases ea : fa ρ with
    | no => rw [ea] at h; exact h
    | ex c n d ρ' => rw [ea] at h; exact fun F' H' cls dx s e => h σ F' H' cls dx s e
    | ok ra =>
      rw [ea] at h
      simp only [R.bind] at h
      intro xs F1 H1 s1 p1
      cases e1 : frzL ra.2 ra.1 with
      | none => simp only [e1] at h
      | some z =>
        obtain ⟨ds, ρ1⟩ := z
        simp only [e1] at h
        obtain ⟨F2, s2, d2⟩ := p1.frz s1.rel e1
        match ds, h, d2 with
        | [d, e, f], h, ⟨v, r1, ex, dv, w, r2, ew, dw, u, r3, eu, du, er⟩ =>
          have er : r3 = [] := er
          subst er
          refine ⟨v, w, u, by rw [ex, ew, eu], ?_⟩
          by_cases h1 : nbo ρ1 i = true
          · simp only [h1, if_true] at h
            by_cases h2 : nbo (ρ1.set i (.sh d)) j = true
            · simp only [h2, if_true] at h
              by_cases h3 : nbo ((ρ1.set i (.sh d)).set j (.sh e)) l = true
              · simp only [h3, if_true] at h
                have s3 := store_sh s2.rel dv h1
                have s4 := store_sh s3.rel dw h2
                have s5 := store_sh s4.rel du h3
                exact h _ F2 H1 ((s1.trans s2).trans ((s3.trans s4).trans s5))
              · simp only [h3] at h; exact h.elim
            · simp only [h2] at h; exact h.elim
          · simp only [h1] at h; exact h.elim

/-! ### try -/
/-- a name goes -/
theorem store_un {T : Tx} {F H : Hp} {ρ : En} {σ : Sg} {i : Nat} (r : Rel T F H ρ σ) (hb : nbo ρ i = true) : Stp T F H ρ σ F H (ρ.set i .un) (σ.set i none) where
  rel := by
    refine ⟨by rw [List.length_set, List.length_set]; exact r.len, r.sub, fun j e q => ?_, fun j e q => ?_, fun j k e e' c q q' s s' => ?_⟩
    · by_cases w : i = j
      · subst w
        obtain ⟨z, hi⟩ := set_get_self q
        cases z
      · rw [get_set_ne w] at q
        rw [List.getElem?_set_ne w]
        exact r.sh j e q
    · rcases mu_set q with ⟨_, z, _⟩ | ⟨w, q⟩
      · cases z
      · rw [List.getElem?_set_ne w]
        exact r.ow j e q
    · rcases mu_set q with ⟨_, z, _⟩ | ⟨w, q⟩
      · cases z
      · rcases mu_set q' with ⟨_, z, _⟩ | ⟨w', q'⟩
        · cases z
        · rw [List.getElem?_set_ne w] at s
          rw [List.getElem?_set_ne w'] at s'
          exact r.dis j k e e' c q q' s s'
  same := Same.refl F
  keep := fun _ _ h _ => h
  own := fun b ⟨j, e, q, s⟩ => by
    rcases mu_set q with ⟨_, z, _⟩ | ⟨w, q⟩
    · cases z
    · rw [List.getElem?_set_ne w] at s
      exact .inl ⟨j, e, q, s⟩
  dom := fun _ o h => ⟨o, h⟩
  bo := fun j e q => by
    have w := nbo_ne hb q
    exact ⟨⟨e, by rw [get_set_ne w]; exact q⟩, by rw [List.getElem?_set_ne w]⟩
  fz := fun _ _ _ _ _ => rfl
  nb := fun j e q => by
    by_cases w : i = j
    · subst w
      obtain ⟨z, _⟩ := set_get_self q
      cases z
    · rw [get_set_ne w] at q
      exact ⟨e, q⟩
/-- the context of an except suite whose error is held as a value -/
abbrev suite0 (X : Cx) (a : Addr) (pn : List (Addr × Obj)) : Cx := { X with A := X.A.mark (some (.ref a)), calm := false, pn := pn, xe := fun _ _ => False }
theorem ok_suite0 {a : Addr} {pn : List (Addr × Obj)} (ok : X.Ok) : (suite0 X a pn).Ok :=
  ⟨ok.mod, ok.kind, ok.glob, ok.blt, ok.above, ok.inj, ok.has, ok.cab, (fun z => absurd (show false = true from z) Bool.false_ne_true), ok.frames, ok.stk, ok.exf, ok.bs, ok.bsz, ok.noex, ok.exfs, ok.funs, ok.frf⟩
section
variable {pins : List (Addr × Obj)} {σ : Sg} {H : Hp} {s : Shared}
theorem to_suite0 {a : Addr} (I : Inv X pins σ H s) : Inv (suite0 X a (X.pn ++ pins)) [] σ H s :=
  ⟨ok_suite0 I.ok, I.os, I.bare, I.base, I.loc, I.cell, I.free, I.freeC, fun p hp => I.pin p (by rw [List.append_nil] at hp; exact hp), I.hok, I.len⟩
theorem of_suite0 {a : Addr} {pn' : List (Addr × Obj)} (I : Inv (suite0 X a (X.pn ++ pins)) pn' σ H s) (ok : X.Ok) : Inv X pins σ H s :=
  ⟨ok, I.os, I.bare, I.base, I.loc, I.cell, I.free, I.freeC, fun p hp => I.pin p (List.mem_append_left _ hp), I.hok, I.len⟩
/-- an object that nobody has told of is told of -/
theorem adopt {a : Addr} {o : HO} (I : Inv X pins σ H s) (n0 : X.s_0.heap.get? a = none) (na : H a = none) (nL : a ≠ X.env.locals) (nC : ∀ x c, X.env.cells.lookup x = some c → c ≠ a) (nP : ∀ p ∈ X.pn ++ pins, p.1 ≠ a)
    (no : ∀ c, o ≠ .own c) (nt : ∀ xs, o ≠ .tup xs) (new : ObjOk X.prog X.w (upd H a o) s.heap a o) : Inv X pins σ (upd H a o) s := by
  refine ⟨I.ok, I.os, I.bare, ⟨I.base.keep, I.base.slot, fun b ob e n hx => ?_, I.base.there, fun b xs e => ?_, fun b ob v e => ?_, fun b ps e => ?_⟩, I.loc, I.cell, by rw [upd_ne (Ne.symm nL)]; exact I.free, fun x c e => by rw [upd_ne (nC x c e)]; exact I.freeC x c e, fun p hp => ?_, fun b ob e => ?_, I.len⟩
  · have hne : b ≠ a := fun z => by rw [z, n0] at e; cases e
    rw [upd_ne hne]
    exact I.base.free b ob e n hx
  · have q := I.base.tups b xs e
    rw [upd_ne (ne_of_none q na)]
    exact q
  · have q := I.base.frzs b ob v e
    rw [upd_ne (ne_of_none q na)]
    exact q
  · obtain ⟨more, q⟩ := I.base.tbls b ps e
    exact ⟨more, by rw [upd_ne (ne_of_none q na)]; exact q⟩
  · obtain ⟨h1, h2, h3⟩ := I.pin p hp
    exact ⟨h1, by rw [upd_ne (nP p hp)]; exact h2, h3⟩
  · by_cases hb : b = a
    · subst hb
      rw [upd_same] at e
      cases e
      exact new
    · rw [upd_ne hb] at e
      exact (I.hok b ob e).stay (fun c w hc q => q) (fun c q => by rw [upd_ne (ne_of_none q na)]; exact q) fun c xs q => by rw [upd_ne (ne_of_none q na)]; exact q
end
end
end Tr
/-! Tr, part K: try: body, except x as n: suite, the error held as a value. -/
namespace Tr
open PySem PySem.Spec PyProof.Rows L2
/-- what the clause wishes of an exception of the body: slot i is the clause's name -/
def wAs0 (K : PySem.W.Frag) (c : Value) (i : Nat) (ts : TS) (Wout : WX) (D : Ends) : WX := fun cls d σ H =>
  ∃ b, PySem.W.exmOne K cls c = some b ∧ (b = true → ∃ C dx, cls = .ref C ∧ d = some dx ∧ ∀ a, H a = none →
      ts { nx := fun σ' H' => D.nx (σ'.set i none) H', rt := fun _ _ => False, bk := fun _ _ => False, ct := fun _ _ => False } (σ.set i (some (.ref a))) (upd H a (exv C dx a))) ∧
    (b = false → Wout cls d σ H)
section
variable {X : Cx} {x n : Str} {c : Value} {i : Nat} {body suite : List Stmt} {b₀ : Stmt} {np pos pos' : Pos} {tb : WX → TS} {ts : TS} {Wout : WX}
theorem ps_try_as0 (hs : X.stack = X.env :: X.outer) (hf : X.env.frame = some X.env.locals) (hex : X.ex = []) (hN : X.N.Nodup) (hi : X.N[i]? = some n) (hln : X.env.kindOf n = some .local) (hc : Names X x c) (tk : Takes X Wout)
    (hb : ∀ (W : WX) (pn : List (Addr × Obj)) (xe : Value → Shared → Prop), Takes (X.tr pn xe) W → PassesOwn (model X.prog X.w) X.A X.env xe → PSs (X.tr pn xe) body (tb W))
    (hsu : ∀ (a : Addr) (pn : List (Addr × Obj)), PSs (suite0 X a pn) (b₀ :: suite) ts) :
    PS X (.Try body [.ExceptHandler (some (.Name x np)) (some n) (b₀ :: suite) pos'] [] [] pos) (fun D σ H => tb (wAs0 X.K c i ts Wout D) D σ H) := by
  refine ⟨fun pins s σ H D I h => ?_⟩
  have ok := I.ok
  have hfr : X.A.frames = some (X.env :: X.outer) := by rw [ok.frames, hs]
  have hloc : Loc X.env.scope n := .inl hln
  refine wpAny_Try_except ?_
  refine wpAny_mono ((hb (wAs0 X.K c i ts Wout D) (X.pn ++ pins) (fun e s₁ => wpAny (model X.prog X.w) X.A (noteFrame e X.env) (fun _ s₂ => wpAny (model X.prog X.w) X.A (setFlight e none) (fun _ s₃ =>
    wpAny (model X.prog X.w) X.A (handleBy e X.env [.ExceptHandler (some (.Name x np)) (some n) (b₀ :: suite) pos']) (SP X pins D) X.xe s₃) X.xe s₂) X.xe s₁) (fun u s' xx => ?_) PassesOwn.looking).run [] s σ H D (I.toTry _) h) (fun f s1 hsp => ?_) (fun e s1 he => he)
  · obtain ⟨a, B, sI, pins', σ', H', cls, d, rfl, J', nb, up, sky, na, os, ag, b, hb1, hyes, hno⟩ := xx
    have J : Inv X pins σ' H' sI := J'.ofTry ok
    have sky' : Sky B (X.env :: X.outer) a (Zc cls d) X.env.locals s'.heap := by rw [← hs]; exact sky
    show wpAny (model X.prog X.w) X.A (noteFrame (.ref a) X.env) _ _ _
    refine Sky.land Zc.steady hfr hf sky' fun h3 fl3 up3 => ?_
    have J3 : Inv X pins σ' H' { s' with heap := h3 } := J.landed nb fl3.1 (up.trans up3) os ag
    obtain ⟨oe3, vs3, he3, hz3, hd3⟩ := fl3.there
    have notFr : ∀ {h : Heap} {o : Obj} {vs : Array Value}, h.FunFrames B (X.env :: X.outer) → h.get? a = some o → o.data = .fields vs → a ∉ frs (X.env :: X.outer) := fun {h o vs} ff e dd hm => by
      obtain ⟨_, o', e', hnf⟩ := ff.mem hm
      rw [e] at e'; cases e'
      exact hnf _ dd
    have nfr := notFr fl3.2.2.1 he3 hd3
    have nL : a ≠ X.env.locals := fun z => nfr (List.mem_filterMap.mpr ⟨X.env, List.mem_cons_self, by rw [hf, z]⟩)
    have nI : sI.heap.get? a = none := by
      cases e : sI.heap.get? a with
      | none => rfl
      | some o =>
        have y := nb a o e (by rw [hs]; exact nfr)
        rw [fl3.2.1] at y
        cases y
    have n0 : X.s_0.heap.get? a = none := by
      cases e : X.s_0.heap.get? a with
      | none => rfl
      | some o =>
        obtain ⟨o', y⟩ := J.base.there a o e (by rw [hex]; exact List.not_mem_nil)
        rw [nI] at y
        cases y
    have nP : ∀ p ∈ X.pn ++ pins, p.1 ≠ a := fun p hp z => by
      obtain ⟨y, _⟩ := J.pin p hp
      rw [z, nI] at y
      cases y
    have S3 := to_suite0 (a := a) J3
    refine wpAny_handleBy_cons (codeAny_handlers_test ?_) (by intro q; cases q)
    have LT : PySem.W.Looks (model X.prog X.w) h3 (typeOf (.ref a)) cls := fun A Q E s k q => wpAny_typeOf_ref (k _ _ he3) (by rw [hz3.1]; exact q)
    have LM := PySem.W.exm_one (M := model X.prog X.w) (J3.kIn) LT hb1
    have test : ∀ {Q : Value → Shared → Prop} {E : Value → Shared → Prop}, Q c { s' with heap := h3 } → wpAny (model X.prog X.w) (X.A.mark (some (.ref a))) (eval (.Name x np) X.env) Q E { s' with heap := h3 } := fun {Q E} q => by
      obtain ⟨hg, hdbg, hm | ⟨hm, hv, hnn⟩⟩ := hc
      · exact ld_glob (X := suite0 X a (X.pn ++ pins)) S3 hg hm q hdbg
      · exact ld_blt (X := suite0 X a (X.pn ++ pins)) S3 hg hm hv q hnn hdbg
    refine test (LM.here ?_)
    cases b with
    | true =>
      obtain ⟨C, dx, ec, ed, hy2⟩ := hyes rfl
      subst ec ed
      refine codeAny_handlers_suite_as ?_
      refine HandSPX.lands_againZ fl3 fun h4 fl4 up4 => ?_
      have J4 : Inv X pins σ' H' { s' with heap := h4 } := J.landed nb fl4.1 ((up.trans up3).trans up4) os ag
      obtain ⟨oe4, vs4, he4, hz4, hd4⟩ := fl4.there
      have nC : ∀ y cc, X.env.cells.lookup y = some cc → cc ≠ a := fun y cc e z => by
        obtain ⟨v, ob, q1, q2⟩ := J4.cell y cc e
        rw [z, he4] at q1
        cases q1
        rw [hd4] at q2
        cases q2
      have K4 : Inv X pins σ' (upd H' a (exv C dx a)) { s' with heap := h4 } := adopt J4 n0 na nL nC nP (fun _ z => by cases z) (fun _ z => by cases z) ⟨⟨oe4, vs4, he4, hz4.1, hz4.2, hd4⟩, ⟨oe4, he4⟩, fun h1 h2 ⟨oe, vs, e, r⟩ k => ⟨oe, vs, k _ e, r⟩⟩
      have S4 := to_suite0 (a := a) K4
      refine store_ok (X := suite0 X a (X.pn ++ pins)) (v := .ref a) S4 hN hi hloc rfl (fun s5 S5 => ?_) (.inr hln)
      refine wpAny_mono ((hsu a (X.pn ++ pins)).run [] s5 _ _ _ S5 (hy2 a na)) (fun f s6 hsp => ?_) (fun _ _ z => False.elim z)
      have end_ : ∀ {σ6 : Sg} {H6 : Hp} {Q : Shared → Prop}, Inv (suite0 X a (X.pn ++ pins)) [] σ6 H6 s6 → (∀ s7, Inv X pins (σ6.set i none) H6 s7 → Q s7) →
          wpAny (model X.prog X.w) X.A (do bindName X.env n .none; unbindBehindTheSuite X.env n pos') (fun _ s7 => Q s7) X.xe s6 := fun {σ6 H6 Q} S6 hq => gone_ok (of_suite0 S6 ok) hN hi hln hq
      cases f with
      | next =>
        obtain ⟨σ6, H6, S6, q6⟩ := hsp
        exact end_ S6 fun s7 J7 => ⟨_, _, J7, q6⟩
      | brk =>
        obtain ⟨σ6, H6, S6, q6⟩ := hsp
        exact q6.elim
      | cont =>
        obtain ⟨σ6, H6, S6, q6⟩ := hsp
        exact q6.elim
      | ret u =>
        obtain ⟨v6, σ6, H6, S6, r6, q6⟩ := hsp
        exact q6.elim
    | false =>
      show wpAny _ X.A (handleBy (.ref a) X.env []) _ _ _
      refine wpAny_handleBy_nil ?_
      obtain ⟨k1, k2, k3, oe, vs, T, oT, ts', he, hz, hd, h1, hr⟩ := id fl3
      unfold PySem.passOn
      refine wpAny_bind (wpAny_field he hd h1 ?_)
      rw [if_neg (show ¬ ((Value.ref T == Value.none) = true) from by simp)]
      have fin : wpAny (model X.prog X.w) X.A (setFlight (.ref a) X.env.frame) (fun _ s4 => wpAny (model X.prog X.w) X.A (throw (.ref a) : Sem Flow) (SP X pins D) X.xe s4) X.xe { s' with heap := h3 } := by
        rw [hf]
        refine HandSPX.setFlight_upZ fl3 fun h4 hh4 up4 => wpAny_throw (tk _ _ ?_)
        exact ⟨a, B, sI, pins, σ', H', cls, d, rfl, J, nb, (up.trans up3).trans up4, .inr (.inr (by rw [hs]; exact hh4)), na, os, ag, hno rfl⟩
      first
        | exact wpAny_bind (wpAny_pure (wpAny_bind fin))
        | exact wpAny_bind fin
  · cases f with
    | next =>
      obtain ⟨σ', H', J', q⟩ := hsp
      exact wpAny_execs_nil ⟨σ', H', J'.ofTry ok, q⟩
    | brk =>
      obtain ⟨σ', H', J', q⟩ := hsp
      exact ⟨σ', H', J'.ofTry ok, q⟩
    | cont =>
      obtain ⟨σ', H', J', q⟩ := hsp
      exact ⟨σ', H', J'.ofTry ok, q⟩
    | ret u =>
      obtain ⟨v, σ', H', J', r, q⟩ := hsp
      exact ⟨v, σ', H', J'.ofTry ok, r, q⟩
/-- try: body / except x as n: suite; cs: is an error of this class one of x -/
def fsTry (cs : Str → Option Bool) (i : Nat) (fb fs : FS) : FS := fun ρ => match fb ρ with
  | .ok r => .ok r
  | .no => .no
  | .ex c n d ρ' => match cs c with
    | some true => if nbo ρ' i = true then (match fs (ρ'.set i (.sh (.exn c n d))) with
      | .ok (.nx, ρ2) => if nbo ρ2 i = true then .ok (.nx, ρ2.set i .un) else .no
      | _ => .no) else .no
    | some false => .ex c n d ρ'
    | none => .no
theorem ss_try {cs : Str → Option Bool} {fb fs : FS} (hcs : ∀ e b C, cs e = some b → X.mg e = some (.ref C) → PySem.W.exmOne X.K (.ref C) c = some b) (hN : X.N.Nodup) (hi : X.N[i]? = some n) (hc : Names X x c) (tk : Takes X Wout)
    (hb : ∀ (W : WX) (pn : List (Addr × Obj)) (xe : Value → Shared → Prop), Takes (X.tr pn xe) W → PassesOwn (model X.prog X.w) X.A X.env xe → SSs (X.tr pn xe) W body fb)
    (hsu : ∀ (a : Addr) (pn : List (Addr × Obj)), SSs (suite0 X a pn) W0 (b₀ :: suite) fs)
    (hs : X.stack = X.env :: X.outer := by rfl) (hf : X.env.frame = some X.env.locals := by rfl) (hex : X.ex = [] := by rfl) (hln : X.env.kindOf n = some .local := by rfl) :
    SS X Wout (.Try body [.ExceptHandler (some (.Name x np)) (some n) (b₀ :: suite) pos'] [] [] pos) (fsTry cs i fb fs) :=
  ps_imp (ps_try_as0 (tb := fun W => tOfS (.of X) W fb) (ts := tOfS (.of X) W0 fs) hs hf hex hN hi hln hc tk (fun W pn xe t p => hb W pn xe t p) (fun a pn => hsu a pn)) fun D σ H ⟨ρ, F, rl, h⟩ => by
    unfold fsTry at h
    refine ⟨ρ, F, rl, ?_⟩
    cases ea : fb ρ with
    | no => simp only [ea] at h
    | ok ra => simp only [ea] at h; exact h
    | ex c' n' d' ρ' =>
      simp only [ea] at h
      intro σ' F' H' cls dx s1 ⟨C, e, y, hm, hcl, hdx, he, hd⟩
      subst hcl hdx
      cases eb : cs c' with
      | none => simp only [eb] at h
      | some b =>
        refine ⟨b, hcs _ _ _ eb hm, fun hb => ?_, fun hb => ?_⟩
        · subst hb
          simp only [eb] at h
          by_cases h1 : nbo ρ' i = true
          · simp only [h1, if_true] at h
            refine ⟨C, e, rfl, rfl, fun a na => ?_⟩
            have nw : New (.of X) F' H' (upd F' a (exv C e a)) (upd H' a (exv C e a)) := New.sh s1.rel.sub na
            have s2 := nw.stp s1.rel
            have dn : Den (.of X) (upd F' a (exv C e a)) (.exn c' n' d') (.ref a) := ⟨a, C, e, y, rfl, hm, upd_same, nw.ff _ _ he, hd.mono nw.ff⟩
            have s3 := store_sh s2.rel dn h1
            refine ⟨_, _, s3.rel, ?_⟩
            cases ef : fs (ρ'.set i (.sh (.exn c' n' d'))) with
            | no => simp only [ef] at h
            | ex c3 n3 d3 ρ3 => simp only [ef] at h
            | ok rf =>
              obtain ⟨fl, ρ2⟩ := rf
              cases fl with
              | nx =>
                simp only [ef] at h
                by_cases h2 : nbo ρ2 i = true
                · simp only [h2, if_true] at h
                  intro σ2 F2 H2 s4
                  exact h _ F2 H2 ((s1.trans (s2.trans (s3.trans s4))).trans (store_un s4.rel h2))
                · simp only [h2] at h; exact h.elim
              | bk => simp only [ef] at h
              | ct => simp only [ef] at h
              | rt v => simp only [ef] at h
          · simp only [h1] at h; exact h.elim
        · subst hb
          simp only [eb] at h
          exact h σ' F' H' _ _ s1 ⟨C, e, y, hm, rfl, rfl, he, hd⟩
end
end Tr
/-! Tr, part L: repr, isinstance, fields of errors. -/
namespace Tr
open PySem PySem.Spec PyProof.Rows L2
section
variable {X : Cx} {W : WX}
/-! ### {} -/
def evDK : FE := fun ρ => .ok (.fr (.dK [] []), ρ)
theorem se_dK {pos : Pos} : SE X W (.Dict [] [] pos) evDK := pe_imp pe_dnewK fun σ H Q ⟨ρ, F, rl, h⟩ p hp => by
  have nw : New (.of X) F H F (upd H p (.dK [])) := New.fr rl.sub hp
  exact h _ F _ (nw.stp rl) (NRel.vrel rl ⟨p, rfl, rl.sub.free hp, hp, [], upd_same, rfl, rfl⟩)

/-! ### repr -/
mutual
theorem dp_nodict {K : PySem.W.Frag} {H : Hp} : ∀ (p : PyData) {x : V}, Dp K H x p → p.hasDict = false
  | .none, _, _ => rfl
  | .bool _, _, _ => rfl
  | .int _, _, _ => rfl
  | .str _, _, _ => rfl
  | .list ps, _, h => by
    cases h with
    | lst _ ha => simp only [PyData.hasDict]; exact dp_nodicts ps ha
  | .tuple ps, _, h => by
    cases h with
    | tup _ ha => simp only [PyData.hasDict]; exact dp_nodicts ps ha
  | .dict _, _, h => by cases h
theorem dp_nodicts {K : PySem.W.Frag} {H : Hp} : ∀ (ps : List PyData) {xs : List V}, DpAll K H xs ps → PyData.hasDictAll ps = false
  | [], _, _ => rfl
  | p :: ps, _, h => by
    cases h with
    | cons h1 h2 => simp only [PyData.hasDictAll, dp_nodict p h1, dp_nodicts ps h2, Bool.or_self]
end
def rRepr (K : PySem.W.Frag) : List V → Hp → VK → Prop := fun xs H Q => ∃ x, xs = [x] ∧
  ((∃ p, Dp K H x p ∧ p.showable = true ∧ p.depth ≤ 60 ∧ p.shown.length ≤ 16777216 ∧ Q (.str p.shown) H) ∨ (∃ a, x = .ref a ∧ H a = some (.dK []) ∧ Q (.str "{}") H))
theorem call_reprD (hgu : X.A.guards = some []) (hu : X.A.units + 64 < cLine) : CallR X (.builtin "repr") (rRepr X.K) := by
  intro pins s σ H xs us Q I r h
  obtain ⟨x, rfl, h⟩ := h
  obtain ⟨u, rfl, ru⟩ := vals1 r
  rcases h with ⟨p, dp, hs, hd, hl, q⟩ | ⟨a, rfl, ha, q⟩
  · have hl' : p.shown.length ≤ sizeLine := size_le hl
    have nd := dp_nodict p dp
    have fin : ∀ a as, u = .ref a → Reads s.heap u p as → wpAny (model X.prog X.w) X.A (call (.builtin "repr") [u]) (EP X pins σ Q) X.xe s := fun a as e rd => by
      subst e
      exact repr_of_reads' rd hs (fun z => by rw [nd] at z; cases z) hgu (by omega) (fun _ _ e => e) (fun h' t tk k => ⟨.str p.shown, H, I.kept (t' := tk) k, ⟨_, rfl⟩, q⟩) hl'
    obtain ⟨as, rd⟩ := Dp.reads I p x u dp ru
    cases p with
    | none => cases dp; cases ru; exact PySem.P.repr_of_none ⟨.str _, H, I.tok _, ⟨_, rfl⟩, q⟩
    | bool b => cases dp; cases ru; exact PySem.P.repr_of_bool ⟨.str _, H, I.tok _, ⟨_, rfl⟩, q⟩
    | int i =>
      cases dp
      obtain ⟨t, rfl⟩ := ru
      exact PySem.P.repr_of_int (by simpa [PyData.showable] using hs) ⟨.str _, H, I.tok _, ⟨_, rfl⟩, q⟩
    | str y =>
      cases dp
      obtain ⟨t, rfl⟩ := ru
      exact PySem.P.repr_of_str ⟨.str _, H, I.tok _, ⟨_, rfl⟩, q⟩ hl'
    | list ps =>
      cases dp with
      | lst _ _ => exact fin _ as ru rd
    | tuple ps =>
      cases dp with
      | tup _ _ => exact fin _ as ru rd
    | dict _ => cases dp
  · cases (show u = Value.ref a from ru)
    obtain ⟨_, hsm, vs, kv, o, es, ep, h1, h2, h3⟩ := (show ObjOk X.prog X.w H s.heap a (.dK []) from I.hok a _ ha)
    obtain ⟨hdt, _, hp, _⟩ := h3
    have ev : vs = [] := by cases kv; rfl
    subst ev
    have ee : es.toList = [] := by
      cases q : es.toList with
      | nil => rfl
      | cons y ys => rw [q] at hp; cases hp
    have rd : Reads s.heap (.ref a) (.dict []) (a :: [] ++ []) := Reads.dict (kvs := []) h1 h2.1 hdt (by rw [ee]; exact .nil) (by rw [ee]; exact .nil)
    refine repr_of_reads' rd rfl (fun _ hm => ?_) hgu (by show X.A.units + (0 + 1 + 1) < cLine; omega) (fun _ _ e => e) (fun h' t tk k => ⟨.str "{}", H, I.kept (t' := tk) k, ⟨_, rfl⟩, q⟩) (by decide +kernel)
    have hm : sysModules = a := by simpa using hm
    rw [hm, beq_self_eq_true] at hsm
    cases hsm
def reprD : List D → Option Val
  | [.dK [] []] => some (.sh (.str "{}"))
  | [d] => (match toPy d with
    | some p => if p.showable = true ∧ p.depth ≤ 60 ∧ p.shown.length ≤ 16777216 then some (.sh (.str p.shown)) else none
    | none => none)
  | _ => none
theorem cs_repr (hgu : X.A.guards = some []) (hu : X.A.units + 64 < cLine) : CallS X (.builtin "repr") reprD := by
  refine ⟨_, call_reprD hgu hu, fun F H xs ds z Q s px hg k => ?_⟩
  unfold reprD at hg
  split at hg
  · cases hg
    obtain ⟨x, rfl, p⟩ := px.one
    refine ⟨x, rfl, .inr ?_⟩
    rcases p with ⟨a, xs, e1, h1, h2, h3⟩ | ⟨a, e1, xs, h1, h2, h3⟩
    · have h3 : xs = [] := h3
      subst h3
      exact ⟨a, e1, s _ _ h1, plainQ s k rfl⟩
    · have h3 : xs = [] := h3
      subst h3
      exact ⟨a, e1, h1, plainQ s k rfl⟩
  · obtain ⟨x, rfl, p⟩ := px.one
    split at hg
    · rename_i d q e1
      split at hg
      · rename_i hs
        cases hg
        exact ⟨x, rfl, .inl ⟨q, p.dp s e1, hs.1, hs.2.1, hs.2.2, plainQ s k rfl⟩⟩
      · cases hg
    · cases hg
  · cases hg

/-! ### isinstance -/
/-- the built-in class of a value that is no object of an own class -/
def tyN : D → Option String
  | .non => some "NoneType"
  | .bl _ => some "bool"
  | .int _ => some "int"
  | .str _ => some "str"
  | .lst _ => some "list"
  | .tup _ => some "tuple"
  | .dK _ _ => some "dict"
  | .dT _ _ => some "dict"
  | .scr _ => some "list"
  | _ => none
theorem tyN_x {T : Tx} {F H : Hp} {d : D} {x : V} {n : String} (s : Same F H) (p : Pk T F H d x) (e : tyN d = some n) : TyX T.K H x (.type n) := by
  cases d with
  | non => cases e; rcases p with p | ⟨_, _, z⟩; (cases p; exact .base .non); exact z.elim
  | bl b => cases e; rcases p with p | ⟨_, _, z⟩; (cases p; exact .base (.bl b)); exact z.elim
  | int i => cases e; rcases p with p | ⟨_, _, z⟩; (cases p; exact .base (.int i)); exact z.elim
  | str y => cases e; rcases p with p | ⟨_, _, z⟩; (cases p; exact .base (.str y)); exact z.elim
  | lst ds =>
    cases e
    obtain ⟨a, xs, rfl, h1, _⟩ := p.lst s
    exact .base (.lst h1)
  | tup ds =>
    cases e
    obtain ⟨a, xs, rfl, h1, _, _⟩ := p.tup s
    rcases h1 with (h | ⟨o, h⟩) | h
    · exact .base (.tup h)
    · exact .fTuple h
    · obtain ⟨o, its, n, hk, hc, _⟩ := h
      exact .kTuple hk hc
  | dK ks ds =>
    cases e
    rcases p with ⟨a, xs, rfl, h1, _⟩ | ⟨a, rfl, xs, h1, _⟩
    · exact .base (.dK (s _ _ h1))
    · exact .base (.dK h1)
  | dT ks ds =>
    cases e
    rcases p with ⟨a, xs, rfl, h1, _⟩ | ⟨a, rfl, xs, h1, _⟩
    · exact .base (.dT (s _ _ h1))
    · exact .base (.dT h1)
  | scr ns =>
    cases e
    obtain ⟨a, rfl, h1⟩ := p.scr s
    rcases h1 with (h | ⟨o, h⟩) | h
    · exact .base (.lst h)
    · exact .base (.frz h)
    · obtain ⟨o, its, n, hk, hc, _⟩ := h
      exact .kList hk hc
  | ins _ _ _ => cases e
  | exn _ _ _ => cases e
  | ty _ => cases e
  | glo _ => cases e
theorem mro_none {a : String} (h : a ∈ ["NoneType", "bool", "int", "str", "list", "tuple", "dict"]) (C : Addr) : (PySem.fastBuiltinMro a).map (·.contains (Value.ref C)) = some false := by
  simp only [List.mem_cons, List.not_mem_nil, or_false] at h
  rcases h with rfl | rfl | rfl | rfl | rfl | rfl | rfl <;> kernel_rfl
theorem tyN_mem {d : D} {n : String} (e : tyN d = some n) : n ∈ ["NoneType", "bool", "int", "str", "list", "tuple", "dict"] := by
  unfold tyN at e
  split at e <;> (cases e <;> decide)
/-- the own errors of the module: (class, field) -/
structure Errs (P : Program) (K : PySem.W.Frag) (mg : Str → Option Value) (Ad : Addr) (es : List (Str × Str)) : Prop where
  gA : mg "AddError" = some (.ref Ad)
  clsA : ∃ (od : Option Addr) (cd : ClassData) (sl : Array (Option Value)), K.lookup Ad = some ⟨.type "type", od, .cls cd, sl⟩ ∧ cd.name = "AddError"
  excA : PySem.W.subIn K (.ref Ad) (.type "BaseException") = some true
  noA : ∀ v, (("AddError" : Str), v) ∉ es
  all : ∀ c v, (c, v) ∈ es → ∃ C fI, PySem.ErrX.ErrTxt P K mg Ad c v C fI
section
variable {P : Program} {K : PySem.W.Frag} {mg : Str → Option Value} {Ad : Addr} {es : List (Str × Str)}
/-- an own class that isinstance and except may name -/
structure OwnCls (K : PySem.W.Frag) (C : Addr) (n : Str) : Prop where
  cls : ∃ (od : Option Addr) (cd : ClassData) (sl : Array (Option Value)), K.lookup C = some ⟨.type "type", od, .cls cd, sl⟩ ∧ cd.name = n
theorem OwnCls.ok {C : Addr} {n : Str} (o : OwnCls K C n) : ((PySem.W.clsIn K C).isSome && PySem.W.typeIn K (.ref C) == some (.type "type")) = true := by
  obtain ⟨od, cd, sl, h, _⟩ := o.cls
  have h1 : PySem.W.clsIn K C = some cd := by unfold PySem.W.clsIn; rw [h]
  have h2 : PySem.W.typeIn K (.ref C) = some (.type "type") := by
    show (K.lookup C).map (·.cls) = _
    rw [h]; rfl
  rw [h1, h2]; rfl
theorem OwnCls.name {C : Addr} {n m : Str} (o : OwnCls K C n) (o' : OwnCls K C m) : n = m := by
  obtain ⟨od, cd, sl, h, q⟩ := o.cls
  obtain ⟨od', cd', sl', h', q'⟩ := o'.cls
  rw [h] at h'
  cases h'
  exact q.symm.trans q'
theorem OwnCls.of_err {C fI : Addr} {x v : Str} (T : PySem.ErrX.ErrTxt P K mg Ad x v C fI) : OwnCls K C x := by
  obtain ⟨q, N, bs, sn, sub, ab, col, dd, k0, k1, k2, k3, k5, hC⟩ := T.cls
  exact ⟨_, _, _, hC, rfl⟩
theorem kit_plain {a : String} {C : Addr} {n : Str} (o : OwnCls K C n) (h : a ∈ ["NoneType", "bool", "int", "str", "list", "tuple", "dict"]) : PySem.W.kitOne K (.type a) (.ref C) = some false := by
  unfold PySem.W.kitOne
  rw [if_neg (by simp)]
  show (if _ then _ else _) = _
  rw [if_pos o.ok]
  exact mro_none h C
theorem kit_err {C fI C' : Addr} {x v n : Str} (T : PySem.ErrX.ErrTxt P K mg Ad x v C fI) (o : OwnCls K C' n) (oA : OwnCls K Ad "AddError") : PySem.W.kitCls K (.ref C) (.ref C') = some (decide (x = n) || decide (n = "AddError")) ∨ ((C = C' ↔ x = n) ∧ (Ad = C' ↔ n = "AddError")) → PySem.W.kitCls K (.ref C) (.ref C') = some (decide (x = n) || decide (n = "AddError")) := by
  rintro (h | ⟨h1, h2⟩)
  · exact h
  · show (if _ then _ else _) = _
    rw [if_pos o.ok]
    show PySem.W.mroIn K C (.ref C') = _
    rw [T.mro]
    congr 1
    rw [List.contains_cons, List.contains_cons]
    have e1 : (Value.ref C' == Value.ref C) = decide (x = n) := by
      by_cases q : x = n
      · rw [h1.mpr q]; simp [q]
      · rw [decide_eq_false q, beq_eq_false_iff_ne]
        intro z
        cases z
        exact q (h1.mp rfl)
    have e2 : (Value.ref C' == Value.ref Ad) = decide (n = "AddError") := by
      by_cases q : n = "AddError"
      · rw [h2.mpr q]; simp [q]
      · rw [decide_eq_false q, beq_eq_false_iff_ne]
        intro z
        cases z
        exact q (h2.mp rfl)
    rw [e1, e2]
    have e3 : PySem.HandSPX.veTail.contains (Value.ref C') = false := by rfl
    rw [e3, Bool.or_false]
theorem kit_one {C fI C' : Addr} {x v n : Str} (T : PySem.ErrX.ErrTxt P K mg Ad x v C fI) (o : OwnCls K C' n) (oA : OwnCls K Ad "AddError") (g' : mg n = some (.ref C')) (gA : mg "AddError" = some (.ref Ad)) : PySem.W.kitCls K (.ref C) (.ref C') = some (decide (x = n) || decide (n = "AddError")) ∧ PySem.W.kitOne K (.ref C) (.ref C') = some (decide (x = n) || decide (n = "AddError")) := by
  have h1 : C = C' ↔ x = n := ⟨fun e => by subst e; exact (OwnCls.of_err T).name o, fun e => by
    subst e
    have z := T.gC.symm.trans g'
    cases z
    rfl⟩
  have h2 : Ad = C' ↔ n = "AddError" := ⟨fun e => by subst e; exact (oA.name o).symm, fun e => by
    subst e
    have z := gA.symm.trans g'
    cases z
    rfl⟩
  have k := kit_err T o oA (.inr ⟨h1, h2⟩)
  refine ⟨k, ?_⟩
  unfold PySem.W.kitOne
  by_cases q : C = C'
  · subst q
    rw [if_pos (by simp), decide_eq_true (h1.mp rfl)]; rfl
  · rw [if_neg (by simpa using q)]
    exact k
theorem Errs.oA (E : Errs P K mg Ad es) : OwnCls K Ad "AddError" := ⟨E.clsA⟩
/-- is an error of class c one of the class n -/
def isErr (es : List (Str × Str)) (n : Str) (c : Str) : Option Bool := if ((es.map (·.1)).contains c && ((es.map (·.1)).contains n || n == "AddError")) = true then some (decide (c = n) || decide (n = "AddError")) else none
theorem Errs.mem (E : Errs P K mg Ad es) {c : Str} (h : (es.map (·.1)).contains c = true) : ∃ v C fI, (c, v) ∈ es ∧ PySem.ErrX.ErrTxt P K mg Ad c v C fI := by
  rw [List.contains_iff_mem] at h
  obtain ⟨⟨c', v⟩, h1, h2⟩ := List.mem_map.mp h
  cases h2
  obtain ⟨C, fI, T⟩ := E.all _ _ h1
  exact ⟨v, C, fI, h1, T⟩
theorem Errs.named (E : Errs P K mg Ad es) {n : Str} (h : ((es.map (·.1)).contains n || n == "AddError") = true) : ∃ C, mg n = some (.ref C) ∧ OwnCls K C n := by
  rw [Bool.or_eq_true] at h
  rcases h with h | h
  · obtain ⟨v, C, fI, _, T⟩ := E.mem h
    exact ⟨C, T.gC, .of_err T⟩
  · have e : n = "AddError" := beq_iff_eq.mp h
    subst e
    exact ⟨Ad, E.gA, E.oA⟩
theorem Errs.isE (E : Errs P K mg Ad es) {n c : Str} {b : Bool} {C C' : Addr} (h : isErr es n c = some b) (g : mg c = some (.ref C)) (g' : mg n = some (.ref C')) : PySem.W.kitCls K (.ref C) (.ref C') = some b ∧ PySem.W.kitOne K (.ref C) (.ref C') = some b ∧ PySem.W.exmOne K (.ref C) (.ref C') = some b := by
  unfold isErr at h
  split at h
  · rename_i q
    cases h
    rw [Bool.and_eq_true] at q
    obtain ⟨v, D, fI, _, T⟩ := E.mem q.1
    obtain ⟨D', gn, o⟩ := E.named q.2
    have z := T.gC.symm.trans g
    cases z
    have z := gn.symm.trans g'
    cases z
    obtain ⟨k1, k2⟩ := kit_one T o E.oA g' E.gA
    refine ⟨k1, k2, ?_⟩
    unfold PySem.W.exmOne
    have hex : PySem.W.subIn K (.ref C') (.type "BaseException") = some true := by
      have q2 := q.2
      rw [Bool.or_eq_true] at q2
      rcases q2 with h | h
      · obtain ⟨v', D2, fI2, _, T2⟩ := E.mem h
        have z := T2.gC.symm.trans g'
        cases z
        exact T2.exC
      · have e : n = "AddError" := beq_iff_eq.mp h
        subst e
        have z := E.gA.symm.trans g'
        cases z
        exact E.excA
    rw [hex, if_pos (by rfl)]
    exact k1
  · cases h
end
/-- isinstance(e, C): e an error that is held, C an own class -/
def rIsiE (X : Cx) (es : List (Str × Str)) : List V → Hp → VK → Prop := fun xs H Q => ∃ (a C dx C' : Addr) (c n : Str) (fs : List (Str × V)) (b : Bool), xs = [.ref a, .ref C'] ∧ X.mg c = some (.ref C) ∧ X.mg n = some (.ref C') ∧ isErr es n c = some b ∧ H a = some (exv C dx a) ∧ H dx = some (.xd fs) ∧ Q (.bl b) H
theorem exv_inst {X : Cx} {pins : List (Addr × Obj)} {σ : Sg} {H : Hp} {s : Shared} {a C dx : Addr} {fs : List (Str × V)} (I : Inv X pins σ H s) (ha : H a = some (exv C dx a)) (hd : H dx = some (.xd fs)) : ∃ oe od, PySem.W.InstAt s.heap a oe C (some od) ∧ ∃ mA : Str → Option Value, (∀ f, RelO (List.lookup f fs) (mA f)) ∧ ∀ f, PySem.W.lookIn f od = some (mA f) := by
  obtain ⟨⟨oe, vs, h1, h2, h3, h4⟩, _, _⟩ := (show ObjOk X.prog X.w H s.heap a (exv C dx a) from I.hok a _ ha)
  obtain ⟨mA, hns, hr⟩ := (show ObjOk X.prog X.w H s.heap dx (.xd fs) from I.hok dx _ hd)
  obtain ⟨od, ho, hl⟩ := lookIn_ns hns
  exact ⟨oe, od, ⟨h1, h2, by unfold PySem.W.notCls; rw [h4] <;> rfl, by rw [h3]; exact ho⟩, mA, hr, hl⟩
theorem call_isiE {X : Cx} {Ad : Addr} {es : List (Str × Str)} (E : Errs X.prog X.K X.mg Ad es) : CallR X (.builtin "isinstance") (rIsiE X es) := by
  intro pins s σ H xs us Q I r h
  obtain ⟨a, C, dx, C', c, n, fs, b, rfl, g, g', hb, ha, hd, q⟩ := h
  obtain ⟨u1, u2, rfl, r1, r2⟩ := vals2 r
  cases (show u1 = Value.ref a from r1)
  cases (show u2 = Value.ref C' from r2)
  obtain ⟨_, k1, _⟩ := E.isE hb g g'
  have hm : (es.map (·.1)).contains c = true := by
    unfold isErr at hb
    split at hb
    · rename_i q
      rw [Bool.and_eq_true] at q
      exact q.1
    · cases hb
  obtain ⟨v, C2, fI, _, T⟩ := E.mem hm
  have z := T.gC.symm.trans g
  cases z
  obtain ⟨oe, od, J, _⟩ := exv_inst I ha hd
  exact PySem.W.kia_one (PySem.W.kitx_exc T.isC T.ga T.gg T.exC T.clC PySem.ErrX.oc_get PySem.ErrX.oc_takes T.obC) I.kIn J k1 (fun z => nomatch z) fun tk => ⟨.bl b, H, I.tok tk, rfl, q⟩
/-- isinstance(x, C) -/
def isiD (es : List (Str × Str)) : List D → Option Val
  | [.exn c _ _, .glo n] => (isErr es n c).map vB
  | [d, .ty n] => (match tyN d with
    | some a => (kitB a n).map vB
    | none => none)
  | [d, .glo n] => (match tyN d with
    | some _ => if ((es.map (·.1)).contains n || n == "AddError") = true then some (vB false) else none
    | none => none)
  | _ => none
theorem Pk.exn {T : Tx} {F H : Hp} {c n : Str} {d : D} {x : V} (h : Pk T F H (.exn c n d) x) : Den T F (.exn c n d) x := by
  rcases h with h | ⟨_, _, z⟩
  · exact h
  · exact z.elim
theorem Pk.glo {T : Tx} {F H : Hp} {c : Str} {x : V} (h : Pk T F H (.glo c) x) : Den T F (.glo c) x := by
  rcases h with h | ⟨_, _, z⟩
  · exact h
  · exact z.elim
theorem Pk.ty {T : Tx} {F H : Hp} {n : String} {x : V} (h : Pk T F H (.ty n) x) : x = .ty n := by
  rcases h with h | ⟨_, _, z⟩
  · exact h
  · exact z.elim
theorem CallR.or {X : Cx} {f : Value} {r r' : List V → Hp → VK → Prop} (h : CallR X f r) (h' : CallR X f r') : CallR X f (fun xs H Q => r xs H Q ∨ r' xs H Q) := fun pins s σ H xs us Q I v q => q.elim (h pins s σ H xs us Q I v) (h' pins s σ H xs us Q I v)
theorem cs_isi {X : Cx} {Ad : Addr} {es : List (Str × Str)} (E : Errs X.prog X.K X.mg Ad es) : CallS X (.builtin "isinstance") (isiD es) := by
  refine ⟨_, CallR.or call_isi (call_isiE E), fun F H xs ds z Q s px hg k => ?_⟩
  unfold isiD at hg
  split at hg
  · rw [Option.map_eq_some_iff] at hg
    obtain ⟨b, hb, rfl⟩ := hg
    obtain ⟨x, y, rfl, p, q⟩ := px.two
    obtain ⟨a, C, dx, w, rfl, g, h1, h2, _⟩ := p.exn
    obtain ⟨C', g', rfl⟩ := q.glo
    exact .inr ⟨a, C, dx, C', _, _, _, b, rfl, g, g', hb, s _ _ h1, s _ _ h2, plainQ s k rfl⟩
  · split at hg
    · rename_i a e1
      rw [Option.map_eq_some_iff] at hg
      obtain ⟨b, hb, rfl⟩ := hg
      obtain ⟨x, y, rfl, p, q⟩ := px.two
      exact .inl ⟨x, y, _, _, b, rfl, by rw [q.ty]; exact .ty _, tyN_x s p e1, kit_ty hb, plainQ s k rfl⟩
    · cases hg
  · split at hg
    · rename_i a e1
      split at hg
      · rename_i hn
        cases hg
        obtain ⟨x, y, rfl, p, q⟩ := px.two
        obtain ⟨C', g', rfl⟩ := q.glo
        obtain ⟨C2, g2, o⟩ := E.named hn
        have z := g2.symm.trans g'
        cases z
        exact .inl ⟨x, _, _, _, false, rfl, .own _, tyN_x s p e1, kit_plain o (tyN_mem e1), plainQ s k rfl⟩
      · cases hg
    · cases hg
  · cases hg

/-! ### e.field of an error -/
def tXf (X : Cx) (es : List (Str × Str)) (v : Str) (te : TE) : TE := fun σ H Q => te σ H fun x H1 => ∃ (a C dx : Addr) (c : Str) (y : V), x = .ref a ∧ X.mg c = some (.ref C) ∧ (c, v) ∈ es ∧ H1 a = some (exv C dx a) ∧ H1 dx = some (.xd [(v, y)]) ∧ Q y H1
theorem pe_xfE {X : Cx} {Ad : Addr} {es : List (Str × Str)} (E : Errs X.prog X.K X.mg Ad es) {v : Str} {e : Expr} {te : TE} {pos : Pos} (he : PE X e te) (hb : attributeBase e v X.env (eval e X.env) = eval e X.env := by rfl) : PE X (.Attribute e v pos) (tXf X es v te) := by
  refine ⟨fun pins s σ H Q I h => ?_⟩
  refine attr_of hb (thn (he.run pins s σ H _ I h) fun u s1 hh => ?_)
  obtain ⟨x, H1, I1, rx, a, C, dx, c, y, ex, g, hm, ha, hd, q⟩ := hh
  subst ex
  obtain rfl : u = Value.ref a := rx
  obtain ⟨C2, fI, T⟩ := E.all _ _ hm
  have z := T.gC.symm.trans g
  cases z
  obtain ⟨oe, od, J, mA, hr, hl⟩ := exv_inst I1 ha hd
  have l : List.lookup v [(v, y)] = some y := by simp [List.lookup]
  obtain ⟨u, hu, ru⟩ := RelO.some_of (v := y) (o := mA v) (by rw [← l]; exact hr v)
  exact HandSPX.exc_get I1.kIn J T.ga T.gg T.exC (PySem.W.findObj_own T.hdC T.noN rfl (by rw [hl, hu])) (handed_of ru) ⟨y, H1, I1.tok _, ru, q⟩
def xfD (es : List (Str × Str)) (v : Str) : D → Option Val
  | .exn c n d => if es.contains (c, v) = true ∧ n = v then some (.sh d) else none
  | _ => none
theorem se_xf {X : Cx} {W : WX} {Ad : Addr} {es : List (Str × Str)} (E : Errs X.prog X.K X.mg Ad es) {v : Str} {e : Expr} {f : FE} {pos : Pos} (he : SE X W e f) (hb : attributeBase e v X.env (eval e X.env) = eval e X.env := by rfl) : SE X W (.Attribute e v pos) (evUn (xfD es v) f) :=
  pe_imp (pe_xfE E he hb) fun σ H Q h => evUn_ok (r := fun x H1 Q => ∃ (a C dx : Addr) (c : Str) (y : V), x = .ref a ∧ X.mg c = some (.ref C) ∧ (c, v) ∈ es ∧ H1 a = some (exv C dx a) ∧ H1 dx = some (.xd [(v, y)]) ∧ Q y H1) (fun F H x d z Q s px hg k => by
    unfold xfD at hg
    split at hg
    · split at hg
      · rename_i hm
        cases hg
        obtain ⟨hm, rfl⟩ := hm
        obtain ⟨a, C, dx, y, rfl, g, h1, h2, h3⟩ := px.exn
        exact ⟨a, C, dx, _, y, rfl, g, List.contains_iff_mem.mp hm, s _ _ h1, s _ _ h2, plainQ s k h3⟩
      · cases hg
    · cases hg) h
end
end Tr
/-! Tr, part M: the defs of a law, known by name. -/
namespace Tr
open PySem PySem.Spec PyProof.Rows L2
section
variable {P : Program} {w : World} {K : PySem.W.Frag} {mg : Str → Option Value} {base : Heap}
/-- a def as it stands behind the top, with or without defaults -/
structure FunV (K : PySem.W.Frag) (x qual : Str) (st : Stmt) (f : Addr) (fd : FuncData) : Prop where
  ex : ∃ (oc : Value) (od : Option Addr) (dV kV doc pm : Value) (an : Option Addr) (cdv ct : Value) (osl : Array (Option Value)),
    fd = PySem.W.fnOf x qual (defArgs st) (defBody st) (defScope st) dV kV doc pm an cdv ct ∧ K.lookup f = some ⟨oc, od, .func fd, osl⟩ ∧ PySem.W.codeIn K cdv qual = true
  kp : PySem.W.keepIn K (.ref f) = true
theorem funV_mk {x qual : Str} {st : Stmt} {f : Addr} {oc : Value} {od an : Option Addr} {osl : Array (Option Value)} {dV kV doc pm cdv ct : Value} (l : K.lookup f = some ⟨oc, od, .func (PySem.W.fnOf x qual (defArgs st) (defBody st) (defScope st) dV kV doc pm an cdv ct), osl⟩)
    (c : PySem.W.codeIn K cdv qual = true) (k : PySem.W.keepIn K (.ref f) = true) : FunV K x qual st f (PySem.W.fnOf x qual (defArgs st) (defBody st) (defScope st) dV kV doc pm an cdv ct) := ⟨⟨oc, od, dV, kV, doc, pm, an, cdv, ct, osl, rfl, l, c⟩, k⟩
theorem fnV_body {x qual : Str} {st : Stmt} {f : Addr} {fd : FuncData} {N ps : List Str} {k : Nat} {sp : Sp} (F : FunV K x qual st f fd) (S : FnScope N ps (defScope st)) (len : ∀ vs H Q E, sp vs H Q E → vs.length = ps.length)
    (hb : ∀ (cdv : Value) (A : Around) (outer : List Env) (s : Shared) (H : Hp) (vs : List V) (Q : VK) (E : XK), A.guards = some [] → Room k (A.deeper (envOfC qual (defScope st) s.heap.objs.size f cdv)) → sp vs H Q E →
      ∃ t, PSs (cxD P w K mg base N qual st f cdv A outer s H E) (defBody st) t ∧ t { nx := fun _ H' => Q .non H', rt := Q } (L2.start N vs) H) : FnA P w K mg base (k + 1) f fd ps sp := by
  obtain ⟨oc, od, dV, kV, doc, pm, an, cdv, ct, osl, rfl, lk, hcd⟩ := F.ex
  refine ⟨len, fun A outer s H args us vs Q E hgu hr e0 hbi r hsp => ?_⟩
  have hlen := len vs H Q E hsp
  have inS : K.In s.heap := e0.mod.kin.keeps (fun b o e => And.left (e0.bs b o e))
  have nolim := e0.mod.nolimit.keeps (fun b o e => And.left (e0.bs b o e))
  have kinds : ∀ y, y ∈ ps.zip us → (defScope st).names.lookup y.1 = some .local ∨ ((defScope st).names.lookup y.1 = some .cell ∧ ((cellsFrom (s.heap.objs.size + 1) (defScope st).names []).lookup y.1).isSome = true) := by
    rintro ⟨n, v⟩ hy
    have hn : n ∈ ps := (List.of_mem_zip hy).1
    cases S.par n hn with
    | inl q => exact Or.inl q
    | inr q => exact Or.inr ⟨q, PySem.W.cellsFrom_some _ _ _ (Or.inl q)⟩
  apply codeAny_call_function hr.depth (inS _ _ lk) rfl S.co S.gen rfl (PySem.W.codeRec_of inS hcd)
  apply hbi
  apply wpAny_newFunctionEnv_cells S.kind kinds
  intro env he s1 x
  subst he
  constructor
  · exact nolim.keeps x.toInCall.keep
  · apply codeAny_func
    obtain ⟨t, ht, hq⟩ := hb cdv A outer s H vs Q E hgu (hr.deeper _) hsp
    have I0 := inv_start (CX := L2.CX P w) (E := E) S hr.hd e0 hlen r x
    refine wpAny_mono (ht.run [] s1 _ H _ I0 hq) (fun fl s' hs => ?_) (fun _ _ hs => hs)
    cases fl with
    | brk =>
      obtain ⟨_, _, _, z⟩ := hs
      exact z.elim
    | cont =>
      obtain ⟨_, _, _, z⟩ := hs
      exact z.elim
    | ret u =>
      obtain ⟨v, σ1, H1, J, rv, q⟩ := hs
      exact ⟨v, H1, J.os, J.bare, J.base, J.hok, rv, q⟩
    | next =>
      obtain ⟨σ1, H1, J, q⟩ := hs
      exact ⟨V.non, H1, J.os, J.bare, J.base, J.hok, rfl, q⟩
theorem spB_run {N ps : List Str} {E : XK} {fb : FS} {vs : List V} {H : Hp} {Q : VK} (hN : ps.length ≤ N.length) (h : spB ⟨K, mg⟩ (runB N.length ps.length fb) vs H Q E) :
    tOfS ⟨K, mg⟩ (fun cls d _ H' => E cls d H') fb { nx := fun _ H' => Q .non H', rt := Q } (L2.start N vs) H := by
  obtain ⟨G, a, vr, d, dr, e, s0, hn, ho, hd, h⟩ := h
  subst e
  unfold runB at h
  by_cases hl : (d :: dr).length = ps.length
  · rw [if_pos hl] at h
    have hlen : dr.length < N.length := by rw [List.length_cons] at hl; omega
    refine ⟨startB N.length (d :: dr), G, startB_rel s0 hn ho hd hlen, ?_⟩
    have mu : ∀ i e, MuAt (startB N.length (d :: dr)) i e → i = 0 := fun i e ⟨sl, q, z⟩ => by
      cases i with
      | zero => rfl
      | succ i =>
        rcases startB_get q with ⟨c, _, w⟩ | w
        · rw [w] at z; cases z
        · rw [w] at z; cases z
    have nown : ∀ b, some a ≠ some b → ¬ Owned (startB N.length (d :: dr)) (start N (.ref a :: vr)) b := fun b hne ⟨i, e, m, q⟩ => by
      have := mu i e m
      subst this
      cases q
      exact hne rfl
    have only : ∀ i e, MuAt (startB N.length (d :: dr)) i e → ∃ d', (startB N.length (d :: dr))[i]? = some (.bo d') := fun i e m => by
      have := mu i e m
      subst this
      exact ⟨d, rfl⟩
    have cst : ∀ {F' H' ρ' σ'}, Stp ⟨K, mg⟩ G H (startB N.length (d :: dr)) (start N (.ref a :: vr)) F' H' ρ' σ' → Cst G H F' H' (some a) := fun {F' H' ρ' σ'} t =>
      ⟨t.same, t.rel.sub, fun b o q z => t.keep b o q (nown b z), t.dom, fun b o q z z' => t.fz b o q (nown b z) z'⟩
    have lent : ∀ {F' H' ρ' σ' b}, Stp ⟨K, mg⟩ G H (startB N.length (d :: dr)) (start N (.ref a :: vr)) F' H' ρ' σ' → ρ'[0]? = some (.bo b) → F' a = none ∧ OwnAt ⟨K, mg⟩ F' H' b a := fun {F' H' ρ' σ' b} t e => by
      obtain ⟨c, c1, c2, c3⟩ := t.rel.ow 0 b ⟨_, e, rfl⟩
      obtain ⟨_, es⟩ := t.bo 0 d rfl
      rw [es] at c1
      cases c1
      exact ⟨c2, c3⟩
    cases er : fb (startB N.length (d :: dr)) with
    | no => rw [er] at h; exact h
    | ex c n d ρ' => rw [er] at h; exact h.elim
    | ok r =>
      obtain ⟨fl, ρ'⟩ := r
      rw [er] at h
      intro σ' F' H' t
      simp only [finB] at h
      cases e0 : ρ'[0]? with
      | none => simp only [e0] at h
      | some sl =>
        cases sl with
        | bo b =>
          simp only [e0] at h
          obtain ⟨l1, l2⟩ := lent t e0
          cases fl with
          | nx => exact h .non F' H' (cst t) l1 l2 (by unfold BRel; rw [if_neg Bool.false_ne_true]; rfl)
          | bk => exact h.elim
          | ct => exact h.elim
          | rt v =>
            intro y hv
            simp only at h
            cases eq : retV ρ' b v with
            | no => rw [eq] at h; exact h.elim
            | ex c n d => rw [eq] at h; exact h.elim
            | ok fr e b' =>
              rw [eq] at h
              obtain ⟨r1, r2⟩ := retV_rel t only hv eq
              subst r2
              exact h y F' H' (cst t) l1 l2 r1
        | _ => simp only [e0] at h
  · rw [if_neg hl] at h; exact h.elim
theorem fnVP {x qual : Str} {st : Stmt} {f : Addr} {fd : FuncData} {N ps : List Str} {k : Nat} {fb : FS} (F : FunV K x qual st f fd) (S : FnScope N ps (defScope st)) (hb : BdA P w K mg base N qual st f k fb) :
    FnA P w K mg base (k + 1) f fd ps (spP ⟨K, mg⟩ (runP N.length ps.length fb)) := by
  refine fnV_body F S (fun vs H Q E h => ?_) (fun cdv A outer s H vs Q E hg hr h => ⟨_, hb cdv A outer s H E hg hr, spP_run (X := cxD P w K mg base N qual st f cdv A outer s H E) (body := []) h⟩)
  obtain ⟨G, ds, s, hd, h⟩ := h
  unfold runP at h
  by_cases hl : ds.length = ps.length
  · rw [← hd.length, hl]
  · rw [if_neg hl] at h; exact h.elim
theorem fnVB {x qual : Str} {st : Stmt} {f : Addr} {fd : FuncData} {N ps : List Str} {k : Nat} {fb : FS} (F : FunV K x qual st f fd) (S : FnScope N ps (defScope st)) (hN : ps.length ≤ N.length) (hb : BdA P w K mg base N qual st f k fb) :
    FnA P w K mg base (k + 1) f fd ps (spB ⟨K, mg⟩ (runB N.length ps.length fb)) := by
  refine fnV_body F S (fun vs H Q E h => ?_) (fun cdv A outer s H vs Q E hg hr h => ⟨_, hb cdv A outer s H E hg hr, spB_run hN h⟩)
  obtain ⟨G, a, vr, d, dr, e, s, _, _, hd, h⟩ := h
  unfold runB at h
  by_cases hl : (d :: dr).length = ps.length
  · rw [e, List.length_cons, ← hd.length, ← hl, List.length_cons]
  · rw [if_neg hl] at h; exact h.elim
/-- how arguments bind: no defaults; the last ones by defaults -/
structure Bnds (K : PySem.W.Frag) (fd : FuncData) (ps : List Str) (ds0 : List D) : Prop where
  ex : ∃ (ds : List Value) (dvs : List V), Binds K fd ps ds ∧ Vals dvs ds ∧ ∀ (T : Tx) (F : Hp), DenL T F ds0 dvs
theorem bnds0 {fd : FuncData} {ps : List Str} (h : ∀ us : List Value, us.length = ps.length → bindArgs fd ⟨us, []⟩ = pure (ps.zip us)) : Bnds K fd ps [] := ⟨[], [], .all h, .nil, fun _ _ => DenL.nil⟩
/-- a default that is None, the last n parameters -/
theorem bndsN {fd : FuncData} {ps : List Str} {dT : Addr} {oc : Value} {od : Option Addr} {m : Nat} {sl : Array (Option Value)} {its : Array Value} (n q : Nat) (hd : fd.defaults = .ref dT) (lk : K.lookup dT = some ⟨oc, od, .seq its m, sl⟩) (hq : q + n = ps.length)
    (h : ∀ us : List Value, us.length = q → ∃ k, bindArgs fd ⟨us, []⟩ = seqItems? fd.defaults >>= k ∧ k (some its) = pure (ps.zip (us ++ List.replicate n Value.none))) : Bnds K fd ps (List.replicate n .non) := by
  refine ⟨List.replicate n Value.none, List.replicate n .non, fun s us hk hl => ?_, ?_, fun T F => ?_⟩
  · rw [List.length_append, List.length_replicate] at hl
    obtain ⟨k, h1, h2⟩ := h us (by omega)
    exact BindsTo.of_defaults hd (hk _ _ lk) rfl h1 h2
  · clear h hq
    induction n with
    | zero => exact .nil
    | succ n ih => exact .cons rfl ih
  · clear h hq
    induction n with
    | zero => exact DenL.nil
    | succ n ih => exact DenL.cons rfl ih
theorem cal_mk {x : Str} {st : Stmt} {f : Addr} {fd : FuncData} {N ps : List Str} {k : Nat} {fb : FS} {ds0 : List D} (F : FunV K x x st f fd) (S : FnScope N ps (defScope st)) (hm : mg x = some (.ref f)) (b : Bnds K fd ps ds0) (hb : BdA P w K mg base N x st f k fb) :
    Cal P w K mg base (k + 1) x ds0 (runP N.length ps.length fb) := by
  obtain ⟨ds, dvs, h1, h2, h3⟩ := b.ex
  exact ⟨f, fd, ps, ds, dvs, fnVP F S hb, hm, F.kp, h1, h2, fun F => h3 _ F⟩
theorem calB_mk {x : Str} {st : Stmt} {f : Addr} {fd : FuncData} {N ps : List Str} {k : Nat} {fb : FS} (F : FunV K x x st f fd) (S : FnScope N ps (defScope st)) (hN : ps.length ≤ N.length) (hm : mg x = some (.ref f)) (b : Binds K fd ps []) (hb : BdA P w K mg base N x st f k fb) :
    CalB P w K mg base (k + 1) x (runB N.length ps.length fb) := ⟨f, fd, ps, fnVB F S hN hb, hm, F.kp, b⟩
/-- a def that is never called there -/
theorem cal_no {x : Str} {f : Addr} {fd : FuncData} {ps : List Str} {k : Nat} {ds0 : List D} (hm : mg x = some (.ref f)) (kp : PySem.W.keepIn K (.ref f) = true) (b : Bnds K fd ps ds0) : Cal P w K mg base k x ds0 (fun _ => .no) := by
  obtain ⟨ds, dvs, h1, h2, h3⟩ := b.ex
  exact ⟨f, fd, ps, ds, dvs, ⟨fun vs H Q E ⟨_, _, _, _, h⟩ => h.elim, fun A outer s H args us vs Q E _ _ _ _ _ ⟨_, _, _, _, h⟩ => h.elim⟩, hm, kp, h1, h2, fun F => h3 _ F⟩
end
end Tr
/-! Tr, part N: forms of rules for printed terms. -/
namespace Tr
open PySem PySem.Spec PyProof.Rows L2
section
variable {X : Cx} {W : WX}
theorem tk0 : Takes X W0 := fun _ _ ⟨_, _, _, _, _, _, _, _, _, _, _, _, _, _, _, _, w⟩ => w.elim
theorem se_gloE {x : Str} {pos : Pos} (hm : ∃ a, X.mg x = some (.ref a)) (hg : Gl X x := by rfl) (hd : (x == ("__debug__" : Str)) = false := by decide) : SE X W (.Name x pos) (evC (.glo x)) := by
  obtain ⟨a, hm⟩ := hm
  exact se_glo hm hg hd
theorem ss_raiseE {Ad : Addr} {es : List (Str × Str)} {x v : Str} {a : Expr} {f : FE} {p pos pos2 : Pos} {k : Nat} (E : Errs X.prog X.K X.mg Ad es) (hc : X.calm = true) (hr : Room k X.A) (tk : Takes X W) (ha : SE X W a f) (hm : (x, v) ∈ es := by decide +kernel) (hg : Gl X x := by rfl) (hdb : (x == ("__debug__" : Str)) = false := by decide)
    (he : starEach (a :: []) X.env = (false, eval a X.env) :: starEach [] X.env := by rfl) (hpl : (backTo pos (starEach [] X.env)).any (·.1) = false := by rfl) :
    SS X W (.Raise (some (.Call (.Name x p) [a] [] pos)) none pos2) (fsRaise x v f) := by
  obtain ⟨C, fI, T⟩ := E.all _ _ hm
  exact ss_raise hc T hr tk ha hg hdb he hpl
theorem Errs.gE {P : Program} {K : PySem.W.Frag} {mg : Str → Option Value} {Ad : Addr} {es : List (Str × Str)} (E : Errs P K mg Ad es) {x v : Str} (hm : (x, v) ∈ es) : ∃ a, mg x = some (.ref a) := by
  obtain ⟨C, fI, T⟩ := E.all _ _ hm
  exact ⟨C, T.gC⟩
end
end Tr
/-! Tr, part S: what the functions on environments come to, for simp. -/
namespace Tr
open PySem PySem.Spec PyProof.Rows L2
section
variable {α β : Type} {ρ ρ1 ρ2 ρ3 : En} {i j : Nat} {d e : D} {f g : FE} {c c' : FT} {v w : Val} {z : Val} {b : Bool} {a : FA} {vs : List Val} {ds : List D} {k k' : FS} {r : R (Fl × En)}
theorem b_var (h : ρ[i]? = some (.sh d)) : evVar i ρ = .ok (.sh d, ρ) := by unfold evVar; rw [h]
theorem b_varo (h : ρ[i]? = some (.ow d)) : evVar i ρ = .ok (.rf i, ρ) := by unfold evVar; rw [h]
theorem b_varb (h : ρ[i]? = some (.bo d)) : evVar i ρ = .ok (.rf i, ρ) := by unfold evVar; rw [h]
theorem b_c : evC d ρ = .ok (.sh d, ρ) := rfl
theorem b_op {h : D → D → Option Val} (h1 : f ρ = .ok (v, ρ1)) (h2 : g ρ1 = .ok (w, ρ2)) (h3 : peek ρ2 v = some d) (h4 : peek ρ2 w = some e) (h5 : h d e = some z) : evOp h f g ρ = .ok (z, ρ2) := by
  simp only [evOp, h1, h2, R.bind, op2, h3, h4, h5]
theorem b_un {h : D → Option Val} (h1 : f ρ = .ok (v, ρ1)) (h3 : peek ρ1 v = some d) (h5 : h d = some z) : evUn h f ρ = .ok (z, ρ1) := by
  simp only [evUn, h1, R.bind, op1, h3, h5]
theorem b_val (h1 : f ρ = .ok (.sh (.bl b), ρ1)) : ftVal f ρ = .ok (b, ρ1) := by simp only [ftVal, h1, R.bind, asB]
theorem b_tand {r : R (Bool × En)} (h1 : c ρ = .ok (b, ρ1)) (h2 : (if b = true then c' ρ1 else .ok (false, ρ1)) = r) : ftAnd c c' ρ = r := by
  rw [← h2]; simp only [ftAnd, ftThen, h1, R.bind]; cases b <;> rfl
theorem b_tor {r : R (Bool × En)} (h1 : c ρ = .ok (b, ρ1)) (h2 : (if b = true then .ok (true, ρ1) else c' ρ1) = r) : ftOr c c' ρ = r := by
  rw [← h2]; simp only [ftOr, ftThen, h1, R.bind]; cases b <;> rfl
theorem b_tnot (h1 : c ρ = .ok (b, ρ1)) : ftNot c ρ = .ok (!b, ρ1) := by simp only [ftNot, ftThen, h1, R.bind]; rfl
theorem b_ife {r : R (Val × En)} (h1 : c ρ = .ok (b, ρ1)) (h2 : (if b = true then f ρ1 else g ρ1) = r) : evIf c f g ρ = r := by
  rw [← h2]; simp only [evIf, evThen, h1, R.bind]; cases b <;> rfl
theorem b_and {r : R (Val × En)} (h1 : f ρ = .ok (.sh (.bl b), ρ1)) (h2 : (if b = true then g ρ1 else .ok (.sh (.bl false), ρ1)) = r) : evAnd f g ρ = r := by
  rw [← h2]; simp only [evAnd, evThen, b_val h1, R.bind]; cases b <;> rfl
theorem b_or {r : R (Val × En)} (h1 : f ρ = .ok (.sh (.bl b), ρ1)) (h2 : (if b = true then .ok (.sh (.bl true), ρ1) else g ρ1) = r) : evOr f g ρ = r := by
  rw [← h2]; simp only [evOr, evThen, b_val h1, R.bind]; cases b <;> rfl
theorem b_not (h1 : f ρ = .ok (.sh (.bl b), ρ1)) : evNot f ρ = .ok (.sh (.bl (!b)), ρ1) := by simp only [evNot, evThen, b_val h1, R.bind]; rfl
theorem b_nil : faNil ρ = .ok ([], ρ) := rfl
theorem b_cons (h1 : f ρ = .ok (v, ρ1)) (h2 : a ρ1 = .ok (vs, ρ2)) : faCons f a ρ = .ok (v.held :: vs, ρ2) := by simp only [faCons, h1, h2, R.bind]
theorem b_tup (h1 : a ρ = .ok (vs, ρ1)) (h2 : frzL ρ1 vs = some (ds, ρ2)) (h3 : ds.length ≤ 16777216) : evTup a ρ = .ok (.sh (.tup ds), ρ2) := by simp only [evTup, h1, R.bind, dispT, h2, h3, if_true]
theorem b_lst (h1 : a ρ = .ok (vs, ρ1)) (h2 : frzL ρ1 vs = some (ds, ρ2)) (h3 : ds.length ≤ 16777216) : evLst a ρ = .ok (.fr (.lst ds), ρ2) := by simp only [evLst, h1, R.bind, dispL, h2, h3, if_true]
theorem b_b {h : List D → Option Val} (h1 : a ρ = .ok (vs, ρ1)) (h2 : peekL ρ1 vs = some ds) (h3 : h ds = some z) : evB h a ρ = .ok (z, ρ1) := by simp only [evB, h1, R.bind, callG, h2, h3]
theorem b_call {run : FF} {ds0 : List D} {fr : Bool} {y : D} (h1 : a ρ = .ok (vs, ρ1)) (h2 : frzL ρ1 vs = some (ds, ρ2)) (h3 : run (ds ++ ds0) = .ok fr d y) (h4 : backV fr d = z) : evCall run ds0 a ρ = .ok (z, ρ2) := by rw [← h4]; simp only [evCall, h1, R.bind, callP, h2, h3]
theorem b_callX {run : FF} {ds0 : List D} {c n : Str} (h1 : a ρ = .ok (vs, ρ1)) (h2 : frzL ρ1 vs = some (ds, ρ2)) (h3 : run (ds ++ ds0) = .ex c n d) : evCall run ds0 a ρ = .ex c n d ρ2 := by simp only [evCall, h1, R.bind, callP, h2, h3]
theorem b_callB {run : FF} {fr : Bool} {y : D} {us : List Val} (h1 : a ρ = .ok (us, ρ1)) (h0 : us = .rf i :: vs) (h2 : frzL ρ1 vs = some (ds, ρ2)) (h3 : muD ρ2 i = some d) (h4 : run (d :: ds) = .ok fr e y) (h5 : backV fr e = z) : evCallB run a ρ = .ok (z, setMu ρ2 i y) := by subst h0; rw [← h5]; simp only [evCallB, h1, R.bind, callB, h2, h3, h4]
theorem b_foN : foN ρ = .ok (none, ρ) := rfl
theorem b_foS {m : Int} (h1 : f ρ = .ok (.sh (.int m), ρ1)) : foS f ρ = .ok (some m, ρ1) := by simp only [foS, h1, R.bind, asI]
theorem b_sl {fl fh : FO} {l h : Option Int} (h1 : f ρ = .ok (v, ρ1)) (h2 : fl ρ1 = .ok (l, ρ2)) (h3 : fh ρ2 = .ok (h, ρ3)) (h4 : peek ρ3 v = some d) (h5 : slD d l h = some z) : evSl f fl fh ρ = .ok (z, ρ3) := by simp only [evSl, h1, h2, h3, R.bind, slEnd, h4, h5]
/-! statements -/
theorem b_seq {x : R (Fl × En)} (h1 : k ρ = x) (h2 : (x.bind fun r => match r.1 with | .nx => k' r.2 | fl => .ok (fl, r.2)) = r) : fsSeq k k' ρ = r := by rw [← h2, ← h1]; rfl
theorem b_nx (h : k ρ = r) : ((R.ok (Fl.nx, ρ)).bind fun r => match r.1 with | .nx => k r.2 | fl => .ok (fl, r.2)) = r := h
theorem b_rt : ((R.ok (Fl.rt v, ρ)).bind fun r => match r.1 with | .nx => k r.2 | fl => .ok (fl, r.2)) = .ok (.rt v, ρ) := rfl
theorem b_xx {c n : Str} : ((R.ex c n d ρ : R (Fl × En)).bind fun r => match r.1 with | .nx => k r.2 | fl => .ok (fl, r.2)) = .ex c n d ρ := rfl
theorem ite_t {γ : Type} {b : Bool} {x y r : γ} (h : b = true) (h2 : x = r) : (if b = true then x else y) = r := by rw [if_pos h]; exact h2
theorem ite_f {γ : Type} {b : Bool} {x y r : γ} (h : b = false) (h2 : y = r) : (if b = true then x else y) = r := by rw [h, if_neg Bool.false_ne_true]; exact h2
theorem b_fnil : fsNil ρ = .ok (.nx, ρ) := rfl
theorem b_expr (h1 : f ρ = .ok (v, ρ1)) : fsExpr f ρ = .ok (.nx, ρ1) := by simp only [fsExpr, fsVal, h1, R.bind]
theorem b_exprX {c n : Str} (h1 : f ρ = .ex c n d ρ1) : fsExpr f ρ = .ex c n d ρ1 := by simp only [fsExpr, fsVal, h1, R.bind]
theorem b_ret (h1 : f ρ = .ok (v, ρ1)) : fsRet f ρ = .ok (.rt v, ρ1) := by simp only [fsRet, fsVal, h1, R.bind]
theorem b_if (h1 : c ρ = .ok (b, ρ1)) (h2 : (if b = true then k ρ1 else k' ρ1) = r) : fsIf c k k' ρ = r := by rw [← h2]; simp only [fsIf, h1, R.bind]
theorem b_set (h1 : f ρ = .ok (v, ρ1)) (h2 : store ρ1 i v = some ρ2) : fsSet i f ρ = .ok (.nx, ρ2) := by simp only [fsSet, fsVal, h1, R.bind, h2]
theorem b_aug {h : D → D → Option Val} (h0 : ρ[i]? = some (.sh d)) (h1 : f ρ = .ok (v, ρ1)) (h2 : peek ρ1 v = some e) (h3 : h d e = some z) (h4 : store ρ1 i z = some ρ2) : fsAug i h f ρ = .ok (.nx, ρ2) := by
  simp only [fsAug, h0, fsVal, h1, R.bind, augV, h2, h3, h4]
theorem b_par (h1 : a ρ = .ok (vs, ρ1)) (h2 : frzL ρ1 vs = some ([d, e], ρ2)) (h3 : nbo ρ2 i = true) (h4 : nbo (ρ2.set i (.sh d)) j = true) : fsPar i j a ρ = .ok (.nx, (ρ2.set i (.sh d)).set j (.sh e)) := by
  simp only [fsPar, h1, R.bind, h2, h3, h4, if_true]
theorem b_pat {p : Pat} (h1 : f ρ = .ok (v, ρ1)) (h2 : frz ρ1 v = some (d, ρ2)) (h3 : bindP p d ρ2 = some ρ3) : fsPat p f ρ = .ok (.nx, ρ3) := by simp only [fsPat, fsVal, h1, R.bind, h2, h3]
theorem b_raise {c n : Str} (h1 : f ρ = .ok (v, ρ1)) (h2 : frz ρ1 v = some (d, ρ2)) : fsRaise c n f ρ = .ex c n d ρ2 := by simp only [fsRaise, h1, R.bind, h2]
theorem b_put {fi : FE} {m : Int} {n : Nat} {ds' : List D} (h1 : f ρ = .ok (v, ρ1)) (h2 : frz ρ1 v = some (d, ρ2)) (h0 : muL ρ2 i = some ds') (h3 : fi ρ2 = .ok (w, ρ3)) (h4 : peek ρ3 w = some (.int m)) (h5 : muL ρ3 i = some ds) (h6 : ixN ds.length m = some n) : fsPut i fi f ρ = .ok (.nx, setMu ρ3 i (.lst (ds.set n d))) := by
  simp only [fsPut, fsVal, h1, R.bind, setV, h2, h0, h3, h4, h5, h6]
theorem b_app (h0 : muL ρ i = some ds) : fsApp i f ρ = fsVal f (appV i) ρ := by simp only [fsApp, h0]
theorem b_for {fi : FI} {p : Pat} (h1 : fi ρ = .ok (ds, ρ1)) (h2 : loopD p k ds ρ1 = r) : fsFor fi p k ρ = r := by rw [← h2]; simp only [fsFor, h1, R.bind]
theorem b_fiA {q : List Val × En → R (List D × En)} {x : R (List D × En)} (h1 : a ρ = .ok (vs, ρ1)) (h2 : q (vs, ρ1) = x) : fiA a q ρ = x := by rw [← h2]; simp only [fiA, h1, R.bind]
theorem b_fiOf {q : Val × En → R (List D × En)} {x : R (List D × En)} (h1 : f ρ = .ok (v, ρ1)) (h2 : q (v, ρ1) = x) : fiOf f q ρ = x := by rw [← h2]; simp only [fiOf, h1, R.bind]
theorem b_rng1 {m : Int} (h : peekL ρ vs = some [.int m]) (hl : -(2 ^ 62) ≤ m ∧ m < 2 ^ 62) : rng1 (vs, ρ) = .ok ((List.range m.toNat).map fun (i : Nat) => D.int (0 + i), ρ) := by
  simp only [rng1, h]
  exact if_pos hl
theorem b_lc {ws : List Nat} {fi : FI} {p : Pat} {t : FT} {es : List D} (h1 : fi ρ = .ok (ds, ρ1)) (h2 : okW ρ1 ws = true) (h3 : ds.length ≤ 16777216) (h4 : lcL ws p t f ds (wipeE ρ1 ws) = .ok (es, ρ2)) : evLC ws fi p t f ρ = .ok (.fr (.lst es), restE ρ1 ρ2 ws) := by
  simp only [evLC, h1, R.bind, lcEnd, h2, h3, and_self, if_true, h4]
theorem lc_map {ws : List Nat} {p : Pat} {y : D → D} : ∀ {ds : List D}, (∀ d ∈ ds, ∃ ρ', bindP p d ρ = some ρ' ∧ f ρ' = .ok (.sh (y d), ρ') ∧ wipeE ρ' ws = ρ) → lcL ws p ftYes f ds ρ = .ok (ds.map y, ρ)
  | [], _ => rfl
  | d :: ds, h => by
    obtain ⟨ρ', h1, h2, h3⟩ := h d List.mem_cons_self
    have ih := lc_map (ds := ds) fun e he => h e (List.mem_cons_of_mem _ he)
    simp only [lcL, h1, ftYes, R.sure, R.bind, if_true, h2, frz, h3, ih, List.map_cons]
theorem l_nil {p : Pat} : loopD p k [] ρ = .ok (.nx, ρ) := rfl
theorem l_cons {p : Pat} {x : R (Fl × En)} (h1 : bindP p d ρ = some ρ1) (h2 : k ρ1 = x) (h3 : (x.bind fun r => match r.1 with | .nx => loopD p k ds r.2 | .ct => loopD p k ds r.2 | .bk => .ok (.nx, r.2) | .rt v => .ok (.rt v, r.2)) = r) : loopD p k (d :: ds) ρ = r := by
  rw [← h3, ← h2]; simp only [loopD, h1] <;> rfl
theorem l_nx {p : Pat} (h1 : bindP p d ρ = some ρ1) (h2 : k ρ1 = .ok (.nx, ρ2)) (h3 : loopD p k ds ρ2 = r) : loopD p k (d :: ds) ρ = r := by
  rw [← h3]; simp only [loopD, h1, h2, R.bind]
theorem l_rt {p : Pat} (h1 : bindP p d ρ = some ρ1) (h2 : k ρ1 = .ok (.rt v, ρ2)) : loopD p k (d :: ds) ρ = .ok (.rt v, ρ2) := by
  simp only [loopD, h1, h2, R.bind]
theorem w_end {c : FT} {n : Nat} (h1 : c ρ = .ok (false, ρ1)) : whileN c k (n + 1) ρ = .ok (.nx, ρ1) := by simp only [whileN, h1, R.bind]; rfl
theorem w_go {c : FT} {n : Nat} {x : R (Fl × En)} (h1 : c ρ = .ok (true, ρ1)) (h2 : k ρ1 = .ok (.nx, ρ2)) (h3 : whileN c k n ρ2 = r) : whileN c k (n + 1) ρ = r := by
  rw [← h3]; simp only [whileN, h1, R.bind, if_true, h2]
theorem w_rt {c : FT} {n : Nat} (h1 : c ρ = .ok (true, ρ1)) (h2 : k ρ1 = .ok (.rt v, ρ2)) : whileN c k (n + 1) ρ = .ok (.rt v, ρ2) := by
  simp only [whileN, h1, R.bind, if_true, h2]
theorem p_run {n m : Nat} {x : R (Fl × En)} {y : RF} (hl : ds.length = m) (h1 : k (startP n ds) = x) (h2 : finP x = y) : runP n m k ds = y := by rw [← h2, ← h1]; simp only [runP, hl, if_true]
theorem p_runB {n m : Nat} {x : R (Fl × En)} {y : RF} (hl : ds.length = m) (h1 : k (startB n ds) = x) (h2 : finB x = y) : runB n m k ds = y := by rw [← h2, ← h1]; simp only [runB, hl, if_true]
theorem finB_rt (h : ρ[0]? = some (.bo e)) : finB (.ok (.rt (.sh d), ρ)) = .ok false d e := by simp only [finB, h, retV]
/-! operations on ints -/
theorem eqB_i (a b : Int) : eqB (.int a) (.int b) = some (decide (a = b)) := by
  unfold eqB toPy
  have h1 : ∀ i : Int, SeqAt.shaped (.int i) = true := fun _ => by rfl
  simp only [h1, and_self, if_true]
  rfl
theorem eqD_i (a b : Int) : eqD (.int a) (.int b) = some (vB (decide (a = b))) := by unfold eqD; rw [eqB_i]; rfl
theorem neD_i (a b : Int) : neD (.int a) (.int b) = some (vB (!decide (a = b))) := by unfold neD; rw [eqB_i]; rfl
end
/-! ### sizes -/
class Sz (i : Int) (n : outParam Nat) : Prop where
  lt : i.natAbs < 2 ^ n
theorem Sz.log {i : Int} {n : Nat} (h : Sz i n) : i.natAbs.log2 ≤ n := by
  by_cases z : i.natAbs = 0
  · rw [z]; simp
  · exact Nat.le_of_lt ((Nat.log2_lt z).mpr h.lt)
instance sz_l0 : Sz (0 : Int) 0 := ⟨by decide⟩
instance sz_l1 : Sz (1 : Int) 1 := ⟨by decide⟩
instance sz_l2 : Sz (2 : Int) 2 := ⟨by decide⟩
instance sz_l3 : Sz (3 : Int) 2 := ⟨by decide⟩
instance sz_l4 : Sz (4 : Int) 3 := ⟨by decide⟩
instance sz_l5 : Sz (5 : Int) 3 := ⟨by decide⟩
instance sz_l6 : Sz (6 : Int) 3 := ⟨by decide⟩
instance sz_l7 : Sz (7 : Int) 3 := ⟨by decide⟩
instance sz_l8 : Sz (8 : Int) 4 := ⟨by decide⟩
instance sz_l9 : Sz (9 : Int) 4 := ⟨by decide⟩
instance sz_l10 : Sz (10 : Int) 4 := ⟨by decide⟩
instance sz_l12 : Sz (12 : Int) 4 := ⟨by decide⟩
instance sz_l16 : Sz (16 : Int) 5 := ⟨by decide⟩
instance sz_l18 : Sz (18 : Int) 5 := ⟨by decide⟩
instance sz_l19 : Sz (19 : Int) 5 := ⟨by decide⟩
instance sz_l20 : Sz (20 : Int) 5 := ⟨by decide⟩
instance sz_l30 : Sz (30 : Int) 5 := ⟨by decide⟩
instance sz_l39 : Sz (39 : Int) 6 := ⟨by decide⟩
instance sz_l40 : Sz (40 : Int) 6 := ⟨by decide⟩
instance sz_l60 : Sz (60 : Int) 6 := ⟨by decide⟩
instance sz_l61 : Sz (61 : Int) 6 := ⟨by decide⟩
instance sz_l100 : Sz (100 : Int) 7 := ⟨by decide⟩
instance sz_l1000 : Sz (1000 : Int) 10 := ⟨by decide⟩
instance sz_l7919 : Sz (7919 : Int) 13 := ⟨by decide⟩
instance sz_l69621 : Sz (69621 : Int) 17 := ⟨by decide⟩
instance sz_l48271 : Sz (48271 : Int) 16 := ⟨by decide⟩
instance sz_l1103515245 : Sz (1103515245 : Int) 31 := ⟨by decide⟩
instance sz_l2147483587 : Sz (2147483587 : Int) 31 := ⟨by decide⟩
instance sz_l2147483629 : Sz (2147483629 : Int) 31 := ⟨by decide⟩
instance sz_l2147483647 : Sz (2147483647 : Int) 31 := ⟨by decide⟩
theorem Sz.up {i : Int} {m n : Nat} (h : Sz i m) (l : m ≤ n) : Sz i n := ⟨Nat.lt_of_lt_of_le h.lt (Nat.pow_le_pow_right (by decide) l)⟩
instance sz_neg {i : Int} {n : Nat} [h : Sz i n] : Sz (-i) n := ⟨by rw [Int.natAbs_neg]; exact h.lt⟩
instance sz_add {i j : Int} {m n : Nat} [h : Sz i m] [k : Sz j n] : Sz (i + j) (m + n + 1) := ⟨by
  have h1 := h.lt
  have h2 := k.lt
  have h3 : (i + j).natAbs ≤ i.natAbs + j.natAbs := Int.natAbs_add_le i j
  have h4 : 2 ^ m ≤ 2 ^ (m + n) := Nat.pow_le_pow_right (by decide) (by omega)
  have h5 : 2 ^ n ≤ 2 ^ (m + n) := Nat.pow_le_pow_right (by decide) (by omega)
  have h6 : 2 ^ (m + n + 1) = 2 ^ (m + n) * 2 := Nat.pow_succ _ _
  omega⟩
instance sz_sub {i j : Int} {m n : Nat} [h : Sz i m] [k : Sz j n] : Sz (i - j) (m + n + 1) := ⟨by
  have := (sz_add (i := i) (j := -j)).lt
  rwa [← Int.sub_eq_add_neg] at this⟩
instance sz_mul {i j : Int} {m n : Nat} [h : Sz i m] [k : Sz j n] : Sz (i * j) (m + n) := ⟨by
  rw [Int.natAbs_mul, Nat.pow_add]
  exact Nat.mul_lt_mul'' h.lt k.lt⟩
instance sz_pow {i : Int} {n : Nat} (k : Nat) [h : Sz i n] : Sz (i ^ k) (n * k + 1) := ⟨by
  rw [Int.natAbs_pow]
  have h1 : i.natAbs ^ k ≤ (2 ^ n) ^ k := Nat.pow_le_pow_left (Nat.le_of_lt h.lt) k
  rw [← Nat.pow_mul] at h1
  have h2 : 2 ^ (n * k + 1) = 2 ^ (n * k) * 2 := Nat.pow_succ _ _
  have h3 : 0 < 2 ^ (n * k) := Nat.pow_pos (by decide)
  omega⟩
class Ps (j : Int) : Prop where
  nn : 0 ≤ j
instance ps_l0 : Ps (0 : Int) := ⟨by decide⟩
instance ps_l1 : Ps (1 : Int) := ⟨by decide⟩
instance ps_l2 : Ps (2 : Int) := ⟨by decide⟩
instance ps_l3 : Ps (3 : Int) := ⟨by decide⟩
instance ps_l4 : Ps (4 : Int) := ⟨by decide⟩
instance ps_l5 : Ps (5 : Int) := ⟨by decide⟩
instance ps_l6 : Ps (6 : Int) := ⟨by decide⟩
instance ps_l7 : Ps (7 : Int) := ⟨by decide⟩
instance ps_l8 : Ps (8 : Int) := ⟨by decide⟩
instance ps_l9 : Ps (9 : Int) := ⟨by decide⟩
instance ps_l10 : Ps (10 : Int) := ⟨by decide⟩
instance ps_l12 : Ps (12 : Int) := ⟨by decide⟩
instance ps_l16 : Ps (16 : Int) := ⟨by decide⟩
instance ps_l18 : Ps (18 : Int) := ⟨by decide⟩
instance ps_l19 : Ps (19 : Int) := ⟨by decide⟩
instance ps_l20 : Ps (20 : Int) := ⟨by decide⟩
instance ps_l30 : Ps (30 : Int) := ⟨by decide⟩
instance ps_l39 : Ps (39 : Int) := ⟨by decide⟩
instance ps_l40 : Ps (40 : Int) := ⟨by decide⟩
instance ps_l60 : Ps (60 : Int) := ⟨by decide⟩
instance ps_l61 : Ps (61 : Int) := ⟨by decide⟩
instance ps_l100 : Ps (100 : Int) := ⟨by decide⟩
instance ps_l1000 : Ps (1000 : Int) := ⟨by decide⟩
instance ps_l7919 : Ps (7919 : Int) := ⟨by decide⟩
instance ps_l69621 : Ps (69621 : Int) := ⟨by decide⟩
instance ps_l48271 : Ps (48271 : Int) := ⟨by decide⟩
instance ps_l1103515245 : Ps (1103515245 : Int) := ⟨by decide⟩
instance ps_l2147483587 : Ps (2147483587 : Int) := ⟨by decide⟩
instance ps_l2147483629 : Ps (2147483629 : Int) := ⟨by decide⟩
instance ps_l2147483647 : Ps (2147483647 : Int) := ⟨by decide⟩
instance sz_fdiv {i j : Int} {m : Nat} [h : Sz i m] [p : Ps j] : Sz (i.fdiv j) m := ⟨by
  rw [Int.fdiv_eq_ediv_of_nonneg _ p.nn]
  exact Nat.lt_of_le_of_lt (Int.natAbs_ediv_le_natAbs _ _) h.lt⟩
instance sz_fmod {i j : Int} {m n : Nat} [h : Sz i m] [k : Sz j n] [p : Ps j] : Sz (i.fmod j) (m + n) := ⟨by
  have h1 := h.lt
  have h2 := k.lt
  have h4 : 2 ^ m ≤ 2 ^ (m + n) := Nat.pow_le_pow_right (by decide) (by omega)
  have h5 : 2 ^ n ≤ 2 ^ (m + n) := Nat.pow_le_pow_right (by decide) (by omega)
  rw [Int.fmod_eq_emod_of_nonneg _ p.nn]
  have p := p.nn
  by_cases z : j = 0
  · subst z
    rw [Int.emod_zero]
    omega
  · have q1 := Int.emod_nonneg i z
    have q2 := Int.emod_lt_of_pos i (show 0 < j by omega)
    omega⟩
theorem fmod_lt {i j : Int} (h : 0 < j) : 0 ≤ i.fmod j ∧ i.fmod j < j := ⟨Int.fmod_nonneg_of_pos i h, Int.fmod_lt_of_pos i h⟩
theorem mulD_i {a b : Int} {m n : Nat} (ha : Sz a m) (hb : Sz b n) (h : m + n < 1000000) : mulD (.int a) (.int b) = some (vI (a * b)) := by
  unfold mulD
  have h1 := ha.log
  have h2 := hb.log
  exact if_pos (show mulOk a b from by unfold mulOk; omega)
theorem divD_i {a b : Int} {n : Nat} (hb : Sz b n) (h : n < 9000) (hn : b ≠ 0) : divD (.int a) (.int b) = some (vI (a.fdiv b)) := by
  unfold divD
  have h2 := hb.log
  exact if_pos (show divOk b from ⟨hn, by omega⟩)
theorem modD_i {a b : Int} (hn : b ≠ 0) : modD (.int a) (.int b) = some (vI (a.fmod b)) := by
  unfold modD
  exact if_pos hn
end Tr
namespace K60
open PySem PySem.Spec PyProof.Rows L2 Tr
def muFloors : En → Nat := fun ρ => match (ρ[3]? : Option Slot) with
  | some (.sh (.int o)) => o.toNat
  | _ => 0
def top (i : Nat) : Stmt := PySem.Challenge.pw_addnests_k60_floor_sums.main.body.getD i (.Pass ⟨0, 0, 0, 0⟩)
def errL : List (Str × Str) := [("InvalidNumber", "value")]
/-- what the module's top has written, as the bodies need it -/
structure Txt (P : Program) (K : PySem.W.Frag) (mg : Str → Option Value) (Ad : Addr) : Prop where
  n_bool : mg "bool" = none
  n_int : mg "int" = none
  n_isinstance : mg "isinstance" = none
  n_len : mg "len" = none
  n_max : mg "max" = none
  n_min : mg "min" = none
  n_range : mg "range" = none
  n_repr : mg "repr" = none
  n_sum : mg "sum" = none
  errs : Errs P K mg Ad errL
section
variable {P : Program} {w : World} {K : PySem.W.Frag} {mg : Str → Option Value} {base : Heap} {Ad : Addr}
/-! ### floors -/
abbrev s_floors : Stmt := top 4
def N_floors : List Str := ["count", "times", "plus", "over", "found", "top"]
def fb_floors : FS := (fsSeq (fsSet 4 (evC (.int 0)))
 (fsWhile muFloors (ftVal (evC (.bl true)))
 (fsSeq (fsAug 4 iaddD (evOp addD (evOp mulD (evOp divD (evOp mulD (evVar 0) (evOp subD (evVar 0) (evC (.int 1)))) (evC (.int 2))) (evOp divD (evVar 1) (evVar 3))) (evOp mulD (evVar 0) (evOp divD (evVar 2) (evVar 3)))))
 (fsSeq (fsPar 1 2 (faCons (evOp modD (evVar 1) (evVar 3)) (faCons (evOp modD (evVar 2) (evVar 3)) faNil)))
 (fsSeq (fsSet 5 (evOp addD (evOp mulD (evVar 1) (evVar 0)) (evVar 2)))
 (fsSeq (fsIf (ftVal (evOp ltD (evVar 5) (evVar 3)))
 (fsRet (evVar 4))
 fsNil)
 (fsPat (.tp [(.nm 0), (.nm 2), (.nm 1), (.nm 3)]) (evTup (faCons (evOp divD (evVar 5) (evVar 3)) (faCons (evOp modD (evVar 5) (evVar 3)) (faCons (evVar 3) (faCons (evVar 1) faNil))))))))))))
def run_floors : FF := runP 6 4 fb_floors
theorem sc_floors : FnScope N_floors ["count", "times", "plus", "over"] (defScope s_floors) := ⟨rfl, rfl, rfl, by decide +kernel, rfl, by decide +kernel, by decide +kernel⟩
theorem bd_floors {f : Addr} (T : Txt P K mg Ad) : BdA P w K mg base N_floors "floors" s_floors f 0 (fb_floors) := by
  intro cdv A outer s H E hgu hr
  have tk : Takes (cxD P w K mg base N_floors "floors" s_floors f cdv A outer s H E) (fun cls d _ H' => E cls d H') := takes_of rfl rfl rfl rfl
  have hp : PassesOwn (model P w) (cxD P w K mg base N_floors "floors" s_floors f cdv A outer s H E).A (cxD P w K mg base N_floors "floors" s_floors f cdv A outer s H E).env (cxD P w K mg base N_floors "floors" s_floors f cdv A outer s H E).xe := passes_of rfl
  have hu := hr.units
  have hN : N_floors.Nodup := sc_floors.nd
  have hc : (cxD P w K mg base N_floors "floors" s_floors f cdv A outer s H E).calm = true := rfl
  exact (sss_cons (ss_set (i := 4) hN se_int)
 (sss_one (ss_while muFloors hp (st_val se_bl)
 (sss_cons (ss_aug (i := 4) hN os_iadd (se_op os_add (se_op os_mul (se_op os_div (se_op os_mul (se_var 0) (se_op os_sub (se_var 0) se_int)) se_int) (se_op os_div (se_var 1) (se_var 3))) (se_op os_mul (se_var 0) (se_op os_div (se_var 2) (se_var 3)))))
 (sss_cons (ss_par (i := 1) (j := 2) hc hN (sa_cons (se_op os_mod (se_var 1) (se_var 3)) (sa_cons (se_op os_mod (se_var 2) (se_var 3)) sa_nil)))
 (sss_cons (ss_set (i := 5) hN (se_op os_add (se_op os_mul (se_var 1) (se_var 0)) (se_var 2)))
 (sss_cons (ss_if (st_cmp os_lt (se_var 5) (se_var 3))
 (sss_one (ss_ret (se_var 4)))
 sss_nil)
 (sss_one (ss_pat (se_tup (sa_cons (se_op os_div (se_var 5) (se_var 3)) (sa_cons (se_op os_mod (se_var 5) (se_var 3)) (sa_cons (se_var 3) (sa_cons (se_var 1) sa_nil))))) (sg_tp hc (sgs_cons (sg_nm hN) (sgs_cons (sg_nm hN) (sgs_cons (sg_nm hN) (sgs_cons (sg_nm hN) sgs_nil))))))))))))))
/-! ### is_whole -/
abbrev s_is_whole : Stmt := top 6
def N_is_whole : List Str := ["value"]
def fb_is_whole : FS := (fsRet (evAnd (evB (isiD errL) (faCons (evVar 0) (faCons (evC (.ty "int")) faNil))) (evNot (evB (isiD errL) (faCons (evVar 0) (faCons (evC (.ty "bool")) faNil))))))
def run_is_whole : FF := runP 1 1 fb_is_whole
theorem sc_is_whole : FnScope N_is_whole ["value"] (defScope s_is_whole) := ⟨rfl, rfl, rfl, by decide +kernel, rfl, by decide +kernel, by decide +kernel⟩
theorem bd_is_whole {f : Addr} (T : Txt P K mg Ad) : BdA P w K mg base N_is_whole "is_whole" s_is_whole f 0 (fb_is_whole) := by
  intro cdv A outer s H E hgu hr
  have tk : Takes (cxD P w K mg base N_is_whole "is_whole" s_is_whole f cdv A outer s H E) (fun cls d _ H' => E cls d H') := takes_of rfl rfl rfl rfl
  have hp : PassesOwn (model P w) (cxD P w K mg base N_is_whole "is_whole" s_is_whole f cdv A outer s H E).A (cxD P w K mg base N_is_whole "is_whole" s_is_whole f cdv A outer s H E).env (cxD P w K mg base N_is_whole "is_whole" s_is_whole f cdv A outer s H E).xe := passes_of rfl
  have hu := hr.units
  have hN : N_is_whole.Nodup := sc_is_whole.nd
  have hc : (cxD P w K mg base N_is_whole "is_whole" s_is_whole f cdv A outer s H E).calm = true := rfl
  exact (sss_one (ss_ret (se_and (se_b (cs_isi T.errs) T.n_isinstance (by decide +kernel) (sa_cons (se_var 0) (sa_cons (se_ty T.n_int (by decide +kernel)) sa_nil))) (se_one (se_not (se_b (cs_isi T.errs) T.n_isinstance (by decide +kernel) (sa_cons (se_var 0) (sa_cons (se_ty T.n_bool (by decide +kernel)) sa_nil))))))))
/-! ### check_whole -/
abbrev s_check_whole : Stmt := top 7
def N_check_whole : List Str := ["value", "least", "most"]
def fb_check_whole : FS := (fsIf (ftOr (ftNot (ftVal (evCall run_is_whole [] (faCons (evVar 0) faNil)))) (ftOr (ftVal (evOp ltD (evVar 0) (evVar 1))) (ftAnd (ftVal (evOp isNotND (evVar 2) (evC .non))) (ftVal (evOp gtD (evVar 0) (evVar 2))))))
 (fsRaise "InvalidNumber" "value" (evVar 0))
 fsNil)
def run_check_whole : FF := runP 3 3 fb_check_whole
theorem sc_check_whole : FnScope N_check_whole ["value", "least", "most"] (defScope s_check_whole) := ⟨rfl, rfl, rfl, by decide +kernel, rfl, by decide +kernel, by decide +kernel⟩
theorem bd_check_whole {f : Addr} (T : Txt P K mg Ad) (c_is_whole : Cal P w K mg base 1 "is_whole" [] run_is_whole) : BdA P w K mg base N_check_whole "check_whole" s_check_whole f 1 (fb_check_whole) := by
  intro cdv A outer s H E hgu hr
  have tk : Takes (cxD P w K mg base N_check_whole "check_whole" s_check_whole f cdv A outer s H E) (fun cls d _ H' => E cls d H') := takes_of rfl rfl rfl rfl
  have hp : PassesOwn (model P w) (cxD P w K mg base N_check_whole "check_whole" s_check_whole f cdv A outer s H E).A (cxD P w K mg base N_check_whole "check_whole" s_check_whole f cdv A outer s H E).env (cxD P w K mg base N_check_whole "check_whole" s_check_whole f cdv A outer s H E).xe := passes_of rfl
  have hu := hr.units
  have hN : N_check_whole.Nodup := sc_check_whole.nd
  have hc : (cxD P w K mg base N_check_whole "check_whole" s_check_whole f cdv A outer s H E).calm = true := rfl
  exact (sss_one (ss_if (SW.st (sw_or (st_not (st_val (se_c c_is_whole hgu (hr.mono (by omega)) tk (sa_cons (se_var 0) sa_nil)))) (sw_or (st_cmp os_lt (se_var 0) (se_var 1)) (sw_or1 (SW.st (sw_and (st_cmp os_notN (se_var 2) se_non) (sw_and1 (st_cmp os_gt (se_var 0) (se_var 2)))))))))
 (sss_one (ss_raiseE T.errs hc hr tk (se_var 0)))
 sss_nil))
/-! ### floor_sum -/
abbrev s_floor_sum : Stmt := top 9
def N_floor_sum : List Str := ["count", "times", "plus", "over", "number"]
def fb_floor_sum : FS := (fsSeq (fsExpr (evCall run_check_whole [.non] (faCons (evVar 0) (faCons (evC (.int 0)) faNil))))
 (fsSeq (fsFor (fiOf (evTup (faCons (evVar 1) (faCons (evVar 2) faNil))) asQ) (.nm 4)
 (fsIf (ftNot (ftVal (evCall run_is_whole [] (faCons (evVar 4) faNil))))
 (fsRaise "InvalidNumber" "value" (evVar 4))
 fsNil))
 (fsSeq (fsExpr (evCall run_check_whole [.non] (faCons (evVar 3) (faCons (evC (.int 1)) faNil))))
 (fsRet (evCall run_floors [] (faCons (evVar 0) (faCons (evVar 1) (faCons (evVar 2) (faCons (evVar 3) faNil)))))))))
def run_floor_sum : FF := runP 5 4 fb_floor_sum
theorem sc_floor_sum : FnScope N_floor_sum ["count", "times", "plus", "over"] (defScope s_floor_sum) := ⟨rfl, rfl, rfl, by decide +kernel, rfl, by decide +kernel, by decide +kernel⟩
theorem bd_floor_sum {f : Addr} (T : Txt P K mg Ad) (c_check_whole_1 : Cal P w K mg base 2 "check_whole" [.non] run_check_whole) (c_floors : Cal P w K mg base 1 "floors" [] run_floors) (c_is_whole : Cal P w K mg base 1 "is_whole" [] run_is_whole) : BdA P w K mg base N_floor_sum "floor_sum" s_floor_sum f 2 (fb_floor_sum) := by
  intro cdv A outer s H E hgu hr
  have tk : Takes (cxD P w K mg base N_floor_sum "floor_sum" s_floor_sum f cdv A outer s H E) (fun cls d _ H' => E cls d H') := takes_of rfl rfl rfl rfl
  have hp : PassesOwn (model P w) (cxD P w K mg base N_floor_sum "floor_sum" s_floor_sum f cdv A outer s H E).A (cxD P w K mg base N_floor_sum "floor_sum" s_floor_sum f cdv A outer s H E).env (cxD P w K mg base N_floor_sum "floor_sum" s_floor_sum f cdv A outer s H E).xe := passes_of rfl
  have hu := hr.units
  have hN : N_floor_sum.Nodup := sc_floor_sum.nd
  have hc : (cxD P w K mg base N_floor_sum "floor_sum" s_floor_sum f cdv A outer s H E).calm = true := rfl
  exact (sss_cons (ss_expr (se_c c_check_whole_1 hgu (hr.mono (by omega)) tk (sa_cons (se_var 0) (sa_cons se_int sa_nil))))
 (sss_cons (ss_for hp hc (si_seq (se_tup (sa_cons (se_var 1) (sa_cons (se_var 2) sa_nil)))) (sg_nm hN)
 (sss_one (ss_if (st_not (st_val (se_c c_is_whole hgu (hr.mono (by omega)) tk (sa_cons (se_var 4) sa_nil))))
 (sss_one (ss_raiseE T.errs hc hr tk (se_var 4)))
 sss_nil)))
 (sss_cons (ss_expr (se_c c_check_whole_1 hgu (hr.mono (by omega)) tk (sa_cons (se_var 3) (sa_cons se_int sa_nil))))
 (sss_one (ss_ret (se_c c_floors hgu (hr.mono (by omega)) tk (sa_cons (se_var 0) (sa_cons (se_var 1) (sa_cons (se_var 2) (sa_cons (se_var 3) sa_nil))))))))))
/-! ### _law_cell -/
abbrev s__law_cell : Stmt := top 11
def N__law_cell : List Str := ["_law_script", "_law_index"]
def fb__law_cell : FS := (fsSeq (fsIf (ftVal (evOp ltD (evVar 1) (evB lenD (faCons (evVar 0) faNil))))
 (fsRet (evOp ixD (evVar 0) (evVar 1)))
 fsNil)
 (fsRet (evC (.int 0))))
def run__law_cell : FF := runP 2 2 fb__law_cell
theorem sc__law_cell : FnScope N__law_cell ["_law_script", "_law_index"] (defScope s__law_cell) := ⟨rfl, rfl, rfl, by decide +kernel, rfl, by decide +kernel, by decide +kernel⟩
theorem bd__law_cell {f : Addr} (T : Txt P K mg Ad) : BdA P w K mg base N__law_cell "_law_cell" s__law_cell f 0 (fb__law_cell) := by
  intro cdv A outer s H E hgu hr
  have tk : Takes (cxD P w K mg base N__law_cell "_law_cell" s__law_cell f cdv A outer s H E) (fun cls d _ H' => E cls d H') := takes_of rfl rfl rfl rfl
  have hp : PassesOwn (model P w) (cxD P w K mg base N__law_cell "_law_cell" s__law_cell f cdv A outer s H E).A (cxD P w K mg base N__law_cell "_law_cell" s__law_cell f cdv A outer s H E).env (cxD P w K mg base N__law_cell "_law_cell" s__law_cell f cdv A outer s H E).xe := passes_of rfl
  have hu := hr.units
  have hN : N__law_cell.Nodup := sc__law_cell.nd
  have hc : (cxD P w K mg base N__law_cell "_law_cell" s__law_cell f cdv A outer s H E).calm = true := rfl
  exact (sss_cons (ss_if (st_cmp os_lt (se_var 1) (se_b cs_len T.n_len (by decide +kernel) (sa_cons (se_var 0) sa_nil)))
 (sss_one (ss_ret (se_ix is_ix (se_var 0) (se_var 1))))
 sss_nil)
 (sss_one (ss_ret se_int)))
/-! ### _law_hash -/
abbrev s__law_hash : Stmt := top 12
def N__law_hash : List Str := ["_law_seed", "_law_index", "_law_mixed"]
def fb__law_hash : FS := (fsSeq (fsSet 2 (evOp modD (evB intD (faCons (evOp addD (evOp addD (evOp addD (evOp mulD (evVar 0) (evC (.int 1103515245))) (evOp mulD (evOp mulD (evC (.int 7919)) (evVar 1)) (evVar 1))) (evVar 1)) (evC (.int 1))) faNil)) (evC (.int 2147483647))))
 (fsSeq (fsSet 2 (evOp modD (evB intD (faCons (evOp addD (evOp mulD (evVar 2) (evVar 2)) (evC (.int 69621))) faNil)) (evC (.int 2147483629))))
 (fsRet (evOp modD (evB intD (faCons (evOp mulD (evVar 2) (evC (.int 48271))) faNil)) (evC (.int 2147483587))))))
def run__law_hash : FF := runP 3 2 fb__law_hash
theorem sc__law_hash : FnScope N__law_hash ["_law_seed", "_law_index"] (defScope s__law_hash) := ⟨rfl, rfl, rfl, by decide +kernel, rfl, by decide +kernel, by decide +kernel⟩
theorem bd__law_hash {f : Addr} (T : Txt P K mg Ad) : BdA P w K mg base N__law_hash "_law_hash" s__law_hash f 0 (fb__law_hash) := by
  intro cdv A outer s H E hgu hr
  have tk : Takes (cxD P w K mg base N__law_hash "_law_hash" s__law_hash f cdv A outer s H E) (fun cls d _ H' => E cls d H') := takes_of rfl rfl rfl rfl
  have hp : PassesOwn (model P w) (cxD P w K mg base N__law_hash "_law_hash" s__law_hash f cdv A outer s H E).A (cxD P w K mg base N__law_hash "_law_hash" s__law_hash f cdv A outer s H E).env (cxD P w K mg base N__law_hash "_law_hash" s__law_hash f cdv A outer s H E).xe := passes_of rfl
  have hu := hr.units
  have hN : N__law_hash.Nodup := sc__law_hash.nd
  have hc : (cxD P w K mg base N__law_hash "_law_hash" s__law_hash f cdv A outer s H E).calm = true := rfl
  exact (sss_cons (ss_set (i := 2) hN (se_op os_mod (se_bt cs_int T.n_int (by decide +kernel) (sa_cons (se_op os_add (se_op os_add (se_op os_add (se_op os_mul (se_var 0) se_int) (se_op os_mul (se_op os_mul se_int (se_var 1)) (se_var 1))) (se_var 1)) se_int) sa_nil)) se_int))
 (sss_cons (ss_set (i := 2) hN (se_op os_mod (se_bt cs_int T.n_int (by decide +kernel) (sa_cons (se_op os_add (se_op os_mul (se_var 2) (se_var 2)) se_int) sa_nil)) se_int))
 (sss_one (ss_ret (se_op os_mod (se_bt cs_int T.n_int (by decide +kernel) (sa_cons (se_op os_mul (se_var 2) se_int) sa_nil)) se_int)))))
/-! ### _law_generator -/
abbrev s__law_generator : Stmt := top 13
def N__law_generator : List Str := ["_law_script", "_law_index", "_law_seed"]
def fb__law_generator : FS := (fsSeq (fsSet 2 (evCall run__law_cell [] (faCons (evVar 0) (faCons (evVar 1) faNil))))
 (fsRet (evLst (faCons (evOp modD (evB intD (faCons (evB maxD (faCons (evOp subD (evVar 2) (evOp powD (evC (.int 10)) (evC (.int 18)))) (faCons (evC (.int 0)) faNil))) faNil)) (evOp powD (evOp powD (evC (.int 10)) (evC (.int 60))) (evC (.int 10)))) (faCons (evOp modD (evB intD (faCons (evVar 2) faNil)) (evC (.int 2147483647))) (faCons (evOp mulD (evC (.int 1000)) (evVar 1)) faNil))))))
def run__law_generator : FF := runP 3 2 fb__law_generator
theorem sc__law_generator : FnScope N__law_generator ["_law_script", "_law_index"] (defScope s__law_generator) := ⟨rfl, rfl, rfl, by decide +kernel, rfl, by decide +kernel, by decide +kernel⟩
theorem bd__law_generator {f : Addr} (T : Txt P K mg Ad) (c__law_cell : Cal P w K mg base 1 "_law_cell" [] run__law_cell) : BdA P w K mg base N__law_generator "_law_generator" s__law_generator f 1 (fb__law_generator) := by
  intro cdv A outer s H E hgu hr
  have tk : Takes (cxD P w K mg base N__law_generator "_law_generator" s__law_generator f cdv A outer s H E) (fun cls d _ H' => E cls d H') := takes_of rfl rfl rfl rfl
  have hp : PassesOwn (model P w) (cxD P w K mg base N__law_generator "_law_generator" s__law_generator f cdv A outer s H E).A (cxD P w K mg base N__law_generator "_law_generator" s__law_generator f cdv A outer s H E).env (cxD P w K mg base N__law_generator "_law_generator" s__law_generator f cdv A outer s H E).xe := passes_of rfl
  have hu := hr.units
  have hN : N__law_generator.Nodup := sc__law_generator.nd
  have hc : (cxD P w K mg base N__law_generator "_law_generator" s__law_generator f cdv A outer s H E).calm = true := rfl
  exact (sss_cons (ss_set (i := 2) hN (se_c c__law_cell hgu (hr.mono (by omega)) tk (sa_cons (se_var 0) (sa_cons (se_var 1) sa_nil))))
 (sss_one (ss_ret (se_lst (sa_cons (se_op os_mod (se_bt cs_int T.n_int (by decide +kernel) (sa_cons (se_b (cs_max hc) T.n_max (by decide +kernel) (sa_cons (se_op os_sub (se_var 2) (se_op os_pow se_int se_int)) (sa_cons se_int sa_nil))) sa_nil)) (se_op os_pow (se_op os_pow se_int se_int) se_int)) (sa_cons (se_op os_mod (se_bt cs_int T.n_int (by decide +kernel) (sa_cons (se_var 2) sa_nil)) se_int) (sa_cons (se_op os_mul se_int (se_var 1)) sa_nil)))))))
/-! ### _law_random -/
abbrev s__law_random : Stmt := top 14
def N__law_random : List Str := ["_law_generator_here", "_law_bound", "_law_drawn", "_law_turn"]
def fb__law_random : FS := (fsSeq (fsIf (ftVal (evOp gtD (evOp ixD (evVar 0) (evC (.int 0))) (evC (.int 0))))
 (fsSeq (fsSet 2 (evOp modD (evB intD (faCons (evOp ixD (evVar 0) (evC (.int 0))) faNil)) (evVar 1)))
 (fsSeq (fsPut 0 (evC (.int 0)) (evOp divD (evOp ixD (evVar 0) (evC (.int 0))) (evVar 1)))
 (fsRet (evVar 2))))
 fsNil)
 (fsSeq (fsSet 2 (evC (.int 0)))
 (fsSeq (fsFor (fiA (faCons (evOp addD (evC (.int 1)) (evOp divD (evUn bitsD (evVar 1)) (evC (.int 30)))) faNil) rng1) (.nm 3)
 (fsSeq (fsPut 0 (evC (.int 2)) (evOp addD (evOp ixD (evVar 0) (evC (.int 2))) (evC (.int 1))))
 (fsSet 2 (evOp addD (evOp mulD (evVar 2) (evC (.int 2147483587))) (evCall run__law_hash [] (faCons (evOp ixD (evVar 0) (evC (.int 1))) (faCons (evOp ixD (evVar 0) (evC (.int 2))) faNil)))))))
 (fsRet (evOp modD (evB intD (faCons (evVar 2) faNil)) (evVar 1))))))
def run__law_random : FF := runB 4 2 fb__law_random
theorem sc__law_random : FnScope N__law_random ["_law_generator_here", "_law_bound"] (defScope s__law_random) := ⟨rfl, rfl, rfl, by decide +kernel, rfl, by decide +kernel, by decide +kernel⟩
theorem bd__law_random {f : Addr} (T : Txt P K mg Ad) (c__law_hash : Cal P w K mg base 1 "_law_hash" [] run__law_hash) : BdA P w K mg base N__law_random "_law_random" s__law_random f 1 (fb__law_random) := by
  intro cdv A outer s H E hgu hr
  have tk : Takes (cxD P w K mg base N__law_random "_law_random" s__law_random f cdv A outer s H E) (fun cls d _ H' => E cls d H') := takes_of rfl rfl rfl rfl
  have hp : PassesOwn (model P w) (cxD P w K mg base N__law_random "_law_random" s__law_random f cdv A outer s H E).A (cxD P w K mg base N__law_random "_law_random" s__law_random f cdv A outer s H E).env (cxD P w K mg base N__law_random "_law_random" s__law_random f cdv A outer s H E).xe := passes_of rfl
  have hu := hr.units
  have hN : N__law_random.Nodup := sc__law_random.nd
  have hc : (cxD P w K mg base N__law_random "_law_random" s__law_random f cdv A outer s H E).calm = true := rfl
  exact (sss_cons (ss_if (st_cmp os_gt (se_ix is_ix (se_var 0) se_int) se_int)
 (sss_cons (ss_set (i := 2) hN (se_op os_mod (se_bt cs_int T.n_int (by decide +kernel) (sa_cons (se_ix is_ix (se_var 0) se_int) sa_nil)) (se_var 1)))
 (sss_cons (ss_put (i := 0) (se_op os_div (se_ix is_ix (se_var 0) se_int) (se_var 1)) se_int)
 (sss_one (ss_ret (se_var 2)))))
 sss_nil)
 (sss_cons (ss_set (i := 2) hN se_int)
 (sss_cons (ss_for hp hc (si_range1 T.n_range (sa_cons (se_op os_add se_int (se_op os_div (se_bits (se_var 1)) se_int)) sa_nil)) (sg_nm hN)
 (sss_cons (ss_put (i := 0) (se_op os_add (se_ix is_ix (se_var 0) se_int) se_int) se_int)
 (sss_one (ss_set (i := 2) hN (se_op os_add (se_op os_mul (se_var 2) se_int) (se_c c__law_hash hgu (hr.mono (by omega)) tk (sa_cons (se_ix is_ix (se_var 0) se_int) (sa_cons (se_ix is_ix (se_var 0) se_int) sa_nil))))))))
 (sss_one (ss_ret (se_op os_mod (se_bt cs_int T.n_int (by decide +kernel) (sa_cons (se_var 2) sa_nil)) (se_var 1)))))))
/-! ### _law_whole -/
abbrev s__law_whole : Stmt := top 15
def N__law_whole : List Str := ["_law_thing"]
def fb__law_whole : FS := (fsRet (evAnd (evB (isiD errL) (faCons (evVar 0) (faCons (evC (.ty "int")) faNil))) (evNot (evB (isiD errL) (faCons (evVar 0) (faCons (evC (.ty "bool")) faNil))))))
def run__law_whole : FF := runP 1 1 fb__law_whole
theorem sc__law_whole : FnScope N__law_whole ["_law_thing"] (defScope s__law_whole) := ⟨rfl, rfl, rfl, by decide +kernel, rfl, by decide +kernel, by decide +kernel⟩
theorem bd__law_whole {f : Addr} (T : Txt P K mg Ad) : BdA P w K mg base N__law_whole "_law_whole" s__law_whole f 0 (fb__law_whole) := by
  intro cdv A outer s H E hgu hr
  have tk : Takes (cxD P w K mg base N__law_whole "_law_whole" s__law_whole f cdv A outer s H E) (fun cls d _ H' => E cls d H') := takes_of rfl rfl rfl rfl
  have hp : PassesOwn (model P w) (cxD P w K mg base N__law_whole "_law_whole" s__law_whole f cdv A outer s H E).A (cxD P w K mg base N__law_whole "_law_whole" s__law_whole f cdv A outer s H E).env (cxD P w K mg base N__law_whole "_law_whole" s__law_whole f cdv A outer s H E).xe := passes_of rfl
  have hu := hr.units
  have hN : N__law_whole.Nodup := sc__law_whole.nd
  have hc : (cxD P w K mg base N__law_whole "_law_whole" s__law_whole f cdv A outer s H E).calm = true := rfl
  exact (sss_one (ss_ret (se_and (se_b (cs_isi T.errs) T.n_isinstance (by decide +kernel) (sa_cons (se_var 0) (sa_cons (se_ty T.n_int (by decide +kernel)) sa_nil))) (se_one (se_not (se_b (cs_isi T.errs) T.n_isinstance (by decide +kernel) (sa_cons (se_var 0) (sa_cons (se_ty T.n_bool (by decide +kernel)) sa_nil))))))))
/-! ### _law_signed -/
abbrev s__law_signed : Stmt := top 16
def N__law_signed : List Str := ["_law_generator_here", "_law_most"]
def fb__law_signed : FS := (fsRet (evOp subD (evCallB run__law_random (faCons (evVar 0) (faCons (evOp addD (evOp mulD (evC (.int 2)) (evVar 1)) (evC (.int 1))) faNil))) (evVar 1)))
def run__law_signed : FF := runB 2 2 fb__law_signed
theorem sc__law_signed : FnScope N__law_signed ["_law_generator_here", "_law_most"] (defScope s__law_signed) := ⟨rfl, rfl, rfl, by decide +kernel, rfl, by decide +kernel, by decide +kernel⟩
theorem bd__law_signed {f : Addr} (T : Txt P K mg Ad) (c__law_random : CalB P w K mg base 2 "_law_random" run__law_random) : BdA P w K mg base N__law_signed "_law_signed" s__law_signed f 2 (fb__law_signed) := by
  intro cdv A outer s H E hgu hr
  have tk : Takes (cxD P w K mg base N__law_signed "_law_signed" s__law_signed f cdv A outer s H E) (fun cls d _ H' => E cls d H') := takes_of rfl rfl rfl rfl
  have hp : PassesOwn (model P w) (cxD P w K mg base N__law_signed "_law_signed" s__law_signed f cdv A outer s H E).A (cxD P w K mg base N__law_signed "_law_signed" s__law_signed f cdv A outer s H E).env (cxD P w K mg base N__law_signed "_law_signed" s__law_signed f cdv A outer s H E).xe := passes_of rfl
  have hu := hr.units
  have hN : N__law_signed.Nodup := sc__law_signed.nd
  have hc : (cxD P w K mg base N__law_signed "_law_signed" s__law_signed f cdv A outer s H E).calm = true := rfl
  exact (sss_one (ss_ret (se_op os_sub (se_cB c__law_random hgu (hr.mono (by omega)) (sa_cons (se_var 0) (sa_cons (se_op os_add (se_op os_mul se_int (se_var 1)) se_int) sa_nil))) (se_var 1))))
/-! ### _law_floors -/
abbrev s__law_floors : Stmt := top 17
def N__law_floors : List Str := ["_law_many", "_law_rise", "_law_start", "_law_base", "_law_found", "_law_most"]
def fb__law_floors (rec : FF) : FS := (fsSeq (fsIf (ftVal (evOp eqD (evVar 0) (evC (.int 0))))
 (fsRet (evC (.int 0)))
 fsNil)
 (fsSeq (fsSet 4 (evOp addD (evOp mulD (evOp divD (evOp mulD (evVar 0) (evOp subD (evVar 0) (evC (.int 1)))) (evC (.int 2))) (evOp divD (evVar 1) (evVar 3))) (evOp mulD (evVar 0) (evOp divD (evVar 2) (evVar 3)))))
 (fsSeq (fsPar 1 2 (faCons (evOp modD (evB intD (faCons (evVar 1) faNil)) (evVar 3)) (faCons (evOp modD (evB intD (faCons (evVar 2) faNil)) (evVar 3)) faNil)))
 (fsSeq (fsSet 5 (evOp divD (evOp addD (evOp mulD (evVar 1) (evOp subD (evVar 0) (evC (.int 1)))) (evVar 2)) (evVar 3)))
 (fsSeq (fsIf (ftVal (evOp eqD (evVar 5) (evC (.int 0))))
 (fsRet (evVar 4))
 fsNil)
 (fsRet (evOp subD (evOp addD (evVar 4) (evOp mulD (evVar 5) (evVar 0))) (evCall rec [] (faCons (evVar 5) (faCons (evVar 3) (faCons (evOp addD (evOp subD (evOp subD (evVar 3) (evVar 2)) (evC (.int 1))) (evVar 1)) (faCons (evVar 1) faNil))))))))))))
def runN__law_floors : Nat → FF
  | 0 => fun _ => .no
  | n + 1 => runP 6 4 (fb__law_floors (runN__law_floors n))
def run__law_floors : FF := runN__law_floors 262
theorem sc__law_floors : FnScope N__law_floors ["_law_many", "_law_rise", "_law_start", "_law_base"] (defScope s__law_floors) := ⟨rfl, rfl, rfl, by decide +kernel, rfl, by decide +kernel, by decide +kernel⟩
theorem bd__law_floors {f : Addr} {k : Nat} {rec : FF} (T : Txt P K mg Ad) (c__law_floors : Cal P w K mg base k "_law_floors" [] rec) (hk : 0 ≤ k) : BdA P w K mg base N__law_floors "_law_floors" s__law_floors f k (fb__law_floors rec) := by
  intro cdv A outer s H E hgu hr
  have tk : Takes (cxD P w K mg base N__law_floors "_law_floors" s__law_floors f cdv A outer s H E) (fun cls d _ H' => E cls d H') := takes_of rfl rfl rfl rfl
  have hp : PassesOwn (model P w) (cxD P w K mg base N__law_floors "_law_floors" s__law_floors f cdv A outer s H E).A (cxD P w K mg base N__law_floors "_law_floors" s__law_floors f cdv A outer s H E).env (cxD P w K mg base N__law_floors "_law_floors" s__law_floors f cdv A outer s H E).xe := passes_of rfl
  have hu := hr.units
  have hN : N__law_floors.Nodup := sc__law_floors.nd
  have hc : (cxD P w K mg base N__law_floors "_law_floors" s__law_floors f cdv A outer s H E).calm = true := rfl
  exact (sss_cons (ss_if (st_cmp (os_eq hu) (se_var 0) se_int)
 (sss_one (ss_ret se_int))
 sss_nil)
 (sss_cons (ss_set (i := 4) hN (se_op os_add (se_op os_mul (se_op os_div (se_op os_mul (se_var 0) (se_op os_sub (se_var 0) se_int)) se_int) (se_op os_div (se_var 1) (se_var 3))) (se_op os_mul (se_var 0) (se_op os_div (se_var 2) (se_var 3)))))
 (sss_cons (ss_par (i := 1) (j := 2) hc hN (sa_cons (se_op os_mod (se_bt cs_int T.n_int (by decide +kernel) (sa_cons (se_var 1) sa_nil)) (se_var 3)) (sa_cons (se_op os_mod (se_bt cs_int T.n_int (by decide +kernel) (sa_cons (se_var 2) sa_nil)) (se_var 3)) sa_nil)))
 (sss_cons (ss_set (i := 5) hN (se_op os_div (se_op os_add (se_op os_mul (se_var 1) (se_op os_sub (se_var 0) se_int)) (se_var 2)) (se_var 3)))
 (sss_cons (ss_if (st_cmp (os_eq hu) (se_var 5) se_int)
 (sss_one (ss_ret (se_var 4)))
 sss_nil)
 (sss_one (ss_ret (se_op os_sub (se_op os_add (se_var 4) (se_op os_mul (se_var 5) (se_var 0))) (se_c c__law_floors hgu (hr.mono (by omega)) tk (sa_cons (se_var 5) (sa_cons (se_var 3) (sa_cons (se_op os_add (se_op os_sub (se_op os_sub (se_var 3) (se_var 2)) se_int) (se_var 1)) (sa_cons (se_var 1) sa_nil)))))))))))))
/-! ### _law_caught -/
abbrev s__law_caught : Stmt := top 18
def N__law_caught : List Str := ["_law_items", "_law_caught_here", "error"]
def fb__law_caught : FS := (fsSeq (fsSet 1 (evC .non))
 (fsSeq (fsTry (isErr errL "AddError") 2
 (fsExpr (evCall run_floor_sum [] (faCons (evOp ixD (evVar 0) (evC (.int 0))) (faCons (evOp ixD (evVar 0) (evC (.int 1))) (faCons (evOp ixD (evVar 0) (evC (.int 2))) (faCons (evOp ixD (evVar 0) (evC (.int 3))) faNil))))))
 (fsSet 1 (evVar 2)))
 (fsRet (evAnd (evB (isiD errL) (faCons (evVar 1) (faCons (evC (.glo "InvalidNumber")) faNil))) (evB reprD (faCons (evUn (xfD errL "value") (evVar 1)) faNil))))))
def run__law_caught : FF := runP 3 1 fb__law_caught
theorem sc__law_caught : FnScope N__law_caught ["_law_items"] (defScope s__law_caught) := ⟨rfl, rfl, rfl, by decide +kernel, rfl, by decide +kernel, by decide +kernel⟩
theorem bd__law_caught {f : Addr} (T : Txt P K mg Ad) (c_floor_sum : Cal P w K mg base 3 "floor_sum" [] run_floor_sum) : BdA P w K mg base N__law_caught "_law_caught" s__law_caught f 3 (fb__law_caught) := by
  intro cdv A outer s H E hgu hr
  have tk : Takes (cxD P w K mg base N__law_caught "_law_caught" s__law_caught f cdv A outer s H E) (fun cls d _ H' => E cls d H') := takes_of rfl rfl rfl rfl
  have hp : PassesOwn (model P w) (cxD P w K mg base N__law_caught "_law_caught" s__law_caught f cdv A outer s H E).A (cxD P w K mg base N__law_caught "_law_caught" s__law_caught f cdv A outer s H E).env (cxD P w K mg base N__law_caught "_law_caught" s__law_caught f cdv A outer s H E).xe := passes_of rfl
  have hu := hr.units
  have hN : N__law_caught.Nodup := sc__law_caught.nd
  have hc : (cxD P w K mg base N__law_caught "_law_caught" s__law_caught f cdv A outer s H E).calm = true := rfl
  exact (sss_cons (ss_set (i := 1) hN se_non)
 (sss_cons (ss_try (i := 2) (cs := isErr errL "AddError") (fun e b C h g => (T.errs.isE h g T.errs.gA).2.2) hN rfl ⟨rfl, by decide, .inl T.errs.gA⟩ tk (fun W pn xe tk hp =>
 (sss_one (ss_expr (se_c c_floor_sum hgu (hr.mono (by omega)) tk (sa_cons (se_ix is_ix (se_var 0) se_int) (sa_cons (se_ix is_ix (se_var 0) se_int) (sa_cons (se_ix is_ix (se_var 0) se_int) (sa_cons (se_ix is_ix (se_var 0) se_int) sa_nil))))))))
 (fun a pn => (sss_one (ss_set (i := 1) hN (se_var 2)))))
 (sss_one (ss_ret (se_and (se_b (cs_isi T.errs) T.n_isinstance (by decide +kernel) (sa_cons (se_var 1) (sa_cons (se_gloE (T.errs.gE (v := "value") (by decide +kernel))) sa_nil))) (se_one (se_b (cs_repr hgu hu) T.n_repr (by decide +kernel) (sa_cons (se_xf T.errs (se_var 1)) sa_nil))))))))
/-! ### _law_refused -/
abbrev s__law_refused : Stmt := top 19
def N__law_refused : List Str := ["_law_good", "_law_at", "_law_odd", "_law_bad", "_law_last", "_law_items"]
def fb__law_refused : FS := (fsSeq (fsSet 0 (evLst (faCons (evC (.int 3)) (faCons (evC (.int 1)) (faCons (evC (.int 1)) (faCons (evC (.int 2)) faNil))))))
 (fsSeq (fsFor (fiA (faCons (evC (.int 4)) faNil) rng1) (.nm 1)
 (fsSeq (fsSet 2 (evOp addD (evLst (faCons (evC .non) (faCons (evC (.bl true)) (faCons (evC (.str "1")) (faCons (evLst (faCons (evC (.int 1)) faNil)) (faCons (evTup (faCons (evC (.int 1)) faNil)) (faCons evDK faNil))))))) (evOp ixD (evLst (faCons (evLst (faCons (evUn negD (evC (.int 1))) faNil)) (faCons (evLst faNil) (faCons (evLst faNil) (faCons (evLst (faCons (evC (.int 0)) (faCons (evUn negD (evC (.int 2))) faNil))) faNil))))) (evVar 1))))
 (fsFor (fiOf (evVar 2) asQ) (.nm 3)
 (fsFor (fiOf (evLst (faCons (evC .non) (faCons (evUn negD (evC (.int 1))) (faCons (evC (.str "x")) faNil)))) asQ) (.nm 4)
 (fsSeq (fsSet 5 (evOp addD (evOp addD (evSl (evVar 0) foN (foS (evVar 1))) (evLst (faCons (evVar 3) faNil))) (evOp mulD (evLst (faCons (evVar 4) faNil)) (evOp subD (evC (.int 3)) (evVar 1)))))
 (fsIf (ftOr (ftVal (evOp neD (evCall run__law_caught [] (faCons (evVar 5) faNil)) (evB reprD (faCons (evVar 3) faNil)))) (ftAnd (ftVal (evOp gtD (evVar 1) (evC (.int 0)))) (ftVal (evOp neD (evCall run__law_caught [] (faCons (evOp addD (evLst (faCons (evC (.int 0)) faNil)) (evSl (evVar 5) (foS (evC (.int 1))) foN)) faNil)) (evB reprD (faCons (evVar 3) faNil))))))
 (fsRet (evC (.bl false)))
 fsNil))))))
 (fsRet (evC (.bl true)))))
def run__law_refused : FF := runP 6 0 fb__law_refused
theorem sc__law_refused : FnScope N__law_refused [] (defScope s__law_refused) := ⟨rfl, rfl, rfl, by decide +kernel, rfl, by decide +kernel, by decide +kernel⟩
theorem bd__law_refused {f : Addr} (T : Txt P K mg Ad) (c__law_caught : Cal P w K mg base 4 "_law_caught" [] run__law_caught) : BdA P w K mg base N__law_refused "_law_refused" s__law_refused f 4 (fb__law_refused) := by
  intro cdv A outer s H E hgu hr
  have tk : Takes (cxD P w K mg base N__law_refused "_law_refused" s__law_refused f cdv A outer s H E) (fun cls d _ H' => E cls d H') := takes_of rfl rfl rfl rfl
  have hp : PassesOwn (model P w) (cxD P w K mg base N__law_refused "_law_refused" s__law_refused f cdv A outer s H E).A (cxD P w K mg base N__law_refused "_law_refused" s__law_refused f cdv A outer s H E).env (cxD P w K mg base N__law_refused "_law_refused" s__law_refused f cdv A outer s H E).xe := passes_of rfl
  have hu := hr.units
  have hN : N__law_refused.Nodup := sc__law_refused.nd
  have hc : (cxD P w K mg base N__law_refused "_law_refused" s__law_refused f cdv A outer s H E).calm = true := rfl
  exact (sss_cons (ss_set (i := 0) hN (se_lst (sa_cons se_int (sa_cons se_int (sa_cons se_int (sa_cons se_int sa_nil))))))
 (sss_cons (ss_for hp hc (si_range1 T.n_range (sa_cons se_int sa_nil)) (sg_nm hN)
 (sss_cons (ss_set (i := 2) hN (se_op os_add (se_lst (sa_cons se_non (sa_cons se_bl (sa_cons se_str (sa_cons (se_lst (sa_cons se_int sa_nil)) (sa_cons (se_tup (sa_cons se_int sa_nil)) (sa_cons se_dK sa_nil))))))) (se_ix is_ix (se_lst (sa_cons (se_lst (sa_cons (se_un un_neg us_neg se_int) sa_nil)) (sa_cons (se_lst sa_nil) (sa_cons (se_lst sa_nil) (sa_cons (se_lst (sa_cons se_int (sa_cons (se_un un_neg us_neg se_int) sa_nil))) sa_nil))))) (se_var 1))))
 (sss_one (ss_for hp hc (si_seq (se_var 2)) (sg_nm hN)
 (sss_one (ss_for hp hc (si_seq (se_lst (sa_cons se_non (sa_cons (se_un un_neg us_neg se_int) (sa_cons se_str sa_nil))))) (sg_nm hN)
 (sss_cons (ss_set (i := 5) hN (se_op os_add (se_op os_add (se_sl (se_var 0) so_none (so_some (se_var 1))) (se_lst (sa_cons (se_var 3) sa_nil))) (se_op os_mul (se_lst (sa_cons (se_var 4) sa_nil)) (se_op os_sub se_int (se_var 1)))))
 (sss_one (ss_if (SW.st (sw_or (st_cmp (os_ne hu) (se_c c__law_caught hgu (hr.mono (by omega)) tk (sa_cons (se_var 5) sa_nil)) (se_b (cs_repr hgu hu) T.n_repr (by decide +kernel) (sa_cons (se_var 3) sa_nil))) (sw_or1 (SW.st (sw_and (st_cmp os_gt (se_var 1) se_int) (sw_and1 (st_cmp (os_ne hu) (se_c c__law_caught hgu (hr.mono (by omega)) tk (sa_cons (se_op os_add (se_lst (sa_cons se_int sa_nil)) (se_sl (se_var 5) (so_some se_int) so_none)) sa_nil)) (se_b (cs_repr hgu hu) T.n_repr (by decide +kernel) (sa_cons (se_var 3) sa_nil)))))))))
 (sss_one (ss_ret se_bl))
 sss_nil)))))))))
 (sss_one (ss_ret se_bl))))
/-! ### _law_right -/
abbrev s__law_right : Stmt := top 20
def N__law_right : List Str := ["_law_generator_here", "_law_sizes", "_law_many", "_law_base", "_law_found", "_law_terms", "_law_cut", "_law_whole_here", "_law_rise", "_law_start", "_law_one", "_law_other", "_law_turn"]
def fb__law_right : FS := (fsSeq (fsSet 2 (evCallB run__law_random (faCons (evVar 0) (faCons (evOp ixD (evVar 1) (evC (.int 0))) faNil))))
 (fsSeq (fsPat (.tp [(.nm 8), (.nm 9)]) (evTup (faCons (evCallB run__law_signed (faCons (evVar 0) (faCons (evOp ixD (evVar 1) (evC (.int 1))) faNil))) (faCons (evCallB run__law_signed (faCons (evVar 0) (faCons (evOp ixD (evVar 1) (evC (.int 1))) faNil))) faNil))))
 (fsSeq (fsSet 3 (evOp addD (evC (.int 1)) (evCallB run__law_random (faCons (evVar 0) (faCons (evOp ixD (evVar 1) (evC (.int 1))) faNil)))))
 (fsSeq (fsSet 4 (evCall run_floor_sum [] (faCons (evVar 2) (faCons (evVar 8) (faCons (evVar 9) (faCons (evVar 3) faNil))))))
 (fsSeq (fsIf (ftOr (ftNot (ftVal (evCall run__law_whole [] (faCons (evVar 4) faNil)))) (ftVal (evOp neD (evVar 4) (evCall run__law_floors [] (faCons (evVar 2) (faCons (evVar 8) (faCons (evVar 9) (faCons (evVar 3) faNil))))))))
 (fsRet (evC (.bl false)))
 fsNil)
 (fsSeq (fsSet 5 (evLC [12] (fiA (faCons (evB minD (faCons (evVar 2) (faCons (evC (.int 61)) faNil))) faNil) rng1) (.nm 12) ftYes (evOp divD (evOp addD (evOp mulD (evVar 8) (evVar 12)) (evVar 9)) (evVar 3))))
 (fsSeq (fsIf (ftAnd (ftVal (evOp ltD (evVar 2) (evC (.int 61)))) (ftVal (evOp neD (evVar 4) (evB sumD (faCons (evVar 5) faNil)))))
 (fsRet (evC (.bl false)))
 fsNil)
 (fsSeq (fsSet 6 (evCallB run__law_random (faCons (evVar 0) (faCons (evOp addD (evVar 2) (evC (.int 1))) faNil))))
 (fsSeq (fsIf (ftVal (evOp neD (evOp addD (evCall run_floor_sum [] (faCons (evVar 6) (faCons (evVar 8) (faCons (evVar 9) (faCons (evVar 3) faNil))))) (evCall run_floor_sum [] (faCons (evOp subD (evVar 2) (evVar 6)) (faCons (evVar 8) (faCons (evOp addD (evVar 9) (evOp mulD (evVar 8) (evVar 6))) (faCons (evVar 3) faNil)))))) (evVar 4)))
 (fsRet (evC (.bl false)))
 fsNil)
 (fsSeq (fsPar 10 11 (faCons (evCallB run__law_signed (faCons (evVar 0) (faCons (evC (.int 9)) faNil))) (faCons (evCallB run__law_signed (faCons (evVar 0) (faCons (evOp powD (evC (.int 10)) (evC (.int 9))) faNil))) faNil)))
 (fsSeq (fsSet 7 (evOp addD (evOp addD (evVar 4) (evOp mulD (evVar 10) (evOp divD (evOp mulD (evVar 2) (evOp subD (evVar 2) (evC (.int 1)))) (evC (.int 2))))) (evOp mulD (evVar 11) (evVar 2))))
 (fsRet (evOp eqD (evCall run_floor_sum [] (faCons (evVar 2) (faCons (evOp addD (evVar 8) (evOp mulD (evVar 10) (evVar 3))) (faCons (evOp addD (evVar 9) (evOp mulD (evVar 11) (evVar 3))) (faCons (evVar 3) faNil))))) (evVar 7))))))))))))))
def run__law_right : FF := runB 13 2 fb__law_right
theorem sc__law_right : FnScope N__law_right ["_law_generator_here", "_law_sizes"] (defScope s__law_right) := ⟨rfl, rfl, rfl, by decide +kernel, rfl, by decide +kernel, by decide +kernel⟩
theorem bd__law_right {f : Addr} (T : Txt P K mg Ad) (c__law_floors : Cal P w K mg base 262 "_law_floors" [] run__law_floors) (c__law_random : CalB P w K mg base 2 "_law_random" run__law_random) (c__law_signed : CalB P w K mg base 3 "_law_signed" run__law_signed) (c__law_whole : Cal P w K mg base 1 "_law_whole" [] run__law_whole) (c_floor_sum : Cal P w K mg base 3 "floor_sum" [] run_floor_sum) : BdA P w K mg base N__law_right "_law_right" s__law_right f 262 (fb__law_right) := by
  intro cdv A outer s H E hgu hr
  have tk : Takes (cxD P w K mg base N__law_right "_law_right" s__law_right f cdv A outer s H E) (fun cls d _ H' => E cls d H') := takes_of rfl rfl rfl rfl
  have hp : PassesOwn (model P w) (cxD P w K mg base N__law_right "_law_right" s__law_right f cdv A outer s H E).A (cxD P w K mg base N__law_right "_law_right" s__law_right f cdv A outer s H E).env (cxD P w K mg base N__law_right "_law_right" s__law_right f cdv A outer s H E).xe := passes_of rfl
  have hu := hr.units
  have hN : N__law_right.Nodup := sc__law_right.nd
  have hc : (cxD P w K mg base N__law_right "_law_right" s__law_right f cdv A outer s H E).calm = true := rfl
  exact (sss_cons (ss_set (i := 2) hN (se_cB c__law_random hgu (hr.mono (by omega)) (sa_cons (se_var 0) (sa_cons (se_ix is_ix (se_var 1) se_int) sa_nil))))
 (sss_cons (ss_pat (se_tup (sa_cons (se_cB c__law_signed hgu (hr.mono (by omega)) (sa_cons (se_var 0) (sa_cons (se_ix is_ix (se_var 1) se_int) sa_nil))) (sa_cons (se_cB c__law_signed hgu (hr.mono (by omega)) (sa_cons (se_var 0) (sa_cons (se_ix is_ix (se_var 1) se_int) sa_nil))) sa_nil))) (sg_tp hc (sgs_cons (sg_nm hN) (sgs_cons (sg_nm hN) sgs_nil))))
 (sss_cons (ss_set (i := 3) hN (se_op os_add se_int (se_cB c__law_random hgu (hr.mono (by omega)) (sa_cons (se_var 0) (sa_cons (se_ix is_ix (se_var 1) se_int) sa_nil)))))
 (sss_cons (ss_set (i := 4) hN (se_c c_floor_sum hgu (hr.mono (by omega)) tk (sa_cons (se_var 2) (sa_cons (se_var 8) (sa_cons (se_var 9) (sa_cons (se_var 3) sa_nil))))))
 (sss_cons (ss_if (SW.st (sw_or (st_not (st_val (se_c c__law_whole hgu (hr.mono (by omega)) tk (sa_cons (se_var 4) sa_nil)))) (sw_or1 (st_cmp (os_ne hu) (se_var 4) (se_c c__law_floors hgu (hr.mono (by omega)) tk (sa_cons (se_var 2) (sa_cons (se_var 8) (sa_cons (se_var 9) (sa_cons (se_var 3) sa_nil)))))))))
 (sss_one (ss_ret se_bl))
 sss_nil)
 (sss_cons (ss_setLc (i := 5) hc hN (own := [("_law_turn", 12)]) (si_range1 T.n_range (sa_cons (se_b (cs_min hc) T.n_min (by decide +kernel) (sa_cons (se_var 2) (sa_cons se_int sa_nil))) sa_nil)) (BlkOk.mk (N := N__law_right) (sc := defScope s__law_right) rfl (by decide +kernel) (by decide +kernel) (by decide +kernel) (by decide +kernel)) (fun _ _ _ _ _ => (sg_nm hN)) (fun _ _ _ _ _ => (se_op os_div (se_op os_add (se_op os_mul (se_var 8) (se_var 12)) (se_var 9)) (se_var 3))) rfl)
 (sss_cons (ss_if (SW.st (sw_and (st_cmp os_lt (se_var 2) se_int) (sw_and1 (st_cmp (os_ne hu) (se_var 4) (se_b (cs_sum hc) T.n_sum (by decide +kernel) (sa_cons (se_var 5) sa_nil))))))
 (sss_one (ss_ret se_bl))
 sss_nil)
 (sss_cons (ss_set (i := 6) hN (se_cB c__law_random hgu (hr.mono (by omega)) (sa_cons (se_var 0) (sa_cons (se_op os_add (se_var 2) se_int) sa_nil))))
 (sss_cons (ss_if (st_cmp (os_ne hu) (se_op os_add (se_c c_floor_sum hgu (hr.mono (by omega)) tk (sa_cons (se_var 6) (sa_cons (se_var 8) (sa_cons (se_var 9) (sa_cons (se_var 3) sa_nil))))) (se_c c_floor_sum hgu (hr.mono (by omega)) tk (sa_cons (se_op os_sub (se_var 2) (se_var 6)) (sa_cons (se_var 8) (sa_cons (se_op os_add (se_var 9) (se_op os_mul (se_var 8) (se_var 6))) (sa_cons (se_var 3) sa_nil)))))) (se_var 4))
 (sss_one (ss_ret se_bl))
 sss_nil)
 (sss_cons (ss_par (i := 10) (j := 11) hc hN (sa_cons (se_cB c__law_signed hgu (hr.mono (by omega)) (sa_cons (se_var 0) (sa_cons se_int sa_nil))) (sa_cons (se_cB c__law_signed hgu (hr.mono (by omega)) (sa_cons (se_var 0) (sa_cons (se_op os_pow se_int se_int) sa_nil))) sa_nil)))
 (sss_cons (ss_set (i := 7) hN (se_op os_add (se_op os_add (se_var 4) (se_op os_mul (se_var 10) (se_op os_div (se_op os_mul (se_var 2) (se_op os_sub (se_var 2) se_int)) se_int))) (se_op os_mul (se_var 11) (se_var 2))))
 (sss_one (ss_ret (se_cmp (os_eq hu) (se_c c_floor_sum hgu (hr.mono (by omega)) tk (sa_cons (se_var 2) (sa_cons (se_op os_add (se_var 8) (se_op os_mul (se_var 10) (se_var 3))) (sa_cons (se_op os_add (se_var 9) (se_op os_mul (se_var 11) (se_var 3))) (sa_cons (se_var 3) sa_nil))))) (se_var 7)))))))))))))))
/-! ### law -/
abbrev s_law : Stmt := top 21
def N_law : List Str := ["_law_script", "_law_index", "_law_generator_here", "_law_sizes"]
def fb_law : FS := (fsSeq (fsFor (fiA (faCons (evC (.int 5)) faNil) rng1) (.nm 1)
 (fsSeq (fsSet 2 (evCall run__law_generator [] (faCons (evVar 0) (faCons (evVar 1) faNil))))
 (fsFor (fiOf (evLst (faCons (evTup (faCons (evC (.int 61)) (faCons (evC (.int 10)) faNil))) (faCons (evTup (faCons (evC (.int 61)) (faCons (evC (.int 1000)) faNil))) (faCons (evTup (faCons (evOp powD (evC (.int 10)) (evC (.int 9))) (faCons (evC (.int 1000)) faNil))) (faCons (evTup (faCons (evOp powD (evC (.int 10)) (evC (.int 39))) (faCons (evOp subD (evOp powD (evC (.int 10)) (evC (.int 39))) (evC (.int 1))) faNil))) (faCons (evTup (faCons (evOp powD (evC (.int 10)) (evC (.int 39))) (faCons (evC (.int 10)) faNil))) faNil)))))) asQ) (.nm 3)
 (fsIf (ftNot (ftVal (evCallB run__law_right (faCons (evVar 2) (faCons (evVar 3) faNil)))))
 (fsRet (evC (.bl false)))
 fsNil))))
 (fsRet (evCall run__law_refused [] faNil)))
def run_law : FF := runP 4 1 fb_law
theorem sc_law : FnScope N_law ["_law_script"] (defScope s_law) := ⟨rfl, rfl, rfl, by decide +kernel, rfl, by decide +kernel, by decide +kernel⟩
theorem bd_law {f : Addr} (T : Txt P K mg Ad) (c__law_generator : Cal P w K mg base 2 "_law_generator" [] run__law_generator) (c__law_refused : Cal P w K mg base 5 "_law_refused" [] run__law_refused) (c__law_right : CalB P w K mg base 263 "_law_right" run__law_right) : BdA P w K mg base N_law "law" s_law f 263 (fb_law) := by
  intro cdv A outer s H E hgu hr
  have tk : Takes (cxD P w K mg base N_law "law" s_law f cdv A outer s H E) (fun cls d _ H' => E cls d H') := takes_of rfl rfl rfl rfl
  have hp : PassesOwn (model P w) (cxD P w K mg base N_law "law" s_law f cdv A outer s H E).A (cxD P w K mg base N_law "law" s_law f cdv A outer s H E).env (cxD P w K mg base N_law "law" s_law f cdv A outer s H E).xe := passes_of rfl
  have hu := hr.units
  have hN : N_law.Nodup := sc_law.nd
  have hc : (cxD P w K mg base N_law "law" s_law f cdv A outer s H E).calm = true := rfl
  exact (sss_cons (ss_for hp hc (si_range1 T.n_range (sa_cons se_int sa_nil)) (sg_nm hN)
 (sss_cons (ss_set (i := 2) hN (se_c c__law_generator hgu (hr.mono (by omega)) tk (sa_cons (se_var 0) (sa_cons (se_var 1) sa_nil))))
 (sss_one (ss_for hp hc (si_seq (se_lst (sa_cons (se_tup (sa_cons se_int (sa_cons se_int sa_nil))) (sa_cons (se_tup (sa_cons se_int (sa_cons se_int sa_nil))) (sa_cons (se_tup (sa_cons (se_op os_pow se_int se_int) (sa_cons se_int sa_nil))) (sa_cons (se_tup (sa_cons (se_op os_pow se_int se_int) (sa_cons (se_op os_sub (se_op os_pow se_int se_int) se_int) sa_nil))) (sa_cons (se_tup (sa_cons (se_op os_pow se_int se_int) (sa_cons se_int sa_nil))) sa_nil))))))) (sg_nm hN)
 (sss_one (ss_if (st_not (st_val (se_cB c__law_right hgu (hr.mono (by omega)) (sa_cons (se_var 2) (sa_cons (se_var 3) sa_nil)))))
 (sss_one (ss_ret se_bl))
 sss_nil))))))
 (sss_one (ss_ret (se_c0 c__law_refused hgu (hr.mono (by omega)) tk))))
end
end K60
/-! Floor sums, in plain Lean. -/
namespace FS
/-- the sum of (t * i + p) / o for i < n -/
def S : Nat → Int → Int → Int → Int
  | 0, _, _, _ => 0
  | n + 1, t, p, o => S n t p o + (t * n + p) / o
def tri : Nat → Int
  | 0 => 0
  | n + 1 => tri n + n
theorem tri_two (n : Nat) : (n : Int) * (n - 1) = 2 * tri n := by
  induction n with
  | zero => simp [tri]
  | succ n ih =>
    simp only [tri]
    have : ((n + 1 : Nat) : Int) = n + 1 := by omega
    rw [this]
    have e : ((n : Int) + 1) * (n + 1 - 1) = n * (n - 1) + 2 * n := by
      rw [Int.add_sub_cancel, Int.add_mul, Int.mul_sub]; omega
    rw [e, ih]; omega
theorem tri_half (n : Nat) : (n : Int) * (n - 1) / 2 = tri n := by
  rw [tri_two]
  exact Int.mul_ediv_cancel_left _ (by decide)
theorem term_split {o : Int} (ho : 0 < o) (t p n : Int) : (t * n + p) / o = (t / o) * n + p / o + ((t % o) * n + p % o) / o := by
  have e : t * n + p = ((t % o) * n + p % o) + ((t / o) * n + p / o) * o := by
    have h1 := Int.emod_add_mul_ediv t o
    have h2 := Int.emod_add_mul_ediv p o
    have h3 : t * n = (t % o + o * (t / o)) * n := by rw [h1]
    have h4 : (t % o + o * (t / o)) * n = (t % o) * n + (t / o) * n * o := by
      rw [Int.add_mul, Int.mul_comm o (t / o), Int.mul_assoc, Int.mul_comm o n, ← Int.mul_assoc]
    have h5 : ((t / o) * n + p / o) * o = (t / o) * n * o + o * (p / o) := by rw [Int.add_mul, Int.mul_comm (p / o) o]
    rw [h3, h4, h5]; omega
  rw [e, Int.add_mul_ediv_right _ _ (by omega)]
  omega
theorem whole (n : Nat) {o : Int} (ho : 0 < o) (t p : Int) : S n t p o = tri n * (t / o) + n * (p / o) + S n (t % o) (p % o) o := by
  induction n with
  | zero => simp [S, tri]
  | succ n ih =>
    simp only [S, tri]
    rw [ih, term_split ho]
    have e1 : (tri n + (n : Int)) * (t / o) = tri n * (t / o) + (t / o) * n := by rw [Int.add_mul, Int.mul_comm (n : Int)]
    have e2 : ((n + 1 : Nat) : Int) * (p / o) = n * (p / o) + p / o := by
      have : ((n + 1 : Nat) : Int) = n + 1 := by omega
      rw [this, Int.add_mul, Int.one_mul]
    rw [e1, e2]; omega
theorem none {n : Nat} {t p o : Int} (ht : 0 ≤ t) (hp : 0 ≤ p) (h : t * n + p < o) : S n t p o = 0 := by
  have key : ∀ m : Nat, m ≤ n → S m t p o = 0 := by
    intro m
    induction m with
    | zero => intro _; rfl
    | succ m ih =>
      intro hm
      simp only [S]
      rw [ih (by omega)]
      have h1 : t * m ≤ t * n := Int.mul_le_mul_of_nonneg_left (by omega) ht
      have h2 : 0 ≤ t * m := Int.mul_nonneg ht (by omega)
      rw [Int.ediv_eq_zero_of_lt (by omega) (by omega)]
      rfl
  exact key n (Nat.le_refl n)
theorem shift (n : Nat) (t p o : Int) : S (n + 1) t p o = p / o + S n t (t + p) o := by
  induction n with
  | zero => simp [S]
  | succ n ih =>
    rw [S, ih]
    simp only [S]
    have : t * ((n + 1 : Nat) : Int) + p = t * n + (t + p) := by
      have : ((n + 1 : Nat) : Int) = n + 1 := by omega
      rw [this, Int.mul_add, Int.mul_one]; omega
    rw [this]; omega
/-- the sum of (top - j * o) / t for j = 1 .. M -/
def G : Nat → Int → Int → Int → Int
  | 0, _, _, _ => 0
  | m + 1, top, o, t => G m top o t + (top - (m + 1) * o) / t
theorem G_up (m : Nat) {t : Int} (ht : 0 < t) (top o : Int) : G m (top + t) o t = G m top o t + m := by
  induction m with
  | zero => simp [G]
  | succ m ih =>
    simp only [G]
    rw [ih]
    have e : top + t - ((m : Int) + 1) * o = (top - ((m : Int) + 1) * o) + 1 * t := by omega
    rw [e, Int.add_mul_ediv_right _ _ (by omega)]
    have : ((m + 1 : Nat) : Int) = m + 1 := by omega
    rw [this]; omega
theorem G_S (m : Nat) (top o t : Int) : G m top o t = S m o (top - m * o) t := by
  induction m with
  | zero => simp [G, S]
  | succ m ih =>
    rw [shift]
    simp only [G]
    rw [ih]
    have h : ((m + 1 : Nat) : Int) = m + 1 := by omega
    rw [h]
    have e : o + (top - ((m : Int) + 1) * o) = top - m * o := by rw [Int.add_mul, Int.one_mul]; omega
    rw [e]; omega
theorem to_G {t p o : Int} (ht : 0 < t) (hto : t < o) (hp : 0 ≤ p) (hpo : p < o) (n : Nat) : S n t p o = G ((t * n + p) / o).toNat (t * n + p) o t := by
  induction n with
  | zero => simp [S, Int.ediv_eq_zero_of_lt hp hpo, G]
  | succ n ih =>
    simp only [S]
    have ho : 0 < o := by omega
    have hn : 0 ≤ t * n + p := by have := Int.mul_nonneg (Int.le_of_lt ht) (show (0 : Int) ≤ n by omega); omega
    have e1 : t * ((n + 1 : Nat) : Int) + p = t * n + p + t := by
      have : ((n + 1 : Nat) : Int) = n + 1 := by omega
      rw [this, Int.mul_add, Int.mul_one]; omega
    rw [e1]
    generalize hA : t * (n : Int) + p = A at *
    have hM : 0 ≤ A / o := Int.ediv_nonneg hn (by omega)
    have b1 := Int.emod_add_mul_ediv A o
    have b2 := Int.emod_nonneg A (show o ≠ 0 by omega)
    have b3 := Int.emod_lt_of_pos A ho
    have hMn : (((A / o).toNat : Nat) : Int) = A / o := Int.toNat_of_nonneg hM
    by_cases c : A % o + t < o
    · have e2 : (A + t) / o = A / o := by
        have : A + t = (A % o + t) + (A / o) * o := by rw [Int.mul_comm]; omega
        rw [this, Int.add_mul_ediv_right _ _ (by omega), Int.ediv_eq_zero_of_lt (by omega) c]; omega
      rw [e2, G_up _ ht, ih, hMn]
    · have e2 : (A + t) / o = A / o + 1 := by
        have : A + t = (A % o + t - o) + (A / o + 1) * o := by rw [Int.add_mul, Int.one_mul, Int.mul_comm]; omega
        rw [this, Int.add_mul_ediv_right _ _ (by omega), Int.ediv_eq_zero_of_lt (by omega) (by omega)]; omega
      have e3 : (A / o + 1).toNat = (A / o).toNat + 1 := by omega
      rw [e2, e3]
      simp only [G]
      rw [G_up _ ht, ih, hMn]
      have e4 : A + t - (A / o + 1) * o = A % o + t - o := by rw [Int.add_mul, Int.one_mul, Int.mul_comm]; omega
      have e5 : (A % o + t - o) / t = 0 := Int.ediv_eq_zero_of_lt (by omega) (by omega)
      rw [e4, e5]; omega
/-- the other way about -/
theorem swap {t p o : Int} (ht : 0 < t) (hto : t < o) (hp : 0 ≤ p) (hpo : p < o) (n : Nat) : S n t p o = S ((t * n + p) / o).toNat o ((t * n + p) % o) t := by
  have ho : 0 < o := by omega
  have hn : 0 ≤ t * n + p := by have := Int.mul_nonneg (Int.le_of_lt ht) (show (0 : Int) ≤ n by omega); omega
  rw [to_G ht hto hp hpo, G_S, Int.toNat_of_nonneg (Int.ediv_nonneg hn (by omega))]
  have := Int.emod_add_mul_ediv (t * n + p) o
  have e : t * n + p - (t * n + p) / o * o = (t * n + p) % o := by rw [Int.mul_comm ((t * n + p) / o) o]; omega
  rw [e]
theorem ceil_pair {a : Int} (ha : 0 < a) (n y : Int) : (a * n - y) / a + (y + a - 1) / a = n := by
  have b1 := Int.emod_add_mul_ediv (y + a - 1) a
  have b2 := Int.emod_nonneg (y + a - 1) (show a ≠ 0 by omega)
  have b3 := Int.emod_lt_of_pos (y + a - 1) ha
  have e : a * n - y = (a - 1 - (y + a - 1) % a) + (n - (y + a - 1) / a) * a := by
    rw [Int.sub_mul, Int.mul_comm n a, Int.mul_comm ((y + a - 1) / a) a]; omega
  rw [e, Int.add_mul_ediv_right _ _ (by omega), Int.ediv_eq_zero_of_lt (by omega) (by omega)]; omega
theorem G_ceil {a : Int} (ha : 0 < a) (b m : Int) (n k : Nat) : G k (a * n + b) m a = k * n - S k m (m - b - 1 + a) a := by
  induction k with
  | zero => simp [G, S]
  | succ k ih =>
    simp only [G, S]
    rw [ih]
    have h := ceil_pair ha n ((k + 1) * m - b)
    have e1 : a * n - (((k : Int) + 1) * m - b) = a * n + b - ((k : Int) + 1) * m := by omega
    have e2 : ((k : Int) + 1) * m - b + a - 1 = m * k + (m - b - 1 + a) := by rw [Int.add_mul, Int.one_mul, Int.mul_comm (k : Int) m]; omega
    rw [e1, e2] at h
    have e3 : ((k + 1 : Nat) : Int) * n = k * n + n := by
      have : ((k + 1 : Nat) : Int) = k + 1 := by omega
      rw [this, Int.add_mul, Int.one_mul]
    rw [e3]; omega
/-- counted by columns -/
theorem other {a b m : Int} (ha : 0 ≤ a) (ham : a < m) (hb : 0 ≤ b) (hbm : b < m) {n : Nat} (hn : 0 < n) (hM : (a * (n - 1) + b) / m ≠ 0) :
    0 < a ∧ S n a b m = (a * (n - 1) + b) / m * n - S ((a * (n - 1) + b) / m).toNat m (m - b - 1 + a) a := by
  have hm : 0 < m := by omega
  have ha' : 0 < a := by
    rcases Int.lt_or_eq_of_le ha with h | h
    · exact h
    · exfalso
      apply hM
      rw [← h, Int.zero_mul, Int.zero_add]
      exact Int.ediv_eq_zero_of_lt hb hbm
  refine ⟨ha', ?_⟩
  have hA0 : 0 ≤ a * ((n : Int) - 1) + b := by have := Int.mul_nonneg ha (show (0 : Int) ≤ (n : Int) - 1 by omega); omega
  have eA : a * (n : Int) + b = a * ((n : Int) - 1) + b + a := by rw [Int.mul_sub, Int.mul_one]; omega
  have hG := to_G ha' ham hb hbm n
  have key : G ((a * (n : Int) + b) / m).toNat (a * n + b) m a = G ((a * ((n : Int) - 1) + b) / m).toNat (a * n + b) m a := by
    generalize hA : a * ((n : Int) - 1) + b = A at *
    rw [eA]
    have b1 := Int.emod_add_mul_ediv A m
    have b2 := Int.emod_nonneg A (show m ≠ 0 by omega)
    have b3 := Int.emod_lt_of_pos A hm
    have hq : 0 ≤ A / m := Int.ediv_nonneg hA0 (by omega)
    have hMn : (((A / m).toNat : Nat) : Int) = A / m := Int.toNat_of_nonneg hq
    by_cases c : A % m + a < m
    · have e2 : (A + a) / m = A / m := by
        have : A + a = (A % m + a) + (A / m) * m := by rw [Int.mul_comm]; omega
        rw [this, Int.add_mul_ediv_right _ _ (by omega), Int.ediv_eq_zero_of_lt (by omega) c]; omega
      rw [e2]
    · have e2 : (A + a) / m = A / m + 1 := by
        have : A + a = (A % m + a - m) + (A / m + 1) * m := by rw [Int.add_mul, Int.one_mul, Int.mul_comm]; omega
        rw [this, Int.add_mul_ediv_right _ _ (by omega), Int.ediv_eq_zero_of_lt (by omega) (by omega)]; omega
      have e3 : (A / m + 1).toNat = (A / m).toNat + 1 := by omega
      rw [e2, e3]
      simp only [G]
      have e4 : A + a - (((A / m).toNat : Int) + 1) * m = A % m + a - m := by rw [hMn, Int.add_mul, Int.one_mul, Int.mul_comm]; omega
      have e5 : (A % m + a - m) / a = 0 := Int.ediv_eq_zero_of_lt (by omega) (by omega)
      rw [e4, e5]; omega
  rw [hG, key, G_ceil ha', Int.toNat_of_nonneg (Int.ediv_nonneg hA0 (by omega))]
theorem cut (c k : Nat) (t p o : Int) : S (c + k) t p o = S c t p o + S k t (p + t * c) o := by
  induction k with
  | zero => simp [S]
  | succ k ih =>
    show S (c + k) t p o + (t * ((c + k : Nat) : Int) + p) / o = _
    simp only [S]
    rw [ih]
    have e : t * ((c + k : Nat) : Int) + p = t * k + (p + t * c) := by
      have : ((c + k : Nat) : Int) = c + k := by omega
      rw [this, Int.mul_add]; omega
    rw [e]; omega
theorem parts (n : Nat) {o : Int} (ho : 0 < o) (t p x y : Int) : S n (t + x * o) (p + y * o) o = S n t p o + x * tri n + y * n := by
  induction n with
  | zero => simp [S, tri]
  | succ n ih =>
    simp only [S, tri]
    rw [ih]
    have e : (t + x * o) * (n : Int) + (p + y * o) = (t * n + p) + (x * n + y) * o := by
      rw [Int.add_mul, Int.add_mul, Int.mul_assoc, Int.mul_comm o (n : Int), ← Int.mul_assoc]; omega
    rw [e, Int.add_mul_ediv_right _ _ (by omega), Int.mul_add]
    have : ((n + 1 : Nat) : Int) = n + 1 := by omega
    rw [this, Int.mul_add, Int.mul_one]; omega
end FS
namespace K60
open PySem PySem.Spec PyProof.Rows L2 Tr
theorem refused_ok : run__law_refused [] = .ok false (.bl true) .non := by
  kernel_rfl
theorem is_whole_int (i : Int) : run_is_whole [.int i] = .ok false (.bl true) .non := by
  kernel_rfl
theorem whole_int (i : Int) : run__law_whole [.int i] = .ok false (.bl true) .non := by
  kernel_rfl
/-! ### floors -/
/-- the while's body -/
def wb : FS := (fsSeq (fsAug 4 iaddD (evOp addD (evOp mulD (evOp divD (evOp mulD (evVar 0) (evOp subD (evVar 0) (evC (.int 1)))) (evC (.int 2))) (evOp divD (evVar 1) (evVar 3))) (evOp mulD (evVar 0) (evOp divD (evVar 2) (evVar 3)))))
 (fsSeq (fsPar 1 2 (faCons (evOp modD (evVar 1) (evVar 3)) (faCons (evOp modD (evVar 2) (evVar 3)) faNil)))
 (fsSeq (fsSet 5 (evOp addD (evOp mulD (evVar 1) (evVar 0)) (evVar 2)))
 (fsSeq (fsIf (ftVal (evOp ltD (evVar 5) (evVar 3)))
 (fsRet (evVar 4))
 fsNil)
 (fsPat (.tp [(.nm 0), (.nm 2), (.nm 1), (.nm 3)]) (evTup (faCons (evOp divD (evVar 5) (evVar 3)) (faCons (evOp modD (evVar 5) (evVar 3)) (faCons (evVar 3) (faCons (evVar 1) faNil))))))))))
theorem fb_floors_eq : fb_floors = fsSeq (fsSet 4 (evC (.int 0))) (fsWhile muFloors (ftVal (evC (.bl true))) wb) := rfl
theorem wb_end {c t p o f : Int} {x : Slot} (hx : x = .un ∨ ∃ d, x = .sh d) [Sz c 400] [Sz t 1000] [Sz p 1000] [Sz o 1000] [Ps o] (h0 : o ≠ 0) (h : t.fmod o * c + p.fmod o < o) :
    ∃ ρ, wb [.sh (.int c), .sh (.int t), .sh (.int p), .sh (.int o), .sh (.int f), x] = .ok (.rt (.sh (.int (f + ((c * (c - 1)).fdiv 2 * (t.fdiv o) + c * p.fdiv o)))), ρ) := by
  rcases hx with rfl | ⟨d, rfl⟩
  · apply Exists.intro
    unfold wb
    repeat' first
      | ((with_reducible show R.ok _ = R.ok _); rfl)
      | ((with_reducible apply b_var); rfl)
      | ((with_reducible apply b_varb); rfl)
      | ((with_reducible apply b_varo); rfl)
      | (with_reducible exact b_c)
      | (with_reducible exact b_nil)
      | (with_reducible exact b_fnil)
      | ((with_reducible show fsNil _ = R.ok (Fl.nx, _)); rfl)
      | (with_reducible exact b_foN)
      | (with_reducible apply b_op)
      | (with_reducible apply b_un)
      | (with_reducible apply b_cons)
      | (with_reducible apply b_val)
      | (with_reducible apply b_tand)
      | (with_reducible apply b_tor)
      | (with_reducible apply b_tnot)
      | (with_reducible apply b_ife)
      | (with_reducible apply b_and)
      | (with_reducible apply b_or)
      | (with_reducible apply b_not)
      | (with_reducible apply b_tup)
      | (with_reducible apply b_lst)
      | (with_reducible apply b_b)
      | (with_reducible apply b_foS)
      | (with_reducible apply b_sl)
      | (with_reducible apply b_nx)
      | (with_reducible exact b_rt)
      | (with_reducible exact b_xx)
      | (with_reducible apply b_seq)
      | (with_reducible apply b_expr)
      | (with_reducible apply b_ret)
      | (with_reducible apply b_if)
      | (with_reducible apply b_set)
      | (with_reducible apply b_aug)
      | (with_reducible apply b_par)
      | (with_reducible apply b_pat)
      | (with_reducible apply b_raise)
      | (with_reducible apply b_put)
      | (with_reducible apply b_call)
      | (with_reducible apply b_callB)
      | (with_reducible apply b_fiA)
      | (with_reducible apply b_fiOf)
      | (with_reducible apply b_for)
      | ((with_reducible show addD (.int _) (.int _) = some _); exact rfl)
      | ((with_reducible show subD (.int _) (.int _) = some _); exact rfl)
      | ((with_reducible show iaddD (.int _) (.int _) = some _); exact rfl)
      | ((with_reducible show negD (.int _) = some _); exact rfl)
      | ((with_reducible show ltD (.int _) (.int _) = some _); exact rfl)
      | ((with_reducible show leD (.int _) (.int _) = some _); exact rfl)
      | ((with_reducible show gtD (.int _) (.int _) = some _); exact rfl)
      | ((with_reducible show geD (.int _) (.int _) = some _); exact rfl)
      | ((with_reducible show intD [.int _] = some _); exact rfl)
      | ((with_reducible show maxD [.int _, .int _] = some _); exact rfl)
      | ((with_reducible show minD [.int _, .int _] = some _); exact rfl)
      | ((with_reducible show bitsD (.int _) = some _); exact rfl)
      | (with_reducible exact eqD_i _ _)
      | (with_reducible exact neD_i _ _)
      | ((with_reducible refine mulD_i inferInstance inferInstance ?_); decide +kernel)
      | ((with_reducible refine divD_i inferInstance ?_ ?_); decide +kernel; first | assumption | omega | decide)
      | ((with_reducible refine modD_i ?_); first | assumption | omega | decide)
      | ((with_reducible apply ite_t); (first | rfl | (simp only [decide_eq_true_eq, Bool.not_eq_true', decide_eq_false_iff_not, Bool.not_eq_eq_eq_not, Bool.not_true, Bool.not_false, Bool.not_eq_true] <;> first | assumption | omega)))
      | ((with_reducible apply ite_f); (first | rfl | (simp only [decide_eq_true_eq, Bool.not_eq_true', decide_eq_false_iff_not, Bool.not_eq_eq_eq_not, Bool.not_true, Bool.not_false, Bool.not_eq_true] <;> first | assumption | omega)))
      | ((with_reducible show _ = Val.rf _ :: _); rfl)
      | ((with_reducible show backV _ _ = _); rfl)
      | ((with_reducible show ixD _ _ = some _); rfl)
      | ((with_reducible show ixN _ _ = some _); rfl)
      | ((with_reducible show asQ _ = _); rfl)
      | ((with_reducible show peek _ _ = some _); rfl)
      | ((with_reducible show peekL _ _ = some _); rfl)
      | ((with_reducible show frzL _ _ = some _); rfl)
      | ((with_reducible show frz _ _ = some _); rfl)
      | ((with_reducible show store _ _ _ = some _); rfl)
      | ((with_reducible show nbo _ _ = true); rfl)
      | ((with_reducible show muL _ _ = some _); rfl)
      | ((with_reducible show muD _ _ = some _); rfl)
      | ((with_reducible show bindP _ _ _ = some _); rfl)
      | ((with_reducible show List.length _ ≤ 16777216); exact Nat.le_of_ble_eq_true rfl)
      | ((with_reducible show (_ : Option Slot) = some (Slot.sh _)); rfl)
  · apply Exists.intro
    unfold wb
    repeat' first
      | ((with_reducible show R.ok _ = R.ok _); rfl)
      | ((with_reducible apply b_var); rfl)
      | ((with_reducible apply b_varb); rfl)
      | ((with_reducible apply b_varo); rfl)
      | (with_reducible exact b_c)
      | (with_reducible exact b_nil)
      | (with_reducible exact b_fnil)
      | ((with_reducible show fsNil _ = R.ok (Fl.nx, _)); rfl)
      | (with_reducible exact b_foN)
      | (with_reducible apply b_op)
      | (with_reducible apply b_un)
      | (with_reducible apply b_cons)
      | (with_reducible apply b_val)
      | (with_reducible apply b_tand)
      | (with_reducible apply b_tor)
      | (with_reducible apply b_tnot)
      | (with_reducible apply b_ife)
      | (with_reducible apply b_and)
      | (with_reducible apply b_or)
      | (with_reducible apply b_not)
      | (with_reducible apply b_tup)
      | (with_reducible apply b_lst)
      | (with_reducible apply b_b)
      | (with_reducible apply b_foS)
      | (with_reducible apply b_sl)
      | (with_reducible apply b_nx)
      | (with_reducible exact b_rt)
      | (with_reducible exact b_xx)
      | (with_reducible apply b_seq)
      | (with_reducible apply b_expr)
      | (with_reducible apply b_ret)
      | (with_reducible apply b_if)
      | (with_reducible apply b_set)
      | (with_reducible apply b_aug)
      | (with_reducible apply b_par)
      | (with_reducible apply b_pat)
      | (with_reducible apply b_raise)
      | (with_reducible apply b_put)
      | (with_reducible apply b_call)
      | (with_reducible apply b_callB)
      | (with_reducible apply b_fiA)
      | (with_reducible apply b_fiOf)
      | (with_reducible apply b_for)
      | ((with_reducible show addD (.int _) (.int _) = some _); exact rfl)
      | ((with_reducible show subD (.int _) (.int _) = some _); exact rfl)
      | ((with_reducible show iaddD (.int _) (.int _) = some _); exact rfl)
      | ((with_reducible show negD (.int _) = some _); exact rfl)
      | ((with_reducible show ltD (.int _) (.int _) = some _); exact rfl)
      | ((with_reducible show leD (.int _) (.int _) = some _); exact rfl)
      | ((with_reducible show gtD (.int _) (.int _) = some _); exact rfl)
      | ((with_reducible show geD (.int _) (.int _) = some _); exact rfl)
      | ((with_reducible show intD [.int _] = some _); exact rfl)
      | ((with_reducible show maxD [.int _, .int _] = some _); exact rfl)
      | ((with_reducible show minD [.int _, .int _] = some _); exact rfl)
      | ((with_reducible show bitsD (.int _) = some _); exact rfl)
      | (with_reducible exact eqD_i _ _)
      | (with_reducible exact neD_i _ _)
      | ((with_reducible refine mulD_i inferInstance inferInstance ?_); decide +kernel)
      | ((with_reducible refine divD_i inferInstance ?_ ?_); decide +kernel; first | assumption | omega | decide)
      | ((with_reducible refine modD_i ?_); first | assumption | omega | decide)
      | ((with_reducible apply ite_t); (first | rfl | (simp only [decide_eq_true_eq, Bool.not_eq_true', decide_eq_false_iff_not, Bool.not_eq_eq_eq_not, Bool.not_true, Bool.not_false, Bool.not_eq_true] <;> first | assumption | omega)))
      | ((with_reducible apply ite_f); (first | rfl | (simp only [decide_eq_true_eq, Bool.not_eq_true', decide_eq_false_iff_not, Bool.not_eq_eq_eq_not, Bool.not_true, Bool.not_false, Bool.not_eq_true] <;> first | assumption | omega)))
      | ((with_reducible show _ = Val.rf _ :: _); rfl)
      | ((with_reducible show backV _ _ = _); rfl)
      | ((with_reducible show ixD _ _ = some _); rfl)
      | ((with_reducible show ixN _ _ = some _); rfl)
      | ((with_reducible show asQ _ = _); rfl)
      | ((with_reducible show peek _ _ = some _); rfl)
      | ((with_reducible show peekL _ _ = some _); rfl)
      | ((with_reducible show frzL _ _ = some _); rfl)
      | ((with_reducible show frz _ _ = some _); rfl)
      | ((with_reducible show store _ _ _ = some _); rfl)
      | ((with_reducible show nbo _ _ = true); rfl)
      | ((with_reducible show muL _ _ = some _); rfl)
      | ((with_reducible show muD _ _ = some _); rfl)
      | ((with_reducible show bindP _ _ _ = some _); rfl)
      | ((with_reducible show List.length _ ≤ 16777216); exact Nat.le_of_ble_eq_true rfl)
      | ((with_reducible show (_ : Option Slot) = some (Slot.sh _)); rfl)
theorem wb_go {c t p o f : Int} {x : Slot} (hx : x = .un ∨ ∃ d, x = .sh d) [Sz c 400] [Sz t 1000] [Sz p 1000] [Sz o 1000] [Ps o] (h0 : o ≠ 0) (h : ¬ t.fmod o * c + p.fmod o < o) :
    wb [.sh (.int c), .sh (.int t), .sh (.int p), .sh (.int o), .sh (.int f), x] = .ok (.nx, [.sh (.int ((t.fmod o * c + p.fmod o).fdiv o)), .sh (.int o), .sh (.int ((t.fmod o * c + p.fmod o).fmod o)), .sh (.int (t.fmod o)), .sh (.int (f + ((c * (c - 1)).fdiv 2 * (t.fdiv o) + c * p.fdiv o))), .sh (.int (t.fmod o * c + p.fmod o))]) := by
  rcases hx with rfl | ⟨d, rfl⟩
  · unfold wb
    repeat' first
      | ((with_reducible show R.ok _ = R.ok _); rfl)
      | ((with_reducible apply b_var); rfl)
      | ((with_reducible apply b_varb); rfl)
      | ((with_reducible apply b_varo); rfl)
      | (with_reducible exact b_c)
      | (with_reducible exact b_nil)
      | (with_reducible exact b_fnil)
      | ((with_reducible show fsNil _ = R.ok (Fl.nx, _)); rfl)
      | (with_reducible exact b_foN)
      | (with_reducible apply b_op)
      | (with_reducible apply b_un)
      | (with_reducible apply b_cons)
      | (with_reducible apply b_val)
      | (with_reducible apply b_tand)
      | (with_reducible apply b_tor)
      | (with_reducible apply b_tnot)
      | (with_reducible apply b_ife)
      | (with_reducible apply b_and)
      | (with_reducible apply b_or)
      | (with_reducible apply b_not)
      | (with_reducible apply b_tup)
      | (with_reducible apply b_lst)
      | (with_reducible apply b_b)
      | (with_reducible apply b_foS)
      | (with_reducible apply b_sl)
      | (with_reducible apply b_nx)
      | (with_reducible exact b_rt)
      | (with_reducible exact b_xx)
      | (with_reducible apply b_seq)
      | (with_reducible apply b_expr)
      | (with_reducible apply b_ret)
      | (with_reducible apply b_if)
      | (with_reducible apply b_set)
      | (with_reducible apply b_aug)
      | (with_reducible apply b_par)
      | (with_reducible apply b_pat)
      | (with_reducible apply b_raise)
      | (with_reducible apply b_put)
      | (with_reducible apply b_call)
      | (with_reducible apply b_callB)
      | (with_reducible apply b_fiA)
      | (with_reducible apply b_fiOf)
      | (with_reducible apply b_for)
      | ((with_reducible show addD (.int _) (.int _) = some _); exact rfl)
      | ((with_reducible show subD (.int _) (.int _) = some _); exact rfl)
      | ((with_reducible show iaddD (.int _) (.int _) = some _); exact rfl)
      | ((with_reducible show negD (.int _) = some _); exact rfl)
      | ((with_reducible show ltD (.int _) (.int _) = some _); exact rfl)
      | ((with_reducible show leD (.int _) (.int _) = some _); exact rfl)
      | ((with_reducible show gtD (.int _) (.int _) = some _); exact rfl)
      | ((with_reducible show geD (.int _) (.int _) = some _); exact rfl)
      | ((with_reducible show intD [.int _] = some _); exact rfl)
      | ((with_reducible show maxD [.int _, .int _] = some _); exact rfl)
      | ((with_reducible show minD [.int _, .int _] = some _); exact rfl)
      | ((with_reducible show bitsD (.int _) = some _); exact rfl)
      | (with_reducible exact eqD_i _ _)
      | (with_reducible exact neD_i _ _)
      | ((with_reducible refine mulD_i inferInstance inferInstance ?_); decide +kernel)
      | ((with_reducible refine divD_i inferInstance ?_ ?_); decide +kernel; first | assumption | omega | decide)
      | ((with_reducible refine modD_i ?_); first | assumption | omega | decide)
      | ((with_reducible apply ite_t); (first | rfl | (simp only [decide_eq_true_eq, Bool.not_eq_true', decide_eq_false_iff_not, Bool.not_eq_eq_eq_not, Bool.not_true, Bool.not_false, Bool.not_eq_true] <;> first | assumption | omega)))
      | ((with_reducible apply ite_f); (first | rfl | (simp only [decide_eq_true_eq, Bool.not_eq_true', decide_eq_false_iff_not, Bool.not_eq_eq_eq_not, Bool.not_true, Bool.not_false, Bool.not_eq_true] <;> first | assumption | omega)))
      | ((with_reducible show _ = Val.rf _ :: _); rfl)
      | ((with_reducible show backV _ _ = _); rfl)
      | ((with_reducible show ixD _ _ = some _); rfl)
      | ((with_reducible show ixN _ _ = some _); rfl)
      | ((with_reducible show asQ _ = _); rfl)
      | ((with_reducible show peek _ _ = some _); rfl)
      | ((with_reducible show peekL _ _ = some _); rfl)
      | ((with_reducible show frzL _ _ = some _); rfl)
      | ((with_reducible show frz _ _ = some _); rfl)
      | ((with_reducible show store _ _ _ = some _); rfl)
      | ((with_reducible show nbo _ _ = true); rfl)
      | ((with_reducible show muL _ _ = some _); rfl)
      | ((with_reducible show muD _ _ = some _); rfl)
      | ((with_reducible show bindP _ _ _ = some _); rfl)
      | ((with_reducible show List.length _ ≤ 16777216); exact Nat.le_of_ble_eq_true rfl)
      | ((with_reducible show (_ : Option Slot) = some (Slot.sh _)); rfl)
  · unfold wb
    repeat' first
      | ((with_reducible show R.ok _ = R.ok _); rfl)
      | ((with_reducible apply b_var); rfl)
      | ((with_reducible apply b_varb); rfl)
      | ((with_reducible apply b_varo); rfl)
      | (with_reducible exact b_c)
      | (with_reducible exact b_nil)
      | (with_reducible exact b_fnil)
      | ((with_reducible show fsNil _ = R.ok (Fl.nx, _)); rfl)
      | (with_reducible exact b_foN)
      | (with_reducible apply b_op)
      | (with_reducible apply b_un)
      | (with_reducible apply b_cons)
      | (with_reducible apply b_val)
      | (with_reducible apply b_tand)
      | (with_reducible apply b_tor)
      | (with_reducible apply b_tnot)
      | (with_reducible apply b_ife)
      | (with_reducible apply b_and)
      | (with_reducible apply b_or)
      | (with_reducible apply b_not)
      | (with_reducible apply b_tup)
      | (with_reducible apply b_lst)
      | (with_reducible apply b_b)
      | (with_reducible apply b_foS)
      | (with_reducible apply b_sl)
      | (with_reducible apply b_nx)
      | (with_reducible exact b_rt)
      | (with_reducible exact b_xx)
      | (with_reducible apply b_seq)
      | (with_reducible apply b_expr)
      | (with_reducible apply b_ret)
      | (with_reducible apply b_if)
      | (with_reducible apply b_set)
      | (with_reducible apply b_aug)
      | (with_reducible apply b_par)
      | (with_reducible apply b_pat)
      | (with_reducible apply b_raise)
      | (with_reducible apply b_put)
      | (with_reducible apply b_call)
      | (with_reducible apply b_callB)
      | (with_reducible apply b_fiA)
      | (with_reducible apply b_fiOf)
      | (with_reducible apply b_for)
      | ((with_reducible show addD (.int _) (.int _) = some _); exact rfl)
      | ((with_reducible show subD (.int _) (.int _) = some _); exact rfl)
      | ((with_reducible show iaddD (.int _) (.int _) = some _); exact rfl)
      | ((with_reducible show negD (.int _) = some _); exact rfl)
      | ((with_reducible show ltD (.int _) (.int _) = some _); exact rfl)
      | ((with_reducible show leD (.int _) (.int _) = some _); exact rfl)
      | ((with_reducible show gtD (.int _) (.int _) = some _); exact rfl)
      | ((with_reducible show geD (.int _) (.int _) = some _); exact rfl)
      | ((with_reducible show intD [.int _] = some _); exact rfl)
      | ((with_reducible show maxD [.int _, .int _] = some _); exact rfl)
      | ((with_reducible show minD [.int _, .int _] = some _); exact rfl)
      | ((with_reducible show bitsD (.int _) = some _); exact rfl)
      | (with_reducible exact eqD_i _ _)
      | (with_reducible exact neD_i _ _)
      | ((with_reducible refine mulD_i inferInstance inferInstance ?_); decide +kernel)
      | ((with_reducible refine divD_i inferInstance ?_ ?_); decide +kernel; first | assumption | omega | decide)
      | ((with_reducible refine modD_i ?_); first | assumption | omega | decide)
      | ((with_reducible apply ite_t); (first | rfl | (simp only [decide_eq_true_eq, Bool.not_eq_true', decide_eq_false_iff_not, Bool.not_eq_eq_eq_not, Bool.not_true, Bool.not_false, Bool.not_eq_true] <;> first | assumption | omega)))
      | ((with_reducible apply ite_f); (first | rfl | (simp only [decide_eq_true_eq, Bool.not_eq_true', decide_eq_false_iff_not, Bool.not_eq_eq_eq_not, Bool.not_true, Bool.not_false, Bool.not_eq_true] <;> first | assumption | omega)))
      | ((with_reducible show _ = Val.rf _ :: _); rfl)
      | ((with_reducible show backV _ _ = _); rfl)
      | ((with_reducible show ixD _ _ = some _); rfl)
      | ((with_reducible show ixN _ _ = some _); rfl)
      | ((with_reducible show asQ _ = _); rfl)
      | ((with_reducible show peek _ _ = some _); rfl)
      | ((with_reducible show peekL _ _ = some _); rfl)
      | ((with_reducible show frzL _ _ = some _); rfl)
      | ((with_reducible show frz _ _ = some _); rfl)
      | ((with_reducible show store _ _ _ = some _); rfl)
      | ((with_reducible show nbo _ _ = true); rfl)
      | ((with_reducible show muL _ _ = some _); rfl)
      | ((with_reducible show muD _ _ = some _); rfl)
      | ((with_reducible show bindP _ _ _ = some _); rfl)
      | ((with_reducible show List.length _ ≤ 16777216); exact Nat.le_of_ble_eq_true rfl)
      | ((with_reducible show (_ : Option Slot) = some (Slot.sh _)); rfl)
theorem szI {i : Int} {n : Nat} (h : -(2 ^ n) < i) (h' : i < 2 ^ n) : Sz i n := ⟨by
  have e : ((2 ^ n : Nat) : Int) = 2 ^ n := by simp
  omega⟩
theorem sz_abs {i : Int} {n : Nat} (h : Sz i n) : -(2 ^ n) < i ∧ i < 2 ^ n := by
  have e : ((2 ^ n : Nat) : Int) = 2 ^ n := by simp
  have := h.lt
  omega
theorem fdE (a : Int) {b : Int} (h : 0 < b) : a.fdiv b = a / b := Int.fdiv_eq_ediv_of_nonneg a (by omega)
theorem fmE (a : Int) {b : Int} (h : 0 < b) : a.fmod b = a % b := Int.fmod_eq_emod_of_nonneg a (by omega)
theorem half (n : Nat) : ((n : Int) * (n - 1)).fdiv 2 = FS.tri n := by rw [fdE _ (by decide), FS.tri_half]
/-- the whole while -/
theorem while_ok : ∀ (n : Nat) (c : Nat) (t p o f : Int) (x : Slot), o.toNat ≤ n → 0 < o → Sz (c : Int) 400 → Sz t 1000 → Sz p 1000 → Sz o 1000 → (x = .un ∨ ∃ d, x = .sh d) →
    ∃ ρ, whileN (ftVal (evC (.bl true))) wb n [.sh (.int c), .sh (.int t), .sh (.int p), .sh (.int o), .sh (.int f), x] = .ok (.rt (.sh (.int (f + FS.S c t p o))), ρ)
  | 0, c, t, p, o, f, x, hn, ho, _, _, _, _, _ => by omega
  | n + 1, c, t, p, o, f, x, hn, ho, sc, st, sp, so, hx => by
    have h0 : o ≠ 0 := by omega
    haveI : Ps o := ⟨by omega⟩
    have wh := FS.whole c ho t p
    by_cases h : t.fmod o * c + p.fmod o < o
    · obtain ⟨ρ, e⟩ := wb_end (f := f) hx h0 h
      refine ⟨ρ, (w_rt (ρ1 := [.sh (.int c), .sh (.int t), .sh (.int p), .sh (.int o), .sh (.int f), x]) rfl e).trans ?_⟩
      rw [half, fdE _ ho, fdE _ ho]
      rw [fmE _ ho, fmE _ ho] at h
      have z := FS.none (Int.emod_nonneg t h0) (Int.emod_nonneg p h0) h
      rw [z] at wh
      rw [wh, Int.add_zero]
    · have e := wb_go (f := f) hx h0 h
      rw [half, fdE t ho, fdE p ho, fmE t ho, fmE p ho, fdE _ ho, fmE _ ho] at e
      rw [fmE t ho, fmE p ho] at h
      have a1 := Int.emod_nonneg t h0
      have a2 := Int.emod_lt_of_pos t ho
      have b1 := Int.emod_nonneg p h0
      have b2 := Int.emod_lt_of_pos p ho
      have tc : 0 ≤ t % o * (c : Int) := Int.mul_nonneg a1 (by omega)
      have t0 : 0 < t % o := by
        rcases Int.lt_or_eq_of_le a1 with q | q
        · exact q
        · exfalso
          apply h
          rw [← q, Int.zero_mul]; omega
      have sw := FS.swap t0 a2 b1 b2 c
      rw [sw] at wh
      have k0 : 0 ≤ t % o * (c : Int) + p % o := by omega
      have q0 : 0 ≤ (t % o * (c : Int) + p % o) / o := Int.ediv_nonneg k0 (by omega)
      have qc : (t % o * (c : Int) + p % o) / o ≤ c := by
        have u : t % o * (c : Int) ≤ (o - 1) * c := Int.mul_le_mul_of_nonneg_right (by omega) (by omega)
        have u2 : t % o * (c : Int) + p % o < (c + 1) * o := by
          rw [Int.sub_mul] at u
          rw [Int.add_mul, Int.one_mul, Int.mul_comm (c : Int) o]
          omega
        have := Int.ediv_lt_of_lt_mul ho u2
        omega
      have s1 := sz_abs sc
      have s2 := sz_abs so
      have m1 := Int.emod_nonneg (t % o * (c : Int) + p % o) h0
      have m2 := Int.emod_lt_of_pos (t % o * (c : Int) + p % o) ho
      have en : (((t % o * (c : Int) + p % o) / o).toNat : Int) = (t % o * (c : Int) + p % o) / o := Int.toNat_of_nonneg q0
      obtain ⟨ρ, r⟩ := while_ok n ((t % o * (c : Int) + p % o) / o).toNat o ((t % o * (c : Int) + p % o) % o) (t % o) (f + (FS.tri c * (t / o) + c * (p / o))) (.sh (.int (t % o * c + p % o))) (by omega) t0 (by rw [en]; exact szI (by omega) (by omega)) so (szI (by omega) (by omega)) (szI (by omega) (by omega)) (.inr ⟨_, rfl⟩)
      rw [en] at r
      refine ⟨ρ, (w_go (x := .no) (ρ1 := [.sh (.int c), .sh (.int t), .sh (.int p), .sh (.int o), .sh (.int f), x]) rfl e r).trans ?_⟩
      rw [wh]
      congr 5
      omega
/-- floors -/
theorem floors_ok {c t p o : Int} (hc : 0 ≤ c) (ho : 0 < o) (sc : Sz c 400) (st : Sz t 1000) (sp : Sz p 1000) (so : Sz o 1000) : run_floors [.int c, .int t, .int p, .int o] = .ok false (.int (FS.S c.toNat t p o)) .non := by
  have en : (c.toNat : Int) = c := Int.toNat_of_nonneg hc
  obtain ⟨ρ, e⟩ := while_ok o.toNat c.toNat t p o 0 .un (Nat.le_refl _) ho (by rw [en]; exact sc) st sp so (.inl rfl)
  rw [en, Int.zero_add] at e
  refine p_run rfl (x := .ok (.rt (.sh (.int (FS.S c.toNat t p o))), ρ)) ?_ rfl
  rw [fb_floors_eq]
  exact b_seq (x := .ok (.nx, [.sh (.int c), .sh (.int t), .sh (.int p), .sh (.int o), .sh (.int 0), .un])) rfl e
/-! ### check_whole, floor_sum -/
theorem check_ok {v l : Int} (h : ¬ v < l) : run_check_whole ([.int v, .int l] ++ [.non]) = .ok false .non .non := by
  apply p_run
  · rfl
  · unfold fb_check_whole
    show fsIf _ _ _ [.sh (.int v), .sh (.int l), .sh .non] = _
    repeat' first
      | ((with_reducible show run_is_whole _ = _); exact is_whole_int _)
      | ((with_reducible show isNotND _ _ = _); rfl)
      | ((with_reducible show R.ok _ = R.ok _); rfl)
      | ((with_reducible apply b_var); rfl)
      | ((with_reducible apply b_varb); rfl)
      | ((with_reducible apply b_varo); rfl)
      | (with_reducible exact b_c)
      | (with_reducible exact b_nil)
      | (with_reducible exact b_fnil)
      | ((with_reducible show fsNil _ = R.ok (Fl.nx, _)); rfl)
      | (with_reducible exact b_foN)
      | (with_reducible apply b_op)
      | (with_reducible apply b_un)
      | (with_reducible apply b_cons)
      | (with_reducible apply b_val)
      | (with_reducible apply b_tand)
      | (with_reducible apply b_tor)
      | (with_reducible apply b_tnot)
      | (with_reducible apply b_ife)
      | (with_reducible apply b_and)
      | (with_reducible apply b_or)
      | (with_reducible apply b_not)
      | (with_reducible apply b_tup)
      | (with_reducible apply b_lst)
      | (with_reducible apply b_b)
      | (with_reducible apply b_foS)
      | (with_reducible apply b_sl)
      | (with_reducible apply b_nx)
      | (with_reducible exact b_rt)
      | (with_reducible exact b_xx)
      | (with_reducible apply b_seq)
      | (with_reducible apply b_expr)
      | (with_reducible apply b_ret)
      | (with_reducible apply b_if)
      | (with_reducible apply b_set)
      | (with_reducible apply b_aug)
      | (with_reducible apply b_par)
      | (with_reducible apply b_pat)
      | (with_reducible apply b_raise)
      | (with_reducible apply b_put)
      | (with_reducible apply b_call)
      | (with_reducible apply b_callB)
      | (with_reducible apply b_fiA)
      | (with_reducible apply b_fiOf)
      | (with_reducible apply b_for)
      | ((with_reducible show addD (.int _) (.int _) = some _); exact rfl)
      | ((with_reducible show subD (.int _) (.int _) = some _); exact rfl)
      | ((with_reducible show iaddD (.int _) (.int _) = some _); exact rfl)
      | ((with_reducible show negD (.int _) = some _); exact rfl)
      | ((with_reducible show ltD (.int _) (.int _) = some _); exact rfl)
      | ((with_reducible show leD (.int _) (.int _) = some _); exact rfl)
      | ((with_reducible show gtD (.int _) (.int _) = some _); exact rfl)
      | ((with_reducible show geD (.int _) (.int _) = some _); exact rfl)
      | ((with_reducible show intD [.int _] = some _); exact rfl)
      | ((with_reducible show maxD [.int _, .int _] = some _); exact rfl)
      | ((with_reducible show minD [.int _, .int _] = some _); exact rfl)
      | ((with_reducible show bitsD (.int _) = some _); exact rfl)
      | (with_reducible exact eqD_i _ _)
      | (with_reducible exact neD_i _ _)
      | ((with_reducible refine mulD_i inferInstance inferInstance ?_); decide +kernel)
      | ((with_reducible refine divD_i inferInstance ?_ ?_); decide +kernel; first | assumption | omega | decide)
      | ((with_reducible refine modD_i ?_); first | assumption | omega | decide)
      | ((with_reducible apply ite_t); (first | rfl | (simp only [decide_eq_true_eq, Bool.not_eq_true', decide_eq_false_iff_not, Bool.not_eq_eq_eq_not, Bool.not_true, Bool.not_false, Bool.not_eq_true] <;> first | assumption | omega)))
      | ((with_reducible apply ite_f); (first | rfl | (simp only [decide_eq_true_eq, Bool.not_eq_true', decide_eq_false_iff_not, Bool.not_eq_eq_eq_not, Bool.not_true, Bool.not_false, Bool.not_eq_true] <;> first | assumption | omega)))
      | ((with_reducible show _ = Val.rf _ :: _); rfl)
      | ((with_reducible show backV _ _ = _); rfl)
      | ((with_reducible show ixD _ _ = some _); rfl)
      | ((with_reducible show ixN _ _ = some _); rfl)
      | ((with_reducible show asQ _ = _); rfl)
      | ((with_reducible show peek _ _ = some _); rfl)
      | ((with_reducible show peekL _ _ = some _); rfl)
      | ((with_reducible show frzL _ _ = some _); rfl)
      | ((with_reducible show frz _ _ = some _); rfl)
      | ((with_reducible show store _ _ _ = some _); rfl)
      | ((with_reducible show nbo _ _ = true); rfl)
      | ((with_reducible show muL _ _ = some _); rfl)
      | ((with_reducible show muD _ _ = some _); rfl)
      | ((with_reducible show bindP _ _ _ = some _); rfl)
      | ((with_reducible show List.length _ ≤ 16777216); exact Nat.le_of_ble_eq_true rfl)
      | ((with_reducible show (_ : Option Slot) = some (Slot.sh _)); rfl)
  · rfl
theorem floor_sum_ok {c t p o : Int} (hc : 0 ≤ c) (ho : 0 < o) (sc : Sz c 400) (st : Sz t 1000) (sp : Sz p 1000) (so : Sz o 1000) : run_floor_sum [.int c, .int t, .int p, .int o] = .ok false (.int (FS.S c.toNat t p o)) .non := by
  apply p_run
  · rfl
  · unfold fb_floor_sum
    show fsSeq _ _ [.sh (.int c), .sh (.int t), .sh (.int p), .sh (.int o), .un] = _
    repeat' first
      | ((with_reducible show run_is_whole _ = _); exact is_whole_int _)
      | ((with_reducible show run_check_whole _ = _); exact check_ok (by omega))
      | ((with_reducible show run_floors _ = _); exact floors_ok hc ho sc st sp so)
      | ((with_reducible show loopD _ _ (_ :: _) _ = _); apply l_nx)
      | ((with_reducible show loopD _ _ [] _ = _); exact l_nil)
      | ((with_reducible show asQ _ = _); rfl)
      | ((with_reducible show R.ok _ = R.ok _); rfl)
      | ((with_reducible apply b_var); rfl)
      | ((with_reducible apply b_varb); rfl)
      | ((with_reducible apply b_varo); rfl)
      | (with_reducible exact b_c)
      | (with_reducible exact b_nil)
      | (with_reducible exact b_fnil)
      | ((with_reducible show fsNil _ = R.ok (Fl.nx, _)); rfl)
      | (with_reducible exact b_foN)
      | (with_reducible apply b_op)
      | (with_reducible apply b_un)
      | (with_reducible apply b_cons)
      | (with_reducible apply b_val)
      | (with_reducible apply b_tand)
      | (with_reducible apply b_tor)
      | (with_reducible apply b_tnot)
      | (with_reducible apply b_ife)
      | (with_reducible apply b_and)
      | (with_reducible apply b_or)
      | (with_reducible apply b_not)
      | (with_reducible apply b_tup)
      | (with_reducible apply b_lst)
      | (with_reducible apply b_b)
      | (with_reducible apply b_foS)
      | (with_reducible apply b_sl)
      | (with_reducible apply b_nx)
      | (with_reducible exact b_rt)
      | (with_reducible exact b_xx)
      | (with_reducible apply b_seq)
      | (with_reducible apply b_expr)
      | (with_reducible apply b_ret)
      | (with_reducible apply b_if)
      | (with_reducible apply b_set)
      | (with_reducible apply b_aug)
      | (with_reducible apply b_par)
      | (with_reducible apply b_pat)
      | (with_reducible apply b_raise)
      | (with_reducible apply b_put)
      | (with_reducible apply b_call)
      | (with_reducible apply b_callB)
      | (with_reducible apply b_fiA)
      | (with_reducible apply b_fiOf)
      | (with_reducible apply b_for)
      | ((with_reducible show addD (.int _) (.int _) = some _); exact rfl)
      | ((with_reducible show subD (.int _) (.int _) = some _); exact rfl)
      | ((with_reducible show iaddD (.int _) (.int _) = some _); exact rfl)
      | ((with_reducible show negD (.int _) = some _); exact rfl)
      | ((with_reducible show ltD (.int _) (.int _) = some _); exact rfl)
      | ((with_reducible show leD (.int _) (.int _) = some _); exact rfl)
      | ((with_reducible show gtD (.int _) (.int _) = some _); exact rfl)
      | ((with_reducible show geD (.int _) (.int _) = some _); exact rfl)
      | ((with_reducible show intD [.int _] = some _); exact rfl)
      | ((with_reducible show maxD [.int _, .int _] = some _); exact rfl)
      | ((with_reducible show minD [.int _, .int _] = some _); exact rfl)
      | ((with_reducible show bitsD (.int _) = some _); exact rfl)
      | (with_reducible exact eqD_i _ _)
      | (with_reducible exact neD_i _ _)
      | ((with_reducible refine mulD_i inferInstance inferInstance ?_); decide +kernel)
      | ((with_reducible refine divD_i inferInstance ?_ ?_); decide +kernel; first | assumption | omega | decide)
      | ((with_reducible refine modD_i ?_); first | assumption | omega | decide)
      | ((with_reducible apply ite_t); (first | rfl | (simp only [decide_eq_true_eq, Bool.not_eq_true', decide_eq_false_iff_not, Bool.not_eq_eq_eq_not, Bool.not_true, Bool.not_false, Bool.not_eq_true] <;> first | assumption | omega)))
      | ((with_reducible apply ite_f); (first | rfl | (simp only [decide_eq_true_eq, Bool.not_eq_true', decide_eq_false_iff_not, Bool.not_eq_eq_eq_not, Bool.not_true, Bool.not_false, Bool.not_eq_true] <;> first | assumption | omega)))
      | ((with_reducible show _ = Val.rf _ :: _); rfl)
      | ((with_reducible show backV _ _ = _); rfl)
      | ((with_reducible show ixD _ _ = some _); rfl)
      | ((with_reducible show ixN _ _ = some _); rfl)
      | ((with_reducible show asQ _ = _); rfl)
      | ((with_reducible show peek _ _ = some _); rfl)
      | ((with_reducible show peekL _ _ = some _); rfl)
      | ((with_reducible show frzL _ _ = some _); rfl)
      | ((with_reducible show frz _ _ = some _); rfl)
      | ((with_reducible show store _ _ _ = some _); rfl)
      | ((with_reducible show nbo _ _ = true); rfl)
      | ((with_reducible show muL _ _ = some _); rfl)
      | ((with_reducible show muD _ _ = some _); rfl)
      | ((with_reducible show bindP _ _ _ = some _); rfl)
      | ((with_reducible show List.length _ ≤ 16777216); exact Nat.le_of_ble_eq_true rfl)
      | ((with_reducible show (_ : Option Slot) = some (Slot.sh _)); rfl)
  · rfl
end K60
namespace K60
open PySem PySem.Spec PyProof.Rows L2 Tr
/-! ### _law_floors -/
def OKp (n : Nat) (rise base : Int) : Prop := ∀ (many : Nat) (start : Int), Sz (many : Int) 400 → Sz start 1000 → runN__law_floors n [.int many, .int rise, .int start, .int base] = .ok false (.int (FS.S many rise start base)) .non
theorem lf_zero {n : Nat} {rise start base : Int} : runN__law_floors (n + 1) [.int 0, .int rise, .int start, .int base] = .ok false (.int 0) .non := by
  show runP _ _ _ _ = _
  apply p_run
  · rfl
  · unfold fb__law_floors
    show fsSeq _ _ [.sh (.int 0), .sh (.int rise), .sh (.int start), .sh (.int base), .un, .un] = _
    repeat' first
      | ((with_reducible show R.ok _ = R.ok _); rfl)
      | ((with_reducible apply b_var); rfl)
      | ((with_reducible apply b_varb); rfl)
      | ((with_reducible apply b_varo); rfl)
      | (with_reducible exact b_c)
      | (with_reducible exact b_nil)
      | (with_reducible exact b_fnil)
      | ((with_reducible show fsNil _ = R.ok (Fl.nx, _)); rfl)
      | (with_reducible exact b_foN)
      | (with_reducible apply b_op)
      | (with_reducible apply b_un)
      | (with_reducible apply b_cons)
      | (with_reducible apply b_val)
      | (with_reducible apply b_tand)
      | (with_reducible apply b_tor)
      | (with_reducible apply b_tnot)
      | (with_reducible apply b_ife)
      | (with_reducible apply b_and)
      | (with_reducible apply b_or)
      | (with_reducible apply b_not)
      | (with_reducible apply b_tup)
      | (with_reducible apply b_lst)
      | (with_reducible apply b_b)
      | (with_reducible apply b_foS)
      | (with_reducible apply b_sl)
      | (with_reducible apply b_nx)
      | (with_reducible exact b_rt)
      | (with_reducible exact b_xx)
      | (with_reducible apply b_seq)
      | (with_reducible apply b_expr)
      | (with_reducible apply b_ret)
      | (with_reducible apply b_if)
      | (with_reducible apply b_set)
      | (with_reducible apply b_aug)
      | (with_reducible apply b_par)
      | (with_reducible apply b_pat)
      | (with_reducible apply b_raise)
      | (with_reducible apply b_put)
      | (with_reducible apply b_call)
      | (with_reducible apply b_callB)
      | (with_reducible apply b_fiA)
      | (with_reducible apply b_fiOf)
      | (with_reducible apply b_for)
      | ((with_reducible show addD (.int _) (.int _) = some _); exact rfl)
      | ((with_reducible show subD (.int _) (.int _) = some _); exact rfl)
      | ((with_reducible show iaddD (.int _) (.int _) = some _); exact rfl)
      | ((with_reducible show negD (.int _) = some _); exact rfl)
      | ((with_reducible show ltD (.int _) (.int _) = some _); exact rfl)
      | ((with_reducible show leD (.int _) (.int _) = some _); exact rfl)
      | ((with_reducible show gtD (.int _) (.int _) = some _); exact rfl)
      | ((with_reducible show geD (.int _) (.int _) = some _); exact rfl)
      | ((with_reducible show intD [.int _] = some _); exact rfl)
      | ((with_reducible show maxD [.int _, .int _] = some _); exact rfl)
      | ((with_reducible show minD [.int _, .int _] = some _); exact rfl)
      | ((with_reducible show bitsD (.int _) = some _); exact rfl)
      | (with_reducible exact eqD_i _ _)
      | (with_reducible exact neD_i _ _)
      | ((with_reducible refine mulD_i inferInstance inferInstance ?_); decide +kernel)
      | ((with_reducible refine divD_i inferInstance ?_ ?_); decide +kernel; first | assumption | omega | decide)
      | ((with_reducible refine modD_i ?_); first | assumption | omega | decide)
      | ((with_reducible apply ite_t); (first | rfl | (simp only [decide_eq_true_eq, Bool.not_eq_true', decide_eq_false_iff_not, Bool.not_eq_eq_eq_not, Bool.not_true, Bool.not_false, Bool.not_eq_true] <;> first | assumption | omega)))
      | ((with_reducible apply ite_f); (first | rfl | (simp only [decide_eq_true_eq, Bool.not_eq_true', decide_eq_false_iff_not, Bool.not_eq_eq_eq_not, Bool.not_true, Bool.not_false, Bool.not_eq_true] <;> first | assumption | omega)))
      | ((with_reducible show _ = Val.rf _ :: _); rfl)
      | ((with_reducible show backV _ _ = _); rfl)
      | ((with_reducible show ixD _ _ = some _); rfl)
      | ((with_reducible show ixN _ _ = some _); rfl)
      | ((with_reducible show asQ _ = _); rfl)
      | ((with_reducible show peek _ _ = some _); rfl)
      | ((with_reducible show peekL _ _ = some _); rfl)
      | ((with_reducible show frzL _ _ = some _); rfl)
      | ((with_reducible show frz _ _ = some _); rfl)
      | ((with_reducible show store _ _ _ = some _); rfl)
      | ((with_reducible show nbo _ _ = true); rfl)
      | ((with_reducible show muL _ _ = some _); rfl)
      | ((with_reducible show muD _ _ = some _); rfl)
      | ((with_reducible show bindP _ _ _ = some _); rfl)
      | ((with_reducible show List.length _ ≤ 16777216); exact Nat.le_of_ble_eq_true rfl)
      | ((with_reducible show (_ : Option Slot) = some (Slot.sh _)); rfl)
  · rfl
theorem lf_end {n : Nat} {many rise start base : Int} [Sz many 400] [Sz rise 1000] [Sz start 1000] [Sz base 900] [Ps base] (h0 : base ≠ 0) (hm : ¬ many = 0) (h : (rise.fmod base * (many - 1) + start.fmod base).fdiv base = 0) :
    runN__law_floors (n + 1) [.int many, .int rise, .int start, .int base] = .ok false (.int ((many * (many - 1)).fdiv 2 * (rise.fdiv base) + many * start.fdiv base)) .non := by
  show runP _ _ _ _ = _
  apply p_run
  · rfl
  · unfold fb__law_floors
    show fsSeq _ _ [.sh (.int many), .sh (.int rise), .sh (.int start), .sh (.int base), .un, .un] = _
    repeat' first
      | ((with_reducible show R.ok _ = R.ok _); rfl)
      | ((with_reducible apply b_var); rfl)
      | ((with_reducible apply b_varb); rfl)
      | ((with_reducible apply b_varo); rfl)
      | (with_reducible exact b_c)
      | (with_reducible exact b_nil)
      | (with_reducible exact b_fnil)
      | ((with_reducible show fsNil _ = R.ok (Fl.nx, _)); rfl)
      | (with_reducible exact b_foN)
      | (with_reducible apply b_op)
      | (with_reducible apply b_un)
      | (with_reducible apply b_cons)
      | (with_reducible apply b_val)
      | (with_reducible apply b_tand)
      | (with_reducible apply b_tor)
      | (with_reducible apply b_tnot)
      | (with_reducible apply b_ife)
      | (with_reducible apply b_and)
      | (with_reducible apply b_or)
      | (with_reducible apply b_not)
      | (with_reducible apply b_tup)
      | (with_reducible apply b_lst)
      | (with_reducible apply b_b)
      | (with_reducible apply b_foS)
      | (with_reducible apply b_sl)
      | (with_reducible apply b_nx)
      | (with_reducible exact b_rt)
      | (with_reducible exact b_xx)
      | (with_reducible apply b_seq)
      | (with_reducible apply b_expr)
      | (with_reducible apply b_ret)
      | (with_reducible apply b_if)
      | (with_reducible apply b_set)
      | (with_reducible apply b_aug)
      | (with_reducible apply b_par)
      | (with_reducible apply b_pat)
      | (with_reducible apply b_raise)
      | (with_reducible apply b_put)
      | (with_reducible apply b_call)
      | (with_reducible apply b_callB)
      | (with_reducible apply b_fiA)
      | (with_reducible apply b_fiOf)
      | (with_reducible apply b_for)
      | ((with_reducible show addD (.int _) (.int _) = some _); exact rfl)
      | ((with_reducible show subD (.int _) (.int _) = some _); exact rfl)
      | ((with_reducible show iaddD (.int _) (.int _) = some _); exact rfl)
      | ((with_reducible show negD (.int _) = some _); exact rfl)
      | ((with_reducible show ltD (.int _) (.int _) = some _); exact rfl)
      | ((with_reducible show leD (.int _) (.int _) = some _); exact rfl)
      | ((with_reducible show gtD (.int _) (.int _) = some _); exact rfl)
      | ((with_reducible show geD (.int _) (.int _) = some _); exact rfl)
      | ((with_reducible show intD [.int _] = some _); exact rfl)
      | ((with_reducible show maxD [.int _, .int _] = some _); exact rfl)
      | ((with_reducible show minD [.int _, .int _] = some _); exact rfl)
      | ((with_reducible show bitsD (.int _) = some _); exact rfl)
      | (with_reducible exact eqD_i _ _)
      | (with_reducible exact neD_i _ _)
      | ((with_reducible refine mulD_i inferInstance inferInstance ?_); decide +kernel)
      | ((with_reducible refine divD_i inferInstance ?_ ?_); decide +kernel; first | assumption | omega | decide)
      | ((with_reducible refine modD_i ?_); first | assumption | omega | decide)
      | ((with_reducible apply ite_t); (first | rfl | (simp only [decide_eq_true_eq, Bool.not_eq_true', decide_eq_false_iff_not, Bool.not_eq_eq_eq_not, Bool.not_true, Bool.not_false, Bool.not_eq_true] <;> first | assumption | omega)))
      | ((with_reducible apply ite_f); (first | rfl | (simp only [decide_eq_true_eq, Bool.not_eq_true', decide_eq_false_iff_not, Bool.not_eq_eq_eq_not, Bool.not_true, Bool.not_false, Bool.not_eq_true] <;> first | assumption | omega)))
      | ((with_reducible show _ = Val.rf _ :: _); rfl)
      | ((with_reducible show backV _ _ = _); rfl)
      | ((with_reducible show ixD _ _ = some _); rfl)
      | ((with_reducible show ixN _ _ = some _); rfl)
      | ((with_reducible show asQ _ = _); rfl)
      | ((with_reducible show peek _ _ = some _); rfl)
      | ((with_reducible show peekL _ _ = some _); rfl)
      | ((with_reducible show frzL _ _ = some _); rfl)
      | ((with_reducible show frz _ _ = some _); rfl)
      | ((with_reducible show store _ _ _ = some _); rfl)
      | ((with_reducible show nbo _ _ = true); rfl)
      | ((with_reducible show muL _ _ = some _); rfl)
      | ((with_reducible show muD _ _ = some _); rfl)
      | ((with_reducible show bindP _ _ _ = some _); rfl)
      | ((with_reducible show List.length _ ≤ 16777216); exact Nat.le_of_ble_eq_true rfl)
      | ((with_reducible show (_ : Option Slot) = some (Slot.sh _)); rfl)
  · rfl
theorem lf_go {n : Nat} {many rise start base z : Int} [Sz many 400] [Sz rise 1000] [Sz start 1000] [Sz base 900] [Ps base] (h0 : base ≠ 0) (hm : ¬ many = 0) (h : ¬ (rise.fmod base * (many - 1) + start.fmod base).fdiv base = 0)
    (r : runN__law_floors n [.int ((rise.fmod base * (many - 1) + start.fmod base).fdiv base), .int base, .int (base - start.fmod base - 1 + rise.fmod base), .int (rise.fmod base)] = .ok false (.int z) .non) :
    runN__law_floors (n + 1) [.int many, .int rise, .int start, .int base] = .ok false (.int ((many * (many - 1)).fdiv 2 * (rise.fdiv base) + many * start.fdiv base + (rise.fmod base * (many - 1) + start.fmod base).fdiv base * many - z)) .non := by
  show runP _ _ _ _ = _
  apply p_run
  · rfl
  · unfold fb__law_floors
    show fsSeq _ _ [.sh (.int many), .sh (.int rise), .sh (.int start), .sh (.int base), .un, .un] = _
    repeat' first
      | ((with_reducible show runN__law_floors _ _ = _); exact r)
      | ((with_reducible show R.ok _ = R.ok _); rfl)
      | ((with_reducible apply b_var); rfl)
      | ((with_reducible apply b_varb); rfl)
      | ((with_reducible apply b_varo); rfl)
      | (with_reducible exact b_c)
      | (with_reducible exact b_nil)
      | (with_reducible exact b_fnil)
      | ((with_reducible show fsNil _ = R.ok (Fl.nx, _)); rfl)
      | (with_reducible exact b_foN)
      | (with_reducible apply b_op)
      | (with_reducible apply b_un)
      | (with_reducible apply b_cons)
      | (with_reducible apply b_val)
      | (with_reducible apply b_tand)
      | (with_reducible apply b_tor)
      | (with_reducible apply b_tnot)
      | (with_reducible apply b_ife)
      | (with_reducible apply b_and)
      | (with_reducible apply b_or)
      | (with_reducible apply b_not)
      | (with_reducible apply b_tup)
      | (with_reducible apply b_lst)
      | (with_reducible apply b_b)
      | (with_reducible apply b_foS)
      | (with_reducible apply b_sl)
      | (with_reducible apply b_nx)
      | (with_reducible exact b_rt)
      | (with_reducible exact b_xx)
      | (with_reducible apply b_seq)
      | (with_reducible apply b_expr)
      | (with_reducible apply b_ret)
      | (with_reducible apply b_if)
      | (with_reducible apply b_set)
      | (with_reducible apply b_aug)
      | (with_reducible apply b_par)
      | (with_reducible apply b_pat)
      | (with_reducible apply b_raise)
      | (with_reducible apply b_put)
      | (with_reducible apply b_call)
      | (with_reducible apply b_callB)
      | (with_reducible apply b_fiA)
      | (with_reducible apply b_fiOf)
      | (with_reducible apply b_for)
      | ((with_reducible show addD (.int _) (.int _) = some _); exact rfl)
      | ((with_reducible show subD (.int _) (.int _) = some _); exact rfl)
      | ((with_reducible show iaddD (.int _) (.int _) = some _); exact rfl)
      | ((with_reducible show negD (.int _) = some _); exact rfl)
      | ((with_reducible show ltD (.int _) (.int _) = some _); exact rfl)
      | ((with_reducible show leD (.int _) (.int _) = some _); exact rfl)
      | ((with_reducible show gtD (.int _) (.int _) = some _); exact rfl)
      | ((with_reducible show geD (.int _) (.int _) = some _); exact rfl)
      | ((with_reducible show intD [.int _] = some _); exact rfl)
      | ((with_reducible show maxD [.int _, .int _] = some _); exact rfl)
      | ((with_reducible show minD [.int _, .int _] = some _); exact rfl)
      | ((with_reducible show bitsD (.int _) = some _); exact rfl)
      | (with_reducible exact eqD_i _ _)
      | (with_reducible exact neD_i _ _)
      | ((with_reducible refine mulD_i inferInstance inferInstance ?_); decide +kernel)
      | ((with_reducible refine divD_i inferInstance ?_ ?_); decide +kernel; first | assumption | omega | decide)
      | ((with_reducible refine modD_i ?_); first | assumption | omega | decide)
      | ((with_reducible apply ite_t); (first | rfl | (simp only [decide_eq_true_eq, Bool.not_eq_true', decide_eq_false_iff_not, Bool.not_eq_eq_eq_not, Bool.not_true, Bool.not_false, Bool.not_eq_true] <;> first | assumption | omega)))
      | ((with_reducible apply ite_f); (first | rfl | (simp only [decide_eq_true_eq, Bool.not_eq_true', decide_eq_false_iff_not, Bool.not_eq_eq_eq_not, Bool.not_true, Bool.not_false, Bool.not_eq_true] <;> first | assumption | omega)))
      | ((with_reducible show _ = Val.rf _ :: _); rfl)
      | ((with_reducible show backV _ _ = _); rfl)
      | ((with_reducible show ixD _ _ = some _); rfl)
      | ((with_reducible show ixN _ _ = some _); rfl)
      | ((with_reducible show asQ _ = _); rfl)
      | ((with_reducible show peek _ _ = some _); rfl)
      | ((with_reducible show peekL _ _ = some _); rfl)
      | ((with_reducible show frzL _ _ = some _); rfl)
      | ((with_reducible show frz _ _ = some _); rfl)
      | ((with_reducible show store _ _ _ = some _); rfl)
      | ((with_reducible show nbo _ _ = true); rfl)
      | ((with_reducible show muL _ _ = some _); rfl)
      | ((with_reducible show muD _ _ = some _); rfl)
      | ((with_reducible show bindP _ _ _ = some _); rfl)
      | ((with_reducible show List.length _ ≤ 16777216); exact Nat.le_of_ble_eq_true rfl)
      | ((with_reducible show (_ : Option Slot) = some (Slot.sh _)); rfl)
  · rfl
theorem lf_step {n : Nat} {rise base : Int} (hb : 0 < base) (sr : Sz rise 1000) (sb : Sz base 900) (h : 0 < rise % base → OKp n base (rise % base)) : OKp (n + 1) rise base := by
  intro many start sm ss
  have h0 : base ≠ 0 := by omega
  haveI : Ps base := ⟨by omega⟩
  rcases Nat.eq_zero_or_pos many with hz | hp
  · subst hz
    exact lf_zero
  · have hm : ¬ (many : Int) = 0 := by omega
    have wh := FS.whole many hb rise start
    have a1 := Int.emod_nonneg rise h0
    have a2 := Int.emod_lt_of_pos rise hb
    have b1 := Int.emod_nonneg start h0
    have b2 := Int.emod_lt_of_pos start hb
    by_cases c : (rise.fmod base * ((many : Int) - 1) + start.fmod base).fdiv base = 0
    · rw [lf_end h0 hm c, half, fdE _ hb, fdE _ hb, wh]
      rw [fmE _ hb, fmE _ hb, fdE _ hb] at c
      have k0 : 0 ≤ rise % base * ((many : Int) - 1) := Int.mul_nonneg a1 (by omega)
      have hlt : rise % base * ((many : Int) - 1) + start % base < base := by
        have := Int.emod_add_mul_ediv (rise % base * ((many : Int) - 1) + start % base) base
        rw [c, Int.mul_zero, Int.add_zero] at this
        have q := Int.emod_lt_of_pos (rise % base * ((many : Int) - 1) + start % base) hb
        omega
      obtain ⟨m, rfl⟩ : ∃ m, many = m + 1 := ⟨many - 1, by omega⟩
      have em : ((m + 1 : Nat) : Int) - 1 = m := by omega
      rw [em] at hlt c
      have z : FS.S (m + 1) (rise % base) (start % base) base = 0 := by
        show FS.S m _ _ _ + _ = _
        rw [FS.none a1 b1 hlt, c]; rfl
      rw [z, Int.add_zero]
    · have c' := c
      rw [fmE _ hb, fmE _ hb, fdE _ hb] at c'
      obtain ⟨p0, oth⟩ := FS.other a1 a2 b1 b2 hp c'
      have k0 : 0 ≤ rise % base * ((many : Int) - 1) + start % base := by have := Int.mul_nonneg a1 (show 0 ≤ (many : Int) - 1 by omega); omega
      have q0 : 0 ≤ (rise % base * ((many : Int) - 1) + start % base) / base := Int.ediv_nonneg k0 (by omega)
      have qm : (rise % base * ((many : Int) - 1) + start % base) / base < many + 1 := by
        apply Int.ediv_lt_of_lt_mul hb
        have u : rise % base * ((many : Int) - 1) ≤ base * ((many : Int) - 1) := Int.mul_le_mul_of_nonneg_right (by omega) (by omega)
        have u2 : base * ((many : Int) - 1) = base * many - base := by rw [Int.mul_sub, Int.mul_one]
        rw [Int.add_mul, Int.one_mul, Int.mul_comm (many : Int) base]
        omega
      have s1 := sz_abs sm
      have s2 := sz_abs sb
      have pw : (2 : Int) ^ 900 * 2 < 2 ^ 1000 := by decide +kernel
      have en : (((rise % base * ((many : Int) - 1) + start % base) / base).toNat : Int) = (rise % base * ((many : Int) - 1) + start % base) / base := Int.toNat_of_nonneg q0
      have ih := h p0 ((rise % base * ((many : Int) - 1) + start % base) / base).toNat (base - start % base - 1 + rise % base) (by rw [en]; exact szI (by omega) (by omega)) (szI (by omega) (by omega))
      rw [en] at ih
      have g := lf_go (n := n) (many := (many : Int)) (rise := rise) (start := start) (base := base) h0 hm c (z := FS.S ((rise % base * ((many : Int) - 1) + start % base) / base).toNat base (base - start % base - 1 + rise % base) (rise % base)) (by
        rw [fmE _ hb, fmE _ hb, fdE _ hb]; exact ih)
      rw [g, half, fdE _ hb, fdE _ hb, fmE _ hb, fmE _ hb, fdE _ hb, wh, oth]
      congr 2
      omega
theorem mod1 {b r : Int} (h : r ≤ b) (h2 : b - r < r) (h0 : 0 < r) : b % r = b - r := by
  have e : (b - r + r) % r = (b - r) % r := Int.add_emod_right _ _
  rw [Int.sub_add_cancel] at e
  rw [e]
  exact Int.emod_eq_of_lt (by omega) h2
theorem lf_depth : ∀ (s n : Nat) (rise base : Int), 2 * s + 1 ≤ n → 0 < base → base < 2 ^ s → s ≤ 900 → Sz rise 1000 → OKp n rise base
  | 0, n, rise, base, _, hb, hs, _, _ => by exfalso; rw [Int.pow_zero] at hs; omega
  | s + 1, n, rise, base, hn, hb, hs, h9, sr => by
    have e2 : (2 : Int) ^ (s + 1) = 2 ^ s * 2 := Int.pow_succ 2 s
    have p9 : (2 : Int) ^ (s + 1) ≤ 2 ^ 900 := by
      have h := Nat.pow_le_pow_right (show 0 < 2 by decide) h9
      have e : ∀ k : Nat, ((2 ^ k : Nat) : Int) = (2 : Int) ^ k := fun k => by simp
      rw [← e, ← e]
      exact Int.ofNat_le.mpr h
    have sb : Sz base 900 := szI (by omega) (by omega)
    have p1 : (2 : Int) ^ 900 < 2 ^ 1000 := by decide +kernel
    have sb' : Sz base 1000 := szI (by omega) (by omega)
    have ha := Int.emod_nonneg rise (show base ≠ 0 by omega)
    have hl := Int.emod_lt_of_pos rise hb
    obtain ⟨m, rfl⟩ : ∃ m, n = m + 1 := ⟨n - 1, by omega⟩
    refine lf_step hb sr sb fun hr => ?_
    by_cases c : rise % base < 2 ^ s
    · exact lf_depth s m base (rise % base) (by omega) hr c (by omega) sb'
    · obtain ⟨k, rfl⟩ : ∃ k, m = k + 1 := ⟨m - 1, by omega⟩
      have sr2 : Sz (rise % base) 900 := szI (by omega) (by omega)
      refine lf_step hr sb' sr2 fun hr2 => ?_
      have e3 : base % (rise % base) = base - rise % base := mod1 (by omega) (by omega) hr
      rw [e3] at hr2 ⊢
      refine lf_depth s k (rise % base) (base - rise % base) (by omega) (by omega) (by omega) (by omega) (szI (by omega) (by omega))
theorem law_floors_ok {many rise start base : Int} (hm : 0 ≤ many) (hb : 0 < base) (sm : Sz many 400) (sr : Sz rise 1000) (ss : Sz start 1000) (sb : base < 2 ^ 130) : run__law_floors [.int many, .int rise, .int start, .int base] = .ok false (.int (FS.S many.toNat rise start base)) .non := by
  have en : (many.toNat : Int) = many := Int.toNat_of_nonneg hm
  have h := lf_depth 130 262 rise base (by decide) hb sb (by decide) sr many.toNat start (by rw [en]; exact sm) ss
  rw [en] at h
  exact h
end K60
namespace K60
open PySem PySem.Spec PyProof.Rows L2 Tr
/-! ### numbers drawn -/
def hsh (s i : Int) : Int := (((s * 1103515245 + 7919 * i * i + i + 1).fmod 2147483647 * (s * 1103515245 + 7919 * i * i + i + 1).fmod 2147483647 + 69621).fmod 2147483629 * 48271).fmod 2147483587
theorem hash_ok {s i : Int} {m n : Nat} (hs : Sz s m) (hi : Sz i n) (hm : m ≤ 20000) (hn : n ≤ 20000) : run__law_hash [.int s, .int i] = .ok false (.int (hsh s i)) .non := by
  haveI : Sz s 20000 := ⟨Nat.lt_of_lt_of_le hs.lt (Nat.pow_le_pow_right (by decide) hm)⟩
  haveI : Sz i 20000 := ⟨Nat.lt_of_lt_of_le hi.lt (Nat.pow_le_pow_right (by decide) hn)⟩
  apply p_run
  · rfl
  · unfold fb__law_hash
    show fsSeq _ _ [.sh (.int s), .sh (.int i), .un] = _
    repeat' first
      | ((with_reducible show R.ok _ = R.ok _); rfl)
      | ((with_reducible apply b_var); rfl)
      | ((with_reducible apply b_varb); rfl)
      | ((with_reducible apply b_varo); rfl)
      | (with_reducible exact b_c)
      | (with_reducible exact b_nil)
      | (with_reducible exact b_fnil)
      | ((with_reducible show fsNil _ = R.ok (Fl.nx, _)); rfl)
      | (with_reducible exact b_foN)
      | (with_reducible apply b_op)
      | (with_reducible apply b_un)
      | (with_reducible apply b_cons)
      | (with_reducible apply b_val)
      | (with_reducible apply b_tand)
      | (with_reducible apply b_tor)
      | (with_reducible apply b_tnot)
      | (with_reducible apply b_ife)
      | (with_reducible apply b_and)
      | (with_reducible apply b_or)
      | (with_reducible apply b_not)
      | (with_reducible apply b_tup)
      | (with_reducible apply b_lst)
      | (with_reducible apply b_b)
      | (with_reducible apply b_foS)
      | (with_reducible apply b_sl)
      | (with_reducible apply b_nx)
      | (with_reducible exact b_rt)
      | (with_reducible exact b_xx)
      | (with_reducible apply b_seq)
      | (with_reducible apply b_expr)
      | (with_reducible apply b_ret)
      | (with_reducible apply b_if)
      | (with_reducible apply b_set)
      | (with_reducible apply b_aug)
      | (with_reducible apply b_par)
      | (with_reducible apply b_pat)
      | (with_reducible apply b_raise)
      | (with_reducible apply b_put)
      | (with_reducible apply b_call)
      | (with_reducible apply b_callB)
      | (with_reducible apply b_fiA)
      | (with_reducible apply b_fiOf)
      | (with_reducible apply b_for)
      | ((with_reducible show addD (.int _) (.int _) = some _); exact rfl)
      | ((with_reducible show subD (.int _) (.int _) = some _); exact rfl)
      | ((with_reducible show iaddD (.int _) (.int _) = some _); exact rfl)
      | ((with_reducible show negD (.int _) = some _); exact rfl)
      | ((with_reducible show ltD (.int _) (.int _) = some _); exact rfl)
      | ((with_reducible show leD (.int _) (.int _) = some _); exact rfl)
      | ((with_reducible show gtD (.int _) (.int _) = some _); exact rfl)
      | ((with_reducible show geD (.int _) (.int _) = some _); exact rfl)
      | ((with_reducible show intD [.int _] = some _); exact rfl)
      | ((with_reducible show maxD [.int _, .int _] = some _); exact rfl)
      | ((with_reducible show minD [.int _, .int _] = some _); exact rfl)
      | ((with_reducible show bitsD (.int _) = some _); exact rfl)
      | (with_reducible exact eqD_i _ _)
      | (with_reducible exact neD_i _ _)
      | ((with_reducible refine mulD_i inferInstance inferInstance ?_); decide +kernel)
      | ((with_reducible refine divD_i inferInstance ?_ ?_); decide +kernel; first | assumption | omega | decide)
      | ((with_reducible refine modD_i ?_); first | assumption | omega | decide)
      | ((with_reducible apply ite_t); (first | rfl | (simp only [decide_eq_true_eq, Bool.not_eq_true', decide_eq_false_iff_not, Bool.not_eq_eq_eq_not, Bool.not_true, Bool.not_false, Bool.not_eq_true] <;> first | assumption | omega)))
      | ((with_reducible apply ite_f); (first | rfl | (simp only [decide_eq_true_eq, Bool.not_eq_true', decide_eq_false_iff_not, Bool.not_eq_eq_eq_not, Bool.not_true, Bool.not_false, Bool.not_eq_true] <;> first | assumption | omega)))
      | ((with_reducible show _ = Val.rf _ :: _); rfl)
      | ((with_reducible show backV _ _ = _); rfl)
      | ((with_reducible show ixD _ _ = some _); rfl)
      | ((with_reducible show ixN _ _ = some _); rfl)
      | ((with_reducible show asQ _ = _); rfl)
      | ((with_reducible show peek _ _ = some _); rfl)
      | ((with_reducible show peekL _ _ = some _); rfl)
      | ((with_reducible show frzL _ _ = some _); rfl)
      | ((with_reducible show frz _ _ = some _); rfl)
      | ((with_reducible show store _ _ _ = some _); rfl)
      | ((with_reducible show nbo _ _ = true); rfl)
      | ((with_reducible show muL _ _ = some _); rfl)
      | ((with_reducible show muD _ _ = some _); rfl)
      | ((with_reducible show bindP _ _ _ = some _); rfl)
      | ((with_reducible show List.length _ ≤ 16777216); exact Nat.le_of_ble_eq_true rfl)
      | ((with_reducible show (_ : Option Slot) = some (Slot.sh _)); rfl)
  · rfl
theorem hsh_sz (s i : Int) : Sz (hsh s i) 40 := by
  have h := fmod_lt (i := ((s * 1103515245 + 7919 * i * i + i + 1).fmod 2147483647 * (s * 1103515245 + 7919 * i * i + i + 1).fmod 2147483647 + 69621).fmod 2147483629 * 48271) (j := 2147483587) (by decide)
  have p : (2147483587 : Int) < 2 ^ 40 := by decide
  exact szI (by unfold hsh; omega) (by unfold hsh; omega)
/-- the turns of the loop -/
def rbody : FS := fsSeq (fsPut 0 (evC (.int 2)) (evOp addD (evOp ixD (evVar 0) (evC (.int 2))) (evC (.int 1))))
 (fsSet 2 (evOp addD (evOp mulD (evVar 2) (evC (.int 2147483587))) (evCall run__law_hash [] (faCons (evOp ixD (evVar 0) (evC (.int 1))) (faCons (evOp ixD (evVar 0) (evC (.int 2))) faNil)))))
theorem rbody_ok {g0 g1 g2 b dr : Int} {x : D} (h1 : Sz g1 40) (h2 : Sz g2 10000) (h3 : Sz dr 10000) :
    rbody [.bo (.lst [.int g0, .int g1, .int g2]), .sh (.int b), .sh (.int dr), .sh x] = .ok (.nx, [.bo (.lst [.int g0, .int g1, .int (g2 + 1)]), .sh (.int b), .sh (.int (dr * 2147483587 + hsh g1 (g2 + 1))), .sh x]) := by
  unfold rbody
  repeat' first
    | ((with_reducible show run__law_hash _ = _); exact hash_ok inferInstance inferInstance (by decide) (by decide))
    | ((with_reducible show R.ok _ = R.ok _); rfl)
    | ((with_reducible apply b_var); rfl)
    | ((with_reducible apply b_varb); rfl)
    | ((with_reducible apply b_varo); rfl)
    | (with_reducible exact b_c)
    | (with_reducible exact b_nil)
    | (with_reducible exact b_fnil)
    | ((with_reducible show fsNil _ = R.ok (Fl.nx, _)); rfl)
    | (with_reducible exact b_foN)
    | (with_reducible apply b_op)
    | (with_reducible apply b_un)
    | (with_reducible apply b_cons)
    | (with_reducible apply b_val)
    | (with_reducible apply b_tand)
    | (with_reducible apply b_tor)
    | (with_reducible apply b_tnot)
    | (with_reducible apply b_ife)
    | (with_reducible apply b_and)
    | (with_reducible apply b_or)
    | (with_reducible apply b_not)
    | (with_reducible apply b_tup)
    | (with_reducible apply b_lst)
    | (with_reducible apply b_b)
    | (with_reducible apply b_foS)
    | (with_reducible apply b_sl)
    | (with_reducible apply b_nx)
    | (with_reducible exact b_rt)
    | (with_reducible exact b_xx)
    | (with_reducible apply b_seq)
    | (with_reducible apply b_expr)
    | (with_reducible apply b_ret)
    | (with_reducible apply b_if)
    | (with_reducible apply b_set)
    | (with_reducible apply b_aug)
    | (with_reducible apply b_par)
    | (with_reducible apply b_pat)
    | (with_reducible apply b_raise)
    | (with_reducible apply b_put)
    | (with_reducible apply b_call)
    | (with_reducible apply b_callB)
    | (with_reducible apply b_fiA)
    | (with_reducible apply b_fiOf)
    | (with_reducible apply b_for)
    | ((with_reducible show addD (.int _) (.int _) = some _); exact rfl)
    | ((with_reducible show subD (.int _) (.int _) = some _); exact rfl)
    | ((with_reducible show iaddD (.int _) (.int _) = some _); exact rfl)
    | ((with_reducible show negD (.int _) = some _); exact rfl)
    | ((with_reducible show ltD (.int _) (.int _) = some _); exact rfl)
    | ((with_reducible show leD (.int _) (.int _) = some _); exact rfl)
    | ((with_reducible show gtD (.int _) (.int _) = some _); exact rfl)
    | ((with_reducible show geD (.int _) (.int _) = some _); exact rfl)
    | ((with_reducible show intD [.int _] = some _); exact rfl)
    | ((with_reducible show maxD [.int _, .int _] = some _); exact rfl)
    | ((with_reducible show minD [.int _, .int _] = some _); exact rfl)
    | ((with_reducible show bitsD (.int _) = some _); exact rfl)
    | (with_reducible exact eqD_i _ _)
    | (with_reducible exact neD_i _ _)
    | ((with_reducible refine mulD_i inferInstance inferInstance ?_); decide +kernel)
    | ((with_reducible refine divD_i inferInstance ?_ ?_); decide +kernel; first | assumption | omega | decide)
    | ((with_reducible refine modD_i ?_); first | assumption | omega | decide)
    | ((with_reducible apply ite_t); (first | rfl | (simp only [decide_eq_true_eq, Bool.not_eq_true', decide_eq_false_iff_not, Bool.not_eq_eq_eq_not, Bool.not_true, Bool.not_false, Bool.not_eq_true] <;> first | assumption | omega)))
    | ((with_reducible apply ite_f); (first | rfl | (simp only [decide_eq_true_eq, Bool.not_eq_true', decide_eq_false_iff_not, Bool.not_eq_eq_eq_not, Bool.not_true, Bool.not_false, Bool.not_eq_true] <;> first | assumption | omega)))
    | ((with_reducible show _ = Val.rf _ :: _); rfl)
    | ((with_reducible show backV _ _ = _); rfl)
    | ((with_reducible show ixD _ _ = some _); rfl)
    | ((with_reducible show ixN _ _ = some _); rfl)
    | ((with_reducible show asQ _ = _); rfl)
    | ((with_reducible show peek _ _ = some _); rfl)
    | ((with_reducible show peekL _ _ = some _); rfl)
    | ((with_reducible show frzL _ _ = some _); rfl)
    | ((with_reducible show frz _ _ = some _); rfl)
    | ((with_reducible show store _ _ _ = some _); rfl)
    | ((with_reducible show nbo _ _ = true); rfl)
    | ((with_reducible show muL _ _ = some _); rfl)
    | ((with_reducible show muD _ _ = some _); rfl)
    | ((with_reducible show bindP _ _ _ = some _); rfl)
    | ((with_reducible show List.length _ ≤ 16777216); exact Nat.le_of_ble_eq_true rfl)
    | ((with_reducible show (_ : Option Slot) = some (Slot.sh _)); rfl)
theorem rloop : ∀ (ds : List D) (g0 g1 g2 b dr : Int) (x : Slot) (B C : Nat), Sz g1 40 → Sz g2 B → Sz dr C → B + 2 * ds.length ≤ 10000 → C + 80 * ds.length ≤ 10000 → (x = .un ∨ ∃ d, x = .sh d) →
    ∃ g2' dr' y, loopD (.nm 3) rbody ds [.bo (.lst [.int g0, .int g1, .int g2]), .sh (.int b), .sh (.int dr), x] = .ok (.nx, [.bo (.lst [.int g0, .int g1, .int g2']), .sh (.int b), .sh (.int dr'), y]) ∧ Sz g2' (B + 2 * ds.length)
  | [], g0, g1, g2, b, dr, x, B, C, _, s2, _, _, _, _ => ⟨g2, dr, x, rfl, s2⟩
  | d :: ds, g0, g1, g2, b, dr, x, B, C, s1, s2, s3, hB, hC, hx => by
    rw [List.length_cons] at hB hC
    have hs := hsh_sz g1 (g2 + 1)
    have n2 : Sz (g2 + 1) (B + 2) := (sz_add (i := g2) (j := 1)).up (by omega)
    have n3 : Sz (dr * 2147483587 + hsh g1 (g2 + 1)) (C + 80) := (sz_add (i := dr * 2147483587) (j := hsh g1 (g2 + 1))).up (by omega)
    obtain ⟨g2', dr', y, e, h⟩ := rloop ds g0 g1 (g2 + 1) b (dr * 2147483587 + hsh g1 (g2 + 1)) (.sh d) (B + 2) (C + 80) s1 n2 n3 (by omega) (by omega) (.inr ⟨d, rfl⟩)
    refine ⟨g2', dr', y, l_nx (ρ1 := [.bo (.lst [.int g0, .int g1, .int g2]), .sh (.int b), .sh (.int dr), .sh d]) ?_ (rbody_ok s1 (s2.up (by omega)) (s3.up (by omega))) e, ?_⟩
    · rcases hx with rfl | ⟨z, rfl⟩ <;> rfl
    · rw [List.length_cons]; exact h.up (by omega)
/-- a list of three numbers that numbers are drawn from -/
def Gn (B : Nat) (g : D) : Prop := ∃ g0 g1 g2 : Int, g = .lst [.int g0, .int g1, .int g2] ∧ Sz g1 40 ∧ Sz g2 B
theorem fb_random_eq : fb__law_random = fsSeq (fsIf (ftVal (evOp gtD (evOp ixD (evVar 0) (evC (.int 0))) (evC (.int 0))))
 (fsSeq (fsSet 2 (evOp modD (evB intD (faCons (evOp ixD (evVar 0) (evC (.int 0))) faNil)) (evVar 1)))
 (fsSeq (fsPut 0 (evC (.int 0)) (evOp divD (evOp ixD (evVar 0) (evC (.int 0))) (evVar 1)))
 (fsRet (evVar 2))))
 fsNil)
 (fsSeq (fsSet 2 (evC (.int 0)))
 (fsSeq (fsFor (fiA (faCons (evOp addD (evC (.int 1)) (evOp divD (evUn bitsD (evVar 1)) (evC (.int 30)))) faNil) rng1) (.nm 3) rbody)
 (fsRet (evOp modD (evB intD (faCons (evVar 2) faNil)) (evVar 1))))) := rfl
theorem random_ok {B : Nat} {g : D} {b : Int} (hg : Gn B g) (hB : B ≤ 9000) (hb : 0 < b) (sb : Sz b 200) : ∃ r g', run__law_random [g, .int b] = .ok false (.int r) g' ∧ 0 ≤ r ∧ r < b ∧ Gn (B + 20) g' := by
  obtain ⟨g0, g1, g2, rfl, s1, s2⟩ := hg
  have h0 : b ≠ 0 := by omega
  haveI : Ps b := ⟨by omega⟩
  by_cases c : 0 < g0
  · refine ⟨g0.fmod b, .lst [.int (g0.fdiv b), .int g1, .int g2], ?_, (fmod_lt hb).1, (fmod_lt hb).2, g0.fdiv b, g1, g2, rfl, s1, s2.up (by omega)⟩
    apply p_runB
    · rfl
    · unfold fb__law_random
      show fsSeq _ _ [.bo (.lst [.int g0, .int g1, .int g2]), .sh (.int b), .un, .un] = _
      repeat' first
        | ((with_reducible show R.ok _ = R.ok _); rfl)
        | ((with_reducible apply b_var); rfl)
        | ((with_reducible apply b_varb); rfl)
        | ((with_reducible apply b_varo); rfl)
        | (with_reducible exact b_c)
        | (with_reducible exact b_nil)
        | (with_reducible exact b_fnil)
        | ((with_reducible show fsNil _ = R.ok (Fl.nx, _)); rfl)
        | (with_reducible exact b_foN)
        | (with_reducible apply b_op)
        | (with_reducible apply b_un)
        | (with_reducible apply b_cons)
        | (with_reducible apply b_val)
        | (with_reducible apply b_tand)
        | (with_reducible apply b_tor)
        | (with_reducible apply b_tnot)
        | (with_reducible apply b_ife)
        | (with_reducible apply b_and)
        | (with_reducible apply b_or)
        | (with_reducible apply b_not)
        | (with_reducible apply b_tup)
        | (with_reducible apply b_lst)
        | (with_reducible apply b_b)
        | (with_reducible apply b_foS)
        | (with_reducible apply b_sl)
        | (with_reducible apply b_nx)
        | (with_reducible exact b_rt)
        | (with_reducible exact b_xx)
        | (with_reducible apply b_seq)
        | (with_reducible apply b_expr)
        | (with_reducible apply b_ret)
        | (with_reducible apply b_if)
        | (with_reducible apply b_set)
        | (with_reducible apply b_aug)
        | (with_reducible apply b_par)
        | (with_reducible apply b_pat)
        | (with_reducible apply b_raise)
        | (with_reducible apply b_put)
        | (with_reducible apply b_call)
        | (with_reducible apply b_callB)
        | (with_reducible apply b_fiA)
        | (with_reducible apply b_fiOf)
        | (with_reducible apply b_for)
        | ((with_reducible show addD (.int _) (.int _) = some _); exact rfl)
        | ((with_reducible show subD (.int _) (.int _) = some _); exact rfl)
        | ((with_reducible show iaddD (.int _) (.int _) = some _); exact rfl)
        | ((with_reducible show negD (.int _) = some _); exact rfl)
        | ((with_reducible show ltD (.int _) (.int _) = some _); exact rfl)
        | ((with_reducible show leD (.int _) (.int _) = some _); exact rfl)
        | ((with_reducible show gtD (.int _) (.int _) = some _); exact rfl)
        | ((with_reducible show geD (.int _) (.int _) = some _); exact rfl)
        | ((with_reducible show intD [.int _] = some _); exact rfl)
        | ((with_reducible show maxD [.int _, .int _] = some _); exact rfl)
        | ((with_reducible show minD [.int _, .int _] = some _); exact rfl)
        | ((with_reducible show bitsD (.int _) = some _); exact rfl)
        | (with_reducible exact eqD_i _ _)
        | (with_reducible exact neD_i _ _)
        | ((with_reducible refine mulD_i inferInstance inferInstance ?_); decide +kernel)
        | ((with_reducible refine divD_i inferInstance ?_ ?_); decide +kernel; first | assumption | omega | decide)
        | ((with_reducible refine modD_i ?_); first | assumption | omega | decide)
        | ((with_reducible apply ite_t); (first | rfl | (simp only [decide_eq_true_eq, Bool.not_eq_true', decide_eq_false_iff_not, Bool.not_eq_eq_eq_not, Bool.not_true, Bool.not_false, Bool.not_eq_true] <;> first | assumption | omega)))
        | ((with_reducible apply ite_f); (first | rfl | (simp only [decide_eq_true_eq, Bool.not_eq_true', decide_eq_false_iff_not, Bool.not_eq_eq_eq_not, Bool.not_true, Bool.not_false, Bool.not_eq_true] <;> first | assumption | omega)))
        | ((with_reducible show _ = Val.rf _ :: _); rfl)
        | ((with_reducible show backV _ _ = _); rfl)
        | ((with_reducible show ixD _ _ = some _); rfl)
        | ((with_reducible show ixN _ _ = some _); rfl)
        | ((with_reducible show asQ _ = _); rfl)
        | ((with_reducible show peek _ _ = some _); rfl)
        | ((with_reducible show peekL _ _ = some _); rfl)
        | ((with_reducible show frzL _ _ = some _); rfl)
        | ((with_reducible show frz _ _ = some _); rfl)
        | ((with_reducible show store _ _ _ = some _); rfl)
        | ((with_reducible show nbo _ _ = true); rfl)
        | ((with_reducible show muL _ _ = some _); rfl)
        | ((with_reducible show muD _ _ = some _); rfl)
        | ((with_reducible show bindP _ _ _ = some _); rfl)
        | ((with_reducible show List.length _ ≤ 16777216); exact Nat.le_of_ble_eq_true rfl)
        | ((with_reducible show (_ : Option Slot) = some (Slot.sh _)); rfl)
    · rfl
  · have ib : Builtin.Int.intBits b ≤ 200 := PyProof.Rows.intBits_le sb.lt
    obtain ⟨n, hn0⟩ : ∃ n, (1 + ((Builtin.Int.intBits b : Nat) : Int).fdiv 30) = n := ⟨_, rfl⟩
    have hn := hn0
    rw [fdE _ (by decide)] at hn
    have hn1 : 0 ≤ n := by omega
    have hn2 : n ≤ 7 := by omega
    obtain ⟨g2', dr', y, e, h⟩ := rloop ((List.range n.toNat).map fun (i : Nat) => D.int (0 + i)) g0 g1 g2 b 0 .un B 0 s1 s2 ⟨by decide⟩ (by rw [List.length_map, List.length_range]; omega) (by rw [List.length_map, List.length_range]; omega) (.inl rfl)
    rw [List.length_map, List.length_range] at h
    have hr : -(2 ^ 62) ≤ 1 + ((Builtin.Int.intBits b : Nat) : Int).fdiv 30 ∧ 1 + ((Builtin.Int.intBits b : Nat) : Int).fdiv 30 < 2 ^ 62 := by rw [hn0]; omega
    rw [← hn0] at e
    refine ⟨dr'.fmod b, .lst [.int g0, .int g1, .int g2'], ?_, (fmod_lt hb).1, (fmod_lt hb).2, g0, g1, g2', rfl, s1, h.up (by omega)⟩
    apply p_runB
    · rfl
    · unfold fb__law_random
      show fsSeq _ _ [.bo (.lst [.int g0, .int g1, .int g2]), .sh (.int b), .un, .un] = _
      repeat' first
        | ((with_reducible show loopD _ _ _ _ = _); exact e)
        | ((with_reducible apply b_rng1); rfl; exact hr)
        | ((with_reducible show R.ok _ = R.ok _); rfl)
        | ((with_reducible apply b_var); rfl)
        | ((with_reducible apply b_varb); rfl)
        | ((with_reducible apply b_varo); rfl)
        | (with_reducible exact b_c)
        | (with_reducible exact b_nil)
        | (with_reducible exact b_fnil)
        | ((with_reducible show fsNil _ = R.ok (Fl.nx, _)); rfl)
        | (with_reducible exact b_foN)
        | (with_reducible apply b_op)
        | (with_reducible apply b_un)
        | (with_reducible apply b_cons)
        | (with_reducible apply b_val)
        | (with_reducible apply b_tand)
        | (with_reducible apply b_tor)
        | (with_reducible apply b_tnot)
        | (with_reducible apply b_ife)
        | (with_reducible apply b_and)
        | (with_reducible apply b_or)
        | (with_reducible apply b_not)
        | (with_reducible apply b_tup)
        | (with_reducible apply b_lst)
        | (with_reducible apply b_b)
        | (with_reducible apply b_foS)
        | (with_reducible apply b_sl)
        | (with_reducible apply b_nx)
        | (with_reducible exact b_rt)
        | (with_reducible exact b_xx)
        | (with_reducible apply b_seq)
        | (with_reducible apply b_expr)
        | (with_reducible apply b_ret)
        | (with_reducible apply b_if)
        | (with_reducible apply b_set)
        | (with_reducible apply b_aug)
        | (with_reducible apply b_par)
        | (with_reducible apply b_pat)
        | (with_reducible apply b_raise)
        | (with_reducible apply b_put)
        | (with_reducible apply b_call)
        | (with_reducible apply b_callB)
        | (with_reducible apply b_fiA)
        | (with_reducible apply b_fiOf)
        | (with_reducible apply b_for)
        | ((with_reducible show addD (.int _) (.int _) = some _); exact rfl)
        | ((with_reducible show subD (.int _) (.int _) = some _); exact rfl)
        | ((with_reducible show iaddD (.int _) (.int _) = some _); exact rfl)
        | ((with_reducible show negD (.int _) = some _); exact rfl)
        | ((with_reducible show ltD (.int _) (.int _) = some _); exact rfl)
        | ((with_reducible show leD (.int _) (.int _) = some _); exact rfl)
        | ((with_reducible show gtD (.int _) (.int _) = some _); exact rfl)
        | ((with_reducible show geD (.int _) (.int _) = some _); exact rfl)
        | ((with_reducible show intD [.int _] = some _); exact rfl)
        | ((with_reducible show maxD [.int _, .int _] = some _); exact rfl)
        | ((with_reducible show minD [.int _, .int _] = some _); exact rfl)
        | ((with_reducible show bitsD (.int _) = some _); exact rfl)
        | (with_reducible exact eqD_i _ _)
        | (with_reducible exact neD_i _ _)
        | ((with_reducible refine mulD_i inferInstance inferInstance ?_); decide +kernel)
        | ((with_reducible refine divD_i inferInstance ?_ ?_); decide +kernel; first | assumption | omega | decide)
        | ((with_reducible refine modD_i ?_); first | assumption | omega | decide)
        | ((with_reducible apply ite_t); (first | rfl | (simp only [decide_eq_true_eq, Bool.not_eq_true', decide_eq_false_iff_not, Bool.not_eq_eq_eq_not, Bool.not_true, Bool.not_false, Bool.not_eq_true] <;> first | assumption | omega)))
        | ((with_reducible apply ite_f); (first | rfl | (simp only [decide_eq_true_eq, Bool.not_eq_true', decide_eq_false_iff_not, Bool.not_eq_eq_eq_not, Bool.not_true, Bool.not_false, Bool.not_eq_true] <;> first | assumption | omega)))
        | ((with_reducible show _ = Val.rf _ :: _); rfl)
        | ((with_reducible show backV _ _ = _); rfl)
        | ((with_reducible show ixD _ _ = some _); rfl)
        | ((with_reducible show ixN _ _ = some _); rfl)
        | ((with_reducible show asQ _ = _); rfl)
        | ((with_reducible show peek _ _ = some _); rfl)
        | ((with_reducible show peekL _ _ = some _); rfl)
        | ((with_reducible show frzL _ _ = some _); rfl)
        | ((with_reducible show frz _ _ = some _); rfl)
        | ((with_reducible show store _ _ _ = some _); rfl)
        | ((with_reducible show nbo _ _ = true); rfl)
        | ((with_reducible show muL _ _ = some _); rfl)
        | ((with_reducible show muD _ _ = some _); rfl)
        | ((with_reducible show bindP _ _ _ = some _); rfl)
        | ((with_reducible show List.length _ ≤ 16777216); exact Nat.le_of_ble_eq_true rfl)
        | ((with_reducible show (_ : Option Slot) = some (Slot.sh _)); rfl)
    · rfl
theorem signed_ok {B : Nat} {g : D} {m : Int} (hg : Gn B g) (hB : B ≤ 9000) (hm : 0 ≤ m) (sm : Sz m 150) : ∃ r g', run__law_signed [g, .int m] = .ok false (.int r) g' ∧ -m ≤ r ∧ r ≤ m ∧ Gn (B + 20) g' := by
  have hg' := hg
  obtain ⟨g0, g1, g2, rfl, s1, s2⟩ := hg'
  obtain ⟨r, g', e, h1, h2, h3⟩ := random_ok (b := 2 * m + 1) hg hB (by omega) ((inferInstance : Sz (2 * m + 1) _).up (by decide))
  refine ⟨r - m, g', ?_, by omega, by omega, h3⟩
  have h3' := h3
  obtain ⟨q0, q1, q2, rfl, _, _⟩ := h3'
  apply p_runB
  · rfl
  · unfold fb__law_signed
    show fsRet _ [.bo (.lst [.int g0, .int g1, .int g2]), .sh (.int m)] = _
    repeat' first
      | ((with_reducible show run__law_random _ = _); exact e)
      | ((with_reducible show R.ok _ = R.ok _); rfl)
      | ((with_reducible apply b_var); rfl)
      | ((with_reducible apply b_varb); rfl)
      | ((with_reducible apply b_varo); rfl)
      | (with_reducible exact b_c)
      | (with_reducible exact b_nil)
      | (with_reducible exact b_fnil)
      | ((with_reducible show fsNil _ = R.ok (Fl.nx, _)); rfl)
      | (with_reducible exact b_foN)
      | (with_reducible apply b_op)
      | (with_reducible apply b_un)
      | (with_reducible apply b_cons)
      | (with_reducible apply b_val)
      | (with_reducible apply b_tand)
      | (with_reducible apply b_tor)
      | (with_reducible apply b_tnot)
      | (with_reducible apply b_ife)
      | (with_reducible apply b_and)
      | (with_reducible apply b_or)
      | (with_reducible apply b_not)
      | (with_reducible apply b_tup)
      | (with_reducible apply b_lst)
      | (with_reducible apply b_b)
      | (with_reducible apply b_foS)
      | (with_reducible apply b_sl)
      | (with_reducible apply b_nx)
      | (with_reducible exact b_rt)
      | (with_reducible exact b_xx)
      | (with_reducible apply b_seq)
      | (with_reducible apply b_expr)
      | (with_reducible apply b_ret)
      | (with_reducible apply b_if)
      | (with_reducible apply b_set)
      | (with_reducible apply b_aug)
      | (with_reducible apply b_par)
      | (with_reducible apply b_pat)
      | (with_reducible apply b_raise)
      | (with_reducible apply b_put)
      | (with_reducible apply b_call)
      | (with_reducible apply b_callB)
      | (with_reducible apply b_fiA)
      | (with_reducible apply b_fiOf)
      | (with_reducible apply b_for)
      | ((with_reducible show addD (.int _) (.int _) = some _); exact rfl)
      | ((with_reducible show subD (.int _) (.int _) = some _); exact rfl)
      | ((with_reducible show iaddD (.int _) (.int _) = some _); exact rfl)
      | ((with_reducible show negD (.int _) = some _); exact rfl)
      | ((with_reducible show ltD (.int _) (.int _) = some _); exact rfl)
      | ((with_reducible show leD (.int _) (.int _) = some _); exact rfl)
      | ((with_reducible show gtD (.int _) (.int _) = some _); exact rfl)
      | ((with_reducible show geD (.int _) (.int _) = some _); exact rfl)
      | ((with_reducible show intD [.int _] = some _); exact rfl)
      | ((with_reducible show maxD [.int _, .int _] = some _); exact rfl)
      | ((with_reducible show minD [.int _, .int _] = some _); exact rfl)
      | ((with_reducible show bitsD (.int _) = some _); exact rfl)
      | (with_reducible exact eqD_i _ _)
      | (with_reducible exact neD_i _ _)
      | ((with_reducible refine mulD_i inferInstance inferInstance ?_); decide +kernel)
      | ((with_reducible refine divD_i inferInstance ?_ ?_); decide +kernel; first | assumption | omega | decide)
      | ((with_reducible refine modD_i ?_); first | assumption | omega | decide)
      | ((with_reducible apply ite_t); (first | rfl | (simp only [decide_eq_true_eq, Bool.not_eq_true', decide_eq_false_iff_not, Bool.not_eq_eq_eq_not, Bool.not_true, Bool.not_false, Bool.not_eq_true] <;> first | assumption | omega)))
      | ((with_reducible apply ite_f); (first | rfl | (simp only [decide_eq_true_eq, Bool.not_eq_true', decide_eq_false_iff_not, Bool.not_eq_eq_eq_not, Bool.not_true, Bool.not_false, Bool.not_eq_true] <;> first | assumption | omega)))
      | ((with_reducible show _ = Val.rf _ :: _); rfl)
      | ((with_reducible show backV _ _ = _); rfl)
      | ((with_reducible show ixD _ _ = some _); rfl)
      | ((with_reducible show ixN _ _ = some _); rfl)
      | ((with_reducible show asQ _ = _); rfl)
      | ((with_reducible show peek _ _ = some _); rfl)
      | ((with_reducible show peekL _ _ = some _); rfl)
      | ((with_reducible show frzL _ _ = some _); rfl)
      | ((with_reducible show frz _ _ = some _); rfl)
      | ((with_reducible show store _ _ _ = some _); rfl)
      | ((with_reducible show nbo _ _ = true); rfl)
      | ((with_reducible show muL _ _ = some _); rfl)
      | ((with_reducible show muD _ _ = some _); rfl)
      | ((with_reducible show bindP _ _ _ = some _); rfl)
      | ((with_reducible show List.length _ ≤ 16777216); exact Nat.le_of_ble_eq_true rfl)
      | ((with_reducible show (_ : Option Slot) = some (Slot.sh _)); rfl)
  · rfl
/-! ### the start -/
theorem cell_ok (ns : List Int) (k : Nat) : ∃ z, run__law_cell [.scr ns, .int k] = .ok false (.int z) .non := by
  by_cases h : k < ns.length
  · have e : atI ns (k : Int) = some ns[k] := by
      unfold atI ixN
      rw [if_pos (by omega), if_pos (by omega)]
      show ns[(k : Int).toNat]? = _
      rw [Int.toNat_natCast, List.getElem?_eq_getElem h]
    refine ⟨ns[k], ?_⟩
    apply p_run
    · rfl
    · unfold fb__law_cell
      show fsSeq _ _ [.sh (.scr ns), .sh (.int k)] = _
      repeat' first
        | ((with_reducible show ixD _ _ = _); show (atI ns (k : Int)).map vI = _; rw [e]; rfl)
        | ((with_reducible show lenD _ = _); rfl)
        | ((with_reducible show R.ok _ = R.ok _); rfl)
        | ((with_reducible apply b_var); rfl)
        | ((with_reducible apply b_varb); rfl)
        | ((with_reducible apply b_varo); rfl)
        | (with_reducible exact b_c)
        | (with_reducible exact b_nil)
        | (with_reducible exact b_fnil)
        | ((with_reducible show fsNil _ = R.ok (Fl.nx, _)); rfl)
        | (with_reducible exact b_foN)
        | (with_reducible apply b_op)
        | (with_reducible apply b_un)
        | (with_reducible apply b_cons)
        | (with_reducible apply b_val)
        | (with_reducible apply b_tand)
        | (with_reducible apply b_tor)
        | (with_reducible apply b_tnot)
        | (with_reducible apply b_ife)
        | (with_reducible apply b_and)
        | (with_reducible apply b_or)
        | (with_reducible apply b_not)
        | (with_reducible apply b_tup)
        | (with_reducible apply b_lst)
        | (with_reducible apply b_b)
        | (with_reducible apply b_foS)
        | (with_reducible apply b_sl)
        | (with_reducible apply b_nx)
        | (with_reducible exact b_rt)
        | (with_reducible exact b_xx)
        | (with_reducible apply b_seq)
        | (with_reducible apply b_expr)
        | (with_reducible apply b_ret)
        | (with_reducible apply b_if)
        | (with_reducible apply b_set)
        | (with_reducible apply b_aug)
        | (with_reducible apply b_par)
        | (with_reducible apply b_pat)
        | (with_reducible apply b_raise)
        | (with_reducible apply b_put)
        | (with_reducible apply b_call)
        | (with_reducible apply b_callB)
        | (with_reducible apply b_fiA)
        | (with_reducible apply b_fiOf)
        | (with_reducible apply b_for)
        | ((with_reducible show addD (.int _) (.int _) = some _); exact rfl)
        | ((with_reducible show subD (.int _) (.int _) = some _); exact rfl)
        | ((with_reducible show iaddD (.int _) (.int _) = some _); exact rfl)
        | ((with_reducible show negD (.int _) = some _); exact rfl)
        | ((with_reducible show ltD (.int _) (.int _) = some _); exact rfl)
        | ((with_reducible show leD (.int _) (.int _) = some _); exact rfl)
        | ((with_reducible show gtD (.int _) (.int _) = some _); exact rfl)
        | ((with_reducible show geD (.int _) (.int _) = some _); exact rfl)
        | ((with_reducible show intD [.int _] = some _); exact rfl)
        | ((with_reducible show maxD [.int _, .int _] = some _); exact rfl)
        | ((with_reducible show minD [.int _, .int _] = some _); exact rfl)
        | ((with_reducible show bitsD (.int _) = some _); exact rfl)
        | (with_reducible exact eqD_i _ _)
        | (with_reducible exact neD_i _ _)
        | ((with_reducible refine mulD_i inferInstance inferInstance ?_); decide +kernel)
        | ((with_reducible refine divD_i inferInstance ?_ ?_); decide +kernel; first | assumption | omega | decide)
        | ((with_reducible refine modD_i ?_); first | assumption | omega | decide)
        | ((with_reducible apply ite_t); (first | rfl | (simp only [decide_eq_true_eq, Bool.not_eq_true', decide_eq_false_iff_not, Bool.not_eq_eq_eq_not, Bool.not_true, Bool.not_false, Bool.not_eq_true] <;> first | assumption | omega)))
        | ((with_reducible apply ite_f); (first | rfl | (simp only [decide_eq_true_eq, Bool.not_eq_true', decide_eq_false_iff_not, Bool.not_eq_eq_eq_not, Bool.not_true, Bool.not_false, Bool.not_eq_true] <;> first | assumption | omega)))
        | ((with_reducible show _ = Val.rf _ :: _); rfl)
        | ((with_reducible show backV _ _ = _); rfl)
        | ((with_reducible show ixD _ _ = some _); rfl)
        | ((with_reducible show ixN _ _ = some _); rfl)
        | ((with_reducible show asQ _ = _); rfl)
        | ((with_reducible show peek _ _ = some _); rfl)
        | ((with_reducible show peekL _ _ = some _); rfl)
        | ((with_reducible show frzL _ _ = some _); rfl)
        | ((with_reducible show frz _ _ = some _); rfl)
        | ((with_reducible show store _ _ _ = some _); rfl)
        | ((with_reducible show nbo _ _ = true); rfl)
        | ((with_reducible show muL _ _ = some _); rfl)
        | ((with_reducible show muD _ _ = some _); rfl)
        | ((with_reducible show bindP _ _ _ = some _); rfl)
        | ((with_reducible show List.length _ ≤ 16777216); exact Nat.le_of_ble_eq_true rfl)
        | ((with_reducible show (_ : Option Slot) = some (Slot.sh _)); rfl)
    · rfl
  · refine ⟨0, ?_⟩
    apply p_run
    · rfl
    · unfold fb__law_cell
      show fsSeq _ _ [.sh (.scr ns), .sh (.int k)] = _
      repeat' first
        | ((with_reducible show lenD _ = _); rfl)
        | ((with_reducible show R.ok _ = R.ok _); rfl)
        | ((with_reducible apply b_var); rfl)
        | ((with_reducible apply b_varb); rfl)
        | ((with_reducible apply b_varo); rfl)
        | (with_reducible exact b_c)
        | (with_reducible exact b_nil)
        | (with_reducible exact b_fnil)
        | ((with_reducible show fsNil _ = R.ok (Fl.nx, _)); rfl)
        | (with_reducible exact b_foN)
        | (with_reducible apply b_op)
        | (with_reducible apply b_un)
        | (with_reducible apply b_cons)
        | (with_reducible apply b_val)
        | (with_reducible apply b_tand)
        | (with_reducible apply b_tor)
        | (with_reducible apply b_tnot)
        | (with_reducible apply b_ife)
        | (with_reducible apply b_and)
        | (with_reducible apply b_or)
        | (with_reducible apply b_not)
        | (with_reducible apply b_tup)
        | (with_reducible apply b_lst)
        | (with_reducible apply b_b)
        | (with_reducible apply b_foS)
        | (with_reducible apply b_sl)
        | (with_reducible apply b_nx)
        | (with_reducible exact b_rt)
        | (with_reducible exact b_xx)
        | (with_reducible apply b_seq)
        | (with_reducible apply b_expr)
        | (with_reducible apply b_ret)
        | (with_reducible apply b_if)
        | (with_reducible apply b_set)
        | (with_reducible apply b_aug)
        | (with_reducible apply b_par)
        | (with_reducible apply b_pat)
        | (with_reducible apply b_raise)
        | (with_reducible apply b_put)
        | (with_reducible apply b_call)
        | (with_reducible apply b_callB)
        | (with_reducible apply b_fiA)
        | (with_reducible apply b_fiOf)
        | (with_reducible apply b_for)
        | ((with_reducible show addD (.int _) (.int _) = some _); exact rfl)
        | ((with_reducible show subD (.int _) (.int _) = some _); exact rfl)
        | ((with_reducible show iaddD (.int _) (.int _) = some _); exact rfl)
        | ((with_reducible show negD (.int _) = some _); exact rfl)
        | ((with_reducible show ltD (.int _) (.int _) = some _); exact rfl)
        | ((with_reducible show leD (.int _) (.int _) = some _); exact rfl)
        | ((with_reducible show gtD (.int _) (.int _) = some _); exact rfl)
        | ((with_reducible show geD (.int _) (.int _) = some _); exact rfl)
        | ((with_reducible show intD [.int _] = some _); exact rfl)
        | ((with_reducible show maxD [.int _, .int _] = some _); exact rfl)
        | ((with_reducible show minD [.int _, .int _] = some _); exact rfl)
        | ((with_reducible show bitsD (.int _) = some _); exact rfl)
        | (with_reducible exact eqD_i _ _)
        | (with_reducible exact neD_i _ _)
        | ((with_reducible refine mulD_i inferInstance inferInstance ?_); decide +kernel)
        | ((with_reducible refine divD_i inferInstance ?_ ?_); decide +kernel; first | assumption | omega | decide)
        | ((with_reducible refine modD_i ?_); first | assumption | omega | decide)
        | ((with_reducible apply ite_t); (first | rfl | (simp only [decide_eq_true_eq, Bool.not_eq_true', decide_eq_false_iff_not, Bool.not_eq_eq_eq_not, Bool.not_true, Bool.not_false, Bool.not_eq_true] <;> first | assumption | omega)))
        | ((with_reducible apply ite_f); (first | rfl | (simp only [decide_eq_true_eq, Bool.not_eq_true', decide_eq_false_iff_not, Bool.not_eq_eq_eq_not, Bool.not_true, Bool.not_false, Bool.not_eq_true] <;> first | assumption | omega)))
        | ((with_reducible show _ = Val.rf _ :: _); rfl)
        | ((with_reducible show backV _ _ = _); rfl)
        | ((with_reducible show ixD _ _ = some _); rfl)
        | ((with_reducible show ixN _ _ = some _); rfl)
        | ((with_reducible show asQ _ = _); rfl)
        | ((with_reducible show peek _ _ = some _); rfl)
        | ((with_reducible show peekL _ _ = some _); rfl)
        | ((with_reducible show frzL _ _ = some _); rfl)
        | ((with_reducible show frz _ _ = some _); rfl)
        | ((with_reducible show store _ _ _ = some _); rfl)
        | ((with_reducible show nbo _ _ = true); rfl)
        | ((with_reducible show muL _ _ = some _); rfl)
        | ((with_reducible show muD _ _ = some _); rfl)
        | ((with_reducible show bindP _ _ _ = some _); rfl)
        | ((with_reducible show List.length _ ≤ 16777216); exact Nat.le_of_ble_eq_true rfl)
        | ((with_reducible show (_ : Option Slot) = some (Slot.sh _)); rfl)
    · rfl
theorem pow18 : powD (.int 10) (.int 18) = some (vI 1000000000000000000) := by kernel_rfl
theorem pow60 : powD (.int 10) (.int 60) = some (vI 1000000000000000000000000000000000000000000000000000000000000) := by kernel_rfl
theorem pow600 : powD (.int 1000000000000000000000000000000000000000000000000000000000000) (.int 10) = some (vI (1000000000000000000000000000000000000000000000000000000000000 ^ 10)) := by kernel_rfl
theorem pow9 : powD (.int 10) (.int 9) = some (vI 1000000000) := by kernel_rfl
theorem pow39 : powD (.int 10) (.int 39) = some (vI 1000000000000000000000000000000000000000) := by kernel_rfl
theorem generator_ok (ns : List Int) (k : Nat) (hk : k ≤ 100) : ∃ g, run__law_generator [.scr ns, .int k] = .ok true g .non ∧ Gn 20 g := by
  obtain ⟨z, e⟩ := cell_ok ns k
  haveI : Sz (k : Int) 7 := ⟨by show k < _; omega⟩
  apply Exists.intro
  refine ⟨?_, ?_⟩
  · apply p_run
    · rfl
    · unfold fb__law_generator
      show fsSeq _ _ [.sh (.scr ns), .sh (.int k), .un] = _
      repeat' first
        | ((with_reducible show run__law_cell _ = _); exact e)
        | (with_reducible exact pow18)
        | (with_reducible exact pow60)
        | (with_reducible exact pow600)
        | ((with_reducible show R.ok _ = R.ok _); rfl)
        | ((with_reducible apply b_var); rfl)
        | ((with_reducible apply b_varb); rfl)
        | ((with_reducible apply b_varo); rfl)
        | (with_reducible exact b_c)
        | (with_reducible exact b_nil)
        | (with_reducible exact b_fnil)
        | ((with_reducible show fsNil _ = R.ok (Fl.nx, _)); rfl)
        | (with_reducible exact b_foN)
        | (with_reducible apply b_op)
        | (with_reducible apply b_un)
        | (with_reducible apply b_cons)
        | (with_reducible apply b_val)
        | (with_reducible apply b_tand)
        | (with_reducible apply b_tor)
        | (with_reducible apply b_tnot)
        | (with_reducible apply b_ife)
        | (with_reducible apply b_and)
        | (with_reducible apply b_or)
        | (with_reducible apply b_not)
        | (with_reducible apply b_tup)
        | (with_reducible apply b_lst)
        | (with_reducible apply b_b)
        | (with_reducible apply b_foS)
        | (with_reducible apply b_sl)
        | (with_reducible apply b_nx)
        | (with_reducible exact b_rt)
        | (with_reducible exact b_xx)
        | (with_reducible apply b_seq)
        | (with_reducible apply b_expr)
        | (with_reducible apply b_ret)
        | (with_reducible apply b_if)
        | (with_reducible apply b_set)
        | (with_reducible apply b_aug)
        | (with_reducible apply b_par)
        | (with_reducible apply b_pat)
        | (with_reducible apply b_raise)
        | (with_reducible apply b_put)
        | (with_reducible apply b_call)
        | (with_reducible apply b_callB)
        | (with_reducible apply b_fiA)
        | (with_reducible apply b_fiOf)
        | (with_reducible apply b_for)
        | ((with_reducible show addD (.int _) (.int _) = some _); exact rfl)
        | ((with_reducible show subD (.int _) (.int _) = some _); exact rfl)
        | ((with_reducible show iaddD (.int _) (.int _) = some _); exact rfl)
        | ((with_reducible show negD (.int _) = some _); exact rfl)
        | ((with_reducible show ltD (.int _) (.int _) = some _); exact rfl)
        | ((with_reducible show leD (.int _) (.int _) = some _); exact rfl)
        | ((with_reducible show gtD (.int _) (.int _) = some _); exact rfl)
        | ((with_reducible show geD (.int _) (.int _) = some _); exact rfl)
        | ((with_reducible show intD [.int _] = some _); exact rfl)
        | ((with_reducible show maxD [.int _, .int _] = some _); exact rfl)
        | ((with_reducible show minD [.int _, .int _] = some _); exact rfl)
        | ((with_reducible show bitsD (.int _) = some _); exact rfl)
        | (with_reducible exact eqD_i _ _)
        | (with_reducible exact neD_i _ _)
        | ((with_reducible refine mulD_i inferInstance inferInstance ?_); decide +kernel)
        | ((with_reducible refine divD_i inferInstance ?_ ?_); decide +kernel; first | assumption | omega | decide)
        | ((with_reducible refine modD_i ?_); first | assumption | omega | decide)
        | ((with_reducible apply ite_t); (first | rfl | (simp only [decide_eq_true_eq, Bool.not_eq_true', decide_eq_false_iff_not, Bool.not_eq_eq_eq_not, Bool.not_true, Bool.not_false, Bool.not_eq_true] <;> first | assumption | omega)))
        | ((with_reducible apply ite_f); (first | rfl | (simp only [decide_eq_true_eq, Bool.not_eq_true', decide_eq_false_iff_not, Bool.not_eq_eq_eq_not, Bool.not_true, Bool.not_false, Bool.not_eq_true] <;> first | assumption | omega)))
        | ((with_reducible show _ = Val.rf _ :: _); rfl)
        | ((with_reducible show backV _ _ = _); rfl)
        | ((with_reducible show ixD _ _ = some _); rfl)
        | ((with_reducible show ixN _ _ = some _); rfl)
        | ((with_reducible show asQ _ = _); rfl)
        | ((with_reducible show peek _ _ = some _); rfl)
        | ((with_reducible show peekL _ _ = some _); rfl)
        | ((with_reducible show frzL _ _ = some _); rfl)
        | ((with_reducible show frz _ _ = some _); rfl)
        | ((with_reducible show store _ _ _ = some _); rfl)
        | ((with_reducible show nbo _ _ = true); rfl)
        | ((with_reducible show muL _ _ = some _); rfl)
        | ((with_reducible show muD _ _ = some _); rfl)
        | ((with_reducible show bindP _ _ _ = some _); rfl)
        | ((with_reducible show List.length _ ≤ 16777216); exact Nat.le_of_ble_eq_true rfl)
        | ((with_reducible show (_ : Option Slot) = some (Slot.sh _)); rfl)
    · rfl
  · refine ⟨_, _, _, rfl, ?_, ?_⟩
    · have h := fmod_lt (i := z) (j := 2147483647) (by decide)
      have p : (2147483647 : Int) < 2 ^ 40 := by decide
      exact szI (by omega) (by omega)
    · exact (inferInstance : Sz (1000 * (k : Int)) _).up (by decide)
end K60
namespace K60
open PySem PySem.Spec PyProof.Rows L2 Tr
/-! ### the terms one by one -/
def yy (rise start base : Int) : D → D
  | .int i => .int ((rise * i + start).fdiv base)
  | d => d
def tm (k : Nat) (rise start base : Int) : List D := ((List.range k).map fun (i : Nat) => D.int (0 + (i : Int))).map (yy rise start base)
theorem tm_all (k : Nat) (rise start base : Int) : allInts (tm k rise start base) = some ((List.range k).map fun (i : Nat) => (rise * (0 + (i : Int)) + start).fdiv base) := by
  unfold tm
  rw [List.map_map]
  have : ∀ l : List Nat, allInts (l.map ((yy rise start base) ∘ fun (i : Nat) => D.int (0 + (i : Int)))) = some (l.map fun (i : Nat) => (rise * (0 + (i : Int)) + start).fdiv base) := by
    intro l
    induction l with
    | nil => rfl
    | cons a l ih =>
      simp only [List.map_cons, Function.comp, yy, allInts] at ih ⊢
      rw [ih]; rfl
  exact this _
theorem range_sum {rise start base : Int} (hb : 0 < base) : ∀ k : Nat, ((List.range k).map fun (i : Nat) => (rise * (0 + (i : Int)) + start).fdiv base).sum = FS.S k rise start base
  | 0 => rfl
  | k + 1 => by
    rw [List.range_succ, List.map_append, List.sum_append, range_sum hb k]
    show _ + (((rise * (0 + (k : Int)) + start).fdiv base) + 0) = FS.S k rise start base + _
    rw [fdE _ hb, Int.zero_add, Int.add_zero]
theorem sum_tm {k : Nat} {rise start base : Int} (hb : 0 < base) : sumD [.lst (tm k rise start base)] = some (vI (FS.S k rise start base)) := by
  show (allInts (tm k rise start base)).map _ = _
  rw [tm_all, ← range_sum hb k]; rfl
abbrev envT (g sz : D) (many base found rise start : Int) (x : Slot) : En := [.bo g, .sh sz, .sh (.int many), .sh (.int base), .sh (.int found), .un, .un, .un, .sh (.int rise), .sh (.int start), .un, .un, x]
theorem terms_ok {g sz : D} {many base found rise start : Int} (hm : 0 ≤ many) (hb : 0 < base) (sb : Sz base 400) (sr : Sz rise 1000) (ss : Sz start 1000) :
    (evLC [12] (fiA (faCons (evB minD (faCons (evVar 2) (faCons (evC (.int 61)) faNil))) faNil) rng1) (.nm 12) ftYes (evOp divD (evOp addD (evOp mulD (evVar 8) (evVar 12)) (evVar 9)) (evVar 3))) (envT g sz many base found rise start .un) =
      .ok (.fr (.lst (tm (if 61 < many then 61 else many).toNat rise start base)), envT g sz many base found rise start .un) := by
  have hk : -(2 ^ 62) ≤ (if 61 < many then 61 else many) ∧ (if 61 < many then 61 else many) < 2 ^ 62 := by split <;> omega
  have hk2 : (if 61 < many then 61 else many).toNat ≤ 61 := by split <;> omega
  have h0 : base ≠ 0 := by omega
  haveI : Ps base := ⟨by omega⟩
  refine b_lc (ρ1 := envT g sz many base found rise start .un) (ρ2 := envT g sz many base found rise start .un) (ds := (List.range (if 61 < many then 61 else many).toNat).map fun (i : Nat) => D.int (0 + (i : Int))) ?_ rfl ?_ ?_
  · skip
    repeat' first
      | ((with_reducible apply b_rng1); rfl; exact hk)
      | ((with_reducible show R.ok _ = R.ok _); rfl)
      | ((with_reducible apply b_var); rfl)
      | ((with_reducible apply b_varb); rfl)
      | ((with_reducible apply b_varo); rfl)
      | (with_reducible exact b_c)
      | (with_reducible exact b_nil)
      | (with_reducible exact b_fnil)
      | ((with_reducible show fsNil _ = R.ok (Fl.nx, _)); rfl)
      | (with_reducible exact b_foN)
      | (with_reducible apply b_op)
      | (with_reducible apply b_un)
      | (with_reducible apply b_cons)
      | (with_reducible apply b_val)
      | (with_reducible apply b_tand)
      | (with_reducible apply b_tor)
      | (with_reducible apply b_tnot)
      | (with_reducible apply b_ife)
      | (with_reducible apply b_and)
      | (with_reducible apply b_or)
      | (with_reducible apply b_not)
      | (with_reducible apply b_tup)
      | (with_reducible apply b_lst)
      | (with_reducible apply b_b)
      | (with_reducible apply b_foS)
      | (with_reducible apply b_sl)
      | (with_reducible apply b_nx)
      | (with_reducible exact b_rt)
      | (with_reducible exact b_xx)
      | (with_reducible apply b_seq)
      | (with_reducible apply b_expr)
      | (with_reducible apply b_ret)
      | (with_reducible apply b_if)
      | (with_reducible apply b_set)
      | (with_reducible apply b_aug)
      | (with_reducible apply b_par)
      | (with_reducible apply b_pat)
      | (with_reducible apply b_raise)
      | (with_reducible apply b_put)
      | (with_reducible apply b_call)
      | (with_reducible apply b_callB)
      | (with_reducible apply b_fiA)
      | (with_reducible apply b_fiOf)
      | (with_reducible apply b_for)
      | ((with_reducible show addD (.int _) (.int _) = some _); exact rfl)
      | ((with_reducible show subD (.int _) (.int _) = some _); exact rfl)
      | ((with_reducible show iaddD (.int _) (.int _) = some _); exact rfl)
      | ((with_reducible show negD (.int _) = some _); exact rfl)
      | ((with_reducible show ltD (.int _) (.int _) = some _); exact rfl)
      | ((with_reducible show leD (.int _) (.int _) = some _); exact rfl)
      | ((with_reducible show gtD (.int _) (.int _) = some _); exact rfl)
      | ((with_reducible show geD (.int _) (.int _) = some _); exact rfl)
      | ((with_reducible show intD [.int _] = some _); exact rfl)
      | ((with_reducible show maxD [.int _, .int _] = some _); exact rfl)
      | ((with_reducible show minD [.int _, .int _] = some _); exact rfl)
      | ((with_reducible show bitsD (.int _) = some _); exact rfl)
      | (with_reducible exact eqD_i _ _)
      | (with_reducible exact neD_i _ _)
      | ((with_reducible refine mulD_i inferInstance inferInstance ?_); decide +kernel)
      | ((with_reducible refine divD_i inferInstance ?_ ?_); decide +kernel; first | assumption | omega | decide)
      | ((with_reducible refine modD_i ?_); first | assumption | omega | decide)
      | ((with_reducible apply ite_t); (first | rfl | (simp only [decide_eq_true_eq, Bool.not_eq_true', decide_eq_false_iff_not, Bool.not_eq_eq_eq_not, Bool.not_true, Bool.not_false, Bool.not_eq_true] <;> first | assumption | omega)))
      | ((with_reducible apply ite_f); (first | rfl | (simp only [decide_eq_true_eq, Bool.not_eq_true', decide_eq_false_iff_not, Bool.not_eq_eq_eq_not, Bool.not_true, Bool.not_false, Bool.not_eq_true] <;> first | assumption | omega)))
      | ((with_reducible show _ = Val.rf _ :: _); rfl)
      | ((with_reducible show backV _ _ = _); rfl)
      | ((with_reducible show ixD _ _ = some _); rfl)
      | ((with_reducible show ixN _ _ = some _); rfl)
      | ((with_reducible show asQ _ = _); rfl)
      | ((with_reducible show peek _ _ = some _); rfl)
      | ((with_reducible show peekL _ _ = some _); rfl)
      | ((with_reducible show frzL _ _ = some _); rfl)
      | ((with_reducible show frz _ _ = some _); rfl)
      | ((with_reducible show store _ _ _ = some _); rfl)
      | ((with_reducible show nbo _ _ = true); rfl)
      | ((with_reducible show muL _ _ = some _); rfl)
      | ((with_reducible show muD _ _ = some _); rfl)
      | ((with_reducible show bindP _ _ _ = some _); rfl)
      | ((with_reducible show List.length _ ≤ 16777216); exact Nat.le_of_ble_eq_true rfl)
      | ((with_reducible show (_ : Option Slot) = some (Slot.sh _)); rfl)
  · rw [List.length_map, List.length_range]; omega
  · refine lc_map fun d hd => ?_
    obtain ⟨i, hi, rfl⟩ := List.mem_map.mp hd
    have hi := List.mem_range.mp hi
    haveI : Sz (0 + (i : Int)) 10 := szI (by omega) (by omega)
    refine ⟨envT g sz many base found rise start (.sh (.int (0 + (i : Int)))), rfl, ?_, rfl⟩
    show evOp _ _ _ _ = .ok (.sh (.int ((rise * (0 + (i : Int)) + start).fdiv base)), _)
    repeat' first
      | ((with_reducible show R.ok _ = R.ok _); rfl)
      | ((with_reducible apply b_var); rfl)
      | ((with_reducible apply b_varb); rfl)
      | ((with_reducible apply b_varo); rfl)
      | (with_reducible exact b_c)
      | (with_reducible exact b_nil)
      | (with_reducible exact b_fnil)
      | ((with_reducible show fsNil _ = R.ok (Fl.nx, _)); rfl)
      | (with_reducible exact b_foN)
      | (with_reducible apply b_op)
      | (with_reducible apply b_un)
      | (with_reducible apply b_cons)
      | (with_reducible apply b_val)
      | (with_reducible apply b_tand)
      | (with_reducible apply b_tor)
      | (with_reducible apply b_tnot)
      | (with_reducible apply b_ife)
      | (with_reducible apply b_and)
      | (with_reducible apply b_or)
      | (with_reducible apply b_not)
      | (with_reducible apply b_tup)
      | (with_reducible apply b_lst)
      | (with_reducible apply b_b)
      | (with_reducible apply b_foS)
      | (with_reducible apply b_sl)
      | (with_reducible apply b_nx)
      | (with_reducible exact b_rt)
      | (with_reducible exact b_xx)
      | (with_reducible apply b_seq)
      | (with_reducible apply b_expr)
      | (with_reducible apply b_ret)
      | (with_reducible apply b_if)
      | (with_reducible apply b_set)
      | (with_reducible apply b_aug)
      | (with_reducible apply b_par)
      | (with_reducible apply b_pat)
      | (with_reducible apply b_raise)
      | (with_reducible apply b_put)
      | (with_reducible apply b_call)
      | (with_reducible apply b_callB)
      | (with_reducible apply b_fiA)
      | (with_reducible apply b_fiOf)
      | (with_reducible apply b_for)
      | ((with_reducible show addD (.int _) (.int _) = some _); exact rfl)
      | ((with_reducible show subD (.int _) (.int _) = some _); exact rfl)
      | ((with_reducible show iaddD (.int _) (.int _) = some _); exact rfl)
      | ((with_reducible show negD (.int _) = some _); exact rfl)
      | ((with_reducible show ltD (.int _) (.int _) = some _); exact rfl)
      | ((with_reducible show leD (.int _) (.int _) = some _); exact rfl)
      | ((with_reducible show gtD (.int _) (.int _) = some _); exact rfl)
      | ((with_reducible show geD (.int _) (.int _) = some _); exact rfl)
      | ((with_reducible show intD [.int _] = some _); exact rfl)
      | ((with_reducible show maxD [.int _, .int _] = some _); exact rfl)
      | ((with_reducible show minD [.int _, .int _] = some _); exact rfl)
      | ((with_reducible show bitsD (.int _) = some _); exact rfl)
      | (with_reducible exact eqD_i _ _)
      | (with_reducible exact neD_i _ _)
      | ((with_reducible refine mulD_i inferInstance inferInstance ?_); decide +kernel)
      | ((with_reducible refine divD_i inferInstance ?_ ?_); decide +kernel; first | assumption | omega | decide)
      | ((with_reducible refine modD_i ?_); first | assumption | omega | decide)
      | ((with_reducible apply ite_t); (first | rfl | (simp only [decide_eq_true_eq, Bool.not_eq_true', decide_eq_false_iff_not, Bool.not_eq_eq_eq_not, Bool.not_true, Bool.not_false, Bool.not_eq_true] <;> first | assumption | omega)))
      | ((with_reducible apply ite_f); (first | rfl | (simp only [decide_eq_true_eq, Bool.not_eq_true', decide_eq_false_iff_not, Bool.not_eq_eq_eq_not, Bool.not_true, Bool.not_false, Bool.not_eq_true] <;> first | assumption | omega)))
      | ((with_reducible show _ = Val.rf _ :: _); rfl)
      | ((with_reducible show backV _ _ = _); rfl)
      | ((with_reducible show ixD _ _ = some _); rfl)
      | ((with_reducible show ixN _ _ = some _); rfl)
      | ((with_reducible show asQ _ = _); rfl)
      | ((with_reducible show peek _ _ = some _); rfl)
      | ((with_reducible show peekL _ _ = some _); rfl)
      | ((with_reducible show frzL _ _ = some _); rfl)
      | ((with_reducible show frz _ _ = some _); rfl)
      | ((with_reducible show store _ _ _ = some _); rfl)
      | ((with_reducible show nbo _ _ = true); rfl)
      | ((with_reducible show muL _ _ = some _); rfl)
      | ((with_reducible show muD _ _ = some _); rfl)
      | ((with_reducible show bindP _ _ _ = some _); rfl)
      | ((with_reducible show List.length _ ≤ 16777216); exact Nat.le_of_ble_eq_true rfl)
      | ((with_reducible show (_ : Option Slot) = some (Slot.sh _)); rfl)
/-! ### one draw -/
def fr2 : FS := (fsSeq (fsSet 6 (evCallB run__law_random (faCons (evVar 0) (faCons (evOp addD (evVar 2) (evC (.int 1))) faNil))))
 (fsSeq (fsIf (ftVal (evOp neD (evOp addD (evCall run_floor_sum [] (faCons (evVar 6) (faCons (evVar 8) (faCons (evVar 9) (faCons (evVar 3) faNil))))) (evCall run_floor_sum [] (faCons (evOp subD (evVar 2) (evVar 6)) (faCons (evVar 8) (faCons (evOp addD (evVar 9) (evOp mulD (evVar 8) (evVar 6))) (faCons (evVar 3) faNil)))))) (evVar 4)))
 (fsRet (evC (.bl false)))
 fsNil)
 (fsSeq (fsPar 10 11 (faCons (evCallB run__law_signed (faCons (evVar 0) (faCons (evC (.int 9)) faNil))) (faCons (evCallB run__law_signed (faCons (evVar 0) (faCons (evOp powD (evC (.int 10)) (evC (.int 9))) faNil))) faNil)))
 (fsSeq (fsSet 7 (evOp addD (evOp addD (evVar 4) (evOp mulD (evVar 10) (evOp divD (evOp mulD (evVar 2) (evOp subD (evVar 2) (evC (.int 1)))) (evC (.int 2))))) (evOp mulD (evVar 11) (evVar 2))))
 (fsRet (evOp eqD (evCall run_floor_sum [] (faCons (evVar 2) (faCons (evOp addD (evVar 8) (evOp mulD (evVar 10) (evVar 3))) (faCons (evOp addD (evVar 9) (evOp mulD (evVar 11) (evVar 3))) (faCons (evVar 3) faNil))))) (evVar 7)))))))
theorem right2 {g4 g5 g6 g7 sz : D} {many rise start bb cut one other S1 S3 S4 S5 : Int} {ts : List D} [Sz many 200] [Sz rise 200] [Sz start 200] [Sz cut 200] [Sz one 40] [Sz other 40] [Sz (1 + bb) 400]
    (e5 : run__law_random [g4, .int (many + 1)] = .ok false (.int cut) g5) (e6 : run__law_signed [g5, .int 9] = .ok false (.int one) g6) (e7 : run__law_signed [g6, .int 1000000000] = .ok false (.int other) g7)
    (f3 : run_floor_sum [.int cut, .int rise, .int start, .int (1 + bb)] = .ok false (.int S3) .non) (f4 : run_floor_sum [.int (many - cut), .int rise, .int (start + rise * cut), .int (1 + bb)] = .ok false (.int S4) .non)
    (f5 : run_floor_sum [.int many, .int (rise + one * (1 + bb)), .int (start + other * (1 + bb)), .int (1 + bb)] = .ok false (.int S5) .non) (hcut : S3 + S4 = S1) :
    ∃ ρ, fr2 [.bo g4, .sh sz, .sh (.int many), .sh (.int (1 + bb)), .sh (.int S1), .ow (.lst ts), .un, .un, .sh (.int rise), .sh (.int start), .un, .un, .un] = .ok (.rt (.sh (.bl (decide (S5 = S1 + one * (many * (many - 1)).fdiv 2 + other * many)))), ρ) ∧ ρ[0]? = some (.bo g7) := by
  apply Exists.intro
  constructor
  unfold fr2
  repeat' first
    | ((with_reducible show run__law_random _ = _); exact e5)
    | ((with_reducible show run__law_signed _ = _); first | exact e6 | exact e7)
    | ((with_reducible show run_floor_sum _ = _); first | exact f3 | exact f4 | exact f5)
    | (with_reducible exact pow9)
    | ((with_reducible show R.ok _ = R.ok _); rfl)
    | ((with_reducible apply b_var); rfl)
    | ((with_reducible apply b_varb); rfl)
    | ((with_reducible apply b_varo); rfl)
    | (with_reducible exact b_c)
    | (with_reducible exact b_nil)
    | (with_reducible exact b_fnil)
    | ((with_reducible show fsNil _ = R.ok (Fl.nx, _)); rfl)
    | (with_reducible exact b_foN)
    | (with_reducible apply b_op)
    | (with_reducible apply b_un)
    | (with_reducible apply b_cons)
    | (with_reducible apply b_val)
    | (with_reducible apply b_tand)
    | (with_reducible apply b_tor)
    | (with_reducible apply b_tnot)
    | (with_reducible apply b_ife)
    | (with_reducible apply b_and)
    | (with_reducible apply b_or)
    | (with_reducible apply b_not)
    | (with_reducible apply b_tup)
    | (with_reducible apply b_lst)
    | (with_reducible apply b_b)
    | (with_reducible apply b_foS)
    | (with_reducible apply b_sl)
    | (with_reducible apply b_nx)
    | (with_reducible exact b_rt)
    | (with_reducible exact b_xx)
    | (with_reducible apply b_seq)
    | (with_reducible apply b_expr)
    | (with_reducible apply b_ret)
    | (with_reducible apply b_if)
    | (with_reducible apply b_set)
    | (with_reducible apply b_aug)
    | (with_reducible apply b_par)
    | (with_reducible apply b_pat)
    | (with_reducible apply b_raise)
    | (with_reducible apply b_put)
    | (with_reducible apply b_call)
    | (with_reducible apply b_callB)
    | (with_reducible apply b_fiA)
    | (with_reducible apply b_fiOf)
    | (with_reducible apply b_for)
    | ((with_reducible show addD (.int _) (.int _) = some _); exact rfl)
    | ((with_reducible show subD (.int _) (.int _) = some _); exact rfl)
    | ((with_reducible show iaddD (.int _) (.int _) = some _); exact rfl)
    | ((with_reducible show negD (.int _) = some _); exact rfl)
    | ((with_reducible show ltD (.int _) (.int _) = some _); exact rfl)
    | ((with_reducible show leD (.int _) (.int _) = some _); exact rfl)
    | ((with_reducible show gtD (.int _) (.int _) = some _); exact rfl)
    | ((with_reducible show geD (.int _) (.int _) = some _); exact rfl)
    | ((with_reducible show intD [.int _] = some _); exact rfl)
    | ((with_reducible show maxD [.int _, .int _] = some _); exact rfl)
    | ((with_reducible show minD [.int _, .int _] = some _); exact rfl)
    | ((with_reducible show bitsD (.int _) = some _); exact rfl)
    | (with_reducible exact eqD_i _ _)
    | (with_reducible exact neD_i _ _)
    | ((with_reducible refine mulD_i inferInstance inferInstance ?_); decide +kernel)
    | ((with_reducible refine divD_i inferInstance ?_ ?_); decide +kernel; first | assumption | omega | decide)
    | ((with_reducible refine modD_i ?_); first | assumption | omega | decide)
    | ((with_reducible apply ite_t); (first | rfl | (simp only [decide_eq_true_eq, Bool.not_eq_true', decide_eq_false_iff_not, Bool.not_eq_eq_eq_not, Bool.not_true, Bool.not_false, Bool.not_eq_true] <;> first | assumption | omega)))
    | ((with_reducible apply ite_f); (first | rfl | (simp only [decide_eq_true_eq, Bool.not_eq_true', decide_eq_false_iff_not, Bool.not_eq_eq_eq_not, Bool.not_true, Bool.not_false, Bool.not_eq_true] <;> first | assumption | omega)))
    | ((with_reducible show _ = Val.rf _ :: _); rfl)
    | ((with_reducible show backV _ _ = _); rfl)
    | ((with_reducible show ixD _ _ = some _); rfl)
    | ((with_reducible show ixN _ _ = some _); rfl)
    | ((with_reducible show asQ _ = _); rfl)
    | ((with_reducible show peek _ _ = some _); rfl)
    | ((with_reducible show peekL _ _ = some _); rfl)
    | ((with_reducible show frzL _ _ = some _); rfl)
    | ((with_reducible show frz _ _ = some _); rfl)
    | ((with_reducible show store _ _ _ = some _); rfl)
    | ((with_reducible show nbo _ _ = true); rfl)
    | ((with_reducible show muL _ _ = some _); rfl)
    | ((with_reducible show muD _ _ = some _); rfl)
    | ((with_reducible show bindP _ _ _ = some _); rfl)
    | ((with_reducible show List.length _ ≤ 16777216); exact Nat.le_of_ble_eq_true rfl)
    | ((with_reducible show (_ : Option Slot) = some (Slot.sh _)); rfl)
  rfl
theorem right_eval {g g1 g2 g3 g4 : D} {a b many rise start bb S1 : Int} {z : Bool} {ts : List D} {ρ : En}
    (e1 : run__law_random [g, .int a] = .ok false (.int many) g1) (e2 : run__law_signed [g1, .int b] = .ok false (.int rise) g2) (e3 : run__law_signed [g2, .int b] = .ok false (.int start) g3) (e4 : run__law_random [g3, .int b] = .ok false (.int bb) g4)
    (f1 : run_floor_sum [.int many, .int rise, .int start, .int (1 + bb)] = .ok false (.int S1) .non) (f2 : run__law_floors [.int many, .int rise, .int start, .int (1 + bb)] = .ok false (.int S1) .non)
    (tok : (evLC [12] (fiA (faCons (evB minD (faCons (evVar 2) (faCons (evC (.int 61)) faNil))) faNil) rng1) (.nm 12) ftYes (evOp divD (evOp addD (evOp mulD (evVar 8) (evVar 12)) (evVar 9)) (evVar 3))) (envT g4 (.tup [.int a, .int b]) many (1 + bb) S1 rise start .un) = .ok (.fr (.lst ts), envT g4 (.tup [.int a, .int b]) many (1 + bb) S1 rise start .un))
    (hsum : many < 61 → sumD [.lst ts] = some (vI S1))
    (h2 : fr2 [.bo g4, .sh (.tup [.int a, .int b]), .sh (.int many), .sh (.int (1 + bb)), .sh (.int S1), .ow (.lst ts), .un, .un, .sh (.int rise), .sh (.int start), .un, .un, .un] = .ok (.rt (.sh (.bl z)), ρ)) :
    fb__law_right [.bo g, .sh (.tup [.int a, .int b]), .un, .un, .un, .un, .un, .un, .un, .un, .un, .un, .un] = .ok (.rt (.sh (.bl z)), ρ) := by
  by_cases hlt : many < 61
  · have hsum := hsum hlt
    show fsSeq _ (fsSeq _ (fsSeq _ (fsSeq _ (fsSeq _ (fsSeq _ (fsSeq _ fr2)))))) _ = _
    repeat' first
      | ((with_reducible show fr2 _ = _); exact h2)
      | ((with_reducible show run__law_random _ = _); first | exact e1 | exact e4)
      | ((with_reducible show run__law_signed _ = _); first | exact e2 | exact e3)
      | ((with_reducible show run_floor_sum _ = _); exact f1)
      | ((with_reducible show run__law_floors _ = _); exact f2)
      | ((with_reducible show run__law_whole _ = _); exact whole_int _)
      | ((with_reducible show evLC _ _ _ _ _ _ = _); exact tok)
      | ((with_reducible show sumD _ = _); exact hsum)
      | ((with_reducible show R.ok _ = R.ok _); rfl)
      | ((with_reducible apply b_var); rfl)
      | ((with_reducible apply b_varb); rfl)
      | ((with_reducible apply b_varo); rfl)
      | (with_reducible exact b_c)
      | (with_reducible exact b_nil)
      | (with_reducible exact b_fnil)
      | ((with_reducible show fsNil _ = R.ok (Fl.nx, _)); rfl)
      | (with_reducible exact b_foN)
      | (with_reducible apply b_op)
      | (with_reducible apply b_un)
      | (with_reducible apply b_cons)
      | (with_reducible apply b_val)
      | (with_reducible apply b_tand)
      | (with_reducible apply b_tor)
      | (with_reducible apply b_tnot)
      | (with_reducible apply b_ife)
      | (with_reducible apply b_and)
      | (with_reducible apply b_or)
      | (with_reducible apply b_not)
      | (with_reducible apply b_tup)
      | (with_reducible apply b_lst)
      | (with_reducible apply b_b)
      | (with_reducible apply b_foS)
      | (with_reducible apply b_sl)
      | (with_reducible apply b_nx)
      | (with_reducible exact b_rt)
      | (with_reducible exact b_xx)
      | (with_reducible apply b_seq)
      | (with_reducible apply b_expr)
      | (with_reducible apply b_ret)
      | (with_reducible apply b_if)
      | (with_reducible apply b_set)
      | (with_reducible apply b_aug)
      | (with_reducible apply b_par)
      | (with_reducible apply b_pat)
      | (with_reducible apply b_raise)
      | (with_reducible apply b_put)
      | (with_reducible apply b_call)
      | (with_reducible apply b_callB)
      | (with_reducible apply b_fiA)
      | (with_reducible apply b_fiOf)
      | (with_reducible apply b_for)
      | ((with_reducible show addD (.int _) (.int _) = some _); exact rfl)
      | ((with_reducible show subD (.int _) (.int _) = some _); exact rfl)
      | ((with_reducible show iaddD (.int _) (.int _) = some _); exact rfl)
      | ((with_reducible show negD (.int _) = some _); exact rfl)
      | ((with_reducible show ltD (.int _) (.int _) = some _); exact rfl)
      | ((with_reducible show leD (.int _) (.int _) = some _); exact rfl)
      | ((with_reducible show gtD (.int _) (.int _) = some _); exact rfl)
      | ((with_reducible show geD (.int _) (.int _) = some _); exact rfl)
      | ((with_reducible show intD [.int _] = some _); exact rfl)
      | ((with_reducible show maxD [.int _, .int _] = some _); exact rfl)
      | ((with_reducible show minD [.int _, .int _] = some _); exact rfl)
      | ((with_reducible show bitsD (.int _) = some _); exact rfl)
      | (with_reducible exact eqD_i _ _)
      | (with_reducible exact neD_i _ _)
      | ((with_reducible refine mulD_i inferInstance inferInstance ?_); decide +kernel)
      | ((with_reducible refine divD_i inferInstance ?_ ?_); decide +kernel; first | assumption | omega | decide)
      | ((with_reducible refine modD_i ?_); first | assumption | omega | decide)
      | ((with_reducible apply ite_t); (first | rfl | (simp only [decide_eq_true_eq, Bool.not_eq_true', decide_eq_false_iff_not, Bool.not_eq_eq_eq_not, Bool.not_true, Bool.not_false, Bool.not_eq_true] <;> first | assumption | omega)))
      | ((with_reducible apply ite_f); (first | rfl | (simp only [decide_eq_true_eq, Bool.not_eq_true', decide_eq_false_iff_not, Bool.not_eq_eq_eq_not, Bool.not_true, Bool.not_false, Bool.not_eq_true] <;> first | assumption | omega)))
      | ((with_reducible show _ = Val.rf _ :: _); rfl)
      | ((with_reducible show backV _ _ = _); rfl)
      | ((with_reducible show ixD _ _ = some _); rfl)
      | ((with_reducible show ixN _ _ = some _); rfl)
      | ((with_reducible show asQ _ = _); rfl)
      | ((with_reducible show peek _ _ = some _); rfl)
      | ((with_reducible show peekL _ _ = some _); rfl)
      | ((with_reducible show frzL _ _ = some _); rfl)
      | ((with_reducible show frz _ _ = some _); rfl)
      | ((with_reducible show store _ _ _ = some _); rfl)
      | ((with_reducible show nbo _ _ = true); rfl)
      | ((with_reducible show muL _ _ = some _); rfl)
      | ((with_reducible show muD _ _ = some _); rfl)
      | ((with_reducible show bindP _ _ _ = some _); rfl)
      | ((with_reducible show List.length _ ≤ 16777216); exact Nat.le_of_ble_eq_true rfl)
      | ((with_reducible show (_ : Option Slot) = some (Slot.sh _)); rfl)
  · show fsSeq _ (fsSeq _ (fsSeq _ (fsSeq _ (fsSeq _ (fsSeq _ (fsSeq _ fr2)))))) _ = _
    repeat' first
      | ((with_reducible show fr2 _ = _); exact h2)
      | ((with_reducible show run__law_random _ = _); first | exact e1 | exact e4)
      | ((with_reducible show run__law_signed _ = _); first | exact e2 | exact e3)
      | ((with_reducible show run_floor_sum _ = _); exact f1)
      | ((with_reducible show run__law_floors _ = _); exact f2)
      | ((with_reducible show run__law_whole _ = _); exact whole_int _)
      | ((with_reducible show evLC _ _ _ _ _ _ = _); exact tok)
      | ((with_reducible show R.ok _ = R.ok _); rfl)
      | ((with_reducible apply b_var); rfl)
      | ((with_reducible apply b_varb); rfl)
      | ((with_reducible apply b_varo); rfl)
      | (with_reducible exact b_c)
      | (with_reducible exact b_nil)
      | (with_reducible exact b_fnil)
      | ((with_reducible show fsNil _ = R.ok (Fl.nx, _)); rfl)
      | (with_reducible exact b_foN)
      | (with_reducible apply b_op)
      | (with_reducible apply b_un)
      | (with_reducible apply b_cons)
      | (with_reducible apply b_val)
      | (with_reducible apply b_tand)
      | (with_reducible apply b_tor)
      | (with_reducible apply b_tnot)
      | (with_reducible apply b_ife)
      | (with_reducible apply b_and)
      | (with_reducible apply b_or)
      | (with_reducible apply b_not)
      | (with_reducible apply b_tup)
      | (with_reducible apply b_lst)
      | (with_reducible apply b_b)
      | (with_reducible apply b_foS)
      | (with_reducible apply b_sl)
      | (with_reducible apply b_nx)
      | (with_reducible exact b_rt)
      | (with_reducible exact b_xx)
      | (with_reducible apply b_seq)
      | (with_reducible apply b_expr)
      | (with_reducible apply b_ret)
      | (with_reducible apply b_if)
      | (with_reducible apply b_set)
      | (with_reducible apply b_aug)
      | (with_reducible apply b_par)
      | (with_reducible apply b_pat)
      | (with_reducible apply b_raise)
      | (with_reducible apply b_put)
      | (with_reducible apply b_call)
      | (with_reducible apply b_callB)
      | (with_reducible apply b_fiA)
      | (with_reducible apply b_fiOf)
      | (with_reducible apply b_for)
      | ((with_reducible show addD (.int _) (.int _) = some _); exact rfl)
      | ((with_reducible show subD (.int _) (.int _) = some _); exact rfl)
      | ((with_reducible show iaddD (.int _) (.int _) = some _); exact rfl)
      | ((with_reducible show negD (.int _) = some _); exact rfl)
      | ((with_reducible show ltD (.int _) (.int _) = some _); exact rfl)
      | ((with_reducible show leD (.int _) (.int _) = some _); exact rfl)
      | ((with_reducible show gtD (.int _) (.int _) = some _); exact rfl)
      | ((with_reducible show geD (.int _) (.int _) = some _); exact rfl)
      | ((with_reducible show intD [.int _] = some _); exact rfl)
      | ((with_reducible show maxD [.int _, .int _] = some _); exact rfl)
      | ((with_reducible show minD [.int _, .int _] = some _); exact rfl)
      | ((with_reducible show bitsD (.int _) = some _); exact rfl)
      | (with_reducible exact eqD_i _ _)
      | (with_reducible exact neD_i _ _)
      | ((with_reducible refine mulD_i inferInstance inferInstance ?_); decide +kernel)
      | ((with_reducible refine divD_i inferInstance ?_ ?_); decide +kernel; first | assumption | omega | decide)
      | ((with_reducible refine modD_i ?_); first | assumption | omega | decide)
      | ((with_reducible apply ite_t); (first | rfl | (simp only [decide_eq_true_eq, Bool.not_eq_true', decide_eq_false_iff_not, Bool.not_eq_eq_eq_not, Bool.not_true, Bool.not_false, Bool.not_eq_true] <;> first | assumption | omega)))
      | ((with_reducible apply ite_f); (first | rfl | (simp only [decide_eq_true_eq, Bool.not_eq_true', decide_eq_false_iff_not, Bool.not_eq_eq_eq_not, Bool.not_true, Bool.not_false, Bool.not_eq_true] <;> first | assumption | omega)))
      | ((with_reducible show _ = Val.rf _ :: _); rfl)
      | ((with_reducible show backV _ _ = _); rfl)
      | ((with_reducible show ixD _ _ = some _); rfl)
      | ((with_reducible show ixN _ _ = some _); rfl)
      | ((with_reducible show asQ _ = _); rfl)
      | ((with_reducible show peek _ _ = some _); rfl)
      | ((with_reducible show peekL _ _ = some _); rfl)
      | ((with_reducible show frzL _ _ = some _); rfl)
      | ((with_reducible show frz _ _ = some _); rfl)
      | ((with_reducible show store _ _ _ = some _); rfl)
      | ((with_reducible show nbo _ _ = true); rfl)
      | ((with_reducible show muL _ _ = some _); rfl)
      | ((with_reducible show muD _ _ = some _); rfl)
      | ((with_reducible show bindP _ _ _ = some _); rfl)
      | ((with_reducible show List.length _ ≤ 16777216); exact Nat.le_of_ble_eq_true rfl)
      | ((with_reducible show (_ : Option Slot) = some (Slot.sh _)); rfl)
theorem right_ok {B : Nat} {g : D} {a b : Int} (hg : Gn B g) (hB : B ≤ 5000) (ha : 0 < a) (ha2 : a ≤ 1000000000000000000000000000000000000000) (hb : 0 < b) (hb2 : b ≤ 1000000000000000000000000000000000000000) :
    ∃ g', run__law_right [g, .tup [.int a, .int b]] = .ok false (.bl true) g' ∧ Gn (B + 140) g' := by
  have big : (1000000000000000000000000000000000000000 : Int) < 2 ^ 130 := by decide
  have big2 : (2 : Int) ^ 130 < 2 ^ 150 := by decide
  have big3 : (2 : Int) ^ 150 < 2 ^ 200 := by decide
  have big4 : (2 : Int) ^ 200 < 2 ^ 400 := by decide +kernel
  have big5 : (2 : Int) ^ 400 < 2 ^ 1000 := by decide +kernel
  obtain ⟨many, g1, e1, m1, m2, q1⟩ := random_ok (b := a) hg (by omega) ha (szI (by omega) (by omega))
  obtain ⟨rise, g2, e2, r1, r2, q2⟩ := signed_ok (m := b) q1 (by omega) (by omega) (szI (by omega) (by omega))
  obtain ⟨start, g3, e3, s1, s2, q3⟩ := signed_ok (m := b) q2 (by omega) (by omega) (szI (by omega) (by omega))
  obtain ⟨bb, g4, e4, b1, b2, q4⟩ := random_ok (b := b) q3 (by omega) hb (szI (by omega) (by omega))
  obtain ⟨cut, g5, e5, c1, c2, q5⟩ := random_ok (b := many + 1) q4 (by omega) (by omega) (szI (by omega) (by omega))
  obtain ⟨one, g6, e6, o1, o2, q6⟩ := signed_ok (m := 9) q5 (by omega) (by omega) (szI (by decide) (by decide))
  obtain ⟨other, g7, e7, t1, t2, q7⟩ := signed_ok (m := 1000000000) q6 (by omega) (by omega) (szI (by decide) (by decide))
  have hbase : 0 < 1 + bb := by omega
  have sbase : Sz (1 + bb) 400 := szI (by omega) (by omega)
  have smany : Sz many 200 := szI (by omega) (by omega)
  have srise : Sz rise 200 := szI (by omega) (by omega)
  have sstart : Sz start 200 := szI (by omega) (by omega)
  have scut : Sz cut 200 := szI (by omega) (by omega)
  have sone : Sz one 40 := szI (by have : (9 : Int) < 2 ^ 40 := by decide
                                   omega) (by have : (9 : Int) < 2 ^ 40 := by decide
                                              omega)
  have soth : Sz other 40 := szI (by have : (1000000000 : Int) < 2 ^ 40 := by decide
                                     omega) (by have : (1000000000 : Int) < 2 ^ 40 := by decide
                                                omega)
  have f1 : run_floor_sum [.int many, .int rise, .int start, .int (1 + bb)] = _ := floor_sum_ok m1 hbase (smany.up (by decide)) (srise.up (by decide)) (sstart.up (by decide)) (sbase.up (by decide))
  have f2 : run__law_floors [.int many, .int rise, .int start, .int (1 + bb)] = _ := law_floors_ok m1 hbase (smany.up (by decide)) (srise.up (by decide)) (sstart.up (by decide)) (by omega)
  have f3 : run_floor_sum [.int cut, .int rise, .int start, .int (1 + bb)] = _ := floor_sum_ok c1 hbase (scut.up (by decide)) (srise.up (by decide)) (sstart.up (by decide)) (sbase.up (by decide))
  have f4 : run_floor_sum [.int (many - cut), .int rise, .int (start + rise * cut), .int (1 + bb)] = _ := floor_sum_ok (by omega) hbase (szI (by omega) (by omega)) (srise.up (by decide)) ((inferInstance : Sz (start + rise * cut) _).up (by decide)) (sbase.up (by decide))
  have f5 : run_floor_sum [.int many, .int (rise + one * (1 + bb)), .int (start + other * (1 + bb)), .int (1 + bb)] = _ := floor_sum_ok m1 hbase (smany.up (by decide)) ((inferInstance : Sz (rise + one * (1 + bb)) _).up (by decide)) ((inferInstance : Sz (start + other * (1 + bb)) _).up (by decide)) (sbase.up (by decide))
  have i1 : (many.toNat : Int) = many := Int.toNat_of_nonneg m1
  have i2 : (cut.toNat : Int) = cut := Int.toNat_of_nonneg c1
  have hcut : FS.S cut.toNat rise start (1 + bb) + FS.S (many - cut).toNat rise (start + rise * cut) (1 + bb) = FS.S many.toNat rise start (1 + bb) := by
    have h := FS.cut cut.toNat (many - cut).toNat rise start (1 + bb)
    have e : cut.toNat + (many - cut).toNat = many.toNat := by omega
    rw [e, i2] at h
    exact h.symm
  have hpar : FS.S many.toNat (rise + one * (1 + bb)) (start + other * (1 + bb)) (1 + bb) = FS.S many.toNat rise start (1 + bb) + one * (many * (many - 1)).fdiv 2 + other * many := by
    have h := FS.parts many.toNat hbase rise start one other
    have hh := half many.toNat
    rw [i1] at h hh
    rw [h, hh]
  have tok := terms_ok (g := g4) (sz := .tup [.int a, .int b]) (many := many) (base := 1 + bb) (found := FS.S many.toNat rise start (1 + bb)) (rise := rise) (start := start) m1 hbase sbase (srise.up (by decide)) (sstart.up (by decide))
  have hsum := fun h : many < 61 => (show sumD [.lst (tm (if 61 < many then 61 else many).toNat rise start (1 + bb))] = some (vI (FS.S many.toNat rise start (1 + bb))) from by
    rw [if_neg (by omega)]
    exact sum_tm hbase)
  refine ⟨g7, ?_, by have : B + 20 + 20 + 20 + 20 + 20 + 20 + 20 = B + 140 := by omega
                     rw [← this]; exact q7⟩
  obtain ⟨ρ, e, he⟩ := right2 (sz := .tup [.int a, .int b]) (ts := tm (if 61 < many then 61 else many).toNat rise start (1 + bb)) e5 e6 e7 f3 f4 f5 hcut
  rw [decide_eq_true hpar] at e
  exact p_runB rfl (right_eval e1 e2 e3 e4 f1 f2 tok hsum e) (finB_rt he)
end K60
namespace K60
open PySem PySem.Spec PyProof.Rows L2 Tr
def ib : FS := (fsIf (ftNot (ftVal (evCallB run__law_right (faCons (evVar 2) (faCons (evVar 3) faNil)))))
 (fsRet (evC (.bl false)))
 fsNil)
theorem ib_ok {s k g g' d : D} (h : run__law_right [g, d] = .ok false (.bl true) g') : ib [.sh s, .sh k, .ow g, .sh d] = .ok (.nx, [.sh s, .sh k, .ow g', .sh d]) := by
  unfold ib
  repeat' first
    | ((with_reducible show run__law_right _ = _); exact h)
    | ((with_reducible show R.ok _ = R.ok _); rfl)
    | ((with_reducible apply b_var); rfl)
    | ((with_reducible apply b_varb); rfl)
    | ((with_reducible apply b_varo); rfl)
    | (with_reducible exact b_c)
    | (with_reducible exact b_nil)
    | (with_reducible exact b_fnil)
    | ((with_reducible show fsNil _ = R.ok (Fl.nx, _)); rfl)
    | (with_reducible exact b_foN)
    | (with_reducible apply b_op)
    | (with_reducible apply b_un)
    | (with_reducible apply b_cons)
    | (with_reducible apply b_val)
    | (with_reducible apply b_tand)
    | (with_reducible apply b_tor)
    | (with_reducible apply b_tnot)
    | (with_reducible apply b_ife)
    | (with_reducible apply b_and)
    | (with_reducible apply b_or)
    | (with_reducible apply b_not)
    | (with_reducible apply b_tup)
    | (with_reducible apply b_lst)
    | (with_reducible apply b_b)
    | (with_reducible apply b_foS)
    | (with_reducible apply b_sl)
    | (with_reducible apply b_nx)
    | (with_reducible exact b_rt)
    | (with_reducible exact b_xx)
    | (with_reducible apply b_seq)
    | (with_reducible apply b_expr)
    | (with_reducible apply b_ret)
    | (with_reducible apply b_if)
    | (with_reducible apply b_set)
    | (with_reducible apply b_aug)
    | (with_reducible apply b_par)
    | (with_reducible apply b_pat)
    | (with_reducible apply b_raise)
    | (with_reducible apply b_put)
    | (with_reducible apply b_call)
    | (with_reducible apply b_callB)
    | (with_reducible apply b_fiA)
    | (with_reducible apply b_fiOf)
    | (with_reducible apply b_for)
    | ((with_reducible show addD (.int _) (.int _) = some _); exact rfl)
    | ((with_reducible show subD (.int _) (.int _) = some _); exact rfl)
    | ((with_reducible show iaddD (.int _) (.int _) = some _); exact rfl)
    | ((with_reducible show negD (.int _) = some _); exact rfl)
    | ((with_reducible show ltD (.int _) (.int _) = some _); exact rfl)
    | ((with_reducible show leD (.int _) (.int _) = some _); exact rfl)
    | ((with_reducible show gtD (.int _) (.int _) = some _); exact rfl)
    | ((with_reducible show geD (.int _) (.int _) = some _); exact rfl)
    | ((with_reducible show intD [.int _] = some _); exact rfl)
    | ((with_reducible show maxD [.int _, .int _] = some _); exact rfl)
    | ((with_reducible show minD [.int _, .int _] = some _); exact rfl)
    | ((with_reducible show bitsD (.int _) = some _); exact rfl)
    | (with_reducible exact eqD_i _ _)
    | (with_reducible exact neD_i _ _)
    | ((with_reducible refine mulD_i inferInstance inferInstance ?_); decide +kernel)
    | ((with_reducible refine divD_i inferInstance ?_ ?_); decide +kernel; first | assumption | omega | decide)
    | ((with_reducible refine modD_i ?_); first | assumption | omega | decide)
    | ((with_reducible apply ite_t); (first | rfl | (simp only [decide_eq_true_eq, Bool.not_eq_true', decide_eq_false_iff_not, Bool.not_eq_eq_eq_not, Bool.not_true, Bool.not_false, Bool.not_eq_true] <;> first | assumption | omega)))
    | ((with_reducible apply ite_f); (first | rfl | (simp only [decide_eq_true_eq, Bool.not_eq_true', decide_eq_false_iff_not, Bool.not_eq_eq_eq_not, Bool.not_true, Bool.not_false, Bool.not_eq_true] <;> first | assumption | omega)))
    | ((with_reducible show _ = Val.rf _ :: _); rfl)
    | ((with_reducible show backV _ _ = _); rfl)
    | ((with_reducible show ixD _ _ = some _); rfl)
    | ((with_reducible show ixN _ _ = some _); rfl)
    | ((with_reducible show asQ _ = _); rfl)
    | ((with_reducible show peek _ _ = some _); rfl)
    | ((with_reducible show peekL _ _ = some _); rfl)
    | ((with_reducible show frzL _ _ = some _); rfl)
    | ((with_reducible show frz _ _ = some _); rfl)
    | ((with_reducible show store _ _ _ = some _); rfl)
    | ((with_reducible show nbo _ _ = true); rfl)
    | ((with_reducible show muL _ _ = some _); rfl)
    | ((with_reducible show muD _ _ = some _); rfl)
    | ((with_reducible show bindP _ _ _ = some _); rfl)
    | ((with_reducible show List.length _ ≤ 16777216); exact Nat.le_of_ble_eq_true rfl)
    | ((with_reducible show (_ : Option Slot) = some (Slot.sh _)); rfl)
def Siz (d : D) : Prop := ∃ a b : Int, d = .tup [.int a, .int b] ∧ 0 < a ∧ a ≤ 1000000000000000000000000000000000000000 ∧ 0 < b ∧ b ≤ 1000000000000000000000000000000000000000
theorem iloop : ∀ (ss : List D) (s k g : D) (x : Slot) (B : Nat), (∀ d ∈ ss, Siz d) → Gn B g → B + 140 * ss.length ≤ 5000 → (x = .un ∨ ∃ d, x = .sh d) →
    ∃ g' x', loopD (.nm 3) ib ss [.sh s, .sh k, .ow g, x] = .ok (.nx, [.sh s, .sh k, .ow g', x']) ∧ (x' = .un ∨ ∃ d, x' = .sh d)
  | [], s, k, g, x, B, _, _, _, hx => ⟨g, x, rfl, hx⟩
  | d :: ss, s, k, g, x, B, hs, hg, hB, hx => by
    rw [List.length_cons] at hB
    obtain ⟨a, b, rfl, ha, ha2, hb, hb2⟩ := hs d List.mem_cons_self
    obtain ⟨g1, e1, q1⟩ := right_ok hg (by omega) ha ha2 hb hb2
    obtain ⟨g', x', e, h⟩ := iloop ss s k g1 (.sh (.tup [.int a, .int b])) (B + 140) (fun d hd => hs d (List.mem_cons_of_mem _ hd)) q1 (by omega) (.inr ⟨_, rfl⟩)
    refine ⟨g', x', l_nx (ρ1 := [.sh s, .sh k, .ow g, .sh (.tup [.int a, .int b])]) ?_ (ib_ok e1) e, h⟩
    rcases hx with rfl | ⟨z, rfl⟩ <;> rfl
def ssz : List D := [.tup [.int 61, .int 10], .tup [.int 61, .int 1000], .tup [.int 1000000000, .int 1000], .tup [.int 1000000000000000000000000000000000000000, .int (1000000000000000000000000000000000000000 - 1)], .tup [.int 1000000000000000000000000000000000000000, .int 10]]
theorem ssz_ok : ∀ d ∈ ssz, Siz d := by
  intro d hd
  simp only [ssz, List.mem_cons, List.not_mem_nil, or_false] at hd
  rcases hd with rfl | rfl | rfl | rfl | rfl <;> exact ⟨_, _, rfl, by decide, by decide, by decide, by decide⟩
def ob : FS := (fsSeq (fsSet 2 (evCall run__law_generator [] (faCons (evVar 0) (faCons (evVar 1) faNil))))
 (fsFor (fiOf (evLst (faCons (evTup (faCons (evC (.int 61)) (faCons (evC (.int 10)) faNil))) (faCons (evTup (faCons (evC (.int 61)) (faCons (evC (.int 1000)) faNil))) (faCons (evTup (faCons (evOp powD (evC (.int 10)) (evC (.int 9))) (faCons (evC (.int 1000)) faNil))) (faCons (evTup (faCons (evOp powD (evC (.int 10)) (evC (.int 39))) (faCons (evOp subD (evOp powD (evC (.int 10)) (evC (.int 39))) (evC (.int 1))) faNil))) (faCons (evTup (faCons (evOp powD (evC (.int 10)) (evC (.int 39))) (faCons (evC (.int 10)) faNil))) faNil)))))) asQ) (.nm 3) ib))
theorem ob_ok {ns : List Int} {k : Nat} (hk : k ≤ 100) {x2 x3 : Slot} (h2 : x2 = .un ∨ ∃ d, x2 = .ow d) (h3 : x3 = .un ∨ ∃ d, x3 = .sh d) :
    ∃ g' x', ob [.sh (.scr ns), .sh (.int k), x2, x3] = .ok (.nx, [.sh (.scr ns), .sh (.int k), .ow g', x']) ∧ (x' = .un ∨ ∃ d, x' = .sh d) := by
  obtain ⟨g, e, hg⟩ := generator_ok ns k hk
  obtain ⟨g', x', el, hx⟩ := iloop ssz (.scr ns) (.int k) g x3 20 ssz_ok hg (by decide) h3
  refine ⟨g', x', ?_, hx⟩
  unfold ob
  rcases h2 with rfl | ⟨d, rfl⟩
  · skip
    repeat' first
      | ((with_reducible show run__law_generator _ = _); exact e)
      | (with_reducible exact pow9)
      | (with_reducible exact pow39)
      | ((with_reducible show loopD _ _ _ _ = _); exact el)
      | ((with_reducible show R.ok _ = R.ok _); rfl)
      | ((with_reducible apply b_var); rfl)
      | ((with_reducible apply b_varb); rfl)
      | ((with_reducible apply b_varo); rfl)
      | (with_reducible exact b_c)
      | (with_reducible exact b_nil)
      | (with_reducible exact b_fnil)
      | ((with_reducible show fsNil _ = R.ok (Fl.nx, _)); rfl)
      | (with_reducible exact b_foN)
      | (with_reducible apply b_op)
      | (with_reducible apply b_un)
      | (with_reducible apply b_cons)
      | (with_reducible apply b_val)
      | (with_reducible apply b_tand)
      | (with_reducible apply b_tor)
      | (with_reducible apply b_tnot)
      | (with_reducible apply b_ife)
      | (with_reducible apply b_and)
      | (with_reducible apply b_or)
      | (with_reducible apply b_not)
      | (with_reducible apply b_tup)
      | (with_reducible apply b_lst)
      | (with_reducible apply b_b)
      | (with_reducible apply b_foS)
      | (with_reducible apply b_sl)
      | (with_reducible apply b_nx)
      | (with_reducible exact b_rt)
      | (with_reducible exact b_xx)
      | (with_reducible apply b_seq)
      | (with_reducible apply b_expr)
      | (with_reducible apply b_ret)
      | (with_reducible apply b_if)
      | (with_reducible apply b_set)
      | (with_reducible apply b_aug)
      | (with_reducible apply b_par)
      | (with_reducible apply b_pat)
      | (with_reducible apply b_raise)
      | (with_reducible apply b_put)
      | (with_reducible apply b_call)
      | (with_reducible apply b_callB)
      | (with_reducible apply b_fiA)
      | (with_reducible apply b_fiOf)
      | (with_reducible apply b_for)
      | ((with_reducible show addD (.int _) (.int _) = some _); exact rfl)
      | ((with_reducible show subD (.int _) (.int _) = some _); exact rfl)
      | ((with_reducible show iaddD (.int _) (.int _) = some _); exact rfl)
      | ((with_reducible show negD (.int _) = some _); exact rfl)
      | ((with_reducible show ltD (.int _) (.int _) = some _); exact rfl)
      | ((with_reducible show leD (.int _) (.int _) = some _); exact rfl)
      | ((with_reducible show gtD (.int _) (.int _) = some _); exact rfl)
      | ((with_reducible show geD (.int _) (.int _) = some _); exact rfl)
      | ((with_reducible show intD [.int _] = some _); exact rfl)
      | ((with_reducible show maxD [.int _, .int _] = some _); exact rfl)
      | ((with_reducible show minD [.int _, .int _] = some _); exact rfl)
      | ((with_reducible show bitsD (.int _) = some _); exact rfl)
      | (with_reducible exact eqD_i _ _)
      | (with_reducible exact neD_i _ _)
      | ((with_reducible refine mulD_i inferInstance inferInstance ?_); decide +kernel)
      | ((with_reducible refine divD_i inferInstance ?_ ?_); decide +kernel; first | assumption | omega | decide)
      | ((with_reducible refine modD_i ?_); first | assumption | omega | decide)
      | ((with_reducible apply ite_t); (first | rfl | (simp only [decide_eq_true_eq, Bool.not_eq_true', decide_eq_false_iff_not, Bool.not_eq_eq_eq_not, Bool.not_true, Bool.not_false, Bool.not_eq_true] <;> first | assumption | omega)))
      | ((with_reducible apply ite_f); (first | rfl | (simp only [decide_eq_true_eq, Bool.not_eq_true', decide_eq_false_iff_not, Bool.not_eq_eq_eq_not, Bool.not_true, Bool.not_false, Bool.not_eq_true] <;> first | assumption | omega)))
      | ((with_reducible show _ = Val.rf _ :: _); rfl)
      | ((with_reducible show backV _ _ = _); rfl)
      | ((with_reducible show ixD _ _ = some _); rfl)
      | ((with_reducible show ixN _ _ = some _); rfl)
      | ((with_reducible show asQ _ = _); rfl)
      | ((with_reducible show peek _ _ = some _); rfl)
      | ((with_reducible show peekL _ _ = some _); rfl)
      | ((with_reducible show frzL _ _ = some _); rfl)
      | ((with_reducible show frz _ _ = some _); rfl)
      | ((with_reducible show store _ _ _ = some _); rfl)
      | ((with_reducible show nbo _ _ = true); rfl)
      | ((with_reducible show muL _ _ = some _); rfl)
      | ((with_reducible show muD _ _ = some _); rfl)
      | ((with_reducible show bindP _ _ _ = some _); rfl)
      | ((with_reducible show List.length _ ≤ 16777216); exact Nat.le_of_ble_eq_true rfl)
      | ((with_reducible show (_ : Option Slot) = some (Slot.sh _)); rfl)
  · skip
    repeat' first
      | ((with_reducible show run__law_generator _ = _); exact e)
      | (with_reducible exact pow9)
      | (with_reducible exact pow39)
      | ((with_reducible show loopD _ _ _ _ = _); exact el)
      | ((with_reducible show R.ok _ = R.ok _); rfl)
      | ((with_reducible apply b_var); rfl)
      | ((with_reducible apply b_varb); rfl)
      | ((with_reducible apply b_varo); rfl)
      | (with_reducible exact b_c)
      | (with_reducible exact b_nil)
      | (with_reducible exact b_fnil)
      | ((with_reducible show fsNil _ = R.ok (Fl.nx, _)); rfl)
      | (with_reducible exact b_foN)
      | (with_reducible apply b_op)
      | (with_reducible apply b_un)
      | (with_reducible apply b_cons)
      | (with_reducible apply b_val)
      | (with_reducible apply b_tand)
      | (with_reducible apply b_tor)
      | (with_reducible apply b_tnot)
      | (with_reducible apply b_ife)
      | (with_reducible apply b_and)
      | (with_reducible apply b_or)
      | (with_reducible apply b_not)
      | (with_reducible apply b_tup)
      | (with_reducible apply b_lst)
      | (with_reducible apply b_b)
      | (with_reducible apply b_foS)
      | (with_reducible apply b_sl)
      | (with_reducible apply b_nx)
      | (with_reducible exact b_rt)
      | (with_reducible exact b_xx)
      | (with_reducible apply b_seq)
      | (with_reducible apply b_expr)
      | (with_reducible apply b_ret)
      | (with_reducible apply b_if)
      | (with_reducible apply b_set)
      | (with_reducible apply b_aug)
      | (with_reducible apply b_par)
      | (with_reducible apply b_pat)
      | (with_reducible apply b_raise)
      | (with_reducible apply b_put)
      | (with_reducible apply b_call)
      | (with_reducible apply b_callB)
      | (with_reducible apply b_fiA)
      | (with_reducible apply b_fiOf)
      | (with_reducible apply b_for)
      | ((with_reducible show addD (.int _) (.int _) = some _); exact rfl)
      | ((with_reducible show subD (.int _) (.int _) = some _); exact rfl)
      | ((with_reducible show iaddD (.int _) (.int _) = some _); exact rfl)
      | ((with_reducible show negD (.int _) = some _); exact rfl)
      | ((with_reducible show ltD (.int _) (.int _) = some _); exact rfl)
      | ((with_reducible show leD (.int _) (.int _) = some _); exact rfl)
      | ((with_reducible show gtD (.int _) (.int _) = some _); exact rfl)
      | ((with_reducible show geD (.int _) (.int _) = some _); exact rfl)
      | ((with_reducible show intD [.int _] = some _); exact rfl)
      | ((with_reducible show maxD [.int _, .int _] = some _); exact rfl)
      | ((with_reducible show minD [.int _, .int _] = some _); exact rfl)
      | ((with_reducible show bitsD (.int _) = some _); exact rfl)
      | (with_reducible exact eqD_i _ _)
      | (with_reducible exact neD_i _ _)
      | ((with_reducible refine mulD_i inferInstance inferInstance ?_); decide +kernel)
      | ((with_reducible refine divD_i inferInstance ?_ ?_); decide +kernel; first | assumption | omega | decide)
      | ((with_reducible refine modD_i ?_); first | assumption | omega | decide)
      | ((with_reducible apply ite_t); (first | rfl | (simp only [decide_eq_true_eq, Bool.not_eq_true', decide_eq_false_iff_not, Bool.not_eq_eq_eq_not, Bool.not_true, Bool.not_false, Bool.not_eq_true] <;> first | assumption | omega)))
      | ((with_reducible apply ite_f); (first | rfl | (simp only [decide_eq_true_eq, Bool.not_eq_true', decide_eq_false_iff_not, Bool.not_eq_eq_eq_not, Bool.not_true, Bool.not_false, Bool.not_eq_true] <;> first | assumption | omega)))
      | ((with_reducible show _ = Val.rf _ :: _); rfl)
      | ((with_reducible show backV _ _ = _); rfl)
      | ((with_reducible show ixD _ _ = some _); rfl)
      | ((with_reducible show ixN _ _ = some _); rfl)
      | ((with_reducible show asQ _ = _); rfl)
      | ((with_reducible show peek _ _ = some _); rfl)
      | ((with_reducible show peekL _ _ = some _); rfl)
      | ((with_reducible show frzL _ _ = some _); rfl)
      | ((with_reducible show frz _ _ = some _); rfl)
      | ((with_reducible show store _ _ _ = some _); rfl)
      | ((with_reducible show nbo _ _ = true); rfl)
      | ((with_reducible show muL _ _ = some _); rfl)
      | ((with_reducible show muD _ _ = some _); rfl)
      | ((with_reducible show bindP _ _ _ = some _); rfl)
      | ((with_reducible show List.length _ ≤ 16777216); exact Nat.le_of_ble_eq_true rfl)
      | ((with_reducible show (_ : Option Slot) = some (Slot.sh _)); rfl)
theorem oloop {ns : List Int} : ∀ (l : List Nat) (x1 x2 x3 : Slot), (∀ k ∈ l, k ≤ 100) → (x1 = .un ∨ ∃ d, x1 = .sh d) → (x2 = .un ∨ ∃ d, x2 = .ow d) → (x3 = .un ∨ ∃ d, x3 = .sh d) →
    ∃ x1' x2' x3', loopD (.nm 1) ob (l.map fun (i : Nat) => D.int (0 + (i : Int))) [.sh (.scr ns), x1, x2, x3] = .ok (.nx, [.sh (.scr ns), x1', x2', x3'])
  | [], x1, x2, x3, _, _, _, _ => ⟨x1, x2, x3, rfl⟩
  | k :: l, x1, x2, x3, hl, h1, h2, h3 => by
    obtain ⟨g', x', e, hx⟩ := ob_ok (ns := ns) (hl k List.mem_cons_self) h2 h3
    obtain ⟨y1, y2, y3, r⟩ := oloop l (.sh (.int k)) (.ow g') x' (fun j hj => hl j (List.mem_cons_of_mem _ hj)) (.inr ⟨_, rfl⟩) (.inr ⟨_, rfl⟩) hx
    refine ⟨y1, y2, y3, ?_⟩
    rw [List.map_cons, Int.zero_add]
    refine l_nx (ρ1 := [.sh (.scr ns), .sh (.int k), x2, x3]) ?_ e r
    rcases h1 with rfl | ⟨z, rfl⟩ <;> rfl
theorem law_ok (ns : List Int) : run_law [.scr ns] = .ok false (.bl true) .non := by
  obtain ⟨y1, y2, y3, e⟩ := oloop (ns := ns) (List.range 5) .un .un .un (fun k hk => by have := List.mem_range.mp hk; omega) (.inl rfl) (.inl rfl) (.inl rfl)
  apply p_run
  · rfl
  · show fsSeq (fsFor (fiA (faCons (evC (.int 5)) faNil) rng1) (.nm 1) ob) (fsRet (evCall run__law_refused [] faNil)) [.sh (.scr ns), .un, .un, .un] = _
    repeat' first
      | ((with_reducible show run__law_refused _ = _); exact refused_ok)
      | ((with_reducible show loopD _ _ _ _ = _); exact e)
      | ((with_reducible apply b_rng1); rfl; decide)
      | ((with_reducible show R.ok _ = R.ok _); rfl)
      | ((with_reducible apply b_var); rfl)
      | ((with_reducible apply b_varb); rfl)
      | ((with_reducible apply b_varo); rfl)
      | (with_reducible exact b_c)
      | (with_reducible exact b_nil)
      | (with_reducible exact b_fnil)
      | ((with_reducible show fsNil _ = R.ok (Fl.nx, _)); rfl)
      | (with_reducible exact b_foN)
      | (with_reducible apply b_op)
      | (with_reducible apply b_un)
      | (with_reducible apply b_cons)
      | (with_reducible apply b_val)
      | (with_reducible apply b_tand)
      | (with_reducible apply b_tor)
      | (with_reducible apply b_tnot)
      | (with_reducible apply b_ife)
      | (with_reducible apply b_and)
      | (with_reducible apply b_or)
      | (with_reducible apply b_not)
      | (with_reducible apply b_tup)
      | (with_reducible apply b_lst)
      | (with_reducible apply b_b)
      | (with_reducible apply b_foS)
      | (with_reducible apply b_sl)
      | (with_reducible apply b_nx)
      | (with_reducible exact b_rt)
      | (with_reducible exact b_xx)
      | (with_reducible apply b_seq)
      | (with_reducible apply b_expr)
      | (with_reducible apply b_ret)
      | (with_reducible apply b_if)
      | (with_reducible apply b_set)
      | (with_reducible apply b_aug)
      | (with_reducible apply b_par)
      | (with_reducible apply b_pat)
      | (with_reducible apply b_raise)
      | (with_reducible apply b_put)
      | (with_reducible apply b_call)
      | (with_reducible apply b_callB)
      | (with_reducible apply b_fiA)
      | (with_reducible apply b_fiOf)
      | (with_reducible apply b_for)
      | ((with_reducible show addD (.int _) (.int _) = some _); exact rfl)
      | ((with_reducible show subD (.int _) (.int _) = some _); exact rfl)
      | ((with_reducible show iaddD (.int _) (.int _) = some _); exact rfl)
      | ((with_reducible show negD (.int _) = some _); exact rfl)
      | ((with_reducible show ltD (.int _) (.int _) = some _); exact rfl)
      | ((with_reducible show leD (.int _) (.int _) = some _); exact rfl)
      | ((with_reducible show gtD (.int _) (.int _) = some _); exact rfl)
      | ((with_reducible show geD (.int _) (.int _) = some _); exact rfl)
      | ((with_reducible show intD [.int _] = some _); exact rfl)
      | ((with_reducible show maxD [.int _, .int _] = some _); exact rfl)
      | ((with_reducible show minD [.int _, .int _] = some _); exact rfl)
      | ((with_reducible show bitsD (.int _) = some _); exact rfl)
      | (with_reducible exact eqD_i _ _)
      | (with_reducible exact neD_i _ _)
      | ((with_reducible refine mulD_i inferInstance inferInstance ?_); decide +kernel)
      | ((with_reducible refine divD_i inferInstance ?_ ?_); decide +kernel; first | assumption | omega | decide)
      | ((with_reducible refine modD_i ?_); first | assumption | omega | decide)
      | ((with_reducible apply ite_t); (first | rfl | (simp only [decide_eq_true_eq, Bool.not_eq_true', decide_eq_false_iff_not, Bool.not_eq_eq_eq_not, Bool.not_true, Bool.not_false, Bool.not_eq_true] <;> first | assumption | omega)))
      | ((with_reducible apply ite_f); (first | rfl | (simp only [decide_eq_true_eq, Bool.not_eq_true', decide_eq_false_iff_not, Bool.not_eq_eq_eq_not, Bool.not_true, Bool.not_false, Bool.not_eq_true] <;> first | assumption | omega)))
      | ((with_reducible show _ = Val.rf _ :: _); rfl)
      | ((with_reducible show backV _ _ = _); rfl)
      | ((with_reducible show ixD _ _ = some _); rfl)
      | ((with_reducible show ixN _ _ = some _); rfl)
      | ((with_reducible show asQ _ = _); rfl)
      | ((with_reducible show peek _ _ = some _); rfl)
      | ((with_reducible show peekL _ _ = some _); rfl)
      | ((with_reducible show frzL _ _ = some _); rfl)
      | ((with_reducible show frz _ _ = some _); rfl)
      | ((with_reducible show store _ _ _ = some _); rfl)
      | ((with_reducible show nbo _ _ = true); rfl)
      | ((with_reducible show muL _ _ = some _); rfl)
      | ((with_reducible show muD _ _ = some _); rfl)
      | ((with_reducible show bindP _ _ _ = some _); rfl)
      | ((with_reducible show List.length _ ≤ 16777216); exact Nat.le_of_ble_eq_true rfl)
      | ((with_reducible show (_ : Option Slot) = some (Slot.sh _)); rfl)
  · rfl
end K60
namespace K60
open PySem PySem.Spec PyProof.Rows L2 Tr
theorem all_mk {P : Program} {w : World} {K : PySem.W.Frag} {h : Heap} {mg : Str → Option Value} {fa : Addr} (X : K.In h) (G : h.Ns mainGlobals mg) (hfa : mg "law" = some (.ref fa))
    {Ad : Addr}
    {odA : Option Addr} {cdA : ClassData} {slA : Array (Option Value)}
    {C0 f0 dT0 cda0 cc0 N0 : Addr} {q0 qu0 : Str} {bs0 sub0 : List Value} {sn0 : List Str} {ab0 : Bool} {col0 : Option Bool} {dd0 : Option Addr} {k00 k10 k20 k30 k50 : Option Value}
    {oc0 doc0 pm0 ct0 : Value} {od0 an0 : Option Addr} {osl0 : Array (Option Value)} {p10 p20 p30 x10 x20 x30 x40 x50 x60 r10 r20 r30 r40 : Pos} {tc0 : Value} {td0 : Option Addr} {tn0 : Nat} {ts0 : Array (Option Value)} {cl0 : Value} {cld0 : Option Addr} {csl0 : Array (Option Value)} {ccl0 : Value} {cdd0 : Option Addr} {ccs0 : Array (Option Value)} {vs0 : Array Value} {file0 : Str} {tf0 : Tok}
    {aD0 : Addr} {ocD0 kVD0 dcD0 pmD0 cdD0 ctD0 : Value} {odD0 anD0 : Option Addr} {slD0 : Array (Option Value)}
    {aD1 : Addr} {ocD1 kVD1 dcD1 pmD1 cdD1 ctD1 : Value} {odD1 anD1 : Option Addr} {slD1 : Array (Option Value)}
    {aD2 : Addr} {ocD2 kVD2 dcD2 pmD2 cdD2 ctD2 : Value} {odD2 anD2 : Option Addr} {slD2 : Array (Option Value)} {dtD2 : Addr} {tcD2 : Value} {tdD2 : Option Addr} {tnD2 : Nat} {tsD2 : Array (Option Value)}
    {aD3 : Addr} {ocD3 kVD3 dcD3 pmD3 cdD3 ctD3 : Value} {odD3 anD3 : Option Addr} {slD3 : Array (Option Value)}
    {aD4 : Addr} {ocD4 kVD4 dcD4 pmD4 cdD4 ctD4 : Value} {odD4 anD4 : Option Addr} {slD4 : Array (Option Value)}
    {aD5 : Addr} {ocD5 kVD5 dcD5 pmD5 cdD5 ctD5 : Value} {odD5 anD5 : Option Addr} {slD5 : Array (Option Value)}
    {aD6 : Addr} {ocD6 kVD6 dcD6 pmD6 cdD6 ctD6 : Value} {odD6 anD6 : Option Addr} {slD6 : Array (Option Value)}
    {aD7 : Addr} {ocD7 kVD7 dcD7 pmD7 cdD7 ctD7 : Value} {odD7 anD7 : Option Addr} {slD7 : Array (Option Value)}
    {aD8 : Addr} {ocD8 kVD8 dcD8 pmD8 cdD8 ctD8 : Value} {odD8 anD8 : Option Addr} {slD8 : Array (Option Value)}
    {aD9 : Addr} {ocD9 kVD9 dcD9 pmD9 cdD9 ctD9 : Value} {odD9 anD9 : Option Addr} {slD9 : Array (Option Value)}
    {aD10 : Addr} {ocD10 kVD10 dcD10 pmD10 cdD10 ctD10 : Value} {odD10 anD10 : Option Addr} {slD10 : Array (Option Value)}
    {aD11 : Addr} {ocD11 kVD11 dcD11 pmD11 cdD11 ctD11 : Value} {odD11 anD11 : Option Addr} {slD11 : Array (Option Value)}
    {aD12 : Addr} {ocD12 kVD12 dcD12 pmD12 cdD12 ctD12 : Value} {odD12 anD12 : Option Addr} {slD12 : Array (Option Value)}
    {aD13 : Addr} {ocD13 kVD13 dcD13 pmD13 cdD13 ctD13 : Value} {odD13 anD13 : Option Addr} {slD13 : Array (Option Value)}
    {aD14 : Addr} {ocD14 kVD14 dcD14 pmD14 cdD14 ctD14 : Value} {odD14 anD14 : Option Addr} {slD14 : Array (Option Value)}
    (n_bool : PySem.W.nsIn K mainGlobals "bool" = some none)
    (n_int : PySem.W.nsIn K mainGlobals "int" = some none)
    (n_isinstance : PySem.W.nsIn K mainGlobals "isinstance" = some none)
    (n_len : PySem.W.nsIn K mainGlobals "len" = some none)
    (n_max : PySem.W.nsIn K mainGlobals "max" = some none)
    (n_min : PySem.W.nsIn K mainGlobals "min" = some none)
    (n_range : PySem.W.nsIn K mainGlobals "range" = some none)
    (n_repr : PySem.W.nsIn K mainGlobals "repr" = some none)
    (n_sum : PySem.W.nsIn K mainGlobals "sum" = some none)
    (aA : PySem.W.nsIn K mainGlobals "AddError" = some (some (.ref Ad)))
    (lA : K.lookup Ad = some ⟨.type "type", odA, .cls cdA, slA⟩)
    (nmA : cdA.name = "AddError")
    (exA : PySem.W.subIn K (.ref Ad) (.type "BaseException") = some true)
    (opq : PySem.W.nsIn K cStatics "thirdparty.any" = some none)
    (nsup : PySem.W.nsIn K mainGlobals "super" = some none)
    (tsup : (P.main.scope.names.lookup ("super" : Str)).isSome = false)
    (eg0 : PySem.W.nsIn K mainGlobals "InvalidNumber" = some (some (.ref C0)))
    (ec0 : K.lookup C0 = some (excClassObj "InvalidNumber" q0 C0 N0 bs0 (.ref Ad :: PySem.HandSPX.veTail) true sn0 sub0 ab0 col0 dd0 k00 k10 k20 k30 k50 "ValueError.__new__"))
    (esa0 : PySem.W.findIn K (.ref C0) "__setattr__" = some (some (.builtin "object.__setattr__")))
    (ega0 : PySem.W.findIn K (.ref C0) "__getattribute__" = some (some (.builtin "BaseException.__getattribute__")))
    (egg0 : PySem.W.findIn K (.ref C0) "__getattr__" = some none)
    (enn0 : PySem.W.findIn K (.ref C0) "value" = some none)
    (ecl0 : PySem.W.findIn K (.ref C0) "__class__" = some (some (.builtin "object.__class__")))
    (ei0 : PySem.W.findIn K (.ref C0) "__init__" = some (some (.ref f0)))
    (et0 : PySem.W.typeIn K (.ref f0) = some (.type "function"))
    (ek0 : PySem.W.keepIn K (.ref C0) = true)
    (eh0 : PySem.W.hasDictIn K C0 = true)
    (es0 : PySem.W.ks_superIn K C0 C0 "__init__" = some (some (.builtin "ValueError.__init__")))
    (el0 : K.lookup f0 = some ⟨oc0, od0, .func (PySem.W.ksFn "__init__" qu0 (PySem.ErrX.eA "value" p10 p20 p30) (PySem.ErrX.eB "value" x10 x20 x30 x40 x50 x60 r10 r20 r30 r40) (PySem.ErrX.eS "value") (.ref dT0) .none doc0 pm0 an0 (.ref cda0) ct0 cc0), osl0⟩)
    (eo0 : PySem.W.codeIn K (.ref cda0) qu0 = true)
    (ed0 : K.lookup dT0 = some ⟨tc0, td0, .seq #[.none] tn0, ts0⟩)
    (ep0 : (x30.endLine == x50.line) = true)
    (ec20 : K.lookup cc0 = some ⟨cl0, cld0, .cell (some (.ref C0)), csl0⟩)
    (ecd0 : K.lookup cda0 = some ⟨ccl0, cdd0, .fields vs0, ccs0⟩)
    (ev0 : vs0[2]? = some (.str file0 tf0))
    (ef0 : ((P.main.file : Str) == file0) = true)
    (gD0 : PySem.W.nsIn K mainGlobals "floors" = some (some (.ref aD0)))
    (lD0 : K.lookup aD0 = some ⟨ocD0, odD0, .func (PySem.W.fnOf "floors" "floors" (defArgs s_floors) (defBody s_floors) (defScope s_floors) .none kVD0 dcD0 pmD0 anD0 cdD0 ctD0), slD0⟩)
    (cD0 : PySem.W.codeIn K cdD0 "floors" = true)
    (kD0 : PySem.W.keepIn K (.ref aD0) = true)
    (gD1 : PySem.W.nsIn K mainGlobals "is_whole" = some (some (.ref aD1)))
    (lD1 : K.lookup aD1 = some ⟨ocD1, odD1, .func (PySem.W.fnOf "is_whole" "is_whole" (defArgs s_is_whole) (defBody s_is_whole) (defScope s_is_whole) .none kVD1 dcD1 pmD1 anD1 cdD1 ctD1), slD1⟩)
    (cD1 : PySem.W.codeIn K cdD1 "is_whole" = true)
    (kD1 : PySem.W.keepIn K (.ref aD1) = true)
    (gD2 : PySem.W.nsIn K mainGlobals "check_whole" = some (some (.ref aD2)))
    (lD2 : K.lookup aD2 = some ⟨ocD2, odD2, .func (PySem.W.fnOf "check_whole" "check_whole" (defArgs s_check_whole) (defBody s_check_whole) (defScope s_check_whole) (.ref dtD2) kVD2 dcD2 pmD2 anD2 cdD2 ctD2), slD2⟩)
    (dD2 : K.lookup dtD2 = some ⟨tcD2, tdD2, .seq #[.none] tnD2, tsD2⟩)
    (cD2 : PySem.W.codeIn K cdD2 "check_whole" = true)
    (kD2 : PySem.W.keepIn K (.ref aD2) = true)
    (gD3 : PySem.W.nsIn K mainGlobals "floor_sum" = some (some (.ref aD3)))
    (lD3 : K.lookup aD3 = some ⟨ocD3, odD3, .func (PySem.W.fnOf "floor_sum" "floor_sum" (defArgs s_floor_sum) (defBody s_floor_sum) (defScope s_floor_sum) .none kVD3 dcD3 pmD3 anD3 cdD3 ctD3), slD3⟩)
    (cD3 : PySem.W.codeIn K cdD3 "floor_sum" = true)
    (kD3 : PySem.W.keepIn K (.ref aD3) = true)
    (gD4 : PySem.W.nsIn K mainGlobals "_law_cell" = some (some (.ref aD4)))
    (lD4 : K.lookup aD4 = some ⟨ocD4, odD4, .func (PySem.W.fnOf "_law_cell" "_law_cell" (defArgs s__law_cell) (defBody s__law_cell) (defScope s__law_cell) .none kVD4 dcD4 pmD4 anD4 cdD4 ctD4), slD4⟩)
    (cD4 : PySem.W.codeIn K cdD4 "_law_cell" = true)
    (kD4 : PySem.W.keepIn K (.ref aD4) = true)
    (gD5 : PySem.W.nsIn K mainGlobals "_law_hash" = some (some (.ref aD5)))
    (lD5 : K.lookup aD5 = some ⟨ocD5, odD5, .func (PySem.W.fnOf "_law_hash" "_law_hash" (defArgs s__law_hash) (defBody s__law_hash) (defScope s__law_hash) .none kVD5 dcD5 pmD5 anD5 cdD5 ctD5), slD5⟩)
    (cD5 : PySem.W.codeIn K cdD5 "_law_hash" = true)
    (kD5 : PySem.W.keepIn K (.ref aD5) = true)
    (gD6 : PySem.W.nsIn K mainGlobals "_law_generator" = some (some (.ref aD6)))
    (lD6 : K.lookup aD6 = some ⟨ocD6, odD6, .func (PySem.W.fnOf "_law_generator" "_law_generator" (defArgs s__law_generator) (defBody s__law_generator) (defScope s__law_generator) .none kVD6 dcD6 pmD6 anD6 cdD6 ctD6), slD6⟩)
    (cD6 : PySem.W.codeIn K cdD6 "_law_generator" = true)
    (kD6 : PySem.W.keepIn K (.ref aD6) = true)
    (gD7 : PySem.W.nsIn K mainGlobals "_law_random" = some (some (.ref aD7)))
    (lD7 : K.lookup aD7 = some ⟨ocD7, odD7, .func (PySem.W.fnOf "_law_random" "_law_random" (defArgs s__law_random) (defBody s__law_random) (defScope s__law_random) .none kVD7 dcD7 pmD7 anD7 cdD7 ctD7), slD7⟩)
    (cD7 : PySem.W.codeIn K cdD7 "_law_random" = true)
    (kD7 : PySem.W.keepIn K (.ref aD7) = true)
    (gD8 : PySem.W.nsIn K mainGlobals "_law_whole" = some (some (.ref aD8)))
    (lD8 : K.lookup aD8 = some ⟨ocD8, odD8, .func (PySem.W.fnOf "_law_whole" "_law_whole" (defArgs s__law_whole) (defBody s__law_whole) (defScope s__law_whole) .none kVD8 dcD8 pmD8 anD8 cdD8 ctD8), slD8⟩)
    (cD8 : PySem.W.codeIn K cdD8 "_law_whole" = true)
    (kD8 : PySem.W.keepIn K (.ref aD8) = true)
    (gD9 : PySem.W.nsIn K mainGlobals "_law_signed" = some (some (.ref aD9)))
    (lD9 : K.lookup aD9 = some ⟨ocD9, odD9, .func (PySem.W.fnOf "_law_signed" "_law_signed" (defArgs s__law_signed) (defBody s__law_signed) (defScope s__law_signed) .none kVD9 dcD9 pmD9 anD9 cdD9 ctD9), slD9⟩)
    (cD9 : PySem.W.codeIn K cdD9 "_law_signed" = true)
    (kD9 : PySem.W.keepIn K (.ref aD9) = true)
    (gD10 : PySem.W.nsIn K mainGlobals "_law_floors" = some (some (.ref aD10)))
    (lD10 : K.lookup aD10 = some ⟨ocD10, odD10, .func (PySem.W.fnOf "_law_floors" "_law_floors" (defArgs s__law_floors) (defBody s__law_floors) (defScope s__law_floors) .none kVD10 dcD10 pmD10 anD10 cdD10 ctD10), slD10⟩)
    (cD10 : PySem.W.codeIn K cdD10 "_law_floors" = true)
    (kD10 : PySem.W.keepIn K (.ref aD10) = true)
    (gD11 : PySem.W.nsIn K mainGlobals "_law_caught" = some (some (.ref aD11)))
    (lD11 : K.lookup aD11 = some ⟨ocD11, odD11, .func (PySem.W.fnOf "_law_caught" "_law_caught" (defArgs s__law_caught) (defBody s__law_caught) (defScope s__law_caught) .none kVD11 dcD11 pmD11 anD11 cdD11 ctD11), slD11⟩)
    (cD11 : PySem.W.codeIn K cdD11 "_law_caught" = true)
    (kD11 : PySem.W.keepIn K (.ref aD11) = true)
    (gD12 : PySem.W.nsIn K mainGlobals "_law_refused" = some (some (.ref aD12)))
    (lD12 : K.lookup aD12 = some ⟨ocD12, odD12, .func (PySem.W.fnOf "_law_refused" "_law_refused" (defArgs s__law_refused) (defBody s__law_refused) (defScope s__law_refused) .none kVD12 dcD12 pmD12 anD12 cdD12 ctD12), slD12⟩)
    (cD12 : PySem.W.codeIn K cdD12 "_law_refused" = true)
    (kD12 : PySem.W.keepIn K (.ref aD12) = true)
    (gD13 : PySem.W.nsIn K mainGlobals "_law_right" = some (some (.ref aD13)))
    (lD13 : K.lookup aD13 = some ⟨ocD13, odD13, .func (PySem.W.fnOf "_law_right" "_law_right" (defArgs s__law_right) (defBody s__law_right) (defScope s__law_right) .none kVD13 dcD13 pmD13 anD13 cdD13 ctD13), slD13⟩)
    (cD13 : PySem.W.codeIn K cdD13 "_law_right" = true)
    (kD13 : PySem.W.keepIn K (.ref aD13) = true)
    (gD14 : PySem.W.nsIn K mainGlobals "law" = some (some (.ref aD14)))
    (lD14 : K.lookup aD14 = some ⟨ocD14, odD14, .func (PySem.W.fnOf "law" "law" (defArgs s_law) (defBody s_law) (defScope s_law) .none kVD14 dcD14 pmD14 anD14 cdD14 ctD14), slD14⟩)
    (cD14 : PySem.W.codeIn K cdD14 "law" = true)
    (kD14 : PySem.W.keepIn K (.ref aD14) = true)
    : ∃ fd : FuncData, (∀ (s : Shared) (u : Value), BindsTo s fd ⟨[u], []⟩ [("_law_script", u)]) ∧ ∀ base : Heap, K.In base → base.Ns mainGlobals mg → FnA P w K mg base 264 fa fd ["_law_script"] (spP ⟨K, mg⟩ run_law) := by
  have e := hfa.symm.trans (PySem.W.mg_of X G gD14)
  cases e
  have T0 : PySem.ErrX.ErrTxt P K mg Ad "InvalidNumber" "value" C0 f0 := { fld := PySem.ErrX.fld_value, bnd := PySem.ErrX.bnd_value, gC := PySem.W.mg_of X G eg0, cls := ⟨_, _, _, _, _, _, _, _, _, _, _, _, _, ec0⟩, sa := esa0, ga := ega0, gg := egg0, noN := enn0, iC := ei0, tC := et0, kC := ek0, hdC := eh0, clC := ecl0, sup := es0, opq := opq, gS := PySem.W.mg_none_of X G nsup, topS := tsup, fn := ⟨_, _, _, _, _, _, _, _, _, _, _, _, _, _, _, _, _, _, _, _, _, _, _, _, el0, eo0, ⟨_, _, _, _, ed0⟩, ep0, ⟨_, _, _, ec20⟩, _, _, _, _, _, _, ecd0, ev0, ef0⟩ }
  have E1 : ∀ c v, (c, v) ∈ errL → ∃ C fI, PySem.ErrX.ErrTxt P K mg Ad c v C fI := by
    intro c v hc
    simp only [errL, List.mem_cons, List.not_mem_nil, or_false, Prod.mk.injEq] at hc
    obtain ⟨rfl, rfl⟩ := hc
    exact ⟨_, _, T0⟩
  have E2 : ∀ v, (("AddError" : Str), v) ∉ errL := by
    intro v hv
    simp only [errL, List.mem_cons, List.not_mem_nil, or_false, Prod.mk.injEq] at hv
    exact absurd hv.1 (by decide)
  have E : Errs P K mg Ad errL := ⟨PySem.W.mg_of X G aA, ⟨_, _, _, lA, nmA⟩, exA, E2, E1⟩
  have T : Txt P K mg Ad := ⟨PySem.W.mg_none_of X G n_bool, PySem.W.mg_none_of X G n_int, PySem.W.mg_none_of X G n_isinstance, PySem.W.mg_none_of X G n_len, PySem.W.mg_none_of X G n_max, PySem.W.mg_none_of X G n_min, PySem.W.mg_none_of X G n_range, PySem.W.mg_none_of X G n_repr, PySem.W.mg_none_of X G n_sum, E⟩
  have FD0 := funV_mk (st := s_floors) lD0 cD0 kD0
  have bD0 : Bnds K _ ["count", "times", "plus", "over"] [] := bnds0 (fd := PySem.W.fnOf "floors" "floors" (defArgs s_floors) (defBody s_floors) (defScope s_floors) .none kVD0 dcD0 pmD0 anD0 cdD0 ctD0) fun us hl => match us, hl with | [_, _, _, _], _ => rfl
  have FD1 := funV_mk (st := s_is_whole) lD1 cD1 kD1
  have bD1 : Bnds K _ ["value"] [] := bnds0 (fd := PySem.W.fnOf "is_whole" "is_whole" (defArgs s_is_whole) (defBody s_is_whole) (defScope s_is_whole) .none kVD1 dcD1 pmD1 anD1 cdD1 ctD1) fun us hl => match us, hl with | [_], _ => rfl
  have FD2 := funV_mk (st := s_check_whole) lD2 cD2 kD2
  have bD2_0 : Bnds K (PySem.W.fnOf "check_whole" "check_whole" (defArgs s_check_whole) (defBody s_check_whole) (defScope s_check_whole) (.ref dtD2) kVD2 dcD2 pmD2 anD2 cdD2 ctD2) ["value", "least", "most"] (List.replicate 0 .non) := bndsN 0 3 rfl dD2 rfl fun us hl => match us, hl with | [_, _, _], _ => ⟨_, rfl, rfl⟩
  have bD2_1 : Bnds K (PySem.W.fnOf "check_whole" "check_whole" (defArgs s_check_whole) (defBody s_check_whole) (defScope s_check_whole) (.ref dtD2) kVD2 dcD2 pmD2 anD2 cdD2 ctD2) ["value", "least", "most"] (List.replicate 1 .non) := bndsN 1 2 rfl dD2 rfl fun us hl => match us, hl with | [_, _], _ => ⟨_, rfl, rfl⟩
  have FD3 := funV_mk (st := s_floor_sum) lD3 cD3 kD3
  have bD3 : Bnds K _ ["count", "times", "plus", "over"] [] := bnds0 (fd := PySem.W.fnOf "floor_sum" "floor_sum" (defArgs s_floor_sum) (defBody s_floor_sum) (defScope s_floor_sum) .none kVD3 dcD3 pmD3 anD3 cdD3 ctD3) fun us hl => match us, hl with | [_, _, _, _], _ => rfl
  have FD4 := funV_mk (st := s__law_cell) lD4 cD4 kD4
  have bD4 : Bnds K _ ["_law_script", "_law_index"] [] := bnds0 (fd := PySem.W.fnOf "_law_cell" "_law_cell" (defArgs s__law_cell) (defBody s__law_cell) (defScope s__law_cell) .none kVD4 dcD4 pmD4 anD4 cdD4 ctD4) fun us hl => match us, hl with | [_, _], _ => rfl
  have FD5 := funV_mk (st := s__law_hash) lD5 cD5 kD5
  have bD5 : Bnds K _ ["_law_seed", "_law_index"] [] := bnds0 (fd := PySem.W.fnOf "_law_hash" "_law_hash" (defArgs s__law_hash) (defBody s__law_hash) (defScope s__law_hash) .none kVD5 dcD5 pmD5 anD5 cdD5 ctD5) fun us hl => match us, hl with | [_, _], _ => rfl
  have FD6 := funV_mk (st := s__law_generator) lD6 cD6 kD6
  have bD6 : Bnds K _ ["_law_script", "_law_index"] [] := bnds0 (fd := PySem.W.fnOf "_law_generator" "_law_generator" (defArgs s__law_generator) (defBody s__law_generator) (defScope s__law_generator) .none kVD6 dcD6 pmD6 anD6 cdD6 ctD6) fun us hl => match us, hl with | [_, _], _ => rfl
  have FD7 := funV_mk (st := s__law_random) lD7 cD7 kD7
  have bD7 : Bnds K _ ["_law_generator_here", "_law_bound"] [] := bnds0 (fd := PySem.W.fnOf "_law_random" "_law_random" (defArgs s__law_random) (defBody s__law_random) (defScope s__law_random) .none kVD7 dcD7 pmD7 anD7 cdD7 ctD7) fun us hl => match us, hl with | [_, _], _ => rfl
  have FD8 := funV_mk (st := s__law_whole) lD8 cD8 kD8
  have bD8 : Bnds K _ ["_law_thing"] [] := bnds0 (fd := PySem.W.fnOf "_law_whole" "_law_whole" (defArgs s__law_whole) (defBody s__law_whole) (defScope s__law_whole) .none kVD8 dcD8 pmD8 anD8 cdD8 ctD8) fun us hl => match us, hl with | [_], _ => rfl
  have FD9 := funV_mk (st := s__law_signed) lD9 cD9 kD9
  have bD9 : Bnds K _ ["_law_generator_here", "_law_most"] [] := bnds0 (fd := PySem.W.fnOf "_law_signed" "_law_signed" (defArgs s__law_signed) (defBody s__law_signed) (defScope s__law_signed) .none kVD9 dcD9 pmD9 anD9 cdD9 ctD9) fun us hl => match us, hl with | [_, _], _ => rfl
  have FD10 := funV_mk (st := s__law_floors) lD10 cD10 kD10
  have bD10 : Bnds K _ ["_law_many", "_law_rise", "_law_start", "_law_base"] [] := bnds0 (fd := PySem.W.fnOf "_law_floors" "_law_floors" (defArgs s__law_floors) (defBody s__law_floors) (defScope s__law_floors) .none kVD10 dcD10 pmD10 anD10 cdD10 ctD10) fun us hl => match us, hl with | [_, _, _, _], _ => rfl
  have FD11 := funV_mk (st := s__law_caught) lD11 cD11 kD11
  have bD11 : Bnds K _ ["_law_items"] [] := bnds0 (fd := PySem.W.fnOf "_law_caught" "_law_caught" (defArgs s__law_caught) (defBody s__law_caught) (defScope s__law_caught) .none kVD11 dcD11 pmD11 anD11 cdD11 ctD11) fun us hl => match us, hl with | [_], _ => rfl
  have FD12 := funV_mk (st := s__law_refused) lD12 cD12 kD12
  have bD12 : Bnds K _ [] [] := bnds0 (fd := PySem.W.fnOf "_law_refused" "_law_refused" (defArgs s__law_refused) (defBody s__law_refused) (defScope s__law_refused) .none kVD12 dcD12 pmD12 anD12 cdD12 ctD12) fun us hl => match us, hl with | [], _ => rfl
  have FD13 := funV_mk (st := s__law_right) lD13 cD13 kD13
  have bD13 : Bnds K _ ["_law_generator_here", "_law_sizes"] [] := bnds0 (fd := PySem.W.fnOf "_law_right" "_law_right" (defArgs s__law_right) (defBody s__law_right) (defScope s__law_right) .none kVD13 dcD13 pmD13 anD13 cdD13 ctD13) fun us hl => match us, hl with | [_, _], _ => rfl
  have FD14 := funV_mk (st := s_law) lD14 cD14 kD14
  have bD14 : Bnds K _ ["_law_script"] [] := bnds0 (fd := PySem.W.fnOf "law" "law" (defArgs s_law) (defBody s_law) (defScope s_law) .none kVD14 dcD14 pmD14 anD14 cdD14 ctD14) fun us hl => match us, hl with | [_], _ => rfl
  refine ⟨PySem.W.fnOf "law" "law" (defArgs s_law) (defBody s_law) (defScope s_law) .none kVD14 dcD14 pmD14 anD14 cdD14 ctD14, ?bind, ?body⟩
  case body =>
    intro base _ _
    have c_floors : Cal P w K mg base 1 "floors" [] run_floors := cal_mk FD0 sc_floors (PySem.W.mg_of X G gD0) bD0 (bd_floors T )
    have c_is_whole : Cal P w K mg base 1 "is_whole" [] run_is_whole := cal_mk FD1 sc_is_whole (PySem.W.mg_of X G gD1) bD1 (bd_is_whole T )
    have c_check_whole : Cal P w K mg base 2 "check_whole" [] run_check_whole := cal_mk FD2 sc_check_whole (PySem.W.mg_of X G gD2) bD2_0 (bd_check_whole T c_is_whole)
    have c_check_whole_1 : Cal P w K mg base 2 "check_whole" [.non] run_check_whole := cal_mk FD2 sc_check_whole (PySem.W.mg_of X G gD2) bD2_1 (bd_check_whole T c_is_whole)
    have c_floor_sum : Cal P w K mg base 3 "floor_sum" [] run_floor_sum := cal_mk FD3 sc_floor_sum (PySem.W.mg_of X G gD3) bD3 (bd_floor_sum T c_check_whole_1 c_floors c_is_whole)
    have c__law_cell : Cal P w K mg base 1 "_law_cell" [] run__law_cell := cal_mk FD4 sc__law_cell (PySem.W.mg_of X G gD4) bD4 (bd__law_cell T )
    have c__law_hash : Cal P w K mg base 1 "_law_hash" [] run__law_hash := cal_mk FD5 sc__law_hash (PySem.W.mg_of X G gD5) bD5 (bd__law_hash T )
    have c__law_generator : Cal P w K mg base 2 "_law_generator" [] run__law_generator := cal_mk FD6 sc__law_generator (PySem.W.mg_of X G gD6) bD6 (bd__law_generator T c__law_cell)
    have c__law_random : CalB P w K mg base 2 "_law_random" run__law_random := calB_mk FD7 sc__law_random (by decide) (PySem.W.mg_of X G gD7) (Binds.all fun us hl => match us, hl with | [_, _], _ => rfl) (bd__law_random T c__law_hash)
    have c__law_whole : Cal P w K mg base 1 "_law_whole" [] run__law_whole := cal_mk FD8 sc__law_whole (PySem.W.mg_of X G gD8) bD8 (bd__law_whole T )
    have c__law_signed : CalB P w K mg base 3 "_law_signed" run__law_signed := calB_mk FD9 sc__law_signed (by decide) (PySem.W.mg_of X G gD9) (Binds.all fun us hl => match us, hl with | [_, _], _ => rfl) (bd__law_signed T c__law_random)
    have cr__law_floors : ∀ n : Nat, Cal P w K mg base (0 + n) "_law_floors" [] (runN__law_floors n) := fun n => by
      induction n with
      | zero => exact cal_no (PySem.W.mg_of X G gD10) kD10 bD10
      | succ n ih => exact cal_mk FD10 sc__law_floors (PySem.W.mg_of X G gD10) bD10 (bd__law_floors T ih (by omega))
    have c__law_floors : Cal P w K mg base 262 "_law_floors" [] run__law_floors := cr__law_floors 262
    have c__law_caught : Cal P w K mg base 4 "_law_caught" [] run__law_caught := cal_mk FD11 sc__law_caught (PySem.W.mg_of X G gD11) bD11 (bd__law_caught T c_floor_sum)
    have c__law_refused : Cal P w K mg base 5 "_law_refused" [] run__law_refused := cal_mk FD12 sc__law_refused (PySem.W.mg_of X G gD12) bD12 (bd__law_refused T c__law_caught)
    have c__law_right : CalB P w K mg base 263 "_law_right" run__law_right := calB_mk FD13 sc__law_right (by decide) (PySem.W.mg_of X G gD13) (Binds.all fun us hl => match us, hl with | [_, _], _ => rfl) (bd__law_right T c__law_floors c__law_random c__law_signed c__law_whole c_floor_sum)
    exact fnVP FD14 sc_law (bd_law T c__law_generator c__law_refused c__law_right)
  case bind => exact fun s u => BindsTo.of_eq rfl
theorem law_sp (K : PySem.W.Frag) (mg : Str → Option Value) (H : Hp) (a : Addr) (ns : List Int) (hS : SqL K H a (ns.map V.int)) : spP ⟨K, mg⟩ run_law [.ref a] H (fun v _ => v = .bl true) fun _ _ _ => False := by
  refine ⟨H, [.scr ns], Same.refl H, ⟨_, _, rfl, ⟨a, rfl, hS⟩, rfl⟩, ?_⟩
  rw [law_ok ns]
  exact fun x F' H' _ br => by
    unfold BRel at br
    rw [if_neg Bool.false_ne_true] at br
    exact br
end K60
open PySem PySem.W PyProof.Rows
set_option maxRecDepth 100000 in
set_option maxHeartbeats 0 in
theorem PySem.Challenge.cw_addnests_k60_floor_sums_holds : PySem.Challenge.rw_addnests_k60_floor_sums.Holds := by
  w_on; o_law; k_head; (case hw => w_witness2)
  k_fill
  refine Tr.walkA (l := PySem.Challenge.rw_addnests_k60_floor_sums) (k := 264) (x := "_law_script") (sp := fun K mg => Tr.spP ⟨K, mg⟩ K60.run_law) rfl (by decide +kernel) rfl ⟨rfl, by decide +kernel, by decide +kernel⟩ (fun w h Y => PySem.W.kIn_of Y) ?F (fun K mg H a ns _ hS => K60.law_sp K mg H a ns hS)
  case F =>
    intro w mg fa h KX G hmg
    refine' K60.all_mk KX G hmg ?n_bool ?n_int ?n_isinstance ?n_len ?n_max ?n_min ?n_range ?n_repr ?n_sum ?aA ?lA ?nmA ?exA ?opq ?nsup ?tsup ?eg0 ?ec0 ?esa0 ?ega0 ?egg0 ?enn0 ?ecl0 ?ei0 ?et0 ?ek0 ?eh0 ?es0 ?el0 ?eo0 ?ed0 ?ep0 ?ec20 ?ecd0 ?ev0 ?ef0 ?gD0 ?lD0 ?cD0 ?kD0 ?gD1 ?lD1 ?cD1 ?kD1 ?gD2 ?lD2 ?dD2 ?cD2 ?kD2 ?gD3 ?lD3 ?cD3 ?kD3 ?gD4 ?lD4 ?cD4 ?kD4 ?gD5 ?lD5 ?cD5 ?kD5 ?gD6 ?lD6 ?cD6 ?kD6 ?gD7 ?lD7 ?cD7 ?kD7 ?gD8 ?lD8 ?cD8 ?kD8 ?gD9 ?lD9 ?cD9 ?kD9 ?gD10 ?lD10 ?cD10 ?kD10 ?gD11 ?lD11 ?cD11 ?kD11 ?gD12 ?lD12 ?cD12 ?kD12 ?gD13 ?lD13 ?cD13 ?kD13 ?gD14 ?lD14 ?cD14 ?kD14
    (case n_bool => first | k_is | rfl | decide +kernel)
    (case n_int => first | k_is | rfl | decide +kernel)
    (case n_isinstance => first | k_is | rfl | decide +kernel)
    (case n_len => first | k_is | rfl | decide +kernel)
    (case n_max => first | k_is | rfl | decide +kernel)
    (case n_min => first | k_is | rfl | decide +kernel)
    (case n_range => first | k_is | rfl | decide +kernel)
    (case n_repr => first | k_is | rfl | decide +kernel)
    (case n_sum => first | k_is | rfl | decide +kernel)
    (case aA => first | k_is | rfl | decide +kernel)
    (case lA => first | k_is | rfl | decide +kernel)
    (case nmA => first | k_is | rfl | decide +kernel)
    (case exA => first | k_is | rfl | decide +kernel)
    (case opq => first | k_is | rfl | decide +kernel)
    (case nsup => first | k_is | rfl | decide +kernel)
    (case tsup => first | k_is | rfl | decide +kernel)
    (case eg0 => first | k_is | rfl | decide +kernel)
    (case ec0 => first | k_is | rfl | decide +kernel)
    (case esa0 => first | k_is | rfl | decide +kernel)
    (case ega0 => first | k_is | rfl | decide +kernel)
    (case egg0 => first | k_is | rfl | decide +kernel)
    (case enn0 => first | k_is | rfl | decide +kernel)
    (case ecl0 => first | k_is | rfl | decide +kernel)
    (case ei0 => first | k_is | rfl | decide +kernel)
    (case et0 => first | k_is | rfl | decide +kernel)
    (case ek0 => first | k_is | rfl | decide +kernel)
    (case eh0 => first | k_is | rfl | decide +kernel)
    (case es0 => first | k_is | rfl | decide +kernel)
    (case el0 => first | k_is | rfl | decide +kernel)
    (case eo0 => first | k_is | rfl | decide +kernel)
    (case ed0 => first | k_is | rfl | decide +kernel)
    (case ep0 => first | k_is | rfl | decide +kernel)
    (case ec20 => first | k_is | rfl | decide +kernel)
    (case ecd0 => first | k_is | rfl | decide +kernel)
    (case ev0 => first | k_is | rfl | decide +kernel)
    (case ef0 => first | k_is | rfl | decide +kernel)
    (case gD0 => first | k_is | rfl | decide +kernel)
    (case lD0 => first | k_is | rfl | decide +kernel)
    (case cD0 => first | k_is | rfl | decide +kernel)
    (case kD0 => first | k_is | rfl | decide +kernel)
    (case gD1 => first | k_is | rfl | decide +kernel)
    (case lD1 => first | k_is | rfl | decide +kernel)
    (case cD1 => first | k_is | rfl | decide +kernel)
    (case kD1 => first | k_is | rfl | decide +kernel)
    (case gD2 => first | k_is | rfl | decide +kernel)
    (case lD2 => first | k_is | rfl | decide +kernel)
    (case dD2 => first | k_is | rfl | decide +kernel)
    (case cD2 => first | k_is | rfl | decide +kernel)
    (case kD2 => first | k_is | rfl | decide +kernel)
    (case gD3 => first | k_is | rfl | decide +kernel)
    (case lD3 => first | k_is | rfl | decide +kernel)
    (case cD3 => first | k_is | rfl | decide +kernel)
    (case kD3 => first | k_is | rfl | decide +kernel)
    (case gD4 => first | k_is | rfl | decide +kernel)
    (case lD4 => first | k_is | rfl | decide +kernel)
    (case cD4 => first | k_is | rfl | decide +kernel)
    (case kD4 => first | k_is | rfl | decide +kernel)
    (case gD5 => first | k_is | rfl | decide +kernel)
    (case lD5 => first | k_is | rfl | decide +kernel)
    (case cD5 => first | k_is | rfl | decide +kernel)
    (case kD5 => first | k_is | rfl | decide +kernel)
    (case gD6 => first | k_is | rfl | decide +kernel)
    (case lD6 => first | k_is | rfl | decide +kernel)
    (case cD6 => first | k_is | rfl | decide +kernel)
    (case kD6 => first | k_is | rfl | decide +kernel)
    (case gD7 => first | k_is | rfl | decide +kernel)
    (case lD7 => first | k_is | rfl | decide +kernel)
    (case cD7 => first | k_is | rfl | decide +kernel)
    (case kD7 => first | k_is | rfl | decide +kernel)
    (case gD8 => first | k_is | rfl | decide +kernel)
    (case lD8 => first | k_is | rfl | decide +kernel)
    (case cD8 => first | k_is | rfl | decide +kernel)
    (case kD8 => first | k_is | rfl | decide +kernel)
    (case gD9 => first | k_is | rfl | decide +kernel)
    (case lD9 => first | k_is | rfl | decide +kernel)
    (case cD9 => first | k_is | rfl | decide +kernel)
    (case kD9 => first | k_is | rfl | decide +kernel)
    (case gD10 => first | k_is | rfl | decide +kernel)
    (case lD10 => first | k_is | rfl | decide +kernel)
    (case cD10 => first | k_is | rfl | decide +kernel)
    (case kD10 => first | k_is | rfl | decide +kernel)
    (case gD11 => first | k_is | rfl | decide +kernel)
    (case lD11 => first | k_is | rfl | decide +kernel)
    (case cD11 => first | k_is | rfl | decide +kernel)
    (case kD11 => first | k_is | rfl | decide +kernel)
    (case gD12 => first | k_is | rfl | decide +kernel)
    (case lD12 => first | k_is | rfl | decide +kernel)
    (case cD12 => first | k_is | rfl | decide +kernel)
    (case kD12 => first | k_is | rfl | decide +kernel)
    (case gD13 => first | k_is | rfl | decide +kernel)
    (case lD13 => first | k_is | rfl | decide +kernel)
    (case cD13 => first | k_is | rfl | decide +kernel)
    (case kD13 => first | k_is | rfl | decide +kernel)
    (case gD14 => first | k_is | rfl | decide +kernel)
    (case lD14 => first | k_is | rfl | decide +kernel)
    (case cD14 => first | k_is | rfl | decide +kernel)
    (case kD14 => first | k_is | rfl | decide +kernel)
