import PyProof.Rows.All
import Wide.All
import OpenK.AllK
import Wide.FinOn
import HandS.ForMost
import HandS.ForExc
import HandS.Wide
import HandS.WideBits
import HandS.TupAny
import HandS.TupMul
import HandS.IsInst
import HandS.RaiseMore
import KE.KExcIs
import KE.KExcSuper
import KE.KTryMore
import KE.KIsAll
import HandS.ExcSuper
import HandS.Style
import HandS.SetFor
import HandS.SortInts
import HandS.Conv
import PySem.Challenge.RW_addnests_k02_cells_and_nests_told
set_option Elab.async false
set_option linter.all false
set_option maxRecDepth 100000
set_option maxHeartbeats 8100000
set_option autoImplicit false
/-! Tr, part A: trees, what they denote, environments, the reading of a function on trees. -/
namespace Tr
open PySem PySem.Spec PyProof.Rows L2
abbrev Sg := L2.St

/-- a tree of data -/
inductive D where
  | non | bl (b : Bool) | int (i : Int) | str (x : Str)
  | lst (xs : List D) | tup (xs : List D)
  | dK (ks : List Key) (vs : List D) | dT (ks : List (List Key)) (vs : List D)
  | ins (c : Str) (ns : List Str) (vs : List D)
  | exn (c n : Str) (d : D)
  | ty (n : String) | glo (x : Str)
  /-- the script: a list that is only read -/
  | scr (ns : List Int)
  /-- a live object, by its number -/
  | ref (n : Nat)

/-- what the written part and the module's names tell -/
structure Tx where
  K : PySem.W.Frag
  mg : Str → Option Value

/-- what stays, and where the live objects are -/
structure Fz where
  hp : Hp
  as : List Addr
instance : CoeFun Fz (fun _ => Addr → Option HO) := ⟨Fz.hp⟩
instance : Coe Fz Hp := ⟨Fz.hp⟩
def Fz.upd (F : Fz) (p : Addr) (o : HO) : Fz := ⟨L2.upd F.hp p o, F.as⟩
structure Ext (F F' : Fz) : Prop where
  hp : Same F.hp F'.hp
  as : ∀ (n : Nat) (a : Addr), F.as[n]? = some a → F'.as[n]? = some a
theorem Ext.refl (F : Fz) : Ext F F := ⟨Same.refl F.hp, fun _ _ h => h⟩
theorem Ext.trans {F F' F'' : Fz} (a : Ext F F') (b : Ext F' F'') : Ext F F'' := ⟨a.hp.trans b.hp, fun n x h => b.as n x (a.as n x h)⟩
/-- a caught exception that is held as a value -/
def exv (C dx a : Addr) : HO := .ext fun h => ∃ (oe : Obj) (vs : Array Value), h.get? a = some oe ∧ oe.cls = .ref C ∧ oe.dict = some dx ∧ oe.data = .fields vs

mutual
/-- the value x is the tree d, over the heap F of what stays -/
def Den (T : Tx) (F : Fz) : D → V → Prop
  | .non, x => x = .non
  | .bl b, x => x = .bl b
  | .int i, x => x = .int i
  | .str s, x => x = .str s
  | .lst ds, x => ∃ a xs, x = .ref a ∧ F a = some (.lst xs) ∧ DenL T F ds xs
  | .tup ds, x => ∃ a xs, x = .ref a ∧ SqT T.K F a xs ∧ DenL T F ds xs
  | .dK ks ds, x => ∃ a xs, x = .ref a ∧ F a = some (.dK (ks.zip xs)) ∧ ks.length = xs.length ∧ DenL T F ds xs
  | .dT ks ds, x => ∃ a xs, x = .ref a ∧ F a = some (.dT (ks.zip xs)) ∧ ks.length = xs.length ∧ DenL T F ds xs
  | .ins c ns ds, x => ∃ a C dx xs, x = .ref a ∧ T.mg c = some (.ref C) ∧ F a = some (.ins C dx (ns.zip xs)) ∧ F dx = some (.own a) ∧ ns.length = xs.length ∧ DenL T F ds xs
  | .exn c n d, x => ∃ a C dx y, x = .ref a ∧ T.mg c = some (.ref C) ∧ F a = some (exv C dx a) ∧ F dx = some (.xd [(n, y)]) ∧ Den T F d y
  | .ty n, x => x = .ty n
  | .glo g, x => ∃ a, T.mg g = some (.ref a) ∧ x = .ref a
  | .scr ns, x => ∃ a, x = .ref a ∧ SqL T.K F a (ns.map V.int)
  | .ref n, x => ∃ a, x = .ref a ∧ F.as[n]? = some a
def DenL (T : Tx) (F : Fz) : List D → List V → Prop
  | [], xs => xs = []
  | d :: ds, xs => ∃ x r, xs = x :: r ∧ Den T F d x ∧ DenL T F ds r
end

theorem Same.sqL {K : PySem.W.Frag} {H H' : Hp} {a : Addr} {xs : List V} (e : Same H H') (h : SqL K H a xs) : SqL K H' a xs := Same.seq e h
theorem Same.sqT {K : PySem.W.Frag} {H H' : Hp} {a : Addr} {xs : List V} (e : Same H H') (h : SqT K H a xs) : SqT K H' a xs := by
  rcases h with (h | ⟨o, h⟩) | h
  · exact .inl (.inl (e _ _ h))
  · exact .inl (.inr ⟨o, e _ _ h⟩)
  · exact .inr h

mutual
theorem Den.mono {T : Tx} {F F' : Fz} (e : Ext F F') : ∀ (d : D) {x : V}, Den T F d x → Den T F' d x
  | .non, _, h => h
  | .bl _, _, h => h
  | .int _, _, h => h
  | .str _, _, h => h
  | .lst ds, _, ⟨a, xs, h1, h2, h3⟩ => ⟨a, xs, h1, e.hp _ _ h2, DenL.mono e ds h3⟩
  | .tup ds, _, ⟨a, xs, h1, h2, h3⟩ => ⟨a, xs, h1, Same.sqT e.hp h2, DenL.mono e ds h3⟩
  | .dK ks ds, _, ⟨a, xs, h1, h2, h3, h4⟩ => ⟨a, xs, h1, e.hp _ _ h2, h3, DenL.mono e ds h4⟩
  | .dT ks ds, _, ⟨a, xs, h1, h2, h3, h4⟩ => ⟨a, xs, h1, e.hp _ _ h2, h3, DenL.mono e ds h4⟩
  | .ins c ns ds, _, ⟨a, C, dx, xs, h1, h2, h3, h4, h5, h6⟩ => ⟨a, C, dx, xs, h1, h2, e.hp _ _ h3, e.hp _ _ h4, h5, DenL.mono e ds h6⟩
  | .exn c n d, _, ⟨a, C, dx, y, h1, h2, h3, h4, h5⟩ => ⟨a, C, dx, y, h1, h2, e.hp _ _ h3, e.hp _ _ h4, Den.mono e d h5⟩
  | .ty _, _, h => h
  | .glo _, _, h => h
  | .scr _, _, ⟨a, h1, h2⟩ => ⟨a, h1, Same.sqL e.hp h2⟩
  | .ref _, _, ⟨a, h1, h2⟩ => ⟨a, h1, e.as _ _ h2⟩
theorem DenL.mono {T : Tx} {F F' : Fz} (e : Ext F F') : ∀ (ds : List D) {xs : List V}, DenL T F ds xs → DenL T F' ds xs
  | [], _, h => h
  | d :: ds, _, ⟨x, r, h1, h2, h3⟩ => ⟨x, r, h1, Den.mono e d h2, DenL.mono e ds h3⟩
end

theorem DenL.nil {T : Tx} {F : Fz} : DenL T F [] [] := rfl
theorem DenL.cons {T : Tx} {F : Fz} {d : D} {ds : List D} {x : V} {xs : List V} (h : Den T F d x) (r : DenL T F ds xs) : DenL T F (d :: ds) (x :: xs) := ⟨x, xs, rfl, h, r⟩
theorem DenL.length {T : Tx} {F : Fz} : ∀ {ds : List D} {xs : List V}, DenL T F ds xs → ds.length = xs.length
  | [], _, h => by have h : _ = [] := h; rw [h]; rfl
  | d :: ds, _, ⟨x, r, h1, _, h3⟩ => by rw [h1, List.length_cons, List.length_cons, DenL.length h3]
theorem DenL.get {T : Tx} {F : Fz} : ∀ {ds : List D} {xs : List V} {i : Nat} {d : D}, DenL T F ds xs → ds[i]? = some d → ∃ x, xs[i]? = some x ∧ Den T F d x
  | [], _, _, _, _, e => by simp at e
  | d :: ds, _, 0, _, ⟨x, r, h1, h2, h3⟩, e => by
    subst h1
    have e : d = _ := Option.some.inj e
    subst e
    exact ⟨x, rfl, h2⟩
  | d :: ds, _, i + 1, _, ⟨x, r, h1, h2, h3⟩, e => by
    subst h1
    exact DenL.get (i := i) h3 e
theorem DenL.append {T : Tx} {F : Fz} : ∀ {ds es : List D} {xs ys : List V}, DenL T F ds xs → DenL T F es ys → DenL T F (ds ++ es) (xs ++ ys)
  | [], _, _, _, h, h' => by have h : _ = [] := h; rw [h]; exact h'
  | d :: ds, _, _, _, ⟨x, r, h1, h2, h3⟩, h' => by subst h1; exact ⟨x, r ++ _, rfl, h2, DenL.append h3 h'⟩
theorem DenL.snoc {T : Tx} {F : Fz} {ds : List D} {xs : List V} {d : D} {x : V} (h : DenL T F ds xs) (h' : Den T F d x) : DenL T F (ds ++ [d]) (xs ++ [x]) := h.append (.cons h' .nil)
theorem DenL.set {T : Tx} {F : Fz} {d : D} {x : V} (hd : Den T F d x) : ∀ {ds : List D} {xs : List V} (i : Nat), DenL T F ds xs → DenL T F (ds.set i d) (xs.set i x)
  | [], _, _, h => by have h : _ = [] := h; rw [h]; rfl
  | e :: ds, _, 0, ⟨y, r, h1, h2, h3⟩ => by subst h1; exact ⟨x, r, rfl, hd, h3⟩
  | e :: ds, _, i + 1, ⟨y, r, h1, h2, h3⟩ => by subst h1; exact ⟨y, r.set i x, rfl, h2, DenL.set hd i h3⟩
theorem DenL.take {T : Tx} {F : Fz} : ∀ {ds : List D} {xs : List V} (n : Nat), DenL T F ds xs → DenL T F (ds.take n) (xs.take n)
  | [], _, n, h => by have h : _ = [] := h; rw [h]; cases n <;> rfl
  | d :: ds, _, 0, _ => rfl
  | d :: ds, _, n + 1, ⟨x, r, h1, h2, h3⟩ => by subst h1; exact ⟨x, r.take n, rfl, h2, DenL.take n h3⟩
theorem DenL.drop {T : Tx} {F : Fz} : ∀ {ds : List D} {xs : List V} (n : Nat), DenL T F ds xs → DenL T F (ds.drop n) (xs.drop n)
  | [], _, n, h => by have h : _ = [] := h; rw [h]; cases n <;> rfl
  | d :: ds, _, 0, h => h
  | d :: ds, _, n + 1, ⟨x, r, h1, h2, h3⟩ => by subst h1; exact DenL.drop n h3

/-! ### environments of trees -/
/-- a slot: nothing; a tree that stays; a tree whose root object is this slot's own -/
inductive Slot where
  | un | sh (d : D) | ow (d : D)
/-- the slots of a frame, and the live objects of all frames -/
structure En where
  s : List Slot
  l : List D
def En.set (ρ : En) (i : Nat) (x : Slot) : En := ⟨ρ.s.set i x, ρ.l⟩
/-- an object that may still be changed holds the tree d; what it holds stays -/
def OwnAt (T : Tx) (F : Fz) (H : Hp) (d : D) (a : Addr) : Prop :=
  match d with
  | .lst ds => ∃ xs, H a = some (.lst xs) ∧ DenL T F ds xs
  | .dK ks ds => ∃ xs, H a = some (.dK (ks.zip xs)) ∧ ks.length = xs.length ∧ DenL T F ds xs
  | .dT ks ds => ∃ xs, H a = some (.dT (ks.zip xs)) ∧ ks.length = xs.length ∧ DenL T F ds xs
  | .ins c ns ds => ∃ C dx xs, T.mg c = some (.ref C) ∧ H a = some (.ins C dx (ns.zip xs)) ∧ H dx = some (.own a) ∧ ns.length = xs.length ∧ DenL T F ds xs
  | _ => False
/-- slot i may change its object, which holds d -/
abbrev MuAt (ρ : En) (i : Nat) (d : D) : Prop := ρ.s[i]? = some (.ow d)
/-- a is the object of such a slot, or live -/
def Owned (F : Fz) (ρ : En) (σ : Sg) (a : Addr) : Prop := (∃ (i : Nat) (d : D), MuAt ρ i d ∧ σ[i]? = some (some (.ref a))) ∨ a ∈ F.as
/-- the live objects hold L -/
structure Live (T : Tx) (F : Fz) (H : Hp) (L : List D) : Prop where
  len : F.as.length = L.length
  ok : ∀ (n : Nat) (d : D) (a : Addr), L[n]? = some d → F.as[n]? = some a → F a = none ∧ OwnAt T F H d a
  dis : F.as.Nodup
theorem Live.get {T : Tx} {F : Fz} {H : Hp} {L : List D} {n : Nat} {d : D} (v : Live T F H L) (h : L[n]? = some d) : ∃ a, F.as[n]? = some a ∧ F a = none ∧ OwnAt T F H d a := by
  have hn : n < L.length := (List.getElem?_eq_some_iff.mp h).1
  have hn' : n < F.as.length := by rw [v.len]; exact hn
  have e : F.as[n]? = some F.as[n] := List.getElem?_eq_getElem hn'
  exact ⟨_, e, v.ok n d _ h e⟩
theorem Live.mem {T : Tx} {F : Fz} {H : Hp} {L : List D} {a : Addr} (v : Live T F H L) (h : a ∈ F.as) : ∃ (n : Nat) (d : D), L[n]? = some d ∧ F.as[n]? = some a ∧ F a = none ∧ OwnAt T F H d a := by
  obtain ⟨n, hn, e⟩ := List.getElem_of_mem h
  have e1 : F.as[n]? = some a := by rw [List.getElem?_eq_getElem hn, e]
  have hn' : n < L.length := by rw [← v.len]; exact hn
  have e2 : L[n]? = some L[n] := List.getElem?_eq_getElem hn'
  exact ⟨n, _, e2, e1, v.ok n _ a e2 e1⟩
theorem Live.num {T : Tx} {F : Fz} {H : Hp} {L : List D} {m n : Nat} {a : Addr} (v : Live T F H L) (h : F.as[m]? = some a) (h' : F.as[n]? = some a) : m = n := by
  obtain ⟨h1, e1⟩ := List.getElem?_eq_some_iff.mp h
  obtain ⟨h2, e2⟩ := List.getElem?_eq_some_iff.mp h'
  exact (List.getElem_inj v.dis).mp (e1.trans e2.symm)
structure Rel (T : Tx) (F : Fz) (H : Hp) (ρ : En) (σ : Sg) : Prop where
  len : ρ.s.length = σ.length
  sub : Same F.hp H
  sh : ∀ (i : Nat) (d : D), ρ.s[i]? = some (.sh d) → ∃ x, σ[i]? = some (some x) ∧ Den T F d x
  ow : ∀ (i : Nat) (d : D), MuAt ρ i d → ∃ a, σ[i]? = some (some (.ref a)) ∧ F a = none ∧ OwnAt T F H d a
  dis : ∀ (i j : Nat) (d e : D) (a : Addr), MuAt ρ i d → MuAt ρ j e → σ[i]? = some (some (.ref a)) → σ[j]? = some (some (.ref a)) → i = j
  lv : Live T F H ρ.l
  lo : ∀ (i : Nat) (d : D) (a : Addr), MuAt ρ i d → σ[i]? = some (some (.ref a)) → a ∉ F.as
/-- from one state to another -/
structure Stp (T : Tx) (F : Fz) (H : Hp) (ρ : En) (σ : Sg) (F' : Fz) (H' : Hp) (ρ' : En) (σ' : Sg) : Prop where
  rel : Rel T F' H' ρ' σ'
  same : Ext F F'
  keep : ∀ b o, H b = some o → ¬ Owned F ρ σ b → H' b = some o
  own : ∀ b, Owned F' ρ' σ' b → Owned F ρ σ b ∨ H b = none
  dom : ∀ b o, H b = some o → ∃ o', H' b = some o'
  fz : ∀ b o, H b = some o → ¬ Owned F ρ σ b → (∀ c, o ≠ .own c) → F' b = F b
theorem Stp.refl {T : Tx} {F : Fz} {H : Hp} {ρ : En} {σ : Sg} (r : Rel T F H ρ σ) : Stp T F H ρ σ F H ρ σ := ⟨r, Ext.refl F, fun _ _ h _ => h, fun _ h => .inl h, fun _ o h => ⟨o, h⟩, fun _ _ _ _ _ => rfl⟩
theorem Stp.trans {T : Tx} {F F1 F2 : Fz} {H H1 H2 : Hp} {ρ ρ1 ρ2 : En} {σ σ1 σ2 : Sg} (a : Stp T F H ρ σ F1 H1 ρ1 σ1) (b : Stp T F1 H1 ρ1 σ1 F2 H2 ρ2 σ2) : Stp T F H ρ σ F2 H2 ρ2 σ2 where
  rel := b.rel
  same := a.same.trans b.same
  keep := fun c o h n => b.keep c o (a.keep c o h n) fun z => by
    rcases a.own c z with q | q
    · exact n q
    · rw [h] at q; cases q
  own := fun c z => by
    rcases b.own c z with q | q
    · exact a.own c q
    · by_cases w : Owned F ρ σ c
      · exact .inl w
      · refine .inr ?_
        cases e : H c with
        | none => rfl
        | some o => rw [a.keep c o e w] at q; cases q
  dom := fun c o h => by
    obtain ⟨o1, h1⟩ := a.dom c o h
    exact b.dom c o1 h1
  fz := fun c o h n q => by
    have n1 : ¬ Owned F1 ρ1 σ1 c := fun z => by
      rcases a.own c z with w | w
      · exact n w
      · rw [h] at w; cases w
    exact (b.fz c o (a.keep c o h n) n1 q).trans (a.fz c o h n q)
theorem Stp.free {T : Tx} {F F1 : Fz} {H H1 : Hp} {ρ ρ1 : En} {σ σ1 : Sg} (a : Stp T F H ρ σ F1 H1 ρ1 σ1) {b : Addr} (h : H1 b = none) : H b = none := by
  cases e : H b with
  | none => rfl
  | some o =>
    obtain ⟨o', h'⟩ := a.dom b o e
    rw [h] at h'; cases h'

/-- values of an expression: a tree that stays, a new object that nobody else has, the object of a slot -/
inductive Val where
  | sh (d : D) | fr (d : D) | rf (i : Nat)
/-- what an expression comes to -/
inductive R (α : Type) where
  | ok (a : α) | ex (c n : Str) (d : D) (ρ : En) | no
def R.bind {α β : Type} (r : R α) (f : α → R β) : R β := match r with
  | .ok a => f a
  | .ex c n d ρ => .ex c n d ρ
  | .no => .no
abbrev FE := En → R (Val × En)
/-- a value's meaning; H: the heap ahead of the expression -/
def VRel (T : Tx) (H : Hp) (F' : Fz) (H' : Hp) (ρ' : En) (σ : Sg) : Val → V → Prop
  | .sh d, x => Den T F' d x
  | .fr d, x => ∃ a, x = .ref a ∧ F' a = none ∧ H a = none ∧ ¬ Owned F' ρ' σ a ∧ OwnAt T F' H' d a
  | .rf i, x => σ[i]? = some (some x) ∧ ∃ d, MuAt ρ' i d
/-- an exception's meaning -/
def ERel (T : Tx) (F' : Fz) (c n : Str) (d : D) (cls : Value) (dx : Option Addr) : Prop :=
  ∃ C e x, T.mg c = some (.ref C) ∧ cls = .ref C ∧ dx = some e ∧ F' e = some (.xd [(n, x)]) ∧ Den T F' d x
/-- the reading of a function on environments: for an expression -/
def tOf (T : Tx) (W : WX) (f : FE) : TE := fun σ H Q => ∃ ρ F, Rel T F H ρ σ ∧ match f ρ with
  | .ok r => ∀ x F' H', Stp T F H ρ σ F' H' r.2 σ → VRel T H F' H' r.2 σ r.1 x → Q x H'
  | .ex c n d ρ' => ∀ F' H' cls dx, Stp T F H ρ σ F' H' ρ' σ → ERel T F' c n d cls dx → W cls dx σ H'
  | .no => False
/-- .. for a test -/
abbrev FT := En → R (Bool × En)
def tOfT (T : Tx) (W : WX) (f : FT) : TT := fun σ H Q => ∃ ρ F, Rel T F H ρ σ ∧ match f ρ with
  | .ok r => ∀ F' H', Stp T F H ρ σ F' H' r.2 σ → Q r.1 H'
  | .ex c n d ρ' => ∀ F' H' cls dx, Stp T F H ρ σ F' H' ρ' σ → ERel T F' c n d cls dx → W cls dx σ H'
  | .no => False
/-- a value that waits while others are worked out: known to stay, or the object of a slot -/
def Pend (T : Tx) (F : Fz) (σ : Sg) : Val → V → Prop
  | .sh d, x => Den T F d x
  | .fr _, _ => False
  | .rf i, x => σ[i]? = some (some x)
def PendL (T : Tx) (F : Fz) (σ : Sg) : List Val → List V → Prop
  | [], xs => xs = []
  | v :: vs, xs => ∃ x r, xs = x :: r ∧ Pend T F σ v x ∧ PendL T F σ vs r
/-- .. for arguments -/
abbrev FA := En → R (List Val × En)
def tOfA (T : Tx) (W : WX) (f : FA) : TA := fun σ H Q => ∃ ρ F, Rel T F H ρ σ ∧ match f ρ with
  | .ok r => ∀ xs F' H', Stp T F H ρ σ F' H' r.2 σ → PendL T F' σ r.1 xs → Q xs H'
  | .ex c n d ρ' => ∀ F' H' cls dx, Stp T F H ρ σ F' H' ρ' σ → ERel T F' c n d cls dx → W cls dx σ H'
  | .no => False
/-- .. for a statement -/
inductive Fl where
  | nx | bk | ct | rt (v : Val)
abbrev FS := En → R (Fl × En)
def flOk (T : Tx) (H : Hp) (F' : Fz) (H' : Hp) (ρ' : En) (σ' : Sg) (D : Ends) : Fl → Prop
  | .nx => D.nx σ' H'
  | .bk => D.bk σ' H'
  | .ct => D.ct σ' H'
  | .rt v => ∀ x, VRel T H F' H' ρ' σ' v x → D.rt x H'
def tOfS (T : Tx) (W : WX) (f : FS) : TS := fun D σ H => ∃ ρ F, Rel T F H ρ σ ∧ match f ρ with
  | .ok r => ∀ σ' F' H', Stp T F H ρ σ F' H' r.2 σ' → flOk T H F' H' r.2 σ' D r.1
  | .ex c n d ρ' => ∀ σ' F' H' cls dx, Stp T F H ρ σ F' H' ρ' σ' → ERel T F' c n d cls dx → W cls dx σ' H'
  | .no => False

abbrev Tx.of (X : Cx) : Tx := ⟨X.K, X.mg⟩
/-- the judgements -/
def SE (X : Cx) (W : WX) (e : Expr) (f : FE) : Prop := PE X e (tOf (.of X) W f)
def ST (X : Cx) (W : WX) (e : Expr) (f : FT) : Prop := PT X e (tOfT (.of X) W f)
def SA (X : Cx) (W : WX) (es : List Expr) (f : FA) : Prop := PA X es (tOfA (.of X) W f)
def SS (X : Cx) (W : WX) (st : Stmt) (f : FS) : Prop := PS X st (tOfS (.of X) W f)
def SSs (X : Cx) (W : WX) (st : List Stmt) (f : FS) : Prop := PSs X st (tOfS (.of X) W f)

/-! ### weakening a reading -/
theorem pe_imp {X : Cx} {e : Expr} {t t' : TE} (h : PE X e t) (i : ∀ σ H Q, t' σ H Q → t σ H Q) : PE X e t' := ⟨fun pins s σ H Q I q => h.run pins s σ H Q I (i σ H Q q)⟩
theorem pt_imp {X : Cx} {e : Expr} {t t' : TT} (h : PT X e t) (i : ∀ σ H Q, t' σ H Q → t σ H Q) : PT X e t' := ⟨fun pins s σ H Q I q => h.run pins s σ H Q I (i σ H Q q)⟩
theorem pa_imp {X : Cx} {es : List Expr} {t t' : TA} (h : PA X es t) (i : ∀ σ H Q, t' σ H Q → t σ H Q) : PA X es t' := ⟨fun pos pins s σ H Q I q => h.run pos pins s σ H Q I (i σ H Q q)⟩
theorem ps_imp {X : Cx} {st : Stmt} {t t' : TS} (h : PS X st t) (i : ∀ D σ H, t' D σ H → t D σ H) : PS X st t' := ⟨fun pins s σ H D I q => h.run pins s σ H D I (i D σ H q)⟩
theorem pss_imp {X : Cx} {st : List Stmt} {t t' : TS} (h : PSs X st t) (i : ∀ D σ H, t' D σ H → t D σ H) : PSs X st t' := ⟨fun pins s σ H D I q => h.run pins s σ H D I (i D σ H q)⟩

/-! ### reading a value: peeked at, or made to stay -/
/-- what a tree holds now: a live object's content -/
def look (L : List D) : D → Option D
  | .ref n => L[n]?
  | d => some d
/-- what a slot's tree is -/
def Slot.tr (L : List D) : Slot → Option D
  | .un => none
  | .sh d => look L d
  | .ow d => some d
/-- what a value holds now -/
def peek (ρ : En) : Val → Option D
  | .sh d => look ρ.l d
  | .fr d => look ρ.l d
  | .rf i => (ρ.s[i]?).bind (Slot.tr ρ.l)
/-- it stays from now on -/
def frz (ρ : En) : Val → Option (D × En)
  | .sh d => some (d, ρ)
  | .fr d => some (d, ρ)
  | .rf i => match ρ.s[i]? with
    | some (.ow d) => some (d, ρ.set i (.sh d))
    | some (.sh d) => some (d, ρ)
    | _ => none
/-- it waits -/
def Val.held : Val → Val
  | .fr d => .sh d
  | v => v
/-- the object holds the tree now: it stays, or it may change later -/
def Pk (T : Tx) (F : Fz) (H : Hp) (d : D) (x : V) : Prop := Den T F d x ∨ ∃ a, x = .ref a ∧ OwnAt T F H d a

theorem OwnAt.mono {T : Tx} {F F' : Fz} {H H' : Hp} {d : D} {a : Addr} (h : OwnAt T F H d a) (e : Ext F F') (k : H' a = H a) (ko : ∀ b, H b = some (.own a) → H' b = some (.own a)) : OwnAt T F' H' d a := by
  cases d with
  | lst ds => obtain ⟨xs, h1, h2⟩ := h; exact ⟨xs, k.trans h1, DenL.mono e _ h2⟩
  | dK ks ds => obtain ⟨xs, h1, h2, h3⟩ := h; exact ⟨xs, k.trans h1, h2, DenL.mono e _ h3⟩
  | dT ks ds => obtain ⟨xs, h1, h2, h3⟩ := h; exact ⟨xs, k.trans h1, h2, DenL.mono e _ h3⟩
  | ins c ns ds => obtain ⟨C, dx, xs, h1, h2, h3, h4, h5⟩ := h; exact ⟨C, dx, xs, h1, k.trans h2, ko _ h3, h4, DenL.mono e _ h5⟩
  | _ => exact h.elim
theorem OwnAt.some {T : Tx} {F : Fz} {H : Hp} {d : D} {a : Addr} (h : OwnAt T F H d a) : ∃ o, H a = some o ∧ ∀ b, o ≠ .own b := by
  cases d with
  | lst ds => obtain ⟨xs, h1, h2⟩ := h; exact ⟨_, h1, fun b z => by cases z⟩
  | dK ks ds => obtain ⟨xs, h1, h2, h3⟩ := h; exact ⟨_, h1, fun b z => by cases z⟩
  | dT ks ds => obtain ⟨xs, h1, h2, h3⟩ := h; exact ⟨_, h1, fun b z => by cases z⟩
  | ins c ns ds => obtain ⟨C, dx, xs, h1, h2, h3, h4, h5⟩ := h; exact ⟨_, h2, fun b z => by cases z⟩
  | _ => exact h.elim
/-- all is kept: the object holds what it held -/
theorem OwnAt.same {T : Tx} {F F' : Fz} {H H' : Hp} {d : D} {a : Addr} (h : OwnAt T F H d a) (e : Ext F F') (k : Same H H') : OwnAt T F' H' d a := by
  obtain ⟨o, h1, _⟩ := h.some
  exact h.mono e ((k a o h1).trans h1.symm) fun b q => k b _ q
theorem Live.obj {T : Tx} {F : Fz} {H : Hp} {L : List D} {a : Addr} (v : Live T F H L) (h : a ∈ F.as) : ∃ o, H a = some o ∧ ∀ b, o ≠ .own b := by
  obtain ⟨_, _, _, _, _, ho⟩ := v.mem h
  exact ho.some
theorem Owned.obj {T : Tx} {F : Fz} {H : Hp} {ρ : En} {σ : Sg} {a : Addr} (r : Rel T F H ρ σ) (h : Owned F ρ σ a) : ∃ o, H a = some o ∧ ∀ b, o ≠ .own b := by
  rcases h with ⟨i, d, m, q⟩ | h
  · obtain ⟨b, q1, _, ho⟩ := r.ow i d m
    rw [q] at q1; cases q1
    exact ho.some
  · exact r.lv.obj h
theorem Owned.non {T : Tx} {F : Fz} {H : Hp} {ρ : En} {σ : Sg} {a : Addr} (r : Rel T F H ρ σ) (h : Owned F ρ σ a) : F a = none := by
  rcases h with ⟨i, d, m, q⟩ | h
  · obtain ⟨b, q1, hn, _⟩ := r.ow i d m
    rw [q] at q1; cases q1
    exact hn
  · obtain ⟨_, _, _, _, hn, _⟩ := r.lv.mem h
    exact hn
theorem not_owned {T : Tx} {F : Fz} {H : Hp} {ρ : En} {σ : Sg} {a : Addr} (r : Rel T F H ρ σ) (h : H a = none) : ¬ Owned F ρ σ a := fun z => by
  obtain ⟨o, q, _⟩ := z.obj r
  rw [h] at q; cases q
/-- the live objects are not touched -/
theorem Live.keep {T : Tx} {F F' : Fz} {H H' : Hp} {L : List D} (v : Live T F H L) (e : Ext F F') (es : F'.as = F.as) (n : ∀ a ∈ F.as, F' a = none) (k : ∀ a ∈ F.as, H' a = H a) (ko : ∀ a ∈ F.as, ∀ b, H b = some (.own a) → H' b = some (.own a)) : Live T F' H' L :=
  ⟨by rw [es]; exact v.len, fun m d a h1 h2 => by
    rw [es] at h2
    have hm : a ∈ F.as := List.mem_of_getElem? h2
    exact ⟨n a hm, (v.ok m d a h1 h2).2.mono e (k a hm) (ko a hm)⟩, by rw [es]; exact v.dis⟩
open Classical in
/-- the heap of what stays, with the object at a (and an instance's own dict) taken in -/
noncomputable def frzAt (F : Fz) (H : Hp) (a : Addr) : Fz := ⟨fun b => if b = a ∨ H b = some (.own a) then H b else F b, F.as⟩
theorem frzAt_sub {F : Fz} {H : Hp} {a : Addr} (s : Same F.hp H) : Same (frzAt F H a).hp H := fun b o e => by
  simp only [frzAt] at e
  split at e
  · exact e
  · exact s b o e
theorem frzAt_same {F : Fz} {H : Hp} {a : Addr} (s : Same F.hp H) : Ext F (frzAt F H a) := ⟨fun b o e => by
  simp only [frzAt]
  split
  · exact s b o e
  · exact e, fun _ _ h => h⟩
theorem OwnAt.den {T : Tx} {F : Fz} {H : Hp} {d : D} {a : Addr} (s : Same F.hp H) (h : OwnAt T F H d a) : Den T (frzAt F H a) d (.ref a) := by
  have at_a : (frzAt F H a) a = H a := by simp only [frzAt]; rw [if_pos (.inl rfl)]
  have m := frzAt_same (a := a) s
  cases d with
  | lst ds => obtain ⟨xs, h1, h2⟩ := h; exact ⟨a, xs, rfl, at_a.trans h1, DenL.mono m _ h2⟩
  | dK ks ds => obtain ⟨xs, h1, h2, h3⟩ := h; exact ⟨a, xs, rfl, at_a.trans h1, h2, DenL.mono m _ h3⟩
  | dT ks ds => obtain ⟨xs, h1, h2, h3⟩ := h; exact ⟨a, xs, rfl, at_a.trans h1, h2, DenL.mono m _ h3⟩
  | ins c ns ds =>
    obtain ⟨C, dx, xs, h1, h2, h3, h4, h5⟩ := h
    exact ⟨a, C, dx, xs, rfl, h1, at_a.trans h2, by simp only [frzAt]; rw [if_pos (.inr h3)]; exact h3, h4, DenL.mono m _ h5⟩
  | _ => exact h.elim
theorem frzAt_eq {F : Fz} {H : Hp} {a b : Addr} (h : b ≠ a) (o : ∃ u, H b = some u ∧ ∀ c, u ≠ .own c) : (frzAt F H a) b = F b := by
  obtain ⟨u, e, q⟩ := o
  simp only [frzAt]
  rw [if_neg]
  rintro (z | z)
  · exact h z
  · rw [e] at z
    exact q a (Option.some.inj z)
theorem frzAt_none {F : Fz} {H : Hp} {a b : Addr} (n : F b = none) (h : b ≠ a) (o : ∃ u, H b = some u ∧ ∀ c, u ≠ .own c) : (frzAt F H a) b = none := (frzAt_eq h o).trans n

theorem get_set_self {ρ : En} {i : Nat} {s t : Slot} (h : ρ.s[i]? = some s) : (ρ.set i t).s[i]? = some t := by
  have : i < ρ.s.length := (List.getElem?_eq_some_iff.mp h).1
  show (ρ.s.set i t)[i]? = some t
  rw [List.getElem?_set_self this]
theorem get_set_ne {ρ : En} {i j : Nat} {t : Slot} (h : i ≠ j) : (ρ.set i t).s[j]? = ρ.s[j]? := List.getElem?_set_ne h
theorem mu_set_ne {ρ : En} {i j : Nat} {t : Slot} {d : D} (h : i ≠ j) (m : MuAt (ρ.set i t) j d) : MuAt ρ j d := by
  unfold MuAt at m
  rw [get_set_ne h] at m
  exact m
theorem mu_sh {ρ : En} {i : Nat} {s : Slot} {d e : D} (h : ρ.s[i]? = some s) : ¬ MuAt (ρ.set i (.sh d)) i e := fun m => by
  unfold MuAt at m
  rw [get_set_self h] at m
  cases m
theorem set_len {ρ : En} {i : Nat} {t : Slot} : (ρ.set i t).s.length = ρ.s.length := List.length_set
/-- a slot's object is made to stay -/
theorem Stp.freeze {T : Tx} {F : Fz} {H : Hp} {ρ : En} {σ : Sg} {i : Nat} {d : D} {a : Addr} (r : Rel T F H ρ σ) (h : ρ.s[i]? = some (.ow d)) (ha : σ[i]? = some (some (.ref a))) :
    Stp T F H ρ σ (frzAt F H a) H (ρ.set i (.sh d)) σ ∧ Den T (frzAt F H a) d (.ref a) := by
  have hm : MuAt ρ i d := h
  obtain ⟨b, hb, hn, ho⟩ := r.ow i d hm
  have e : b = a := by rw [ha] at hb; cases hb; rfl
  subst e
  have dn := OwnAt.den r.sub ho
  have m := frzAt_same (a := b) r.sub
  have nl := r.lo i d b hm ha
  refine ⟨⟨⟨by rw [set_len]; exact r.len, frzAt_sub r.sub, fun j e q => ?_, fun j e q => ?_, fun j k e e' c q q' s s' => ?_, ?_, fun j e c q s => ?_⟩, m, fun _ _ h _ => h, fun c z => .inl ?_, fun _ o h => ⟨o, h⟩, fun c o hc no hw => ?_⟩, dn⟩
  · by_cases w : i = j
    · subst w
      rw [get_set_self h] at q
      cases q
      exact ⟨_, ha, dn⟩
    · rw [get_set_ne w] at q
      obtain ⟨x, s1, s2⟩ := r.sh j e q
      exact ⟨x, s1, s2.mono m⟩
  · by_cases w : i = j
    · subst w
      exact (mu_sh h q).elim
    · have q := mu_set_ne w q
      obtain ⟨c, s1, s2, s3⟩ := r.ow j e q
      have hne : c ≠ b := fun z => w (r.dis i j d e b hm q ha (by rw [s1, z]))
      exact ⟨c, s1, frzAt_none s2 hne s3.some, s3.mono m rfl fun _ z => z⟩
  · by_cases w : i = j
    · subst w
      exact (mu_sh h q).elim
    · by_cases w' : i = k
      · subst w'
        exact (mu_sh h q').elim
      · exact r.dis j k e e' c (mu_set_ne w q) (mu_set_ne w' q') s s'
  · refine r.lv.keep m rfl (fun c hc => ?_) (fun _ _ => rfl) fun _ _ _ z => z
    obtain ⟨_, _, _, _, hn', ho'⟩ := r.lv.mem hc
    exact frzAt_none hn' (fun z => nl (by rw [← z]; exact hc)) ho'.some
  · by_cases w : i = j
    · subst w
      exact (mu_sh h q).elim
    · exact r.lo j e c (mu_set_ne w q) s
  · rcases z with ⟨j, e, q, s⟩ | z
    · by_cases w : i = j
      · subst w
        exact (mu_sh h q).elim
      · exact .inl ⟨j, e, mu_set_ne w q, s⟩
    · exact .inr z
  · refine frzAt_eq (fun z => no (.inl ⟨i, d, hm, by rw [z]; exact ha⟩)) ⟨o, hc, hw⟩
/-- a new object of nobody's is made to stay -/
theorem Stp.freezeNew {T : Tx} {F F' : Fz} {H H' : Hp} {ρ ρ' : En} {σ σ' : Sg} {d : D} {a : Addr} (s : Stp T F H ρ σ F' H' ρ' σ') (hn : F' a = none) (h0 : H a = none) (no : ¬ Owned F' ρ' σ' a) (ho : OwnAt T F' H' d a) :
    Stp T F H ρ σ (frzAt F' H' a) H' ρ' σ' ∧ Den T (frzAt F' H' a) d (.ref a) ∧ Ext F' (frzAt F' H' a) := by
  have r := s.rel
  have m := frzAt_same (a := a) r.sub
  refine ⟨⟨⟨r.len, frzAt_sub r.sub, fun j e q => ?_, fun j e q => ?_, r.dis, ?_, r.lo⟩, s.same.trans m, s.keep, fun b z => s.own b z, s.dom, fun b o h no' hw => ?_⟩, OwnAt.den r.sub ho, m⟩
  · obtain ⟨x, s1, s2⟩ := r.sh j e q
    exact ⟨x, s1, s2.mono m⟩
  · obtain ⟨c, s1, s2, s3⟩ := r.ow j e q
    have hne : c ≠ a := fun z => no (.inl ⟨j, e, q, by rw [s1, z]⟩)
    exact ⟨c, s1, frzAt_none s2 hne s3.some, s3.mono m rfl fun _ z => z⟩
  · refine r.lv.keep m rfl (fun c hc => ?_) (fun _ _ => rfl) fun _ _ _ z => z
    obtain ⟨_, _, _, _, hn', ho'⟩ := r.lv.mem hc
    exact frzAt_none hn' (fun z => no (.inr (by rw [← z]; exact hc))) ho'.some
  · rw [← s.fz b o h no' hw]
    refine frzAt_eq (fun z => by rw [z, h0] at h; cases h) ⟨o, s.keep b o h no', hw⟩
/-- any value held: a new one stays from now on -/
theorem held_ok {T : Tx} {F F' : Fz} {H H' : Hp} {ρ ρ' : En} {σ σ' : Sg} {v : Val} {x : V} (s : Stp T F H ρ σ F' H' ρ' σ') (h : VRel T H F' H' ρ' σ' v x) :
    ∃ F'', Stp T F H ρ σ F'' H' ρ' σ' ∧ Ext F' F'' ∧ Pend T F'' σ' v.held x := by
  cases v with
  | sh d0 => exact ⟨F', s, Ext.refl _, h⟩
  | fr d0 =>
    obtain ⟨a, rfl, hn, h0, no, ho⟩ := h
    obtain ⟨s2, q, m⟩ := s.freezeNew hn h0 no ho
    exact ⟨_, s2, m, q⟩
  | rf i => exact ⟨F', s, Ext.refl _, h.1⟩
theorem Pend.mono {T : Tx} {F F' : Fz} {σ : Sg} {v : Val} {x : V} (e : Ext F F') (h : Pend T F σ v x) : Pend T F' σ v x := by
  cases v with
  | sh d => exact Den.mono e d h
  | fr d => exact h
  | rf i => exact h
theorem PendL.mono {T : Tx} {F F' : Fz} {σ : Sg} (e : Ext F F') : ∀ {vs : List Val} {xs : List V}, PendL T F σ vs xs → PendL T F' σ vs xs
  | [], _, h => h
  | _ :: _, _, ⟨x, r, h1, h2, h3⟩ => ⟨x, r, h1, h2.mono e, PendL.mono e h3⟩
theorem look_ok {T : Tx} {F : Fz} {H : Hp} {L : List D} {d e : D} {x : V} (v : Live T F H L) (h : Den T F d x) (q : look L d = some e) : Pk T F H e x := by
  cases d with
  | ref n =>
    obtain ⟨a, rfl, h2⟩ := h
    exact .inr ⟨a, rfl, (v.ok n e a q h2).2⟩
  | _ => cases q; exact .inl h
/-- what a waiting value holds now -/
theorem Pend.peek {T : Tx} {F : Fz} {H : Hp} {ρ : En} {σ : Sg} {v : Val} {x : V} {d : D} (r : Rel T F H ρ σ) (h : Pend T F σ v x) (e : Tr.peek ρ v = some d) : Pk T F H d x := by
  cases v with
  | sh d0 => exact look_ok r.lv h e
  | fr d0 => exact h.elim
  | rf i =>
    have h : σ[i]? = some (some x) := h
    have e : (ρ.s[i]?).bind (Slot.tr ρ.l) = some d := e
    cases q : ρ.s[i]? with
    | none => rw [q] at e; cases e
    | some s =>
      rw [q] at e
      have e : s.tr ρ.l = some d := e
      cases s with
      | un => cases e
      | sh d0 =>
        obtain ⟨y, h1, h2⟩ := r.sh i _ q
        rw [h] at h1; cases h1
        exact look_ok r.lv h2 e
      | ow d0 =>
        cases e
        obtain ⟨a, h1, _, h2⟩ := r.ow i _ q
        rw [h] at h1; cases h1
        exact .inr ⟨a, rfl, h2⟩
/-- a waiting value stays from now on -/
theorem Pend.frz {T : Tx} {F : Fz} {H : Hp} {ρ ρ' : En} {σ : Sg} {v : Val} {x : V} {d : D} (r : Rel T F H ρ σ) (h : Pend T F σ v x) (e : Tr.frz ρ v = some (d, ρ')) :
    ∃ F', Stp T F H ρ σ F' H ρ' σ ∧ Den T F' d x := by
  cases v with
  | sh d0 => cases e; exact ⟨F, Stp.refl r, h⟩
  | fr d0 => exact h.elim
  | rf i =>
    have h : σ[i]? = some (some x) := h
    cases q : ρ.s[i]? with
    | none => simp only [Tr.frz, q] at e; cases e
    | some s =>
      cases s with
      | un => simp only [Tr.frz, q] at e; cases e
      | sh d0 =>
        simp only [Tr.frz, q] at e
        cases e
        obtain ⟨y, h1, h2⟩ := r.sh i _ q
        rw [h] at h1; cases h1
        exact ⟨F, Stp.refl r, h2⟩
      | ow d0 =>
        simp only [Tr.frz, q] at e
        cases e
        obtain ⟨a, h1, _, h2⟩ := r.ow i _ q
        rw [h] at h1; cases h1
        obtain ⟨s, dn⟩ := Stp.freeze r q h
        exact ⟨_, s, dn⟩
theorem frz_held (ρ : En) (v : Val) : frz ρ v.held = frz ρ v := by cases v <;> rfl
theorem peek_held (ρ : En) (v : Val) : peek ρ v.held = peek ρ v := by cases v <;> rfl

/-! ### a value made without touching what stands -/
structure New (T : Tx) (F : Fz) (H : Hp) (F' : Fz) (H' : Hp) : Prop where
  hh : Same H H'
  ff : Ext F F'
  fh : Same F'.hp H'
  old : ∀ b o, H b = some o → F' b = F b
  as : F'.as = F.as
theorem New.refl {T : Tx} {F : Fz} {H : Hp} (s : Same F.hp H) : New T F H F H := ⟨Same.refl H, Ext.refl F, s, fun _ _ _ => rfl, rfl⟩
theorem New.trans {T : Tx} {F F1 F2 : Fz} {H H1 H2 : Hp} (a : New T F H F1 H1) (b : New T F1 H1 F2 H2) : New T F H F2 H2 :=
  ⟨a.hh.trans b.hh, a.ff.trans b.ff, b.fh, fun c o h => (b.old c o (a.hh c o h)).trans (a.old c o h), b.as.trans a.as⟩
theorem same_upd {H : Hp} {p : Addr} {o : HO} (h : H p = none) : Same H (upd H p o) := fun b x e => by
  rw [upd_ne (ne_of_none e h)]
  exact e
theorem ext_upd {F : Fz} {p : Addr} {o : HO} (h : F p = none) : Ext F (F.upd p o) := ⟨same_upd h, fun _ _ h => h⟩
/-- a new thing that stays -/
theorem New.sh {T : Tx} {F : Fz} {H : Hp} {p : Addr} {o : HO} (s : Same F.hp H) (h : H p = none) : New T F H (F.upd p o) (upd H p o) := by
  have fp : F p = none := s.free h
  refine ⟨same_upd h, ext_upd fp, fun b x e => ?_, fun b x e => ?_, rfl⟩
  · simp only [Fz.upd] at e
    by_cases w : b = p
    · subst w; rw [upd_same] at e ⊢; exact e
    · rw [upd_ne w] at e ⊢; exact s b x e
  · simp only [Fz.upd]
    rw [upd_ne (ne_of_none e h)]
/-- a new thing that may change -/
theorem New.fr {T : Tx} {F : Fz} {H : Hp} {p : Addr} {o : HO} (s : Same F.hp H) (h : H p = none) : New T F H F (upd H p o) :=
  ⟨same_upd h, Ext.refl F, s.trans (same_upd h), fun _ _ _ => rfl, rfl⟩
/-- the value's meaning beside it -/
def NRel (T : Tx) (H : Hp) (F' : Fz) (H' : Hp) : Val → V → Prop
  | .sh d, x => Den T F' d x
  | .fr d, x => ∃ a, x = .ref a ∧ F' a = none ∧ H a = none ∧ OwnAt T F' H' d a
  | .rf _, _ => False
theorem New.stp {T : Tx} {F F' : Fz} {H H' : Hp} {ρ : En} {σ : Sg} (n : New T F H F' H') (r : Rel T F H ρ σ) : Stp T F H ρ σ F' H' ρ σ where
  rel := ⟨r.len, n.fh, fun i d q => by
      obtain ⟨x, h1, h2⟩ := r.sh i d q
      exact ⟨x, h1, h2.mono n.ff⟩, fun i d q => by
      obtain ⟨a, h1, h2, h3⟩ := r.ow i d q
      obtain ⟨o, h4, _⟩ := h3.some
      exact ⟨a, h1, (n.old a o h4).trans h2, h3.same n.ff n.hh⟩, r.dis, r.lv.keep n.ff n.as (fun a ha => by
      obtain ⟨_, _, _, _, hn, ho⟩ := r.lv.mem ha
      obtain ⟨o, h4, _⟩ := ho.some
      exact (n.old a o h4).trans hn) (fun a ha => by
      obtain ⟨o, h4, _⟩ := r.lv.obj ha
      exact (n.hh a o h4).trans h4.symm) fun a ha b q => n.hh b _ q, fun i d a m q => by rw [n.as]; exact r.lo i d a m q⟩
  same := n.ff
  keep := fun b o h _ => n.hh b o h
  own := fun _ h => .inl (h.imp id fun z => by rw [← n.as]; exact z)
  dom := fun b o h => ⟨o, n.hh b o h⟩
  fz := fun b o h _ _ => n.old b o h
theorem NRel.vrel {T : Tx} {F F' : Fz} {H H' : Hp} {ρ : En} {σ : Sg} {v : Val} {x : V} (r : Rel T F H ρ σ) (n : New T F H F' H') (h : NRel T H F' H' v x) : VRel T H F' H' ρ σ v x := by
  cases v with
  | sh d => exact h
  | fr d =>
    obtain ⟨a, h1, h2, h3, h4⟩ := h
    refine ⟨a, h1, h2, h3, fun z => not_owned r h3 (z.imp id fun q => by rw [← n.as]; exact q), h4⟩
  | rf i => exact h.elim
/-- the same, as seen from further back -/
theorem VRel.back {T : Tx} {F F1 F' : Fz} {H H1 H' : Hp} {ρ ρ1 ρ' : En} {σ σ1 σ' : Sg} {v : Val} {x : V} (s : Stp T F H ρ σ F1 H1 ρ1 σ1) (h : VRel T H1 F' H' ρ' σ' v x) : VRel T H F' H' ρ' σ' v x := by
  cases v with
  | sh d => exact h
  | fr d =>
    obtain ⟨a, h1, h2, h3, h4, h5⟩ := h
    exact ⟨a, h1, h2, s.free h3, h4, h5⟩
  | rf i => exact h

/-! ### a new object becomes live -/
def En.push (ρ : En) (d : D) : En := ⟨ρ.s, ρ.l ++ [d]⟩
theorem Stp.alive {T : Tx} {F F' : Fz} {H H' : Hp} {ρ ρ' : En} {σ σ' : Sg} {d : D} {a : Addr} (s : Stp T F H ρ σ F' H' ρ' σ') (hn : F' a = none) (h0 : H a = none) (no : ¬ Owned F' ρ' σ' a) (ho : OwnAt T F' H' d a) :
    Stp T F H ρ σ ⟨F'.hp, F'.as ++ [a]⟩ H' (ρ'.push d) σ' ∧ Ext F' ⟨F'.hp, F'.as ++ [a]⟩ ∧ Den T ⟨F'.hp, F'.as ++ [a]⟩ (.ref ρ'.l.length) (.ref a) := by
  have r := s.rel
  have m : Ext F' ⟨F'.hp, F'.as ++ [a]⟩ := ⟨Same.refl _, fun n b h => by
    show (F'.as ++ [a])[n]? = some b
    rw [List.getElem?_append_left (List.getElem?_eq_some_iff.mp h).1]; exact h⟩
  refine ⟨⟨⟨r.len, r.sub, fun j e q => ?_, fun j e q => ?_, r.dis, ⟨?_, fun n e b q1 q2 => ?_, ?_⟩, fun j e b q q2 z => ?_⟩, s.same.trans m, s.keep, fun b z => ?_, s.dom, s.fz⟩, m, a, rfl, ?_⟩
  · obtain ⟨x, s1, s2⟩ := r.sh j e q
    exact ⟨x, s1, s2.mono m⟩
  · obtain ⟨c, s1, s2, s3⟩ := r.ow j e q
    exact ⟨c, s1, s2, s3.mono m rfl fun _ z => z⟩
  · simp [En.push, r.lv.len]
  · simp only [En.push] at q1
    by_cases hl : n < ρ'.l.length
    · rw [List.getElem?_append_left hl] at q1
      have q2 : (F'.as ++ [a])[n]? = some b := q2
      rw [List.getElem?_append_left (by rw [r.lv.len]; exact hl)] at q2
      obtain ⟨z1, z2⟩ := r.lv.ok n e b q1 q2
      exact ⟨z1, z2.mono m rfl fun _ z => z⟩
    · rw [List.getElem?_append_right (by omega)] at q1
      have q2 : (F'.as ++ [a])[n]? = some b := q2
      rw [List.getElem?_append_right (by rw [r.lv.len]; omega), r.lv.len] at q2
      have z : n - ρ'.l.length = 0 := by
        cases k : n - ρ'.l.length with
        | zero => rfl
        | succ k => rw [k] at q1; cases q1
      rw [z] at q1 q2
      cases q1; cases q2
      exact ⟨hn, ho.mono m rfl fun _ z => z⟩
  · show (F'.as ++ [a]).Nodup
    rw [List.nodup_append]
    refine ⟨r.lv.dis, by simp, fun x hx y hy e => ?_⟩
    rw [List.mem_singleton.mp hy] at e
    exact no (.inr (by rw [← e]; exact hx))
  · have z : b ∈ F'.as ++ [a] := z
    rcases List.mem_append.mp z with z | z
    · exact r.lo j e b q q2 z
    · rw [List.mem_singleton.mp z] at q2
      exact no (.inl ⟨j, e, q, q2⟩)
  · rcases z with ⟨j, e, q, t⟩ | z
    · exact s.own b (.inl ⟨j, e, q, t⟩)
    · have z : b ∈ F'.as ++ [a] := z
      rcases List.mem_append.mp z with z | z
      · exact s.own b (.inr z)
      · rw [List.mem_singleton.mp z]; exact .inr h0
  · show (F'.as ++ [a])[ρ'.l.length]? = some a
    rw [← r.lv.len]
    simp
end Tr
/-! Tr, part B: expressions, tests, arguments, plain statements. -/
namespace Tr
open PySem PySem.Spec PyProof.Rows L2
section
variable {X : Cx} {W : WX}

/-! ### names and constants -/
def evVar (i : Nat) : FE := fun ρ => match ρ.s[i]? with
  | some (.sh d) => .ok (.sh d, ρ)
  | some (.ow _) => .ok (.rf i, ρ)
  | _ => .no
def evC (d : D) : FE := fun ρ => .ok (.sh d, ρ)
theorem evVar_ok {T : Tx} {F : Fz} {H : Hp} {ρ : En} {σ : Sg} {i : Nat} {Q : V → Hp → Prop} (r : Rel T F H ρ σ)
    (h : match evVar i ρ with
      | .ok r => ∀ x F' H', Stp T F H ρ σ F' H' r.2 σ → VRel T H F' H' r.2 σ r.1 x → Q x H'
      | .ex c n d ρ' => ∀ F' H' cls dx, Stp T F H ρ σ F' H' ρ' σ → ERel T F' c n d cls dx → W cls dx σ H'
      | .no => False) : ∃ x, σ[i]? = some (some x) ∧ Q x H := by
  unfold evVar at h
  cases q : ρ.s[i]? with
  | none => rw [q] at h; exact h.elim
  | some s =>
    rw [q] at h
    cases s with
    | un => exact h.elim
    | sh d =>
      obtain ⟨x, h1, h2⟩ := r.sh i d q
      exact ⟨x, h1, h x F H (Stp.refl r) h2⟩
    | ow d =>
      obtain ⟨a, h1, h2, h3⟩ := r.ow i d q
      exact ⟨.ref a, h1, h _ F H (Stp.refl r) ⟨h1, d, q⟩⟩
theorem se_var (i : Nat) {x : Str} {pos : Pos} (hN : X.N[i]? = some x := by rfl) (hv : Vis X.env.scope x := by first | exact Or.inl rfl | exact Or.inr (Or.inl rfl) | exact Or.inr (Or.inr rfl))
    (hd : (x == ("__debug__" : Str)) = false := by decide) (hcd : (x == ("__classdict__" : Str)) = false := by decide) : SE X W (.Name x pos) (evVar i) :=
  pe_imp (pe_var hN hv hd hcd) fun σ H Q ⟨ρ, F, r, h⟩ => evVar_ok r h
theorem se_int {i : Int} {j pos} : SE X W (.Constant (.int i) j pos) (evC (.int i)) := pe_imp pe_int fun σ H Q ⟨ρ, F, r, h⟩ => h _ F H (Stp.refl r) rfl
theorem se_bl {b : Bool} {j pos} : SE X W (.Constant (.bool b) j pos) (evC (.bl b)) := pe_imp pe_bl fun σ H Q ⟨ρ, F, r, h⟩ => h _ F H (Stp.refl r) rfl
theorem se_non {j pos} : SE X W (.Constant .none j pos) (evC .non) := pe_imp pe_non fun σ H Q ⟨ρ, F, r, h⟩ => h _ F H (Stp.refl r) rfl
theorem se_str {x : Str} {j pos} : SE X W (.Constant (.str x) j pos) (evC (.str x)) := pe_imp pe_str fun σ H Q ⟨ρ, F, r, h⟩ => h _ F H (Stp.refl r) rfl
/-- a def or class of the module, as a value -/
theorem se_glo {x : Str} {a : Addr} {pos : Pos} (hm : X.mg x = some (.ref a)) (hg : Gl X x := by rfl) (hd : (x == ("__debug__" : Str)) = false := by decide) : SE X W (.Name x pos) (evC (.glo x)) :=
  pe_imp (pe_glob (v := .ref a) hg hm rfl hd) fun σ H Q ⟨ρ, F, r, h⟩ => h _ F H (Stp.refl r) ⟨a, hm, rfl⟩
/-- an int of the module -/
theorem se_gint {x : Str} {i : Int} {t : Tok} {pos : Pos} (hm : X.mg x = some (.int i t)) (hg : Gl X x := by rfl) (hd : (x == ("__debug__" : Str)) = false := by decide) : SE X W (.Name x pos) (evC (.int i)) :=
  pe_imp (pe_glob (v := .int i) hg hm ⟨t, rfl⟩ hd) fun σ H Q ⟨ρ, F, r, h⟩ => h _ F H (Stp.refl r) rfl
/-- a text of the module -/
theorem se_gstr {x s : Str} {t : Tok} {pos : Pos} (hm : X.mg x = some (.str s t)) (hg : Gl X x := by rfl) (hd : (x == ("__debug__" : Str)) = false := by decide) : SE X W (.Name x pos) (evC (.str s)) :=
  pe_imp (pe_glob (v := .str s) hg hm ⟨t, rfl⟩ hd) fun σ H Q ⟨ρ, F, r, h⟩ => h _ F H (Stp.refl r) rfl
/-- a built-in class, as a value -/
theorem se_ty {x : Str} {n : String} {pos : Pos} (hm : X.mg x = none) (hv : bootBuiltins x = some (.type n)) (hg : Gl X x := by rfl) (hn : x ≠ "__name__" := by decide) (hd : (x == ("__debug__" : Str)) = false := by decide) : SE X W (.Name x pos) (evC (.ty n)) :=
  pe_imp (pe_bltn (v := .ty n) hg hm hv rfl hn hd) fun σ H Q ⟨ρ, F, r, h⟩ => h _ F H (Stp.refl r) rfl

/-! ### operators -/
/-- one value out of two, without touching what stands -/
def op2 (g : D → D → Option Val) (ρ : En) (v w : Val) : R (Val × En) := match peek ρ v, peek ρ w with
  | some d, some e => (match g d e with
    | some z => .ok (z, ρ)
    | none => .no)
  | _, _ => .no
def evOp (g : D → D → Option Val) (fa fb : FE) : FE := fun ρ => (fa ρ).bind fun r => (fb r.2).bind fun q => op2 g q.2 r.1 q.1
/-- an operator does what g says -/
def OpS (X : Cx) (f : Value → Value → Sem Value) (g : D → D → Option Val) : Prop := ∃ r : R2, OpR X f r ∧
  ∀ (F : Fz) (H : Hp) (x y : V) (d e : D) (z : Val) (Q : VK), Same F H → Pk (.of X) F H d x → Pk (.of X) F H e y → g d e = some z → (∀ w F' H', New (.of X) F H F' H' → NRel (.of X) H F' H' z w → Q w H') → r x y H Q
theorem evOp_ok {fa fb : FE} {g : D → D → Option Val} {f : Value → Value → Sem Value} {r : R2} (hr : ∀ (F : Fz) (H : Hp) (x y : V) (d e : D) (z : Val) (Q : VK), Same F H → Pk (.of X) F H d x → Pk (.of X) F H e y → g d e = some z → (∀ w F' H', New (.of X) F H F' H' → NRel (.of X) H F' H' z w → Q w H') → r x y H Q)
    {σ : Sg} {H : Hp} {Q : VK} (h : tOf (.of X) W (evOp g fa fb) σ H Q) : tOp r (tOf (.of X) W fa) (tOf (.of X) W fb) σ H Q := by
  obtain ⟨ρ, F, rl, h⟩ := h
  unfold evOp at h
  refine ⟨ρ, F, rl, ?_⟩
  cases ea : fa ρ with
  | no => rw [ea] at h; exact h
  | ex c n d ρ' => rw [ea] at h; exact h
  | ok ra =>
    rw [ea] at h
    intro x F1 H1 s1 v1
    obtain ⟨F2, s12, m2, p2⟩ := held_ok s1 v1
    refine ⟨ra.2, F2, s12.rel, ?_⟩
    have h : (match (fb ra.2).bind fun q => op2 g q.2 ra.1 q.1 with
      | .ok r => ∀ x F' H', Stp (.of X) F H ρ σ F' H' r.2 σ → VRel (.of X) H F' H' r.2 σ r.1 x → Q x H'
      | .ex c n d ρ' => ∀ F' H' cls dx, Stp (.of X) F H ρ σ F' H' ρ' σ → ERel (.of X) F' c n d cls dx → W cls dx σ H'
      | .no => False) := h
    cases eb : fb ra.2 with
    | no => rw [eb] at h; exact h
    | ex c n d ρ' =>
      rw [eb] at h
      exact fun F' H' cls dx s e => h F' H' cls dx (s12.trans s) e
    | ok rb =>
      rw [eb] at h
      intro y F3 H3 s3 v3
      have h : (match op2 g rb.2 ra.1 rb.1 with
        | .ok r => ∀ x F' H', Stp (.of X) F H ρ σ F' H' r.2 σ → VRel (.of X) H F' H' r.2 σ r.1 x → Q x H'
        | .ex c n d ρ' => ∀ F' H' cls dx, Stp (.of X) F H ρ σ F' H' ρ' σ → ERel (.of X) F' c n d cls dx → W cls dx σ H'
        | .no => False) := h
      obtain ⟨F4, s4, m4, p4⟩ := held_ok s3 v3
      have s14 := s12.trans s4
      unfold op2 at h
      cases e1 : peek rb.2 ra.1 with
      | none => rw [e1] at h; exact h.elim
      | some d =>
        cases e2 : peek rb.2 rb.1 with
        | none => rw [e1, e2] at h; exact h.elim
        | some e =>
          rw [e1, e2] at h
          cases e3 : g d e with
          | none => simp only [e3] at h
          | some z =>
            simp only [e3] at h
            have k1 := (p2.mono s4.same).peek s4.rel (by rw [peek_held]; exact e1)
            have k2 := p4.peek s4.rel (by rw [peek_held]; exact e2)
            refine hr F4 H3 x y d e z Q s4.rel.sub k1 k2 e3 fun w F5 H5 n5 r5 => ?_
            exact h w F5 H5 (s14.trans (n5.stp s4.rel)) ((r5.vrel s4.rel n5).back s14)
theorem se_op {a b : Expr} {op : Operator} {pos : Pos} {fa fb : FE} {g : D → D → Option Val} (ho : OpS X (binaryOp op) g) (ha : SE X W a fa) (hb : SE X W b fb) : SE X W (.BinOp a op b pos) (evOp g fa fb) := by
  obtain ⟨r, h1, h2⟩ := ho
  exact pe_imp (pe_op h1 ha hb) fun σ H Q h => evOp_ok (f := binaryOp op) h2 h
theorem se_cmp {a b : Expr} {op : CmpOp} {pos : Pos} {fa fb : FE} {g : D → D → Option Val} (ho : OpS X (compareOp op) g) (ha : SE X W a fa) (hb : SE X W b fb) (hm : behindInMarks op b = false := by first | exact nomark _ | rfl) : SE X W (.Compare a [op] [b] pos) (evOp g fa fb) := by
  obtain ⟨r, h1, h2⟩ := ho
  exact pe_imp (pe_cmpR h1 ha hb hm) fun σ H Q h => evOp_ok (f := compareOp op) h2 h
/-- xs[i] -/
def IxS (X : Cx) (g : D → D → Option Val) : Prop := ∃ r : R2, IxR X r ∧
  ∀ (F : Fz) (H : Hp) (x y : V) (d e : D) (z : Val) (Q : VK), Same F H → Pk (.of X) F H d x → Pk (.of X) F H e y → g d e = some z → (∀ w F' H', New (.of X) F H F' H' → NRel (.of X) H F' H' z w → Q w H') → r x y H Q
theorem se_ix {a b : Expr} {pos : Pos} {fa fb : FE} {g : D → D → Option Val} (ho : IxS X g) (ha : SE X W a fa) (hb : SE X W b fb) (hs : PlainIx b := by exact fun _ _ => rfl) : SE X W (.Subscript a b pos) (evOp g fa fb) := by
  obtain ⟨r, h1, h2⟩ := ho
  exact pe_imp (pe_ix h1 ha hb hs) fun σ H Q h => evOp_ok (f := fun _ _ => pure .none) h2 h
/-- an operator of one operand -/
def op1 (g : D → Option Val) (ρ : En) (v : Val) : R (Val × En) := match peek ρ v with
  | some d => (match g d with
    | some z => .ok (z, ρ)
    | none => .no)
  | none => .no
def evUn (g : D → Option Val) (fa : FE) : FE := fun ρ => (fa ρ).bind fun r => op1 g r.2 r.1
def UnS (X : Cx) (r : V → Hp → VK → Prop) (g : D → Option Val) : Prop :=
  ∀ (F : Fz) (H : Hp) (x : V) (d : D) (z : Val) (Q : VK), Same F H → Pk (.of X) F H d x → g d = some z → (∀ w F' H', New (.of X) F H F' H' → NRel (.of X) H F' H' z w → Q w H') → r x H Q
theorem evUn_ok {fa : FE} {g : D → Option Val} {r : V → Hp → VK → Prop} (hr : UnS X r g) {σ : Sg} {H : Hp} {Q : VK} (h : tOf (.of X) W (evUn g fa) σ H Q) : tOf (.of X) W fa σ H fun x H1 => r x H1 Q := by
  obtain ⟨ρ, F, rl, h⟩ := h
  unfold evUn at h
  refine ⟨ρ, F, rl, ?_⟩
  cases ea : fa ρ with
  | no => rw [ea] at h; exact h
  | ex c n d ρ' => rw [ea] at h; exact h
  | ok ra =>
    rw [ea] at h
    intro x F1 H1 s1 v1
    obtain ⟨F2, s12, m2, p2⟩ := held_ok s1 v1
    have h : (match op1 g ra.2 ra.1 with
      | .ok r => ∀ x F' H', Stp (.of X) F H ρ σ F' H' r.2 σ → VRel (.of X) H F' H' r.2 σ r.1 x → Q x H'
      | .ex c n d ρ' => ∀ F' H' cls dx, Stp (.of X) F H ρ σ F' H' ρ' σ → ERel (.of X) F' c n d cls dx → W cls dx σ H'
      | .no => False) := h
    unfold op1 at h
    cases e1 : peek ra.2 ra.1 with
    | none => simp only [e1] at h
    | some d =>
      simp only [e1] at h
      cases e3 : g d with
      | none => simp only [e3] at h
      | some z =>
        simp only [e3] at h
        have k1 := p2.peek s12.rel (by rw [peek_held]; exact e1)
        exact hr F2 H1 x d z Q s12.rel.sub k1 e3 fun w F5 H5 n5 r5 => h w F5 H5 (s12.trans (n5.stp s12.rel)) ((r5.vrel s12.rel n5).back s12)
theorem se_un {a : Expr} {op : UnaryOp} {pos : Pos} {fa : FE} {g : D → Option Val} {r : V → Hp → VK → Prop} (ho : UnR X (unaryOp op) r) (hr : UnS X r g) (ha : SE X W a fa) : SE X W (.UnaryOp op a pos) (evUn g fa) :=
  pe_imp (pe_un ho ha) fun σ H Q h => evUn_ok hr h

/-! ### tests -/
def asB : Val × En → R (Bool × En)
  | (.sh (.bl b), ρ) => .ok (b, ρ)
  | _ => .no
def ftVal (f : FE) : FT := fun ρ => (f ρ).bind asB
theorem tB_of {f : FE} {σ : Sg} {H : Hp} {Q : Bool → Hp → Prop} (h : tOfT (.of X) W (ftVal f) σ H Q) : tB (tOf (.of X) W f) σ H Q := by
  obtain ⟨ρ, F, rl, h⟩ := h
  unfold ftVal at h
  refine ⟨ρ, F, rl, ?_⟩
  cases ea : f ρ with
  | no => rw [ea] at h; exact h
  | ex c n d ρ' => rw [ea] at h; exact h
  | ok ra =>
    obtain ⟨v, ρ'⟩ := ra
    rw [ea] at h
    intro x F1 H1 s1 v1
    cases v with
    | sh d =>
      cases d with
      | bl b => exact ⟨b, v1, h F1 H1 s1⟩
      | _ => exact h.elim
    | fr d => exact h.elim
    | rf i => exact h.elim
theorem st_val {e : Expr} {f : FE} (h : SE X W e f) (he : ∀ whole, isTrue e X.env whole = (do let v ← whole; standAt e.pos; holding [v] (truthy v)) := by intro _; rfl) : ST X W e (ftVal f) :=
  pt_imp (pt_val h he) fun σ H Q h => tB_of h
theorem st_cmp {a b : Expr} {op : CmpOp} {pos : Pos} {fa fb : FE} {g : D → D → Option Val} (ho : OpS X (compareOp op) g) (ha : SE X W a fa) (hb : SE X W b fb) (hm : behindInMarks op b = false := by first | exact nomark _ | rfl) : ST X W (.Compare a [op] [b] pos) (ftVal (evOp g fa fb)) := by
  obtain ⟨r, h1, h2⟩ := ho
  refine pt_imp (pt_cmpR h1 ha hb hm) fun σ H Q h => ?_
  have h := tB_of h
  exact evOp_ok (f := compareOp op) h2 h
/-- one test, then another one by its answer -/
def ftThen (f : FT) (g : Bool → FT) : FT := fun ρ => (f ρ).bind fun r => g r.1 r.2
theorem ftThen_ok {f : FT} {g : Bool → FT} {σ : Sg} {H : Hp} {Q : Bool → Hp → Prop} {P : Bool → Hp → Prop} (h : tOfT (.of X) W (ftThen f g) σ H Q)
    (k : ∀ b H1, tOfT (.of X) W (g b) σ H1 Q → P b H1) : tOfT (.of X) W f σ H P := by
  obtain ⟨ρ, F, rl, h⟩ := h
  unfold ftThen at h
  refine ⟨ρ, F, rl, ?_⟩
  cases ea : f ρ with
  | no => rw [ea] at h; exact h
  | ex c n d ρ' => rw [ea] at h; exact h
  | ok ra =>
    rw [ea] at h
    intro F1 H1 s1
    refine k ra.1 H1 ⟨ra.2, F1, s1.rel, ?_⟩
    have h : (match g ra.1 ra.2 with
      | .ok r => ∀ F' H', Stp (.of X) F H ρ σ F' H' r.2 σ → Q r.1 H'
      | .ex c n d ρ' => ∀ F' H' cls dx, Stp (.of X) F H ρ σ F' H' ρ' σ → ERel (.of X) F' c n d cls dx → W cls dx σ H'
      | .no => False) := h
    cases eb : g ra.1 ra.2 with
    | no => rw [eb] at h; exact h
    | ex c n d ρ' => rw [eb] at h; exact fun F' H' cls dx s e => h F' H' cls dx (s1.trans s) e
    | ok rb => rw [eb] at h; exact fun F' H' s => h F' H' (s1.trans s)
def ftC (b : Bool) : FT := fun ρ => .ok (b, ρ)
theorem ftC_ok {b : Bool} {σ : Sg} {H : Hp} {Q : Bool → Hp → Prop} (h : tOfT (.of X) W (ftC b) σ H Q) : Q b H := by
  obtain ⟨ρ, F, rl, h⟩ := h
  exact h F H (Stp.refl rl)
def ftAnd (f g : FT) : FT := ftThen f fun b => if b = true then g else ftC false
def ftOr (f g : FT) : FT := ftThen f fun b => if b = true then ftC true else g
def ftNot (f : FT) : FT := ftThen f fun b => ftC (!b)
/-- and, or as tests: the whole is not looked at -/
def SW (X : Cx) (W : WX) (e : Expr) (f : FT) : Prop := PW X e (tOfT (.of X) W f)
theorem SW.st {e : Expr} {f : FT} (h : SW X W e f) : ST X W e f := PW.pt h
theorem pw_imp {e : Expr} {t t' : TT} (h : PW X e t) (i : ∀ σ H Q, t' σ H Q → t σ H Q) : PW X e t' := ⟨fun wh pins s σ H Q I q => h.run wh pins s σ H Q I (i σ H Q q)⟩
theorem sw_and1 {a : Expr} {pos : Pos} {f : FT} (h : ST X W a f) : SW X W (.BoolOp .And [a] pos) f := pw_and1 h
theorem sw_or1 {a : Expr} {pos : Pos} {f : FT} (h : ST X W a f) : SW X W (.BoolOp .Or [a] pos) f := pw_or1 h
theorem sw_and {a b : Expr} {rest : List Expr} {pos : Pos} {f g : FT} (h : ST X W a f) (k : SW X W (.BoolOp .And (b :: rest) pos) g) : SW X W (.BoolOp .And (a :: b :: rest) pos) (ftAnd f g) :=
  pw_imp (pw_and h k) fun σ H Q q => ftThen_ok q fun b H1 z => by
    cases b with
    | true => rw [if_pos rfl] at z ⊢; exact z
    | false => rw [if_neg Bool.false_ne_true] at z ⊢; exact ftC_ok z
theorem sw_or {a b : Expr} {rest : List Expr} {pos : Pos} {f g : FT} (h : ST X W a f) (k : SW X W (.BoolOp .Or (b :: rest) pos) g) : SW X W (.BoolOp .Or (a :: b :: rest) pos) (ftOr f g) :=
  pw_imp (pw_or h k) fun σ H Q q => ftThen_ok q fun b H1 z => by
    cases b with
    | true => rw [if_pos rfl] at z ⊢; exact ftC_ok z
    | false => rw [if_neg Bool.false_ne_true] at z ⊢; exact z
theorem st_not {a : Expr} {pos : Pos} {f : FT} (h : ST X W a f) : ST X W (.UnaryOp .Not a pos) (ftNot f) :=
  pt_imp (pt_not h) fun σ H Q q => ftThen_ok q fun b H1 z => ftC_ok z
/-- a test's answer as a value, an expression by a test's answer -/
def evThen (f : FT) (g : Bool → FE) : FE := fun ρ => (f ρ).bind fun r => g r.1 r.2
theorem evThen_ok {f : FT} {g : Bool → FE} {σ : Sg} {H : Hp} {Q : VK} {P : Bool → Hp → Prop} (h : tOf (.of X) W (evThen f g) σ H Q)
    (k : ∀ b H1, tOf (.of X) W (g b) σ H1 Q → P b H1) : tOfT (.of X) W f σ H P := by
  obtain ⟨ρ, F, rl, h⟩ := h
  unfold evThen at h
  refine ⟨ρ, F, rl, ?_⟩
  cases ea : f ρ with
  | no => rw [ea] at h; exact h
  | ex c n d ρ' => rw [ea] at h; exact h
  | ok ra =>
    rw [ea] at h
    intro F1 H1 s1
    refine k ra.1 H1 ⟨ra.2, F1, s1.rel, ?_⟩
    have h : (match g ra.1 ra.2 with
      | .ok r => ∀ x F' H', Stp (.of X) F H ρ σ F' H' r.2 σ → VRel (.of X) H F' H' r.2 σ r.1 x → Q x H'
      | .ex c n d ρ' => ∀ F' H' cls dx, Stp (.of X) F H ρ σ F' H' ρ' σ → ERel (.of X) F' c n d cls dx → W cls dx σ H'
      | .no => False) := h
    cases eb : g ra.1 ra.2 with
    | no => rw [eb] at h; exact h
    | ex c n d ρ' => rw [eb] at h; exact fun F' H' cls dx s e => h F' H' cls dx (s1.trans s) e
    | ok rb => rw [eb] at h; exact fun x F' H' s v => h x F' H' (s1.trans s) (v.back s1)
def evIf (c : FT) (fa fb : FE) : FE := evThen c fun b => if b = true then fa else fb
theorem se_if {c a b : Expr} {pos : Pos} {fc : FT} {fa fb : FE} (hc : ST X W c fc) (ha : SE X W a fa) (hb : SE X W b fb) : SE X W (.IfExp c a b pos) (evIf fc fa fb) :=
  pe_imp (pe_ifExp hc ha hb) fun σ H Q q => evThen_ok q fun b H1 z => by
    cases b with
    | true => rw [if_pos rfl] at z ⊢; exact z
    | false => rw [if_neg Bool.false_ne_true] at z ⊢; exact z
/-- and, or, not as values: all but the last are bools -/
def evAnd (fa fb : FE) : FE := evThen (ftVal fa) fun b => if b = true then fb else evC (.bl false)
def evOr (fa fb : FE) : FE := evThen (ftVal fa) fun b => if b = true then evC (.bl true) else fb
def evNot (fa : FE) : FE := evThen (ftVal fa) fun b => evC (.bl (!b))
theorem evC_ok {d : D} {x : V} {σ : Sg} {H : Hp} {Q : VK} (h : tOf (.of X) W (evC d) σ H Q) (hd : ∀ F, Den (.of X) F d x) : Q x H := by
  obtain ⟨ρ, F, rl, h⟩ := h
  exact h x F H (Stp.refl rl) (hd F)
theorem se_one {a : Expr} {op} {pos : Pos} {f : FE} (h : SE X W a f) : SE X W (.BoolOp op [a] pos) f := pe_one h
theorem se_and {a b : Expr} {rest : List Expr} {pos : Pos} {fa fb : FE} (ha : SE X W a fa) (hb : SE X W (.BoolOp .And (b :: rest) pos) fb) : SE X W (.BoolOp .And (a :: b :: rest) pos) (evAnd fa fb) :=
  pe_imp (pe_and ha hb) fun σ H Q q => tB_of (Q := fun c H1 => if c = true then tOf (.of X) W fb σ H1 Q else Q (.bl false) H1) (evThen_ok q fun b H1 z => by
    cases b with
    | true => rw [if_pos rfl] at z ⊢; exact z
    | false => rw [if_neg Bool.false_ne_true] at z ⊢; exact evC_ok z fun _ => rfl)
theorem se_or {a b : Expr} {rest : List Expr} {pos : Pos} {fa fb : FE} (ha : SE X W a fa) (hb : SE X W (.BoolOp .Or (b :: rest) pos) fb) : SE X W (.BoolOp .Or (a :: b :: rest) pos) (evOr fa fb) :=
  pe_imp (pe_or ha hb) fun σ H Q q => tB_of (Q := fun c H1 => if c = true then Q (.bl true) H1 else tOf (.of X) W fb σ H1 Q) (evThen_ok q fun b H1 z => by
    cases b with
    | true => rw [if_pos rfl] at z ⊢; exact evC_ok z fun _ => rfl
    | false => rw [if_neg Bool.false_ne_true] at z ⊢; exact z)
theorem se_not {a : Expr} {pos : Pos} {fa : FE} (ha : SE X W a fa) : SE X W (.UnaryOp .Not a pos) (evNot fa) :=
  pe_imp (pe_not ha) fun σ H Q q => tB_of (Q := fun c H1 => Q (.bl (!c)) H1) (evThen_ok q fun b H1 z => evC_ok z fun _ => rfl)

/-! ### arguments, displays -/
def faNil : FA := fun ρ => .ok ([], ρ)
def faCons (f : FE) (g : FA) : FA := fun ρ => (f ρ).bind fun r => (g r.2).bind fun q => .ok (r.1.held :: q.1, q.2)
theorem sa_nil : SA X W [] faNil := pa_imp pa_nil fun σ H Q ⟨ρ, F, r, h⟩ => h [] F H (Stp.refl r) rfl
theorem sa_cons {e : Expr} {es : List Expr} {f : FE} {g : FA} (he : SE X W e f) (hr : SA X W es g) (hs : starEach (e :: es) X.env = (false, eval e X.env) :: starEach es X.env := by rfl) : SA X W (e :: es) (faCons f g) :=
  pa_imp (pa_cons he hr hs) fun σ H Q ⟨ρ, F, rl, h⟩ => by
    unfold faCons at h
    refine ⟨ρ, F, rl, ?_⟩
    cases ea : f ρ with
    | no => rw [ea] at h; exact h
    | ex c n d ρ' => rw [ea] at h; exact h
    | ok ra =>
      rw [ea] at h
      intro x F1 H1 s1 v1
      obtain ⟨F2, s12, m2, p2⟩ := held_ok s1 v1
      refine ⟨ra.2, F2, s12.rel, ?_⟩
      have h : (match (g ra.2).bind fun q => R.ok (ra.1.held :: q.1, q.2) with
        | .ok r => ∀ xs F' H', Stp (.of X) F H ρ σ F' H' r.2 σ → PendL (.of X) F' σ r.1 xs → Q xs H'
        | .ex c n d ρ' => ∀ F' H' cls dx, Stp (.of X) F H ρ σ F' H' ρ' σ → ERel (.of X) F' c n d cls dx → W cls dx σ H'
        | .no => False) := h
      cases eb : g ra.2 with
      | no => rw [eb] at h; exact h
      | ex c n d ρ' => rw [eb] at h; exact fun F' H' cls dx s e => h F' H' cls dx (s12.trans s) e
      | ok rb =>
        rw [eb] at h
        exact fun xs F' H' s p => h (x :: xs) F' H' (s12.trans s) ⟨x, xs, rfl, p2.mono s.same, p⟩
/-- all of them stay from now on -/
def frzL (ρ : En) : List Val → Option (List D × En)
  | [] => some ([], ρ)
  | v :: vs => match frz ρ v with
    | some (d, ρ') => (match frzL ρ' vs with
      | some (ds, ρ'') => some (d :: ds, ρ'')
      | none => none)
    | none => none
theorem PendL.frz {T : Tx} {H : Hp} {σ : Sg} : ∀ {vs : List Val} {F : Fz} {ρ ρ' : En} {xs : List V} {ds : List D}, Rel T F H ρ σ → PendL T F σ vs xs → frzL ρ vs = some (ds, ρ') → ∃ F', Stp T F H ρ σ F' H ρ' σ ∧ DenL T F' ds xs
  | [], F, ρ, ρ', xs, ds, r, h, e => by
    cases e
    exact ⟨F, Stp.refl r, h⟩
  | v :: vs, F, ρ, ρ', xs, ds, r, ⟨x, xr, h1, h2, h3⟩, e => by
    unfold frzL at e
    cases e1 : Tr.frz ρ v with
    | none => rw [e1] at e; cases e
    | some q =>
      obtain ⟨d, ρ1⟩ := q
      simp only [e1] at e
      cases e2 : frzL ρ1 vs with
      | none => rw [e2] at e; cases e
      | some q2 =>
        obtain ⟨ds2, ρ2⟩ := q2
        simp only [e2] at e
        cases e
        obtain ⟨F1, s1, d1⟩ := h2.frz r e1
        obtain ⟨F2, s2, d2⟩ := PendL.frz s1.rel (h3.mono s1.same) e2
        exact ⟨F2, s1.trans s2, x, xr, h1, d1.mono s2.same, d2⟩
def dispT (ρ : En) (vs : List Val) : R (Val × En) := match frzL ρ vs with
  | some (ds, ρ') => if ds.length ≤ 16777216 then .ok (.sh (.tup ds), ρ') else .no
  | none => .no
def dispL (ρ : En) (vs : List Val) : R (Val × En) := match frzL ρ vs with
  | some (ds, ρ') => if ds.length ≤ 16777216 then .ok (.fr (.lst ds), ρ') else .no
  | none => .no
def evTup (f : FA) : FE := fun ρ => (f ρ).bind fun r => dispT r.2 r.1
def evLst (f : FA) : FE := fun ρ => (f ρ).bind fun r => dispL r.2 r.1
theorem size_le {n : Nat} (h : n ≤ 16777216) : n ≤ sizeLine := by rw [sizeLine_eq]; exact h
theorem size_lt {n : Nat} (h : n < 16777216) : n < sizeLine := by rw [sizeLine_eq]; exact h
theorem se_tup {es : List Expr} {x1} {pos : Pos} {f : FA} (h : SA X W es f) : SE X W (.Tuple es x1 pos) (evTup f) :=
  pe_imp (pe_tup h) fun σ H Q ⟨ρ, F, rl, h⟩ => by
    unfold evTup at h
    refine ⟨ρ, F, rl, ?_⟩
    cases ea : f ρ with
    | no => rw [ea] at h; exact h
    | ex c n d ρ' => rw [ea] at h; exact h
    | ok ra =>
      rw [ea] at h
      intro xs F1 H1 s1 p1
      have h : (match dispT ra.2 ra.1 with
        | .ok r => ∀ x F' H', Stp (.of X) F H ρ σ F' H' r.2 σ → VRel (.of X) H F' H' r.2 σ r.1 x → Q x H'
        | .ex c n d ρ' => ∀ F' H' cls dx, Stp (.of X) F H ρ σ F' H' ρ' σ → ERel (.of X) F' c n d cls dx → W cls dx σ H'
        | .no => False) := h
      unfold dispT at h
      cases e1 : frzL ra.2 ra.1 with
      | none => rw [e1] at h; exact h.elim
      | some q =>
        obtain ⟨ds, ρ2⟩ := q
        simp only [e1] at h
        by_cases hl : ds.length ≤ 16777216
        · rw [if_pos hl] at h
          obtain ⟨F2, s2, d2⟩ := p1.frz s1.rel e1
          refine ⟨size_le (by rw [← d2.length]; exact hl), fun p hp => ?_⟩
          have n3 : New (.of X) F2 H1 (F2.upd p (.tup xs)) (upd H1 p (.tup xs)) := New.sh s2.rel.sub hp
          exact h _ _ _ ((s1.trans s2).trans (n3.stp s2.rel)) ⟨p, xs, rfl, SqT.of upd_same, d2.mono n3.ff⟩
        · rw [if_neg hl] at h; exact h.elim
theorem se_lst {es : List Expr} {pos : Pos} {f : FA} (h : SA X W es f) : SE X W (.List es pos) (evLst f) :=
  pe_imp (pe_lst h) fun σ H Q ⟨ρ, F, rl, h⟩ => by
    unfold evLst at h
    refine ⟨ρ, F, rl, ?_⟩
    cases ea : f ρ with
    | no => rw [ea] at h; exact h
    | ex c n d ρ' => rw [ea] at h; exact h
    | ok ra =>
      rw [ea] at h
      intro xs F1 H1 s1 p1
      have h : (match dispL ra.2 ra.1 with
        | .ok r => ∀ x F' H', Stp (.of X) F H ρ σ F' H' r.2 σ → VRel (.of X) H F' H' r.2 σ r.1 x → Q x H'
        | .ex c n d ρ' => ∀ F' H' cls dx, Stp (.of X) F H ρ σ F' H' ρ' σ → ERel (.of X) F' c n d cls dx → W cls dx σ H'
        | .no => False) := h
      unfold dispL at h
      cases e1 : frzL ra.2 ra.1 with
      | none => rw [e1] at h; exact h.elim
      | some q =>
        obtain ⟨ds, ρ2⟩ := q
        simp only [e1] at h
        by_cases hl : ds.length ≤ 16777216
        · rw [if_pos hl] at h
          obtain ⟨F2, s2, d2⟩ := p1.frz s1.rel e1
          refine ⟨size_le (by rw [← d2.length]; exact hl), fun p hp => ?_⟩
          have n3 : New (.of X) F2 H1 F2 (upd H1 p (.lst xs)) := New.fr s2.rel.sub hp
          have nr : NRel (.of X) H1 F2 (upd H1 p (.lst xs)) (.fr (.lst ds)) (.ref p) := ⟨p, rfl, s2.rel.sub.free hp, hp, xs, upd_same, d2⟩
          exact h _ _ _ ((s1.trans s2).trans (n3.stp s2.rel)) ((nr.vrel s2.rel n3).back (s1.trans s2))
        · rw [if_neg hl] at h; exact h.elim
end
end Tr
/-! Tr, part C: statements, stores, loops, comprehensions. -/
namespace Tr
open PySem PySem.Spec PyProof.Rows L2
section
variable {X : Cx} {W : WX}

/-! ### blocks -/
def fsNil : FS := fun ρ => .ok (.nx, ρ)
def fsSeq (f g : FS) : FS := fun ρ => (f ρ).bind fun r => match r.1 with
  | .nx => g r.2
  | fl => .ok (fl, r.2)
theorem flOk_back {T : Tx} {F : Fz} {H : Hp} {F1 : Fz} {H1 : Hp} {F' : Fz} {H' : Hp} {ρ ρ1 ρ' : En} {σ σ1 σ' : Sg} {D : Ends} {fl : Fl} (s : Stp T F H ρ σ F1 H1 ρ1 σ1) (h : flOk T H F' H' ρ' σ' D fl) : flOk T H1 F' H' ρ' σ' D fl := by
  cases fl with
  | nx => exact h
  | bk => exact h
  | ct => exact h
  | rt v => exact fun x q => h x (q.back s)
theorem sss_nil : SSs X W [] fsNil := pss_imp pss_nil fun D σ H ⟨ρ, F, r, h⟩ => h σ F H (Stp.refl r)
theorem fsSeq_ok {f g : FS} {D : Ends} {σ : Sg} {H : Hp} (h : tOfS (.of X) W (fsSeq f g) D σ H) : tOfS (.of X) W f { D with nx := tOfS (.of X) W g D } σ H := by
  obtain ⟨ρ, F, rl, h⟩ := h
  unfold fsSeq at h
  refine ⟨ρ, F, rl, ?_⟩
  cases ea : f ρ with
  | no => rw [ea] at h; exact h
  | ex c n d ρ' => rw [ea] at h; exact h
  | ok ra =>
    obtain ⟨fl, ρ1⟩ := ra
    rw [ea] at h
    intro σ1 F1 H1 s1
    cases fl with
    | nx =>
      refine ⟨ρ1, F1, s1.rel, ?_⟩
      have h : (match g ρ1 with
        | .ok r => ∀ σ' F' H', Stp (.of X) F H ρ σ F' H' r.2 σ' → flOk (.of X) H F' H' r.2 σ' D r.1
        | .ex c n d ρ' => ∀ σ' F' H' cls dx, Stp (.of X) F H ρ σ F' H' ρ' σ' → ERel (.of X) F' c n d cls dx → W cls dx σ' H'
        | .no => False) := h
      cases eb : g ρ1 with
      | no => rw [eb] at h; exact h
      | ex c n d ρ' => rw [eb] at h; exact fun σ' F' H' cls dx s e => h σ' F' H' cls dx (s1.trans s) e
      | ok rb => rw [eb] at h; exact fun σ' F' H' s => flOk_back s1 (h σ' F' H' (s1.trans s))
    | bk => exact h σ1 F1 H1 s1
    | ct => exact h σ1 F1 H1 s1
    | rt v => exact h σ1 F1 H1 s1
theorem sss_cons {st : Stmt} {rest : List Stmt} {f g : FS} (h1 : SS X W st f) (h2 : SSs X W rest g) : SSs X W (st :: rest) (fsSeq f g) := pss_imp (pss_cons h1 h2) fun D σ H h => fsSeq_ok h
theorem sss_one {st : Stmt} {f : FS} (h1 : SS X W st f) : SSs X W [st] f := pss_one h1
/-- a statement that is not come to -/
def fsNever : FS := fun _ => .no
theorem ss_never {st : Stmt} : SS X W st fsNever := ps_imp ps_never fun D σ H ⟨ρ, F, r, h⟩ => h
theorem ss_pass {pos : Pos} : SS X W (.Pass pos) fsNil := ps_imp ps_pass fun D σ H ⟨ρ, F, r, h⟩ => h σ F H (Stp.refl r)
/-- an expression, and what becomes of its value -/
def fsVal (f : FE) (k : Val → En → R (Fl × En)) : FS := fun ρ => (f ρ).bind fun r => k r.1 r.2
theorem fsVal_ok {f : FE} {k : Val → En → R (Fl × En)} {D : Ends} {σ : Sg} {H : Hp} {Q : VK} (h : tOfS (.of X) W (fsVal f k) D σ H)
    (hk : ∀ (ρ : En) (F : Fz) (v : Val) (ρ1 : En) (x : V) (F1 : Fz) (H1 : Hp), Stp (.of X) F H ρ σ F1 H1 ρ1 σ → VRel (.of X) H F1 H1 ρ1 σ v x → (match k v ρ1 with
      | .ok r => ∀ σ' F' H', Stp (.of X) F H ρ σ F' H' r.2 σ' → flOk (.of X) H F' H' r.2 σ' D r.1
      | .ex c n d ρ' => ∀ σ' F' H' cls dx, Stp (.of X) F H ρ σ F' H' ρ' σ' → ERel (.of X) F' c n d cls dx → W cls dx σ' H'
      | .no => False) → Q x H1) : tOf (.of X) W f σ H Q := by
  obtain ⟨ρ, F, rl, h⟩ := h
  unfold fsVal at h
  refine ⟨ρ, F, rl, ?_⟩
  cases ea : f ρ with
  | no => rw [ea] at h; exact h
  | ex c n d ρ' => rw [ea] at h; exact fun F' H' cls dx s e => h σ F' H' cls dx s e
  | ok ra =>
    rw [ea] at h
    exact fun x F1 H1 s1 v1 => hk ρ F ra.1 ra.2 x F1 H1 s1 v1 h
def fsExpr (f : FE) : FS := fsVal f fun _ ρ => .ok (.nx, ρ)
theorem ss_expr {e : Expr} {pos : Pos} {f : FE} (he : SE X W e f) (hs : swapsWith e none pos.line X.env = pure false := by rfl) : SS X W (.Expr e pos) (fsExpr f) :=
  ps_imp (ps_expr he hs) fun D σ H h => fsVal_ok h fun ρ F v ρ1 x F1 H1 s1 v1 q => q σ F1 H1 s1
def fsRet (f : FE) : FS := fsVal f fun v ρ => .ok (.rt v, ρ)
theorem ss_ret {e : Expr} {pos : Pos} {f : FE} (he : SE X W e f) : SS X W (.Return (some e) pos) (fsRet f) :=
  ps_imp (ps_ret he) fun D σ H h => fsVal_ok h fun ρ F v ρ1 x F1 H1 s1 v1 q => q σ F1 H1 s1 x v1
def fsRetN : FS := fun ρ => .ok (.rt (.sh .non), ρ)
theorem ss_retN {pos : Pos} : SS X W (.Return none pos) fsRetN := ps_imp ps_retN fun D σ H ⟨ρ, F, r, h⟩ => h σ F H (Stp.refl r) .non rfl
def fsIf (c : FT) (f g : FS) : FS := fun ρ => (c ρ).bind fun r => if r.1 = true then f r.2 else g r.2
theorem ss_if {c : Expr} {a b : List Stmt} {pos : Pos} {fc : FT} {f g : FS} (hc : ST X W c fc) (ha : SSs X W a f) (hb : SSs X W b g) : SS X W (.If c a b pos) (fsIf fc f g) :=
  ps_imp (ps_if hc ha hb) fun D σ H ⟨ρ, F, rl, h⟩ => by
    unfold fsIf at h
    refine ⟨ρ, F, rl, ?_⟩
    cases ea : fc ρ with
    | no => rw [ea] at h; exact h
    | ex c n d ρ' => rw [ea] at h; exact fun F' H' cls dx s e => h σ F' H' cls dx s e
    | ok ra =>
      obtain ⟨b, ρ1⟩ := ra
      rw [ea] at h
      intro F1 H1 s1
      have h : (match (if b = true then f ρ1 else g ρ1) with
        | .ok r => ∀ σ' F' H', Stp (.of X) F H ρ σ F' H' r.2 σ' → flOk (.of X) H F' H' r.2 σ' D r.1
        | .ex c n d ρ' => ∀ σ' F' H' cls dx, Stp (.of X) F H ρ σ F' H' ρ' σ' → ERel (.of X) F' c n d cls dx → W cls dx σ' H'
        | .no => False) := h
      have go : ∀ k : FS, (match k ρ1 with
        | .ok r => ∀ σ' F' H', Stp (.of X) F H ρ σ F' H' r.2 σ' → flOk (.of X) H F' H' r.2 σ' D r.1
        | .ex c n d ρ' => ∀ σ' F' H' cls dx, Stp (.of X) F H ρ σ F' H' ρ' σ' → ERel (.of X) F' c n d cls dx → W cls dx σ' H'
        | .no => False) → tOfS (.of X) W k D σ H1 := fun k h => by
        refine ⟨ρ1, F1, s1.rel, ?_⟩
        cases eb : k ρ1 with
        | no => rw [eb] at h; exact h
        | ex c n d ρ' => rw [eb] at h; exact fun σ' F' H' cls dx s e => h σ' F' H' cls dx (s1.trans s) e
        | ok rb => rw [eb] at h; exact fun σ' F' H' s => flOk_back s1 (h σ' F' H' (s1.trans s))
      cases b with
      | true => rw [if_pos rfl] at h; show (if true = true then _ else _); rw [if_pos rfl]; exact go f h
      | false => rw [if_neg Bool.false_ne_true] at h; show (if false = true then _ else _); rw [if_neg Bool.false_ne_true]; exact go g h

/-! ### stores -/
theorem set_get_self {α : Type} {l : List α} {i : Nat} {x y : α} (h : (l.set i x)[i]? = some y) : x = y ∧ i < l.length := by
  have hi : i < (l.set i x).length := (List.getElem?_eq_some_iff.mp h).1
  rw [List.length_set] at hi
  rw [List.getElem?_set_self hi] at h
  exact ⟨Option.some.inj h, hi⟩
theorem sg_set_self {σ : Sg} {ρ : En} {i : Nat} {x : Option V} (hl : ρ.s.length = σ.length) (h : i < ρ.s.length) : (σ.set i x)[i]? = some x := by
  rw [List.getElem?_set_self (by rw [← hl]; exact h)]
theorem mu_set {ρ : En} {i j : Nat} {s : Slot} {d : D} (m : MuAt (ρ.set i s) j d) : (i = j ∧ s = .ow d ∧ i < ρ.s.length) ∨ (i ≠ j ∧ MuAt ρ j d) := by
  by_cases w : i = j
  · subst w
    obtain ⟨e, hi⟩ := set_get_self m
    exact .inl ⟨rfl, e, hi⟩
  · exact .inr ⟨w, mu_set_ne w m⟩
theorem store_sh {T : Tx} {F : Fz} {H : Hp} {ρ : En} {σ : Sg} {i : Nat} {d : D} {x : V} (r : Rel T F H ρ σ) (hd : Den T F d x) :
    Stp T F H ρ σ F H (ρ.set i (.sh d)) (σ.set i (some x)) where
  rel := by
    refine ⟨by rw [set_len, List.length_set]; exact r.len, r.sub, fun j e q => ?_, fun j e q => ?_, fun j k e e' c q q' s s' => ?_, r.lv, fun j e c q s => ?_⟩
    · by_cases w : i = j
      · subst w
        obtain ⟨z, hi⟩ := set_get_self q
        cases z
        exact ⟨x, sg_set_self r.len hi, hd⟩
      · rw [get_set_ne w] at q
        rw [List.getElem?_set_ne w]
        exact r.sh j e q
    · rcases mu_set q with ⟨_, z, _⟩ | ⟨w, q⟩
      · cases z
      · rw [List.getElem?_set_ne w]
        exact r.ow j e q
    · rcases mu_set q with ⟨_, z, _⟩ | ⟨w, q⟩
      · cases z
      · rcases mu_set q' with ⟨_, z, _⟩ | ⟨w', q'⟩
        · cases z
        · rw [List.getElem?_set_ne w] at s
          rw [List.getElem?_set_ne w'] at s'
          exact r.dis j k e e' c q q' s s'
    · rcases mu_set q with ⟨_, z, _⟩ | ⟨w, q⟩
      · cases z
      · rw [List.getElem?_set_ne w] at s
        exact r.lo j e c q s
  same := Ext.refl F
  keep := fun _ _ h _ => h
  own := fun b z => by
    rcases z with ⟨j, e, q, s⟩ | z
    · rcases mu_set q with ⟨_, z, _⟩ | ⟨w, q⟩
      · cases z
      · rw [List.getElem?_set_ne w] at s
        exact .inl (.inl ⟨j, e, q, s⟩)
    · exact .inl (.inr z)
  dom := fun _ o h => ⟨o, h⟩
  fz := fun _ _ _ _ _ => rfl
theorem store_ow {T : Tx} {F F0 : Fz} {H H0 : Hp} {ρ ρ0 : En} {σ σ0 : Sg} {i : Nat} {d : D} {a : Addr} (s0 : Stp T F0 H0 ρ0 σ0 F H ρ σ) (hn : F a = none) (h0 : H0 a = none) (no : ¬ Owned F ρ σ a) (ho : OwnAt T F H d a) :
    Stp T F0 H0 ρ0 σ0 F H (ρ.set i (.ow d)) (σ.set i (some (.ref a))) where
  rel := by
    have r := s0.rel
    refine ⟨by rw [set_len, List.length_set]; exact r.len, r.sub, fun j e q => ?_, fun j e q => ?_, fun j k e e' c q q' s s' => ?_, r.lv, fun j e c q s => ?_⟩
    · by_cases w : i = j
      · subst w
        obtain ⟨z, hi⟩ := set_get_self q
        cases z
      · rw [get_set_ne w] at q
        rw [List.getElem?_set_ne w]
        exact r.sh j e q
    · rcases mu_set q with ⟨w, z, hi⟩ | ⟨w, q⟩
      · subst w
        cases z
        exact ⟨a, sg_set_self r.len hi, hn, ho⟩
      · rw [List.getElem?_set_ne w]
        exact r.ow j e q
    · rcases mu_set q with ⟨w, z, hi⟩ | ⟨w, q⟩
      · rcases mu_set q' with ⟨w', z', _⟩ | ⟨w', q'⟩
        · exact w.symm.trans w'
        · subst w
          rw [sg_set_self r.len hi] at s
          cases s
          rw [List.getElem?_set_ne w'] at s'
          exact (no (.inl ⟨k, e', q', s'⟩)).elim
      · rcases mu_set q' with ⟨w', z', hi⟩ | ⟨w', q'⟩
        · subst w'
          rw [sg_set_self r.len hi] at s'
          cases s'
          rw [List.getElem?_set_ne w] at s
          exact (no (.inl ⟨j, e, q, s⟩)).elim
        · rw [List.getElem?_set_ne w] at s
          rw [List.getElem?_set_ne w'] at s'
          exact r.dis j k e e' c q q' s s'
    · rcases mu_set q with ⟨w, z, hi⟩ | ⟨w, q⟩
      · subst w
        rw [sg_set_self r.len hi] at s
        cases s
        exact fun z => no (.inr z)
      · rw [List.getElem?_set_ne w] at s
        exact r.lo j e c q s
  same := s0.same
  keep := s0.keep
  own := fun b z => by
    rcases z with ⟨j, e, q, s⟩ | z
    · rcases mu_set q with ⟨w, z, hi⟩ | ⟨w, q⟩
      · subst w
        rw [sg_set_self s0.rel.len hi] at s
        cases s
        exact .inr h0
      · rw [List.getElem?_set_ne w] at s
        exact s0.own b (.inl ⟨j, e, q, s⟩)
    · exact s0.own b (.inr z)
  dom := s0.dom
  fz := s0.fz
/-- a value put into a slot -/
def store (ρ : En) (i : Nat) (v : Val) : Option En := match v with
    | .sh d => some (ρ.set i (.sh d))
    | .fr d => some (ρ.set i (.ow d))
    | .rf j => (match frz ρ (.rf j) with
      | some (d, ρ') => some (ρ'.set i (.sh d))
      | none => none)
theorem store_ok' {T : Tx} {F0 F : Fz} {H0 H : Hp} {ρ0 ρ ρ' : En} {σ0 σ : Sg} {i : Nat} {v : Val} {x : V} (s : Stp T F0 H0 ρ0 σ0 F H ρ σ) (h : VRel T H0 F H ρ σ v x) (e : store ρ i v = some ρ') :
    ∃ F', Stp T F0 H0 ρ0 σ0 F' H ρ' (σ.set i (some x)) := by
  unfold store at e
  cases v with
  | sh d => cases e; exact ⟨F, s.trans (store_sh s.rel h)⟩
  | fr d =>
    cases e
    obtain ⟨a, rfl, h1, h2, h3, h4⟩ := h
    exact ⟨F, store_ow s h1 h2 h3 h4⟩
  | rf j =>
    have h : Pend T F σ (.rf j) x := h.1
    cases q : frz ρ (.rf j) with
    | none => simp only [q] at e; cases e
    | some z =>
      obtain ⟨d, ρ1⟩ := z
      simp only [q] at e
      cases e
      obtain ⟨F1, s1, d1⟩ := h.frz s.rel q
      exact ⟨F1, (s.trans s1).trans (store_sh s1.rel d1)⟩
/-- a new value made live -/
def liven (r : Val × En) : R (Val × En) := match r.1 with
  | .fr d => .ok (.sh (.ref r.2.l.length), r.2.push d)
  | .sh d => .ok (.sh d, r.2)
  | .rf _ => .no
def evLive (f : FE) : FE := fun ρ => (f ρ).bind liven
theorem se_live {e : Expr} {f : FE} (h : SE X W e f) : SE X W e (evLive f) := pe_imp h fun σ H Q ⟨ρ, F, rl, h⟩ => by
  unfold evLive at h
  refine ⟨ρ, F, rl, ?_⟩
  cases ea : f ρ with
  | no => rw [ea] at h; exact h
  | ex c n d ρ' => rw [ea] at h; exact h
  | ok ra =>
    obtain ⟨v, ρ1⟩ := ra
    rw [ea] at h
    intro x F1 H1 s1 v1
    cases v with
    | sh d => exact h x F1 H1 s1 v1
    | rf i => exact h.elim
    | fr d =>
      obtain ⟨a, rfl, h1, h2, h3, h4⟩ := v1
      obtain ⟨s2, m2, d2⟩ := s1.alive h1 h2 h3 h4
      exact h _ _ H1 s2 d2
def fsSet (i : Nat) (f : FE) : FS := fsVal f fun v ρ => match store ρ i v with
  | some ρ' => .ok (.nx, ρ')
  | none => .no
theorem ss_set {i : Nat} {x : Str} {e : Expr} {f : FE} {pos pos' : Pos} (hN : X.N.Nodup) (he : SE X W e f) (hi : X.N[i]? = some x := by rfl) (hx : Loc X.env.scope x := by first | exact Or.inl rfl | exact Or.inr rfl)
    (hs : swapsWith e (some (.Name x pos')) pos.line X.env = pure false := by rfl) (hf : X.fn x = true ∨ X.env.scope.names.lookup x = some .local := by first | exact .inl rfl | exact .inr rfl) :
    SS X W (.Assign [.Name x pos'] e pos) (fsSet i f) :=
  ps_imp (ps_set hN hi hx he hs hf) fun D σ H h => fsVal_ok h fun ρ F v ρ1 x F1 H1 s1 v1 q => by
    cases e1 : store ρ1 i v with
    | none => simp only [e1] at q
    | some ρ2 =>
      simp only [e1] at q
      obtain ⟨F2, s2⟩ := store_ok' s1 v1 e1
      exact q _ F2 H1 s2

/-! ### targets -/
inductive Pat where
  | nm (i : Nat) | tp (ps : List Pat)
mutual
def bindP : Pat → D → En → Option En
  | .nm i, d, ρ => some (ρ.set i (.sh d))
  | .tp ps, d, ρ => match d with
    | .tup ds => bindPs ps ds ρ
    | _ => none
def bindPs : List Pat → List D → En → Option En
  | [], ds, ρ => match ds with
    | [] => some ρ
    | _ => none
  | p :: ps, ds, ρ => match ds with
    | [] => none
    | d :: r => match bindP p d ρ with
      | some ρ' => bindPs ps r ρ'
      | none => none
end
mutual
def Pat.slots : Pat → List Nat
  | .nm i => [i]
  | .tp ps => slotsL ps
def slotsL : List Pat → List Nat
  | [] => []
  | p :: ps => p.slots ++ slotsL ps
end
/-- what a target leaves of the slots -/
structure Bnd (T : Tx) (F : Fz) (H : Hp) (ρ : En) (σ : Sg) (ρ' : En) (σ' : Sg) (vs : List Nat) : Prop where
  stp : Stp T F H ρ σ F H ρ' σ'
  oth : ∀ j : Nat, j ∉ vs → σ'[j]? = σ[j]?
  len : σ'.length = σ.length
def gOf (T : Tx) (p : Pat) : TG := fun v σ H Q => ∃ ρ F d ρ', Rel T F H ρ σ ∧ Den T F d v ∧ bindP p d ρ = some ρ' ∧ ∀ σ', Bnd T F H ρ σ ρ' σ' p.slots → Q σ' H
def gOfs (T : Tx) (ps : List Pat) : TGs := fun vs σ H Q => ∃ ρ F ds ρ', Rel T F H ρ σ ∧ DenL T F ds vs ∧ bindPs ps ds ρ = some ρ' ∧ ∀ σ', Bnd T F H ρ σ ρ' σ' (slotsL ps) → Q σ' H
def SG (X : Cx) (tg : Expr) (p : Pat) : Prop := PG X tg (gOf (.of X) p)
def SGs (X : Cx) (tgs : List Expr) (ps : List Pat) : Prop := PGs X tgs (gOfs (.of X) ps)
theorem pg_imp {tg : Expr} {t t' : TG} (h : PG X tg t) (i : ∀ v σ H Q, t' v σ H Q → t v σ H Q) : PG X tg t' := ⟨fun pins s σ H v u Q I r q => h.run pins s σ H v u Q I r (i v σ H Q q)⟩
theorem pgs_imp {tg : List Expr} {t t' : TGs} (h : PGs X tg t) (i : ∀ v σ H Q, t' v σ H Q → t v σ H Q) : PGs X tg t' := ⟨fun pins s σ H v u Q I r q => h.run pins s σ H v u Q I r (i v σ H Q q)⟩
theorem sg_nm {i : Nat} {x : Str} {pos : Pos} (hN : X.N.Nodup) (hi : X.N[i]? = some x := by rfl) (hx : Loc X.env.scope x := by first | exact Or.inl rfl | exact Or.inr rfl)
    (hf : X.fn x = true ∨ X.env.scope.names.lookup x = some .local := by first | exact .inl rfl | exact .inr rfl) : SG X (.Name x pos) (.nm i) :=
  pg_imp (pg_name hN hi hx hf) fun v σ H Q ⟨ρ, F, d, ρ', r, hd, hb, h⟩ => by
    simp only [bindP] at hb
    cases hb
    refine h _ ⟨store_sh r hd, fun j hj => ?_, List.length_set⟩
    exact List.getElem?_set_ne fun e => hj (by simp [Pat.slots, e])
theorem sgs_nil : SGs X [] [] := pgs_imp pgs_nil fun v σ H Q ⟨ρ, F, ds, ρ', r, hd, hb, h⟩ => by
  simp only [bindPs] at hb
  cases ds with
  | nil =>
    cases hb
    exact ⟨hd, h σ ⟨Stp.refl r, fun _ _ => rfl, rfl⟩⟩
  | cons d ds => cases hb
theorem sgs_cons {e : Expr} {es : List Expr} {p : Pat} {ps : List Pat} (h1 : SG X e p) (h2 : SGs X es ps) (hs : (assignEach (e :: es) X.env).map (·.2) = assign e X.env :: (assignEach es X.env).map (·.2) := by rfl) : SGs X (e :: es) (p :: ps) :=
  pgs_imp (pgs_cons h1 h2 hs) fun v σ H Q ⟨ρ, F, ds, ρ', r, hd, hb, h⟩ => by
    simp only [bindPs] at hb
    cases ds with
    | nil => cases hb
    | cons d ds =>
      obtain ⟨x, xr, h1, h2, h3⟩ := hd
      simp only at hb
      cases e1 : bindP p d ρ with
      | none => simp only [e1] at hb; cases hb
      | some ρ1 =>
        simp only [e1] at hb
        refine ⟨x, xr, h1, ρ, F, d, ρ1, r, h2, e1, fun σ1 b1 => ⟨ρ1, F, ds, ρ', b1.stp.rel, h3, hb, fun σ2 b2 => h σ2 ⟨b1.stp.trans b2.stp, fun j hj => ?_, b2.len.trans b1.len⟩⟩⟩
        simp only [slotsL, List.mem_append, not_or] at hj
        exact (b2.oth j hj.2).trans (b1.oth j hj.1)
theorem sg_tp {es : List Expr} {k : Nat} {ps : List Pat} {pos : Pos} (hc : X.calm = true) (h : SGs X es ps) (hl : ps.length = es.length := by rfl)
    (hn : (assignEach es X.env).length = es.length := by rfl) (hst : (assignEach es X.env).findIdx? (·.1) = none := by rfl) : SG X (.Tuple es k pos) (.tp ps) :=
  pg_imp (pg_tup hc h hn hst) fun v σ H Q ⟨ρ, F, d, ρ', r, hd, hb, h⟩ => by
    simp only [bindP] at hb
    cases d with
    | tup ds =>
      obtain ⟨a, xs, h1, h2, h3⟩ := hd
      have hlen : ∀ (ps : List Pat) (ds : List D) (ρ ρ' : En), bindPs ps ds ρ = some ρ' → ps.length = ds.length := by
        intro ps
        induction ps with
        | nil => intro ds ρ ρ' q; cases ds with
          | nil => rfl
          | cons _ _ => simp [bindPs] at q
        | cons p ps ih => intro ds ρ ρ' q; cases ds with
          | nil => simp [bindPs] at q
          | cons d ds =>
            simp only [bindPs] at q
            cases e1 : bindP p d ρ with
            | none => simp only [e1] at q; cases q
            | some ρ1 => simp only [e1] at q; rw [List.length_cons, List.length_cons, ih ds ρ1 ρ' q]
      exact ⟨a, xs, h1, Same.sqT r.sub h2, by rw [← h3.length, ← hlen ps ds ρ ρ' hb]; exact hl, ρ, F, ds, ρ', r, h3, hb, fun σ' b => h σ' ⟨b.stp, b.oth, b.len⟩⟩
    | _ => cases hb
/-- target = value, the target a tuple of names -/
def fsPat (p : Pat) (f : FE) : FS := fsVal f fun v ρ => match frz ρ v with
  | some (d, ρ1) => (match bindP p d ρ1 with
    | some ρ2 => .ok (.nx, ρ2)
    | none => .no)
  | none => .no
theorem frz_val {T : Tx} {F : Fz} {H : Hp} {F' : Fz} {H' : Hp} {ρ ρ' ρ'' : En} {σ σ' : Sg} {v : Val} {x : V} {d : D} (s : Stp T F H ρ σ F' H' ρ' σ') (h : VRel T H F' H' ρ' σ' v x) (e : frz ρ' v = some (d, ρ'')) :
    ∃ F'', Stp T F H ρ σ F'' H' ρ'' σ' ∧ Ext F' F'' ∧ Den T F'' d x := by
  obtain ⟨F2, s2, m2, p2⟩ := held_ok s h
  obtain ⟨F3, s3, d3⟩ := p2.frz s2.rel (by rw [frz_held]; exact e)
  exact ⟨F3, s2.trans s3, m2.trans s3.same, d3⟩
theorem ss_pat {tg e : Expr} {p : Pat} {f : FE} {pos : Pos} (he : SE X W e f) (hg : SG X tg p) (hs : swapsWithSole [tg] e pos.line X.env = pure false := by rfl) (hw : swappedStores [tg] e X.env = pure none := by rfl)
    (h1 : (assignEach [tg] X.env).map (·.2) = [assign tg X.env] := by rfl) : SS X W (.Assign [tg] e pos) (fsPat p f) :=
  ps_imp (ps_asg he hg hs hw h1) fun D σ H h => fsVal_ok h fun ρ F v ρ1 x F1 H1 s1 v1 q => by
    cases e1 : frz ρ1 v with
    | none => simp only [e1] at q
    | some z =>
      obtain ⟨d, ρ2⟩ := z
      simp only [e1] at q
      cases e2 : bindP p d ρ2 with
      | none => simp only [e2] at q
      | some ρ3 =>
        simp only [e2] at q
        obtain ⟨F2, s2, _, d2⟩ := frz_val s1 v1 e1
        exact ⟨ρ2, F2, d, ρ3, s2.rel, d2, e2, fun σ' b => q σ' F2 H1 (s2.trans b.stp)⟩

/-! ### an object changed -/
/-- what a value's object holds, if it may be changed -/
def muV (ρ : En) : Val → Option D
  | .rf i => (match ρ.s[i]? with
    | some (.ow d) => some d
    | _ => none)
  | .sh (.ref n) => ρ.l[n]?
  | _ => none
def setMu (ρ : En) (v : Val) (d : D) : En := match v with
  | .rf i => ρ.set i (.ow d)
  | .sh (.ref n) => ⟨ρ.s, ρ.l.set n d⟩
  | _ => ρ
theorem muV_at {T : Tx} {F : Fz} {H : Hp} {ρ : En} {σ : Sg} {v : Val} {x : V} {d : D} (r : Rel T F H ρ σ) (h : Pend T F σ v x) (e : muV ρ v = some d) : ∃ a, x = .ref a ∧ F a = none ∧ OwnAt T F H d a ∧ Owned F ρ σ a := by
  cases v with
  | fr d => cases e
  | rf i =>
    have h : σ[i]? = some (some x) := h
    unfold muV at e
    simp only at e
    cases q : ρ.s[i]? with
    | none => simp only [q] at e; cases e
    | some s =>
      cases s with
      | un => simp only [q] at e; cases e
      | sh d0 => simp only [q] at e; cases e
      | ow d0 =>
        simp only [q] at e
        cases e
        obtain ⟨a, h1, h2, h3⟩ := r.ow i _ q
        rw [h] at h1; cases h1
        exact ⟨a, rfl, h2, h3, .inl ⟨i, _, q, h⟩⟩
  | sh d0 =>
    cases d0 with
    | ref n =>
      obtain ⟨a, rfl, h2⟩ := h
      have e : ρ.l[n]? = some d := e
      obtain ⟨h3, h4⟩ := r.lv.ok n d a e h2
      exact ⟨a, rfl, h3, h4, .inr (List.mem_of_getElem? h2)⟩
    | _ => cases e
theorem mutate {T : Tx} {F : Fz} {H : Hp} {ρ : En} {σ : Sg} {v : Val} {d d' : D} {a : Addr} {o : HO} (r : Rel T F H ρ σ) (hp : Pend T F σ v (.ref a)) (hm : muV ρ v = some d) (ho : OwnAt T F (upd H a o) d' a) :
    Stp T F H ρ σ F (upd H a o) (setMu ρ v d') σ := by
  obtain ⟨b, eb, hn, od, own⟩ := muV_at r hp hm
  cases eb
  obtain ⟨ob, hob, nob⟩ := od.some
  have no : ∀ c, H a ≠ some (.own c) := fun c z => by rw [hob] at z; exact nob c (Option.some.inj z)
  have sub : Same F.hp (upd H a o) := fun c u q => by
    rw [upd_ne (fun z => by rw [z, hn] at q; cases q)]
    exact r.sub c u q
  have oth : ∀ {c : Addr} {e : D}, c ≠ a → OwnAt T F H e c → OwnAt T F (upd H a o) e c := fun {c e} hne s3 =>
    s3.mono (Ext.refl F) (upd_ne hne) fun f z => by rw [upd_ne (fun z' => no c (by rw [← z']; exact z))]; exact z
  have kp : ∀ b o', H b = some o' → ¬ Owned F ρ σ b → upd H a o b = some o' := fun b o' q n => by
    rw [upd_ne (fun z => n (by rw [z]; exact own))]
    exact q
  have dm : ∀ b o', H b = some o' → ∃ o'', upd H a o b = some o'' := fun b u q => by
    by_cases w : b = a
    · subst w; exact ⟨_, upd_same⟩
    · exact ⟨u, by rw [upd_ne w]; exact q⟩
  cases v with
  | fr _ => cases hm
  | rf i =>
    have ha : σ[i]? = some (some (.ref a)) := hp
    have hs : MuAt ρ i d := by
      unfold muV at hm
      simp only at hm
      split at hm
      · rename_i q; cases hm; exact q
      · cases hm
    show Stp T F H ρ σ F (upd H a o) (ρ.set i (.ow d')) σ
    have mm : ∀ j e, MuAt (ρ.set i (.ow d')) j e → ∃ e', MuAt ρ j e' := fun j e m => by
      rcases mu_set m with ⟨w, _, _⟩ | ⟨_, m⟩
      · exact ⟨d, by rw [← w]; exact hs⟩
      · exact ⟨e, m⟩
    refine ⟨⟨by rw [set_len]; exact r.len, sub, fun j e q => ?_, fun j e q => ?_, fun j k e e' c q q' s s' => ?_, ?_, fun j e c q s => ?_⟩, Ext.refl F, kp, fun c z => .inl ?_, dm, fun _ _ _ _ _ => rfl⟩
    · by_cases w : i = j
      · subst w
        obtain ⟨z, _⟩ := set_get_self q
        cases z
      · rw [get_set_ne w] at q
        exact r.sh j e q
    · rcases mu_set q with ⟨w, z, hi⟩ | ⟨w, q⟩
      · subst w
        cases z
        exact ⟨a, ha, hn, ho⟩
      · obtain ⟨c, s1, s2, s3⟩ := r.ow j e q
        have hne : c ≠ a := fun z => w (r.dis i j d e a hs q ha (by rw [s1, z]))
        exact ⟨c, s1, s2, oth hne s3⟩
    · obtain ⟨f, q⟩ := mm j e q
      obtain ⟨f', q'⟩ := mm k e' q'
      exact r.dis j k f f' c q q' s s'
    · refine r.lv.keep (Ext.refl F) rfl (fun c hc => ?_) (fun c hc => upd_ne fun z => r.lo i d a hs ha (by rw [← z]; exact hc)) fun c hc b z => ?_
      · obtain ⟨_, _, _, _, hn', _⟩ := r.lv.mem hc
        exact hn'
      · rw [upd_ne (fun z' => no c (by rw [← z']; exact z))]; exact z
    · obtain ⟨f, q⟩ := mm j e q
      exact r.lo j f c q s
    · rcases z with ⟨j, e, q, s⟩ | z
      · obtain ⟨f, q⟩ := mm j e q
        exact .inl ⟨j, f, q, s⟩
      · exact .inr z
  | sh d0 =>
    cases d0 with
    | ref n =>
      obtain ⟨a', ea, h2⟩ := hp
      cases ea
      have hl : ρ.l[n]? = some d := hm
      show Stp T F H ρ σ F (upd H a o) ⟨ρ.s, ρ.l.set n d'⟩ σ
      have ma : a ∈ F.as := List.mem_of_getElem? h2
      refine ⟨⟨r.len, sub, r.sh, fun j e q => ?_, r.dis, ⟨by rw [List.length_set]; exact r.lv.len, fun m e c q1 q2 => ?_, r.lv.dis⟩, r.lo⟩, Ext.refl F, kp, fun c z => .inl z, dm, fun _ _ _ _ _ => rfl⟩
      · obtain ⟨c, s1, s2, s3⟩ := r.ow j e q
        exact ⟨c, s1, s2, oth (fun z => r.lo j e c q s1 (by rw [z]; exact ma)) s3⟩
      · have q1 : (ρ.l.set n d')[m]? = some e := q1
        by_cases w : n = m
        · subst w
          obtain ⟨z, _⟩ := set_get_self q1
          subst z
          rw [h2] at q2
          cases q2
          exact ⟨hn, ho⟩
        · rw [List.getElem?_set_ne w] at q1
          obtain ⟨z1, z2⟩ := r.lv.ok m e c q1 q2
          exact ⟨z1, oth (fun z => w (r.lv.num h2 (by rw [← z]; exact q2))) z2⟩
    | _ => cases hm
/-- the target of a change: an expression whose object may be changed -/
theorem pend_of {T : Tx} {F F' : Fz} {H H' : Hp} {ρ ρ' : En} {σ : Sg} {v : Val} {x : V} {d : D} (h : VRel T H F' H' ρ' σ v x) (e : muV ρ' v = some d) : Pend T F' σ v x := by
  cases v with
  | sh d => exact h
  | fr d => cases e
  | rf i => exact h.1
/-- a method that changes its object: what it holds then, what comes back -/
def MuS (X : Cx) (r : V → List V → Hp → VK → Prop) (g : D → List D → Option (D × D)) : Prop :=
  ∀ (F : Fz) (H : Hp) (a : Addr) (xs : List V) (d : D) (ds : List D) (d' z : D) (Q : VK), Same F.hp H → F a = none → OwnAt (.of X) F H d a → DenL (.of X) F ds xs → g d ds = some (d', z) →
    (∀ w o, OwnAt (.of X) F (upd H a o) d' a → Den (.of X) F z w → Q w (upd H a o)) → r (.ref a) xs H Q
def meth (g : D → List D → Option (D × D)) (v : Val) (r : List Val × En) : R (Val × En) := match frzL r.2 r.1 with
  | some (ds, ρ) => (match muV ρ v with
    | some d => (match g d ds with
      | some (d', z) => .ok (.sh z, setMu ρ v d')
      | none => .no)
    | none => .no)
  | none => .no
def isLst : Option D → Bool
  | some (.lst _) => true
  | _ => false
/-- o.name(e, ..), o a list -/
def evM (g : D → List D → Option (D × D)) (ft : FE) (fa : FA) : FE := fun ρ => (ft ρ).bind fun r => if isLst (muV r.2 r.1) = true then (fa r.2).bind (meth g r.1) else .no
theorem evM_ok {ft : FE} {fa : FA} {g : D → List D → Option (D × D)} {r : V → List V → Hp → VK → Prop} (hr : MuS X r g) {σ : Sg} {H : Hp} {Q : VK} (h : tOf (.of X) W (evM g ft fa) σ H Q) :
    tOf (.of X) W ft σ H fun x H1 => (∃ a xs, x = .ref a ∧ H1 a = some (.lst xs)) ∧ tOfA (.of X) W fa σ H1 fun xs H2 => r x xs H2 Q := by
  obtain ⟨ρ, F, rl, h⟩ := h
  unfold evM at h
  refine ⟨ρ, F, rl, ?_⟩
  cases ea : ft ρ with
  | no => rw [ea] at h; exact h
  | ex c n d ρ' => rw [ea] at h; exact h
  | ok ra =>
    obtain ⟨v, ρ1⟩ := ra
    rw [ea] at h
    intro x F1 H1 s1 v1
    have h : (match (if isLst (muV ρ1 v) = true then (fa ρ1).bind (meth g v) else R.no) with
      | .ok r => ∀ x F' H', Stp (.of X) F H ρ σ F' H' r.2 σ → VRel (.of X) H F' H' r.2 σ r.1 x → Q x H'
      | .ex c n d ρ' => ∀ F' H' cls dx, Stp (.of X) F H ρ σ F' H' ρ' σ → ERel (.of X) F' c n d cls dx → W cls dx σ H'
      | .no => False) := h
    by_cases hL : isLst (muV ρ1 v) = true
    · rw [if_pos hL] at h
      cases em : muV ρ1 v with
      | none => rw [em] at hL; cases hL
      | some d0 =>
        cases d0 with
        | lst ds0 =>
          have p1 := pend_of (F := F) (ρ := ρ) v1 em
          obtain ⟨a, rfl, _, ⟨xs0, hx0, _⟩, _⟩ := muV_at s1.rel p1 em
          refine ⟨⟨a, xs0, rfl, hx0⟩, ρ1, F1, s1.rel, ?_⟩
          cases eb : fa ρ1 with
          | no => rw [eb] at h; exact h
          | ex c n d ρ' => rw [eb] at h; exact fun F' H' cls dx s e => h F' H' cls dx (s1.trans s) e
          | ok rb =>
            rw [eb] at h
            intro xs F2 H2 s2 p2
            have h : (match meth g v rb with
              | .ok r => ∀ x F' H', Stp (.of X) F H ρ σ F' H' r.2 σ → VRel (.of X) H F' H' r.2 σ r.1 x → Q x H'
              | .ex c n d ρ' => ∀ F' H' cls dx, Stp (.of X) F H ρ σ F' H' ρ' σ → ERel (.of X) F' c n d cls dx → W cls dx σ H'
              | .no => False) := h
            unfold meth at h
            cases e1 : frzL rb.2 rb.1 with
            | none => simp only [e1] at h
            | some z =>
              obtain ⟨ds, ρ3⟩ := z
              simp only [e1] at h
              obtain ⟨F3, s3, d3⟩ := p2.frz s2.rel e1
              cases e2 : muV ρ3 v with
              | none => simp only [e2] at h
              | some d =>
                simp only [e2] at h
                cases e3 : g d ds with
                | none => simp only [e3] at h
                | some z =>
                  obtain ⟨d', z⟩ := z
                  simp only [e3] at h
                  have p3 := p1.mono (s2.same.trans s3.same)
                  obtain ⟨b, eb, fn, ob, _⟩ := muV_at s3.rel p3 e2
                  cases eb
                  refine hr F3 H2 a xs d ds d' z Q s3.rel.sub fn ob d3 e3 fun w o ho hw => ?_
                  exact h w F3 _ (((s1.trans s2).trans s3).trans (mutate s3.rel p3 e2 ho)) hw
        | _ => rw [em] at hL; cases hL
    · rw [if_neg hL] at h; exact h.elim
theorem se_m {o e : Expr} {es : List Expr} {ft : FE} {fa : FA} {name : Str} {id : String} {apos cpos : Pos} {g : D → List D → Option (D × D)} {r : V → List V → Hp → VK → Prop} (slot : PySem.Slot "list" name id) (hty : typeOf (.builtin id) = pure (.type "method_descriptor")) (hm : MtM X id r) (hr : MuS X r g) (ho : SE X W o ft) (ha : SA X W (e :: es) fa)
    (hbase : attributeBase o name X.env (eval o X.env) = eval o X.env := by rfl)
    (hfew : ((backTo cpos (starEach (e :: es) X.env)).all (fun x => !x.1) && (backToKw cpos (keywordEach [] X.env)).all (fun x => x.1.isSome)
      && decide ((e :: es).length + ([] : List Keyword).length + (if ([] : List Keyword).isEmpty then 0 else 1) < 30)) = true := by rfl)
    (hline : (apos.endLine == cpos.line) = true := by rfl) (hs : starEach (e :: es) X.env = (false, eval e X.env) :: starEach es X.env := by rfl) (hplain : (backTo cpos (starEach es X.env)).any (·.1) = false := by rfl) :
    SE X W (.Call (.Attribute o name apos) (e :: es) [] cpos) (evM g ft fa) :=
  pe_imp (pe_bm PySem.F.plainAttrs_list slot hty hm ho ha hbase hfew hline hs hplain) fun σ H Q h => by
    obtain ⟨ρ, F, rl, z⟩ := evM_ok hr h
    refine ⟨ρ, F, rl, ?_⟩
    cases ea : ft ρ with
    | no => rw [ea] at z; exact z
    | ex c n d ρ' => rw [ea] at z; exact z
    | ok ra =>
      rw [ea] at z
      intro x F' H' s v
      obtain ⟨⟨a, xs, rfl, hx⟩, q⟩ := z x F' H' s v
      exact ⟨.inl ⟨rfl, xs, SqL.of hx⟩, q⟩
theorem se_m0 {o : Expr} {ft : FE} {name : Str} {id : String} {apos cpos : Pos} {g : D → List D → Option (D × D)} {r : V → List V → Hp → VK → Prop} (slot : PySem.Slot "list" name id) (hty : typeOf (.builtin id) = pure (.type "method_descriptor")) (hm : MtM X id r) (hr : MuS X r g) (ho : SE X W o ft)
    (hbase : attributeBase o name X.env (eval o X.env) = eval o X.env := by rfl) (hline : (apos.endLine == cpos.line) = true := by rfl) : SE X W (.Call (.Attribute o name apos) [] [] cpos) (evM g ft faNil) :=
  pe_imp (pe_bm0 PySem.F.plainAttrs_list slot hty hm ho hbase hline) fun σ H Q h => by
    obtain ⟨ρ, F, rl, z⟩ := evM_ok hr h
    refine ⟨ρ, F, rl, ?_⟩
    cases ea : ft ρ with
    | no => rw [ea] at z; exact z
    | ex c n d ρ' => rw [ea] at z; exact z
    | ok ra =>
      rw [ea] at z
      intro x F' H' s v
      obtain ⟨⟨a, xs, rfl, hx⟩, ρ2, F2, r2, q⟩ := z x F' H' s v
      exact ⟨.inl ⟨rfl, xs, SqL.of hx⟩, q [] F2 H' (Stp.refl r2) rfl⟩
def appD : D → List D → Option (D × D)
  | .lst ds, [d] => if ds.length < 16777216 then some (.lst (ds ++ [d]), .non) else none
  | _, _ => none
theorem ms_app : MuS X rAppend appD := fun F H a xs d ds d' z Q s fn ho hd hg k => by
  unfold appD at hg
  split at hg
  · split at hg
    · rename_i hl
      cases hg
      obtain ⟨ys, h1, h2⟩ := ho
      obtain ⟨x, r, rfl, hx, hr⟩ := hd
      have hr : r = [] := hr
      subst hr
      exact ⟨a, ys, x, rfl, rfl, h1, size_lt (by rw [← h2.length]; exact hl), k _ _ ⟨_, upd_same, h2.snoc hx⟩ rfl⟩
    · cases hg
  · cases hg
theorem se_app {o e : Expr} {ft : FE} {fa : FA} {apos cpos : Pos} (ho : SE X W o ft) (ha : SA X W [e] fa)
    (hbase : attributeBase o "append" X.env (eval o X.env) = eval o X.env := by rfl)
    (hfew : ((backTo cpos (starEach [e] X.env)).all (fun x => !x.1) && (backToKw cpos (keywordEach [] X.env)).all (fun x => x.1.isSome)
      && decide ([e].length + ([] : List Keyword).length + (if ([] : List Keyword).isEmpty then 0 else 1) < 30)) = true := by rfl)
    (hline : (apos.endLine == cpos.line) = true := by rfl) (hs : starEach [e] X.env = (false, eval e X.env) :: starEach [] X.env := by rfl) (hplain : (backTo cpos (starEach [] X.env)).any (·.1) = false := by rfl) :
    SE X W (.Call (.Attribute o "append" apos) [e] [] cpos) (evM appD ft fa) :=
  se_m PySem.F.slot_list_append PySem.F.type_list_append mt_append ms_app ho ha hbase hfew hline hs hplain
/-- o[i] = e -/
def PutS (X : Cx) (t : TSet) (g : D → D → D → Option D) : Prop :=
  ∀ (F : Fz) (H : Hp) (a : Addr) (x y : V) (d k v d' : D) (Q : Hp → Prop), Same F.hp H → F a = none → OwnAt (.of X) F H d a → Den (.of X) F k x → Den (.of X) F v y → g d k v = some d' →
    (∀ o, OwnAt (.of X) F (upd H a o) d' a → Q (upd H a o)) → t (.ref a) x y H Q
def putEnd (g : D → D → D → Option D) (d : D) (v : Val) (r : Val × En) : R (Fl × En) := match frz r.2 r.1 with
  | some (k, ρ) => (match muV ρ v with
    | some c => (match g c k d with
      | some c' => .ok (.nx, setMu ρ v c')
      | none => .no)
    | none => .no)
  | none => .no
def putV (g : D → D → D → Option D) (ft fi : FE) (v : Val) (ρ : En) : R (Fl × En) := match frz ρ v with
  | some (d, ρ1) => (ft ρ1).bind fun t => if (muV t.2 t.1).isSome = true then (fi t.2).bind (putEnd g d t.1) else .no
  | none => .no
def fsPut (g : D → D → D → Option D) (ft fi f : FE) : FS := fsVal f (putV g ft fi)
theorem ss_put {o e b : Expr} {ft f fi : FE} {t : TSet} {g : D → D → D → Option D} {p2 pos : Pos} (hps : PSet X t) (hp : PutS X t g) (ho : SE X W o ft) (he : SE X W e f) (hb : SE X W b fi)
    (ha : ∀ v, assign (.Subscript o b p2) X.env v = (do
      let ov ← holding [v] (eval o X.env)
      let iv ← holding [v, ov] (eval b X.env)
      standAt p2
      holding [v, ov, iv] (setItem ov iv v)
      release [v, ov, iv] []) := by intro _; rfl)
    (hs : swapsWithSole [.Subscript o b p2] e pos.line X.env = pure false := by rfl) (hw : swappedStores [.Subscript o b p2] e X.env = pure none := by rfl)
    (h1 : (assignEach [.Subscript o b p2] X.env).map (·.2) = [assign (.Subscript o b p2) X.env] := by rfl) :
    SS X W (.Assign [.Subscript o b p2] e pos) (fsPut g ft fi f) :=
  ps_imp (ps_asg he (pg_sub ho hb hps ha) hs hw h1) fun D σ H h => fsVal_ok h fun ρ F v ρ1 x F1 H1 s1 v1 q => by
    unfold putV at q
    cases e1 : frz ρ1 v with
    | none => simp only [e1] at q
    | some z =>
      obtain ⟨d, ρ2⟩ := z
      simp only [e1] at q
      obtain ⟨F2, s2, _, d2⟩ := frz_val s1 v1 e1
      refine ⟨ρ2, F2, s2.rel, ?_⟩
      cases e2 : ft ρ2 with
      | no => simp only [e2, R.bind] at q
      | ex c n d ρ' =>
        simp only [e2, R.bind] at q
        exact fun F' H' cls dx s e => q σ F' H' cls dx (s2.trans s) e
      | ok rt =>
        obtain ⟨u, ρ3⟩ := rt
        simp only [e2, R.bind] at q
        intro y F3 H3 s3 v3
        have s23 := s2.trans s3
        by_cases hm : (muV ρ3 u).isSome = true
        · simp only [hm, if_true] at q
          cases em : muV ρ3 u with
          | none => rw [em] at hm; cases hm
          | some c0 =>
            have p3 := pend_of (F := F) (ρ := ρ) v3 em
            obtain ⟨a, rfl, _, _, _⟩ := muV_at s3.rel p3 em
            refine ⟨ρ3, F3, s3.rel, ?_⟩
            cases e3 : fi ρ3 with
            | no => simp only [e3] at q
            | ex c n d ρ' =>
              simp only [e3] at q
              exact fun F' H' cls dx s e => q σ F' H' cls dx (s23.trans s) e
            | ok ri =>
              simp only [e3] at q
              intro k F4 H4 s4 v4
              unfold putEnd at q
              cases e4 : frz ri.2 ri.1 with
              | none => simp only [e4] at q
              | some z =>
                obtain ⟨dk, ρ5⟩ := z
                simp only [e4] at q
                obtain ⟨F5, s5, _, d5⟩ := frz_val s4 v4 e4
                cases e5 : muV ρ5 u with
                | none => simp only [e5] at q
                | some c =>
                  simp only [e5] at q
                  cases e6 : g c dk d with
                  | none => simp only [e6] at q
                  | some c' =>
                    simp only [e6] at q
                    have p5 := p3.mono s5.same
                    obtain ⟨b, eb, fn, ob, _⟩ := muV_at s5.rel p5 e5
                    cases eb
                    refine hp F5 H4 a k x c dk d c' _ s5.rel.sub fn ob d5 (d2.mono (s3.same.trans s5.same)) e6 fun o ho => ?_
                    exact q σ F5 _ ((s23.trans s5).trans (mutate s5.rel p5 e5 ho))
        · simp only [hm] at q; exact q.elim
def putL : D → D → D → Option D
  | .lst ds, .int k, v => (match ixN ds.length k with
    | some j => some (.lst (ds.set j v))
    | none => none)
  | _, _, _ => none
theorem ps_putL : PutS X rSetL putL := fun F H a x y d k v d' Q s fn ho hk hv hg q => by
  unfold putL at hg
  split at hg
  · split at hg
    · rename_i j hj
      cases hg
      obtain ⟨xs, h1, h2⟩ := ho
      exact ⟨a, xs, _, j, rfl, hk, h1, by rw [← h2.length]; exact hj, q _ ⟨_, upd_same, h2.set hv j⟩⟩
    · cases hg
  · cases hg
/-- x op= e -/
def augV (i : Nat) (g : D → D → Option Val) (d : D) (v : Val) (ρ : En) : R (Fl × En) := match peek ρ v with
  | some e => (match g d e with
    | some z => (match store ρ i z with
      | some ρ' => .ok (.nx, ρ')
      | none => .no)
    | none => .no)
  | none => .no
def fsAug (i : Nat) (g : D → D → Option Val) (f : FE) : FS := fun ρ => match ρ.s[i]? with
  | some (.sh d) => fsVal f (augV i g d) ρ
  | _ => .no
theorem ss_aug {i : Nat} {x : Str} {e : Expr} {f : FE} {op : Operator} {g : D → D → Option Val} {pos pos' : Pos} (hN : X.N.Nodup) (ho : OpS X (inplaceOp op) g) (he : SE X W e f) (hi : X.N[i]? = some x := by rfl) (hx : Loc X.env.scope x := by first | exact Or.inl rfl | exact Or.inr rfl)
    (hf : X.fn x = true ∨ X.env.scope.names.lookup x = some .local := by first | exact .inl rfl | exact .inr rfl) : SS X W (.AugAssign (.Name x pos') op e pos) (fsAug i g f) := by
  obtain ⟨r, h1, h2⟩ := ho
  refine ps_imp (ps_aug hN hi hx he (show PIp X op r from h1) hf) fun D σ H h => ?_
  obtain ⟨ρ, F, rl, h⟩ := h
  unfold fsAug at h
  cases e0 : ρ.s[i]? with
  | none => simp only [e0] at h
  | some s =>
    cases s with
    | sh d =>
      simp only [e0] at h
      obtain ⟨x0, hx0, hd0⟩ := rl.sh i d e0
      refine ⟨x0, hx0, ?_⟩
      have hk := h
      unfold fsVal at h
      refine ⟨ρ, F, rl, ?_⟩
      cases ea : f ρ with
      | no => rw [ea] at h; exact h
      | ex c n d ρ' => rw [ea] at h; exact fun F' H' cls dx s e => h σ F' H' cls dx s e
      | ok ra =>
        rw [ea] at h
        intro y F1 H1 s1 v1
        have h : (match augV i g d ra.1 ra.2 with
          | .ok r => ∀ σ' F' H', Stp (.of X) F H ρ σ F' H' r.2 σ' → flOk (.of X) H F' H' r.2 σ' D r.1
          | .ex c n d ρ' => ∀ σ' F' H' cls dx, Stp (.of X) F H ρ σ F' H' ρ' σ' → ERel (.of X) F' c n d cls dx → W cls dx σ' H'
          | .no => False) := h
        unfold augV at h
        obtain ⟨F2, s2, m2, p2⟩ := held_ok s1 v1
        cases e1 : peek ra.2 ra.1 with
        | none => simp only [e1] at h
        | some e =>
          simp only [e1] at h
          cases e2 : g d e with
          | none => simp only [e2] at h
          | some z =>
            simp only [e2] at h
            cases e3 : store ra.2 i z with
            | none => simp only [e3] at h
            | some ρ3 =>
              simp only [e3] at h
              have k2 := p2.peek s2.rel (by rw [peek_held]; exact e1)
              refine h2 F2 H1 x0 y d e z _ s2.rel.sub (.inl (hd0.mono s2.same)) k2 e2 fun w F5 H5 n5 r5 => ?_
              have s5 := s2.trans (n5.stp s2.rel)
              obtain ⟨F6, s6⟩ := store_ok' s5 ((r5.vrel s2.rel n5).back s2) e3
              exact h _ F6 H5 s6
    | _ => simp only [e0] at h
end
end Tr
/-! Tr, part D: what is walked, for, while, comprehensions. -/
namespace Tr
open PySem PySem.Spec PyProof.Rows L2
section
variable {X : Cx} {W : WX}

/-- what is walked: the items as they stand; the number of the live list that they come from -/
structure Its where
  ds : List D
  lv : Option Nat
/-- the item at i, as it is when its turn comes -/
def cur (L : List D) (o : Option Nat) (i : Nat) (d : D) : Option D := match o with
  | none => some d
  | some n => (match L[n]? with
    | some (.lst ds) => ds[i]?
    | _ => none)
/-- nothing is left at i -/
def fin (L : List D) (o : Option Nat) (i : Nat) : Bool := match o with
  | none => true
  | some n => (match L[n]? with
    | some (.lst ds) => decide (ds.length ≤ i)
    | _ => false)
/-- J yields the items, one after another, whatever else happens meanwhile -/
def Wk (T : Tx) (F : Fz) (J : It) (t : Its) : Prop := ∀ (Fc : Fz) (Hc : Hp) (L : List D), Ext F Fc → Same Fc.hp Hc → Live T Fc Hc L → ∀ i : Nat,
  (∀ d d', t.ds[i]? = some d → cur L t.lv i d = some d' → J.go i Hc ∧ ∀ x H', J.yld i Hc x H' → ∃ F', New T Fc Hc F' H' ∧ Den T F' d' x) ∧ (t.ds.length ≤ i → fin L t.lv i = true → J.stop i Hc)
abbrev FI := En → R (Its × En)
def tOfI (T : Tx) (W : WX) (f : FI) : TI := fun σ H Q => ∃ ρ F, Rel T F H ρ σ ∧ match f ρ with
  | .ok r => ∀ J F' H', Stp T F H ρ σ F' H' r.2 σ → Wk T F' J r.1 → Q J H'
  | .ex c n d ρ' => ∀ F' H' cls dx, Stp T F H ρ σ F' H' ρ' σ → ERel T F' c n d cls dx → W cls dx σ H'
  | .no => False
def SI (X : Cx) (W : WX) (tg e : Expr) (f : FI) : Prop := PI X tg e (tOfI (.of X) W f)
theorem pi_imp {tg e : Expr} {t t' : TI} (h : PI X tg e t) (i : ∀ σ H Q, t' σ H Q → t σ H Q) : PI X tg e t' := ⟨fun pins s σ H Q I q => h.run pins s σ H Q I (i σ H Q q)⟩
/-- a list or a tuple -/
def asQ (r : Val × En) : R (Its × En) := match r.1 with
  | .sh (.ref n) => (match r.2.l[n]? with
    | some (.lst ds) => .ok (⟨ds, some n⟩, r.2)
    | _ => .no)
  | v => (match frz r.2 v with
    | some (.lst ds, ρ) => .ok (⟨ds, none⟩, ρ)
    | some (.tup ds, ρ) => .ok (⟨ds, none⟩, ρ)
    | _ => .no)
theorem wk_list {T : Tx} {F : Fz} {a : Addr} {xs : List V} {ds : List D} (h : SqL T.K F a xs) (hd : DenL T F ds xs) : Wk T F (Itl T.K a) ⟨ds, none⟩ := fun Fc Hc L s1 s2 lv i => by
  have q : SqL T.K Hc a xs := Same.sqL s2 (Same.sqL s1.hp h)
  refine ⟨fun d d' e e' => ?_, fun hl _ => ⟨xs, q, by rw [← hd.length]; exact hl⟩⟩
  cases e'
  obtain ⟨x, hx, dx⟩ := hd.get e
  refine ⟨⟨xs, x, q, hx⟩, fun y H' ⟨e1, e2⟩ => ?_⟩
  subst e1
  have ey : x = y := Option.some.inj (hx.symm.trans (e2 xs q))
  subst ey
  exact ⟨Fc, New.refl s2, dx.mono s1⟩
theorem wk_live {T : Tx} {F : Fz} {a : Addr} {n : Nat} {ds : List D} (h : F.as[n]? = some a) : Wk T F (Itl T.K a) ⟨ds, some n⟩ := fun Fc Hc L s1 s2 lv i => by
  have ha := s1.as n a h
  refine ⟨fun d d' _ e' => ?_, fun _ hl => ?_⟩
  · simp only [cur] at e'
    split at e'
    · rename_i es q
      obtain ⟨_, xs, h1, h2⟩ := lv.ok n _ a q ha
      obtain ⟨x, hx, dx⟩ := h2.get e'
      have q' : SqL T.K Hc a xs := SqL.of h1
      refine ⟨⟨xs, x, q', hx⟩, fun y H' ⟨e1, e2⟩ => ?_⟩
      subst e1
      have ey : x = y := Option.some.inj (hx.symm.trans (e2 xs q'))
      subst ey
      exact ⟨Fc, New.refl s2, dx⟩
    · cases e'
  · simp only [fin] at hl
    split at hl
    · rename_i es q
      obtain ⟨_, xs, h1, h2⟩ := lv.ok n _ a q ha
      exact ⟨xs, SqL.of h1, by rw [← h2.length]; exact of_decide_eq_true hl⟩
    · cases hl
theorem wk_tup {T : Tx} {F : Fz} {a : Addr} {xs : List V} {ds : List D} (h : SqT T.K F a xs) (hd : DenL T F ds xs) : Wk T F (Itt T.K a) ⟨ds, none⟩ := fun Fc Hc L s1 s2 lv i => by
  have q : SqT T.K Hc a xs := Same.sqT s2 (Same.sqT s1.hp h)
  refine ⟨fun d d' e e' => ?_, fun hl _ => ⟨xs, q, by rw [← hd.length]; exact hl⟩⟩
  cases e'
  obtain ⟨x, hx, dx⟩ := hd.get e
  refine ⟨⟨xs, x, q, hx⟩, fun y H' ⟨e1, e2⟩ => ?_⟩
  subst e1
  have ey : x = y := Option.some.inj (hx.symm.trans (e2 xs q))
  subst ey
  exact ⟨Fc, New.refl s2, dx.mono s1⟩
theorem wk_range {T : Tx} {F : Fz} (lo : Int) (n : Nat) : Wk T F (Itr lo n) ⟨(List.range n).map fun (i : Nat) => D.int (lo + i), none⟩ := fun Fc Hc L s1 s2 lv i => by
  refine ⟨fun d d' e e' => ?_, fun hl _ => ?_⟩
  · cases e'
    simp only [List.getElem?_map] at e
    by_cases hi : i < n
    · rw [List.getElem?_range hi] at e
      cases e
      exact ⟨hi, fun x H' ⟨e1, e2⟩ => by subst e1; exact ⟨Fc, New.refl s2, e2⟩⟩
    · rw [List.getElem?_eq_none (by rw [List.length_range]; omega)] at e
      cases e
  · simp only [List.length_map, List.length_range] at hl
    exact hl
/-- what an iterable's expression gives, taken as items -/
def fiOf (f : FE) (k : Val × En → R (Its × En)) : FI := fun ρ => (f ρ).bind k
/-- a list or a tuple, as it comes -/
theorem pi_seq {tg l : Expr} {tl : TE} (hl : PE X l tl) : PI X tg l (fun σ H R => tl σ H fun x H1 => ∃ a, x = .ref a ∧ ((∃ xs, SqL X.K H1 a xs) ∧ R (Itl X.K a) H1 ∨ (∃ xs, SqT X.K H1 a xs) ∧ R (Itt X.K a) H1)) := by
  refine ⟨fun pins s σ H R I h => thn (hl.run pins s σ H _ I h) fun v s1 hh => ?_⟩
  obtain ⟨x, H1, I1, r1, a, e, q⟩ := hh
  subst e
  cases r1
  have fp : ∀ b ∈ [s1.heap.objs.size], FpOk X pins H1 b := fun b hb => by
    rw [List.mem_singleton.mp hb]
    exact I1.fpOk (Nat.le_refl _) (I1.hok.fresh (Nat.le_refl _))
  rcases q with ⟨⟨xs, hq⟩, q⟩ | ⟨⟨xs, hq⟩, q⟩
  · obtain ⟨its, _, p, _⟩ := I1.list hq
    exact wpAny_pyIter_list p.isList ⟨_, _, _, _, H1, rfl, I1.kept (t' := s1.toks) (fun b o e => Heap.get?_push_of_some _ e), turn_list a _, ⟨_, Heap.get?_push_size _ rfl, rfl, rfl⟩, fp, q⟩
  · obtain ⟨its, _, p, _⟩ := I1.tuple hq
    exact wpAny_pyIter_tuple (show s1.heap.IsTuple a its.toArray from p) ⟨_, _, _, _, H1, rfl, I1.kept (t' := s1.toks) (fun b o e => Heap.get?_push_of_some _ e), turn_tuple a _, ⟨_, Heap.get?_push_size _ rfl, rfl, rfl⟩, fp, q⟩
theorem si_seq {tg e : Expr} {f : FE} (he : SE X W e f) : SI X W tg e (fiOf f asQ) :=
  pi_imp (pi_seq he) fun σ H Q ⟨ρ, F, rl, h⟩ => by
    unfold fiOf at h
    refine ⟨ρ, F, rl, ?_⟩
    cases ea : f ρ with
    | no => rw [ea] at h; exact h
    | ex c n d ρ' => rw [ea] at h; exact h
    | ok ra =>
      obtain ⟨v, ρ1⟩ := ra
      rw [ea] at h
      intro x F1 H1 s1 v1
      have h : (match asQ (v, ρ1) with
        | .ok r => ∀ J F' H', Stp (.of X) F H ρ σ F' H' r.2 σ → Wk (.of X) F' J r.1 → Q J H'
        | .ex c n d ρ' => ∀ F' H' cls dx, Stp (.of X) F H ρ σ F' H' ρ' σ → ERel (.of X) F' c n d cls dx → W cls dx σ H'
        | .no => False) := h
      unfold asQ at h
      simp only at h
      split at h
      · rename_i q
        split at q
        · rename_i n
          split at q
          · rename_i ds el
            cases q
            obtain ⟨a, rfl, h2⟩ := v1
            obtain ⟨_, xs, h3, h4⟩ := s1.rel.lv.ok n _ a el h2
            exact ⟨a, rfl, .inl ⟨⟨xs, SqL.of h3⟩, h _ F1 H1 s1 (wk_live h2)⟩⟩
          · cases q
        · split at q
          · rename_i ds ρ2 e1
            cases q
            obtain ⟨F2, s2, _, d2⟩ := frz_val s1 v1 e1
            obtain ⟨a, xs, h1, h2, h3⟩ := d2
            exact ⟨a, h1, .inl ⟨⟨xs, SqL.of (s2.rel.sub _ _ h2)⟩, h _ F2 H1 s2 (wk_list (SqL.of h2) h3)⟩⟩
          · rename_i ds ρ2 e1
            cases q
            obtain ⟨F2, s2, _, d2⟩ := frz_val s1 v1 e1
            obtain ⟨a, xs, h1, h2, h3⟩ := d2
            exact ⟨a, h1, .inr ⟨⟨xs, Same.sqT s2.rel.sub h2⟩, h _ F2 H1 s2 (wk_tup h2 h3)⟩⟩
          · cases q
      · rename_i q
        split at q
        · split at q <;> cases q
        · split at q <;> cases q
      · exact h.elim
/-- range(n), range(a, b): ends within 2 ^ 62 -/
def peekL (ρ : En) : List Val → Option (List D)
  | [] => some []
  | v :: vs => match peek ρ v, peekL ρ vs with
    | some d, some ds => some (d :: ds)
    | _, _ => none
inductive PkL (T : Tx) (F : Fz) (H : Hp) : List D → List V → Prop
  | nil : PkL T F H [] []
  | cons {d : D} {x : V} {ds : List D} {xs : List V} (h : Pk T F H d x) (t : PkL T F H ds xs) : PkL T F H (d :: ds) (x :: xs)
theorem PendL.peek {T : Tx} {F : Fz} {H : Hp} {ρ : En} {σ : Sg} (r : Rel T F H ρ σ) : ∀ {vs : List Val} {xs : List V} {ds : List D}, PendL T F σ vs xs → peekL ρ vs = some ds → PkL T F H ds xs
  | [], xs, ds, h, e => by cases e; have h : xs = [] := h; subst h; exact .nil
  | v :: vs, xs, ds, ⟨x, xr, h1, h2, h3⟩, e => by
    unfold peekL at e
    cases e1 : Tr.peek ρ v with
    | none => simp only [e1] at e; cases e
    | some d =>
      cases e2 : peekL ρ vs with
      | none => simp only [e1, e2] at e; cases e
      | some ds2 =>
        simp only [e1, e2] at e
        cases e
        subst h1
        exact .cons (h2.peek r e1) (PendL.peek r h3 e2)
theorem Pk.int {T : Tx} {F : Fz} {H : Hp} {i : Int} {x : V} (h : Pk T F H (.int i) x) : x = .int i := by
  rcases h with h | ⟨_, _, h⟩
  · exact h
  · exact h.elim
@[irreducible] def rng1 (r : List Val × En) : R (Its × En) := match peekL r.2 r.1 with
  | some [.int n] => if -(2 ^ 62) ≤ n ∧ n < 2 ^ 62 then .ok (⟨(List.range n.toNat).map fun (i : Nat) => D.int (0 + i), none⟩, r.2) else .no
  | _ => .no
@[irreducible] def rng2 (r : List Val × En) : R (Its × En) := match peekL r.2 r.1 with
  | some [.int m, .int n] => if -(2 ^ 62) ≤ m ∧ m < 2 ^ 62 ∧ -(2 ^ 62) ≤ n ∧ n < 2 ^ 62 then .ok (⟨(List.range (n - m).toNat).map fun (i : Nat) => D.int (m + i), none⟩, r.2) else .no
  | _ => .no
def fiA (f : FA) (k : List Val × En → R (Its × En)) : FI := fun ρ => (f ρ).bind k
theorem si_range1 {tg a : Expr} {p pos : Pos} {f : FA} (hm : X.mg "range" = none) (ha : SA X W [a] f) (hg : Gl X "range" := by rfl) (hs : starEach [a] X.env = [(false, eval a X.env)] := by rfl) : SI X W tg (.Call (.Name "range" p) [a] [] pos) (fiA f rng1) :=
  pi_imp (pi_range1 hg hm ha hs) fun σ H Q ⟨ρ, F, rl, h⟩ => by
    unfold fiA at h
    refine ⟨ρ, F, rl, ?_⟩
    cases ea : f ρ with
    | no => rw [ea] at h; exact h
    | ex c n d ρ' => rw [ea] at h; exact h
    | ok ra =>
      rw [ea] at h
      intro xs F1 H1 s1 p1
      have h : (match rng1 ra with
        | .ok r => ∀ J F' H', Stp (.of X) F H ρ σ F' H' r.2 σ → Wk (.of X) F' J r.1 → Q J H'
        | .ex c n d ρ' => ∀ F' H' cls dx, Stp (.of X) F H ρ σ F' H' ρ' σ → ERel (.of X) F' c n d cls dx → W cls dx σ H'
        | .no => False) := h
      unfold rng1 at h
      cases e1 : peekL ra.2 ra.1 with
      | none => simp only [e1] at h
      | some ds =>
        have k1 := p1.peek s1.rel e1
        rw [e1] at h
        split at h
        · rename_i q
          split at q
          · rename_i z
            cases z
            rename_i n
            split at q
            · rename_i hn
              cases q
              cases k1 with
              | cons k t =>
                cases t
                exact ⟨n, by rw [k.int], hn.1, hn.2, h _ F1 H1 s1 (wk_range 0 n.toNat)⟩
            · cases q
          · cases q
        · rename_i q
          split at q
          · split at q <;> cases q
          · cases q
        · exact h.elim
theorem si_range2 {tg a b : Expr} {p pos : Pos} {f : FA} (hm : X.mg "range" = none) (ha : SA X W [a, b] f) (hg : Gl X "range" := by rfl) (hs : starEach [a, b] X.env = [(false, eval a X.env), (false, eval b X.env)] := by rfl) (hs2 : starEach [b] X.env = [(false, eval b X.env)] := by rfl) :
    SI X W tg (.Call (.Name "range" p) [a, b] [] pos) (fiA f rng2) :=
  pi_imp (pi_range2 hg hm ha hs hs2) fun σ H Q ⟨ρ, F, rl, h⟩ => by
    unfold fiA at h
    refine ⟨ρ, F, rl, ?_⟩
    cases ea : f ρ with
    | no => rw [ea] at h; exact h
    | ex c n d ρ' => rw [ea] at h; exact h
    | ok ra =>
      rw [ea] at h
      intro xs F1 H1 s1 p1
      have h : (match rng2 ra with
        | .ok r => ∀ J F' H', Stp (.of X) F H ρ σ F' H' r.2 σ → Wk (.of X) F' J r.1 → Q J H'
        | .ex c n d ρ' => ∀ F' H' cls dx, Stp (.of X) F H ρ σ F' H' ρ' σ → ERel (.of X) F' c n d cls dx → W cls dx σ H'
        | .no => False) := h
      unfold rng2 at h
      cases e1 : peekL ra.2 ra.1 with
      | none => simp only [e1] at h
      | some ds =>
        have k1 := p1.peek s1.rel e1
        rw [e1] at h
        split at h
        · rename_i q
          split at q
          · rename_i z
            cases z
            rename_i m n
            split at q
            · rename_i hn
              cases q
              cases k1 with
              | cons k t =>
                cases t with
                | cons k2 t2 =>
                  cases t2
                  exact ⟨m, n, by rw [k.int, k2.int], ⟨hn.1, hn.2.1, hn.2.2.1, hn.2.2.2⟩, h _ F1 H1 s1 (wk_range m (n - m).toNat)⟩
            · cases q
          · cases q
        · rename_i q
          split at q
          · split at q <;> cases q
          · cases q
        · exact h.elim

/-! ### for -/
def loopD (p : Pat) (body : FS) (o : Option Nat) : Nat → List D → FS
  | i, [], ρ => if fin ρ.l o i = true then .ok (.nx, ρ) else .no
  | i, d :: ds, ρ => match cur ρ.l o i d with
    | none => .no
    | some e => (match bindP p e ρ with
      | none => .no
      | some ρ1 => (body ρ1).bind fun r => match r.1 with
        | .nx => loopD p body o (i + 1) ds r.2
        | .ct => loopD p body o (i + 1) ds r.2
        | .bk => .ok (.nx, r.2)
        | .rt v => .ok (.rt v, r.2))
def fsFor (fi : FI) (p : Pat) (body : FS) : FS := fun ρ => (fi ρ).bind fun r => loopD p body r.1.lv 0 r.1.ds r.2
theorem ss_for {tg iter : Expr} {body : List Stmt} {fi : FI} {p : Pat} {fb : FS} {pos : Pos} (hp : PassesOwn (model X.prog X.w) X.A X.env X.xe) (hc : X.calm = true) (hi : SI X W tg iter fi) (hg : SG X tg p) (hb : SSs X W body fb)
    (hs : ∀ x, foldedSetIterable iter X.env x = pure x := by intro _; rfl) : SS X W (.For tg iter body [] pos) (fsFor fi p fb) :=
  ps_imp (ps_for hp hc hi hg hb hs) fun D σ H ⟨ρ, F, rl, h⟩ => by
    unfold fsFor at h
    refine ⟨ρ, F, rl, ?_⟩
    cases ea : fi ρ with
    | no => rw [ea] at h; exact h
    | ex c n d ρ' => rw [ea] at h; exact fun F' H' cls dx s e => h σ F' H' cls dx s e
    | ok ri =>
      rw [ea] at h
      intro J F1 H1 s1 w1
      obtain ⟨⟨ds, o⟩, ρ0⟩ := ri
      have h : (match loopD p fb o 0 ds ρ0 with
        | .ok r => ∀ σ' F' H', Stp (.of X) F H ρ σ F' H' r.2 σ' → flOk (.of X) H F' H' r.2 σ' D r.1
        | .ex c n d ρ' => ∀ σ' F' H' cls dx, Stp (.of X) F H ρ σ F' H' ρ' σ' → ERel (.of X) F' c n d cls dx → W cls dx σ' H'
        | .no => False) := h
      refine ⟨fun i m σi Hi => m = ds.length - i ∧ ∃ Fi ρi, Stp (.of X) F H ρ σ Fi Hi ρi σi ∧ Ext F1 Fi ∧ loopD p fb o i (ds.drop i) ρi = loopD p fb o 0 ds ρ0, ⟨ds.length, by simp, F1, ρ0, s1, Ext.refl F1, rfl⟩, ?_⟩
      rintro i m σi Hi ⟨rfl, Fi, ρi, si, mi, ei⟩
      have wi := w1 Fi Hi ρi.l mi si.rel.sub si.rel.lv i
      by_cases hlt : i < ds.length
      · refine .inr ?_
        have e0 : ds[i]? = some ds[i] := List.getElem?_eq_getElem hlt
        rw [List.drop_eq_getElem_cons hlt] at ei
        simp only [loopD] at ei
        cases ec : cur ρi.l o i ds[i] with
        | none => simp only [ec] at ei; rw [← ei] at h; exact h.elim
        | some d' =>
          simp only [ec] at ei
          obtain ⟨go, yl⟩ := wi.1 _ d' e0 ec
          refine ⟨go, fun σ' H' => ∃ m', m' < ds.length - i ∧ (m' = ds.length - (i + 1) ∧ ∃ Fi ρi, Stp (.of X) F H ρ σ Fi H' ρi σ' ∧ Ext F1 Fi ∧ loopD p fb o (i + 1) (ds.drop (i + 1)) ρi = loopD p fb o 0 ds ρ0), fun _ _ z => z, fun x H2 y => ?_⟩
          obtain ⟨F2, n2, d2⟩ := yl x H2 y
          have s2 := n2.stp si.rel
          have si2 := si.trans s2
          cases eb : bindP p d' ρi with
          | none => simp only [eb] at ei; rw [← ei] at h; exact h.elim
          | some ρ1 =>
            simp only [eb] at ei
            refine ⟨ρi, F2, d', ρ1, s2.rel, d2, eb, fun σ2 b2 => ⟨ρ1, F2, b2.stp.rel, ?_⟩⟩
            have si3 := si2.trans b2.stp
            cases er : fb ρ1 with
            | no => simp only [er, R.bind] at ei; rw [← ei] at h; exact h
            | ex c n d ρ' =>
              simp only [er, R.bind] at ei
              rw [← ei] at h
              exact fun σ' F' H' cls dx s e => h σ' F' H' cls dx (si3.trans s) e
            | ok rb =>
              obtain ⟨fl, ρ3⟩ := rb
              simp only [er, R.bind] at ei
              intro σ3 F3 H3 s3
              have again : loopD p fb o (i + 1) (ds.drop (i + 1)) ρ3 = loopD p fb o 0 ds ρ0 → ∃ m', m' < ds.length - i ∧ (m' = ds.length - (i + 1) ∧ ∃ Fi ρi, Stp (.of X) F H ρ σ Fi H3 ρi σ3 ∧ Ext F1 Fi ∧ loopD p fb o (i + 1) (ds.drop (i + 1)) ρi = loopD p fb o 0 ds ρ0) := fun q =>
                ⟨_, by omega, rfl, F3, ρ3, si3.trans s3, (mi.trans n2.ff).trans s3.same, q⟩
              cases fl with
              | nx => exact again ei
              | ct => exact again ei
              | bk =>
                simp only at ei
                rw [← ei] at h
                exact h σ3 F3 H3 (si3.trans s3)
              | rt v =>
                simp only at ei
                rw [← ei] at h
                exact fun y q => h σ3 F3 H3 (si3.trans s3) y (q.back si3)
      · rw [List.drop_eq_nil_of_le (by omega)] at ei
        simp only [loopD] at ei
        by_cases hf : fin ρi.l o i = true
        · rw [if_pos hf] at ei
          refine .inl ⟨wi.2 (show ds.length ≤ i by omega) hf, ?_⟩
          rw [← ei] at h
          exact h σi Fi Hi si
        · rw [if_neg hf] at ei
          rw [← ei] at h
          exact h.elim

/-! ### while -/
def whileN (c : FT) (body : FS) : Nat → FS
  | 0, _ => .no
  | n + 1, ρ => (c ρ).bind fun r => if r.1 = true then (body r.2).bind fun q => (match q.1 with
      | .nx => whileN c body n q.2
      | .ct => whileN c body n q.2
      | .bk => .ok (.nx, q.2)
      | .rt v => .ok (.rt v, q.2)) else .ok (.nx, r.2)
/-- by a number of turns that will do -/
def fsWhile (μ : En → Nat) (c : FT) (body : FS) : FS := fun ρ => whileN c body (μ ρ) ρ
theorem ss_while {c : Expr} {body : List Stmt} {fc : FT} {fb : FS} {pos : Pos} (μ : En → Nat) (hp : PassesOwn (model X.prog X.w) X.A X.env X.xe) (hc : ST X W c fc) (hb : SSs X W body fb) : SS X W (.While c body [] pos) (fsWhile μ fc fb) :=
  ps_imp (ps_while hp hc hb) fun D σ H ⟨ρ, F, rl, h⟩ => by
    unfold fsWhile at h
    refine ⟨fun m σi Hi => ∃ Fi ρi, Stp (.of X) F H ρ σ Fi Hi ρi σi ∧ whileN fc fb m ρi = whileN fc fb (μ ρ) ρ, ⟨μ ρ, F, ρ, Stp.refl rl, rfl⟩, ?_⟩
    rintro m σi Hi ⟨Fi, ρi, si, ei⟩
    refine ⟨ρi, Fi, si.rel, ?_⟩
    cases m with
    | zero => simp only [whileN] at ei; rw [← ei] at h; exact h.elim
    | succ m =>
      simp only [whileN] at ei
      cases ec : fc ρi with
      | no => simp only [ec, R.bind] at ei; rw [← ei] at h; exact h
      | ex c n d ρ' =>
        simp only [ec, R.bind] at ei
        rw [← ei] at h
        exact fun F' H' cls dx s e => h σi F' H' cls dx (si.trans s) e
      | ok rc =>
        obtain ⟨b, ρ1⟩ := rc
        simp only [ec, R.bind] at ei
        intro F1 H1 s1
        have si1 := si.trans s1
        cases b with
        | false =>
          rw [if_neg Bool.false_ne_true] at ei
          show (if false = true then _ else _)
          rw [if_neg Bool.false_ne_true]
          rw [← ei] at h
          exact h σi F1 H1 si1
        | true =>
          rw [if_pos rfl] at ei
          show (if true = true then _ else _)
          rw [if_pos rfl]
          refine ⟨fun σ' H' => ∃ m', m' < m + 1 ∧ ∃ Fi ρi, Stp (.of X) F H ρ σ Fi H' ρi σ' ∧ whileN fc fb m' ρi = whileN fc fb (μ ρ) ρ, fun _ _ z => z, ρ1, F1, s1.rel, ?_⟩
          cases er : fb ρ1 with
          | no => simp only [er] at ei; rw [← ei] at h; exact h
          | ex c n d ρ' =>
            simp only [er] at ei
            rw [← ei] at h
            exact fun σ' F' H' cls dx s e => h σ' F' H' cls dx (si1.trans s) e
          | ok rb =>
            obtain ⟨fl, ρ3⟩ := rb
            simp only [er] at ei
            intro σ3 F3 H3 s3
            cases fl with
            | nx => exact ⟨m, Nat.lt_succ_self m, F3, ρ3, si1.trans s3, ei⟩
            | ct => exact ⟨m, Nat.lt_succ_self m, F3, ρ3, si1.trans s3, ei⟩
            | bk =>
              simp only at ei
              rw [← ei] at h
              exact h σ3 F3 H3 (si1.trans s3)
            | rt v =>
              simp only at ei
              rw [← ei] at h
              exact fun y q => h σ3 F3 H3 (si1.trans s3) y (q.back si1)
end
end Tr
/-! Tr, part E: comprehensions. -/
namespace Tr
open PySem PySem.Spec PyProof.Rows L2
section
variable {X : Cx} {W : WX}

/-- nothing is let out -/
abbrev W0 : WX := fun _ _ _ _ => False
def R.sure {α : Type} : R α → R α
  | .ex _ _ _ _ => .no
  | r => r
/-- slots forgotten -/
def wipeE (ρ : En) : List Nat → En
  | [] => ρ
  | v :: vs => (wipeE ρ vs).set v .un
def restE (ρ : En) (ρ2 : En) : List Nat → En
  | [] => ρ2
  | v :: vs => match ρ.s[v]? with
    | some s => (restE ρ ρ2 vs).set v s
    | none => restE ρ ρ2 vs
def okW (ρ : En) (vs : List Nat) : Bool := vs.all fun v => match ρ.s[v]? with
  | some (.ow _) => false
  | _ => true
theorem wipeE_len (ρ : En) : ∀ vs : List Nat, (wipeE ρ vs).s.length = ρ.s.length
  | [] => rfl
  | v :: vs => by unfold wipeE; rw [set_len, wipeE_len ρ vs]
theorem wipeE_l (ρ : En) : ∀ vs : List Nat, (wipeE ρ vs).l = ρ.l
  | [] => rfl
  | v :: vs => by unfold wipeE; exact wipeE_l ρ vs
theorem wipeE_get {ρ : En} {j : Nat} : ∀ {vs : List Nat}, j ∉ vs → (wipeE ρ vs).s[j]? = ρ.s[j]?
  | [], _ => rfl
  | v :: vs, h => by
    simp only [List.mem_cons, not_or] at h
    unfold wipeE
    rw [get_set_ne (Ne.symm h.1), wipeE_get h.2]
theorem wipeE_un {ρ : En} {j : Nat} {s : Slot} : ∀ {vs : List Nat}, j ∈ vs → (wipeE ρ vs).s[j]? = some s → s = .un
  | v :: vs, h, e => by
    unfold wipeE at e
    by_cases w : v = j
    · subst w
      exact (set_get_self e).1.symm
    · rw [get_set_ne w] at e
      rcases List.mem_cons.mp h with z | z
      · exact (w z.symm).elim
      · exact wipeE_un z e
theorem wipe_get {σ : Sg} {j : Nat} : ∀ {vs : List Nat}, j ∉ vs → (wipe σ vs)[j]? = σ[j]?
  | [], _ => rfl
  | v :: vs, h => by
    simp only [List.mem_cons, not_or] at h
    unfold wipe
    rw [List.getElem?_set_ne (Ne.symm h.1), wipe_get h.2]
theorem restE_len {ρ ρ2 : En} : ∀ vs : List Nat, (restE ρ ρ2 vs).s.length = ρ2.s.length
  | [] => rfl
  | v :: vs => by
    unfold restE
    split
    · rw [set_len, restE_len vs]
    · exact restE_len vs
theorem restE_l {ρ ρ2 : En} : ∀ vs : List Nat, (restE ρ ρ2 vs).l = ρ2.l
  | [] => rfl
  | v :: vs => by
    unfold restE
    split
    · exact restE_l vs
    · exact restE_l vs
theorem restE_out {ρ ρ2 : En} {j : Nat} : ∀ {vs : List Nat}, j ∉ vs → (restE ρ ρ2 vs).s[j]? = ρ2.s[j]?
  | [], _ => rfl
  | v :: vs, h => by
    simp only [List.mem_cons, not_or] at h
    unfold restE
    split
    · rw [get_set_ne (Ne.symm h.1), restE_out h.2]
    · exact restE_out h.2
theorem restE_in {ρ ρ2 : En} (hl : ρ2.s.length = ρ.s.length) {j : Nat} : ∀ {vs : List Nat}, j ∈ vs → (restE ρ ρ2 vs).s[j]? = ρ.s[j]?
  | v :: vs, h => by
    unfold restE
    by_cases w : v = j
    · subst w
      cases e : ρ.s[v]? with
      | none =>
        simp only
        have h1 : ρ.s.length ≤ v := List.getElem?_eq_none_iff.mp e
        exact List.getElem?_eq_none_iff.mpr (by rw [restE_len, hl]; exact h1)
      | some s =>
        simp only
        have h1 : v < ρ.s.length := (List.getElem?_eq_some_iff.mp e).1
        show ((restE ρ ρ2 vs).s.set v s)[v]? = some s
        rw [List.getElem?_set_self (by rw [restE_len, hl]; exact h1)]
    · have hz : j ∈ vs := by
        rcases List.mem_cons.mp h with z | z
        · exact (w z.symm).elim
        · exact z
      split
      · rw [get_set_ne w, restE_in hl hz]
      · exact restE_in hl hz
theorem mu_wipe {ρ : En} {vs : List Nat} {j : Nat} {d : D} (m : MuAt (wipeE ρ vs) j d) : j ∉ vs ∧ MuAt ρ j d := by
  by_cases h : j ∈ vs
  · have z := wipeE_un h m; cases z
  · unfold MuAt at m
    rw [wipeE_get h] at m
    exact ⟨h, m⟩
/-- forgetting slots -/
theorem Stp.wipe {T : Tx} {F : Fz} {H : Hp} {ρ : En} {σ : Sg} {vs : List Nat} (r : Rel T F H ρ σ) : Stp T F H ρ σ F H (wipeE ρ vs) (L2.wipe σ vs) where
  rel := by
    refine ⟨by rw [wipeE_len, wipe_length]; exact r.len, r.sub, fun j e q => ?_, fun j e q => ?_, fun j k e e' c q q' s s' => ?_, by rw [wipeE_l]; exact r.lv, fun j e c q s => ?_⟩
    · by_cases h : j ∈ vs
      · have z := wipeE_un h q; cases z
      · rw [wipeE_get h] at q
        rw [wipe_get h]
        exact r.sh j e q
    · obtain ⟨h, q⟩ := mu_wipe q
      rw [wipe_get h]
      exact r.ow j e q
    · obtain ⟨h, q⟩ := mu_wipe q
      obtain ⟨h', q'⟩ := mu_wipe q'
      rw [wipe_get h] at s
      rw [wipe_get h'] at s'
      exact r.dis j k e e' c q q' s s'
    · obtain ⟨h, q⟩ := mu_wipe q
      rw [wipe_get h] at s
      exact r.lo j e c q s
  same := Ext.refl F
  keep := fun _ _ h _ => h
  own := fun b z => by
    rcases z with ⟨j, e, q, s⟩ | z
    · obtain ⟨h, q⟩ := mu_wipe q
      rw [wipe_get h] at s
      exact .inl (.inl ⟨j, e, q, s⟩)
    · exact .inl (.inr z)
  dom := fun _ o h => ⟨o, h⟩
  fz := fun _ _ _ _ _ => rfl
/-- and taking them back -/
theorem Stp.rest {T : Tx} {F F' : Fz} {H H' : Hp} {ρ ρ2 : En} {σ : Sg} {vs : List Nat} (s : Stp T F H ρ σ F' H' ρ2 (L2.wipe σ vs)) (r : Rel T F H ρ σ) (hw : okW ρ vs = true) : Stp T F H ρ σ F' H' (restE ρ ρ2 vs) σ := by
  have hl : ρ2.s.length = ρ.s.length := by rw [s.rel.len, wipe_length, r.len]
  have mu : ∀ j d, MuAt (restE ρ ρ2 vs) j d → j ∉ vs ∧ MuAt ρ2 j d := fun j d e => by
    unfold MuAt at e
    by_cases h : j ∈ vs
    · rw [restE_in hl h] at e
      unfold okW at hw
      have z := List.all_eq_true.mp hw j h
      rw [e] at z
      cases z
    · rw [restE_out h] at e
      exact ⟨h, e⟩
  refine ⟨⟨by rw [restE_len, hl]; exact r.len, s.rel.sub, fun j e q => ?_, fun j e q => ?_, fun j k e e' c q q' t t' => ?_, by rw [restE_l]; exact s.rel.lv, fun j e c q t => ?_⟩, s.same, s.keep, fun b z => ?_, s.dom, s.fz⟩
  · by_cases h : j ∈ vs
    · rw [restE_in hl h] at q
      obtain ⟨x, h1, h2⟩ := r.sh j e q
      exact ⟨x, h1, h2.mono s.same⟩
    · rw [restE_out h] at q
      obtain ⟨x, h1, h2⟩ := s.rel.sh j e q
      rw [wipe_get h] at h1
      exact ⟨x, h1, h2⟩
  · obtain ⟨h, q⟩ := mu j e q
    obtain ⟨a, h1, h2⟩ := s.rel.ow j e q
    rw [wipe_get h] at h1
    exact ⟨a, h1, h2⟩
  · obtain ⟨h, q⟩ := mu j e q
    obtain ⟨h', q'⟩ := mu k e' q'
    exact s.rel.dis j k e e' c q q' (by rw [wipe_get h]; exact t) (by rw [wipe_get h']; exact t')
  · obtain ⟨h, q⟩ := mu j e q
    exact s.rel.lo j e c q (by rw [wipe_get h]; exact t)
  · rcases z with ⟨j, e, q, t⟩ | z
    · obtain ⟨h, q⟩ := mu j e q
      exact s.own b (.inl ⟨j, e, q, by rw [wipe_get h]; exact t⟩)
    · exact s.own b (.inr z)
theorem wipe_eq {σ σ' : Sg} {vs : List Nat} (hl : σ'.length = σ.length) (h : ∀ j : Nat, j ∉ vs → σ'[j]? = σ[j]?) : L2.wipe σ' vs = L2.wipe σ vs := by
  apply List.ext_getElem?
  intro j
  by_cases hj : j ∈ vs
  · have key : ∀ (τ : Sg) (us : List Nat), j ∈ us → (L2.wipe τ us)[j]? = if j < τ.length then some none else none := by
      intro τ us
      induction us with
      | nil => intro z; cases z
      | cons v us ih =>
        intro z
        unfold L2.wipe
        by_cases w : v = j
        · subst w
          by_cases hi : v < τ.length
          · rw [List.getElem?_set_self (by rw [wipe_length]; exact hi), if_pos hi]
          · rw [if_neg hi]
            exact List.getElem?_eq_none_iff.mpr (by rw [List.length_set, wipe_length]; omega)
        · rw [List.getElem?_set_ne w]
          rcases List.mem_cons.mp z with q | q
          · exact (w q.symm).elim
          · exact ih q
    rw [key σ' vs hj, key σ vs hj, hl]
  · rw [wipe_get hj, wipe_get hj, h j hj]

/-! ### the comprehension -/
/-- one after another: the target bound, the test, the element -/
def lcL (vs : List Nat) (p : Pat) (t : FT) (f : FE) (o : Option Nat) : Nat → List D → En → R (List D × En)
  | i, [], ρ => if fin ρ.l o i = true then .ok ([], ρ) else .no
  | i, d :: ds, ρ => match cur ρ.l o i d with
    | none => .no
    | some e => (match bindP p e ρ with
      | none => .no
      | some ρ1 => (t ρ1).sure.bind fun rt => if rt.1 = true then (f rt.2).sure.bind fun rf => (match frz rf.2 rf.1 with
          | none => .no
          | some z => (lcL vs p t f o (i + 1) ds (wipeE z.2 vs)).bind fun q => .ok (z.1 :: q.1, q.2)) else lcL vs p t f o (i + 1) ds (wipeE rt.2 vs))
def lcEnd (vs : List Nat) (p : Pat) (t : FT) (f : FE) (ri : Its × En) : R (Val × En) :=
  if okW ri.2 vs = true ∧ ri.1.ds.length ≤ 16777216 then (lcL vs p t f ri.1.lv 0 ri.1.ds (wipeE ri.2 vs)).bind fun q => .ok (.fr (.lst q.1), restE ri.2 q.2 vs) else .no
def evLC (vs : List Nat) (fi : FI) (p : Pat) (t : FT) (f : FE) : FE := fun ρ => (fi ρ).bind (lcEnd vs p t f)
theorem evLC_ok {vs : List Nat} {fi : FI} {p : Pat} {t : FT} {f : FE} (hp : ∀ j ∈ p.slots, j ∈ vs) {tt : TT} (htt : ∀ (σ : Sg) (H : Hp) (Q : Bool → Hp → Prop), tOfT (.of X) W0 t σ H Q → tt σ H Q) {σ : Sg} {H : Hp} {Q : VK}
    (h : tOf (.of X) W (evLC vs fi p t f) σ H Q) : tLc (tOfI (.of X) W fi) (gOf (.of X) p) tt (tOf (.of X) W0 f) vs σ H Q := by
  obtain ⟨ρ, F, rl, h⟩ := h
  unfold evLC at h
  refine ⟨ρ, F, rl, ?_⟩
  cases ea : fi ρ with
  | no => rw [ea] at h; exact h
  | ex c n d ρ' => rw [ea] at h; exact h
  | ok ri =>
    rw [ea] at h
    obtain ⟨⟨ds, o⟩, ρ0⟩ := ri
    intro J F1 H1 s1 w1 A hA
    have h : (match lcEnd vs p t f (⟨ds, o⟩, ρ0) with
      | .ok r => ∀ x F' H', Stp (.of X) F H ρ σ F' H' r.2 σ → VRel (.of X) H F' H' r.2 σ r.1 x → Q x H'
      | .ex c n d ρ' => ∀ F' H' cls dx, Stp (.of X) F H ρ σ F' H' ρ' σ → ERel (.of X) F' c n d cls dx → W cls dx σ H'
      | .no => False) := h
    unfold lcEnd at h
    by_cases hw : okW ρ0 vs = true ∧ ds.length ≤ 16777216
    · rw [if_pos hw] at h
      obtain ⟨hw, hlen⟩ := hw
      -- the step to the wiped state, the new list laid
      have n1 : New (.of X) F1 H1 F1 (upd H1 A (.lst [])) := New.fr s1.rel.sub hA
      have sA := s1.trans (n1.stp s1.rel)
      have sW : Stp (.of X) F1 H1 ρ0 σ F1 (upd H1 A (.lst [])) (wipeE ρ0 vs) (L2.wipe σ vs) := (n1.stp s1.rel).trans (Stp.wipe (n1.stp s1.rel).rel)
      refine ⟨fun i m Hi => m = ds.length - i ∧ i ≤ ds.length ∧ ∃ Fi ρi done acc, Stp (.of X) F1 H1 ρ0 σ Fi Hi ρi (L2.wipe σ vs) ∧ Ext F1 Fi ∧ Hi A = some (.lst acc) ∧ Fi A = none ∧ ¬ Owned Fi ρi (L2.wipe σ vs) A ∧ DenL (.of X) Fi done acc ∧ done.length ≤ i ∧
          (lcL vs p t f o i (ds.drop i) ρi).bind (fun q => .ok (done ++ q.1, q.2)) = lcL vs p t f o 0 ds (wipeE ρ0 vs), ⟨ds.length, by simp, Nat.zero_le _, F1, wipeE ρ0 vs, [], [], sW, Ext.refl F1, upd_same, s1.rel.sub.free hA, fun z => ?_, rfl, Nat.zero_le _, ?_⟩, ?_⟩
      · rcases sW.own A z with q | q
        · exact not_owned s1.rel hA q
        · rcases z with ⟨i, d, m, q⟩ | z
          · obtain ⟨hj, m⟩ := mu_wipe m
            rw [wipe_get hj] at q
            exact not_owned s1.rel hA (.inl ⟨i, d, m, q⟩)
          · exact not_owned s1.rel hA (.inr z)
      · rw [List.drop_zero]
        cases lcL vs p t f o 0 ds (wipeE ρ0 vs) with
        | ok r => rfl
        | ex c n d ρ' => rfl
        | no => rfl
      · rintro i m Hi ⟨rfl, hi, Fi, ρi, done, acc, si, mi, hAi, fAi, nAi, dl, dn, ei⟩
        have wi := w1 Fi Hi ρi.l mi si.rel.sub si.rel.lv i
        by_cases hlt : i < ds.length
        · refine .inr ?_
          have e0 : ds[i]? = some ds[i] := List.getElem?_eq_getElem hlt
          rw [List.drop_eq_getElem_cons hlt] at ei
          simp only [lcL] at ei
          cases ec : cur ρi.l o i ds[i] with
          | none => simp only [ec, R.bind] at ei; rw [← ei] at h; exact h.elim
          | some d0 =>
          simp only [ec] at ei
          obtain ⟨go, yl⟩ := wi.1 _ d0 e0 ec
          refine ⟨go, fun H' => ∃ m', m' < ds.length - i ∧ (m' = ds.length - (i + 1) ∧ i + 1 ≤ ds.length ∧ ∃ Fi ρi done acc, Stp (.of X) F1 H1 ρ0 σ Fi H' ρi (L2.wipe σ vs) ∧ Ext F1 Fi ∧ H' A = some (.lst acc) ∧ Fi A = none ∧ ¬ Owned Fi ρi (L2.wipe σ vs) A ∧ DenL (.of X) Fi done acc ∧ done.length ≤ i + 1 ∧
            (lcL vs p t f o (i + 1) (ds.drop (i + 1)) ρi).bind (fun q => .ok (done ++ q.1, q.2)) = lcL vs p t f o 0 ds (wipeE ρ0 vs)), fun _ z => z, fun x H2 y => ?_⟩
          obtain ⟨F2, n2, d2⟩ := yl x H2 y
          have s2 := n2.stp si.rel
          cases eb : bindP p d0 ρi with
          | none => simp only [eb, R.bind] at ei; rw [← ei] at h; exact h.elim
          | some ρ1 =>
            simp only [eb] at ei
            refine ⟨ρi, F2, d0, ρ1, s2.rel, d2, eb, fun σ2 b2 => ⟨?_, ?_⟩⟩
            · have z := wipe_eq (vs := vs) b2.len fun j hj => b2.oth j fun w => hj (hp j w)
              rw [z]
              exact wipe_eq (wipe_length σ vs) fun j hj => wipe_get hj
            · have ew : L2.wipe σ2 vs = L2.wipe σ vs := (wipe_eq (vs := vs) b2.len fun j hj => b2.oth j fun w => hj (hp j w)).trans (wipe_eq (wipe_length σ vs) fun j hj => wipe_get hj)
              have s3 := s2.trans b2.stp
              refine htt σ2 H2 _ ⟨ρ1, F2, b2.stp.rel, ?_⟩
              cases et : t ρ1 with
              | no => simp only [et, R.sure, R.bind] at ei; rw [← ei] at h; exact h
              | ex c n d ρ' => simp only [et, R.sure, R.bind] at ei; rw [← ei] at h; exact h.elim
              | ok rt =>
                obtain ⟨b, ρ2⟩ := rt
                simp only [et, R.sure, R.bind] at ei
                intro F3 H3 t3
                have s4 := s3.trans t3
                -- the list stands, whatever was done
                have stand : ∀ {F4 H4 ρ4}, Stp (.of X) Fi Hi ρi (L2.wipe σ vs) F4 H4 ρ4 σ2 → H4 A = some (.lst acc) ∧ F4 A = none ∧ ¬ Owned F4 ρ4 σ2 A := fun {F4 H4 ρ4} s => by
                  refine ⟨s.keep A _ hAi nAi, (s.fz A _ hAi nAi fun c z => by cases z).trans fAi, fun z => ?_⟩
                  rcases s.own A z with q | q
                  · exact nAi q
                  · rw [hAi] at q; cases q
                have wiped : ∀ {F4 H4 ρ4}, Stp (.of X) Fi Hi ρi (L2.wipe σ vs) F4 H4 ρ4 σ2 → Stp (.of X) F4 H4 ρ4 σ2 F4 H4 (wipeE ρ4 vs) (L2.wipe σ vs) := fun {F4 H4 ρ4} s => by
                  rw [← ew]
                  exact Stp.wipe s.rel
                have unw : ∀ {F4 : Fz} {ρ4 : En}, ¬ Owned F4 ρ4 σ2 A → ¬ Owned F4 (wipeE ρ4 vs) (L2.wipe σ vs) A := fun {F4 ρ4} n z => by
                  rcases z with ⟨k, d, m, q⟩ | z
                  · obtain ⟨hk, m⟩ := mu_wipe m
                    rw [← ew, wipe_get hk] at q
                    exact n (.inl ⟨k, d, m, q⟩)
                  · exact n (.inr z)
                cases b with
                | false =>
                  simp only [Bool.false_eq_true, if_false] at ei ⊢
                  obtain ⟨a1, a2, a3⟩ := stand s4
                  exact ⟨_, by omega, rfl, hlt, F3, wipeE ρ2 vs, done, acc, (si.trans s4).trans (wiped s4), mi.trans s4.same, a1, a2, unw a3, DenL.mono s4.same _ dl, by omega, ei⟩
                | true =>
                  simp only [if_true] at ei ⊢
                  refine ⟨ρ2, F3, t3.rel, ?_⟩
                  cases ef : f ρ2 with
                  | no => simp only [ef] at ei; rw [← ei] at h; exact h
                  | ex c n d ρ' => simp only [ef] at ei; rw [← ei] at h; exact h.elim
                  | ok rf =>
                    obtain ⟨v, ρ3⟩ := rf
                    simp only [ef] at ei
                    intro y F4 H4 t4 v4
                    cases ez : frz ρ3 v with
                    | none => simp only [ez] at ei; rw [← ei] at h; exact h.elim
                    | some z =>
                      obtain ⟨e, ρ4⟩ := z
                      simp only [ez] at ei
                      obtain ⟨F5, t5, _, d5⟩ := frz_val t4 v4 ez
                      have s5 := s4.trans t5
                      obtain ⟨a1, a2, a3⟩ := stand s5
                      have la : acc.length < 16777216 := by rw [← dl.length]; omega
                      refine ⟨acc, a1, size_lt la, ?_⟩
                      have w5 := wiped s5
                      have si5 := (si.trans s5).trans w5
                      -- the list grows
                      have grow : Stp (.of X) F1 H1 ρ0 σ F5 (upd H4 A (.lst (acc ++ [y]))) (wipeE ρ4 vs) (L2.wipe σ vs) := by
                        have nA := unw a3
                        refine ⟨⟨si5.rel.len, fun b o q => ?_, si5.rel.sh, fun j d q => ?_, si5.rel.dis, si5.rel.lv.keep (Ext.refl _) rfl (fun c hc => ?_) (fun c hc => upd_ne fun z => nA (.inr (by rw [← z]; exact hc))) fun c hc g z => ?_, si5.rel.lo⟩, si5.same, fun b o q no => ?_, si5.own, fun b o q => ?_, si5.fz⟩
                        · rw [upd_ne (fun z => by rw [z, a2] at q; cases q)]
                          exact si5.rel.sub b o q
                        · obtain ⟨c, c1, c2, c3⟩ := si5.rel.ow j d q
                          have hne : c ≠ A := fun z => nA (.inl ⟨j, d, q, by rw [c1, z]⟩)
                          exact ⟨c, c1, c2, c3.mono (Ext.refl _) (upd_ne hne) fun g z => by rw [upd_ne (fun z' => by rw [z', a1] at z; cases z)]; exact z⟩
                        · obtain ⟨_, _, _, _, hn', _⟩ := si5.rel.lv.mem hc
                          exact hn'
                        · rw [upd_ne (fun z' => by rw [z', a1] at z; cases z)]; exact z
                        · rw [upd_ne (ne_of_none q hA)]
                          exact si5.keep b o q no
                        · rw [upd_ne (ne_of_none q hA)]
                          exact si5.dom b o q
                      refine ⟨_, by omega, rfl, hlt, F5, wipeE ρ4 vs, done ++ [e], acc ++ [y], grow, mi.trans s5.same, upd_same, a2, unw a3, (DenL.mono s5.same _ dl).snoc d5, by rw [List.length_append]; simp; omega, ?_⟩
                      rw [← ei]
                      cases lcL vs p t f o (i + 1) (ds.drop (i + 1)) (wipeE ρ4 vs) with
                      | ok r => simp [R.bind]
                      | ex c n d ρ' => rfl
                      | no => rfl
        · rw [List.drop_eq_nil_of_le (by omega)] at ei
          simp only [lcL] at ei
          by_cases hf : fin ρi.l o i = true
          · refine .inl ⟨wi.2 (show ds.length ≤ i by omega) hf, ?_⟩
            simp only [hf, if_true, R.bind, List.append_nil] at ei
            rw [← ei] at h
            have h : ∀ x F' H', Stp (.of X) F H ρ σ F' H' (restE ρ0 ρi vs) σ → VRel (.of X) H F' H' (restE ρ0 ρi vs) σ (.fr (.lst done)) x → Q x H' := h
            have sr := Stp.rest si s1.rel hw
            refine h (.ref A) Fi Hi (s1.trans sr) ⟨A, rfl, fAi, s1.free hA, fun z => ?_, acc, hAi, dl⟩
            rcases z with ⟨k, d, e, q3⟩ | z
            · have hl : ρi.s.length = ρ0.s.length := by rw [si.rel.len, wipe_length, s1.rel.len]
              by_cases hk : k ∈ vs
              · unfold MuAt at e
                rw [restE_in hl hk] at e
                unfold okW at hw
                have z := List.all_eq_true.mp hw k hk
                rw [e] at z
                cases z
              · unfold MuAt at e
                rw [restE_out hk] at e
                exact nAi (.inl ⟨k, d, e, by rw [wipe_get hk]; exact q3⟩)
            · exact nAi (.inr z)
          · simp only [hf, if_false, R.bind] at ei
            rw [← ei] at h
            exact h.elim
    · rw [if_neg hw] at h; exact h.elim
/-- no test, one test -/
def ftYes : FT := fun ρ => .ok (true, ρ)
theorem yes_ok {σ : Sg} {H : Hp} {Q : Bool → Hp → Prop} (h : tOfT (.of X) W0 ftYes σ H Q) : tYes σ H Q := by
  obtain ⟨ρ, F, rl, h⟩ := h
  exact h F H (Stp.refl rl)
theorem se_lc {elt tg iter : Expr} {scope : Scope} {own : List (Str × Nat)} {pos : Pos} {fi : FI} {p : Pat} {f : FE} (hc : X.calm = true) (hN : X.N.Nodup) (hi : SI X W tg iter fi) (ok : BlkOk X.N X.env.scope scope own)
    (hg : ∀ (s : Shared) (H : Hp) (C : Addr) (cl : List (Str × Addr)) (fp : List Addr), SG (X.blk s H scope (compEnvC scope cl C X.env) fp) tg p)
    (he : ∀ (s : Shared) (H : Hp) (C : Addr) (cl : List (Str × Addr)) (fp : List Addr), SE (X.blk s H scope (compEnvC scope cl C X.env) fp) W0 elt f)
    (hp : ∀ j ∈ p.slots, j ∈ own.map (·.2) := by decide) (hs : ∀ x, foldedSetIterable iter X.env x = pure x := by intro _; rfl) :
    SE X W (.ListComp elt [⟨tg, iter, [], 0⟩] scope pos) (evLC (own.map (·.2)) fi p ftYes f) :=
  pe_imp (pe_lc (g := gOf (.of X) p) (tt := tYes) (te := tOf (.of X) W0 f) hc hN hi ok hg (fun _ _ _ _ _ => pts_nil) he hs) fun σ H Q h => evLC_ok hp (fun _ _ _ z => yes_ok z) h
theorem se_lcIf {elt tg iter c : Expr} {scope : Scope} {own : List (Str × Nat)} {pos : Pos} {fi : FI} {p : Pat} {t : FT} {f : FE} (hc : X.calm = true) (hN : X.N.Nodup) (hi : SI X W tg iter fi) (ok : BlkOk X.N X.env.scope scope own)
    (hg : ∀ (s : Shared) (H : Hp) (C : Addr) (cl : List (Str × Addr)) (fp : List Addr), SG (X.blk s H scope (compEnvC scope cl C X.env) fp) tg p)
    (ht : ∀ (s : Shared) (H : Hp) (C : Addr) (cl : List (Str × Addr)) (fp : List Addr), ST (X.blk s H scope (compEnvC scope cl C X.env) fp) W0 c t)
    (he : ∀ (s : Shared) (H : Hp) (C : Addr) (cl : List (Str × Addr)) (fp : List Addr), SE (X.blk s H scope (compEnvC scope cl C X.env) fp) W0 elt f)
    (hp : ∀ j ∈ p.slots, j ∈ own.map (·.2) := by decide) (hs : ∀ x, foldedSetIterable iter X.env x = pure x := by intro _; rfl) :
    SE X W (.ListComp elt [⟨tg, iter, [c], 0⟩] scope pos) (evLC (own.map (·.2)) fi p t f) :=
  pe_imp (pe_lc (g := gOf (.of X) p) (tt := tOfT (.of X) W0 t) (te := tOf (.of X) W0 f) hc hN hi ok hg (fun s H C cl fp => pts_one (ht s H C cl fp)) he hs) fun σ H Q h => evLC_ok hp (fun _ _ _ z => z) h
/-- y = [..] -/
theorem ss_setLc {i : Nat} {y : Str} {py : Pos} {elt tg iter : Expr} {scope : Scope} {own : List (Str × Nat)} {pos spos : Pos} {fi : FI} {p : Pat} {f : FE} (hc : X.calm = true) (hN : X.N.Nodup) (hi : SI X W tg iter fi) (ok : BlkOk X.N X.env.scope scope own)
    (hg : ∀ (s : Shared) (H : Hp) (C : Addr) (cl : List (Str × Addr)) (fp : List Addr), SG (X.blk s H scope (compEnvC scope cl C X.env) fp) tg p)
    (he : ∀ (s : Shared) (H : Hp) (C : Addr) (cl : List (Str × Addr)) (fp : List Addr), SE (X.blk s H scope (compEnvC scope cl C X.env) fp) W0 elt f)
    (hsw : swapsWith (.ListComp elt [⟨tg, iter, [], 0⟩] scope pos) (some (.Name y py)) spos.line X.env = pure true)
    (hy : X.N[i]? = some y := by rfl) (hyl : X.env.scope.names.lookup y = some .local := by rfl) (hp : ∀ j ∈ p.slots, j ∈ own.map (·.2) := by decide) (hs : ∀ x, foldedSetIterable iter X.env x = pure x := by intro _; rfl) :
    SS X W (.Assign [.Name y py] (.ListComp elt [⟨tg, iter, [], 0⟩] scope pos) spos) (fsSet i (evLC (own.map (·.2)) fi p ftYes f)) :=
  ps_imp (ps_setLc (g := gOf (.of X) p) (tt := tYes) (te := tOf (.of X) W0 f) hc hN hy hyl hsw hi ok hg (fun _ _ _ _ _ => pts_nil) he hs) fun D σ H h => evLC_ok hp (fun _ _ _ z => yes_ok z) (fsVal_ok h fun ρ F v ρ1 x F1 H1 s1 v1 q => by
    cases e1 : store ρ1 i v with
    | none => simp only [e1] at q
    | some ρ2 =>
      simp only [e1] at q
      obtain ⟨F2, s2⟩ := store_ok' s1 v1 e1
      exact q _ F2 H1 s2)
theorem ss_setLcIf {i : Nat} {y : Str} {py : Pos} {elt tg iter c : Expr} {scope : Scope} {own : List (Str × Nat)} {pos spos : Pos} {fi : FI} {p : Pat} {t : FT} {f : FE} (hc : X.calm = true) (hN : X.N.Nodup) (hi : SI X W tg iter fi) (ok : BlkOk X.N X.env.scope scope own)
    (hg : ∀ (s : Shared) (H : Hp) (C : Addr) (cl : List (Str × Addr)) (fp : List Addr), SG (X.blk s H scope (compEnvC scope cl C X.env) fp) tg p)
    (ht : ∀ (s : Shared) (H : Hp) (C : Addr) (cl : List (Str × Addr)) (fp : List Addr), ST (X.blk s H scope (compEnvC scope cl C X.env) fp) W0 c t)
    (he : ∀ (s : Shared) (H : Hp) (C : Addr) (cl : List (Str × Addr)) (fp : List Addr), SE (X.blk s H scope (compEnvC scope cl C X.env) fp) W0 elt f)
    (hsw : swapsWith (.ListComp elt [⟨tg, iter, [c], 0⟩] scope pos) (some (.Name y py)) spos.line X.env = pure true)
    (hy : X.N[i]? = some y := by rfl) (hyl : X.env.scope.names.lookup y = some .local := by rfl) (hp : ∀ j ∈ p.slots, j ∈ own.map (·.2) := by decide) (hs : ∀ x, foldedSetIterable iter X.env x = pure x := by intro _; rfl) :
    SS X W (.Assign [.Name y py] (.ListComp elt [⟨tg, iter, [c], 0⟩] scope pos) spos) (fsSet i (evLC (own.map (·.2)) fi p t f)) :=
  ps_imp (ps_setLc (g := gOf (.of X) p) (tt := tOfT (.of X) W0 t) (te := tOf (.of X) W0 f) hc hN hy hyl hsw hi ok hg (fun s H C cl fp => pts_one (ht s H C cl fp)) he hs) fun D σ H h => evLC_ok hp (fun _ _ _ z => z) (fsVal_ok h fun ρ F v ρ1 x F1 H1 s1 v1 q => by
    cases e1 : store ρ1 i v with
    | none => simp only [e1] at q
    | some ρ2 =>
      simp only [e1] at q
      obtain ⟨F2, s2⟩ := store_ok' s1 v1 e1
      exact q _ F2 H1 s2)
end
end Tr
/-! Tr, part F: defs of the module as functions on trees and live objects; their calls. -/
namespace Tr
open PySem PySem.Spec PyProof.Rows L2

/-- what a def comes to: a value (new or not), the live objects then; an error -/
inductive RF where
  | ok (fr : Bool) (d : D) (L : List D) | ex (c n : Str) (d : D) (L : List D) | no
abbrev FF := List D → List D → RF
/-! ### live objects that nobody can come to any more are dropped -/
mutual
def D.lt (k : Nat) : D → Bool
  | .lst ds => D.lts k ds
  | .tup ds => D.lts k ds
  | .dK _ ds => D.lts k ds
  | .dT _ ds => D.lts k ds
  | .ins _ _ ds => D.lts k ds
  | .exn _ _ d => D.lt k d
  | .ref n => decide (n < k)
  | _ => true
def D.lts (k : Nat) : List D → Bool
  | [] => true
  | d :: ds => D.lt k d && D.lts k ds
end
abbrev Fz.cut (F : Fz) (k : Nat) : Fz := ⟨F.hp, F.as.take k⟩
mutual
theorem Den.cut {T : Tx} {F : Fz} {k : Nat} : ∀ (d : D) {x : V}, D.lt k d = true → Den T F d x → Den T (F.cut k) d x
  | .non, _, _, h => h
  | .bl _, _, _, h => h
  | .int _, _, _, h => h
  | .str _, _, _, h => h
  | .lst ds, _, q, ⟨a, xs, h1, h2, h3⟩ => ⟨a, xs, h1, h2, DenL.cutL ds q h3⟩
  | .tup ds, _, q, ⟨a, xs, h1, h2, h3⟩ => ⟨a, xs, h1, h2, DenL.cutL ds q h3⟩
  | .dK ks ds, _, q, ⟨a, xs, h1, h2, h3, h4⟩ => ⟨a, xs, h1, h2, h3, DenL.cutL ds q h4⟩
  | .dT ks ds, _, q, ⟨a, xs, h1, h2, h3, h4⟩ => ⟨a, xs, h1, h2, h3, DenL.cutL ds q h4⟩
  | .ins c ns ds, _, q, ⟨a, C, dx, xs, h1, h2, h3, h4, h5, h6⟩ => ⟨a, C, dx, xs, h1, h2, h3, h4, h5, DenL.cutL ds q h6⟩
  | .exn c n d, _, q, ⟨a, C, dx, y, h1, h2, h3, h4, h5⟩ => ⟨a, C, dx, y, h1, h2, h3, h4, Den.cut d q h5⟩
  | .ty _, _, _, h => h
  | .glo _, _, _, h => h
  | .scr _, _, _, ⟨a, h1, h2⟩ => ⟨a, h1, h2⟩
  | .ref n, _, q, ⟨a, h1, h2⟩ => ⟨a, h1, by
    have q : n < k := of_decide_eq_true q
    show (F.as.take k)[n]? = some a
    rw [List.getElem?_take_of_lt q]; exact h2⟩
theorem DenL.cutL {T : Tx} {F : Fz} {k : Nat} : ∀ (ds : List D) {xs : List V}, D.lts k ds = true → DenL T F ds xs → DenL T (F.cut k) ds xs
  | [], _, _, h => h
  | d :: ds, _, q, ⟨x, r, h1, h2, h3⟩ => by
    simp only [D.lts, Bool.and_eq_true] at q
    exact ⟨x, r, h1, Den.cut d q.1 h2, DenL.cutL ds q.2 h3⟩
end
theorem OwnAt.cut {T : Tx} {F : Fz} {H : Hp} {k : Nat} {d : D} {a : Addr} (q : D.lt k d = true) (h : OwnAt T F H d a) : OwnAt T (F.cut k) H d a := by
  cases d with
  | lst ds => obtain ⟨xs, h1, h2⟩ := h; exact ⟨xs, h1, DenL.cutL _ q h2⟩
  | dK ks ds => obtain ⟨xs, h1, h2, h3⟩ := h; exact ⟨xs, h1, h2, DenL.cutL _ q h3⟩
  | dT ks ds => obtain ⟨xs, h1, h2, h3⟩ := h; exact ⟨xs, h1, h2, DenL.cutL _ q h3⟩
  | ins c ns ds => obtain ⟨C, dx, xs, h1, h2, h3, h4, h5⟩ := h; exact ⟨C, dx, xs, h1, h2, h3, h4, DenL.cutL _ q h5⟩
  | _ => exact h.elim
def trim (k : Nat) (d : D) (L : List D) : List D := if (D.lt k d && D.lts k (L.take k)) = true then L.take k else L
theorem trim_self {k : Nat} {d : D} {L : List D} (h : L.length = k) : trim k d L = L := by
  unfold trim
  split
  · exact List.take_of_length_le (by omega)
  · rfl
theorem D.lts_get {k : Nat} : ∀ {ds : List D} {n : Nat} {d : D}, D.lts k ds = true → ds[n]? = some d → D.lt k d = true
  | [], _, _, _, h => by simp at h
  | e :: ds, 0, d, q, h => by
    simp only [D.lts, Bool.and_eq_true] at q
    cases h
    exact q.1
  | e :: ds, n + 1, d, q, h => by
    simp only [D.lts, Bool.and_eq_true] at q
    exact D.lts_get (n := n) q.2 h
/-- from the state at a call to the state behind it -/
structure Cst (F : Fz) (H : Hp) (F' : Fz) (H' : Hp) : Prop where
  ff : Ext F F'
  fh : Same F'.hp H'
  keep : ∀ b o, H b = some o → b ∉ F.as → H' b = some o
  own : ∀ b, b ∈ F'.as → b ∈ F.as ∨ H b = none
  dom : ∀ b o, H b = some o → ∃ o', H' b = some o'
  fz : ∀ b o, H b = some o → b ∉ F.as → (∀ c, o ≠ .own c) → F' b = F b
theorem trim_ok {T : Tx} {F F' : Fz} {H H' : Hp} {ρ0 ρ' : En} {σ0 σ' : Sg} (t : Stp T F H ρ0 σ0 F' H' ρ' σ') (h0 : ∀ b, Owned F ρ0 σ0 b → b ∈ F.as) (d : D) :
    ∃ F'', Cst F H F'' H' ∧ Live T F'' H' (trim F.as.length d ρ'.l) ∧ F''.hp = F'.hp ∧ (∀ x, Den T F' d x → Den T F'' d x) ∧ (∀ a, OwnAt T F' H' d a → OwnAt T F'' H' d a) ∧ ∀ a, a ∈ F''.as → a ∈ F'.as := by
  have lv := t.rel.lv
  have c1 : ∀ b o, H b = some o → b ∉ F.as → H' b = some o := fun b o h n => t.keep b o h fun z => n (h0 b z)
  have c2 : ∀ b o, H b = some o → b ∉ F.as → (∀ c, o ≠ .own c) → F' b = F b := fun b o h n w => t.fz b o h (fun z => n (h0 b z)) w
  unfold trim
  split
  · rename_i q
    rw [Bool.and_eq_true] at q
    refine ⟨F'.cut F.as.length, ⟨⟨t.same.hp, fun n a h => ?_⟩, t.rel.sub, c1, fun b hb => ?_, t.dom, c2⟩, ⟨?_, fun n e a q1 q2 => ?_, ?_⟩, rfl, fun x h => Den.cut d q.1 h, fun a h => h.cut q.1, fun a h => List.mem_of_mem_take h⟩
    · show (F'.as.take F.as.length)[n]? = some a
      rw [List.getElem?_take_of_lt (List.getElem?_eq_some_iff.mp h).1]
      exact t.same.as n a h
    · left
      have hb : b ∈ F'.as.take F.as.length := hb
      obtain ⟨n, hn, e⟩ := List.getElem_of_mem hb
      rw [List.length_take] at hn
      have hn2 : n < F.as.length := by omega
      have e1 : F.as[n]? = some F.as[n] := List.getElem?_eq_getElem hn2
      have e2 := t.same.as n _ e1
      rw [List.getElem_take] at e
      rw [List.getElem?_eq_getElem (by omega)] at e2
      have e3 := Option.some.inj e2
      rw [e] at e3
      rw [e3]
      exact List.getElem_mem hn2
    · show (F'.as.take F.as.length).length = _
      rw [List.length_take, List.length_take, lv.len]
    · have q2 : (F'.as.take F.as.length)[n]? = some a := q2
      have hn : n < F.as.length := by
        have := (List.getElem?_eq_some_iff.mp q2).1
        rw [List.length_take] at this
        omega
      have l1 := D.lts_get q.2 q1
      rw [List.getElem?_take_of_lt hn] at q1 q2
      obtain ⟨z1, z2⟩ := lv.ok n e a q1 q2
      exact ⟨z1, z2.cut l1⟩
    · exact lv.dis.sublist (List.take_sublist _ _)
  · exact ⟨F', ⟨t.same, t.rel.sub, c1, fun b hb => (t.own b (.inr hb)).imp (h0 b) id, t.dom, c2⟩, lv, rfl, fun _ h => h, fun _ h => h, fun _ h => h⟩
/-- the value that comes back -/
def BRel (T : Tx) (H : Hp) (F' : Fz) (H' : Hp) (fr : Bool) (d : D) (x : V) : Prop :=
  if fr = true then ∃ p, x = .ref p ∧ H p = none ∧ F' p = none ∧ p ∉ F'.as ∧ OwnAt T F' H' d p else Den T F' d x
/-- the promise of a def -/
def spP (T : Tx) (run : FF) : Sp := fun vs H Q E => ∃ F ds L, Same F.hp H ∧ Live T F H L ∧ DenL T F ds vs ∧ match run ds L with
  | .ok fr d L' => ∀ x F' H', Cst F H F' H' → Live T F' H' L' → BRel T H F' H' fr d x → Q x H'
  | .ex c n d L' => ∀ F' H' cls dx, Cst F H F' H' → Live T F' H' L' → ERel T F' c n d cls dx → E cls dx H'
  | .no => False

/-! ### from a body -/
def startP (n : Nat) (ds L : List D) : En := ⟨ds.map .sh ++ List.replicate (n - ds.length) .un, L⟩
def retV (k : Nat) (ρ : En) : Val → RF
  | .sh d => .ok false d (trim k d ρ.l)
  | .fr d => .ok true d (trim k d ρ.l)
  | .rf i => match ρ.s[i]? with
    | some (.ow d) => .ok true d (trim k d ρ.l)
    | some (.sh d) => .ok false d (trim k d ρ.l)
    | _ => .no
def finP (k : Nat) : R (Fl × En) → RF
  | .ok (.nx, ρ) => .ok false .non (trim k .non ρ.l)
  | .ok (.rt v, ρ) => retV k ρ v
  | .ex c n d ρ => .ex c n d (trim k d ρ.l)
  | _ => .no
def runP (n m : Nat) (fb : FS) : FF := fun ds L => if ds.length = m then finP L.length (fb (startP n ds L)) else .no
theorem startP_mu {n : Nat} {ds L : List D} {i : Nat} {d : D} : ¬ MuAt (startP n ds L) i d := fun e => by
  unfold MuAt startP at e
  simp only at e
  by_cases hi : i < ds.length
  · rw [List.getElem?_append_left (by rw [List.length_map]; exact hi), List.getElem?_map, List.getElem?_eq_getElem hi] at e
    cases e
  · rw [List.getElem?_append_right (by rw [List.length_map]; omega)] at e
    cases List.eq_of_mem_replicate (List.mem_of_getElem? e)
theorem startP_rel {T : Tx} {F : Fz} {H : Hp} {N : List Str} {ds L : List D} {vs : List V} (s : Same F.hp H) (lv : Live T F H L) (h : DenL T F ds vs) : Rel T F H (startP N.length ds L) (start N vs) := by
  have hl := h.length
  refine ⟨?_, s, fun i d e => ?_, fun i d m => (startP_mu m).elim, fun i j d e a m => (startP_mu m).elim, lv, fun i d a m => (startP_mu m).elim⟩
  · unfold startP L2.start
    simp only [List.length_append, List.length_map, List.length_replicate]
    omega
  · unfold startP at e
    simp only at e
    by_cases hi : i < ds.length
    · rw [List.getElem?_append_left (by rw [List.length_map]; exact hi), List.getElem?_map, List.getElem?_eq_getElem hi] at e
      cases e
      obtain ⟨x, hx, hd⟩ := h.get (List.getElem?_eq_getElem hi)
      refine ⟨x, ?_, hd⟩
      unfold L2.start
      rw [List.getElem?_append_left (by rw [List.length_map]; omega), List.getElem?_map, hx]
      rfl
    · rw [List.getElem?_append_right (by rw [List.length_map]; omega)] at e
      have := List.eq_of_mem_replicate (List.mem_of_getElem? e)
      cases this
theorem startP_own {F : Fz} {n : Nat} {ds L : List D} {σ : Sg} (b : Addr) (h : Owned F (startP n ds L) σ b) : b ∈ F.as := by
  rcases h with ⟨i, d, m, _⟩ | h
  · exact (startP_mu m).elim
  · exact h
theorem spP_run {N ps : List Str} {X : Cx} {body : List Stmt} {fb : FS} {vs : List V} {H : Hp} {Q : VK} {E : XK} (h : spP (.of X) (runP N.length ps.length fb) vs H Q E) :
    tOfS (.of X) (fun cls d _ H' => E cls d H') fb { nx := fun _ H' => Q .non H', rt := Q } (L2.start N vs) H := by
  obtain ⟨G, ds, L, s0, lv, hd, h⟩ := h
  unfold runP at h
  by_cases hl : ds.length = ps.length
  · rw [if_pos hl] at h
    refine ⟨startP N.length ds L, G, startP_rel s0 lv hd, ?_⟩
    rw [← lv.len] at h
    cases er : fb (startP N.length ds L) with
    | no => rw [er] at h; exact h
    | ex c n d ρ' =>
      rw [er] at h
      intro σ' F' H' cls dx t ⟨C, e, x, e1, e2, e3, e4, e5⟩
      obtain ⟨F'', k1, k2, k3, k4, _, _⟩ := trim_ok t startP_own d
      exact h F'' H' cls dx k1 k2 ⟨C, e, x, e1, e2, e3, by rw [k3]; exact e4, k4 x e5⟩
    | ok r =>
      obtain ⟨fl, ρ'⟩ := r
      rw [er] at h
      intro σ' F' H' t
      cases fl with
      | nx =>
        obtain ⟨F'', k1, k2, _⟩ := trim_ok t startP_own .non
        exact h .non F'' H' k1 k2 (by unfold BRel; rw [if_neg Bool.false_ne_true]; rfl)
      | bk => exact h.elim
      | ct => exact h.elim
      | rt v =>
        intro y hv
        have h : (match retV G.as.length ρ' v with
          | .ok fr d L' => ∀ x F' H', Cst G H F' H' → Live (.of X) F' H' L' → BRel (.of X) H F' H' fr d x → Q x H'
          | .ex c n d L' => ∀ F' H' cls dx, Cst G H F' H' → Live (.of X) F' H' L' → ERel (.of X) F' c n d cls dx → E cls dx H'
          | .no => False) := h
        cases v with
        | sh d =>
          obtain ⟨F'', k1, k2, k3, k4, _, _⟩ := trim_ok t startP_own d
          exact h y F'' H' k1 k2 (by unfold BRel; rw [if_neg Bool.false_ne_true]; exact k4 y hv)
        | fr d =>
          obtain ⟨F'', k1, k2, k3, _, k5, k6⟩ := trim_ok t startP_own d
          obtain ⟨a, q1, q2, q3, q4, q5⟩ := hv
          exact h y F'' H' k1 k2 (by unfold BRel; rw [if_pos rfl]; exact ⟨a, q1, q3, by rw [k3]; exact q2, fun z => q4 (.inr (k6 a z)), k5 a q5⟩)
        | rf i =>
          obtain ⟨h1, c, h2⟩ := hv
          unfold retV at h
          simp only [h2] at h
          obtain ⟨F'', k1, k2, k3, _, k5, k6⟩ := trim_ok t startP_own c
          obtain ⟨a, a1, a2, a3⟩ := t.rel.ow i c h2
          rw [h1] at a1
          cases a1
          have nl := t.rel.lo i c a h2 h1
          refine h _ F'' H' k1 k2 (by
            unfold BRel
            rw [if_pos rfl]
            refine ⟨a, rfl, ?_, by rw [k3]; exact a2, fun z => nl (k6 a z), k5 a a3⟩
            rcases t.own a (.inl ⟨i, c, h2, h1⟩) with z | z
            · have z := startP_own a z
              obtain ⟨n, hn, e⟩ := List.getElem_of_mem z
              exact (nl (List.mem_of_getElem? (t.same.as n a (by rw [List.getElem?_eq_getElem hn, e])))).elim
            · exact z)
  · rw [if_neg hl] at h; exact h.elim

/-! ### calls -/
/-- the value of a call -/
def backV (fr : Bool) (d : D) : Val := if fr = true then .fr d else .sh d
theorem Cst.stp {T : Tx} {F F' : Fz} {H H' : Hp} {ρ : En} {σ : Sg} {L' : List D} (c : Cst F H F' H') (r : Rel T F H ρ σ) (lv : Live T F' H' L') : Stp T F H ρ σ F' H' ⟨ρ.s, L'⟩ σ where
  rel := by
    refine ⟨r.len, c.fh, fun i d q => ?_, fun i d q => ?_, r.dis, lv, fun i d a q h z => ?_⟩
    · obtain ⟨x, h1, h2⟩ := r.sh i d q
      exact ⟨x, h1, h2.mono c.ff⟩
    · obtain ⟨a, h1, h2, h3⟩ := r.ow i d q
      obtain ⟨o, h4, h5⟩ := h3.some
      have nl := r.lo i d a q h1
      refine ⟨a, h1, (c.fz a o h4 nl h5).trans h2, h3.mono c.ff ((c.keep a o h4 nl).trans h4.symm) fun b q => c.keep b _ q fun z => ?_⟩
      obtain ⟨o', z1, z2⟩ := r.lv.obj z
      rw [q] at z1
      exact z2 a (Option.some.inj z1).symm
    · obtain ⟨b, h1, _, h3⟩ := r.ow i d q
      rw [h] at h1
      cases h1
      obtain ⟨o, h4, _⟩ := h3.some
      rcases c.own a z with w | w
      · exact r.lo i d a q h w
      · rw [h4] at w; cases w
  same := c.ff
  keep := fun b o h n => c.keep b o h fun z => n (.inr z)
  own := fun b z => by
    rcases z with ⟨i, d, q, t⟩ | z
    · exact .inl (.inl ⟨i, d, q, t⟩)
    · exact (c.own b z).imp .inr id
  dom := c.dom
  fz := fun b o h n z => c.fz b o h (fun w => n (.inr w)) z
theorem BRel.vrel {T : Tx} {F F' : Fz} {H H' : Hp} {ρ : En} {σ : Sg} {L' : List D} {fr : Bool} {d : D} {x : V} (r : Rel T F H ρ σ) (h : BRel T H F' H' fr d x) : VRel T H F' H' ⟨ρ.s, L'⟩ σ (backV fr d) x := by
  unfold BRel at h
  unfold backV
  cases fr with
  | false => rw [if_neg Bool.false_ne_true] at h ⊢; exact h
  | true =>
    rw [if_pos rfl] at h ⊢
    obtain ⟨p, h1, h2, h3, h4, h5⟩ := h
    refine ⟨p, h1, h3, h2, fun z => ?_, h5⟩
    rcases z with ⟨i, d, q, t⟩ | z
    · exact not_owned r h2 (.inl ⟨i, d, q, t⟩)
    · exact h4 z
/-- f(e, ..): all arguments stay, or are live -/
def callP (run : FF) (ds0 : List D) (r : List Val × En) : R (Val × En) := match frzL r.2 r.1 with
  | some (ds, ρ) => (match run (ds ++ ds0) ρ.l with
    | .ok fr d L => .ok (backV fr d, ⟨ρ.s, L⟩)
    | .ex c n d L => .ex c n d ⟨ρ.s, L⟩
    | .no => .no)
  | none => .no
def evCall (run : FF) (ds0 : List D) (f : FA) : FE := fun ρ => (f ρ).bind (callP run ds0)
section
variable {X : Cx} {W : WX}
theorem evCall_ok {run : FF} {ds0 : List D} {dvs : List V} {f : FA} {E : XK} (hd0 : ∀ F, DenL (.of X) F ds0 dvs) {σ : Sg} {H : Hp} {Q : VK} (hE : ∀ cls d H, E cls d H → W cls d σ H) (hE' : ∀ cls d H, W cls d σ H → E cls d H) (h : tOf (.of X) W (evCall run ds0 f) σ H Q) :
    tCall (spP (.of X) run) dvs E (tOfA (.of X) W f) σ H Q := by
  obtain ⟨ρ, F, rl, h⟩ := h
  unfold evCall at h
  refine ⟨ρ, F, rl, ?_⟩
  cases ea : f ρ with
  | no => rw [ea] at h; exact h
  | ex c n d ρ' => rw [ea] at h; exact h
  | ok ra =>
    rw [ea] at h
    intro xs F1 H1 s1 p1
    have h : (match callP run ds0 ra with
      | .ok r => ∀ x F' H', Stp (.of X) F H ρ σ F' H' r.2 σ → VRel (.of X) H F' H' r.2 σ r.1 x → Q x H'
      | .ex c n d ρ' => ∀ F' H' cls dx, Stp (.of X) F H ρ σ F' H' ρ' σ → ERel (.of X) F' c n d cls dx → W cls dx σ H'
      | .no => False) := h
    unfold callP at h
    cases e1 : frzL ra.2 ra.1 with
    | none => simp only [e1] at h
    | some z =>
      obtain ⟨ds, ρ2⟩ := z
      simp only [e1] at h
      obtain ⟨F2, s2, d2⟩ := p1.frz s1.rel e1
      have s12 := s1.trans s2
      refine ⟨F2, ds ++ ds0, ρ2.l, s2.rel.sub, s2.rel.lv, d2.append (hd0 F2), ?_⟩
      cases e2 : run (ds ++ ds0) ρ2.l with
      | no => simp only [e2] at h
      | ex c n d L =>
        simp only [e2] at h
        exact fun F' H' cls dx c lv e => hE' _ _ _ (h F' H' cls dx (s12.trans (c.stp s2.rel lv)) e)
      | ok fr d L =>
        simp only [e2] at h
        exact fun x F' H' c lv r => h x F' H' (s12.trans (c.stp s2.rel lv)) ((r.vrel s2.rel).back s12)
/-- what a body's wish says of slots is not looked at -/
def Flat (W : WX) : Prop := ∀ cls d σ σ' H, W cls d σ H → W cls d σ' H
end
section
variable {P : Program} {w : World} {K : PySem.W.Frag} {mg : Str → Option Value} {base : Heap}
/-- the context of a def's body -/
abbrev cxD (P : Program) (w : World) (K : PySem.W.Frag) (mg : Str → Option Value) (base : Heap) (N : List Str) (qual : Str) (st : Stmt) (f : Addr) (cdv : Value) (A : Around) (outer : List Env) (s : Shared) (H : Hp) (E : XK) : Cx :=
  cxOf (L2.CX P w) P w K mg base N qual (defScope st) f cdv A outer s H E
/-- room for k calls, one within the other -/
structure Room (k : Nat) (A : Around) : Prop where
  hd : A.handled = none
  dp : A.depth + k + 8 < recursionLimit
  un : A.units + 16 * k + 200 < cLine
theorem Room.mono {j k : Nat} {A : Around} (r : Room k A) (h : j ≤ k) : Room j A := ⟨r.hd, by have := r.dp; omega, by have := r.un; omega⟩
theorem Room.deeper {k : Nat} {A : Around} (r : Room (k + 1) A) (env : Env) : Room k (A.deeper env) :=
  ⟨r.hd, by have := r.dp; show A.depth + 1 + k + 8 < _; omega, by have := r.un; show A.units + 3 + 16 * k + 200 < _; omega⟩
theorem Room.depth {k : Nat} {A : Around} (r : Room k A) : A.depth < recursionLimit := by have := r.dp; omega
theorem Room.units {k : Nat} {A : Around} (r : Room k A) : A.units + 64 < cLine := by have := r.un; omega
/-- as FnOk, under no repr -/
structure FnA (P : Program) (w : World) (K : PySem.W.Frag) (mg : Str → Option Value) (base : Heap) (k : Nat) (f : Addr) (fd : FuncData) (ps : List Str) (sp : Sp) : Prop where
  len : ∀ vs H Q E, sp vs H Q E → vs.length = ps.length
  go : ∀ (A : Around) (outer : List Env) (s : Shared) (H : Hp) (args : Args) (us : List Value) (vs : List V) (Q : VK) (E : XK), A.guards = some [] → Room k A → Env0 P w K mg base A outer s H →
    BindsTo s fd args (ps.zip us) → Vals vs us → sp vs H Q E → codeAny (model P w) A (.call (.ref f) args) (CR (L2.CX P w) outer P w H s Q E) s
theorem FnA.mono {j k : Nat} {f : Addr} {fd : FuncData} {ps : List Str} {sp : Sp} (h : FnA P w K mg base j f fd ps sp) (l : j ≤ k) : FnA P w K mg base k f fd ps sp :=
  ⟨h.len, fun A outer s H args us vs Q E g hr => h.go A outer s H args us vs Q E g (hr.mono l)⟩
theorem FnA.imp {k : Nat} {f : Addr} {fd : FuncData} {ps : List Str} {sp sp' : Sp} (h : FnA P w K mg base k f fd ps sp) (i : ∀ vs H Q E, sp' vs H Q E → sp vs H Q E) : FnA P w K mg base k f fd ps sp' :=
  ⟨fun vs H Q E q => h.len vs H Q E (i _ _ _ _ q), fun A outer s H args us vs Q E g hr he hb hv q => h.go A outer s H args us vs Q E g hr he hb hv (i _ _ _ _ q)⟩
/-- a def by its body, for such places -/
theorem fnA_body {x qual : Str} {st : Stmt} {f : Addr} {fd : FuncData} {N ps : List Str} {k : Nat} {sp : Sp} (F : Fun K x qual st f fd) (S : FnScope N ps (defScope st)) (len : ∀ vs H Q E, sp vs H Q E → vs.length = ps.length)
    (hb : ∀ (cdv : Value) (A : Around) (outer : List Env) (s : Shared) (H : Hp) (vs : List V) (Q : VK) (E : XK), A.guards = some [] → Room k (A.deeper (envOfC qual (defScope st) s.heap.objs.size f cdv)) → sp vs H Q E →
      ∃ t, PSs (cxD P w K mg base N qual st f cdv A outer s H E) (defBody st) t ∧ t { nx := fun _ H' => Q .non H', rt := Q } (L2.start N vs) H) : FnA P w K mg base (k + 1) f fd ps sp := by
  obtain ⟨oc, od, kV, doc, pm, an, cdv, ct, osl, rfl, lk, hcd⟩ := F.ex
  refine ⟨len, fun A outer s H args us vs Q E hgu hr e0 hbi r hsp => ?_⟩
  have hlen := len vs H Q E hsp
  have inS : K.In s.heap := e0.mod.kin.keeps (fun b o e => And.left (e0.bs b o e))
  have nolim := e0.mod.nolimit.keeps (fun b o e => And.left (e0.bs b o e))
  have kinds : ∀ y, y ∈ ps.zip us → (defScope st).names.lookup y.1 = some .local ∨ ((defScope st).names.lookup y.1 = some .cell ∧ ((cellsFrom (s.heap.objs.size + 1) (defScope st).names []).lookup y.1).isSome = true) := by
    rintro ⟨n, v⟩ hy
    have hn : n ∈ ps := (List.of_mem_zip hy).1
    cases S.par n hn with
    | inl q => exact Or.inl q
    | inr q => exact Or.inr ⟨q, PySem.W.cellsFrom_some _ _ _ (Or.inl q)⟩
  apply codeAny_call_function hr.depth (inS _ _ lk) rfl S.co S.gen rfl (PySem.W.codeRec_of inS hcd)
  apply hbi
  apply wpAny_newFunctionEnv_cells S.kind kinds
  intro env he s1 x
  subst he
  constructor
  · exact nolim.keeps x.toInCall.keep
  · apply codeAny_func
    obtain ⟨t, ht, hq⟩ := hb cdv A outer s H vs Q E hgu (hr.deeper _) hsp
    have I0 := inv_start (CX := L2.CX P w) (E := E) S hr.hd e0 hlen r x
    refine wpAny_mono (ht.run [] s1 _ H _ I0 hq) (fun fl s' hs => ?_) (fun _ _ hs => hs)
    cases fl with
    | brk =>
      obtain ⟨_, _, _, z⟩ := hs
      exact z.elim
    | cont =>
      obtain ⟨_, _, _, z⟩ := hs
      exact z.elim
    | ret u =>
      obtain ⟨v, σ1, H1, J, rv, q⟩ := hs
      exact ⟨v, H1, J.os, J.bare, J.base, J.hok, rv, q⟩
    | next =>
      obtain ⟨σ1, H1, J, q⟩ := hs
      exact ⟨V.non, H1, J.os, J.bare, J.base, J.hok, rfl, q⟩
/-- a body, where no repr is under way -/
def BdA (P : Program) (w : World) (K : PySem.W.Frag) (mg : Str → Option Value) (base : Heap) (N : List Str) (qual : Str) (st : Stmt) (f : Addr) (k : Nat) (fb : FS) : Prop :=
  ∀ (cdv : Value) (A : Around) (outer : List Env) (s : Shared) (H : Hp) (E : XK), A.guards = some [] → Room k (A.deeper (envOfC qual (defScope st) s.heap.objs.size f cdv)) →
    SSs (cxD P w K mg base N qual st f cdv A outer s H E) (fun cls d _ H' => E cls d H') (defBody st) fb
theorem fnPA {x qual : Str} {st : Stmt} {f : Addr} {fd : FuncData} {N ps : List Str} {k : Nat} {fb : FS} (F : Fun K x qual st f fd) (S : FnScope N ps (defScope st)) (hb : BdA P w K mg base N qual st f k fb) :
    FnA P w K mg base (k + 1) f fd ps (spP ⟨K, mg⟩ (runP N.length ps.length fb)) := by
  refine fnA_body F S (fun vs H Q E h => ?_) (fun cdv A outer s H vs Q E hg hr h => ⟨_, hb cdv A outer s H E hg hr, spP_run (X := cxD P w K mg base N qual st f cdv A outer s H E) (body := []) h⟩)
  obtain ⟨G, ds, L, s, lv, hd, h⟩ := h
  unfold runP at h
  by_cases hl : ds.length = ps.length
  · rw [← hd.length, hl]
  · rw [if_neg hl] at h; exact h.elim
/-- the law's call, where nothing is written by repr -/
theorem law_callA {mb : Str → Option Value} {k : Nat} {fa a : Addr} {fd : FuncData} {x : Str} {sp : Sp} {s1 : Shared} {vs : List Value} {ns : List Int}
    (KX : K.In s1.heap) (hns : s1.heap.Ns mainGlobals mg) (hb : s1.heap.Ns builtinsNs mb) (hbb : ∀ x : Str, x ≠ "__name__" → mb x = bootBuiltins x) (hlim : s1.heap.NoLimit) (hg : s1.gens = #[])
    (ha : s1.heap.get? a = some { cls := .type "list", data := .seq vs.toArray }) (hi : IntsAre vs ns) (hl : ns.length ≤ sizeLine) (hr : Room k callerA)
    (hsys : ∃ mm, s1.heap.Ns sysModules mm) (F : ∀ base : Heap, K.In base → base.Ns mainGlobals mg → (∃ mm, base.Ns sysModules mm) → FnA P w K mg base k fa fd [x] sp) (hbind : ∀ (s : Shared) (u : Value), BindsTo s fd ⟨[u], []⟩ [(x, u)])
    (hsp : ∀ H : Hp, SqL K H a (ns.map V.int) → sp [.ref a] H (fun v _ => v = .bl true) fun _ _ _ => False) :
    codeAny (model P w) callerA (.call (.ref fa) ⟨[.ref a], []⟩) (fun r s' => r = .ok (.ret (.bool true)) ∧ OldK s1.heap s'.heap ∧ s'.os = s1.os ∧ AllBare s'.gens) s1 := by
  -- H: nothing is tracked but, at most, the script as it is
  have main : ∀ H : Hp, (∀ b, H b = none ∨ (b = a ∧ H b = some (.frz { cls := .type "list", data := .seq vs.toArray } (.lst (ns.map V.int))))) → SqL K H a (ns.map V.int) → (H a = none ∨ K.lookup a = none) →
      codeAny (model P w) callerA (.call (.ref fa) ⟨[.ref a], []⟩) (fun r s' => r = .ok (.ret (.bool true)) ∧ OldK s1.heap s'.heap ∧ s'.os = s1.os ∧ AllBare s'.gens) s1 := by
    intro H hO hS hK
    have hok : HOk P w H s1.heap := fun b u z => by
      rcases hO b with q | ⟨q1, q2⟩
      · rw [q] at z; cases z
      · rw [q2] at z; cases z; subst q1
        exact ⟨ha, by rw [List.length_map]; exact hl, vs, _, vals_ints hi, ha⟩
    have free : ∀ b o es ep, s1.heap.get? b = some o → o.data = .dict es ep → H b = none := fun b o es ep e d => by
      rcases hO b with q | ⟨q1, _⟩
      · exact q
      · subst q1; rw [ha] at e; cases e
        have d' : Data.seq vs.toArray _ = Data.dict es ep := d
        cases d'
    have nsB : ∀ b m, s1.heap.Ns b m → (hidT s1.heap H).Ns b m := by
      rintro b m ⟨o, es, ep, e, d, r⟩
      exact ⟨o, es, ep, hidT_get e (free b o es ep e d), d, r⟩
    have kB : K.In (hidT s1.heap H) := fun b o e => hidT_get (KX b o e) (by
      rcases hO b with q | ⟨q1, q2⟩
      · exact q
      · subst q1
        rcases hK with z | z
        · exact z
        · rw [z] at e; cases e)
    have md : Mod K mg (hidT s1.heap H) := by
      refine ⟨kB, nsB _ _ hns, ⟨mb, nsB _ _ hb, hbb⟩, ?_⟩
      obtain ⟨mc, h1, h2⟩ := hlim
      exact ⟨mc, nsB _ _ h1, h2⟩
    have e0 : Env0 P w K mg (hidT s1.heap H) callerA [] s1 H :=
      ⟨rfl, md, fun b o e => of_hidT e, Nat.le_of_eq (hidT_size _ _), trivial, (fun b hb => by cases hb), hok, .of_eq hg⟩
    refine codeAny_mono ((F _ kB (nsB _ _ hns) (let ⟨mm, q⟩ := hsys; ⟨mm, nsB _ _ q⟩)).go callerA [] s1 H ⟨[.ref a], []⟩ [.ref a] [.ref a] _ _ rfl hr e0 (hbind s1 (.ref a)) (.cons rfl .nil) (hsp H hS)) ?_
    intro r s' h
    cases r with
    | error e =>
      obtain ⟨_, _, _, _, _, _, _, _, _, _, _, _, z⟩ := h
      exact z.elim
    | ok fl =>
      cases fl with
      | ret u =>
        obtain ⟨v, H', os, bare, un, hok', r', q⟩ := h
        have ev : v = .bl true := q
        subst ev
        have eu : u = Value.bool true := r'
        subst eu
        refine ⟨rfl, OldK.of_keep fun b o e => ?_, os, bare⟩
        rcases hO b with q | ⟨_, q2⟩
        · exact un.keep b o e q (fun z => by cases z) (fun z => by cases z)
        · obtain ⟨e1, _⟩ := hok b _ q2
          obtain ⟨e2, _⟩ := hok' b _ (un.frzs b _ _ q2)
          rw [e] at e1; cases e1
          exact e2
      | next => exact h.elim
      | brk => exact h.elim
      | cont => exact h.elim
  cases hk : K.lookup a with
  | some o =>
    have e := KX a o hk
    rw [ha] at e
    cases e
    refine main (fun _ => none) (fun _ => .inl rfl) ?_ (.inl rfl)
    refine .inr ⟨_, vs.toArray, _, hk, rfl, rfl, rfl, ?_, ?_⟩
    · rw [List.size_toArray, hi.length]; exact hl
    · simpa using vals_ints hi
  | none =>
    refine main (fun b => if b = a then some (.frz { cls := .type "list", data := .seq vs.toArray } (.lst (ns.map V.int))) else none) (fun b => ?_) ?_ (.inr hk)
    · by_cases q : b = a
      · exact .inr ⟨q, if_pos q⟩
      · exact .inl (if_neg q)
    · exact .inl (.inr ⟨{ cls := .type "list", data := .seq vs.toArray }, if_pos rfl⟩)
/-- the goal that the head leaves, from the law's body -/
theorem walkA {l : PySem.W.OpenLaw} {n k : Nat} {q : Program} {loose : List Str} {XP : (Str → Option Value) → Heap → Prop} {YP : World → Heap → Prop} {d : DefRec} {K : Params → PySem.W.Frag} {sp : PySem.W.Frag → (Str → Option Value) → Sp} {x : Str}
    (hn : l.most = some n) (hn2 : n ≤ sizeLine) (hdf : d.params.defaults = []) (hr : Room k callerA) (him : importsNone q = true)
    (hY : ∀ (w : World) (h : Heap), YP w h → (K w.params).In h)
    (F : ∀ (w : World) (mg : Str → Option Value) (fa : Addr) (h : Heap), (K w.params).In h → h.Ns mainGlobals mg → mg d.name = some (.ref fa) →
      ∃ fd : FuncData, (∀ (s : Shared) (u : Value), BindsTo s fd ⟨[u], []⟩ [(x, u)]) ∧
        ∀ base : Heap, (K w.params).In base → base.Ns mainGlobals mg → (∃ mm, base.Ns sysModules mm) → FnA l.prog w (K w.params) mg base k fa fd [x] (sp (K w.params) mg))
    (hsp : ∀ (K : PySem.W.Frag) (mg : Str → Option Value) (H : Hp) (a : Addr) (ns : List Int), ns.length ≤ n → SqL K H a (ns.map V.int) → sp K mg [.ref a] H (fun v _ => v = .bl true) fun _ _ _ => False) :
    PySem.W.WalkO q loose XP YP l.row.toRowW d [] (fun f vs => PySem.call f vs) := by
  refine Att.attach_call hn hdf ?_
  intro w s0 s1 mg mb fa o pm cd doc a vs ns G Y ho hd hcd hmg hobj hints hlen hg
  obtain ⟨fd, hb, hF⟩ := F w mg fa _ (hY w _ Y) G.T.g hmg
  exact law_callA (hY w _ Y) G.T.g G.T.b G.T.builtins G.T.nolimit hg hobj hints (Nat.le_trans hlen hn2) hr (let ⟨mm, q, _⟩ := (G.T.seer him).mods; ⟨mm, q⟩) hF hb (fun H hS => hsp _ mg H a ns hlen hS)
end

/-! ### calls, further -/
section
variable {X : Cx} {W : WX}
/-- f(e, ..), f such a def -/
theorem run_fnA {CX : CXT} {k : Nat} {f : Addr} {fd : FuncData} {ps : List Str} {sp : Sp} {dvs : List V} {ds : List Value} {E : XK} {pins : List (Addr × Obj)} {σ : Sg} {H : Hp} {s : Shared} {Q : VK} {us : List Value} {vs : List V}
    (G : FnA X.prog X.w X.K X.mg X.base k f fd ps sp) (hgu : X.A.guards = some []) (hr : Room k X.A) (hb : Binds X.K fd ps ds) (hd : Vals dvs ds) (hx : Passes (L2.CX X.prog X.w) X E)
    (I : Inv X pins σ H s) (r : Vals vs us) (h : sp (vs ++ dvs) H Q E) : wpAny (model X.prog X.w) X.A (call (.ref f) us) (EP X pins σ Q) X.xe s := by
  have rr := r.append hd
  have hl : (us ++ ds).length = ps.length := rr.length.symm.trans (G.len _ _ _ _ h)
  refine wpAny_call (codeAny_mono (G.go X.A X.stack s H ⟨us, []⟩ _ _ Q E hgu hr I.env0 (hb s us I.kIn hl) rr h) ?_)
  intro r s' hq
  match r, hq with
  | .error e, hq => exact hx pins σ H s e s' I hq
  | .ok (.ret u), hq => exact I.after hq
  | .ok .next, hq => exact hq.elim
  | .ok .brk, hq => exact hq.elim
  | .ok .cont, hq => exact hq.elim
end
end Tr
/-! Tr, part H: built-in operations on trees. -/
namespace Tr
open PySem PySem.Spec PyProof.Rows L2

section
variable {T : Tx} {F : Fz} {H : Hp} {x : V}
theorem Pk.bl {b : Bool} (h : Pk T F H (.bl b) x) : x = .bl b := by
  rcases h with h | ⟨_, _, h⟩
  · exact h
  · exact h.elim
theorem Pk.str {b : Str} (h : Pk T F H (.str b) x) : x = .str b := by
  rcases h with h | ⟨_, _, h⟩
  · exact h
  · exact h.elim
theorem Pk.non (h : Pk T F H .non x) : x = .non := by
  rcases h with h | ⟨_, _, h⟩
  · exact h
  · exact h.elim
theorem Pk.lst {ds : List D} (s : Same F.hp H) (h : Pk T F H (.lst ds) x) : ∃ a xs, x = .ref a ∧ H a = some (.lst xs) ∧ DenL T F ds xs := by
  rcases h with ⟨a, xs, h1, h2, h3⟩ | ⟨a, h1, xs, h2, h3⟩
  · exact ⟨a, xs, h1, s _ _ h2, h3⟩
  · exact ⟨a, xs, h1, h2, h3⟩
theorem Pk.tup {ds : List D} (s : Same F.hp H) (h : Pk T F H (.tup ds) x) : ∃ a xs, x = .ref a ∧ SqT T.K H a xs ∧ DenL T F ds xs ∧ SqT T.K F a xs := by
  rcases h with ⟨a, xs, h1, h2, h3⟩ | ⟨a, h1, h2⟩
  · exact ⟨a, xs, h1, Same.sqT s h2, h3, h2⟩
  · exact h2.elim
theorem Pk.scr {ns : List Int} (s : Same F.hp H) (h : Pk T F H (.scr ns) x) : ∃ a, x = .ref a ∧ SqL T.K H a (ns.map V.int) := by
  rcases h with ⟨a, h1, h2⟩ | ⟨a, h1, h2⟩
  · exact ⟨a, h1, Same.sqL s h2⟩
  · exact h2.elim
end

section
variable {X : Cx} {W : WX}
abbrev vI (i : Int) : Val := .sh (.int i)
abbrev vB (b : Bool) : Val := .sh (.bl b)
/-- a plain value comes back -/
theorem plainQ {F : Fz} {H : Hp} {d : D} {w : V} {Q : VK} (s : Same F.hp H) (k : ∀ w F' H', New (.of X) F H F' H' → NRel (.of X) H F' H' (.sh d) w → Q w H') (h : Den (.of X) F d w) : Q w H := k w F H (New.refl s) h

/-! ### + - * // % ** -/
def addD : D → D → Option Val
  | .int i, .int j => some (vI (i + j))
  | .str a, .str b => if a.length + b.length ≤ 16777216 then some (.sh (.str (a ++ b))) else none
  | .lst xs, .lst ys => if xs.length + ys.length ≤ 16777216 then some (.fr (.lst (xs ++ ys))) else none
  | .tup xs, .tup ys => if xs.length + ys.length ≤ 16777216 then some (.sh (.tup (xs ++ ys))) else none
  | _, _ => none
theorem os_add : OpS X (binaryOp .Add) addD := by
  refine ⟨_, OpR.or (OpR.or op_add op_add_str) (OpR.or op_cat op_catA), fun F H x y d e z Q s px py hg k => ?_⟩
  unfold addD at hg
  split at hg
  · cases hg
    exact .inl (.inl ⟨_, _, px.int, py.int, plainQ s k rfl⟩)
  · split at hg
    · rename_i hl
      cases hg
      exact .inl (.inr ⟨_, _, px.str, py.str, size_le hl, plainQ s k rfl⟩)
    · cases hg
  · split at hg
    · rename_i hl
      cases hg
      obtain ⟨a, xs, e1, h1, d1⟩ := px.lst s
      obtain ⟨b, ys, e2, h2, d2⟩ := py.lst s
      refine .inr (.inl ⟨a, b, xs, ys, e1, e2, h1, h2, size_le (by rw [← d1.length, ← d2.length]; exact hl), fun p hp => ?_⟩)
      exact k _ F _ (New.fr s hp) ⟨p, rfl, s.free hp, hp, _, upd_same, d1.append d2⟩
    · cases hg
  · split at hg
    · rename_i hl
      cases hg
      obtain ⟨a, xs, e1, h1, d1, f1⟩ := px.tup s
      obtain ⟨b, ys, e2, h2, d2, f2⟩ := py.tup s
      refine .inr (.inr ⟨a, b, xs, ys, e1, e2, h1, h2, size_le (by rw [← d1.length, ← d2.length]; exact hl), fun z => ?_, fun _ z => ?_, fun _ _ p hp => ?_⟩)
      · refine plainQ s k ⟨b, ys, rfl, f2, ?_⟩
        have l1 := d1.length
        rw [z] at l1
        rw [List.eq_nil_of_length_eq_zero l1]
        exact d2
      · refine plainQ s k ⟨a, xs, rfl, f1, ?_⟩
        have l2 := d2.length
        rw [z] at l2
        rw [List.eq_nil_of_length_eq_zero l2, List.append_nil]
        exact d1
      · exact k _ _ _ (New.sh s hp) ⟨p, _, rfl, SqT.of upd_same, (d1.append d2).mono (ext_upd (s.free hp))⟩
    · cases hg
  · cases hg
def iaddD : D → D → Option Val
  | .int i, .int j => some (vI (i + j))
  | .str a, .str b => if a.length + b.length ≤ 16777216 then some (.sh (.str (a ++ b))) else none
  | _, _ => none
theorem os_iadd : OpS X (inplaceOp .Add) iaddD := by
  refine ⟨_, OpR.or iop_add iop_add_str, fun F H x y d e z Q s px py hg k => ?_⟩
  unfold iaddD at hg
  split at hg
  · cases hg
    exact .inl ⟨_, _, px.int, py.int, plainQ s k rfl⟩
  · split at hg
    · rename_i hl
      cases hg
      exact .inr ⟨_, _, px.str, py.str, size_le hl, plainQ s k rfl⟩
    · cases hg
  · cases hg
def subD : D → D → Option Val
  | .int i, .int j => some (vI (i - j))
  | _, _ => none
theorem os_sub : OpS X (binaryOp .Sub) subD := by
  refine ⟨_, op_sub, fun F H x y d e z Q s px py hg k => ?_⟩
  unfold subD at hg
  split at hg
  · cases hg
    exact ⟨_, _, px.int, py.int, plainQ s k rfl⟩
  · cases hg
theorem os_isub : OpS X (inplaceOp .Sub) subD := by
  refine ⟨_, iop_sub, fun F H x y d e z Q s px py hg k => ?_⟩
  unfold subD at hg
  split at hg
  · cases hg
    exact ⟨_, _, px.int, py.int, plainQ s k rfl⟩
  · cases hg
/-- the factors have together less than a million bits -/
def mulOk (i j : Int) : Prop := i.natAbs.log2 + j.natAbs.log2 < 1000000
instance (i j : Int) : Decidable (mulOk i j) := inferInstanceAs (Decidable (_ < _))
def mulD : D → D → Option Val
  | .int i, .int j => if mulOk i j then some (vI (i * j)) else none
  | .lst xs, .int k => if -(2 ^ 63) ≤ k ∧ k < 2 ^ 63 ∧ xs.length * k.toNat ≤ 16777216 then some (.fr (.lst (List.replicate k.toNat xs).flatten)) else none
  | .tup xs, .int k => if xs ≠ [] ∧ 2 ≤ k ∧ k ≤ 1000 ∧ xs.length ≤ 1000 then some (.sh (.tup (List.replicate k.toNat xs).flatten)) else none
  | _, _ => none
theorem DenL.rep {T : Tx} {F : Fz} {ds : List D} {xs : List V} (h : DenL T F ds xs) : ∀ n : Nat, DenL T F (List.replicate n ds).flatten (List.replicate n xs).flatten
  | 0 => rfl
  | n + 1 => by
    rw [List.replicate_succ, List.replicate_succ, List.flatten_cons, List.flatten_cons]
    exact h.append (h.rep n)
theorem os_mul : OpS X (binaryOp .Mult) mulD := by
  refine ⟨_, OpR.or op_mulW (OpR.or op_rep op_repT), fun F H x y d e z Q s px py hg k => ?_⟩
  unfold mulD at hg
  split at hg
  · split at hg
    · rename_i hl
      cases hg
      exact .inl ⟨_, _, px.int, py.int, hl, plainQ s k rfl⟩
    · cases hg
  · split at hg
    · rename_i hl
      cases hg
      obtain ⟨a, xs, e1, h1, d1⟩ := px.lst s
      refine .inr (.inl ⟨a, _, xs, e1, py.int, h1, hl.1, hl.2.1, size_le (by rw [← d1.length]; exact hl.2.2), fun p hp => ?_⟩)
      exact k _ F _ (New.fr s hp) ⟨p, rfl, s.free hp, hp, _, upd_same, d1.rep _⟩
    · cases hg
  · split at hg
    · rename_i hl
      cases hg
      obtain ⟨a, xs, e1, h1, d1, f1⟩ := px.tup s
      have hne : xs ≠ [] := fun z => hl.1 (List.eq_nil_of_length_eq_zero (by rw [d1.length, z]; rfl))
      refine .inr (.inr ⟨a, _, xs, e1, py.int, h1, hne, hl.2.1, hl.2.2.1, by rw [← d1.length]; exact hl.2.2.2, fun p hp => ?_⟩)
      exact k _ _ _ (New.sh s hp) ⟨p, _, rfl, SqT.of upd_same, (d1.rep _).mono (ext_upd (s.free hp))⟩
    · cases hg
  · cases hg
/-- // by a divisor of less than 9000 bits -/
def divOk (j : Int) : Prop := j ≠ 0 ∧ j.natAbs.log2 < 9000
instance (j : Int) : Decidable (divOk j) := inferInstanceAs (Decidable (_ ∧ _))
def divD : D → D → Option Val
  | .int i, .int j => if divOk j then some (vI (i.fdiv j)) else none
  | _, _ => none
theorem op_fdivA : OpR X (binaryOp .FloorDiv) (rI (fun _ j => divOk j) fun i j => .int (i.fdiv j)) := opI fun i j _ _ _ _ _ hc q => floordiv_int hc.1 q (.inl (PyProof.noPylong_of_log2 hc.2))
theorem os_div : OpS X (binaryOp .FloorDiv) divD := by
  refine ⟨_, op_fdivA, fun F H x y d e z Q s px py hg k => ?_⟩
  unfold divD at hg
  split at hg
  · split at hg
    · rename_i hl
      cases hg
      exact ⟨_, _, px.int, py.int, hl, plainQ s k rfl⟩
    · cases hg
  · cases hg
def modD : D → D → Option Val
  | .int i, .int j => if j ≠ 0 then some (vI (i.fmod j)) else none
  | _, _ => none
theorem os_mod : OpS X (binaryOp .Mod) modD := by
  refine ⟨_, op_modN, fun F H x y d e z Q s px py hg k => ?_⟩
  unfold modD at hg
  split at hg
  · split at hg
    · rename_i hl
      cases hg
      exact ⟨_, _, px.int, py.int, hl, plainQ s k rfl⟩
    · cases hg
  · cases hg
def powOk (i j : Int) : Prop := 0 ≤ j ∧ (Builtin.Int.intBits i : Int) * j ≤ 2 ^ 27
instance (i j : Int) : Decidable (powOk i j) := inferInstanceAs (Decidable (_ ∧ _))
def powD : D → D → Option Val
  | .int i, .int j => if powOk i j then some (vI (i ^ j.toNat)) else none
  | _, _ => none
theorem op_powW : OpR X (binaryOp .Pow) (rI powOk fun i j => .int (i ^ j.toNat)) := opI fun _ _ _ _ _ _ _ hc q => pow_int hc.1 hc.2 q
theorem os_pow : OpS X (binaryOp .Pow) powD := by
  refine ⟨_, op_powW, fun F H x y d e z Q s px py hg k => ?_⟩
  unfold powD at hg
  split at hg
  · split at hg
    · rename_i hl
      cases hg
      exact ⟨_, _, px.int, py.int, hl, plainQ s k rfl⟩
    · cases hg
  · cases hg
def negD : D → Option Val
  | .int i => some (vI (-i))
  | _ => none
theorem us_neg : UnS X (rU fun i => .int (-i)) negD := fun F H x d z Q s px hg k => by
  unfold negD at hg
  split at hg
  · cases hg
    exact ⟨_, px.int, plainQ s k rfl⟩
  · cases hg

/-! ### comparisons -/
def ltD : D → D → Option Val
  | .int i, .int j => some (vB (decide (i < j)))
  | _, _ => none
theorem os_lt : OpS X (compareOp .Lt) ltD := by
  refine ⟨_, op_lt, fun F H x y d e z Q s px py hg k => ?_⟩
  unfold ltD at hg
  split at hg
  · cases hg
    exact ⟨_, _, px.int, py.int, plainQ s k rfl⟩
  · cases hg
def leD : D → D → Option Val
  | .int i, .int j => some (vB (decide (i ≤ j)))
  | _, _ => none
theorem os_le : OpS X (compareOp .LtE) leD := by
  refine ⟨_, op_le, fun F H x y d e z Q s px py hg k => ?_⟩
  unfold leD at hg
  split at hg
  · cases hg
    exact ⟨_, _, px.int, py.int, plainQ s k rfl⟩
  · cases hg
def gtD : D → D → Option Val
  | .int i, .int j => some (vB (decide (j < i)))
  | _, _ => none
theorem os_gt : OpS X (compareOp .Gt) gtD := by
  refine ⟨_, op_gt, fun F H x y d e z Q s px py hg k => ?_⟩
  unfold gtD at hg
  split at hg
  · cases hg
    exact ⟨_, _, px.int, py.int, plainQ s k rfl⟩
  · cases hg
def geD : D → D → Option Val
  | .int i, .int j => some (vB (decide (j ≤ i)))
  | _, _ => none
theorem os_ge : OpS X (compareOp .GtE) geD := by
  refine ⟨_, op_ge, fun F H x y d e z Q s px py hg k => ?_⟩
  unfold geD at hg
  split at hg
  · cases hg
    exact ⟨_, _, px.int, py.int, plainQ s k rfl⟩
  · cases hg
/-- x is None -/
def isND : D → D → Option Val
  | .non, .non => some (vB true)
  | .bl _, .non => some (vB false)
  | .int _, .non => some (vB false)
  | .str _, .non => some (vB false)
  | .lst _, .non => some (vB false)
  | .tup _, .non => some (vB false)
  | .exn _ _ _, .non => some (vB false)
  | .ins _ _ _, .non => some (vB false)
  | .dK _ _, .non => some (vB false)
  | .dT _ _, .non => some (vB false)
  | _, _ => none
theorem isND_ok {F : Fz} {H : Hp} {x y : V} {d e : D} {z : Val} (s : Same F.hp H) (px : Pk (.of X) F H d x) (py : Pk (.of X) F H e y) (hg : isND d e = some z) : y = .non ∧ z = vB (decide (x = .non)) := by
  unfold isND at hg
  split at hg <;> first
    | (cases hg; refine ⟨py.non, ?_⟩; rw [px.non]; rfl)
    | (cases hg; refine ⟨py.non, ?_⟩; rw [px.bl]; rfl)
    | (cases hg; refine ⟨py.non, ?_⟩; rw [px.int]; rfl)
    | (cases hg; refine ⟨py.non, ?_⟩; rw [px.str]; rfl)
    | (cases hg
       refine ⟨py.non, ?_⟩
       rcases px with px | ⟨a, e1, _⟩
       · first
           | (obtain ⟨a, _, e1, _⟩ := px; rw [e1]; rfl)
           | (obtain ⟨a, _, _, _, e1, _⟩ := px; rw [e1]; rfl)
       · rw [e1]; rfl)
    | cases hg
theorem os_isN : OpS X (compareOp .Is) isND := by
  refine ⟨_, op_isN, fun F H x y d e z Q s px py hg k => ?_⟩
  obtain ⟨h1, h2⟩ := isND_ok s px py hg
  subst h2
  exact ⟨h1, plainQ s k rfl⟩
def isNotND (d e : D) : Option Val := match isND d e with
  | some (.sh (.bl b)) => some (vB (!b))
  | _ => none
theorem os_notN : OpS X (compareOp .IsNot) isNotND := by
  refine ⟨_, op_notN, fun F H x y d e z Q s px py hg k => ?_⟩
  unfold isNotND at hg
  split at hg
  · rename_i b q
    obtain ⟨h1, h2⟩ := isND_ok s px py q
    cases h2
    cases hg
    exact ⟨h1, plainQ s k rfl⟩
  · cases hg

/-! ### == -/
mutual
def toPy : D → Option PyData
  | .non => some .none
  | .bl b => some (.bool b)
  | .int i => some (.int i)
  | .str x => some (.str x)
  | .lst ds => (toPys ds).map .list
  | .tup ds => (toPys ds).map .tuple
  | _ => none
def toPys : List D → Option (List PyData)
  | [] => some []
  | d :: ds => match toPy d, toPys ds with
    | some p, some ps => some (p :: ps)
    | _, _ => none
end
mutual
theorem toPy_dp {T : Tx} {F : Fz} {H : Hp} (s : Same F.hp H) : ∀ (d : D) {p : PyData} {x : V}, toPy d = some p → Den T F d x → Dp T.K H x p
  | .non, _, _, e, h => by cases e; cases h; exact .non
  | .bl b, _, _, e, h => by cases e; cases h; exact .bl b
  | .int i, _, _, e, h => by cases e; cases h; exact .int i
  | .str i, _, _, e, h => by cases e; cases h; exact .str i
  | .lst ds, _, _, e, ⟨a, xs, h1, h2, h3⟩ => by
    simp only [toPy, Option.map_eq_some_iff] at e
    obtain ⟨ps, e1, e2⟩ := e
    subst e2 h1
    exact .lst (SqL.of (s _ _ h2)) (toPys_dp s ds e1 h3)
  | .tup ds, _, _, e, ⟨a, xs, h1, h2, h3⟩ => by
    simp only [toPy, Option.map_eq_some_iff] at e
    obtain ⟨ps, e1, e2⟩ := e
    subst e2 h1
    exact .tup (Same.sqT s h2) (toPys_dp s ds e1 h3)
  | .dK _ _, _, _, e, _ => by cases e
  | .dT _ _, _, _, e, _ => by cases e
  | .ins _ _ _, _, _, e, _ => by cases e
  | .exn _ _ _, _, _, e, _ => by cases e
  | .ty _, _, _, e, _ => by cases e
  | .glo _, _, _, e, _ => by cases e
  | .scr _, _, _, e, _ => by cases e
  | .ref _, _, _, e, _ => by cases e
theorem toPys_dp {T : Tx} {F : Fz} {H : Hp} (s : Same F.hp H) : ∀ (ds : List D) {ps : List PyData} {xs : List V}, toPys ds = some ps → DenL T F ds xs → DpAll T.K H xs ps
  | [], _, _, e, h => by cases e; have h : _ = [] := h; subst h; exact .nil
  | d :: ds, _, _, e, ⟨x, r, h1, h2, h3⟩ => by
    simp only [toPys] at e
    cases e1 : toPy d with
    | none => simp only [e1] at e; cases e
    | some p =>
      cases e2 : toPys ds with
      | none => simp only [e1, e2] at e; cases e
      | some ps =>
        simp only [e1, e2] at e
        cases e
        subst h1
        exact .cons (toPy_dp s d e1 h2) (toPys_dp s ds e2 h3)
end
theorem Pk.dp {T : Tx} {F : Fz} {H : Hp} {d : D} {p : PyData} {x : V} (s : Same F.hp H) (h : Pk T F H d x) (e : toPy d = some p) : Dp T.K H x p := by
  rcases h with h | ⟨a, rfl, h⟩
  · exact toPy_dp s d e h
  · cases d with
    | lst ds =>
      obtain ⟨xs, h1, h2⟩ := h
      simp only [toPy, Option.map_eq_some_iff] at e
      obtain ⟨ps, e1, e2⟩ := e
      subst e2
      exact .lst (SqL.of h1) (toPys_dp s ds e1 h2)
    | dK _ _ => cases e
    | dT _ _ => cases e
    | ins _ _ _ => cases e
    | _ => exact h.elim
/-- whether two trees are equal -/
def eqB (d e : D) : Option Bool := match d, e with
  | .str a, .str b => some (decide (a = b))
  | d, e => match toPy d, toPy e with
    | some p, some q => if SeqAt.shaped p = true ∧ SeqAt.shaped q = true then some (PyData.eqv p q) else none
    | _, _ => none
def eqD (d e : D) : Option Val := (eqB d e).map vB
def neD (d e : D) : Option Val := (eqB d e).map fun b => vB (!b)
theorem os_eq (hu : X.A.units + 64 < cLine) : OpS X (compareOp .Eq) eqD := by
  refine ⟨_, OpR.or op_eq (op_eqD hu), fun F H x y d e z Q s px py hg k => ?_⟩
  unfold eqD at hg
  rw [Option.map_eq_some_iff] at hg
  obtain ⟨b, hb, rfl⟩ := hg
  unfold eqB at hb
  split at hb
  · rename_i a c
    cases hb
    have ex := px.str
    have ey := py.str
    subst ex ey
    refine .inl ⟨rfl, ?_⟩
    have q : decide (V.str a = V.str c) = decide (a = c) := by
      by_cases h : a = c
      · subst h; simp
      · rw [decide_eq_false h, decide_eq_false fun z => h (V.str.inj z)]
    rw [q]
    exact plainQ s k rfl
  · split at hb
    · rename_i p q e1 e2
      split at hb
      · rename_i hs
        cases hb
        exact .inr ⟨p, q, px.dp s e1, py.dp s e2, hs.1, hs.2, plainQ s k rfl⟩
      · cases hb
    · cases hb
theorem os_ne (hu : X.A.units + 64 < cLine) : OpS X (compareOp .NotEq) neD := by
  refine ⟨_, OpR.or op_ne (op_neD hu), fun F H x y d e z Q s px py hg k => ?_⟩
  unfold neD at hg
  rw [Option.map_eq_some_iff] at hg
  obtain ⟨b, hb, rfl⟩ := hg
  unfold eqB at hb
  split at hb
  · rename_i a c
    cases hb
    have ex := px.str
    have ey := py.str
    subst ex ey
    refine .inl ⟨rfl, ?_⟩
    have q : decide (V.str a = V.str c) = decide (a = c) := by
      by_cases h : a = c
      · subst h; simp
      · rw [decide_eq_false h, decide_eq_false fun z => h (V.str.inj z)]
    rw [q]
    exact plainQ s k rfl
  · split at hb
    · rename_i p q e1 e2
      split at hb
      · rename_i hs
        cases hb
        exact .inr ⟨p, q, px.dp s e1, py.dp s e2, hs.1, hs.2, plainQ s k rfl⟩
      · cases hb
    · cases hb

/-! ### items, slices -/
theorem DenL.at {T : Tx} {F : Fz} {ds : List D} {xs : List V} {k : Int} {d : D} (h : DenL T F ds xs) (e : atI ds k = some d) : ∃ x, atI xs k = some x ∧ Den T F d x := by
  unfold atI at e ⊢
  rw [← h.length]
  cases q : ixN ds.length k with
  | none => rw [q] at e; cases e
  | some j =>
    rw [q] at e
    exact h.get e
def ixD : D → D → Option Val
  | .lst ds, .int k => (atI ds k).map .sh
  | .tup ds, .int k => (atI ds k).map .sh
  | .scr ns, .int k => (atI ns k).map vI
  | _, _ => none
theorem IxR.or {r r' : R2} (h : IxR X r) (h' : IxR X r') : IxR X (fun x y H Q => r x y H Q ∨ r' x y H Q) := by
  intro va sl pins s σ H x y v u Q I r1 r2 q e
  rcases q with q | q
  · exact h va sl pins s σ H x y v u Q I r1 r2 q e
  · exact h' va sl pins s σ H x y v u Q I r1 r2 q e
theorem is_ix : IxS X ixD := by
  refine ⟨_, IxR.or ix_list ix_tup, fun F H x y d e z Q s px py hg k => ?_⟩
  unfold ixD at hg
  split at hg
  · rw [Option.map_eq_some_iff] at hg
    obtain ⟨d, hd, rfl⟩ := hg
    obtain ⟨a, xs, e1, h1, d1⟩ := px.lst s
    obtain ⟨v, hv, dv⟩ := d1.at hd
    exact .inl ⟨a, xs, _, v, e1, py.int, SqL.of h1, hv, plainQ s k dv⟩
  · rw [Option.map_eq_some_iff] at hg
    obtain ⟨d, hd, rfl⟩ := hg
    obtain ⟨a, xs, e1, h1, d1, _⟩ := px.tup s
    obtain ⟨v, hv, dv⟩ := d1.at hd
    exact .inr ⟨a, xs, _, v, e1, py.int, h1, hv, plainQ s k dv⟩
  · rw [Option.map_eq_some_iff] at hg
    obtain ⟨n, hd, rfl⟩ := hg
    obtain ⟨a, e1, h1⟩ := px.scr s
    refine .inl ⟨a, _, _, .int n, e1, py.int, h1, ?_, plainQ s k rfl⟩
    unfold atI at hd ⊢
    rw [List.length_map]
    cases q : ixN _ _ with
    | none => rw [q] at hd; cases hd
    | some j =>
      rw [q] at hd
      simp only [Option.bind_some] at hd ⊢
      rw [List.getElem?_map, hd]
      rfl
  · cases hg
/-- the bounds of a slice -/
abbrev FO := En → R (Option Int × En)
def tOfO (T : Tx) (W : WX) (f : FO) : TO := fun σ H Q => ∃ ρ F, Rel T F H ρ σ ∧ match f ρ with
  | .ok r => ∀ F' H', Stp T F H ρ σ F' H' r.2 σ → Q r.1 H'
  | .ex c n d ρ' => ∀ F' H' cls dx, Stp T F H ρ σ F' H' ρ' σ → ERel T F' c n d cls dx → W cls dx σ H'
  | .no => False
def SO (X : Cx) (W : WX) (e : Option Expr) (f : FO) : Prop := PO X e (tOfO (.of X) W f)
theorem po_imp {e : Option Expr} {t t' : TO} (h : PO X e t) (i : ∀ σ H Q, t' σ H Q → t σ H Q) : PO X e t' := ⟨fun pins s σ H Q I q => h.run pins s σ H Q I (i σ H Q q)⟩
def foN : FO := fun ρ => .ok (none, ρ)
def asI : Val × En → R (Option Int × En)
  | (.sh (.int i), ρ) => .ok (some i, ρ)
  | _ => .no
def foS (f : FE) : FO := fun ρ => (f ρ).bind asI
theorem so_none : SO X W none foN := po_imp po_none fun σ H Q ⟨ρ, F, r, h⟩ => h F H (Stp.refl r)
theorem so_some {e : Expr} {f : FE} (h : SE X W e f) : SO X W (some e) (foS f) := po_imp (po_some h) fun σ H Q ⟨ρ, F, rl, h⟩ => by
  unfold foS at h
  refine ⟨ρ, F, rl, ?_⟩
  cases ea : f ρ with
  | no => rw [ea] at h; exact h
  | ex c n d ρ' => rw [ea] at h; exact h
  | ok ra =>
    obtain ⟨v, ρ'⟩ := ra
    rw [ea] at h
    intro x F1 H1 s1 v1
    cases v with
    | sh d =>
      cases d with
      | int i => exact ⟨i, v1, h F1 H1 s1⟩
      | _ => exact h.elim
    | fr d => exact h.elim
    | rf i => exact h.elim
def cut {α : Type} (xs : List α) (lo hi : Option Int) : List α := (xs.drop (HT.sIx xs.length 0 lo)).take (HT.sIx xs.length xs.length hi - HT.sIx xs.length 0 lo)
theorem DenL.cut {T : Tx} {F : Fz} {ds : List D} {xs : List V} (h : DenL T F ds xs) (lo hi : Option Int) : DenL T F (Tr.cut ds lo hi) (cutV xs lo hi) := by
  unfold Tr.cut cutV
  rw [h.length]
  exact (h.drop _).take _
def slD : D → Option Int → Option Int → Option Val
  | .lst ds, lo, hi => some (.fr (.lst (cut ds lo hi)))
  | .tup ds, lo, hi => some (.sh (.tup (cut ds lo hi)))
  | .scr ns, lo, hi => some (.fr (.lst ((cut ns lo hi).map .int)))
  | _, _, _ => none
theorem SlR.or {r r' : V → Option Int → Option Int → Hp → VK → Prop} (h : SlR X r) (h' : SlR X r') : SlR X (fun x lo hi H Q => r x lo hi H Q ∨ r' x lo hi H Q) := fun pins s σ H x v vl vu lo hi sl Q I rx hs pl pu q => q.elim (h pins s σ H x v vl vu lo hi sl Q I rx hs pl pu) (h' pins s σ H x v vl vu lo hi sl Q I rx hs pl pu)
theorem denL_ints {T : Tx} {F : Fz} : ∀ ns : List Int, DenL T F (ns.map D.int) (ns.map V.int)
  | [] => rfl
  | n :: ns => ⟨_, _, rfl, rfl, denL_ints ns⟩
theorem cutV_ints (ns : List Int) (lo hi : Option Int) : cutV (ns.map V.int) lo hi = (cut ns lo hi).map V.int := by
  unfold cutV cut
  rw [List.length_map, List.map_take, List.map_drop]
theorem slD_ok {F : Fz} {H : Hp} {x : V} {d : D} {lo hi : Option Int} {z : Val} {Q : VK} (s : Same F.hp H) (px : Pk (.of X) F H d x) (hg : slD d lo hi = some z) (k : ∀ w F' H', New (.of X) F H F' H' → NRel (.of X) H F' H' z w → Q w H') :
    rSlL X.K x lo hi H Q ∨ rSlA X.K x lo hi H Q := by
  unfold slD at hg
  split at hg
  · cases hg
    obtain ⟨a, xs, e1, h1, d1⟩ := px.lst s
    refine .inl ⟨a, xs, e1, SqL.of h1, fun p hp => ?_⟩
    exact k _ F _ (New.fr s hp) ⟨p, rfl, s.free hp, hp, _, upd_same, d1.cut _ _⟩
  · cases hg
    obtain ⟨a, xs, e1, h1, d1, f1⟩ := px.tup s
    refine .inr ⟨a, xs, e1, h1, fun w => ?_, fun _ p hp => ?_⟩
    · refine plainQ s k ⟨a, xs, rfl, f1, ?_⟩
      have q := d1.cut lo hi
      have e : cutV xs lo hi = xs := by
        unfold cutV
        rw [w.1, w.2, List.drop_zero, Nat.sub_zero, List.take_length]
      rw [e] at q
      exact q
    · exact k _ _ _ (New.sh s hp) ⟨p, _, rfl, SqT.of upd_same, (d1.cut _ _).mono (ext_upd (s.free hp))⟩
  · cases hg
    obtain ⟨a, e1, h1⟩ := px.scr s
    refine .inl ⟨a, _, e1, h1, fun p hp => ?_⟩
    exact k _ F _ (New.fr s hp) ⟨p, rfl, s.free hp, hp, _, upd_same, by rw [cutV_ints]; exact denL_ints _⟩
  · cases hg
def slEnd (ρ : En) (v : Val) (lo hi : Option Int) : R (Val × En) := match peek ρ v with
  | some d => (match slD d lo hi with
    | some z => .ok (z, ρ)
    | none => .no)
  | none => .no
def evSl (f : FE) (fl fh : FO) : FE := fun ρ => (f ρ).bind fun r => (fl r.2).bind fun l => (fh l.2).bind fun h => slEnd h.2 r.1 l.1 h.1
theorem se_sl {e : Expr} {lo hi : Option Expr} {p2 pos : Pos} {f : FE} {fl fh : FO} (he : SE X W e f) (hl : SO X W lo fl) (hh : SO X W hi fh) : SE X W (.Subscript e (.Slice lo hi none p2) pos) (evSl f fl fh) :=
  pe_imp (pe_slice (SlR.or sl_list sl_tupA) he hl hh) fun σ H Q ⟨ρ, F, rl, h⟩ => by
    unfold evSl at h
    refine ⟨ρ, F, rl, ?_⟩
    cases ea : f ρ with
    | no => rw [ea] at h; exact h
    | ex c n d ρ' => rw [ea] at h; exact h
    | ok ra =>
      simp only [ea, R.bind] at h
      intro x F1 H1 s1 v1
      obtain ⟨F2, s2, m2, p2⟩ := held_ok s1 v1
      refine ⟨ra.2, F2, s2.rel, ?_⟩
      cases eb : fl ra.2 with
      | no => simp only [eb] at h
      | ex c n d ρ' => simp only [eb] at h; exact fun F' H' cls dx s e => h F' H' cls dx (s2.trans s) e
      | ok rb =>
        simp only [eb] at h
        intro F3 H3 s3
        have s23 := s2.trans s3
        refine ⟨rb.2, F3, s3.rel, ?_⟩
        cases ec : fh rb.2 with
        | no => simp only [ec] at h
        | ex c n d ρ' => simp only [ec] at h; exact fun F' H' cls dx s e => h F' H' cls dx (s23.trans s) e
        | ok rc =>
          simp only [ec] at h
          intro F4 H4 s4
          have s24 := s23.trans s4
          unfold slEnd at h
          cases e1 : peek rc.2 ra.1 with
          | none => simp only [e1] at h
          | some d =>
            simp only [e1] at h
            cases e2 : slD d rb.1 rc.1 with
            | none => simp only [e2] at h
            | some z =>
              simp only [e2] at h
              have k1 := (p2.mono (s3.same.trans s4.same)).peek s4.rel (by rw [peek_held]; exact e1)
              exact slD_ok s4.rel.sub k1 e2 fun w F5 H5 n5 r5 => h w F5 H5 (s24.trans (n5.stp s4.rel)) ((r5.vrel s4.rel n5).back s24)

/-! ### built-ins by name -/
def callG (g : List D → Option Val) (r : List Val × En) : R (Val × En) := match peekL r.2 r.1 with
  | some ds => (match g ds with
    | some z => .ok (z, r.2)
    | none => .no)
  | none => .no
def evB (g : List D → Option Val) (f : FA) : FE := fun ρ => (f ρ).bind (callG g)
def CallS (X : Cx) (f : Value) (g : List D → Option Val) : Prop := ∃ r, CallR X f r ∧
  ∀ (F : Fz) (H : Hp) (xs : List V) (ds : List D) (z : Val) (Q : VK), Same F.hp H → PkL (.of X) F H ds xs → g ds = some z → (∀ w F' H', New (.of X) F H F' H' → NRel (.of X) H F' H' z w → Q w H') → r xs H Q
theorem evB_ok {f : FA} {g : List D → Option Val} {r : List V → Hp → VK → Prop} (hr : ∀ (F : Fz) (H : Hp) (xs : List V) (ds : List D) (z : Val) (Q : VK), Same F.hp H → PkL (.of X) F H ds xs → g ds = some z → (∀ w F' H', New (.of X) F H F' H' → NRel (.of X) H F' H' z w → Q w H') → r xs H Q)
    {σ : Sg} {H : Hp} {Q : VK} (h : tOf (.of X) W (evB g f) σ H Q) : tCB r (tOfA (.of X) W f) σ H Q := by
  obtain ⟨ρ, F, rl, h⟩ := h
  unfold evB at h
  refine ⟨ρ, F, rl, ?_⟩
  cases ea : f ρ with
  | no => rw [ea] at h; exact h
  | ex c n d ρ' => rw [ea] at h; exact h
  | ok ra =>
    simp only [ea, R.bind] at h
    intro xs F1 H1 s1 p1
    unfold callG at h
    cases e1 : peekL ra.2 ra.1 with
    | none => simp only [e1] at h
    | some ds =>
      simp only [e1] at h
      cases e2 : g ds with
      | none => simp only [e2] at h
      | some z =>
        simp only [e2] at h
        exact hr F1 H1 xs ds z Q s1.rel.sub (p1.peek s1.rel e1) e2 fun w F5 H5 n5 r5 => h w F5 H5 (s1.trans (n5.stp s1.rel)) ((r5.vrel s1.rel n5).back s1)
theorem se_b {x : Str} {id : String} {e : Expr} {es : List Expr} {p pos : Pos} {f : FA} {g : List D → Option Val} (hc : CallS X (.builtin id) g) (hm : X.mg x = none) (hv : bootBuiltins x = some (.builtin id)) (ha : SA X W (e :: es) f) (hg : Gl X x := by rfl) (hn : x ≠ "__name__" := by decide) (hdb : (x == ("__debug__" : Str)) = false := by decide)
    (he : starEach (e :: es) X.env = (false, eval e X.env) :: starEach es X.env := by rfl) (hpl : (backTo pos (starEach es X.env)).any (·.1) = false := by rfl) : SE X W (.Call (.Name x p) (e :: es) [] pos) (evB g f) := by
  obtain ⟨r, h1, h2⟩ := hc
  exact pe_imp (pe_callB h1 hg hm hv ha hn hdb he hpl) fun σ H Q h => evB_ok h2 h
theorem se_bt {x : Str} {id : String} {e : Expr} {es : List Expr} {p pos : Pos} {f : FA} {g : List D → Option Val} (hc : CallS X (.type id) g) (hm : X.mg x = none) (hv : bootBuiltins x = some (.type id)) (ha : SA X W (e :: es) f) (hg : Gl X x := by rfl) (hn : x ≠ "__name__" := by decide) (hdb : (x == ("__debug__" : Str)) = false := by decide)
    (he : starEach (e :: es) X.env = (false, eval e X.env) :: starEach es X.env := by rfl) (hpl : (backTo pos (starEach es X.env)).any (·.1) = false := by rfl) : SE X W (.Call (.Name x p) (e :: es) [] pos) (evB g f) := by
  obtain ⟨r, h1, h2⟩ := hc
  exact pe_imp (pe_callTy h1 hg hm hv ha hn hdb he hpl) fun σ H Q h => evB_ok h2 h
theorem PkL.one {T : Tx} {F : Fz} {H : Hp} {d : D} {xs : List V} (h : PkL T F H [d] xs) : ∃ x, xs = [x] ∧ Pk T F H d x := by
  cases h with
  | cons k t => cases t; exact ⟨_, rfl, k⟩
theorem PkL.two {T : Tx} {F : Fz} {H : Hp} {d e : D} {xs : List V} (h : PkL T F H [d, e] xs) : ∃ x y, xs = [x, y] ∧ Pk T F H d x ∧ Pk T F H e y := by
  cases h with
  | cons k t =>
    cases t with
    | cons k2 t2 => cases t2; exact ⟨_, _, rfl, k, k2⟩
def intD : List D → Option Val
  | [.int i] => some (vI i)
  | [.bl b] => some (vI (if b then 1 else 0))
  | _ => none
theorem cs_int : CallS X (.type "int") intD := by
  refine ⟨_, call_int1, fun F H xs ds z Q s px hg k => ?_⟩
  unfold intD at hg
  split at hg
  · cases hg
    obtain ⟨x, rfl, p⟩ := px.one
    exact .inl ⟨_, by rw [p.int], plainQ s k rfl⟩
  · cases hg
    obtain ⟨x, rfl, p⟩ := px.one
    exact .inr ⟨_, by rw [p.bl], plainQ s k rfl⟩
  · cases hg
def absD : List D → Option Val
  | [.int i] => some (vI (if i < 0 then -i else i))
  | _ => none
theorem cs_abs : CallS X (.builtin "abs") absD := by
  refine ⟨_, call_abs, fun F H xs ds z Q s px hg k => ?_⟩
  unfold absD at hg
  split at hg
  · cases hg
    obtain ⟨x, rfl, p⟩ := px.one
    exact ⟨_, by rw [p.int], plainQ s k rfl⟩
  · cases hg
def maxD : List D → Option Val
  | [.int i, .int j] => some (vI (if j > i then j else i))
  | _ => none
theorem cs_max (hc : X.calm = true) : CallS X (.builtin "max") maxD := by
  refine ⟨_, call_max2 hc, fun F H xs ds z Q s px hg k => ?_⟩
  unfold maxD at hg
  split at hg
  · cases hg
    obtain ⟨x, y, rfl, p, q⟩ := px.two
    exact ⟨_, _, by rw [p.int, q.int], plainQ s k rfl⟩
  · cases hg
def minD : List D → Option Val
  | [.int i, .int j] => some (vI (if j < i then j else i))
  | _ => none
theorem cs_min (hc : X.calm = true) : CallS X (.builtin "min") minD := by
  refine ⟨_, call_min2 hc, fun F H xs ds z Q s px hg k => ?_⟩
  unfold minD at hg
  split at hg
  · cases hg
    obtain ⟨x, y, rfl, p, q⟩ := px.two
    exact ⟨_, _, by rw [p.int, q.int], plainQ s k rfl⟩
  · cases hg
def lenD : List D → Option Val
  | [.lst ds] => some (vI ds.length)
  | [.tup ds] => some (vI ds.length)
  | [.scr ns] => some (vI ns.length)
  | _ => none
theorem cs_len : CallS X (.builtin "len") lenD := by
  refine ⟨_, call_len_seq, fun F H xs ds z Q s px hg k => ?_⟩
  unfold lenD at hg
  split at hg
  · cases hg
    obtain ⟨x, rfl, p⟩ := px.one
    obtain ⟨a, xs, e1, h1, d1⟩ := p.lst s
    exact ⟨a, xs, by rw [e1], .inl (SqL.of h1), plainQ s k (by rw [d1.length]; rfl)⟩
  · cases hg
    obtain ⟨x, rfl, p⟩ := px.one
    obtain ⟨a, xs, e1, h1, d1, _⟩ := p.tup s
    exact ⟨a, xs, by rw [e1], .inr h1, plainQ s k (by rw [d1.length]; rfl)⟩
  · cases hg
    obtain ⟨x, rfl, p⟩ := px.one
    obtain ⟨a, e1, h1⟩ := p.scr s
    exact ⟨a, _, by rw [e1], .inl h1, plainQ s k (by rw [List.length_map]; rfl)⟩
  · cases hg
def allInts : List D → Option (List Int)
  | [] => some []
  | .int i :: ds => (allInts ds).map (i :: ·)
  | _ :: _ => none
theorem allInts_eq : ∀ {ds : List D} {ns : List Int}, allInts ds = some ns → ds = ns.map D.int
  | [], _, h => by cases h; rfl
  | .int i :: ds, _, h => by
    simp only [allInts, Option.map_eq_some_iff] at h
    obtain ⟨ms, h1, rfl⟩ := h
    rw [allInts_eq h1]; rfl
  | .non :: _, _, h => by cases h
  | .bl _ :: _, _, h => by cases h
  | .str _ :: _, _, h => by cases h
  | .lst _ :: _, _, h => by cases h
  | .tup _ :: _, _, h => by cases h
  | .dK _ _ :: _, _, h => by cases h
  | .dT _ _ :: _, _, h => by cases h
  | .ins _ _ _ :: _, _, h => by cases h
  | .exn _ _ _ :: _, _, h => by cases h
  | .ty _ :: _, _, h => by cases h
  | .glo _ :: _, _, h => by cases h
  | .scr _ :: _, _, h => by cases h
  | .ref _ :: _, _, h => by cases h
theorem denL_ints_eq {T : Tx} {F : Fz} : ∀ {ns : List Int} {xs : List V}, DenL T F (ns.map D.int) xs → xs = ns.map V.int
  | [], _, h => h
  | n :: ns, _, ⟨x, r, h1, h2, h3⟩ => by
    have h2 : x = .int n := h2
    rw [h1, h2, denL_ints_eq h3]; rfl
def sumD : List D → Option Val
  | [.lst ds] => (allInts ds).map fun ns => vI ns.sum
  | _ => none
theorem cs_sum (hc : X.calm = true) : CallS X (.builtin "sum") sumD := by
  refine ⟨_, cr_sum hc, fun F H xs ds z Q s px hg k => ?_⟩
  unfold sumD at hg
  split at hg
  · rw [Option.map_eq_some_iff] at hg
    obtain ⟨ns, h1, rfl⟩ := hg
    obtain ⟨x, rfl, p⟩ := px.one
    obtain ⟨a, xs, e1, h2, d1⟩ := p.lst s
    rw [allInts_eq h1] at d1
    exact ⟨a, ns, by rw [e1], SqL.of (by rw [← denL_ints_eq d1]; exact h2), plainQ s k rfl⟩
  · cases hg
/-- list(x), tuple(x) of a list or tuple -/
def listD : List D → Option Val
  | [.lst ds] => some (.fr (.lst ds))
  | [.tup ds] => some (.fr (.lst ds))
  | _ => none
theorem cs_list : CallS X (.type "list") listD := by
  refine ⟨_, call_list_of, fun F H xs ds z Q s px hg k => ?_⟩
  unfold listD at hg
  split at hg
  · cases hg
    obtain ⟨x, rfl, p⟩ := px.one
    obtain ⟨a, xs, e1, h1, d1⟩ := p.lst s
    exact ⟨a, xs, by rw [e1], .inl (SqL.of h1), fun l hl => k _ F _ (New.fr s hl) ⟨l, rfl, s.free hl, hl, _, upd_same, d1⟩⟩
  · cases hg
    obtain ⟨x, rfl, p⟩ := px.one
    obtain ⟨a, xs, e1, h1, d1, _⟩ := p.tup s
    exact ⟨a, xs, by rw [e1], .inr h1, fun l hl => k _ F _ (New.fr s hl) ⟨l, rfl, s.free hl, hl, _, upd_same, d1⟩⟩
  · cases hg
def tupleD : List D → Option Val
  | [.lst ds] => some (.sh (.tup ds))
  | [.tup ds] => some (.sh (.tup ds))
  | _ => none
theorem cs_tuple : CallS X (.type "tuple") tupleD := by
  refine ⟨_, call_tuple_of, fun F H xs ds z Q s px hg k => ?_⟩
  unfold tupleD at hg
  split at hg
  · cases hg
    obtain ⟨x, rfl, p⟩ := px.one
    obtain ⟨a, xs, e1, h1, d1⟩ := p.lst s
    exact ⟨a, xs, by rw [e1], .inl ⟨SqL.of h1, fun l hl => k _ _ _ (New.sh s hl) ⟨l, _, rfl, SqT.of upd_same, d1.mono (ext_upd (s.free hl))⟩⟩⟩
  · cases hg
    obtain ⟨x, rfl, p⟩ := px.one
    obtain ⟨a, xs, e1, h1, d1, f1⟩ := p.tup s
    exact ⟨a, xs, by rw [e1], .inr ⟨h1, plainQ s k ⟨a, xs, rfl, f1, d1⟩⟩⟩
  · cases hg
/-- n.bit_length() -/
def bitsD : D → Option Val
  | .int i => some (vI (Builtin.Int.intBits i : Nat))
  | _ => none
theorem se_bits {o : Expr} {f : FE} {apos pos : Pos} (ho : SE X W o f) (hbase : attributeBase o "bit_length" X.env (eval o X.env) = eval o X.env := by rfl) (hline : (apos.endLine == pos.line) = true := by rfl) :
    SE X W (.Call (.Attribute o "bit_length" apos) [] [] pos) (evUn bitsD f) :=
  pe_imp (pe_bits ho hbase hline) fun σ H Q h => evUn_ok (r := fun x H1 Q => ∃ i, x = .int i ∧ Q (.int (Builtin.Int.intBits i : Nat)) H1) (fun F H x d z Q s px hg k => by
    unfold bitsD at hg
    split at hg
    · cases hg
      exact ⟨_, px.int, plainQ s k rfl⟩
    · cases hg) h
end
end Tr
/-! Tr, part I: the package's own errors: made, raised. -/
namespace PySem
namespace ErrX
open PySem.W PySem.Calls PyProof.Rows PySem.HandSPX
/-! ### the text of an error's __init__ -/
def eA (v : Str) (p1 p2 p3 : Pos) : Arguments := { posonlyargs := [], args := [{ arg := "self", annotation := none, pos := p1 }, { arg := v, annotation := none, pos := p2 }], vararg := none, kwonlyargs := [], kw_defaults := [], kwarg := none, defaults := [.Constant .none 0 p3] }
def eB (v : Str) (q1 q2 q3 q4 q5 q6 r1 r2 r3 r4 : Pos) : List Stmt := [.Expr (.Call (.Attribute (.Call (.Name "super" q1) [] [] q2) "__init__" q3) [.Name v q4] [] q5) q6, .Assign [.Attribute (.Name "self" r1) v r2] (.Name v r3) r4]
def eS (v : Str) : Scope := { kind := .function, names := [(PySem.Str.ofString "self", .local), (v, .local), (PySem.Str.ofString "__class__", .free), (PySem.Str.ofString "super", .globalImplicit)], isGenerator := false, isCoroutine := false, more := [] }
/-- a name that such a field may have -/
def FldOk (v : Str) : Prop := (v == ("self" : Str)) = false ∧ (v == ("__debug__" : Str)) = false ∧ (("__class__" : Str) == v) = false ∧ (("super" : Str) == v) = false ∧ (("self" : Str) == v) = false
/-- its arguments are bound -/
def BndOk (v : Str) : Prop := ∀ (s : Shared) (qual : Str) (dT : Addr) (doc pm : Value) (an : Option Addr) (cdv ct : Value) (cc : Addr) (p1 p2 p3 : Pos) (body : List Stmt) (o : Addr) (u : Value) (ot : Obj) (n : Nat), s.heap.get? dT = some ot → ot.data = .seq #[.none] n →
  BindsTo s (ksFn "__init__" qual (eA v p1 p2 p3) body (eS v) (.ref dT) .none doc pm an cdv ct cc) ⟨[.ref o, u], []⟩ [("self", .ref o), (v, u)]
theorem bnd_value : BndOk "value" := fun s qual dT doc pm an cdv ct cc p1 p2 p3 body o u ot n h1 h2 => BindsTo.of_defaults (T := dT) rfl h1 h2 rfl (by first | rfl | with_unfolding_all rfl)
theorem bnd_axes : BndOk "axes" := fun s qual dT doc pm an cdv ct cc p1 p2 p3 body o u ot n h1 h2 => BindsTo.of_defaults (T := dT) rfl h1 h2 rfl (by first | rfl | with_unfolding_all rfl)
theorem bnd_place : BndOk "place" := fun s qual dT doc pm an cdv ct cc p1 p2 p3 body o u ot n h1 h2 => BindsTo.of_defaults (T := dT) rfl h1 h2 rfl (by first | rfl | with_unfolding_all rfl)
theorem bnd_number : BndOk "number" := fun s qual dT doc pm an cdv ct cc p1 p2 p3 body o u ot n h1 h2 => BindsTo.of_defaults (T := dT) rfl h1 h2 rfl (by first | rfl | with_unfolding_all rfl)
theorem bnd_name : BndOk "name" := fun s qual dT doc pm an cdv ct cc p1 p2 p3 body o u ot n h1 h2 => BindsTo.of_defaults (T := dT) rfl h1 h2 rfl (by first | rfl | with_unfolding_all rfl)
theorem fld_value : FldOk "value" := ⟨by decide, by decide, by decide, by decide, by decide⟩
theorem fld_axes : FldOk "axes" := ⟨by decide, by decide, by decide, by decide, by decide⟩
theorem fld_place : FldOk "place" := ⟨by decide, by decide, by decide, by decide, by decide⟩
theorem fld_number : FldOk "number" := ⟨by decide, by decide, by decide, by decide, by decide⟩
theorem fld_name : FldOk "name" := ⟨by decide, by decide, by decide, by decide, by decide⟩
/-- what the written part says of the error class at C, and of its __init__, at fI -/
structure ErrTxt (P : Program) (K : Frag) (mg : Str → Option Value) (Ad : Addr) (x v : Str) (C fI : Addr) : Prop where
  fld : FldOk v
  bnd : BndOk v
  gC : mg x = some (.ref C)
  cls : ∃ q N bs sn sub ab col dd k0 k1 k2 k3 k5, K.lookup C = some (excClassObj x q C N bs (.ref Ad :: veTail) true sn sub ab col dd k0 k1 k2 k3 k5 "ValueError.__new__")
  sa : findIn K (.ref C) "__setattr__" = some (some (.builtin "object.__setattr__"))
  ga : findIn K (.ref C) "__getattribute__" = some (some (.builtin "BaseException.__getattribute__"))
  gg : findIn K (.ref C) "__getattr__" = some none
  noN : findIn K (.ref C) v = some none
  iC : findIn K (.ref C) "__init__" = some (some (.ref fI))
  tC : typeIn K (.ref fI) = some (.type "function")
  kC : keepIn K (.ref C) = true
  hdC : hasDictIn K C = true
  clC : findIn K (.ref C) "__class__" = some (some (.builtin "object.__class__"))
  sup : ks_superIn K C C "__init__" = some (some (.builtin "ValueError.__init__"))
  opq : nsIn K cStatics "thirdparty.any" = some none
  gS : mg "super" = none
  topS : (P.main.scope.names.lookup ("super" : Str)).isSome = false
  fn : ∃ (oc : Value) (od : Option Addr) (qual : Str) (dT : Addr) (doc pm : Value) (an : Option Addr) (cda cc : Addr) (ct : Value) (osl : Array (Option Value)) (p1 p2 p3 q1 q2 q3 q4 q5 q6 r1 r2 r3 r4 : Pos),
    K.lookup fI = some ⟨oc, od, .func (ksFn "__init__" qual (eA v p1 p2 p3) (eB v q1 q2 q3 q4 q5 q6 r1 r2 r3 r4) (eS v) (.ref dT) .none doc pm an (.ref cda) ct cc), osl⟩ ∧ codeIn K (.ref cda) qual = true ∧
    (∃ tc td tn ts, K.lookup dT = some ⟨tc, td, .seq #[.none] tn, ts⟩) ∧ (q3.endLine == q5.line) = true ∧
    (∃ cl cld csl, K.lookup cc = some ⟨cl, cld, .cell (some (.ref C)), csl⟩) ∧
    ∃ ccl cdd ccs vs file tf, K.lookup cda = some ⟨ccl, cdd, .fields vs, ccs⟩ ∧ vs[2]? = some (.str file tf) ∧ ((P.main.file : Str) == file) = true
section
variable {P : Program} {K : Frag} {mg : Str → Option Value} {Ad C fI : Addr} {x v : Str}
theorem ErrTxt.mro (T : ErrTxt P K mg Ad x v C fI) (b : Value) : mroIn K C b = some ((.ref C :: .ref Ad :: veTail).contains b) := by
  obtain ⟨q, N, bs, sn, sub, ab, col, dd, k0, k1, k2, k3, k5, hC⟩ := T.cls
  unfold mroIn clsIn
  rw [hC]
  rfl
theorem has_ty (T : String) (h : veTail.contains (.type T) = true) : (Value.ref C :: .ref Ad :: veTail).contains (.type T) = true := by
  rw [List.contains_cons, List.contains_cons, h, Bool.or_true, Bool.or_true]
theorem ErrTxt.exC (T : ErrTxt P K mg Ad x v C fI) : subIn K (.ref C) (.type "BaseException") = some true := (T.mro _).trans (by rw [has_ty _ (by decide)])
theorem ErrTxt.veC (T : ErrTxt P K mg Ad x v C fI) : subIn K (.ref C) (.type "ValueError") = some true := (T.mro _).trans (by rw [has_ty _ (by decide)])
theorem ErrTxt.obC (T : ErrTxt P K mg Ad x v C fI) : mroIn K C (.type "object") = some true := (T.mro _).trans (by rw [has_ty _ (by decide)])
theorem ErrTxt.mroC (T : ErrTxt P K mg Ad x v C fI) : mroIn K C (.ref C) = some true := (T.mro _).trans (by rw [List.contains_cons, beq_self_eq_true, Bool.true_or])
theorem ErrTxt.tyC (T : ErrTxt P K mg Ad x v C fI) : typeIn K (.ref C) = some (.type "type") := by
  obtain ⟨q, N, bs, sn, sub, ab, col, dd, k0, k1, k2, k3, k5, hC⟩ := T.cls
  show (K.lookup C).map (·.cls) = _
  rw [hC]
  rfl
theorem ErrTxt.isC (T : ErrTxt P K mg Ad x v C fI) : (clsIn K C).isSome = true := by
  obtain ⟨q, N, bs, sn, sub, ab, col, dd, k0, k1, k2, k3, k5, hC⟩ := T.cls
  unfold clsIn
  rw [hC]
  rfl
theorem oc_get : specialIn K (.builtin "object.__class__") "__get__" = some (some (.builtin "getset_descriptor.__get__")) := by kernel_rfl
theorem oc_takes : takesIn K (.builtin "object.__class__") = some true := by kernel_rfl
end
theorem boot_super : bootBuiltins "super" = some (.type "super") := by decide +kernel
theorem one_size (v : Value) : [v].length ≤ sizeLine := by
  rw [sizeLine_eq]
  exact (by decide : 1 ≤ 16777216)
/-- the module's names and the built-ins in this heap -/
structure Mo (mg : Str → Option Value) (h : Heap) : Prop where
  glob : h.Ns mainGlobals mg
  blt : ∃ mb, h.Ns builtinsNs mb ∧ ∀ x : Str, x ≠ "__name__" → mb x = bootBuiltins x
theorem Mo.keeps {mg : Str → Option Value} {h h' : Heap} (m : Mo mg h) (k : ∀ b o, h.get? b = some o → h'.get? b = some o) : Mo mg h' := ⟨m.glob.keeps k, by
  obtain ⟨mb, h1, h2⟩ := m.blt
  exact ⟨mb, h1.keeps k, h2⟩⟩
structure InitEnd (h h' : Heap) (x C dx t1 : Addr) (f : Str) (v : Value) : Prop where
  keep : ∀ b o, b ≠ x → h.get? b = some o → h'.get? b = some o
  obj : h'.get? x = some { cls := .ref C, dict := some dx, data := .fields #[.ref t1, .none, .none, .none, .bool false, .none] }
  dbig : h.objs.size ≤ dx
  dne : dx ≠ x
  ns : h'.Ns1 dx (fun y => if y = f then some v else none)
structure OwnMade (h h' : Heap) (e C d : Addr) (f : Str) (v : Value) : Prop where
  keep : ∀ b o, h.get? b = some o → h'.get? b = some o
  new : h.objs.size ≤ e
  obj : ∃ oe vs, h'.get? e = some oe ∧ oe.cls = .ref C ∧ oe.dict = some d ∧ oe.data = .fields vs ∧ vs[1]? = some .none
  dbig : h.objs.size ≤ d
  dne : d ≠ e
  ns : h'.Ns1 d (fun y => if y = f then some v else none)
section
variable {prog : Program} {w : World} {A : Around} {E : Value → Shared → Prop} {R : Result → Shared → Prop} {s : Shared} {K : Frag} {mg : Str → Option Value} {Ad C fI : Addr} {x v : Str}
/-- ValueError.__init__ bound to an error, called -/
theorem call_veinit {h : Heap} {g : Array GenState} {d : Drawn} {t : Nat} {os : OsState} {nm q : Str} {N : Addr} {bs bm : List Value} {hdct : Bool} {sn : List Str} {sub : List Value} {ab : Bool} {col : Option Bool} {dd : Option Addr} {k0 k1 k2 k3 k5 : Option Value}
    {u e t0 : Addr} {rest : List Value} {Q : Value → Shared → Prop}
    (hC : h.get? C = some (excClassObj nm q C N bs bm hdct sn sub ab col dd k0 k1 k2 k3 k5 "ValueError.__new__")) (he : h.get? e = some (excO C t0)) (hu : h.get? u = some (kxs_mw "ValueError.__init__" e)) (hrest : rest.length ≤ sizeLine)
    (hq : ∀ h' t1, (∀ b o, b ≠ e → h.get? b = some o → h'.get? b = some o) → h'.get? e = some (excO C t1) → Q .none ⟨h', g, d, t, os⟩) :
    wpAny (model prog w) A (call (.ref u) rest) Q E ⟨h, g, d, t, os⟩ := by
  refine wpAny_call (codeAny_of_tree ?_)
  show wpAny _ A.in1 (callAny (.ref u) ⟨rest, []⟩) _ _ _
  simp only [callAny]
  refine wpAny_bind (wpAny_load hu ?_)
  simp only [kxs_mw, show (Value.type "method-wrapper" == Value.type "method" || Value.type "method-wrapper" == Value.type "builtin_function_or_method" || Value.type "method-wrapper" == Value.type "method-wrapper") = true by decide, if_true]
  refine KFB.if_so (by decide) ?_
  refine wpAny_bind (ESX.check_bound F.excBase_ValueError hC he rfl ?_)
  refine wpAny_bind (wpAny_pure (wpAny_pure ?_))
  refine ⟨plainId_quiet F.excBase_ValueError.init.plain _, codeAny_builtin F.excBase_ValueError.initEntry ?_⟩
  exact exc_init_tree (cls := .ref C) (t0 := t0) (dv := none) (c2 := .none) (c3 := .none) (b4 := .bool false) he hrest fun h' k e' _ => hq h' _ k e'
theorem ldK {M : Model} {env : Env} {m : Str → Option Value} {y : Str} {pos : Pos} {u : Value} {Q : Value → Shared → Prop} (hn : s.heap.Ns env.locals m) (hv : m y = some u) (h : Q u s)
    (hk : env.scope.kind = .function) (hl : env.kindOf y = some .local) (hd : (y == ("__debug__" : Str)) = false) : wpAny M A (eval (.Name y pos) env) Q E s := wpAny_Name (wpAny_loadName_local hk hl hn hv h) hd
theorem meth_eq {o : Expr} {name : Str} {apos pos : Pos} {args : List Expr} {env : Env} (hline : (apos.endLine == pos.line) = true) (hf : methodCallForm (args.length + ([] : List Keyword).length) (backTo pos (starEach args env)) (backToKw pos (keywordEach [] env)) = true) :
    eval (.Call (.Attribute o name apos) args [] pos) env = (do
      let ov ← attributeBase o name env (eval o env)
      standAt apos.atName
      let (f, first) ← holding [ov] (getMethod ov name (do return (← importBound o env).getD true))
      callWith pos f first (backTo pos (starEach args env)) []) := by
  have hpos : methodCallPos true o env apos pos = pure pos := by unfold methodCallPos; simp [hline]
  rw [arm_eval_Call]
  unfold methodCall
  rw [hf, hpos]
  simp only [pure_bind]
  rfl
theorem err_init (T : ErrTxt prog K mg Ad x v C fI) {o t0 : Addr} {u : Value} (X : K.In s.heap) (hm : Mo mg s.heap) (hlim : s.heap.NoLimit) (hx : s.heap.get? o = some (excO C t0)) (hnx : K.lookup o = none) (hroom : A.depth < recursionLimit)
    (hq : ∀ h' tk dx t1, InitEnd s.heap h' o C dx t1 v u → R (.ok (.ret .none)) { s with heap := h', toks := tk }) :
    codeAny (model prog w) A (.call (.ref fI) ⟨[.ref o, u], []⟩) R s := by
  obtain ⟨oc, od, qual, dT, doc, pm, an, cda, cc, ct, osl, p1, p2, p3, q1, q2, q3, q4, q5, q6, r1, r2, r3, r4, ho, hcd, ⟨tc, td, tn, ts, hdT⟩, hline, ⟨cl, cld, csl, hcell⟩, ccl, cdd, ccs, vs, file, tf, hcode, hvs, hfile⟩ := T.fn
  obtain ⟨q, N, bs, sn, sub, ab, col, dd, k0, k1, k2, k3, k5, hC⟩ := T.cls
  have hbm : refsVE (.ref Ad :: veTail) = true := by first | rfl | (simp only [refsVE]; decide)
  obtain ⟨f1, f2, f3, f4, f5⟩ := T.fld
  have hcl : clsIn K C = some { name := x, bases := bs, mro := .ref C :: .ref Ad :: veTail, ns := N, qualname := q, hasDict := true, slotNames := sn, subclasses := sub, abstract := ab, collection := col, hasDel := false } := by unfold clsIn; rw [hC] <;> rfl
  have lv : (eS v).names.lookup v = some .local := by
    show List.lookup v [(("self" : Str), NameKind.local), (v, .local), (("__class__" : Str), .free), (("super" : Str), .globalImplicit)] = _
    simp [List.lookup, f1]
  have lc : (eS v).names.lookup ("__class__" : Str) = some .free := by
    show List.lookup ("__class__" : Str) [(("self" : Str), NameKind.local), (v, .local), (("__class__" : Str), .free), (("super" : Str), .globalImplicit)] = _
    simp [List.lookup, f3, show (("__class__" : Str) == ("self" : Str)) = false by decide]
  have ls : (eS v).names.lookup ("super" : Str) = some .globalImplicit := by
    show List.lookup ("super" : Str) [(("self" : Str), NameKind.local), (v, .local), (("__class__" : Str), .free), (("super" : Str), .globalImplicit)] = _
    simp [List.lookup, f4, show (("super" : Str) == ("self" : Str)) = false by decide, show (("super" : Str) == ("__class__" : Str)) = false by decide]
  have bv : ([(("self" : Str), Value.ref o), (v, u)] : List (Str × Value)).reverse.lookup v = some u := by simp [List.lookup]
  have bs' : ([(("self" : Str), Value.ref o), (v, u)] : List (Str × Value)).reverse.lookup ("self" : Str) = some (.ref o) := by simp [List.lookup, f5]
  refine ks_codeAny_call_defAt (fd := ksFn "__init__" qual (eA v p1 p2 p3) (eB v q1 q2 q3 q4 q5 q6 r1 r2 r3 r4) (eS v) (.ref dT) .none doc pm an (.ref cda) ct cc) (body := eB v q1 q2 q3 q4 q5 q6 r1 r2 r3 r4) (binds := [("self", .ref o), (v, u)]) hroom (X _ _ ho) rfl hlim (codeRec_of X hcd) rfl
    (T.bnd _ _ _ _ _ _ _ _ _ _ _ _ _ _ _ _ _ (X _ _ hdT) rfl) ?hcell ?hloc (fun h₁ hns k₁ => ?_) rfl rfl rfl
  case hcell =>
    intro y hy
    simp only [eS, List.mem_cons, List.not_mem_nil, or_false] at hy
    rcases hy with rfl | rfl | rfl | rfl <;> simp
  case hloc =>
    intro y hy
    simp only [List.mem_cons, List.not_mem_nil, or_false] at hy
    rcases hy with rfl | rfl
    · rfl
    · exact lv
  show wpAt _ (A.deeper (ksEnv qual (eS v) s.heap.objs.size fI (.ref cda) cc)) (.func (eB v q1 q2 q3 q4 q5 q6 r1 r2 r3 r4) (ksEnv qual (eS v) s.heap.objs.size fI (.ref cda) cc)) (execs (eB v q1 q2 q3 q4 q5 q6 r1 r2 r3 r4) (ksEnv qual (eS v) s.heap.objs.size fI (.ref cda) cc)) _ _ _
  have X₁ : K.In h₁ := X.keeps k₁
  have hx₁ := k₁ _ _ hx
  have hoC : o ≠ C := fun z => by
    have y := X _ _ hC
    rw [← z, hx] at y
    cases y
  refine ks_wpAt_execs_cons (ks_wpAt_Expr_any (ks_wpAt_MethodCall ?_ (meth_eq hline rfl)) rfl rfl)
  refine ks_wpAt_super_base (env := ksEnv qual (eS v) s.heap.objs.size fI (.ref cda) cc) ls lc (by decide) rfl (X₁ _ _ ho) rfl rfl rfl (X₁ _ _ hcode) rfl hvs hfile T.topS ?_
  obtain ⟨mb, m1, m2⟩ := hm.blt
  refine ks_loadName_global rfl ls (loadGlobal_builtin (env := ksEnv qual (eS v) s.heap.objs.size fI (.ref cda) cc) (hm.glob.keeps k₁) T.gS (m1.keeps k₁) ((m2 _ (by decide)).trans boot_super) ⟨rfl, ?_⟩)
  refine wpAny_loadName_free rfl lc rfl ⟨_, X₁ _ _ hcell, rfl⟩ ?_
  refine wpAny_loadName_local rfl rfl hns bs' ?_
  refine ks_wpAny_isType_cls (X₁ _ _ hC) rfl ⟨rfl, ?_⟩
  refine ks_wpAny_call_super (X₁ _ _ hC) rfl hx₁ rfl (fun c e => by cases e) (looks_mroIn X₁ T.mroC) (fun h₂ e2 k₂ => ?_)
  have X₂ : K.In h₂ := X₁.keeps k₂
  have hx₂ := k₂ _ _ hx₁
  have hI : W.InstAt h₂ o (excO C t0) C none := ⟨hx₂, rfl, rfl, trivial⟩
  have sup := T.sup
  unfold ks_superIn at sup
  rw [hcl, Option.bind_some] at sup
  refine kxs_getMethod kxs_ValueError e2 (looks_opaque X₂ T.opq) (l₀ := .ref C :: .ref Ad :: veTail) (fun A Q E s k q => wpAny_bind ((looks_clsIn X₂ hcl) A _ E s k (wpAny_pure q))) rfl X₂ sup (hI.type.andThen (looks_subIn X₂ T.veC)) hoC (by decide) ?_
  have k₃ : ∀ b ob, h₂.get? b = some ob → (h₂.push (kxs_mw "ValueError.__init__" o)).get? b = some ob := fun b ob e => Heap.get?_push_of_some _ e
  have kk : ∀ b ob, h₁.get? b = some ob → (h₂.push (kxs_mw "ValueError.__init__" o)).get? b = some ob := fun b ob e => k₃ _ _ (k₂ _ _ e)
  refine kxs_callWith (i := "ValueError.__init__") (x := o) rfl (evalArgs_plain (spliced_cons (ldK (hns.keeps kk) bv ?_ rfl lv f2)))
  refine spliced_nil ⟨Heap.get?_push_at rfl rfl, ?_⟩
  show wpAny _ _ (call (.ref h₂.objs.size) [u]) _ _ _
  refine call_veinit (kk _ _ (X₁ _ _ hC)) (k₃ _ _ hx₂) (Heap.get?_push_at rfl rfl) (one_size u) (fun h₄ t1 k₄ hx₄ => ?_)
  show wpAt _ _ _ (execs _ _) _ _ _
  have hne : s.heap.objs.size ≠ o := Nat.ne_of_gt (Heap.lt_size hx)
  have hns₄ : h₄.Ns s.heap.objs.size (fun y => ([(("self" : Str), Value.ref o), (v, u)] : List (Str × Value)).reverse.lookup y) := by
    obtain ⟨oL, es, ep, hL, r⟩ := hns
    exact ⟨oL, es, ep, k₄ _ _ hne (kk _ _ hL), r⟩
  have X₄ : K.In h₄ := fun a ob e => k₄ a ob (fun z => by rw [z, hnx] at e; cases e) (kk _ _ (X₁ a ob e))
  refine wpAt_of_wpAny ?_
  refine wpAny_execs_cons (plainObj_wpAny_Assign_Attribute ?_)
  refine ldK hns₄ bv (ldK (u := .ref o) hns₄ bs' ?_ rfl rfl (by decide)) rfl lv f2
  refine set_plain X₄ (ox := excO C t1) (od := none) ⟨hx₄, rfl, rfl, trivial⟩ T.sa ?_
  refine exc_osa X₄ hx₄ hcl (show refsVE (.ref C :: .ref Ad :: veTail) = true from hbm) rfl T.noN (fun h₅ tk₅ dx k₅ dn dne hx₅ hn₅ => ?_)
  show wpAny _ _ (execs _ _) _ _ _
  have z : s.heap.objs.size < h₄.objs.size := hns₄.lt
  refine wpAny_execs_nil (hq h₅ tk₅ dx t1 ⟨fun b ob hb e => k₅ b ob hb (k₄ b ob hb (kk _ _ (k₁ _ _ e))), hx₅, Nat.le_of_lt (Nat.lt_of_lt_of_le z dn), dne, hn₅⟩)
theorem err_made (T : ErrTxt prog K mg Ad x v C fI) {u : Value} (X : K.In s.heap) (hm : Mo mg s.heap) (hlim : s.heap.NoLimit) (hroom : A.depth + 1 < recursionLimit)
    (hq : ∀ h' tk e d, OwnMade s.heap h' e C d v u → R (.ok (.ret (.ref e))) { s with heap := h', toks := tk }) :
    codeAny (model prog w) A (.call (.ref C) ⟨[u], []⟩) R s := by
  obtain ⟨q, N, bs, sn, sub, ab, col, dd, k0, k1, k2, k3, k5, hC⟩ := T.cls
  have hbm : refsVE (.ref Ad :: veTail) = true := by first | rfl | (simp only [refsVE]; decide)
  obtain ⟨hp, g, dr, tk, os⟩ := s
  have k : ∀ b o, hp.get? b = some o → ((hp.push (kdv_tup [u])).push (excO C hp.objs.size)).get? b = some o := fun b o e => Heap.get?_push_of_some _ (Heap.get?_push_of_some _ e)
  have hget : ((hp.push (kdv_tup [u])).push (excO C hp.objs.size)).get? (hp.objs.size + 1) = some (excO C hp.objs.size) := by heap_get
  have hnx : K.lookup (hp.objs.size + 1) = none := by
    cases e : K.lookup (hp.objs.size + 1) with
    | none => rfl
    | some o =>
      have z : hp.get? (hp.objs.size + 1) = some o := X _ _ e
      exact absurd (Nat.lt_of_succ_lt (Heap.lt_size z)) (Nat.lt_irrefl _)
  refine call_own F.excBase_ValueError (fun X => refsVE_contains X _ hbm) (X _ _ hC) (looks_findIn X T.iC) (fun self => bind_fn X self T.tC) (one_size u) ?_
  refine err_init (s := ⟨(hp.push (kdv_tup [u])).push (excO C hp.objs.size), g, dr, tk, os⟩) T (X.keeps k) (hm.keeps k) (hlim.keeps k) hget hnx ?_ fun h' tk' dx t1 ⟨k', hx, dn, dne, hns⟩ => ?_
  · show A.depth + 1 < recursionLimit
    exact hroom
  · have old : ∀ b o, hp.get? b = some o → h'.get? b = some o := fun b o e => k' b o (Nat.ne_of_lt (Nat.lt_succ_of_lt (Heap.lt_size e))) (k b o e)
    have z : hp.objs.size + 1 + 1 ≤ dx := by
      first
        | (simpa only [Heap.size_push] using dn)
        | exact dn
        | (have q := dn; rw [Heap.size_push, Heap.size_push] at q; exact q)
    exact ⟨rfl, hq h' tk' (hp.objs.size + 1) dx ⟨old, Nat.le_succ _, ⟨_, _, hx, rfl, rfl, rfl, rfl⟩, Nat.le_trans (Nat.le_trans (Nat.le_succ _) (Nat.le_succ _)) z, dne, hns⟩⟩
end
end ErrX
end PySem
namespace Tr
open PySem PySem.Spec PyProof.Rows L2
theorem relO_one {v : V} {v' : Value} (n : Str) (r : RelV v v') (f : Str) : RelO (List.lookup f [(n, v)]) (if f = n then some v' else none) := by
  by_cases hw : f = n
  · subst hw
    rw [if_pos rfl]
    have q : List.lookup f [(f, v)] = some v := by simp [List.lookup]
    rw [q]
    exact r
  · rw [if_neg hw]
    have qw : (f == n) = false := by simpa using hw
    have q2 : List.lookup f [(n, v)] = none := by simp [List.lookup, qw]
    rw [q2]
    trivial
section
variable {X : Cx} {W : WX} {Ad C fI : Addr} {x v : Str}
/-- X(e) for an own error -/
def tMkE (C : Addr) (v : Str) (ta : TA) : Sg → Hp → XK → Prop := fun σ H Q => ta σ H fun vs H1 => ∃ y, vs = [y] ∧ ∀ d, H1 d = none → Q (.ref C) (some d) (upd H1 d (.xd [(v, y)]))
theorem pmk_err {a : Expr} {ta : TA} {p pos : Pos} {k : Nat} (T : PySem.ErrX.ErrTxt X.prog X.K X.mg Ad x v C fI) (hr : Room k X.A) (ha : PA X [a] ta) (hg : Gl X x := by rfl) (hdb : (x == ("__debug__" : Str)) = false := by decide)
    (he : starEach (a :: []) X.env = (false, eval a X.env) :: starEach [] X.env := by rfl) (hpl : (backTo pos (starEach [] X.env)).any (·.1) = false := by rfl) :
    PMk X (.Call (.Name x p) [a] [] pos) (tMkE C v ta) := by
  intro pins s σ H Q I h
  refine wpAny_Call_Name_kw (ld_glob I hg T.gC ?_ hdb)
  refine PySem.W.callWith_K (h₀ := X.base) I.ok.mod.kin T.kC (thn (ha.run pos pins s σ H _ I h) fun us s1 hh => ?_) he hpl
  obtain ⟨vs, H1, I1, r1, y, ev, q1⟩ := hh
  subst ev
  refine ⟨I1.kIn, ?_⟩
  cases r1 with
  | cons rv rn =>
    rename_i v' us'
    cases rn
    show wpAny _ _ (call (.ref C) [v']) _ _ _
    have hlim := I1.nolimit
    have hmo : PySem.ErrX.Mo X.mg s1.heap := PySem.ErrX.Mo.keeps ⟨I1.ok.mod.glob, I1.ok.mod.blt⟩ I1.bk
    obtain ⟨hp, g, dr, tk, os⟩ := s1
    refine wpAny_call (PySem.ErrX.err_made T I1.kIn hmo hlim (by have := hr.dp; omega) fun h' tk' e d M => ?_)
    show MkP X pins σ Q (.ref e) ⟨h', g, dr, tk', os⟩
    obtain ⟨oe, fv, hoe, hc, hd, hdat, h1⟩ := M.obj
    have hns := M.ns
    obtain ⟨G', g1, g2⟩ := restrict h' fun b => decide (b ≠ e)
    have gk : ∀ b, b ≠ e → G'.get? b = h'.get? b := fun b hb => g1 b (decide_eq_true hb)
    have ge : G'.get? e = none := g2 e (by simp)
    have old : ∀ b o, hp.get? b = some o → G'.get? b = some o := fun b o q => (gk b (Nat.ne_of_lt (Nat.lt_of_lt_of_le (Heap.lt_size q) M.new))).trans (M.keep b o q)
    have ob : ObjOk X.prog X.w (upd H1 d (.xd [(v, y)])) G' d (.xd [(v, y)]) :=
      ⟨_, hns.at (fun o q => (gk d M.dne).trans q), fun f => relO_one v rv f⟩
    have J : Inv X pins σ (upd H1 d (.xd [(v, y)])) ⟨G', g, dr, tk', os⟩ := I1.laid (t' := tk') old M.dbig ob
    refine ⟨e, oe, fv, ⟨G', g, dr, tk', os⟩, _, .ref C, some d, rfl, J, fun b o q => ?_, ge, hoe, ⟨hc, hd⟩, hdat, h1, ?_, rfl, I1.bare, raises_own T.exC T.tyC, q1 d (I1.hok.fresh M.dbig)⟩
    · by_cases hb : b = e
      · have q' : G'.get? b = some o := q
        rw [hb, ge] at q'; cases q'
      · exact (gk b hb).symm.trans q
    · rw [upd_ne (Ne.symm M.dne)]
      exact I1.hok.fresh M.new
/-- raise X(e) -/
def fsRaise (c n : Str) (f : FE) : FS := fun ρ => (f ρ).bind fun r => match frz r.2 r.1 with
  | some (d, ρ') => .ex c n d ρ'
  | none => .no
theorem ss_raise {a : Expr} {f : FE} {p pos pos2 : Pos} {k : Nat} (hc : X.calm = true) (T : PySem.ErrX.ErrTxt X.prog X.K X.mg Ad x v C fI) (hr : Room k X.A) (tk : Takes X W) (ha : SE X W a f) (hg : Gl X x := by rfl) (hdb : (x == ("__debug__" : Str)) = false := by decide)
    (he : starEach (a :: []) X.env = (false, eval a X.env) :: starEach [] X.env := by rfl) (hpl : (backTo pos (starEach [] X.env)).any (·.1) = false := by rfl) :
    SS X W (.Raise (some (.Call (.Name x p) [a] [] pos)) none pos2) (fsRaise x v f) :=
  ps_imp (ps_raise hc tk (pmk_err T hr (sa_cons ha sa_nil he) hg hdb he hpl)) fun D σ H ⟨ρ, F, rl, h⟩ => by
    unfold fsRaise at h
    refine ⟨ρ, F, rl, ?_⟩
    unfold faCons
    cases ea : f ρ with
    | no => rw [ea] at h; exact h
    | ex c n d ρ' => rw [ea] at h; exact fun F' H' cls dx s e => h σ F' H' cls dx s e
    | ok ra =>
      rw [ea] at h
      simp only [R.bind, faNil] at h ⊢
      intro xs F1 H1 s1 ⟨y, r, ex, py, pr⟩
      have pr : r = [] := pr
      subst pr
      refine ⟨y, ex, fun d hd => ?_⟩
      have pf : frz ra.2 ra.1.held = frz ra.2 ra.1 := frz_held _ _
      cases ef : frz ra.2 ra.1 with
      | none => simp only [ef] at h
      | some z =>
        obtain ⟨dd, ρ2⟩ := z
        simp only [ef] at h
        obtain ⟨F2, s2, dn⟩ := py.frz s1.rel (pf.trans ef)
        have nw : New (.of X) F2 H1 (F2.upd d (.xd [(v, y)])) (upd H1 d (.xd [(v, y)])) := New.sh s2.rel.sub hd
        exact h σ _ _ _ _ ((s1.trans s2).trans (nw.stp s2.rel)) ⟨C, d, y, T.gC, rfl, rfl, upd_same, dn.mono nw.ff⟩
end
end Tr
/-! Tr, part J: calls of known defs by name, pairs stored at once, try .. except .. as. -/
namespace Tr
open PySem PySem.Spec PyProof.Rows L2
/-- a def of the module, known by name: with room for k calls it does run; ds0: the defaults that fill up -/
structure Cal (P : Program) (w : World) (K : PySem.W.Frag) (mg : Str → Option Value) (base : Heap) (k : Nat) (x : Str) (ds0 : List D) (run : FF) : Prop where
  ex : ∃ (f : Addr) (fd : FuncData) (ps : List Str) (ds : List Value) (dvs : List V), FnA P w K mg base k f fd ps (spP ⟨K, mg⟩ run) ∧ mg x = some (.ref f) ∧ PySem.W.keepIn K (.ref f) = true ∧ Binds K fd ps ds ∧ Vals dvs ds ∧ ∀ F, DenL ⟨K, mg⟩ F ds0 dvs
theorem Cal.mono {P : Program} {w : World} {K : PySem.W.Frag} {mg : Str → Option Value} {base : Heap} {j k : Nat} {x : Str} {ds0 : List D} {run : FF} (c : Cal P w K mg base j x ds0 run) (l : j ≤ k) : Cal P w K mg base k x ds0 run := by
  obtain ⟨f, fd, ps, ds, dvs, h, r⟩ := c.ex
  exact ⟨f, fd, ps, ds, dvs, h.mono l, r⟩
section
variable {X : Cx} {W : WX}
theorem run_fnS' {k : Nat} {f : Addr} {fd : FuncData} {ps : List Str} {sp : Sp} {dvs : List V} {ds : List Value} {E : XK} {pins : List (Addr × Obj)} {σ : Sg} {H : Hp} {s : Shared} {Q : VK} {us : List Value} {vs : List V}
    (G : FnA X.prog X.w X.K X.mg X.base k f fd ps sp) (hgu : X.A.guards = some []) (hr : Room k X.A) (hb : Binds X.K fd ps ds) (hd : Vals dvs ds) (hx : PassesAt (L2.CX X.prog X.w) X σ E)
    (I : Inv X pins σ H s) (r : Vals vs us) (h : sp (vs ++ dvs) H Q E) : wpAny (model X.prog X.w) X.A (call (.ref f) us) (EP X pins σ Q) X.xe s := by
  have rr := r.append hd
  have hl : (us ++ ds).length = ps.length := rr.length.symm.trans (G.len _ _ _ _ h)
  refine wpAny_call (codeAny_mono (G.go X.A X.stack s H ⟨us, []⟩ _ _ Q E hgu hr I.env0 (hb s us I.kIn hl) rr h) ?_)
  intro r s' hq
  match r, hq with
  | .error e, hq => exact hx pins H s e s' I hq
  | .ok (.ret u), hq => exact I.after hq
  | .ok .next, hq => exact hq.elim
  | .ok .brk, hq => exact hq.elim
  | .ok .cont, hq => exact hq.elim
/-- f(e, ..) -/
theorem se_c {x : Str} {k : Nat} {run : FF} {e : Expr} {es : List Expr} {fa : FA} {p pos : Pos} {ds0 : List D} (c : Cal X.prog X.w X.K X.mg X.base k x ds0 run) (hgu : X.A.guards = some []) (hr : Room k X.A) (tk : Takes X W) (ha : SA X W (e :: es) fa) (hg : Gl X x := by rfl) (hdb : (x == ("__debug__" : Str)) = false := by decide)
    (he : starEach (e :: es) X.env = (false, eval e X.env) :: starEach es X.env := by rfl) (hpl : (backTo pos (starEach es X.env)).any (·.1) = false := by rfl) :
    SE X W (.Call (.Name x p) (e :: es) [] pos) (evCall run ds0 fa) := by
  obtain ⟨f, fd, ps, ds, dvs, G, hm, hk, hb, hd, hd0⟩ := c.ex
  refine ⟨fun pins s σ H Q I q => ?_⟩
  have h := evCall_ok (E := fun cls d H => W cls d σ H) hd0 (fun _ _ _ h => h) (fun _ _ _ h => h) q
  exact wpAny_Call_Name_kw (ld_glob I hg hm (PySem.W.callWith_K (h₀ := X.base) I.ok.mod.kin hk (thn (ha.run pos pins s σ H _ I h) fun us s1 hh => by
    obtain ⟨vs, H1, I1, r, q⟩ := hh
    exact ⟨I1.kIn, run_fnS' G hgu hr hb hd (passAt tk σ) I1 r q⟩) he hpl) hdb)
/-- f() -/
theorem se_c0 {x : Str} {k : Nat} {run : FF} {p pos : Pos} {ds0 : List D} (c : Cal X.prog X.w X.K X.mg X.base k x ds0 run) (hgu : X.A.guards = some []) (hr : Room k X.A) (tk : Takes X W) (hg : Gl X x := by rfl) (hdb : (x == ("__debug__" : Str)) = false := by decide) :
    SE X W (.Call (.Name x p) [] [] pos) (evCall run ds0 faNil) := by
  obtain ⟨f, fd, ps, ds, dvs, G, hm, hk, hb, hd, hd0⟩ := c.ex
  refine ⟨fun pins s σ H Q I q => ?_⟩
  have h := evCall_ok (E := fun cls d H => W cls d σ H) hd0 (fun _ _ _ h => h) (fun _ _ _ h => h) q
  obtain ⟨ρ, F, rl, z⟩ := h
  exact wpAny_Call_Name_kw (ld_glob I hg hm (PySem.W.callWith_K0 I.kIn hk (run_fnS' (us := []) (vs := []) G hgu hr hb hd (passAt tk σ) I .nil (z [] F H (Stp.refl rl) rfl))) hdb)
/-! ### a, b = x, y -/
def fsPar (i j : Nat) (fa : FA) : FS := fun ρ => (fa ρ).bind fun r => match frzL r.2 r.1 with
  | some ([d, e], ρ1) => .ok (.nx, (ρ1.set i (.sh d)).set j (.sh e))
  | _ => .no
theorem ss_par {i j : Nat} {x y : Str} {a b : Expr} {fa : FA} {px py pt pos : Pos} {kt k2 pt2} (hc : X.calm = true) (hN : X.N.Nodup) (ha : SA X W [a, b] fa) (hi : X.N[i]? = some x := by rfl) (hj : X.N[j]? = some y := by rfl) (hij : i ≠ j := by decide)
    (hx : X.env.scope.names.lookup x = some .local := by rfl) (hy : X.env.scope.names.lookup y = some .local := by rfl)
    (hw : swappedStores [.Tuple [.Name x px, .Name y py] kt pt] (.Tuple [a, b] k2 pt2) X.env = pure (some [x, y]) := by rfl)
    (hs : swapsWithSole [.Tuple [.Name x px, .Name y py] kt pt] (.Tuple [a, b] k2 pt2) pos.line X.env = pure false := by rfl) :
    SS X W (.Assign [.Tuple [.Name x px, .Name y py] kt pt] (.Tuple [a, b] k2 pt2) pos) (fsPar i j fa) :=
  ps_imp (ps_par hc hN hi hj hij hx hy ha hw hs) fun D σ H ⟨ρ, F, rl, h⟩ => by
    unfold fsPar at h
    refine ⟨ρ, F, rl, ?_⟩
    cases ea : fa ρ with
    | no => rw [ea] at h; exact h
    | ex c n d ρ' => rw [ea] at h; exact fun F' H' cls dx s e => h σ F' H' cls dx s e
    | ok ra =>
      rw [ea] at h
      simp only [R.bind] at h
      intro xs F1 H1 s1 p1
      cases e1 : frzL ra.2 ra.1 with
      | none => simp only [e1] at h
      | some z =>
        obtain ⟨ds, ρ1⟩ := z
        simp only [e1] at h
        obtain ⟨F2, s2, d2⟩ := p1.frz s1.rel e1
        match ds, h, d2 with
        | [d, e], h, ⟨v, r1, ex, dv, w, r2, ew, dw, er⟩ =>
          have er : r2 = [] := er
          subst er
          refine ⟨v, w, by rw [ex, ew], ?_⟩
          have s3 := store_sh (i := i) s2.rel dv
          have s4 := store_sh (i := j) s3.rel dw
          exact h _ F2 H1 ((s1.trans s2).trans (s3.trans s4))
def fsPar3 (i j l : Nat) (fa : FA) : FS := fun ρ => (fa ρ).bind fun r => match frzL r.2 r.1 with
  | some ([d, e, f], ρ1) => .ok (.nx, ((ρ1.set i (.sh d)).set j (.sh e)).set l (.sh f))
  | _ => .no
theorem ss_par3 {i j l : Nat} {x y z : Str} {a b c : Expr} {fa : FA} {px py pz pt pos : Pos} {kt k2 pt2} (hc : X.calm = true) (hN : X.N.Nodup) (ha : SA X W [a, b, c] fa) (hi : X.N[i]? = some x := by rfl) (hj : X.N[j]? = some y := by rfl) (hl : X.N[l]? = some z := by rfl) (hij : i ≠ j := by decide) (hil : i ≠ l := by decide) (hjl : j ≠ l := by decide)
    (hx : X.env.scope.names.lookup x = some .local := by rfl) (hy : X.env.scope.names.lookup y = some .local := by rfl) (hz : X.env.scope.names.lookup z = some .local := by rfl)
    (hw : swappedStores [.Tuple [.Name x px, .Name y py, .Name z pz] kt pt] (.Tuple [a, b, c] k2 pt2) X.env = pure (some [x, y, z]) := by rfl)
    (hs : swapsWithSole [.Tuple [.Name x px, .Name y py, .Name z pz] kt pt] (.Tuple [a, b, c] k2 pt2) pos.line X.env = pure false := by rfl) :
    SS X W (.Assign [.Tuple [.Name x px, .Name y py, .Name z pz] kt pt] (.Tuple [a, b, c] k2 pt2) pos) (fsPar3 i j l fa) :=
  ps_imp (ps_par3 hc hN hi hj hl hij hil hjl hx hy hz ha hw hs) fun D σ H ⟨ρ, F, rl, h⟩ => by
    unfold fsPar3 at h
    refine ⟨ρ, F, rl, ?_⟩
    cases ea : fa ρ with
    | no => rw [ea] at h; exact h
    | ex c n d ρ' => rw [ea] at h; exact fun F' H' cls dx s e => h σ F' H' cls dx s e
    | ok ra =>
      rw [ea] at h
      simp only [R.bind] at h
      intro xs F1 H1 s1 p1
      cases e1 : frzL ra.2 ra.1 with
      | none => simp only [e1] at h
      | some z =>
        obtain ⟨ds, ρ1⟩ := z
        simp only [e1] at h
        obtain ⟨F2, s2, d2⟩ := p1.frz s1.rel e1
        match ds, h, d2 with
        | [d, e, f], h, ⟨v, r1, ex, dv, w, r2, ew, dw, u, r3, eu, du, er⟩ =>
          have er : r3 = [] := er
          subst er
          refine ⟨v, w, u, by rw [ex, ew, eu], ?_⟩
          have s3 := store_sh (i := i) s2.rel dv
          have s4 := store_sh (i := j) s3.rel dw
          have s5 := store_sh (i := l) s4.rel du
          exact h _ F2 H1 ((s1.trans s2).trans ((s3.trans s4).trans s5))

/-! ### try -/
/-- a name goes -/
theorem store_un {T : Tx} {F : Fz} {H : Hp} {ρ : En} {σ : Sg} {i : Nat} (r : Rel T F H ρ σ) : Stp T F H ρ σ F H (ρ.set i .un) (σ.set i none) where
  rel := by
    refine ⟨by rw [set_len, List.length_set]; exact r.len, r.sub, fun j e q => ?_, fun j e q => ?_, fun j k e e' c q q' s s' => ?_, r.lv, fun j e c q s => ?_⟩
    · by_cases w : i = j
      · subst w
        obtain ⟨z, hi⟩ := set_get_self q
        cases z
      · rw [get_set_ne w] at q
        rw [List.getElem?_set_ne w]
        exact r.sh j e q
    · rcases mu_set q with ⟨_, z, _⟩ | ⟨w, q⟩
      · cases z
      · rw [List.getElem?_set_ne w]
        exact r.ow j e q
    · rcases mu_set q with ⟨_, z, _⟩ | ⟨w, q⟩
      · cases z
      · rcases mu_set q' with ⟨_, z, _⟩ | ⟨w', q'⟩
        · cases z
        · rw [List.getElem?_set_ne w] at s
          rw [List.getElem?_set_ne w'] at s'
          exact r.dis j k e e' c q q' s s'
    · rcases mu_set q with ⟨_, z, _⟩ | ⟨w, q⟩
      · cases z
      · rw [List.getElem?_set_ne w] at s
        exact r.lo j e c q s
  same := Ext.refl F
  keep := fun _ _ h _ => h
  own := fun b z => by
    rcases z with ⟨j, e, q, s⟩ | z
    · rcases mu_set q with ⟨_, z, _⟩ | ⟨w, q⟩
      · cases z
      · rw [List.getElem?_set_ne w] at s
        exact .inl (.inl ⟨j, e, q, s⟩)
    · exact .inl (.inr z)
  dom := fun _ o h => ⟨o, h⟩
  fz := fun _ _ _ _ _ => rfl
/-- the context of an except suite whose error is held as a value -/
abbrev suite0 (X : Cx) (a : Addr) (pn : List (Addr × Obj)) : Cx := { X with A := X.A.mark (some (.ref a)), calm := false, pn := pn, xe := fun _ _ => False }
theorem ok_suite0 {a : Addr} {pn : List (Addr × Obj)} (ok : X.Ok) : (suite0 X a pn).Ok :=
  ⟨ok.mod, ok.kind, ok.glob, ok.blt, ok.above, ok.inj, ok.has, ok.cab, (fun z => absurd (show false = true from z) Bool.false_ne_true), ok.frames, ok.stk, ok.exf, ok.bs, ok.bsz, ok.noex, ok.exfs, ok.funs, ok.frf⟩
section
variable {pins : List (Addr × Obj)} {σ : Sg} {H : Hp} {s : Shared}
theorem to_suite0 {a : Addr} (I : Inv X pins σ H s) : Inv (suite0 X a (X.pn ++ pins)) [] σ H s :=
  ⟨ok_suite0 I.ok, I.os, I.bare, I.base, I.loc, I.cell, I.free, I.freeC, fun p hp => I.pin p (by rw [List.append_nil] at hp; exact hp), I.hok, I.len⟩
theorem of_suite0 {a : Addr} {pn' : List (Addr × Obj)} (I : Inv (suite0 X a (X.pn ++ pins)) pn' σ H s) (ok : X.Ok) : Inv X pins σ H s :=
  ⟨ok, I.os, I.bare, I.base, I.loc, I.cell, I.free, I.freeC, fun p hp => I.pin p (List.mem_append_left _ hp), I.hok, I.len⟩
/-- an object that nobody has told of is told of -/
theorem adopt {a : Addr} {o : HO} (I : Inv X pins σ H s) (n0 : X.s_0.heap.get? a = none) (na : H a = none) (nL : a ≠ X.env.locals) (nC : ∀ x c, X.env.cells.lookup x = some c → c ≠ a) (nP : ∀ p ∈ X.pn ++ pins, p.1 ≠ a)
    (no : ∀ c, o ≠ .own c) (nt : ∀ xs, o ≠ .tup xs) (new : ObjOk X.prog X.w (upd H a o) s.heap a o) : Inv X pins σ (upd H a o) s := by
  refine ⟨I.ok, I.os, I.bare, ⟨I.base.keep, I.base.slot, fun b ob e n hx => ?_, I.base.there, fun b xs e => ?_, fun b ob v e => ?_, fun b ps e => ?_⟩, I.loc, I.cell, by rw [upd_ne (Ne.symm nL)]; exact I.free, fun x c e => by rw [upd_ne (nC x c e)]; exact I.freeC x c e, fun p hp => ?_, fun b ob e => ?_, I.len⟩
  · have hne : b ≠ a := fun z => by rw [z, n0] at e; cases e
    rw [upd_ne hne]
    exact I.base.free b ob e n hx
  · have q := I.base.tups b xs e
    rw [upd_ne (ne_of_none q na)]
    exact q
  · have q := I.base.frzs b ob v e
    rw [upd_ne (ne_of_none q na)]
    exact q
  · obtain ⟨more, q⟩ := I.base.tbls b ps e
    exact ⟨more, by rw [upd_ne (ne_of_none q na)]; exact q⟩
  · obtain ⟨h1, h2, h3⟩ := I.pin p hp
    exact ⟨h1, by rw [upd_ne (nP p hp)]; exact h2, h3⟩
  · by_cases hb : b = a
    · subst hb
      rw [upd_same] at e
      cases e
      exact new
    · rw [upd_ne hb] at e
      exact (I.hok b ob e).stay (fun c w hc q => q) (fun c q => by rw [upd_ne (ne_of_none q na)]; exact q) fun c xs q => by rw [upd_ne (ne_of_none q na)]; exact q
end
end
end Tr
/-! Tr, part K: try: body, except x as n: suite, the error held as a value. -/
namespace Tr
open PySem PySem.Spec PyProof.Rows L2
/-- what the clause wishes of an exception of the body: slot i is the clause's name -/
def wAs0 (K : PySem.W.Frag) (c : Value) (i : Nat) (ts : TS) (Wout : WX) (D : Ends) : WX := fun cls d σ H =>
  ∃ b, PySem.W.exmOne K cls c = some b ∧ (b = true → ∃ C dx, cls = .ref C ∧ d = some dx ∧ ∀ a, H a = none →
      ts { nx := fun σ' H' => D.nx (σ'.set i none) H', rt := fun _ _ => False, bk := fun _ _ => False, ct := fun _ _ => False } (σ.set i (some (.ref a))) (upd H a (exv C dx a))) ∧
    (b = false → Wout cls d σ H)
section
variable {X : Cx} {x n : Str} {c : Value} {i : Nat} {body suite : List Stmt} {b₀ : Stmt} {np pos pos' : Pos} {tb : WX → TS} {ts : TS} {Wout : WX}
theorem ps_try_as0 (hs : X.stack = X.env :: X.outer) (hf : X.env.frame = some X.env.locals) (hex : X.ex = []) (hN : X.N.Nodup) (hi : X.N[i]? = some n) (hln : X.env.kindOf n = some .local) (hc : Names X x c) (tk : Takes X Wout)
    (hb : ∀ (W : WX) (pn : List (Addr × Obj)) (xe : Value → Shared → Prop), Takes (X.tr pn xe) W → PassesOwn (model X.prog X.w) X.A X.env xe → PSs (X.tr pn xe) body (tb W))
    (hsu : ∀ (a : Addr) (pn : List (Addr × Obj)), PSs (suite0 X a pn) (b₀ :: suite) ts) :
    PS X (.Try body [.ExceptHandler (some (.Name x np)) (some n) (b₀ :: suite) pos'] [] [] pos) (fun D σ H => tb (wAs0 X.K c i ts Wout D) D σ H) := by
  refine ⟨fun pins s σ H D I h => ?_⟩
  have ok := I.ok
  have hfr : X.A.frames = some (X.env :: X.outer) := by rw [ok.frames, hs]
  have hloc : Loc X.env.scope n := .inl hln
  refine wpAny_Try_except ?_
  refine wpAny_mono ((hb (wAs0 X.K c i ts Wout D) (X.pn ++ pins) (fun e s₁ => wpAny (model X.prog X.w) X.A (noteFrame e X.env) (fun _ s₂ => wpAny (model X.prog X.w) X.A (setFlight e none) (fun _ s₃ =>
    wpAny (model X.prog X.w) X.A (handleBy e X.env [.ExceptHandler (some (.Name x np)) (some n) (b₀ :: suite) pos']) (SP X pins D) X.xe s₃) X.xe s₂) X.xe s₁) (fun u s' xx => ?_) PassesOwn.looking).run [] s σ H D (I.toTry _) h) (fun f s1 hsp => ?_) (fun e s1 he => he)
  · obtain ⟨a, B, sI, pins', σ', H', cls, d, rfl, J', nb, up, sky, na, os, ag, b, hb1, hyes, hno⟩ := xx
    have J : Inv X pins σ' H' sI := J'.ofTry ok
    have sky' : Sky B (X.env :: X.outer) a (Zc cls d) X.env.locals s'.heap := by rw [← hs]; exact sky
    show wpAny (model X.prog X.w) X.A (noteFrame (.ref a) X.env) _ _ _
    refine Sky.land Zc.steady hfr hf sky' fun h3 fl3 up3 => ?_
    have J3 : Inv X pins σ' H' { s' with heap := h3 } := J.landed nb fl3.1 (up.trans up3) os ag
    obtain ⟨oe3, vs3, he3, hz3, hd3⟩ := fl3.there
    have notFr : ∀ {h : Heap} {o : Obj} {vs : Array Value}, h.FunFrames B (X.env :: X.outer) → h.get? a = some o → o.data = .fields vs → a ∉ frs (X.env :: X.outer) := fun {h o vs} ff e dd hm => by
      obtain ⟨_, o', e', hnf⟩ := ff.mem hm
      rw [e] at e'; cases e'
      exact hnf _ dd
    have nfr := notFr fl3.2.2.1 he3 hd3
    have nL : a ≠ X.env.locals := fun z => nfr (List.mem_filterMap.mpr ⟨X.env, List.mem_cons_self, by rw [hf, z]⟩)
    have nI : sI.heap.get? a = none := by
      cases e : sI.heap.get? a with
      | none => rfl
      | some o =>
        have y := nb a o e (by rw [hs]; exact nfr)
        rw [fl3.2.1] at y
        cases y
    have n0 : X.s_0.heap.get? a = none := by
      cases e : X.s_0.heap.get? a with
      | none => rfl
      | some o =>
        obtain ⟨o', y⟩ := J.base.there a o e (by rw [hex]; exact List.not_mem_nil)
        rw [nI] at y
        cases y
    have nP : ∀ p ∈ X.pn ++ pins, p.1 ≠ a := fun p hp z => by
      obtain ⟨y, _⟩ := J.pin p hp
      rw [z, nI] at y
      cases y
    have S3 := to_suite0 (a := a) J3
    refine wpAny_handleBy_cons (codeAny_handlers_test ?_) (by intro q; cases q)
    have LT : PySem.W.Looks (model X.prog X.w) h3 (typeOf (.ref a)) cls := fun A Q E s k q => wpAny_typeOf_ref (k _ _ he3) (by rw [hz3.1]; exact q)
    have LM := PySem.W.exm_one (M := model X.prog X.w) (J3.kIn) LT hb1
    have test : ∀ {Q : Value → Shared → Prop} {E : Value → Shared → Prop}, Q c { s' with heap := h3 } → wpAny (model X.prog X.w) (X.A.mark (some (.ref a))) (eval (.Name x np) X.env) Q E { s' with heap := h3 } := fun {Q E} q => by
      obtain ⟨hg, hdbg, hm | ⟨hm, hv, hnn⟩⟩ := hc
      · exact ld_glob (X := suite0 X a (X.pn ++ pins)) S3 hg hm q hdbg
      · exact ld_blt (X := suite0 X a (X.pn ++ pins)) S3 hg hm hv q hnn hdbg
    refine test (LM.here ?_)
    cases b with
    | true =>
      obtain ⟨C, dx, ec, ed, hy2⟩ := hyes rfl
      subst ec ed
      refine codeAny_handlers_suite_as ?_
      refine HandSPX.lands_againZ fl3 fun h4 fl4 up4 => ?_
      have J4 : Inv X pins σ' H' { s' with heap := h4 } := J.landed nb fl4.1 ((up.trans up3).trans up4) os ag
      obtain ⟨oe4, vs4, he4, hz4, hd4⟩ := fl4.there
      have nC : ∀ y cc, X.env.cells.lookup y = some cc → cc ≠ a := fun y cc e z => by
        obtain ⟨v, ob, q1, q2⟩ := J4.cell y cc e
        rw [z, he4] at q1
        cases q1
        rw [hd4] at q2
        cases q2
      have K4 : Inv X pins σ' (upd H' a (exv C dx a)) { s' with heap := h4 } := adopt J4 n0 na nL nC nP (fun _ z => by cases z) (fun _ z => by cases z) ⟨⟨oe4, vs4, he4, hz4.1, hz4.2, hd4⟩, ⟨oe4, he4⟩, fun h1 h2 ⟨oe, vs, e, r⟩ k => ⟨oe, vs, k _ e, r⟩⟩
      have S4 := to_suite0 (a := a) K4
      refine store_ok (X := suite0 X a (X.pn ++ pins)) (v := .ref a) S4 hN hi hloc rfl (fun s5 S5 => ?_) (.inr hln)
      refine wpAny_mono ((hsu a (X.pn ++ pins)).run [] s5 _ _ _ S5 (hy2 a na)) (fun f s6 hsp => ?_) (fun _ _ z => False.elim z)
      have end_ : ∀ {σ6 : Sg} {H6 : Hp} {Q : Shared → Prop}, Inv (suite0 X a (X.pn ++ pins)) [] σ6 H6 s6 → (∀ s7, Inv X pins (σ6.set i none) H6 s7 → Q s7) →
          wpAny (model X.prog X.w) X.A (do bindName X.env n .none; unbindBehindTheSuite X.env n pos') (fun _ s7 => Q s7) X.xe s6 := fun {σ6 H6 Q} S6 hq => gone_ok (of_suite0 S6 ok) hN hi hln hq
      cases f with
      | next =>
        obtain ⟨σ6, H6, S6, q6⟩ := hsp
        exact end_ S6 fun s7 J7 => ⟨_, _, J7, q6⟩
      | brk =>
        obtain ⟨σ6, H6, S6, q6⟩ := hsp
        exact q6.elim
      | cont =>
        obtain ⟨σ6, H6, S6, q6⟩ := hsp
        exact q6.elim
      | ret u =>
        obtain ⟨v6, σ6, H6, S6, r6, q6⟩ := hsp
        exact q6.elim
    | false =>
      show wpAny _ X.A (handleBy (.ref a) X.env []) _ _ _
      refine wpAny_handleBy_nil ?_
      obtain ⟨k1, k2, k3, oe, vs, T, oT, ts', he, hz, hd, h1, hr⟩ := id fl3
      unfold PySem.passOn
      refine wpAny_bind (wpAny_field he hd h1 ?_)
      rw [if_neg (show ¬ ((Value.ref T == Value.none) = true) from by simp)]
      have fin : wpAny (model X.prog X.w) X.A (setFlight (.ref a) X.env.frame) (fun _ s4 => wpAny (model X.prog X.w) X.A (throw (.ref a) : Sem Flow) (SP X pins D) X.xe s4) X.xe { s' with heap := h3 } := by
        rw [hf]
        refine HandSPX.setFlight_upZ fl3 fun h4 hh4 up4 => wpAny_throw (tk _ _ ?_)
        exact ⟨a, B, sI, pins, σ', H', cls, d, rfl, J, nb, (up.trans up3).trans up4, .inr (.inr (by rw [hs]; exact hh4)), na, os, ag, hno rfl⟩
      first
        | exact wpAny_bind (wpAny_pure (wpAny_bind fin))
        | exact wpAny_bind fin
  · cases f with
    | next =>
      obtain ⟨σ', H', J', q⟩ := hsp
      exact wpAny_execs_nil ⟨σ', H', J'.ofTry ok, q⟩
    | brk =>
      obtain ⟨σ', H', J', q⟩ := hsp
      exact ⟨σ', H', J'.ofTry ok, q⟩
    | cont =>
      obtain ⟨σ', H', J', q⟩ := hsp
      exact ⟨σ', H', J'.ofTry ok, q⟩
    | ret u =>
      obtain ⟨v, σ', H', J', r, q⟩ := hsp
      exact ⟨v, σ', H', J'.ofTry ok, r, q⟩
/-- try: body / except x as n: suite; cs: is an error of this class one of x -/
def fsTry (cs : Str → Option Bool) (i : Nat) (fb fs : FS) : FS := fun ρ => match fb ρ with
  | .ok r => .ok r
  | .no => .no
  | .ex c n d ρ' => match cs c with
    | some true => (match fs (ρ'.set i (.sh (.exn c n d))) with
      | .ok (.nx, ρ2) => .ok (.nx, ρ2.set i .un)
      | _ => .no)
    | some false => .ex c n d ρ'
    | none => .no
theorem ss_try {cs : Str → Option Bool} {fb fs : FS} (hcs : ∀ e b C, cs e = some b → X.mg e = some (.ref C) → PySem.W.exmOne X.K (.ref C) c = some b) (hN : X.N.Nodup) (hi : X.N[i]? = some n) (hc : Names X x c) (tk : Takes X Wout)
    (hb : ∀ (W : WX) (pn : List (Addr × Obj)) (xe : Value → Shared → Prop), Takes (X.tr pn xe) W → PassesOwn (model X.prog X.w) X.A X.env xe → SSs (X.tr pn xe) W body fb)
    (hsu : ∀ (a : Addr) (pn : List (Addr × Obj)), SSs (suite0 X a pn) W0 (b₀ :: suite) fs)
    (hs : X.stack = X.env :: X.outer := by rfl) (hf : X.env.frame = some X.env.locals := by rfl) (hex : X.ex = [] := by rfl) (hln : X.env.kindOf n = some .local := by rfl) :
    SS X Wout (.Try body [.ExceptHandler (some (.Name x np)) (some n) (b₀ :: suite) pos'] [] [] pos) (fsTry cs i fb fs) :=
  ps_imp (ps_try_as0 (tb := fun W => tOfS (.of X) W fb) (ts := tOfS (.of X) W0 fs) hs hf hex hN hi hln hc tk (fun W pn xe t p => hb W pn xe t p) (fun a pn => hsu a pn)) fun D σ H ⟨ρ, F, rl, h⟩ => by
    unfold fsTry at h
    refine ⟨ρ, F, rl, ?_⟩
    cases ea : fb ρ with
    | no => simp only [ea] at h
    | ok ra => simp only [ea] at h; exact h
    | ex c' n' d' ρ' =>
      simp only [ea] at h
      intro σ' F' H' cls dx s1 ⟨C, e, y, hm, hcl, hdx, he, hd⟩
      subst hcl hdx
      cases eb : cs c' with
      | none => simp only [eb] at h
      | some b =>
        refine ⟨b, hcs _ _ _ eb hm, fun hb => ?_, fun hb => ?_⟩
        · subst hb
          simp only [eb] at h
          refine ⟨C, e, rfl, rfl, fun a na => ?_⟩
          have nw : New (.of X) F' H' (F'.upd a (exv C e a)) (upd H' a (exv C e a)) := New.sh s1.rel.sub na
          have s2 := nw.stp s1.rel
          have dn : Den (.of X) (F'.upd a (exv C e a)) (.exn c' n' d') (.ref a) := ⟨a, C, e, y, rfl, hm, upd_same, nw.ff.hp _ _ he, hd.mono nw.ff⟩
          have s3 := store_sh (i := i) s2.rel dn
          refine ⟨_, _, s3.rel, ?_⟩
          cases ef : fs (ρ'.set i (.sh (.exn c' n' d'))) with
          | no => simp only [ef] at h
          | ex c3 n3 d3 ρ3 => simp only [ef] at h
          | ok rf =>
            obtain ⟨fl, ρ2⟩ := rf
            cases fl with
            | nx =>
              simp only [ef] at h
              intro σ2 F2 H2 s4
              exact h _ F2 H2 ((s1.trans (s2.trans (s3.trans s4))).trans (store_un s4.rel))
            | bk => simp only [ef] at h
            | ct => simp only [ef] at h
            | rt v => simp only [ef] at h
        · subst hb
          simp only [eb] at h
          exact h σ' F' H' _ _ s1 ⟨C, e, y, hm, rfl, rfl, he, hd⟩
end
end Tr
/-! Tr, part L: repr, isinstance, fields of errors. -/
namespace Tr
open PySem PySem.Spec PyProof.Rows L2
section
variable {X : Cx} {W : WX}
/-! ### {} -/
def evDK : FE := fun ρ => .ok (.fr (.dK [] []), ρ)
theorem se_dK {pos : Pos} : SE X W (.Dict [] [] pos) evDK := pe_imp pe_dnewK fun σ H Q ⟨ρ, F, rl, h⟩ p hp => by
  have nw : New (.of X) F H F (upd H p (.dK [])) := New.fr rl.sub hp
  exact h _ F _ (nw.stp rl) (NRel.vrel rl nw ⟨p, rfl, rl.sub.free hp, hp, [], upd_same, rfl, rfl⟩)

/-! ### repr -/
mutual
theorem dp_nodict {K : PySem.W.Frag} {H : Hp} : ∀ (p : PyData) {x : V}, Dp K H x p → p.hasDict = false
  | .none, _, _ => rfl
  | .bool _, _, _ => rfl
  | .int _, _, _ => rfl
  | .str _, _, _ => rfl
  | .list ps, _, h => by
    cases h with
    | lst _ ha => simp only [PyData.hasDict]; exact dp_nodicts ps ha
  | .tuple ps, _, h => by
    cases h with
    | tup _ ha => simp only [PyData.hasDict]; exact dp_nodicts ps ha
  | .dict _, _, h => by cases h
theorem dp_nodicts {K : PySem.W.Frag} {H : Hp} : ∀ (ps : List PyData) {xs : List V}, DpAll K H xs ps → PyData.hasDictAll ps = false
  | [], _, _ => rfl
  | p :: ps, _, h => by
    cases h with
    | cons h1 h2 => simp only [PyData.hasDictAll, dp_nodict p h1, dp_nodicts ps h2, Bool.or_self]
end
def rRepr (K : PySem.W.Frag) : List V → Hp → VK → Prop := fun xs H Q => ∃ x, xs = [x] ∧
  ((∃ p, Dp K H x p ∧ p.showable = true ∧ p.depth ≤ 60 ∧ p.shown.length ≤ 16777216 ∧ Q (.str p.shown) H) ∨ (∃ a, x = .ref a ∧ H a = some (.dK []) ∧ Q (.str "{}") H))
theorem call_reprD (hgu : X.A.guards = some []) (hu : X.A.units + 64 < cLine) : CallR X (.builtin "repr") (rRepr X.K) := by
  intro pins s σ H xs us Q I r h
  obtain ⟨x, rfl, h⟩ := h
  obtain ⟨u, rfl, ru⟩ := vals1 r
  rcases h with ⟨p, dp, hs, hd, hl, q⟩ | ⟨a, rfl, ha, q⟩
  · have hl' : p.shown.length ≤ sizeLine := size_le hl
    have nd := dp_nodict p dp
    have fin : ∀ a as, u = .ref a → Reads s.heap u p as → wpAny (model X.prog X.w) X.A (call (.builtin "repr") [u]) (EP X pins σ Q) X.xe s := fun a as e rd => by
      subst e
      exact repr_of_reads' rd hs (fun z => by rw [nd] at z; cases z) hgu (by omega) (fun _ _ e => e) (fun h' t tk k => ⟨.str p.shown, H, I.kept (t' := tk) k, ⟨_, rfl⟩, q⟩) hl'
    obtain ⟨as, rd⟩ := Dp.reads I p x u dp ru
    cases p with
    | none => cases dp; cases ru; exact PySem.P.repr_of_none ⟨.str _, H, I.tok _, ⟨_, rfl⟩, q⟩
    | bool b => cases dp; cases ru; exact PySem.P.repr_of_bool ⟨.str _, H, I.tok _, ⟨_, rfl⟩, q⟩
    | int i =>
      cases dp
      obtain ⟨t, rfl⟩ := ru
      exact PySem.P.repr_of_int (by simpa [PyData.showable] using hs) ⟨.str _, H, I.tok _, ⟨_, rfl⟩, q⟩
    | str y =>
      cases dp
      obtain ⟨t, rfl⟩ := ru
      exact PySem.P.repr_of_str ⟨.str _, H, I.tok _, ⟨_, rfl⟩, q⟩ hl'
    | list ps =>
      cases dp with
      | lst _ _ => exact fin _ as ru rd
    | tuple ps =>
      cases dp with
      | tup _ _ => exact fin _ as ru rd
    | dict _ => cases dp
  · cases (show u = Value.ref a from ru)
    obtain ⟨_, hsm, vs, kv, o, es, ep, h1, h2, h3⟩ := (show ObjOk X.prog X.w H s.heap a (.dK []) from I.hok a _ ha)
    obtain ⟨hdt, _, hp, _⟩ := h3
    have ev : vs = [] := by cases kv; rfl
    subst ev
    have ee : es.toList = [] := by
      cases q : es.toList with
      | nil => rfl
      | cons y ys => rw [q] at hp; cases hp
    have rd : Reads s.heap (.ref a) (.dict []) (a :: [] ++ []) := Reads.dict (kvs := []) h1 h2.1 hdt (by rw [ee]; exact .nil) (by rw [ee]; exact .nil)
    refine repr_of_reads' rd rfl (fun _ hm => ?_) hgu (by show X.A.units + (0 + 1 + 1) < cLine; omega) (fun _ _ e => e) (fun h' t tk k => ⟨.str "{}", H, I.kept (t' := tk) k, ⟨_, rfl⟩, q⟩) (by decide +kernel)
    have hm : sysModules = a := by simpa using hm
    rw [hm, beq_self_eq_true] at hsm
    cases hsm
def reprD : List D → Option Val
  | [.dK [] []] => some (.sh (.str "{}"))
  | [d] => (match toPy d with
    | some p => if p.showable = true ∧ p.depth ≤ 60 ∧ p.shown.length ≤ 16777216 then some (.sh (.str p.shown)) else none
    | none => none)
  | _ => none
theorem cs_repr (hgu : X.A.guards = some []) (hu : X.A.units + 64 < cLine) : CallS X (.builtin "repr") reprD := by
  refine ⟨_, call_reprD hgu hu, fun F H xs ds z Q s px hg k => ?_⟩
  unfold reprD at hg
  split at hg
  · cases hg
    obtain ⟨x, rfl, p⟩ := px.one
    refine ⟨x, rfl, .inr ?_⟩
    rcases p with ⟨a, xs, e1, h1, h2, h3⟩ | ⟨a, e1, xs, h1, h2, h3⟩
    · have h3 : xs = [] := h3
      subst h3
      exact ⟨a, e1, s _ _ h1, plainQ s k rfl⟩
    · have h3 : xs = [] := h3
      subst h3
      exact ⟨a, e1, h1, plainQ s k rfl⟩
  · obtain ⟨x, rfl, p⟩ := px.one
    split at hg
    · rename_i d q e1
      split at hg
      · rename_i hs
        cases hg
        exact ⟨x, rfl, .inl ⟨q, p.dp s e1, hs.1, hs.2.1, hs.2.2, plainQ s k rfl⟩⟩
      · cases hg
    · cases hg
  · cases hg

/-! ### isinstance -/
/-- the built-in class of a value that is no object of an own class -/
def tyN : D → Option String
  | .non => some "NoneType"
  | .bl _ => some "bool"
  | .int _ => some "int"
  | .str _ => some "str"
  | .lst _ => some "list"
  | .tup _ => some "tuple"
  | .dK _ _ => some "dict"
  | .dT _ _ => some "dict"
  | .scr _ => some "list"
  | _ => none
theorem tyN_x {T : Tx} {F : Fz} {H : Hp} {d : D} {x : V} {n : String} (s : Same F.hp H) (p : Pk T F H d x) (e : tyN d = some n) : TyX T.K H x (.type n) := by
  cases d with
  | non => cases e; rcases p with p | ⟨_, _, z⟩; (cases p; exact .base .non); exact z.elim
  | bl b => cases e; rcases p with p | ⟨_, _, z⟩; (cases p; exact .base (.bl b)); exact z.elim
  | int i => cases e; rcases p with p | ⟨_, _, z⟩; (cases p; exact .base (.int i)); exact z.elim
  | str y => cases e; rcases p with p | ⟨_, _, z⟩; (cases p; exact .base (.str y)); exact z.elim
  | lst ds =>
    cases e
    obtain ⟨a, xs, rfl, h1, _⟩ := p.lst s
    exact .base (.lst h1)
  | tup ds =>
    cases e
    obtain ⟨a, xs, rfl, h1, _, _⟩ := p.tup s
    rcases h1 with (h | ⟨o, h⟩) | h
    · exact .base (.tup h)
    · exact .fTuple h
    · obtain ⟨o, its, n, hk, hc, _⟩ := h
      exact .kTuple hk hc
  | dK ks ds =>
    cases e
    rcases p with ⟨a, xs, rfl, h1, _⟩ | ⟨a, rfl, xs, h1, _⟩
    · exact .base (.dK (s _ _ h1))
    · exact .base (.dK h1)
  | dT ks ds =>
    cases e
    rcases p with ⟨a, xs, rfl, h1, _⟩ | ⟨a, rfl, xs, h1, _⟩
    · exact .base (.dT (s _ _ h1))
    · exact .base (.dT h1)
  | scr ns =>
    cases e
    obtain ⟨a, rfl, h1⟩ := p.scr s
    rcases h1 with (h | ⟨o, h⟩) | h
    · exact .base (.lst h)
    · exact .base (.frz h)
    · obtain ⟨o, its, n, hk, hc, _⟩ := h
      exact .kList hk hc
  | ins _ _ _ => cases e
  | exn _ _ _ => cases e
  | ty _ => cases e
  | glo _ => cases e
  | ref _ => cases e
theorem mro_none {a : String} (h : a ∈ ["NoneType", "bool", "int", "str", "list", "tuple", "dict"]) (C : Addr) : (PySem.fastBuiltinMro a).map (·.contains (Value.ref C)) = some false := by
  simp only [List.mem_cons, List.not_mem_nil, or_false] at h
  rcases h with rfl | rfl | rfl | rfl | rfl | rfl | rfl <;> kernel_rfl
theorem tyN_mem {d : D} {n : String} (e : tyN d = some n) : n ∈ ["NoneType", "bool", "int", "str", "list", "tuple", "dict"] := by
  unfold tyN at e
  split at e <;> (cases e <;> decide)
/-- the own errors of the module: (class, field) -/
structure Errs (P : Program) (K : PySem.W.Frag) (mg : Str → Option Value) (Ad : Addr) (es : List (Str × Str)) : Prop where
  gA : mg "AddError" = some (.ref Ad)
  clsA : ∃ (od : Option Addr) (cd : ClassData) (sl : Array (Option Value)), K.lookup Ad = some ⟨.type "type", od, .cls cd, sl⟩ ∧ cd.name = "AddError"
  excA : PySem.W.subIn K (.ref Ad) (.type "BaseException") = some true
  noA : ∀ v, (("AddError" : Str), v) ∉ es
  all : ∀ c v, (c, v) ∈ es → ∃ C fI, PySem.ErrX.ErrTxt P K mg Ad c v C fI
section
variable {P : Program} {K : PySem.W.Frag} {mg : Str → Option Value} {Ad : Addr} {es : List (Str × Str)}
/-- an own class that isinstance and except may name -/
structure OwnCls (K : PySem.W.Frag) (C : Addr) (n : Str) : Prop where
  cls : ∃ (od : Option Addr) (cd : ClassData) (sl : Array (Option Value)), K.lookup C = some ⟨.type "type", od, .cls cd, sl⟩ ∧ cd.name = n
theorem OwnCls.ok {C : Addr} {n : Str} (o : OwnCls K C n) : ((PySem.W.clsIn K C).isSome && PySem.W.typeIn K (.ref C) == some (.type "type")) = true := by
  obtain ⟨od, cd, sl, h, _⟩ := o.cls
  have h1 : PySem.W.clsIn K C = some cd := by unfold PySem.W.clsIn; rw [h]
  have h2 : PySem.W.typeIn K (.ref C) = some (.type "type") := by
    show (K.lookup C).map (·.cls) = _
    rw [h]; rfl
  rw [h1, h2]; rfl
theorem OwnCls.name {C : Addr} {n m : Str} (o : OwnCls K C n) (o' : OwnCls K C m) : n = m := by
  obtain ⟨od, cd, sl, h, q⟩ := o.cls
  obtain ⟨od', cd', sl', h', q'⟩ := o'.cls
  rw [h] at h'
  cases h'
  exact q.symm.trans q'
theorem OwnCls.of_err {C fI : Addr} {x v : Str} (T : PySem.ErrX.ErrTxt P K mg Ad x v C fI) : OwnCls K C x := by
  obtain ⟨q, N, bs, sn, sub, ab, col, dd, k0, k1, k2, k3, k5, hC⟩ := T.cls
  exact ⟨_, _, _, hC, rfl⟩
theorem kit_plain {a : String} {C : Addr} {n : Str} (o : OwnCls K C n) (h : a ∈ ["NoneType", "bool", "int", "str", "list", "tuple", "dict"]) : PySem.W.kitOne K (.type a) (.ref C) = some false := by
  unfold PySem.W.kitOne
  rw [if_neg (by simp)]
  show (if _ then _ else _) = _
  rw [if_pos o.ok]
  exact mro_none h C
theorem kit_err {C fI C' : Addr} {x v n : Str} (T : PySem.ErrX.ErrTxt P K mg Ad x v C fI) (o : OwnCls K C' n) (oA : OwnCls K Ad "AddError") : PySem.W.kitCls K (.ref C) (.ref C') = some (decide (x = n) || decide (n = "AddError")) ∨ ((C = C' ↔ x = n) ∧ (Ad = C' ↔ n = "AddError")) → PySem.W.kitCls K (.ref C) (.ref C') = some (decide (x = n) || decide (n = "AddError")) := by
  rintro (h | ⟨h1, h2⟩)
  · exact h
  · show (if _ then _ else _) = _
    rw [if_pos o.ok]
    show PySem.W.mroIn K C (.ref C') = _
    rw [T.mro]
    congr 1
    rw [List.contains_cons, List.contains_cons]
    have e1 : (Value.ref C' == Value.ref C) = decide (x = n) := by
      by_cases q : x = n
      · rw [h1.mpr q]; simp [q]
      · rw [decide_eq_false q, beq_eq_false_iff_ne]
        intro z
        cases z
        exact q (h1.mp rfl)
    have e2 : (Value.ref C' == Value.ref Ad) = decide (n = "AddError") := by
      by_cases q : n = "AddError"
      · rw [h2.mpr q]; simp [q]
      · rw [decide_eq_false q, beq_eq_false_iff_ne]
        intro z
        cases z
        exact q (h2.mp rfl)
    rw [e1, e2]
    have e3 : PySem.HandSPX.veTail.contains (Value.ref C') = false := by rfl
    rw [e3, Bool.or_false]
theorem kit_one {C fI C' : Addr} {x v n : Str} (T : PySem.ErrX.ErrTxt P K mg Ad x v C fI) (o : OwnCls K C' n) (oA : OwnCls K Ad "AddError") (g' : mg n = some (.ref C')) (gA : mg "AddError" = some (.ref Ad)) : PySem.W.kitCls K (.ref C) (.ref C') = some (decide (x = n) || decide (n = "AddError")) ∧ PySem.W.kitOne K (.ref C) (.ref C') = some (decide (x = n) || decide (n = "AddError")) := by
  have h1 : C = C' ↔ x = n := ⟨fun e => by subst e; exact (OwnCls.of_err T).name o, fun e => by
    subst e
    have z := T.gC.symm.trans g'
    cases z
    rfl⟩
  have h2 : Ad = C' ↔ n = "AddError" := ⟨fun e => by subst e; exact (oA.name o).symm, fun e => by
    subst e
    have z := gA.symm.trans g'
    cases z
    rfl⟩
  have k := kit_err T o oA (.inr ⟨h1, h2⟩)
  refine ⟨k, ?_⟩
  unfold PySem.W.kitOne
  by_cases q : C = C'
  · subst q
    rw [if_pos (by simp), decide_eq_true (h1.mp rfl)]; rfl
  · rw [if_neg (by simpa using q)]
    exact k
theorem Errs.oA (E : Errs P K mg Ad es) : OwnCls K Ad "AddError" := ⟨E.clsA⟩
/-- is an error of class c one of the class n -/
def isErr (es : List (Str × Str)) (n : Str) (c : Str) : Option Bool := if ((es.map (·.1)).contains c && ((es.map (·.1)).contains n || n == "AddError")) = true then some (decide (c = n) || decide (n = "AddError")) else none
theorem Errs.mem (E : Errs P K mg Ad es) {c : Str} (h : (es.map (·.1)).contains c = true) : ∃ v C fI, (c, v) ∈ es ∧ PySem.ErrX.ErrTxt P K mg Ad c v C fI := by
  rw [List.contains_iff_mem] at h
  obtain ⟨⟨c', v⟩, h1, h2⟩ := List.mem_map.mp h
  cases h2
  obtain ⟨C, fI, T⟩ := E.all _ _ h1
  exact ⟨v, C, fI, h1, T⟩
theorem Errs.named (E : Errs P K mg Ad es) {n : Str} (h : ((es.map (·.1)).contains n || n == "AddError") = true) : ∃ C, mg n = some (.ref C) ∧ OwnCls K C n := by
  rw [Bool.or_eq_true] at h
  rcases h with h | h
  · obtain ⟨v, C, fI, _, T⟩ := E.mem h
    exact ⟨C, T.gC, .of_err T⟩
  · have e : n = "AddError" := beq_iff_eq.mp h
    subst e
    exact ⟨Ad, E.gA, E.oA⟩
theorem Errs.isE (E : Errs P K mg Ad es) {n c : Str} {b : Bool} {C C' : Addr} (h : isErr es n c = some b) (g : mg c = some (.ref C)) (g' : mg n = some (.ref C')) : PySem.W.kitCls K (.ref C) (.ref C') = some b ∧ PySem.W.kitOne K (.ref C) (.ref C') = some b ∧ PySem.W.exmOne K (.ref C) (.ref C') = some b := by
  unfold isErr at h
  split at h
  · rename_i q
    cases h
    rw [Bool.and_eq_true] at q
    obtain ⟨v, D, fI, _, T⟩ := E.mem q.1
    obtain ⟨D', gn, o⟩ := E.named q.2
    have z := T.gC.symm.trans g
    cases z
    have z := gn.symm.trans g'
    cases z
    obtain ⟨k1, k2⟩ := kit_one T o E.oA g' E.gA
    refine ⟨k1, k2, ?_⟩
    unfold PySem.W.exmOne
    have hex : PySem.W.subIn K (.ref C') (.type "BaseException") = some true := by
      have q2 := q.2
      rw [Bool.or_eq_true] at q2
      rcases q2 with h | h
      · obtain ⟨v', D2, fI2, _, T2⟩ := E.mem h
        have z := T2.gC.symm.trans g'
        cases z
        exact T2.exC
      · have e : n = "AddError" := beq_iff_eq.mp h
        subst e
        have z := E.gA.symm.trans g'
        cases z
        exact E.excA
    rw [hex, if_pos (by rfl)]
    exact k1
  · cases h
end
/-- isinstance(e, C): e an error that is held, C an own class -/
def rIsiE (X : Cx) (es : List (Str × Str)) : List V → Hp → VK → Prop := fun xs H Q => ∃ (a C dx C' : Addr) (c n : Str) (fs : List (Str × V)) (b : Bool), xs = [.ref a, .ref C'] ∧ X.mg c = some (.ref C) ∧ X.mg n = some (.ref C') ∧ isErr es n c = some b ∧ H a = some (exv C dx a) ∧ H dx = some (.xd fs) ∧ Q (.bl b) H
theorem exv_inst {X : Cx} {pins : List (Addr × Obj)} {σ : Sg} {H : Hp} {s : Shared} {a C dx : Addr} {fs : List (Str × V)} (I : Inv X pins σ H s) (ha : H a = some (exv C dx a)) (hd : H dx = some (.xd fs)) : ∃ oe od, PySem.W.InstAt s.heap a oe C (some od) ∧ ∃ mA : Str → Option Value, (∀ f, RelO (List.lookup f fs) (mA f)) ∧ ∀ f, PySem.W.lookIn f od = some (mA f) := by
  obtain ⟨⟨oe, vs, h1, h2, h3, h4⟩, _, _⟩ := (show ObjOk X.prog X.w H s.heap a (exv C dx a) from I.hok a _ ha)
  obtain ⟨mA, hns, hr⟩ := (show ObjOk X.prog X.w H s.heap dx (.xd fs) from I.hok dx _ hd)
  obtain ⟨od, ho, hl⟩ := lookIn_ns hns
  exact ⟨oe, od, ⟨h1, h2, by unfold PySem.W.notCls; rw [h4] <;> rfl, by rw [h3]; exact ho⟩, mA, hr, hl⟩
theorem call_isiE {X : Cx} {Ad : Addr} {es : List (Str × Str)} (E : Errs X.prog X.K X.mg Ad es) : CallR X (.builtin "isinstance") (rIsiE X es) := by
  intro pins s σ H xs us Q I r h
  obtain ⟨a, C, dx, C', c, n, fs, b, rfl, g, g', hb, ha, hd, q⟩ := h
  obtain ⟨u1, u2, rfl, r1, r2⟩ := vals2 r
  cases (show u1 = Value.ref a from r1)
  cases (show u2 = Value.ref C' from r2)
  obtain ⟨_, k1, _⟩ := E.isE hb g g'
  have hm : (es.map (·.1)).contains c = true := by
    unfold isErr at hb
    split at hb
    · rename_i q
      rw [Bool.and_eq_true] at q
      exact q.1
    · cases hb
  obtain ⟨v, C2, fI, _, T⟩ := E.mem hm
  have z := T.gC.symm.trans g
  cases z
  obtain ⟨oe, od, J, _⟩ := exv_inst I ha hd
  exact PySem.W.kia_one (PySem.W.kitx_exc T.isC T.ga T.gg T.exC T.clC PySem.ErrX.oc_get PySem.ErrX.oc_takes T.obC) I.kIn J k1 (fun z => nomatch z) fun tk => ⟨.bl b, H, I.tok tk, rfl, q⟩
/-- isinstance(x, C) -/
def isiD (es : List (Str × Str)) : List D → Option Val
  | [.exn c _ _, .glo n] => (isErr es n c).map vB
  | [d, .ty n] => (match tyN d with
    | some a => (kitB a n).map vB
    | none => none)
  | [d, .glo n] => (match tyN d with
    | some _ => if ((es.map (·.1)).contains n || n == "AddError") = true then some (vB false) else none
    | none => none)
  | _ => none
theorem Pk.exn {T : Tx} {F : Fz} {H : Hp} {c n : Str} {d : D} {x : V} (h : Pk T F H (.exn c n d) x) : Den T F (.exn c n d) x := by
  rcases h with h | ⟨_, _, z⟩
  · exact h
  · exact z.elim
theorem Pk.glo {T : Tx} {F : Fz} {H : Hp} {c : Str} {x : V} (h : Pk T F H (.glo c) x) : Den T F (.glo c) x := by
  rcases h with h | ⟨_, _, z⟩
  · exact h
  · exact z.elim
theorem Pk.ty {T : Tx} {F : Fz} {H : Hp} {n : String} {x : V} (h : Pk T F H (.ty n) x) : x = .ty n := by
  rcases h with h | ⟨_, _, z⟩
  · exact h
  · exact z.elim
theorem CallR.or {X : Cx} {f : Value} {r r' : List V → Hp → VK → Prop} (h : CallR X f r) (h' : CallR X f r') : CallR X f (fun xs H Q => r xs H Q ∨ r' xs H Q) := fun pins s σ H xs us Q I v q => q.elim (h pins s σ H xs us Q I v) (h' pins s σ H xs us Q I v)
theorem cs_isi {X : Cx} {Ad : Addr} {es : List (Str × Str)} (E : Errs X.prog X.K X.mg Ad es) : CallS X (.builtin "isinstance") (isiD es) := by
  refine ⟨_, CallR.or call_isi (call_isiE E), fun F H xs ds z Q s px hg k => ?_⟩
  unfold isiD at hg
  split at hg
  · rw [Option.map_eq_some_iff] at hg
    obtain ⟨b, hb, rfl⟩ := hg
    obtain ⟨x, y, rfl, p, q⟩ := px.two
    obtain ⟨a, C, dx, w, rfl, g, h1, h2, _⟩ := p.exn
    obtain ⟨C', g', rfl⟩ := q.glo
    exact .inr ⟨a, C, dx, C', _, _, _, b, rfl, g, g', hb, s _ _ h1, s _ _ h2, plainQ s k rfl⟩
  · split at hg
    · rename_i a e1
      rw [Option.map_eq_some_iff] at hg
      obtain ⟨b, hb, rfl⟩ := hg
      obtain ⟨x, y, rfl, p, q⟩ := px.two
      exact .inl ⟨x, y, _, _, b, rfl, by rw [q.ty]; exact .ty _, tyN_x s p e1, kit_ty hb, plainQ s k rfl⟩
    · cases hg
  · split at hg
    · rename_i a e1
      split at hg
      · rename_i hn
        cases hg
        obtain ⟨x, y, rfl, p, q⟩ := px.two
        obtain ⟨C', g', rfl⟩ := q.glo
        obtain ⟨C2, g2, o⟩ := E.named hn
        have z := g2.symm.trans g'
        cases z
        exact .inl ⟨x, _, _, _, false, rfl, .own _, tyN_x s p e1, kit_plain o (tyN_mem e1), plainQ s k rfl⟩
      · cases hg
    · cases hg
  · cases hg

/-! ### e.field of an error -/
def tXf (X : Cx) (es : List (Str × Str)) (v : Str) (te : TE) : TE := fun σ H Q => te σ H fun x H1 => ∃ (a C dx : Addr) (c : Str) (y : V), x = .ref a ∧ X.mg c = some (.ref C) ∧ (c, v) ∈ es ∧ H1 a = some (exv C dx a) ∧ H1 dx = some (.xd [(v, y)]) ∧ Q y H1
theorem pe_xfE {X : Cx} {Ad : Addr} {es : List (Str × Str)} (E : Errs X.prog X.K X.mg Ad es) {v : Str} {e : Expr} {te : TE} {pos : Pos} (he : PE X e te) (hb : attributeBase e v X.env (eval e X.env) = eval e X.env := by rfl) : PE X (.Attribute e v pos) (tXf X es v te) := by
  refine ⟨fun pins s σ H Q I h => ?_⟩
  refine attr_of hb (thn (he.run pins s σ H _ I h) fun u s1 hh => ?_)
  obtain ⟨x, H1, I1, rx, a, C, dx, c, y, ex, g, hm, ha, hd, q⟩ := hh
  subst ex
  obtain rfl : u = Value.ref a := rx
  obtain ⟨C2, fI, T⟩ := E.all _ _ hm
  have z := T.gC.symm.trans g
  cases z
  obtain ⟨oe, od, J, mA, hr, hl⟩ := exv_inst I1 ha hd
  have l : List.lookup v [(v, y)] = some y := by simp [List.lookup]
  obtain ⟨u, hu, ru⟩ := RelO.some_of (v := y) (o := mA v) (by rw [← l]; exact hr v)
  exact HandSPX.exc_get I1.kIn J T.ga T.gg T.exC (PySem.W.findObj_own T.hdC T.noN rfl (by rw [hl, hu])) (handed_of ru) ⟨y, H1, I1.tok _, ru, q⟩
def xfD (es : List (Str × Str)) (v : Str) : D → Option Val
  | .exn c n d => if es.contains (c, v) = true ∧ n = v then some (.sh d) else none
  | _ => none
theorem se_xf {X : Cx} {W : WX} {Ad : Addr} {es : List (Str × Str)} (E : Errs X.prog X.K X.mg Ad es) {v : Str} {e : Expr} {f : FE} {pos : Pos} (he : SE X W e f) (hb : attributeBase e v X.env (eval e X.env) = eval e X.env := by rfl) : SE X W (.Attribute e v pos) (evUn (xfD es v) f) :=
  pe_imp (pe_xfE E he hb) fun σ H Q h => evUn_ok (r := fun x H1 Q => ∃ (a C dx : Addr) (c : Str) (y : V), x = .ref a ∧ X.mg c = some (.ref C) ∧ (c, v) ∈ es ∧ H1 a = some (exv C dx a) ∧ H1 dx = some (.xd [(v, y)]) ∧ Q y H1) (fun F H x d z Q s px hg k => by
    unfold xfD at hg
    split at hg
    · split at hg
      · rename_i hm
        cases hg
        obtain ⟨hm, rfl⟩ := hm
        obtain ⟨a, C, dx, y, rfl, g, h1, h2, h3⟩ := px.exn
        exact ⟨a, C, dx, _, y, rfl, g, List.contains_iff_mem.mp hm, s _ _ h1, s _ _ h2, plainQ s k h3⟩
      · cases hg
    · cases hg) h
end
end Tr
/-! Tr, part M: the defs of a law, known by name. -/
namespace Tr
open PySem PySem.Spec PyProof.Rows L2
section
variable {P : Program} {w : World} {K : PySem.W.Frag} {mg : Str → Option Value} {base : Heap}
/-- a def as it stands behind the top, with or without defaults -/
structure FunV (K : PySem.W.Frag) (x qual : Str) (st : Stmt) (f : Addr) (fd : FuncData) : Prop where
  ex : ∃ (oc : Value) (od : Option Addr) (dV kV doc pm : Value) (an : Option Addr) (cdv ct : Value) (osl : Array (Option Value)),
    fd = PySem.W.fnOf x qual (defArgs st) (defBody st) (defScope st) dV kV doc pm an cdv ct ∧ K.lookup f = some ⟨oc, od, .func fd, osl⟩ ∧ PySem.W.codeIn K cdv qual = true
  kp : PySem.W.keepIn K (.ref f) = true
theorem funV_mk {x qual : Str} {st : Stmt} {f : Addr} {oc : Value} {od an : Option Addr} {osl : Array (Option Value)} {dV kV doc pm cdv ct : Value} (l : K.lookup f = some ⟨oc, od, .func (PySem.W.fnOf x qual (defArgs st) (defBody st) (defScope st) dV kV doc pm an cdv ct), osl⟩)
    (c : PySem.W.codeIn K cdv qual = true) (k : PySem.W.keepIn K (.ref f) = true) : FunV K x qual st f (PySem.W.fnOf x qual (defArgs st) (defBody st) (defScope st) dV kV doc pm an cdv ct) := ⟨⟨oc, od, dV, kV, doc, pm, an, cdv, ct, osl, rfl, l, c⟩, k⟩
theorem fnV_body {x qual : Str} {st : Stmt} {f : Addr} {fd : FuncData} {N ps : List Str} {k : Nat} {sp : Sp} (F : FunV K x qual st f fd) (S : FnScope N ps (defScope st)) (len : ∀ vs H Q E, sp vs H Q E → vs.length = ps.length)
    (hb : ∀ (cdv : Value) (A : Around) (outer : List Env) (s : Shared) (H : Hp) (vs : List V) (Q : VK) (E : XK), A.guards = some [] → Room k (A.deeper (envOfC qual (defScope st) s.heap.objs.size f cdv)) → sp vs H Q E →
      ∃ t, PSs (cxD P w K mg base N qual st f cdv A outer s H E) (defBody st) t ∧ t { nx := fun _ H' => Q .non H', rt := Q } (L2.start N vs) H) : FnA P w K mg base (k + 1) f fd ps sp := by
  obtain ⟨oc, od, dV, kV, doc, pm, an, cdv, ct, osl, rfl, lk, hcd⟩ := F.ex
  refine ⟨len, fun A outer s H args us vs Q E hgu hr e0 hbi r hsp => ?_⟩
  have hlen := len vs H Q E hsp
  have inS : K.In s.heap := e0.mod.kin.keeps (fun b o e => And.left (e0.bs b o e))
  have nolim := e0.mod.nolimit.keeps (fun b o e => And.left (e0.bs b o e))
  have kinds : ∀ y, y ∈ ps.zip us → (defScope st).names.lookup y.1 = some .local ∨ ((defScope st).names.lookup y.1 = some .cell ∧ ((cellsFrom (s.heap.objs.size + 1) (defScope st).names []).lookup y.1).isSome = true) := by
    rintro ⟨n, v⟩ hy
    have hn : n ∈ ps := (List.of_mem_zip hy).1
    cases S.par n hn with
    | inl q => exact Or.inl q
    | inr q => exact Or.inr ⟨q, PySem.W.cellsFrom_some _ _ _ (Or.inl q)⟩
  apply codeAny_call_function hr.depth (inS _ _ lk) rfl S.co S.gen rfl (PySem.W.codeRec_of inS hcd)
  apply hbi
  apply wpAny_newFunctionEnv_cells S.kind kinds
  intro env he s1 x
  subst he
  constructor
  · exact nolim.keeps x.toInCall.keep
  · apply codeAny_func
    obtain ⟨t, ht, hq⟩ := hb cdv A outer s H vs Q E hgu (hr.deeper _) hsp
    have I0 := inv_start (CX := L2.CX P w) (E := E) S hr.hd e0 hlen r x
    refine wpAny_mono (ht.run [] s1 _ H _ I0 hq) (fun fl s' hs => ?_) (fun _ _ hs => hs)
    cases fl with
    | brk =>
      obtain ⟨_, _, _, z⟩ := hs
      exact z.elim
    | cont =>
      obtain ⟨_, _, _, z⟩ := hs
      exact z.elim
    | ret u =>
      obtain ⟨v, σ1, H1, J, rv, q⟩ := hs
      exact ⟨v, H1, J.os, J.bare, J.base, J.hok, rv, q⟩
    | next =>
      obtain ⟨σ1, H1, J, q⟩ := hs
      exact ⟨V.non, H1, J.os, J.bare, J.base, J.hok, rfl, q⟩
theorem fnVP {x qual : Str} {st : Stmt} {f : Addr} {fd : FuncData} {N ps : List Str} {k : Nat} {fb : FS} (F : FunV K x qual st f fd) (S : FnScope N ps (defScope st)) (hb : BdA P w K mg base N qual st f k fb) :
    FnA P w K mg base (k + 1) f fd ps (spP ⟨K, mg⟩ (runP N.length ps.length fb)) := by
  refine fnV_body F S (fun vs H Q E h => ?_) (fun cdv A outer s H vs Q E hg hr h => ⟨_, hb cdv A outer s H E hg hr, spP_run (X := cxD P w K mg base N qual st f cdv A outer s H E) (body := []) h⟩)
  obtain ⟨G, ds, L, s, lv, hd, h⟩ := h
  unfold runP at h
  by_cases hl : ds.length = ps.length
  · rw [← hd.length, hl]
  · rw [if_neg hl] at h; exact h.elim
/-- how arguments bind: no defaults; the last ones by defaults -/
structure Bnds (K : PySem.W.Frag) (fd : FuncData) (ps : List Str) (ds0 : List D) : Prop where
  ex : ∃ (ds : List Value) (dvs : List V), Binds K fd ps ds ∧ Vals dvs ds ∧ ∀ (T : Tx) (F : Fz), DenL T F ds0 dvs
theorem bnds0 {fd : FuncData} {ps : List Str} (h : ∀ us : List Value, us.length = ps.length → bindArgs fd ⟨us, []⟩ = pure (ps.zip us)) : Bnds K fd ps [] := ⟨[], [], .all h, .nil, fun _ _ => DenL.nil⟩
/-- a default that is None, the last n parameters -/
theorem bndsN {fd : FuncData} {ps : List Str} {dT : Addr} {oc : Value} {od : Option Addr} {m : Nat} {sl : Array (Option Value)} {its : Array Value} (n q : Nat) (hd : fd.defaults = .ref dT) (lk : K.lookup dT = some ⟨oc, od, .seq its m, sl⟩) (hq : q + n = ps.length)
    (h : ∀ us : List Value, us.length = q → ∃ k, bindArgs fd ⟨us, []⟩ = seqItems? fd.defaults >>= k ∧ k (some its) = pure (ps.zip (us ++ List.replicate n Value.none))) : Bnds K fd ps (List.replicate n .non) := by
  refine ⟨List.replicate n Value.none, List.replicate n .non, fun s us hk hl => ?_, ?_, fun T F => ?_⟩
  · rw [List.length_append, List.length_replicate] at hl
    obtain ⟨k, h1, h2⟩ := h us (by omega)
    exact BindsTo.of_defaults hd (hk _ _ lk) rfl h1 h2
  · clear h hq
    induction n with
    | zero => exact .nil
    | succ n ih => exact .cons rfl ih
  · clear h hq
    induction n with
    | zero => exact DenL.nil
    | succ n ih => exact DenL.cons rfl ih
theorem cal_mk {x : Str} {st : Stmt} {f : Addr} {fd : FuncData} {N ps : List Str} {k : Nat} {fb : FS} {ds0 : List D} (F : FunV K x x st f fd) (S : FnScope N ps (defScope st)) (hm : mg x = some (.ref f)) (b : Bnds K fd ps ds0) (hb : BdA P w K mg base N x st f k fb) :
    Cal P w K mg base (k + 1) x ds0 (runP N.length ps.length fb) := by
  obtain ⟨ds, dvs, h1, h2, h3⟩ := b.ex
  exact ⟨f, fd, ps, ds, dvs, fnVP F S hb, hm, F.kp, h1, h2, fun F => h3 _ F⟩
/-- a def that is never called there -/
theorem cal_no {x : Str} {f : Addr} {fd : FuncData} {ps : List Str} {k : Nat} {ds0 : List D} (hm : mg x = some (.ref f)) (kp : PySem.W.keepIn K (.ref f) = true) (b : Bnds K fd ps ds0) : Cal P w K mg base k x ds0 (fun _ _ => .no) := by
  obtain ⟨ds, dvs, h1, h2, h3⟩ := b.ex
  exact ⟨f, fd, ps, ds, dvs, ⟨fun vs H Q E ⟨_, _, _, _, _, _, h⟩ => h.elim, fun A outer s H args us vs Q E _ _ _ _ _ ⟨_, _, _, _, _, _, h⟩ => h.elim⟩, hm, kp, h1, h2, fun F => h3 _ F⟩
end
end Tr
/-! Tr, part N: forms of rules for printed terms. -/
namespace Tr
open PySem PySem.Spec PyProof.Rows L2
section
variable {X : Cx} {W : WX}
theorem tk0 : Takes X W0 := fun _ _ ⟨_, _, _, _, _, _, _, _, _, _, _, _, _, _, _, _, w⟩ => w.elim
theorem se_gloE {x : Str} {pos : Pos} (hm : ∃ a, X.mg x = some (.ref a)) (hg : Gl X x := by rfl) (hd : (x == ("__debug__" : Str)) = false := by decide) : SE X W (.Name x pos) (evC (.glo x)) := by
  obtain ⟨a, hm⟩ := hm
  exact se_glo hm hg hd
theorem ss_raiseE {Ad : Addr} {es : List (Str × Str)} {x v : Str} {a : Expr} {f : FE} {p pos pos2 : Pos} {k : Nat} (E : Errs X.prog X.K X.mg Ad es) (hc : X.calm = true) (hr : Room k X.A) (tk : Takes X W) (ha : SE X W a f) (hm : (x, v) ∈ es := by decide +kernel) (hg : Gl X x := by rfl) (hdb : (x == ("__debug__" : Str)) = false := by decide)
    (he : starEach (a :: []) X.env = (false, eval a X.env) :: starEach [] X.env := by rfl) (hpl : (backTo pos (starEach [] X.env)).any (·.1) = false := by rfl) :
    SS X W (.Raise (some (.Call (.Name x p) [a] [] pos)) none pos2) (fsRaise x v f) := by
  obtain ⟨C, fI, T⟩ := E.all _ _ hm
  exact ss_raise hc T hr tk ha hg hdb he hpl
theorem Errs.gE {P : Program} {K : PySem.W.Frag} {mg : Str → Option Value} {Ad : Addr} {es : List (Str × Str)} (E : Errs P K mg Ad es) {x v : Str} (hm : (x, v) ∈ es) : ∃ a, mg x = some (.ref a) := by
  obtain ⟨C, fI, T⟩ := E.all _ _ hm
  exact ⟨C, T.gC⟩
end
end Tr
/-! Tr, part W: what a function of the layer comes to, worked out backwards from what is wished; a tactic for it. -/
namespace Tr
open PySem PySem.Spec PyProof.Rows L2
/-- r comes to a value of P, or to an error of E -/
structure R.wp {α : Type} (r : R α) (P : α → Prop) (E : Str → Str → D → En → Prop) : Prop where
  out : match r with
    | .ok a => P a
    | .ex c n d ρ => E c n d ρ
    | .no => False
structure RF.wp (r : RF) (P : Bool → D → List D → Prop) (E : Str → Str → D → List D → Prop) : Prop where
  out : match r with
    | .ok fr d L => P fr d L
    | .ex c n d L => E c n d L
    | .no => False
abbrev EN : Str → Str → D → List D → Prop := fun _ _ _ _ => False
theorem ite_pt {b : Bool} {p q : Prop} (hb : b = true) (h : p) : (if b = true then p else q) := by rw [if_pos hb]; exact h
theorem ite_pf {b : Bool} {p q : Prop} (hb : b = false) (h : q) : (if b = true then p else q) := by rw [hb, if_neg Bool.false_ne_true]; exact h
theorem ite_p {b : Bool} {p q : Prop} (h1 : b = true → p) (h2 : b = false → q) : (if b = true then p else q) := by
  cases b with
  | true => exact ite_pt rfl (h1 rfl)
  | false => exact ite_pf rfl (h2 rfl)
theorem backV_f (d : D) : backV false d = .sh d := rfl
theorem backV_t (d : D) : backV true d = .fr d := rfl
theorem RF.wp_mono {r : RF} {P P' : Bool → D → List D → Prop} {E E' : Str → Str → D → List D → Prop} (h : r.wp P E) (k : ∀ fr d L, P fr d L → P' fr d L) (e : ∀ c n d L, E c n d L → E' c n d L) : r.wp P' E' := by
  cases r with
  | ok fr d L => exact ⟨k _ _ _ h.out⟩
  | ex c n d L => exact ⟨e _ _ _ _ h.out⟩
  | no => exact h.out.elim
theorem RF.wp_n {r : RF} {P P' : Bool → D → List D → Prop} {E' : Str → Str → D → List D → Prop} (h : r.wp P EN) (k : ∀ fr d L, P fr d L → P' fr d L) : r.wp P' E' := RF.wp_mono h k fun _ _ _ _ z => z.elim
theorem RF.wp_eq {r : RF} {fr : Bool} {d : D} {L : List D} {P : Bool → D → List D → Prop} {E : Str → Str → D → List D → Prop} (e : r = .ok fr d L) (k : P fr d L) : r.wp P E := by rw [e]; exact ⟨k⟩
theorem RF.wp_ex {r : RF} {c n : Str} {d : D} {L : List D} {P : Bool → D → List D → Prop} {E : Str → Str → D → List D → Prop} (e : r = .ex c n d L) (k : E c n d L) : r.wp P E := by rw [e]; exact ⟨k⟩
theorem RF.of_wp {r : RF} {fr : Bool} {d : D} {L : List D} (h : r.wp (fun fr' d' L' => fr' = fr ∧ d' = d ∧ L' = L) EN) : r = .ok fr d L := by
  cases r with
  | ok fr' d' L' => obtain ⟨rfl, rfl, rfl⟩ := h.out; rfl
  | ex c n d L => exact h.out.elim
  | no => exact h.out.elim
theorem RF.of_wpX {r : RF} {c n : Str} {d : D} {L : List D} (h : r.wp (fun _ _ _ => False) (fun c' n' d' L' => c' = c ∧ n' = n ∧ d' = d ∧ L' = L)) : r = .ex c n d L := by
  cases r with
  | ok fr' d' L' => exact h.out.elim
  | ex c' n' d' L' => obtain ⟨rfl, rfl, rfl, rfl⟩ := h.out; rfl
  | no => exact h.out.elim
theorem R.wp_mono {α : Type} {r : R α} {P P' : α → Prop} {E E' : Str → Str → D → En → Prop} (h : r.wp P E) (k : ∀ a, P a → P' a) (e : ∀ c n d ρ, E c n d ρ → E' c n d ρ) : r.wp P' E' := by
  cases r with
  | ok a => exact ⟨k _ h.out⟩
  | ex c n d L => exact ⟨e _ _ _ _ h.out⟩
  | no => exact h.out.elim
theorem R.wp_eq {α : Type} {r : R α} {a : α} {P : α → Prop} {E : Str → Str → D → En → Prop} (e : r = .ok a) (k : P a) : r.wp P E := by rw [e]; exact ⟨k⟩
section
variable {α β : Type} {P : α → Prop} {E : Str → Str → D → En → Prop} {ρ ρ1 ρ2 ρ3 : En} {f fb : FE} {g h : FT} {a : FA} {k k' : FS} {v w : Val} {d e : D} {i j l : Nat} {z : Val} {vs : List Val} {ds : List D}
theorem wp_ok {x : α} (h : P x) : (R.ok x).wp P E := ⟨h⟩
theorem wp_bind {r : R β} {q : β → R α} (h : r.wp (fun x => (q x).wp P E) E) : (r.bind q).wp P E := by
  cases r with
  | ok x => exact h.out
  | ex c n d ρ => exact ⟨h.out⟩
  | no => exact h.out.elim
theorem wp_ite_t {b : Bool} {x y : R α} (hb : b = true) (h : x.wp P E) : (if b = true then x else y).wp P E := by rw [if_pos hb]; exact h
theorem wp_ite_f {b : Bool} {x y : R α} (hb : b = false) (h : y.wp P E) : (if b = true then x else y).wp P E := by rw [hb, if_neg Bool.false_ne_true]; exact h
theorem wp_ite {b : Bool} {x y : R α} (h1 : b = true → x.wp P E) (h2 : b = false → y.wp P E) : (if b = true then x else y).wp P E := by
  cases b with
  | true => exact wp_ite_t rfl (h1 rfl)
  | false => exact wp_ite_f rfl (h2 rfl)
end
section
variable {P : Val × En → Prop} {E : Str → Str → D → En → Prop} {ρ ρ1 ρ2 ρ3 : En} {f fb : FE} {g h : FT} {a : FA} {v w : Val} {d e : D} {i j l : Nat} {z : Val} {vs : List Val} {ds : List D}
theorem wp_var (q : ρ.s[i]? = some (.sh d)) (k : P (.sh d, ρ)) : (evVar i ρ).wp P E := by simp only [evVar, q]; exact ⟨k⟩
theorem wp_varo (q : ρ.s[i]? = some (.ow d)) (k : P (.rf i, ρ)) : (evVar i ρ).wp P E := by simp only [evVar, q]; exact ⟨k⟩
theorem wp_c (k : P (.sh d, ρ)) : (evC d ρ).wp P E := ⟨k⟩
theorem wp_op {o : D → D → Option Val} (k : (f ρ).wp (fun r => (fb r.2).wp (fun q => (op2 o q.2 r.1 q.1).wp P E) E) E) : (evOp o f fb ρ).wp P E := by
  unfold evOp
  exact wp_bind (R.wp_mono k (fun r h => wp_bind h) fun _ _ _ _ z => z)
theorem wp_op2 {o : D → D → Option Val} (h1 : peek ρ v = some d) (h2 : peek ρ w = some e) (h3 : o d e = some z) (k : P (z, ρ)) : (op2 o ρ v w).wp P E := by simp only [op2, h1, h2, h3]; exact ⟨k⟩
theorem wp_un {o : D → Option Val} (k : (f ρ).wp (fun r => (op1 o r.2 r.1).wp P E) E) : (evUn o f ρ).wp P E := by unfold evUn; exact wp_bind k
theorem wp_op1 {o : D → Option Val} (h1 : peek ρ v = some d) (h3 : o d = some z) (k : P (z, ρ)) : (op1 o ρ v).wp P E := by simp only [op1, h1, h3]; exact ⟨k⟩
theorem wp_then {q : Bool → FE} (k : (g ρ).wp (fun r => (q r.1 r.2).wp P E) E) : (evThen g q ρ).wp P E := by unfold evThen; exact wp_bind k
theorem wp_ife (k : (g ρ).wp (fun r => (if r.1 = true then f r.2 else fb r.2).wp P E) E) : (evIf g f fb ρ).wp P E := by
  unfold evIf
  refine wp_then (R.wp_mono k (fun r h => ?_) fun _ _ _ _ z => z)
  cases hb : r.1 <;> simp only [hb, if_true, Bool.false_eq_true, if_false] at h ⊢ <;> exact h
theorem wp_and (k : (ftVal f ρ).wp (fun r => (if r.1 = true then fb r.2 else R.ok (.sh (.bl false), r.2)).wp P E) E) : (evAnd f fb ρ).wp P E := by
  unfold evAnd
  refine wp_then (R.wp_mono k (fun r h => ?_) fun _ _ _ _ z => z)
  cases hb : r.1 <;> simp only [hb, if_true, Bool.false_eq_true, if_false] at h ⊢ <;> exact h
theorem wp_or (k : (ftVal f ρ).wp (fun r => (if r.1 = true then R.ok (.sh (.bl true), r.2) else fb r.2).wp P E) E) : (evOr f fb ρ).wp P E := by
  unfold evOr
  refine wp_then (R.wp_mono k (fun r h => ?_) fun _ _ _ _ z => z)
  cases hb : r.1 <;> simp only [hb, if_true, Bool.false_eq_true, if_false] at h ⊢ <;> exact h
theorem wp_not (k : (ftVal f ρ).wp (fun r => P (.sh (.bl (!r.1)), r.2)) E) : (evNot f ρ).wp P E := by
  unfold evNot
  exact wp_then (R.wp_mono k (fun r h => ⟨h⟩) fun _ _ _ _ z => z)
theorem wp_tup (k : (a ρ).wp (fun r => (dispT r.2 r.1).wp P E) E) : (evTup a ρ).wp P E := by unfold evTup; exact wp_bind k
theorem wp_dispT (h1 : frzL ρ vs = some (ds, ρ1)) (h2 : ds.length ≤ 16777216) (k : P (.sh (.tup ds), ρ1)) : (dispT ρ vs).wp P E := by simp only [dispT, h1, h2, if_true]; exact ⟨k⟩
theorem wp_lst (k : (a ρ).wp (fun r => (dispL r.2 r.1).wp P E) E) : (evLst a ρ).wp P E := by unfold evLst; exact wp_bind k
theorem wp_dispL (h1 : frzL ρ vs = some (ds, ρ1)) (h2 : ds.length ≤ 16777216) (k : P (.fr (.lst ds), ρ1)) : (dispL ρ vs).wp P E := by simp only [dispL, h1, h2, if_true]; exact ⟨k⟩
theorem wp_b {o : List D → Option Val} (k : (a ρ).wp (fun r => (callG o r).wp P E) E) : (evB o a ρ).wp P E := by unfold evB; exact wp_bind k
theorem wp_callG {o : List D → Option Val} (h1 : peekL ρ vs = some ds) (h3 : o ds = some z) (k : P (z, ρ)) : (callG o (vs, ρ)).wp P E := by simp only [callG, h1, h3]; exact ⟨k⟩
theorem wp_call {run : FF} {ds0 : List D} (k : (a ρ).wp (fun r => (callP run ds0 r).wp P E) E) : (evCall run ds0 a ρ).wp P E := by unfold evCall; exact wp_bind k
theorem wp_callP {run : FF} {ds0 : List D} (h1 : frzL ρ vs = some (ds, ρ1)) (k : (run (ds ++ ds0) ρ1.l).wp (fun fr d L => P (backV fr d, ⟨ρ1.s, L⟩)) (fun c n d L => E c n d ⟨ρ1.s, L⟩)) : (callP run ds0 (vs, ρ)).wp P E := by
  simp only [callP, h1]
  cases er : run (ds ++ ds0) ρ1.l with
  | ok fr d L => rw [er] at k; exact ⟨k.out⟩
  | ex c n d L => rw [er] at k; exact ⟨k.out⟩
  | no => rw [er] at k; exact k.out.elim
theorem wp_sl {fl fh : FO} (k : (f ρ).wp (fun r => (fl r.2).wp (fun lo => (fh lo.2).wp (fun hi => (slEnd hi.2 r.1 lo.1 hi.1).wp P E) E) E) E) : (evSl f fl fh ρ).wp P E := by
  unfold evSl
  exact wp_bind (R.wp_mono k (fun r h => wp_bind (R.wp_mono h (fun q h => wp_bind h) fun _ _ _ _ z => z)) fun _ _ _ _ z => z)
theorem wp_slEnd {lo hi : Option Int} (h1 : peek ρ v = some d) (h3 : slD d lo hi = some z) (k : P (z, ρ)) : (slEnd ρ v lo hi).wp P E := by simp only [slEnd, h1, h3]; exact ⟨k⟩
theorem wp_m {o : D → List D → Option (D × D)} (k : (f ρ).wp (fun r => (if isLst (muV r.2 r.1) = true then (a r.2).bind (meth o r.1) else .no : R (Val × En)).wp P E) E) : (evM o f a ρ).wp P E := by unfold evM; exact wp_bind k
theorem wp_m2 {o : D → List D → Option (D × D)} (hl : isLst (muV ρ v) = true) (k : (a ρ).wp (fun q => (meth o v q).wp P E) E) : (if isLst (muV ρ v) = true then (a ρ).bind (meth o v) else .no : R (Val × En)).wp P E := by rw [if_pos hl]; exact wp_bind k
theorem wp_meth {o : D → List D → Option (D × D)} {d' y : D} (h1 : frzL ρ vs = some (ds, ρ1)) (h2 : muV ρ1 v = some d) (h3 : o d ds = some (d', y)) (h4 : setMu ρ1 v d' = ρ2) (k : P (.sh y, ρ2)) : (meth o v (vs, ρ)).wp P E := by
  simp only [meth, h1, h2, h3, h4]; exact ⟨k⟩
theorem wp_live (k : (f ρ).wp (fun r => (liven r).wp P E) E) : (evLive f ρ).wp P E := by unfold evLive; exact wp_bind k
theorem wp_liveF (h : ρ.push d = ρ1) (k : P (.sh (.ref ρ.l.length), ρ1)) : (liven (.fr d, ρ)).wp P E := by rw [← h] at k; exact ⟨k⟩
theorem wp_liveS (k : P (.sh d, ρ)) : (liven (.sh d, ρ)).wp P E := ⟨k⟩
theorem wp_dk (k : P (.fr (.dK [] []), ρ)) : (evDK ρ).wp P E := ⟨k⟩
end
section
variable {P : Bool × En → Prop} {E : Str → Str → D → En → Prop} {ρ ρ1 ρ2 ρ3 : En} {f fb : FE} {g h : FT}
theorem wp_val (k : (f ρ).wp (fun r => (asB r).wp P E) E) : (ftVal f ρ).wp P E := by unfold ftVal; exact wp_bind k
theorem wp_asB {b : Bool} (k : P (b, ρ)) : (asB (.sh (.bl b), ρ)).wp P E := ⟨k⟩
theorem wp_tthen {q : Bool → FT} (k : (g ρ).wp (fun r => (q r.1 r.2).wp P E) E) : (ftThen g q ρ).wp P E := by unfold ftThen; exact wp_bind k
theorem wp_tand (k : (g ρ).wp (fun r => (if r.1 = true then h r.2 else R.ok (false, r.2)).wp P E) E) : (ftAnd g h ρ).wp P E := by
  unfold ftAnd
  refine wp_tthen (R.wp_mono k (fun r h => ?_) fun _ _ _ _ z => z)
  cases hb : r.1 <;> simp only [hb, if_true, Bool.false_eq_true, if_false] at h ⊢ <;> exact h
theorem wp_tor (k : (g ρ).wp (fun r => (if r.1 = true then R.ok (true, r.2) else h r.2).wp P E) E) : (ftOr g h ρ).wp P E := by
  unfold ftOr
  refine wp_tthen (R.wp_mono k (fun r h => ?_) fun _ _ _ _ z => z)
  cases hb : r.1 <;> simp only [hb, if_true, Bool.false_eq_true, if_false] at h ⊢ <;> exact h
theorem wp_tnot (k : (g ρ).wp (fun r => P (!r.1, r.2)) E) : (ftNot g ρ).wp P E := by
  unfold ftNot
  exact wp_tthen (R.wp_mono k (fun r h => ⟨h⟩) fun _ _ _ _ z => z)
theorem wp_yes (k : P (true, ρ)) : (ftYes ρ).wp P E := ⟨k⟩
end
section
variable {P : List Val × En → Prop} {E : Str → Str → D → En → Prop} {ρ : En} {f : FE} {a : FA}
theorem wp_nil (k : P ([], ρ)) : (faNil ρ).wp P E := ⟨k⟩
theorem wp_cons (k : (f ρ).wp (fun r => (a r.2).wp (fun q => P (r.1.held :: q.1, q.2)) E) E) : (faCons f a ρ).wp P E := by
  unfold faCons
  exact wp_bind (R.wp_mono k (fun r h => wp_bind (R.wp_mono h (fun q h => ⟨h⟩) fun _ _ _ _ z => z)) fun _ _ _ _ z => z)
end
section
variable {P : Option Int × En → Prop} {E : Str → Str → D → En → Prop} {ρ : En} {f : FE}
theorem wp_foN (k : P (none, ρ)) : (foN ρ).wp P E := ⟨k⟩
theorem wp_foS (k : (f ρ).wp (fun r => (asI r).wp P E) E) : (foS f ρ).wp P E := by unfold foS; exact wp_bind k
theorem wp_asI {m : Int} (k : P (some m, ρ)) : (asI (.sh (.int m), ρ)).wp P E := ⟨k⟩
end
section
variable {P : Fl × En → Prop} {E : Str → Str → D → En → Prop} {ρ ρ1 ρ2 ρ3 : En} {f fb ft fi : FE} {g : FT} {a : FA} {k k' : FS} {v w : Val} {d e c c' : D} {i j l : Nat} {z : Val} {vs : List Val} {ds : List D}
theorem wp_fnil (q : P (.nx, ρ)) : (fsNil ρ).wp P E := ⟨q⟩
/-- on with K, or out by P -/
def seqK (K : En → Prop) (P : Fl × En → Prop) (r : Fl × En) : Prop := match r.1 with
    | .nx => K r.2
    | fl => P (fl, r.2)
theorem seqK_nx {K : En → Prop} (h : K ρ) : seqK K P (.nx, ρ) := h
theorem seqK_rt {K : En → Prop} (h : P (.rt v, ρ)) : seqK K P (.rt v, ρ) := h
theorem seqK_bk {K : En → Prop} (h : P (.bk, ρ)) : seqK K P (.bk, ρ) := h
theorem seqK_ct {K : En → Prop} (h : P (.ct, ρ)) : seqK K P (.ct, ρ) := h
/-- the next turn by I, or out by P -/
def turnK (I : En → Prop) (P : Fl × En → Prop) (r : Fl × En) : Prop := match r.1 with
    | .nx => I r.2
    | .ct => I r.2
    | .bk => P (.nx, r.2)
    | .rt v => P (.rt v, r.2)
theorem turnK_nx {I : En → Prop} (h : I ρ) : turnK I P (.nx, ρ) := h
theorem turnK_ct {I : En → Prop} (h : I ρ) : turnK I P (.ct, ρ) := h
theorem turnK_bk {I : En → Prop} (h : P (.nx, ρ)) : turnK I P (.bk, ρ) := h
theorem turnK_rt {I : En → Prop} (h : P (.rt v, ρ)) : turnK I P (.rt v, ρ) := h
theorem wp_seq (q : (k ρ).wp (seqK (fun ρ' => (k' ρ').wp P E) P) E) : (fsSeq k k' ρ).wp P E := by
  unfold fsSeq
  refine wp_bind (R.wp_mono q (fun r h => ?_) fun _ _ _ _ z => z)
  obtain ⟨fl, ρ1⟩ := r
  cases fl with
  | nx => exact h
  | bk => exact ⟨h⟩
  | ct => exact ⟨h⟩
  | rt v => exact ⟨h⟩
theorem wp_expr (q : (f ρ).wp (fun r => P (.nx, r.2)) E) : (fsExpr f ρ).wp P E := by unfold fsExpr fsVal; exact wp_bind (R.wp_mono q (fun r h => ⟨h⟩) fun _ _ _ _ z => z)
theorem wp_ret (q : (f ρ).wp (fun r => P (.rt r.1, r.2)) E) : (fsRet f ρ).wp P E := by unfold fsRet fsVal; exact wp_bind (R.wp_mono q (fun r h => ⟨h⟩) fun _ _ _ _ z => z)
theorem wp_retN (q : P (.rt (.sh .non), ρ)) : (fsRetN ρ).wp P E := ⟨q⟩
theorem wp_if (q : (g ρ).wp (fun r => (if r.1 = true then k r.2 else k' r.2).wp P E) E) : (fsIf g k k' ρ).wp P E := by unfold fsIf; exact wp_bind q
/-- what becomes of a value -/
def stV (i : Nat) (r : Val × En) : R (Fl × En) := match store r.2 i r.1 with
  | some ρ' => .ok (.nx, ρ')
  | none => .no
theorem wp_set (q : (f ρ).wp (fun r => (stV i r).wp P E) E) : (fsSet i f ρ).wp P E := by unfold fsSet fsVal; exact wp_bind (R.wp_mono q (fun r h => h) fun _ _ _ _ z => z)
theorem wp_stV (h : store ρ i v = some ρ1) (q : P (.nx, ρ1)) : (stV i (v, ρ)).wp P E := by unfold stV; simp only [h]; exact ⟨q⟩
def paV (p : Pat) (r : Val × En) : R (Fl × En) := match frz r.2 r.1 with
  | some (d, ρ1) => (match bindP p d ρ1 with
    | some ρ2 => .ok (.nx, ρ2)
    | none => .no)
  | none => .no
theorem wp_pat {p : Pat} (q : (f ρ).wp (fun r => (paV p r).wp P E) E) : (fsPat p f ρ).wp P E := by unfold fsPat fsVal; exact wp_bind (R.wp_mono q (fun r h => h) fun _ _ _ _ z => z)
theorem wp_paV {p : Pat} (h : frz ρ v = some (d, ρ1)) (h2 : bindP p d ρ1 = some ρ2) (q : P (.nx, ρ2)) : (paV p (v, ρ)).wp P E := by unfold paV; simp only [h, h2]; exact ⟨q⟩
theorem wp_put {o : D → D → D → Option D} (q : (f ρ).wp (fun r => (putV o ft fi r.1 r.2).wp P E) E) : (fsPut o ft fi f ρ).wp P E := by unfold fsPut fsVal; exact wp_bind q
theorem wp_putV {o : D → D → D → Option D} (h : frz ρ v = some (d, ρ1)) (q : (ft ρ1).wp (fun t => (if (muV t.2 t.1).isSome = true then (fi t.2).bind (putEnd o d t.1) else .no : R (Fl × En)).wp P E) E) : (putV o ft fi v ρ).wp P E := by unfold putV; simp only [h]; exact wp_bind q
theorem wp_put2 {o : D → D → D → Option D} (hl : (muV ρ v).isSome = true) (q : (fi ρ).wp (fun t => (putEnd o d v t).wp P E) E) : (if (muV ρ v).isSome = true then (fi ρ).bind (putEnd o d v) else .no : R (Fl × En)).wp P E := by rw [if_pos hl]; exact wp_bind q
theorem wp_putEnd {o : D → D → D → Option D} (h1 : frz ρ w = some (e, ρ1)) (h2 : muV ρ1 v = some c) (h3 : o c e d = some c') (h4 : setMu ρ1 v c' = ρ2) (q : P (.nx, ρ2)) : (putEnd o d v (w, ρ)).wp P E := by unfold putEnd; simp only [h1, h2, h3, h4]; exact ⟨q⟩
theorem wp_aug {o : D → D → Option Val} (h0 : ρ.s[i]? = some (.sh d)) (q : (f ρ).wp (fun r => (augV i o d r.1 r.2).wp P E) E) : (fsAug i o f ρ).wp P E := by unfold fsAug; simp only [h0]; unfold fsVal; exact wp_bind q
theorem wp_augV {o : D → D → Option Val} (h1 : peek ρ v = some e) (h2 : o d e = some z) (h3 : store ρ i z = some ρ1) (q : P (.nx, ρ1)) : (augV i o d v ρ).wp P E := by unfold augV; simp only [h1, h2, h3]; exact ⟨q⟩
def prV (i j : Nat) (r : List Val × En) : R (Fl × En) := match frzL r.2 r.1 with
  | some ([d, e], ρ1) => .ok (.nx, (ρ1.set i (.sh d)).set j (.sh e))
  | _ => .no
theorem wp_par (q : (a ρ).wp (fun r => (prV i j r).wp P E) E) : (fsPar i j a ρ).wp P E := by unfold fsPar; exact wp_bind q
theorem wp_prV (h : frzL ρ vs = some ([d, e], ρ1)) (h2 : (ρ1.set i (.sh d)).set j (.sh e) = ρ2) (q : P (.nx, ρ2)) : (prV i j (vs, ρ)).wp P E := by unfold prV; simp only [h, h2]; exact ⟨q⟩
def prV3 (i j l : Nat) (r : List Val × En) : R (Fl × En) := match frzL r.2 r.1 with
  | some ([d, e, f], ρ1) => .ok (.nx, ((ρ1.set i (.sh d)).set j (.sh e)).set l (.sh f))
  | _ => .no
theorem wp_par3 (q : (a ρ).wp (fun r => (prV3 i j l r).wp P E) E) : (fsPar3 i j l a ρ).wp P E := by unfold fsPar3; exact wp_bind q
theorem wp_prV3 (h : frzL ρ vs = some ([d, e, c], ρ1)) (h2 : ((ρ1.set i (.sh d)).set j (.sh e)).set l (.sh c) = ρ2) (q : P (.nx, ρ2)) : (prV3 i j l (vs, ρ)).wp P E := by unfold prV3; simp only [h, h2]; exact ⟨q⟩
def raV (x n : Str) (r : Val × En) : R (Fl × En) := match frz r.2 r.1 with
  | some (d, ρ') => .ex x n d ρ'
  | none => .no
theorem wp_raise {x n : Str} (q : (f ρ).wp (fun r => (raV x n r).wp P E) E) : (fsRaise x n f ρ).wp P E := by unfold fsRaise; exact wp_bind q
theorem wp_raV {x n : Str} (h : frz ρ v = some (d, ρ1)) (q : E x n d ρ1) : (raV x n (v, ρ)).wp P E := by unfold raV; simp only [h]; exact ⟨q⟩
/-- the suite behind a caught error -/
def suiteR (cs : Str → Option Bool) (i : Nat) (fs : FS) (c n : Str) (d : D) (ρ' : En) : R (Fl × En) := match cs c with
    | some true => (match fs (ρ'.set i (.sh (.exn c n d))) with
      | .ok (.nx, ρ2) => .ok (.nx, ρ2.set i .un)
      | _ => .no)
    | some false => .ex c n d ρ'
    | none => .no
theorem wp_try {cs : Str → Option Bool} (q : (k ρ).wp P (fun c n d ρ' => (suiteR cs i k' c n d ρ').wp P E)) : (fsTry cs i k k' ρ).wp P E := by
  unfold fsTry
  cases e : k ρ with
  | ok r => rw [e] at q; exact ⟨q.out⟩
  | no => rw [e] at q; exact q.out.elim
  | ex c n d ρ' => rw [e] at q; exact q.out
theorem wp_suite {cs : Str → Option Bool} {x n : Str} (hc : cs x = some true) (h1 : ρ.set i (.sh (.exn x n d)) = ρ1) (q : (k ρ1).wp (fun r => ∃ ρ2, r = (.nx, ρ2) ∧ P (.nx, ρ2.set i .un)) (fun _ _ _ _ => False)) : (suiteR cs i k x n d ρ).wp P E := by
  unfold suiteR
  simp only [hc, h1]
  cases e : k ρ1 with
  | ok r => rw [e] at q; obtain ⟨ρ2, rfl, q'⟩ := q.out; exact ⟨q'⟩
  | no => rw [e] at q; exact q.out.elim
  | ex c n d ρ' => rw [e] at q; exact q.out.elim
theorem wp_suiteN {cs : Str → Option Bool} {x n : Str} (hc : cs x = some false) (q : E x n d ρ) : (suiteR cs i k x n d ρ).wp P E := by
  unfold suiteR
  simp only [hc]
  exact ⟨q⟩
theorem wp_for {fi : FI} {p : Pat} (q : (fi ρ).wp (fun r => (loopD p k r.1.lv 0 r.1.ds r.2).wp P E) E) : (fsFor fi p k ρ).wp P E := by unfold fsFor; exact wp_bind q
theorem wp_lnil {p : Pat} {n : Nat} (q : P (.nx, ρ)) : (loopD p k none n [] ρ).wp P E := ⟨q⟩
theorem wp_lcons {p : Pat} {n : Nat} (h1 : bindP p d ρ = some ρ1) (q : (k ρ1).wp (turnK (fun ρ' => (loopD p k none (n + 1) ds ρ').wp P E) P) E) : (loopD p k none n (d :: ds) ρ).wp P E := by
  simp only [loopD, cur, h1]
  refine wp_bind (R.wp_mono q (fun r h => ?_) fun _ _ _ _ z => z)
  obtain ⟨fl, ρ1⟩ := r
  cases fl with
  | nx => exact h
  | ct => exact h
  | bk => exact ⟨h⟩
  | rt v => exact ⟨h⟩
/-- a loop over items that stay, by an invariant -/
theorem wp_loop {p : Pat} (I : Nat → En → Prop) (h0 : I 0 ρ) (step : ∀ (n : Nat) (d : D) (ρ : En), ds[n]? = some d → I n ρ → ∃ ρ1, bindP p d ρ = some ρ1 ∧ (k ρ1).wp (turnK (I (n + 1)) P) E) (fin : ∀ ρ, I ds.length ρ → P (.nx, ρ)) {m : Nat} : (loopD p k none m ds ρ).wp P E := by
  have main : ∀ (es : List D) (n m : Nat) (ρ : En), ds.drop n = es → n ≤ ds.length → I n ρ → (loopD p k none m es ρ).wp P E := by
    intro es
    induction es with
    | nil =>
      intro n m ρ e hn h
      have : ds.length ≤ n := by
        have := congrArg List.length e
        rw [List.length_drop] at this
        simp at this
        omega
      have : n = ds.length := by omega
      subst this
      exact wp_lnil (fin ρ h)
    | cons d es ih =>
      intro n m ρ e hn h
      have hlt : n < ds.length := by
        have := congrArg List.length e
        rw [List.length_drop] at this
        simp at this
        omega
      have hd : ds[n]? = some d := by
        have := congrArg (fun l : List D => l[0]?) e
        simpa using this
      obtain ⟨ρ1, h1, h2⟩ := step n d ρ hd h
      have he : ds.drop (n + 1) = es := by
        have := congrArg List.tail e
        simpa using this
      refine wp_lcons h1 (R.wp_mono h2 (fun r q => ?_) fun _ _ _ _ z => z)
      obtain ⟨fl, ρ2⟩ := r
      cases fl with
      | nx => exact ih (n + 1) _ ρ2 he (by omega) q
      | ct => exact ih (n + 1) _ ρ2 he (by omega) q
      | bk => exact q
      | rt v => exact q
  exact main ds 0 m ρ rfl (Nat.zero_le _) h0
theorem wp_while {μ : En → Nat} {n : Nat} (hn : μ ρ = n) (q : (whileN g k n ρ).wp P E) : (fsWhile μ g k ρ).wp P E := by unfold fsWhile; rw [hn]; exact q
/-- a while, by an invariant with a measure -/
theorem wp_whileN (I : Nat → En → Prop) (step : ∀ (n : Nat) (ρ : En), I n ρ → (g ρ).wp (fun r => if r.1 = true then (k r.2).wp (turnK (fun ρ' => ∃ m, m < n ∧ I m ρ') P) E else P (.nx, r.2)) E) : ∀ (n m : Nat) (ρ : En), I n ρ → n < m → (whileN g k m ρ).wp P E
  | n, 0, _, _, h => by omega
  | n, m + 1, ρ, h, hm => by
    unfold whileN
    refine wp_bind (R.wp_mono (step n ρ h) (fun r q => ?_) fun _ _ _ _ z => z)
    obtain ⟨b, ρ1⟩ := r
    cases b with
    | false => exact ⟨q⟩
    | true =>
      simp only [if_true] at q ⊢
      refine wp_bind (R.wp_mono q (fun r q => ?_) fun _ _ _ _ z => z)
      obtain ⟨fl, ρ2⟩ := r
      cases fl with
      | nx =>
        obtain ⟨n', h1, h2⟩ := q
        exact wp_whileN I step n' m ρ2 h2 (by omega)
      | ct =>
        obtain ⟨n', h1, h2⟩ := q
        exact wp_whileN I step n' m ρ2 h2 (by omega)
      | bk => exact ⟨q⟩
      | rt v => exact ⟨q⟩
end
section
variable {P : Its × En → Prop} {E : Str → Str → D → En → Prop} {ρ ρ1 : En} {f : FE} {a : FA} {v : Val} {vs : List Val} {ds : List D}
theorem wp_fiOf {q : Val × En → R (Its × En)} (k : (f ρ).wp (fun r => (q r).wp P E) E) : (fiOf f q ρ).wp P E := by unfold fiOf; exact wp_bind k
theorem wp_fiA {q : List Val × En → R (Its × En)} (k : (a ρ).wp (fun r => (q r).wp P E) E) : (fiA a q ρ).wp P E := by unfold fiA; exact wp_bind k
theorem wp_asQ {t : Its} (h : asQ (v, ρ) = .ok (t, ρ1)) (k : P (t, ρ1)) : (asQ (v, ρ)).wp P E := by rw [h]; exact ⟨k⟩
theorem wp_rng1 {m : Int} (h : peekL ρ vs = some [.int m]) (hl : -(2 ^ 62) ≤ m ∧ m < 2 ^ 62) (k : P (⟨(List.range m.toNat).map fun (i : Nat) => D.int (0 + i), none⟩, ρ)) : (rng1 (vs, ρ)).wp P E := by
  simp only [rng1, h]; rw [if_pos hl]; exact ⟨k⟩
theorem wp_rng2 {m n : Int} (h : peekL ρ vs = some [.int m, .int n]) (hl : -(2 ^ 62) ≤ m ∧ m < 2 ^ 62 ∧ -(2 ^ 62) ≤ n ∧ n < 2 ^ 62) (k : P (⟨(List.range (n - m).toNat).map fun (i : Nat) => D.int (m + i), none⟩, ρ)) : (rng2 (vs, ρ)).wp P E := by
  simp only [rng2, h]; rw [if_pos hl]; exact ⟨k⟩
end
section
variable {E : Str → Str → D → En → Prop} {ρ ρ0 ρ1 : En} {f : FE} {g : FT} {ws : List Nat} {p : Pat} {ds : List D} {d : D}
theorem wp_lc {P : Val × En → Prop} {fi : FI} (k : (fi ρ).wp (fun r => (lcEnd ws p g f r).wp P E) E) : (evLC ws fi p g f ρ).wp P E := by unfold evLC; exact wp_bind k
theorem wp_lcEnd {P : Val × En → Prop} {t : Its} (h1 : okW ρ ws = true) (h2 : t.ds.length ≤ 16777216) (h3 : wipeE ρ ws = ρ1) (k : (lcL ws p g f t.lv 0 t.ds ρ1).wp (fun q => P (.fr (.lst q.1), restE ρ q.2 ws)) E) : (lcEnd ws p g f (t, ρ)).wp P E := by
  unfold lcEnd
  simp only [h1, h2, h3, and_self, if_true]
  exact wp_bind (R.wp_mono k (fun q h => ⟨h⟩) fun _ _ _ _ z => z)
theorem wp_lcnil {P : List D × En → Prop} {n : Nat} (q : P ([], ρ)) : (lcL ws p g f none n [] ρ).wp P E := ⟨q⟩
theorem wp_sure {α : Type} {r : R α} {P : α → Prop} {E' : Str → Str → D → En → Prop} (h : r.wp P (fun _ _ _ _ => False)) : r.sure.wp P E' := by
  cases r with
  | ok x => exact ⟨h.out⟩
  | ex _ _ _ _ => exact h.out.elim
  | no => exact h.out.elim
/-- the element of a comprehension -/
def lcV (ws : List Nat) (r : Val × En) : R (D × En) := match frz r.2 r.1 with
  | some z => .ok (z.1, wipeE z.2 ws)
  | none => .no
theorem wp_lcV {P : D × En → Prop} {v : Val} (h : frz ρ v = some (d, ρ1)) (h2 : wipeE ρ1 ws = ρ0) (k : P (d, ρ0)) : (lcV ws (v, ρ)).wp P E := by unfold lcV; simp only [h, h2]; exact ⟨k⟩
theorem wp_lccons {P : List D × En → Prop} {n : Nat} (h1 : bindP p d ρ = some ρ1) (q : (g ρ1).wp (fun r => if r.1 = true then (f r.2).wp (fun q => (lcV ws q).wp (fun z => (lcL ws p g f none (n + 1) ds z.2).wp (fun y => P (z.1 :: y.1, y.2)) E) (fun _ _ _ _ => False)) (fun _ _ _ _ => False) else (lcL ws p g f none (n + 1) ds (wipeE r.2 ws)).wp P E) (fun _ _ _ _ => False)) : (lcL ws p g f none n (d :: ds) ρ).wp P E := by
  simp only [lcL, cur, h1]
  refine wp_bind (wp_sure (R.wp_mono q (fun r h => ?_) fun _ _ _ _ z => z))
  obtain ⟨b, ρ2⟩ := r
  cases b with
  | false => exact h
  | true =>
    simp only [if_true] at h ⊢
    refine wp_bind (wp_sure (R.wp_mono h (fun r h => ?_) fun _ _ _ _ z => z))
    obtain ⟨v, ρ3⟩ := r
    unfold lcV at h
    simp only at h
    cases e : frz ρ3 v with
    | none => simp only [e] at h; exact h.out.elim
    | some z =>
      simp only [e] at h ⊢
      have h := h.out
      exact wp_bind (R.wp_mono h (fun y hy => ⟨hy⟩) fun _ _ _ _ z => z)
/-- a comprehension over items that stay, by an invariant -/
theorem wp_lcI {P : List D × En → Prop} (I : Nat → List D → En → Prop) (h0 : I 0 [] ρ) (step : ∀ (n : Nat) (d : D) (done : List D) (ρ : En), ds[n]? = some d → I n done ρ → ∃ ρ1, bindP p d ρ = some ρ1 ∧ (g ρ1).wp (fun r => if r.1 = true then (f r.2).wp (fun q => (lcV ws q).wp (fun z => I (n + 1) (done ++ [z.1]) z.2) (fun _ _ _ _ => False)) (fun _ _ _ _ => False) else I (n + 1) done (wipeE r.2 ws)) (fun _ _ _ _ => False))
    (fin : ∀ done ρ, I ds.length done ρ → P (done, ρ)) {m : Nat} : (lcL ws p g f none m ds ρ).wp P E := by
  have main : ∀ (es : List D) (n m : Nat) (done : List D) (ρ : En), ds.drop n = es → n ≤ ds.length → I n done ρ → (lcL ws p g f none m es ρ).wp (fun q => P (done ++ q.1, q.2)) E := by
    intro es
    induction es with
    | nil =>
      intro n m done ρ e hn h
      have : ds.length ≤ n := by
        have := congrArg List.length e
        rw [List.length_drop] at this
        simp at this
        omega
      have : n = ds.length := by omega
      subst this
      exact wp_lcnil (by rw [List.append_nil]; exact fin done ρ h)
    | cons d es ih =>
      intro n m done ρ e hn h
      have hlt : n < ds.length := by
        have := congrArg List.length e
        rw [List.length_drop] at this
        simp at this
        omega
      have hd : ds[n]? = some d := by
        have := congrArg (fun l : List D => l[0]?) e
        simpa using this
      obtain ⟨ρ1, h1, h2⟩ := step n d done ρ hd h
      have he : ds.drop (n + 1) = es := by
        have := congrArg List.tail e
        simpa using this
      refine wp_lccons h1 (R.wp_mono h2 (fun r q => ?_) fun _ _ _ _ z => z)
      obtain ⟨b, ρ2⟩ := r
      cases b with
      | false => exact ih (n + 1) _ done _ he (by omega) q
      | true =>
        simp only [if_true] at q ⊢
        refine R.wp_mono q (fun r q => R.wp_mono q (fun z q => ?_) fun _ _ _ _ z => z) fun _ _ _ _ z => z
        refine R.wp_mono (ih (n + 1) _ (done ++ [z.1]) z.2 he (by omega) q) (fun y q => ?_) fun _ _ _ _ z => z
        rw [List.append_assoc] at q
        exact q
  have h := main ds 0 m [] ρ rfl (Nat.zero_le _) h0
  exact R.wp_mono h (fun y q => by simpa using q) fun _ _ _ _ z => z
/-- each item gives its own, the state stays -/
theorem wp_lcmap {P : List D × En → Prop} {y : D → D} (hd : ∀ d ∈ ds, ∃ ρ1, bindP p d ρ = some ρ1 ∧ (f ρ1).wp (fun q => (lcV ws q).wp (fun z => z = (y d, ρ)) (fun _ _ _ _ => False)) (fun _ _ _ _ => False)) (k : P (ds.map y, ρ)) {m : Nat} : (lcL ws p ftYes f none m ds ρ).wp P E := by
  refine wp_lcI (I := fun n done ρ' => ρ' = ρ ∧ done = (ds.take n).map y) ⟨rfl, rfl⟩ (fun n d done ρ' e h => ?_) (fun done ρ' h => ?_)
  · obtain ⟨rfl, rfl⟩ := h
    obtain ⟨ρ1, h1, h2⟩ := hd d (List.mem_of_getElem? e)
    refine ⟨ρ1, h1, wp_yes ?_⟩
    simp only [if_true]
    refine R.wp_mono h2 (fun q h => R.wp_mono h (fun z h => ?_) fun _ _ _ _ z => z) fun _ _ _ _ z => z
    subst h
    refine ⟨rfl, ?_⟩
    have hn : n < ds.length := (List.getElem?_eq_some_iff.mp e).1
    rw [List.take_succ_eq_append_getElem hn, List.map_append]
    have : ds[n] = d := (List.getElem?_eq_some_iff.mp e).2
    rw [this]
    rfl
  · obtain ⟨rfl, rfl⟩ := h
    rw [List.take_length]
    exact k
end
/-! ### defs -/
def finW (k : Nat) (P : Bool → D → List D → Prop) : Fl × En → Prop
  | (.nx, ρ) => P false .non (trim k .non ρ.l)
  | (.rt v, ρ) => (match v with
    | .sh d => P false d (trim k d ρ.l)
    | .fr d => P true d (trim k d ρ.l)
    | .rf i => (match ρ.s[i]? with
      | some (.ow d) => P true d (trim k d ρ.l)
      | some (.sh d) => P false d (trim k d ρ.l)
      | _ => False))
  | _ => False
theorem wp_run {P : Bool → D → List D → Prop} {E : Str → Str → D → List D → Prop} {n m : Nat} {fb : FS} {ds L : List D} (hl : ds.length = m) (h : (fb (startP n ds L)).wp (finW L.length P) (fun c n d ρ => E c n d (trim L.length d ρ.l))) : (runP n m fb ds L).wp P E := by
  unfold runP
  rw [if_pos hl]
  cases er : fb (startP n ds L) with
  | no => rw [er] at h; exact h.out.elim
  | ex c n d ρ => rw [er] at h; exact ⟨h.out⟩
  | ok r =>
    rw [er] at h
    obtain ⟨fl, ρ⟩ := r
    have h := h.out
    cases fl with
    | nx => exact ⟨h⟩
    | bk => exact h.elim
    | ct => exact h.elim
    | rt v =>
      cases v with
      | sh d => exact ⟨h⟩
      | fr d => exact ⟨h⟩
      | rf i =>
        have h : (match ρ.s[i]? with
          | some (.ow d) => P true d (trim L.length d ρ.l)
          | some (.sh d) => P false d (trim L.length d ρ.l)
          | _ => False) := h
        unfold finP retV
        simp only
        cases e : ρ.s[i]? with
        | none => simp only [e] at h
        | some s => cases s <;> simp only [e] at h ⊢ <;> exact ⟨h⟩
theorem finW_nx {k : Nat} {P : Bool → D → List D → Prop} {ρ : En} (hl : ρ.l.length = k) (h : P false .non ρ.l) : finW k P (.nx, ρ) := by
  show P false .non (trim k .non ρ.l)
  rw [trim_self hl]; exact h
theorem finW_sh {k : Nat} {P : Bool → D → List D → Prop} {ρ : En} {d : D} (hl : ρ.l.length = k) (h : P false d ρ.l) : finW k P (.rt (.sh d), ρ) := by
  show P false d (trim k d ρ.l)
  rw [trim_self hl]; exact h
theorem finW_fr {k : Nat} {P : Bool → D → List D → Prop} {ρ : En} {d : D} (hl : ρ.l.length = k) (h : P true d ρ.l) : finW k P (.rt (.fr d), ρ) := by
  show P true d (trim k d ρ.l)
  rw [trim_self hl]; exact h
theorem finW_ow {k : Nat} {P : Bool → D → List D → Prop} {ρ : En} {d : D} {i : Nat} (e : ρ.s[i]? = some (.ow d)) (hl : ρ.l.length = k) (h : P true d ρ.l) : finW k P (.rt (.rf i), ρ) := by
  show (match ρ.s[i]? with
          | some (.ow d) => P true d (trim k d ρ.l)
          | some (.sh d) => P false d (trim k d ρ.l)
          | _ => False)
  simp only [e]
  rw [trim_self hl]; exact h
end Tr
/-! Tr, part S: operations on ints, sizes. -/
namespace Tr
open PySem PySem.Spec PyProof.Rows L2
/-! operations on ints -/
theorem eqB_i (a b : Int) : eqB (.int a) (.int b) = some (decide (a = b)) := by
  unfold eqB toPy
  have h1 : ∀ i : Int, SeqAt.shaped (.int i) = true := fun _ => by rfl
  simp only [h1, and_self, if_true]
  rfl
theorem eqD_i (a b : Int) : eqD (.int a) (.int b) = some (vB (decide (a = b))) := by unfold eqD; rw [eqB_i]; rfl
theorem neD_i (a b : Int) : neD (.int a) (.int b) = some (vB (!decide (a = b))) := by unfold neD; rw [eqB_i]; rfl
/-! ### sizes -/
class Sz (i : Int) (n : outParam Nat) : Prop where
  lt : i.natAbs < 2 ^ n
theorem Sz.log {i : Int} {n : Nat} (h : Sz i n) : i.natAbs.log2 ≤ n := by
  by_cases z : i.natAbs = 0
  · rw [z]; simp
  · exact Nat.le_of_lt ((Nat.log2_lt z).mpr h.lt)
instance sz_l0 : Sz (0 : Int) 0 := ⟨by decide⟩
instance sz_l1 : Sz (1 : Int) 1 := ⟨by decide⟩
instance sz_l2 : Sz (2 : Int) 2 := ⟨by decide⟩
instance sz_l3 : Sz (3 : Int) 2 := ⟨by decide⟩
instance sz_l4 : Sz (4 : Int) 3 := ⟨by decide⟩
instance sz_l5 : Sz (5 : Int) 3 := ⟨by decide⟩
instance sz_l6 : Sz (6 : Int) 3 := ⟨by decide⟩
instance sz_l7 : Sz (7 : Int) 3 := ⟨by decide⟩
instance sz_l8 : Sz (8 : Int) 4 := ⟨by decide⟩
instance sz_l9 : Sz (9 : Int) 4 := ⟨by decide⟩
instance sz_l10 : Sz (10 : Int) 4 := ⟨by decide⟩
instance sz_l11 : Sz (11 : Int) 4 := ⟨by decide⟩
instance sz_l12 : Sz (12 : Int) 4 := ⟨by decide⟩
instance sz_l13 : Sz (13 : Int) 4 := ⟨by decide⟩
instance sz_l14 : Sz (14 : Int) 4 := ⟨by decide⟩
instance sz_l15 : Sz (15 : Int) 4 := ⟨by decide⟩
instance sz_l16 : Sz (16 : Int) 5 := ⟨by decide⟩
instance sz_l18 : Sz (18 : Int) 5 := ⟨by decide⟩
instance sz_l19 : Sz (19 : Int) 5 := ⟨by decide⟩
instance sz_l20 : Sz (20 : Int) 5 := ⟨by decide⟩
instance sz_l21 : Sz (21 : Int) 5 := ⟨by decide⟩
instance sz_l24 : Sz (24 : Int) 5 := ⟨by decide⟩
instance sz_l25 : Sz (25 : Int) 5 := ⟨by decide⟩
instance sz_l27 : Sz (27 : Int) 5 := ⟨by decide⟩
instance sz_l28 : Sz (28 : Int) 5 := ⟨by decide⟩
instance sz_l30 : Sz (30 : Int) 5 := ⟨by decide⟩
instance sz_l31 : Sz (31 : Int) 5 := ⟨by decide⟩
instance sz_l32 : Sz (32 : Int) 6 := ⟨by decide⟩
instance sz_l36 : Sz (36 : Int) 6 := ⟨by decide⟩
instance sz_l39 : Sz (39 : Int) 6 := ⟨by decide⟩
instance sz_l40 : Sz (40 : Int) 6 := ⟨by decide⟩
instance sz_l41 : Sz (41 : Int) 6 := ⟨by decide⟩
instance sz_l48 : Sz (48 : Int) 6 := ⟨by decide⟩
instance sz_l50 : Sz (50 : Int) 6 := ⟨by decide⟩
instance sz_l60 : Sz (60 : Int) 6 := ⟨by decide⟩
instance sz_l61 : Sz (61 : Int) 6 := ⟨by decide⟩
instance sz_l64 : Sz (64 : Int) 7 := ⟨by decide⟩
instance sz_l97 : Sz (97 : Int) 7 := ⟨by decide⟩
instance sz_l99 : Sz (99 : Int) 7 := ⟨by decide⟩
instance sz_l100 : Sz (100 : Int) 7 := ⟨by decide⟩
instance sz_l101 : Sz (101 : Int) 7 := ⟨by decide⟩
instance sz_l120 : Sz (120 : Int) 7 := ⟨by decide⟩
instance sz_l128 : Sz (128 : Int) 8 := ⟨by decide⟩
instance sz_l255 : Sz (255 : Int) 8 := ⟨by decide⟩
instance sz_l256 : Sz (256 : Int) 9 := ⟨by decide⟩
instance sz_l300 : Sz (300 : Int) 9 := ⟨by decide⟩
instance sz_l400 : Sz (400 : Int) 9 := ⟨by decide⟩
instance sz_l1000 : Sz (1000 : Int) 10 := ⟨by decide⟩
instance sz_l2000 : Sz (2000 : Int) 11 := ⟨by decide⟩
instance sz_l3000 : Sz (3000 : Int) 12 := ⟨by decide⟩
instance sz_l5000 : Sz (5000 : Int) 13 := ⟨by decide⟩
instance sz_l7919 : Sz (7919 : Int) 13 := ⟨by decide⟩
instance sz_l10000 : Sz (10000 : Int) 14 := ⟨by decide⟩
instance sz_l19988 : Sz (19988 : Int) 15 := ⟨by decide⟩
instance sz_l50000 : Sz (50000 : Int) 16 := ⟨by decide⟩
instance sz_l69621 : Sz (69621 : Int) 17 := ⟨by decide⟩
instance sz_l48271 : Sz (48271 : Int) 16 := ⟨by decide⟩
instance sz_l100000 : Sz (100000 : Int) 17 := ⟨by decide⟩
instance sz_l1000000 : Sz (1000000 : Int) 20 := ⟨by decide⟩
instance sz_l1000000000 : Sz (1000000000 : Int) 30 := ⟨by decide⟩
instance sz_l1103515245 : Sz (1103515245 : Int) 31 := ⟨by decide⟩
instance sz_l2147483587 : Sz (2147483587 : Int) 31 := ⟨by decide⟩
instance sz_l2147483629 : Sz (2147483629 : Int) 31 := ⟨by decide⟩
instance sz_l2147483647 : Sz (2147483647 : Int) 31 := ⟨by decide⟩
instance sz_l1000000000000 : Sz (1000000000000 : Int) 40 := ⟨by decide⟩
theorem Sz.up {i : Int} {m n : Nat} (h : Sz i m) (l : m ≤ n) : Sz i n := ⟨Nat.lt_of_lt_of_le h.lt (Nat.pow_le_pow_right (by decide) l)⟩
instance sz_neg {i : Int} {n : Nat} [h : Sz i n] : Sz (-i) n := ⟨by rw [Int.natAbs_neg]; exact h.lt⟩
instance sz_add {i j : Int} {m n : Nat} [h : Sz i m] [k : Sz j n] : Sz (i + j) (m + n + 1) := ⟨by
  have h1 := h.lt
  have h2 := k.lt
  have h3 : (i + j).natAbs ≤ i.natAbs + j.natAbs := Int.natAbs_add_le i j
  have h4 : 2 ^ m ≤ 2 ^ (m + n) := Nat.pow_le_pow_right (by decide) (by omega)
  have h5 : 2 ^ n ≤ 2 ^ (m + n) := Nat.pow_le_pow_right (by decide) (by omega)
  have h6 : 2 ^ (m + n + 1) = 2 ^ (m + n) * 2 := Nat.pow_succ _ _
  omega⟩
instance sz_sub {i j : Int} {m n : Nat} [h : Sz i m] [k : Sz j n] : Sz (i - j) (m + n + 1) := ⟨by
  have := (sz_add (i := i) (j := -j)).lt
  rwa [← Int.sub_eq_add_neg] at this⟩
instance sz_mul {i j : Int} {m n : Nat} [h : Sz i m] [k : Sz j n] : Sz (i * j) (m + n) := ⟨by
  rw [Int.natAbs_mul, Nat.pow_add]
  exact Nat.mul_lt_mul'' h.lt k.lt⟩
instance sz_pow {i : Int} {n : Nat} (k : Nat) [h : Sz i n] : Sz (i ^ k) (n * k + 1) := ⟨by
  rw [Int.natAbs_pow]
  have h1 : i.natAbs ^ k ≤ (2 ^ n) ^ k := Nat.pow_le_pow_left (Nat.le_of_lt h.lt) k
  rw [← Nat.pow_mul] at h1
  have h2 : 2 ^ (n * k + 1) = 2 ^ (n * k) * 2 := Nat.pow_succ _ _
  have h3 : 0 < 2 ^ (n * k) := Nat.pow_pos (by decide)
  omega⟩
class Ps (j : Int) : Prop where
  nn : 0 ≤ j
instance ps_l0 : Ps (0 : Int) := ⟨by decide⟩
instance ps_l1 : Ps (1 : Int) := ⟨by decide⟩
instance ps_l2 : Ps (2 : Int) := ⟨by decide⟩
instance ps_l3 : Ps (3 : Int) := ⟨by decide⟩
instance ps_l4 : Ps (4 : Int) := ⟨by decide⟩
instance ps_l5 : Ps (5 : Int) := ⟨by decide⟩
instance ps_l6 : Ps (6 : Int) := ⟨by decide⟩
instance ps_l7 : Ps (7 : Int) := ⟨by decide⟩
instance ps_l8 : Ps (8 : Int) := ⟨by decide⟩
instance ps_l9 : Ps (9 : Int) := ⟨by decide⟩
instance ps_l10 : Ps (10 : Int) := ⟨by decide⟩
instance ps_l11 : Ps (11 : Int) := ⟨by decide⟩
instance ps_l12 : Ps (12 : Int) := ⟨by decide⟩
instance ps_l13 : Ps (13 : Int) := ⟨by decide⟩
instance ps_l14 : Ps (14 : Int) := ⟨by decide⟩
instance ps_l15 : Ps (15 : Int) := ⟨by decide⟩
instance ps_l16 : Ps (16 : Int) := ⟨by decide⟩
instance ps_l18 : Ps (18 : Int) := ⟨by decide⟩
instance ps_l19 : Ps (19 : Int) := ⟨by decide⟩
instance ps_l20 : Ps (20 : Int) := ⟨by decide⟩
instance ps_l21 : Ps (21 : Int) := ⟨by decide⟩
instance ps_l24 : Ps (24 : Int) := ⟨by decide⟩
instance ps_l25 : Ps (25 : Int) := ⟨by decide⟩
instance ps_l27 : Ps (27 : Int) := ⟨by decide⟩
instance ps_l28 : Ps (28 : Int) := ⟨by decide⟩
instance ps_l30 : Ps (30 : Int) := ⟨by decide⟩
instance ps_l31 : Ps (31 : Int) := ⟨by decide⟩
instance ps_l32 : Ps (32 : Int) := ⟨by decide⟩
instance ps_l36 : Ps (36 : Int) := ⟨by decide⟩
instance ps_l39 : Ps (39 : Int) := ⟨by decide⟩
instance ps_l40 : Ps (40 : Int) := ⟨by decide⟩
instance ps_l41 : Ps (41 : Int) := ⟨by decide⟩
instance ps_l48 : Ps (48 : Int) := ⟨by decide⟩
instance ps_l50 : Ps (50 : Int) := ⟨by decide⟩
instance ps_l60 : Ps (60 : Int) := ⟨by decide⟩
instance ps_l61 : Ps (61 : Int) := ⟨by decide⟩
instance ps_l64 : Ps (64 : Int) := ⟨by decide⟩
instance ps_l97 : Ps (97 : Int) := ⟨by decide⟩
instance ps_l99 : Ps (99 : Int) := ⟨by decide⟩
instance ps_l100 : Ps (100 : Int) := ⟨by decide⟩
instance ps_l101 : Ps (101 : Int) := ⟨by decide⟩
instance ps_l120 : Ps (120 : Int) := ⟨by decide⟩
instance ps_l128 : Ps (128 : Int) := ⟨by decide⟩
instance ps_l255 : Ps (255 : Int) := ⟨by decide⟩
instance ps_l256 : Ps (256 : Int) := ⟨by decide⟩
instance ps_l300 : Ps (300 : Int) := ⟨by decide⟩
instance ps_l400 : Ps (400 : Int) := ⟨by decide⟩
instance ps_l1000 : Ps (1000 : Int) := ⟨by decide⟩
instance ps_l2000 : Ps (2000 : Int) := ⟨by decide⟩
instance ps_l3000 : Ps (3000 : Int) := ⟨by decide⟩
instance ps_l5000 : Ps (5000 : Int) := ⟨by decide⟩
instance ps_l7919 : Ps (7919 : Int) := ⟨by decide⟩
instance ps_l10000 : Ps (10000 : Int) := ⟨by decide⟩
instance ps_l19988 : Ps (19988 : Int) := ⟨by decide⟩
instance ps_l50000 : Ps (50000 : Int) := ⟨by decide⟩
instance ps_l69621 : Ps (69621 : Int) := ⟨by decide⟩
instance ps_l48271 : Ps (48271 : Int) := ⟨by decide⟩
instance ps_l100000 : Ps (100000 : Int) := ⟨by decide⟩
instance ps_l1000000 : Ps (1000000 : Int) := ⟨by decide⟩
instance ps_l1000000000 : Ps (1000000000 : Int) := ⟨by decide⟩
instance ps_l1103515245 : Ps (1103515245 : Int) := ⟨by decide⟩
instance ps_l2147483587 : Ps (2147483587 : Int) := ⟨by decide⟩
instance ps_l2147483629 : Ps (2147483629 : Int) := ⟨by decide⟩
instance ps_l2147483647 : Ps (2147483647 : Int) := ⟨by decide⟩
instance ps_l1000000000000 : Ps (1000000000000 : Int) := ⟨by decide⟩
instance sz_fdiv {i j : Int} {m : Nat} [h : Sz i m] [p : Ps j] : Sz (i.fdiv j) m := ⟨by
  rw [Int.fdiv_eq_ediv_of_nonneg _ p.nn]
  exact Nat.lt_of_le_of_lt (Int.natAbs_ediv_le_natAbs _ _) h.lt⟩
instance sz_fmod {i j : Int} {m n : Nat} [h : Sz i m] [k : Sz j n] [p : Ps j] : Sz (i.fmod j) (m + n) := ⟨by
  have h1 := h.lt
  have h2 := k.lt
  have h4 : 2 ^ m ≤ 2 ^ (m + n) := Nat.pow_le_pow_right (by decide) (by omega)
  have h5 : 2 ^ n ≤ 2 ^ (m + n) := Nat.pow_le_pow_right (by decide) (by omega)
  rw [Int.fmod_eq_emod_of_nonneg _ p.nn]
  have p := p.nn
  by_cases z : j = 0
  · subst z
    rw [Int.emod_zero]
    omega
  · have q1 := Int.emod_nonneg i z
    have q2 := Int.emod_lt_of_pos i (show 0 < j by omega)
    omega⟩
theorem fmod_lt {i j : Int} (h : 0 < j) : 0 ≤ i.fmod j ∧ i.fmod j < j := ⟨Int.fmod_nonneg_of_pos i h, Int.fmod_lt_of_pos i h⟩
theorem mulD_i {a b : Int} {m n : Nat} (ha : Sz a m) (hb : Sz b n) (h : m + n < 1000000) : mulD (.int a) (.int b) = some (vI (a * b)) := by
  unfold mulD
  have h1 := ha.log
  have h2 := hb.log
  exact if_pos (show mulOk a b from by unfold mulOk; omega)
theorem divD_i {a b : Int} {n : Nat} (hb : Sz b n) (h : n < 9000) (hn : b ≠ 0) : divD (.int a) (.int b) = some (vI (a.fdiv b)) := by
  unfold divD
  have h2 := hb.log
  exact if_pos (show divOk b from ⟨hn, by omega⟩)
theorem modD_i {a b : Int} (hn : b ≠ 0) : modD (.int a) (.int b) = some (vI (a.fmod b)) := by
  unfold modD
  exact if_pos hn
end Tr
/-! Tr, part O: lists of unlike lengths, tuples in order, sorted, remove, tuple(range), ints of the module. -/
namespace Tr
open PySem PySem.Spec PyProof.Rows L2
section
variable {X : Cx} {W : WX}
/-! ### == -/
def rEqLen (K : PySem.W.Frag) (b : Bool) : R2 := fun x y H Q => ∃ a a' xs ys, x = .ref a ∧ y = .ref a' ∧ SqL K H a xs ∧ SqL K H a' ys ∧ xs.length ≠ ys.length ∧ Q (.bl b) H
theorem op_eqLen (hu : X.A.units + 64 < cLine) : OpR X (compareOp .Eq) (rEqLen X.K false) := by
  intro pins s σ H x y v u Q I rx ry h
  obtain ⟨a, a', xs, ys, rfl, rfl, h1, h2, hl, q⟩ := h
  cases (show v = Value.ref a from rx)
  cases (show u = Value.ref a' from ry)
  obtain ⟨i1, r1, p1, _⟩ := I.list h1
  obtain ⟨i2, r2, p2, _⟩ := I.list h2
  have e1 := r1.length
  have e2 := r2.length
  exact SeqAt.RcAt.lists_lengths p1.isList p2.isList (by simp only [List.size_toArray, bne_iff_ne, ne_eq]; omega) (by omega) X.prog X.w _ _ ⟨.bl false, H, I, rfl, q⟩
theorem op_neLen (hu : X.A.units + 64 < cLine) : OpR X (compareOp .NotEq) (rEqLen X.K true) := by
  intro pins s σ H x y v u Q I rx ry h
  obtain ⟨a, a', xs, ys, rfl, rfl, h1, h2, hl, q⟩ := h
  cases (show v = Value.ref a from rx)
  cases (show u = Value.ref a' from ry)
  obtain ⟨i1, r1, p1, _⟩ := I.list h1
  obtain ⟨i2, r2, p2, _⟩ := I.list h2
  have e1 := r1.length
  have e2 := r2.length
  exact SeqAt.RcNeAt.lists_lengths p1.isList p2.isList (by simp only [List.size_toArray, bne_iff_ne, ne_eq]; omega) (by omega) X.prog X.w _ _ ⟨.bl true, H, I, rfl, q⟩
/-- lists of unlike lengths differ, whatever they hold -/
def eqX : D → D → Option Bool
  | .lst xs, .lst ys => if xs.length = ys.length then eqB (.lst xs) (.lst ys) else some false
  | d, e => eqB d e
def eqDX (d e : D) : Option Val := (eqX d e).map vB
def neDX (d e : D) : Option Val := (eqX d e).map fun b => vB (!b)
theorem Pk.lstK {T : Tx} {F : Fz} {H : Hp} {x : V} {ds : List D} (s : Same F.hp H) (h : Pk T F H (.lst ds) x) : ∃ a xs, x = .ref a ∧ SqL T.K H a xs ∧ ds.length = xs.length := by
  obtain ⟨a, xs, h1, h2, h3⟩ := h.lst s
  exact ⟨a, xs, h1, SqL.of h2, h3.length⟩
theorem os_eqX (hu : X.A.units + 64 < cLine) : OpS X (compareOp .Eq) eqDX := by
  obtain ⟨r, hr, hs⟩ := os_eq (X := X) hu
  refine ⟨_, OpR.or hr (op_eqLen hu), fun F H x y d e z Q s px py hg k => ?_⟩
  have old : eqD d e = some z → r x y H Q := fun h => hs F H x y d e z Q s px py h k
  unfold eqDX eqX at hg
  split at hg
  · split at hg
    · exact .inl (old hg)
    · rename_i hl
      cases hg
      obtain ⟨a, xs, e1, h1, l1⟩ := px.lstK s
      obtain ⟨b, ys, e2, h2, l2⟩ := py.lstK s
      exact .inr ⟨a, b, xs, ys, e1, e2, h1, h2, by omega, plainQ s k rfl⟩
  · exact .inl (old hg)
theorem os_neX (hu : X.A.units + 64 < cLine) : OpS X (compareOp .NotEq) neDX := by
  obtain ⟨r, hr, hs⟩ := os_ne (X := X) hu
  refine ⟨_, OpR.or hr (op_neLen hu), fun F H x y d e z Q s px py hg k => ?_⟩
  have old : neD d e = some z → r x y H Q := fun h => hs F H x y d e z Q s px py h k
  unfold neDX eqX at hg
  split at hg
  · split at hg
    · exact .inl (old hg)
    · rename_i hl
      cases hg
      obtain ⟨a, xs, e1, h1, l1⟩ := px.lstK s
      obtain ⟨b, ys, e2, h2, l2⟩ := py.lstK s
      exact .inr ⟨a, b, xs, ys, e1, e2, h1, h2, by omega, plainQ s k rfl⟩
  · exact .inl (old hg)
theorem eqDX_i (a b : Int) : eqDX (.int a) (.int b) = some (vB (decide (a = b))) := eqD_i a b
theorem neDX_i (a b : Int) : neDX (.int a) (.int b) = some (vB (!decide (a = b))) := neD_i a b
theorem eqDX_s (a b : Str) : eqDX (.str a) (.str b) = some (vB (decide (a = b))) := rfl
theorem neDX_s (a b : Str) : neDX (.str a) (.str b) = some (vB (!decide (a = b))) := rfl
theorem eqDX_nil (xs : List D) : eqDX (.lst xs) (.lst []) = some (vB xs.isEmpty) := by
  cases xs with
  | nil => rfl
  | cons x xs => rfl
theorem neDX_nil (xs : List D) : neDX (.lst xs) (.lst []) = some (vB (!xs.isEmpty)) := by
  cases xs with
  | nil => rfl
  | cons x xs => rfl
/-! ### < of tuples of ints -/
def ltDX : D → D → Option Val
  | .tup xs, .tup ys => (match allInts xs, allInts ys with
    | some ns, some ms => some (vB (HT.lexLt ns ms))
    | _, _ => none)
  | d, e => ltD d e
theorem os_ltX (hu : X.A.units + 64 < cLine) : OpS X (compareOp .Lt) ltDX := by
  obtain ⟨r, hr, hs⟩ := os_lt (X := X)
  refine ⟨_, OpR.or hr (op_ltT (by omega)), fun F H x y d e z Q s px py hg k => ?_⟩
  unfold ltDX at hg
  split at hg
  · split at hg
    · rename_i ns ms e1 e2
      cases hg
      obtain ⟨a, xs, ex, h1, d1, _⟩ := px.tup s
      obtain ⟨b, ys, ey, h2, d2, _⟩ := py.tup s
      rw [allInts_eq e1] at d1
      rw [allInts_eq e2] at d2
      have q1 := denL_ints_eq d1
      have q2 := denL_ints_eq d2
      subst q1 q2
      exact .inr ⟨a, b, ns, ms, ex, ey, h1, h2, plainQ s k rfl⟩
    · cases hg
  · exact .inl (hs F H x y d e z Q s px py hg k)
theorem allInts_map (ns : List Int) : allInts (ns.map D.int) = some ns := by
  induction ns with
  | nil => rfl
  | cons n ns ih => simp only [List.map_cons, allInts, ih, Option.map_some]
theorem ltDX_t (ns ms : List Int) : ltDX (.tup (ns.map .int)) (.tup (ms.map .int)) = some (vB (HT.lexLt ns ms)) := by
  simp only [ltDX, allInts_map]
/-! ### sorted(xs), ints -/
def insI (k : Int) : List Int → List Int
  | [] => [k]
  | n :: ns => if k ≤ n then k :: n :: ns else n :: insI k ns
def sortI : List Int → List Int
  | [] => []
  | n :: ns => insI n (sortI ns)
theorem insI_perm (k : Int) : ∀ ns : List Int, (insI k ns).Perm (k :: ns)
  | [] => .refl _
  | n :: ns => by
    unfold insI
    split
    · exact .refl _
    · exact ((insI_perm k ns).cons n).trans (.swap k n ns)
theorem sortI_perm : ∀ ns : List Int, (sortI ns).Perm ns
  | [] => .refl _
  | n :: ns => (insI_perm n _).trans ((sortI_perm ns).cons n)
theorem insI_sorted (k : Int) : ∀ ns : List Int, ns.Pairwise (· ≤ ·) → (insI k ns).Pairwise (· ≤ ·)
  | [], _ => by simp [insI]
  | n :: ns, h => by
    unfold insI
    rw [List.pairwise_cons] at h
    split
    · rename_i hk
      refine List.pairwise_cons.mpr ⟨fun m hm => ?_, List.pairwise_cons.mpr h⟩
      rcases List.mem_cons.mp hm with rfl | hm
      · exact hk
      · exact Int.le_trans hk (h.1 m hm)
    · rename_i hk
      refine List.pairwise_cons.mpr ⟨fun m hm => ?_, insI_sorted k ns h.2⟩
      rcases List.mem_cons.mp ((insI_perm k ns).mem_iff.mp hm) with rfl | hm
      · omega
      · exact h.1 m hm
theorem sortI_sorted : ∀ ns : List Int, (sortI ns).Pairwise (· ≤ ·)
  | [] => .nil
  | n :: ns => insI_sorted n _ (sortI_sorted ns)
theorem sortI_eq {ns ms : List Int} (hp : ms.Perm ns) (hs : ms.Pairwise (· ≤ ·)) : ms = sortI ns :=
  List.Perm.eq_of_pairwise (le := (· ≤ ·)) (fun a b _ _ h1 h2 => Int.le_antisymm h1 h2) hs (sortI_sorted ns) (hp.trans (sortI_perm ns).symm)
def sortedD : List D → Option Val
  | [.lst ds] => (allInts ds).map fun ns => .fr (.lst ((sortI ns).map .int))
  | _ => none
theorem cs_sorted : CallS X (.builtin "sorted") sortedD := by
  refine ⟨_, cr_sortedI, fun F H xs ds z Q s px hg k => ?_⟩
  unfold sortedD at hg
  split at hg
  · rw [Option.map_eq_some_iff] at hg
    obtain ⟨ns, h1, rfl⟩ := hg
    obtain ⟨x, rfl, p⟩ := px.one
    obtain ⟨a, xs, e1, h2, d1⟩ := p.lst s
    rw [allInts_eq h1] at d1
    refine ⟨a, ns, by rw [e1], SqL.of (by rw [← denL_ints_eq d1]; exact h2), fun ns' p hp hs hn => ?_⟩
    have := sortI_eq hp hs
    subst this
    exact k _ F _ (New.fr s hn) ⟨p, rfl, s.free hn, hn, _, upd_same, denL_ints _⟩
  · cases hg
theorem sortedD_i (ns : List Int) : sortedD [.lst (ns.map .int)] = some (.fr (.lst ((sortI ns).map .int))) := by simp only [sortedD, allInts_map, Option.map_some]
/-! ### xs.remove(k), ints -/
def remI (k : Int) : List Int → Option (List Int)
  | [] => none
  | n :: ns => if n = k then some ns else (remI k ns).map (n :: ·)
theorem remI_at {k : Int} : ∀ {ns ms : List Int}, remI k ns = some ms → ∃ j : Nat, ns[j]? = some k ∧ (∀ m : Nat, m < j → ns[m]? ≠ some k) ∧ ns.eraseIdx j = ms
  | [], _, h => by cases h
  | n :: ns, ms, h => by
    unfold remI at h
    split at h
    · rename_i e
      cases h
      exact ⟨0, by rw [e]; rfl, fun m hm => by omega, rfl⟩
    · rename_i e
      rw [Option.map_eq_some_iff] at h
      obtain ⟨l, h1, rfl⟩ := h
      obtain ⟨j, h2, h3, h4⟩ := remI_at h1
      refine ⟨j + 1, h2, fun m hm => ?_, by rw [List.eraseIdx_cons_succ, h4]⟩
      cases m with
      | zero => exact fun z => e (Option.some.inj z)
      | succ m => exact h3 m (by omega)
def remD : D → List D → Option (D × D)
  | .lst ds, [.int k] => (match allInts ds with
    | some ns => (match remI k ns with
      | some ms => some (.lst (ms.map .int), .non)
      | none => none)
    | none => none)
  | _, _ => none
theorem ms_rem : MuS X rRemI remD := fun F H a xs d ds d' z Q s fn ho hd hg k => by
  unfold remD at hg
  split at hg
  · split at hg
    · rename_i ns e1
      split at hg
      · rename_i ms e2
        cases hg
        obtain ⟨ys, h1, h2⟩ := ho
        rw [allInts_eq e1] at h2
        have q2 := denL_ints_eq h2
        subst q2
        obtain ⟨x, r, rfl, hx, hr⟩ := hd
        have hr : r = [] := hr
        subst hr
        have hx : x = .int _ := hx
        subst hx
        obtain ⟨j, j1, j2, j3⟩ := remI_at e2
        refine ⟨a, ns, _, j, rfl, rfl, h1, j1, j2, k _ _ ⟨_, upd_same, ?_⟩ rfl⟩
        rw [j3]
        exact denL_ints _
      · cases hg
    · cases hg
  · cases hg
theorem se_rem {o e : Expr} {ft : FE} {fa : FA} {apos cpos : Pos} (ho : SE X W o ft) (ha : SA X W [e] fa)
    (hbase : attributeBase o "remove" X.env (eval o X.env) = eval o X.env := by rfl)
    (hfew : ((backTo cpos (starEach [e] X.env)).all (fun x => !x.1) && (backToKw cpos (keywordEach [] X.env)).all (fun x => x.1.isSome)
      && decide ([e].length + ([] : List Keyword).length + (if ([] : List Keyword).isEmpty then 0 else 1) < 30)) = true := by rfl)
    (hline : (apos.endLine == cpos.line) = true := by rfl) (hs : starEach [e] X.env = (false, eval e X.env) :: starEach [] X.env := by rfl) (hplain : (backTo cpos (starEach [] X.env)).any (·.1) = false := by rfl) :
    SE X W (.Call (.Attribute o "remove" apos) [e] [] cpos) (evM remD ft fa) :=
  se_m PySem.F.slot_list_remove PySem.F.type_list_remove mt_remove ms_rem ho ha hbase hfew hline hs hplain
/-! ### ints and texts of the module -/
theorem se_gintE {x : Str} {i : Int} {pos : Pos} (hm : ∃ t, X.mg x = some (.int i t)) (hg : Gl X x := by rfl) (hd : (x == ("__debug__" : Str)) = false := by decide) : SE X W (.Name x pos) (evC (.int i)) := by
  obtain ⟨t, hm⟩ := hm
  exact se_gint hm hg hd
theorem se_gstrE {x y : Str} {pos : Pos} (hm : ∃ t, X.mg x = some (.str y t)) (hg : Gl X x := by rfl) (hd : (x == ("__debug__" : Str)) = false := by decide) : SE X W (.Name x pos) (evC (.str y)) := by
  obtain ⟨t, hm⟩ := hm
  exact se_gstr hm hg hd
/-! ### tuple(range(a, b)), list(range(..)) -/
def rgD (a b : Int) : List D := (List.range (b - a).toNat).map fun (i : Nat) => D.int (a + i)
theorem rgD_den {T : Tx} {F : Fz} (a b : Int) : DenL T F (rgD a b) (rgV a b) := by
  unfold rgD rgV
  have : ∀ l : List Nat, DenL T F (l.map fun (i : Nat) => D.int (a + i)) (l.map fun (i : Nat) => V.int (a + i)) := by
    intro l
    induction l with
    | nil => exact DenL.nil
    | cons x l ih => exact DenL.cons rfl ih
  exact this _
instance {a b : Int} : Decidable (RgOk a b) := inferInstanceAs (Decidable (_ ∧ _))
@[irreducible] def tupRg2 (r : List Val × En) : R (Val × En) := match peekL r.2 r.1 with
  | some [.int a, .int b] => if RgOk a b then .ok (.sh (.tup (rgD a b)), r.2) else .no
  | _ => .no
@[irreducible] def tupRg1 (r : List Val × En) : R (Val × En) := match peekL r.2 r.1 with
  | some [.int b] => if RgOk 0 b then .ok (.sh (.tup (rgD 0 b)), r.2) else .no
  | _ => .no
def evTRg (k : List Val × En → R (Val × En)) (f : FA) : FE := fun ρ => (f ρ).bind k
theorem se_tupRg2 {a b : Expr} {fa fb : FE} {p p2 pos pos2 : Pos} (hc : X.calm = true) (hm : X.mg "tuple" = none) (hm2 : X.mg "range" = none) (ha : SE X W a fa) (hb : SE X W b fb) (hg : Gl X "tuple" := by rfl) (hg2 : Gl X "range" := by rfl)
    (na : starEach [a, b] X.env = (false, eval a X.env) :: starEach [b] X.env := by rfl) (nb : starEach [b] X.env = (false, eval b X.env) :: starEach [] X.env := by rfl) (hp : (backTo pos2 (starEach [b] X.env)).any (·.1) = false := by rfl)
    (nr : starEach [.Call (.Name "range" p2) [a, b] [] pos2] X.env = (false, eval (.Call (.Name "range" p2) [a, b] [] pos2) X.env) :: starEach [] X.env := by rfl) :
    SE X W (.Call (.Name "tuple" p) [.Call (.Name "range" p2) [a, b] [] pos2] [] pos) (evTRg tupRg2 (faCons fa (faCons fb faNil))) :=
  pe_imp (pe_tupRg hc hg hm (prg_2 hg2 hm2 ha hb na nb hp) nr) fun σ H Q ⟨ρ, F, rl, h⟩ => by
    unfold evTRg faCons faNil at h
    refine ⟨ρ, F, rl, ?_⟩
    cases ea : fa ρ with
    | no => simp only [ea, R.bind] at h
    | ex c n d ρ' => simp only [ea, R.bind] at h; exact h
    | ok ra =>
      simp only [ea, R.bind] at h
      intro x F1 H1 s1 v1
      obtain ⟨F2, s12, m2, p2⟩ := held_ok s1 v1
      refine ⟨ra.2, F2, s12.rel, ?_⟩
      cases eb : fb ra.2 with
      | no => simp only [eb] at h
      | ex c n d ρ' => simp only [eb] at h; exact fun F' H' cls dx s e => h F' H' cls dx (s12.trans s) e
      | ok rb =>
        simp only [eb] at h
        intro y F3 H3 s3 v3
        obtain ⟨F4, s4, m4, p4⟩ := held_ok s3 v3
        have s14 := s12.trans s4
        unfold tupRg2 at h
        simp only at h
        cases e1 : peekL rb.2 [ra.1.held, rb.1.held] with
        | none => simp only [e1] at h
        | some ds =>
          have k1 := PendL.peek (vs := [ra.1.held, rb.1.held]) (xs := [x, y]) s4.rel ⟨x, [y], rfl, p2.mono s4.same, y, [], rfl, p4, rfl⟩ e1
          rw [e1] at h
          split at h
          · rename_i q
            split at q
            · rename_i i j z
              cases z
              split at q
              · rename_i hr
                cases q
                obtain ⟨u, v, e2, k2, k3⟩ := k1.two
                cases e2
                refine ⟨i, j, k2.int, k3.int, hr, fun p hp => ?_⟩
                have n5 : New (.of X) F4 H3 (F4.upd p (.tup (rgV i j))) (upd H3 p (.tup (rgV i j))) := New.sh s4.rel.sub hp
                exact h _ _ _ (s14.trans (n5.stp s4.rel)) ⟨p, _, rfl, SqT.of upd_same, rgD_den i j⟩
              · cases q
            · cases q
          · rename_i q
            split at q
            · split at q <;> cases q
            · cases q
          · exact h.elim
end
section
variable {P : Val × En → Prop} {E : Str → Str → D → En → Prop} {ρ : En} {a : FA} {vs : List Val}
theorem wp_trg {k : List Val × En → R (Val × En)} (q : (a ρ).wp (fun r => (k r).wp P E) E) : (evTRg k a ρ).wp P E := by unfold evTRg; exact wp_bind q
theorem wp_trg2 {i j : Int} (h1 : peekL ρ vs = some [.int i, .int j]) (h2 : RgOk i j) (q : P (.sh (.tup (rgD i j)), ρ)) : (tupRg2 (vs, ρ)).wp P E := by simp only [tupRg2, h1]; rw [if_pos h2]; exact ⟨q⟩
end
end Tr
/-! Tr, part P: what repr writes, and that texts are texts. -/
namespace Tr
open PySem PySem.Spec PyProof.Rows L2
theorem strOk_ofString (s : String) : PyData.strOk (Str.ofString s) = true := by
  rw [Str.ofString_eq_toList]
  unfold PyData.strOk
  rw [Array.all_eq_true]
  intro i hi
  simp only [List.getElem_toArray, List.getElem_map, decide_eq_true_eq]
  have key : ∀ c : Char, c.toNat < 1114112 := fun c => by
    have h := c.valid
    have e : c.toNat = c.val.toNat := rfl
    rcases h with h | ⟨_, h⟩ <;> omega
  exact key _
theorem strOk_append {a b : Str} (ha : PyData.strOk a = true) (hb : PyData.strOk b = true) : PyData.strOk (a ++ b) = true := by
  unfold PyData.strOk at ha hb ⊢
  show (a.cps ++ b.cps).all _ = true
  rw [Array.all_append, ha, hb]
  rfl
theorem strOk_textFrom : ∀ (ts : List Str) (k : Nat) (acc : Str), PyData.strOk acc = true → (∀ t ∈ ts, PyData.strOk t = true) → PyData.strOk (textFrom k acc ts) = true
  | [], _, _, h, _ => h
  | t :: ts, k, acc, h, ht => by
    unfold textFrom
    exact strOk_textFrom ts _ _ (strOk_append (strOk_append h (strOk_ofString _)) (ht t List.mem_cons_self)) fun u hu => ht u (List.mem_cons_of_mem _ hu)
theorem strOk_listText {ts : List Str} (h : ∀ t ∈ ts, PyData.strOk t = true) : PyData.strOk (listText ts) = true := strOk_append (strOk_textFrom ts 0 _ (strOk_ofString _) h) (strOk_ofString _)
theorem strOk_join : ∀ {ts : List Str}, (∀ t ∈ ts, PyData.strOk t = true) → PyData.strOk (Str.join ", " ts) = true
  | [], _ => by decide +kernel
  | [x], h => h x List.mem_cons_self
  | x :: y :: r, h => by
    show PyData.strOk (x ++ ", " ++ Str.join ", " (y :: r)) = true
    exact strOk_append (strOk_append (h x List.mem_cons_self) (strOk_ofString _)) (strOk_join fun t ht => h t (List.mem_cons_of_mem _ ht))
theorem strOk_tupleText {ts : List Str} (h : ∀ t ∈ ts, PyData.strOk t = true) : PyData.strOk (tupleText ts) = true := strOk_append (strOk_append (strOk_ofString _) (strOk_join h)) (strOk_ofString _)
/-- data that can be written -/
inductive Pn : PyData → Prop
  | none : Pn .none
  | bool (b : Bool) : Pn (.bool b)
  | int {i : Int} (h : i.natAbs < 2 ^ 600) : Pn (.int i)
  | str {x : Str} (h1 : PyData.strOk x = true) (h2 : PyData.strOk (reprText x) = true) : Pn (.str x)
  | list {ps : List PyData} (h : ∀ p ∈ ps, Pn p) : Pn (.list ps)
  | tuple {ps : List PyData} (h : ∀ p ∈ ps, Pn p) : Pn (.tuple ps)
theorem mem_shown {t : Str} : ∀ {ps : List PyData}, t ∈ PyData.shownAll ps → ∃ p ∈ ps, t = p.shown
  | p :: ps, h => by
    simp only [PyData.shownAll] at h
    rcases List.mem_cons.mp h with rfl | h
    · exact ⟨p, List.mem_cons_self, rfl⟩
    · obtain ⟨q, hq, e⟩ := mem_shown h
      exact ⟨q, List.mem_cons_of_mem _ hq, e⟩
theorem Pn.ok {p : PyData} (h : Pn p) : p.showable = true ∧ PyData.strOk p.shown = true ∧ p.canLay0 = true ∧ p.leavesShort 601 = true := by
  induction h with
  | none => exact ⟨rfl, by decide +kernel, rfl, rfl⟩
  | bool b => cases b <;> exact ⟨rfl, by decide +kernel, rfl, rfl⟩
  | @int i h =>
    have hl : i.natAbs.log2 < 600 := by
      by_cases z : i.natAbs = 0
      · rw [z]; decide
      · exact (Nat.log2_lt z).mpr h
    refine ⟨?_, strOk_ofString _, rfl, ?_⟩
    · simp only [PyData.showable, decide_eq_true_eq]; omega
    · simp only [PyData.leavesShort, decide_eq_true_eq]
      have := PySem.int_text_length_le (a := i) (k := 600) (by decide) hl
      show (Str.ofString (toString i)).length ≤ 601
      rw [Str.ofString_eq_toList]
      show ((toString i).toList.map Char.toNat).toArray.size ≤ 601
      rw [List.size_toArray, List.length_map]
      exact this
  | @str x h1 h2 =>
    refine ⟨rfl, h2, h1, ?_⟩
    simp only [PyData.leavesShort]
    rw [List.all_eq_true]
    intro c hc
    unfold PyData.strOk at h1
    rw [← Array.all_toList, List.all_eq_true] at h1
    have := of_decide_eq_true (h1 c hc)
    simp only [decide_eq_true_eq]
    omega
  | @list ps h ih =>
    refine ⟨?_, ?_, ?_, ?_⟩
    · simp only [PyData.showable]
      clear h
      induction ps with
      | nil => rfl
      | cons p ps ihp => simp only [PyData.showableAll, (ih p List.mem_cons_self).1, Bool.true_and]; exact ihp fun q hq => ih q (List.mem_cons_of_mem _ hq)
    · simp only [PyData.shown]
      refine strOk_listText fun t ht => ?_
      obtain ⟨p, hp, rfl⟩ := mem_shown ht
      exact (ih p hp).2.1
    · simp only [PyData.canLay0]
      clear h
      induction ps with
      | nil => rfl
      | cons p ps ihp => simp only [PyData.canLayAll0, (ih p List.mem_cons_self).2.2.1, Bool.true_and]; exact ihp fun q hq => ih q (List.mem_cons_of_mem _ hq)
    · simp only [PyData.leavesShort]
      clear h
      induction ps with
      | nil => rfl
      | cons p ps ihp => simp only [PyData.leavesShortAll, (ih p List.mem_cons_self).2.2.2, Bool.true_and]; exact ihp fun q hq => ih q (List.mem_cons_of_mem _ hq)
  | @tuple ps h ih =>
    refine ⟨?_, ?_, ?_, ?_⟩
    · simp only [PyData.showable]
      clear h
      induction ps with
      | nil => rfl
      | cons p ps ihp => simp only [PyData.showableAll, (ih p List.mem_cons_self).1, Bool.true_and]; exact ihp fun q hq => ih q (List.mem_cons_of_mem _ hq)
    · simp only [PyData.shown]
      refine strOk_tupleText fun t ht => ?_
      obtain ⟨p, hp, rfl⟩ := mem_shown ht
      exact (ih p hp).2.1
    · simp only [PyData.canLay0]
      clear h
      induction ps with
      | nil => rfl
      | cons p ps ihp => simp only [PyData.canLayAll0, (ih p List.mem_cons_self).2.2.1, Bool.true_and]; exact ihp fun q hq => ih q (List.mem_cons_of_mem _ hq)
    · simp only [PyData.leavesShort]
      clear h
      induction ps with
      | nil => rfl
      | cons p ps ihp => simp only [PyData.leavesShortAll, (ih p List.mem_cons_self).2.2.2, Bool.true_and]; exact ihp fun q hq => ih q (List.mem_cons_of_mem _ hq)
/-- what repr writes -/
theorem repr_ok {d : D} {p : PyData} (hp : toPy d = some p) (h : Pn p) (hb : p.bulk ≤ 20000) (hd : p.depth ≤ 60) : reprD [d] = some (.sh (.str p.shown)) ∧ PyData.strOk p.shown = true := by
  obtain ⟨h1, h2, _, h4⟩ := h.ok
  have hl := PyData.shown_le_bulk 601 (by decide) p h4
  have hl2 : p.shown.length ≤ 16777216 := by
    have : (601 + 2) * p.bulk ≤ 603 * 20000 := Nat.mul_le_mul (Nat.le_refl _) hb
    omega
  refine ⟨?_, h2⟩
  have nd : ∀ ks vs, d ≠ .dK ks vs := fun ks vs e => by rw [e] at hp; cases hp
  cases d with
  | dK ks vs => exact absurd rfl (nd ks vs)
  | _ => simp only [reprD, hp, h1, hd, hl2, and_self, if_true]
/-! ### == -/
theorem eqX_py {d e : D} {p q : PyData} (hp : toPy d = some p) (hq : toPy e = some q) (h1 : p.canLay0 = true) (h2 : q.canLay0 = true) (d1 : p.depth ≤ 64) (d2 : q.depth ≤ 64) (hn : p.eqv q = true ∨ ∀ xs ys, d = .lst xs → e = .lst ys → xs.length = ys.length) : eqX d e = some (p.eqv q) := by
  have s1 : SeqAt.shaped p = true := by unfold SeqAt.shaped; rw [h1, decide_eq_true d1]; rfl
  have s2 : SeqAt.shaped q = true := by unfold SeqAt.shaped; rw [h2, decide_eq_true d2]; rfl
  have base : (∀ a b, d = .str a → e = .str b → p.eqv q = decide (a = b)) → eqB d e = some (p.eqv q) := fun hs => by
    unfold eqB
    split
    · rename_i a b
      rw [hs a b rfl rfl]
    · simp only [hp, hq, s1, s2, and_self, if_true]
  have hs : ∀ a b, d = .str a → e = .str b → p.eqv q = decide (a = b) := fun a b ea eb => by
    subst ea eb
    cases hp; cases hq
    show (a == b) = decide (a = b)
    rfl
  have len : ∀ {xs ys : List D} {ps qs : List PyData}, toPys xs = some ps → toPys ys = some qs → PyData.eqvAll ps qs = true → xs.length = ys.length := by
    intro xs
    induction xs with
    | nil =>
      intro ys ps qs a b c
      cases a
      cases ys with
      | nil => rfl
      | cons y ys =>
        simp only [toPys] at b
        split at b
        · cases b; cases c
        · cases b
    | cons x xs ih =>
      intro ys ps qs a b c
      simp only [toPys] at a
      split at a
      · rename_i px pxs e1 e2
        cases a
        cases ys with
        | nil => cases b; cases c
        | cons y ys =>
          simp only [toPys] at b
          split at b
          · rename_i qy qys f1 f2
            cases b
            simp only [PyData.eqvAll, Bool.and_eq_true] at c
            rw [List.length_cons, List.length_cons, ih e2 f2 c.2]
          · cases b
      · cases a
  unfold eqX
  split
  · rename_i xs ys
    have hl : xs.length = ys.length := by
      rcases hn with z | z
      · simp only [toPy, Option.map_eq_some_iff] at hp hq
        obtain ⟨ps, a1, rfl⟩ := hp
        obtain ⟨qs, b1, rfl⟩ := hq
        exact len a1 b1 z
      · exact z xs ys rfl rfl
    rw [if_pos hl]
    exact base hs
  · exact base hs
theorem toPys_ints : ∀ ns : List Int, toPys (ns.map .int) = some (ns.map .int)
  | [] => rfl
  | n :: ns => by simp only [List.map_cons, toPys, toPy, toPys_ints ns]
theorem canLay_ints : ∀ ns : List Int, PyData.canLayAll0 (ns.map .int) = true
  | [] => rfl
  | n :: ns => by simp only [List.map_cons, PyData.canLayAll0, PyData.canLay0, canLay_ints ns, Bool.and_self]
theorem depth_ints : ∀ ns : List Int, PyData.depthAll (ns.map .int) = 0
  | [] => rfl
  | n :: ns => by simp only [List.map_cons, PyData.depthAll, PyData.depth, depth_ints ns]; rfl
theorem eqv_ints : ∀ ns ms : List Int, PyData.eqvAll (ns.map .int) (ms.map .int) = decide (ns = ms)
  | [], [] => rfl
  | [], _ :: _ => rfl
  | _ :: _, [] => rfl
  | n :: ns, m :: ms => by
    simp only [List.map_cons, PyData.eqvAll, PyData.eqv, eqv_ints ns ms]
    by_cases h : n = m
    · subst h; simp
    · simp [h]
theorem eqX_tups (ns ms : List Int) : eqX (.tup (ns.map .int)) (.tup (ms.map .int)) = some (decide (ns = ms)) := by
  have h := eqX_py (d := .tup (ns.map .int)) (e := .tup (ms.map .int)) (p := .tuple (ns.map .int)) (q := .tuple (ms.map .int)) (by simp only [toPy, toPys_ints, Option.map_some]) (by simp only [toPy, toPys_ints, Option.map_some]) (canLay_ints ns) (canLay_ints ms)
    (by simp only [PyData.depth, depth_ints]; decide) (by simp only [PyData.depth, depth_ints]; decide) (.inr fun xs ys a => by cases a)
  rw [h]
  exact congrArg some (eqv_ints ns ms)
theorem eqDX_tups (ns ms : List Int) : eqDX (.tup (ns.map .int)) (.tup (ms.map .int)) = some (vB (decide (ns = ms))) := by unfold eqDX; rw [eqX_tups]; rfl
theorem neDX_tups (ns ms : List Int) : neDX (.tup (ns.map .int)) (.tup (ms.map .int)) = some (vB (!decide (ns = ms))) := by unfold neDX; rw [eqX_tups]; rfl
theorem Pn.ints {ns : List Int} (h : ∀ n ∈ ns, n.natAbs < 2 ^ 600) : ∀ p ∈ ns.map PyData.int, Pn p := fun p hp => by
  obtain ⟨n, hn, rfl⟩ := List.mem_map.mp hp
  exact .int (h n hn)
end Tr
/-! Tr, part Q: repr of data with empty dicts within; a function value called. -/
namespace Tr
open PySem PySem.Spec PyProof.Rows L2
mutual
def toPr : D → Option PyData
  | .non => some .none
  | .bl b => some (.bool b)
  | .int i => some (.int i)
  | .str x => some (.str x)
  | .lst ds => (toPrs ds).map .list
  | .tup ds => (toPrs ds).map .tuple
  | .dK [] [] => some (.dict [])
  | _ => none
def toPrs : List D → Option (List PyData)
  | [] => some []
  | d :: ds => match toPr d, toPrs ds with
    | some p, some ps => some (p :: ps)
    | _, _ => none
end
section
variable {X : Cx} {W : WX} {pins : List (Addr × Obj)} {σ : Sg} {H : Hp} {s : Shared} {F : Fz}
theorem dict_reads (I : Inv X pins σ H s) {a : Addr} (ha : H a = some (.dK [])) : ∃ as, Reads s.heap (.ref a) (.dict []) as ∧ as = [a] ∧ a ≠ sysModules := by
  obtain ⟨_, hsm, vs, kv, o, es, ep, h1, h2, h3⟩ := (show ObjOk X.prog X.w H s.heap a (.dK []) from I.hok a _ ha)
  obtain ⟨hdt, _, hp, _⟩ := h3
  have ev : vs = [] := by cases kv; rfl
  subst ev
  have ee : es.toList = [] := by
    cases q : es.toList with
    | nil => rfl
    | cons y ys => rw [q] at hp; cases hp
  refine ⟨a :: [] ++ [], Reads.dict (kvs := []) h1 h2.1 hdt (by rw [ee]; exact .nil) (by rw [ee]; exact .nil), rfl, fun z => ?_⟩
  rw [z, beq_self_eq_true] at hsm
  cases hsm
theorem not_sys (hsy : ∃ mm, X.base.Ns sysModules mm) (I : Inv X pins σ H s) {a : Addr} {o : HO} (h : H a = some o) : a ≠ sysModules := fun z => by
  obtain ⟨mm, ob, es, ep, e, _⟩ := hsy
  have := (I.bs _ _ e).2
  rw [← z, h] at this
  cases this
mutual
theorem toPr_reads (hsy : ∃ mm, X.base.Ns sysModules mm) (I : Inv X pins σ H s) (sm : Same F.hp H) : ∀ (d : D) {p : PyData} {x : V} {u : Value}, toPr d = some p → Den (.of X) F d x → RelV x u → ∃ as, Reads s.heap u p as ∧ sysModules ∉ as
  | .non, _, _, _, e, h, r => by cases e; cases h; cases r; exact ⟨_, .none, by simp⟩
  | .bl b, _, _, _, e, h, r => by cases e; cases h; cases r; exact ⟨_, .bool b, by simp⟩
  | .int i, _, _, _, e, h, r => by cases e; cases h; obtain ⟨t, rfl⟩ := r; exact ⟨_, .int i t, by simp⟩
  | .str i, _, _, _, e, h, r => by cases e; cases h; obtain ⟨t, rfl⟩ := r; exact ⟨_, .str i t, by simp⟩
  | .lst ds, _, _, _, e, ⟨a, xs, h1, h2, h3⟩, r => by
    simp only [toPr, Option.map_eq_some_iff] at e
    obtain ⟨ps, e1, e2⟩ := e
    subst e2 h1
    cases r
    obtain ⟨its, rv, ⟨o, n, ho, hc, _, hd⟩, _⟩ := I.list (SqL.of (sm _ _ h2))
    obtain ⟨as, hr, hn⟩ := toPrs_reads hsy I sm ds e1 h3 rv
    exact ⟨_, Reads.list ho hc hd (by simpa using hr), fun z => by
      rcases List.mem_cons.mp z with z | z
      · exact not_sys hsy I (sm _ _ h2) z.symm
      · exact hn z⟩
  | .tup ds, _, _, _, e, ⟨a, xs, h1, h2, h3⟩, r => by
    simp only [toPr, Option.map_eq_some_iff] at e
    obtain ⟨ps, e1, e2⟩ := e
    subst e2 h1
    cases r
    obtain ⟨its, rv, ⟨o, ho, hc, n, hd⟩, _⟩ := I.tuple (Same.sqT sm h2)
    obtain ⟨as, hr, hn⟩ := toPrs_reads hsy I sm ds e1 h3 rv
    exact ⟨_, Reads.tuple ho hc hd (by simpa using hr), hn⟩
  | .dK [] [], _, _, _, e, ⟨a, xs, h1, h2, _, h3⟩, r => by
    cases e
    have h3 : xs = [] := h3
    subst h3 h1
    cases r
    obtain ⟨as, hr, rfl, hn⟩ := dict_reads I (sm _ _ h2)
    exact ⟨_, hr, by simpa using Ne.symm hn⟩
  | .dK (_ :: _) _, _, _, _, e, _, _ => by simp only [toPr] at e; cases e
  | .dK [] (_ :: _), _, _, _, e, _, _ => by simp only [toPr] at e; cases e
  | .dT _ _, _, _, _, e, _, _ => by cases e
  | .ins _ _ _, _, _, _, e, _, _ => by cases e
  | .exn _ _ _, _, _, _, e, _, _ => by cases e
  | .ty _, _, _, _, e, _, _ => by cases e
  | .glo _, _, _, _, e, _, _ => by cases e
  | .scr _, _, _, _, e, _, _ => by cases e
  | .ref _, _, _, _, e, _, _ => by cases e
theorem toPrs_reads (hsy : ∃ mm, X.base.Ns sysModules mm) (I : Inv X pins σ H s) (sm : Same F.hp H) : ∀ (ds : List D) {ps : List PyData} {xs : List V} {us : List Value}, toPrs ds = some ps → DenL (.of X) F ds xs → Vals xs us → ∃ as, ReadsAll s.heap us ps as ∧ sysModules ∉ as
  | [], _, _, _, e, h, r => by cases e; have h : _ = [] := h; subst h; cases r; exact ⟨_, .nil, by simp⟩
  | d :: ds, _, _, _, e, ⟨x, xr, h1, h2, h3⟩, r => by
    simp only [toPrs] at e
    cases e1 : toPr d with
    | none => simp only [e1] at e; cases e
    | some p =>
      cases e2 : toPrs ds with
      | none => simp only [e1, e2] at e; cases e
      | some ps =>
        simp only [e1, e2] at e
        cases e
        subst h1
        cases r with
        | cons r1 r2 =>
          obtain ⟨as, q1, n1⟩ := toPr_reads hsy I sm d e1 h2 r1
          obtain ⟨bs, q2, n2⟩ := toPrs_reads hsy I sm ds e2 h3 r2
          exact ⟨_, ReadsAll.cons q1 q2, by simp [n1, n2]⟩
end
theorem Pk.reads (hsy : ∃ mm, X.base.Ns sysModules mm) (I : Inv X pins σ H s) (sm : Same F.hp H) {d : D} {p : PyData} {x : V} {u : Value} (e : toPr d = some p) (h : Pk (.of X) F H d x) (r : RelV x u) : ∃ as, Reads s.heap u p as ∧ sysModules ∉ as := by
  rcases h with h | ⟨a, rfl, h⟩
  · exact toPr_reads hsy I sm d e h r
  · cases d with
    | lst ds =>
      obtain ⟨xs, h1, h2⟩ := h
      simp only [toPr, Option.map_eq_some_iff] at e
      obtain ⟨ps, e1, e2⟩ := e
      subst e2
      cases r
      obtain ⟨its, rv, ⟨o, n, ho, hc, _, hd⟩, _⟩ := I.list (SqL.of h1)
      obtain ⟨as, hr, hn⟩ := toPrs_reads hsy I sm ds e1 h2 rv
      exact ⟨_, Reads.list ho hc hd (by simpa using hr), fun z => by
        rcases List.mem_cons.mp z with z | z
        · exact not_sys hsy I h1 z.symm
        · exact hn z⟩
    | dK ks ds =>
      obtain ⟨xs, h1, h2, h3⟩ := h
      match ks, ds, e with
      | [], [], e =>
        cases e
        have h3 : xs = [] := h3
        subst h3
        cases r
        obtain ⟨as, hr, rfl, hn⟩ := dict_reads I h1
        exact ⟨_, hr, by simpa using Ne.symm hn⟩
      | _ :: _, _, e => simp only [toPr] at e; cases e
      | [], _ :: _, e => simp only [toPr] at e; cases e
    | dT _ _ => cases e
    | ins _ _ _ => cases e
    | _ => exact h.elim
/-- repr(x) -/
def rReprR (X : Cx) : List V → Hp → VK → Prop := fun xs H Q => ∃ x d p F, xs = [x] ∧ Same (Fz.hp F) H ∧ Pk (.of X) F H d x ∧ toPr d = some p ∧ p.showable = true ∧ p.depth ≤ 60 ∧ p.shown.length ≤ 16777216 ∧ Q (.str p.shown) H
theorem call_reprR (hgu : X.A.guards = some []) (hu : X.A.units + 64 < cLine) (hsy : ∃ mm, X.base.Ns sysModules mm) : CallR X (.builtin "repr") (rReprR X) := by
  intro pins s σ H xs us Q I r h
  obtain ⟨x, d, p, F, rfl, sm, pk, ep, hs, hd, hl, q⟩ := h
  obtain ⟨u, rfl, ru⟩ := vals1 r
  have hl' : p.shown.length ≤ sizeLine := size_le hl
  obtain ⟨as, rd, nn⟩ := pk.reads hsy I sm ep ru
  cases rd with
  | none => exact PySem.P.repr_of_none ⟨.str _, H, I.tok _, ⟨_, rfl⟩, q⟩
  | bool b => exact PySem.P.repr_of_bool ⟨.str _, H, I.tok _, ⟨_, rfl⟩, q⟩
  | int i t => exact PySem.P.repr_of_int (by simpa [PyData.showable] using hs) ⟨.str _, H, I.tok _, ⟨_, rfl⟩, q⟩
  | str x t => exact PySem.P.repr_of_str ⟨.str _, H, I.tok _, ⟨_, rfl⟩, q⟩ hl'
  | list a b c d => exact repr_of_reads' (Reads.list a b c d) hs (fun _ => nn) hgu (by omega) (fun _ _ e => e) (fun h' t tk k => ⟨.str _, H, I.kept (t' := tk) k, ⟨_, rfl⟩, q⟩) hl'
  | tuple a b c d => exact repr_of_reads' (Reads.tuple a b c d) hs (fun _ => nn) hgu (by omega) (fun _ _ e => e) (fun h' t tk k => ⟨.str _, H, I.kept (t' := tk) k, ⟨_, rfl⟩, q⟩) hl'
  | dict a b c d e => exact repr_of_reads' (Reads.dict a b c d e) hs (fun _ => nn) hgu (by omega) (fun _ _ e => e) (fun h' t tk k => ⟨.str _, H, I.kept (t' := tk) k, ⟨_, rfl⟩, q⟩) hl'
def reprR : List D → Option Val
  | [d] => (match toPr d with
    | some p => if p.showable = true ∧ p.depth ≤ 60 ∧ p.shown.length ≤ 16777216 then some (.sh (.str p.shown)) else none
    | none => none)
  | _ => none
theorem cs_reprR (hgu : X.A.guards = some []) (hu : X.A.units + 64 < cLine) (hsy : ∃ mm, X.base.Ns sysModules mm) : CallS X (.builtin "repr") reprR := by
  refine ⟨_, call_reprR hgu hu hsy, fun F H xs ds z Q s px hg k => ?_⟩
  unfold reprR at hg
  split at hg
  · obtain ⟨x, rfl, p⟩ := px.one
    split at hg
    · rename_i d q e1
      split at hg
      · rename_i hs
        cases hg
        exact ⟨x, _, q, F, rfl, s, p, e1, hs.1, hs.2.1, hs.2.2, plainQ s k rfl⟩
      · cases hg
    · cases hg
  · cases hg
end
/-! ### a function value called -/
section
variable {X : Cx} {W : WX}
/-- tab: what the functions of the module do -/
def evCallV (tab : List (Str × FF)) (ft : FE) (fa : FA) : FE := fun ρ => (ft ρ).bind fun r => match r.1 with
  | .sh (.glo x) => (match tab.lookup x with
    | some run => evCall run [] fa r.2
    | none => .no)
  | _ => .no
theorem se_cv {k : Nat} {tab : List (Str × FF)} {fe e : Expr} {es : List Expr} {ft : FE} {fa : FA} {pos : Pos} (c : ∀ x run, tab.lookup x = some run → Cal X.prog X.w X.K X.mg X.base k x [] run) (hgu : X.A.guards = some []) (hr : Room k X.A) (tk : Takes X W) (hf : SE X W fe ft) (ha : SA X W (e :: es) fa)
    (ht : eval (.Call fe (e :: es) [] pos) X.env = (do callWith pos (← eval fe X.env) [] (backTo pos (starEach (e :: es) X.env)) (backToKw pos (keywordEach [] X.env))) := by rfl)
    (he : starEach (e :: es) X.env = (false, eval e X.env) :: starEach es X.env := by rfl) (hpl : (backTo pos (starEach es X.env)).any (·.1) = false := by rfl) :
    SE X W (.Call fe (e :: es) [] pos) (evCallV tab ft fa) := by
  refine ⟨fun pins s σ H Q I q => ?_⟩
  obtain ⟨ρ, F, rl, h⟩ := q
  unfold evCallV at h
  refine Call_ (thn (hf.run pins s σ H (fun x H1 => ∃ g run f fd ps ds dvs, x = .ref f ∧ FnA X.prog X.w X.K X.mg X.base k f fd ps (spP ⟨X.K, X.mg⟩ run) ∧ X.mg g = some (.ref f) ∧ PySem.W.keepIn X.K (.ref f) = true ∧ Binds X.K fd ps ds ∧ Vals dvs ds ∧ (∀ F, DenL ⟨X.K, X.mg⟩ F [] dvs) ∧ tOf (.of X) W (evCall run [] fa) σ H1 Q) I ?_) fun u s1 hh => ?_) ht
  · refine ⟨ρ, F, rl, ?_⟩
    cases ea : ft ρ with
    | no => rw [ea] at h; exact h
    | ex c n d ρ' => rw [ea] at h; exact h
    | ok ra =>
      rw [ea] at h
      intro x F1 H1 s1 v1
      have h : (match (match ra.1 with
        | .sh (.glo x) => (match tab.lookup x with
          | some run => evCall run [] fa ra.2
          | none => .no)
        | _ => .no : R (Val × En)) with
      | .ok r => ∀ x F' H', Stp (.of X) F H ρ σ F' H' r.2 σ → VRel (.of X) H F' H' r.2 σ r.1 x → Q x H'
      | .ex c n d ρ' => ∀ F' H' cls dx, Stp (.of X) F H ρ σ F' H' ρ' σ → ERel (.of X) F' c n d cls dx → W cls dx σ H'
      | .no => False) := h
      cases e1 : ra.1 with
      | sh d =>
        cases d with
        | glo g =>
          simp only [e1] at h v1
          cases e2 : tab.lookup g with
          | none => simp only [e2] at h
          | some run =>
            simp only [e2] at h
            obtain ⟨f, fd, ps, ds, dvs, h1, h2, h3, h4, h5, h6⟩ := (c g run e2).ex
            obtain ⟨a, z1, z2⟩ := v1
            have z1 : X.mg g = some (.ref a) := z1
            rw [h2] at z1
            cases z1
            refine ⟨g, run, f, fd, ps, ds, dvs, z2, h1, h2, h3, h4, h5, h6, ra.2, F1, s1.rel, ?_⟩
            cases e3 : evCall run [] fa ra.2 with
            | no => rw [e3] at h; exact h
            | ex c n d ρ' => rw [e3] at h; exact fun F' H' cls dx st e => h F' H' cls dx (s1.trans st) e
            | ok r => rw [e3] at h; exact fun y F' H' st v => h y F' H' (s1.trans st) (v.back s1)
        | _ => simp only [e1] at h
      | fr d => simp only [e1] at h
      | rf i => simp only [e1] at h
  · obtain ⟨x, H1, I1, r1, g, run, f, fd, ps, ds, dvs, rfl, G, hm, hk, hb, hd, hd0, q⟩ := hh
    cases (show u = Value.ref f from r1)
    have h := evCall_ok (E := fun cls d H => W cls d σ H) hd0 (fun _ _ _ h => h) (fun _ _ _ h => h) q
    exact PySem.W.callWith_K (h₀ := X.base) I1.ok.mod.kin hk (thn (ha.run pos pins s1 σ H1 _ I1 h) fun us s2 hh => by
      obtain ⟨vs, H2, I2, r, q⟩ := hh
      exact ⟨I2.kIn, run_fnS' G hgu hr hb hd (passAt tk σ) I2 r q⟩) he hpl
end
section
variable {P : Program} {w : World} {K : PySem.W.Frag} {mg : Str → Option Value} {base : Heap}
theorem tab_nil {k : Nat} : ∀ x run, List.lookup x ([] : List (Str × FF)) = some run → Cal P w K mg base k x [] run := fun x run h => by cases h
theorem tab_cons {j k : Nat} {y : Str} {r : FF} {tab : List (Str × FF)} (c : Cal P w K mg base j y [] r) (l : j ≤ k) (t : ∀ x run, tab.lookup x = some run → Cal P w K mg base k x [] run) : ∀ x run, List.lookup x ((y, r) :: tab) = some run → Cal P w K mg base k x [] run := fun x run h => by
  rw [List.lookup_cons] at h
  split at h
  · rename_i e
    cases h
    rw [LawfulBEq.eq_of_beq e]
    exact c.mono l
  · exact t x run h
end
section
variable {P : Val × En → Prop} {E : Str → Str → D → En → Prop} {ρ : En} {f : FE} {a : FA}
/-- what is called -/
def cvK (tab : List (Str × FF)) (fa : FA) (r : Val × En) : R (Val × En) := match r.1 with
  | .sh (.glo x) => (match tab.lookup x with
    | some run => evCall run [] fa r.2
    | none => .no)
  | _ => .no
theorem wp_cv {tab : List (Str × FF)} (k : (f ρ).wp (fun r => (cvK tab a r).wp P E) E) : (evCallV tab f a ρ).wp P E := by unfold evCallV; exact wp_bind k
theorem wp_cvK {tab : List (Str × FF)} {x : Str} {run : FF} (h : tab.lookup x = some run) (k : (evCall run [] a ρ).wp P E) : (cvK tab a (.sh (.glo x), ρ)).wp P E := by simp only [cvK, h]; exact k
end
/-- what repr writes -/
theorem reprR_ok {d : D} {p : PyData} (hp : toPr d = some p) (h1 : p.showable = true) (hl : p.shown.length ≤ 16777216) (hd : p.depth ≤ 60) : reprR [d] = some (.sh (.str p.shown)) := by
  simp only [reprR, hp, h1, hd, hl, and_self, if_true]
end Tr
/-! Tr, part R: what many laws need: data that is written, kinds of values, purses, lists. -/
namespace Tr
open PySem PySem.Spec PyProof.Rows L2
/-! ### data that repr writes -/
mutual
def wrB : D → Bool
  | .non => true
  | .bl _ => true
  | .int i => decide (i.natAbs < 2 ^ 600)
  | .str x => PyData.strOk x
  | .lst ds => wrBs ds
  | .tup ds => wrBs ds
  | .dK [] [] => true
  | _ => false
def wrBs : List D → Bool
  | [] => true
  | d :: ds => wrB d && wrBs ds
end
mutual
def bk : D → Nat
  | .str x => x.cps.size
  | .lst ds => bks ds
  | .tup ds => bks ds
  | _ => 0
def bks : List D → Nat
  | [] => 0
  | d :: ds => bk d + 1 + bks ds
end
mutual
def dp : D → Nat
  | .lst ds => dps ds + 1
  | .tup ds => dps ds + 1
  | .dK _ _ => 1
  | _ => 0
def dps : List D → Nat
  | [] => 0
  | d :: ds => max (dp d) (dps ds)
end
mutual
theorem wr_py : ∀ (d : D), wrB d = true → ∃ p, toPr d = some p ∧ p.showable = true ∧ p.leavesShort 601 = true ∧ p.bulk = bk d ∧ p.depth = dp d
  | .non, _ => ⟨_, rfl, rfl, rfl, rfl, rfl⟩
  | .bl _, _ => ⟨_, rfl, rfl, rfl, rfl, rfl⟩
  | .int i, h => by
    have h : i.natAbs < 2 ^ 600 := of_decide_eq_true h
    have q := (Pn.int h).ok
    exact ⟨_, rfl, q.1, q.2.2.2, rfl, rfl⟩
  | .str x, h => by
    have h : PyData.strOk x = true := h
    refine ⟨_, rfl, rfl, ?_, rfl, rfl⟩
    simp only [PyData.leavesShort]
    rw [List.all_eq_true]
    intro c hc
    unfold PyData.strOk at h
    rw [← Array.all_toList, List.all_eq_true] at h
    have := of_decide_eq_true (h c hc)
    simp only [decide_eq_true_eq]
    omega
  | .lst ds, h => by
    obtain ⟨ps, h1, h2, h3, h4, h5⟩ := wr_pys ds h
    exact ⟨.list ps, by simp only [toPr, h1, Option.map_some], h2, h3, h4, by simp only [PyData.depth, dp, h5]⟩
  | .tup ds, h => by
    obtain ⟨ps, h1, h2, h3, h4, h5⟩ := wr_pys ds h
    exact ⟨.tuple ps, by simp only [toPr, h1, Option.map_some], h2, h3, h4, by simp only [PyData.depth, dp, h5]⟩
  | .dK [] [], _ => ⟨.dict [], rfl, rfl, rfl, rfl, rfl⟩
  | .dK (_ :: _) _, h => by simp only [wrB] at h; cases h
  | .dK [] (_ :: _), h => by simp only [wrB] at h; cases h
  | .dT _ _, h => by cases h
  | .ins _ _ _, h => by cases h
  | .exn _ _ _, h => by cases h
  | .ty _, h => by cases h
  | .glo _, h => by cases h
  | .scr _, h => by cases h
  | .ref _, h => by cases h
theorem wr_pys : ∀ (ds : List D), wrBs ds = true → ∃ ps, toPrs ds = some ps ∧ PyData.showableAll ps = true ∧ PyData.leavesShortAll 601 ps = true ∧ PyData.bulkAll ps = bks ds ∧ PyData.depthAll ps = dps ds
  | [], _ => ⟨[], rfl, rfl, rfl, rfl, rfl⟩
  | d :: ds, h => by
    simp only [wrBs, Bool.and_eq_true] at h
    obtain ⟨p, a1, a2, a3, a4, a5⟩ := wr_py d h.1
    obtain ⟨ps, b1, b2, b3, b4, b5⟩ := wr_pys ds h.2
    refine ⟨p :: ps, by simp only [toPrs, a1, b1], ?_, ?_, ?_, ?_⟩
    · simp only [PyData.showableAll, a2, b2, Bool.and_self]
    · simp only [PyData.leavesShortAll, a3, b3, Bool.and_self]
    · simp only [PyData.bulkAll, bks, a4, b4]
    · simp only [PyData.depthAll, dps, a5, b5]
end
/-- a value that repr writes -/
structure Wr (d : D) : Prop where
  ok : wrB d = true
  bk : bk d ≤ 10000
  dp : dp d ≤ 50
theorem Wr.repr {d : D} (h : Wr d) : ∃ s, reprR [d] = some (.sh (.str s)) := by
  obtain ⟨p, h1, h2, h3, h4, h5⟩ := wr_py d h.ok
  have hl := PyData.shown_le_bulk 601 (by decide) p h3
  have q1 := h.bk
  have q2 := h.dp
  have : (601 + 2) * p.bulk ≤ 603 * 10000 := Nat.mul_le_mul (Nat.le_refl _) (by omega)
  exact ⟨_, reprR_ok h1 h2 (by omega) (by omega)⟩
theorem wrBs_mem : ∀ {ds : List D}, wrBs ds = true → ∀ d ∈ ds, wrB d = true
  | _ :: _, h, d, hd => by
    simp only [wrBs, Bool.and_eq_true] at h
    rcases List.mem_cons.mp hd with rfl | z
    · exact h.1
    · exact wrBs_mem h.2 d z
theorem wrBs_of : ∀ {ds : List D}, (∀ d ∈ ds, wrB d = true) → wrBs ds = true
  | [], _ => rfl
  | d :: ds, h => by
    simp only [wrBs, Bool.and_eq_true]
    exact ⟨h d List.mem_cons_self, wrBs_of fun e he => h e (List.mem_cons_of_mem _ he)⟩
theorem bks_len : ∀ (ds : List D), ds.length ≤ bks ds
  | [] => Nat.le_refl _
  | d :: ds => by
    have := bks_len ds
    simp only [bks, List.length_cons]
    omega
theorem wrBs_app : ∀ (xs ys : List D), wrBs (xs ++ ys) = (wrBs xs && wrBs ys)
  | [], ys => rfl
  | x :: xs, ys => by simp only [List.cons_append, wrBs, wrBs_app xs ys, Bool.and_assoc]
theorem bks_app : ∀ (xs ys : List D), bks (xs ++ ys) = bks xs + bks ys
  | [], ys => by simp only [List.nil_append, bks, Nat.zero_add]
  | x :: xs, ys => by simp only [List.cons_append, bks, bks_app xs ys]; omega
theorem dps_app : ∀ (xs ys : List D), dps (xs ++ ys) = max (dps xs) (dps ys)
  | [], ys => by simp only [List.nil_append, dps]; omega
  | x :: xs, ys => by simp only [List.cons_append, dps, dps_app xs ys]; omega
theorem bks_mem : ∀ {ds : List D} {d : D}, d ∈ ds → bk d + 1 ≤ bks ds
  | _ :: _, d, hd => by
    simp only [bks]
    rcases List.mem_cons.mp hd with rfl | z
    · omega
    · have := bks_mem z; omega
theorem dps_mem : ∀ {ds : List D} {d : D}, d ∈ ds → dp d ≤ dps ds
  | _ :: _, d, hd => by
    simp only [dps]
    rcases List.mem_cons.mp hd with rfl | z
    · omega
    · have := dps_mem z; omega
theorem wrB_ty {d : D} (h : wrB d = true) : (tyN d).isSome = true := by
  cases d <;> first | rfl | (cases h; done)
theorem Wr.ty {d : D} (h : Wr d) : (tyN d).isSome = true := wrB_ty h.ok
theorem Wr.tup {ds : List D} (h : Wr (.tup ds)) : ds.length ≤ 10000 ∧ ∀ d ∈ ds, Wr d := by
  have h1 : wrBs ds = true := h.ok
  have h2 : bks ds ≤ 10000 := h.bk
  have h3 : dps ds + 1 ≤ 50 := h.dp
  exact ⟨Nat.le_trans (bks_len ds) h2, fun d hd => ⟨wrBs_mem h1 d hd, by have := bks_mem hd; omega, by have := dps_mem hd; omega⟩⟩
theorem Wr.lst {ds : List D} (h : Wr (.lst ds)) : ds.length ≤ 10000 ∧ ∀ d ∈ ds, Wr d := Wr.tup (ds := ds) ⟨h.ok, h.bk, h.dp⟩
theorem ints_wr : ∀ {ns : List Int}, (∀ n ∈ ns, n.natAbs < 2 ^ 600) → wrBs (ns.map .int) = true
  | [], _ => rfl
  | n :: ns, h => by
    simp only [List.map_cons, wrBs, wrB, Bool.and_eq_true, decide_eq_true_eq]
    exact ⟨h n List.mem_cons_self, ints_wr fun m hm => h m (List.mem_cons_of_mem _ hm)⟩
theorem ints_bk : ∀ (ns : List Int), bks (ns.map .int) = ns.length
  | [] => rfl
  | n :: ns => by simp only [List.map_cons, bks, bk, ints_bk ns, List.length_cons]; omega
theorem ints_dp : ∀ (ns : List Int), dps (ns.map .int) = 0
  | [] => rfl
  | n :: ns => by simp only [List.map_cons, dps, dp, ints_dp ns]; omega
/-! ### kinds of values -/
theorem isi_ty {es : List (Str × Str)} {c : D} {a n : String} {b : Bool} (h : tyN c = some a) (hk : kitB a n = some b) : isiD es [c, .ty n] = some (vB b) := by
  cases c <;> first | (simp only [isiD, h, hk, Option.map_some]; done) | (cases h; done)
theorem look_ty {L : List D} {c : D} (h : (tyN c).isSome = true) : look L c = some c := by
  cases c <;> first | rfl | (cases h; done)
def isWD : D → Bool
  | .int _ => true
  | _ => false
def isTup : D → Bool
  | .tup _ => true
  | _ => false
def isLs : D → Bool
  | .lst _ => true
  | .scr _ => true
  | _ => false
theorem isi_tuple {es : List (Str × Str)} {c : D} (h : (tyN c).isSome = true) : isiD es [c, .ty "tuple"] = some (vB (isTup c)) := by
  cases c <;> first | (exact isi_ty rfl (by kernel_rfl)) | (cases h; done)
theorem isi_list {es : List (Str × Str)} {c : D} (h : (tyN c).isSome = true) : isiD es [c, .ty "list"] = some (vB (isLs c)) := by
  cases c <;> first | (exact isi_ty rfl (by kernel_rfl)) | (cases h; done)
def isIB : D → Bool
  | .int _ => true
  | .bl _ => true
  | _ => false
def isB : D → Bool
  | .bl _ => true
  | _ => false
theorem isi_int {es : List (Str × Str)} {c : D} (h : (tyN c).isSome = true) : isiD es [c, .ty "int"] = some (vB (isIB c)) := by
  cases c <;> first | (exact isi_ty rfl (by kernel_rfl)) | (cases h; done)
theorem isi_bool {es : List (Str × Str)} {c : D} (h : (tyN c).isSome = true) : isiD es [c, .ty "bool"] = some (vB (isB c)) := by
  cases c <;> first | (exact isi_ty rfl (by kernel_rfl)) | (cases h; done)
theorem pk1 {ρ : En} {d c : D} (h : look ρ.l d = some c) : peekL ρ [.sh d] = some [c] := by simp only [peekL, peek, h]
theorem pk1t {ρ : En} {d c : D} {n : String} (h : look ρ.l d = some c) : peekL ρ [.sh d, .sh (.ty n)] = some [c, .ty n] := by simp only [peekL, peek, h]; rfl
theorem pk1g {ρ : En} {d c : D} {n : Str} (h : look ρ.l d = some c) : peekL ρ [.sh d, .sh (.glo n)] = some [c, .glo n] := by simp only [peekL, peek, h]; rfl
/-- a comprehension that picks -/
theorem wp_lcfil {P : List D × En → Prop} {E : Str → Str → D → En → Prop} {ws : List Nat} {p : Pat} {g : FT} {f : FE} {ds : List D} {ρ : En} {q : D → Bool} (hd : ∀ d ∈ ds, ∃ ρ1, bindP p d ρ = some ρ1 ∧ wipeE ρ1 ws = ρ ∧ (g ρ1).wp (fun r => r = (q d, ρ1)) (fun _ _ _ _ => False) ∧ (f ρ1).wp (fun r => r = (.sh d, ρ1)) (fun _ _ _ _ => False))
    (k : P (ds.filter q, ρ)) {m : Nat} : (lcL ws p g f none m ds ρ).wp P E := by
  refine wp_lcI (I := fun n done ρ' => ρ' = ρ ∧ done = (ds.take n).filter q) ⟨rfl, rfl⟩ (fun n d done ρ' e h => ?_) (fun done ρ' h => ?_)
  · obtain ⟨rfl, rfl⟩ := h
    obtain ⟨ρ1, h1, h2, h3, h4⟩ := hd d (List.mem_of_getElem? e)
    have hn : n < ds.length := (List.getElem?_eq_some_iff.mp e).1
    have hg : ds[n] = d := (List.getElem?_eq_some_iff.mp e).2
    refine ⟨ρ1, h1, R.wp_mono h3 (fun r hr => ?_) fun _ _ _ _ z => z⟩
    subst hr
    dsimp only
    refine ite_p (fun hq => ?_) (fun hq => ?_)
    · refine R.wp_mono h4 (fun r hr => ?_) fun _ _ _ _ z => z
      subst hr
      refine wp_lcV rfl h2 ⟨rfl, ?_⟩
      rw [List.take_succ_eq_append_getElem hn, List.filter_append, hg]
      simp [hq]
    · refine ⟨h2, ?_⟩
      rw [List.take_succ_eq_append_getElem hn, List.filter_append, hg]
      simp [hq]
  · obtain ⟨rfl, rfl⟩ := h
    rw [List.take_length]
    exact k
theorem filter_no (q : D → Bool) (ds : List D) : (ds.filter fun d => !q d).isEmpty = ds.all q := by
  induction ds with
  | nil => rfl
  | cons d ds ih =>
    rw [List.filter_cons, List.all_cons]
    cases q d with
    | true => simpa using ih
    | false => rfl
def cellB (c : D) (n : Int) : Bool := match c with
  | .tup ds => decide ((ds.length : Int) = n) && ds.all isWD
  | _ => false
def geB : D → Bool
  | .int i => decide (0 ≤ i)
  | _ => false
def loopB (c : D) (n : Int) : Bool := match c with
  | .tup [a, b] => geB a && cellB b n
  | _ => false
def nestB (c : D) (n : Int) : Bool := match c with
  | .tup [.lst ls, b, a] => (ls.all fun d => loopB d n) && (cellB b n && isWD a)
  | _ => false
/-! ### purses -/
def mixD (s i : Int) : Int := (((s * 1103515245 + 7919 * i * i + i + 1).fmod 2147483647 * (s * 1103515245 + 7919 * i * i + i + 1).fmod 2147483647 + 69621).fmod 2147483629 * 48271).fmod 2147483587
theorem mixD_sz (s i : Int) : 0 ≤ mixD s i ∧ mixD s i < 2147483587 := fmod_lt (by decide)
theorem szI {i : Int} {n : Nat} (h1 : -(2 ^ n : Nat) < i) (h2 : i < (2 ^ n : Nat)) : Sz i n := ⟨by omega⟩
abbrev puD (g0 g1 g2 : Int) : D := .lst [.int g0, .int g1, .int g2]
/-- a purse of numbers -/
structure Pu (B g0 g1 g2 : Int) : Prop where
  a0 : 0 ≤ g1
  a1 : g1 < 2147483647
  b0 : 0 ≤ g2
  b1 : g2 ≤ B
theorem Pu.up {B B' g0 g1 g2 : Int} (h : Pu B g0 g1 g2) (l : B ≤ B') : Pu B' g0 g1 g2 := ⟨h.a0, h.a1, h.b0, by have := h.b1; omega⟩
theorem set_same {L : List D} {k : Nat} {d : D} (h : L[k]? = some d) : L.set k d = L := by
  obtain ⟨hk, e⟩ := List.getElem?_eq_some_iff.mp h
  rw [← e]
  exact List.set_getElem_self hk
theorem sumD_map (ns : List Int) : sumD [.lst (ns.map .int)] = some (vI ns.sum) := by simp only [sumD, allInts_map, Option.map_some]
theorem pow18 : powD (.int 10) (.int 18) = some (vI 1000000000000000000) := by kernel_rfl
theorem pow60 : powD (.int 10) (.int 60) = some (vI 1000000000000000000000000000000000000000000000000000000000000) := by kernel_rfl
theorem pow600 : powD (.int 1000000000000000000000000000000000000000000000000000000000000) (.int 10) = some (vI (1000000000000000000000000000000000000000000000000000000000000 ^ 10)) := by kernel_rfl
theorem pow9 : powD (.int 10) (.int 9) = some (vI 1000000000) := by kernel_rfl
theorem pow12 : powD (.int 10) (.int 12) = some (vI 1000000000000) := by kernel_rfl
theorem pow19 : powD (.int 10) (.int 19) = some (vI 10000000000000000000) := by kernel_rfl
theorem pow30 : powD (.int 10) (.int 30) = some (vI 1000000000000000000000000000000) := by kernel_rfl
theorem pow39 : powD (.int 10) (.int 39) = some (vI 1000000000000000000000000000000000000000) := by kernel_rfl
theorem pow40 : powD (.int 10) (.int 40) = some (vI 10000000000000000000000000000000000000000) := by kernel_rfl
theorem ixD_map {ns : List Int} {i : Int} (h0 : 0 ≤ i) (h1 : i < ns.length) : ∃ n, ns[i.toNat]? = some n ∧ ixD (.lst (ns.map .int)) (.int i) = some (vI n) ∧ ixD (.tup (ns.map .int)) (.int i) = some (vI n) := by
  have h : i.toNat < ns.length := by omega
  refine ⟨ns[i.toNat], List.getElem?_eq_getElem h, ?_, ?_⟩
  all_goals
    simp only [ixD, atI, ixN, List.length_map]
    rw [if_pos h0, if_pos h1]
    simp [List.getElem?_eq_getElem h]
/-- an item of a list or a tuple -/
theorem ixD_at {ds : List D} {i : Int} (h0 : 0 ≤ i) (h1 : i < ds.length) : ∃ d, ds[i.toNat]? = some d ∧ d ∈ ds ∧ ixD (.lst ds) (.int i) = some (.sh d) ∧ ixD (.tup ds) (.int i) = some (.sh d) := by
  have h : i.toNat < ds.length := by omega
  refine ⟨ds[i.toNat], List.getElem?_eq_getElem h, List.getElem_mem h, ?_, ?_⟩
  all_goals
    simp only [ixD, atI, ixN]
    rw [if_pos h0, if_pos h1]
    simp [List.getElem?_eq_getElem h]
/-- the purses of a law -/
def PQ (Q : List D) : Prop := ∀ q ∈ Q, ∃ a b c, q = puD a b c
theorem PQ.lts {Q : List D} (n : Nat) (h : PQ Q) : D.lts n Q = true := by
  induction Q with
  | nil => rfl
  | cons q Q ih =>
    obtain ⟨a, b, c, rfl⟩ := h q List.mem_cons_self
    simp only [D.lts, D.lt, Bool.and_self, Bool.true_and]
    exact ih fun r hr => h r (List.mem_cons_of_mem _ hr)
theorem PQ.set {Q : List D} (k : Nat) {a b c : Int} (h : PQ Q) : PQ (Q.set k (puD a b c)) := fun q hq => by
  rcases List.mem_or_eq_of_mem_set hq with z | z
  · exact h q z
  · exact ⟨a, b, c, z⟩
theorem PQ.push {Q : List D} {a b c : Int} (h : PQ Q) : PQ (Q ++ [puD a b c]) := fun q hq => by
  rcases List.mem_append.mp hq with z | z
  · exact h q z
  · exact ⟨a, b, c, List.mem_singleton.mp z⟩
/-! ### lists -/
theorem at_app {A B : List D} {x : D} {n : Nat} (h : A[n]? = some x) : (A ++ B)[n]? = some x := by
  rw [List.getElem?_append_left (List.getElem?_eq_some_iff.mp h).1]; exact h
theorem at_end {A B : List D} {x : D} : (A ++ x :: B)[A.length]? = some x := by simp
theorem set_end {A : List D} {x y : D} {B : List D} : (A ++ x :: B).set A.length y = A ++ y :: B := by
  rw [List.set_append_right _ _ (Nat.le_refl _)]; simp
theorem addT {xs ys : List D} (h : xs.length + ys.length ≤ 16777216) : addD (.tup xs) (.tup ys) = some (.sh (.tup (xs ++ ys))) := by
  simp only [addD]
  rw [if_pos h]
theorem addLs {xs ys : List D} (h : xs.length + ys.length ≤ 16777216) : addD (.lst xs) (.lst ys) = some (.fr (.lst (xs ++ ys))) := by
  simp only [addD]
  rw [if_pos h]
theorem appLs {xs : List D} {y : D} (h : xs.length < 16777216) : appD (.lst xs) [y] = some (.lst (xs ++ [y]), .non) := by
  simp only [appD]
  rw [if_pos h]
theorem cut_len {xs : List D} (lo hi : Option Int) : (cut xs lo hi).length ≤ xs.length := by
  unfold cut
  rw [List.length_take, List.length_drop]
  omega
theorem cut_mem {xs : List D} {lo hi : Option Int} {d : D} (h : d ∈ cut xs lo hi) : d ∈ xs := by
  unfold cut at h
  exact List.mem_of_mem_drop (List.mem_of_mem_take h)
theorem cut_takeN {α : Type} {xs : List α} {a : Nat} : cut xs none (some (a : Int)) = xs.take a := by
  unfold cut
  rw [HT.sIx_none, HT.sIx_nat, List.drop_zero, Nat.sub_zero, List.take_eq_take_iff]
  omega
theorem cut_dropN {α : Type} {xs : List α} {a : Nat} : cut xs (some (a : Int)) none = xs.drop a := by
  unfold cut
  rw [HT.sIx_none, HT.sIx_nat]
  by_cases h : a ≤ xs.length
  · rw [Nat.min_eq_left h]
    exact List.take_of_length_le (by rw [List.length_drop]; omega)
  · rw [Nat.min_eq_right (by omega), Nat.sub_self, List.take_zero]
    exact (List.drop_eq_nil_of_le (by omega)).symm
/-! ### nests as drawn -/
abbrev lpD (l : Int × List Int) : D := .tup [.int l.1, .tup (l.2.map .int)]
abbrev nsD (ls : List (Int × List Int)) (pl : List Int) (am : Int) : D := .tup [.lst (ls.map lpD), .tup (pl.map .int), .int am]
structure LpOk (m : Nat) (l : Int × List Int) : Prop where
  c0 : 0 ≤ l.1
  cb : l.1.natAbs < 2 ^ 150
  len : l.2.length = m
  bd : ∀ c ∈ l.2, c.natAbs < 2 ^ 150
structure NsOk (m : Nat) (ls : List (Int × List Int)) (pl : List Int) (am : Int) : Prop where
  lo : ∀ l ∈ ls, LpOk m l
  len : pl.length = m
  bd : ∀ c ∈ pl, c.natAbs < 2 ^ 150
  am : am.natAbs < 2 ^ 150
theorem up150 {n : Nat} (h : n < 2 ^ 150) : n < 2 ^ 600 := Nat.lt_of_lt_of_le h (Nat.pow_le_pow_right (by decide) (by decide))
/-- a value that is written, with its size -/
structure Pc (d : D) (b p : Nat) : Prop where
  ok : wrB d = true
  bk : bk d ≤ b
  dp : dp d ≤ p
structure Pcs (ds : List D) (b p : Nat) : Prop where
  ok : wrBs ds = true
  bk : bks ds ≤ b
  dp : dps ds ≤ p
theorem Pc.wr {d : D} {b p : Nat} (h : Pc d b p) (hb : b ≤ 10000) (hp : p ≤ 50) : Wr d := ⟨h.ok, Nat.le_trans h.bk hb, Nat.le_trans h.dp hp⟩
theorem Pc.up {d : D} {b p b' p' : Nat} (h : Pc d b p) (hb : b ≤ b') (hp : p ≤ p') : Pc d b' p' := ⟨h.ok, Nat.le_trans h.bk hb, Nat.le_trans h.dp hp⟩
theorem Pcs.up {d : List D} {b p b' p' : Nat} (h : Pcs d b p) (hb : b ≤ b') (hp : p ≤ p') : Pcs d b' p' := ⟨h.ok, Nat.le_trans h.bk hb, Nat.le_trans h.dp hp⟩
theorem Pcs.nil : Pcs [] 0 0 := ⟨rfl, Nat.le_refl _, Nat.le_refl _⟩
theorem Pcs.cons {d : D} {ds : List D} {b p c q : Nat} (h : Pc d b p) (t : Pcs ds c q) : Pcs (d :: ds) (b + 1 + c) (max p q) := ⟨by simp only [wrBs, h.ok, t.ok, Bool.and_self], by
  have := h.bk; have := t.bk; simp only [bks]; omega, by have := h.dp; have := t.dp; simp only [dps]; omega⟩
theorem Pcs.app {ds es : List D} {b p c q : Nat} (h : Pcs ds b p) (t : Pcs es c q) : Pcs (ds ++ es) (b + c) (max p q) := ⟨by rw [wrBs_app, h.ok, t.ok]; rfl, by
  have := h.bk; have := t.bk; rw [bks_app]; omega, by have := h.dp; have := t.dp; rw [dps_app]; omega⟩
theorem Pcs.tup {ds : List D} {b p : Nat} (h : Pcs ds b p) : Pc (.tup ds) b (p + 1) := ⟨h.ok, h.bk, by have := h.dp; simp only [Tr.dp]; omega⟩
theorem Pcs.lst {ds : List D} {b p : Nat} (h : Pcs ds b p) : Pc (.lst ds) b (p + 1) := ⟨h.ok, h.bk, by have := h.dp; simp only [Tr.dp]; omega⟩
theorem Pcs.get {ds : List D} {b p : Nat} {d : D} (h : Pcs ds b p) (hd : d ∈ ds) : Pc d b p := ⟨wrBs_mem h.ok d hd, by have := h.bk; have := bks_mem hd; omega, by have := h.dp; have := dps_mem hd; omega⟩
theorem Pcs.len {ds : List D} {b p : Nat} (h : Pcs ds b p) : ds.length ≤ b := Nat.le_trans (bks_len ds) h.bk
theorem bks_take (n : Nat) (ds : List D) : bks (ds.take n) ≤ bks ds := by
  have := bks_app (ds.take n) (ds.drop n)
  rw [List.take_append_drop] at this
  omega
theorem bks_drop (n : Nat) (ds : List D) : bks (ds.drop n) ≤ bks ds := by
  have := bks_app (ds.take n) (ds.drop n)
  rw [List.take_append_drop] at this
  omega
theorem dps_le {ds : List D} {n : Nat} (h : ∀ d ∈ ds, dp d ≤ n) : dps ds ≤ n := by
  induction ds with
  | nil => exact Nat.zero_le _
  | cons d ds ih =>
    have h1 := h d List.mem_cons_self
    have h2 := ih fun e he => h e (List.mem_cons_of_mem _ he)
    simp only [dps]
    omega
theorem Pcs.cut {ds : List D} {b p : Nat} (h : Pcs ds b p) (lo hi : Option Int) : Pcs (cut ds lo hi) b p := ⟨wrBs_of fun d hd => wrBs_mem h.ok d (cut_mem hd), by
  unfold Tr.cut
  exact Nat.le_trans (bks_take _ _) (Nat.le_trans (bks_drop _ _) h.bk), dps_le fun d hd => Nat.le_trans (dps_mem (cut_mem hd)) h.dp⟩
theorem Pc.int {i : Int} (h : i.natAbs < 2 ^ 150) : Pc (.int i) 0 0 := ⟨decide_eq_true (up150 h), Nat.le_refl _, Nat.le_refl _⟩
theorem Pcs.ints {ns : List Int} (h : ∀ n ∈ ns, n.natAbs < 2 ^ 150) : Pcs (ns.map .int) ns.length 0 := ⟨ints_wr fun n hn => up150 (h n hn), Nat.le_of_eq (ints_bk ns), Nat.le_of_eq (ints_dp ns)⟩
theorem LpOk.pc {m : Nat} {l : Int × List Int} (h : LpOk m l) : Pc (lpD l) (m + 2) 2 := ((Pcs.cons (Pc.int h.cb) (.cons ((Pcs.ints h.bd).tup) .nil)).tup).up (by rw [h.len]; omega) (by omega)
theorem loops_pc {m : Nat} : ∀ {ls : List (Int × List Int)}, (∀ l ∈ ls, LpOk m l) → Pcs (ls.map lpD) (ls.length * (m + 3)) 2
  | [], _ => Pcs.nil.up (Nat.zero_le _) (Nat.zero_le _)
  | l :: ls, h => by
    have h1 := (h l List.mem_cons_self).pc
    have h2 := loops_pc (ls := ls) fun e he => h e (List.mem_cons_of_mem _ he)
    exact (Pcs.cons h1 h2).up (by rw [List.length_cons, Nat.succ_mul]; omega) (by omega)
theorem NsOk.pc {m : Nat} {ls : List (Int × List Int)} {pl : List Int} {am : Int} (h : NsOk m ls pl am) : Pc (nsD ls pl am) (ls.length * (m + 3) + m + 3) 4 :=
  ((Pcs.cons (loops_pc h.lo).lst (.cons (Pcs.ints h.bd).tup (.cons (Pc.int h.am) .nil))).tup).up (by rw [h.len]; omega) (by omega)
theorem cell_ints {ns : List Int} {m : Nat} (h : ns.length = m) : cellB (.tup (ns.map .int)) m = true := by
  simp only [cellB, List.length_map, h, decide_true, Bool.true_and]
  rw [List.all_eq_true]
  intro d hd
  obtain ⟨n, _, rfl⟩ := List.mem_map.mp hd
  rfl
theorem LpOk.lp {m : Nat} {l : Int × List Int} (h : LpOk m l) : loopB (lpD l) m = true := by
  simp only [loopB, geB, decide_eq_true h.c0, Bool.true_and]
  exact cell_ints h.len
theorem NsOk.ns {m : Nat} {ls : List (Int × List Int)} {pl : List Int} {am : Int} (h : NsOk m ls pl am) : nestB (nsD ls pl am) m = true := by
  simp only [nestB, cell_ints h.len, isWD, Bool.and_true]
  rw [List.all_eq_true]
  intro d hd
  obtain ⟨l, hl, rfl⟩ := List.mem_map.mp hd
  exact (h.lo l hl).lp
theorem ne_bl (a b : Bool) : neDX (.bl a) (.bl b) = some (vB (!(a == b))) := by cases a <;> cases b <;> rfl
theorem ne_self (s : Str) : neDX (.str s) (.str s) = some (vB false) := by rw [neDX_s]; simp
theorem eq_self (s : Str) : eqDX (.str s) (.str s) = some (vB true) := by rw [eqDX_s]; simp
end Tr
namespace K02
open PySem PySem.Spec PyProof.Rows L2 Tr
def top (i : Nat) : Stmt := PySem.Challenge.pw_addnests_k02_cells_and_nests_told.main.body.getD i (.Pass ⟨0, 0, 0, 0⟩)
def errL : List (Str × Str) := [("InvalidNumber", "value")]
/-- what the module's top has written, as the bodies need it -/
structure Txt (P : Program) (K : PySem.W.Frag) (mg : Str → Option Value) (Ad : Addr) : Prop where
  n_bool : mg "bool" = none
  n_int : mg "int" = none
  n_isinstance : mg "isinstance" = none
  n_len : mg "len" = none
  n_list : mg "list" = none
  n_max : mg "max" = none
  n_range : mg "range" = none
  n_repr : mg "repr" = none
  n_sum : mg "sum" = none
  n_tuple : mg "tuple" = none
  k_MOST_AXES : ∃ t, mg "MOST_AXES" = some (.int 3 t)
  g_is_cell : ∃ a, mg "is_cell" = some (.ref a)
  g_is_nest : ∃ a, mg "is_nest" = some (.ref a)
  errs : Errs P K mg Ad errL
section
variable {P : Program} {w : World} {K : PySem.W.Frag} {mg : Str → Option Value} {base : Heap} {Ad : Addr}
/-! ### is_whole -/
abbrev s_is_whole : Stmt := top 5
def N_is_whole : List Str := ["value"]
def fb_is_whole : FS := (fsRet (evAnd (evB (isiD errL) (faCons (evVar 0) (faCons (evC (.ty "int")) faNil))) (evNot (evB (isiD errL) (faCons (evVar 0) (faCons (evC (.ty "bool")) faNil))))))
def run_is_whole : FF := runP 1 1 fb_is_whole
theorem sc_is_whole : FnScope N_is_whole ["value"] (defScope s_is_whole) := ⟨rfl, rfl, rfl, by decide +kernel, rfl, by decide +kernel, by decide +kernel⟩
theorem bd_is_whole {f : Addr} (T : Txt P K mg Ad) (hsy : ∃ mm, base.Ns sysModules mm) : BdA P w K mg base N_is_whole "is_whole" s_is_whole f 0 (fb_is_whole) := by
  intro cdv A outer s H E hgu hr
  have tk : Takes (cxD P w K mg base N_is_whole "is_whole" s_is_whole f cdv A outer s H E) (fun cls d _ H' => E cls d H') := takes_of rfl rfl rfl rfl
  have hp : PassesOwn (model P w) (cxD P w K mg base N_is_whole "is_whole" s_is_whole f cdv A outer s H E).A (cxD P w K mg base N_is_whole "is_whole" s_is_whole f cdv A outer s H E).env (cxD P w K mg base N_is_whole "is_whole" s_is_whole f cdv A outer s H E).xe := passes_of rfl
  have hu := hr.units
  have hN : N_is_whole.Nodup := sc_is_whole.nd
  have hc : (cxD P w K mg base N_is_whole "is_whole" s_is_whole f cdv A outer s H E).calm = true := rfl
  exact (sss_one (ss_ret (se_and (se_b (cs_isi T.errs) T.n_isinstance (by decide +kernel) (sa_cons (se_var 0) (sa_cons (se_ty T.n_int (by decide +kernel)) sa_nil))) (se_one (se_not (se_b (cs_isi T.errs) T.n_isinstance (by decide +kernel) (sa_cons (se_var 0) (sa_cons (se_ty T.n_bool (by decide +kernel)) sa_nil))))))))
/-! ### check_whole -/
abbrev s_check_whole : Stmt := top 6
def N_check_whole : List Str := ["value", "least", "most"]
def fb_check_whole : FS := (fsIf (ftOr (ftNot (ftVal (evCall run_is_whole [] (faCons (evVar 0) faNil)))) (ftOr (ftVal (evOp ltDX (evVar 0) (evVar 1))) (ftAnd (ftVal (evOp isNotND (evVar 2) (evC .non))) (ftVal (evOp gtD (evVar 0) (evVar 2))))))
 (fsRaise "InvalidNumber" "value" (evVar 0))
 fsNil)
def run_check_whole : FF := runP 3 3 fb_check_whole
theorem sc_check_whole : FnScope N_check_whole ["value", "least", "most"] (defScope s_check_whole) := ⟨rfl, rfl, rfl, by decide +kernel, rfl, by decide +kernel, by decide +kernel⟩
theorem bd_check_whole {f : Addr} (T : Txt P K mg Ad) (hsy : ∃ mm, base.Ns sysModules mm) (c_is_whole : Cal P w K mg base 1 "is_whole" [] run_is_whole) : BdA P w K mg base N_check_whole "check_whole" s_check_whole f 1 (fb_check_whole) := by
  intro cdv A outer s H E hgu hr
  have tk : Takes (cxD P w K mg base N_check_whole "check_whole" s_check_whole f cdv A outer s H E) (fun cls d _ H' => E cls d H') := takes_of rfl rfl rfl rfl
  have hp : PassesOwn (model P w) (cxD P w K mg base N_check_whole "check_whole" s_check_whole f cdv A outer s H E).A (cxD P w K mg base N_check_whole "check_whole" s_check_whole f cdv A outer s H E).env (cxD P w K mg base N_check_whole "check_whole" s_check_whole f cdv A outer s H E).xe := passes_of rfl
  have hu := hr.units
  have hN : N_check_whole.Nodup := sc_check_whole.nd
  have hc : (cxD P w K mg base N_check_whole "check_whole" s_check_whole f cdv A outer s H E).calm = true := rfl
  exact (sss_one (ss_if (SW.st (sw_or (st_not (st_val (se_c c_is_whole hgu (hr.mono (by omega)) tk (sa_cons (se_var 0) sa_nil)))) (sw_or (st_cmp (os_ltX hu) (se_var 0) (se_var 1)) (sw_or1 (SW.st (sw_and (st_cmp os_notN (se_var 2) se_non) (sw_and1 (st_cmp os_gt (se_var 0) (se_var 2)))))))))
 (sss_one (ss_raiseE T.errs hc hr tk (se_var 0)))
 sss_nil))
/-! ### check_axes -/
abbrev s_check_axes : Stmt := top 7
def N_check_axes : List Str := ["value"]
def fb_check_axes : FS := (fsExpr (evCall run_check_whole [] (faCons (evVar 0) (faCons (evC (.int 1)) (faCons (evC (.int 3)) faNil)))))
def run_check_axes : FF := runP 1 1 fb_check_axes
theorem sc_check_axes : FnScope N_check_axes ["value"] (defScope s_check_axes) := ⟨rfl, rfl, rfl, by decide +kernel, rfl, by decide +kernel, by decide +kernel⟩
theorem bd_check_axes {f : Addr} (T : Txt P K mg Ad) (hsy : ∃ mm, base.Ns sysModules mm) (c_check_whole : Cal P w K mg base 2 "check_whole" [] run_check_whole) : BdA P w K mg base N_check_axes "check_axes" s_check_axes f 2 (fb_check_axes) := by
  intro cdv A outer s H E hgu hr
  have tk : Takes (cxD P w K mg base N_check_axes "check_axes" s_check_axes f cdv A outer s H E) (fun cls d _ H' => E cls d H') := takes_of rfl rfl rfl rfl
  have hp : PassesOwn (model P w) (cxD P w K mg base N_check_axes "check_axes" s_check_axes f cdv A outer s H E).A (cxD P w K mg base N_check_axes "check_axes" s_check_axes f cdv A outer s H E).env (cxD P w K mg base N_check_axes "check_axes" s_check_axes f cdv A outer s H E).xe := passes_of rfl
  have hu := hr.units
  have hN : N_check_axes.Nodup := sc_check_axes.nd
  have hc : (cxD P w K mg base N_check_axes "check_axes" s_check_axes f cdv A outer s H E).calm = true := rfl
  exact (sss_one (ss_expr (se_c c_check_whole hgu (hr.mono (by omega)) tk (sa_cons (se_var 0) (sa_cons se_int (sa_cons (se_gintE T.k_MOST_AXES) sa_nil))))))
/-! ### looks_like_cell -/
abbrev s_looks_like_cell : Stmt := top 9
def N_looks_like_cell : List Str := ["value", "axes", "number"]
def fb_looks_like_cell : FS := (fsSeq (fsIf (ftOr (ftNot (ftVal (evB (isiD errL) (faCons (evVar 0) (faCons (evC (.ty "tuple")) faNil))))) (ftVal (evOp neDX (evB lenD (faCons (evVar 0) faNil)) (evVar 1))))
 (fsRet (evC (.bl false)))
 fsNil)
 (fsRet (evOp eqDX (evLC [2] (fiOf (evVar 0) asQ) (.nm 2) (ftNot (ftVal (evCall run_is_whole [] (faCons (evVar 2) faNil)))) (evVar 2)) (evLst faNil))))
def run_looks_like_cell : FF := runP 3 2 fb_looks_like_cell
theorem sc_looks_like_cell : FnScope N_looks_like_cell ["value", "axes"] (defScope s_looks_like_cell) := ⟨rfl, rfl, rfl, by decide +kernel, rfl, by decide +kernel, by decide +kernel⟩
theorem bd_looks_like_cell {f : Addr} (T : Txt P K mg Ad) (hsy : ∃ mm, base.Ns sysModules mm) (c_is_whole : Cal P w K mg base 1 "is_whole" [] run_is_whole) : BdA P w K mg base N_looks_like_cell "looks_like_cell" s_looks_like_cell f 1 (fb_looks_like_cell) := by
  intro cdv A outer s H E hgu hr
  have tk : Takes (cxD P w K mg base N_looks_like_cell "looks_like_cell" s_looks_like_cell f cdv A outer s H E) (fun cls d _ H' => E cls d H') := takes_of rfl rfl rfl rfl
  have hp : PassesOwn (model P w) (cxD P w K mg base N_looks_like_cell "looks_like_cell" s_looks_like_cell f cdv A outer s H E).A (cxD P w K mg base N_looks_like_cell "looks_like_cell" s_looks_like_cell f cdv A outer s H E).env (cxD P w K mg base N_looks_like_cell "looks_like_cell" s_looks_like_cell f cdv A outer s H E).xe := passes_of rfl
  have hu := hr.units
  have hN : N_looks_like_cell.Nodup := sc_looks_like_cell.nd
  have hc : (cxD P w K mg base N_looks_like_cell "looks_like_cell" s_looks_like_cell f cdv A outer s H E).calm = true := rfl
  exact (sss_cons (ss_if (SW.st (sw_or (st_not (st_val (se_b (cs_isi T.errs) T.n_isinstance (by decide +kernel) (sa_cons (se_var 0) (sa_cons (se_ty T.n_tuple (by decide +kernel)) sa_nil))))) (sw_or1 (st_cmp (os_neX hu) (se_b cs_len T.n_len (by decide +kernel) (sa_cons (se_var 0) sa_nil)) (se_var 1)))))
 (sss_one (ss_ret se_bl))
 sss_nil)
 (sss_one (ss_ret (se_cmp (os_eqX hu) (se_lcIf hc hN (own := [("number", 2)]) (si_seq (se_var 0)) (BlkOk.mk (N := N_looks_like_cell) (sc := defScope s_looks_like_cell) rfl (by decide +kernel) (by decide +kernel) (by decide +kernel) (by decide +kernel)) (fun _ _ _ _ _ => (sg_nm hN)) (fun _ _ _ _ _ => (have tk := tk0; (st_not (st_val (se_c c_is_whole hgu (hr.mono (by omega)) tk (sa_cons (se_var 2) sa_nil)))))) (fun _ _ _ _ _ => (se_var 2))) (se_lst sa_nil)))))
/-! ### looks_like_loop -/
abbrev s_looks_like_loop : Stmt := top 10
def N_looks_like_loop : List Str := ["value", "axes"]
def fb_looks_like_loop : FS := (fsSeq (fsIf (ftOr (ftNot (ftVal (evB (isiD errL) (faCons (evVar 0) (faCons (evC (.ty "tuple")) faNil))))) (ftVal (evOp neDX (evB lenD (faCons (evVar 0) faNil)) (evC (.int 2)))))
 (fsRet (evC (.bl false)))
 fsNil)
 (fsRet (evAnd (evCall run_is_whole [] (faCons (evOp ixD (evVar 0) (evC (.int 0))) faNil)) (evAnd (evOp geD (evOp ixD (evVar 0) (evC (.int 0))) (evC (.int 0))) (evCall run_looks_like_cell [] (faCons (evOp ixD (evVar 0) (evC (.int 1))) (faCons (evVar 1) faNil)))))))
def run_looks_like_loop : FF := runP 2 2 fb_looks_like_loop
theorem sc_looks_like_loop : FnScope N_looks_like_loop ["value", "axes"] (defScope s_looks_like_loop) := ⟨rfl, rfl, rfl, by decide +kernel, rfl, by decide +kernel, by decide +kernel⟩
theorem bd_looks_like_loop {f : Addr} (T : Txt P K mg Ad) (hsy : ∃ mm, base.Ns sysModules mm) (c_is_whole : Cal P w K mg base 1 "is_whole" [] run_is_whole) (c_looks_like_cell : Cal P w K mg base 2 "looks_like_cell" [] run_looks_like_cell) : BdA P w K mg base N_looks_like_loop "looks_like_loop" s_looks_like_loop f 2 (fb_looks_like_loop) := by
  intro cdv A outer s H E hgu hr
  have tk : Takes (cxD P w K mg base N_looks_like_loop "looks_like_loop" s_looks_like_loop f cdv A outer s H E) (fun cls d _ H' => E cls d H') := takes_of rfl rfl rfl rfl
  have hp : PassesOwn (model P w) (cxD P w K mg base N_looks_like_loop "looks_like_loop" s_looks_like_loop f cdv A outer s H E).A (cxD P w K mg base N_looks_like_loop "looks_like_loop" s_looks_like_loop f cdv A outer s H E).env (cxD P w K mg base N_looks_like_loop "looks_like_loop" s_looks_like_loop f cdv A outer s H E).xe := passes_of rfl
  have hu := hr.units
  have hN : N_looks_like_loop.Nodup := sc_looks_like_loop.nd
  have hc : (cxD P w K mg base N_looks_like_loop "looks_like_loop" s_looks_like_loop f cdv A outer s H E).calm = true := rfl
  exact (sss_cons (ss_if (SW.st (sw_or (st_not (st_val (se_b (cs_isi T.errs) T.n_isinstance (by decide +kernel) (sa_cons (se_var 0) (sa_cons (se_ty T.n_tuple (by decide +kernel)) sa_nil))))) (sw_or1 (st_cmp (os_neX hu) (se_b cs_len T.n_len (by decide +kernel) (sa_cons (se_var 0) sa_nil)) se_int))))
 (sss_one (ss_ret se_bl))
 sss_nil)
 (sss_one (ss_ret (se_and (se_c c_is_whole hgu (hr.mono (by omega)) tk (sa_cons (se_ix is_ix (se_var 0) se_int) sa_nil)) (se_and (se_cmp os_ge (se_ix is_ix (se_var 0) se_int) se_int) (se_one (se_c c_looks_like_cell hgu (hr.mono (by omega)) tk (sa_cons (se_ix is_ix (se_var 0) se_int) (sa_cons (se_var 1) sa_nil)))))))))
/-! ### looks_like_nest -/
abbrev s_looks_like_nest : Stmt := top 11
def N_looks_like_nest : List Str := ["value", "axes", "loop"]
def fb_looks_like_nest : FS := (fsSeq (fsIf (ftOr (ftNot (ftVal (evB (isiD errL) (faCons (evVar 0) (faCons (evC (.ty "tuple")) faNil))))) (ftOr (ftVal (evOp neDX (evB lenD (faCons (evVar 0) faNil)) (evC (.int 3)))) (ftNot (ftVal (evB (isiD errL) (faCons (evOp ixD (evVar 0) (evC (.int 0))) (faCons (evC (.ty "list")) faNil)))))))
 (fsRet (evC (.bl false)))
 fsNil)
 (fsSeq (fsIf (ftVal (evOp neDX (evLC [2] (fiOf (evOp ixD (evVar 0) (evC (.int 0))) asQ) (.nm 2) (ftNot (ftVal (evCall run_looks_like_loop [] (faCons (evVar 2) (faCons (evVar 1) faNil))))) (evVar 2)) (evLst faNil)))
 (fsRet (evC (.bl false)))
 fsNil)
 (fsRet (evAnd (evCall run_looks_like_cell [] (faCons (evOp ixD (evVar 0) (evC (.int 1))) (faCons (evVar 1) faNil))) (evCall run_is_whole [] (faCons (evOp ixD (evVar 0) (evC (.int 2))) faNil))))))
def run_looks_like_nest : FF := runP 3 2 fb_looks_like_nest
theorem sc_looks_like_nest : FnScope N_looks_like_nest ["value", "axes"] (defScope s_looks_like_nest) := ⟨rfl, rfl, rfl, by decide +kernel, rfl, by decide +kernel, by decide +kernel⟩
theorem bd_looks_like_nest {f : Addr} (T : Txt P K mg Ad) (hsy : ∃ mm, base.Ns sysModules mm) (c_is_whole : Cal P w K mg base 1 "is_whole" [] run_is_whole) (c_looks_like_cell : Cal P w K mg base 2 "looks_like_cell" [] run_looks_like_cell) (c_looks_like_loop : Cal P w K mg base 3 "looks_like_loop" [] run_looks_like_loop) : BdA P w K mg base N_looks_like_nest "looks_like_nest" s_looks_like_nest f 3 (fb_looks_like_nest) := by
  intro cdv A outer s H E hgu hr
  have tk : Takes (cxD P w K mg base N_looks_like_nest "looks_like_nest" s_looks_like_nest f cdv A outer s H E) (fun cls d _ H' => E cls d H') := takes_of rfl rfl rfl rfl
  have hp : PassesOwn (model P w) (cxD P w K mg base N_looks_like_nest "looks_like_nest" s_looks_like_nest f cdv A outer s H E).A (cxD P w K mg base N_looks_like_nest "looks_like_nest" s_looks_like_nest f cdv A outer s H E).env (cxD P w K mg base N_looks_like_nest "looks_like_nest" s_looks_like_nest f cdv A outer s H E).xe := passes_of rfl
  have hu := hr.units
  have hN : N_looks_like_nest.Nodup := sc_looks_like_nest.nd
  have hc : (cxD P w K mg base N_looks_like_nest "looks_like_nest" s_looks_like_nest f cdv A outer s H E).calm = true := rfl
  exact (sss_cons (ss_if (SW.st (sw_or (st_not (st_val (se_b (cs_isi T.errs) T.n_isinstance (by decide +kernel) (sa_cons (se_var 0) (sa_cons (se_ty T.n_tuple (by decide +kernel)) sa_nil))))) (sw_or (st_cmp (os_neX hu) (se_b cs_len T.n_len (by decide +kernel) (sa_cons (se_var 0) sa_nil)) se_int) (sw_or1 (st_not (st_val (se_b (cs_isi T.errs) T.n_isinstance (by decide +kernel) (sa_cons (se_ix is_ix (se_var 0) se_int) (sa_cons (se_ty T.n_list (by decide +kernel)) sa_nil)))))))))
 (sss_one (ss_ret se_bl))
 sss_nil)
 (sss_cons (ss_if (st_cmp (os_neX hu) (se_lcIf hc hN (own := [("loop", 2)]) (si_seq (se_ix is_ix (se_var 0) se_int)) (BlkOk.mk (N := N_looks_like_nest) (sc := defScope s_looks_like_nest) rfl (by decide +kernel) (by decide +kernel) (by decide +kernel) (by decide +kernel)) (fun _ _ _ _ _ => (sg_nm hN)) (fun _ _ _ _ _ => (have tk := tk0; (st_not (st_val (se_c c_looks_like_loop hgu (hr.mono (by omega)) tk (sa_cons (se_var 2) (sa_cons (se_var 1) sa_nil))))))) (fun _ _ _ _ _ => (se_var 2))) (se_lst sa_nil))
 (sss_one (ss_ret se_bl))
 sss_nil)
 (sss_one (ss_ret (se_and (se_c c_looks_like_cell hgu (hr.mono (by omega)) tk (sa_cons (se_ix is_ix (se_var 0) se_int) (sa_cons (se_var 1) sa_nil))) (se_one (se_c c_is_whole hgu (hr.mono (by omega)) tk (sa_cons (se_ix is_ix (se_var 0) se_int) sa_nil))))))))
/-! ### is_cell -/
abbrev s_is_cell : Stmt := top 12
def N_is_cell : List Str := ["value", "axes"]
def fb_is_cell : FS := (fsSeq (fsExpr (evCall run_check_axes [] (faCons (evVar 1) faNil)))
 (fsRet (evCall run_looks_like_cell [] (faCons (evVar 0) (faCons (evVar 1) faNil)))))
def run_is_cell : FF := runP 2 2 fb_is_cell
theorem sc_is_cell : FnScope N_is_cell ["value", "axes"] (defScope s_is_cell) := ⟨rfl, rfl, rfl, by decide +kernel, rfl, by decide +kernel, by decide +kernel⟩
theorem bd_is_cell {f : Addr} (T : Txt P K mg Ad) (hsy : ∃ mm, base.Ns sysModules mm) (c_check_axes : Cal P w K mg base 3 "check_axes" [] run_check_axes) (c_looks_like_cell : Cal P w K mg base 2 "looks_like_cell" [] run_looks_like_cell) : BdA P w K mg base N_is_cell "is_cell" s_is_cell f 3 (fb_is_cell) := by
  intro cdv A outer s H E hgu hr
  have tk : Takes (cxD P w K mg base N_is_cell "is_cell" s_is_cell f cdv A outer s H E) (fun cls d _ H' => E cls d H') := takes_of rfl rfl rfl rfl
  have hp : PassesOwn (model P w) (cxD P w K mg base N_is_cell "is_cell" s_is_cell f cdv A outer s H E).A (cxD P w K mg base N_is_cell "is_cell" s_is_cell f cdv A outer s H E).env (cxD P w K mg base N_is_cell "is_cell" s_is_cell f cdv A outer s H E).xe := passes_of rfl
  have hu := hr.units
  have hN : N_is_cell.Nodup := sc_is_cell.nd
  have hc : (cxD P w K mg base N_is_cell "is_cell" s_is_cell f cdv A outer s H E).calm = true := rfl
  exact (sss_cons (ss_expr (se_c c_check_axes hgu (hr.mono (by omega)) tk (sa_cons (se_var 1) sa_nil)))
 (sss_one (ss_ret (se_c c_looks_like_cell hgu (hr.mono (by omega)) tk (sa_cons (se_var 0) (sa_cons (se_var 1) sa_nil))))))
/-! ### is_nest -/
abbrev s_is_nest : Stmt := top 13
def N_is_nest : List Str := ["value", "axes"]
def fb_is_nest : FS := (fsSeq (fsExpr (evCall run_check_axes [] (faCons (evVar 1) faNil)))
 (fsRet (evCall run_looks_like_nest [] (faCons (evVar 0) (faCons (evVar 1) faNil)))))
def run_is_nest : FF := runP 2 2 fb_is_nest
theorem sc_is_nest : FnScope N_is_nest ["value", "axes"] (defScope s_is_nest) := ⟨rfl, rfl, rfl, by decide +kernel, rfl, by decide +kernel, by decide +kernel⟩
theorem bd_is_nest {f : Addr} (T : Txt P K mg Ad) (hsy : ∃ mm, base.Ns sysModules mm) (c_check_axes : Cal P w K mg base 3 "check_axes" [] run_check_axes) (c_looks_like_nest : Cal P w K mg base 4 "looks_like_nest" [] run_looks_like_nest) : BdA P w K mg base N_is_nest "is_nest" s_is_nest f 4 (fb_is_nest) := by
  intro cdv A outer s H E hgu hr
  have tk : Takes (cxD P w K mg base N_is_nest "is_nest" s_is_nest f cdv A outer s H E) (fun cls d _ H' => E cls d H') := takes_of rfl rfl rfl rfl
  have hp : PassesOwn (model P w) (cxD P w K mg base N_is_nest "is_nest" s_is_nest f cdv A outer s H E).A (cxD P w K mg base N_is_nest "is_nest" s_is_nest f cdv A outer s H E).env (cxD P w K mg base N_is_nest "is_nest" s_is_nest f cdv A outer s H E).xe := passes_of rfl
  have hu := hr.units
  have hN : N_is_nest.Nodup := sc_is_nest.nd
  have hc : (cxD P w K mg base N_is_nest "is_nest" s_is_nest f cdv A outer s H E).calm = true := rfl
  exact (sss_cons (ss_expr (se_c c_check_axes hgu (hr.mono (by omega)) tk (sa_cons (se_var 1) sa_nil)))
 (sss_one (ss_ret (se_c c_looks_like_nest hgu (hr.mono (by omega)) tk (sa_cons (se_var 0) (sa_cons (se_var 1) sa_nil))))))
/-! ### _law_mixed -/
abbrev s__law_mixed : Stmt := top 15
def N__law_mixed : List Str := ["_law_cell", "_law_k", "_law_number"]
def fb__law_mixed : FS := (fsSeq (fsSet 2 (evOp modD (evOp addD (evOp addD (evOp addD (evOp mulD (evVar 0) (evC (.int 1103515245))) (evOp mulD (evOp mulD (evC (.int 7919)) (evVar 1)) (evVar 1))) (evVar 1)) (evC (.int 1))) (evC (.int 2147483647))))
 (fsSeq (fsSet 2 (evOp modD (evOp addD (evOp mulD (evVar 2) (evVar 2)) (evC (.int 69621))) (evC (.int 2147483629))))
 (fsRet (evOp modD (evOp mulD (evVar 2) (evC (.int 48271))) (evC (.int 2147483587))))))
def run__law_mixed : FF := runP 3 2 fb__law_mixed
theorem sc__law_mixed : FnScope N__law_mixed ["_law_cell", "_law_k"] (defScope s__law_mixed) := ⟨rfl, rfl, rfl, by decide +kernel, rfl, by decide +kernel, by decide +kernel⟩
theorem bd__law_mixed {f : Addr} (T : Txt P K mg Ad) (hsy : ∃ mm, base.Ns sysModules mm) : BdA P w K mg base N__law_mixed "_law_mixed" s__law_mixed f 0 (fb__law_mixed) := by
  intro cdv A outer s H E hgu hr
  have tk : Takes (cxD P w K mg base N__law_mixed "_law_mixed" s__law_mixed f cdv A outer s H E) (fun cls d _ H' => E cls d H') := takes_of rfl rfl rfl rfl
  have hp : PassesOwn (model P w) (cxD P w K mg base N__law_mixed "_law_mixed" s__law_mixed f cdv A outer s H E).A (cxD P w K mg base N__law_mixed "_law_mixed" s__law_mixed f cdv A outer s H E).env (cxD P w K mg base N__law_mixed "_law_mixed" s__law_mixed f cdv A outer s H E).xe := passes_of rfl
  have hu := hr.units
  have hN : N__law_mixed.Nodup := sc__law_mixed.nd
  have hc : (cxD P w K mg base N__law_mixed "_law_mixed" s__law_mixed f cdv A outer s H E).calm = true := rfl
  exact (sss_cons (ss_set (i := 2) hN (se_op os_mod (se_op os_add (se_op os_add (se_op os_add (se_op os_mul (se_var 0) se_int) (se_op os_mul (se_op os_mul se_int (se_var 1)) (se_var 1))) (se_var 1)) se_int) se_int))
 (sss_cons (ss_set (i := 2) hN (se_op os_mod (se_op os_add (se_op os_mul (se_var 2) (se_var 2)) se_int) se_int))
 (sss_one (ss_ret (se_op os_mod (se_op os_mul (se_var 2) se_int) se_int)))))
/-! ### _law_purse -/
abbrev s__law_purse : Stmt := top 16
def N__law_purse : List Str := ["_law_script", "_law_at", "_law_cell"]
def fb__law_purse : FS := (fsSeq (fsSet 2 (evB sumD (faCons (evSl (evVar 0) (foS (evVar 1)) (foS (evOp addD (evVar 1) (evC (.int 1))))) faNil)))
 (fsRet (evLst (faCons (evOp modD (evB maxD (faCons (evOp subD (evVar 2) (evOp powD (evC (.int 10)) (evC (.int 18)))) (faCons (evC (.int 0)) faNil))) (evOp powD (evOp powD (evC (.int 10)) (evC (.int 60))) (evC (.int 10)))) (faCons (evOp modD (evVar 2) (evC (.int 2147483647))) (faCons (evOp mulD (evC (.int 1000)) (evVar 1)) faNil))))))
def run__law_purse : FF := runP 3 2 fb__law_purse
theorem sc__law_purse : FnScope N__law_purse ["_law_script", "_law_at"] (defScope s__law_purse) := ⟨rfl, rfl, rfl, by decide +kernel, rfl, by decide +kernel, by decide +kernel⟩
theorem bd__law_purse {f : Addr} (T : Txt P K mg Ad) (hsy : ∃ mm, base.Ns sysModules mm) : BdA P w K mg base N__law_purse "_law_purse" s__law_purse f 0 (fb__law_purse) := by
  intro cdv A outer s H E hgu hr
  have tk : Takes (cxD P w K mg base N__law_purse "_law_purse" s__law_purse f cdv A outer s H E) (fun cls d _ H' => E cls d H') := takes_of rfl rfl rfl rfl
  have hp : PassesOwn (model P w) (cxD P w K mg base N__law_purse "_law_purse" s__law_purse f cdv A outer s H E).A (cxD P w K mg base N__law_purse "_law_purse" s__law_purse f cdv A outer s H E).env (cxD P w K mg base N__law_purse "_law_purse" s__law_purse f cdv A outer s H E).xe := passes_of rfl
  have hu := hr.units
  have hN : N__law_purse.Nodup := sc__law_purse.nd
  have hc : (cxD P w K mg base N__law_purse "_law_purse" s__law_purse f cdv A outer s H E).calm = true := rfl
  exact (sss_cons (ss_set (i := 2) hN (se_b (cs_sum hc) T.n_sum (by decide +kernel) (sa_cons (se_sl (se_var 0) (so_some (se_var 1)) (so_some (se_op os_add (se_var 1) se_int))) sa_nil)))
 (sss_one (ss_ret (se_lst (sa_cons (se_op os_mod (se_b (cs_max hc) T.n_max (by decide +kernel) (sa_cons (se_op os_sub (se_var 2) (se_op os_pow se_int se_int)) (sa_cons se_int sa_nil))) (se_op os_pow (se_op os_pow se_int se_int) se_int)) (sa_cons (se_op os_mod (se_var 2) se_int) (sa_cons (se_op os_mul se_int (se_var 1)) sa_nil)))))))
/-! ### _law_draw -/
abbrev s__law_draw : Stmt := top 17
def N__law_draw : List Str := ["_law_purse_here", "_law_out_of", "_law_number", "_law_k", "_law_drawn"]
def fb__law_draw : FS := (fsSeq (fsIf (ftVal (evOp gtD (evOp ixD (evVar 0) (evC (.int 0))) (evC (.int 0))))
 (fsSeq (fsSet 4 (evOp modD (evOp ixD (evVar 0) (evC (.int 0))) (evVar 1)))
 (fsSeq (fsPut putL (evVar 0) (evC (.int 0)) (evOp divD (evOp ixD (evVar 0) (evC (.int 0))) (evVar 1)))
 (fsRet (evVar 4))))
 fsNil)
 (fsSeq (fsSet 2 (evC (.int 0)))
 (fsSeq (fsFor (fiA (faCons (evOp addD (evC (.int 1)) (evOp divD (evUn bitsD (evVar 1)) (evC (.int 30)))) faNil) rng1) (.nm 3)
 (fsSeq (fsPut putL (evVar 0) (evC (.int 2)) (evOp addD (evOp ixD (evVar 0) (evC (.int 2))) (evC (.int 1))))
 (fsSet 2 (evOp addD (evOp mulD (evVar 2) (evC (.int 2147483587))) (evCall run__law_mixed [] (faCons (evOp ixD (evVar 0) (evC (.int 1))) (faCons (evOp ixD (evVar 0) (evC (.int 2))) faNil)))))))
 (fsRet (evOp modD (evVar 2) (evVar 1))))))
def run__law_draw : FF := runP 5 2 fb__law_draw
theorem sc__law_draw : FnScope N__law_draw ["_law_purse_here", "_law_out_of"] (defScope s__law_draw) := ⟨rfl, rfl, rfl, by decide +kernel, rfl, by decide +kernel, by decide +kernel⟩
theorem bd__law_draw {f : Addr} (T : Txt P K mg Ad) (hsy : ∃ mm, base.Ns sysModules mm) (c__law_mixed : Cal P w K mg base 1 "_law_mixed" [] run__law_mixed) : BdA P w K mg base N__law_draw "_law_draw" s__law_draw f 1 (fb__law_draw) := by
  intro cdv A outer s H E hgu hr
  have tk : Takes (cxD P w K mg base N__law_draw "_law_draw" s__law_draw f cdv A outer s H E) (fun cls d _ H' => E cls d H') := takes_of rfl rfl rfl rfl
  have hp : PassesOwn (model P w) (cxD P w K mg base N__law_draw "_law_draw" s__law_draw f cdv A outer s H E).A (cxD P w K mg base N__law_draw "_law_draw" s__law_draw f cdv A outer s H E).env (cxD P w K mg base N__law_draw "_law_draw" s__law_draw f cdv A outer s H E).xe := passes_of rfl
  have hu := hr.units
  have hN : N__law_draw.Nodup := sc__law_draw.nd
  have hc : (cxD P w K mg base N__law_draw "_law_draw" s__law_draw f cdv A outer s H E).calm = true := rfl
  exact (sss_cons (ss_if (st_cmp os_gt (se_ix is_ix (se_var 0) se_int) se_int)
 (sss_cons (ss_set (i := 4) hN (se_op os_mod (se_ix is_ix (se_var 0) se_int) (se_var 1)))
 (sss_cons (ss_put set_list ps_putL (se_var 0) (se_op os_div (se_ix is_ix (se_var 0) se_int) (se_var 1)) se_int)
 (sss_one (ss_ret (se_var 4)))))
 sss_nil)
 (sss_cons (ss_set (i := 2) hN se_int)
 (sss_cons (ss_for hp hc (si_range1 T.n_range (sa_cons (se_op os_add se_int (se_op os_div (se_bits (se_var 1)) se_int)) sa_nil)) (sg_nm hN)
 (sss_cons (ss_put set_list ps_putL (se_var 0) (se_op os_add (se_ix is_ix (se_var 0) se_int) se_int) se_int)
 (sss_one (ss_set (i := 2) hN (se_op os_add (se_op os_mul (se_var 2) se_int) (se_c c__law_mixed hgu (hr.mono (by omega)) tk (sa_cons (se_ix is_ix (se_var 0) se_int) (sa_cons (se_ix is_ix (se_var 0) se_int) sa_nil))))))))
 (sss_one (ss_ret (se_op os_mod (se_var 2) (se_var 1)))))))
/-! ### _law_cell_drawn -/
abbrev s__law_cell_drawn : Stmt := top 18
def N__law_cell_drawn : List Str := ["_law_purse_here", "_law_axes", "_law_wide", "_law_axis"]
def fb__law_cell_drawn : FS := (fsRet (evB tupleD (faCons (evLC [3] (fiA (faCons (evVar 1) faNil) rng1) (.nm 3) ftYes (evOp subD (evCall run__law_draw [] (faCons (evVar 0) (faCons (evOp addD (evOp mulD (evC (.int 2)) (evVar 2)) (evC (.int 1))) faNil))) (evVar 2))) faNil)))
def run__law_cell_drawn : FF := runP 4 3 fb__law_cell_drawn
theorem sc__law_cell_drawn : FnScope N__law_cell_drawn ["_law_purse_here", "_law_axes", "_law_wide"] (defScope s__law_cell_drawn) := ⟨rfl, rfl, rfl, by decide +kernel, rfl, by decide +kernel, by decide +kernel⟩
theorem bd__law_cell_drawn {f : Addr} (T : Txt P K mg Ad) (hsy : ∃ mm, base.Ns sysModules mm) (c__law_draw : Cal P w K mg base 2 "_law_draw" [] run__law_draw) : BdA P w K mg base N__law_cell_drawn "_law_cell_drawn" s__law_cell_drawn f 2 (fb__law_cell_drawn) := by
  intro cdv A outer s H E hgu hr
  have tk : Takes (cxD P w K mg base N__law_cell_drawn "_law_cell_drawn" s__law_cell_drawn f cdv A outer s H E) (fun cls d _ H' => E cls d H') := takes_of rfl rfl rfl rfl
  have hp : PassesOwn (model P w) (cxD P w K mg base N__law_cell_drawn "_law_cell_drawn" s__law_cell_drawn f cdv A outer s H E).A (cxD P w K mg base N__law_cell_drawn "_law_cell_drawn" s__law_cell_drawn f cdv A outer s H E).env (cxD P w K mg base N__law_cell_drawn "_law_cell_drawn" s__law_cell_drawn f cdv A outer s H E).xe := passes_of rfl
  have hu := hr.units
  have hN : N__law_cell_drawn.Nodup := sc__law_cell_drawn.nd
  have hc : (cxD P w K mg base N__law_cell_drawn "_law_cell_drawn" s__law_cell_drawn f cdv A outer s H E).calm = true := rfl
  exact (sss_one (ss_ret (se_bt cs_tuple T.n_tuple (by decide +kernel) (sa_cons (se_lc hc hN (own := [("_law_axis", 3)]) (si_range1 T.n_range (sa_cons (se_var 1) sa_nil)) (BlkOk.mk (N := N__law_cell_drawn) (sc := defScope s__law_cell_drawn) rfl (by decide +kernel) (by decide +kernel) (by decide +kernel) (by decide +kernel)) (fun _ _ _ _ _ => (sg_nm hN)) (fun _ _ _ _ _ => (have tk := tk0; (se_op os_sub (se_c c__law_draw hgu (hr.mono (by omega)) tk (sa_cons (se_var 0) (sa_cons (se_op os_add (se_op os_mul se_int (se_var 2)) se_int) sa_nil))) (se_var 2))))) sa_nil))))
/-! ### _law_nest_drawn -/
abbrev s__law_nest_drawn : Stmt := top 19
def N__law_nest_drawn : List Str := ["_law_purse_here", "_law_axes", "_law_most", "_law_counts_to", "_law_wide", "_law_loops", "_law_turn"]
def fb__law_nest_drawn : FS := (fsSeq (fsSet 5 (evLst faNil))
 (fsSeq (fsFor (fiA (faCons (evCall run__law_draw [] (faCons (evVar 0) (faCons (evOp addD (evVar 2) (evC (.int 1))) faNil))) faNil) rng1) (.nm 6)
 (fsExpr (evM appD (evVar 5) (faCons (evTup (faCons (evCall run__law_draw [] (faCons (evVar 0) (faCons (evVar 3) faNil))) (faCons (evCall run__law_cell_drawn [] (faCons (evVar 0) (faCons (evVar 1) (faCons (evVar 4) faNil)))) faNil))) faNil))))
 (fsRet (evTup (faCons (evVar 5) (faCons (evCall run__law_cell_drawn [] (faCons (evVar 0) (faCons (evVar 1) (faCons (evOp mulD (evC (.int 2)) (evVar 4)) faNil)))) (faCons (evOp subD (evCall run__law_draw [] (faCons (evVar 0) (faCons (evC (.int 7)) faNil))) (evC (.int 3))) faNil)))))))
def run__law_nest_drawn : FF := runP 7 5 fb__law_nest_drawn
theorem sc__law_nest_drawn : FnScope N__law_nest_drawn ["_law_purse_here", "_law_axes", "_law_most", "_law_counts_to", "_law_wide"] (defScope s__law_nest_drawn) := ⟨rfl, rfl, rfl, by decide +kernel, rfl, by decide +kernel, by decide +kernel⟩
theorem bd__law_nest_drawn {f : Addr} (T : Txt P K mg Ad) (hsy : ∃ mm, base.Ns sysModules mm) (c__law_cell_drawn : Cal P w K mg base 3 "_law_cell_drawn" [] run__law_cell_drawn) (c__law_draw : Cal P w K mg base 2 "_law_draw" [] run__law_draw) : BdA P w K mg base N__law_nest_drawn "_law_nest_drawn" s__law_nest_drawn f 3 (fb__law_nest_drawn) := by
  intro cdv A outer s H E hgu hr
  have tk : Takes (cxD P w K mg base N__law_nest_drawn "_law_nest_drawn" s__law_nest_drawn f cdv A outer s H E) (fun cls d _ H' => E cls d H') := takes_of rfl rfl rfl rfl
  have hp : PassesOwn (model P w) (cxD P w K mg base N__law_nest_drawn "_law_nest_drawn" s__law_nest_drawn f cdv A outer s H E).A (cxD P w K mg base N__law_nest_drawn "_law_nest_drawn" s__law_nest_drawn f cdv A outer s H E).env (cxD P w K mg base N__law_nest_drawn "_law_nest_drawn" s__law_nest_drawn f cdv A outer s H E).xe := passes_of rfl
  have hu := hr.units
  have hN : N__law_nest_drawn.Nodup := sc__law_nest_drawn.nd
  have hc : (cxD P w K mg base N__law_nest_drawn "_law_nest_drawn" s__law_nest_drawn f cdv A outer s H E).calm = true := rfl
  exact (sss_cons (ss_set (i := 5) hN (se_lst sa_nil))
 (sss_cons (ss_for hp hc (si_range1 T.n_range (sa_cons (se_c c__law_draw hgu (hr.mono (by omega)) tk (sa_cons (se_var 0) (sa_cons (se_op os_add (se_var 2) se_int) sa_nil))) sa_nil)) (sg_nm hN)
 (sss_one (ss_expr (se_app (se_var 5) (sa_cons (se_tup (sa_cons (se_c c__law_draw hgu (hr.mono (by omega)) tk (sa_cons (se_var 0) (sa_cons (se_var 3) sa_nil))) (sa_cons (se_c c__law_cell_drawn hgu (hr.mono (by omega)) tk (sa_cons (se_var 0) (sa_cons (se_var 1) (sa_cons (se_var 4) sa_nil)))) sa_nil))) sa_nil)))))
 (sss_one (ss_ret (se_tup (sa_cons (se_var 5) (sa_cons (se_c c__law_cell_drawn hgu (hr.mono (by omega)) tk (sa_cons (se_var 0) (sa_cons (se_var 1) (sa_cons (se_op os_mul se_int (se_var 4)) sa_nil)))) (sa_cons (se_op os_sub (se_c c__law_draw hgu (hr.mono (by omega)) tk (sa_cons (se_var 0) (sa_cons se_int sa_nil))) se_int) sa_nil))))))))
/-! ### _law_whole -/
abbrev s__law_whole : Stmt := top 20
def N__law_whole : List Str := ["_law_thing"]
def fb__law_whole : FS := (fsRet (evAnd (evB (isiD errL) (faCons (evVar 0) (faCons (evC (.ty "int")) faNil))) (evNot (evB (isiD errL) (faCons (evVar 0) (faCons (evC (.ty "bool")) faNil))))))
def run__law_whole : FF := runP 1 1 fb__law_whole
theorem sc__law_whole : FnScope N__law_whole ["_law_thing"] (defScope s__law_whole) := ⟨rfl, rfl, rfl, by decide +kernel, rfl, by decide +kernel, by decide +kernel⟩
theorem bd__law_whole {f : Addr} (T : Txt P K mg Ad) (hsy : ∃ mm, base.Ns sysModules mm) : BdA P w K mg base N__law_whole "_law_whole" s__law_whole f 0 (fb__law_whole) := by
  intro cdv A outer s H E hgu hr
  have tk : Takes (cxD P w K mg base N__law_whole "_law_whole" s__law_whole f cdv A outer s H E) (fun cls d _ H' => E cls d H') := takes_of rfl rfl rfl rfl
  have hp : PassesOwn (model P w) (cxD P w K mg base N__law_whole "_law_whole" s__law_whole f cdv A outer s H E).A (cxD P w K mg base N__law_whole "_law_whole" s__law_whole f cdv A outer s H E).env (cxD P w K mg base N__law_whole "_law_whole" s__law_whole f cdv A outer s H E).xe := passes_of rfl
  have hu := hr.units
  have hN : N__law_whole.Nodup := sc__law_whole.nd
  have hc : (cxD P w K mg base N__law_whole "_law_whole" s__law_whole f cdv A outer s H E).calm = true := rfl
  exact (sss_one (ss_ret (se_and (se_b (cs_isi T.errs) T.n_isinstance (by decide +kernel) (sa_cons (se_var 0) (sa_cons (se_ty T.n_int (by decide +kernel)) sa_nil))) (se_one (se_not (se_b (cs_isi T.errs) T.n_isinstance (by decide +kernel) (sa_cons (se_var 0) (sa_cons (se_ty T.n_bool (by decide +kernel)) sa_nil))))))))
/-! ### _law_is_cell -/
abbrev s__law_is_cell : Stmt := top 21
def N__law_is_cell : List Str := ["_law_thing", "_law_many", "_law_number"]
def fb__law_is_cell : FS := (fsSeq (fsIf (ftOr (ftNot (ftVal (evB (isiD errL) (faCons (evVar 0) (faCons (evC (.ty "tuple")) faNil))))) (ftVal (evOp neDX (evB lenD (faCons (evVar 0) faNil)) (evVar 1))))
 (fsRet (evC (.bl false)))
 fsNil)
 (fsRet (evOp eqDX (evLC [2] (fiOf (evVar 0) asQ) (.nm 2) (ftNot (ftVal (evCall run__law_whole [] (faCons (evVar 2) faNil)))) (evVar 2)) (evLst faNil))))
def run__law_is_cell : FF := runP 3 2 fb__law_is_cell
theorem sc__law_is_cell : FnScope N__law_is_cell ["_law_thing", "_law_many"] (defScope s__law_is_cell) := ⟨rfl, rfl, rfl, by decide +kernel, rfl, by decide +kernel, by decide +kernel⟩
theorem bd__law_is_cell {f : Addr} (T : Txt P K mg Ad) (hsy : ∃ mm, base.Ns sysModules mm) (c__law_whole : Cal P w K mg base 1 "_law_whole" [] run__law_whole) : BdA P w K mg base N__law_is_cell "_law_is_cell" s__law_is_cell f 1 (fb__law_is_cell) := by
  intro cdv A outer s H E hgu hr
  have tk : Takes (cxD P w K mg base N__law_is_cell "_law_is_cell" s__law_is_cell f cdv A outer s H E) (fun cls d _ H' => E cls d H') := takes_of rfl rfl rfl rfl
  have hp : PassesOwn (model P w) (cxD P w K mg base N__law_is_cell "_law_is_cell" s__law_is_cell f cdv A outer s H E).A (cxD P w K mg base N__law_is_cell "_law_is_cell" s__law_is_cell f cdv A outer s H E).env (cxD P w K mg base N__law_is_cell "_law_is_cell" s__law_is_cell f cdv A outer s H E).xe := passes_of rfl
  have hu := hr.units
  have hN : N__law_is_cell.Nodup := sc__law_is_cell.nd
  have hc : (cxD P w K mg base N__law_is_cell "_law_is_cell" s__law_is_cell f cdv A outer s H E).calm = true := rfl
  exact (sss_cons (ss_if (SW.st (sw_or (st_not (st_val (se_b (cs_isi T.errs) T.n_isinstance (by decide +kernel) (sa_cons (se_var 0) (sa_cons (se_ty T.n_tuple (by decide +kernel)) sa_nil))))) (sw_or1 (st_cmp (os_neX hu) (se_b cs_len T.n_len (by decide +kernel) (sa_cons (se_var 0) sa_nil)) (se_var 1)))))
 (sss_one (ss_ret se_bl))
 sss_nil)
 (sss_one (ss_ret (se_cmp (os_eqX hu) (se_lcIf hc hN (own := [("_law_number", 2)]) (si_seq (se_var 0)) (BlkOk.mk (N := N__law_is_cell) (sc := defScope s__law_is_cell) rfl (by decide +kernel) (by decide +kernel) (by decide +kernel) (by decide +kernel)) (fun _ _ _ _ _ => (sg_nm hN)) (fun _ _ _ _ _ => (have tk := tk0; (st_not (st_val (se_c c__law_whole hgu (hr.mono (by omega)) tk (sa_cons (se_var 2) sa_nil)))))) (fun _ _ _ _ _ => (se_var 2))) (se_lst sa_nil)))))
/-! ### _law_is_loop -/
abbrev s__law_is_loop : Stmt := top 22
def N__law_is_loop : List Str := ["_law_thing", "_law_many"]
def fb__law_is_loop : FS := (fsSeq (fsIf (ftOr (ftNot (ftVal (evB (isiD errL) (faCons (evVar 0) (faCons (evC (.ty "tuple")) faNil))))) (ftOr (ftVal (evOp neDX (evB lenD (faCons (evVar 0) faNil)) (evC (.int 2)))) (ftNot (ftVal (evCall run__law_whole [] (faCons (evOp ixD (evVar 0) (evC (.int 0))) faNil))))))
 (fsRet (evC (.bl false)))
 fsNil)
 (fsRet (evAnd (evOp geD (evOp ixD (evVar 0) (evC (.int 0))) (evC (.int 0))) (evCall run__law_is_cell [] (faCons (evOp ixD (evVar 0) (evC (.int 1))) (faCons (evVar 1) faNil))))))
def run__law_is_loop : FF := runP 2 2 fb__law_is_loop
theorem sc__law_is_loop : FnScope N__law_is_loop ["_law_thing", "_law_many"] (defScope s__law_is_loop) := ⟨rfl, rfl, rfl, by decide +kernel, rfl, by decide +kernel, by decide +kernel⟩
theorem bd__law_is_loop {f : Addr} (T : Txt P K mg Ad) (hsy : ∃ mm, base.Ns sysModules mm) (c__law_is_cell : Cal P w K mg base 2 "_law_is_cell" [] run__law_is_cell) (c__law_whole : Cal P w K mg base 1 "_law_whole" [] run__law_whole) : BdA P w K mg base N__law_is_loop "_law_is_loop" s__law_is_loop f 2 (fb__law_is_loop) := by
  intro cdv A outer s H E hgu hr
  have tk : Takes (cxD P w K mg base N__law_is_loop "_law_is_loop" s__law_is_loop f cdv A outer s H E) (fun cls d _ H' => E cls d H') := takes_of rfl rfl rfl rfl
  have hp : PassesOwn (model P w) (cxD P w K mg base N__law_is_loop "_law_is_loop" s__law_is_loop f cdv A outer s H E).A (cxD P w K mg base N__law_is_loop "_law_is_loop" s__law_is_loop f cdv A outer s H E).env (cxD P w K mg base N__law_is_loop "_law_is_loop" s__law_is_loop f cdv A outer s H E).xe := passes_of rfl
  have hu := hr.units
  have hN : N__law_is_loop.Nodup := sc__law_is_loop.nd
  have hc : (cxD P w K mg base N__law_is_loop "_law_is_loop" s__law_is_loop f cdv A outer s H E).calm = true := rfl
  exact (sss_cons (ss_if (SW.st (sw_or (st_not (st_val (se_b (cs_isi T.errs) T.n_isinstance (by decide +kernel) (sa_cons (se_var 0) (sa_cons (se_ty T.n_tuple (by decide +kernel)) sa_nil))))) (sw_or (st_cmp (os_neX hu) (se_b cs_len T.n_len (by decide +kernel) (sa_cons (se_var 0) sa_nil)) se_int) (sw_or1 (st_not (st_val (se_c c__law_whole hgu (hr.mono (by omega)) tk (sa_cons (se_ix is_ix (se_var 0) se_int) sa_nil))))))))
 (sss_one (ss_ret se_bl))
 sss_nil)
 (sss_one (ss_ret (se_and (se_cmp os_ge (se_ix is_ix (se_var 0) se_int) se_int) (se_one (se_c c__law_is_cell hgu (hr.mono (by omega)) tk (sa_cons (se_ix is_ix (se_var 0) se_int) (sa_cons (se_var 1) sa_nil))))))))
/-! ### _law_is_nest -/
abbrev s__law_is_nest : Stmt := top 23
def N__law_is_nest : List Str := ["_law_thing", "_law_many", "_law_loop"]
def fb__law_is_nest : FS := (fsSeq (fsIf (ftOr (ftNot (ftVal (evB (isiD errL) (faCons (evVar 0) (faCons (evC (.ty "tuple")) faNil))))) (ftOr (ftVal (evOp neDX (evB lenD (faCons (evVar 0) faNil)) (evC (.int 3)))) (ftNot (ftVal (evB (isiD errL) (faCons (evOp ixD (evVar 0) (evC (.int 0))) (faCons (evC (.ty "list")) faNil)))))))
 (fsRet (evC (.bl false)))
 fsNil)
 (fsSeq (fsIf (ftVal (evOp neDX (evLC [2] (fiOf (evOp ixD (evVar 0) (evC (.int 0))) asQ) (.nm 2) (ftNot (ftVal (evCall run__law_is_loop [] (faCons (evVar 2) (faCons (evVar 1) faNil))))) (evVar 2)) (evLst faNil)))
 (fsRet (evC (.bl false)))
 fsNil)
 (fsRet (evAnd (evCall run__law_is_cell [] (faCons (evOp ixD (evVar 0) (evC (.int 1))) (faCons (evVar 1) faNil))) (evCall run__law_whole [] (faCons (evOp ixD (evVar 0) (evC (.int 2))) faNil))))))
def run__law_is_nest : FF := runP 3 2 fb__law_is_nest
theorem sc__law_is_nest : FnScope N__law_is_nest ["_law_thing", "_law_many"] (defScope s__law_is_nest) := ⟨rfl, rfl, rfl, by decide +kernel, rfl, by decide +kernel, by decide +kernel⟩
theorem bd__law_is_nest {f : Addr} (T : Txt P K mg Ad) (hsy : ∃ mm, base.Ns sysModules mm) (c__law_is_cell : Cal P w K mg base 2 "_law_is_cell" [] run__law_is_cell) (c__law_is_loop : Cal P w K mg base 3 "_law_is_loop" [] run__law_is_loop) (c__law_whole : Cal P w K mg base 1 "_law_whole" [] run__law_whole) : BdA P w K mg base N__law_is_nest "_law_is_nest" s__law_is_nest f 3 (fb__law_is_nest) := by
  intro cdv A outer s H E hgu hr
  have tk : Takes (cxD P w K mg base N__law_is_nest "_law_is_nest" s__law_is_nest f cdv A outer s H E) (fun cls d _ H' => E cls d H') := takes_of rfl rfl rfl rfl
  have hp : PassesOwn (model P w) (cxD P w K mg base N__law_is_nest "_law_is_nest" s__law_is_nest f cdv A outer s H E).A (cxD P w K mg base N__law_is_nest "_law_is_nest" s__law_is_nest f cdv A outer s H E).env (cxD P w K mg base N__law_is_nest "_law_is_nest" s__law_is_nest f cdv A outer s H E).xe := passes_of rfl
  have hu := hr.units
  have hN : N__law_is_nest.Nodup := sc__law_is_nest.nd
  have hc : (cxD P w K mg base N__law_is_nest "_law_is_nest" s__law_is_nest f cdv A outer s H E).calm = true := rfl
  exact (sss_cons (ss_if (SW.st (sw_or (st_not (st_val (se_b (cs_isi T.errs) T.n_isinstance (by decide +kernel) (sa_cons (se_var 0) (sa_cons (se_ty T.n_tuple (by decide +kernel)) sa_nil))))) (sw_or (st_cmp (os_neX hu) (se_b cs_len T.n_len (by decide +kernel) (sa_cons (se_var 0) sa_nil)) se_int) (sw_or1 (st_not (st_val (se_b (cs_isi T.errs) T.n_isinstance (by decide +kernel) (sa_cons (se_ix is_ix (se_var 0) se_int) (sa_cons (se_ty T.n_list (by decide +kernel)) sa_nil)))))))))
 (sss_one (ss_ret se_bl))
 sss_nil)
 (sss_cons (ss_if (st_cmp (os_neX hu) (se_lcIf hc hN (own := [("_law_loop", 2)]) (si_seq (se_ix is_ix (se_var 0) se_int)) (BlkOk.mk (N := N__law_is_nest) (sc := defScope s__law_is_nest) rfl (by decide +kernel) (by decide +kernel) (by decide +kernel) (by decide +kernel)) (fun _ _ _ _ _ => (sg_nm hN)) (fun _ _ _ _ _ => (have tk := tk0; (st_not (st_val (se_c c__law_is_loop hgu (hr.mono (by omega)) tk (sa_cons (se_var 2) (sa_cons (se_var 1) sa_nil))))))) (fun _ _ _ _ _ => (se_var 2))) (se_lst sa_nil))
 (sss_one (ss_ret se_bl))
 sss_nil)
 (sss_one (ss_ret (se_and (se_c c__law_is_cell hgu (hr.mono (by omega)) tk (sa_cons (se_ix is_ix (se_var 0) se_int) (sa_cons (se_var 1) sa_nil))) (se_one (se_c c__law_whole hgu (hr.mono (by omega)) tk (sa_cons (se_ix is_ix (se_var 0) se_int) sa_nil))))))))
/-! ### _law_bent -/
abbrev s__law_bent : Stmt := top 24
def N__law_bent : List Str := ["_law_purse_here", "_law_nest", "_law_bad", "_law_at", "_law_some", "_law_loops", "_law_place", "_law_amount", "_law_count", "_law_step", "_law_rest"]
def fb__law_bent : FS := (fsSeq (fsPat (.tp [(.nm 5), (.nm 6), (.nm 7)]) (evVar 1))
 (fsSeq (fsSet 2 (evOp ixD (evLst (faCons (evC .non) (faCons (evC (.bl true)) (faCons (evC (.bl false)) (faCons (evC (.str "1")) (faCons (evLst (faCons (evC (.int 1)) faNil)) (faCons (evTup (faCons (evC (.int 1)) faNil)) (faCons evDK (faCons (evTup faNil) (faCons (evLst faNil) (faCons (evUn negD (evC (.int 1))) (faCons (evTup (faCons (evC (.int 0)) (faCons (evC (.int 0)) faNil))) (faCons (evTup (faCons (evC (.int 1)) (faCons (evC (.int 2)) (faCons (evC (.int 3)) faNil)))) (faCons (evTup (faCons (evC (.bl true)) faNil)) (faCons (evTup (faCons (evTup (faCons (evC (.int 1)) faNil)) faNil)) faNil))))))))))))))) (evCall run__law_draw [] (faCons (evVar 0) (faCons (evC (.int 14)) faNil)))))
 (fsSeq (fsSet 3 (evCall run__law_draw [] (faCons (evVar 0) (faCons (evOp addD (evB lenD (faCons (evVar 5) faNil)) (evC (.int 1))) faNil))))
 (fsSeq (fsSet 4 (evLst (faCons (evTup (faCons (evVar 2) (faCons (evVar 6) (faCons (evVar 7) faNil)))) (faCons (evTup (faCons (evVar 5) (faCons (evVar 2) (faCons (evVar 7) faNil)))) (faCons (evTup (faCons (evVar 5) (faCons (evVar 6) (faCons (evVar 2) faNil)))) (faCons (evTup (faCons (evVar 5) (faCons (evVar 6) faNil))) (faCons (evTup (faCons (evVar 5) (faCons (evVar 6) (faCons (evVar 7) (faCons (evC (.int 0)) faNil))))) faNil)))))))
 (fsSeq (fsSet 4 (evOp addD (evVar 4) (evLst (faCons (evTup (faCons (evB tupleD (faCons (evVar 5) faNil)) (faCons (evVar 6) (faCons (evVar 7) faNil)))) (faCons (evTup (faCons (evVar 5) (faCons (evB listD (faCons (evVar 6) faNil)) (faCons (evVar 7) faNil)))) (faCons (evLst (faCons (evVar 5) (faCons (evVar 6) (faCons (evVar 7) faNil)))) (faCons (evVar 2) faNil)))))))
 (fsSeq (fsExpr (evM appD (evVar 4) (faCons (evTup (faCons (evOp addD (evOp addD (evSl (evVar 5) foN (foS (evVar 3))) (evLst (faCons (evVar 2) faNil))) (evSl (evVar 5) (foS (evVar 3)) foN)) (faCons (evVar 6) (faCons (evVar 7) faNil)))) faNil)))
 (fsSeq (fsFor (fiOf (evSl (evVar 5) foN (foS (evC (.int 1)))) asQ) (.tp [(.nm 8), (.nm 9)])
 (fsSeq (fsSet 10 (evSl (evVar 5) (foS (evC (.int 1))) foN))
 (fsSeq (fsSet 4 (evOp addD (evVar 4) (evLst (faCons (evTup (faCons (evOp addD (evLst (faCons (evTup (faCons (evVar 2) (faCons (evVar 9) faNil))) faNil)) (evVar 10)) (faCons (evVar 6) (faCons (evVar 7) faNil)))) (faCons (evTup (faCons (evOp addD (evVar 10) (evLst (faCons (evTup (faCons (evVar 8) (faCons (evVar 2) faNil))) faNil))) (faCons (evVar 6) (faCons (evVar 7) faNil)))) faNil)))))
 (fsSeq (fsSet 4 (evOp addD (evVar 4) (evLst (faCons (evTup (faCons (evOp addD (evLst (faCons (evTup (faCons (evVar 8) (faCons (evVar 9) (faCons (evC (.int 0)) faNil)))) faNil)) (evVar 10)) (faCons (evVar 6) (faCons (evVar 7) faNil)))) (faCons (evTup (faCons (evOp addD (evLst (faCons (evLst (faCons (evVar 8) (faCons (evVar 9) faNil))) faNil)) (evVar 10)) (faCons (evVar 6) (faCons (evVar 7) faNil)))) faNil)))))
 (fsSeq (fsExpr (evM appD (evVar 4) (faCons (evTup (faCons (evOp addD (evLst (faCons (evTup (faCons (evVar 8) (faCons (evOp addD (evSl (evVar 9) foN (foS (evUn negD (evC (.int 1))))) (evTup (faCons (evVar 2) faNil))) faNil))) faNil)) (evVar 10)) (faCons (evVar 6) (faCons (evVar 7) faNil)))) faNil)))
 (fsExpr (evM appD (evVar 4) (faCons (evTup (faCons (evOp addD (evVar 10) (evLst (faCons (evTup (faCons (evOp subD (evUn negD (evC (.int 1))) (evVar 8)) (faCons (evVar 9) faNil))) faNil))) (faCons (evVar 6) (faCons (evVar 7) faNil)))) faNil))))))))
 (fsSeq (fsExpr (evM appD (evVar 4) (faCons (evTup (faCons (evVar 5) (faCons (evOp addD (evSl (evVar 6) foN (foS (evUn negD (evC (.int 1))))) (evTup (faCons (evVar 2) faNil))) (faCons (evVar 7) faNil)))) faNil)))
 (fsRet (evOp ixD (evVar 4) (evCall run__law_draw [] (faCons (evVar 0) (faCons (evB lenD (faCons (evVar 4) faNil)) faNil)))))))))))))
def run__law_bent : FF := runP 11 2 fb__law_bent
theorem sc__law_bent : FnScope N__law_bent ["_law_purse_here", "_law_nest"] (defScope s__law_bent) := ⟨rfl, rfl, rfl, by decide +kernel, rfl, by decide +kernel, by decide +kernel⟩
theorem bd__law_bent {f : Addr} (T : Txt P K mg Ad) (hsy : ∃ mm, base.Ns sysModules mm) (c__law_draw : Cal P w K mg base 2 "_law_draw" [] run__law_draw) : BdA P w K mg base N__law_bent "_law_bent" s__law_bent f 2 (fb__law_bent) := by
  intro cdv A outer s H E hgu hr
  have tk : Takes (cxD P w K mg base N__law_bent "_law_bent" s__law_bent f cdv A outer s H E) (fun cls d _ H' => E cls d H') := takes_of rfl rfl rfl rfl
  have hp : PassesOwn (model P w) (cxD P w K mg base N__law_bent "_law_bent" s__law_bent f cdv A outer s H E).A (cxD P w K mg base N__law_bent "_law_bent" s__law_bent f cdv A outer s H E).env (cxD P w K mg base N__law_bent "_law_bent" s__law_bent f cdv A outer s H E).xe := passes_of rfl
  have hu := hr.units
  have hN : N__law_bent.Nodup := sc__law_bent.nd
  have hc : (cxD P w K mg base N__law_bent "_law_bent" s__law_bent f cdv A outer s H E).calm = true := rfl
  exact (sss_cons (ss_pat (se_var 1) (sg_tp hc (sgs_cons (sg_nm hN) (sgs_cons (sg_nm hN) (sgs_cons (sg_nm hN) sgs_nil)))))
 (sss_cons (ss_set (i := 2) hN (se_ix is_ix (se_lst (sa_cons se_non (sa_cons se_bl (sa_cons se_bl (sa_cons se_str (sa_cons (se_lst (sa_cons se_int sa_nil)) (sa_cons (se_tup (sa_cons se_int sa_nil)) (sa_cons se_dK (sa_cons (se_tup sa_nil) (sa_cons (se_lst sa_nil) (sa_cons (se_un un_neg us_neg se_int) (sa_cons (se_tup (sa_cons se_int (sa_cons se_int sa_nil))) (sa_cons (se_tup (sa_cons se_int (sa_cons se_int (sa_cons se_int sa_nil)))) (sa_cons (se_tup (sa_cons se_bl sa_nil)) (sa_cons (se_tup (sa_cons (se_tup (sa_cons se_int sa_nil)) sa_nil)) sa_nil))))))))))))))) (se_c c__law_draw hgu (hr.mono (by omega)) tk (sa_cons (se_var 0) (sa_cons se_int sa_nil)))))
 (sss_cons (ss_set (i := 3) hN (se_c c__law_draw hgu (hr.mono (by omega)) tk (sa_cons (se_var 0) (sa_cons (se_op os_add (se_b cs_len T.n_len (by decide +kernel) (sa_cons (se_var 5) sa_nil)) se_int) sa_nil))))
 (sss_cons (ss_set (i := 4) hN (se_lst (sa_cons (se_tup (sa_cons (se_var 2) (sa_cons (se_var 6) (sa_cons (se_var 7) sa_nil)))) (sa_cons (se_tup (sa_cons (se_var 5) (sa_cons (se_var 2) (sa_cons (se_var 7) sa_nil)))) (sa_cons (se_tup (sa_cons (se_var 5) (sa_cons (se_var 6) (sa_cons (se_var 2) sa_nil)))) (sa_cons (se_tup (sa_cons (se_var 5) (sa_cons (se_var 6) sa_nil))) (sa_cons (se_tup (sa_cons (se_var 5) (sa_cons (se_var 6) (sa_cons (se_var 7) (sa_cons se_int sa_nil))))) sa_nil)))))))
 (sss_cons (ss_set (i := 4) hN (se_op os_add (se_var 4) (se_lst (sa_cons (se_tup (sa_cons (se_bt cs_tuple T.n_tuple (by decide +kernel) (sa_cons (se_var 5) sa_nil)) (sa_cons (se_var 6) (sa_cons (se_var 7) sa_nil)))) (sa_cons (se_tup (sa_cons (se_var 5) (sa_cons (se_bt cs_list T.n_list (by decide +kernel) (sa_cons (se_var 6) sa_nil)) (sa_cons (se_var 7) sa_nil)))) (sa_cons (se_lst (sa_cons (se_var 5) (sa_cons (se_var 6) (sa_cons (se_var 7) sa_nil)))) (sa_cons (se_var 2) sa_nil)))))))
 (sss_cons (ss_expr (se_app (se_var 4) (sa_cons (se_tup (sa_cons (se_op os_add (se_op os_add (se_sl (se_var 5) so_none (so_some (se_var 3))) (se_lst (sa_cons (se_var 2) sa_nil))) (se_sl (se_var 5) (so_some (se_var 3)) so_none)) (sa_cons (se_var 6) (sa_cons (se_var 7) sa_nil)))) sa_nil)))
 (sss_cons (ss_for hp hc (si_seq (se_sl (se_var 5) so_none (so_some se_int))) (sg_tp hc (sgs_cons (sg_nm hN) (sgs_cons (sg_nm hN) sgs_nil)))
 (sss_cons (ss_set (i := 10) hN (se_sl (se_var 5) (so_some se_int) so_none))
 (sss_cons (ss_set (i := 4) hN (se_op os_add (se_var 4) (se_lst (sa_cons (se_tup (sa_cons (se_op os_add (se_lst (sa_cons (se_tup (sa_cons (se_var 2) (sa_cons (se_var 9) sa_nil))) sa_nil)) (se_var 10)) (sa_cons (se_var 6) (sa_cons (se_var 7) sa_nil)))) (sa_cons (se_tup (sa_cons (se_op os_add (se_var 10) (se_lst (sa_cons (se_tup (sa_cons (se_var 8) (sa_cons (se_var 2) sa_nil))) sa_nil))) (sa_cons (se_var 6) (sa_cons (se_var 7) sa_nil)))) sa_nil)))))
 (sss_cons (ss_set (i := 4) hN (se_op os_add (se_var 4) (se_lst (sa_cons (se_tup (sa_cons (se_op os_add (se_lst (sa_cons (se_tup (sa_cons (se_var 8) (sa_cons (se_var 9) (sa_cons se_int sa_nil)))) sa_nil)) (se_var 10)) (sa_cons (se_var 6) (sa_cons (se_var 7) sa_nil)))) (sa_cons (se_tup (sa_cons (se_op os_add (se_lst (sa_cons (se_lst (sa_cons (se_var 8) (sa_cons (se_var 9) sa_nil))) sa_nil)) (se_var 10)) (sa_cons (se_var 6) (sa_cons (se_var 7) sa_nil)))) sa_nil)))))
 (sss_cons (ss_expr (se_app (se_var 4) (sa_cons (se_tup (sa_cons (se_op os_add (se_lst (sa_cons (se_tup (sa_cons (se_var 8) (sa_cons (se_op os_add (se_sl (se_var 9) so_none (so_some (se_un un_neg us_neg se_int))) (se_tup (sa_cons (se_var 2) sa_nil))) sa_nil))) sa_nil)) (se_var 10)) (sa_cons (se_var 6) (sa_cons (se_var 7) sa_nil)))) sa_nil)))
 (sss_one (ss_expr (se_app (se_var 4) (sa_cons (se_tup (sa_cons (se_op os_add (se_var 10) (se_lst (sa_cons (se_tup (sa_cons (se_op os_sub (se_un un_neg us_neg se_int) (se_var 8)) (sa_cons (se_var 9) sa_nil))) sa_nil))) (sa_cons (se_var 6) (sa_cons (se_var 7) sa_nil)))) sa_nil)))))))))
 (sss_cons (ss_expr (se_app (se_var 4) (sa_cons (se_tup (sa_cons (se_var 5) (sa_cons (se_op os_add (se_sl (se_var 6) so_none (so_some (se_un un_neg us_neg se_int))) (se_tup (sa_cons (se_var 2) sa_nil))) (sa_cons (se_var 7) sa_nil)))) sa_nil)))
 (sss_one (ss_ret (se_ix is_ix (se_var 4) (se_c c__law_draw hgu (hr.mono (by omega)) tk (sa_cons (se_var 0) (sa_cons (se_b cs_len T.n_len (by decide +kernel) (sa_cons (se_var 4) sa_nil)) sa_nil))))))))))))))
/-! ### _law_right -/
abbrev s__law_right : Stmt := top 25
def N__law_right : List Str := ["_law_thing", "_law_many", "_law_kept", "_law_told"]
def fb__law_right : FS := (fsSeq (fsSet 2 (evB reprR (faCons (evVar 0) faNil)))
 (fsSeq (fsSet 3 (evLst (faCons (evCall run_is_cell [] (faCons (evVar 0) (faCons (evVar 1) faNil))) (faCons (evCall run_is_nest [] (faCons (evVar 0) (faCons (evVar 1) faNil))) faNil))))
 (fsRet (evAnd (evOp eqDX (evB reprR (faCons (evVar 3) faNil)) (evB reprR (faCons (evLst (faCons (evCall run__law_is_cell [] (faCons (evVar 0) (faCons (evVar 1) faNil))) (faCons (evCall run__law_is_nest [] (faCons (evVar 0) (faCons (evVar 1) faNil))) faNil))) faNil))) (evOp eqDX (evB reprR (faCons (evVar 0) faNil)) (evVar 2))))))
def run__law_right : FF := runP 4 2 fb__law_right
theorem sc__law_right : FnScope N__law_right ["_law_thing", "_law_many"] (defScope s__law_right) := ⟨rfl, rfl, rfl, by decide +kernel, rfl, by decide +kernel, by decide +kernel⟩
theorem bd__law_right {f : Addr} (T : Txt P K mg Ad) (hsy : ∃ mm, base.Ns sysModules mm) (c__law_is_cell : Cal P w K mg base 2 "_law_is_cell" [] run__law_is_cell) (c__law_is_nest : Cal P w K mg base 4 "_law_is_nest" [] run__law_is_nest) (c_is_cell : Cal P w K mg base 4 "is_cell" [] run_is_cell) (c_is_nest : Cal P w K mg base 5 "is_nest" [] run_is_nest) : BdA P w K mg base N__law_right "_law_right" s__law_right f 5 (fb__law_right) := by
  intro cdv A outer s H E hgu hr
  have tk : Takes (cxD P w K mg base N__law_right "_law_right" s__law_right f cdv A outer s H E) (fun cls d _ H' => E cls d H') := takes_of rfl rfl rfl rfl
  have hp : PassesOwn (model P w) (cxD P w K mg base N__law_right "_law_right" s__law_right f cdv A outer s H E).A (cxD P w K mg base N__law_right "_law_right" s__law_right f cdv A outer s H E).env (cxD P w K mg base N__law_right "_law_right" s__law_right f cdv A outer s H E).xe := passes_of rfl
  have hu := hr.units
  have hN : N__law_right.Nodup := sc__law_right.nd
  have hc : (cxD P w K mg base N__law_right "_law_right" s__law_right f cdv A outer s H E).calm = true := rfl
  exact (sss_cons (ss_set (i := 2) hN (se_b (cs_reprR hgu hu hsy) T.n_repr (by decide +kernel) (sa_cons (se_var 0) sa_nil)))
 (sss_cons (ss_set (i := 3) hN (se_lst (sa_cons (se_c c_is_cell hgu (hr.mono (by omega)) tk (sa_cons (se_var 0) (sa_cons (se_var 1) sa_nil))) (sa_cons (se_c c_is_nest hgu (hr.mono (by omega)) tk (sa_cons (se_var 0) (sa_cons (se_var 1) sa_nil))) sa_nil))))
 (sss_one (ss_ret (se_and (se_cmp (os_eqX hu) (se_b (cs_reprR hgu hu hsy) T.n_repr (by decide +kernel) (sa_cons (se_var 3) sa_nil)) (se_b (cs_reprR hgu hu hsy) T.n_repr (by decide +kernel) (sa_cons (se_lst (sa_cons (se_c c__law_is_cell hgu (hr.mono (by omega)) tk (sa_cons (se_var 0) (sa_cons (se_var 1) sa_nil))) (sa_cons (se_c c__law_is_nest hgu (hr.mono (by omega)) tk (sa_cons (se_var 0) (sa_cons (se_var 1) sa_nil))) sa_nil))) sa_nil))) (se_one (se_cmp (os_eqX hu) (se_b (cs_reprR hgu hu hsy) T.n_repr (by decide +kernel) (sa_cons (se_var 0) sa_nil)) (se_var 2))))))))
/-! ### _law_refused -/
abbrev s__law_refused : Stmt := top 26
def N__law_refused : List Str := ["_law_thing", "_law_odd", "_law_door", "_law_caught", "e"]
def fb__law_refused : FS := (fsSeq (fsFor (fiA (faCons (evC (.int 2)) faNil) rng1) (.nm 2)
 (fsSeq (fsSet 3 (evC .non))
 (fsSeq (fsTry (isErr errL "AddError") 4
 (fsExpr (evCallV [("is_cell", run_is_cell), ("is_nest", run_is_nest)] (evOp ixD (evLst (faCons (evC (.glo "is_cell")) (faCons (evC (.glo "is_nest")) faNil))) (evVar 2)) (faCons (evVar 0) (faCons (evVar 1) faNil))))
 (fsSet 3 (evVar 4)))
 (fsIf (ftOr (ftNot (ftVal (evB (isiD errL) (faCons (evVar 3) (faCons (evC (.glo "InvalidNumber")) faNil))))) (ftVal (evOp neDX (evB reprR (faCons (evUn (xfD errL "value") (evVar 3)) faNil)) (evB reprR (faCons (evVar 1) faNil)))))
 (fsRet (evC (.bl false)))
 fsNil))))
 (fsRet (evC (.bl true))))
def run__law_refused : FF := runP 5 2 fb__law_refused
theorem sc__law_refused : FnScope N__law_refused ["_law_thing", "_law_odd"] (defScope s__law_refused) := ⟨rfl, rfl, rfl, by decide +kernel, rfl, by decide +kernel, by decide +kernel⟩
theorem bd__law_refused {f : Addr} (T : Txt P K mg Ad) (hsy : ∃ mm, base.Ns sysModules mm) (c_is_cell : Cal P w K mg base 4 "is_cell" [] run_is_cell) (c_is_nest : Cal P w K mg base 5 "is_nest" [] run_is_nest) : BdA P w K mg base N__law_refused "_law_refused" s__law_refused f 5 (fb__law_refused) := by
  intro cdv A outer s H E hgu hr
  have tk : Takes (cxD P w K mg base N__law_refused "_law_refused" s__law_refused f cdv A outer s H E) (fun cls d _ H' => E cls d H') := takes_of rfl rfl rfl rfl
  have hp : PassesOwn (model P w) (cxD P w K mg base N__law_refused "_law_refused" s__law_refused f cdv A outer s H E).A (cxD P w K mg base N__law_refused "_law_refused" s__law_refused f cdv A outer s H E).env (cxD P w K mg base N__law_refused "_law_refused" s__law_refused f cdv A outer s H E).xe := passes_of rfl
  have hu := hr.units
  have hN : N__law_refused.Nodup := sc__law_refused.nd
  have hc : (cxD P w K mg base N__law_refused "_law_refused" s__law_refused f cdv A outer s H E).calm = true := rfl
  exact (sss_cons (ss_for hp hc (si_range1 T.n_range (sa_cons se_int sa_nil)) (sg_nm hN)
 (sss_cons (ss_set (i := 3) hN se_non)
 (sss_cons (ss_try (i := 4) (cs := isErr errL "AddError") (fun e b C h g => (T.errs.isE h g T.errs.gA).2.2) hN rfl ⟨rfl, by decide, .inl T.errs.gA⟩ tk (fun W pn xe tk hp =>
 (sss_one (ss_expr (se_cv (k := 5) (tab_cons c_is_cell (by decide) (tab_cons c_is_nest (by decide) tab_nil)) hgu (hr.mono (by omega)) tk (se_ix is_ix (se_lst (sa_cons (se_gloE T.g_is_cell) (sa_cons (se_gloE T.g_is_nest) sa_nil))) (se_var 2)) (sa_cons (se_var 0) (sa_cons (se_var 1) sa_nil))))))
 (fun a pn => (sss_one (ss_set (i := 3) hN (se_var 4)))))
 (sss_one (ss_if (SW.st (sw_or (st_not (st_val (se_b (cs_isi T.errs) T.n_isinstance (by decide +kernel) (sa_cons (se_var 3) (sa_cons (se_gloE (T.errs.gE (v := "value") (by decide +kernel))) sa_nil))))) (sw_or1 (st_cmp (os_neX hu) (se_b (cs_reprR hgu hu hsy) T.n_repr (by decide +kernel) (sa_cons (se_xf T.errs (se_var 3)) sa_nil)) (se_b (cs_reprR hgu hu hsy) T.n_repr (by decide +kernel) (sa_cons (se_var 1) sa_nil))))))
 (sss_one (ss_ret se_bl))
 sss_nil)))))
 (sss_one (ss_ret se_bl)))
/-! ### law -/
abbrev s_law : Stmt := top 27
def N_law : List Str := ["_law_script", "_law_cell", "_law_purse_here", "_law_many", "_law_nest", "_law_things", "_law_thing", "_law_odd", "_law_axes", "_law_turn", "_law_loop"]
def fb_law : FS := (fsSeq (fsFor (fiA (faCons (evC (.int 4)) faNil) rng1) (.nm 1)
 (fsSeq (fsSet 2 (evLive (evCall run__law_purse [] (faCons (evVar 0) (faCons (evVar 1) faNil)))))
 (fsSeq (fsSet 3 (evOp addD (evC (.int 1)) (evCall run__law_draw [] (faCons (evVar 2) (faCons (evC (.int 3)) faNil)))))
 (fsSeq (fsSet 4 (evCall run__law_nest_drawn [] (faCons (evVar 2) (faCons (evVar 3) (faCons (evC (.int 3)) (faCons (evOp ixD (evLst (faCons (evC (.int 4)) (faCons (evOp powD (evC (.int 10)) (evC (.int 40))) faNil))) (evCall run__law_draw [] (faCons (evVar 2) (faCons (evC (.int 2)) faNil)))) (faCons (evOp ixD (evLst (faCons (evC (.int 3)) (faCons (evOp powD (evC (.int 10)) (evC (.int 39))) faNil))) (evCall run__law_draw [] (faCons (evVar 2) (faCons (evC (.int 2)) faNil)))) faNil)))))))
 (fsSeq (fsSet 5 (evOp addD (evLst (faCons (evVar 4) (faCons (evOp ixD (evVar 4) (evC (.int 0))) (faCons (evOp ixD (evVar 4) (evC (.int 1))) (faCons (evOp ixD (evVar 4) (evC (.int 2))) faNil))))) (evLC [9] (fiA (faCons (evC (.int 8)) faNil) rng1) (.nm 9) ftYes (evCall run__law_bent [] (faCons (evVar 2) (faCons (evVar 4) faNil))))))
 (fsSeq (fsFor (fiOf (evOp addD (evOp addD (evVar 5) (evLC [10] (fiOf (evOp ixD (evVar 4) (evC (.int 0))) asQ) (.nm 10) ftYes (evOp ixD (evVar 10) (evC (.int 1))))) (evLst (faCons (evC .non) (faCons (evC (.int 0)) (faCons (evC (.str "cell")) (faCons (evTup faNil) (faCons (evLst faNil) (faCons (evTup (faCons (evTup faNil) (faCons (evTup faNil) (faCons (evC (.int 0)) faNil)))) (faCons evDK faNil))))))))) asQ) (.nm 6)
 (fsFor (fiOf (evLst (faCons (evC (.int 1)) (faCons (evC (.int 2)) (faCons (evC (.int 3)) faNil)))) asQ) (.nm 8)
 (fsIf (ftNot (ftVal (evCall run__law_right [] (faCons (evVar 6) (faCons (evVar 8) faNil)))))
 (fsRet (evC (.bl false)))
 fsNil)))
 (fsSeq (fsIf (ftOr (ftNot (ftVal (evCall run_is_nest [] (faCons (evVar 4) (faCons (evVar 3) faNil))))) (ftNot (ftVal (evCall run_is_cell [] (faCons (evOp ixD (evVar 4) (evC (.int 1))) (faCons (evVar 3) faNil))))))
 (fsRet (evC (.bl false)))
 fsNil)
 (fsFor (fiOf (evLst (faCons (evC .non) (faCons (evC (.int 0)) (faCons (evC (.int 4)) (faCons (evUn negD (evC (.int 1))) (faCons (evC (.bl true)) (faCons (evC (.str "1")) (faCons (evLst (faCons (evC (.int 1)) faNil)) (faCons (evTup (faCons (evC (.int 1)) faNil)) (faCons evDK faNil)))))))))) asQ) (.nm 7)
 (fsIf (ftOr (ftNot (ftVal (evCall run__law_refused [] (faCons (evVar 4) (faCons (evVar 7) faNil))))) (ftNot (ftVal (evCall run__law_refused [] (faCons (evC .non) (faCons (evVar 7) faNil))))))
 (fsRet (evC (.bl false)))
 fsNil)))))))))
 (fsRet (evC (.bl true))))
def run_law : FF := runP 11 1 fb_law
theorem sc_law : FnScope N_law ["_law_script"] (defScope s_law) := ⟨rfl, rfl, rfl, by decide +kernel, rfl, by decide +kernel, by decide +kernel⟩
theorem bd_law {f : Addr} (T : Txt P K mg Ad) (hsy : ∃ mm, base.Ns sysModules mm) (c__law_bent : Cal P w K mg base 3 "_law_bent" [] run__law_bent) (c__law_draw : Cal P w K mg base 2 "_law_draw" [] run__law_draw) (c__law_nest_drawn : Cal P w K mg base 4 "_law_nest_drawn" [] run__law_nest_drawn) (c__law_purse : Cal P w K mg base 1 "_law_purse" [] run__law_purse) (c__law_refused : Cal P w K mg base 6 "_law_refused" [] run__law_refused) (c__law_right : Cal P w K mg base 6 "_law_right" [] run__law_right) (c_is_cell : Cal P w K mg base 4 "is_cell" [] run_is_cell) (c_is_nest : Cal P w K mg base 5 "is_nest" [] run_is_nest) : BdA P w K mg base N_law "law" s_law f 6 (fb_law) := by
  intro cdv A outer s H E hgu hr
  have tk : Takes (cxD P w K mg base N_law "law" s_law f cdv A outer s H E) (fun cls d _ H' => E cls d H') := takes_of rfl rfl rfl rfl
  have hp : PassesOwn (model P w) (cxD P w K mg base N_law "law" s_law f cdv A outer s H E).A (cxD P w K mg base N_law "law" s_law f cdv A outer s H E).env (cxD P w K mg base N_law "law" s_law f cdv A outer s H E).xe := passes_of rfl
  have hu := hr.units
  have hN : N_law.Nodup := sc_law.nd
  have hc : (cxD P w K mg base N_law "law" s_law f cdv A outer s H E).calm = true := rfl
  exact (sss_cons (ss_for hp hc (si_range1 T.n_range (sa_cons se_int sa_nil)) (sg_nm hN)
 (sss_cons (ss_set (i := 2) hN (se_live (se_c c__law_purse hgu (hr.mono (by omega)) tk (sa_cons (se_var 0) (sa_cons (se_var 1) sa_nil)))))
 (sss_cons (ss_set (i := 3) hN (se_op os_add se_int (se_c c__law_draw hgu (hr.mono (by omega)) tk (sa_cons (se_var 2) (sa_cons se_int sa_nil)))))
 (sss_cons (ss_set (i := 4) hN (se_c c__law_nest_drawn hgu (hr.mono (by omega)) tk (sa_cons (se_var 2) (sa_cons (se_var 3) (sa_cons se_int (sa_cons (se_ix is_ix (se_lst (sa_cons se_int (sa_cons (se_op os_pow se_int se_int) sa_nil))) (se_c c__law_draw hgu (hr.mono (by omega)) tk (sa_cons (se_var 2) (sa_cons se_int sa_nil)))) (sa_cons (se_ix is_ix (se_lst (sa_cons se_int (sa_cons (se_op os_pow se_int se_int) sa_nil))) (se_c c__law_draw hgu (hr.mono (by omega)) tk (sa_cons (se_var 2) (sa_cons se_int sa_nil)))) sa_nil)))))))
 (sss_cons (ss_set (i := 5) hN (se_op os_add (se_lst (sa_cons (se_var 4) (sa_cons (se_ix is_ix (se_var 4) se_int) (sa_cons (se_ix is_ix (se_var 4) se_int) (sa_cons (se_ix is_ix (se_var 4) se_int) sa_nil))))) (se_lc hc hN (own := [("_law_turn", 9)]) (si_range1 T.n_range (sa_cons se_int sa_nil)) (BlkOk.mk (N := N_law) (sc := defScope s_law) rfl (by decide +kernel) (by decide +kernel) (by decide +kernel) (by decide +kernel)) (fun _ _ _ _ _ => (sg_nm hN)) (fun _ _ _ _ _ => (have tk := tk0; (se_c c__law_bent hgu (hr.mono (by omega)) tk (sa_cons (se_var 2) (sa_cons (se_var 4) sa_nil))))))))
 (sss_cons (ss_for hp hc (si_seq (se_op os_add (se_op os_add (se_var 5) (se_lc hc hN (own := [("_law_loop", 10)]) (si_seq (se_ix is_ix (se_var 4) se_int)) (BlkOk.mk (N := N_law) (sc := defScope s_law) rfl (by decide +kernel) (by decide +kernel) (by decide +kernel) (by decide +kernel)) (fun _ _ _ _ _ => (sg_nm hN)) (fun _ _ _ _ _ => (se_ix is_ix (se_var 10) se_int)))) (se_lst (sa_cons se_non (sa_cons se_int (sa_cons se_str (sa_cons (se_tup sa_nil) (sa_cons (se_lst sa_nil) (sa_cons (se_tup (sa_cons (se_tup sa_nil) (sa_cons (se_tup sa_nil) (sa_cons se_int sa_nil)))) (sa_cons se_dK sa_nil)))))))))) (sg_nm hN)
 (sss_one (ss_for hp hc (si_seq (se_lst (sa_cons se_int (sa_cons se_int (sa_cons se_int sa_nil))))) (sg_nm hN)
 (sss_one (ss_if (st_not (st_val (se_c c__law_right hgu (hr.mono (by omega)) tk (sa_cons (se_var 6) (sa_cons (se_var 8) sa_nil)))))
 (sss_one (ss_ret se_bl))
 sss_nil)))))
 (sss_cons (ss_if (SW.st (sw_or (st_not (st_val (se_c c_is_nest hgu (hr.mono (by omega)) tk (sa_cons (se_var 4) (sa_cons (se_var 3) sa_nil))))) (sw_or1 (st_not (st_val (se_c c_is_cell hgu (hr.mono (by omega)) tk (sa_cons (se_ix is_ix (se_var 4) se_int) (sa_cons (se_var 3) sa_nil))))))))
 (sss_one (ss_ret se_bl))
 sss_nil)
 (sss_one (ss_for hp hc (si_seq (se_lst (sa_cons se_non (sa_cons se_int (sa_cons se_int (sa_cons (se_un un_neg us_neg se_int) (sa_cons se_bl (sa_cons se_str (sa_cons (se_lst (sa_cons se_int sa_nil)) (sa_cons (se_tup (sa_cons se_int sa_nil)) (sa_cons se_dK sa_nil))))))))))) (sg_nm hN)
 (sss_one (ss_if (SW.st (sw_or (st_not (st_val (se_c c__law_refused hgu (hr.mono (by omega)) tk (sa_cons (se_var 4) (sa_cons (se_var 7) sa_nil))))) (sw_or1 (st_not (st_val (se_c c__law_refused hgu (hr.mono (by omega)) tk (sa_cons se_non (sa_cons (se_var 7) sa_nil))))))))
 (sss_one (ss_ret se_bl))
 sss_nil)))))))))))
 (sss_one (ss_ret se_bl)))
end
end K02
namespace K02
open PySem PySem.Spec PyProof.Rows L2 Tr
local macro_rules | `(tactic| walk_at "lk") => `(tactic| first
  | with_reducible assumption
  | ((dsimp only [muV, peek, look]); (with_reducible assumption))
  | ((dsimp only [muV, peek, look]); exact List.getElem?_set_self (by first | (with_reducible assumption) | (simp only [List.length_set]; (with_reducible assumption))))
  | ((dsimp only [muV, peek, look]); simp only [*, Option.isSome_some]; done)
  | ((dsimp only [muV, peek, look]); (simp only [*, List.getElem?_set_self, List.length_set, Option.isSome_some]); done))
local macro_rules | `(tactic| walk_at "side") => `(tactic| first
  | (with_reducible exact eqDX_i _ _)
  | (with_reducible exact neDX_i _ _)
  | (with_reducible exact eqD_i _ _)
  | (with_reducible exact neD_i _ _)
  | (exact rfl)
  | ((with_reducible refine' mulD_i inferInstance inferInstance ?_); decide +kernel)
  | ((with_reducible refine' divD_i inferInstance ?_ ?_); (decide +kernel); (first | (with_reducible assumption) | omega | decide))
  | ((with_reducible refine modD_i ?_); (first | (with_reducible assumption) | omega | decide))
  | with_reducible assumption)
local macro_rules | `(tactic| walk_at "dec") => `(tactic| first
  | (first | rfl | (with_reducible assumption) | (simp only [decide_eq_true_eq, Bool.not_eq_true', decide_eq_false_iff_not, Bool.not_eq_eq_eq_not, Bool.not_true, Bool.not_false, Bool.not_eq_true, Bool.not_not] <;> first | (with_reducible assumption) | omega | decide)))
local macro_rules | `(tactic| walk_at "wp1") => `(tactic| first
  | ((with_reducible refine' wp_var ?a ?_); (case a => exact rfl); (try dsimp only))
  | ((with_reducible refine' wp_varo ?a ?_); (case a => exact rfl); (try dsimp only))
  | ((with_reducible refine' wp_c ?_); (try dsimp only))
  | (with_reducible refine' wp_op ?_)
  | ((with_reducible refine' wp_op2 ?a ?b ?c ?_); (case a => first | rfl | (walk_at "lk")); (case b => first | rfl | (walk_at "lk")); (case c => walk_at "side"); (try dsimp only))
  | (with_reducible refine' wp_un ?_)
  | ((with_reducible refine' wp_op1 ?a ?c ?_); (case a => first | rfl | (walk_at "lk")); (case c => walk_at "side"); (try dsimp only))
  | ((with_reducible refine' wp_ite_t ?a ?_); (case a => walk_at "dec"); (try dsimp only))
  | ((with_reducible refine' wp_ite_f ?a ?_); (case a => walk_at "dec"); (try dsimp only))
  | ((with_reducible refine' ite_pt ?a ?_); (case a => walk_at "dec"); (try dsimp only))
  | ((with_reducible refine' ite_pf ?a ?_); (case a => walk_at "dec"); (try dsimp only))
  | (with_reducible refine' wp_ife ?_)
  | (with_reducible refine' wp_and ?_)
  | (with_reducible refine' wp_or ?_)
  | (with_reducible refine' wp_not ?_)
  | (with_reducible refine' wp_tup ?_)
  | ((with_reducible refine' wp_dispT ?a ?b ?_); (case a => exact rfl); (case b => (first | exact Nat.le_of_ble_eq_true rfl | ((try dsimp only); simp only [List.length_map, List.length_range, List.length_append, List.length_cons, List.length_nil]; omega) | ((try dsimp only); omega))); (try dsimp only [En.set, List.set, setMu, En.push]))
  | (with_reducible refine' wp_lst ?_)
  | ((with_reducible refine' wp_dispL ?a ?b ?_); (case a => exact rfl); (case b => (first | exact Nat.le_of_ble_eq_true rfl | ((try dsimp only); simp only [List.length_map, List.length_range, List.length_append, List.length_cons, List.length_nil]; omega) | ((try dsimp only); omega))); (try dsimp only [En.set, List.set, setMu, En.push]))
  | (with_reducible refine' wp_b ?_)
  | ((with_reducible refine' wp_callG ?a ?c ?_); (case a => first | rfl | (walk_at "lk")); (case c => walk_at "side"); (try dsimp only))
  | (with_reducible refine' wp_call ?_)
  | ((with_reducible refine' wp_callP ?a ?_); (case a => exact rfl); (try dsimp only [List.cons_append, List.nil_append, List.append_nil]); (try dsimp only [En.set, List.set, setMu, En.push]))
  | (with_reducible refine' wp_sl ?_)
  | ((with_reducible refine' wp_slEnd ?a ?c ?_); (case a => first | rfl | (walk_at "lk")); (case c => walk_at "side"); (try dsimp only))
  | (with_reducible refine' wp_m ?_)
  | ((with_reducible refine' wp_m2 ?a ?_); (case a => first | exact rfl | ((dsimp only [muV]); simp only [*, isLst]; done)))
  | ((with_reducible refine' wp_meth ?a ?b ?c ?d ?_); (case a => exact rfl); (case b => first | exact rfl | (walk_at "lk")); (case c => walk_at "side"); (case d => exact rfl); (try dsimp only [En.set, List.set, setMu]); (try simp only [List.set_set, Int.reduceToNat, List.set]))
  | (with_reducible refine' wp_live ?_)
  | ((with_reducible refine' wp_liveF ?a ?_); (case a => exact rfl); (try dsimp only [En.set, List.set, setMu, En.push]))
  | ((with_reducible refine' wp_liveS ?_); (try dsimp only))
  | ((with_reducible refine' wp_dk ?_); (try dsimp only))
  | (with_reducible refine' wp_val ?_)
  | ((with_reducible refine' wp_asB ?_); (try dsimp only))
  | (with_reducible refine' wp_tand ?_)
  | (with_reducible refine' wp_tor ?_)
  | (with_reducible refine' wp_tnot ?_)
  | ((with_reducible refine' wp_yes ?_); (try dsimp only))
  | ((with_reducible refine' wp_nil ?_); (try dsimp only [Val.held]))
  | (with_reducible refine' wp_cons ?_)
  | ((with_reducible refine' wp_foN ?_); (try dsimp only))
  | (with_reducible refine' wp_foS ?_)
  | ((with_reducible refine' wp_asI ?_); (try dsimp only))
  | ((with_reducible refine' wp_fnil ?_); (try dsimp only))
  | (with_reducible refine' wp_seq ?_)
  | (with_reducible refine' wp_expr ?_)
  | (with_reducible refine' wp_ret ?_)
  | ((with_reducible refine' wp_retN ?_); (try dsimp only))
  | (with_reducible refine' wp_if ?_)
  | (with_reducible refine' wp_set ?_)
  | ((with_reducible refine' wp_stV ?a ?_); (case a => exact rfl); (try dsimp only [En.set, List.set, setMu, En.push]))
  | (with_reducible refine' wp_pat ?_)
  | ((with_reducible refine' wp_paV ?a ?b ?_); (case a => exact rfl); (case b => exact rfl); (try dsimp only [En.set, List.set, setMu, En.push]))
  | (with_reducible refine' wp_put ?_)
  | ((with_reducible refine' wp_putV ?a ?_); (case a => exact rfl); (try dsimp only))
  | ((with_reducible refine' wp_put2 ?a ?_); (case a => first | exact rfl | (walk_at "lk")); (try dsimp only))
  | ((with_reducible refine' wp_putEnd ?a ?b ?c ?d ?_); (case a => exact rfl); (case b => first | exact rfl | (walk_at "lk")); (case c => walk_at "side"); (case d => exact rfl); (try dsimp only [En.set, List.set, setMu]); (try simp only [List.set_set, Int.reduceToNat, List.set]))
  | ((with_reducible refine' wp_aug ?a ?_); (case a => exact rfl))
  | ((with_reducible refine' wp_augV ?a ?b ?c ?_); (case a => first | rfl | (walk_at "lk")); (case b => walk_at "side"); (case c => exact rfl); (try dsimp only [En.set, List.set, setMu, En.push]))
  | (with_reducible refine' wp_par ?_)
  | ((with_reducible refine' wp_prV ?a ?b ?_); (case a => exact rfl); (case b => exact rfl); (try dsimp only [En.set, List.set, setMu, En.push]))
  | (with_reducible refine' wp_par3 ?_)
  | ((with_reducible refine' wp_prV3 ?a ?b ?_); (case a => exact rfl); (case b => exact rfl); (try dsimp only [En.set, List.set, setMu, En.push]))
  | (with_reducible refine' wp_raise ?_)
  | ((with_reducible refine' wp_raV ?a ?_); (case a => exact rfl); (try dsimp only [En.set, List.set, setMu, En.push]))
  | (with_reducible refine' wp_try ?_)
  | ((with_reducible refine' wp_suite ?a ?b ?_); (case a => exact rfl); (case b => exact rfl); (try dsimp only [En.set, List.set, setMu, En.push]))
  | (with_reducible refine' wp_for ?_)
  | (with_reducible refine' wp_fiOf ?_)
  | (with_reducible refine' wp_fiA ?_)
  | ((with_reducible refine' wp_asQ ?a ?_); (case a => exact rfl); (try dsimp only))
  | ((with_reducible refine' wp_rng1 ?a ?b ?_); (case a => exact rfl); (case b => (first | omega | decide)); (try dsimp only))
  | ((with_reducible refine' wp_rng2 ?a ?b ?_); (case a => exact rfl); (case b => (first | omega | decide)); (try dsimp only))
  | (with_reducible refine' wp_lc ?_)
  | ((with_reducible refine' wp_lcEnd ?a ?b ?c ?_); (case a => exact rfl); (case b => (first | exact Nat.le_of_ble_eq_true rfl | ((try dsimp only); simp only [List.length_map, List.length_range, List.length_append, List.length_cons, List.length_nil]; omega) | ((try dsimp only); omega))); (case c => exact rfl); (try dsimp only [wipeE, En.set, List.set]))
  | ((with_reducible refine' wp_lcV ?a ?b ?_); (case a => exact rfl); (case b => exact rfl); (try dsimp only [wipeE, En.set, List.set]))
  | ((with_reducible refine' wp_ok ?_); (try dsimp only))
  | ((with_reducible refine' seqK_nx ?_); (try dsimp only))
  | (with_reducible refine' seqK_rt ?_)
  | (with_reducible refine' seqK_bk ?_)
  | (with_reducible refine' seqK_ct ?_)
  | ((with_reducible refine' turnK_nx ?_); (try dsimp only))
  | ((with_reducible refine' turnK_ct ?_); (try dsimp only))
  | (with_reducible refine' turnK_bk ?_)
  | (with_reducible refine' turnK_rt ?_))
local macro_rules | `(tactic| walk_at "wpu") => `(tactic| first
  | ((with_reducible refine' wp_lcons ?a ?_); (case a => exact rfl); (try dsimp only))
  | ((with_reducible refine' wp_lnil ?_); (try dsimp only))
  | ((with_reducible refine' wp_lccons ?a ?_); (case a => exact rfl); (try dsimp only))
  | ((with_reducible refine' wp_lcnil ?_); (try dsimp only [restE, En.set, List.set]); (try dsimp only)))
local macro_rules | `(tactic| walk_at "fin") => `(tactic| first
  | ((with_reducible refine' finW_sh ?a ?_); (case a => (first | rfl | (simp only [List.length_set]; done))))
  | ((with_reducible refine' finW_fr ?a ?_); (case a => (first | rfl | (simp only [List.length_set]; done))))
  | ((with_reducible refine' finW_nx ?a ?_); (case a => (first | rfl | (simp only [List.length_set]; done))))
  | ((with_reducible refine' finW_ow ?b ?a ?_); (case b => exact rfl); (case a => (first | rfl | (simp only [List.length_set]; done)))))
theorem mixed_ok {s i : Int} {m n : Nat} {L : List D} (hs : Sz s m) (hi : Sz i n) (hm : m ≤ 20000) (hn : n ≤ 20000) : run__law_mixed [.int s, .int i] L = .ok false (.int (mixD s i)) L := by
  haveI : Sz s 20000 := ⟨Nat.lt_of_lt_of_le hs.lt (Nat.pow_le_pow_right (by decide) hm)⟩
  haveI : Sz i 20000 := ⟨Nat.lt_of_lt_of_le hi.lt (Nat.pow_le_pow_right (by decide) hn)⟩
  apply RF.of_wp
  unfold run__law_mixed
  refine wp_run (by rfl) ?_
  unfold fb__law_mixed
  show R.wp (fsSeq _ _ ⟨[.sh (.int s), .sh (.int i), .un], L⟩) _ _
  repeat' (first | walk_at "wp1")
  walk_at "fin"
  exact ⟨rfl, rfl, rfl⟩
theorem draw_ok {L : List D} {k : Nat} {B g0 g1 g2 b : Int} (hL : L[k]? = some (puD g0 g1 g2)) (hp : Pu B g0 g1 g2) (hB : B ≤ 1000000000) (hb : 0 < b) (hb2 : b < 1000000000000000000000000000000000000000000000) :
    (run__law_draw [.ref k, .int b] L).wp (fun fr d L' => fr = false ∧ ∃ r h0 h2, d = .int r ∧ 0 ≤ r ∧ r < b ∧ L' = L.set k (puD h0 g1 h2) ∧ Pu (B + 7) h0 g1 h2) EN := by
  have h0 : b ≠ 0 := by omega
  haveI : Ps b := ⟨by omega⟩
  haveI sb : Sz b 150 := szI (by omega) (by omega)
  have hk : k < L.length := (List.getElem?_eq_some_iff.mp hL).1
  have e1 : ∀ x, (L.set k x)[k]? = some x := fun x => List.getElem?_set_self hk
  unfold run__law_draw
  refine wp_run (by rfl) ?_
  unfold fb__law_draw
  show R.wp (fsSeq _ _ ⟨[.sh (.ref k), .sh (.int b), .un, .un, .un], L⟩) _ _
  by_cases c : 0 < g0
  · repeat' (first | walk_at "wp1")
    walk_at "fin"
    exact ⟨rfl, g0.fmod b, g0.fdiv b, g2, rfl, (fmod_lt hb).1, (fmod_lt hb).2, rfl, hp.a0, hp.a1, hp.b0, by have := hp.b1; omega⟩
  · have ib : Builtin.Int.intBits b ≤ 150 := PyProof.Rows.intBits_le sb.lt
    have fd : ((Builtin.Int.intBits b : Nat) : Int).fdiv 30 = ((Builtin.Int.intBits b : Nat) : Int) / 30 := Int.fdiv_eq_ediv_of_nonneg _ (by decide)
    repeat' (first | ((with_reducible refine' wp_rng1 ?a ?b ?_); (case a => exact rfl); (case b => rw [fd]; omega); (try dsimp only)) | walk_at "wp1")
    refine wp_loop (I := fun n ρ => ∃ x y h2, ρ = ⟨[.sh (.ref k), .sh (.int b), .sh (.int x), y, .un], L.set k (puD g0 g1 h2)⟩ ∧ 0 ≤ x ∧ x.natAbs < 2 ^ (40 * n + 1) ∧ g2 ≤ h2 ∧ h2 ≤ g2 + n) ⟨0, .un, g2, ?_, by omega, by decide, by omega, by omega⟩ ?step ?fin
    · rw [set_same hL]
    case fin =>
      rintro ρ ⟨x, y, h2, rfl, h3, h4, h5, h6⟩
      repeat' (first | walk_at "wp1")
      walk_at "fin"
      rw [List.length_map, List.length_range, fd] at h6
      exact ⟨rfl, x.fmod b, g0, h2, rfl, (fmod_lt hb).1, (fmod_lt hb).2, rfl, hp.a0, hp.a1, by have := hp.b0; omega, by have := hp.b1; omega⟩
    case step =>
      rintro n d ρ hd ⟨x, y, h2, rfl, h3, h4, h5, h6⟩
      have hn : n < 6 := by
        have := (List.getElem?_eq_some_iff.mp hd).1
        rw [List.length_map, List.length_range, fd] at this
        omega
      haveI : Sz x 300 := ⟨Nat.lt_of_lt_of_le h4 (Nat.pow_le_pow_right (by decide) (by omega))⟩
      have q1 := hp.a0
      have q2 := hp.a1
      have q3 := hp.b0
      have q4 := hp.b1
      have m1 : Sz g1 100 := szI (by omega) (by omega)
      have m2 : Sz (h2 + 1) 100 := szI (by omega) (by omega)
      refine ⟨_, rfl, ?_⟩
      have mx := mixD_sz g1 (h2 + 1)
      dsimp only [En.set, List.set]
      repeat' (first | ((with_reducible refine' RF.wp_eq (mixed_ok m1 m2 (by decide) (by decide)) ?_); (try dsimp only [backV_f, backV_t])) | walk_at "wp1")
      refine ⟨_, _, h2 + 1, rfl, ?_, ?_, by omega, by omega⟩
      · have := Int.mul_nonneg h3 (show (0 : Int) ≤ 2147483587 by decide)
        omega
      · have e : 2 ^ (40 * (n + 1) + 1) = 2 ^ (40 * n + 1) * 2 ^ 40 := by rw [← Nat.pow_add]; congr 1
        have e2 : (2 : Nat) ^ 40 = 1099511627776 := rfl
        have e3 : 0 < 2 ^ (40 * n + 1) := Nat.pow_pos (by decide)
        rw [e, e2]
        omega
local macro_rules | `(tactic| walk_at "side") => `(tactic| first | exact pow18 | exact pow60 | exact pow600 | exact pow9 | exact pow39 | exact pow40 | exact sumD_map _)
theorem purse_ok (ns : List Int) {k : Int} {L : List D} (hk : 0 ≤ k) (hk2 : k ≤ 100) : ∃ g0 g1, run__law_purse [.scr ns, .int k] L = .ok true (puD g0 g1 (1000 * k)) L ∧ Pu (1000 * k) g0 g1 (1000 * k) := by
  haveI : Sz k 10 := szI (by omega) (by omega)
  apply Exists.intro
  apply Exists.intro
  refine ⟨?pe, ?pp⟩
  case pe =>
    apply RF.of_wp
    unfold run__law_purse
    refine wp_run (by rfl) ?_
    unfold fb__law_purse
    show R.wp (fsSeq _ _ ⟨[.sh (.scr ns), .sh (.int k), .un], L⟩) _ _
    repeat' (first | walk_at "wp1")
    walk_at "fin"
    exact ⟨rfl, rfl, rfl⟩
  case pp => exact ⟨(fmod_lt (by decide)).1, (fmod_lt (by decide)).2, by omega, by omega⟩
/-- a cell drawn -/
theorem cell_drawn_ok {L : List D} {k : Nat} {B g0 g1 g2 w : Int} {m : Nat} (hL : L[k]? = some (puD g0 g1 g2)) (hp : Pu B g0 g1 g2) (hB : B ≤ 1000000) (hw : 0 ≤ w) (hw2 : w ≤ 100000000000000000000000000000000000000000) (hm : m ≤ 3) :
    (run__law_cell_drawn [.ref k, .int m, .int w] L).wp (fun fr d L' => fr = false ∧ ∃ (cs : List Int) (h0 h2 : Int), d = .tup (cs.map .int) ∧ cs.length = m ∧ (∀ c ∈ cs, -w ≤ c ∧ c ≤ w) ∧ L' = L.set k (puD h0 g1 h2) ∧ Pu (B + 7 * m) h0 g1 h2) EN := by
  have hk : k < L.length := (List.getElem?_eq_some_iff.mp hL).1
  haveI : Sz w 150 := szI (by omega) (by omega)
  unfold run__law_cell_drawn
  refine wp_run (by rfl) ?_
  unfold fb__law_cell_drawn
  show R.wp (fsRet _ ⟨[.sh (.ref k), .sh (.int m), .sh (.int w), .un], L⟩) _ _
  repeat' (first | walk_at "wp1")
  refine wp_lcI (I := fun n done ρ => ∃ (cs : List Int) (h0 h2 : Int), done = cs.map .int ∧ cs.length = n ∧ (∀ c ∈ cs, -w ≤ c ∧ c ≤ w) ∧ ρ = ⟨[.sh (.ref k), .sh (.int m), .sh (.int w), .un], L.set k (puD h0 g1 h2)⟩ ∧ Pu (B + 7 * n) h0 g1 h2) ⟨[], g0, g2, rfl, rfl, by simp, by rw [set_same hL], hp.up (by omega)⟩ ?step ?fin
  case fin =>
    rintro done ρ ⟨cs, h0, h2, rfl, hl, hc, rfl, hq⟩
    rw [List.length_map, List.length_range, Int.toNat_natCast] at hl hq
    (try simp only [List.set_set]); (try dsimp only [restE, wipeE, En.set, List.set, List.getElem?_cons_succ, List.getElem?_cons_zero, backV_f, backV_t])
    repeat' (first | walk_at "wp1")
    walk_at "fin"
    exact ⟨rfl, cs, h0, h2, rfl, hl, hc, rfl, hq⟩
  case step =>
    rintro n d done ρ hd ⟨cs, h0, h2, rfl, hl, hc, rfl, hq⟩
    have hn : n < m := by
      have := (List.getElem?_eq_some_iff.mp hd).1
      rw [List.length_map, List.length_range, Int.toNat_natCast] at this
      exact this
    refine ⟨_, rfl, ?_⟩
    dsimp only [En.set, List.set]
    have e1 : (L.set k (puD h0 g1 h2))[k]? = some (puD h0 g1 h2) := List.getElem?_set_self hk
    repeat' (first | ((with_reducible refine' RF.wp_n (draw_ok e1 hq (by omega) (by omega) (by omega)) ?_)) | walk_at "wp1")
    rintro _ _ _ ⟨rfl, r, u0, u2, rfl, r1, r2, rfl, hu⟩
    (try simp only [List.set_set]); (try dsimp only [restE, wipeE, En.set, List.set, List.getElem?_cons_succ, List.getElem?_cons_zero, backV_f, backV_t])
    repeat' (first | walk_at "wp1")
    exact ⟨cs ++ [r - w], u0, u2, by simp, by simp [hl], by
      intro c hc'
      rcases List.mem_append.mp hc' with z | z
      · exact hc c z
      · rw [List.mem_singleton.mp z]; omega, rfl, hu.up (by omega)⟩
end K02
namespace K02
open PySem PySem.Spec PyProof.Rows L2 Tr
local macro_rules | `(tactic| walk_at "lk") => `(tactic| first
  | with_reducible assumption
  | ((dsimp only [muV, peek, look]); (with_reducible assumption))
  | ((dsimp only [muV, peek, look]); exact List.getElem?_set_self (by first | (with_reducible assumption) | (simp only [List.length_set]; (with_reducible assumption))))
  | ((dsimp only [muV, peek, look]); simp only [*, Option.isSome_some]; done)
  | ((dsimp only [muV, peek, look]); (simp only [*, List.getElem?_set_self, List.length_set, Option.isSome_some]); done))
local macro_rules | `(tactic| walk_at "side") => `(tactic| first
  | (with_reducible exact eqDX_i _ _)
  | (with_reducible exact neDX_i _ _)
  | (with_reducible exact eqD_i _ _)
  | (with_reducible exact neD_i _ _)
  | (exact rfl)
  | ((with_reducible refine' mulD_i inferInstance inferInstance ?_); decide +kernel)
  | ((with_reducible refine' divD_i inferInstance ?_ ?_); (decide +kernel); (first | (with_reducible assumption) | omega | decide))
  | ((with_reducible refine modD_i ?_); (first | (with_reducible assumption) | omega | decide))
  | with_reducible assumption)
local macro_rules | `(tactic| walk_at "dec") => `(tactic| first
  | (first | rfl | (with_reducible assumption) | (simp only [decide_eq_true_eq, Bool.not_eq_true', decide_eq_false_iff_not, Bool.not_eq_eq_eq_not, Bool.not_true, Bool.not_false, Bool.not_eq_true, Bool.not_not] <;> first | (with_reducible assumption) | omega | decide)))
local macro_rules | `(tactic| walk_at "wp1") => `(tactic| first
  | ((with_reducible refine' wp_var ?a ?_); (case a => exact rfl); (try dsimp only))
  | ((with_reducible refine' wp_varo ?a ?_); (case a => exact rfl); (try dsimp only))
  | ((with_reducible refine' wp_c ?_); (try dsimp only))
  | (with_reducible refine' wp_op ?_)
  | ((with_reducible refine' wp_op2 ?a ?b ?c ?_); (case a => first | rfl | (walk_at "lk")); (case b => first | rfl | (walk_at "lk")); (case c => walk_at "side"); (try dsimp only))
  | (with_reducible refine' wp_un ?_)
  | ((with_reducible refine' wp_op1 ?a ?c ?_); (case a => first | rfl | (walk_at "lk")); (case c => walk_at "side"); (try dsimp only))
  | ((with_reducible refine' wp_ite_t ?a ?_); (case a => walk_at "dec"); (try dsimp only))
  | ((with_reducible refine' wp_ite_f ?a ?_); (case a => walk_at "dec"); (try dsimp only))
  | ((with_reducible refine' ite_pt ?a ?_); (case a => walk_at "dec"); (try dsimp only))
  | ((with_reducible refine' ite_pf ?a ?_); (case a => walk_at "dec"); (try dsimp only))
  | (with_reducible refine' wp_ife ?_)
  | (with_reducible refine' wp_and ?_)
  | (with_reducible refine' wp_or ?_)
  | (with_reducible refine' wp_not ?_)
  | (with_reducible refine' wp_tup ?_)
  | ((with_reducible refine' wp_dispT ?a ?b ?_); (case a => exact rfl); (case b => (first | exact Nat.le_of_ble_eq_true rfl | ((try dsimp only); simp only [List.length_map, List.length_range, List.length_append, List.length_cons, List.length_nil]; omega) | ((try dsimp only); omega))); (try dsimp only [En.set, List.set, setMu, En.push]))
  | (with_reducible refine' wp_lst ?_)
  | ((with_reducible refine' wp_dispL ?a ?b ?_); (case a => exact rfl); (case b => (first | exact Nat.le_of_ble_eq_true rfl | ((try dsimp only); simp only [List.length_map, List.length_range, List.length_append, List.length_cons, List.length_nil]; omega) | ((try dsimp only); omega))); (try dsimp only [En.set, List.set, setMu, En.push]))
  | (with_reducible refine' wp_b ?_)
  | ((with_reducible refine' wp_callG ?a ?c ?_); (case a => first | rfl | (walk_at "lk")); (case c => walk_at "side"); (try dsimp only))
  | (with_reducible refine' wp_call ?_)
  | ((with_reducible refine' wp_callP ?a ?_); (case a => exact rfl); (try dsimp only [List.cons_append, List.nil_append, List.append_nil]); (try dsimp only [En.set, List.set, setMu, En.push]))
  | (with_reducible refine' wp_sl ?_)
  | ((with_reducible refine' wp_slEnd ?a ?c ?_); (case a => first | rfl | (walk_at "lk")); (case c => walk_at "side"); (try dsimp only))
  | (with_reducible refine' wp_m ?_)
  | ((with_reducible refine' wp_m2 ?a ?_); (case a => first | exact rfl | ((dsimp only [muV]); simp only [*, isLst]; done)))
  | ((with_reducible refine' wp_meth ?a ?b ?c ?d ?_); (case a => exact rfl); (case b => first | exact rfl | (walk_at "lk")); (case c => walk_at "side"); (case d => exact rfl); (try dsimp only [En.set, List.set, setMu]); (try simp only [List.set_set, Int.reduceToNat, List.set]))
  | (with_reducible refine' wp_live ?_)
  | ((with_reducible refine' wp_liveF ?a ?_); (case a => exact rfl); (try dsimp only [En.set, List.set, setMu, En.push]))
  | ((with_reducible refine' wp_liveS ?_); (try dsimp only))
  | ((with_reducible refine' wp_dk ?_); (try dsimp only))
  | (with_reducible refine' wp_val ?_)
  | ((with_reducible refine' wp_asB ?_); (try dsimp only))
  | (with_reducible refine' wp_tand ?_)
  | (with_reducible refine' wp_tor ?_)
  | (with_reducible refine' wp_tnot ?_)
  | ((with_reducible refine' wp_yes ?_); (try dsimp only))
  | ((with_reducible refine' wp_nil ?_); (try dsimp only [Val.held]))
  | (with_reducible refine' wp_cons ?_)
  | ((with_reducible refine' wp_foN ?_); (try dsimp only))
  | (with_reducible refine' wp_foS ?_)
  | ((with_reducible refine' wp_asI ?_); (try dsimp only))
  | ((with_reducible refine' wp_fnil ?_); (try dsimp only))
  | (with_reducible refine' wp_seq ?_)
  | (with_reducible refine' wp_expr ?_)
  | (with_reducible refine' wp_ret ?_)
  | ((with_reducible refine' wp_retN ?_); (try dsimp only))
  | (with_reducible refine' wp_if ?_)
  | (with_reducible refine' wp_set ?_)
  | ((with_reducible refine' wp_stV ?a ?_); (case a => exact rfl); (try dsimp only [En.set, List.set, setMu, En.push]))
  | (with_reducible refine' wp_pat ?_)
  | ((with_reducible refine' wp_paV ?a ?b ?_); (case a => exact rfl); (case b => exact rfl); (try dsimp only [En.set, List.set, setMu, En.push]))
  | (with_reducible refine' wp_put ?_)
  | ((with_reducible refine' wp_putV ?a ?_); (case a => exact rfl); (try dsimp only))
  | ((with_reducible refine' wp_put2 ?a ?_); (case a => first | exact rfl | (walk_at "lk")); (try dsimp only))
  | ((with_reducible refine' wp_putEnd ?a ?b ?c ?d ?_); (case a => exact rfl); (case b => first | exact rfl | (walk_at "lk")); (case c => walk_at "side"); (case d => exact rfl); (try dsimp only [En.set, List.set, setMu]); (try simp only [List.set_set, Int.reduceToNat, List.set]))
  | ((with_reducible refine' wp_aug ?a ?_); (case a => exact rfl))
  | ((with_reducible refine' wp_augV ?a ?b ?c ?_); (case a => first | rfl | (walk_at "lk")); (case b => walk_at "side"); (case c => exact rfl); (try dsimp only [En.set, List.set, setMu, En.push]))
  | (with_reducible refine' wp_par ?_)
  | ((with_reducible refine' wp_prV ?a ?b ?_); (case a => exact rfl); (case b => exact rfl); (try dsimp only [En.set, List.set, setMu, En.push]))
  | (with_reducible refine' wp_par3 ?_)
  | ((with_reducible refine' wp_prV3 ?a ?b ?_); (case a => exact rfl); (case b => exact rfl); (try dsimp only [En.set, List.set, setMu, En.push]))
  | (with_reducible refine' wp_raise ?_)
  | ((with_reducible refine' wp_raV ?a ?_); (case a => exact rfl); (try dsimp only [En.set, List.set, setMu, En.push]))
  | (with_reducible refine' wp_try ?_)
  | ((with_reducible refine' wp_suite ?a ?b ?_); (case a => exact rfl); (case b => exact rfl); (try dsimp only [En.set, List.set, setMu, En.push]))
  | (with_reducible refine' wp_for ?_)
  | (with_reducible refine' wp_fiOf ?_)
  | (with_reducible refine' wp_fiA ?_)
  | ((with_reducible refine' wp_asQ ?a ?_); (case a => exact rfl); (try dsimp only))
  | ((with_reducible refine' wp_rng1 ?a ?b ?_); (case a => exact rfl); (case b => (first | omega | decide)); (try dsimp only))
  | ((with_reducible refine' wp_rng2 ?a ?b ?_); (case a => exact rfl); (case b => (first | omega | decide)); (try dsimp only))
  | (with_reducible refine' wp_lc ?_)
  | ((with_reducible refine' wp_lcEnd ?a ?b ?c ?_); (case a => exact rfl); (case b => (first | exact Nat.le_of_ble_eq_true rfl | ((try dsimp only); simp only [List.length_map, List.length_range, List.length_append, List.length_cons, List.length_nil]; omega) | ((try dsimp only); omega))); (case c => exact rfl); (try dsimp only [wipeE, En.set, List.set]))
  | ((with_reducible refine' wp_lcV ?a ?b ?_); (case a => exact rfl); (case b => exact rfl); (try dsimp only [wipeE, En.set, List.set]))
  | ((with_reducible refine' wp_ok ?_); (try dsimp only))
  | ((with_reducible refine' seqK_nx ?_); (try dsimp only))
  | (with_reducible refine' seqK_rt ?_)
  | (with_reducible refine' seqK_bk ?_)
  | (with_reducible refine' seqK_ct ?_)
  | ((with_reducible refine' turnK_nx ?_); (try dsimp only))
  | ((with_reducible refine' turnK_ct ?_); (try dsimp only))
  | (with_reducible refine' turnK_bk ?_)
  | (with_reducible refine' turnK_rt ?_))
local macro_rules | `(tactic| walk_at "wpu") => `(tactic| first
  | ((with_reducible refine' wp_lcons ?a ?_); (case a => exact rfl); (try dsimp only))
  | ((with_reducible refine' wp_lnil ?_); (try dsimp only))
  | ((with_reducible refine' wp_lccons ?a ?_); (case a => exact rfl); (try dsimp only))
  | ((with_reducible refine' wp_lcnil ?_); (try dsimp only [restE, En.set, List.set]); (try dsimp only)))
local macro_rules | `(tactic| walk_at "fin") => `(tactic| first
  | ((with_reducible refine' finW_sh ?a ?_); (case a => (first | rfl | (simp only [List.length_set]; done))))
  | ((with_reducible refine' finW_fr ?a ?_); (case a => (first | rfl | (simp only [List.length_set]; done))))
  | ((with_reducible refine' finW_nx ?a ?_); (case a => (first | rfl | (simp only [List.length_set]; done))))
  | ((with_reducible refine' finW_ow ?b ?a ?_); (case b => exact rfl); (case a => (first | rfl | (simp only [List.length_set]; done)))))

theorem is_whole_ok {L : List D} {d : D} (ht : (tyN d).isSome = true) : run_is_whole [d] L = .ok false (.bl (isWD d)) L := by
  have h := look_ty (L := L) ht
  apply RF.of_wp
  unfold run_is_whole
  refine wp_run (by rfl) ?_
  unfold fb_is_whole
  show R.wp (fsRet _ ⟨[.sh d], L⟩) _ _
  repeat' (first | ((refine wp_callG (pk1t h) (isi_int ht) ?_); (try dsimp only)) | walk_at "wp1")
  refine wp_ite (fun hi => ?_) (fun hi => ?_)
  · repeat' (first | ((refine wp_callG (pk1t h) (isi_bool ht) ?_); (try dsimp only)) | walk_at "wp1")
    walk_at "fin"
    refine ⟨rfl, ?_, rfl⟩
    cases d <;> first | rfl | cases hi
  · repeat' (first | walk_at "wp1")
    walk_at "fin"
    refine ⟨rfl, ?_, rfl⟩
    cases d <;> first | rfl | cases hi
theorem cell_ok {L : List D} {d : D} {n : Int} (v : Wr d) : run_looks_like_cell [d, .int n] L = .ok false (.bl (cellB d n)) L := by
  have lk := look_ty (L := L) v.ty
  apply RF.of_wp
  unfold run_looks_like_cell
  refine wp_run (by rfl) ?_
  unfold fb_looks_like_cell
  show R.wp (fsSeq _ _ ⟨[.sh d, .sh (.int n), .un], L⟩) _ _
  repeat' (first | ((refine wp_callG (pk1t lk) (isi_tuple v.ty) ?_); (try dsimp only)) | walk_at "wp1")
  by_cases ht : isTup d = true
  · obtain ⟨ds, rfl⟩ : ∃ ds, d = .tup ds := by
      cases d <;> first | exact ⟨_, rfl⟩ | cases ht
    obtain ⟨v1, v2⟩ := v.tup
    repeat' (first | ((refine wp_callG (pk1 lk) rfl ?_); (try dsimp only)) | walk_at "wp1")
    refine wp_ite (fun hl => ?_) (fun hl => ?_)
    · repeat' (first | walk_at "wp1")
      walk_at "fin"
      refine ⟨rfl, ?_, rfl⟩
      have : decide ((ds.length : Int) = n) = false := by simpa using hl
      simp only [cellB, this, Bool.false_and]
    · repeat' (first | walk_at "wp1")
      refine wp_lcfil (q := fun d => !isWD d) (fun e he => ?_) ?_
      · refine ⟨_, rfl, rfl, ?_, ?_⟩
        · (try simp only [List.set_set]); (try dsimp only [restE, wipeE, En.set, List.set, List.getElem?_cons_succ, List.getElem?_cons_zero, backV_f, backV_t])
          repeat' (first | ((with_reducible refine' RF.wp_eq (is_whole_ok (v2 e he).ty) ?_); (try dsimp only [backV_f, backV_t])) | walk_at "wp1")
        · (try simp only [List.set_set]); (try dsimp only [restE, wipeE, En.set, List.set, List.getElem?_cons_succ, List.getElem?_cons_zero, backV_f, backV_t])
          repeat' (first | walk_at "wp1")
      · (try simp only [List.set_set]); (try dsimp only [restE, wipeE, En.set, List.set, List.getElem?_cons_succ, List.getElem?_cons_zero, backV_f, backV_t])
        repeat' (first | ((refine wp_op2 rfl rfl (eqDX_nil _) ?_); (try dsimp only)) | walk_at "wp1")
        walk_at "fin"
        refine ⟨rfl, ?_, rfl⟩
        have : decide ((ds.length : Int) = n) = true := by simpa using hl
        rw [filter_no]
        simp only [cellB, this, Bool.true_and]
  · have hf : isTup d = false := by simpa using ht
    repeat' (first | walk_at "wp1")
    walk_at "fin"
    refine ⟨rfl, ?_, rfl⟩
    cases d <;> first | rfl | exact absurd rfl ht
theorem loop_ok {L : List D} {d : D} {n : Int} (v : Wr d) : run_looks_like_loop [d, .int n] L = .ok false (.bl (loopB d n)) L := by
  have lk := look_ty (L := L) v.ty
  apply RF.of_wp
  unfold run_looks_like_loop
  refine wp_run (by rfl) ?_
  unfold fb_looks_like_loop
  show R.wp (fsSeq _ _ ⟨[.sh d, .sh (.int n)], L⟩) _ _
  repeat' (first | ((refine wp_callG (pk1t lk) (isi_tuple v.ty) ?_); (try dsimp only)) | walk_at "wp1")
  by_cases ht : isTup d = true
  · obtain ⟨ds, rfl⟩ : ∃ ds, d = .tup ds := by
      cases d <;> first | exact ⟨_, rfl⟩ | cases ht
    obtain ⟨v1, v2⟩ := v.tup
    repeat' (first | ((refine wp_callG (pk1 lk) rfl ?_); (try dsimp only)) | walk_at "wp1")
    refine wp_ite (fun hl => ?_) (fun hl => ?_)
    · repeat' (first | walk_at "wp1")
      walk_at "fin"
      refine ⟨rfl, ?_, rfl⟩
      match ds, hl with
      | [], _ => rfl
      | [_], _ => rfl
      | [_, _], hl => simp at hl
      | _ :: _ :: _ :: _, _ => rfl
    · match ds, v1, v2, hl with
      | [], _, _, hl => simp at hl
      | [_], _, _, hl => simp at hl
      | _ :: _ :: _ :: _, _, _, hl => simp at hl; omega
      | [a, b], _, v2, _ =>
        have wa := v2 a (by simp)
        have wb := v2 b (by simp)
        repeat' (first | ((with_reducible refine' RF.wp_eq (is_whole_ok wa.ty) ?_); (try dsimp only [backV_f, backV_t])) | walk_at "wp1")
        refine wp_ite (fun ha => ?_) (fun ha => ?_)
        · obtain ⟨i, rfl⟩ : ∃ i, a = .int i := by
            cases a <;> first | exact ⟨_, rfl⟩ | cases ha
          repeat' (first | walk_at "wp1")
          refine wp_ite (fun hi => ?_) (fun hi => ?_)
          · repeat' (first | ((with_reducible refine' RF.wp_eq (cell_ok wb) ?_); (try dsimp only [backV_f, backV_t])) | walk_at "wp1")
            walk_at "fin"
            refine ⟨rfl, ?_, rfl⟩
            have hi : (0 : Int) ≤ i := by simpa using hi
            simp only [loopB, geB, decide_eq_true hi, Bool.true_and]
          · repeat' (first | walk_at "wp1")
            walk_at "fin"
            refine ⟨rfl, ?_, rfl⟩
            have hi : ¬ (0 : Int) ≤ i := by simpa using hi
            simp only [loopB, geB, decide_eq_false hi, Bool.false_and]
        · repeat' (first | walk_at "wp1")
          walk_at "fin"
          refine ⟨rfl, ?_, rfl⟩
          have : geB a = false := by cases a <;> first | rfl | cases ha
          simp only [loopB, this, Bool.false_and]
  · have hf : isTup d = false := by simpa using ht
    repeat' (first | walk_at "wp1")
    walk_at "fin"
    refine ⟨rfl, ?_, rfl⟩
    cases d <;> first | rfl | exact absurd rfl ht
theorem nest_ok {L : List D} {d : D} {n : Int} (v : Wr d) : run_looks_like_nest [d, .int n] L = .ok false (.bl (nestB d n)) L := by
  have lk := look_ty (L := L) v.ty
  apply RF.of_wp
  unfold run_looks_like_nest
  refine wp_run (by rfl) ?_
  unfold fb_looks_like_nest
  show R.wp (fsSeq _ _ ⟨[.sh d, .sh (.int n), .un], L⟩) _ _
  repeat' (first | ((refine wp_callG (pk1t lk) (isi_tuple v.ty) ?_); (try dsimp only)) | walk_at "wp1")
  by_cases ht : isTup d = true
  · obtain ⟨ds, rfl⟩ : ∃ ds, d = .tup ds := by
      cases d <;> first | exact ⟨_, rfl⟩ | cases ht
    obtain ⟨v1, v2⟩ := v.tup
    repeat' (first | ((refine wp_callG (pk1 lk) rfl ?_); (try dsimp only)) | walk_at "wp1")
    refine wp_ite (fun hl => ?_) (fun hl => ?_)
    · repeat' (first | walk_at "wp1")
      walk_at "fin"
      refine ⟨rfl, ?_, rfl⟩
      match ds, hl with
      | [], _ => rfl
      | [_], _ => simp only [nestB]
      | [_, _], _ => simp only [nestB]
      | [_, _, _], hl => simp at hl
      | _ :: _ :: _ :: _ :: _, _ => simp only [nestB]
    · match ds, v1, v2, hl with
      | [], _, _, hl => simp at hl
      | [_], _, _, hl => simp at hl
      | [_, _], _, _, hl => simp at hl
      | _ :: _ :: _ :: _ :: _, _, _, hl => simp at hl; omega
      | [l, b, a], _, v2, _ =>
        have wl := v2 l (by simp)
        have wb := v2 b (by simp)
        have wa := v2 a (by simp)
        repeat' (first | ((refine wp_callG (pk1t (look_ty wl.ty)) (isi_list wl.ty) ?_); (try dsimp only)) | walk_at "wp1")
        refine wp_ite (fun hi => ?_) (fun hi => ?_)
        · repeat' (first | walk_at "wp1")
          walk_at "fin"
          refine ⟨rfl, ?_, rfl⟩
          cases l <;> first | rfl | (simp [isLs] at hi; done) | (have := wl.ok; cases this)
        · obtain ⟨ls, rfl⟩ : ∃ ls, l = .lst ls := by
            cases l <;> first | exact ⟨_, rfl⟩ | (have := wl.ok; cases this; done) | (simp [isLs] at hi; done)
          obtain ⟨u1, u2⟩ := wl.lst
          repeat' (first | walk_at "wp1")
          refine wp_lcfil (q := fun d => !loopB d n) (fun e he => ?_) ?_
          · refine ⟨_, rfl, rfl, ?_, ?_⟩
            · (try simp only [List.set_set]); (try dsimp only [restE, wipeE, En.set, List.set, List.getElem?_cons_succ, List.getElem?_cons_zero, backV_f, backV_t])
              repeat' (first | ((with_reducible refine' RF.wp_eq (loop_ok (u2 e he)) ?_); (try dsimp only [backV_f, backV_t])) | walk_at "wp1")
            · (try simp only [List.set_set]); (try dsimp only [restE, wipeE, En.set, List.set, List.getElem?_cons_succ, List.getElem?_cons_zero, backV_f, backV_t])
              repeat' (first | walk_at "wp1")
          · (try simp only [List.set_set]); (try dsimp only [restE, wipeE, En.set, List.set, List.getElem?_cons_succ, List.getElem?_cons_zero, backV_f, backV_t])
            repeat' (first | ((refine wp_op2 rfl rfl (neDX_nil _) ?_); (try dsimp only)) | walk_at "wp1")
            rw [filter_no]
            refine wp_ite (fun hq => ?_) (fun hq => ?_)
            · repeat' (first | walk_at "wp1")
              walk_at "fin"
              refine ⟨rfl, ?_, rfl⟩
              have hq : (ls.all fun d => loopB d n) = false := by simpa using hq
              simp only [nestB, hq, Bool.false_and]
            · have hq : (ls.all fun d => loopB d n) = true := by simpa using hq
              repeat' (first | ((with_reducible refine' RF.wp_eq (cell_ok wb) ?_); (try dsimp only [backV_f, backV_t])) | walk_at "wp1")
              refine wp_ite (fun hc => ?_) (fun hc => ?_)
              · repeat' (first | ((with_reducible refine' RF.wp_eq (is_whole_ok wa.ty) ?_); (try dsimp only [backV_f, backV_t])) | walk_at "wp1")
                walk_at "fin"
                refine ⟨rfl, ?_, rfl⟩
                simp only [nestB, hq, hc, Bool.true_and]
              · repeat' (first | walk_at "wp1")
                walk_at "fin"
                refine ⟨rfl, ?_, rfl⟩
                simp only [nestB, hq, hc, Bool.true_and, Bool.false_and]
  · have hf : isTup d = false := by simpa using ht
    repeat' (first | walk_at "wp1")
    walk_at "fin"
    refine ⟨rfl, ?_, rfl⟩
    cases d <;> first | rfl | exact absurd rfl ht
end K02
namespace K02
open PySem PySem.Spec PyProof.Rows L2 Tr
local macro_rules | `(tactic| walk_at "lk") => `(tactic| first
  | with_reducible assumption
  | ((dsimp only [muV, peek, look]); (with_reducible assumption))
  | ((dsimp only [muV, peek, look]); exact List.getElem?_set_self (by first | (with_reducible assumption) | (simp only [List.length_set]; (with_reducible assumption))))
  | ((dsimp only [muV, peek, look]); simp only [*, Option.isSome_some]; done)
  | ((dsimp only [muV, peek, look]); (simp only [*, List.getElem?_set_self, List.length_set, Option.isSome_some]); done))
local macro_rules | `(tactic| walk_at "side") => `(tactic| first
  | (with_reducible exact eqDX_i _ _)
  | (with_reducible exact neDX_i _ _)
  | (with_reducible exact eqD_i _ _)
  | (with_reducible exact neD_i _ _)
  | (exact rfl)
  | ((with_reducible refine' mulD_i inferInstance inferInstance ?_); decide +kernel)
  | ((with_reducible refine' divD_i inferInstance ?_ ?_); (decide +kernel); (first | (with_reducible assumption) | omega | decide))
  | ((with_reducible refine modD_i ?_); (first | (with_reducible assumption) | omega | decide))
  | with_reducible assumption)
local macro_rules | `(tactic| walk_at "dec") => `(tactic| first
  | (first | rfl | (with_reducible assumption) | (simp only [decide_eq_true_eq, Bool.not_eq_true', decide_eq_false_iff_not, Bool.not_eq_eq_eq_not, Bool.not_true, Bool.not_false, Bool.not_eq_true, Bool.not_not] <;> first | (with_reducible assumption) | omega | decide)))
local macro_rules | `(tactic| walk_at "wp1") => `(tactic| first
  | ((with_reducible refine' wp_var ?a ?_); (case a => exact rfl); (try dsimp only))
  | ((with_reducible refine' wp_varo ?a ?_); (case a => exact rfl); (try dsimp only))
  | ((with_reducible refine' wp_c ?_); (try dsimp only))
  | (with_reducible refine' wp_op ?_)
  | ((with_reducible refine' wp_op2 ?a ?b ?c ?_); (case a => first | rfl | (walk_at "lk")); (case b => first | rfl | (walk_at "lk")); (case c => walk_at "side"); (try dsimp only))
  | (with_reducible refine' wp_un ?_)
  | ((with_reducible refine' wp_op1 ?a ?c ?_); (case a => first | rfl | (walk_at "lk")); (case c => walk_at "side"); (try dsimp only))
  | ((with_reducible refine' wp_ite_t ?a ?_); (case a => walk_at "dec"); (try dsimp only))
  | ((with_reducible refine' wp_ite_f ?a ?_); (case a => walk_at "dec"); (try dsimp only))
  | ((with_reducible refine' ite_pt ?a ?_); (case a => walk_at "dec"); (try dsimp only))
  | ((with_reducible refine' ite_pf ?a ?_); (case a => walk_at "dec"); (try dsimp only))
  | (with_reducible refine' wp_ife ?_)
  | (with_reducible refine' wp_and ?_)
  | (with_reducible refine' wp_or ?_)
  | (with_reducible refine' wp_not ?_)
  | (with_reducible refine' wp_tup ?_)
  | ((with_reducible refine' wp_dispT ?a ?b ?_); (case a => exact rfl); (case b => (first | exact Nat.le_of_ble_eq_true rfl | ((try dsimp only); simp only [List.length_map, List.length_range, List.length_append, List.length_cons, List.length_nil]; omega) | ((try dsimp only); omega))); (try dsimp only [En.set, List.set, setMu, En.push]))
  | (with_reducible refine' wp_lst ?_)
  | ((with_reducible refine' wp_dispL ?a ?b ?_); (case a => exact rfl); (case b => (first | exact Nat.le_of_ble_eq_true rfl | ((try dsimp only); simp only [List.length_map, List.length_range, List.length_append, List.length_cons, List.length_nil]; omega) | ((try dsimp only); omega))); (try dsimp only [En.set, List.set, setMu, En.push]))
  | (with_reducible refine' wp_b ?_)
  | ((with_reducible refine' wp_callG ?a ?c ?_); (case a => first | rfl | (walk_at "lk")); (case c => walk_at "side"); (try dsimp only))
  | (with_reducible refine' wp_call ?_)
  | ((with_reducible refine' wp_callP ?a ?_); (case a => exact rfl); (try dsimp only [List.cons_append, List.nil_append, List.append_nil]); (try dsimp only [En.set, List.set, setMu, En.push]))
  | (with_reducible refine' wp_sl ?_)
  | ((with_reducible refine' wp_slEnd ?a ?c ?_); (case a => first | rfl | (walk_at "lk")); (case c => walk_at "side"); (try dsimp only))
  | (with_reducible refine' wp_m ?_)
  | ((with_reducible refine' wp_m2 ?a ?_); (case a => first | exact rfl | ((dsimp only [muV]); simp only [*, isLst]; done)))
  | ((with_reducible refine' wp_meth ?a ?b ?c ?d ?_); (case a => exact rfl); (case b => first | exact rfl | (walk_at "lk")); (case c => walk_at "side"); (case d => exact rfl); (try dsimp only [En.set, List.set, setMu]); (try simp only [List.set_set, Int.reduceToNat, List.set]))
  | (with_reducible refine' wp_live ?_)
  | ((with_reducible refine' wp_liveF ?a ?_); (case a => exact rfl); (try dsimp only [En.set, List.set, setMu, En.push]))
  | ((with_reducible refine' wp_liveS ?_); (try dsimp only))
  | ((with_reducible refine' wp_dk ?_); (try dsimp only))
  | (with_reducible refine' wp_val ?_)
  | ((with_reducible refine' wp_asB ?_); (try dsimp only))
  | (with_reducible refine' wp_tand ?_)
  | (with_reducible refine' wp_tor ?_)
  | (with_reducible refine' wp_tnot ?_)
  | ((with_reducible refine' wp_yes ?_); (try dsimp only))
  | ((with_reducible refine' wp_nil ?_); (try dsimp only [Val.held]))
  | (with_reducible refine' wp_cons ?_)
  | ((with_reducible refine' wp_foN ?_); (try dsimp only))
  | (with_reducible refine' wp_foS ?_)
  | ((with_reducible refine' wp_asI ?_); (try dsimp only))
  | ((with_reducible refine' wp_fnil ?_); (try dsimp only))
  | (with_reducible refine' wp_seq ?_)
  | (with_reducible refine' wp_expr ?_)
  | (with_reducible refine' wp_ret ?_)
  | ((with_reducible refine' wp_retN ?_); (try dsimp only))
  | (with_reducible refine' wp_if ?_)
  | (with_reducible refine' wp_set ?_)
  | ((with_reducible refine' wp_stV ?a ?_); (case a => exact rfl); (try dsimp only [En.set, List.set, setMu, En.push]))
  | (with_reducible refine' wp_pat ?_)
  | ((with_reducible refine' wp_paV ?a ?b ?_); (case a => exact rfl); (case b => exact rfl); (try dsimp only [En.set, List.set, setMu, En.push]))
  | (with_reducible refine' wp_put ?_)
  | ((with_reducible refine' wp_putV ?a ?_); (case a => exact rfl); (try dsimp only))
  | ((with_reducible refine' wp_put2 ?a ?_); (case a => first | exact rfl | (walk_at "lk")); (try dsimp only))
  | ((with_reducible refine' wp_putEnd ?a ?b ?c ?d ?_); (case a => exact rfl); (case b => first | exact rfl | (walk_at "lk")); (case c => walk_at "side"); (case d => exact rfl); (try dsimp only [En.set, List.set, setMu]); (try simp only [List.set_set, Int.reduceToNat, List.set]))
  | ((with_reducible refine' wp_aug ?a ?_); (case a => exact rfl))
  | ((with_reducible refine' wp_augV ?a ?b ?c ?_); (case a => first | rfl | (walk_at "lk")); (case b => walk_at "side"); (case c => exact rfl); (try dsimp only [En.set, List.set, setMu, En.push]))
  | (with_reducible refine' wp_par ?_)
  | ((with_reducible refine' wp_prV ?a ?b ?_); (case a => exact rfl); (case b => exact rfl); (try dsimp only [En.set, List.set, setMu, En.push]))
  | (with_reducible refine' wp_par3 ?_)
  | ((with_reducible refine' wp_prV3 ?a ?b ?_); (case a => exact rfl); (case b => exact rfl); (try dsimp only [En.set, List.set, setMu, En.push]))
  | (with_reducible refine' wp_raise ?_)
  | ((with_reducible refine' wp_raV ?a ?_); (case a => exact rfl); (try dsimp only [En.set, List.set, setMu, En.push]))
  | (with_reducible refine' wp_try ?_)
  | ((with_reducible refine' wp_suite ?a ?b ?_); (case a => exact rfl); (case b => exact rfl); (try dsimp only [En.set, List.set, setMu, En.push]))
  | (with_reducible refine' wp_for ?_)
  | (with_reducible refine' wp_fiOf ?_)
  | (with_reducible refine' wp_fiA ?_)
  | ((with_reducible refine' wp_asQ ?a ?_); (case a => exact rfl); (try dsimp only))
  | ((with_reducible refine' wp_rng1 ?a ?b ?_); (case a => exact rfl); (case b => (first | omega | decide)); (try dsimp only))
  | ((with_reducible refine' wp_rng2 ?a ?b ?_); (case a => exact rfl); (case b => (first | omega | decide)); (try dsimp only))
  | (with_reducible refine' wp_lc ?_)
  | ((with_reducible refine' wp_lcEnd ?a ?b ?c ?_); (case a => exact rfl); (case b => (first | exact Nat.le_of_ble_eq_true rfl | ((try dsimp only); simp only [List.length_map, List.length_range, List.length_append, List.length_cons, List.length_nil]; omega) | ((try dsimp only); omega))); (case c => exact rfl); (try dsimp only [wipeE, En.set, List.set]))
  | ((with_reducible refine' wp_lcV ?a ?b ?_); (case a => exact rfl); (case b => exact rfl); (try dsimp only [wipeE, En.set, List.set]))
  | ((with_reducible refine' wp_ok ?_); (try dsimp only))
  | ((with_reducible refine' seqK_nx ?_); (try dsimp only))
  | (with_reducible refine' seqK_rt ?_)
  | (with_reducible refine' seqK_bk ?_)
  | (with_reducible refine' seqK_ct ?_)
  | ((with_reducible refine' turnK_nx ?_); (try dsimp only))
  | ((with_reducible refine' turnK_ct ?_); (try dsimp only))
  | (with_reducible refine' turnK_bk ?_)
  | (with_reducible refine' turnK_rt ?_))
local macro_rules | `(tactic| walk_at "wpu") => `(tactic| first
  | ((with_reducible refine' wp_lcons ?a ?_); (case a => exact rfl); (try dsimp only))
  | ((with_reducible refine' wp_lnil ?_); (try dsimp only))
  | ((with_reducible refine' wp_lccons ?a ?_); (case a => exact rfl); (try dsimp only))
  | ((with_reducible refine' wp_lcnil ?_); (try dsimp only [restE, En.set, List.set]); (try dsimp only)))
local macro_rules | `(tactic| walk_at "fin") => `(tactic| first
  | ((with_reducible refine' finW_sh ?a ?_); (case a => (first | rfl | (simp only [List.length_set]; done))))
  | ((with_reducible refine' finW_fr ?a ?_); (case a => (first | rfl | (simp only [List.length_set]; done))))
  | ((with_reducible refine' finW_nx ?a ?_); (case a => (first | rfl | (simp only [List.length_set]; done))))
  | ((with_reducible refine' finW_ow ?b ?a ?_); (case b => exact rfl); (case a => (first | rfl | (simp only [List.length_set]; done)))))

theorem lwhole_ok {L : List D} {d : D} (ht : (tyN d).isSome = true) : run__law_whole [d] L = .ok false (.bl (isWD d)) L := by
  have h := look_ty (L := L) ht
  apply RF.of_wp
  unfold run__law_whole
  refine wp_run (by rfl) ?_
  unfold fb__law_whole
  show R.wp (fsRet _ ⟨[.sh d], L⟩) _ _
  repeat' (first | ((refine wp_callG (pk1t h) (isi_int ht) ?_); (try dsimp only)) | walk_at "wp1")
  refine wp_ite (fun hi => ?_) (fun hi => ?_)
  · repeat' (first | ((refine wp_callG (pk1t h) (isi_bool ht) ?_); (try dsimp only)) | walk_at "wp1")
    walk_at "fin"
    refine ⟨rfl, ?_, rfl⟩
    cases d <;> first | rfl | cases hi
  · repeat' (first | walk_at "wp1")
    walk_at "fin"
    refine ⟨rfl, ?_, rfl⟩
    cases d <;> first | rfl | cases hi
theorem lcell_ok {L : List D} {d : D} {n : Int} (v : Wr d) : run__law_is_cell [d, .int n] L = .ok false (.bl (cellB d n)) L := by
  have lk := look_ty (L := L) v.ty
  apply RF.of_wp
  unfold run__law_is_cell
  refine wp_run (by rfl) ?_
  unfold fb__law_is_cell
  show R.wp (fsSeq _ _ ⟨[.sh d, .sh (.int n), .un], L⟩) _ _
  repeat' (first | ((refine wp_callG (pk1t lk) (isi_tuple v.ty) ?_); (try dsimp only)) | walk_at "wp1")
  by_cases ht : isTup d = true
  · obtain ⟨ds, rfl⟩ : ∃ ds, d = .tup ds := by
      cases d <;> first | exact ⟨_, rfl⟩ | cases ht
    obtain ⟨v1, v2⟩ := v.tup
    repeat' (first | ((refine wp_callG (pk1 lk) rfl ?_); (try dsimp only)) | walk_at "wp1")
    refine wp_ite (fun hl => ?_) (fun hl => ?_)
    · repeat' (first | walk_at "wp1")
      walk_at "fin"
      refine ⟨rfl, ?_, rfl⟩
      have : decide ((ds.length : Int) = n) = false := by simpa using hl
      simp only [cellB, this, Bool.false_and]
    · repeat' (first | walk_at "wp1")
      refine wp_lcfil (q := fun d => !isWD d) (fun e he => ?_) ?_
      · refine ⟨_, rfl, rfl, ?_, ?_⟩
        · (try simp only [List.set_set]); (try dsimp only [restE, wipeE, En.set, List.set, List.getElem?_cons_succ, List.getElem?_cons_zero, backV_f, backV_t])
          repeat' (first | ((with_reducible refine' RF.wp_eq (lwhole_ok (v2 e he).ty) ?_); (try dsimp only [backV_f, backV_t])) | walk_at "wp1")
        · (try simp only [List.set_set]); (try dsimp only [restE, wipeE, En.set, List.set, List.getElem?_cons_succ, List.getElem?_cons_zero, backV_f, backV_t])
          repeat' (first | walk_at "wp1")
      · (try simp only [List.set_set]); (try dsimp only [restE, wipeE, En.set, List.set, List.getElem?_cons_succ, List.getElem?_cons_zero, backV_f, backV_t])
        repeat' (first | ((refine wp_op2 rfl rfl (eqDX_nil _) ?_); (try dsimp only)) | walk_at "wp1")
        walk_at "fin"
        refine ⟨rfl, ?_, rfl⟩
        have : decide ((ds.length : Int) = n) = true := by simpa using hl
        rw [filter_no]
        simp only [cellB, this, Bool.true_and]
  · have hf : isTup d = false := by simpa using ht
    repeat' (first | walk_at "wp1")
    walk_at "fin"
    refine ⟨rfl, ?_, rfl⟩
    cases d <;> first | rfl | exact absurd rfl ht
theorem lloop_ok {L : List D} {d : D} {n : Int} (v : Wr d) : run__law_is_loop [d, .int n] L = .ok false (.bl (loopB d n)) L := by
  have lk := look_ty (L := L) v.ty
  apply RF.of_wp
  unfold run__law_is_loop
  refine wp_run (by rfl) ?_
  unfold fb__law_is_loop
  show R.wp (fsSeq _ _ ⟨[.sh d, .sh (.int n)], L⟩) _ _
  repeat' (first | ((refine wp_callG (pk1t lk) (isi_tuple v.ty) ?_); (try dsimp only)) | walk_at "wp1")
  by_cases ht : isTup d = true
  · obtain ⟨ds, rfl⟩ : ∃ ds, d = .tup ds := by
      cases d <;> first | exact ⟨_, rfl⟩ | cases ht
    obtain ⟨v1, v2⟩ := v.tup
    repeat' (first | ((refine wp_callG (pk1 lk) rfl ?_); (try dsimp only)) | walk_at "wp1")
    refine wp_ite (fun hl => ?_) (fun hl => ?_)
    · repeat' (first | walk_at "wp1")
      walk_at "fin"
      refine ⟨rfl, ?_, rfl⟩
      match ds, hl with
      | [], _ => rfl
      | [_], _ => rfl
      | [_, _], hl => simp at hl
      | _ :: _ :: _ :: _, _ => rfl
    · match ds, v1, v2, hl with
      | [], _, _, hl => simp at hl
      | [_], _, _, hl => simp at hl
      | _ :: _ :: _ :: _, _, _, hl => simp at hl; omega
      | [a, b], _, v2, _ =>
        have wa := v2 a (by simp)
        have wb := v2 b (by simp)
        repeat' (first | ((with_reducible refine' RF.wp_eq (lwhole_ok wa.ty) ?_); (try dsimp only [backV_f, backV_t])) | walk_at "wp1")
        refine wp_ite (fun ha => ?_) (fun ha => ?_)
        · repeat' (first | walk_at "wp1")
          walk_at "fin"
          refine ⟨rfl, ?_, rfl⟩
          have : geB a = false := by cases a <;> first | rfl | (simp [isWD] at ha; done)
          simp only [loopB, this, Bool.false_and]
        · obtain ⟨i, rfl⟩ : ∃ i, a = .int i := by
            cases a <;> first | exact ⟨_, rfl⟩ | (simp [isWD] at ha; done)
          repeat' (first | walk_at "wp1")
          refine wp_ite (fun hi => ?_) (fun hi => ?_)
          · repeat' (first | ((with_reducible refine' RF.wp_eq (lcell_ok wb) ?_); (try dsimp only [backV_f, backV_t])) | walk_at "wp1")
            walk_at "fin"
            refine ⟨rfl, ?_, rfl⟩
            have hi : (0 : Int) ≤ i := by simpa using hi
            simp only [loopB, geB, decide_eq_true hi, Bool.true_and]
          · repeat' (first | walk_at "wp1")
            walk_at "fin"
            refine ⟨rfl, ?_, rfl⟩
            have hi : ¬ (0 : Int) ≤ i := by simpa using hi
            simp only [loopB, geB, decide_eq_false hi, Bool.false_and]
  · have hf : isTup d = false := by simpa using ht
    repeat' (first | walk_at "wp1")
    walk_at "fin"
    refine ⟨rfl, ?_, rfl⟩
    cases d <;> first | rfl | exact absurd rfl ht
theorem lnest_ok {L : List D} {d : D} {n : Int} (v : Wr d) : run__law_is_nest [d, .int n] L = .ok false (.bl (nestB d n)) L := by
  have lk := look_ty (L := L) v.ty
  apply RF.of_wp
  unfold run__law_is_nest
  refine wp_run (by rfl) ?_
  unfold fb__law_is_nest
  show R.wp (fsSeq _ _ ⟨[.sh d, .sh (.int n), .un], L⟩) _ _
  repeat' (first | ((refine wp_callG (pk1t lk) (isi_tuple v.ty) ?_); (try dsimp only)) | walk_at "wp1")
  by_cases ht : isTup d = true
  · obtain ⟨ds, rfl⟩ : ∃ ds, d = .tup ds := by
      cases d <;> first | exact ⟨_, rfl⟩ | cases ht
    obtain ⟨v1, v2⟩ := v.tup
    repeat' (first | ((refine wp_callG (pk1 lk) rfl ?_); (try dsimp only)) | walk_at "wp1")
    refine wp_ite (fun hl => ?_) (fun hl => ?_)
    · repeat' (first | walk_at "wp1")
      walk_at "fin"
      refine ⟨rfl, ?_, rfl⟩
      match ds, hl with
      | [], _ => rfl
      | [_], _ => simp only [nestB]
      | [_, _], _ => simp only [nestB]
      | [_, _, _], hl => simp at hl
      | _ :: _ :: _ :: _ :: _, _ => simp only [nestB]
    · match ds, v1, v2, hl with
      | [], _, _, hl => simp at hl
      | [_], _, _, hl => simp at hl
      | [_, _], _, _, hl => simp at hl
      | _ :: _ :: _ :: _ :: _, _, _, hl => simp at hl; omega
      | [l, b, a], _, v2, _ =>
        have wl := v2 l (by simp)
        have wb := v2 b (by simp)
        have wa := v2 a (by simp)
        repeat' (first | ((refine wp_callG (pk1t (look_ty wl.ty)) (isi_list wl.ty) ?_); (try dsimp only)) | walk_at "wp1")
        refine wp_ite (fun hi => ?_) (fun hi => ?_)
        · repeat' (first | walk_at "wp1")
          walk_at "fin"
          refine ⟨rfl, ?_, rfl⟩
          cases l <;> first | rfl | (simp [isLs] at hi; done) | (have := wl.ok; cases this)
        · obtain ⟨ls, rfl⟩ : ∃ ls, l = .lst ls := by
            cases l <;> first | exact ⟨_, rfl⟩ | (have := wl.ok; cases this; done) | (simp [isLs] at hi; done)
          obtain ⟨u1, u2⟩ := wl.lst
          repeat' (first | walk_at "wp1")
          refine wp_lcfil (q := fun d => !loopB d n) (fun e he => ?_) ?_
          · refine ⟨_, rfl, rfl, ?_, ?_⟩
            · (try simp only [List.set_set]); (try dsimp only [restE, wipeE, En.set, List.set, List.getElem?_cons_succ, List.getElem?_cons_zero, backV_f, backV_t])
              repeat' (first | ((with_reducible refine' RF.wp_eq (lloop_ok (u2 e he)) ?_); (try dsimp only [backV_f, backV_t])) | walk_at "wp1")
            · (try simp only [List.set_set]); (try dsimp only [restE, wipeE, En.set, List.set, List.getElem?_cons_succ, List.getElem?_cons_zero, backV_f, backV_t])
              repeat' (first | walk_at "wp1")
          · (try simp only [List.set_set]); (try dsimp only [restE, wipeE, En.set, List.set, List.getElem?_cons_succ, List.getElem?_cons_zero, backV_f, backV_t])
            repeat' (first | ((refine wp_op2 rfl rfl (neDX_nil _) ?_); (try dsimp only)) | walk_at "wp1")
            rw [filter_no]
            refine wp_ite (fun hq => ?_) (fun hq => ?_)
            · repeat' (first | walk_at "wp1")
              walk_at "fin"
              refine ⟨rfl, ?_, rfl⟩
              have hq : (ls.all fun d => loopB d n) = false := by simpa using hq
              simp only [nestB, hq, Bool.false_and]
            · have hq : (ls.all fun d => loopB d n) = true := by simpa using hq
              repeat' (first | ((with_reducible refine' RF.wp_eq (lcell_ok wb) ?_); (try dsimp only [backV_f, backV_t])) | walk_at "wp1")
              refine wp_ite (fun hc => ?_) (fun hc => ?_)
              · repeat' (first | ((with_reducible refine' RF.wp_eq (lwhole_ok wa.ty) ?_); (try dsimp only [backV_f, backV_t])) | walk_at "wp1")
                walk_at "fin"
                refine ⟨rfl, ?_, rfl⟩
                simp only [nestB, hq, hc, Bool.true_and]
              · repeat' (first | walk_at "wp1")
                walk_at "fin"
                refine ⟨rfl, ?_, rfl⟩
                simp only [nestB, hq, hc, Bool.true_and, Bool.false_and]
  · have hf : isTup d = false := by simpa using ht
    repeat' (first | walk_at "wp1")
    walk_at "fin"
    refine ⟨rfl, ?_, rfl⟩
    cases d <;> first | rfl | exact absurd rfl ht
end K02
namespace K02
open PySem PySem.Spec PyProof.Rows L2 Tr
local macro_rules | `(tactic| walk_at "lk") => `(tactic| first
  | with_reducible assumption
  | ((dsimp only [muV, peek, look]); (with_reducible assumption))
  | ((dsimp only [muV, peek, look]); exact List.getElem?_set_self (by first | (with_reducible assumption) | (simp only [List.length_set]; (with_reducible assumption))))
  | ((dsimp only [muV, peek, look]); simp only [*, Option.isSome_some]; done)
  | ((dsimp only [muV, peek, look]); (simp only [*, List.getElem?_set_self, List.length_set, Option.isSome_some]); done))
local macro_rules | `(tactic| walk_at "side") => `(tactic| first
  | (with_reducible exact eqDX_i _ _)
  | (with_reducible exact neDX_i _ _)
  | (with_reducible exact eqD_i _ _)
  | (with_reducible exact neD_i _ _)
  | (exact rfl)
  | ((with_reducible refine' mulD_i inferInstance inferInstance ?_); decide +kernel)
  | ((with_reducible refine' divD_i inferInstance ?_ ?_); (decide +kernel); (first | (with_reducible assumption) | omega | decide))
  | ((with_reducible refine modD_i ?_); (first | (with_reducible assumption) | omega | decide))
  | with_reducible assumption)
local macro_rules | `(tactic| walk_at "dec") => `(tactic| first
  | (first | rfl | (with_reducible assumption) | (simp only [decide_eq_true_eq, Bool.not_eq_true', decide_eq_false_iff_not, Bool.not_eq_eq_eq_not, Bool.not_true, Bool.not_false, Bool.not_eq_true, Bool.not_not] <;> first | (with_reducible assumption) | omega | decide)))
local macro_rules | `(tactic| walk_at "wp1") => `(tactic| first
  | ((with_reducible refine' wp_var ?a ?_); (case a => exact rfl); (try dsimp only))
  | ((with_reducible refine' wp_varo ?a ?_); (case a => exact rfl); (try dsimp only))
  | ((with_reducible refine' wp_c ?_); (try dsimp only))
  | (with_reducible refine' wp_op ?_)
  | ((with_reducible refine' wp_op2 ?a ?b ?c ?_); (case a => first | rfl | (walk_at "lk")); (case b => first | rfl | (walk_at "lk")); (case c => walk_at "side"); (try dsimp only))
  | (with_reducible refine' wp_un ?_)
  | ((with_reducible refine' wp_op1 ?a ?c ?_); (case a => first | rfl | (walk_at "lk")); (case c => walk_at "side"); (try dsimp only))
  | ((with_reducible refine' wp_ite_t ?a ?_); (case a => walk_at "dec"); (try dsimp only))
  | ((with_reducible refine' wp_ite_f ?a ?_); (case a => walk_at "dec"); (try dsimp only))
  | ((with_reducible refine' ite_pt ?a ?_); (case a => walk_at "dec"); (try dsimp only))
  | ((with_reducible refine' ite_pf ?a ?_); (case a => walk_at "dec"); (try dsimp only))
  | (with_reducible refine' wp_ife ?_)
  | (with_reducible refine' wp_and ?_)
  | (with_reducible refine' wp_or ?_)
  | (with_reducible refine' wp_not ?_)
  | (with_reducible refine' wp_tup ?_)
  | ((with_reducible refine' wp_dispT ?a ?b ?_); (case a => exact rfl); (case b => (first | exact Nat.le_of_ble_eq_true rfl | ((try dsimp only); simp only [List.length_map, List.length_range, List.length_append, List.length_cons, List.length_nil]; omega) | ((try dsimp only); omega))); (try dsimp only [En.set, List.set, setMu, En.push]))
  | (with_reducible refine' wp_lst ?_)
  | ((with_reducible refine' wp_dispL ?a ?b ?_); (case a => exact rfl); (case b => (first | exact Nat.le_of_ble_eq_true rfl | ((try dsimp only); simp only [List.length_map, List.length_range, List.length_append, List.length_cons, List.length_nil]; omega) | ((try dsimp only); omega))); (try dsimp only [En.set, List.set, setMu, En.push]))
  | (with_reducible refine' wp_b ?_)
  | ((with_reducible refine' wp_callG ?a ?c ?_); (case a => first | rfl | (walk_at "lk")); (case c => walk_at "side"); (try dsimp only))
  | (with_reducible refine' wp_call ?_)
  | ((with_reducible refine' wp_callP ?a ?_); (case a => exact rfl); (try dsimp only [List.cons_append, List.nil_append, List.append_nil]); (try dsimp only [En.set, List.set, setMu, En.push]))
  | (with_reducible refine' wp_sl ?_)
  | ((with_reducible refine' wp_slEnd ?a ?c ?_); (case a => first | rfl | (walk_at "lk")); (case c => walk_at "side"); (try dsimp only))
  | (with_reducible refine' wp_m ?_)
  | ((with_reducible refine' wp_m2 ?a ?_); (case a => first | exact rfl | ((dsimp only [muV]); simp only [*, isLst]; done)))
  | ((with_reducible refine' wp_meth ?a ?b ?c ?d ?_); (case a => exact rfl); (case b => first | exact rfl | (walk_at "lk")); (case c => walk_at "side"); (case d => exact rfl); (try dsimp only [En.set, List.set, setMu]); (try simp only [List.set_set, Int.reduceToNat, List.set]))
  | (with_reducible refine' wp_live ?_)
  | ((with_reducible refine' wp_liveF ?a ?_); (case a => exact rfl); (try dsimp only [En.set, List.set, setMu, En.push]))
  | ((with_reducible refine' wp_liveS ?_); (try dsimp only))
  | ((with_reducible refine' wp_dk ?_); (try dsimp only))
  | (with_reducible refine' wp_val ?_)
  | ((with_reducible refine' wp_asB ?_); (try dsimp only))
  | (with_reducible refine' wp_tand ?_)
  | (with_reducible refine' wp_tor ?_)
  | (with_reducible refine' wp_tnot ?_)
  | ((with_reducible refine' wp_yes ?_); (try dsimp only))
  | ((with_reducible refine' wp_nil ?_); (try dsimp only [Val.held]))
  | (with_reducible refine' wp_cons ?_)
  | ((with_reducible refine' wp_foN ?_); (try dsimp only))
  | (with_reducible refine' wp_foS ?_)
  | ((with_reducible refine' wp_asI ?_); (try dsimp only))
  | ((with_reducible refine' wp_fnil ?_); (try dsimp only))
  | (with_reducible refine' wp_seq ?_)
  | (with_reducible refine' wp_expr ?_)
  | (with_reducible refine' wp_ret ?_)
  | ((with_reducible refine' wp_retN ?_); (try dsimp only))
  | (with_reducible refine' wp_if ?_)
  | (with_reducible refine' wp_set ?_)
  | ((with_reducible refine' wp_stV ?a ?_); (case a => exact rfl); (try dsimp only [En.set, List.set, setMu, En.push]))
  | (with_reducible refine' wp_pat ?_)
  | ((with_reducible refine' wp_paV ?a ?b ?_); (case a => exact rfl); (case b => exact rfl); (try dsimp only [En.set, List.set, setMu, En.push]))
  | (with_reducible refine' wp_put ?_)
  | ((with_reducible refine' wp_putV ?a ?_); (case a => exact rfl); (try dsimp only))
  | ((with_reducible refine' wp_put2 ?a ?_); (case a => first | exact rfl | (walk_at "lk")); (try dsimp only))
  | ((with_reducible refine' wp_putEnd ?a ?b ?c ?d ?_); (case a => exact rfl); (case b => first | exact rfl | (walk_at "lk")); (case c => walk_at "side"); (case d => exact rfl); (try dsimp only [En.set, List.set, setMu]); (try simp only [List.set_set, Int.reduceToNat, List.set]))
  | ((with_reducible refine' wp_aug ?a ?_); (case a => exact rfl))
  | ((with_reducible refine' wp_augV ?a ?b ?c ?_); (case a => first | rfl | (walk_at "lk")); (case b => walk_at "side"); (case c => exact rfl); (try dsimp only [En.set, List.set, setMu, En.push]))
  | (with_reducible refine' wp_par ?_)
  | ((with_reducible refine' wp_prV ?a ?b ?_); (case a => exact rfl); (case b => exact rfl); (try dsimp only [En.set, List.set, setMu, En.push]))
  | (with_reducible refine' wp_par3 ?_)
  | ((with_reducible refine' wp_prV3 ?a ?b ?_); (case a => exact rfl); (case b => exact rfl); (try dsimp only [En.set, List.set, setMu, En.push]))
  | (with_reducible refine' wp_raise ?_)
  | ((with_reducible refine' wp_raV ?a ?_); (case a => exact rfl); (try dsimp only [En.set, List.set, setMu, En.push]))
  | (with_reducible refine' wp_try ?_)
  | ((with_reducible refine' wp_suite ?a ?b ?_); (case a => exact rfl); (case b => exact rfl); (try dsimp only [En.set, List.set, setMu, En.push]))
  | (with_reducible refine' wp_for ?_)
  | (with_reducible refine' wp_fiOf ?_)
  | (with_reducible refine' wp_fiA ?_)
  | ((with_reducible refine' wp_asQ ?a ?_); (case a => exact rfl); (try dsimp only))
  | ((with_reducible refine' wp_rng1 ?a ?b ?_); (case a => exact rfl); (case b => (first | omega | decide)); (try dsimp only))
  | ((with_reducible refine' wp_rng2 ?a ?b ?_); (case a => exact rfl); (case b => (first | omega | decide)); (try dsimp only))
  | (with_reducible refine' wp_lc ?_)
  | ((with_reducible refine' wp_lcEnd ?a ?b ?c ?_); (case a => exact rfl); (case b => (first | exact Nat.le_of_ble_eq_true rfl | ((try dsimp only); simp only [List.length_map, List.length_range, List.length_append, List.length_cons, List.length_nil]; omega) | ((try dsimp only); omega))); (case c => exact rfl); (try dsimp only [wipeE, En.set, List.set]))
  | ((with_reducible refine' wp_lcV ?a ?b ?_); (case a => exact rfl); (case b => exact rfl); (try dsimp only [wipeE, En.set, List.set]))
  | ((with_reducible refine' wp_ok ?_); (try dsimp only))
  | ((with_reducible refine' seqK_nx ?_); (try dsimp only))
  | (with_reducible refine' seqK_rt ?_)
  | (with_reducible refine' seqK_bk ?_)
  | (with_reducible refine' seqK_ct ?_)
  | ((with_reducible refine' turnK_nx ?_); (try dsimp only))
  | ((with_reducible refine' turnK_ct ?_); (try dsimp only))
  | (with_reducible refine' turnK_bk ?_)
  | (with_reducible refine' turnK_rt ?_))
local macro_rules | `(tactic| walk_at "wpu") => `(tactic| first
  | ((with_reducible refine' wp_lcons ?a ?_); (case a => exact rfl); (try dsimp only))
  | ((with_reducible refine' wp_lnil ?_); (try dsimp only))
  | ((with_reducible refine' wp_lccons ?a ?_); (case a => exact rfl); (try dsimp only))
  | ((with_reducible refine' wp_lcnil ?_); (try dsimp only [restE, En.set, List.set]); (try dsimp only)))
local macro_rules | `(tactic| walk_at "fin") => `(tactic| first
  | ((with_reducible refine' finW_sh ?a ?_); (case a => (first | rfl | (simp only [List.length_set]; done))))
  | ((with_reducible refine' finW_fr ?a ?_); (case a => (first | rfl | (simp only [List.length_set]; done))))
  | ((with_reducible refine' finW_nx ?a ?_); (case a => (first | rfl | (simp only [List.length_set]; done))))
  | ((with_reducible refine' finW_ow ?b ?a ?_); (case b => exact rfl); (case a => (first | rfl | (simp only [List.length_set]; done)))))
/-- a value that is no number of axes -/
def oddB : D → Bool
  | .int i => decide (i < 1 ∨ 3 < i)
  | _ => true
theorem axes_ok {L : List D} {m : Int} (h1 : 1 ≤ m) (h3 : m ≤ 3) : run_check_axes [.int m] L = .ok false .non L := by
  have hw : run_check_whole [.int m, .int 1, .int 3] L = .ok false .non L := by
    apply RF.of_wp
    unfold run_check_whole
    refine wp_run (by rfl) ?_
    unfold fb_check_whole
    show R.wp (fsIf _ _ _ ⟨[.sh (.int m), .sh (.int 1), .sh (.int 3)], L⟩) _ _
    repeat' (first | ((with_reducible refine' RF.wp_eq (is_whole_ok rfl) ?_); (try dsimp only [backV_f, backV_t])) | walk_at "wp1")
    walk_at "fin"
    exact ⟨rfl, rfl, rfl⟩
  apply RF.of_wp
  unfold run_check_axes
  refine wp_run (by rfl) ?_
  unfold fb_check_axes
  show R.wp (fsExpr _ ⟨[.sh (.int m)], L⟩) _ _
  repeat' (first | ((with_reducible refine' RF.wp_eq (hw) ?_); (try dsimp only [backV_f, backV_t])) | walk_at "wp1")
  walk_at "fin"
  exact ⟨rfl, rfl, rfl⟩
theorem axes_no {L : List D} {d : D} (ht : (tyN d).isSome = true) (h : oddB d = true) : run_check_axes [d] L = .ex "InvalidNumber" "value" d L := by
  have hw : run_check_whole [d, .int 1, .int 3] L = .ex "InvalidNumber" "value" d L := by
    apply RF.of_wpX
    unfold run_check_whole
    refine wp_run (by rfl) ?_
    unfold fb_check_whole
    show R.wp (fsIf _ _ _ ⟨[.sh d, .sh (.int 1), .sh (.int 3)], L⟩) _ _
    repeat' (first | ((with_reducible refine' RF.wp_eq (is_whole_ok ht) ?_); (try dsimp only [backV_f, backV_t])) | walk_at "wp1")
    by_cases hi : isWD d = true
    · obtain ⟨i, rfl⟩ : ∃ i, d = .int i := by
        cases d <;> first | exact ⟨_, rfl⟩ | cases hi
      have h : i < 1 ∨ 3 < i := by simpa [oddB] using h
      by_cases c : i < 1
      · repeat' (first | walk_at "wp1")
        exact ⟨rfl, rfl, rfl, by rw [trim_self rfl]⟩
      · have c' : 3 < i := by omega
        repeat' (first | walk_at "wp1")
        exact ⟨rfl, rfl, rfl, by rw [trim_self rfl]⟩
    · have hf : isWD d = false := by simpa using hi
      repeat' (first | walk_at "wp1")
      exact ⟨rfl, rfl, rfl, by rw [trim_self rfl]⟩
  apply RF.of_wpX
  unfold run_check_axes
  refine wp_run (by rfl) ?_
  unfold fb_check_axes
  show R.wp (fsExpr _ ⟨[.sh d], L⟩) _ _
  repeat' (first | ((with_reducible refine' RF.wp_ex hw ?_); (try dsimp only)) | walk_at "wp1")
  exact ⟨rfl, rfl, rfl, by rw [trim_self rfl]⟩
theorem is_cell_ok {L : List D} {d : D} {m : Int} (v : Wr d) (h1 : 1 ≤ m) (h3 : m ≤ 3) : run_is_cell [d, .int m] L = .ok false (.bl (cellB d m)) L := by
  apply RF.of_wp
  unfold run_is_cell
  refine wp_run (by rfl) ?_
  unfold fb_is_cell
  show R.wp (fsSeq _ _ ⟨[.sh d, .sh (.int m)], L⟩) _ _
  repeat' (first | ((with_reducible refine' RF.wp_eq (axes_ok h1 h3) ?_); (try dsimp only [backV_f, backV_t])) | ((with_reducible refine' RF.wp_eq (cell_ok v) ?_); (try dsimp only [backV_f, backV_t])) | walk_at "wp1")
  walk_at "fin"
  exact ⟨rfl, rfl, rfl⟩
theorem is_nest_ok {L : List D} {d : D} {m : Int} (v : Wr d) (h1 : 1 ≤ m) (h3 : m ≤ 3) : run_is_nest [d, .int m] L = .ok false (.bl (nestB d m)) L := by
  apply RF.of_wp
  unfold run_is_nest
  refine wp_run (by rfl) ?_
  unfold fb_is_nest
  show R.wp (fsSeq _ _ ⟨[.sh d, .sh (.int m)], L⟩) _ _
  repeat' (first | ((with_reducible refine' RF.wp_eq (axes_ok h1 h3) ?_); (try dsimp only [backV_f, backV_t])) | ((with_reducible refine' RF.wp_eq (nest_ok v) ?_); (try dsimp only [backV_f, backV_t])) | walk_at "wp1")
  walk_at "fin"
  exact ⟨rfl, rfl, rfl⟩
theorem is_cell_no {L : List D} {d o : D} (ht : (tyN o).isSome = true) (h : oddB o = true) : run_is_cell [d, o] L = .ex "InvalidNumber" "value" o L := by
  apply RF.of_wpX
  unfold run_is_cell
  refine wp_run (by rfl) ?_
  unfold fb_is_cell
  show R.wp (fsSeq _ _ ⟨[.sh d, .sh o], L⟩) _ _
  repeat' (first | ((with_reducible refine' RF.wp_ex (axes_no ht h) ?_); (try dsimp only)) | walk_at "wp1")
  exact ⟨rfl, rfl, rfl, by rw [trim_self rfl]⟩
theorem is_nest_no {L : List D} {d o : D} (ht : (tyN o).isSome = true) (h : oddB o = true) : run_is_nest [d, o] L = .ex "InvalidNumber" "value" o L := by
  apply RF.of_wpX
  unfold run_is_nest
  refine wp_run (by rfl) ?_
  unfold fb_is_nest
  show R.wp (fsSeq _ _ ⟨[.sh d, .sh o], L⟩) _ _
  repeat' (first | ((with_reducible refine' RF.wp_ex (axes_no ht h) ?_); (try dsimp only)) | walk_at "wp1")
  exact ⟨rfl, rfl, rfl, by rw [trim_self rfl]⟩
theorem wr_two (a b : Bool) : Wr (.lst [.bl a, .bl b]) := ⟨rfl, by show 2 ≤ _; decide, by show 1 ≤ _; decide⟩
theorem right_ok {L : List D} {d : D} {m : Int} (v : Wr d) (h1 : 1 ≤ m) (h3 : m ≤ 3) : run__law_right [d, .int m] L = .ok false (.bl true) L := by
  have lk := look_ty (L := L) v.ty
  obtain ⟨s, hs⟩ := v.repr
  obtain ⟨t, ht⟩ := (wr_two (cellB d m) (nestB d m)).repr
  apply RF.of_wp
  unfold run__law_right
  refine wp_run (by rfl) ?_
  unfold fb__law_right
  show R.wp (fsSeq _ _ ⟨[.sh d, .sh (.int m), .un, .un], L⟩) _ _
  repeat' (first | ((with_reducible refine' wp_callG (pk1 lk) (hs) ?_); (try dsimp only)) | ((with_reducible refine' RF.wp_eq (is_cell_ok v h1 h3) ?_); (try dsimp only [backV_f, backV_t])) | ((with_reducible refine' RF.wp_eq (is_nest_ok v h1 h3) ?_); (try dsimp only [backV_f, backV_t])) | ((with_reducible refine' RF.wp_eq (lcell_ok v) ?_); (try dsimp only [backV_f, backV_t])) | ((with_reducible refine' RF.wp_eq (lnest_ok v) ?_); (try dsimp only [backV_f, backV_t])) | ((with_reducible refine' wp_callG ?_ (ht) ?_); (first | rfl | (walk_at "lk")); (try dsimp only)) | ((with_reducible refine' wp_op2 ?_ ?_ (eq_self _) ?_); (first | rfl | (walk_at "lk")); (first | rfl | (walk_at "lk")); (try dsimp only)) | walk_at "wp1")
  walk_at "fin"
  exact ⟨rfl, rfl, rfl⟩
theorem refused_ok {L : List D} {d o : D} (wo : Wr o) (h : oddB o = true) : run__law_refused [d, o] L = .ok false (.bl true) L := by
  have ht := wo.ty
  have lk := look_ty (L := L) ht
  obtain ⟨s, hs⟩ := wo.repr
  apply RF.of_wp
  unfold run__law_refused
  refine wp_run (by rfl) ?_
  unfold fb__law_refused
  show R.wp (fsSeq _ _ ⟨[.sh d, .sh o, .un, .un, .un], L⟩) _ _
  repeat' (first | walk_at "wp1")
  refine wp_loop (I := fun n ρ => ∃ (y2 y3 : Slot), ρ = ⟨[.sh d, .sh o, y2, y3, .un], L⟩) ⟨_, _, rfl⟩ ?step ?fin
  case fin =>
    rintro ρ ⟨y2, y3, rfl⟩
    repeat' (first | walk_at "wp1")
    walk_at "fin"
    exact ⟨rfl, rfl, rfl⟩
  case step =>
    rintro n e ρ he ⟨y2, y3, rfl⟩
    obtain ⟨i, hi, rfl⟩ := List.mem_map.mp (List.mem_of_getElem? he)
    have hi : i < 2 := List.mem_range.mp hi
    refine ⟨_, rfl, ?_⟩
    (try simp only [List.set_set]); (try dsimp only [restE, wipeE, En.set, List.set, List.getElem?_cons_succ, List.getElem?_cons_zero, backV_f, backV_t])
    have hx : xfD errL "value" (.exn "InvalidNumber" "value" o) = some (.sh o) := rfl
    have hz : isiD errL [.exn "InvalidNumber" "value" o, .glo "InvalidNumber"] = some (vB true) := rfl
    have t0 : List.lookup ("is_cell" : Str) [("is_cell", run_is_cell), ("is_nest", run_is_nest)] = some run_is_cell := by kernel_rfl
    have t1 : List.lookup ("is_nest" : Str) [("is_cell", run_is_cell), ("is_nest", run_is_nest)] = some run_is_nest := by kernel_rfl
    have hi : i = 0 ∨ i = 1 := by omega
    rcases hi with rfl | rfl
    · repeat' (first | ((with_reducible refine' wp_cv ?_)) | ((with_reducible refine' wp_cvK t0 ?_)) | ((with_reducible refine' RF.wp_ex (is_cell_no ht h) ?_); (try dsimp only)) | walk_at "wp1")
      refine ⟨_, rfl, ?_⟩
      (try simp only [List.set_set]); (try dsimp only [restE, wipeE, En.set, List.set, List.getElem?_cons_succ, List.getElem?_cons_zero, backV_f, backV_t])
      repeat' (first | ((with_reducible refine' wp_callG ?_ (hz) ?_); (first | rfl | (walk_at "lk")); (try dsimp only)) | ((with_reducible refine' wp_callG (pk1 lk) (hs) ?_); (try dsimp only)) | ((with_reducible refine' wp_op2 ?_ ?_ (ne_self _) ?_); (first | rfl | (walk_at "lk")); (first | rfl | (walk_at "lk")); (try dsimp only)) | walk_at "wp1")
      exact ⟨_, _, rfl⟩
    · repeat' (first | ((with_reducible refine' wp_cv ?_)) | ((with_reducible refine' wp_cvK t1 ?_)) | ((with_reducible refine' RF.wp_ex (is_nest_no ht h) ?_); (try dsimp only)) | walk_at "wp1")
      refine ⟨_, rfl, ?_⟩
      (try simp only [List.set_set]); (try dsimp only [restE, wipeE, En.set, List.set, List.getElem?_cons_succ, List.getElem?_cons_zero, backV_f, backV_t])
      repeat' (first | ((with_reducible refine' wp_callG ?_ (hz) ?_); (first | rfl | (walk_at "lk")); (try dsimp only)) | ((with_reducible refine' wp_callG (pk1 lk) (hs) ?_); (try dsimp only)) | ((with_reducible refine' wp_op2 ?_ ?_ (ne_self _) ?_); (first | rfl | (walk_at "lk")); (first | rfl | (walk_at "lk")); (try dsimp only)) | walk_at "wp1")
      exact ⟨_, _, rfl⟩
end K02
namespace K02
open PySem PySem.Spec PyProof.Rows L2 Tr
local macro_rules | `(tactic| walk_at "lk") => `(tactic| first
  | with_reducible assumption
  | ((dsimp only [muV, peek, look]); (with_reducible assumption))
  | ((dsimp only [muV, peek, look]); exact List.getElem?_set_self (by first | (with_reducible assumption) | (simp only [List.length_set]; (with_reducible assumption))))
  | ((dsimp only [muV, peek, look]); simp only [*, Option.isSome_some]; done)
  | ((dsimp only [muV, peek, look]); (simp only [*, List.getElem?_set_self, List.length_set, Option.isSome_some]); done))
local macro_rules | `(tactic| walk_at "side") => `(tactic| first
  | (with_reducible exact eqDX_i _ _)
  | (with_reducible exact neDX_i _ _)
  | (with_reducible exact eqD_i _ _)
  | (with_reducible exact neD_i _ _)
  | (exact rfl)
  | ((with_reducible refine' mulD_i inferInstance inferInstance ?_); decide +kernel)
  | ((with_reducible refine' divD_i inferInstance ?_ ?_); (decide +kernel); (first | (with_reducible assumption) | omega | decide))
  | ((with_reducible refine modD_i ?_); (first | (with_reducible assumption) | omega | decide))
  | with_reducible assumption)
local macro_rules | `(tactic| walk_at "dec") => `(tactic| first
  | (first | rfl | (with_reducible assumption) | (simp only [decide_eq_true_eq, Bool.not_eq_true', decide_eq_false_iff_not, Bool.not_eq_eq_eq_not, Bool.not_true, Bool.not_false, Bool.not_eq_true, Bool.not_not] <;> first | (with_reducible assumption) | omega | decide)))
local macro_rules | `(tactic| walk_at "wp1") => `(tactic| first
  | ((with_reducible refine' wp_var ?a ?_); (case a => exact rfl); (try dsimp only))
  | ((with_reducible refine' wp_varo ?a ?_); (case a => exact rfl); (try dsimp only))
  | ((with_reducible refine' wp_c ?_); (try dsimp only))
  | (with_reducible refine' wp_op ?_)
  | ((with_reducible refine' wp_op2 ?a ?b ?c ?_); (case a => first | rfl | (walk_at "lk")); (case b => first | rfl | (walk_at "lk")); (case c => walk_at "side"); (try dsimp only))
  | (with_reducible refine' wp_un ?_)
  | ((with_reducible refine' wp_op1 ?a ?c ?_); (case a => first | rfl | (walk_at "lk")); (case c => walk_at "side"); (try dsimp only))
  | ((with_reducible refine' wp_m2 ?a ?_); (case a => first | exact rfl | ((dsimp only [muV]); simp only [*, isLst]; done)))
  | ((with_reducible refine' wp_ite_t ?a ?_); (case a => walk_at "dec"); (try dsimp only))
  | ((with_reducible refine' wp_ite_f ?a ?_); (case a => walk_at "dec"); (try dsimp only))
  | ((with_reducible refine' ite_pt ?a ?_); (case a => walk_at "dec"); (try dsimp only))
  | ((with_reducible refine' ite_pf ?a ?_); (case a => walk_at "dec"); (try dsimp only))
  | (with_reducible refine' wp_ife ?_)
  | (with_reducible refine' wp_and ?_)
  | (with_reducible refine' wp_or ?_)
  | (with_reducible refine' wp_not ?_)
  | (with_reducible refine' wp_tup ?_)
  | ((with_reducible refine' wp_dispT ?a ?b ?_); (case a => exact rfl); (case b => (first | exact Nat.le_of_ble_eq_true rfl | ((try dsimp only); simp only [List.length_map, List.length_range, List.length_append, List.length_cons, List.length_nil]; omega) | ((try dsimp only); omega))); (try dsimp only [En.set, List.set, setMu, En.push]))
  | (with_reducible refine' wp_lst ?_)
  | ((with_reducible refine' wp_dispL ?a ?b ?_); (case a => exact rfl); (case b => (first | exact Nat.le_of_ble_eq_true rfl | ((try dsimp only); simp only [List.length_map, List.length_range, List.length_append, List.length_cons, List.length_nil]; omega) | ((try dsimp only); omega))); (try dsimp only [En.set, List.set, setMu, En.push]))
  | (with_reducible refine' wp_b ?_)
  | ((with_reducible refine' wp_callG ?a ?c ?_); (case a => first | rfl | (walk_at "lk")); (case c => walk_at "side"); (try dsimp only))
  | (with_reducible refine' wp_call ?_)
  | ((with_reducible refine' wp_callP ?a ?_); (case a => exact rfl); (try dsimp only [List.cons_append, List.nil_append, List.append_nil]); (try dsimp only [En.set, List.set, setMu, En.push]))
  | (with_reducible refine' wp_sl ?_)
  | ((with_reducible refine' wp_slEnd ?a ?c ?_); (case a => first | rfl | (walk_at "lk")); (case c => walk_at "side"); (try dsimp only))
  | (with_reducible refine' wp_m ?_)
  | ((with_reducible refine' wp_meth ?a ?b ?c ?d ?_); (case a => exact rfl); (case b => first | exact rfl | (walk_at "lk")); (case c => walk_at "side"); (case d => exact rfl); (try dsimp only [En.set, List.set, setMu]); (try simp only [List.set_set, Int.reduceToNat, List.set]))
  | (with_reducible refine' wp_live ?_)
  | ((with_reducible refine' wp_liveF ?a ?_); (case a => exact rfl); (try dsimp only [En.set, List.set, setMu, En.push]))
  | ((with_reducible refine' wp_liveS ?_); (try dsimp only))
  | ((with_reducible refine' wp_dk ?_); (try dsimp only))
  | (with_reducible refine' wp_val ?_)
  | ((with_reducible refine' wp_asB ?_); (try dsimp only))
  | (with_reducible refine' wp_tand ?_)
  | (with_reducible refine' wp_tor ?_)
  | (with_reducible refine' wp_tnot ?_)
  | ((with_reducible refine' wp_yes ?_); (try dsimp only))
  | ((with_reducible refine' wp_nil ?_); (try dsimp only [Val.held]))
  | (with_reducible refine' wp_cons ?_)
  | ((with_reducible refine' wp_foN ?_); (try dsimp only))
  | (with_reducible refine' wp_foS ?_)
  | ((with_reducible refine' wp_asI ?_); (try dsimp only))
  | ((with_reducible refine' wp_fnil ?_); (try dsimp only))
  | (with_reducible refine' wp_seq ?_)
  | (with_reducible refine' wp_expr ?_)
  | (with_reducible refine' wp_ret ?_)
  | ((with_reducible refine' wp_retN ?_); (try dsimp only))
  | (with_reducible refine' wp_if ?_)
  | (with_reducible refine' wp_set ?_)
  | ((with_reducible refine' wp_stV ?a ?_); (case a => exact rfl); (try dsimp only [En.set, List.set, setMu, En.push]))
  | (with_reducible refine' wp_pat ?_)
  | ((with_reducible refine' wp_paV ?a ?b ?_); (case a => exact rfl); (case b => exact rfl); (try dsimp only [En.set, List.set, setMu, En.push]))
  | (with_reducible refine' wp_put ?_)
  | ((with_reducible refine' wp_putV ?a ?_); (case a => exact rfl); (try dsimp only))
  | ((with_reducible refine' wp_put2 ?a ?_); (case a => first | exact rfl | (walk_at "lk")); (try dsimp only))
  | ((with_reducible refine' wp_putEnd ?a ?b ?c ?d ?_); (case a => exact rfl); (case b => first | exact rfl | (walk_at "lk")); (case c => walk_at "side"); (case d => exact rfl); (try dsimp only [En.set, List.set, setMu]); (try simp only [List.set_set, Int.reduceToNat, List.set]))
  | ((with_reducible refine' wp_aug ?a ?_); (case a => exact rfl))
  | ((with_reducible refine' wp_augV ?a ?b ?c ?_); (case a => first | rfl | (walk_at "lk")); (case b => walk_at "side"); (case c => exact rfl); (try dsimp only [En.set, List.set, setMu, En.push]))
  | (with_reducible refine' wp_par ?_)
  | ((with_reducible refine' wp_prV ?a ?b ?_); (case a => exact rfl); (case b => exact rfl); (try dsimp only [En.set, List.set, setMu, En.push]))
  | (with_reducible refine' wp_par3 ?_)
  | ((with_reducible refine' wp_prV3 ?a ?b ?_); (case a => exact rfl); (case b => exact rfl); (try dsimp only [En.set, List.set, setMu, En.push]))
  | (with_reducible refine' wp_raise ?_)
  | ((with_reducible refine' wp_raV ?a ?_); (case a => exact rfl); (try dsimp only [En.set, List.set, setMu, En.push]))
  | (with_reducible refine' wp_try ?_)
  | ((with_reducible refine' wp_suite ?a ?b ?_); (case a => exact rfl); (case b => exact rfl); (try dsimp only [En.set, List.set, setMu, En.push]))
  | (with_reducible refine' wp_for ?_)
  | (with_reducible refine' wp_fiOf ?_)
  | (with_reducible refine' wp_fiA ?_)
  | ((with_reducible refine' wp_asQ ?a ?_); (case a => exact rfl); (try dsimp only))
  | ((with_reducible refine' wp_rng1 ?a ?b ?_); (case a => exact rfl); (case b => (first | omega | decide)); (try dsimp only))
  | ((with_reducible refine' wp_rng2 ?a ?b ?_); (case a => exact rfl); (case b => (first | omega | decide)); (try dsimp only))
  | (with_reducible refine' wp_lc ?_)
  | ((with_reducible refine' wp_lcEnd ?a ?b ?c ?_); (case a => exact rfl); (case b => (first | exact Nat.le_of_ble_eq_true rfl | ((try dsimp only); simp only [List.length_map, List.length_range, List.length_append, List.length_cons, List.length_nil]; omega) | ((try dsimp only); omega))); (case c => exact rfl); (try dsimp only [wipeE, En.set, List.set]))
  | ((with_reducible refine' wp_lcV ?a ?b ?_); (case a => exact rfl); (case b => exact rfl); (try dsimp only [wipeE, En.set, List.set]))
  | ((with_reducible refine' wp_ok ?_); (try dsimp only))
  | ((with_reducible refine' seqK_nx ?_); (try dsimp only))
  | (with_reducible refine' seqK_rt ?_)
  | (with_reducible refine' seqK_bk ?_)
  | (with_reducible refine' seqK_ct ?_)
  | ((with_reducible refine' turnK_nx ?_); (try dsimp only))
  | ((with_reducible refine' turnK_ct ?_); (try dsimp only))
  | (with_reducible refine' turnK_bk ?_)
  | (with_reducible refine' turnK_rt ?_))
local macro_rules | `(tactic| walk_at "wpu") => `(tactic| first
  | ((with_reducible refine' wp_lcons ?a ?_); (case a => exact rfl); (try dsimp only))
  | ((with_reducible refine' wp_lnil ?_); (try dsimp only))
  | ((with_reducible refine' wp_lccons ?a ?_); (case a => exact rfl); (try dsimp only))
  | ((with_reducible refine' wp_lcnil ?_); (try dsimp only [restE, En.set, List.set]); (try dsimp only)))
local macro_rules | `(tactic| walk_at "fin") => `(tactic| first
  | ((with_reducible refine' finW_sh ?a ?_); (case a => (first | rfl | (simp only [List.length_set]; done))))
  | ((with_reducible refine' finW_fr ?a ?_); (case a => (first | rfl | (simp only [List.length_set]; done))))
  | ((with_reducible refine' finW_nx ?a ?_); (case a => (first | rfl | (simp only [List.length_set]; done))))
  | ((with_reducible refine' finW_ow ?b ?a ?_); (case b => exact rfl); (case a => (first | rfl | (simp only [List.length_set]; done)))))
/-- a nest drawn -/
theorem nest_drawn_ok {L : List D} {k : Nat} {B g0 g1 g2 w ct : Int} {m mx : Nat} (hL : L[k]? = some (puD g0 g1 g2)) (hp : Pu B g0 g1 g2) (hB : B ≤ 900000) (hw : 0 ≤ w) (hw2 : w ≤ 10000000000000000000000000000000000000000) (hm : m ≤ 3) (hx : mx ≤ 6) (hc : 0 < ct) (hc2 : ct ≤ 100000000000000000000000000000000000000000) :
    (run__law_nest_drawn [.ref k, .int m, .int mx, .int ct, .int w] L).wp (fun fr d L' => fr = false ∧ ∃ (ls : List (Int × List Int)) (pl : List Int) (am h0 h2 : Int), d = nsD ls pl am ∧ ls.length ≤ mx ∧ NsOk m ls pl am ∧ (∀ l ∈ ls, l.1 < ct) ∧ -3 ≤ am ∧ am ≤ 3 ∧ L' = L.set k (puD h0 g1 h2) ∧ Pu (B + 210) h0 g1 h2) EN := by
  have hk : k < L.length := (List.getElem?_eq_some_iff.mp hL).1
  have e1 : ∀ a b c, (L.set k (puD a b c))[k]? = some (puD a b c) := fun a b c => List.getElem?_set_self hk
  haveI : Sz w 150 := szI (by omega) (by omega)
  unfold run__law_nest_drawn
  refine wp_run (by rfl) ?_
  unfold fb__law_nest_drawn
  show R.wp (fsSeq _ _ ⟨[.sh (.ref k), .sh (.int m), .sh (.int mx), .sh (.int ct), .sh (.int w), .un, .un], L⟩) _ _
  repeat' (first | ((with_reducible refine' RF.wp_n (draw_ok hL hp (by omega) (by omega) (by omega)) ?_)) | walk_at "wp1")
  rintro _ _ _ ⟨rfl, r, u0, u2, rfl, r1, r2, rfl, hu⟩
  (try simp only [List.set_set]); (try dsimp only [restE, wipeE, En.set, List.set, List.getElem?_cons_succ, List.getElem?_cons_zero, backV_f, backV_t])
  repeat' (first | walk_at "wp1")
  refine wp_loop (I := fun n ρ => ∃ (ls : List (Int × List Int)) (y6 : Slot) (h0 h2 : Int), ρ = ⟨[.sh (.ref k), .sh (.int m), .sh (.int mx), .sh (.int ct), .sh (.int w), .ow (.lst (ls.map lpD)), y6], L.set k (puD h0 g1 h2)⟩ ∧ ls.length = n ∧ (∀ l ∈ ls, LpOk m l ∧ l.1 < ct) ∧ Pu (B + 7 + 28 * n) h0 g1 h2) ⟨[], .un, u0, u2, rfl, rfl, by simp, hu.up (by omega)⟩ ?step ?fin
  case fin =>
    rintro ρ ⟨ls, y6, h0, h2, rfl, hl, hls, hq⟩
    rw [List.length_map, List.length_range] at hl hq
    have hq := hq.up (B' := B + 7 + 28 * 6) (by omega)
    have hl : ls.length ≤ mx := by omega
    repeat' (first | ((with_reducible refine' RF.wp_n (cell_drawn_ok (e1 _ _ _) hq (by omega) (by omega) (by omega) hm) ?_)) | walk_at "wp1")
    rintro _ _ _ ⟨rfl, cs, v0, v2, rfl, lc, bc, rfl, hv⟩
    (try simp only [List.set_set]); (try dsimp only [restE, wipeE, En.set, List.set, List.getElem?_cons_succ, List.getElem?_cons_zero, backV_f, backV_t])
    repeat' (first | ((with_reducible refine' RF.wp_n (draw_ok (e1 _ _ _) hv (by omega) (by omega) (by omega)) ?_)) | walk_at "wp1")
    rintro _ _ _ ⟨rfl, t, w0, w2, rfl, t1, t2, rfl, hz⟩
    (try simp only [List.set_set]); (try dsimp only [restE, wipeE, En.set, List.set, List.getElem?_cons_succ, List.getElem?_cons_zero, backV_f, backV_t])
    repeat' (first | walk_at "wp1")
    walk_at "fin"
    exact ⟨rfl, ls, cs, t - 3, w0, w2, rfl, hl, ⟨fun l h => (hls l h).1, lc, fun c h => by have := bc c h; omega, by omega⟩, fun l h => (hls l h).2, by omega, by omega, rfl, hz.up (by omega)⟩
  case step =>
    rintro n d ρ hd ⟨ls, y6, h0, h2, rfl, hl, hls, hq⟩
    have hn : n < 7 := by
      have := (List.getElem?_eq_some_iff.mp hd).1
      rw [List.length_map, List.length_range] at this
      omega
    refine ⟨_, rfl, ?_⟩
    (try simp only [List.set_set]); (try dsimp only [restE, wipeE, En.set, List.set, List.getElem?_cons_succ, List.getElem?_cons_zero, backV_f, backV_t])
    repeat' (first | ((with_reducible refine' RF.wp_n (draw_ok (e1 _ _ _) hq (by omega) hc (by omega)) ?_)) | walk_at "wp1")
    rintro _ _ _ ⟨rfl, c, v0, v2, rfl, c1, c2, rfl, hv⟩
    (try simp only [List.set_set]); (try dsimp only [restE, wipeE, En.set, List.set, List.getElem?_cons_succ, List.getElem?_cons_zero, backV_f, backV_t])
    repeat' (first | ((with_reducible refine' RF.wp_n (cell_drawn_ok (e1 _ _ _) hv (by omega) hw (by omega) hm) ?_)) | walk_at "wp1")
    rintro _ _ _ ⟨rfl, cs, w0, w2, rfl, lc, bc, rfl, hz⟩
    (try simp only [List.set_set]); (try dsimp only [restE, wipeE, En.set, List.set, List.getElem?_cons_succ, List.getElem?_cons_zero, backV_f, backV_t])
    have ap : appD (.lst (ls.map lpD)) [.tup [.int c, .tup (cs.map .int)]] = some (.lst (ls.map lpD ++ [.tup [.int c, .tup (cs.map .int)]]), .non) := appLs (by rw [List.length_map]; omega)
    repeat' (first | ((with_reducible refine' wp_meth ?_ ?_ (ap) ?_ ?_); (exact rfl); (first | exact rfl | (walk_at "lk")); (exact rfl); (try dsimp only [En.set, List.set, setMu]); (try simp only [List.set_set, Int.reduceToNat, List.set])) | walk_at "wp1")
    refine ⟨ls ++ [(c, cs)], _, w0, w2, by rw [List.map_append]; rfl, by simp [hl], ?_, hz.up (by omega)⟩
    intro l h
    rcases List.mem_append.mp h with z | z
    · exact hls l z
    · rw [List.mem_singleton.mp z]
      exact ⟨⟨c1, by show c.natAbs < _; omega, lc, fun x h => by have := bc x h; omega⟩, c2⟩
end K02
namespace K02
open PySem PySem.Spec PyProof.Rows L2 Tr
local macro_rules | `(tactic| walk_at "lk") => `(tactic| first
  | with_reducible assumption
  | ((dsimp only [muV, peek, look]); (with_reducible assumption))
  | ((dsimp only [muV, peek, look]); exact List.getElem?_set_self (by first | (with_reducible assumption) | (simp only [List.length_set]; (with_reducible assumption))))
  | ((dsimp only [muV, peek, look]); simp only [*, Option.isSome_some]; done)
  | ((dsimp only [muV, peek, look]); (simp only [*, List.getElem?_set_self, List.length_set, Option.isSome_some]); done))
local macro_rules | `(tactic| walk_at "side") => `(tactic| first
  | (with_reducible exact eqDX_i _ _)
  | (with_reducible exact neDX_i _ _)
  | (with_reducible exact eqD_i _ _)
  | (with_reducible exact neD_i _ _)
  | (exact rfl)
  | ((with_reducible refine' mulD_i inferInstance inferInstance ?_); decide +kernel)
  | ((with_reducible refine' divD_i inferInstance ?_ ?_); (decide +kernel); (first | (with_reducible assumption) | omega | decide))
  | ((with_reducible refine modD_i ?_); (first | (with_reducible assumption) | omega | decide))
  | with_reducible assumption
  | (with_reducible exact addLs (by (try simp only [List.length_append, List.length_cons, List.length_nil, List.length_map]); omega))
  | (with_reducible exact addT (by (try simp only [List.length_append, List.length_cons, List.length_nil, List.length_map]); omega))
  | (with_reducible exact appLs (by (try simp only [List.length_append, List.length_cons, List.length_nil, List.length_map]); omega)))
local macro_rules | `(tactic| walk_at "dec") => `(tactic| first
  | (first | rfl | (with_reducible assumption) | (simp only [decide_eq_true_eq, Bool.not_eq_true', decide_eq_false_iff_not, Bool.not_eq_eq_eq_not, Bool.not_true, Bool.not_false, Bool.not_eq_true, Bool.not_not] <;> first | (with_reducible assumption) | omega | decide)))
local macro_rules | `(tactic| walk_at "wp1") => `(tactic| first
  | ((with_reducible refine' wp_var ?a ?_); (case a => exact rfl); (try dsimp only))
  | ((with_reducible refine' wp_varo ?a ?_); (case a => exact rfl); (try dsimp only))
  | ((with_reducible refine' wp_c ?_); (try dsimp only))
  | (with_reducible refine' wp_op ?_)
  | ((with_reducible refine' wp_op2 ?a ?b ?c ?_); (case a => first | rfl | (walk_at "lk")); (case b => first | rfl | (walk_at "lk")); (case c => walk_at "side"); (try dsimp only))
  | (with_reducible refine' wp_un ?_)
  | ((with_reducible refine' wp_op1 ?a ?c ?_); (case a => first | rfl | (walk_at "lk")); (case c => walk_at "side"); (try dsimp only))
  | ((with_reducible refine' wp_m2 ?a ?_); (case a => first | exact rfl | ((dsimp only [muV]); simp only [*, isLst]; done)))
  | ((with_reducible refine' wp_ite_t ?a ?_); (case a => walk_at "dec"); (try dsimp only))
  | ((with_reducible refine' wp_ite_f ?a ?_); (case a => walk_at "dec"); (try dsimp only))
  | ((with_reducible refine' ite_pt ?a ?_); (case a => walk_at "dec"); (try dsimp only))
  | ((with_reducible refine' ite_pf ?a ?_); (case a => walk_at "dec"); (try dsimp only))
  | (with_reducible refine' wp_ife ?_)
  | (with_reducible refine' wp_and ?_)
  | (with_reducible refine' wp_or ?_)
  | (with_reducible refine' wp_not ?_)
  | (with_reducible refine' wp_tup ?_)
  | ((with_reducible refine' wp_dispT ?a ?b ?_); (case a => exact rfl); (case b => (first | exact Nat.le_of_ble_eq_true rfl | ((try dsimp only); simp only [List.length_map, List.length_range, List.length_append, List.length_cons, List.length_nil]; omega) | ((try dsimp only); omega))); (try dsimp only [En.set, List.set, setMu, En.push]))
  | (with_reducible refine' wp_lst ?_)
  | ((with_reducible refine' wp_dispL ?a ?b ?_); (case a => exact rfl); (case b => (first | exact Nat.le_of_ble_eq_true rfl | ((try dsimp only); simp only [List.length_map, List.length_range, List.length_append, List.length_cons, List.length_nil]; omega) | ((try dsimp only); omega))); (try dsimp only [En.set, List.set, setMu, En.push]))
  | (with_reducible refine' wp_b ?_)
  | ((with_reducible refine' wp_callG ?a ?c ?_); (case a => first | rfl | (walk_at "lk")); (case c => walk_at "side"); (try dsimp only))
  | (with_reducible refine' wp_call ?_)
  | ((with_reducible refine' wp_callP ?a ?_); (case a => exact rfl); (try dsimp only [List.cons_append, List.nil_append, List.append_nil]); (try dsimp only [En.set, List.set, setMu, En.push]))
  | (with_reducible refine' wp_sl ?_)
  | ((with_reducible refine' wp_slEnd ?a ?c ?_); (case a => first | rfl | (walk_at "lk")); (case c => walk_at "side"); (try dsimp only))
  | (with_reducible refine' wp_m ?_)
  | ((with_reducible refine' wp_meth ?a ?b ?c ?d ?_); (case a => exact rfl); (case b => first | exact rfl | (walk_at "lk")); (case c => walk_at "side"); (case d => exact rfl); (try dsimp only [En.set, List.set, setMu]); (try simp only [List.set_set, Int.reduceToNat, List.set]))
  | (with_reducible refine' wp_live ?_)
  | ((with_reducible refine' wp_liveF ?a ?_); (case a => exact rfl); (try dsimp only [En.set, List.set, setMu, En.push]))
  | ((with_reducible refine' wp_liveS ?_); (try dsimp only))
  | ((with_reducible refine' wp_dk ?_); (try dsimp only))
  | (with_reducible refine' wp_val ?_)
  | ((with_reducible refine' wp_asB ?_); (try dsimp only))
  | (with_reducible refine' wp_tand ?_)
  | (with_reducible refine' wp_tor ?_)
  | (with_reducible refine' wp_tnot ?_)
  | ((with_reducible refine' wp_yes ?_); (try dsimp only))
  | ((with_reducible refine' wp_nil ?_); (try dsimp only [Val.held]))
  | (with_reducible refine' wp_cons ?_)
  | ((with_reducible refine' wp_foN ?_); (try dsimp only))
  | (with_reducible refine' wp_foS ?_)
  | ((with_reducible refine' wp_asI ?_); (try dsimp only))
  | ((with_reducible refine' wp_fnil ?_); (try dsimp only))
  | (with_reducible refine' wp_seq ?_)
  | (with_reducible refine' wp_expr ?_)
  | (with_reducible refine' wp_ret ?_)
  | ((with_reducible refine' wp_retN ?_); (try dsimp only))
  | (with_reducible refine' wp_if ?_)
  | (with_reducible refine' wp_set ?_)
  | ((with_reducible refine' wp_stV ?a ?_); (case a => exact rfl); (try dsimp only [En.set, List.set, setMu, En.push]))
  | (with_reducible refine' wp_pat ?_)
  | ((with_reducible refine' wp_paV ?a ?b ?_); (case a => exact rfl); (case b => exact rfl); (try dsimp only [En.set, List.set, setMu, En.push]))
  | (with_reducible refine' wp_put ?_)
  | ((with_reducible refine' wp_putV ?a ?_); (case a => exact rfl); (try dsimp only))
  | ((with_reducible refine' wp_put2 ?a ?_); (case a => first | exact rfl | (walk_at "lk")); (try dsimp only))
  | ((with_reducible refine' wp_putEnd ?a ?b ?c ?d ?_); (case a => exact rfl); (case b => first | exact rfl | (walk_at "lk")); (case c => walk_at "side"); (case d => exact rfl); (try dsimp only [En.set, List.set, setMu]); (try simp only [List.set_set, Int.reduceToNat, List.set]))
  | ((with_reducible refine' wp_aug ?a ?_); (case a => exact rfl))
  | ((with_reducible refine' wp_augV ?a ?b ?c ?_); (case a => first | rfl | (walk_at "lk")); (case b => walk_at "side"); (case c => exact rfl); (try dsimp only [En.set, List.set, setMu, En.push]))
  | (with_reducible refine' wp_par ?_)
  | ((with_reducible refine' wp_prV ?a ?b ?_); (case a => exact rfl); (case b => exact rfl); (try dsimp only [En.set, List.set, setMu, En.push]))
  | (with_reducible refine' wp_par3 ?_)
  | ((with_reducible refine' wp_prV3 ?a ?b ?_); (case a => exact rfl); (case b => exact rfl); (try dsimp only [En.set, List.set, setMu, En.push]))
  | (with_reducible refine' wp_raise ?_)
  | ((with_reducible refine' wp_raV ?a ?_); (case a => exact rfl); (try dsimp only [En.set, List.set, setMu, En.push]))
  | (with_reducible refine' wp_try ?_)
  | ((with_reducible refine' wp_suite ?a ?b ?_); (case a => exact rfl); (case b => exact rfl); (try dsimp only [En.set, List.set, setMu, En.push]))
  | (with_reducible refine' wp_for ?_)
  | (with_reducible refine' wp_fiOf ?_)
  | (with_reducible refine' wp_fiA ?_)
  | ((with_reducible refine' wp_asQ ?a ?_); (case a => exact rfl); (try dsimp only))
  | ((with_reducible refine' wp_rng1 ?a ?b ?_); (case a => exact rfl); (case b => (first | omega | decide)); (try dsimp only))
  | ((with_reducible refine' wp_rng2 ?a ?b ?_); (case a => exact rfl); (case b => (first | omega | decide)); (try dsimp only))
  | (with_reducible refine' wp_lc ?_)
  | ((with_reducible refine' wp_lcEnd ?a ?b ?c ?_); (case a => exact rfl); (case b => (first | exact Nat.le_of_ble_eq_true rfl | ((try dsimp only); simp only [List.length_map, List.length_range, List.length_append, List.length_cons, List.length_nil]; omega) | ((try dsimp only); omega))); (case c => exact rfl); (try dsimp only [wipeE, En.set, List.set]))
  | ((with_reducible refine' wp_lcV ?a ?b ?_); (case a => exact rfl); (case b => exact rfl); (try dsimp only [wipeE, En.set, List.set]))
  | ((with_reducible refine' wp_ok ?_); (try dsimp only))
  | ((with_reducible refine' seqK_nx ?_); (try dsimp only))
  | (with_reducible refine' seqK_rt ?_)
  | (with_reducible refine' seqK_bk ?_)
  | (with_reducible refine' seqK_ct ?_)
  | ((with_reducible refine' turnK_nx ?_); (try dsimp only))
  | ((with_reducible refine' turnK_ct ?_); (try dsimp only))
  | (with_reducible refine' turnK_bk ?_)
  | (with_reducible refine' turnK_rt ?_))
local macro_rules | `(tactic| walk_at "wpu") => `(tactic| first
  | ((with_reducible refine' wp_lcons ?a ?_); (case a => exact rfl); (try dsimp only))
  | ((with_reducible refine' wp_lnil ?_); (try dsimp only))
  | ((with_reducible refine' wp_lccons ?a ?_); (case a => exact rfl); (try dsimp only))
  | ((with_reducible refine' wp_lcnil ?_); (try dsimp only [restE, En.set, List.set]); (try dsimp only)))
local macro_rules | `(tactic| walk_at "fin") => `(tactic| first
  | ((with_reducible refine' finW_sh ?a ?_); (case a => (first | rfl | (simp only [List.length_set]; done))))
  | ((with_reducible refine' finW_fr ?a ?_); (case a => (first | rfl | (simp only [List.length_set]; done))))
  | ((with_reducible refine' finW_nx ?a ?_); (case a => (first | rfl | (simp only [List.length_set]; done))))
  | ((with_reducible refine' finW_ow ?b ?a ?_); (case b => exact rfl); (case a => (first | rfl | (simp only [List.length_set]; done)))))
def bads : List D := [.non, .bl true, .bl false, .str "1", .lst [.int 1], .tup [.int 1], .dK [] [], .tup [], .lst [], .int (-1), .tup [.int 0, .int 0], .tup [.int 1, .int 2, .int 3], .tup [.bl true], .tup [.tup [.int 1]]]
theorem bads_ok : ∀ d ∈ bads, Pc d 3 2 := by
  intro d hd
  simp only [bads, List.mem_cons, List.not_mem_nil, or_false] at hd
  rcases hd with rfl | rfl | rfl | rfl | rfl | rfl | rfl | rfl | rfl | rfl | rfl | rfl | rfl | rfl
  all_goals exact ⟨by decide +kernel, by decide +kernel, by decide +kernel⟩
theorem res3 {a b c : D} (ha : Pc a 60 8) (hb : Pc b 10 3) (hc : Pc c 10 3) : Pc (.tup [a, b, c]) 100 10 := ((Pcs.cons ha (.cons hb (.cons hc .nil))).tup).up (by decide) (by decide)
theorem res2 {a b : D} (ha : Pc a 60 8) (hb : Pc b 10 3) : Pc (.tup [a, b]) 100 10 := ((Pcs.cons ha (.cons hb .nil)).tup).up (by decide) (by decide)
theorem res4 {a b c d : D} (ha : Pc a 60 8) (hb : Pc b 10 3) (hc : Pc c 10 3) (hd : Pc d 10 3) : Pc (.tup [a, b, c, d]) 100 10 := ((Pcs.cons ha (.cons hb (.cons hc (.cons hd .nil)))).tup).up (by decide) (by decide)
theorem resL {a b c : D} (ha : Pc a 60 8) (hb : Pc b 10 3) (hc : Pc c 10 3) : Pc (.lst [a, b, c]) 100 10 := ((Pcs.cons ha (.cons hb (.cons hc .nil))).lst).up (by decide) (by decide)
theorem bent_ok {L : List D} {k : Nat} {B g0 g1 g2 : Int} {m : Nat} {ls : List (Int × List Int)} {pl : List Int} {am : Int} (hL : L[k]? = some (puD g0 g1 g2)) (hp : Pu B g0 g1 g2) (hB : B ≤ 900000) (hm : m ≤ 3) (hl : ls.length ≤ 3) (h : NsOk m ls pl am) :
    (run__law_bent [.ref k, nsD ls pl am] L).wp (fun fr d L' => fr = false ∧ ∃ (h0 h2 : Int), Pc d 100 10 ∧ L' = L.set k (puD h0 g1 h2) ∧ Pu (B + 21) h0 g1 h2) EN := by
  have hk : k < L.length := (List.getElem?_eq_some_iff.mp hL).1
  have e1 : ∀ a b c, (L.set k (puD a b c))[k]? = some (puD a b c) := fun a b c => List.getElem?_set_self hk
  have pls := (loops_pc h.lo).up (b' := 18) (p' := 2) (Nat.le_trans (Nat.mul_le_mul hl (Nat.add_le_add_right hm 3)) (by decide)) (Nat.le_refl _)
  have ppl := (Pcs.ints h.bd).up (b' := 3) (p' := 0) (by rw [h.len]; exact hm) (Nat.le_refl _)
  have pam := Pc.int h.am
  have lls := pls.len
  have lpl := ppl.len
  unfold run__law_bent
  refine wp_run (by rfl) ?_
  unfold fb__law_bent
  show R.wp (fsSeq _ _ ⟨[.sh (.ref k), .sh (nsD ls pl am), .un, .un, .un, .un, .un, .un, .un, .un, .un], L⟩) _ _
  repeat' (first | ((with_reducible refine' RF.wp_n (draw_ok hL hp (by omega) (by omega) (by omega)) ?_)) | walk_at "wp1")
  rintro _ _ _ ⟨rfl, r, u0, u2, rfl, r1, r2, rfl, hu⟩
  (try simp only [List.set_set]); (try dsimp only [restE, wipeE, En.set, List.set, List.getElem?_cons_succ, List.getElem?_cons_zero, backV_f, backV_t])
  obtain ⟨bad, _, hbad, eb, _⟩ := ixD_at (ds := bads) r1 (by show r < 14; omega)
  have pb := bads_ok bad hbad
  unfold bads at eb
  repeat' (first | ((with_reducible refine' wp_op2 ?_ ?_ (eb) ?_); (first | rfl | (walk_at "lk")); (first | rfl | (walk_at "lk")); (try dsimp only)) | ((with_reducible refine' RF.wp_n (draw_ok (e1 _ _ _) hu (by omega) (by rw [List.length_map]; omega) (by rw [List.length_map]; omega)) ?_)) | walk_at "wp1")
  rintro _ _ _ ⟨rfl, at_, v0, v2, rfl, a1, a2, rfl, hv⟩
  (try simp only [List.set_set]); (try dsimp only [restE, wipeE, En.set, List.set, List.getElem?_cons_succ, List.getElem?_cons_zero, backV_f, backV_t])
  have pc1 := pls.cut none (some at_)
  have pc2 := pls.cut (some at_) none
  have l1 := pc1.len
  have l2 := pc2.len
  have ad1 : addD (.lst (cut (ls.map lpD) none (some at_))) (.lst [bad]) = some (.fr (.lst (cut (ls.map lpD) none (some at_) ++ [bad]))) := addLs (by simp only [List.length_cons, List.length_nil]; omega)
  have ad2 : addD (.lst (cut (ls.map lpD) none (some at_) ++ [bad])) (.lst (cut (ls.map lpD) (some at_) none)) = some (.fr (.lst (cut (ls.map lpD) none (some at_) ++ [bad] ++ cut (ls.map lpD) (some at_) none))) := addLs (by simp only [List.length_append, List.length_cons, List.length_nil]; omega)
  have pc3 := ppl.cut none (some (-1))
  have l3 := pc3.len
  have ad3 : addD (.tup (cut (pl.map .int) none (some (-1)))) (.tup [bad]) = some (.sh (.tup (cut (pl.map .int) none (some (-1)) ++ [bad]))) := addT (by simp only [List.length_cons, List.length_nil]; omega)
  have p0 : Pc (.int 0) 0 0 := ⟨by decide +kernel, Nat.le_refl _, Nat.le_refl _⟩
  repeat' (first | ((with_reducible refine' wp_op2 ?_ ?_ (ad1) ?_); (first | rfl | (walk_at "lk")); (first | rfl | (walk_at "lk")); (try dsimp only)) | ((with_reducible refine' wp_op2 ?_ ?_ (ad2) ?_); (first | rfl | (walk_at "lk")); (first | rfl | (walk_at "lk")); (try dsimp only)) | walk_at "wp1")
  have al : Pc (.lst (ls.map lpD)) 60 8 := pls.lst.up (by decide) (by decide)
  have at1 : Pc (.tup (ls.map lpD)) 60 8 := pls.tup.up (by decide) (by decide)
  have apl : Pc (.tup (pl.map .int)) 10 3 := ppl.tup.up (by decide) (by decide)
  have apL : Pc (.lst (pl.map .int)) 10 3 := ppl.lst.up (by decide) (by decide)
  have aam : Pc (.int am) 10 3 := pam.up (by decide) (by decide)
  have ab6 : Pc bad 60 8 := pb.up (by decide) (by decide)
  have ab1 : Pc bad 10 3 := pb.up (by decide) (by decide)
  have a0 : Pc (.int 0) 10 3 := p0.up (by decide) (by decide)
  have am1 : Pc (.lst (cut (ls.map lpD) none (some at_) ++ [bad] ++ cut (ls.map lpD) (some at_) none)) 60 8 := (((pc1.app (.cons pb .nil)).app pc2).lst).up (by decide) (by decide)
  refine wp_loop (I := fun n ρ => ∃ (y8 y9 y10 : Slot) (sm : List D), ρ = ⟨[.sh (.ref k), .sh (nsD ls pl am), .sh bad, .sh (.int at_), .ow (.lst sm), .sh (.lst (ls.map lpD)), .sh (.tup (pl.map .int)), .sh (.int am), y8, y9, y10], L.set k (puD v0 g1 v2)⟩ ∧ (∀ d ∈ sm, Pc d 100 10) ∧ 1 ≤ sm.length ∧ sm.length ≤ 10 + 6 * n) ⟨_, _, _, _, rfl, ?_, by simp, by simp⟩ ?step ?fin
  · intro d hd
    simp only [List.cons_append, List.nil_append, List.mem_cons, List.not_mem_nil, or_false] at hd
    rcases hd with rfl | rfl | rfl | rfl | rfl | rfl | rfl | rfl | rfl | rfl
    · exact res3 ab6 apl aam
    · exact res3 al ab1 aam
    · exact res3 al apl ab1
    · exact res2 al apl
    · exact res4 al apl aam a0
    · exact res3 at1 apl aam
    · exact res3 al apL aam
    · exact resL al apl aam
    · exact pb.up (by decide) (by decide)
    · exact res3 am1 apl aam
  case fin =>
    rintro ρ ⟨y8, y9, y10, sm, rfl, hsm, l5, l6⟩
    have l7 := cut_len (xs := ls.map lpD) none (some 1)
    have ap : appD (.lst sm) [.tup [.lst (ls.map lpD), .tup (cut (pl.map .int) none (some (-1)) ++ [bad]), .int am]] = some (.lst (sm ++ [.tup [.lst (ls.map lpD), .tup (cut (pl.map .int) none (some (-1)) ++ [bad]), .int am]]), .non) := appLs (by omega)
    repeat' (first | ((with_reducible refine' wp_op2 ?_ ?_ (ad3) ?_); (first | rfl | (walk_at "lk")); (first | rfl | (walk_at "lk")); (try dsimp only)) | ((with_reducible refine' wp_meth ?_ ?_ (ap) ?_ ?_); (exact rfl); (first | exact rfl | (walk_at "lk")); (exact rfl); (try dsimp only [En.set, List.set, setMu]); (try simp only [List.set_set, Int.reduceToNat, List.set])) | ((with_reducible refine' RF.wp_n (draw_ok (e1 _ _ _) hv (by omega) (by rw [List.length_append]; simp only [List.length_cons, List.length_nil]; omega) (by rw [List.length_append]; simp only [List.length_cons, List.length_nil]; omega)) ?_)) | walk_at "wp1")
    rintro _ _ _ ⟨rfl, t, w0, w2, rfl, t1, t2, rfl, hw⟩
    (try simp only [List.set_set]); (try dsimp only [restE, wipeE, En.set, List.set, List.getElem?_cons_succ, List.getElem?_cons_zero, backV_f, backV_t])
    obtain ⟨d, _, hd, ed, _⟩ := ixD_at t1 t2
    repeat' (first | ((with_reducible refine' wp_op2 ?_ ?_ (ed) ?_); (first | rfl | (walk_at "lk")); (first | rfl | (walk_at "lk")); (try dsimp only)) | walk_at "wp1")
    walk_at "fin"
    refine ⟨rfl, w0, w2, ?_, rfl, hw.up (by omega)⟩
    rcases List.mem_append.mp hd with z | z
    · exact hsm d z
    · rw [List.mem_singleton.mp z]
      exact res3 al (((pc3.app (.cons pb .nil)).tup).up (by decide) (by decide)) aam
  case step =>
    rintro n d ρ hd ⟨y8, y9, y10, sm, rfl, hsm, l5, l6⟩
    have hn : n < 18 := by
      have := (List.getElem?_eq_some_iff.mp hd).1
      have l7 := cut_len (xs := ls.map lpD) none (some 1)
      omega
    obtain ⟨l, hl', rfl⟩ := List.mem_map.mp (cut_mem (List.mem_of_getElem? hd))
    have ho := h.lo l hl'
    refine ⟨_, rfl, ?_⟩
    (try simp only [List.set_set]); (try dsimp only [restE, wipeE, En.set, List.set, List.getElem?_cons_succ, List.getElem?_cons_zero, backV_f, backV_t])
    have pc4 := pls.cut (some 1) none
    have l4 := pc4.len
    have pst := (Pcs.ints ho.bd).up (b' := 3) (p' := 0) (by rw [ho.len]; exact hm) (Nat.le_refl _)
    have lst := pst.len
    have pct := Pc.int ho.cb
    have pc6 := pst.cut none (some (-1))
    have l8 := pc6.len
    have pneg : Pc (.int (-1 - l.1)) 0 0 := ⟨decide_eq_true (by
      have q := ho.cb
      have q0 := ho.c0
      have : (2 : Nat) ^ 150 + 1 < 2 ^ 600 := by decide +kernel
      omega), Nat.le_refl _, Nat.le_refl _⟩
    have f1 : ∀ x : D, addD (.lst [x]) (.lst (cut (ls.map lpD) (some 1) none)) = some (.fr (.lst ([x] ++ cut (ls.map lpD) (some 1) none))) := fun x => addLs (by simp only [List.length_cons, List.length_nil]; omega)
    have f2 : ∀ x : D, addD (.lst (cut (ls.map lpD) (some 1) none)) (.lst [x]) = some (.fr (.lst (cut (ls.map lpD) (some 1) none ++ [x]))) := fun x => addLs (by simp only [List.length_cons, List.length_nil]; omega)
    have f3 : ∀ x y : D, addD (.lst sm) (.lst [x, y]) = some (.fr (.lst (sm ++ [x, y]))) := fun x y => addLs (by simp only [List.length_cons, List.length_nil]; omega)
    have f4 : ∀ x y z w : D, addD (.lst (sm ++ [x, y])) (.lst [z, w]) = some (.fr (.lst (sm ++ [x, y] ++ [z, w]))) := fun x y z w => addLs (by simp only [List.length_append, List.length_cons, List.length_nil]; omega)
    have f5 : addD (.tup (cut (l.2.map .int) none (some (-1)))) (.tup [bad]) = some (.sh (.tup (cut (l.2.map .int) none (some (-1)) ++ [bad]))) := addT (by simp only [List.length_cons, List.length_nil]; omega)
    have f6 : ∀ x y z w v : D, appD (.lst (sm ++ [x, y] ++ [z, w])) [v] = some (.lst (sm ++ [x, y] ++ [z, w] ++ [v]), .non) := fun x y z w v => appLs (by simp only [List.length_append, List.length_cons, List.length_nil]; omega)
    have f7 : ∀ x y z w v u : D, appD (.lst (sm ++ [x, y] ++ [z, w] ++ [v])) [u] = some (.lst (sm ++ [x, y] ++ [z, w] ++ [v] ++ [u]), .non) := fun x y z w v u => appLs (by simp only [List.length_append, List.length_cons, List.length_nil]; omega)
    repeat' (first | ((with_reducible refine' wp_op2 ?_ ?_ (f1 _) ?_); (first | rfl | (walk_at "lk")); (first | rfl | (walk_at "lk")); (try dsimp only)) | ((with_reducible refine' wp_op2 ?_ ?_ (f2 _) ?_); (first | rfl | (walk_at "lk")); (first | rfl | (walk_at "lk")); (try dsimp only)) | ((with_reducible refine' wp_op2 ?_ ?_ (f3 _ _) ?_); (first | rfl | (walk_at "lk")); (first | rfl | (walk_at "lk")); (try dsimp only)) | ((with_reducible refine' wp_op2 ?_ ?_ (f4 _ _ _ _) ?_); (first | rfl | (walk_at "lk")); (first | rfl | (walk_at "lk")); (try dsimp only)) | ((with_reducible refine' wp_op2 ?_ ?_ (f5) ?_); (first | rfl | (walk_at "lk")); (first | rfl | (walk_at "lk")); (try dsimp only)) | walk_at "wp1")
    refine ⟨_, _, _, _, rfl, ?_, by simp only [List.length_append, List.length_cons, List.length_nil]; omega, by simp only [List.length_append, List.length_cons, List.length_nil]; omega⟩
    intro e he
    have g1 : ∀ {x : D}, Pc x 20 4 → Pc (.lst ([x] ++ cut (ls.map lpD) (some 1) none)) 60 8 := fun hx => (((Pcs.cons hx .nil).app pc4).lst).up (by decide) (by decide)
    have g2 : ∀ {x : D}, Pc x 20 4 → Pc (.lst (cut (ls.map lpD) (some 1) none ++ [x])) 60 8 := fun hx => ((pc4.app (Pcs.cons hx .nil)).lst).up (by decide) (by decide)
    simp only [List.append_assoc, List.cons_append, List.nil_append, List.mem_append, List.mem_cons, List.not_mem_nil, or_false] at he
    rcases he with z | rfl | rfl | rfl | rfl | rfl | rfl
    · exact hsm e z
    · exact res3 (g1 (((Pcs.cons pb (.cons pst.tup .nil)).tup).up (by decide) (by decide))) apl aam
    · exact res3 (g2 (((Pcs.cons pct (.cons pb .nil)).tup).up (by decide) (by decide))) apl aam
    · exact res3 (g1 (((Pcs.cons pct (.cons pst.tup (.cons p0 .nil))).tup).up (by decide) (by decide))) apl aam
    · exact res3 (g1 (((Pcs.cons pct (.cons pst.tup .nil)).lst).up (by decide) (by decide))) apl aam
    · exact res3 (g1 (((Pcs.cons pct (.cons ((pc6.app (.cons pb .nil)).tup) .nil)).tup).up (by decide) (by decide))) apl aam
    · exact res3 (g2 (((Pcs.cons pneg (.cons pst.tup .nil)).tup).up (by decide) (by decide))) apl aam
end K02
namespace K02
open PySem PySem.Spec PyProof.Rows L2 Tr
local macro_rules | `(tactic| walk_at "lk") => `(tactic| first
  | with_reducible assumption
  | ((dsimp only [muV, peek, look]); (with_reducible assumption))
  | ((dsimp only [muV, peek, look]); exact List.getElem?_set_self (by first | (with_reducible assumption) | (simp only [List.length_set]; (with_reducible assumption))))
  | ((dsimp only [muV, peek, look]); simp only [*, Option.isSome_some]; done)
  | ((dsimp only [muV, peek, look]); (simp only [*, List.getElem?_set_self, List.length_set, Option.isSome_some]); done))
local macro_rules | `(tactic| walk_at "side") => `(tactic| first
  | (with_reducible exact eqDX_i _ _)
  | (with_reducible exact neDX_i _ _)
  | (with_reducible exact eqD_i _ _)
  | (with_reducible exact neD_i _ _)
  | (exact rfl)
  | ((with_reducible refine' mulD_i inferInstance inferInstance ?_); decide +kernel)
  | ((with_reducible refine' divD_i inferInstance ?_ ?_); (decide +kernel); (first | (with_reducible assumption) | omega | decide))
  | ((with_reducible refine modD_i ?_); (first | (with_reducible assumption) | omega | decide))
  | with_reducible assumption
  | (with_reducible exact addLs (by (try simp only [List.length_append, List.length_cons, List.length_nil, List.length_map]); omega))
  | (with_reducible exact addT (by (try simp only [List.length_append, List.length_cons, List.length_nil, List.length_map]); omega))
  | (with_reducible exact appLs (by (try simp only [List.length_append, List.length_cons, List.length_nil, List.length_map]); omega)))
local macro_rules | `(tactic| walk_at "dec") => `(tactic| first
  | (first | rfl | (with_reducible assumption) | (simp only [decide_eq_true_eq, Bool.not_eq_true', decide_eq_false_iff_not, Bool.not_eq_eq_eq_not, Bool.not_true, Bool.not_false, Bool.not_eq_true, Bool.not_not] <;> first | (with_reducible assumption) | omega | decide)))
local macro_rules | `(tactic| walk_at "wp1") => `(tactic| first
  | ((with_reducible refine' wp_var ?a ?_); (case a => exact rfl); (try dsimp only))
  | ((with_reducible refine' wp_varo ?a ?_); (case a => exact rfl); (try dsimp only))
  | ((with_reducible refine' wp_c ?_); (try dsimp only))
  | (with_reducible refine' wp_op ?_)
  | ((with_reducible refine' wp_op2 ?a ?b ?c ?_); (case a => first | rfl | (walk_at "lk")); (case b => first | rfl | (walk_at "lk")); (case c => walk_at "side"); (try dsimp only))
  | (with_reducible refine' wp_un ?_)
  | ((with_reducible refine' wp_op1 ?a ?c ?_); (case a => first | rfl | (walk_at "lk")); (case c => walk_at "side"); (try dsimp only))
  | ((with_reducible refine' wp_m2 ?a ?_); (case a => first | exact rfl | ((dsimp only [muV]); simp only [*, isLst]; done)))
  | ((with_reducible refine' wp_ite_t ?a ?_); (case a => walk_at "dec"); (try dsimp only))
  | ((with_reducible refine' wp_ite_f ?a ?_); (case a => walk_at "dec"); (try dsimp only))
  | ((with_reducible refine' ite_pt ?a ?_); (case a => walk_at "dec"); (try dsimp only))
  | ((with_reducible refine' ite_pf ?a ?_); (case a => walk_at "dec"); (try dsimp only))
  | (with_reducible refine' wp_ife ?_)
  | (with_reducible refine' wp_and ?_)
  | (with_reducible refine' wp_or ?_)
  | (with_reducible refine' wp_not ?_)
  | (with_reducible refine' wp_tup ?_)
  | ((with_reducible refine' wp_dispT ?a ?b ?_); (case a => exact rfl); (case b => (first | exact Nat.le_of_ble_eq_true rfl | ((try dsimp only); simp only [List.length_map, List.length_range, List.length_append, List.length_cons, List.length_nil]; omega) | ((try dsimp only); omega))); (try dsimp only [En.set, List.set, setMu, En.push]))
  | (with_reducible refine' wp_lst ?_)
  | ((with_reducible refine' wp_dispL ?a ?b ?_); (case a => exact rfl); (case b => (first | exact Nat.le_of_ble_eq_true rfl | ((try dsimp only); simp only [List.length_map, List.length_range, List.length_append, List.length_cons, List.length_nil]; omega) | ((try dsimp only); omega))); (try dsimp only [En.set, List.set, setMu, En.push]))
  | (with_reducible refine' wp_b ?_)
  | ((with_reducible refine' wp_callG ?a ?c ?_); (case a => first | rfl | (walk_at "lk")); (case c => walk_at "side"); (try dsimp only))
  | (with_reducible refine' wp_call ?_)
  | ((with_reducible refine' wp_callP ?a ?_); (case a => exact rfl); (try dsimp only [List.cons_append, List.nil_append, List.append_nil]); (try dsimp only [En.set, List.set, setMu, En.push]))
  | (with_reducible refine' wp_sl ?_)
  | ((with_reducible refine' wp_slEnd ?a ?c ?_); (case a => first | rfl | (walk_at "lk")); (case c => walk_at "side"); (try dsimp only))
  | (with_reducible refine' wp_m ?_)
  | ((with_reducible refine' wp_meth ?a ?b ?c ?d ?_); (case a => exact rfl); (case b => first | exact rfl | (walk_at "lk")); (case c => walk_at "side"); (case d => exact rfl); (try dsimp only [En.set, List.set, setMu]); (try simp only [List.set_set, Int.reduceToNat, List.set]))
  | (with_reducible refine' wp_live ?_)
  | ((with_reducible refine' wp_liveF ?a ?_); (case a => exact rfl); (try dsimp only [En.set, List.set, setMu, En.push]))
  | ((with_reducible refine' wp_liveS ?_); (try dsimp only))
  | ((with_reducible refine' wp_dk ?_); (try dsimp only))
  | (with_reducible refine' wp_val ?_)
  | ((with_reducible refine' wp_asB ?_); (try dsimp only))
  | (with_reducible refine' wp_tand ?_)
  | (with_reducible refine' wp_tor ?_)
  | (with_reducible refine' wp_tnot ?_)
  | ((with_reducible refine' wp_yes ?_); (try dsimp only))
  | ((with_reducible refine' wp_nil ?_); (try dsimp only [Val.held]))
  | (with_reducible refine' wp_cons ?_)
  | ((with_reducible refine' wp_foN ?_); (try dsimp only))
  | (with_reducible refine' wp_foS ?_)
  | ((with_reducible refine' wp_asI ?_); (try dsimp only))
  | ((with_reducible refine' wp_fnil ?_); (try dsimp only))
  | (with_reducible refine' wp_seq ?_)
  | (with_reducible refine' wp_expr ?_)
  | (with_reducible refine' wp_ret ?_)
  | ((with_reducible refine' wp_retN ?_); (try dsimp only))
  | (with_reducible refine' wp_if ?_)
  | (with_reducible refine' wp_set ?_)
  | ((with_reducible refine' wp_stV ?a ?_); (case a => exact rfl); (try dsimp only [En.set, List.set, setMu, En.push]))
  | (with_reducible refine' wp_pat ?_)
  | ((with_reducible refine' wp_paV ?a ?b ?_); (case a => exact rfl); (case b => exact rfl); (try dsimp only [En.set, List.set, setMu, En.push]))
  | (with_reducible refine' wp_put ?_)
  | ((with_reducible refine' wp_putV ?a ?_); (case a => exact rfl); (try dsimp only))
  | ((with_reducible refine' wp_put2 ?a ?_); (case a => first | exact rfl | (walk_at "lk")); (try dsimp only))
  | ((with_reducible refine' wp_putEnd ?a ?b ?c ?d ?_); (case a => exact rfl); (case b => first | exact rfl | (walk_at "lk")); (case c => walk_at "side"); (case d => exact rfl); (try dsimp only [En.set, List.set, setMu]); (try simp only [List.set_set, Int.reduceToNat, List.set]))
  | ((with_reducible refine' wp_aug ?a ?_); (case a => exact rfl))
  | ((with_reducible refine' wp_augV ?a ?b ?c ?_); (case a => first | rfl | (walk_at "lk")); (case b => walk_at "side"); (case c => exact rfl); (try dsimp only [En.set, List.set, setMu, En.push]))
  | (with_reducible refine' wp_par ?_)
  | ((with_reducible refine' wp_prV ?a ?b ?_); (case a => exact rfl); (case b => exact rfl); (try dsimp only [En.set, List.set, setMu, En.push]))
  | (with_reducible refine' wp_par3 ?_)
  | ((with_reducible refine' wp_prV3 ?a ?b ?_); (case a => exact rfl); (case b => exact rfl); (try dsimp only [En.set, List.set, setMu, En.push]))
  | (with_reducible refine' wp_raise ?_)
  | ((with_reducible refine' wp_raV ?a ?_); (case a => exact rfl); (try dsimp only [En.set, List.set, setMu, En.push]))
  | (with_reducible refine' wp_try ?_)
  | ((with_reducible refine' wp_suite ?a ?b ?_); (case a => exact rfl); (case b => exact rfl); (try dsimp only [En.set, List.set, setMu, En.push]))
  | (with_reducible refine' wp_for ?_)
  | (with_reducible refine' wp_fiOf ?_)
  | (with_reducible refine' wp_fiA ?_)
  | ((with_reducible refine' wp_asQ ?a ?_); (case a => exact rfl); (try dsimp only))
  | ((with_reducible refine' wp_rng1 ?a ?b ?_); (case a => exact rfl); (case b => (first | omega | decide)); (try dsimp only))
  | ((with_reducible refine' wp_rng2 ?a ?b ?_); (case a => exact rfl); (case b => (first | omega | decide)); (try dsimp only))
  | (with_reducible refine' wp_lc ?_)
  | ((with_reducible refine' wp_lcEnd ?a ?b ?c ?_); (case a => exact rfl); (case b => (first | exact Nat.le_of_ble_eq_true rfl | ((try dsimp only); simp only [List.length_map, List.length_range, List.length_append, List.length_cons, List.length_nil]; omega) | ((try dsimp only); omega))); (case c => exact rfl); (try dsimp only [wipeE, En.set, List.set]))
  | ((with_reducible refine' wp_lcV ?a ?b ?_); (case a => exact rfl); (case b => exact rfl); (try dsimp only [wipeE, En.set, List.set]))
  | ((with_reducible refine' wp_ok ?_); (try dsimp only))
  | ((with_reducible refine' seqK_nx ?_); (try dsimp only))
  | (with_reducible refine' seqK_rt ?_)
  | (with_reducible refine' seqK_bk ?_)
  | (with_reducible refine' seqK_ct ?_)
  | ((with_reducible refine' turnK_nx ?_); (try dsimp only))
  | ((with_reducible refine' turnK_ct ?_); (try dsimp only))
  | (with_reducible refine' turnK_bk ?_)
  | (with_reducible refine' turnK_rt ?_))
local macro_rules | `(tactic| walk_at "wpu") => `(tactic| first
  | ((with_reducible refine' wp_lcons ?a ?_); (case a => exact rfl); (try dsimp only))
  | ((with_reducible refine' wp_lnil ?_); (try dsimp only))
  | ((with_reducible refine' wp_lccons ?a ?_); (case a => exact rfl); (try dsimp only))
  | ((with_reducible refine' wp_lcnil ?_); (try dsimp only [restE, En.set, List.set]); (try dsimp only)))
local macro_rules | `(tactic| walk_at "fin") => `(tactic| first
  | ((with_reducible refine' finW_sh ?a ?_); (case a => (first | rfl | (simp only [List.length_set]; done))))
  | ((with_reducible refine' finW_fr ?a ?_); (case a => (first | rfl | (simp only [List.length_set]; done))))
  | ((with_reducible refine' finW_nx ?a ?_); (case a => (first | rfl | (simp only [List.length_set]; done))))
  | ((with_reducible refine' finW_ow ?b ?a ?_); (case b => exact rfl); (case a => (first | rfl | (simp only [List.length_set]; done)))))
theorem pick2 {a b r : Int} (h1 : 0 ≤ r) (h2 : r < 2) : ∃ w : Int, (w = a ∨ w = b) ∧ ixD (.lst [.int a, .int b]) (.int r) = some (vI w) := by
  obtain ⟨w, z1, z2, _⟩ := ixD_map (ns := [a, b]) h1 h2
  have := List.mem_of_getElem? z1
  exact ⟨w, by simpa using this, z2⟩
theorem finW_shT {k : Nat} {P : Bool → D → List D → Prop} {ρ : En} {d : D} {L' : List D} (e : trim k d ρ.l = L') (h : P false d L') : finW k P (.rt (.sh d), ρ) := by
  show P false d (trim k d ρ.l)
  rw [e]; exact h
def odds : List D := [.non, .int 0, .int 4, .int (-1), .bl true, .str "1", .lst [.int 1], .tup [.int 1], .dK [] []]
theorem odds_ok : ∀ d ∈ odds, Wr d ∧ oddB d = true := by
  intro d hd
  simp only [odds, List.mem_cons, List.not_mem_nil, or_false] at hd
  rcases hd with rfl | rfl | rfl | rfl | rfl | rfl | rfl | rfl | rfl
  all_goals exact ⟨⟨by decide +kernel, by decide +kernel, by decide +kernel⟩, by decide⟩
def more7 : List D := [.non, .int 0, .str "cell", .tup [], .lst [], .tup [.tup [], .tup [], .int 0], .dK [] []]
theorem more7_ok : ∀ d ∈ more7, Wr d := by
  intro d hd
  simp only [more7, List.mem_cons, List.not_mem_nil, or_false] at hd
  rcases hd with rfl | rfl | rfl | rfl | rfl | rfl | rfl
  all_goals exact ⟨by decide +kernel, by decide +kernel, by decide +kernel⟩
theorem law_ok (ns : List Int) : run_law [.scr ns] [] = .ok false (.bl true) [] := by
  apply RF.of_wp
  unfold run_law
  refine wp_run (by rfl) ?_
  unfold fb_law
  show R.wp (fsSeq _ _ ⟨[.sh (.scr ns), .un, .un, .un, .un, .un, .un, .un, .un, .un, .un], []⟩) _ _
  repeat' (first | walk_at "wp1")
  refine wp_loop (I := fun n ρ => ∃ (y1 y2 y3 y4 y5 y6 y7 y8 : Slot) (Q : List D), ρ = ⟨[.sh (.scr ns), y1, y2, y3, y4, y5, y6, y7, y8, .un, .un], Q⟩ ∧ PQ Q) ⟨_, _, _, _, _, _, _, _, _, rfl, fun q hq => by cases hq⟩ ?step ?fin
  case fin =>
    rintro ρ ⟨y1, y2, y3, y4, y5, y6, y7, y8, Q, rfl, hQ⟩
    repeat' (first | walk_at "wp1")
    refine finW_shT ?_ ⟨rfl, rfl, rfl⟩
    rfl
  case step =>
    rintro n d ρ hd ⟨y1, y2, y3, y4, y5, y6, y7, y8, Q, rfl, hQ⟩
    obtain ⟨i, hi, rfl⟩ := List.mem_map.mp (List.mem_of_getElem? hd)
    have hi := List.mem_range.mp hi
    have hi : i < 4 := hi
    obtain ⟨g0, g1, ep, hp⟩ := purse_ok ns (k := 0 + (i : Int)) (L := Q) (by omega) (by omega)
    refine ⟨_, rfl, ?_⟩
    (try simp only [List.set_set]); (try dsimp only [restE, wipeE, En.set, List.set, List.getElem?_cons_succ, List.getElem?_cons_zero, backV_f, backV_t])
    have a0 : (Q ++ [puD g0 g1 (1000 * (0 + (i : Int)))])[Q.length]? = some (puD g0 g1 (1000 * (0 + (i : Int)))) := at_end
    obtain ⟨P, eP⟩ : ∃ P, P = Q ++ [puD g0 g1 (1000 * (0 + (i : Int)))] := ⟨_, rfl⟩
    rw [← eP] at a0
    have hP : PQ P := by rw [eP]; exact hQ.push
    have hk : Q.length < P.length := (List.getElem?_eq_some_iff.mp a0).1
    have ak : ∀ a b c, (P.set Q.length (puD a b c))[Q.length]? = some (puD a b c) := fun a b c => List.getElem?_set_self hk
    repeat' (first | ((with_reducible refine' RF.wp_eq (ep) ?_); (try dsimp only [backV_f, backV_t])) | walk_at "wp1")
    rw [← eP]
    refine RF.wp_n (draw_ok a0 hp (by omega) (by omega) (by omega)) ?_
    rintro _ _ _ ⟨rfl, r, u0, u2, rfl, r1, r2, rfl, hu⟩
    (try simp only [List.set_set]); (try dsimp only [restE, wipeE, En.set, List.set, List.getElem?_cons_succ, List.getElem?_cons_zero, backV_f, backV_t])
    obtain ⟨m, em⟩ : ∃ m : Nat, (1 + r : Int) = (m : Int) := ⟨(1 + r).toNat, by omega⟩
    have m1 : 1 ≤ m := by omega
    have m3 : m ≤ 3 := by omega
    repeat' (first | walk_at "wp1")
    rw [em]
    repeat' (first | ((with_reducible refine' wp_op2 ?_ ?_ (pow40) ?_); (first | rfl | (walk_at "lk")); (first | rfl | (walk_at "lk")); (try dsimp only)) | ((with_reducible refine' RF.wp_n (draw_ok (ak _ _ _) hu (by omega) (by omega) (by omega)) ?_)) | walk_at "wp1")
    rintro _ _ _ ⟨rfl, r', v0, v2, rfl, r1', r2', rfl, hv⟩
    (try simp only [List.set_set]); (try dsimp only [restE, wipeE, En.set, List.set, List.getElem?_cons_succ, List.getElem?_cons_zero, backV_f, backV_t])
    obtain ⟨ct, hct, ec⟩ := pick2 (a := 4) (b := 10000000000000000000000000000000000000000) r1' r2'
    repeat' (first | ((with_reducible refine' wp_op2 ?_ ?_ (ec) ?_); (first | rfl | (walk_at "lk")); (first | rfl | (walk_at "lk")); (try dsimp only)) | ((with_reducible refine' wp_op2 ?_ ?_ (pow39) ?_); (first | rfl | (walk_at "lk")); (first | rfl | (walk_at "lk")); (try dsimp only)) | ((with_reducible refine' RF.wp_n (draw_ok (ak _ _ _) hv (by omega) (by omega) (by omega)) ?_)) | walk_at "wp1")
    rintro _ _ _ ⟨rfl, r'', w0, w2, rfl, r1'', r2'', rfl, hw⟩
    (try simp only [List.set_set]); (try dsimp only [restE, wipeE, En.set, List.set, List.getElem?_cons_succ, List.getElem?_cons_zero, backV_f, backV_t])
    obtain ⟨wd, hwd, ew⟩ := pick2 (a := 3) (b := 1000000000000000000000000000000000000000) r1'' r2''
    repeat' (first | ((with_reducible refine' wp_op2 ?_ ?_ (ew) ?_); (first | rfl | (walk_at "lk")); (first | rfl | (walk_at "lk")); (try dsimp only)) | ((with_reducible refine' RF.wp_n (nest_drawn_ok (mx := 3) (ak _ _ _) hw (by omega) (by omega) (by omega) m3 (by decide) (by omega) (by omega)) ?_)) | walk_at "wp1")
    rintro _ _ _ ⟨rfl, ls, pl, am, x0, x2, rfl, hl, hn, _, _, _, rfl, hx⟩
    (try simp only [List.set_set]); (try dsimp only [restE, wipeE, En.set, List.set, List.getElem?_cons_succ, List.getElem?_cons_zero, backV_f, backV_t])
    repeat' (first | walk_at "wp1")
    have wn : Wr (nsD ls pl am) := hn.pc.wr (by
      have := Nat.mul_le_mul hl (Nat.add_le_add_right m3 3)
      omega) (by decide)
    have wn3 := wn.tup.2
    refine wp_lcI (I := fun n done ρ => ∃ (h0 h2 : Int), ρ = ⟨[.sh (.scr ns), .sh (.int (0 + (i : Int))), .sh (.ref Q.length), .sh (.int m), .sh (nsD ls pl am), y5, y6, y7, y8, .un, .un], P.set Q.length (puD h0 g1 h2)⟩ ∧ done.length = n ∧ (∀ d ∈ done, Wr d) ∧ Pu (1000 * (0 + (i : Int)) + 231 + 21 * n) h0 g1 h2) ⟨x0, x2, rfl, rfl, by simp, hx.up (by omega)⟩ ?bstep ?bfin
    case bstep =>
      rintro n d done ρ hd ⟨h0, h2, rfl, hdl, hdw, hq⟩
      have hn8 : n < 8 := by
        have := (List.getElem?_eq_some_iff.mp hd).1
        simpa using this
      refine ⟨_, rfl, ?_⟩
      (try simp only [List.set_set]); (try dsimp only [restE, wipeE, En.set, List.set, List.getElem?_cons_succ, List.getElem?_cons_zero, backV_f, backV_t])
      repeat' (first | ((with_reducible refine' RF.wp_n (bent_ok (ak _ _ _) hq (by omega) m3 hl hn) ?_)) | walk_at "wp1")
      rintro _ b _ ⟨rfl, z0, z2, pb, rfl, hz⟩
      (try simp only [List.set_set]); (try dsimp only [restE, wipeE, En.set, List.set, List.getElem?_cons_succ, List.getElem?_cons_zero, backV_f, backV_t])
      repeat' (first | walk_at "wp1")
      refine ⟨z0, z2, rfl, by simp [hdl], fun e he => ?_, hz.up (by omega)⟩
      rcases List.mem_append.mp he with z | z
      · exact hdw e z
      · rw [List.mem_singleton.mp z]; exact pb.wr (by decide) (by decide)
    case bfin =>
      rintro done ρ ⟨h0, h2, rfl, hdl, hdw, hq⟩
      have hdl : done.length = 8 := by rw [hdl]; rfl
      (try simp only [List.set_set]); (try dsimp only [restE, wipeE, En.set, List.set, List.getElem?_cons_succ, List.getElem?_cons_zero, backV_f, backV_t])
      repeat' (first | walk_at "wp1")
      refine wp_lcmap (y := fun d => match d with | .tup [_, b] => b | d => d) (fun d hd => ?_) ?_
      · obtain ⟨l, hl, rfl⟩ := List.mem_map.mp hd
        refine ⟨_, rfl, ?_⟩
        (try simp only [List.set_set]); (try dsimp only [restE, wipeE, En.set, List.set, List.getElem?_cons_succ, List.getElem?_cons_zero, backV_f, backV_t])
        repeat' (first | walk_at "wp1")
      · (try simp only [List.set_set]); (try dsimp only [restE, wipeE, En.set, List.set, List.getElem?_cons_succ, List.getElem?_cons_zero, backV_f, backV_t])
        have hll : (ls.map lpD).length ≤ 3 := by rw [List.length_map]; exact hl
        repeat' (first | walk_at "wp1")
        refine wp_loop (I := fun n ρ => ∃ (y6 y8 : Slot), ρ = ⟨[.sh (.scr ns), .sh (.int (0 + (i : Int))), .sh (.ref Q.length), .sh (.int m), .sh (nsD ls pl am), .ow (.lst ([nsD ls pl am, .lst (ls.map lpD), .tup (pl.map .int), .int am] ++ done)), y6, y7, y8, .un, .un], P.set Q.length (puD h0 g1 h2)⟩) ⟨_, _, rfl⟩ ?tstep ?tfin
        case tstep =>
          rintro t e ρ he ⟨y6, y8, rfl⟩
          have we : Wr e := by
            have := List.mem_of_getElem? he
            rcases List.mem_append.mp this with z | z
            · rcases List.mem_append.mp z with z | z
              · rcases List.mem_append.mp z with z | z
                · simp only [List.mem_cons, List.not_mem_nil, or_false] at z
                  rcases z with rfl | rfl | rfl | rfl
                  · exact wn
                  · exact wn3 _ (by simp)
                  · exact wn3 _ (by simp)
                  · exact wn3 _ (by simp)
                · exact hdw e z
              · obtain ⟨d, hd, rfl⟩ := List.mem_map.mp z
                obtain ⟨l, hl, rfl⟩ := List.mem_map.mp hd
                exact (hn.lo l hl).pc.wr (by omega) (by decide) |>.tup.2 _ (by simp)
            · exact more7_ok e z
          refine ⟨_, rfl, ?_⟩
          (try simp only [List.set_set]); (try dsimp only [restE, wipeE, En.set, List.set, List.getElem?_cons_succ, List.getElem?_cons_zero, backV_f, backV_t])
          repeat' (first | ((with_reducible refine' RF.wp_eq (right_ok we (by decide) (by decide)) ?_); (try dsimp only [backV_f, backV_t])) | walk_at "wp1" | walk_at "wpu")
          exact ⟨_, _, rfl⟩
        case tfin =>
          rintro ρ ⟨y6, y8, rfl⟩
          have f1 : run_is_nest [nsD ls pl am, .int m] (P.set Q.length (puD h0 g1 h2)) = .ok false (.bl true) (P.set Q.length (puD h0 g1 h2)) := by rw [is_nest_ok wn (by omega) (by omega), hn.ns]
          have f2 : run_is_cell [.tup (pl.map .int), .int m] (P.set Q.length (puD h0 g1 h2)) = .ok false (.bl true) (P.set Q.length (puD h0 g1 h2)) := by rw [is_cell_ok (wn3 _ (by simp)) (by omega) (by omega), cell_ints hn.len]
          repeat' (first | ((with_reducible refine' RF.wp_eq (f1) ?_); (try dsimp only [backV_f, backV_t])) | ((with_reducible refine' RF.wp_eq (f2) ?_); (try dsimp only [backV_f, backV_t])) | walk_at "wp1")
          refine wp_loop (I := fun n ρ => ∃ (y7 : Slot), ρ = ⟨[.sh (.scr ns), .sh (.int (0 + (i : Int))), .sh (.ref Q.length), .sh (.int m), .sh (nsD ls pl am), .ow (.lst ([nsD ls pl am, .lst (ls.map lpD), .tup (pl.map .int), .int am] ++ done)), y6, y7, y8, .un, .un], P.set Q.length (puD h0 g1 h2)⟩) ⟨_, rfl⟩ ?ostep ?ofin
          case ostep =>
            rintro t e ρ he ⟨y7, rfl⟩
            obtain ⟨we, oe⟩ := odds_ok e (List.mem_of_getElem? (l := odds) he)
            refine ⟨_, rfl, ?_⟩
            (try simp only [List.set_set]); (try dsimp only [restE, wipeE, En.set, List.set, List.getElem?_cons_succ, List.getElem?_cons_zero, backV_f, backV_t])
            repeat' (first | ((with_reducible refine' RF.wp_eq (refused_ok we oe) ?_); (try dsimp only [backV_f, backV_t])) | walk_at "wp1")
            exact ⟨_, rfl⟩
          case ofin =>
            rintro ρ ⟨y7, rfl⟩
            repeat' (first | walk_at "wp1")
            exact ⟨_, _, _, _, _, _, _, _, _, rfl, hP.set _⟩
end K02
namespace K02
open PySem PySem.Spec PyProof.Rows L2 Tr
theorem all_mk {P : Program} {w : World} {K : PySem.W.Frag} {h : Heap} {mg : Str → Option Value} {fa : Addr} (X : K.In h) (G : h.Ns mainGlobals mg) (hfa : mg "law" = some (.ref fa))
    {Ad : Addr}
    {tk_MOST_AXES : Tok}
    {odA : Option Addr} {cdA : ClassData} {slA : Array (Option Value)}
    {C0 f0 dT0 cda0 cc0 N0 : Addr} {q0 qu0 : Str} {bs0 sub0 : List Value} {sn0 : List Str} {ab0 : Bool} {col0 : Option Bool} {dd0 : Option Addr} {k00 k10 k20 k30 k50 : Option Value}
    {oc0 doc0 pm0 ct0 : Value} {od0 an0 : Option Addr} {osl0 : Array (Option Value)} {p10 p20 p30 x10 x20 x30 x40 x50 x60 r10 r20 r30 r40 : Pos} {tc0 : Value} {td0 : Option Addr} {tn0 : Nat} {ts0 : Array (Option Value)} {cl0 : Value} {cld0 : Option Addr} {csl0 : Array (Option Value)} {ccl0 : Value} {cdd0 : Option Addr} {ccs0 : Array (Option Value)} {vs0 : Array Value} {file0 : Str} {tf0 : Tok}
    {aD0 : Addr} {ocD0 kVD0 dcD0 pmD0 cdD0 ctD0 : Value} {odD0 anD0 : Option Addr} {slD0 : Array (Option Value)}
    {aD1 : Addr} {ocD1 kVD1 dcD1 pmD1 cdD1 ctD1 : Value} {odD1 anD1 : Option Addr} {slD1 : Array (Option Value)} {dtD1 : Addr} {tcD1 : Value} {tdD1 : Option Addr} {tnD1 : Nat} {tsD1 : Array (Option Value)}
    {aD2 : Addr} {ocD2 kVD2 dcD2 pmD2 cdD2 ctD2 : Value} {odD2 anD2 : Option Addr} {slD2 : Array (Option Value)}
    {aD3 : Addr} {ocD3 kVD3 dcD3 pmD3 cdD3 ctD3 : Value} {odD3 anD3 : Option Addr} {slD3 : Array (Option Value)}
    {aD4 : Addr} {ocD4 kVD4 dcD4 pmD4 cdD4 ctD4 : Value} {odD4 anD4 : Option Addr} {slD4 : Array (Option Value)}
    {aD5 : Addr} {ocD5 kVD5 dcD5 pmD5 cdD5 ctD5 : Value} {odD5 anD5 : Option Addr} {slD5 : Array (Option Value)}
    {aD6 : Addr} {ocD6 kVD6 dcD6 pmD6 cdD6 ctD6 : Value} {odD6 anD6 : Option Addr} {slD6 : Array (Option Value)}
    {aD7 : Addr} {ocD7 kVD7 dcD7 pmD7 cdD7 ctD7 : Value} {odD7 anD7 : Option Addr} {slD7 : Array (Option Value)}
    {aD8 : Addr} {ocD8 kVD8 dcD8 pmD8 cdD8 ctD8 : Value} {odD8 anD8 : Option Addr} {slD8 : Array (Option Value)}
    {aD9 : Addr} {ocD9 kVD9 dcD9 pmD9 cdD9 ctD9 : Value} {odD9 anD9 : Option Addr} {slD9 : Array (Option Value)}
    {aD10 : Addr} {ocD10 kVD10 dcD10 pmD10 cdD10 ctD10 : Value} {odD10 anD10 : Option Addr} {slD10 : Array (Option Value)}
    {aD11 : Addr} {ocD11 kVD11 dcD11 pmD11 cdD11 ctD11 : Value} {odD11 anD11 : Option Addr} {slD11 : Array (Option Value)}
    {aD12 : Addr} {ocD12 kVD12 dcD12 pmD12 cdD12 ctD12 : Value} {odD12 anD12 : Option Addr} {slD12 : Array (Option Value)}
    {aD13 : Addr} {ocD13 kVD13 dcD13 pmD13 cdD13 ctD13 : Value} {odD13 anD13 : Option Addr} {slD13 : Array (Option Value)}
    {aD14 : Addr} {ocD14 kVD14 dcD14 pmD14 cdD14 ctD14 : Value} {odD14 anD14 : Option Addr} {slD14 : Array (Option Value)}
    {aD15 : Addr} {ocD15 kVD15 dcD15 pmD15 cdD15 ctD15 : Value} {odD15 anD15 : Option Addr} {slD15 : Array (Option Value)}
    {aD16 : Addr} {ocD16 kVD16 dcD16 pmD16 cdD16 ctD16 : Value} {odD16 anD16 : Option Addr} {slD16 : Array (Option Value)}
    {aD17 : Addr} {ocD17 kVD17 dcD17 pmD17 cdD17 ctD17 : Value} {odD17 anD17 : Option Addr} {slD17 : Array (Option Value)}
    {aD18 : Addr} {ocD18 kVD18 dcD18 pmD18 cdD18 ctD18 : Value} {odD18 anD18 : Option Addr} {slD18 : Array (Option Value)}
    {aD19 : Addr} {ocD19 kVD19 dcD19 pmD19 cdD19 ctD19 : Value} {odD19 anD19 : Option Addr} {slD19 : Array (Option Value)}
    {aD20 : Addr} {ocD20 kVD20 dcD20 pmD20 cdD20 ctD20 : Value} {odD20 anD20 : Option Addr} {slD20 : Array (Option Value)}
    (n_bool : PySem.W.nsIn K mainGlobals "bool" = some none)
    (n_int : PySem.W.nsIn K mainGlobals "int" = some none)
    (n_isinstance : PySem.W.nsIn K mainGlobals "isinstance" = some none)
    (n_len : PySem.W.nsIn K mainGlobals "len" = some none)
    (n_list : PySem.W.nsIn K mainGlobals "list" = some none)
    (n_max : PySem.W.nsIn K mainGlobals "max" = some none)
    (n_range : PySem.W.nsIn K mainGlobals "range" = some none)
    (n_repr : PySem.W.nsIn K mainGlobals "repr" = some none)
    (n_sum : PySem.W.nsIn K mainGlobals "sum" = some none)
    (n_tuple : PySem.W.nsIn K mainGlobals "tuple" = some none)
    (kc_MOST_AXES : PySem.W.nsIn K mainGlobals "MOST_AXES" = some (some (.int 3 tk_MOST_AXES)))
    (aA : PySem.W.nsIn K mainGlobals "AddError" = some (some (.ref Ad)))
    (lA : K.lookup Ad = some ⟨.type "type", odA, .cls cdA, slA⟩)
    (nmA : cdA.name = "AddError")
    (exA : PySem.W.subIn K (.ref Ad) (.type "BaseException") = some true)
    (opq : PySem.W.nsIn K cStatics "thirdparty.any" = some none)
    (nsup : PySem.W.nsIn K mainGlobals "super" = some none)
    (tsup : (P.main.scope.names.lookup ("super" : Str)).isSome = false)
    (eg0 : PySem.W.nsIn K mainGlobals "InvalidNumber" = some (some (.ref C0)))
    (ec0 : K.lookup C0 = some (excClassObj "InvalidNumber" q0 C0 N0 bs0 (.ref Ad :: PySem.HandSPX.veTail) true sn0 sub0 ab0 col0 dd0 k00 k10 k20 k30 k50 "ValueError.__new__"))
    (esa0 : PySem.W.findIn K (.ref C0) "__setattr__" = some (some (.builtin "object.__setattr__")))
    (ega0 : PySem.W.findIn K (.ref C0) "__getattribute__" = some (some (.builtin "BaseException.__getattribute__")))
    (egg0 : PySem.W.findIn K (.ref C0) "__getattr__" = some none)
    (enn0 : PySem.W.findIn K (.ref C0) "value" = some none)
    (ecl0 : PySem.W.findIn K (.ref C0) "__class__" = some (some (.builtin "object.__class__")))
    (ei0 : PySem.W.findIn K (.ref C0) "__init__" = some (some (.ref f0)))
    (et0 : PySem.W.typeIn K (.ref f0) = some (.type "function"))
    (ek0 : PySem.W.keepIn K (.ref C0) = true)
    (eh0 : PySem.W.hasDictIn K C0 = true)
    (es0 : PySem.W.ks_superIn K C0 C0 "__init__" = some (some (.builtin "ValueError.__init__")))
    (el0 : K.lookup f0 = some ⟨oc0, od0, .func (PySem.W.ksFn "__init__" qu0 (PySem.ErrX.eA "value" p10 p20 p30) (PySem.ErrX.eB "value" x10 x20 x30 x40 x50 x60 r10 r20 r30 r40) (PySem.ErrX.eS "value") (.ref dT0) .none doc0 pm0 an0 (.ref cda0) ct0 cc0), osl0⟩)
    (eo0 : PySem.W.codeIn K (.ref cda0) qu0 = true)
    (ed0 : K.lookup dT0 = some ⟨tc0, td0, .seq #[.none] tn0, ts0⟩)
    (ep0 : (x30.endLine == x50.line) = true)
    (ec20 : K.lookup cc0 = some ⟨cl0, cld0, .cell (some (.ref C0)), csl0⟩)
    (ecd0 : K.lookup cda0 = some ⟨ccl0, cdd0, .fields vs0, ccs0⟩)
    (ev0 : vs0[2]? = some (.str file0 tf0))
    (ef0 : ((P.main.file : Str) == file0) = true)
    (gD0 : PySem.W.nsIn K mainGlobals "is_whole" = some (some (.ref aD0)))
    (lD0 : K.lookup aD0 = some ⟨ocD0, odD0, .func (PySem.W.fnOf "is_whole" "is_whole" (defArgs s_is_whole) (defBody s_is_whole) (defScope s_is_whole) .none kVD0 dcD0 pmD0 anD0 cdD0 ctD0), slD0⟩)
    (cD0 : PySem.W.codeIn K cdD0 "is_whole" = true)
    (kD0 : PySem.W.keepIn K (.ref aD0) = true)
    (gD1 : PySem.W.nsIn K mainGlobals "check_whole" = some (some (.ref aD1)))
    (lD1 : K.lookup aD1 = some ⟨ocD1, odD1, .func (PySem.W.fnOf "check_whole" "check_whole" (defArgs s_check_whole) (defBody s_check_whole) (defScope s_check_whole) (.ref dtD1) kVD1 dcD1 pmD1 anD1 cdD1 ctD1), slD1⟩)
    (dD1 : K.lookup dtD1 = some ⟨tcD1, tdD1, .seq #[.none] tnD1, tsD1⟩)
    (cD1 : PySem.W.codeIn K cdD1 "check_whole" = true)
    (kD1 : PySem.W.keepIn K (.ref aD1) = true)
    (gD2 : PySem.W.nsIn K mainGlobals "check_axes" = some (some (.ref aD2)))
    (lD2 : K.lookup aD2 = some ⟨ocD2, odD2, .func (PySem.W.fnOf "check_axes" "check_axes" (defArgs s_check_axes) (defBody s_check_axes) (defScope s_check_axes) .none kVD2 dcD2 pmD2 anD2 cdD2 ctD2), slD2⟩)
    (cD2 : PySem.W.codeIn K cdD2 "check_axes" = true)
    (kD2 : PySem.W.keepIn K (.ref aD2) = true)
    (gD3 : PySem.W.nsIn K mainGlobals "looks_like_cell" = some (some (.ref aD3)))
    (lD3 : K.lookup aD3 = some ⟨ocD3, odD3, .func (PySem.W.fnOf "looks_like_cell" "looks_like_cell" (defArgs s_looks_like_cell) (defBody s_looks_like_cell) (defScope s_looks_like_cell) .none kVD3 dcD3 pmD3 anD3 cdD3 ctD3), slD3⟩)
    (cD3 : PySem.W.codeIn K cdD3 "looks_like_cell" = true)
    (kD3 : PySem.W.keepIn K (.ref aD3) = true)
    (gD4 : PySem.W.nsIn K mainGlobals "looks_like_loop" = some (some (.ref aD4)))
    (lD4 : K.lookup aD4 = some ⟨ocD4, odD4, .func (PySem.W.fnOf "looks_like_loop" "looks_like_loop" (defArgs s_looks_like_loop) (defBody s_looks_like_loop) (defScope s_looks_like_loop) .none kVD4 dcD4 pmD4 anD4 cdD4 ctD4), slD4⟩)
    (cD4 : PySem.W.codeIn K cdD4 "looks_like_loop" = true)
    (kD4 : PySem.W.keepIn K (.ref aD4) = true)
    (gD5 : PySem.W.nsIn K mainGlobals "looks_like_nest" = some (some (.ref aD5)))
    (lD5 : K.lookup aD5 = some ⟨ocD5, odD5, .func (PySem.W.fnOf "looks_like_nest" "looks_like_nest" (defArgs s_looks_like_nest) (defBody s_looks_like_nest) (defScope s_looks_like_nest) .none kVD5 dcD5 pmD5 anD5 cdD5 ctD5), slD5⟩)
    (cD5 : PySem.W.codeIn K cdD5 "looks_like_nest" = true)
    (kD5 : PySem.W.keepIn K (.ref aD5) = true)
    (gD6 : PySem.W.nsIn K mainGlobals "is_cell" = some (some (.ref aD6)))
    (lD6 : K.lookup aD6 = some ⟨ocD6, odD6, .func (PySem.W.fnOf "is_cell" "is_cell" (defArgs s_is_cell) (defBody s_is_cell) (defScope s_is_cell) .none kVD6 dcD6 pmD6 anD6 cdD6 ctD6), slD6⟩)
    (cD6 : PySem.W.codeIn K cdD6 "is_cell" = true)
    (kD6 : PySem.W.keepIn K (.ref aD6) = true)
    (gD7 : PySem.W.nsIn K mainGlobals "is_nest" = some (some (.ref aD7)))
    (lD7 : K.lookup aD7 = some ⟨ocD7, odD7, .func (PySem.W.fnOf "is_nest" "is_nest" (defArgs s_is_nest) (defBody s_is_nest) (defScope s_is_nest) .none kVD7 dcD7 pmD7 anD7 cdD7 ctD7), slD7⟩)
    (cD7 : PySem.W.codeIn K cdD7 "is_nest" = true)
    (kD7 : PySem.W.keepIn K (.ref aD7) = true)
    (gD8 : PySem.W.nsIn K mainGlobals "_law_mixed" = some (some (.ref aD8)))
    (lD8 : K.lookup aD8 = some ⟨ocD8, odD8, .func (PySem.W.fnOf "_law_mixed" "_law_mixed" (defArgs s__law_mixed) (defBody s__law_mixed) (defScope s__law_mixed) .none kVD8 dcD8 pmD8 anD8 cdD8 ctD8), slD8⟩)
    (cD8 : PySem.W.codeIn K cdD8 "_law_mixed" = true)
    (kD8 : PySem.W.keepIn K (.ref aD8) = true)
    (gD9 : PySem.W.nsIn K mainGlobals "_law_purse" = some (some (.ref aD9)))
    (lD9 : K.lookup aD9 = some ⟨ocD9, odD9, .func (PySem.W.fnOf "_law_purse" "_law_purse" (defArgs s__law_purse) (defBody s__law_purse) (defScope s__law_purse) .none kVD9 dcD9 pmD9 anD9 cdD9 ctD9), slD9⟩)
    (cD9 : PySem.W.codeIn K cdD9 "_law_purse" = true)
    (kD9 : PySem.W.keepIn K (.ref aD9) = true)
    (gD10 : PySem.W.nsIn K mainGlobals "_law_draw" = some (some (.ref aD10)))
    (lD10 : K.lookup aD10 = some ⟨ocD10, odD10, .func (PySem.W.fnOf "_law_draw" "_law_draw" (defArgs s__law_draw) (defBody s__law_draw) (defScope s__law_draw) .none kVD10 dcD10 pmD10 anD10 cdD10 ctD10), slD10⟩)
    (cD10 : PySem.W.codeIn K cdD10 "_law_draw" = true)
    (kD10 : PySem.W.keepIn K (.ref aD10) = true)
    (gD11 : PySem.W.nsIn K mainGlobals "_law_cell_drawn" = some (some (.ref aD11)))
    (lD11 : K.lookup aD11 = some ⟨ocD11, odD11, .func (PySem.W.fnOf "_law_cell_drawn" "_law_cell_drawn" (defArgs s__law_cell_drawn) (defBody s__law_cell_drawn) (defScope s__law_cell_drawn) .none kVD11 dcD11 pmD11 anD11 cdD11 ctD11), slD11⟩)
    (cD11 : PySem.W.codeIn K cdD11 "_law_cell_drawn" = true)
    (kD11 : PySem.W.keepIn K (.ref aD11) = true)
    (gD12 : PySem.W.nsIn K mainGlobals "_law_nest_drawn" = some (some (.ref aD12)))
    (lD12 : K.lookup aD12 = some ⟨ocD12, odD12, .func (PySem.W.fnOf "_law_nest_drawn" "_law_nest_drawn" (defArgs s__law_nest_drawn) (defBody s__law_nest_drawn) (defScope s__law_nest_drawn) .none kVD12 dcD12 pmD12 anD12 cdD12 ctD12), slD12⟩)
    (cD12 : PySem.W.codeIn K cdD12 "_law_nest_drawn" = true)
    (kD12 : PySem.W.keepIn K (.ref aD12) = true)
    (gD13 : PySem.W.nsIn K mainGlobals "_law_whole" = some (some (.ref aD13)))
    (lD13 : K.lookup aD13 = some ⟨ocD13, odD13, .func (PySem.W.fnOf "_law_whole" "_law_whole" (defArgs s__law_whole) (defBody s__law_whole) (defScope s__law_whole) .none kVD13 dcD13 pmD13 anD13 cdD13 ctD13), slD13⟩)
    (cD13 : PySem.W.codeIn K cdD13 "_law_whole" = true)
    (kD13 : PySem.W.keepIn K (.ref aD13) = true)
    (gD14 : PySem.W.nsIn K mainGlobals "_law_is_cell" = some (some (.ref aD14)))
    (lD14 : K.lookup aD14 = some ⟨ocD14, odD14, .func (PySem.W.fnOf "_law_is_cell" "_law_is_cell" (defArgs s__law_is_cell) (defBody s__law_is_cell) (defScope s__law_is_cell) .none kVD14 dcD14 pmD14 anD14 cdD14 ctD14), slD14⟩)
    (cD14 : PySem.W.codeIn K cdD14 "_law_is_cell" = true)
    (kD14 : PySem.W.keepIn K (.ref aD14) = true)
    (gD15 : PySem.W.nsIn K mainGlobals "_law_is_loop" = some (some (.ref aD15)))
    (lD15 : K.lookup aD15 = some ⟨ocD15, odD15, .func (PySem.W.fnOf "_law_is_loop" "_law_is_loop" (defArgs s__law_is_loop) (defBody s__law_is_loop) (defScope s__law_is_loop) .none kVD15 dcD15 pmD15 anD15 cdD15 ctD15), slD15⟩)
    (cD15 : PySem.W.codeIn K cdD15 "_law_is_loop" = true)
    (kD15 : PySem.W.keepIn K (.ref aD15) = true)
    (gD16 : PySem.W.nsIn K mainGlobals "_law_is_nest" = some (some (.ref aD16)))
    (lD16 : K.lookup aD16 = some ⟨ocD16, odD16, .func (PySem.W.fnOf "_law_is_nest" "_law_is_nest" (defArgs s__law_is_nest) (defBody s__law_is_nest) (defScope s__law_is_nest) .none kVD16 dcD16 pmD16 anD16 cdD16 ctD16), slD16⟩)
    (cD16 : PySem.W.codeIn K cdD16 "_law_is_nest" = true)
    (kD16 : PySem.W.keepIn K (.ref aD16) = true)
    (gD17 : PySem.W.nsIn K mainGlobals "_law_bent" = some (some (.ref aD17)))
    (lD17 : K.lookup aD17 = some ⟨ocD17, odD17, .func (PySem.W.fnOf "_law_bent" "_law_bent" (defArgs s__law_bent) (defBody s__law_bent) (defScope s__law_bent) .none kVD17 dcD17 pmD17 anD17 cdD17 ctD17), slD17⟩)
    (cD17 : PySem.W.codeIn K cdD17 "_law_bent" = true)
    (kD17 : PySem.W.keepIn K (.ref aD17) = true)
    (gD18 : PySem.W.nsIn K mainGlobals "_law_right" = some (some (.ref aD18)))
    (lD18 : K.lookup aD18 = some ⟨ocD18, odD18, .func (PySem.W.fnOf "_law_right" "_law_right" (defArgs s__law_right) (defBody s__law_right) (defScope s__law_right) .none kVD18 dcD18 pmD18 anD18 cdD18 ctD18), slD18⟩)
    (cD18 : PySem.W.codeIn K cdD18 "_law_right" = true)
    (kD18 : PySem.W.keepIn K (.ref aD18) = true)
    (gD19 : PySem.W.nsIn K mainGlobals "_law_refused" = some (some (.ref aD19)))
    (lD19 : K.lookup aD19 = some ⟨ocD19, odD19, .func (PySem.W.fnOf "_law_refused" "_law_refused" (defArgs s__law_refused) (defBody s__law_refused) (defScope s__law_refused) .none kVD19 dcD19 pmD19 anD19 cdD19 ctD19), slD19⟩)
    (cD19 : PySem.W.codeIn K cdD19 "_law_refused" = true)
    (kD19 : PySem.W.keepIn K (.ref aD19) = true)
    (gD20 : PySem.W.nsIn K mainGlobals "law" = some (some (.ref aD20)))
    (lD20 : K.lookup aD20 = some ⟨ocD20, odD20, .func (PySem.W.fnOf "law" "law" (defArgs s_law) (defBody s_law) (defScope s_law) .none kVD20 dcD20 pmD20 anD20 cdD20 ctD20), slD20⟩)
    (cD20 : PySem.W.codeIn K cdD20 "law" = true)
    (kD20 : PySem.W.keepIn K (.ref aD20) = true)
    : ∃ fd : FuncData, (∀ (s : Shared) (u : Value), BindsTo s fd ⟨[u], []⟩ [("_law_script", u)]) ∧ ∀ base : Heap, K.In base → base.Ns mainGlobals mg → (∃ mm, base.Ns sysModules mm) → FnA P w K mg base 7 fa fd ["_law_script"] (spP ⟨K, mg⟩ run_law) := by
  have e := hfa.symm.trans (PySem.W.mg_of X G gD20)
  cases e
  have T0 : PySem.ErrX.ErrTxt P K mg Ad "InvalidNumber" "value" C0 f0 := { fld := PySem.ErrX.fld_value, bnd := PySem.ErrX.bnd_value, gC := PySem.W.mg_of X G eg0, cls := ⟨_, _, _, _, _, _, _, _, _, _, _, _, _, ec0⟩, sa := esa0, ga := ega0, gg := egg0, noN := enn0, iC := ei0, tC := et0, kC := ek0, hdC := eh0, clC := ecl0, sup := es0, opq := opq, gS := PySem.W.mg_none_of X G nsup, topS := tsup, fn := ⟨_, _, _, _, _, _, _, _, _, _, _, _, _, _, _, _, _, _, _, _, _, _, _, _, el0, eo0, ⟨_, _, _, _, ed0⟩, ep0, ⟨_, _, _, ec20⟩, _, _, _, _, _, _, ecd0, ev0, ef0⟩ }
  have E1 : ∀ c v, (c, v) ∈ errL → ∃ C fI, PySem.ErrX.ErrTxt P K mg Ad c v C fI := by
    intro c v hc
    simp only [errL, List.mem_cons, List.not_mem_nil, or_false, Prod.mk.injEq] at hc
    obtain ⟨rfl, rfl⟩ := hc
    exact ⟨_, _, T0⟩
  have E2 : ∀ v, (("AddError" : Str), v) ∉ errL := by
    intro v hv
    simp only [errL, List.mem_cons, List.not_mem_nil, or_false, Prod.mk.injEq] at hv
    exact absurd hv.1 (by decide)
  have E : Errs P K mg Ad errL := ⟨PySem.W.mg_of X G aA, ⟨_, _, _, lA, nmA⟩, exA, E2, E1⟩
  have T : Txt P K mg Ad := ⟨PySem.W.mg_none_of X G n_bool, PySem.W.mg_none_of X G n_int, PySem.W.mg_none_of X G n_isinstance, PySem.W.mg_none_of X G n_len, PySem.W.mg_none_of X G n_list, PySem.W.mg_none_of X G n_max, PySem.W.mg_none_of X G n_range, PySem.W.mg_none_of X G n_repr, PySem.W.mg_none_of X G n_sum, PySem.W.mg_none_of X G n_tuple, ⟨_, PySem.W.mg_of X G kc_MOST_AXES⟩, ⟨_, PySem.W.mg_of X G gD6⟩, ⟨_, PySem.W.mg_of X G gD7⟩, E⟩
  have FD0 := funV_mk (st := s_is_whole) lD0 cD0 kD0
  have bD0 : Bnds K _ ["value"] [] := bnds0 (fd := PySem.W.fnOf "is_whole" "is_whole" (defArgs s_is_whole) (defBody s_is_whole) (defScope s_is_whole) .none kVD0 dcD0 pmD0 anD0 cdD0 ctD0) fun us hl => match us, hl with | [_], _ => rfl
  have FD1 := funV_mk (st := s_check_whole) lD1 cD1 kD1
  have bD1_0 : Bnds K (PySem.W.fnOf "check_whole" "check_whole" (defArgs s_check_whole) (defBody s_check_whole) (defScope s_check_whole) (.ref dtD1) kVD1 dcD1 pmD1 anD1 cdD1 ctD1) ["value", "least", "most"] (List.replicate 0 .non) := bndsN 0 3 rfl dD1 rfl fun us hl => match us, hl with | [_, _, _], _ => ⟨_, rfl, rfl⟩
  have bD1_1 : Bnds K (PySem.W.fnOf "check_whole" "check_whole" (defArgs s_check_whole) (defBody s_check_whole) (defScope s_check_whole) (.ref dtD1) kVD1 dcD1 pmD1 anD1 cdD1 ctD1) ["value", "least", "most"] (List.replicate 1 .non) := bndsN 1 2 rfl dD1 rfl fun us hl => match us, hl with | [_, _], _ => ⟨_, rfl, rfl⟩
  have FD2 := funV_mk (st := s_check_axes) lD2 cD2 kD2
  have bD2 : Bnds K _ ["value"] [] := bnds0 (fd := PySem.W.fnOf "check_axes" "check_axes" (defArgs s_check_axes) (defBody s_check_axes) (defScope s_check_axes) .none kVD2 dcD2 pmD2 anD2 cdD2 ctD2) fun us hl => match us, hl with | [_], _ => rfl
  have FD3 := funV_mk (st := s_looks_like_cell) lD3 cD3 kD3
  have bD3 : Bnds K _ ["value", "axes"] [] := bnds0 (fd := PySem.W.fnOf "looks_like_cell" "looks_like_cell" (defArgs s_looks_like_cell) (defBody s_looks_like_cell) (defScope s_looks_like_cell) .none kVD3 dcD3 pmD3 anD3 cdD3 ctD3) fun us hl => match us, hl with | [_, _], _ => rfl
  have FD4 := funV_mk (st := s_looks_like_loop) lD4 cD4 kD4
  have bD4 : Bnds K _ ["value", "axes"] [] := bnds0 (fd := PySem.W.fnOf "looks_like_loop" "looks_like_loop" (defArgs s_looks_like_loop) (defBody s_looks_like_loop) (defScope s_looks_like_loop) .none kVD4 dcD4 pmD4 anD4 cdD4 ctD4) fun us hl => match us, hl with | [_, _], _ => rfl
  have FD5 := funV_mk (st := s_looks_like_nest) lD5 cD5 kD5
  have bD5 : Bnds K _ ["value", "axes"] [] := bnds0 (fd := PySem.W.fnOf "looks_like_nest" "looks_like_nest" (defArgs s_looks_like_nest) (defBody s_looks_like_nest) (defScope s_looks_like_nest) .none kVD5 dcD5 pmD5 anD5 cdD5 ctD5) fun us hl => match us, hl with | [_, _], _ => rfl
  have FD6 := funV_mk (st := s_is_cell) lD6 cD6 kD6
  have bD6 : Bnds K _ ["value", "axes"] [] := bnds0 (fd := PySem.W.fnOf "is_cell" "is_cell" (defArgs s_is_cell) (defBody s_is_cell) (defScope s_is_cell) .none kVD6 dcD6 pmD6 anD6 cdD6 ctD6) fun us hl => match us, hl with | [_, _], _ => rfl
  have FD7 := funV_mk (st := s_is_nest) lD7 cD7 kD7
  have bD7 : Bnds K _ ["value", "axes"] [] := bnds0 (fd := PySem.W.fnOf "is_nest" "is_nest" (defArgs s_is_nest) (defBody s_is_nest) (defScope s_is_nest) .none kVD7 dcD7 pmD7 anD7 cdD7 ctD7) fun us hl => match us, hl with | [_, _], _ => rfl
  have FD8 := funV_mk (st := s__law_mixed) lD8 cD8 kD8
  have bD8 : Bnds K _ ["_law_cell", "_law_k"] [] := bnds0 (fd := PySem.W.fnOf "_law_mixed" "_law_mixed" (defArgs s__law_mixed) (defBody s__law_mixed) (defScope s__law_mixed) .none kVD8 dcD8 pmD8 anD8 cdD8 ctD8) fun us hl => match us, hl with | [_, _], _ => rfl
  have FD9 := funV_mk (st := s__law_purse) lD9 cD9 kD9
  have bD9 : Bnds K _ ["_law_script", "_law_at"] [] := bnds0 (fd := PySem.W.fnOf "_law_purse" "_law_purse" (defArgs s__law_purse) (defBody s__law_purse) (defScope s__law_purse) .none kVD9 dcD9 pmD9 anD9 cdD9 ctD9) fun us hl => match us, hl with | [_, _], _ => rfl
  have FD10 := funV_mk (st := s__law_draw) lD10 cD10 kD10
  have bD10 : Bnds K _ ["_law_purse_here", "_law_out_of"] [] := bnds0 (fd := PySem.W.fnOf "_law_draw" "_law_draw" (defArgs s__law_draw) (defBody s__law_draw) (defScope s__law_draw) .none kVD10 dcD10 pmD10 anD10 cdD10 ctD10) fun us hl => match us, hl with | [_, _], _ => rfl
  have FD11 := funV_mk (st := s__law_cell_drawn) lD11 cD11 kD11
  have bD11 : Bnds K _ ["_law_purse_here", "_law_axes", "_law_wide"] [] := bnds0 (fd := PySem.W.fnOf "_law_cell_drawn" "_law_cell_drawn" (defArgs s__law_cell_drawn) (defBody s__law_cell_drawn) (defScope s__law_cell_drawn) .none kVD11 dcD11 pmD11 anD11 cdD11 ctD11) fun us hl => match us, hl with | [_, _, _], _ => rfl
  have FD12 := funV_mk (st := s__law_nest_drawn) lD12 cD12 kD12
  have bD12 : Bnds K _ ["_law_purse_here", "_law_axes", "_law_most", "_law_counts_to", "_law_wide"] [] := bnds0 (fd := PySem.W.fnOf "_law_nest_drawn" "_law_nest_drawn" (defArgs s__law_nest_drawn) (defBody s__law_nest_drawn) (defScope s__law_nest_drawn) .none kVD12 dcD12 pmD12 anD12 cdD12 ctD12) fun us hl => match us, hl with | [_, _, _, _, _], _ => rfl
  have FD13 := funV_mk (st := s__law_whole) lD13 cD13 kD13
  have bD13 : Bnds K _ ["_law_thing"] [] := bnds0 (fd := PySem.W.fnOf "_law_whole" "_law_whole" (defArgs s__law_whole) (defBody s__law_whole) (defScope s__law_whole) .none kVD13 dcD13 pmD13 anD13 cdD13 ctD13) fun us hl => match us, hl with | [_], _ => rfl
  have FD14 := funV_mk (st := s__law_is_cell) lD14 cD14 kD14
  have bD14 : Bnds K _ ["_law_thing", "_law_many"] [] := bnds0 (fd := PySem.W.fnOf "_law_is_cell" "_law_is_cell" (defArgs s__law_is_cell) (defBody s__law_is_cell) (defScope s__law_is_cell) .none kVD14 dcD14 pmD14 anD14 cdD14 ctD14) fun us hl => match us, hl with | [_, _], _ => rfl
  have FD15 := funV_mk (st := s__law_is_loop) lD15 cD15 kD15
  have bD15 : Bnds K _ ["_law_thing", "_law_many"] [] := bnds0 (fd := PySem.W.fnOf "_law_is_loop" "_law_is_loop" (defArgs s__law_is_loop) (defBody s__law_is_loop) (defScope s__law_is_loop) .none kVD15 dcD15 pmD15 anD15 cdD15 ctD15) fun us hl => match us, hl with | [_, _], _ => rfl
  have FD16 := funV_mk (st := s__law_is_nest) lD16 cD16 kD16
  have bD16 : Bnds K _ ["_law_thing", "_law_many"] [] := bnds0 (fd := PySem.W.fnOf "_law_is_nest" "_law_is_nest" (defArgs s__law_is_nest) (defBody s__law_is_nest) (defScope s__law_is_nest) .none kVD16 dcD16 pmD16 anD16 cdD16 ctD16) fun us hl => match us, hl with | [_, _], _ => rfl
  have FD17 := funV_mk (st := s__law_bent) lD17 cD17 kD17
  have bD17 : Bnds K _ ["_law_purse_here", "_law_nest"] [] := bnds0 (fd := PySem.W.fnOf "_law_bent" "_law_bent" (defArgs s__law_bent) (defBody s__law_bent) (defScope s__law_bent) .none kVD17 dcD17 pmD17 anD17 cdD17 ctD17) fun us hl => match us, hl with | [_, _], _ => rfl
  have FD18 := funV_mk (st := s__law_right) lD18 cD18 kD18
  have bD18 : Bnds K _ ["_law_thing", "_law_many"] [] := bnds0 (fd := PySem.W.fnOf "_law_right" "_law_right" (defArgs s__law_right) (defBody s__law_right) (defScope s__law_right) .none kVD18 dcD18 pmD18 anD18 cdD18 ctD18) fun us hl => match us, hl with | [_, _], _ => rfl
  have FD19 := funV_mk (st := s__law_refused) lD19 cD19 kD19
  have bD19 : Bnds K _ ["_law_thing", "_law_odd"] [] := bnds0 (fd := PySem.W.fnOf "_law_refused" "_law_refused" (defArgs s__law_refused) (defBody s__law_refused) (defScope s__law_refused) .none kVD19 dcD19 pmD19 anD19 cdD19 ctD19) fun us hl => match us, hl with | [_, _], _ => rfl
  have FD20 := funV_mk (st := s_law) lD20 cD20 kD20
  have bD20 : Bnds K _ ["_law_script"] [] := bnds0 (fd := PySem.W.fnOf "law" "law" (defArgs s_law) (defBody s_law) (defScope s_law) .none kVD20 dcD20 pmD20 anD20 cdD20 ctD20) fun us hl => match us, hl with | [_], _ => rfl
  refine ⟨PySem.W.fnOf "law" "law" (defArgs s_law) (defBody s_law) (defScope s_law) .none kVD20 dcD20 pmD20 anD20 cdD20 ctD20, ?bind, ?body⟩
  case body =>
    intro base _ _ hsys
    have c_is_whole : Cal P w K mg base 1 "is_whole" [] run_is_whole := cal_mk FD0 sc_is_whole (PySem.W.mg_of X G gD0) bD0 (bd_is_whole T hsys )
    have c_check_whole : Cal P w K mg base 2 "check_whole" [] run_check_whole := cal_mk FD1 sc_check_whole (PySem.W.mg_of X G gD1) bD1_0 (bd_check_whole T hsys c_is_whole)
    have c_check_whole_1 : Cal P w K mg base 2 "check_whole" [.non] run_check_whole := cal_mk FD1 sc_check_whole (PySem.W.mg_of X G gD1) bD1_1 (bd_check_whole T hsys c_is_whole)
    have c_check_axes : Cal P w K mg base 3 "check_axes" [] run_check_axes := cal_mk FD2 sc_check_axes (PySem.W.mg_of X G gD2) bD2 (bd_check_axes T hsys c_check_whole)
    have c_looks_like_cell : Cal P w K mg base 2 "looks_like_cell" [] run_looks_like_cell := cal_mk FD3 sc_looks_like_cell (PySem.W.mg_of X G gD3) bD3 (bd_looks_like_cell T hsys c_is_whole)
    have c_looks_like_loop : Cal P w K mg base 3 "looks_like_loop" [] run_looks_like_loop := cal_mk FD4 sc_looks_like_loop (PySem.W.mg_of X G gD4) bD4 (bd_looks_like_loop T hsys c_is_whole c_looks_like_cell)
    have c_looks_like_nest : Cal P w K mg base 4 "looks_like_nest" [] run_looks_like_nest := cal_mk FD5 sc_looks_like_nest (PySem.W.mg_of X G gD5) bD5 (bd_looks_like_nest T hsys c_is_whole c_looks_like_cell c_looks_like_loop)
    have c_is_cell : Cal P w K mg base 4 "is_cell" [] run_is_cell := cal_mk FD6 sc_is_cell (PySem.W.mg_of X G gD6) bD6 (bd_is_cell T hsys c_check_axes c_looks_like_cell)
    have c_is_nest : Cal P w K mg base 5 "is_nest" [] run_is_nest := cal_mk FD7 sc_is_nest (PySem.W.mg_of X G gD7) bD7 (bd_is_nest T hsys c_check_axes c_looks_like_nest)
    have c__law_mixed : Cal P w K mg base 1 "_law_mixed" [] run__law_mixed := cal_mk FD8 sc__law_mixed (PySem.W.mg_of X G gD8) bD8 (bd__law_mixed T hsys )
    have c__law_purse : Cal P w K mg base 1 "_law_purse" [] run__law_purse := cal_mk FD9 sc__law_purse (PySem.W.mg_of X G gD9) bD9 (bd__law_purse T hsys )
    have c__law_draw : Cal P w K mg base 2 "_law_draw" [] run__law_draw := cal_mk FD10 sc__law_draw (PySem.W.mg_of X G gD10) bD10 (bd__law_draw T hsys c__law_mixed)
    have c__law_cell_drawn : Cal P w K mg base 3 "_law_cell_drawn" [] run__law_cell_drawn := cal_mk FD11 sc__law_cell_drawn (PySem.W.mg_of X G gD11) bD11 (bd__law_cell_drawn T hsys c__law_draw)
    have c__law_nest_drawn : Cal P w K mg base 4 "_law_nest_drawn" [] run__law_nest_drawn := cal_mk FD12 sc__law_nest_drawn (PySem.W.mg_of X G gD12) bD12 (bd__law_nest_drawn T hsys c__law_cell_drawn c__law_draw)
    have c__law_whole : Cal P w K mg base 1 "_law_whole" [] run__law_whole := cal_mk FD13 sc__law_whole (PySem.W.mg_of X G gD13) bD13 (bd__law_whole T hsys )
    have c__law_is_cell : Cal P w K mg base 2 "_law_is_cell" [] run__law_is_cell := cal_mk FD14 sc__law_is_cell (PySem.W.mg_of X G gD14) bD14 (bd__law_is_cell T hsys c__law_whole)
    have c__law_is_loop : Cal P w K mg base 3 "_law_is_loop" [] run__law_is_loop := cal_mk FD15 sc__law_is_loop (PySem.W.mg_of X G gD15) bD15 (bd__law_is_loop T hsys c__law_is_cell c__law_whole)
    have c__law_is_nest : Cal P w K mg base 4 "_law_is_nest" [] run__law_is_nest := cal_mk FD16 sc__law_is_nest (PySem.W.mg_of X G gD16) bD16 (bd__law_is_nest T hsys c__law_is_cell c__law_is_loop c__law_whole)
    have c__law_bent : Cal P w K mg base 3 "_law_bent" [] run__law_bent := cal_mk FD17 sc__law_bent (PySem.W.mg_of X G gD17) bD17 (bd__law_bent T hsys c__law_draw)
    have c__law_right : Cal P w K mg base 6 "_law_right" [] run__law_right := cal_mk FD18 sc__law_right (PySem.W.mg_of X G gD18) bD18 (bd__law_right T hsys c__law_is_cell c__law_is_nest c_is_cell c_is_nest)
    have c__law_refused : Cal P w K mg base 6 "_law_refused" [] run__law_refused := cal_mk FD19 sc__law_refused (PySem.W.mg_of X G gD19) bD19 (bd__law_refused T hsys c_is_cell c_is_nest)
    exact fnVP FD20 sc_law (bd_law T hsys c__law_bent c__law_draw c__law_nest_drawn c__law_purse c__law_refused c__law_right c_is_cell c_is_nest)
  case bind => exact fun s u => BindsTo.of_eq rfl
theorem law_sp (K : PySem.W.Frag) (mg : Str → Option Value) (H : Hp) (a : Addr) (ns : List Int) (hS : SqL K H a (ns.map V.int)) : spP ⟨K, mg⟩ run_law [.ref a] H (fun v _ => v = .bl true) fun _ _ _ => False := by
  refine ⟨⟨H, []⟩, [.scr ns], [], Same.refl H, ⟨rfl, fun n d a q => by simp at q, .nil⟩, ⟨_, _, rfl, ⟨a, rfl, hS⟩, rfl⟩, ?_⟩
  rw [law_ok ns]
  exact fun x F' H' _ _ br => by
    unfold BRel at br
    rw [if_neg Bool.false_ne_true] at br
    exact br
end K02
open PySem PySem.W PyProof.Rows
set_option maxRecDepth 100000 in
set_option maxHeartbeats 0 in
theorem PySem.Challenge.cw_addnests_k02_cells_and_nests_told_holds : PySem.Challenge.rw_addnests_k02_cells_and_nests_told.Holds := by
  w_on; o_law; k_head; (case hw => w_witness2)
  k_fill
  refine Tr.walkA (l := PySem.Challenge.rw_addnests_k02_cells_and_nests_told) (k := 7) (x := "_law_script") (sp := fun K mg => Tr.spP ⟨K, mg⟩ K02.run_law) rfl (by decide +kernel) rfl ⟨rfl, by decide +kernel, by decide +kernel⟩ (by decide +kernel) (fun w h Y => PySem.W.kIn_of Y) ?F (fun K mg H a ns _ hS => K02.law_sp K mg H a ns hS)
  case F =>
    intro w mg fa h KX G hmg
    refine' K02.all_mk KX G hmg ?n_bool ?n_int ?n_isinstance ?n_len ?n_list ?n_max ?n_range ?n_repr ?n_sum ?n_tuple ?kc_MOST_AXES ?aA ?lA ?nmA ?exA ?opq ?nsup ?tsup ?eg0 ?ec0 ?esa0 ?ega0 ?egg0 ?enn0 ?ecl0 ?ei0 ?et0 ?ek0 ?eh0 ?es0 ?el0 ?eo0 ?ed0 ?ep0 ?ec20 ?ecd0 ?ev0 ?ef0 ?gD0 ?lD0 ?cD0 ?kD0 ?gD1 ?lD1 ?dD1 ?cD1 ?kD1 ?gD2 ?lD2 ?cD2 ?kD2 ?gD3 ?lD3 ?cD3 ?kD3 ?gD4 ?lD4 ?cD4 ?kD4 ?gD5 ?lD5 ?cD5 ?kD5 ?gD6 ?lD6 ?cD6 ?kD6 ?gD7 ?lD7 ?cD7 ?kD7 ?gD8 ?lD8 ?cD8 ?kD8 ?gD9 ?lD9 ?cD9 ?kD9 ?gD10 ?lD10 ?cD10 ?kD10 ?gD11 ?lD11 ?cD11 ?kD11 ?gD12 ?lD12 ?cD12 ?kD12 ?gD13 ?lD13 ?cD13 ?kD13 ?gD14 ?lD14 ?cD14 ?kD14 ?gD15 ?lD15 ?cD15 ?kD15 ?gD16 ?lD16 ?cD16 ?kD16 ?gD17 ?lD17 ?cD17 ?kD17 ?gD18 ?lD18 ?cD18 ?kD18 ?gD19 ?lD19 ?cD19 ?kD19 ?gD20 ?lD20 ?cD20 ?kD20
    (case n_bool => first | k_is | rfl | decide +kernel)
    (case n_int => first | k_is | rfl | decide +kernel)
    (case n_isinstance => first | k_is | rfl | decide +kernel)
    (case n_len => first | k_is | rfl | decide +kernel)
    (case n_list => first | k_is | rfl | decide +kernel)
    (case n_max => first | k_is | rfl | decide +kernel)
    (case n_range => first | k_is | rfl | decide +kernel)
    (case n_repr => first | k_is | rfl | decide +kernel)
    (case n_sum => first | k_is | rfl | decide +kernel)
    (case n_tuple => first | k_is | rfl | decide +kernel)
    (case kc_MOST_AXES => first | k_is | rfl | decide +kernel)
    (case aA => first | k_is | rfl | decide +kernel)
    (case lA => first | k_is | rfl | decide +kernel)
    (case nmA => first | k_is | rfl | decide +kernel)
    (case exA => first | k_is | rfl | decide +kernel)
    (case opq => first | k_is | rfl | decide +kernel)
    (case nsup => first | k_is | rfl | decide +kernel)
    (case tsup => first | k_is | rfl | decide +kernel)
    (case eg0 => first | k_is | rfl | decide +kernel)
    (case ec0 => first | k_is | rfl | decide +kernel)
    (case esa0 => first | k_is | rfl | decide +kernel)
    (case ega0 => first | k_is | rfl | decide +kernel)
    (case egg0 => first | k_is | rfl | decide +kernel)
    (case enn0 => first | k_is | rfl | decide +kernel)
    (case ecl0 => first | k_is | rfl | decide +kernel)
    (case ei0 => first | k_is | rfl | decide +kernel)
    (case et0 => first | k_is | rfl | decide +kernel)
    (case ek0 => first | k_is | rfl | decide +kernel)
    (case eh0 => first | k_is | rfl | decide +kernel)
    (case es0 => first | k_is | rfl | decide +kernel)
    (case el0 => first | k_is | rfl | decide +kernel)
    (case eo0 => first | k_is | rfl | decide +kernel)
    (case ed0 => first | k_is | rfl | decide +kernel)
    (case ep0 => first | k_is | rfl | decide +kernel)
    (case ec20 => first | k_is | rfl | decide +kernel)
    (case ecd0 => first | k_is | rfl | decide +kernel)
    (case ev0 => first | k_is | rfl | decide +kernel)
    (case ef0 => first | k_is | rfl | decide +kernel)
    (case gD0 => first | k_is | rfl | decide +kernel)
    (case lD0 => first | k_is | rfl | decide +kernel)
    (case cD0 => first | k_is | rfl | decide +kernel)
    (case kD0 => first | k_is | rfl | decide +kernel)
    (case gD1 => first | k_is | rfl | decide +kernel)
    (case lD1 => first | k_is | rfl | decide +kernel)
    (case dD1 => first | k_is | rfl | decide +kernel)
    (case cD1 => first | k_is | rfl | decide +kernel)
    (case kD1 => first | k_is | rfl | decide +kernel)
    (case gD2 => first | k_is | rfl | decide +kernel)
    (case lD2 => first | k_is | rfl | decide +kernel)
    (case cD2 => first | k_is | rfl | decide +kernel)
    (case kD2 => first | k_is | rfl | decide +kernel)
    (case gD3 => first | k_is | rfl | decide +kernel)
    (case lD3 => first | k_is | rfl | decide +kernel)
    (case cD3 => first | k_is | rfl | decide +kernel)
    (case kD3 => first | k_is | rfl | decide +kernel)
    (case gD4 => first | k_is | rfl | decide +kernel)
    (case lD4 => first | k_is | rfl | decide +kernel)
    (case cD4 => first | k_is | rfl | decide +kernel)
    (case kD4 => first | k_is | rfl | decide +kernel)
    (case gD5 => first | k_is | rfl | decide +kernel)
    (case lD5 => first | k_is | rfl | decide +kernel)
    (case cD5 => first | k_is | rfl | decide +kernel)
    (case kD5 => first | k_is | rfl | decide +kernel)
    (case gD6 => first | k_is | rfl | decide +kernel)
    (case lD6 => first | k_is | rfl | decide +kernel)
    (case cD6 => first | k_is | rfl | decide +kernel)
    (case kD6 => first | k_is | rfl | decide +kernel)
    (case gD7 => first | k_is | rfl | decide +kernel)
    (case lD7 => first | k_is | rfl | decide +kernel)
    (case cD7 => first | k_is | rfl | decide +kernel)
    (case kD7 => first | k_is | rfl | decide +kernel)
    (case gD8 => first | k_is | rfl | decide +kernel)
    (case lD8 => first | k_is | rfl | decide +kernel)
    (case cD8 => first | k_is | rfl | decide +kernel)
    (case kD8 => first | k_is | rfl | decide +kernel)
    (case gD9 => first | k_is | rfl | decide +kernel)
    (case lD9 => first | k_is | rfl | decide +kernel)
    (case cD9 => first | k_is | rfl | decide +kernel)
    (case kD9 => first | k_is | rfl | decide +kernel)
    (case gD10 => first | k_is | rfl | decide +kernel)
    (case lD10 => first | k_is | rfl | decide +kernel)
    (case cD10 => first | k_is | rfl | decide +kernel)
    (case kD10 => first | k_is | rfl | decide +kernel)
    (case gD11 => first | k_is | rfl | decide +kernel)
    (case lD11 => first | k_is | rfl | decide +kernel)
    (case cD11 => first | k_is | rfl | decide +kernel)
    (case kD11 => first | k_is | rfl | decide +kernel)
    (case gD12 => first | k_is | rfl | decide +kernel)
    (case lD12 => first | k_is | rfl | decide +kernel)
    (case cD12 => first | k_is | rfl | decide +kernel)
    (case kD12 => first | k_is | rfl | decide +kernel)
    (case gD13 => first | k_is | rfl | decide +kernel)
    (case lD13 => first | k_is | rfl | decide +kernel)
    (case cD13 => first | k_is | rfl | decide +kernel)
    (case kD13 => first | k_is | rfl | decide +kernel)
    (case gD14 => first | k_is | rfl | decide +kernel)
    (case lD14 => first | k_is | rfl | decide +kernel)
    (case cD14 => first | k_is | rfl | decide +kernel)
    (case kD14 => first | k_is | rfl | decide +kernel)
    (case gD15 => first | k_is | rfl | decide +kernel)
    (case lD15 => first | k_is | rfl | decide +kernel)
    (case cD15 => first | k_is | rfl | decide +kernel)
    (case kD15 => first | k_is | rfl | decide +kernel)
    (case gD16 => first | k_is | rfl | decide +kernel)
    (case lD16 => first | k_is | rfl | decide +kernel)
    (case cD16 => first | k_is | rfl | decide +kernel)
    (case kD16 => first | k_is | rfl | decide +kernel)
    (case gD17 => first | k_is | rfl | decide +kernel)
    (case lD17 => first | k_is | rfl | decide +kernel)
    (case cD17 => first | k_is | rfl | decide +kernel)
    (case kD17 => first | k_is | rfl | decide +kernel)
    (case gD18 => first | k_is | rfl | decide +kernel)
    (case lD18 => first | k_is | rfl | decide +kernel)
    (case cD18 => first | k_is | rfl | decide +kernel)
    (case kD18 => first | k_is | rfl | decide +kernel)
    (case gD19 => first | k_is | rfl | decide +kernel)
    (case lD19 => first | k_is | rfl | decide +kernel)
    (case cD19 => first | k_is | rfl | decide +kernel)
    (case kD19 => first | k_is | rfl | decide +kernel)
    (case gD20 => first | k_is | rfl | decide +kernel)
    (case lD20 => first | k_is | rfl | decide +kernel)
    (case cD20 => first | k_is | rfl | decide +kernel)
    (case kD20 => first | k_is | rfl | decide +kernel)
