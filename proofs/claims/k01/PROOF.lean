import PyProof.Rows.All
import Wide.All
import OpenK.AllK
import Wide.FinOn
import HandS.ForMost
import HandS.ForExc
import HandS.Wide
import HandS.WideBits
import HandS.TupAny
import HandS.TupMul
import HandS.IsInst
import HandS.RaiseMore
import KE.KExcIs
import KE.KExcSuper
import KE.KTryMore
import KE.KIsAll
import HandS.ExcSuper
import HandS.Style
import HandS.SetFor
import HandS.SortInts
import HandS.Conv
import HandS.Zip
import KE.GoesEnumKw
import PyProof.P3Eq
import HandS.NoneIn
import HandS.ExcValue
import PySem.Challenge.RW_addnests_k01_errors
set_option Elab.async false
set_option linter.all false
set_option maxRecDepth 100000
set_option maxHeartbeats 8100000
set_option autoImplicit false
/-! Tr, part A: trees, what they denote, environments, the reading of a function on trees. -/
namespace Tr
open PySem PySem.Spec PyProof.Rows L2
abbrev Sg := L2.St

/-- a tree of data -/
inductive D where
  | non | bl (b : Bool) | int (i : Int) | str (x : Str)
  | lst (xs : List D) | tup (xs : List D)
  | dK (ks : List Key) (vs : List D) | dT (ks : List (List Key)) (vs : List D)
  | ins (c : Str) (ns : List Str) (vs : List D)
  | exn (c n : Str) (d : D)
  | ty (n : String) | glo (x : Str)
  /-- the script: a list that is only read -/
  | scr (ns : List Int)
  /-- a live object, by its number -/
  | ref (n : Nat)

/-- what the written part and the module's names tell -/
structure Tx where
  K : PySem.W.Frag
  mg : Str → Option Value

/-- what stays, and where the live objects are -/
structure Fz where
  hp : Hp
  as : List Addr
instance : CoeFun Fz (fun _ => Addr → Option HO) := ⟨Fz.hp⟩
instance : Coe Fz Hp := ⟨Fz.hp⟩
def Fz.upd (F : Fz) (p : Addr) (o : HO) : Fz := ⟨L2.upd F.hp p o, F.as⟩
structure Ext (F F' : Fz) : Prop where
  hp : Same F.hp F'.hp
  as : ∀ (n : Nat) (a : Addr), F.as[n]? = some a → F'.as[n]? = some a
theorem Ext.refl (F : Fz) : Ext F F := ⟨Same.refl F.hp, fun _ _ h => h⟩
theorem Ext.trans {F F' F'' : Fz} (a : Ext F F') (b : Ext F' F'') : Ext F F'' := ⟨a.hp.trans b.hp, fun n x h => b.as n x (a.as n x h)⟩
/-- a caught exception that is held as a value -/
def exv (C dx a : Addr) : HO := .ext fun h => ∃ (oe : Obj) (vs : Array Value), h.get? a = some oe ∧ oe.cls = .ref C ∧ oe.dict = some dx ∧ oe.data = .fields vs

/-- .. without fields -/
def exv0 (C a : Addr) : HO := .ext fun h => ∃ (oe : Obj) (vs : Array Value), h.get? a = some oe ∧ oe.cls = .ref C ∧ oe.dict = none ∧ oe.data = .fields vs

mutual
/-- the value x is the tree d, over the heap F of what stays -/
def Den (T : Tx) (F : Fz) : D → V → Prop
  | .non, x => x = .non
  | .bl b, x => x = .bl b
  | .int i, x => x = .int i
  | .str s, x => x = .str s
  | .lst ds, x => ∃ a xs, x = .ref a ∧ F a = some (.lst xs) ∧ DenL T F ds xs
  | .tup ds, x => ∃ a xs, x = .ref a ∧ SqT T.K F a xs ∧ DenL T F ds xs
  | .dK ks ds, x => ∃ a xs, x = .ref a ∧ F a = some (.dK (ks.zip xs)) ∧ ks.length = xs.length ∧ DenL T F ds xs
  | .dT ks ds, x => ∃ a xs, x = .ref a ∧ F a = some (.dT (ks.zip xs)) ∧ ks.length = xs.length ∧ DenL T F ds xs
  | .ins c ns ds, x => ∃ a C dx xs, x = .ref a ∧ T.mg c = some (.ref C) ∧ F a = some (.ins C dx (ns.zip xs)) ∧ F dx = some (.own a) ∧ ns.length = xs.length ∧ DenL T F ds xs
  | .exn c n d, x => ∃ a C dx y, x = .ref a ∧ T.mg c = some (.ref C) ∧ ((F a = some (exv C dx a) ∧ F dx = some (.xd [(n, y)])) ∨ (n = Str.empty ∧ F a = some (exv0 C a))) ∧ Den T F d y
  | .ty n, x => x = .ty n
  | .glo g, x => ∃ a, T.mg g = some (.ref a) ∧ x = .ref a
  | .scr ns, x => ∃ a, x = .ref a ∧ SqL T.K F a (ns.map V.int)
  | .ref n, x => ∃ a, x = .ref a ∧ F.as[n]? = some a
def DenL (T : Tx) (F : Fz) : List D → List V → Prop
  | [], xs => xs = []
  | d :: ds, xs => ∃ x r, xs = x :: r ∧ Den T F d x ∧ DenL T F ds r
end

theorem Same.sqL {K : PySem.W.Frag} {H H' : Hp} {a : Addr} {xs : List V} (e : Same H H') (h : SqL K H a xs) : SqL K H' a xs := Same.seq e h
theorem Same.sqT {K : PySem.W.Frag} {H H' : Hp} {a : Addr} {xs : List V} (e : Same H H') (h : SqT K H a xs) : SqT K H' a xs := by
  rcases h with (h | ⟨o, h⟩) | h
  · exact .inl (.inl (e _ _ h))
  · exact .inl (.inr ⟨o, e _ _ h⟩)
  · exact .inr h

mutual
theorem Den.mono {T : Tx} {F F' : Fz} (e : Ext F F') : ∀ (d : D) {x : V}, Den T F d x → Den T F' d x
  | .non, _, h => h
  | .bl _, _, h => h
  | .int _, _, h => h
  | .str _, _, h => h
  | .lst ds, _, ⟨a, xs, h1, h2, h3⟩ => ⟨a, xs, h1, e.hp _ _ h2, DenL.mono e ds h3⟩
  | .tup ds, _, ⟨a, xs, h1, h2, h3⟩ => ⟨a, xs, h1, Same.sqT e.hp h2, DenL.mono e ds h3⟩
  | .dK ks ds, _, ⟨a, xs, h1, h2, h3, h4⟩ => ⟨a, xs, h1, e.hp _ _ h2, h3, DenL.mono e ds h4⟩
  | .dT ks ds, _, ⟨a, xs, h1, h2, h3, h4⟩ => ⟨a, xs, h1, e.hp _ _ h2, h3, DenL.mono e ds h4⟩
  | .ins c ns ds, _, ⟨a, C, dx, xs, h1, h2, h3, h4, h5, h6⟩ => ⟨a, C, dx, xs, h1, h2, e.hp _ _ h3, e.hp _ _ h4, h5, DenL.mono e ds h6⟩
  | .exn c n d, _, ⟨a, C, dx, y, h1, h2, h3, h5⟩ => ⟨a, C, dx, y, h1, h2, h3.imp (fun z => ⟨e.hp _ _ z.1, e.hp _ _ z.2⟩) (fun z => ⟨z.1, e.hp _ _ z.2⟩), Den.mono e d h5⟩
  | .ty _, _, h => h
  | .glo _, _, h => h
  | .scr _, _, ⟨a, h1, h2⟩ => ⟨a, h1, Same.sqL e.hp h2⟩
  | .ref _, _, ⟨a, h1, h2⟩ => ⟨a, h1, e.as _ _ h2⟩
theorem DenL.mono {T : Tx} {F F' : Fz} (e : Ext F F') : ∀ (ds : List D) {xs : List V}, DenL T F ds xs → DenL T F' ds xs
  | [], _, h => h
  | d :: ds, _, ⟨x, r, h1, h2, h3⟩ => ⟨x, r, h1, Den.mono e d h2, DenL.mono e ds h3⟩
end

theorem DenL.nil {T : Tx} {F : Fz} : DenL T F [] [] := rfl
theorem DenL.cons {T : Tx} {F : Fz} {d : D} {ds : List D} {x : V} {xs : List V} (h : Den T F d x) (r : DenL T F ds xs) : DenL T F (d :: ds) (x :: xs) := ⟨x, xs, rfl, h, r⟩
theorem DenL.length {T : Tx} {F : Fz} : ∀ {ds : List D} {xs : List V}, DenL T F ds xs → ds.length = xs.length
  | [], _, h => by have h : _ = [] := h; rw [h]; rfl
  | d :: ds, _, ⟨x, r, h1, _, h3⟩ => by rw [h1, List.length_cons, List.length_cons, DenL.length h3]
theorem DenL.get {T : Tx} {F : Fz} : ∀ {ds : List D} {xs : List V} {i : Nat} {d : D}, DenL T F ds xs → ds[i]? = some d → ∃ x, xs[i]? = some x ∧ Den T F d x
  | [], _, _, _, _, e => by simp at e
  | d :: ds, _, 0, _, ⟨x, r, h1, h2, h3⟩, e => by
    subst h1
    have e : d = _ := Option.some.inj e
    subst e
    exact ⟨x, rfl, h2⟩
  | d :: ds, _, i + 1, _, ⟨x, r, h1, h2, h3⟩, e => by
    subst h1
    exact DenL.get (i := i) h3 e
theorem DenL.append {T : Tx} {F : Fz} : ∀ {ds es : List D} {xs ys : List V}, DenL T F ds xs → DenL T F es ys → DenL T F (ds ++ es) (xs ++ ys)
  | [], _, _, _, h, h' => by have h : _ = [] := h; rw [h]; exact h'
  | d :: ds, _, _, _, ⟨x, r, h1, h2, h3⟩, h' => by subst h1; exact ⟨x, r ++ _, rfl, h2, DenL.append h3 h'⟩
theorem DenL.snoc {T : Tx} {F : Fz} {ds : List D} {xs : List V} {d : D} {x : V} (h : DenL T F ds xs) (h' : Den T F d x) : DenL T F (ds ++ [d]) (xs ++ [x]) := h.append (.cons h' .nil)
theorem DenL.set {T : Tx} {F : Fz} {d : D} {x : V} (hd : Den T F d x) : ∀ {ds : List D} {xs : List V} (i : Nat), DenL T F ds xs → DenL T F (ds.set i d) (xs.set i x)
  | [], _, _, h => by have h : _ = [] := h; rw [h]; rfl
  | e :: ds, _, 0, ⟨y, r, h1, h2, h3⟩ => by subst h1; exact ⟨x, r, rfl, hd, h3⟩
  | e :: ds, _, i + 1, ⟨y, r, h1, h2, h3⟩ => by subst h1; exact ⟨y, r.set i x, rfl, h2, DenL.set hd i h3⟩
theorem DenL.take {T : Tx} {F : Fz} : ∀ {ds : List D} {xs : List V} (n : Nat), DenL T F ds xs → DenL T F (ds.take n) (xs.take n)
  | [], _, n, h => by have h : _ = [] := h; rw [h]; cases n <;> rfl
  | d :: ds, _, 0, _ => rfl
  | d :: ds, _, n + 1, ⟨x, r, h1, h2, h3⟩ => by subst h1; exact ⟨x, r.take n, rfl, h2, DenL.take n h3⟩
theorem DenL.drop {T : Tx} {F : Fz} : ∀ {ds : List D} {xs : List V} (n : Nat), DenL T F ds xs → DenL T F (ds.drop n) (xs.drop n)
  | [], _, n, h => by have h : _ = [] := h; rw [h]; cases n <;> rfl
  | d :: ds, _, 0, h => h
  | d :: ds, _, n + 1, ⟨x, r, h1, h2, h3⟩ => by subst h1; exact DenL.drop n h3

/-! ### environments of trees -/
/-- a slot: nothing; a tree that stays; a tree whose root object is this slot's own -/
inductive Slot where
  | un | sh (d : D) | ow (d : D)
/-- the slots of a frame, and the live objects of all frames -/
structure En where
  s : List Slot
  l : List D
def En.set (ρ : En) (i : Nat) (x : Slot) : En := ⟨ρ.s.set i x, ρ.l⟩
/-- an object that may still be changed holds the tree d; what it holds stays -/
def OwnAt (T : Tx) (F : Fz) (H : Hp) (d : D) (a : Addr) : Prop :=
  match d with
  | .lst ds => ∃ xs, H a = some (.lst xs) ∧ DenL T F ds xs
  | .dK ks ds => ∃ xs, H a = some (.dK (ks.zip xs)) ∧ ks.length = xs.length ∧ DenL T F ds xs
  | .dT ks ds => ∃ xs, H a = some (.dT (ks.zip xs)) ∧ ks.length = xs.length ∧ DenL T F ds xs
  | .ins c ns ds => ∃ C dx xs, T.mg c = some (.ref C) ∧ H a = some (.ins C dx (ns.zip xs)) ∧ H dx = some (.own a) ∧ ns.length = xs.length ∧ DenL T F ds xs
  | _ => False
/-- slot i may change its object, which holds d -/
abbrev MuAt (ρ : En) (i : Nat) (d : D) : Prop := ρ.s[i]? = some (.ow d)
/-- a is the object of such a slot, or live -/
def Owned (F : Fz) (ρ : En) (σ : Sg) (a : Addr) : Prop := (∃ (i : Nat) (d : D), MuAt ρ i d ∧ σ[i]? = some (some (.ref a))) ∨ a ∈ F.as
/-- the live objects hold L -/
structure Live (T : Tx) (F : Fz) (H : Hp) (L : List D) : Prop where
  len : F.as.length = L.length
  ok : ∀ (n : Nat) (d : D) (a : Addr), L[n]? = some d → F.as[n]? = some a → F a = none ∧ OwnAt T F H d a
  dis : F.as.Nodup
theorem Live.get {T : Tx} {F : Fz} {H : Hp} {L : List D} {n : Nat} {d : D} (v : Live T F H L) (h : L[n]? = some d) : ∃ a, F.as[n]? = some a ∧ F a = none ∧ OwnAt T F H d a := by
  have hn : n < L.length := (List.getElem?_eq_some_iff.mp h).1
  have hn' : n < F.as.length := by rw [v.len]; exact hn
  have e : F.as[n]? = some F.as[n] := List.getElem?_eq_getElem hn'
  exact ⟨_, e, v.ok n d _ h e⟩
theorem Live.mem {T : Tx} {F : Fz} {H : Hp} {L : List D} {a : Addr} (v : Live T F H L) (h : a ∈ F.as) : ∃ (n : Nat) (d : D), L[n]? = some d ∧ F.as[n]? = some a ∧ F a = none ∧ OwnAt T F H d a := by
  obtain ⟨n, hn, e⟩ := List.getElem_of_mem h
  have e1 : F.as[n]? = some a := by rw [List.getElem?_eq_getElem hn, e]
  have hn' : n < L.length := by rw [← v.len]; exact hn
  have e2 : L[n]? = some L[n] := List.getElem?_eq_getElem hn'
  exact ⟨n, _, e2, e1, v.ok n _ a e2 e1⟩
theorem Live.num {T : Tx} {F : Fz} {H : Hp} {L : List D} {m n : Nat} {a : Addr} (v : Live T F H L) (h : F.as[m]? = some a) (h' : F.as[n]? = some a) : m = n := by
  obtain ⟨h1, e1⟩ := List.getElem?_eq_some_iff.mp h
  obtain ⟨h2, e2⟩ := List.getElem?_eq_some_iff.mp h'
  exact (List.getElem_inj v.dis).mp (e1.trans e2.symm)
structure Rel (T : Tx) (F : Fz) (H : Hp) (ρ : En) (σ : Sg) : Prop where
  len : ρ.s.length = σ.length
  sub : Same F.hp H
  sh : ∀ (i : Nat) (d : D), ρ.s[i]? = some (.sh d) → ∃ x, σ[i]? = some (some x) ∧ Den T F d x
  ow : ∀ (i : Nat) (d : D), MuAt ρ i d → ∃ a, σ[i]? = some (some (.ref a)) ∧ F a = none ∧ OwnAt T F H d a
  dis : ∀ (i j : Nat) (d e : D) (a : Addr), MuAt ρ i d → MuAt ρ j e → σ[i]? = some (some (.ref a)) → σ[j]? = some (some (.ref a)) → i = j
  lv : Live T F H ρ.l
  lo : ∀ (i : Nat) (d : D) (a : Addr), MuAt ρ i d → σ[i]? = some (some (.ref a)) → a ∉ F.as
/-- from one state to another -/
structure Stp (T : Tx) (F : Fz) (H : Hp) (ρ : En) (σ : Sg) (F' : Fz) (H' : Hp) (ρ' : En) (σ' : Sg) : Prop where
  rel : Rel T F' H' ρ' σ'
  same : Ext F F'
  keep : ∀ b o, H b = some o → ¬ Owned F ρ σ b → H' b = some o
  own : ∀ b, Owned F' ρ' σ' b → Owned F ρ σ b ∨ H b = none
  dom : ∀ b o, H b = some o → ∃ o', H' b = some o'
  fz : ∀ b o, H b = some o → ¬ Owned F ρ σ b → (∀ c, o ≠ .own c) → F' b = F b
theorem Stp.refl {T : Tx} {F : Fz} {H : Hp} {ρ : En} {σ : Sg} (r : Rel T F H ρ σ) : Stp T F H ρ σ F H ρ σ := ⟨r, Ext.refl F, fun _ _ h _ => h, fun _ h => .inl h, fun _ o h => ⟨o, h⟩, fun _ _ _ _ _ => rfl⟩
theorem Stp.trans {T : Tx} {F F1 F2 : Fz} {H H1 H2 : Hp} {ρ ρ1 ρ2 : En} {σ σ1 σ2 : Sg} (a : Stp T F H ρ σ F1 H1 ρ1 σ1) (b : Stp T F1 H1 ρ1 σ1 F2 H2 ρ2 σ2) : Stp T F H ρ σ F2 H2 ρ2 σ2 where
  rel := b.rel
  same := a.same.trans b.same
  keep := fun c o h n => b.keep c o (a.keep c o h n) fun z => by
    rcases a.own c z with q | q
    · exact n q
    · rw [h] at q; cases q
  own := fun c z => by
    rcases b.own c z with q | q
    · exact a.own c q
    · by_cases w : Owned F ρ σ c
      · exact .inl w
      · refine .inr ?_
        cases e : H c with
        | none => rfl
        | some o => rw [a.keep c o e w] at q; cases q
  dom := fun c o h => by
    obtain ⟨o1, h1⟩ := a.dom c o h
    exact b.dom c o1 h1
  fz := fun c o h n q => by
    have n1 : ¬ Owned F1 ρ1 σ1 c := fun z => by
      rcases a.own c z with w | w
      · exact n w
      · rw [h] at w; cases w
    exact (b.fz c o (a.keep c o h n) n1 q).trans (a.fz c o h n q)
theorem Stp.free {T : Tx} {F F1 : Fz} {H H1 : Hp} {ρ ρ1 : En} {σ σ1 : Sg} (a : Stp T F H ρ σ F1 H1 ρ1 σ1) {b : Addr} (h : H1 b = none) : H b = none := by
  cases e : H b with
  | none => rfl
  | some o =>
    obtain ⟨o', h'⟩ := a.dom b o e
    rw [h] at h'; cases h'

/-- values of an expression: a tree that stays, a new object that nobody else has, the object of a slot -/
inductive Val where
  | sh (d : D) | fr (d : D) | rf (i : Nat)
/-- what an expression comes to -/
inductive R (α : Type) where
  | ok (a : α) | ex (c n : Str) (d : D) (ρ : En) | no
def R.bind {α β : Type} (r : R α) (f : α → R β) : R β := match r with
  | .ok a => f a
  | .ex c n d ρ => .ex c n d ρ
  | .no => .no
abbrev FE := En → R (Val × En)
/-- a value's meaning; H: the heap ahead of the expression -/
def VRel (T : Tx) (H : Hp) (F' : Fz) (H' : Hp) (ρ' : En) (σ : Sg) : Val → V → Prop
  | .sh d, x => Den T F' d x
  | .fr d, x => ∃ a, x = .ref a ∧ F' a = none ∧ H a = none ∧ ¬ Owned F' ρ' σ a ∧ OwnAt T F' H' d a
  | .rf i, x => σ[i]? = some (some x) ∧ ∃ d, MuAt ρ' i d
/-- an exception's meaning -/
def ERel (T : Tx) (F' : Fz) (c n : Str) (d : D) (cls : Value) (dx : Option Addr) : Prop :=
  ∃ C e x, T.mg c = some (.ref C) ∧ cls = .ref C ∧ dx = some e ∧ F' e = some (.xd [(n, x)]) ∧ Den T F' d x
/-- the reading of a function on environments: for an expression -/
def tOf (T : Tx) (W : WX) (f : FE) : TE := fun σ H Q => ∃ ρ F, Rel T F H ρ σ ∧ match f ρ with
  | .ok r => ∀ x F' H', Stp T F H ρ σ F' H' r.2 σ → VRel T H F' H' r.2 σ r.1 x → Q x H'
  | .ex c n d ρ' => ∀ F' H' cls dx, Stp T F H ρ σ F' H' ρ' σ → ERel T F' c n d cls dx → W cls dx σ H'
  | .no => False
/-- .. for a test -/
abbrev FT := En → R (Bool × En)
def tOfT (T : Tx) (W : WX) (f : FT) : TT := fun σ H Q => ∃ ρ F, Rel T F H ρ σ ∧ match f ρ with
  | .ok r => ∀ F' H', Stp T F H ρ σ F' H' r.2 σ → Q r.1 H'
  | .ex c n d ρ' => ∀ F' H' cls dx, Stp T F H ρ σ F' H' ρ' σ → ERel T F' c n d cls dx → W cls dx σ H'
  | .no => False
/-- a value that waits while others are worked out: known to stay, or the object of a slot -/
def Pend (T : Tx) (F : Fz) (σ : Sg) : Val → V → Prop
  | .sh d, x => Den T F d x
  | .fr _, _ => False
  | .rf i, x => σ[i]? = some (some x)
def PendL (T : Tx) (F : Fz) (σ : Sg) : List Val → List V → Prop
  | [], xs => xs = []
  | v :: vs, xs => ∃ x r, xs = x :: r ∧ Pend T F σ v x ∧ PendL T F σ vs r
/-- .. for arguments -/
abbrev FA := En → R (List Val × En)
def tOfA (T : Tx) (W : WX) (f : FA) : TA := fun σ H Q => ∃ ρ F, Rel T F H ρ σ ∧ match f ρ with
  | .ok r => ∀ xs F' H', Stp T F H ρ σ F' H' r.2 σ → PendL T F' σ r.1 xs → Q xs H'
  | .ex c n d ρ' => ∀ F' H' cls dx, Stp T F H ρ σ F' H' ρ' σ → ERel T F' c n d cls dx → W cls dx σ H'
  | .no => False
/-- .. for a statement -/
inductive Fl where
  | nx | bk | ct | rt (v : Val)
abbrev FS := En → R (Fl × En)
def flOk (T : Tx) (H : Hp) (F' : Fz) (H' : Hp) (ρ' : En) (σ' : Sg) (D : Ends) : Fl → Prop
  | .nx => D.nx σ' H'
  | .bk => D.bk σ' H'
  | .ct => D.ct σ' H'
  | .rt v => ∀ x, VRel T H F' H' ρ' σ' v x → D.rt x H'
def tOfS (T : Tx) (W : WX) (f : FS) : TS := fun D σ H => ∃ ρ F, Rel T F H ρ σ ∧ match f ρ with
  | .ok r => ∀ σ' F' H', Stp T F H ρ σ F' H' r.2 σ' → flOk T H F' H' r.2 σ' D r.1
  | .ex c n d ρ' => ∀ σ' F' H' cls dx, Stp T F H ρ σ F' H' ρ' σ' → ERel T F' c n d cls dx → W cls dx σ' H'
  | .no => False

abbrev Tx.of (X : Cx) : Tx := ⟨X.K, X.mg⟩
/-- the judgements -/
def SE (X : Cx) (W : WX) (e : Expr) (f : FE) : Prop := PE X e (tOf (.of X) W f)
def ST (X : Cx) (W : WX) (e : Expr) (f : FT) : Prop := PT X e (tOfT (.of X) W f)
def SA (X : Cx) (W : WX) (es : List Expr) (f : FA) : Prop := PA X es (tOfA (.of X) W f)
def SS (X : Cx) (W : WX) (st : Stmt) (f : FS) : Prop := PS X st (tOfS (.of X) W f)
def SSs (X : Cx) (W : WX) (st : List Stmt) (f : FS) : Prop := PSs X st (tOfS (.of X) W f)

/-! ### weakening a reading -/
theorem pe_imp {X : Cx} {e : Expr} {t t' : TE} (h : PE X e t) (i : ∀ σ H Q, t' σ H Q → t σ H Q) : PE X e t' := ⟨fun pins s σ H Q I q => h.run pins s σ H Q I (i σ H Q q)⟩
theorem pt_imp {X : Cx} {e : Expr} {t t' : TT} (h : PT X e t) (i : ∀ σ H Q, t' σ H Q → t σ H Q) : PT X e t' := ⟨fun pins s σ H Q I q => h.run pins s σ H Q I (i σ H Q q)⟩
theorem pa_imp {X : Cx} {es : List Expr} {t t' : TA} (h : PA X es t) (i : ∀ σ H Q, t' σ H Q → t σ H Q) : PA X es t' := ⟨fun pos pins s σ H Q I q => h.run pos pins s σ H Q I (i σ H Q q)⟩
theorem ps_imp {X : Cx} {st : Stmt} {t t' : TS} (h : PS X st t) (i : ∀ D σ H, t' D σ H → t D σ H) : PS X st t' := ⟨fun pins s σ H D I q => h.run pins s σ H D I (i D σ H q)⟩
theorem pss_imp {X : Cx} {st : List Stmt} {t t' : TS} (h : PSs X st t) (i : ∀ D σ H, t' D σ H → t D σ H) : PSs X st t' := ⟨fun pins s σ H D I q => h.run pins s σ H D I (i D σ H q)⟩

/-! ### reading a value: peeked at, or made to stay -/
/-- what a tree holds now: a live object's content -/
def look (L : List D) : D → Option D
  | .ref n => L[n]?
  | d => some d
/-- what a slot's tree is -/
def Slot.tr (L : List D) : Slot → Option D
  | .un => none
  | .sh d => look L d
  | .ow d => some d
/-- what a value holds now -/
def peek (ρ : En) : Val → Option D
  | .sh d => look ρ.l d
  | .fr d => look ρ.l d
  | .rf i => (ρ.s[i]?).bind (Slot.tr ρ.l)
/-- it stays from now on -/
def frz (ρ : En) : Val → Option (D × En)
  | .sh d => some (d, ρ)
  | .fr d => some (d, ρ)
  | .rf i => match ρ.s[i]? with
    | some (.ow d) => some (d, ρ.set i (.sh d))
    | some (.sh d) => some (d, ρ)
    | _ => none
/-- it waits -/
def Val.held : Val → Val
  | .fr d => .sh d
  | v => v
/-- the object holds the tree now: it stays, or it may change later -/
def Pk (T : Tx) (F : Fz) (H : Hp) (d : D) (x : V) : Prop := Den T F d x ∨ ∃ a, x = .ref a ∧ OwnAt T F H d a

theorem OwnAt.mono {T : Tx} {F F' : Fz} {H H' : Hp} {d : D} {a : Addr} (h : OwnAt T F H d a) (e : Ext F F') (k : H' a = H a) (ko : ∀ b, H b = some (.own a) → H' b = some (.own a)) : OwnAt T F' H' d a := by
  cases d with
  | lst ds => obtain ⟨xs, h1, h2⟩ := h; exact ⟨xs, k.trans h1, DenL.mono e _ h2⟩
  | dK ks ds => obtain ⟨xs, h1, h2, h3⟩ := h; exact ⟨xs, k.trans h1, h2, DenL.mono e _ h3⟩
  | dT ks ds => obtain ⟨xs, h1, h2, h3⟩ := h; exact ⟨xs, k.trans h1, h2, DenL.mono e _ h3⟩
  | ins c ns ds => obtain ⟨C, dx, xs, h1, h2, h3, h4, h5⟩ := h; exact ⟨C, dx, xs, h1, k.trans h2, ko _ h3, h4, DenL.mono e _ h5⟩
  | _ => exact h.elim
theorem OwnAt.some {T : Tx} {F : Fz} {H : Hp} {d : D} {a : Addr} (h : OwnAt T F H d a) : ∃ o, H a = some o ∧ ∀ b, o ≠ .own b := by
  cases d with
  | lst ds => obtain ⟨xs, h1, h2⟩ := h; exact ⟨_, h1, fun b z => by cases z⟩
  | dK ks ds => obtain ⟨xs, h1, h2, h3⟩ := h; exact ⟨_, h1, fun b z => by cases z⟩
  | dT ks ds => obtain ⟨xs, h1, h2, h3⟩ := h; exact ⟨_, h1, fun b z => by cases z⟩
  | ins c ns ds => obtain ⟨C, dx, xs, h1, h2, h3, h4, h5⟩ := h; exact ⟨_, h2, fun b z => by cases z⟩
  | _ => exact h.elim
/-- all is kept: the object holds what it held -/
theorem OwnAt.same {T : Tx} {F F' : Fz} {H H' : Hp} {d : D} {a : Addr} (h : OwnAt T F H d a) (e : Ext F F') (k : Same H H') : OwnAt T F' H' d a := by
  obtain ⟨o, h1, _⟩ := h.some
  exact h.mono e ((k a o h1).trans h1.symm) fun b q => k b _ q
theorem Live.obj {T : Tx} {F : Fz} {H : Hp} {L : List D} {a : Addr} (v : Live T F H L) (h : a ∈ F.as) : ∃ o, H a = some o ∧ ∀ b, o ≠ .own b := by
  obtain ⟨_, _, _, _, _, ho⟩ := v.mem h
  exact ho.some
theorem Owned.obj {T : Tx} {F : Fz} {H : Hp} {ρ : En} {σ : Sg} {a : Addr} (r : Rel T F H ρ σ) (h : Owned F ρ σ a) : ∃ o, H a = some o ∧ ∀ b, o ≠ .own b := by
  rcases h with ⟨i, d, m, q⟩ | h
  · obtain ⟨b, q1, _, ho⟩ := r.ow i d m
    rw [q] at q1; cases q1
    exact ho.some
  · exact r.lv.obj h
theorem Owned.non {T : Tx} {F : Fz} {H : Hp} {ρ : En} {σ : Sg} {a : Addr} (r : Rel T F H ρ σ) (h : Owned F ρ σ a) : F a = none := by
  rcases h with ⟨i, d, m, q⟩ | h
  · obtain ⟨b, q1, hn, _⟩ := r.ow i d m
    rw [q] at q1; cases q1
    exact hn
  · obtain ⟨_, _, _, _, hn, _⟩ := r.lv.mem h
    exact hn
theorem not_owned {T : Tx} {F : Fz} {H : Hp} {ρ : En} {σ : Sg} {a : Addr} (r : Rel T F H ρ σ) (h : H a = none) : ¬ Owned F ρ σ a := fun z => by
  obtain ⟨o, q, _⟩ := z.obj r
  rw [h] at q; cases q
/-- the live objects are not touched -/
theorem Live.keep {T : Tx} {F F' : Fz} {H H' : Hp} {L : List D} (v : Live T F H L) (e : Ext F F') (es : F'.as = F.as) (n : ∀ a ∈ F.as, F' a = none) (k : ∀ a ∈ F.as, H' a = H a) (ko : ∀ a ∈ F.as, ∀ b, H b = some (.own a) → H' b = some (.own a)) : Live T F' H' L :=
  ⟨by rw [es]; exact v.len, fun m d a h1 h2 => by
    rw [es] at h2
    have hm : a ∈ F.as := List.mem_of_getElem? h2
    exact ⟨n a hm, (v.ok m d a h1 h2).2.mono e (k a hm) (ko a hm)⟩, by rw [es]; exact v.dis⟩
open Classical in
/-- the heap of what stays, with the object at a (and an instance's own dict) taken in -/
noncomputable def frzAt (F : Fz) (H : Hp) (a : Addr) : Fz := ⟨fun b => if b = a ∨ H b = some (.own a) then H b else F b, F.as⟩
theorem frzAt_sub {F : Fz} {H : Hp} {a : Addr} (s : Same F.hp H) : Same (frzAt F H a).hp H := fun b o e => by
  simp only [frzAt] at e
  split at e
  · exact e
  · exact s b o e
theorem frzAt_same {F : Fz} {H : Hp} {a : Addr} (s : Same F.hp H) : Ext F (frzAt F H a) := ⟨fun b o e => by
  simp only [frzAt]
  split
  · exact s b o e
  · exact e, fun _ _ h => h⟩
theorem OwnAt.den {T : Tx} {F : Fz} {H : Hp} {d : D} {a : Addr} (s : Same F.hp H) (h : OwnAt T F H d a) : Den T (frzAt F H a) d (.ref a) := by
  have at_a : (frzAt F H a) a = H a := by simp only [frzAt]; rw [if_pos (.inl rfl)]
  have m := frzAt_same (a := a) s
  cases d with
  | lst ds => obtain ⟨xs, h1, h2⟩ := h; exact ⟨a, xs, rfl, at_a.trans h1, DenL.mono m _ h2⟩
  | dK ks ds => obtain ⟨xs, h1, h2, h3⟩ := h; exact ⟨a, xs, rfl, at_a.trans h1, h2, DenL.mono m _ h3⟩
  | dT ks ds => obtain ⟨xs, h1, h2, h3⟩ := h; exact ⟨a, xs, rfl, at_a.trans h1, h2, DenL.mono m _ h3⟩
  | ins c ns ds =>
    obtain ⟨C, dx, xs, h1, h2, h3, h4, h5⟩ := h
    exact ⟨a, C, dx, xs, rfl, h1, at_a.trans h2, by simp only [frzAt]; rw [if_pos (.inr h3)]; exact h3, h4, DenL.mono m _ h5⟩
  | _ => exact h.elim
theorem frzAt_eq {F : Fz} {H : Hp} {a b : Addr} (h : b ≠ a) (o : ∃ u, H b = some u ∧ ∀ c, u ≠ .own c) : (frzAt F H a) b = F b := by
  obtain ⟨u, e, q⟩ := o
  simp only [frzAt]
  rw [if_neg]
  rintro (z | z)
  · exact h z
  · rw [e] at z
    exact q a (Option.some.inj z)
theorem frzAt_none {F : Fz} {H : Hp} {a b : Addr} (n : F b = none) (h : b ≠ a) (o : ∃ u, H b = some u ∧ ∀ c, u ≠ .own c) : (frzAt F H a) b = none := (frzAt_eq h o).trans n

theorem get_set_self {ρ : En} {i : Nat} {s t : Slot} (h : ρ.s[i]? = some s) : (ρ.set i t).s[i]? = some t := by
  have : i < ρ.s.length := (List.getElem?_eq_some_iff.mp h).1
  show (ρ.s.set i t)[i]? = some t
  rw [List.getElem?_set_self this]
theorem get_set_ne {ρ : En} {i j : Nat} {t : Slot} (h : i ≠ j) : (ρ.set i t).s[j]? = ρ.s[j]? := List.getElem?_set_ne h
theorem mu_set_ne {ρ : En} {i j : Nat} {t : Slot} {d : D} (h : i ≠ j) (m : MuAt (ρ.set i t) j d) : MuAt ρ j d := by
  unfold MuAt at m
  rw [get_set_ne h] at m
  exact m
theorem mu_sh {ρ : En} {i : Nat} {s : Slot} {d e : D} (h : ρ.s[i]? = some s) : ¬ MuAt (ρ.set i (.sh d)) i e := fun m => by
  unfold MuAt at m
  rw [get_set_self h] at m
  cases m
theorem set_len {ρ : En} {i : Nat} {t : Slot} : (ρ.set i t).s.length = ρ.s.length := List.length_set
/-- a slot's object is made to stay -/
theorem Stp.freeze {T : Tx} {F : Fz} {H : Hp} {ρ : En} {σ : Sg} {i : Nat} {d : D} {a : Addr} (r : Rel T F H ρ σ) (h : ρ.s[i]? = some (.ow d)) (ha : σ[i]? = some (some (.ref a))) :
    Stp T F H ρ σ (frzAt F H a) H (ρ.set i (.sh d)) σ ∧ Den T (frzAt F H a) d (.ref a) := by
  have hm : MuAt ρ i d := h
  obtain ⟨b, hb, hn, ho⟩ := r.ow i d hm
  have e : b = a := by rw [ha] at hb; cases hb; rfl
  subst e
  have dn := OwnAt.den r.sub ho
  have m := frzAt_same (a := b) r.sub
  have nl := r.lo i d b hm ha
  refine ⟨⟨⟨by rw [set_len]; exact r.len, frzAt_sub r.sub, fun j e q => ?_, fun j e q => ?_, fun j k e e' c q q' s s' => ?_, ?_, fun j e c q s => ?_⟩, m, fun _ _ h _ => h, fun c z => .inl ?_, fun _ o h => ⟨o, h⟩, fun c o hc no hw => ?_⟩, dn⟩
  · by_cases w : i = j
    · subst w
      rw [get_set_self h] at q
      cases q
      exact ⟨_, ha, dn⟩
    · rw [get_set_ne w] at q
      obtain ⟨x, s1, s2⟩ := r.sh j e q
      exact ⟨x, s1, s2.mono m⟩
  · by_cases w : i = j
    · subst w
      exact (mu_sh h q).elim
    · have q := mu_set_ne w q
      obtain ⟨c, s1, s2, s3⟩ := r.ow j e q
      have hne : c ≠ b := fun z => w (r.dis i j d e b hm q ha (by rw [s1, z]))
      exact ⟨c, s1, frzAt_none s2 hne s3.some, s3.mono m rfl fun _ z => z⟩
  · by_cases w : i = j
    · subst w
      exact (mu_sh h q).elim
    · by_cases w' : i = k
      · subst w'
        exact (mu_sh h q').elim
      · exact r.dis j k e e' c (mu_set_ne w q) (mu_set_ne w' q') s s'
  · refine r.lv.keep m rfl (fun c hc => ?_) (fun _ _ => rfl) fun _ _ _ z => z
    obtain ⟨_, _, _, _, hn', ho'⟩ := r.lv.mem hc
    exact frzAt_none hn' (fun z => nl (by rw [← z]; exact hc)) ho'.some
  · by_cases w : i = j
    · subst w
      exact (mu_sh h q).elim
    · exact r.lo j e c (mu_set_ne w q) s
  · rcases z with ⟨j, e, q, s⟩ | z
    · by_cases w : i = j
      · subst w
        exact (mu_sh h q).elim
      · exact .inl ⟨j, e, mu_set_ne w q, s⟩
    · exact .inr z
  · refine frzAt_eq (fun z => no (.inl ⟨i, d, hm, by rw [z]; exact ha⟩)) ⟨o, hc, hw⟩
/-- a new object of nobody's is made to stay -/
theorem Stp.freezeNew {T : Tx} {F F' : Fz} {H H' : Hp} {ρ ρ' : En} {σ σ' : Sg} {d : D} {a : Addr} (s : Stp T F H ρ σ F' H' ρ' σ') (hn : F' a = none) (h0 : H a = none) (no : ¬ Owned F' ρ' σ' a) (ho : OwnAt T F' H' d a) :
    Stp T F H ρ σ (frzAt F' H' a) H' ρ' σ' ∧ Den T (frzAt F' H' a) d (.ref a) ∧ Ext F' (frzAt F' H' a) := by
  have r := s.rel
  have m := frzAt_same (a := a) r.sub
  refine ⟨⟨⟨r.len, frzAt_sub r.sub, fun j e q => ?_, fun j e q => ?_, r.dis, ?_, r.lo⟩, s.same.trans m, s.keep, fun b z => s.own b z, s.dom, fun b o h no' hw => ?_⟩, OwnAt.den r.sub ho, m⟩
  · obtain ⟨x, s1, s2⟩ := r.sh j e q
    exact ⟨x, s1, s2.mono m⟩
  · obtain ⟨c, s1, s2, s3⟩ := r.ow j e q
    have hne : c ≠ a := fun z => no (.inl ⟨j, e, q, by rw [s1, z]⟩)
    exact ⟨c, s1, frzAt_none s2 hne s3.some, s3.mono m rfl fun _ z => z⟩
  · refine r.lv.keep m rfl (fun c hc => ?_) (fun _ _ => rfl) fun _ _ _ z => z
    obtain ⟨_, _, _, _, hn', ho'⟩ := r.lv.mem hc
    exact frzAt_none hn' (fun z => no (.inr (by rw [← z]; exact hc))) ho'.some
  · rw [← s.fz b o h no' hw]
    refine frzAt_eq (fun z => by rw [z, h0] at h; cases h) ⟨o, s.keep b o h no', hw⟩
/-- any value held: a new one stays from now on -/
theorem held_ok {T : Tx} {F F' : Fz} {H H' : Hp} {ρ ρ' : En} {σ σ' : Sg} {v : Val} {x : V} (s : Stp T F H ρ σ F' H' ρ' σ') (h : VRel T H F' H' ρ' σ' v x) :
    ∃ F'', Stp T F H ρ σ F'' H' ρ' σ' ∧ Ext F' F'' ∧ Pend T F'' σ' v.held x := by
  cases v with
  | sh d0 => exact ⟨F', s, Ext.refl _, h⟩
  | fr d0 =>
    obtain ⟨a, rfl, hn, h0, no, ho⟩ := h
    obtain ⟨s2, q, m⟩ := s.freezeNew hn h0 no ho
    exact ⟨_, s2, m, q⟩
  | rf i => exact ⟨F', s, Ext.refl _, h.1⟩
theorem Pend.mono {T : Tx} {F F' : Fz} {σ : Sg} {v : Val} {x : V} (e : Ext F F') (h : Pend T F σ v x) : Pend T F' σ v x := by
  cases v with
  | sh d => exact Den.mono e d h
  | fr d => exact h
  | rf i => exact h
theorem PendL.mono {T : Tx} {F F' : Fz} {σ : Sg} (e : Ext F F') : ∀ {vs : List Val} {xs : List V}, PendL T F σ vs xs → PendL T F' σ vs xs
  | [], _, h => h
  | _ :: _, _, ⟨x, r, h1, h2, h3⟩ => ⟨x, r, h1, h2.mono e, PendL.mono e h3⟩
theorem look_ok {T : Tx} {F : Fz} {H : Hp} {L : List D} {d e : D} {x : V} (v : Live T F H L) (h : Den T F d x) (q : look L d = some e) : Pk T F H e x := by
  cases d with
  | ref n =>
    obtain ⟨a, rfl, h2⟩ := h
    exact .inr ⟨a, rfl, (v.ok n e a q h2).2⟩
  | _ => cases q; exact .inl h
/-- what a waiting value holds now -/
theorem Pend.peek {T : Tx} {F : Fz} {H : Hp} {ρ : En} {σ : Sg} {v : Val} {x : V} {d : D} (r : Rel T F H ρ σ) (h : Pend T F σ v x) (e : Tr.peek ρ v = some d) : Pk T F H d x := by
  cases v with
  | sh d0 => exact look_ok r.lv h e
  | fr d0 => exact h.elim
  | rf i =>
    have h : σ[i]? = some (some x) := h
    have e : (ρ.s[i]?).bind (Slot.tr ρ.l) = some d := e
    cases q : ρ.s[i]? with
    | none => rw [q] at e; cases e
    | some s =>
      rw [q] at e
      have e : s.tr ρ.l = some d := e
      cases s with
      | un => cases e
      | sh d0 =>
        obtain ⟨y, h1, h2⟩ := r.sh i _ q
        rw [h] at h1; cases h1
        exact look_ok r.lv h2 e
      | ow d0 =>
        cases e
        obtain ⟨a, h1, _, h2⟩ := r.ow i _ q
        rw [h] at h1; cases h1
        exact .inr ⟨a, rfl, h2⟩
/-- a waiting value stays from now on -/
theorem Pend.frz {T : Tx} {F : Fz} {H : Hp} {ρ ρ' : En} {σ : Sg} {v : Val} {x : V} {d : D} (r : Rel T F H ρ σ) (h : Pend T F σ v x) (e : Tr.frz ρ v = some (d, ρ')) :
    ∃ F', Stp T F H ρ σ F' H ρ' σ ∧ Den T F' d x := by
  cases v with
  | sh d0 => cases e; exact ⟨F, Stp.refl r, h⟩
  | fr d0 => exact h.elim
  | rf i =>
    have h : σ[i]? = some (some x) := h
    cases q : ρ.s[i]? with
    | none => simp only [Tr.frz, q] at e; cases e
    | some s =>
      cases s with
      | un => simp only [Tr.frz, q] at e; cases e
      | sh d0 =>
        simp only [Tr.frz, q] at e
        cases e
        obtain ⟨y, h1, h2⟩ := r.sh i _ q
        rw [h] at h1; cases h1
        exact ⟨F, Stp.refl r, h2⟩
      | ow d0 =>
        simp only [Tr.frz, q] at e
        cases e
        obtain ⟨a, h1, _, h2⟩ := r.ow i _ q
        rw [h] at h1; cases h1
        obtain ⟨s, dn⟩ := Stp.freeze r q h
        exact ⟨_, s, dn⟩
theorem frz_held (ρ : En) (v : Val) : frz ρ v.held = frz ρ v := by cases v <;> rfl
theorem peek_held (ρ : En) (v : Val) : peek ρ v.held = peek ρ v := by cases v <;> rfl

/-! ### a value made without touching what stands -/
structure New (T : Tx) (F : Fz) (H : Hp) (F' : Fz) (H' : Hp) : Prop where
  hh : Same H H'
  ff : Ext F F'
  fh : Same F'.hp H'
  old : ∀ b o, H b = some o → F' b = F b
  as : F'.as = F.as
theorem New.refl {T : Tx} {F : Fz} {H : Hp} (s : Same F.hp H) : New T F H F H := ⟨Same.refl H, Ext.refl F, s, fun _ _ _ => rfl, rfl⟩
theorem New.trans {T : Tx} {F F1 F2 : Fz} {H H1 H2 : Hp} (a : New T F H F1 H1) (b : New T F1 H1 F2 H2) : New T F H F2 H2 :=
  ⟨a.hh.trans b.hh, a.ff.trans b.ff, b.fh, fun c o h => (b.old c o (a.hh c o h)).trans (a.old c o h), b.as.trans a.as⟩
theorem same_upd {H : Hp} {p : Addr} {o : HO} (h : H p = none) : Same H (upd H p o) := fun b x e => by
  rw [upd_ne (ne_of_none e h)]
  exact e
theorem ext_upd {F : Fz} {p : Addr} {o : HO} (h : F p = none) : Ext F (F.upd p o) := ⟨same_upd h, fun _ _ h => h⟩
/-- a new thing that stays -/
theorem New.sh {T : Tx} {F : Fz} {H : Hp} {p : Addr} {o : HO} (s : Same F.hp H) (h : H p = none) : New T F H (F.upd p o) (upd H p o) := by
  have fp : F p = none := s.free h
  refine ⟨same_upd h, ext_upd fp, fun b x e => ?_, fun b x e => ?_, rfl⟩
  · simp only [Fz.upd] at e
    by_cases w : b = p
    · subst w; rw [upd_same] at e ⊢; exact e
    · rw [upd_ne w] at e ⊢; exact s b x e
  · simp only [Fz.upd]
    rw [upd_ne (ne_of_none e h)]
/-- a new thing that may change -/
theorem New.fr {T : Tx} {F : Fz} {H : Hp} {p : Addr} {o : HO} (s : Same F.hp H) (h : H p = none) : New T F H F (upd H p o) :=
  ⟨same_upd h, Ext.refl F, s.trans (same_upd h), fun _ _ _ => rfl, rfl⟩
/-- the value's meaning beside it -/
def NRel (T : Tx) (H : Hp) (F' : Fz) (H' : Hp) : Val → V → Prop
  | .sh d, x => Den T F' d x
  | .fr d, x => ∃ a, x = .ref a ∧ F' a = none ∧ H a = none ∧ OwnAt T F' H' d a
  | .rf _, _ => False
theorem New.stp {T : Tx} {F F' : Fz} {H H' : Hp} {ρ : En} {σ : Sg} (n : New T F H F' H') (r : Rel T F H ρ σ) : Stp T F H ρ σ F' H' ρ σ where
  rel := ⟨r.len, n.fh, fun i d q => by
      obtain ⟨x, h1, h2⟩ := r.sh i d q
      exact ⟨x, h1, h2.mono n.ff⟩, fun i d q => by
      obtain ⟨a, h1, h2, h3⟩ := r.ow i d q
      obtain ⟨o, h4, _⟩ := h3.some
      exact ⟨a, h1, (n.old a o h4).trans h2, h3.same n.ff n.hh⟩, r.dis, r.lv.keep n.ff n.as (fun a ha => by
      obtain ⟨_, _, _, _, hn, ho⟩ := r.lv.mem ha
      obtain ⟨o, h4, _⟩ := ho.some
      exact (n.old a o h4).trans hn) (fun a ha => by
      obtain ⟨o, h4, _⟩ := r.lv.obj ha
      exact (n.hh a o h4).trans h4.symm) fun a ha b q => n.hh b _ q, fun i d a m q => by rw [n.as]; exact r.lo i d a m q⟩
  same := n.ff
  keep := fun b o h _ => n.hh b o h
  own := fun _ h => .inl (h.imp id fun z => by rw [← n.as]; exact z)
  dom := fun b o h => ⟨o, n.hh b o h⟩
  fz := fun b o h _ _ => n.old b o h
theorem NRel.vrel {T : Tx} {F F' : Fz} {H H' : Hp} {ρ : En} {σ : Sg} {v : Val} {x : V} (r : Rel T F H ρ σ) (n : New T F H F' H') (h : NRel T H F' H' v x) : VRel T H F' H' ρ σ v x := by
  cases v with
  | sh d => exact h
  | fr d =>
    obtain ⟨a, h1, h2, h3, h4⟩ := h
    refine ⟨a, h1, h2, h3, fun z => not_owned r h3 (z.imp id fun q => by rw [← n.as]; exact q), h4⟩
  | rf i => exact h.elim
/-- the same, as seen from further back -/
theorem VRel.back {T : Tx} {F F1 F' : Fz} {H H1 H' : Hp} {ρ ρ1 ρ' : En} {σ σ1 σ' : Sg} {v : Val} {x : V} (s : Stp T F H ρ σ F1 H1 ρ1 σ1) (h : VRel T H1 F' H' ρ' σ' v x) : VRel T H F' H' ρ' σ' v x := by
  cases v with
  | sh d => exact h
  | fr d =>
    obtain ⟨a, h1, h2, h3, h4, h5⟩ := h
    exact ⟨a, h1, h2, s.free h3, h4, h5⟩
  | rf i => exact h

/-! ### a new object becomes live -/
def En.push (ρ : En) (d : D) : En := ⟨ρ.s, ρ.l ++ [d]⟩
theorem Stp.alive {T : Tx} {F F' : Fz} {H H' : Hp} {ρ ρ' : En} {σ σ' : Sg} {d : D} {a : Addr} (s : Stp T F H ρ σ F' H' ρ' σ') (hn : F' a = none) (h0 : H a = none) (no : ¬ Owned F' ρ' σ' a) (ho : OwnAt T F' H' d a) :
    Stp T F H ρ σ ⟨F'.hp, F'.as ++ [a]⟩ H' (ρ'.push d) σ' ∧ Ext F' ⟨F'.hp, F'.as ++ [a]⟩ ∧ Den T ⟨F'.hp, F'.as ++ [a]⟩ (.ref ρ'.l.length) (.ref a) := by
  have r := s.rel
  have m : Ext F' ⟨F'.hp, F'.as ++ [a]⟩ := ⟨Same.refl _, fun n b h => by
    show (F'.as ++ [a])[n]? = some b
    rw [List.getElem?_append_left (List.getElem?_eq_some_iff.mp h).1]; exact h⟩
  refine ⟨⟨⟨r.len, r.sub, fun j e q => ?_, fun j e q => ?_, r.dis, ⟨?_, fun n e b q1 q2 => ?_, ?_⟩, fun j e b q q2 z => ?_⟩, s.same.trans m, s.keep, fun b z => ?_, s.dom, s.fz⟩, m, a, rfl, ?_⟩
  · obtain ⟨x, s1, s2⟩ := r.sh j e q
    exact ⟨x, s1, s2.mono m⟩
  · obtain ⟨c, s1, s2, s3⟩ := r.ow j e q
    exact ⟨c, s1, s2, s3.mono m rfl fun _ z => z⟩
  · simp [En.push, r.lv.len]
  · simp only [En.push] at q1
    by_cases hl : n < ρ'.l.length
    · rw [List.getElem?_append_left hl] at q1
      have q2 : (F'.as ++ [a])[n]? = some b := q2
      rw [List.getElem?_append_left (by rw [r.lv.len]; exact hl)] at q2
      obtain ⟨z1, z2⟩ := r.lv.ok n e b q1 q2
      exact ⟨z1, z2.mono m rfl fun _ z => z⟩
    · rw [List.getElem?_append_right (by omega)] at q1
      have q2 : (F'.as ++ [a])[n]? = some b := q2
      rw [List.getElem?_append_right (by rw [r.lv.len]; omega), r.lv.len] at q2
      have z : n - ρ'.l.length = 0 := by
        cases k : n - ρ'.l.length with
        | zero => rfl
        | succ k => rw [k] at q1; cases q1
      rw [z] at q1 q2
      cases q1; cases q2
      exact ⟨hn, ho.mono m rfl fun _ z => z⟩
  · show (F'.as ++ [a]).Nodup
    rw [List.nodup_append]
    refine ⟨r.lv.dis, by simp, fun x hx y hy e => ?_⟩
    rw [List.mem_singleton.mp hy] at e
    exact no (.inr (by rw [← e]; exact hx))
  · have z : b ∈ F'.as ++ [a] := z
    rcases List.mem_append.mp z with z | z
    · exact r.lo j e b q q2 z
    · rw [List.mem_singleton.mp z] at q2
      exact no (.inl ⟨j, e, q, q2⟩)
  · rcases z with ⟨j, e, q, t⟩ | z
    · exact s.own b (.inl ⟨j, e, q, t⟩)
    · have z : b ∈ F'.as ++ [a] := z
      rcases List.mem_append.mp z with z | z
      · exact s.own b (.inr z)
      · rw [List.mem_singleton.mp z]; exact .inr h0
  · show (F'.as ++ [a])[ρ'.l.length]? = some a
    rw [← r.lv.len]
    simp
end Tr
/-! Tr, part B: expressions, tests, arguments, plain statements. -/
namespace Tr
open PySem PySem.Spec PyProof.Rows L2
section
variable {X : Cx} {W : WX}

/-! ### names and constants -/
def evVar (i : Nat) : FE := fun ρ => match ρ.s[i]? with
  | some (.sh d) => .ok (.sh d, ρ)
  | some (.ow _) => .ok (.rf i, ρ)
  | _ => .no
def evC (d : D) : FE := fun ρ => .ok (.sh d, ρ)
theorem evVar_ok {T : Tx} {F : Fz} {H : Hp} {ρ : En} {σ : Sg} {i : Nat} {Q : V → Hp → Prop} (r : Rel T F H ρ σ)
    (h : match evVar i ρ with
      | .ok r => ∀ x F' H', Stp T F H ρ σ F' H' r.2 σ → VRel T H F' H' r.2 σ r.1 x → Q x H'
      | .ex c n d ρ' => ∀ F' H' cls dx, Stp T F H ρ σ F' H' ρ' σ → ERel T F' c n d cls dx → W cls dx σ H'
      | .no => False) : ∃ x, σ[i]? = some (some x) ∧ Q x H := by
  unfold evVar at h
  cases q : ρ.s[i]? with
  | none => rw [q] at h; exact h.elim
  | some s =>
    rw [q] at h
    cases s with
    | un => exact h.elim
    | sh d =>
      obtain ⟨x, h1, h2⟩ := r.sh i d q
      exact ⟨x, h1, h x F H (Stp.refl r) h2⟩
    | ow d =>
      obtain ⟨a, h1, h2, h3⟩ := r.ow i d q
      exact ⟨.ref a, h1, h _ F H (Stp.refl r) ⟨h1, d, q⟩⟩
theorem se_var (i : Nat) {x : Str} {pos : Pos} (hN : X.N[i]? = some x := by rfl) (hv : Vis X.env.scope x := by first | exact Or.inl rfl | exact Or.inr (Or.inl rfl) | exact Or.inr (Or.inr rfl))
    (hd : (x == ("__debug__" : Str)) = false := by decide) (hcd : (x == ("__classdict__" : Str)) = false := by decide) : SE X W (.Name x pos) (evVar i) :=
  pe_imp (pe_var hN hv hd hcd) fun σ H Q ⟨ρ, F, r, h⟩ => evVar_ok r h
theorem se_int {i : Int} {j pos} : SE X W (.Constant (.int i) j pos) (evC (.int i)) := pe_imp pe_int fun σ H Q ⟨ρ, F, r, h⟩ => h _ F H (Stp.refl r) rfl
theorem se_bl {b : Bool} {j pos} : SE X W (.Constant (.bool b) j pos) (evC (.bl b)) := pe_imp pe_bl fun σ H Q ⟨ρ, F, r, h⟩ => h _ F H (Stp.refl r) rfl
theorem se_non {j pos} : SE X W (.Constant .none j pos) (evC .non) := pe_imp pe_non fun σ H Q ⟨ρ, F, r, h⟩ => h _ F H (Stp.refl r) rfl
theorem se_str {x : Str} {j pos} : SE X W (.Constant (.str x) j pos) (evC (.str x)) := pe_imp pe_str fun σ H Q ⟨ρ, F, r, h⟩ => h _ F H (Stp.refl r) rfl
/-- a def or class of the module, as a value -/
theorem se_glo {x : Str} {a : Addr} {pos : Pos} (hm : X.mg x = some (.ref a)) (hg : Gl X x := by rfl) (hd : (x == ("__debug__" : Str)) = false := by decide) : SE X W (.Name x pos) (evC (.glo x)) :=
  pe_imp (pe_glob (v := .ref a) hg hm rfl hd) fun σ H Q ⟨ρ, F, r, h⟩ => h _ F H (Stp.refl r) ⟨a, hm, rfl⟩
/-- an int of the module -/
theorem se_gint {x : Str} {i : Int} {t : Tok} {pos : Pos} (hm : X.mg x = some (.int i t)) (hg : Gl X x := by rfl) (hd : (x == ("__debug__" : Str)) = false := by decide) : SE X W (.Name x pos) (evC (.int i)) :=
  pe_imp (pe_glob (v := .int i) hg hm ⟨t, rfl⟩ hd) fun σ H Q ⟨ρ, F, r, h⟩ => h _ F H (Stp.refl r) rfl
/-- a text of the module -/
theorem se_gstr {x s : Str} {t : Tok} {pos : Pos} (hm : X.mg x = some (.str s t)) (hg : Gl X x := by rfl) (hd : (x == ("__debug__" : Str)) = false := by decide) : SE X W (.Name x pos) (evC (.str s)) :=
  pe_imp (pe_glob (v := .str s) hg hm ⟨t, rfl⟩ hd) fun σ H Q ⟨ρ, F, r, h⟩ => h _ F H (Stp.refl r) rfl
/-- a built-in class, as a value -/
theorem se_ty {x : Str} {n : String} {pos : Pos} (hm : X.mg x = none) (hv : bootBuiltins x = some (.type n)) (hg : Gl X x := by rfl) (hn : x ≠ "__name__" := by decide) (hd : (x == ("__debug__" : Str)) = false := by decide) : SE X W (.Name x pos) (evC (.ty n)) :=
  pe_imp (pe_bltn (v := .ty n) hg hm hv rfl hn hd) fun σ H Q ⟨ρ, F, r, h⟩ => h _ F H (Stp.refl r) rfl

/-! ### operators -/
/-- one value out of two, without touching what stands -/
def op2 (g : D → D → Option Val) (ρ : En) (v w : Val) : R (Val × En) := match peek ρ v, peek ρ w with
  | some d, some e => (match g d e with
    | some z => .ok (z, ρ)
    | none => .no)
  | _, _ => .no
def evOp (g : D → D → Option Val) (fa fb : FE) : FE := fun ρ => (fa ρ).bind fun r => (fb r.2).bind fun q => op2 g q.2 r.1 q.1
/-- an operator does what g says -/
def OpS (X : Cx) (f : Value → Value → Sem Value) (g : D → D → Option Val) : Prop := ∃ r : R2, OpR X f r ∧
  ∀ (F : Fz) (H : Hp) (x y : V) (d e : D) (z : Val) (Q : VK), Same F H → Pk (.of X) F H d x → Pk (.of X) F H e y → g d e = some z → (∀ w F' H', New (.of X) F H F' H' → NRel (.of X) H F' H' z w → Q w H') → r x y H Q
theorem evOp_ok {fa fb : FE} {g : D → D → Option Val} {f : Value → Value → Sem Value} {r : R2} (hr : ∀ (F : Fz) (H : Hp) (x y : V) (d e : D) (z : Val) (Q : VK), Same F H → Pk (.of X) F H d x → Pk (.of X) F H e y → g d e = some z → (∀ w F' H', New (.of X) F H F' H' → NRel (.of X) H F' H' z w → Q w H') → r x y H Q)
    {σ : Sg} {H : Hp} {Q : VK} (h : tOf (.of X) W (evOp g fa fb) σ H Q) : tOp r (tOf (.of X) W fa) (tOf (.of X) W fb) σ H Q := by
  obtain ⟨ρ, F, rl, h⟩ := h
  unfold evOp at h
  refine ⟨ρ, F, rl, ?_⟩
  cases ea : fa ρ with
  | no => rw [ea] at h; exact h
  | ex c n d ρ' => rw [ea] at h; exact h
  | ok ra =>
    rw [ea] at h
    intro x F1 H1 s1 v1
    obtain ⟨F2, s12, m2, p2⟩ := held_ok s1 v1
    refine ⟨ra.2, F2, s12.rel, ?_⟩
    have h : (match (fb ra.2).bind fun q => op2 g q.2 ra.1 q.1 with
      | .ok r => ∀ x F' H', Stp (.of X) F H ρ σ F' H' r.2 σ → VRel (.of X) H F' H' r.2 σ r.1 x → Q x H'
      | .ex c n d ρ' => ∀ F' H' cls dx, Stp (.of X) F H ρ σ F' H' ρ' σ → ERel (.of X) F' c n d cls dx → W cls dx σ H'
      | .no => False) := h
    cases eb : fb ra.2 with
    | no => rw [eb] at h; exact h
    | ex c n d ρ' =>
      rw [eb] at h
      exact fun F' H' cls dx s e => h F' H' cls dx (s12.trans s) e
    | ok rb =>
      rw [eb] at h
      intro y F3 H3 s3 v3
      have h : (match op2 g rb.2 ra.1 rb.1 with
        | .ok r => ∀ x F' H', Stp (.of X) F H ρ σ F' H' r.2 σ → VRel (.of X) H F' H' r.2 σ r.1 x → Q x H'
        | .ex c n d ρ' => ∀ F' H' cls dx, Stp (.of X) F H ρ σ F' H' ρ' σ → ERel (.of X) F' c n d cls dx → W cls dx σ H'
        | .no => False) := h
      obtain ⟨F4, s4, m4, p4⟩ := held_ok s3 v3
      have s14 := s12.trans s4
      unfold op2 at h
      cases e1 : peek rb.2 ra.1 with
      | none => rw [e1] at h; exact h.elim
      | some d =>
        cases e2 : peek rb.2 rb.1 with
        | none => rw [e1, e2] at h; exact h.elim
        | some e =>
          rw [e1, e2] at h
          cases e3 : g d e with
          | none => simp only [e3] at h
          | some z =>
            simp only [e3] at h
            have k1 := (p2.mono s4.same).peek s4.rel (by rw [peek_held]; exact e1)
            have k2 := p4.peek s4.rel (by rw [peek_held]; exact e2)
            refine hr F4 H3 x y d e z Q s4.rel.sub k1 k2 e3 fun w F5 H5 n5 r5 => ?_
            exact h w F5 H5 (s14.trans (n5.stp s4.rel)) ((r5.vrel s4.rel n5).back s14)
theorem se_op {a b : Expr} {op : Operator} {pos : Pos} {fa fb : FE} {g : D → D → Option Val} (ho : OpS X (binaryOp op) g) (ha : SE X W a fa) (hb : SE X W b fb) : SE X W (.BinOp a op b pos) (evOp g fa fb) := by
  obtain ⟨r, h1, h2⟩ := ho
  exact pe_imp (pe_op h1 ha hb) fun σ H Q h => evOp_ok (f := binaryOp op) h2 h
theorem se_cmp {a b : Expr} {op : CmpOp} {pos : Pos} {fa fb : FE} {g : D → D → Option Val} (ho : OpS X (compareOp op) g) (ha : SE X W a fa) (hb : SE X W b fb) (hm : behindInMarks op b = false := by first | exact nomark _ | rfl) : SE X W (.Compare a [op] [b] pos) (evOp g fa fb) := by
  obtain ⟨r, h1, h2⟩ := ho
  exact pe_imp (pe_cmpR h1 ha hb hm) fun σ H Q h => evOp_ok (f := compareOp op) h2 h
/-- xs[i] -/
def IxS (X : Cx) (g : D → D → Option Val) : Prop := ∃ r : R2, IxR X r ∧
  ∀ (F : Fz) (H : Hp) (x y : V) (d e : D) (z : Val) (Q : VK), Same F H → Pk (.of X) F H d x → Pk (.of X) F H e y → g d e = some z → (∀ w F' H', New (.of X) F H F' H' → NRel (.of X) H F' H' z w → Q w H') → r x y H Q
theorem se_ix {a b : Expr} {pos : Pos} {fa fb : FE} {g : D → D → Option Val} (ho : IxS X g) (ha : SE X W a fa) (hb : SE X W b fb) (hs : PlainIx b := by exact fun _ _ => rfl) : SE X W (.Subscript a b pos) (evOp g fa fb) := by
  obtain ⟨r, h1, h2⟩ := ho
  exact pe_imp (pe_ix h1 ha hb hs) fun σ H Q h => evOp_ok (f := fun _ _ => pure .none) h2 h
/-- an operator of one operand -/
def op1 (g : D → Option Val) (ρ : En) (v : Val) : R (Val × En) := match peek ρ v with
  | some d => (match g d with
    | some z => .ok (z, ρ)
    | none => .no)
  | none => .no
def evUn (g : D → Option Val) (fa : FE) : FE := fun ρ => (fa ρ).bind fun r => op1 g r.2 r.1
def UnS (X : Cx) (r : V → Hp → VK → Prop) (g : D → Option Val) : Prop :=
  ∀ (F : Fz) (H : Hp) (x : V) (d : D) (z : Val) (Q : VK), Same F H → Pk (.of X) F H d x → g d = some z → (∀ w F' H', New (.of X) F H F' H' → NRel (.of X) H F' H' z w → Q w H') → r x H Q
theorem evUn_ok {fa : FE} {g : D → Option Val} {r : V → Hp → VK → Prop} (hr : UnS X r g) {σ : Sg} {H : Hp} {Q : VK} (h : tOf (.of X) W (evUn g fa) σ H Q) : tOf (.of X) W fa σ H fun x H1 => r x H1 Q := by
  obtain ⟨ρ, F, rl, h⟩ := h
  unfold evUn at h
  refine ⟨ρ, F, rl, ?_⟩
  cases ea : fa ρ with
  | no => rw [ea] at h; exact h
  | ex c n d ρ' => rw [ea] at h; exact h
  | ok ra =>
    rw [ea] at h
    intro x F1 H1 s1 v1
    obtain ⟨F2, s12, m2, p2⟩ := held_ok s1 v1
    have h : (match op1 g ra.2 ra.1 with
      | .ok r => ∀ x F' H', Stp (.of X) F H ρ σ F' H' r.2 σ → VRel (.of X) H F' H' r.2 σ r.1 x → Q x H'
      | .ex c n d ρ' => ∀ F' H' cls dx, Stp (.of X) F H ρ σ F' H' ρ' σ → ERel (.of X) F' c n d cls dx → W cls dx σ H'
      | .no => False) := h
    unfold op1 at h
    cases e1 : peek ra.2 ra.1 with
    | none => simp only [e1] at h
    | some d =>
      simp only [e1] at h
      cases e3 : g d with
      | none => simp only [e3] at h
      | some z =>
        simp only [e3] at h
        have k1 := p2.peek s12.rel (by rw [peek_held]; exact e1)
        exact hr F2 H1 x d z Q s12.rel.sub k1 e3 fun w F5 H5 n5 r5 => h w F5 H5 (s12.trans (n5.stp s12.rel)) ((r5.vrel s12.rel n5).back s12)
theorem se_un {a : Expr} {op : UnaryOp} {pos : Pos} {fa : FE} {g : D → Option Val} {r : V → Hp → VK → Prop} (ho : UnR X (unaryOp op) r) (hr : UnS X r g) (ha : SE X W a fa) : SE X W (.UnaryOp op a pos) (evUn g fa) :=
  pe_imp (pe_un ho ha) fun σ H Q h => evUn_ok hr h

/-! ### tests -/
def asB : Val × En → R (Bool × En)
  | (.sh (.bl b), ρ) => .ok (b, ρ)
  | _ => .no
def ftVal (f : FE) : FT := fun ρ => (f ρ).bind asB
theorem tB_of {f : FE} {σ : Sg} {H : Hp} {Q : Bool → Hp → Prop} (h : tOfT (.of X) W (ftVal f) σ H Q) : tB (tOf (.of X) W f) σ H Q := by
  obtain ⟨ρ, F, rl, h⟩ := h
  unfold ftVal at h
  refine ⟨ρ, F, rl, ?_⟩
  cases ea : f ρ with
  | no => rw [ea] at h; exact h
  | ex c n d ρ' => rw [ea] at h; exact h
  | ok ra =>
    obtain ⟨v, ρ'⟩ := ra
    rw [ea] at h
    intro x F1 H1 s1 v1
    cases v with
    | sh d =>
      cases d with
      | bl b => exact ⟨b, v1, h F1 H1 s1⟩
      | _ => exact h.elim
    | fr d => exact h.elim
    | rf i => exact h.elim
theorem st_val {e : Expr} {f : FE} (h : SE X W e f) (he : ∀ whole, isTrue e X.env whole = (do let v ← whole; standAt e.pos; holding [v] (truthy v)) := by intro _; rfl) : ST X W e (ftVal f) :=
  pt_imp (pt_val h he) fun σ H Q h => tB_of h
theorem st_cmp {a b : Expr} {op : CmpOp} {pos : Pos} {fa fb : FE} {g : D → D → Option Val} (ho : OpS X (compareOp op) g) (ha : SE X W a fa) (hb : SE X W b fb) (hm : behindInMarks op b = false := by first | exact nomark _ | rfl) : ST X W (.Compare a [op] [b] pos) (ftVal (evOp g fa fb)) := by
  obtain ⟨r, h1, h2⟩ := ho
  refine pt_imp (pt_cmpR h1 ha hb hm) fun σ H Q h => ?_
  have h := tB_of h
  exact evOp_ok (f := compareOp op) h2 h
/-- one test, then another one by its answer -/
def ftThen (f : FT) (g : Bool → FT) : FT := fun ρ => (f ρ).bind fun r => g r.1 r.2
theorem ftThen_ok {f : FT} {g : Bool → FT} {σ : Sg} {H : Hp} {Q : Bool → Hp → Prop} {P : Bool → Hp → Prop} (h : tOfT (.of X) W (ftThen f g) σ H Q)
    (k : ∀ b H1, tOfT (.of X) W (g b) σ H1 Q → P b H1) : tOfT (.of X) W f σ H P := by
  obtain ⟨ρ, F, rl, h⟩ := h
  unfold ftThen at h
  refine ⟨ρ, F, rl, ?_⟩
  cases ea : f ρ with
  | no => rw [ea] at h; exact h
  | ex c n d ρ' => rw [ea] at h; exact h
  | ok ra =>
    rw [ea] at h
    intro F1 H1 s1
    refine k ra.1 H1 ⟨ra.2, F1, s1.rel, ?_⟩
    have h : (match g ra.1 ra.2 with
      | .ok r => ∀ F' H', Stp (.of X) F H ρ σ F' H' r.2 σ → Q r.1 H'
      | .ex c n d ρ' => ∀ F' H' cls dx, Stp (.of X) F H ρ σ F' H' ρ' σ → ERel (.of X) F' c n d cls dx → W cls dx σ H'
      | .no => False) := h
    cases eb : g ra.1 ra.2 with
    | no => rw [eb] at h; exact h
    | ex c n d ρ' => rw [eb] at h; exact fun F' H' cls dx s e => h F' H' cls dx (s1.trans s) e
    | ok rb => rw [eb] at h; exact fun F' H' s => h F' H' (s1.trans s)
def ftC (b : Bool) : FT := fun ρ => .ok (b, ρ)
theorem ftC_ok {b : Bool} {σ : Sg} {H : Hp} {Q : Bool → Hp → Prop} (h : tOfT (.of X) W (ftC b) σ H Q) : Q b H := by
  obtain ⟨ρ, F, rl, h⟩ := h
  exact h F H (Stp.refl rl)
def ftAnd (f g : FT) : FT := ftThen f fun b => if b = true then g else ftC false
def ftOr (f g : FT) : FT := ftThen f fun b => if b = true then ftC true else g
def ftNot (f : FT) : FT := ftThen f fun b => ftC (!b)
/-- and, or as tests: the whole is not looked at -/
def SW (X : Cx) (W : WX) (e : Expr) (f : FT) : Prop := PW X e (tOfT (.of X) W f)
theorem SW.st {e : Expr} {f : FT} (h : SW X W e f) : ST X W e f := PW.pt h
theorem pw_imp {e : Expr} {t t' : TT} (h : PW X e t) (i : ∀ σ H Q, t' σ H Q → t σ H Q) : PW X e t' := ⟨fun wh pins s σ H Q I q => h.run wh pins s σ H Q I (i σ H Q q)⟩
theorem sw_and1 {a : Expr} {pos : Pos} {f : FT} (h : ST X W a f) : SW X W (.BoolOp .And [a] pos) f := pw_and1 h
theorem sw_or1 {a : Expr} {pos : Pos} {f : FT} (h : ST X W a f) : SW X W (.BoolOp .Or [a] pos) f := pw_or1 h
theorem sw_and {a b : Expr} {rest : List Expr} {pos : Pos} {f g : FT} (h : ST X W a f) (k : SW X W (.BoolOp .And (b :: rest) pos) g) : SW X W (.BoolOp .And (a :: b :: rest) pos) (ftAnd f g) :=
  pw_imp (pw_and h k) fun σ H Q q => ftThen_ok q fun b H1 z => by
    cases b with
    | true => rw [if_pos rfl] at z ⊢; exact z
    | false => rw [if_neg Bool.false_ne_true] at z ⊢; exact ftC_ok z
theorem sw_or {a b : Expr} {rest : List Expr} {pos : Pos} {f g : FT} (h : ST X W a f) (k : SW X W (.BoolOp .Or (b :: rest) pos) g) : SW X W (.BoolOp .Or (a :: b :: rest) pos) (ftOr f g) :=
  pw_imp (pw_or h k) fun σ H Q q => ftThen_ok q fun b H1 z => by
    cases b with
    | true => rw [if_pos rfl] at z ⊢; exact ftC_ok z
    | false => rw [if_neg Bool.false_ne_true] at z ⊢; exact z
theorem st_not {a : Expr} {pos : Pos} {f : FT} (h : ST X W a f) : ST X W (.UnaryOp .Not a pos) (ftNot f) :=
  pt_imp (pt_not h) fun σ H Q q => ftThen_ok q fun b H1 z => ftC_ok z
/-- a test's answer as a value, an expression by a test's answer -/
def evThen (f : FT) (g : Bool → FE) : FE := fun ρ => (f ρ).bind fun r => g r.1 r.2
theorem evThen_ok {f : FT} {g : Bool → FE} {σ : Sg} {H : Hp} {Q : VK} {P : Bool → Hp → Prop} (h : tOf (.of X) W (evThen f g) σ H Q)
    (k : ∀ b H1, tOf (.of X) W (g b) σ H1 Q → P b H1) : tOfT (.of X) W f σ H P := by
  obtain ⟨ρ, F, rl, h⟩ := h
  unfold evThen at h
  refine ⟨ρ, F, rl, ?_⟩
  cases ea : f ρ with
  | no => rw [ea] at h; exact h
  | ex c n d ρ' => rw [ea] at h; exact h
  | ok ra =>
    rw [ea] at h
    intro F1 H1 s1
    refine k ra.1 H1 ⟨ra.2, F1, s1.rel, ?_⟩
    have h : (match g ra.1 ra.2 with
      | .ok r => ∀ x F' H', Stp (.of X) F H ρ σ F' H' r.2 σ → VRel (.of X) H F' H' r.2 σ r.1 x → Q x H'
      | .ex c n d ρ' => ∀ F' H' cls dx, Stp (.of X) F H ρ σ F' H' ρ' σ → ERel (.of X) F' c n d cls dx → W cls dx σ H'
      | .no => False) := h
    cases eb : g ra.1 ra.2 with
    | no => rw [eb] at h; exact h
    | ex c n d ρ' => rw [eb] at h; exact fun F' H' cls dx s e => h F' H' cls dx (s1.trans s) e
    | ok rb => rw [eb] at h; exact fun x F' H' s v => h x F' H' (s1.trans s) (v.back s1)
def evIf (c : FT) (fa fb : FE) : FE := evThen c fun b => if b = true then fa else fb
theorem se_if {c a b : Expr} {pos : Pos} {fc : FT} {fa fb : FE} (hc : ST X W c fc) (ha : SE X W a fa) (hb : SE X W b fb) : SE X W (.IfExp c a b pos) (evIf fc fa fb) :=
  pe_imp (pe_ifExp hc ha hb) fun σ H Q q => evThen_ok q fun b H1 z => by
    cases b with
    | true => rw [if_pos rfl] at z ⊢; exact z
    | false => rw [if_neg Bool.false_ne_true] at z ⊢; exact z
/-- and, or, not as values: all but the last are bools -/
def evAnd (fa fb : FE) : FE := evThen (ftVal fa) fun b => if b = true then fb else evC (.bl false)
def evOr (fa fb : FE) : FE := evThen (ftVal fa) fun b => if b = true then evC (.bl true) else fb
def evNot (fa : FE) : FE := evThen (ftVal fa) fun b => evC (.bl (!b))
theorem evC_ok {d : D} {x : V} {σ : Sg} {H : Hp} {Q : VK} (h : tOf (.of X) W (evC d) σ H Q) (hd : ∀ F, Den (.of X) F d x) : Q x H := by
  obtain ⟨ρ, F, rl, h⟩ := h
  exact h x F H (Stp.refl rl) (hd F)
theorem se_one {a : Expr} {op} {pos : Pos} {f : FE} (h : SE X W a f) : SE X W (.BoolOp op [a] pos) f := pe_one h
theorem se_and {a b : Expr} {rest : List Expr} {pos : Pos} {fa fb : FE} (ha : SE X W a fa) (hb : SE X W (.BoolOp .And (b :: rest) pos) fb) : SE X W (.BoolOp .And (a :: b :: rest) pos) (evAnd fa fb) :=
  pe_imp (pe_and ha hb) fun σ H Q q => tB_of (Q := fun c H1 => if c = true then tOf (.of X) W fb σ H1 Q else Q (.bl false) H1) (evThen_ok q fun b H1 z => by
    cases b with
    | true => rw [if_pos rfl] at z ⊢; exact z
    | false => rw [if_neg Bool.false_ne_true] at z ⊢; exact evC_ok z fun _ => rfl)
theorem se_or {a b : Expr} {rest : List Expr} {pos : Pos} {fa fb : FE} (ha : SE X W a fa) (hb : SE X W (.BoolOp .Or (b :: rest) pos) fb) : SE X W (.BoolOp .Or (a :: b :: rest) pos) (evOr fa fb) :=
  pe_imp (pe_or ha hb) fun σ H Q q => tB_of (Q := fun c H1 => if c = true then Q (.bl true) H1 else tOf (.of X) W fb σ H1 Q) (evThen_ok q fun b H1 z => by
    cases b with
    | true => rw [if_pos rfl] at z ⊢; exact evC_ok z fun _ => rfl
    | false => rw [if_neg Bool.false_ne_true] at z ⊢; exact z)
theorem se_not {a : Expr} {pos : Pos} {fa : FE} (ha : SE X W a fa) : SE X W (.UnaryOp .Not a pos) (evNot fa) :=
  pe_imp (pe_not ha) fun σ H Q q => tB_of (Q := fun c H1 => Q (.bl (!c)) H1) (evThen_ok q fun b H1 z => evC_ok z fun _ => rfl)

/-! ### arguments, displays -/
def faNil : FA := fun ρ => .ok ([], ρ)
def faCons (f : FE) (g : FA) : FA := fun ρ => (f ρ).bind fun r => (g r.2).bind fun q => .ok (r.1.held :: q.1, q.2)
theorem sa_nil : SA X W [] faNil := pa_imp pa_nil fun σ H Q ⟨ρ, F, r, h⟩ => h [] F H (Stp.refl r) rfl
theorem sa_cons {e : Expr} {es : List Expr} {f : FE} {g : FA} (he : SE X W e f) (hr : SA X W es g) (hs : starEach (e :: es) X.env = (false, eval e X.env) :: starEach es X.env := by rfl) : SA X W (e :: es) (faCons f g) :=
  pa_imp (pa_cons he hr hs) fun σ H Q ⟨ρ, F, rl, h⟩ => by
    unfold faCons at h
    refine ⟨ρ, F, rl, ?_⟩
    cases ea : f ρ with
    | no => rw [ea] at h; exact h
    | ex c n d ρ' => rw [ea] at h; exact h
    | ok ra =>
      rw [ea] at h
      intro x F1 H1 s1 v1
      obtain ⟨F2, s12, m2, p2⟩ := held_ok s1 v1
      refine ⟨ra.2, F2, s12.rel, ?_⟩
      have h : (match (g ra.2).bind fun q => R.ok (ra.1.held :: q.1, q.2) with
        | .ok r => ∀ xs F' H', Stp (.of X) F H ρ σ F' H' r.2 σ → PendL (.of X) F' σ r.1 xs → Q xs H'
        | .ex c n d ρ' => ∀ F' H' cls dx, Stp (.of X) F H ρ σ F' H' ρ' σ → ERel (.of X) F' c n d cls dx → W cls dx σ H'
        | .no => False) := h
      cases eb : g ra.2 with
      | no => rw [eb] at h; exact h
      | ex c n d ρ' => rw [eb] at h; exact fun F' H' cls dx s e => h F' H' cls dx (s12.trans s) e
      | ok rb =>
        rw [eb] at h
        exact fun xs F' H' s p => h (x :: xs) F' H' (s12.trans s) ⟨x, xs, rfl, p2.mono s.same, p⟩
/-- all of them stay from now on -/
def frzL (ρ : En) : List Val → Option (List D × En)
  | [] => some ([], ρ)
  | v :: vs => match frz ρ v with
    | some (d, ρ') => (match frzL ρ' vs with
      | some (ds, ρ'') => some (d :: ds, ρ'')
      | none => none)
    | none => none
theorem PendL.frz {T : Tx} {H : Hp} {σ : Sg} : ∀ {vs : List Val} {F : Fz} {ρ ρ' : En} {xs : List V} {ds : List D}, Rel T F H ρ σ → PendL T F σ vs xs → frzL ρ vs = some (ds, ρ') → ∃ F', Stp T F H ρ σ F' H ρ' σ ∧ DenL T F' ds xs
  | [], F, ρ, ρ', xs, ds, r, h, e => by
    cases e
    exact ⟨F, Stp.refl r, h⟩
  | v :: vs, F, ρ, ρ', xs, ds, r, ⟨x, xr, h1, h2, h3⟩, e => by
    unfold frzL at e
    cases e1 : Tr.frz ρ v with
    | none => rw [e1] at e; cases e
    | some q =>
      obtain ⟨d, ρ1⟩ := q
      simp only [e1] at e
      cases e2 : frzL ρ1 vs with
      | none => rw [e2] at e; cases e
      | some q2 =>
        obtain ⟨ds2, ρ2⟩ := q2
        simp only [e2] at e
        cases e
        obtain ⟨F1, s1, d1⟩ := h2.frz r e1
        obtain ⟨F2, s2, d2⟩ := PendL.frz s1.rel (h3.mono s1.same) e2
        exact ⟨F2, s1.trans s2, x, xr, h1, d1.mono s2.same, d2⟩
def dispT (ρ : En) (vs : List Val) : R (Val × En) := match frzL ρ vs with
  | some (ds, ρ') => if ds.length ≤ 16777216 then .ok (.sh (.tup ds), ρ') else .no
  | none => .no
def dispL (ρ : En) (vs : List Val) : R (Val × En) := match frzL ρ vs with
  | some (ds, ρ') => if ds.length ≤ 16777216 then .ok (.fr (.lst ds), ρ') else .no
  | none => .no
def evTup (f : FA) : FE := fun ρ => (f ρ).bind fun r => dispT r.2 r.1
def evLst (f : FA) : FE := fun ρ => (f ρ).bind fun r => dispL r.2 r.1
theorem size_le {n : Nat} (h : n ≤ 16777216) : n ≤ sizeLine := by rw [sizeLine_eq]; exact h
theorem size_lt {n : Nat} (h : n < 16777216) : n < sizeLine := by rw [sizeLine_eq]; exact h
theorem se_tup {es : List Expr} {x1} {pos : Pos} {f : FA} (h : SA X W es f) : SE X W (.Tuple es x1 pos) (evTup f) :=
  pe_imp (pe_tup h) fun σ H Q ⟨ρ, F, rl, h⟩ => by
    unfold evTup at h
    refine ⟨ρ, F, rl, ?_⟩
    cases ea : f ρ with
    | no => rw [ea] at h; exact h
    | ex c n d ρ' => rw [ea] at h; exact h
    | ok ra =>
      rw [ea] at h
      intro xs F1 H1 s1 p1
      have h : (match dispT ra.2 ra.1 with
        | .ok r => ∀ x F' H', Stp (.of X) F H ρ σ F' H' r.2 σ → VRel (.of X) H F' H' r.2 σ r.1 x → Q x H'
        | .ex c n d ρ' => ∀ F' H' cls dx, Stp (.of X) F H ρ σ F' H' ρ' σ → ERel (.of X) F' c n d cls dx → W cls dx σ H'
        | .no => False) := h
      unfold dispT at h
      cases e1 : frzL ra.2 ra.1 with
      | none => rw [e1] at h; exact h.elim
      | some q =>
        obtain ⟨ds, ρ2⟩ := q
        simp only [e1] at h
        by_cases hl : ds.length ≤ 16777216
        · rw [if_pos hl] at h
          obtain ⟨F2, s2, d2⟩ := p1.frz s1.rel e1
          refine ⟨size_le (by rw [← d2.length]; exact hl), fun p hp => ?_⟩
          have n3 : New (.of X) F2 H1 (F2.upd p (.tup xs)) (upd H1 p (.tup xs)) := New.sh s2.rel.sub hp
          exact h _ _ _ ((s1.trans s2).trans (n3.stp s2.rel)) ⟨p, xs, rfl, SqT.of upd_same, d2.mono n3.ff⟩
        · rw [if_neg hl] at h; exact h.elim
theorem se_lst {es : List Expr} {pos : Pos} {f : FA} (h : SA X W es f) : SE X W (.List es pos) (evLst f) :=
  pe_imp (pe_lst h) fun σ H Q ⟨ρ, F, rl, h⟩ => by
    unfold evLst at h
    refine ⟨ρ, F, rl, ?_⟩
    cases ea : f ρ with
    | no => rw [ea] at h; exact h
    | ex c n d ρ' => rw [ea] at h; exact h
    | ok ra =>
      rw [ea] at h
      intro xs F1 H1 s1 p1
      have h : (match dispL ra.2 ra.1 with
        | .ok r => ∀ x F' H', Stp (.of X) F H ρ σ F' H' r.2 σ → VRel (.of X) H F' H' r.2 σ r.1 x → Q x H'
        | .ex c n d ρ' => ∀ F' H' cls dx, Stp (.of X) F H ρ σ F' H' ρ' σ → ERel (.of X) F' c n d cls dx → W cls dx σ H'
        | .no => False) := h
      unfold dispL at h
      cases e1 : frzL ra.2 ra.1 with
      | none => rw [e1] at h; exact h.elim
      | some q =>
        obtain ⟨ds, ρ2⟩ := q
        simp only [e1] at h
        by_cases hl : ds.length ≤ 16777216
        · rw [if_pos hl] at h
          obtain ⟨F2, s2, d2⟩ := p1.frz s1.rel e1
          refine ⟨size_le (by rw [← d2.length]; exact hl), fun p hp => ?_⟩
          have n3 : New (.of X) F2 H1 F2 (upd H1 p (.lst xs)) := New.fr s2.rel.sub hp
          have nr : NRel (.of X) H1 F2 (upd H1 p (.lst xs)) (.fr (.lst ds)) (.ref p) := ⟨p, rfl, s2.rel.sub.free hp, hp, xs, upd_same, d2⟩
          exact h _ _ _ ((s1.trans s2).trans (n3.stp s2.rel)) ((nr.vrel s2.rel n3).back (s1.trans s2))
        · rw [if_neg hl] at h; exact h.elim
end
end Tr
/-! Tr, part C: statements, stores, loops, comprehensions. -/
namespace Tr
open PySem PySem.Spec PyProof.Rows L2
section
variable {X : Cx} {W : WX}

/-! ### blocks -/
def fsNil : FS := fun ρ => .ok (.nx, ρ)
def fsSeq (f g : FS) : FS := fun ρ => (f ρ).bind fun r => match r.1 with
  | .nx => g r.2
  | fl => .ok (fl, r.2)
theorem flOk_back {T : Tx} {F : Fz} {H : Hp} {F1 : Fz} {H1 : Hp} {F' : Fz} {H' : Hp} {ρ ρ1 ρ' : En} {σ σ1 σ' : Sg} {D : Ends} {fl : Fl} (s : Stp T F H ρ σ F1 H1 ρ1 σ1) (h : flOk T H F' H' ρ' σ' D fl) : flOk T H1 F' H' ρ' σ' D fl := by
  cases fl with
  | nx => exact h
  | bk => exact h
  | ct => exact h
  | rt v => exact fun x q => h x (q.back s)
theorem sss_nil : SSs X W [] fsNil := pss_imp pss_nil fun D σ H ⟨ρ, F, r, h⟩ => h σ F H (Stp.refl r)
theorem fsSeq_ok {f g : FS} {D : Ends} {σ : Sg} {H : Hp} (h : tOfS (.of X) W (fsSeq f g) D σ H) : tOfS (.of X) W f { D with nx := tOfS (.of X) W g D } σ H := by
  obtain ⟨ρ, F, rl, h⟩ := h
  unfold fsSeq at h
  refine ⟨ρ, F, rl, ?_⟩
  cases ea : f ρ with
  | no => rw [ea] at h; exact h
  | ex c n d ρ' => rw [ea] at h; exact h
  | ok ra =>
    obtain ⟨fl, ρ1⟩ := ra
    rw [ea] at h
    intro σ1 F1 H1 s1
    cases fl with
    | nx =>
      refine ⟨ρ1, F1, s1.rel, ?_⟩
      have h : (match g ρ1 with
        | .ok r => ∀ σ' F' H', Stp (.of X) F H ρ σ F' H' r.2 σ' → flOk (.of X) H F' H' r.2 σ' D r.1
        | .ex c n d ρ' => ∀ σ' F' H' cls dx, Stp (.of X) F H ρ σ F' H' ρ' σ' → ERel (.of X) F' c n d cls dx → W cls dx σ' H'
        | .no => False) := h
      cases eb : g ρ1 with
      | no => rw [eb] at h; exact h
      | ex c n d ρ' => rw [eb] at h; exact fun σ' F' H' cls dx s e => h σ' F' H' cls dx (s1.trans s) e
      | ok rb => rw [eb] at h; exact fun σ' F' H' s => flOk_back s1 (h σ' F' H' (s1.trans s))
    | bk => exact h σ1 F1 H1 s1
    | ct => exact h σ1 F1 H1 s1
    | rt v => exact h σ1 F1 H1 s1
theorem sss_cons {st : Stmt} {rest : List Stmt} {f g : FS} (h1 : SS X W st f) (h2 : SSs X W rest g) : SSs X W (st :: rest) (fsSeq f g) := pss_imp (pss_cons h1 h2) fun D σ H h => fsSeq_ok h
theorem sss_one {st : Stmt} {f : FS} (h1 : SS X W st f) : SSs X W [st] f := pss_one h1
/-- a statement that is not come to -/
def fsNever : FS := fun _ => .no
theorem ss_never {st : Stmt} : SS X W st fsNever := ps_imp ps_never fun D σ H ⟨ρ, F, r, h⟩ => h
theorem ss_pass {pos : Pos} : SS X W (.Pass pos) fsNil := ps_imp ps_pass fun D σ H ⟨ρ, F, r, h⟩ => h σ F H (Stp.refl r)
/-- an expression, and what becomes of its value -/
def fsVal (f : FE) (k : Val → En → R (Fl × En)) : FS := fun ρ => (f ρ).bind fun r => k r.1 r.2
theorem fsVal_ok {f : FE} {k : Val → En → R (Fl × En)} {D : Ends} {σ : Sg} {H : Hp} {Q : VK} (h : tOfS (.of X) W (fsVal f k) D σ H)
    (hk : ∀ (ρ : En) (F : Fz) (v : Val) (ρ1 : En) (x : V) (F1 : Fz) (H1 : Hp), Stp (.of X) F H ρ σ F1 H1 ρ1 σ → VRel (.of X) H F1 H1 ρ1 σ v x → (match k v ρ1 with
      | .ok r => ∀ σ' F' H', Stp (.of X) F H ρ σ F' H' r.2 σ' → flOk (.of X) H F' H' r.2 σ' D r.1
      | .ex c n d ρ' => ∀ σ' F' H' cls dx, Stp (.of X) F H ρ σ F' H' ρ' σ' → ERel (.of X) F' c n d cls dx → W cls dx σ' H'
      | .no => False) → Q x H1) : tOf (.of X) W f σ H Q := by
  obtain ⟨ρ, F, rl, h⟩ := h
  unfold fsVal at h
  refine ⟨ρ, F, rl, ?_⟩
  cases ea : f ρ with
  | no => rw [ea] at h; exact h
  | ex c n d ρ' => rw [ea] at h; exact fun F' H' cls dx s e => h σ F' H' cls dx s e
  | ok ra =>
    rw [ea] at h
    exact fun x F1 H1 s1 v1 => hk ρ F ra.1 ra.2 x F1 H1 s1 v1 h
def fsExpr (f : FE) : FS := fsVal f fun _ ρ => .ok (.nx, ρ)
theorem ss_expr {e : Expr} {pos : Pos} {f : FE} (he : SE X W e f) (hs : swapsWith e none pos.line X.env = pure false := by rfl) : SS X W (.Expr e pos) (fsExpr f) :=
  ps_imp (ps_expr he hs) fun D σ H h => fsVal_ok h fun ρ F v ρ1 x F1 H1 s1 v1 q => q σ F1 H1 s1
def fsRet (f : FE) : FS := fsVal f fun v ρ => .ok (.rt v, ρ)
theorem ss_ret {e : Expr} {pos : Pos} {f : FE} (he : SE X W e f) : SS X W (.Return (some e) pos) (fsRet f) :=
  ps_imp (ps_ret he) fun D σ H h => fsVal_ok h fun ρ F v ρ1 x F1 H1 s1 v1 q => q σ F1 H1 s1 x v1
def fsRetN : FS := fun ρ => .ok (.rt (.sh .non), ρ)
theorem ss_retN {pos : Pos} : SS X W (.Return none pos) fsRetN := ps_imp ps_retN fun D σ H ⟨ρ, F, r, h⟩ => h σ F H (Stp.refl r) .non rfl
def fsIf (c : FT) (f g : FS) : FS := fun ρ => (c ρ).bind fun r => if r.1 = true then f r.2 else g r.2
theorem ss_if {c : Expr} {a b : List Stmt} {pos : Pos} {fc : FT} {f g : FS} (hc : ST X W c fc) (ha : SSs X W a f) (hb : SSs X W b g) : SS X W (.If c a b pos) (fsIf fc f g) :=
  ps_imp (ps_if hc ha hb) fun D σ H ⟨ρ, F, rl, h⟩ => by
    unfold fsIf at h
    refine ⟨ρ, F, rl, ?_⟩
    cases ea : fc ρ with
    | no => rw [ea] at h; exact h
    | ex c n d ρ' => rw [ea] at h; exact fun F' H' cls dx s e => h σ F' H' cls dx s e
    | ok ra =>
      obtain ⟨b, ρ1⟩ := ra
      rw [ea] at h
      intro F1 H1 s1
      have h : (match (if b = true then f ρ1 else g ρ1) with
        | .ok r => ∀ σ' F' H', Stp (.of X) F H ρ σ F' H' r.2 σ' → flOk (.of X) H F' H' r.2 σ' D r.1
        | .ex c n d ρ' => ∀ σ' F' H' cls dx, Stp (.of X) F H ρ σ F' H' ρ' σ' → ERel (.of X) F' c n d cls dx → W cls dx σ' H'
        | .no => False) := h
      have go : ∀ k : FS, (match k ρ1 with
        | .ok r => ∀ σ' F' H', Stp (.of X) F H ρ σ F' H' r.2 σ' → flOk (.of X) H F' H' r.2 σ' D r.1
        | .ex c n d ρ' => ∀ σ' F' H' cls dx, Stp (.of X) F H ρ σ F' H' ρ' σ' → ERel (.of X) F' c n d cls dx → W cls dx σ' H'
        | .no => False) → tOfS (.of X) W k D σ H1 := fun k h => by
        refine ⟨ρ1, F1, s1.rel, ?_⟩
        cases eb : k ρ1 with
        | no => rw [eb] at h; exact h
        | ex c n d ρ' => rw [eb] at h; exact fun σ' F' H' cls dx s e => h σ' F' H' cls dx (s1.trans s) e
        | ok rb => rw [eb] at h; exact fun σ' F' H' s => flOk_back s1 (h σ' F' H' (s1.trans s))
      cases b with
      | true => rw [if_pos rfl] at h; show (if true = true then _ else _); rw [if_pos rfl]; exact go f h
      | false => rw [if_neg Bool.false_ne_true] at h; show (if false = true then _ else _); rw [if_neg Bool.false_ne_true]; exact go g h

/-! ### stores -/
theorem set_get_self {α : Type} {l : List α} {i : Nat} {x y : α} (h : (l.set i x)[i]? = some y) : x = y ∧ i < l.length := by
  have hi : i < (l.set i x).length := (List.getElem?_eq_some_iff.mp h).1
  rw [List.length_set] at hi
  rw [List.getElem?_set_self hi] at h
  exact ⟨Option.some.inj h, hi⟩
theorem sg_set_self {σ : Sg} {ρ : En} {i : Nat} {x : Option V} (hl : ρ.s.length = σ.length) (h : i < ρ.s.length) : (σ.set i x)[i]? = some x := by
  rw [List.getElem?_set_self (by rw [← hl]; exact h)]
theorem mu_set {ρ : En} {i j : Nat} {s : Slot} {d : D} (m : MuAt (ρ.set i s) j d) : (i = j ∧ s = .ow d ∧ i < ρ.s.length) ∨ (i ≠ j ∧ MuAt ρ j d) := by
  by_cases w : i = j
  · subst w
    obtain ⟨e, hi⟩ := set_get_self m
    exact .inl ⟨rfl, e, hi⟩
  · exact .inr ⟨w, mu_set_ne w m⟩
theorem store_sh {T : Tx} {F : Fz} {H : Hp} {ρ : En} {σ : Sg} {i : Nat} {d : D} {x : V} (r : Rel T F H ρ σ) (hd : Den T F d x) :
    Stp T F H ρ σ F H (ρ.set i (.sh d)) (σ.set i (some x)) where
  rel := by
    refine ⟨by rw [set_len, List.length_set]; exact r.len, r.sub, fun j e q => ?_, fun j e q => ?_, fun j k e e' c q q' s s' => ?_, r.lv, fun j e c q s => ?_⟩
    · by_cases w : i = j
      · subst w
        obtain ⟨z, hi⟩ := set_get_self q
        cases z
        exact ⟨x, sg_set_self r.len hi, hd⟩
      · rw [get_set_ne w] at q
        rw [List.getElem?_set_ne w]
        exact r.sh j e q
    · rcases mu_set q with ⟨_, z, _⟩ | ⟨w, q⟩
      · cases z
      · rw [List.getElem?_set_ne w]
        exact r.ow j e q
    · rcases mu_set q with ⟨_, z, _⟩ | ⟨w, q⟩
      · cases z
      · rcases mu_set q' with ⟨_, z, _⟩ | ⟨w', q'⟩
        · cases z
        · rw [List.getElem?_set_ne w] at s
          rw [List.getElem?_set_ne w'] at s'
          exact r.dis j k e e' c q q' s s'
    · rcases mu_set q with ⟨_, z, _⟩ | ⟨w, q⟩
      · cases z
      · rw [List.getElem?_set_ne w] at s
        exact r.lo j e c q s
  same := Ext.refl F
  keep := fun _ _ h _ => h
  own := fun b z => by
    rcases z with ⟨j, e, q, s⟩ | z
    · rcases mu_set q with ⟨_, z, _⟩ | ⟨w, q⟩
      · cases z
      · rw [List.getElem?_set_ne w] at s
        exact .inl (.inl ⟨j, e, q, s⟩)
    · exact .inl (.inr z)
  dom := fun _ o h => ⟨o, h⟩
  fz := fun _ _ _ _ _ => rfl
theorem store_ow {T : Tx} {F F0 : Fz} {H H0 : Hp} {ρ ρ0 : En} {σ σ0 : Sg} {i : Nat} {d : D} {a : Addr} (s0 : Stp T F0 H0 ρ0 σ0 F H ρ σ) (hn : F a = none) (h0 : H0 a = none) (no : ¬ Owned F ρ σ a) (ho : OwnAt T F H d a) :
    Stp T F0 H0 ρ0 σ0 F H (ρ.set i (.ow d)) (σ.set i (some (.ref a))) where
  rel := by
    have r := s0.rel
    refine ⟨by rw [set_len, List.length_set]; exact r.len, r.sub, fun j e q => ?_, fun j e q => ?_, fun j k e e' c q q' s s' => ?_, r.lv, fun j e c q s => ?_⟩
    · by_cases w : i = j
      · subst w
        obtain ⟨z, hi⟩ := set_get_self q
        cases z
      · rw [get_set_ne w] at q
        rw [List.getElem?_set_ne w]
        exact r.sh j e q
    · rcases mu_set q with ⟨w, z, hi⟩ | ⟨w, q⟩
      · subst w
        cases z
        exact ⟨a, sg_set_self r.len hi, hn, ho⟩
      · rw [List.getElem?_set_ne w]
        exact r.ow j e q
    · rcases mu_set q with ⟨w, z, hi⟩ | ⟨w, q⟩
      · rcases mu_set q' with ⟨w', z', _⟩ | ⟨w', q'⟩
        · exact w.symm.trans w'
        · subst w
          rw [sg_set_self r.len hi] at s
          cases s
          rw [List.getElem?_set_ne w'] at s'
          exact (no (.inl ⟨k, e', q', s'⟩)).elim
      · rcases mu_set q' with ⟨w', z', hi⟩ | ⟨w', q'⟩
        · subst w'
          rw [sg_set_self r.len hi] at s'
          cases s'
          rw [List.getElem?_set_ne w] at s
          exact (no (.inl ⟨j, e, q, s⟩)).elim
        · rw [List.getElem?_set_ne w] at s
          rw [List.getElem?_set_ne w'] at s'
          exact r.dis j k e e' c q q' s s'
    · rcases mu_set q with ⟨w, z, hi⟩ | ⟨w, q⟩
      · subst w
        rw [sg_set_self r.len hi] at s
        cases s
        exact fun z => no (.inr z)
      · rw [List.getElem?_set_ne w] at s
        exact r.lo j e c q s
  same := s0.same
  keep := s0.keep
  own := fun b z => by
    rcases z with ⟨j, e, q, s⟩ | z
    · rcases mu_set q with ⟨w, z, hi⟩ | ⟨w, q⟩
      · subst w
        rw [sg_set_self s0.rel.len hi] at s
        cases s
        exact .inr h0
      · rw [List.getElem?_set_ne w] at s
        exact s0.own b (.inl ⟨j, e, q, s⟩)
    · exact s0.own b (.inr z)
  dom := s0.dom
  fz := s0.fz
/-- a value put into a slot -/
def store (ρ : En) (i : Nat) (v : Val) : Option En := match v with
    | .sh d => some (ρ.set i (.sh d))
    | .fr d => some (ρ.set i (.ow d))
    | .rf j => (match frz ρ (.rf j) with
      | some (d, ρ') => some (ρ'.set i (.sh d))
      | none => none)
theorem store_ok' {T : Tx} {F0 F : Fz} {H0 H : Hp} {ρ0 ρ ρ' : En} {σ0 σ : Sg} {i : Nat} {v : Val} {x : V} (s : Stp T F0 H0 ρ0 σ0 F H ρ σ) (h : VRel T H0 F H ρ σ v x) (e : store ρ i v = some ρ') :
    ∃ F', Stp T F0 H0 ρ0 σ0 F' H ρ' (σ.set i (some x)) := by
  unfold store at e
  cases v with
  | sh d => cases e; exact ⟨F, s.trans (store_sh s.rel h)⟩
  | fr d =>
    cases e
    obtain ⟨a, rfl, h1, h2, h3, h4⟩ := h
    exact ⟨F, store_ow s h1 h2 h3 h4⟩
  | rf j =>
    have h : Pend T F σ (.rf j) x := h.1
    cases q : frz ρ (.rf j) with
    | none => simp only [q] at e; cases e
    | some z =>
      obtain ⟨d, ρ1⟩ := z
      simp only [q] at e
      cases e
      obtain ⟨F1, s1, d1⟩ := h.frz s.rel q
      exact ⟨F1, (s.trans s1).trans (store_sh s1.rel d1)⟩
/-- a new value made live -/
def liven (r : Val × En) : R (Val × En) := match r.1 with
  | .fr d => .ok (.sh (.ref r.2.l.length), r.2.push d)
  | .sh d => .ok (.sh d, r.2)
  | .rf _ => .no
def evLive (f : FE) : FE := fun ρ => (f ρ).bind liven
theorem se_live {e : Expr} {f : FE} (h : SE X W e f) : SE X W e (evLive f) := pe_imp h fun σ H Q ⟨ρ, F, rl, h⟩ => by
  unfold evLive at h
  refine ⟨ρ, F, rl, ?_⟩
  cases ea : f ρ with
  | no => rw [ea] at h; exact h
  | ex c n d ρ' => rw [ea] at h; exact h
  | ok ra =>
    obtain ⟨v, ρ1⟩ := ra
    rw [ea] at h
    intro x F1 H1 s1 v1
    cases v with
    | sh d => exact h x F1 H1 s1 v1
    | rf i => exact h.elim
    | fr d =>
      obtain ⟨a, rfl, h1, h2, h3, h4⟩ := v1
      obtain ⟨s2, m2, d2⟩ := s1.alive h1 h2 h3 h4
      exact h _ _ H1 s2 d2
def fsSet (i : Nat) (f : FE) : FS := fsVal f fun v ρ => match store ρ i v with
  | some ρ' => .ok (.nx, ρ')
  | none => .no
theorem ss_set {i : Nat} {x : Str} {e : Expr} {f : FE} {pos pos' : Pos} (hN : X.N.Nodup) (he : SE X W e f) (hi : X.N[i]? = some x := by rfl) (hx : Loc X.env.scope x := by first | exact Or.inl rfl | exact Or.inr rfl)
    (hs : swapsWith e (some (.Name x pos')) pos.line X.env = pure false := by rfl) (hf : X.fn x = true ∨ X.env.scope.names.lookup x = some .local := by first | exact .inl rfl | exact .inr rfl) :
    SS X W (.Assign [.Name x pos'] e pos) (fsSet i f) :=
  ps_imp (ps_set hN hi hx he hs hf) fun D σ H h => fsVal_ok h fun ρ F v ρ1 x F1 H1 s1 v1 q => by
    cases e1 : store ρ1 i v with
    | none => simp only [e1] at q
    | some ρ2 =>
      simp only [e1] at q
      obtain ⟨F2, s2⟩ := store_ok' s1 v1 e1
      exact q _ F2 H1 s2

/-! ### targets -/
inductive Pat where
  | nm (i : Nat) | tp (ps : List Pat)
mutual
def bindP : Pat → D → En → Option En
  | .nm i, d, ρ => some (ρ.set i (.sh d))
  | .tp ps, d, ρ => match d with
    | .tup ds => bindPs ps ds ρ
    | _ => none
def bindPs : List Pat → List D → En → Option En
  | [], ds, ρ => match ds with
    | [] => some ρ
    | _ => none
  | p :: ps, ds, ρ => match ds with
    | [] => none
    | d :: r => match bindP p d ρ with
      | some ρ' => bindPs ps r ρ'
      | none => none
end
mutual
def Pat.slots : Pat → List Nat
  | .nm i => [i]
  | .tp ps => slotsL ps
def slotsL : List Pat → List Nat
  | [] => []
  | p :: ps => p.slots ++ slotsL ps
end
/-- what a target leaves of the slots -/
structure Bnd (T : Tx) (F : Fz) (H : Hp) (ρ : En) (σ : Sg) (ρ' : En) (σ' : Sg) (vs : List Nat) : Prop where
  stp : Stp T F H ρ σ F H ρ' σ'
  oth : ∀ j : Nat, j ∉ vs → σ'[j]? = σ[j]?
  len : σ'.length = σ.length
def gOf (T : Tx) (p : Pat) : TG := fun v σ H Q => ∃ ρ F d ρ', Rel T F H ρ σ ∧ Den T F d v ∧ bindP p d ρ = some ρ' ∧ ∀ σ', Bnd T F H ρ σ ρ' σ' p.slots → Q σ' H
def gOfs (T : Tx) (ps : List Pat) : TGs := fun vs σ H Q => ∃ ρ F ds ρ', Rel T F H ρ σ ∧ DenL T F ds vs ∧ bindPs ps ds ρ = some ρ' ∧ ∀ σ', Bnd T F H ρ σ ρ' σ' (slotsL ps) → Q σ' H
def SG (X : Cx) (tg : Expr) (p : Pat) : Prop := PG X tg (gOf (.of X) p)
def SGs (X : Cx) (tgs : List Expr) (ps : List Pat) : Prop := PGs X tgs (gOfs (.of X) ps)
theorem pg_imp {tg : Expr} {t t' : TG} (h : PG X tg t) (i : ∀ v σ H Q, t' v σ H Q → t v σ H Q) : PG X tg t' := ⟨fun pins s σ H v u Q I r q => h.run pins s σ H v u Q I r (i v σ H Q q)⟩
theorem pgs_imp {tg : List Expr} {t t' : TGs} (h : PGs X tg t) (i : ∀ v σ H Q, t' v σ H Q → t v σ H Q) : PGs X tg t' := ⟨fun pins s σ H v u Q I r q => h.run pins s σ H v u Q I r (i v σ H Q q)⟩
theorem sg_nm {i : Nat} {x : Str} {pos : Pos} (hN : X.N.Nodup) (hi : X.N[i]? = some x := by rfl) (hx : Loc X.env.scope x := by first | exact Or.inl rfl | exact Or.inr rfl)
    (hf : X.fn x = true ∨ X.env.scope.names.lookup x = some .local := by first | exact .inl rfl | exact .inr rfl) : SG X (.Name x pos) (.nm i) :=
  pg_imp (pg_name hN hi hx hf) fun v σ H Q ⟨ρ, F, d, ρ', r, hd, hb, h⟩ => by
    simp only [bindP] at hb
    cases hb
    refine h _ ⟨store_sh r hd, fun j hj => ?_, List.length_set⟩
    exact List.getElem?_set_ne fun e => hj (by simp [Pat.slots, e])
theorem sgs_nil : SGs X [] [] := pgs_imp pgs_nil fun v σ H Q ⟨ρ, F, ds, ρ', r, hd, hb, h⟩ => by
  simp only [bindPs] at hb
  cases ds with
  | nil =>
    cases hb
    exact ⟨hd, h σ ⟨Stp.refl r, fun _ _ => rfl, rfl⟩⟩
  | cons d ds => cases hb
theorem sgs_cons {e : Expr} {es : List Expr} {p : Pat} {ps : List Pat} (h1 : SG X e p) (h2 : SGs X es ps) (hs : (assignEach (e :: es) X.env).map (·.2) = assign e X.env :: (assignEach es X.env).map (·.2) := by rfl) : SGs X (e :: es) (p :: ps) :=
  pgs_imp (pgs_cons h1 h2 hs) fun v σ H Q ⟨ρ, F, ds, ρ', r, hd, hb, h⟩ => by
    simp only [bindPs] at hb
    cases ds with
    | nil => cases hb
    | cons d ds =>
      obtain ⟨x, xr, h1, h2, h3⟩ := hd
      simp only at hb
      cases e1 : bindP p d ρ with
      | none => simp only [e1] at hb; cases hb
      | some ρ1 =>
        simp only [e1] at hb
        refine ⟨x, xr, h1, ρ, F, d, ρ1, r, h2, e1, fun σ1 b1 => ⟨ρ1, F, ds, ρ', b1.stp.rel, h3, hb, fun σ2 b2 => h σ2 ⟨b1.stp.trans b2.stp, fun j hj => ?_, b2.len.trans b1.len⟩⟩⟩
        simp only [slotsL, List.mem_append, not_or] at hj
        exact (b2.oth j hj.2).trans (b1.oth j hj.1)
theorem sg_tp {es : List Expr} {k : Nat} {ps : List Pat} {pos : Pos} (hc : X.calm = true) (h : SGs X es ps) (hl : ps.length = es.length := by rfl)
    (hn : (assignEach es X.env).length = es.length := by rfl) (hst : (assignEach es X.env).findIdx? (·.1) = none := by rfl) : SG X (.Tuple es k pos) (.tp ps) :=
  pg_imp (pg_tup hc h hn hst) fun v σ H Q ⟨ρ, F, d, ρ', r, hd, hb, h⟩ => by
    simp only [bindP] at hb
    cases d with
    | tup ds =>
      obtain ⟨a, xs, h1, h2, h3⟩ := hd
      have hlen : ∀ (ps : List Pat) (ds : List D) (ρ ρ' : En), bindPs ps ds ρ = some ρ' → ps.length = ds.length := by
        intro ps
        induction ps with
        | nil => intro ds ρ ρ' q; cases ds with
          | nil => rfl
          | cons _ _ => simp [bindPs] at q
        | cons p ps ih => intro ds ρ ρ' q; cases ds with
          | nil => simp [bindPs] at q
          | cons d ds =>
            simp only [bindPs] at q
            cases e1 : bindP p d ρ with
            | none => simp only [e1] at q; cases q
            | some ρ1 => simp only [e1] at q; rw [List.length_cons, List.length_cons, ih ds ρ1 ρ' q]
      exact ⟨a, xs, h1, Same.sqT r.sub h2, by rw [← h3.length, ← hlen ps ds ρ ρ' hb]; exact hl, ρ, F, ds, ρ', r, h3, hb, fun σ' b => h σ' ⟨b.stp, b.oth, b.len⟩⟩
    | _ => cases hb
/-- target = value, the target a tuple of names -/
def fsPat (p : Pat) (f : FE) : FS := fsVal f fun v ρ => match frz ρ v with
  | some (d, ρ1) => (match bindP p d ρ1 with
    | some ρ2 => .ok (.nx, ρ2)
    | none => .no)
  | none => .no
theorem frz_val {T : Tx} {F : Fz} {H : Hp} {F' : Fz} {H' : Hp} {ρ ρ' ρ'' : En} {σ σ' : Sg} {v : Val} {x : V} {d : D} (s : Stp T F H ρ σ F' H' ρ' σ') (h : VRel T H F' H' ρ' σ' v x) (e : frz ρ' v = some (d, ρ'')) :
    ∃ F'', Stp T F H ρ σ F'' H' ρ'' σ' ∧ Ext F' F'' ∧ Den T F'' d x := by
  obtain ⟨F2, s2, m2, p2⟩ := held_ok s h
  obtain ⟨F3, s3, d3⟩ := p2.frz s2.rel (by rw [frz_held]; exact e)
  exact ⟨F3, s2.trans s3, m2.trans s3.same, d3⟩
theorem ss_pat {tg e : Expr} {p : Pat} {f : FE} {pos : Pos} (he : SE X W e f) (hg : SG X tg p) (hs : swapsWithSole [tg] e pos.line X.env = pure false := by rfl) (hw : swappedStores [tg] e X.env = pure none := by rfl)
    (h1 : (assignEach [tg] X.env).map (·.2) = [assign tg X.env] := by rfl) : SS X W (.Assign [tg] e pos) (fsPat p f) :=
  ps_imp (ps_asg he hg hs hw h1) fun D σ H h => fsVal_ok h fun ρ F v ρ1 x F1 H1 s1 v1 q => by
    cases e1 : frz ρ1 v with
    | none => simp only [e1] at q
    | some z =>
      obtain ⟨d, ρ2⟩ := z
      simp only [e1] at q
      cases e2 : bindP p d ρ2 with
      | none => simp only [e2] at q
      | some ρ3 =>
        simp only [e2] at q
        obtain ⟨F2, s2, _, d2⟩ := frz_val s1 v1 e1
        exact ⟨ρ2, F2, d, ρ3, s2.rel, d2, e2, fun σ' b => q σ' F2 H1 (s2.trans b.stp)⟩

/-! ### an object changed -/
/-- what a value's object holds, if it may be changed -/
def muV (ρ : En) : Val → Option D
  | .rf i => (match ρ.s[i]? with
    | some (.ow d) => some d
    | _ => none)
  | .sh (.ref n) => ρ.l[n]?
  | _ => none
def setMu (ρ : En) (v : Val) (d : D) : En := match v with
  | .rf i => ρ.set i (.ow d)
  | .sh (.ref n) => ⟨ρ.s, ρ.l.set n d⟩
  | _ => ρ
theorem muV_at {T : Tx} {F : Fz} {H : Hp} {ρ : En} {σ : Sg} {v : Val} {x : V} {d : D} (r : Rel T F H ρ σ) (h : Pend T F σ v x) (e : muV ρ v = some d) : ∃ a, x = .ref a ∧ F a = none ∧ OwnAt T F H d a ∧ Owned F ρ σ a := by
  cases v with
  | fr d => cases e
  | rf i =>
    have h : σ[i]? = some (some x) := h
    unfold muV at e
    simp only at e
    cases q : ρ.s[i]? with
    | none => simp only [q] at e; cases e
    | some s =>
      cases s with
      | un => simp only [q] at e; cases e
      | sh d0 => simp only [q] at e; cases e
      | ow d0 =>
        simp only [q] at e
        cases e
        obtain ⟨a, h1, h2, h3⟩ := r.ow i _ q
        rw [h] at h1; cases h1
        exact ⟨a, rfl, h2, h3, .inl ⟨i, _, q, h⟩⟩
  | sh d0 =>
    cases d0 with
    | ref n =>
      obtain ⟨a, rfl, h2⟩ := h
      have e : ρ.l[n]? = some d := e
      obtain ⟨h3, h4⟩ := r.lv.ok n d a e h2
      exact ⟨a, rfl, h3, h4, .inr (List.mem_of_getElem? h2)⟩
    | _ => cases e
theorem mutate {T : Tx} {F : Fz} {H : Hp} {ρ : En} {σ : Sg} {v : Val} {d d' : D} {a : Addr} {o : HO} (r : Rel T F H ρ σ) (hp : Pend T F σ v (.ref a)) (hm : muV ρ v = some d) (ho : OwnAt T F (upd H a o) d' a) :
    Stp T F H ρ σ F (upd H a o) (setMu ρ v d') σ := by
  obtain ⟨b, eb, hn, od, own⟩ := muV_at r hp hm
  cases eb
  obtain ⟨ob, hob, nob⟩ := od.some
  have no : ∀ c, H a ≠ some (.own c) := fun c z => by rw [hob] at z; exact nob c (Option.some.inj z)
  have sub : Same F.hp (upd H a o) := fun c u q => by
    rw [upd_ne (fun z => by rw [z, hn] at q; cases q)]
    exact r.sub c u q
  have oth : ∀ {c : Addr} {e : D}, c ≠ a → OwnAt T F H e c → OwnAt T F (upd H a o) e c := fun {c e} hne s3 =>
    s3.mono (Ext.refl F) (upd_ne hne) fun f z => by rw [upd_ne (fun z' => no c (by rw [← z']; exact z))]; exact z
  have kp : ∀ b o', H b = some o' → ¬ Owned F ρ σ b → upd H a o b = some o' := fun b o' q n => by
    rw [upd_ne (fun z => n (by rw [z]; exact own))]
    exact q
  have dm : ∀ b o', H b = some o' → ∃ o'', upd H a o b = some o'' := fun b u q => by
    by_cases w : b = a
    · subst w; exact ⟨_, upd_same⟩
    · exact ⟨u, by rw [upd_ne w]; exact q⟩
  cases v with
  | fr _ => cases hm
  | rf i =>
    have ha : σ[i]? = some (some (.ref a)) := hp
    have hs : MuAt ρ i d := by
      unfold muV at hm
      simp only at hm
      split at hm
      · rename_i q; cases hm; exact q
      · cases hm
    show Stp T F H ρ σ F (upd H a o) (ρ.set i (.ow d')) σ
    have mm : ∀ j e, MuAt (ρ.set i (.ow d')) j e → ∃ e', MuAt ρ j e' := fun j e m => by
      rcases mu_set m with ⟨w, _, _⟩ | ⟨_, m⟩
      · exact ⟨d, by rw [← w]; exact hs⟩
      · exact ⟨e, m⟩
    refine ⟨⟨by rw [set_len]; exact r.len, sub, fun j e q => ?_, fun j e q => ?_, fun j k e e' c q q' s s' => ?_, ?_, fun j e c q s => ?_⟩, Ext.refl F, kp, fun c z => .inl ?_, dm, fun _ _ _ _ _ => rfl⟩
    · by_cases w : i = j
      · subst w
        obtain ⟨z, _⟩ := set_get_self q
        cases z
      · rw [get_set_ne w] at q
        exact r.sh j e q
    · rcases mu_set q with ⟨w, z, hi⟩ | ⟨w, q⟩
      · subst w
        cases z
        exact ⟨a, ha, hn, ho⟩
      · obtain ⟨c, s1, s2, s3⟩ := r.ow j e q
        have hne : c ≠ a := fun z => w (r.dis i j d e a hs q ha (by rw [s1, z]))
        exact ⟨c, s1, s2, oth hne s3⟩
    · obtain ⟨f, q⟩ := mm j e q
      obtain ⟨f', q'⟩ := mm k e' q'
      exact r.dis j k f f' c q q' s s'
    · refine r.lv.keep (Ext.refl F) rfl (fun c hc => ?_) (fun c hc => upd_ne fun z => r.lo i d a hs ha (by rw [← z]; exact hc)) fun c hc b z => ?_
      · obtain ⟨_, _, _, _, hn', _⟩ := r.lv.mem hc
        exact hn'
      · rw [upd_ne (fun z' => no c (by rw [← z']; exact z))]; exact z
    · obtain ⟨f, q⟩ := mm j e q
      exact r.lo j f c q s
    · rcases z with ⟨j, e, q, s⟩ | z
      · obtain ⟨f, q⟩ := mm j e q
        exact .inl ⟨j, f, q, s⟩
      · exact .inr z
  | sh d0 =>
    cases d0 with
    | ref n =>
      obtain ⟨a', ea, h2⟩ := hp
      cases ea
      have hl : ρ.l[n]? = some d := hm
      show Stp T F H ρ σ F (upd H a o) ⟨ρ.s, ρ.l.set n d'⟩ σ
      have ma : a ∈ F.as := List.mem_of_getElem? h2
      refine ⟨⟨r.len, sub, r.sh, fun j e q => ?_, r.dis, ⟨by rw [List.length_set]; exact r.lv.len, fun m e c q1 q2 => ?_, r.lv.dis⟩, r.lo⟩, Ext.refl F, kp, fun c z => .inl z, dm, fun _ _ _ _ _ => rfl⟩
      · obtain ⟨c, s1, s2, s3⟩ := r.ow j e q
        exact ⟨c, s1, s2, oth (fun z => r.lo j e c q s1 (by rw [z]; exact ma)) s3⟩
      · have q1 : (ρ.l.set n d')[m]? = some e := q1
        by_cases w : n = m
        · subst w
          obtain ⟨z, _⟩ := set_get_self q1
          subst z
          rw [h2] at q2
          cases q2
          exact ⟨hn, ho⟩
        · rw [List.getElem?_set_ne w] at q1
          obtain ⟨z1, z2⟩ := r.lv.ok m e c q1 q2
          exact ⟨z1, oth (fun z => w (r.lv.num h2 (by rw [← z]; exact q2))) z2⟩
    | _ => cases hm
/-- the target of a change: an expression whose object may be changed -/
theorem pend_of {T : Tx} {F F' : Fz} {H H' : Hp} {ρ ρ' : En} {σ : Sg} {v : Val} {x : V} {d : D} (h : VRel T H F' H' ρ' σ v x) (e : muV ρ' v = some d) : Pend T F' σ v x := by
  cases v with
  | sh d => exact h
  | fr d => cases e
  | rf i => exact h.1
/-- a method that changes its object: what it holds then, what comes back -/
def MuS (X : Cx) (r : V → List V → Hp → VK → Prop) (g : D → List D → Option (D × D)) : Prop :=
  ∀ (F : Fz) (H : Hp) (a : Addr) (xs : List V) (d : D) (ds : List D) (d' z : D) (Q : VK), Same F.hp H → F a = none → OwnAt (.of X) F H d a → DenL (.of X) F ds xs → g d ds = some (d', z) →
    (∀ w o, OwnAt (.of X) F (upd H a o) d' a → Den (.of X) F z w → Q w (upd H a o)) → r (.ref a) xs H Q
def meth (g : D → List D → Option (D × D)) (v : Val) (r : List Val × En) : R (Val × En) := match frzL r.2 r.1 with
  | some (ds, ρ) => (match muV ρ v with
    | some d => (match g d ds with
      | some (d', z) => .ok (.sh z, setMu ρ v d')
      | none => .no)
    | none => .no)
  | none => .no
def isLst : Option D → Bool
  | some (.lst _) => true
  | _ => false
/-- o.name(e, ..), o a list -/
def evM (g : D → List D → Option (D × D)) (ft : FE) (fa : FA) : FE := fun ρ => (ft ρ).bind fun r => if isLst (muV r.2 r.1) = true then (fa r.2).bind (meth g r.1) else .no
theorem evM_ok {ft : FE} {fa : FA} {g : D → List D → Option (D × D)} {r : V → List V → Hp → VK → Prop} (hr : MuS X r g) {σ : Sg} {H : Hp} {Q : VK} (h : tOf (.of X) W (evM g ft fa) σ H Q) :
    tOf (.of X) W ft σ H fun x H1 => (∃ a xs, x = .ref a ∧ H1 a = some (.lst xs)) ∧ tOfA (.of X) W fa σ H1 fun xs H2 => r x xs H2 Q := by
  obtain ⟨ρ, F, rl, h⟩ := h
  unfold evM at h
  refine ⟨ρ, F, rl, ?_⟩
  cases ea : ft ρ with
  | no => rw [ea] at h; exact h
  | ex c n d ρ' => rw [ea] at h; exact h
  | ok ra =>
    obtain ⟨v, ρ1⟩ := ra
    rw [ea] at h
    intro x F1 H1 s1 v1
    have h : (match (if isLst (muV ρ1 v) = true then (fa ρ1).bind (meth g v) else R.no) with
      | .ok r => ∀ x F' H', Stp (.of X) F H ρ σ F' H' r.2 σ → VRel (.of X) H F' H' r.2 σ r.1 x → Q x H'
      | .ex c n d ρ' => ∀ F' H' cls dx, Stp (.of X) F H ρ σ F' H' ρ' σ → ERel (.of X) F' c n d cls dx → W cls dx σ H'
      | .no => False) := h
    by_cases hL : isLst (muV ρ1 v) = true
    · rw [if_pos hL] at h
      cases em : muV ρ1 v with
      | none => rw [em] at hL; cases hL
      | some d0 =>
        cases d0 with
        | lst ds0 =>
          have p1 := pend_of (F := F) (ρ := ρ) v1 em
          obtain ⟨a, rfl, _, ⟨xs0, hx0, _⟩, _⟩ := muV_at s1.rel p1 em
          refine ⟨⟨a, xs0, rfl, hx0⟩, ρ1, F1, s1.rel, ?_⟩
          cases eb : fa ρ1 with
          | no => rw [eb] at h; exact h
          | ex c n d ρ' => rw [eb] at h; exact fun F' H' cls dx s e => h F' H' cls dx (s1.trans s) e
          | ok rb =>
            rw [eb] at h
            intro xs F2 H2 s2 p2
            have h : (match meth g v rb with
              | .ok r => ∀ x F' H', Stp (.of X) F H ρ σ F' H' r.2 σ → VRel (.of X) H F' H' r.2 σ r.1 x → Q x H'
              | .ex c n d ρ' => ∀ F' H' cls dx, Stp (.of X) F H ρ σ F' H' ρ' σ → ERel (.of X) F' c n d cls dx → W cls dx σ H'
              | .no => False) := h
            unfold meth at h
            cases e1 : frzL rb.2 rb.1 with
            | none => simp only [e1] at h
            | some z =>
              obtain ⟨ds, ρ3⟩ := z
              simp only [e1] at h
              obtain ⟨F3, s3, d3⟩ := p2.frz s2.rel e1
              cases e2 : muV ρ3 v with
              | none => simp only [e2] at h
              | some d =>
                simp only [e2] at h
                cases e3 : g d ds with
                | none => simp only [e3] at h
                | some z =>
                  obtain ⟨d', z⟩ := z
                  simp only [e3] at h
                  have p3 := p1.mono (s2.same.trans s3.same)
                  obtain ⟨b, eb, fn, ob, _⟩ := muV_at s3.rel p3 e2
                  cases eb
                  refine hr F3 H2 a xs d ds d' z Q s3.rel.sub fn ob d3 e3 fun w o ho hw => ?_
                  exact h w F3 _ (((s1.trans s2).trans s3).trans (mutate s3.rel p3 e2 ho)) hw
        | _ => rw [em] at hL; cases hL
    · rw [if_neg hL] at h; exact h.elim
theorem se_m {o e : Expr} {es : List Expr} {ft : FE} {fa : FA} {name : Str} {id : String} {apos cpos : Pos} {g : D → List D → Option (D × D)} {r : V → List V → Hp → VK → Prop} (slot : PySem.Slot "list" name id) (hty : typeOf (.builtin id) = pure (.type "method_descriptor")) (hm : MtM X id r) (hr : MuS X r g) (ho : SE X W o ft) (ha : SA X W (e :: es) fa)
    (hbase : attributeBase o name X.env (eval o X.env) = eval o X.env := by rfl)
    (hfew : ((backTo cpos (starEach (e :: es) X.env)).all (fun x => !x.1) && (backToKw cpos (keywordEach [] X.env)).all (fun x => x.1.isSome)
      && decide ((e :: es).length + ([] : List Keyword).length + (if ([] : List Keyword).isEmpty then 0 else 1) < 30)) = true := by rfl)
    (hline : (apos.endLine == cpos.line) = true := by rfl) (hs : starEach (e :: es) X.env = (false, eval e X.env) :: starEach es X.env := by rfl) (hplain : (backTo cpos (starEach es X.env)).any (·.1) = false := by rfl) :
    SE X W (.Call (.Attribute o name apos) (e :: es) [] cpos) (evM g ft fa) :=
  pe_imp (pe_bm PySem.F.plainAttrs_list slot hty hm ho ha hbase hfew hline hs hplain) fun σ H Q h => by
    obtain ⟨ρ, F, rl, z⟩ := evM_ok hr h
    refine ⟨ρ, F, rl, ?_⟩
    cases ea : ft ρ with
    | no => rw [ea] at z; exact z
    | ex c n d ρ' => rw [ea] at z; exact z
    | ok ra =>
      rw [ea] at z
      intro x F' H' s v
      obtain ⟨⟨a, xs, rfl, hx⟩, q⟩ := z x F' H' s v
      exact ⟨.inl ⟨rfl, xs, SqL.of hx⟩, q⟩
theorem se_m0 {o : Expr} {ft : FE} {name : Str} {id : String} {apos cpos : Pos} {g : D → List D → Option (D × D)} {r : V → List V → Hp → VK → Prop} (slot : PySem.Slot "list" name id) (hty : typeOf (.builtin id) = pure (.type "method_descriptor")) (hm : MtM X id r) (hr : MuS X r g) (ho : SE X W o ft)
    (hbase : attributeBase o name X.env (eval o X.env) = eval o X.env := by rfl) (hline : (apos.endLine == cpos.line) = true := by rfl) : SE X W (.Call (.Attribute o name apos) [] [] cpos) (evM g ft faNil) :=
  pe_imp (pe_bm0 PySem.F.plainAttrs_list slot hty hm ho hbase hline) fun σ H Q h => by
    obtain ⟨ρ, F, rl, z⟩ := evM_ok hr h
    refine ⟨ρ, F, rl, ?_⟩
    cases ea : ft ρ with
    | no => rw [ea] at z; exact z
    | ex c n d ρ' => rw [ea] at z; exact z
    | ok ra =>
      rw [ea] at z
      intro x F' H' s v
      obtain ⟨⟨a, xs, rfl, hx⟩, ρ2, F2, r2, q⟩ := z x F' H' s v
      exact ⟨.inl ⟨rfl, xs, SqL.of hx⟩, q [] F2 H' (Stp.refl r2) rfl⟩
def appD : D → List D → Option (D × D)
  | .lst ds, [d] => if ds.length < 16777216 then some (.lst (ds ++ [d]), .non) else none
  | _, _ => none
theorem ms_app : MuS X rAppend appD := fun F H a xs d ds d' z Q s fn ho hd hg k => by
  unfold appD at hg
  split at hg
  · split at hg
    · rename_i hl
      cases hg
      obtain ⟨ys, h1, h2⟩ := ho
      obtain ⟨x, r, rfl, hx, hr⟩ := hd
      have hr : r = [] := hr
      subst hr
      exact ⟨a, ys, x, rfl, rfl, h1, size_lt (by rw [← h2.length]; exact hl), k _ _ ⟨_, upd_same, h2.snoc hx⟩ rfl⟩
    · cases hg
  · cases hg
theorem se_app {o e : Expr} {ft : FE} {fa : FA} {apos cpos : Pos} (ho : SE X W o ft) (ha : SA X W [e] fa)
    (hbase : attributeBase o "append" X.env (eval o X.env) = eval o X.env := by rfl)
    (hfew : ((backTo cpos (starEach [e] X.env)).all (fun x => !x.1) && (backToKw cpos (keywordEach [] X.env)).all (fun x => x.1.isSome)
      && decide ([e].length + ([] : List Keyword).length + (if ([] : List Keyword).isEmpty then 0 else 1) < 30)) = true := by rfl)
    (hline : (apos.endLine == cpos.line) = true := by rfl) (hs : starEach [e] X.env = (false, eval e X.env) :: starEach [] X.env := by rfl) (hplain : (backTo cpos (starEach [] X.env)).any (·.1) = false := by rfl) :
    SE X W (.Call (.Attribute o "append" apos) [e] [] cpos) (evM appD ft fa) :=
  se_m PySem.F.slot_list_append PySem.F.type_list_append mt_append ms_app ho ha hbase hfew hline hs hplain
/-- o[i] = e -/
def PutS (X : Cx) (t : TSet) (g : D → D → D → Option D) : Prop :=
  ∀ (F : Fz) (H : Hp) (a : Addr) (x y : V) (d k v d' : D) (Q : Hp → Prop), Same F.hp H → F a = none → OwnAt (.of X) F H d a → Den (.of X) F k x → Den (.of X) F v y → g d k v = some d' →
    (∀ o, OwnAt (.of X) F (upd H a o) d' a → Q (upd H a o)) → t (.ref a) x y H Q
def putEnd (g : D → D → D → Option D) (d : D) (v : Val) (r : Val × En) : R (Fl × En) := match frz r.2 r.1 with
  | some (k, ρ) => (match muV ρ v with
    | some c => (match g c k d with
      | some c' => .ok (.nx, setMu ρ v c')
      | none => .no)
    | none => .no)
  | none => .no
def putV (g : D → D → D → Option D) (ft fi : FE) (v : Val) (ρ : En) : R (Fl × En) := match frz ρ v with
  | some (d, ρ1) => (ft ρ1).bind fun t => if (muV t.2 t.1).isSome = true then (fi t.2).bind (putEnd g d t.1) else .no
  | none => .no
def fsPut (g : D → D → D → Option D) (ft fi f : FE) : FS := fsVal f (putV g ft fi)
theorem ss_put {o e b : Expr} {ft f fi : FE} {t : TSet} {g : D → D → D → Option D} {p2 pos : Pos} (hps : PSet X t) (hp : PutS X t g) (ho : SE X W o ft) (he : SE X W e f) (hb : SE X W b fi)
    (ha : ∀ v, assign (.Subscript o b p2) X.env v = (do
      let ov ← holding [v] (eval o X.env)
      let iv ← holding [v, ov] (eval b X.env)
      standAt p2
      holding [v, ov, iv] (setItem ov iv v)
      release [v, ov, iv] []) := by intro _; rfl)
    (hs : swapsWithSole [.Subscript o b p2] e pos.line X.env = pure false := by rfl) (hw : swappedStores [.Subscript o b p2] e X.env = pure none := by rfl)
    (h1 : (assignEach [.Subscript o b p2] X.env).map (·.2) = [assign (.Subscript o b p2) X.env] := by rfl) :
    SS X W (.Assign [.Subscript o b p2] e pos) (fsPut g ft fi f) :=
  ps_imp (ps_asg he (pg_sub ho hb hps ha) hs hw h1) fun D σ H h => fsVal_ok h fun ρ F v ρ1 x F1 H1 s1 v1 q => by
    unfold putV at q
    cases e1 : frz ρ1 v with
    | none => simp only [e1] at q
    | some z =>
      obtain ⟨d, ρ2⟩ := z
      simp only [e1] at q
      obtain ⟨F2, s2, _, d2⟩ := frz_val s1 v1 e1
      refine ⟨ρ2, F2, s2.rel, ?_⟩
      cases e2 : ft ρ2 with
      | no => simp only [e2, R.bind] at q
      | ex c n d ρ' =>
        simp only [e2, R.bind] at q
        exact fun F' H' cls dx s e => q σ F' H' cls dx (s2.trans s) e
      | ok rt =>
        obtain ⟨u, ρ3⟩ := rt
        simp only [e2, R.bind] at q
        intro y F3 H3 s3 v3
        have s23 := s2.trans s3
        by_cases hm : (muV ρ3 u).isSome = true
        · simp only [hm, if_true] at q
          cases em : muV ρ3 u with
          | none => rw [em] at hm; cases hm
          | some c0 =>
            have p3 := pend_of (F := F) (ρ := ρ) v3 em
            obtain ⟨a, rfl, _, _, _⟩ := muV_at s3.rel p3 em
            refine ⟨ρ3, F3, s3.rel, ?_⟩
            cases e3 : fi ρ3 with
            | no => simp only [e3] at q
            | ex c n d ρ' =>
              simp only [e3] at q
              exact fun F' H' cls dx s e => q σ F' H' cls dx (s23.trans s) e
            | ok ri =>
              simp only [e3] at q
              intro k F4 H4 s4 v4
              unfold putEnd at q
              cases e4 : frz ri.2 ri.1 with
              | none => simp only [e4] at q
              | some z =>
                obtain ⟨dk, ρ5⟩ := z
                simp only [e4] at q
                obtain ⟨F5, s5, _, d5⟩ := frz_val s4 v4 e4
                cases e5 : muV ρ5 u with
                | none => simp only [e5] at q
                | some c =>
                  simp only [e5] at q
                  cases e6 : g c dk d with
                  | none => simp only [e6] at q
                  | some c' =>
                    simp only [e6] at q
                    have p5 := p3.mono s5.same
                    obtain ⟨b, eb, fn, ob, _⟩ := muV_at s5.rel p5 e5
                    cases eb
                    refine hp F5 H4 a k x c dk d c' _ s5.rel.sub fn ob d5 (d2.mono (s3.same.trans s5.same)) e6 fun o ho => ?_
                    exact q σ F5 _ ((s23.trans s5).trans (mutate s5.rel p5 e5 ho))
        · simp only [hm] at q; exact q.elim
def putL : D → D → D → Option D
  | .lst ds, .int k, v => (match ixN ds.length k with
    | some j => some (.lst (ds.set j v))
    | none => none)
  | _, _, _ => none
theorem ps_putL : PutS X rSetL putL := fun F H a x y d k v d' Q s fn ho hk hv hg q => by
  unfold putL at hg
  split at hg
  · split at hg
    · rename_i j hj
      cases hg
      obtain ⟨xs, h1, h2⟩ := ho
      exact ⟨a, xs, _, j, rfl, hk, h1, by rw [← h2.length]; exact hj, q _ ⟨_, upd_same, h2.set hv j⟩⟩
    · cases hg
  · cases hg
/-- x op= e -/
def augV (i : Nat) (g : D → D → Option Val) (d : D) (v : Val) (ρ : En) : R (Fl × En) := match peek ρ v with
  | some e => (match g d e with
    | some z => (match store ρ i z with
      | some ρ' => .ok (.nx, ρ')
      | none => .no)
    | none => .no)
  | none => .no
def fsAug (i : Nat) (g : D → D → Option Val) (f : FE) : FS := fun ρ => match ρ.s[i]? with
  | some (.sh d) => fsVal f (augV i g d) ρ
  | _ => .no
theorem ss_aug {i : Nat} {x : Str} {e : Expr} {f : FE} {op : Operator} {g : D → D → Option Val} {pos pos' : Pos} (hN : X.N.Nodup) (ho : OpS X (inplaceOp op) g) (he : SE X W e f) (hi : X.N[i]? = some x := by rfl) (hx : Loc X.env.scope x := by first | exact Or.inl rfl | exact Or.inr rfl)
    (hf : X.fn x = true ∨ X.env.scope.names.lookup x = some .local := by first | exact .inl rfl | exact .inr rfl) : SS X W (.AugAssign (.Name x pos') op e pos) (fsAug i g f) := by
  obtain ⟨r, h1, h2⟩ := ho
  refine ps_imp (ps_aug hN hi hx he (show PIp X op r from h1) hf) fun D σ H h => ?_
  obtain ⟨ρ, F, rl, h⟩ := h
  unfold fsAug at h
  cases e0 : ρ.s[i]? with
  | none => simp only [e0] at h
  | some s =>
    cases s with
    | sh d =>
      simp only [e0] at h
      obtain ⟨x0, hx0, hd0⟩ := rl.sh i d e0
      refine ⟨x0, hx0, ?_⟩
      have hk := h
      unfold fsVal at h
      refine ⟨ρ, F, rl, ?_⟩
      cases ea : f ρ with
      | no => rw [ea] at h; exact h
      | ex c n d ρ' => rw [ea] at h; exact fun F' H' cls dx s e => h σ F' H' cls dx s e
      | ok ra =>
        rw [ea] at h
        intro y F1 H1 s1 v1
        have h : (match augV i g d ra.1 ra.2 with
          | .ok r => ∀ σ' F' H', Stp (.of X) F H ρ σ F' H' r.2 σ' → flOk (.of X) H F' H' r.2 σ' D r.1
          | .ex c n d ρ' => ∀ σ' F' H' cls dx, Stp (.of X) F H ρ σ F' H' ρ' σ' → ERel (.of X) F' c n d cls dx → W cls dx σ' H'
          | .no => False) := h
        unfold augV at h
        obtain ⟨F2, s2, m2, p2⟩ := held_ok s1 v1
        cases e1 : peek ra.2 ra.1 with
        | none => simp only [e1] at h
        | some e =>
          simp only [e1] at h
          cases e2 : g d e with
          | none => simp only [e2] at h
          | some z =>
            simp only [e2] at h
            cases e3 : store ra.2 i z with
            | none => simp only [e3] at h
            | some ρ3 =>
              simp only [e3] at h
              have k2 := p2.peek s2.rel (by rw [peek_held]; exact e1)
              refine h2 F2 H1 x0 y d e z _ s2.rel.sub (.inl (hd0.mono s2.same)) k2 e2 fun w F5 H5 n5 r5 => ?_
              have s5 := s2.trans (n5.stp s2.rel)
              obtain ⟨F6, s6⟩ := store_ok' s5 ((r5.vrel s2.rel n5).back s2) e3
              exact h _ F6 H5 s6
    | _ => simp only [e0] at h
end
end Tr
/-! Tr, part D: what is walked, for, while, comprehensions. -/
namespace Tr
open PySem PySem.Spec PyProof.Rows L2
section
variable {X : Cx} {W : WX}

/-- what is walked: the items as they stand; the number of the live list that they come from -/
structure Its where
  ds : List D
  lv : Option Nat
/-- the item at i, as it is when its turn comes -/
def cur (L : List D) (o : Option Nat) (i : Nat) (d : D) : Option D := match o with
  | none => some d
  | some n => (match L[n]? with
    | some (.lst ds) => ds[i]?
    | _ => none)
/-- nothing is left at i -/
def fin (L : List D) (o : Option Nat) (i : Nat) : Bool := match o with
  | none => true
  | some n => (match L[n]? with
    | some (.lst ds) => decide (ds.length ≤ i)
    | _ => false)
/-- J yields the items, one after another, whatever else happens meanwhile -/
def Wk (T : Tx) (F : Fz) (J : It) (t : Its) : Prop := ∀ (Fc : Fz) (Hc : Hp) (L : List D), Ext F Fc → Same Fc.hp Hc → Live T Fc Hc L → ∀ i : Nat,
  (∀ d d', t.ds[i]? = some d → cur L t.lv i d = some d' → J.go i Hc ∧ ∀ x H', J.yld i Hc x H' → ∃ F', New T Fc Hc F' H' ∧ Den T F' d' x) ∧ (t.ds.length ≤ i → fin L t.lv i = true → J.stop i Hc)
abbrev FI := En → R (Its × En)
def tOfI (T : Tx) (W : WX) (f : FI) : TI := fun σ H Q => ∃ ρ F, Rel T F H ρ σ ∧ match f ρ with
  | .ok r => ∀ J F' H', Stp T F H ρ σ F' H' r.2 σ → Wk T F' J r.1 → Q J H'
  | .ex c n d ρ' => ∀ F' H' cls dx, Stp T F H ρ σ F' H' ρ' σ → ERel T F' c n d cls dx → W cls dx σ H'
  | .no => False
def SI (X : Cx) (W : WX) (tg e : Expr) (f : FI) : Prop := PI X tg e (tOfI (.of X) W f)
theorem pi_imp {tg e : Expr} {t t' : TI} (h : PI X tg e t) (i : ∀ σ H Q, t' σ H Q → t σ H Q) : PI X tg e t' := ⟨fun pins s σ H Q I q => h.run pins s σ H Q I (i σ H Q q)⟩
/-- a list or a tuple -/
def asQ (r : Val × En) : R (Its × En) := match r.1 with
  | .sh (.ref n) => (match r.2.l[n]? with
    | some (.lst ds) => .ok (⟨ds, some n⟩, r.2)
    | _ => .no)
  | v => (match frz r.2 v with
    | some (.lst ds, ρ) => .ok (⟨ds, none⟩, ρ)
    | some (.tup ds, ρ) => .ok (⟨ds, none⟩, ρ)
    | _ => .no)
theorem wk_list {T : Tx} {F : Fz} {a : Addr} {xs : List V} {ds : List D} (h : SqL T.K F a xs) (hd : DenL T F ds xs) : Wk T F (Itl T.K a) ⟨ds, none⟩ := fun Fc Hc L s1 s2 lv i => by
  have q : SqL T.K Hc a xs := Same.sqL s2 (Same.sqL s1.hp h)
  refine ⟨fun d d' e e' => ?_, fun hl _ => ⟨xs, q, by rw [← hd.length]; exact hl⟩⟩
  cases e'
  obtain ⟨x, hx, dx⟩ := hd.get e
  refine ⟨⟨xs, x, q, hx⟩, fun y H' ⟨e1, e2⟩ => ?_⟩
  subst e1
  have ey : x = y := Option.some.inj (hx.symm.trans (e2 xs q))
  subst ey
  exact ⟨Fc, New.refl s2, dx.mono s1⟩
theorem wk_live {T : Tx} {F : Fz} {a : Addr} {n : Nat} {ds : List D} (h : F.as[n]? = some a) : Wk T F (Itl T.K a) ⟨ds, some n⟩ := fun Fc Hc L s1 s2 lv i => by
  have ha := s1.as n a h
  refine ⟨fun d d' _ e' => ?_, fun _ hl => ?_⟩
  · simp only [cur] at e'
    split at e'
    · rename_i es q
      obtain ⟨_, xs, h1, h2⟩ := lv.ok n _ a q ha
      obtain ⟨x, hx, dx⟩ := h2.get e'
      have q' : SqL T.K Hc a xs := SqL.of h1
      refine ⟨⟨xs, x, q', hx⟩, fun y H' ⟨e1, e2⟩ => ?_⟩
      subst e1
      have ey : x = y := Option.some.inj (hx.symm.trans (e2 xs q'))
      subst ey
      exact ⟨Fc, New.refl s2, dx⟩
    · cases e'
  · simp only [fin] at hl
    split at hl
    · rename_i es q
      obtain ⟨_, xs, h1, h2⟩ := lv.ok n _ a q ha
      exact ⟨xs, SqL.of h1, by rw [← h2.length]; exact of_decide_eq_true hl⟩
    · cases hl
theorem wk_tup {T : Tx} {F : Fz} {a : Addr} {xs : List V} {ds : List D} (h : SqT T.K F a xs) (hd : DenL T F ds xs) : Wk T F (Itt T.K a) ⟨ds, none⟩ := fun Fc Hc L s1 s2 lv i => by
  have q : SqT T.K Hc a xs := Same.sqT s2 (Same.sqT s1.hp h)
  refine ⟨fun d d' e e' => ?_, fun hl _ => ⟨xs, q, by rw [← hd.length]; exact hl⟩⟩
  cases e'
  obtain ⟨x, hx, dx⟩ := hd.get e
  refine ⟨⟨xs, x, q, hx⟩, fun y H' ⟨e1, e2⟩ => ?_⟩
  subst e1
  have ey : x = y := Option.some.inj (hx.symm.trans (e2 xs q))
  subst ey
  exact ⟨Fc, New.refl s2, dx.mono s1⟩
theorem wk_range {T : Tx} {F : Fz} (lo : Int) (n : Nat) : Wk T F (Itr lo n) ⟨(List.range n).map fun (i : Nat) => D.int (lo + i), none⟩ := fun Fc Hc L s1 s2 lv i => by
  refine ⟨fun d d' e e' => ?_, fun hl _ => ?_⟩
  · cases e'
    simp only [List.getElem?_map] at e
    by_cases hi : i < n
    · rw [List.getElem?_range hi] at e
      cases e
      exact ⟨hi, fun x H' ⟨e1, e2⟩ => by subst e1; exact ⟨Fc, New.refl s2, e2⟩⟩
    · rw [List.getElem?_eq_none (by rw [List.length_range]; omega)] at e
      cases e
  · simp only [List.length_map, List.length_range] at hl
    exact hl
/-- what an iterable's expression gives, taken as items -/
def fiOf (f : FE) (k : Val × En → R (Its × En)) : FI := fun ρ => (f ρ).bind k
/-- a list or a tuple, as it comes -/
theorem pi_seq {tg l : Expr} {tl : TE} (hl : PE X l tl) : PI X tg l (fun σ H R => tl σ H fun x H1 => ∃ a, x = .ref a ∧ ((∃ xs, SqL X.K H1 a xs) ∧ R (Itl X.K a) H1 ∨ (∃ xs, SqT X.K H1 a xs) ∧ R (Itt X.K a) H1)) := by
  refine ⟨fun pins s σ H R I h => thn (hl.run pins s σ H _ I h) fun v s1 hh => ?_⟩
  obtain ⟨x, H1, I1, r1, a, e, q⟩ := hh
  subst e
  cases r1
  have fp : ∀ b ∈ [s1.heap.objs.size], FpOk X pins H1 b := fun b hb => by
    rw [List.mem_singleton.mp hb]
    exact I1.fpOk (Nat.le_refl _) (I1.hok.fresh (Nat.le_refl _))
  rcases q with ⟨⟨xs, hq⟩, q⟩ | ⟨⟨xs, hq⟩, q⟩
  · obtain ⟨its, _, p, _⟩ := I1.list hq
    exact wpAny_pyIter_list p.isList ⟨_, _, _, _, H1, rfl, I1.kept (t' := s1.toks) (fun b o e => Heap.get?_push_of_some _ e), turn_list a _, ⟨_, Heap.get?_push_size _ rfl, rfl, rfl⟩, fp, q⟩
  · obtain ⟨its, _, p, _⟩ := I1.tuple hq
    exact wpAny_pyIter_tuple (show s1.heap.IsTuple a its.toArray from p) ⟨_, _, _, _, H1, rfl, I1.kept (t' := s1.toks) (fun b o e => Heap.get?_push_of_some _ e), turn_tuple a _, ⟨_, Heap.get?_push_size _ rfl, rfl, rfl⟩, fp, q⟩
theorem si_seq {tg e : Expr} {f : FE} (he : SE X W e f) : SI X W tg e (fiOf f asQ) :=
  pi_imp (pi_seq he) fun σ H Q ⟨ρ, F, rl, h⟩ => by
    unfold fiOf at h
    refine ⟨ρ, F, rl, ?_⟩
    cases ea : f ρ with
    | no => rw [ea] at h; exact h
    | ex c n d ρ' => rw [ea] at h; exact h
    | ok ra =>
      obtain ⟨v, ρ1⟩ := ra
      rw [ea] at h
      intro x F1 H1 s1 v1
      have h : (match asQ (v, ρ1) with
        | .ok r => ∀ J F' H', Stp (.of X) F H ρ σ F' H' r.2 σ → Wk (.of X) F' J r.1 → Q J H'
        | .ex c n d ρ' => ∀ F' H' cls dx, Stp (.of X) F H ρ σ F' H' ρ' σ → ERel (.of X) F' c n d cls dx → W cls dx σ H'
        | .no => False) := h
      unfold asQ at h
      simp only at h
      split at h
      · rename_i q
        split at q
        · rename_i n
          split at q
          · rename_i ds el
            cases q
            obtain ⟨a, rfl, h2⟩ := v1
            obtain ⟨_, xs, h3, h4⟩ := s1.rel.lv.ok n _ a el h2
            exact ⟨a, rfl, .inl ⟨⟨xs, SqL.of h3⟩, h _ F1 H1 s1 (wk_live h2)⟩⟩
          · cases q
        · split at q
          · rename_i ds ρ2 e1
            cases q
            obtain ⟨F2, s2, _, d2⟩ := frz_val s1 v1 e1
            obtain ⟨a, xs, h1, h2, h3⟩ := d2
            exact ⟨a, h1, .inl ⟨⟨xs, SqL.of (s2.rel.sub _ _ h2)⟩, h _ F2 H1 s2 (wk_list (SqL.of h2) h3)⟩⟩
          · rename_i ds ρ2 e1
            cases q
            obtain ⟨F2, s2, _, d2⟩ := frz_val s1 v1 e1
            obtain ⟨a, xs, h1, h2, h3⟩ := d2
            exact ⟨a, h1, .inr ⟨⟨xs, Same.sqT s2.rel.sub h2⟩, h _ F2 H1 s2 (wk_tup h2 h3)⟩⟩
          · cases q
      · rename_i q
        split at q
        · split at q <;> cases q
        · split at q <;> cases q
      · exact h.elim
/-- range(n), range(a, b): ends within 2 ^ 62 -/
def peekL (ρ : En) : List Val → Option (List D)
  | [] => some []
  | v :: vs => match peek ρ v, peekL ρ vs with
    | some d, some ds => some (d :: ds)
    | _, _ => none
inductive PkL (T : Tx) (F : Fz) (H : Hp) : List D → List V → Prop
  | nil : PkL T F H [] []
  | cons {d : D} {x : V} {ds : List D} {xs : List V} (h : Pk T F H d x) (t : PkL T F H ds xs) : PkL T F H (d :: ds) (x :: xs)
theorem PendL.peek {T : Tx} {F : Fz} {H : Hp} {ρ : En} {σ : Sg} (r : Rel T F H ρ σ) : ∀ {vs : List Val} {xs : List V} {ds : List D}, PendL T F σ vs xs → peekL ρ vs = some ds → PkL T F H ds xs
  | [], xs, ds, h, e => by cases e; have h : xs = [] := h; subst h; exact .nil
  | v :: vs, xs, ds, ⟨x, xr, h1, h2, h3⟩, e => by
    unfold peekL at e
    cases e1 : Tr.peek ρ v with
    | none => simp only [e1] at e; cases e
    | some d =>
      cases e2 : peekL ρ vs with
      | none => simp only [e1, e2] at e; cases e
      | some ds2 =>
        simp only [e1, e2] at e
        cases e
        subst h1
        exact .cons (h2.peek r e1) (PendL.peek r h3 e2)
theorem Pk.int {T : Tx} {F : Fz} {H : Hp} {i : Int} {x : V} (h : Pk T F H (.int i) x) : x = .int i := by
  rcases h with h | ⟨_, _, h⟩
  · exact h
  · exact h.elim
@[irreducible] def rng1 (r : List Val × En) : R (Its × En) := match peekL r.2 r.1 with
  | some [.int n] => if -(2 ^ 62) ≤ n ∧ n < 2 ^ 62 then .ok (⟨(List.range n.toNat).map fun (i : Nat) => D.int (0 + i), none⟩, r.2) else .no
  | _ => .no
@[irreducible] def rng2 (r : List Val × En) : R (Its × En) := match peekL r.2 r.1 with
  | some [.int m, .int n] => if -(2 ^ 62) ≤ m ∧ m < 2 ^ 62 ∧ -(2 ^ 62) ≤ n ∧ n < 2 ^ 62 then .ok (⟨(List.range (n - m).toNat).map fun (i : Nat) => D.int (m + i), none⟩, r.2) else .no
  | _ => .no
def fiA (f : FA) (k : List Val × En → R (Its × En)) : FI := fun ρ => (f ρ).bind k
theorem si_range1 {tg a : Expr} {p pos : Pos} {f : FA} (hm : X.mg "range" = none) (ha : SA X W [a] f) (hg : Gl X "range" := by rfl) (hs : starEach [a] X.env = [(false, eval a X.env)] := by rfl) : SI X W tg (.Call (.Name "range" p) [a] [] pos) (fiA f rng1) :=
  pi_imp (pi_range1 hg hm ha hs) fun σ H Q ⟨ρ, F, rl, h⟩ => by
    unfold fiA at h
    refine ⟨ρ, F, rl, ?_⟩
    cases ea : f ρ with
    | no => rw [ea] at h; exact h
    | ex c n d ρ' => rw [ea] at h; exact h
    | ok ra =>
      rw [ea] at h
      intro xs F1 H1 s1 p1
      have h : (match rng1 ra with
        | .ok r => ∀ J F' H', Stp (.of X) F H ρ σ F' H' r.2 σ → Wk (.of X) F' J r.1 → Q J H'
        | .ex c n d ρ' => ∀ F' H' cls dx, Stp (.of X) F H ρ σ F' H' ρ' σ → ERel (.of X) F' c n d cls dx → W cls dx σ H'
        | .no => False) := h
      unfold rng1 at h
      cases e1 : peekL ra.2 ra.1 with
      | none => simp only [e1] at h
      | some ds =>
        have k1 := p1.peek s1.rel e1
        rw [e1] at h
        split at h
        · rename_i q
          split at q
          · rename_i z
            cases z
            rename_i n
            split at q
            · rename_i hn
              cases q
              cases k1 with
              | cons k t =>
                cases t
                exact ⟨n, by rw [k.int], hn.1, hn.2, h _ F1 H1 s1 (wk_range 0 n.toNat)⟩
            · cases q
          · cases q
        · rename_i q
          split at q
          · split at q <;> cases q
          · cases q
        · exact h.elim
theorem si_range2 {tg a b : Expr} {p pos : Pos} {f : FA} (hm : X.mg "range" = none) (ha : SA X W [a, b] f) (hg : Gl X "range" := by rfl) (hs : starEach [a, b] X.env = [(false, eval a X.env), (false, eval b X.env)] := by rfl) (hs2 : starEach [b] X.env = [(false, eval b X.env)] := by rfl) :
    SI X W tg (.Call (.Name "range" p) [a, b] [] pos) (fiA f rng2) :=
  pi_imp (pi_range2 hg hm ha hs hs2) fun σ H Q ⟨ρ, F, rl, h⟩ => by
    unfold fiA at h
    refine ⟨ρ, F, rl, ?_⟩
    cases ea : f ρ with
    | no => rw [ea] at h; exact h
    | ex c n d ρ' => rw [ea] at h; exact h
    | ok ra =>
      rw [ea] at h
      intro xs F1 H1 s1 p1
      have h : (match rng2 ra with
        | .ok r => ∀ J F' H', Stp (.of X) F H ρ σ F' H' r.2 σ → Wk (.of X) F' J r.1 → Q J H'
        | .ex c n d ρ' => ∀ F' H' cls dx, Stp (.of X) F H ρ σ F' H' ρ' σ → ERel (.of X) F' c n d cls dx → W cls dx σ H'
        | .no => False) := h
      unfold rng2 at h
      cases e1 : peekL ra.2 ra.1 with
      | none => simp only [e1] at h
      | some ds =>
        have k1 := p1.peek s1.rel e1
        rw [e1] at h
        split at h
        · rename_i q
          split at q
          · rename_i z
            cases z
            rename_i m n
            split at q
            · rename_i hn
              cases q
              cases k1 with
              | cons k t =>
                cases t with
                | cons k2 t2 =>
                  cases t2
                  exact ⟨m, n, by rw [k.int, k2.int], ⟨hn.1, hn.2.1, hn.2.2.1, hn.2.2.2⟩, h _ F1 H1 s1 (wk_range m (n - m).toNat)⟩
            · cases q
          · cases q
        · rename_i q
          split at q
          · split at q <;> cases q
          · cases q
        · exact h.elim

/-! ### for -/
def loopD (p : Pat) (body : FS) (o : Option Nat) : Nat → List D → FS
  | i, [], ρ => if fin ρ.l o i = true then .ok (.nx, ρ) else .no
  | i, d :: ds, ρ => match cur ρ.l o i d with
    | none => .no
    | some e => (match bindP p e ρ with
      | none => .no
      | some ρ1 => (body ρ1).bind fun r => match r.1 with
        | .nx => loopD p body o (i + 1) ds r.2
        | .ct => loopD p body o (i + 1) ds r.2
        | .bk => .ok (.nx, r.2)
        | .rt v => .ok (.rt v, r.2))
def fsFor (fi : FI) (p : Pat) (body : FS) : FS := fun ρ => (fi ρ).bind fun r => loopD p body r.1.lv 0 r.1.ds r.2
theorem ss_for {tg iter : Expr} {body : List Stmt} {fi : FI} {p : Pat} {fb : FS} {pos : Pos} (hp : PassesOwn (model X.prog X.w) X.A X.env X.xe) (hc : X.calm = true) (hi : SI X W tg iter fi) (hg : SG X tg p) (hb : SSs X W body fb)
    (hs : ∀ x, foldedSetIterable iter X.env x = pure x := by intro _; rfl) : SS X W (.For tg iter body [] pos) (fsFor fi p fb) :=
  ps_imp (ps_for hp hc hi hg hb hs) fun D σ H ⟨ρ, F, rl, h⟩ => by
    unfold fsFor at h
    refine ⟨ρ, F, rl, ?_⟩
    cases ea : fi ρ with
    | no => rw [ea] at h; exact h
    | ex c n d ρ' => rw [ea] at h; exact fun F' H' cls dx s e => h σ F' H' cls dx s e
    | ok ri =>
      rw [ea] at h
      intro J F1 H1 s1 w1
      obtain ⟨⟨ds, o⟩, ρ0⟩ := ri
      have h : (match loopD p fb o 0 ds ρ0 with
        | .ok r => ∀ σ' F' H', Stp (.of X) F H ρ σ F' H' r.2 σ' → flOk (.of X) H F' H' r.2 σ' D r.1
        | .ex c n d ρ' => ∀ σ' F' H' cls dx, Stp (.of X) F H ρ σ F' H' ρ' σ' → ERel (.of X) F' c n d cls dx → W cls dx σ' H'
        | .no => False) := h
      refine ⟨fun i m σi Hi => m = ds.length - i ∧ ∃ Fi ρi, Stp (.of X) F H ρ σ Fi Hi ρi σi ∧ Ext F1 Fi ∧ loopD p fb o i (ds.drop i) ρi = loopD p fb o 0 ds ρ0, ⟨ds.length, by simp, F1, ρ0, s1, Ext.refl F1, rfl⟩, ?_⟩
      rintro i m σi Hi ⟨rfl, Fi, ρi, si, mi, ei⟩
      have wi := w1 Fi Hi ρi.l mi si.rel.sub si.rel.lv i
      by_cases hlt : i < ds.length
      · refine .inr ?_
        have e0 : ds[i]? = some ds[i] := List.getElem?_eq_getElem hlt
        rw [List.drop_eq_getElem_cons hlt] at ei
        simp only [loopD] at ei
        cases ec : cur ρi.l o i ds[i] with
        | none => simp only [ec] at ei; rw [← ei] at h; exact h.elim
        | some d' =>
          simp only [ec] at ei
          obtain ⟨go, yl⟩ := wi.1 _ d' e0 ec
          refine ⟨go, fun σ' H' => ∃ m', m' < ds.length - i ∧ (m' = ds.length - (i + 1) ∧ ∃ Fi ρi, Stp (.of X) F H ρ σ Fi H' ρi σ' ∧ Ext F1 Fi ∧ loopD p fb o (i + 1) (ds.drop (i + 1)) ρi = loopD p fb o 0 ds ρ0), fun _ _ z => z, fun x H2 y => ?_⟩
          obtain ⟨F2, n2, d2⟩ := yl x H2 y
          have s2 := n2.stp si.rel
          have si2 := si.trans s2
          cases eb : bindP p d' ρi with
          | none => simp only [eb] at ei; rw [← ei] at h; exact h.elim
          | some ρ1 =>
            simp only [eb] at ei
            refine ⟨ρi, F2, d', ρ1, s2.rel, d2, eb, fun σ2 b2 => ⟨ρ1, F2, b2.stp.rel, ?_⟩⟩
            have si3 := si2.trans b2.stp
            cases er : fb ρ1 with
            | no => simp only [er, R.bind] at ei; rw [← ei] at h; exact h
            | ex c n d ρ' =>
              simp only [er, R.bind] at ei
              rw [← ei] at h
              exact fun σ' F' H' cls dx s e => h σ' F' H' cls dx (si3.trans s) e
            | ok rb =>
              obtain ⟨fl, ρ3⟩ := rb
              simp only [er, R.bind] at ei
              intro σ3 F3 H3 s3
              have again : loopD p fb o (i + 1) (ds.drop (i + 1)) ρ3 = loopD p fb o 0 ds ρ0 → ∃ m', m' < ds.length - i ∧ (m' = ds.length - (i + 1) ∧ ∃ Fi ρi, Stp (.of X) F H ρ σ Fi H3 ρi σ3 ∧ Ext F1 Fi ∧ loopD p fb o (i + 1) (ds.drop (i + 1)) ρi = loopD p fb o 0 ds ρ0) := fun q =>
                ⟨_, by omega, rfl, F3, ρ3, si3.trans s3, (mi.trans n2.ff).trans s3.same, q⟩
              cases fl with
              | nx => exact again ei
              | ct => exact again ei
              | bk =>
                simp only at ei
                rw [← ei] at h
                exact h σ3 F3 H3 (si3.trans s3)
              | rt v =>
                simp only at ei
                rw [← ei] at h
                exact fun y q => h σ3 F3 H3 (si3.trans s3) y (q.back si3)
      · rw [List.drop_eq_nil_of_le (by omega)] at ei
        simp only [loopD] at ei
        by_cases hf : fin ρi.l o i = true
        · rw [if_pos hf] at ei
          refine .inl ⟨wi.2 (show ds.length ≤ i by omega) hf, ?_⟩
          rw [← ei] at h
          exact h σi Fi Hi si
        · rw [if_neg hf] at ei
          rw [← ei] at h
          exact h.elim

/-! ### while -/
def whileN (c : FT) (body : FS) : Nat → FS
  | 0, _ => .no
  | n + 1, ρ => (c ρ).bind fun r => if r.1 = true then (body r.2).bind fun q => (match q.1 with
      | .nx => whileN c body n q.2
      | .ct => whileN c body n q.2
      | .bk => .ok (.nx, q.2)
      | .rt v => .ok (.rt v, q.2)) else .ok (.nx, r.2)
/-- by a number of turns that will do -/
def fsWhile (μ : En → Nat) (c : FT) (body : FS) : FS := fun ρ => whileN c body (μ ρ) ρ
theorem ss_while {c : Expr} {body : List Stmt} {fc : FT} {fb : FS} {pos : Pos} (μ : En → Nat) (hp : PassesOwn (model X.prog X.w) X.A X.env X.xe) (hc : ST X W c fc) (hb : SSs X W body fb) : SS X W (.While c body [] pos) (fsWhile μ fc fb) :=
  ps_imp (ps_while hp hc hb) fun D σ H ⟨ρ, F, rl, h⟩ => by
    unfold fsWhile at h
    refine ⟨fun m σi Hi => ∃ Fi ρi, Stp (.of X) F H ρ σ Fi Hi ρi σi ∧ whileN fc fb m ρi = whileN fc fb (μ ρ) ρ, ⟨μ ρ, F, ρ, Stp.refl rl, rfl⟩, ?_⟩
    rintro m σi Hi ⟨Fi, ρi, si, ei⟩
    refine ⟨ρi, Fi, si.rel, ?_⟩
    cases m with
    | zero => simp only [whileN] at ei; rw [← ei] at h; exact h.elim
    | succ m =>
      simp only [whileN] at ei
      cases ec : fc ρi with
      | no => simp only [ec, R.bind] at ei; rw [← ei] at h; exact h
      | ex c n d ρ' =>
        simp only [ec, R.bind] at ei
        rw [← ei] at h
        exact fun F' H' cls dx s e => h σi F' H' cls dx (si.trans s) e
      | ok rc =>
        obtain ⟨b, ρ1⟩ := rc
        simp only [ec, R.bind] at ei
        intro F1 H1 s1
        have si1 := si.trans s1
        cases b with
        | false =>
          rw [if_neg Bool.false_ne_true] at ei
          show (if false = true then _ else _)
          rw [if_neg Bool.false_ne_true]
          rw [← ei] at h
          exact h σi F1 H1 si1
        | true =>
          rw [if_pos rfl] at ei
          show (if true = true then _ else _)
          rw [if_pos rfl]
          refine ⟨fun σ' H' => ∃ m', m' < m + 1 ∧ ∃ Fi ρi, Stp (.of X) F H ρ σ Fi H' ρi σ' ∧ whileN fc fb m' ρi = whileN fc fb (μ ρ) ρ, fun _ _ z => z, ρ1, F1, s1.rel, ?_⟩
          cases er : fb ρ1 with
          | no => simp only [er] at ei; rw [← ei] at h; exact h
          | ex c n d ρ' =>
            simp only [er] at ei
            rw [← ei] at h
            exact fun σ' F' H' cls dx s e => h σ' F' H' cls dx (si1.trans s) e
          | ok rb =>
            obtain ⟨fl, ρ3⟩ := rb
            simp only [er] at ei
            intro σ3 F3 H3 s3
            cases fl with
            | nx => exact ⟨m, Nat.lt_succ_self m, F3, ρ3, si1.trans s3, ei⟩
            | ct => exact ⟨m, Nat.lt_succ_self m, F3, ρ3, si1.trans s3, ei⟩
            | bk =>
              simp only at ei
              rw [← ei] at h
              exact h σ3 F3 H3 (si1.trans s3)
            | rt v =>
              simp only at ei
              rw [← ei] at h
              exact fun y q => h σ3 F3 H3 (si1.trans s3) y (q.back si1)
end
end Tr
/-! Tr, part E: comprehensions. -/
namespace Tr
open PySem PySem.Spec PyProof.Rows L2
section
variable {X : Cx} {W : WX}

/-- nothing is let out -/
abbrev W0 : WX := fun _ _ _ _ => False
def R.sure {α : Type} : R α → R α
  | .ex _ _ _ _ => .no
  | r => r
/-- slots forgotten -/
def wipeE (ρ : En) : List Nat → En
  | [] => ρ
  | v :: vs => (wipeE ρ vs).set v .un
def restE (ρ : En) (ρ2 : En) : List Nat → En
  | [] => ρ2
  | v :: vs => match ρ.s[v]? with
    | some s => (restE ρ ρ2 vs).set v s
    | none => restE ρ ρ2 vs
def okW (ρ : En) (vs : List Nat) : Bool := vs.all fun v => match ρ.s[v]? with
  | some (.ow _) => false
  | _ => true
theorem wipeE_len (ρ : En) : ∀ vs : List Nat, (wipeE ρ vs).s.length = ρ.s.length
  | [] => rfl
  | v :: vs => by unfold wipeE; rw [set_len, wipeE_len ρ vs]
theorem wipeE_l (ρ : En) : ∀ vs : List Nat, (wipeE ρ vs).l = ρ.l
  | [] => rfl
  | v :: vs => by unfold wipeE; exact wipeE_l ρ vs
theorem wipeE_get {ρ : En} {j : Nat} : ∀ {vs : List Nat}, j ∉ vs → (wipeE ρ vs).s[j]? = ρ.s[j]?
  | [], _ => rfl
  | v :: vs, h => by
    simp only [List.mem_cons, not_or] at h
    unfold wipeE
    rw [get_set_ne (Ne.symm h.1), wipeE_get h.2]
theorem wipeE_un {ρ : En} {j : Nat} {s : Slot} : ∀ {vs : List Nat}, j ∈ vs → (wipeE ρ vs).s[j]? = some s → s = .un
  | v :: vs, h, e => by
    unfold wipeE at e
    by_cases w : v = j
    · subst w
      exact (set_get_self e).1.symm
    · rw [get_set_ne w] at e
      rcases List.mem_cons.mp h with z | z
      · exact (w z.symm).elim
      · exact wipeE_un z e
theorem wipe_get {σ : Sg} {j : Nat} : ∀ {vs : List Nat}, j ∉ vs → (wipe σ vs)[j]? = σ[j]?
  | [], _ => rfl
  | v :: vs, h => by
    simp only [List.mem_cons, not_or] at h
    unfold wipe
    rw [List.getElem?_set_ne (Ne.symm h.1), wipe_get h.2]
theorem restE_len {ρ ρ2 : En} : ∀ vs : List Nat, (restE ρ ρ2 vs).s.length = ρ2.s.length
  | [] => rfl
  | v :: vs => by
    unfold restE
    split
    · rw [set_len, restE_len vs]
    · exact restE_len vs
theorem restE_l {ρ ρ2 : En} : ∀ vs : List Nat, (restE ρ ρ2 vs).l = ρ2.l
  | [] => rfl
  | v :: vs => by
    unfold restE
    split
    · exact restE_l vs
    · exact restE_l vs
theorem restE_out {ρ ρ2 : En} {j : Nat} : ∀ {vs : List Nat}, j ∉ vs → (restE ρ ρ2 vs).s[j]? = ρ2.s[j]?
  | [], _ => rfl
  | v :: vs, h => by
    simp only [List.mem_cons, not_or] at h
    unfold restE
    split
    · rw [get_set_ne (Ne.symm h.1), restE_out h.2]
    · exact restE_out h.2
theorem restE_in {ρ ρ2 : En} (hl : ρ2.s.length = ρ.s.length) {j : Nat} : ∀ {vs : List Nat}, j ∈ vs → (restE ρ ρ2 vs).s[j]? = ρ.s[j]?
  | v :: vs, h => by
    unfold restE
    by_cases w : v = j
    · subst w
      cases e : ρ.s[v]? with
      | none =>
        simp only
        have h1 : ρ.s.length ≤ v := List.getElem?_eq_none_iff.mp e
        exact List.getElem?_eq_none_iff.mpr (by rw [restE_len, hl]; exact h1)
      | some s =>
        simp only
        have h1 : v < ρ.s.length := (List.getElem?_eq_some_iff.mp e).1
        show ((restE ρ ρ2 vs).s.set v s)[v]? = some s
        rw [List.getElem?_set_self (by rw [restE_len, hl]; exact h1)]
    · have hz : j ∈ vs := by
        rcases List.mem_cons.mp h with z | z
        · exact (w z.symm).elim
        · exact z
      split
      · rw [get_set_ne w, restE_in hl hz]
      · exact restE_in hl hz
theorem mu_wipe {ρ : En} {vs : List Nat} {j : Nat} {d : D} (m : MuAt (wipeE ρ vs) j d) : j ∉ vs ∧ MuAt ρ j d := by
  by_cases h : j ∈ vs
  · have z := wipeE_un h m; cases z
  · unfold MuAt at m
    rw [wipeE_get h] at m
    exact ⟨h, m⟩
/-- forgetting slots -/
theorem Stp.wipe {T : Tx} {F : Fz} {H : Hp} {ρ : En} {σ : Sg} {vs : List Nat} (r : Rel T F H ρ σ) : Stp T F H ρ σ F H (wipeE ρ vs) (L2.wipe σ vs) where
  rel := by
    refine ⟨by rw [wipeE_len, wipe_length]; exact r.len, r.sub, fun j e q => ?_, fun j e q => ?_, fun j k e e' c q q' s s' => ?_, by rw [wipeE_l]; exact r.lv, fun j e c q s => ?_⟩
    · by_cases h : j ∈ vs
      · have z := wipeE_un h q; cases z
      · rw [wipeE_get h] at q
        rw [wipe_get h]
        exact r.sh j e q
    · obtain ⟨h, q⟩ := mu_wipe q
      rw [wipe_get h]
      exact r.ow j e q
    · obtain ⟨h, q⟩ := mu_wipe q
      obtain ⟨h', q'⟩ := mu_wipe q'
      rw [wipe_get h] at s
      rw [wipe_get h'] at s'
      exact r.dis j k e e' c q q' s s'
    · obtain ⟨h, q⟩ := mu_wipe q
      rw [wipe_get h] at s
      exact r.lo j e c q s
  same := Ext.refl F
  keep := fun _ _ h _ => h
  own := fun b z => by
    rcases z with ⟨j, e, q, s⟩ | z
    · obtain ⟨h, q⟩ := mu_wipe q
      rw [wipe_get h] at s
      exact .inl (.inl ⟨j, e, q, s⟩)
    · exact .inl (.inr z)
  dom := fun _ o h => ⟨o, h⟩
  fz := fun _ _ _ _ _ => rfl
/-- and taking them back -/
theorem Stp.rest {T : Tx} {F F' : Fz} {H H' : Hp} {ρ ρ2 : En} {σ : Sg} {vs : List Nat} (s : Stp T F H ρ σ F' H' ρ2 (L2.wipe σ vs)) (r : Rel T F H ρ σ) (hw : okW ρ vs = true) : Stp T F H ρ σ F' H' (restE ρ ρ2 vs) σ := by
  have hl : ρ2.s.length = ρ.s.length := by rw [s.rel.len, wipe_length, r.len]
  have mu : ∀ j d, MuAt (restE ρ ρ2 vs) j d → j ∉ vs ∧ MuAt ρ2 j d := fun j d e => by
    unfold MuAt at e
    by_cases h : j ∈ vs
    · rw [restE_in hl h] at e
      unfold okW at hw
      have z := List.all_eq_true.mp hw j h
      rw [e] at z
      cases z
    · rw [restE_out h] at e
      exact ⟨h, e⟩
  refine ⟨⟨by rw [restE_len, hl]; exact r.len, s.rel.sub, fun j e q => ?_, fun j e q => ?_, fun j k e e' c q q' t t' => ?_, by rw [restE_l]; exact s.rel.lv, fun j e c q t => ?_⟩, s.same, s.keep, fun b z => ?_, s.dom, s.fz⟩
  · by_cases h : j ∈ vs
    · rw [restE_in hl h] at q
      obtain ⟨x, h1, h2⟩ := r.sh j e q
      exact ⟨x, h1, h2.mono s.same⟩
    · rw [restE_out h] at q
      obtain ⟨x, h1, h2⟩ := s.rel.sh j e q
      rw [wipe_get h] at h1
      exact ⟨x, h1, h2⟩
  · obtain ⟨h, q⟩ := mu j e q
    obtain ⟨a, h1, h2⟩ := s.rel.ow j e q
    rw [wipe_get h] at h1
    exact ⟨a, h1, h2⟩
  · obtain ⟨h, q⟩ := mu j e q
    obtain ⟨h', q'⟩ := mu k e' q'
    exact s.rel.dis j k e e' c q q' (by rw [wipe_get h]; exact t) (by rw [wipe_get h']; exact t')
  · obtain ⟨h, q⟩ := mu j e q
    exact s.rel.lo j e c q (by rw [wipe_get h]; exact t)
  · rcases z with ⟨j, e, q, t⟩ | z
    · obtain ⟨h, q⟩ := mu j e q
      exact s.own b (.inl ⟨j, e, q, by rw [wipe_get h]; exact t⟩)
    · exact s.own b (.inr z)
theorem wipe_eq {σ σ' : Sg} {vs : List Nat} (hl : σ'.length = σ.length) (h : ∀ j : Nat, j ∉ vs → σ'[j]? = σ[j]?) : L2.wipe σ' vs = L2.wipe σ vs := by
  apply List.ext_getElem?
  intro j
  by_cases hj : j ∈ vs
  · have key : ∀ (τ : Sg) (us : List Nat), j ∈ us → (L2.wipe τ us)[j]? = if j < τ.length then some none else none := by
      intro τ us
      induction us with
      | nil => intro z; cases z
      | cons v us ih =>
        intro z
        unfold L2.wipe
        by_cases w : v = j
        · subst w
          by_cases hi : v < τ.length
          · rw [List.getElem?_set_self (by rw [wipe_length]; exact hi), if_pos hi]
          · rw [if_neg hi]
            exact List.getElem?_eq_none_iff.mpr (by rw [List.length_set, wipe_length]; omega)
        · rw [List.getElem?_set_ne w]
          rcases List.mem_cons.mp z with q | q
          · exact (w q.symm).elim
          · exact ih q
    rw [key σ' vs hj, key σ vs hj, hl]
  · rw [wipe_get hj, wipe_get hj, h j hj]

/-! ### the comprehension -/
/-- one after another: the target bound, the test, the element -/
def lcL (vs : List Nat) (p : Pat) (t : FT) (f : FE) (o : Option Nat) : Nat → List D → En → R (List D × En)
  | i, [], ρ => if fin ρ.l o i = true then .ok ([], ρ) else .no
  | i, d :: ds, ρ => match cur ρ.l o i d with
    | none => .no
    | some e => (match bindP p e ρ with
      | none => .no
      | some ρ1 => (t ρ1).sure.bind fun rt => if rt.1 = true then (f rt.2).sure.bind fun rf => (match frz rf.2 rf.1 with
          | none => .no
          | some z => (lcL vs p t f o (i + 1) ds (wipeE z.2 vs)).bind fun q => .ok (z.1 :: q.1, q.2)) else lcL vs p t f o (i + 1) ds (wipeE rt.2 vs))
def lcEnd (vs : List Nat) (p : Pat) (t : FT) (f : FE) (ri : Its × En) : R (Val × En) :=
  if okW ri.2 vs = true ∧ ri.1.ds.length ≤ 16777216 then (lcL vs p t f ri.1.lv 0 ri.1.ds (wipeE ri.2 vs)).bind fun q => .ok (.fr (.lst q.1), restE ri.2 q.2 vs) else .no
def evLC (vs : List Nat) (fi : FI) (p : Pat) (t : FT) (f : FE) : FE := fun ρ => (fi ρ).bind (lcEnd vs p t f)
theorem evLC_ok {vs : List Nat} {fi : FI} {p : Pat} {t : FT} {f : FE} (hp : ∀ j ∈ p.slots, j ∈ vs) {tt : TT} (htt : ∀ (σ : Sg) (H : Hp) (Q : Bool → Hp → Prop), tOfT (.of X) W0 t σ H Q → tt σ H Q) {σ : Sg} {H : Hp} {Q : VK}
    (h : tOf (.of X) W (evLC vs fi p t f) σ H Q) : tLc (tOfI (.of X) W fi) (gOf (.of X) p) tt (tOf (.of X) W0 f) vs σ H Q := by
  obtain ⟨ρ, F, rl, h⟩ := h
  unfold evLC at h
  refine ⟨ρ, F, rl, ?_⟩
  cases ea : fi ρ with
  | no => rw [ea] at h; exact h
  | ex c n d ρ' => rw [ea] at h; exact h
  | ok ri =>
    rw [ea] at h
    obtain ⟨⟨ds, o⟩, ρ0⟩ := ri
    intro J F1 H1 s1 w1 A hA
    have h : (match lcEnd vs p t f (⟨ds, o⟩, ρ0) with
      | .ok r => ∀ x F' H', Stp (.of X) F H ρ σ F' H' r.2 σ → VRel (.of X) H F' H' r.2 σ r.1 x → Q x H'
      | .ex c n d ρ' => ∀ F' H' cls dx, Stp (.of X) F H ρ σ F' H' ρ' σ → ERel (.of X) F' c n d cls dx → W cls dx σ H'
      | .no => False) := h
    unfold lcEnd at h
    by_cases hw : okW ρ0 vs = true ∧ ds.length ≤ 16777216
    · rw [if_pos hw] at h
      obtain ⟨hw, hlen⟩ := hw
      -- the step to the wiped state, the new list laid
      have n1 : New (.of X) F1 H1 F1 (upd H1 A (.lst [])) := New.fr s1.rel.sub hA
      have sA := s1.trans (n1.stp s1.rel)
      have sW : Stp (.of X) F1 H1 ρ0 σ F1 (upd H1 A (.lst [])) (wipeE ρ0 vs) (L2.wipe σ vs) := (n1.stp s1.rel).trans (Stp.wipe (n1.stp s1.rel).rel)
      refine ⟨fun i m Hi => m = ds.length - i ∧ i ≤ ds.length ∧ ∃ Fi ρi done acc, Stp (.of X) F1 H1 ρ0 σ Fi Hi ρi (L2.wipe σ vs) ∧ Ext F1 Fi ∧ Hi A = some (.lst acc) ∧ Fi A = none ∧ ¬ Owned Fi ρi (L2.wipe σ vs) A ∧ DenL (.of X) Fi done acc ∧ done.length ≤ i ∧
          (lcL vs p t f o i (ds.drop i) ρi).bind (fun q => .ok (done ++ q.1, q.2)) = lcL vs p t f o 0 ds (wipeE ρ0 vs), ⟨ds.length, by simp, Nat.zero_le _, F1, wipeE ρ0 vs, [], [], sW, Ext.refl F1, upd_same, s1.rel.sub.free hA, fun z => ?_, rfl, Nat.zero_le _, ?_⟩, ?_⟩
      · rcases sW.own A z with q | q
        · exact not_owned s1.rel hA q
        · rcases z with ⟨i, d, m, q⟩ | z
          · obtain ⟨hj, m⟩ := mu_wipe m
            rw [wipe_get hj] at q
            exact not_owned s1.rel hA (.inl ⟨i, d, m, q⟩)
          · exact not_owned s1.rel hA (.inr z)
      · rw [List.drop_zero]
        cases lcL vs p t f o 0 ds (wipeE ρ0 vs) with
        | ok r => rfl
        | ex c n d ρ' => rfl
        | no => rfl
      · rintro i m Hi ⟨rfl, hi, Fi, ρi, done, acc, si, mi, hAi, fAi, nAi, dl, dn, ei⟩
        have wi := w1 Fi Hi ρi.l mi si.rel.sub si.rel.lv i
        by_cases hlt : i < ds.length
        · refine .inr ?_
          have e0 : ds[i]? = some ds[i] := List.getElem?_eq_getElem hlt
          rw [List.drop_eq_getElem_cons hlt] at ei
          simp only [lcL] at ei
          cases ec : cur ρi.l o i ds[i] with
          | none => simp only [ec, R.bind] at ei; rw [← ei] at h; exact h.elim
          | some d0 =>
          simp only [ec] at ei
          obtain ⟨go, yl⟩ := wi.1 _ d0 e0 ec
          refine ⟨go, fun H' => ∃ m', m' < ds.length - i ∧ (m' = ds.length - (i + 1) ∧ i + 1 ≤ ds.length ∧ ∃ Fi ρi done acc, Stp (.of X) F1 H1 ρ0 σ Fi H' ρi (L2.wipe σ vs) ∧ Ext F1 Fi ∧ H' A = some (.lst acc) ∧ Fi A = none ∧ ¬ Owned Fi ρi (L2.wipe σ vs) A ∧ DenL (.of X) Fi done acc ∧ done.length ≤ i + 1 ∧
            (lcL vs p t f o (i + 1) (ds.drop (i + 1)) ρi).bind (fun q => .ok (done ++ q.1, q.2)) = lcL vs p t f o 0 ds (wipeE ρ0 vs)), fun _ z => z, fun x H2 y => ?_⟩
          obtain ⟨F2, n2, d2⟩ := yl x H2 y
          have s2 := n2.stp si.rel
          cases eb : bindP p d0 ρi with
          | none => simp only [eb, R.bind] at ei; rw [← ei] at h; exact h.elim
          | some ρ1 =>
            simp only [eb] at ei
            refine ⟨ρi, F2, d0, ρ1, s2.rel, d2, eb, fun σ2 b2 => ⟨?_, ?_⟩⟩
            · have z := wipe_eq (vs := vs) b2.len fun j hj => b2.oth j fun w => hj (hp j w)
              rw [z]
              exact wipe_eq (wipe_length σ vs) fun j hj => wipe_get hj
            · have ew : L2.wipe σ2 vs = L2.wipe σ vs := (wipe_eq (vs := vs) b2.len fun j hj => b2.oth j fun w => hj (hp j w)).trans (wipe_eq (wipe_length σ vs) fun j hj => wipe_get hj)
              have s3 := s2.trans b2.stp
              refine htt σ2 H2 _ ⟨ρ1, F2, b2.stp.rel, ?_⟩
              cases et : t ρ1 with
              | no => simp only [et, R.sure, R.bind] at ei; rw [← ei] at h; exact h
              | ex c n d ρ' => simp only [et, R.sure, R.bind] at ei; rw [← ei] at h; exact h.elim
              | ok rt =>
                obtain ⟨b, ρ2⟩ := rt
                simp only [et, R.sure, R.bind] at ei
                intro F3 H3 t3
                have s4 := s3.trans t3
                -- the list stands, whatever was done
                have stand : ∀ {F4 H4 ρ4}, Stp (.of X) Fi Hi ρi (L2.wipe σ vs) F4 H4 ρ4 σ2 → H4 A = some (.lst acc) ∧ F4 A = none ∧ ¬ Owned F4 ρ4 σ2 A := fun {F4 H4 ρ4} s => by
                  refine ⟨s.keep A _ hAi nAi, (s.fz A _ hAi nAi fun c z => by cases z).trans fAi, fun z => ?_⟩
                  rcases s.own A z with q | q
                  · exact nAi q
                  · rw [hAi] at q; cases q
                have wiped : ∀ {F4 H4 ρ4}, Stp (.of X) Fi Hi ρi (L2.wipe σ vs) F4 H4 ρ4 σ2 → Stp (.of X) F4 H4 ρ4 σ2 F4 H4 (wipeE ρ4 vs) (L2.wipe σ vs) := fun {F4 H4 ρ4} s => by
                  rw [← ew]
                  exact Stp.wipe s.rel
                have unw : ∀ {F4 : Fz} {ρ4 : En}, ¬ Owned F4 ρ4 σ2 A → ¬ Owned F4 (wipeE ρ4 vs) (L2.wipe σ vs) A := fun {F4 ρ4} n z => by
                  rcases z with ⟨k, d, m, q⟩ | z
                  · obtain ⟨hk, m⟩ := mu_wipe m
                    rw [← ew, wipe_get hk] at q
                    exact n (.inl ⟨k, d, m, q⟩)
                  · exact n (.inr z)
                cases b with
                | false =>
                  simp only [Bool.false_eq_true, if_false] at ei ⊢
                  obtain ⟨a1, a2, a3⟩ := stand s4
                  exact ⟨_, by omega, rfl, hlt, F3, wipeE ρ2 vs, done, acc, (si.trans s4).trans (wiped s4), mi.trans s4.same, a1, a2, unw a3, DenL.mono s4.same _ dl, by omega, ei⟩
                | true =>
                  simp only [if_true] at ei ⊢
                  refine ⟨ρ2, F3, t3.rel, ?_⟩
                  cases ef : f ρ2 with
                  | no => simp only [ef] at ei; rw [← ei] at h; exact h
                  | ex c n d ρ' => simp only [ef] at ei; rw [← ei] at h; exact h.elim
                  | ok rf =>
                    obtain ⟨v, ρ3⟩ := rf
                    simp only [ef] at ei
                    intro y F4 H4 t4 v4
                    cases ez : frz ρ3 v with
                    | none => simp only [ez] at ei; rw [← ei] at h; exact h.elim
                    | some z =>
                      obtain ⟨e, ρ4⟩ := z
                      simp only [ez] at ei
                      obtain ⟨F5, t5, _, d5⟩ := frz_val t4 v4 ez
                      have s5 := s4.trans t5
                      obtain ⟨a1, a2, a3⟩ := stand s5
                      have la : acc.length < 16777216 := by rw [← dl.length]; omega
                      refine ⟨acc, a1, size_lt la, ?_⟩
                      have w5 := wiped s5
                      have si5 := (si.trans s5).trans w5
                      -- the list grows
                      have grow : Stp (.of X) F1 H1 ρ0 σ F5 (upd H4 A (.lst (acc ++ [y]))) (wipeE ρ4 vs) (L2.wipe σ vs) := by
                        have nA := unw a3
                        refine ⟨⟨si5.rel.len, fun b o q => ?_, si5.rel.sh, fun j d q => ?_, si5.rel.dis, si5.rel.lv.keep (Ext.refl _) rfl (fun c hc => ?_) (fun c hc => upd_ne fun z => nA (.inr (by rw [← z]; exact hc))) fun c hc g z => ?_, si5.rel.lo⟩, si5.same, fun b o q no => ?_, si5.own, fun b o q => ?_, si5.fz⟩
                        · rw [upd_ne (fun z => by rw [z, a2] at q; cases q)]
                          exact si5.rel.sub b o q
                        · obtain ⟨c, c1, c2, c3⟩ := si5.rel.ow j d q
                          have hne : c ≠ A := fun z => nA (.inl ⟨j, d, q, by rw [c1, z]⟩)
                          exact ⟨c, c1, c2, c3.mono (Ext.refl _) (upd_ne hne) fun g z => by rw [upd_ne (fun z' => by rw [z', a1] at z; cases z)]; exact z⟩
                        · obtain ⟨_, _, _, _, hn', _⟩ := si5.rel.lv.mem hc
                          exact hn'
                        · rw [upd_ne (fun z' => by rw [z', a1] at z; cases z)]; exact z
                        · rw [upd_ne (ne_of_none q hA)]
                          exact si5.keep b o q no
                        · rw [upd_ne (ne_of_none q hA)]
                          exact si5.dom b o q
                      refine ⟨_, by omega, rfl, hlt, F5, wipeE ρ4 vs, done ++ [e], acc ++ [y], grow, mi.trans s5.same, upd_same, a2, unw a3, (DenL.mono s5.same _ dl).snoc d5, by rw [List.length_append]; simp; omega, ?_⟩
                      rw [← ei]
                      cases lcL vs p t f o (i + 1) (ds.drop (i + 1)) (wipeE ρ4 vs) with
                      | ok r => simp [R.bind]
                      | ex c n d ρ' => rfl
                      | no => rfl
        · rw [List.drop_eq_nil_of_le (by omega)] at ei
          simp only [lcL] at ei
          by_cases hf : fin ρi.l o i = true
          · refine .inl ⟨wi.2 (show ds.length ≤ i by omega) hf, ?_⟩
            simp only [hf, if_true, R.bind, List.append_nil] at ei
            rw [← ei] at h
            have h : ∀ x F' H', Stp (.of X) F H ρ σ F' H' (restE ρ0 ρi vs) σ → VRel (.of X) H F' H' (restE ρ0 ρi vs) σ (.fr (.lst done)) x → Q x H' := h
            have sr := Stp.rest si s1.rel hw
            refine h (.ref A) Fi Hi (s1.trans sr) ⟨A, rfl, fAi, s1.free hA, fun z => ?_, acc, hAi, dl⟩
            rcases z with ⟨k, d, e, q3⟩ | z
            · have hl : ρi.s.length = ρ0.s.length := by rw [si.rel.len, wipe_length, s1.rel.len]
              by_cases hk : k ∈ vs
              · unfold MuAt at e
                rw [restE_in hl hk] at e
                unfold okW at hw
                have z := List.all_eq_true.mp hw k hk
                rw [e] at z
                cases z
              · unfold MuAt at e
                rw [restE_out hk] at e
                exact nAi (.inl ⟨k, d, e, by rw [wipe_get hk]; exact q3⟩)
            · exact nAi (.inr z)
          · simp only [hf, if_false, R.bind] at ei
            rw [← ei] at h
            exact h.elim
    · rw [if_neg hw] at h; exact h.elim
/-- no test, one test -/
def ftYes : FT := fun ρ => .ok (true, ρ)
theorem yes_ok {σ : Sg} {H : Hp} {Q : Bool → Hp → Prop} (h : tOfT (.of X) W0 ftYes σ H Q) : tYes σ H Q := by
  obtain ⟨ρ, F, rl, h⟩ := h
  exact h F H (Stp.refl rl)
theorem se_lc {elt tg iter : Expr} {scope : Scope} {own : List (Str × Nat)} {pos : Pos} {fi : FI} {p : Pat} {f : FE} (hc : X.calm = true) (hN : X.N.Nodup) (hi : SI X W tg iter fi) (ok : BlkOk X.N X.env.scope scope own)
    (hg : ∀ (s : Shared) (H : Hp) (C : Addr) (cl : List (Str × Addr)) (fp : List Addr), SG (X.blk s H scope (compEnvC scope cl C X.env) fp) tg p)
    (he : ∀ (s : Shared) (H : Hp) (C : Addr) (cl : List (Str × Addr)) (fp : List Addr), SE (X.blk s H scope (compEnvC scope cl C X.env) fp) W0 elt f)
    (hp : ∀ j ∈ p.slots, j ∈ own.map (·.2) := by decide) (hs : ∀ x, foldedSetIterable iter X.env x = pure x := by intro _; rfl) :
    SE X W (.ListComp elt [⟨tg, iter, [], 0⟩] scope pos) (evLC (own.map (·.2)) fi p ftYes f) :=
  pe_imp (pe_lc (g := gOf (.of X) p) (tt := tYes) (te := tOf (.of X) W0 f) hc hN hi ok hg (fun _ _ _ _ _ => pts_nil) he hs) fun σ H Q h => evLC_ok hp (fun _ _ _ z => yes_ok z) h
theorem se_lcIf {elt tg iter c : Expr} {scope : Scope} {own : List (Str × Nat)} {pos : Pos} {fi : FI} {p : Pat} {t : FT} {f : FE} (hc : X.calm = true) (hN : X.N.Nodup) (hi : SI X W tg iter fi) (ok : BlkOk X.N X.env.scope scope own)
    (hg : ∀ (s : Shared) (H : Hp) (C : Addr) (cl : List (Str × Addr)) (fp : List Addr), SG (X.blk s H scope (compEnvC scope cl C X.env) fp) tg p)
    (ht : ∀ (s : Shared) (H : Hp) (C : Addr) (cl : List (Str × Addr)) (fp : List Addr), ST (X.blk s H scope (compEnvC scope cl C X.env) fp) W0 c t)
    (he : ∀ (s : Shared) (H : Hp) (C : Addr) (cl : List (Str × Addr)) (fp : List Addr), SE (X.blk s H scope (compEnvC scope cl C X.env) fp) W0 elt f)
    (hp : ∀ j ∈ p.slots, j ∈ own.map (·.2) := by decide) (hs : ∀ x, foldedSetIterable iter X.env x = pure x := by intro _; rfl) :
    SE X W (.ListComp elt [⟨tg, iter, [c], 0⟩] scope pos) (evLC (own.map (·.2)) fi p t f) :=
  pe_imp (pe_lc (g := gOf (.of X) p) (tt := tOfT (.of X) W0 t) (te := tOf (.of X) W0 f) hc hN hi ok hg (fun s H C cl fp => pts_one (ht s H C cl fp)) he hs) fun σ H Q h => evLC_ok hp (fun _ _ _ z => z) h
/-- y = [..] -/
theorem ss_setLc {i : Nat} {y : Str} {py : Pos} {elt tg iter : Expr} {scope : Scope} {own : List (Str × Nat)} {pos spos : Pos} {fi : FI} {p : Pat} {f : FE} (hc : X.calm = true) (hN : X.N.Nodup) (hi : SI X W tg iter fi) (ok : BlkOk X.N X.env.scope scope own)
    (hg : ∀ (s : Shared) (H : Hp) (C : Addr) (cl : List (Str × Addr)) (fp : List Addr), SG (X.blk s H scope (compEnvC scope cl C X.env) fp) tg p)
    (he : ∀ (s : Shared) (H : Hp) (C : Addr) (cl : List (Str × Addr)) (fp : List Addr), SE (X.blk s H scope (compEnvC scope cl C X.env) fp) W0 elt f)
    (hsw : swapsWith (.ListComp elt [⟨tg, iter, [], 0⟩] scope pos) (some (.Name y py)) spos.line X.env = pure true)
    (hy : X.N[i]? = some y := by rfl) (hyl : X.env.scope.names.lookup y = some .local := by rfl) (hp : ∀ j ∈ p.slots, j ∈ own.map (·.2) := by decide) (hs : ∀ x, foldedSetIterable iter X.env x = pure x := by intro _; rfl) :
    SS X W (.Assign [.Name y py] (.ListComp elt [⟨tg, iter, [], 0⟩] scope pos) spos) (fsSet i (evLC (own.map (·.2)) fi p ftYes f)) :=
  ps_imp (ps_setLc (g := gOf (.of X) p) (tt := tYes) (te := tOf (.of X) W0 f) hc hN hy hyl hsw hi ok hg (fun _ _ _ _ _ => pts_nil) he hs) fun D σ H h => evLC_ok hp (fun _ _ _ z => yes_ok z) (fsVal_ok h fun ρ F v ρ1 x F1 H1 s1 v1 q => by
    cases e1 : store ρ1 i v with
    | none => simp only [e1] at q
    | some ρ2 =>
      simp only [e1] at q
      obtain ⟨F2, s2⟩ := store_ok' s1 v1 e1
      exact q _ F2 H1 s2)
theorem ss_setLcIf {i : Nat} {y : Str} {py : Pos} {elt tg iter c : Expr} {scope : Scope} {own : List (Str × Nat)} {pos spos : Pos} {fi : FI} {p : Pat} {t : FT} {f : FE} (hc : X.calm = true) (hN : X.N.Nodup) (hi : SI X W tg iter fi) (ok : BlkOk X.N X.env.scope scope own)
    (hg : ∀ (s : Shared) (H : Hp) (C : Addr) (cl : List (Str × Addr)) (fp : List Addr), SG (X.blk s H scope (compEnvC scope cl C X.env) fp) tg p)
    (ht : ∀ (s : Shared) (H : Hp) (C : Addr) (cl : List (Str × Addr)) (fp : List Addr), ST (X.blk s H scope (compEnvC scope cl C X.env) fp) W0 c t)
    (he : ∀ (s : Shared) (H : Hp) (C : Addr) (cl : List (Str × Addr)) (fp : List Addr), SE (X.blk s H scope (compEnvC scope cl C X.env) fp) W0 elt f)
    (hsw : swapsWith (.ListComp elt [⟨tg, iter, [c], 0⟩] scope pos) (some (.Name y py)) spos.line X.env = pure true)
    (hy : X.N[i]? = some y := by rfl) (hyl : X.env.scope.names.lookup y = some .local := by rfl) (hp : ∀ j ∈ p.slots, j ∈ own.map (·.2) := by decide) (hs : ∀ x, foldedSetIterable iter X.env x = pure x := by intro _; rfl) :
    SS X W (.Assign [.Name y py] (.ListComp elt [⟨tg, iter, [c], 0⟩] scope pos) spos) (fsSet i (evLC (own.map (·.2)) fi p t f)) :=
  ps_imp (ps_setLc (g := gOf (.of X) p) (tt := tOfT (.of X) W0 t) (te := tOf (.of X) W0 f) hc hN hy hyl hsw hi ok hg (fun s H C cl fp => pts_one (ht s H C cl fp)) he hs) fun D σ H h => evLC_ok hp (fun _ _ _ z => z) (fsVal_ok h fun ρ F v ρ1 x F1 H1 s1 v1 q => by
    cases e1 : store ρ1 i v with
    | none => simp only [e1] at q
    | some ρ2 =>
      simp only [e1] at q
      obtain ⟨F2, s2⟩ := store_ok' s1 v1 e1
      exact q _ F2 H1 s2)
end
end Tr
/-! Tr, part F: defs of the module as functions on trees and live objects; their calls. -/
namespace Tr
open PySem PySem.Spec PyProof.Rows L2

/-- what a def comes to: a value (new or not), the live objects then; an error -/
inductive RF where
  | ok (fr : Bool) (d : D) (L : List D) | ex (c n : Str) (d : D) (L : List D) | no
abbrev FF := List D → List D → RF
/-! ### live objects that nobody can come to any more are dropped -/
mutual
def D.lt (k : Nat) : D → Bool
  | .lst ds => D.lts k ds
  | .tup ds => D.lts k ds
  | .dK _ ds => D.lts k ds
  | .dT _ ds => D.lts k ds
  | .ins _ _ ds => D.lts k ds
  | .exn _ _ d => D.lt k d
  | .ref n => decide (n < k)
  | _ => true
def D.lts (k : Nat) : List D → Bool
  | [] => true
  | d :: ds => D.lt k d && D.lts k ds
end
abbrev Fz.cut (F : Fz) (k : Nat) : Fz := ⟨F.hp, F.as.take k⟩
mutual
theorem Den.cut {T : Tx} {F : Fz} {k : Nat} : ∀ (d : D) {x : V}, D.lt k d = true → Den T F d x → Den T (F.cut k) d x
  | .non, _, _, h => h
  | .bl _, _, _, h => h
  | .int _, _, _, h => h
  | .str _, _, _, h => h
  | .lst ds, _, q, ⟨a, xs, h1, h2, h3⟩ => ⟨a, xs, h1, h2, DenL.cutL ds q h3⟩
  | .tup ds, _, q, ⟨a, xs, h1, h2, h3⟩ => ⟨a, xs, h1, h2, DenL.cutL ds q h3⟩
  | .dK ks ds, _, q, ⟨a, xs, h1, h2, h3, h4⟩ => ⟨a, xs, h1, h2, h3, DenL.cutL ds q h4⟩
  | .dT ks ds, _, q, ⟨a, xs, h1, h2, h3, h4⟩ => ⟨a, xs, h1, h2, h3, DenL.cutL ds q h4⟩
  | .ins c ns ds, _, q, ⟨a, C, dx, xs, h1, h2, h3, h4, h5, h6⟩ => ⟨a, C, dx, xs, h1, h2, h3, h4, h5, DenL.cutL ds q h6⟩
  | .exn c n d, _, q, ⟨a, C, dx, y, h1, h2, h3, h5⟩ => ⟨a, C, dx, y, h1, h2, h3, Den.cut d q h5⟩
  | .ty _, _, _, h => h
  | .glo _, _, _, h => h
  | .scr _, _, _, ⟨a, h1, h2⟩ => ⟨a, h1, h2⟩
  | .ref n, _, q, ⟨a, h1, h2⟩ => ⟨a, h1, by
    have q : n < k := of_decide_eq_true q
    show (F.as.take k)[n]? = some a
    rw [List.getElem?_take_of_lt q]; exact h2⟩
theorem DenL.cutL {T : Tx} {F : Fz} {k : Nat} : ∀ (ds : List D) {xs : List V}, D.lts k ds = true → DenL T F ds xs → DenL T (F.cut k) ds xs
  | [], _, _, h => h
  | d :: ds, _, q, ⟨x, r, h1, h2, h3⟩ => by
    simp only [D.lts, Bool.and_eq_true] at q
    exact ⟨x, r, h1, Den.cut d q.1 h2, DenL.cutL ds q.2 h3⟩
end
theorem OwnAt.cut {T : Tx} {F : Fz} {H : Hp} {k : Nat} {d : D} {a : Addr} (q : D.lt k d = true) (h : OwnAt T F H d a) : OwnAt T (F.cut k) H d a := by
  cases d with
  | lst ds => obtain ⟨xs, h1, h2⟩ := h; exact ⟨xs, h1, DenL.cutL _ q h2⟩
  | dK ks ds => obtain ⟨xs, h1, h2, h3⟩ := h; exact ⟨xs, h1, h2, DenL.cutL _ q h3⟩
  | dT ks ds => obtain ⟨xs, h1, h2, h3⟩ := h; exact ⟨xs, h1, h2, DenL.cutL _ q h3⟩
  | ins c ns ds => obtain ⟨C, dx, xs, h1, h2, h3, h4, h5⟩ := h; exact ⟨C, dx, xs, h1, h2, h3, h4, DenL.cutL _ q h5⟩
  | _ => exact h.elim
def trim (k : Nat) (d : D) (L : List D) : List D := if (D.lt k d && D.lts k (L.take k)) = true then L.take k else L
theorem trim_self {k : Nat} {d : D} {L : List D} (h : L.length = k) : trim k d L = L := by
  unfold trim
  split
  · exact List.take_of_length_le (by omega)
  · rfl
theorem D.lts_get {k : Nat} : ∀ {ds : List D} {n : Nat} {d : D}, D.lts k ds = true → ds[n]? = some d → D.lt k d = true
  | [], _, _, _, h => by simp at h
  | e :: ds, 0, d, q, h => by
    simp only [D.lts, Bool.and_eq_true] at q
    cases h
    exact q.1
  | e :: ds, n + 1, d, q, h => by
    simp only [D.lts, Bool.and_eq_true] at q
    exact D.lts_get (n := n) q.2 h
/-- from the state at a call to the state behind it -/
structure Cst (F : Fz) (H : Hp) (F' : Fz) (H' : Hp) : Prop where
  ff : Ext F F'
  fh : Same F'.hp H'
  keep : ∀ b o, H b = some o → b ∉ F.as → H' b = some o
  own : ∀ b, b ∈ F'.as → b ∈ F.as ∨ H b = none
  dom : ∀ b o, H b = some o → ∃ o', H' b = some o'
  fz : ∀ b o, H b = some o → b ∉ F.as → (∀ c, o ≠ .own c) → F' b = F b
theorem trim_ok {T : Tx} {F F' : Fz} {H H' : Hp} {ρ0 ρ' : En} {σ0 σ' : Sg} (t : Stp T F H ρ0 σ0 F' H' ρ' σ') (h0 : ∀ b, Owned F ρ0 σ0 b → b ∈ F.as) (d : D) :
    ∃ F'', Cst F H F'' H' ∧ Live T F'' H' (trim F.as.length d ρ'.l) ∧ F''.hp = F'.hp ∧ (∀ x, Den T F' d x → Den T F'' d x) ∧ (∀ a, OwnAt T F' H' d a → OwnAt T F'' H' d a) ∧ ∀ a, a ∈ F''.as → a ∈ F'.as := by
  have lv := t.rel.lv
  have c1 : ∀ b o, H b = some o → b ∉ F.as → H' b = some o := fun b o h n => t.keep b o h fun z => n (h0 b z)
  have c2 : ∀ b o, H b = some o → b ∉ F.as → (∀ c, o ≠ .own c) → F' b = F b := fun b o h n w => t.fz b o h (fun z => n (h0 b z)) w
  unfold trim
  split
  · rename_i q
    rw [Bool.and_eq_true] at q
    refine ⟨F'.cut F.as.length, ⟨⟨t.same.hp, fun n a h => ?_⟩, t.rel.sub, c1, fun b hb => ?_, t.dom, c2⟩, ⟨?_, fun n e a q1 q2 => ?_, ?_⟩, rfl, fun x h => Den.cut d q.1 h, fun a h => h.cut q.1, fun a h => List.mem_of_mem_take h⟩
    · show (F'.as.take F.as.length)[n]? = some a
      rw [List.getElem?_take_of_lt (List.getElem?_eq_some_iff.mp h).1]
      exact t.same.as n a h
    · left
      have hb : b ∈ F'.as.take F.as.length := hb
      obtain ⟨n, hn, e⟩ := List.getElem_of_mem hb
      rw [List.length_take] at hn
      have hn2 : n < F.as.length := by omega
      have e1 : F.as[n]? = some F.as[n] := List.getElem?_eq_getElem hn2
      have e2 := t.same.as n _ e1
      rw [List.getElem_take] at e
      rw [List.getElem?_eq_getElem (by omega)] at e2
      have e3 := Option.some.inj e2
      rw [e] at e3
      rw [e3]
      exact List.getElem_mem hn2
    · show (F'.as.take F.as.length).length = _
      rw [List.length_take, List.length_take, lv.len]
    · have q2 : (F'.as.take F.as.length)[n]? = some a := q2
      have hn : n < F.as.length := by
        have := (List.getElem?_eq_some_iff.mp q2).1
        rw [List.length_take] at this
        omega
      have l1 := D.lts_get q.2 q1
      rw [List.getElem?_take_of_lt hn] at q1 q2
      obtain ⟨z1, z2⟩ := lv.ok n e a q1 q2
      exact ⟨z1, z2.cut l1⟩
    · exact lv.dis.sublist (List.take_sublist _ _)
  · exact ⟨F', ⟨t.same, t.rel.sub, c1, fun b hb => (t.own b (.inr hb)).imp (h0 b) id, t.dom, c2⟩, lv, rfl, fun _ h => h, fun _ h => h, fun _ h => h⟩
/-- the value that comes back -/
def BRel (T : Tx) (H : Hp) (F' : Fz) (H' : Hp) (fr : Bool) (d : D) (x : V) : Prop :=
  if fr = true then ∃ p, x = .ref p ∧ H p = none ∧ F' p = none ∧ p ∉ F'.as ∧ OwnAt T F' H' d p else Den T F' d x
/-- the promise of a def -/
def spP (T : Tx) (run : FF) : Sp := fun vs H Q E => ∃ F ds L, Same F.hp H ∧ Live T F H L ∧ DenL T F ds vs ∧ match run ds L with
  | .ok fr d L' => ∀ x F' H', Cst F H F' H' → Live T F' H' L' → BRel T H F' H' fr d x → Q x H'
  | .ex c n d L' => ∀ F' H' cls dx, Cst F H F' H' → Live T F' H' L' → ERel T F' c n d cls dx → E cls dx H'
  | .no => False

/-! ### from a body -/
def startP (n : Nat) (ds L : List D) : En := ⟨ds.map .sh ++ List.replicate (n - ds.length) .un, L⟩
def retV (k : Nat) (ρ : En) : Val → RF
  | .sh d => .ok false d (trim k d ρ.l)
  | .fr d => .ok true d (trim k d ρ.l)
  | .rf i => match ρ.s[i]? with
    | some (.ow d) => .ok true d (trim k d ρ.l)
    | some (.sh d) => .ok false d (trim k d ρ.l)
    | _ => .no
def finP (k : Nat) : R (Fl × En) → RF
  | .ok (.nx, ρ) => .ok false .non (trim k .non ρ.l)
  | .ok (.rt v, ρ) => retV k ρ v
  | .ex c n d ρ => .ex c n d (trim k d ρ.l)
  | _ => .no
def runP (n m : Nat) (fb : FS) : FF := fun ds L => if ds.length = m then finP L.length (fb (startP n ds L)) else .no
theorem startP_mu {n : Nat} {ds L : List D} {i : Nat} {d : D} : ¬ MuAt (startP n ds L) i d := fun e => by
  unfold MuAt startP at e
  simp only at e
  by_cases hi : i < ds.length
  · rw [List.getElem?_append_left (by rw [List.length_map]; exact hi), List.getElem?_map, List.getElem?_eq_getElem hi] at e
    cases e
  · rw [List.getElem?_append_right (by rw [List.length_map]; omega)] at e
    cases List.eq_of_mem_replicate (List.mem_of_getElem? e)
theorem startP_rel {T : Tx} {F : Fz} {H : Hp} {N : List Str} {ds L : List D} {vs : List V} (s : Same F.hp H) (lv : Live T F H L) (h : DenL T F ds vs) : Rel T F H (startP N.length ds L) (start N vs) := by
  have hl := h.length
  refine ⟨?_, s, fun i d e => ?_, fun i d m => (startP_mu m).elim, fun i j d e a m => (startP_mu m).elim, lv, fun i d a m => (startP_mu m).elim⟩
  · unfold startP L2.start
    simp only [List.length_append, List.length_map, List.length_replicate]
    omega
  · unfold startP at e
    simp only at e
    by_cases hi : i < ds.length
    · rw [List.getElem?_append_left (by rw [List.length_map]; exact hi), List.getElem?_map, List.getElem?_eq_getElem hi] at e
      cases e
      obtain ⟨x, hx, hd⟩ := h.get (List.getElem?_eq_getElem hi)
      refine ⟨x, ?_, hd⟩
      unfold L2.start
      rw [List.getElem?_append_left (by rw [List.length_map]; omega), List.getElem?_map, hx]
      rfl
    · rw [List.getElem?_append_right (by rw [List.length_map]; omega)] at e
      have := List.eq_of_mem_replicate (List.mem_of_getElem? e)
      cases this
theorem startP_own {F : Fz} {n : Nat} {ds L : List D} {σ : Sg} (b : Addr) (h : Owned F (startP n ds L) σ b) : b ∈ F.as := by
  rcases h with ⟨i, d, m, _⟩ | h
  · exact (startP_mu m).elim
  · exact h
theorem spP_run {N ps : List Str} {X : Cx} {body : List Stmt} {fb : FS} {vs : List V} {H : Hp} {Q : VK} {E : XK} (h : spP (.of X) (runP N.length ps.length fb) vs H Q E) :
    tOfS (.of X) (fun cls d _ H' => E cls d H') fb { nx := fun _ H' => Q .non H', rt := Q } (L2.start N vs) H := by
  obtain ⟨G, ds, L, s0, lv, hd, h⟩ := h
  unfold runP at h
  by_cases hl : ds.length = ps.length
  · rw [if_pos hl] at h
    refine ⟨startP N.length ds L, G, startP_rel s0 lv hd, ?_⟩
    rw [← lv.len] at h
    cases er : fb (startP N.length ds L) with
    | no => rw [er] at h; exact h
    | ex c n d ρ' =>
      rw [er] at h
      intro σ' F' H' cls dx t ⟨C, e, x, e1, e2, e3, e4, e5⟩
      obtain ⟨F'', k1, k2, k3, k4, _, _⟩ := trim_ok t startP_own d
      exact h F'' H' cls dx k1 k2 ⟨C, e, x, e1, e2, e3, by rw [k3]; exact e4, k4 x e5⟩
    | ok r =>
      obtain ⟨fl, ρ'⟩ := r
      rw [er] at h
      intro σ' F' H' t
      cases fl with
      | nx =>
        obtain ⟨F'', k1, k2, _⟩ := trim_ok t startP_own .non
        exact h .non F'' H' k1 k2 (by unfold BRel; rw [if_neg Bool.false_ne_true]; rfl)
      | bk => exact h.elim
      | ct => exact h.elim
      | rt v =>
        intro y hv
        have h : (match retV G.as.length ρ' v with
          | .ok fr d L' => ∀ x F' H', Cst G H F' H' → Live (.of X) F' H' L' → BRel (.of X) H F' H' fr d x → Q x H'
          | .ex c n d L' => ∀ F' H' cls dx, Cst G H F' H' → Live (.of X) F' H' L' → ERel (.of X) F' c n d cls dx → E cls dx H'
          | .no => False) := h
        cases v with
        | sh d =>
          obtain ⟨F'', k1, k2, k3, k4, _, _⟩ := trim_ok t startP_own d
          exact h y F'' H' k1 k2 (by unfold BRel; rw [if_neg Bool.false_ne_true]; exact k4 y hv)
        | fr d =>
          obtain ⟨F'', k1, k2, k3, _, k5, k6⟩ := trim_ok t startP_own d
          obtain ⟨a, q1, q2, q3, q4, q5⟩ := hv
          exact h y F'' H' k1 k2 (by unfold BRel; rw [if_pos rfl]; exact ⟨a, q1, q3, by rw [k3]; exact q2, fun z => q4 (.inr (k6 a z)), k5 a q5⟩)
        | rf i =>
          obtain ⟨h1, c, h2⟩ := hv
          unfold retV at h
          simp only [h2] at h
          obtain ⟨F'', k1, k2, k3, _, k5, k6⟩ := trim_ok t startP_own c
          obtain ⟨a, a1, a2, a3⟩ := t.rel.ow i c h2
          rw [h1] at a1
          cases a1
          have nl := t.rel.lo i c a h2 h1
          refine h _ F'' H' k1 k2 (by
            unfold BRel
            rw [if_pos rfl]
            refine ⟨a, rfl, ?_, by rw [k3]; exact a2, fun z => nl (k6 a z), k5 a a3⟩
            rcases t.own a (.inl ⟨i, c, h2, h1⟩) with z | z
            · have z := startP_own a z
              obtain ⟨n, hn, e⟩ := List.getElem_of_mem z
              exact (nl (List.mem_of_getElem? (t.same.as n a (by rw [List.getElem?_eq_getElem hn, e])))).elim
            · exact z)
  · rw [if_neg hl] at h; exact h.elim

/-! ### calls -/
/-- the value of a call -/
def backV (fr : Bool) (d : D) : Val := if fr = true then .fr d else .sh d
theorem Cst.stp {T : Tx} {F F' : Fz} {H H' : Hp} {ρ : En} {σ : Sg} {L' : List D} (c : Cst F H F' H') (r : Rel T F H ρ σ) (lv : Live T F' H' L') : Stp T F H ρ σ F' H' ⟨ρ.s, L'⟩ σ where
  rel := by
    refine ⟨r.len, c.fh, fun i d q => ?_, fun i d q => ?_, r.dis, lv, fun i d a q h z => ?_⟩
    · obtain ⟨x, h1, h2⟩ := r.sh i d q
      exact ⟨x, h1, h2.mono c.ff⟩
    · obtain ⟨a, h1, h2, h3⟩ := r.ow i d q
      obtain ⟨o, h4, h5⟩ := h3.some
      have nl := r.lo i d a q h1
      refine ⟨a, h1, (c.fz a o h4 nl h5).trans h2, h3.mono c.ff ((c.keep a o h4 nl).trans h4.symm) fun b q => c.keep b _ q fun z => ?_⟩
      obtain ⟨o', z1, z2⟩ := r.lv.obj z
      rw [q] at z1
      exact z2 a (Option.some.inj z1).symm
    · obtain ⟨b, h1, _, h3⟩ := r.ow i d q
      rw [h] at h1
      cases h1
      obtain ⟨o, h4, _⟩ := h3.some
      rcases c.own a z with w | w
      · exact r.lo i d a q h w
      · rw [h4] at w; cases w
  same := c.ff
  keep := fun b o h n => c.keep b o h fun z => n (.inr z)
  own := fun b z => by
    rcases z with ⟨i, d, q, t⟩ | z
    · exact .inl (.inl ⟨i, d, q, t⟩)
    · exact (c.own b z).imp .inr id
  dom := c.dom
  fz := fun b o h n z => c.fz b o h (fun w => n (.inr w)) z
theorem BRel.vrel {T : Tx} {F F' : Fz} {H H' : Hp} {ρ : En} {σ : Sg} {L' : List D} {fr : Bool} {d : D} {x : V} (r : Rel T F H ρ σ) (h : BRel T H F' H' fr d x) : VRel T H F' H' ⟨ρ.s, L'⟩ σ (backV fr d) x := by
  unfold BRel at h
  unfold backV
  cases fr with
  | false => rw [if_neg Bool.false_ne_true] at h ⊢; exact h
  | true =>
    rw [if_pos rfl] at h ⊢
    obtain ⟨p, h1, h2, h3, h4, h5⟩ := h
    refine ⟨p, h1, h3, h2, fun z => ?_, h5⟩
    rcases z with ⟨i, d, q, t⟩ | z
    · exact not_owned r h2 (.inl ⟨i, d, q, t⟩)
    · exact h4 z
/-- f(e, ..): all arguments stay, or are live -/
def callP (run : FF) (ds0 : List D) (r : List Val × En) : R (Val × En) := match frzL r.2 r.1 with
  | some (ds, ρ) => (match run (ds ++ ds0) ρ.l with
    | .ok fr d L => .ok (backV fr d, ⟨ρ.s, L⟩)
    | .ex c n d L => .ex c n d ⟨ρ.s, L⟩
    | .no => .no)
  | none => .no
def evCall (run : FF) (ds0 : List D) (f : FA) : FE := fun ρ => (f ρ).bind (callP run ds0)
section
variable {X : Cx} {W : WX}
theorem evCall_ok {run : FF} {ds0 : List D} {dvs : List V} {f : FA} {E : XK} (hd0 : ∀ F, DenL (.of X) F ds0 dvs) {σ : Sg} {H : Hp} {Q : VK} (hE : ∀ cls d H, E cls d H → W cls d σ H) (hE' : ∀ cls d H, W cls d σ H → E cls d H) (h : tOf (.of X) W (evCall run ds0 f) σ H Q) :
    tCall (spP (.of X) run) dvs E (tOfA (.of X) W f) σ H Q := by
  obtain ⟨ρ, F, rl, h⟩ := h
  unfold evCall at h
  refine ⟨ρ, F, rl, ?_⟩
  cases ea : f ρ with
  | no => rw [ea] at h; exact h
  | ex c n d ρ' => rw [ea] at h; exact h
  | ok ra =>
    rw [ea] at h
    intro xs F1 H1 s1 p1
    have h : (match callP run ds0 ra with
      | .ok r => ∀ x F' H', Stp (.of X) F H ρ σ F' H' r.2 σ → VRel (.of X) H F' H' r.2 σ r.1 x → Q x H'
      | .ex c n d ρ' => ∀ F' H' cls dx, Stp (.of X) F H ρ σ F' H' ρ' σ → ERel (.of X) F' c n d cls dx → W cls dx σ H'
      | .no => False) := h
    unfold callP at h
    cases e1 : frzL ra.2 ra.1 with
    | none => simp only [e1] at h
    | some z =>
      obtain ⟨ds, ρ2⟩ := z
      simp only [e1] at h
      obtain ⟨F2, s2, d2⟩ := p1.frz s1.rel e1
      have s12 := s1.trans s2
      refine ⟨F2, ds ++ ds0, ρ2.l, s2.rel.sub, s2.rel.lv, d2.append (hd0 F2), ?_⟩
      cases e2 : run (ds ++ ds0) ρ2.l with
      | no => simp only [e2] at h
      | ex c n d L =>
        simp only [e2] at h
        exact fun F' H' cls dx c lv e => hE' _ _ _ (h F' H' cls dx (s12.trans (c.stp s2.rel lv)) e)
      | ok fr d L =>
        simp only [e2] at h
        exact fun x F' H' c lv r => h x F' H' (s12.trans (c.stp s2.rel lv)) ((r.vrel s2.rel).back s12)
/-- what a body's wish says of slots is not looked at -/
def Flat (W : WX) : Prop := ∀ cls d σ σ' H, W cls d σ H → W cls d σ' H
end
section
variable {P : Program} {w : World} {K : PySem.W.Frag} {mg : Str → Option Value} {base : Heap}
/-- the context of a def's body -/
abbrev cxD (P : Program) (w : World) (K : PySem.W.Frag) (mg : Str → Option Value) (base : Heap) (N : List Str) (qual : Str) (st : Stmt) (f : Addr) (cdv : Value) (A : Around) (outer : List Env) (s : Shared) (H : Hp) (E : XK) : Cx :=
  cxOf (L2.CX P w) P w K mg base N qual (defScope st) f cdv A outer s H E
/-- room for k calls, one within the other -/
structure Room (k : Nat) (A : Around) : Prop where
  hd : A.handled = none
  dp : A.depth + k + 8 < recursionLimit
  un : A.units + 16 * k + 200 < cLine
theorem Room.mono {j k : Nat} {A : Around} (r : Room k A) (h : j ≤ k) : Room j A := ⟨r.hd, by have := r.dp; omega, by have := r.un; omega⟩
theorem Room.deeper {k : Nat} {A : Around} (r : Room (k + 1) A) (env : Env) : Room k (A.deeper env) :=
  ⟨r.hd, by have := r.dp; show A.depth + 1 + k + 8 < _; omega, by have := r.un; show A.units + 3 + 16 * k + 200 < _; omega⟩
theorem Room.depth {k : Nat} {A : Around} (r : Room k A) : A.depth < recursionLimit := by have := r.dp; omega
theorem Room.units {k : Nat} {A : Around} (r : Room k A) : A.units + 64 < cLine := by have := r.un; omega
/-- as FnOk, under no repr -/
structure FnA (P : Program) (w : World) (K : PySem.W.Frag) (mg : Str → Option Value) (base : Heap) (k : Nat) (f : Addr) (fd : FuncData) (ps : List Str) (sp : Sp) : Prop where
  len : ∀ vs H Q E, sp vs H Q E → vs.length = ps.length
  go : ∀ (A : Around) (outer : List Env) (s : Shared) (H : Hp) (args : Args) (us : List Value) (vs : List V) (Q : VK) (E : XK), A.guards = some [] → Room k A → Env0 P w K mg base A outer s H →
    BindsTo s fd args (ps.zip us) → Vals vs us → sp vs H Q E → codeAny (model P w) A (.call (.ref f) args) (CR (L2.CX P w) outer P w H s Q E) s
theorem FnA.mono {j k : Nat} {f : Addr} {fd : FuncData} {ps : List Str} {sp : Sp} (h : FnA P w K mg base j f fd ps sp) (l : j ≤ k) : FnA P w K mg base k f fd ps sp :=
  ⟨h.len, fun A outer s H args us vs Q E g hr => h.go A outer s H args us vs Q E g (hr.mono l)⟩
theorem FnA.imp {k : Nat} {f : Addr} {fd : FuncData} {ps : List Str} {sp sp' : Sp} (h : FnA P w K mg base k f fd ps sp) (i : ∀ vs H Q E, sp' vs H Q E → sp vs H Q E) : FnA P w K mg base k f fd ps sp' :=
  ⟨fun vs H Q E q => h.len vs H Q E (i _ _ _ _ q), fun A outer s H args us vs Q E g hr he hb hv q => h.go A outer s H args us vs Q E g hr he hb hv (i _ _ _ _ q)⟩
/-- a def by its body, for such places -/
theorem fnA_body {x qual : Str} {st : Stmt} {f : Addr} {fd : FuncData} {N ps : List Str} {k : Nat} {sp : Sp} (F : Fun K x qual st f fd) (S : FnScope N ps (defScope st)) (len : ∀ vs H Q E, sp vs H Q E → vs.length = ps.length)
    (hb : ∀ (cdv : Value) (A : Around) (outer : List Env) (s : Shared) (H : Hp) (vs : List V) (Q : VK) (E : XK), A.guards = some [] → Room k (A.deeper (envOfC qual (defScope st) s.heap.objs.size f cdv)) → sp vs H Q E →
      ∃ t, PSs (cxD P w K mg base N qual st f cdv A outer s H E) (defBody st) t ∧ t { nx := fun _ H' => Q .non H', rt := Q } (L2.start N vs) H) : FnA P w K mg base (k + 1) f fd ps sp := by
  obtain ⟨oc, od, kV, doc, pm, an, cdv, ct, osl, rfl, lk, hcd⟩ := F.ex
  refine ⟨len, fun A outer s H args us vs Q E hgu hr e0 hbi r hsp => ?_⟩
  have hlen := len vs H Q E hsp
  have inS : K.In s.heap := e0.mod.kin.keeps (fun b o e => And.left (e0.bs b o e))
  have nolim := e0.mod.nolimit.keeps (fun b o e => And.left (e0.bs b o e))
  have kinds : ∀ y, y ∈ ps.zip us → (defScope st).names.lookup y.1 = some .local ∨ ((defScope st).names.lookup y.1 = some .cell ∧ ((cellsFrom (s.heap.objs.size + 1) (defScope st).names []).lookup y.1).isSome = true) := by
    rintro ⟨n, v⟩ hy
    have hn : n ∈ ps := (List.of_mem_zip hy).1
    cases S.par n hn with
    | inl q => exact Or.inl q
    | inr q => exact Or.inr ⟨q, PySem.W.cellsFrom_some _ _ _ (Or.inl q)⟩
  apply codeAny_call_function hr.depth (inS _ _ lk) rfl S.co S.gen rfl (PySem.W.codeRec_of inS hcd)
  apply hbi
  apply wpAny_newFunctionEnv_cells S.kind kinds
  intro env he s1 x
  subst he
  constructor
  · exact nolim.keeps x.toInCall.keep
  · apply codeAny_func
    obtain ⟨t, ht, hq⟩ := hb cdv A outer s H vs Q E hgu (hr.deeper _) hsp
    have I0 := inv_start (CX := L2.CX P w) (E := E) S hr.hd e0 hlen r x
    refine wpAny_mono (ht.run [] s1 _ H _ I0 hq) (fun fl s' hs => ?_) (fun _ _ hs => hs)
    cases fl with
    | brk =>
      obtain ⟨_, _, _, z⟩ := hs
      exact z.elim
    | cont =>
      obtain ⟨_, _, _, z⟩ := hs
      exact z.elim
    | ret u =>
      obtain ⟨v, σ1, H1, J, rv, q⟩ := hs
      exact ⟨v, H1, J.os, J.bare, J.base, J.hok, rv, q⟩
    | next =>
      obtain ⟨σ1, H1, J, q⟩ := hs
      exact ⟨V.non, H1, J.os, J.bare, J.base, J.hok, rfl, q⟩
/-- a body, where no repr is under way -/
def BdA (P : Program) (w : World) (K : PySem.W.Frag) (mg : Str → Option Value) (base : Heap) (N : List Str) (qual : Str) (st : Stmt) (f : Addr) (k : Nat) (fb : FS) : Prop :=
  ∀ (cdv : Value) (A : Around) (outer : List Env) (s : Shared) (H : Hp) (E : XK), A.guards = some [] → Room k (A.deeper (envOfC qual (defScope st) s.heap.objs.size f cdv)) →
    SSs (cxD P w K mg base N qual st f cdv A outer s H E) (fun cls d _ H' => E cls d H') (defBody st) fb
theorem fnPA {x qual : Str} {st : Stmt} {f : Addr} {fd : FuncData} {N ps : List Str} {k : Nat} {fb : FS} (F : Fun K x qual st f fd) (S : FnScope N ps (defScope st)) (hb : BdA P w K mg base N qual st f k fb) :
    FnA P w K mg base (k + 1) f fd ps (spP ⟨K, mg⟩ (runP N.length ps.length fb)) := by
  refine fnA_body F S (fun vs H Q E h => ?_) (fun cdv A outer s H vs Q E hg hr h => ⟨_, hb cdv A outer s H E hg hr, spP_run (X := cxD P w K mg base N qual st f cdv A outer s H E) (body := []) h⟩)
  obtain ⟨G, ds, L, s, lv, hd, h⟩ := h
  unfold runP at h
  by_cases hl : ds.length = ps.length
  · rw [← hd.length, hl]
  · rw [if_neg hl] at h; exact h.elim
/-- the law's call, where nothing is written by repr -/
theorem law_callA {mb : Str → Option Value} {k : Nat} {fa a : Addr} {fd : FuncData} {x : Str} {sp : Sp} {s1 : Shared} {vs : List Value} {ns : List Int}
    (KX : K.In s1.heap) (hns : s1.heap.Ns mainGlobals mg) (hb : s1.heap.Ns builtinsNs mb) (hbb : ∀ x : Str, x ≠ "__name__" → mb x = bootBuiltins x) (hlim : s1.heap.NoLimit) (hg : s1.gens = #[])
    (ha : s1.heap.get? a = some { cls := .type "list", data := .seq vs.toArray }) (hi : IntsAre vs ns) (hl : ns.length ≤ sizeLine) (hr : Room k callerA)
    (hsys : ∃ mm, s1.heap.Ns sysModules mm) (F : ∀ base : Heap, K.In base → base.Ns mainGlobals mg → (∃ mm, base.Ns sysModules mm) → FnA P w K mg base k fa fd [x] sp) (hbind : ∀ (s : Shared) (u : Value), BindsTo s fd ⟨[u], []⟩ [(x, u)])
    (hsp : ∀ H : Hp, SqL K H a (ns.map V.int) → sp [.ref a] H (fun v _ => v = .bl true) fun _ _ _ => False) :
    codeAny (model P w) callerA (.call (.ref fa) ⟨[.ref a], []⟩) (fun r s' => r = .ok (.ret (.bool true)) ∧ OldK s1.heap s'.heap ∧ s'.os = s1.os ∧ AllBare s'.gens) s1 := by
  -- H: nothing is tracked but, at most, the script as it is
  have main : ∀ H : Hp, (∀ b, H b = none ∨ (b = a ∧ H b = some (.frz { cls := .type "list", data := .seq vs.toArray } (.lst (ns.map V.int))))) → SqL K H a (ns.map V.int) → (H a = none ∨ K.lookup a = none) →
      codeAny (model P w) callerA (.call (.ref fa) ⟨[.ref a], []⟩) (fun r s' => r = .ok (.ret (.bool true)) ∧ OldK s1.heap s'.heap ∧ s'.os = s1.os ∧ AllBare s'.gens) s1 := by
    intro H hO hS hK
    have hok : HOk P w H s1.heap := fun b u z => by
      rcases hO b with q | ⟨q1, q2⟩
      · rw [q] at z; cases z
      · rw [q2] at z; cases z; subst q1
        exact ⟨ha, by rw [List.length_map]; exact hl, vs, _, vals_ints hi, ha⟩
    have free : ∀ b o es ep, s1.heap.get? b = some o → o.data = .dict es ep → H b = none := fun b o es ep e d => by
      rcases hO b with q | ⟨q1, _⟩
      · exact q
      · subst q1; rw [ha] at e; cases e
        have d' : Data.seq vs.toArray _ = Data.dict es ep := d
        cases d'
    have nsB : ∀ b m, s1.heap.Ns b m → (hidT s1.heap H).Ns b m := by
      rintro b m ⟨o, es, ep, e, d, r⟩
      exact ⟨o, es, ep, hidT_get e (free b o es ep e d), d, r⟩
    have kB : K.In (hidT s1.heap H) := fun b o e => hidT_get (KX b o e) (by
      rcases hO b with q | ⟨q1, q2⟩
      · exact q
      · subst q1
        rcases hK with z | z
        · exact z
        · rw [z] at e; cases e)
    have md : Mod K mg (hidT s1.heap H) := by
      refine ⟨kB, nsB _ _ hns, ⟨mb, nsB _ _ hb, hbb⟩, ?_⟩
      obtain ⟨mc, h1, h2⟩ := hlim
      exact ⟨mc, nsB _ _ h1, h2⟩
    have e0 : Env0 P w K mg (hidT s1.heap H) callerA [] s1 H :=
      ⟨rfl, md, fun b o e => of_hidT e, Nat.le_of_eq (hidT_size _ _), trivial, (fun b hb => by cases hb), hok, .of_eq hg⟩
    refine codeAny_mono ((F _ kB (nsB _ _ hns) (let ⟨mm, q⟩ := hsys; ⟨mm, nsB _ _ q⟩)).go callerA [] s1 H ⟨[.ref a], []⟩ [.ref a] [.ref a] _ _ rfl hr e0 (hbind s1 (.ref a)) (.cons rfl .nil) (hsp H hS)) ?_
    intro r s' h
    cases r with
    | error e =>
      obtain ⟨_, _, _, _, _, _, _, _, _, _, _, _, z⟩ := h
      exact z.elim
    | ok fl =>
      cases fl with
      | ret u =>
        obtain ⟨v, H', os, bare, un, hok', r', q⟩ := h
        have ev : v = .bl true := q
        subst ev
        have eu : u = Value.bool true := r'
        subst eu
        refine ⟨rfl, OldK.of_keep fun b o e => ?_, os, bare⟩
        rcases hO b with q | ⟨_, q2⟩
        · exact un.keep b o e q (fun z => by cases z) (fun z => by cases z)
        · obtain ⟨e1, _⟩ := hok b _ q2
          obtain ⟨e2, _⟩ := hok' b _ (un.frzs b _ _ q2)
          rw [e] at e1; cases e1
          exact e2
      | next => exact h.elim
      | brk => exact h.elim
      | cont => exact h.elim
  cases hk : K.lookup a with
  | some o =>
    have e := KX a o hk
    rw [ha] at e
    cases e
    refine main (fun _ => none) (fun _ => .inl rfl) ?_ (.inl rfl)
    refine .inr ⟨_, vs.toArray, _, hk, rfl, rfl, rfl, ?_, ?_⟩
    · rw [List.size_toArray, hi.length]; exact hl
    · simpa using vals_ints hi
  | none =>
    refine main (fun b => if b = a then some (.frz { cls := .type "list", data := .seq vs.toArray } (.lst (ns.map V.int))) else none) (fun b => ?_) ?_ (.inr hk)
    · by_cases q : b = a
      · exact .inr ⟨q, if_pos q⟩
      · exact .inl (if_neg q)
    · exact .inl (.inr ⟨{ cls := .type "list", data := .seq vs.toArray }, if_pos rfl⟩)
/-- the goal that the head leaves, from the law's body -/
theorem walkA {l : PySem.W.OpenLaw} {n k : Nat} {q : Program} {loose : List Str} {XP : (Str → Option Value) → Heap → Prop} {YP : World → Heap → Prop} {d : DefRec} {K : Params → PySem.W.Frag} {sp : PySem.W.Frag → (Str → Option Value) → Sp} {x : Str}
    (hn : l.most = some n) (hn2 : n ≤ sizeLine) (hdf : d.params.defaults = []) (hr : Room k callerA) (him : importsNone q = true)
    (hY : ∀ (w : World) (h : Heap), YP w h → (K w.params).In h)
    (F : ∀ (w : World) (mg : Str → Option Value) (fa : Addr) (h : Heap), (K w.params).In h → h.Ns mainGlobals mg → mg d.name = some (.ref fa) →
      ∃ fd : FuncData, (∀ (s : Shared) (u : Value), BindsTo s fd ⟨[u], []⟩ [(x, u)]) ∧
        ∀ base : Heap, (K w.params).In base → base.Ns mainGlobals mg → (∃ mm, base.Ns sysModules mm) → FnA l.prog w (K w.params) mg base k fa fd [x] (sp (K w.params) mg))
    (hsp : ∀ (K : PySem.W.Frag) (mg : Str → Option Value) (H : Hp) (a : Addr) (ns : List Int), ns.length ≤ n → SqL K H a (ns.map V.int) → sp K mg [.ref a] H (fun v _ => v = .bl true) fun _ _ _ => False) :
    PySem.W.WalkO q loose XP YP l.row.toRowW d [] (fun f vs => PySem.call f vs) := by
  refine Att.attach_call hn hdf ?_
  intro w s0 s1 mg mb fa o pm cd doc a vs ns G Y ho hd hcd hmg hobj hints hlen hg
  obtain ⟨fd, hb, hF⟩ := F w mg fa _ (hY w _ Y) G.T.g hmg
  exact law_callA (hY w _ Y) G.T.g G.T.b G.T.builtins G.T.nolimit hg hobj hints (Nat.le_trans hlen hn2) hr (let ⟨mm, q, _⟩ := (G.T.seer him).mods; ⟨mm, q⟩) hF hb (fun H hS => hsp _ mg H a ns hlen hS)
end

/-! ### calls, further -/
section
variable {X : Cx} {W : WX}
/-- f(e, ..), f such a def -/
theorem run_fnA {CX : CXT} {k : Nat} {f : Addr} {fd : FuncData} {ps : List Str} {sp : Sp} {dvs : List V} {ds : List Value} {E : XK} {pins : List (Addr × Obj)} {σ : Sg} {H : Hp} {s : Shared} {Q : VK} {us : List Value} {vs : List V}
    (G : FnA X.prog X.w X.K X.mg X.base k f fd ps sp) (hgu : X.A.guards = some []) (hr : Room k X.A) (hb : Binds X.K fd ps ds) (hd : Vals dvs ds) (hx : Passes (L2.CX X.prog X.w) X E)
    (I : Inv X pins σ H s) (r : Vals vs us) (h : sp (vs ++ dvs) H Q E) : wpAny (model X.prog X.w) X.A (call (.ref f) us) (EP X pins σ Q) X.xe s := by
  have rr := r.append hd
  have hl : (us ++ ds).length = ps.length := rr.length.symm.trans (G.len _ _ _ _ h)
  refine wpAny_call (codeAny_mono (G.go X.A X.stack s H ⟨us, []⟩ _ _ Q E hgu hr I.env0 (hb s us I.kIn hl) rr h) ?_)
  intro r s' hq
  match r, hq with
  | .error e, hq => exact hx pins σ H s e s' I hq
  | .ok (.ret u), hq => exact I.after hq
  | .ok .next, hq => exact hq.elim
  | .ok .brk, hq => exact hq.elim
  | .ok .cont, hq => exact hq.elim
end
end Tr
/-! Tr, part H: built-in operations on trees. -/
namespace Tr
open PySem PySem.Spec PyProof.Rows L2

section
variable {T : Tx} {F : Fz} {H : Hp} {x : V}
theorem Pk.bl {b : Bool} (h : Pk T F H (.bl b) x) : x = .bl b := by
  rcases h with h | ⟨_, _, h⟩
  · exact h
  · exact h.elim
theorem Pk.str {b : Str} (h : Pk T F H (.str b) x) : x = .str b := by
  rcases h with h | ⟨_, _, h⟩
  · exact h
  · exact h.elim
theorem Pk.non (h : Pk T F H .non x) : x = .non := by
  rcases h with h | ⟨_, _, h⟩
  · exact h
  · exact h.elim
theorem Pk.lst {ds : List D} (s : Same F.hp H) (h : Pk T F H (.lst ds) x) : ∃ a xs, x = .ref a ∧ H a = some (.lst xs) ∧ DenL T F ds xs := by
  rcases h with ⟨a, xs, h1, h2, h3⟩ | ⟨a, h1, xs, h2, h3⟩
  · exact ⟨a, xs, h1, s _ _ h2, h3⟩
  · exact ⟨a, xs, h1, h2, h3⟩
theorem Pk.tup {ds : List D} (s : Same F.hp H) (h : Pk T F H (.tup ds) x) : ∃ a xs, x = .ref a ∧ SqT T.K H a xs ∧ DenL T F ds xs ∧ SqT T.K F a xs := by
  rcases h with ⟨a, xs, h1, h2, h3⟩ | ⟨a, h1, h2⟩
  · exact ⟨a, xs, h1, Same.sqT s h2, h3, h2⟩
  · exact h2.elim
theorem Pk.scr {ns : List Int} (s : Same F.hp H) (h : Pk T F H (.scr ns) x) : ∃ a, x = .ref a ∧ SqL T.K H a (ns.map V.int) := by
  rcases h with ⟨a, h1, h2⟩ | ⟨a, h1, h2⟩
  · exact ⟨a, h1, Same.sqL s h2⟩
  · exact h2.elim
end

section
variable {X : Cx} {W : WX}
abbrev vI (i : Int) : Val := .sh (.int i)
abbrev vB (b : Bool) : Val := .sh (.bl b)
/-- a plain value comes back -/
theorem plainQ {F : Fz} {H : Hp} {d : D} {w : V} {Q : VK} (s : Same F.hp H) (k : ∀ w F' H', New (.of X) F H F' H' → NRel (.of X) H F' H' (.sh d) w → Q w H') (h : Den (.of X) F d w) : Q w H := k w F H (New.refl s) h

/-! ### + - * // % ** -/
def addD : D → D → Option Val
  | .int i, .int j => some (vI (i + j))
  | .str a, .str b => if a.length + b.length ≤ 16777216 then some (.sh (.str (a ++ b))) else none
  | .lst xs, .lst ys => if xs.length + ys.length ≤ 16777216 then some (.fr (.lst (xs ++ ys))) else none
  | .tup xs, .tup ys => if xs.length + ys.length ≤ 16777216 then some (.sh (.tup (xs ++ ys))) else none
  | _, _ => none
theorem os_add : OpS X (binaryOp .Add) addD := by
  refine ⟨_, OpR.or (OpR.or op_add op_add_str) (OpR.or op_cat op_catA), fun F H x y d e z Q s px py hg k => ?_⟩
  unfold addD at hg
  split at hg
  · cases hg
    exact .inl (.inl ⟨_, _, px.int, py.int, plainQ s k rfl⟩)
  · split at hg
    · rename_i hl
      cases hg
      exact .inl (.inr ⟨_, _, px.str, py.str, size_le hl, plainQ s k rfl⟩)
    · cases hg
  · split at hg
    · rename_i hl
      cases hg
      obtain ⟨a, xs, e1, h1, d1⟩ := px.lst s
      obtain ⟨b, ys, e2, h2, d2⟩ := py.lst s
      refine .inr (.inl ⟨a, b, xs, ys, e1, e2, h1, h2, size_le (by rw [← d1.length, ← d2.length]; exact hl), fun p hp => ?_⟩)
      exact k _ F _ (New.fr s hp) ⟨p, rfl, s.free hp, hp, _, upd_same, d1.append d2⟩
    · cases hg
  · split at hg
    · rename_i hl
      cases hg
      obtain ⟨a, xs, e1, h1, d1, f1⟩ := px.tup s
      obtain ⟨b, ys, e2, h2, d2, f2⟩ := py.tup s
      refine .inr (.inr ⟨a, b, xs, ys, e1, e2, h1, h2, size_le (by rw [← d1.length, ← d2.length]; exact hl), fun z => ?_, fun _ z => ?_, fun _ _ p hp => ?_⟩)
      · refine plainQ s k ⟨b, ys, rfl, f2, ?_⟩
        have l1 := d1.length
        rw [z] at l1
        rw [List.eq_nil_of_length_eq_zero l1]
        exact d2
      · refine plainQ s k ⟨a, xs, rfl, f1, ?_⟩
        have l2 := d2.length
        rw [z] at l2
        rw [List.eq_nil_of_length_eq_zero l2, List.append_nil]
        exact d1
      · exact k _ _ _ (New.sh s hp) ⟨p, _, rfl, SqT.of upd_same, (d1.append d2).mono (ext_upd (s.free hp))⟩
    · cases hg
  · cases hg
def iaddD : D → D → Option Val
  | .int i, .int j => some (vI (i + j))
  | .str a, .str b => if a.length + b.length ≤ 16777216 then some (.sh (.str (a ++ b))) else none
  | _, _ => none
theorem os_iadd : OpS X (inplaceOp .Add) iaddD := by
  refine ⟨_, OpR.or iop_add iop_add_str, fun F H x y d e z Q s px py hg k => ?_⟩
  unfold iaddD at hg
  split at hg
  · cases hg
    exact .inl ⟨_, _, px.int, py.int, plainQ s k rfl⟩
  · split at hg
    · rename_i hl
      cases hg
      exact .inr ⟨_, _, px.str, py.str, size_le hl, plainQ s k rfl⟩
    · cases hg
  · cases hg
def subD : D → D → Option Val
  | .int i, .int j => some (vI (i - j))
  | _, _ => none
theorem os_sub : OpS X (binaryOp .Sub) subD := by
  refine ⟨_, op_sub, fun F H x y d e z Q s px py hg k => ?_⟩
  unfold subD at hg
  split at hg
  · cases hg
    exact ⟨_, _, px.int, py.int, plainQ s k rfl⟩
  · cases hg
theorem os_isub : OpS X (inplaceOp .Sub) subD := by
  refine ⟨_, iop_sub, fun F H x y d e z Q s px py hg k => ?_⟩
  unfold subD at hg
  split at hg
  · cases hg
    exact ⟨_, _, px.int, py.int, plainQ s k rfl⟩
  · cases hg
/-- the factors have together less than a million bits -/
def mulOk (i j : Int) : Prop := i.natAbs.log2 + j.natAbs.log2 < 1000000
instance (i j : Int) : Decidable (mulOk i j) := inferInstanceAs (Decidable (_ < _))
def mulD : D → D → Option Val
  | .int i, .int j => if mulOk i j then some (vI (i * j)) else none
  | .lst xs, .int k => if -(2 ^ 63) ≤ k ∧ k < 2 ^ 63 ∧ xs.length * k.toNat ≤ 16777216 then some (.fr (.lst (List.replicate k.toNat xs).flatten)) else none
  | .tup xs, .int k => if xs ≠ [] ∧ 2 ≤ k ∧ k ≤ 1000 ∧ xs.length ≤ 1000 then some (.sh (.tup (List.replicate k.toNat xs).flatten)) else none
  | _, _ => none
theorem DenL.rep {T : Tx} {F : Fz} {ds : List D} {xs : List V} (h : DenL T F ds xs) : ∀ n : Nat, DenL T F (List.replicate n ds).flatten (List.replicate n xs).flatten
  | 0 => rfl
  | n + 1 => by
    rw [List.replicate_succ, List.replicate_succ, List.flatten_cons, List.flatten_cons]
    exact h.append (h.rep n)
theorem os_mul : OpS X (binaryOp .Mult) mulD := by
  refine ⟨_, OpR.or op_mulW (OpR.or op_rep op_repT), fun F H x y d e z Q s px py hg k => ?_⟩
  unfold mulD at hg
  split at hg
  · split at hg
    · rename_i hl
      cases hg
      exact .inl ⟨_, _, px.int, py.int, hl, plainQ s k rfl⟩
    · cases hg
  · split at hg
    · rename_i hl
      cases hg
      obtain ⟨a, xs, e1, h1, d1⟩ := px.lst s
      refine .inr (.inl ⟨a, _, xs, e1, py.int, h1, hl.1, hl.2.1, size_le (by rw [← d1.length]; exact hl.2.2), fun p hp => ?_⟩)
      exact k _ F _ (New.fr s hp) ⟨p, rfl, s.free hp, hp, _, upd_same, d1.rep _⟩
    · cases hg
  · split at hg
    · rename_i hl
      cases hg
      obtain ⟨a, xs, e1, h1, d1, f1⟩ := px.tup s
      have hne : xs ≠ [] := fun z => hl.1 (List.eq_nil_of_length_eq_zero (by rw [d1.length, z]; rfl))
      refine .inr (.inr ⟨a, _, xs, e1, py.int, h1, hne, hl.2.1, hl.2.2.1, by rw [← d1.length]; exact hl.2.2.2, fun p hp => ?_⟩)
      exact k _ _ _ (New.sh s hp) ⟨p, _, rfl, SqT.of upd_same, (d1.rep _).mono (ext_upd (s.free hp))⟩
    · cases hg
  · cases hg
/-- // by a divisor of less than 9000 bits -/
def divOk (j : Int) : Prop := j ≠ 0 ∧ j.natAbs.log2 < 9000
instance (j : Int) : Decidable (divOk j) := inferInstanceAs (Decidable (_ ∧ _))
def divD : D → D → Option Val
  | .int i, .int j => if divOk j then some (vI (i.fdiv j)) else none
  | _, _ => none
theorem op_fdivA : OpR X (binaryOp .FloorDiv) (rI (fun _ j => divOk j) fun i j => .int (i.fdiv j)) := opI fun i j _ _ _ _ _ hc q => floordiv_int hc.1 q (.inl (PyProof.noPylong_of_log2 hc.2))
theorem os_div : OpS X (binaryOp .FloorDiv) divD := by
  refine ⟨_, op_fdivA, fun F H x y d e z Q s px py hg k => ?_⟩
  unfold divD at hg
  split at hg
  · split at hg
    · rename_i hl
      cases hg
      exact ⟨_, _, px.int, py.int, hl, plainQ s k rfl⟩
    · cases hg
  · cases hg
def modD : D → D → Option Val
  | .int i, .int j => if j ≠ 0 then some (vI (i.fmod j)) else none
  | _, _ => none
theorem os_mod : OpS X (binaryOp .Mod) modD := by
  refine ⟨_, op_modN, fun F H x y d e z Q s px py hg k => ?_⟩
  unfold modD at hg
  split at hg
  · split at hg
    · rename_i hl
      cases hg
      exact ⟨_, _, px.int, py.int, hl, plainQ s k rfl⟩
    · cases hg
  · cases hg
def powOk (i j : Int) : Prop := 0 ≤ j ∧ (Builtin.Int.intBits i : Int) * j ≤ 2 ^ 27
instance (i j : Int) : Decidable (powOk i j) := inferInstanceAs (Decidable (_ ∧ _))
def powD : D → D → Option Val
  | .int i, .int j => if powOk i j then some (vI (i ^ j.toNat)) else none
  | _, _ => none
theorem op_powW : OpR X (binaryOp .Pow) (rI powOk fun i j => .int (i ^ j.toNat)) := opI fun _ _ _ _ _ _ _ hc q => pow_int hc.1 hc.2 q
theorem os_pow : OpS X (binaryOp .Pow) powD := by
  refine ⟨_, op_powW, fun F H x y d e z Q s px py hg k => ?_⟩
  unfold powD at hg
  split at hg
  · split at hg
    · rename_i hl
      cases hg
      exact ⟨_, _, px.int, py.int, hl, plainQ s k rfl⟩
    · cases hg
  · cases hg
def negD : D → Option Val
  | .int i => some (vI (-i))
  | _ => none
theorem us_neg : UnS X (rU fun i => .int (-i)) negD := fun F H x d z Q s px hg k => by
  unfold negD at hg
  split at hg
  · cases hg
    exact ⟨_, px.int, plainQ s k rfl⟩
  · cases hg

/-! ### comparisons -/
def ltD : D → D → Option Val
  | .int i, .int j => some (vB (decide (i < j)))
  | _, _ => none
theorem os_lt : OpS X (compareOp .Lt) ltD := by
  refine ⟨_, op_lt, fun F H x y d e z Q s px py hg k => ?_⟩
  unfold ltD at hg
  split at hg
  · cases hg
    exact ⟨_, _, px.int, py.int, plainQ s k rfl⟩
  · cases hg
def leD : D → D → Option Val
  | .int i, .int j => some (vB (decide (i ≤ j)))
  | _, _ => none
theorem os_le : OpS X (compareOp .LtE) leD := by
  refine ⟨_, op_le, fun F H x y d e z Q s px py hg k => ?_⟩
  unfold leD at hg
  split at hg
  · cases hg
    exact ⟨_, _, px.int, py.int, plainQ s k rfl⟩
  · cases hg
def gtD : D → D → Option Val
  | .int i, .int j => some (vB (decide (j < i)))
  | _, _ => none
theorem os_gt : OpS X (compareOp .Gt) gtD := by
  refine ⟨_, op_gt, fun F H x y d e z Q s px py hg k => ?_⟩
  unfold gtD at hg
  split at hg
  · cases hg
    exact ⟨_, _, px.int, py.int, plainQ s k rfl⟩
  · cases hg
def geD : D → D → Option Val
  | .int i, .int j => some (vB (decide (j ≤ i)))
  | _, _ => none
theorem os_ge : OpS X (compareOp .GtE) geD := by
  refine ⟨_, op_ge, fun F H x y d e z Q s px py hg k => ?_⟩
  unfold geD at hg
  split at hg
  · cases hg
    exact ⟨_, _, px.int, py.int, plainQ s k rfl⟩
  · cases hg
/-- x is None -/
def isND : D → D → Option Val
  | .non, .non => some (vB true)
  | .bl _, .non => some (vB false)
  | .int _, .non => some (vB false)
  | .str _, .non => some (vB false)
  | .lst _, .non => some (vB false)
  | .tup _, .non => some (vB false)
  | .exn _ _ _, .non => some (vB false)
  | .ins _ _ _, .non => some (vB false)
  | .dK _ _, .non => some (vB false)
  | .dT _ _, .non => some (vB false)
  | _, _ => none
theorem isND_ok {F : Fz} {H : Hp} {x y : V} {d e : D} {z : Val} (s : Same F.hp H) (px : Pk (.of X) F H d x) (py : Pk (.of X) F H e y) (hg : isND d e = some z) : y = .non ∧ z = vB (decide (x = .non)) := by
  unfold isND at hg
  split at hg <;> first
    | (cases hg; refine ⟨py.non, ?_⟩; rw [px.non]; rfl)
    | (cases hg; refine ⟨py.non, ?_⟩; rw [px.bl]; rfl)
    | (cases hg; refine ⟨py.non, ?_⟩; rw [px.int]; rfl)
    | (cases hg; refine ⟨py.non, ?_⟩; rw [px.str]; rfl)
    | (cases hg
       refine ⟨py.non, ?_⟩
       rcases px with px | ⟨a, e1, _⟩
       · first
           | (obtain ⟨a, _, e1, _⟩ := px; rw [e1]; rfl)
           | (obtain ⟨a, _, _, _, e1, _⟩ := px; rw [e1]; rfl)
       · rw [e1]; rfl)
    | cases hg
theorem os_isN : OpS X (compareOp .Is) isND := by
  refine ⟨_, op_isN, fun F H x y d e z Q s px py hg k => ?_⟩
  obtain ⟨h1, h2⟩ := isND_ok s px py hg
  subst h2
  exact ⟨h1, plainQ s k rfl⟩
def isNotND (d e : D) : Option Val := match isND d e with
  | some (.sh (.bl b)) => some (vB (!b))
  | _ => none
theorem os_notN : OpS X (compareOp .IsNot) isNotND := by
  refine ⟨_, op_notN, fun F H x y d e z Q s px py hg k => ?_⟩
  unfold isNotND at hg
  split at hg
  · rename_i b q
    obtain ⟨h1, h2⟩ := isND_ok s px py q
    cases h2
    cases hg
    exact ⟨h1, plainQ s k rfl⟩
  · cases hg

/-! ### == -/
mutual
def toPy : D → Option PyData
  | .non => some .none
  | .bl b => some (.bool b)
  | .int i => some (.int i)
  | .str x => some (.str x)
  | .lst ds => (toPys ds).map .list
  | .tup ds => (toPys ds).map .tuple
  | _ => none
def toPys : List D → Option (List PyData)
  | [] => some []
  | d :: ds => match toPy d, toPys ds with
    | some p, some ps => some (p :: ps)
    | _, _ => none
end
mutual
theorem toPy_dp {T : Tx} {F : Fz} {H : Hp} (s : Same F.hp H) : ∀ (d : D) {p : PyData} {x : V}, toPy d = some p → Den T F d x → Dp T.K H x p
  | .non, _, _, e, h => by cases e; cases h; exact .non
  | .bl b, _, _, e, h => by cases e; cases h; exact .bl b
  | .int i, _, _, e, h => by cases e; cases h; exact .int i
  | .str i, _, _, e, h => by cases e; cases h; exact .str i
  | .lst ds, _, _, e, ⟨a, xs, h1, h2, h3⟩ => by
    simp only [toPy, Option.map_eq_some_iff] at e
    obtain ⟨ps, e1, e2⟩ := e
    subst e2 h1
    exact .lst (SqL.of (s _ _ h2)) (toPys_dp s ds e1 h3)
  | .tup ds, _, _, e, ⟨a, xs, h1, h2, h3⟩ => by
    simp only [toPy, Option.map_eq_some_iff] at e
    obtain ⟨ps, e1, e2⟩ := e
    subst e2 h1
    exact .tup (Same.sqT s h2) (toPys_dp s ds e1 h3)
  | .dK _ _, _, _, e, _ => by cases e
  | .dT _ _, _, _, e, _ => by cases e
  | .ins _ _ _, _, _, e, _ => by cases e
  | .exn _ _ _, _, _, e, _ => by cases e
  | .ty _, _, _, e, _ => by cases e
  | .glo _, _, _, e, _ => by cases e
  | .scr _, _, _, e, _ => by cases e
  | .ref _, _, _, e, _ => by cases e
theorem toPys_dp {T : Tx} {F : Fz} {H : Hp} (s : Same F.hp H) : ∀ (ds : List D) {ps : List PyData} {xs : List V}, toPys ds = some ps → DenL T F ds xs → DpAll T.K H xs ps
  | [], _, _, e, h => by cases e; have h : _ = [] := h; subst h; exact .nil
  | d :: ds, _, _, e, ⟨x, r, h1, h2, h3⟩ => by
    simp only [toPys] at e
    cases e1 : toPy d with
    | none => simp only [e1] at e; cases e
    | some p =>
      cases e2 : toPys ds with
      | none => simp only [e1, e2] at e; cases e
      | some ps =>
        simp only [e1, e2] at e
        cases e
        subst h1
        exact .cons (toPy_dp s d e1 h2) (toPys_dp s ds e2 h3)
end
theorem Pk.dp {T : Tx} {F : Fz} {H : Hp} {d : D} {p : PyData} {x : V} (s : Same F.hp H) (h : Pk T F H d x) (e : toPy d = some p) : Dp T.K H x p := by
  rcases h with h | ⟨a, rfl, h⟩
  · exact toPy_dp s d e h
  · cases d with
    | lst ds =>
      obtain ⟨xs, h1, h2⟩ := h
      simp only [toPy, Option.map_eq_some_iff] at e
      obtain ⟨ps, e1, e2⟩ := e
      subst e2
      exact .lst (SqL.of h1) (toPys_dp s ds e1 h2)
    | dK _ _ => cases e
    | dT _ _ => cases e
    | ins _ _ _ => cases e
    | _ => exact h.elim
/-- whether two trees are equal -/
def eqB (d e : D) : Option Bool := match d, e with
  | .str a, .str b => some (decide (a = b))
  | d, e => match toPy d, toPy e with
    | some p, some q => if SeqAt.shaped p = true ∧ SeqAt.shaped q = true then some (PyData.eqv p q) else none
    | _, _ => none
def eqD (d e : D) : Option Val := (eqB d e).map vB
def neD (d e : D) : Option Val := (eqB d e).map fun b => vB (!b)
theorem os_eq (hu : X.A.units + 64 < cLine) : OpS X (compareOp .Eq) eqD := by
  refine ⟨_, OpR.or op_eq (op_eqD hu), fun F H x y d e z Q s px py hg k => ?_⟩
  unfold eqD at hg
  rw [Option.map_eq_some_iff] at hg
  obtain ⟨b, hb, rfl⟩ := hg
  unfold eqB at hb
  split at hb
  · rename_i a c
    cases hb
    have ex := px.str
    have ey := py.str
    subst ex ey
    refine .inl ⟨rfl, ?_⟩
    have q : decide (V.str a = V.str c) = decide (a = c) := by
      by_cases h : a = c
      · subst h; simp
      · rw [decide_eq_false h, decide_eq_false fun z => h (V.str.inj z)]
    rw [q]
    exact plainQ s k rfl
  · split at hb
    · rename_i p q e1 e2
      split at hb
      · rename_i hs
        cases hb
        exact .inr ⟨p, q, px.dp s e1, py.dp s e2, hs.1, hs.2, plainQ s k rfl⟩
      · cases hb
    · cases hb
theorem os_ne (hu : X.A.units + 64 < cLine) : OpS X (compareOp .NotEq) neD := by
  refine ⟨_, OpR.or op_ne (op_neD hu), fun F H x y d e z Q s px py hg k => ?_⟩
  unfold neD at hg
  rw [Option.map_eq_some_iff] at hg
  obtain ⟨b, hb, rfl⟩ := hg
  unfold eqB at hb
  split at hb
  · rename_i a c
    cases hb
    have ex := px.str
    have ey := py.str
    subst ex ey
    refine .inl ⟨rfl, ?_⟩
    have q : decide (V.str a = V.str c) = decide (a = c) := by
      by_cases h : a = c
      · subst h; simp
      · rw [decide_eq_false h, decide_eq_false fun z => h (V.str.inj z)]
    rw [q]
    exact plainQ s k rfl
  · split at hb
    · rename_i p q e1 e2
      split at hb
      · rename_i hs
        cases hb
        exact .inr ⟨p, q, px.dp s e1, py.dp s e2, hs.1, hs.2, plainQ s k rfl⟩
      · cases hb
    · cases hb

/-! ### items, slices -/
theorem DenL.at {T : Tx} {F : Fz} {ds : List D} {xs : List V} {k : Int} {d : D} (h : DenL T F ds xs) (e : atI ds k = some d) : ∃ x, atI xs k = some x ∧ Den T F d x := by
  unfold atI at e ⊢
  rw [← h.length]
  cases q : ixN ds.length k with
  | none => rw [q] at e; cases e
  | some j =>
    rw [q] at e
    exact h.get e
def ixD : D → D → Option Val
  | .lst ds, .int k => (atI ds k).map .sh
  | .tup ds, .int k => (atI ds k).map .sh
  | .scr ns, .int k => (atI ns k).map vI
  | _, _ => none
theorem IxR.or {r r' : R2} (h : IxR X r) (h' : IxR X r') : IxR X (fun x y H Q => r x y H Q ∨ r' x y H Q) := by
  intro va sl pins s σ H x y v u Q I r1 r2 q e
  rcases q with q | q
  · exact h va sl pins s σ H x y v u Q I r1 r2 q e
  · exact h' va sl pins s σ H x y v u Q I r1 r2 q e
theorem is_ix : IxS X ixD := by
  refine ⟨_, IxR.or ix_list ix_tup, fun F H x y d e z Q s px py hg k => ?_⟩
  unfold ixD at hg
  split at hg
  · rw [Option.map_eq_some_iff] at hg
    obtain ⟨d, hd, rfl⟩ := hg
    obtain ⟨a, xs, e1, h1, d1⟩ := px.lst s
    obtain ⟨v, hv, dv⟩ := d1.at hd
    exact .inl ⟨a, xs, _, v, e1, py.int, SqL.of h1, hv, plainQ s k dv⟩
  · rw [Option.map_eq_some_iff] at hg
    obtain ⟨d, hd, rfl⟩ := hg
    obtain ⟨a, xs, e1, h1, d1, _⟩ := px.tup s
    obtain ⟨v, hv, dv⟩ := d1.at hd
    exact .inr ⟨a, xs, _, v, e1, py.int, h1, hv, plainQ s k dv⟩
  · rw [Option.map_eq_some_iff] at hg
    obtain ⟨n, hd, rfl⟩ := hg
    obtain ⟨a, e1, h1⟩ := px.scr s
    refine .inl ⟨a, _, _, .int n, e1, py.int, h1, ?_, plainQ s k rfl⟩
    unfold atI at hd ⊢
    rw [List.length_map]
    cases q : ixN _ _ with
    | none => rw [q] at hd; cases hd
    | some j =>
      rw [q] at hd
      simp only [Option.bind_some] at hd ⊢
      rw [List.getElem?_map, hd]
      rfl
  · cases hg
/-- the bounds of a slice -/
abbrev FO := En → R (Option Int × En)
def tOfO (T : Tx) (W : WX) (f : FO) : TO := fun σ H Q => ∃ ρ F, Rel T F H ρ σ ∧ match f ρ with
  | .ok r => ∀ F' H', Stp T F H ρ σ F' H' r.2 σ → Q r.1 H'
  | .ex c n d ρ' => ∀ F' H' cls dx, Stp T F H ρ σ F' H' ρ' σ → ERel T F' c n d cls dx → W cls dx σ H'
  | .no => False
def SO (X : Cx) (W : WX) (e : Option Expr) (f : FO) : Prop := PO X e (tOfO (.of X) W f)
theorem po_imp {e : Option Expr} {t t' : TO} (h : PO X e t) (i : ∀ σ H Q, t' σ H Q → t σ H Q) : PO X e t' := ⟨fun pins s σ H Q I q => h.run pins s σ H Q I (i σ H Q q)⟩
def foN : FO := fun ρ => .ok (none, ρ)
def asI : Val × En → R (Option Int × En)
  | (.sh (.int i), ρ) => .ok (some i, ρ)
  | _ => .no
def foS (f : FE) : FO := fun ρ => (f ρ).bind asI
theorem so_none : SO X W none foN := po_imp po_none fun σ H Q ⟨ρ, F, r, h⟩ => h F H (Stp.refl r)
theorem so_some {e : Expr} {f : FE} (h : SE X W e f) : SO X W (some e) (foS f) := po_imp (po_some h) fun σ H Q ⟨ρ, F, rl, h⟩ => by
  unfold foS at h
  refine ⟨ρ, F, rl, ?_⟩
  cases ea : f ρ with
  | no => rw [ea] at h; exact h
  | ex c n d ρ' => rw [ea] at h; exact h
  | ok ra =>
    obtain ⟨v, ρ'⟩ := ra
    rw [ea] at h
    intro x F1 H1 s1 v1
    cases v with
    | sh d =>
      cases d with
      | int i => exact ⟨i, v1, h F1 H1 s1⟩
      | _ => exact h.elim
    | fr d => exact h.elim
    | rf i => exact h.elim
def cut {α : Type} (xs : List α) (lo hi : Option Int) : List α := (xs.drop (HT.sIx xs.length 0 lo)).take (HT.sIx xs.length xs.length hi - HT.sIx xs.length 0 lo)
theorem DenL.cut {T : Tx} {F : Fz} {ds : List D} {xs : List V} (h : DenL T F ds xs) (lo hi : Option Int) : DenL T F (Tr.cut ds lo hi) (cutV xs lo hi) := by
  unfold Tr.cut cutV
  rw [h.length]
  exact (h.drop _).take _
def slD : D → Option Int → Option Int → Option Val
  | .lst ds, lo, hi => some (.fr (.lst (cut ds lo hi)))
  | .tup ds, lo, hi => some (.sh (.tup (cut ds lo hi)))
  | .scr ns, lo, hi => some (.fr (.lst ((cut ns lo hi).map .int)))
  | _, _, _ => none
theorem SlR.or {r r' : V → Option Int → Option Int → Hp → VK → Prop} (h : SlR X r) (h' : SlR X r') : SlR X (fun x lo hi H Q => r x lo hi H Q ∨ r' x lo hi H Q) := fun pins s σ H x v vl vu lo hi sl Q I rx hs pl pu q => q.elim (h pins s σ H x v vl vu lo hi sl Q I rx hs pl pu) (h' pins s σ H x v vl vu lo hi sl Q I rx hs pl pu)
theorem denL_ints {T : Tx} {F : Fz} : ∀ ns : List Int, DenL T F (ns.map D.int) (ns.map V.int)
  | [] => rfl
  | n :: ns => ⟨_, _, rfl, rfl, denL_ints ns⟩
theorem cutV_ints (ns : List Int) (lo hi : Option Int) : cutV (ns.map V.int) lo hi = (cut ns lo hi).map V.int := by
  unfold cutV cut
  rw [List.length_map, List.map_take, List.map_drop]
theorem slD_ok {F : Fz} {H : Hp} {x : V} {d : D} {lo hi : Option Int} {z : Val} {Q : VK} (s : Same F.hp H) (px : Pk (.of X) F H d x) (hg : slD d lo hi = some z) (k : ∀ w F' H', New (.of X) F H F' H' → NRel (.of X) H F' H' z w → Q w H') :
    rSlL X.K x lo hi H Q ∨ rSlA X.K x lo hi H Q := by
  unfold slD at hg
  split at hg
  · cases hg
    obtain ⟨a, xs, e1, h1, d1⟩ := px.lst s
    refine .inl ⟨a, xs, e1, SqL.of h1, fun p hp => ?_⟩
    exact k _ F _ (New.fr s hp) ⟨p, rfl, s.free hp, hp, _, upd_same, d1.cut _ _⟩
  · cases hg
    obtain ⟨a, xs, e1, h1, d1, f1⟩ := px.tup s
    refine .inr ⟨a, xs, e1, h1, fun w => ?_, fun _ p hp => ?_⟩
    · refine plainQ s k ⟨a, xs, rfl, f1, ?_⟩
      have q := d1.cut lo hi
      have e : cutV xs lo hi = xs := by
        unfold cutV
        rw [w.1, w.2, List.drop_zero, Nat.sub_zero, List.take_length]
      rw [e] at q
      exact q
    · exact k _ _ _ (New.sh s hp) ⟨p, _, rfl, SqT.of upd_same, (d1.cut _ _).mono (ext_upd (s.free hp))⟩
  · cases hg
    obtain ⟨a, e1, h1⟩ := px.scr s
    refine .inl ⟨a, _, e1, h1, fun p hp => ?_⟩
    exact k _ F _ (New.fr s hp) ⟨p, rfl, s.free hp, hp, _, upd_same, by rw [cutV_ints]; exact denL_ints _⟩
  · cases hg
def slEnd (ρ : En) (v : Val) (lo hi : Option Int) : R (Val × En) := match peek ρ v with
  | some d => (match slD d lo hi with
    | some z => .ok (z, ρ)
    | none => .no)
  | none => .no
def evSl (f : FE) (fl fh : FO) : FE := fun ρ => (f ρ).bind fun r => (fl r.2).bind fun l => (fh l.2).bind fun h => slEnd h.2 r.1 l.1 h.1
theorem se_sl {e : Expr} {lo hi : Option Expr} {p2 pos : Pos} {f : FE} {fl fh : FO} (he : SE X W e f) (hl : SO X W lo fl) (hh : SO X W hi fh) : SE X W (.Subscript e (.Slice lo hi none p2) pos) (evSl f fl fh) :=
  pe_imp (pe_slice (SlR.or sl_list sl_tupA) he hl hh) fun σ H Q ⟨ρ, F, rl, h⟩ => by
    unfold evSl at h
    refine ⟨ρ, F, rl, ?_⟩
    cases ea : f ρ with
    | no => rw [ea] at h; exact h
    | ex c n d ρ' => rw [ea] at h; exact h
    | ok ra =>
      simp only [ea, R.bind] at h
      intro x F1 H1 s1 v1
      obtain ⟨F2, s2, m2, p2⟩ := held_ok s1 v1
      refine ⟨ra.2, F2, s2.rel, ?_⟩
      cases eb : fl ra.2 with
      | no => simp only [eb] at h
      | ex c n d ρ' => simp only [eb] at h; exact fun F' H' cls dx s e => h F' H' cls dx (s2.trans s) e
      | ok rb =>
        simp only [eb] at h
        intro F3 H3 s3
        have s23 := s2.trans s3
        refine ⟨rb.2, F3, s3.rel, ?_⟩
        cases ec : fh rb.2 with
        | no => simp only [ec] at h
        | ex c n d ρ' => simp only [ec] at h; exact fun F' H' cls dx s e => h F' H' cls dx (s23.trans s) e
        | ok rc =>
          simp only [ec] at h
          intro F4 H4 s4
          have s24 := s23.trans s4
          unfold slEnd at h
          cases e1 : peek rc.2 ra.1 with
          | none => simp only [e1] at h
          | some d =>
            simp only [e1] at h
            cases e2 : slD d rb.1 rc.1 with
            | none => simp only [e2] at h
            | some z =>
              simp only [e2] at h
              have k1 := (p2.mono (s3.same.trans s4.same)).peek s4.rel (by rw [peek_held]; exact e1)
              exact slD_ok s4.rel.sub k1 e2 fun w F5 H5 n5 r5 => h w F5 H5 (s24.trans (n5.stp s4.rel)) ((r5.vrel s4.rel n5).back s24)

/-! ### built-ins by name -/
def callG (g : List D → Option Val) (r : List Val × En) : R (Val × En) := match peekL r.2 r.1 with
  | some ds => (match g ds with
    | some z => .ok (z, r.2)
    | none => .no)
  | none => .no
def evB (g : List D → Option Val) (f : FA) : FE := fun ρ => (f ρ).bind (callG g)
def CallS (X : Cx) (f : Value) (g : List D → Option Val) : Prop := ∃ r, CallR X f r ∧
  ∀ (F : Fz) (H : Hp) (xs : List V) (ds : List D) (z : Val) (Q : VK), Same F.hp H → PkL (.of X) F H ds xs → g ds = some z → (∀ w F' H', New (.of X) F H F' H' → NRel (.of X) H F' H' z w → Q w H') → r xs H Q
theorem evB_ok {f : FA} {g : List D → Option Val} {r : List V → Hp → VK → Prop} (hr : ∀ (F : Fz) (H : Hp) (xs : List V) (ds : List D) (z : Val) (Q : VK), Same F.hp H → PkL (.of X) F H ds xs → g ds = some z → (∀ w F' H', New (.of X) F H F' H' → NRel (.of X) H F' H' z w → Q w H') → r xs H Q)
    {σ : Sg} {H : Hp} {Q : VK} (h : tOf (.of X) W (evB g f) σ H Q) : tCB r (tOfA (.of X) W f) σ H Q := by
  obtain ⟨ρ, F, rl, h⟩ := h
  unfold evB at h
  refine ⟨ρ, F, rl, ?_⟩
  cases ea : f ρ with
  | no => rw [ea] at h; exact h
  | ex c n d ρ' => rw [ea] at h; exact h
  | ok ra =>
    simp only [ea, R.bind] at h
    intro xs F1 H1 s1 p1
    unfold callG at h
    cases e1 : peekL ra.2 ra.1 with
    | none => simp only [e1] at h
    | some ds =>
      simp only [e1] at h
      cases e2 : g ds with
      | none => simp only [e2] at h
      | some z =>
        simp only [e2] at h
        exact hr F1 H1 xs ds z Q s1.rel.sub (p1.peek s1.rel e1) e2 fun w F5 H5 n5 r5 => h w F5 H5 (s1.trans (n5.stp s1.rel)) ((r5.vrel s1.rel n5).back s1)
theorem se_b {x : Str} {id : String} {e : Expr} {es : List Expr} {p pos : Pos} {f : FA} {g : List D → Option Val} (hc : CallS X (.builtin id) g) (hm : X.mg x = none) (hv : bootBuiltins x = some (.builtin id)) (ha : SA X W (e :: es) f) (hg : Gl X x := by rfl) (hn : x ≠ "__name__" := by decide) (hdb : (x == ("__debug__" : Str)) = false := by decide)
    (he : starEach (e :: es) X.env = (false, eval e X.env) :: starEach es X.env := by rfl) (hpl : (backTo pos (starEach es X.env)).any (·.1) = false := by rfl) : SE X W (.Call (.Name x p) (e :: es) [] pos) (evB g f) := by
  obtain ⟨r, h1, h2⟩ := hc
  exact pe_imp (pe_callB h1 hg hm hv ha hn hdb he hpl) fun σ H Q h => evB_ok h2 h
theorem se_bt {x : Str} {id : String} {e : Expr} {es : List Expr} {p pos : Pos} {f : FA} {g : List D → Option Val} (hc : CallS X (.type id) g) (hm : X.mg x = none) (hv : bootBuiltins x = some (.type id)) (ha : SA X W (e :: es) f) (hg : Gl X x := by rfl) (hn : x ≠ "__name__" := by decide) (hdb : (x == ("__debug__" : Str)) = false := by decide)
    (he : starEach (e :: es) X.env = (false, eval e X.env) :: starEach es X.env := by rfl) (hpl : (backTo pos (starEach es X.env)).any (·.1) = false := by rfl) : SE X W (.Call (.Name x p) (e :: es) [] pos) (evB g f) := by
  obtain ⟨r, h1, h2⟩ := hc
  exact pe_imp (pe_callTy h1 hg hm hv ha hn hdb he hpl) fun σ H Q h => evB_ok h2 h
theorem PkL.one {T : Tx} {F : Fz} {H : Hp} {d : D} {xs : List V} (h : PkL T F H [d] xs) : ∃ x, xs = [x] ∧ Pk T F H d x := by
  cases h with
  | cons k t => cases t; exact ⟨_, rfl, k⟩
theorem PkL.two {T : Tx} {F : Fz} {H : Hp} {d e : D} {xs : List V} (h : PkL T F H [d, e] xs) : ∃ x y, xs = [x, y] ∧ Pk T F H d x ∧ Pk T F H e y := by
  cases h with
  | cons k t =>
    cases t with
    | cons k2 t2 => cases t2; exact ⟨_, _, rfl, k, k2⟩
def intD : List D → Option Val
  | [.int i] => some (vI i)
  | [.bl b] => some (vI (if b then 1 else 0))
  | _ => none
theorem cs_int : CallS X (.type "int") intD := by
  refine ⟨_, call_int1, fun F H xs ds z Q s px hg k => ?_⟩
  unfold intD at hg
  split at hg
  · cases hg
    obtain ⟨x, rfl, p⟩ := px.one
    exact .inl ⟨_, by rw [p.int], plainQ s k rfl⟩
  · cases hg
    obtain ⟨x, rfl, p⟩ := px.one
    exact .inr ⟨_, by rw [p.bl], plainQ s k rfl⟩
  · cases hg
def absD : List D → Option Val
  | [.int i] => some (vI (if i < 0 then -i else i))
  | _ => none
theorem cs_abs : CallS X (.builtin "abs") absD := by
  refine ⟨_, call_abs, fun F H xs ds z Q s px hg k => ?_⟩
  unfold absD at hg
  split at hg
  · cases hg
    obtain ⟨x, rfl, p⟩ := px.one
    exact ⟨_, by rw [p.int], plainQ s k rfl⟩
  · cases hg
def maxD : List D → Option Val
  | [.int i, .int j] => some (vI (if j > i then j else i))
  | _ => none
theorem cs_max (hc : X.calm = true) : CallS X (.builtin "max") maxD := by
  refine ⟨_, call_max2 hc, fun F H xs ds z Q s px hg k => ?_⟩
  unfold maxD at hg
  split at hg
  · cases hg
    obtain ⟨x, y, rfl, p, q⟩ := px.two
    exact ⟨_, _, by rw [p.int, q.int], plainQ s k rfl⟩
  · cases hg
def minD : List D → Option Val
  | [.int i, .int j] => some (vI (if j < i then j else i))
  | _ => none
theorem cs_min (hc : X.calm = true) : CallS X (.builtin "min") minD := by
  refine ⟨_, call_min2 hc, fun F H xs ds z Q s px hg k => ?_⟩
  unfold minD at hg
  split at hg
  · cases hg
    obtain ⟨x, y, rfl, p, q⟩ := px.two
    exact ⟨_, _, by rw [p.int, q.int], plainQ s k rfl⟩
  · cases hg
def lenD : List D → Option Val
  | [.lst ds] => some (vI ds.length)
  | [.tup ds] => some (vI ds.length)
  | [.scr ns] => some (vI ns.length)
  | _ => none
theorem cs_len : CallS X (.builtin "len") lenD := by
  refine ⟨_, call_len_seq, fun F H xs ds z Q s px hg k => ?_⟩
  unfold lenD at hg
  split at hg
  · cases hg
    obtain ⟨x, rfl, p⟩ := px.one
    obtain ⟨a, xs, e1, h1, d1⟩ := p.lst s
    exact ⟨a, xs, by rw [e1], .inl (SqL.of h1), plainQ s k (by rw [d1.length]; rfl)⟩
  · cases hg
    obtain ⟨x, rfl, p⟩ := px.one
    obtain ⟨a, xs, e1, h1, d1, _⟩ := p.tup s
    exact ⟨a, xs, by rw [e1], .inr h1, plainQ s k (by rw [d1.length]; rfl)⟩
  · cases hg
    obtain ⟨x, rfl, p⟩ := px.one
    obtain ⟨a, e1, h1⟩ := p.scr s
    exact ⟨a, _, by rw [e1], .inl h1, plainQ s k (by rw [List.length_map]; rfl)⟩
  · cases hg
def allInts : List D → Option (List Int)
  | [] => some []
  | .int i :: ds => (allInts ds).map (i :: ·)
  | _ :: _ => none
theorem allInts_eq : ∀ {ds : List D} {ns : List Int}, allInts ds = some ns → ds = ns.map D.int
  | [], _, h => by cases h; rfl
  | .int i :: ds, _, h => by
    simp only [allInts, Option.map_eq_some_iff] at h
    obtain ⟨ms, h1, rfl⟩ := h
    rw [allInts_eq h1]; rfl
  | .non :: _, _, h => by cases h
  | .bl _ :: _, _, h => by cases h
  | .str _ :: _, _, h => by cases h
  | .lst _ :: _, _, h => by cases h
  | .tup _ :: _, _, h => by cases h
  | .dK _ _ :: _, _, h => by cases h
  | .dT _ _ :: _, _, h => by cases h
  | .ins _ _ _ :: _, _, h => by cases h
  | .exn _ _ _ :: _, _, h => by cases h
  | .ty _ :: _, _, h => by cases h
  | .glo _ :: _, _, h => by cases h
  | .scr _ :: _, _, h => by cases h
  | .ref _ :: _, _, h => by cases h
theorem denL_ints_eq {T : Tx} {F : Fz} : ∀ {ns : List Int} {xs : List V}, DenL T F (ns.map D.int) xs → xs = ns.map V.int
  | [], _, h => h
  | n :: ns, _, ⟨x, r, h1, h2, h3⟩ => by
    have h2 : x = .int n := h2
    rw [h1, h2, denL_ints_eq h3]; rfl
def sumD : List D → Option Val
  | [.lst ds] => (allInts ds).map fun ns => vI ns.sum
  | _ => none
theorem cs_sum (hc : X.calm = true) : CallS X (.builtin "sum") sumD := by
  refine ⟨_, cr_sum hc, fun F H xs ds z Q s px hg k => ?_⟩
  unfold sumD at hg
  split at hg
  · rw [Option.map_eq_some_iff] at hg
    obtain ⟨ns, h1, rfl⟩ := hg
    obtain ⟨x, rfl, p⟩ := px.one
    obtain ⟨a, xs, e1, h2, d1⟩ := p.lst s
    rw [allInts_eq h1] at d1
    exact ⟨a, ns, by rw [e1], SqL.of (by rw [← denL_ints_eq d1]; exact h2), plainQ s k rfl⟩
  · cases hg
/-- list(x), tuple(x) of a list or tuple -/
def listD : List D → Option Val
  | [.lst ds] => some (.fr (.lst ds))
  | [.tup ds] => some (.fr (.lst ds))
  | _ => none
theorem cs_list : CallS X (.type "list") listD := by
  refine ⟨_, call_list_of, fun F H xs ds z Q s px hg k => ?_⟩
  unfold listD at hg
  split at hg
  · cases hg
    obtain ⟨x, rfl, p⟩ := px.one
    obtain ⟨a, xs, e1, h1, d1⟩ := p.lst s
    exact ⟨a, xs, by rw [e1], .inl (SqL.of h1), fun l hl => k _ F _ (New.fr s hl) ⟨l, rfl, s.free hl, hl, _, upd_same, d1⟩⟩
  · cases hg
    obtain ⟨x, rfl, p⟩ := px.one
    obtain ⟨a, xs, e1, h1, d1, _⟩ := p.tup s
    exact ⟨a, xs, by rw [e1], .inr h1, fun l hl => k _ F _ (New.fr s hl) ⟨l, rfl, s.free hl, hl, _, upd_same, d1⟩⟩
  · cases hg
def tupleD : List D → Option Val
  | [.lst ds] => some (.sh (.tup ds))
  | [.tup ds] => some (.sh (.tup ds))
  | _ => none
theorem cs_tuple : CallS X (.type "tuple") tupleD := by
  refine ⟨_, call_tuple_of, fun F H xs ds z Q s px hg k => ?_⟩
  unfold tupleD at hg
  split at hg
  · cases hg
    obtain ⟨x, rfl, p⟩ := px.one
    obtain ⟨a, xs, e1, h1, d1⟩ := p.lst s
    exact ⟨a, xs, by rw [e1], .inl ⟨SqL.of h1, fun l hl => k _ _ _ (New.sh s hl) ⟨l, _, rfl, SqT.of upd_same, d1.mono (ext_upd (s.free hl))⟩⟩⟩
  · cases hg
    obtain ⟨x, rfl, p⟩ := px.one
    obtain ⟨a, xs, e1, h1, d1, f1⟩ := p.tup s
    exact ⟨a, xs, by rw [e1], .inr ⟨h1, plainQ s k ⟨a, xs, rfl, f1, d1⟩⟩⟩
  · cases hg
/-- n.bit_length() -/
def bitsD : D → Option Val
  | .int i => some (vI (Builtin.Int.intBits i : Nat))
  | _ => none
theorem se_bits {o : Expr} {f : FE} {apos pos : Pos} (ho : SE X W o f) (hbase : attributeBase o "bit_length" X.env (eval o X.env) = eval o X.env := by rfl) (hline : (apos.endLine == pos.line) = true := by rfl) :
    SE X W (.Call (.Attribute o "bit_length" apos) [] [] pos) (evUn bitsD f) :=
  pe_imp (pe_bits ho hbase hline) fun σ H Q h => evUn_ok (r := fun x H1 Q => ∃ i, x = .int i ∧ Q (.int (Builtin.Int.intBits i : Nat)) H1) (fun F H x d z Q s px hg k => by
    unfold bitsD at hg
    split at hg
    · cases hg
      exact ⟨_, px.int, plainQ s k rfl⟩
    · cases hg) h
end
end Tr
/-! Tr, part I: the package's own errors: made, raised. -/
namespace PySem
namespace ErrX
open PySem.W PySem.Calls PyProof.Rows PySem.HandSPX
/-! ### the text of an error's __init__ -/
def eA (v : Str) (p1 p2 p3 : Pos) : Arguments := { posonlyargs := [], args := [{ arg := "self", annotation := none, pos := p1 }, { arg := v, annotation := none, pos := p2 }], vararg := none, kwonlyargs := [], kw_defaults := [], kwarg := none, defaults := [.Constant .none 0 p3] }
def eB (v : Str) (q1 q2 q3 q4 q5 q6 r1 r2 r3 r4 : Pos) : List Stmt := [.Expr (.Call (.Attribute (.Call (.Name "super" q1) [] [] q2) "__init__" q3) [.Name v q4] [] q5) q6, .Assign [.Attribute (.Name "self" r1) v r2] (.Name v r3) r4]
def eS (v : Str) : Scope := { kind := .function, names := [(PySem.Str.ofString "self", .local), (v, .local), (PySem.Str.ofString "__class__", .free), (PySem.Str.ofString "super", .globalImplicit)], isGenerator := false, isCoroutine := false, more := [] }
/-- a name that such a field may have -/
def FldOk (v : Str) : Prop := (v == ("self" : Str)) = false ∧ (v == ("__debug__" : Str)) = false ∧ (("__class__" : Str) == v) = false ∧ (("super" : Str) == v) = false ∧ (("self" : Str) == v) = false
/-- its arguments are bound -/
def BndOk (v : Str) : Prop := ∀ (s : Shared) (qual : Str) (dT : Addr) (doc pm : Value) (an : Option Addr) (cdv ct : Value) (cc : Addr) (p1 p2 p3 : Pos) (body : List Stmt) (o : Addr) (u : Value) (ot : Obj) (n : Nat), s.heap.get? dT = some ot → ot.data = .seq #[.none] n →
  BindsTo s (ksFn "__init__" qual (eA v p1 p2 p3) body (eS v) (.ref dT) .none doc pm an cdv ct cc) ⟨[.ref o, u], []⟩ [("self", .ref o), (v, u)]
theorem bnd_value : BndOk "value" := fun s qual dT doc pm an cdv ct cc p1 p2 p3 body o u ot n h1 h2 => BindsTo.of_defaults (T := dT) rfl h1 h2 rfl (by first | rfl | with_unfolding_all rfl)
theorem bnd_axes : BndOk "axes" := fun s qual dT doc pm an cdv ct cc p1 p2 p3 body o u ot n h1 h2 => BindsTo.of_defaults (T := dT) rfl h1 h2 rfl (by first | rfl | with_unfolding_all rfl)
theorem bnd_place : BndOk "place" := fun s qual dT doc pm an cdv ct cc p1 p2 p3 body o u ot n h1 h2 => BindsTo.of_defaults (T := dT) rfl h1 h2 rfl (by first | rfl | with_unfolding_all rfl)
theorem bnd_number : BndOk "number" := fun s qual dT doc pm an cdv ct cc p1 p2 p3 body o u ot n h1 h2 => BindsTo.of_defaults (T := dT) rfl h1 h2 rfl (by first | rfl | with_unfolding_all rfl)
theorem bnd_name : BndOk "name" := fun s qual dT doc pm an cdv ct cc p1 p2 p3 body o u ot n h1 h2 => BindsTo.of_defaults (T := dT) rfl h1 h2 rfl (by first | rfl | with_unfolding_all rfl)
theorem fld_value : FldOk "value" := ⟨by decide, by decide, by decide, by decide, by decide⟩
theorem fld_axes : FldOk "axes" := ⟨by decide, by decide, by decide, by decide, by decide⟩
theorem fld_place : FldOk "place" := ⟨by decide, by decide, by decide, by decide, by decide⟩
theorem fld_number : FldOk "number" := ⟨by decide, by decide, by decide, by decide, by decide⟩
theorem fld_name : FldOk "name" := ⟨by decide, by decide, by decide, by decide, by decide⟩
/-- what the written part says of the error class at C, and of its __init__, at fI -/
structure ErrTxt (P : Program) (K : Frag) (mg : Str → Option Value) (Ad : Addr) (x v : Str) (C fI : Addr) : Prop where
  fld : FldOk v
  bnd : BndOk v
  gC : mg x = some (.ref C)
  cls : ∃ q N bs sn sub ab col dd k0 k1 k2 k3 k5, K.lookup C = some (excClassObj x q C N bs (.ref Ad :: veTail) true sn sub ab col dd k0 k1 k2 k3 k5 "ValueError.__new__")
  sa : findIn K (.ref C) "__setattr__" = some (some (.builtin "object.__setattr__"))
  ga : findIn K (.ref C) "__getattribute__" = some (some (.builtin "BaseException.__getattribute__"))
  gg : findIn K (.ref C) "__getattr__" = some none
  noN : findIn K (.ref C) v = some none
  iC : findIn K (.ref C) "__init__" = some (some (.ref fI))
  tC : typeIn K (.ref fI) = some (.type "function")
  kC : keepIn K (.ref C) = true
  hdC : hasDictIn K C = true
  clC : findIn K (.ref C) "__class__" = some (some (.builtin "object.__class__"))
  sup : ks_superIn K C C "__init__" = some (some (.builtin "ValueError.__init__"))
  opq : nsIn K cStatics "thirdparty.any" = some none
  gS : mg "super" = none
  topS : (P.main.scope.names.lookup ("super" : Str)).isSome = false
  fn : ∃ (oc : Value) (od : Option Addr) (qual : Str) (dT : Addr) (doc pm : Value) (an : Option Addr) (cda cc : Addr) (ct : Value) (osl : Array (Option Value)) (p1 p2 p3 q1 q2 q3 q4 q5 q6 r1 r2 r3 r4 : Pos),
    K.lookup fI = some ⟨oc, od, .func (ksFn "__init__" qual (eA v p1 p2 p3) (eB v q1 q2 q3 q4 q5 q6 r1 r2 r3 r4) (eS v) (.ref dT) .none doc pm an (.ref cda) ct cc), osl⟩ ∧ codeIn K (.ref cda) qual = true ∧
    (∃ tc td tn ts, K.lookup dT = some ⟨tc, td, .seq #[.none] tn, ts⟩) ∧ (q3.endLine == q5.line) = true ∧
    (∃ cl cld csl, K.lookup cc = some ⟨cl, cld, .cell (some (.ref C)), csl⟩) ∧
    ∃ ccl cdd ccs vs file tf, K.lookup cda = some ⟨ccl, cdd, .fields vs, ccs⟩ ∧ vs[2]? = some (.str file tf) ∧ ((P.main.file : Str) == file) = true
section
variable {P : Program} {K : Frag} {mg : Str → Option Value} {Ad C fI : Addr} {x v : Str}
theorem ErrTxt.mro (T : ErrTxt P K mg Ad x v C fI) (b : Value) : mroIn K C b = some ((.ref C :: .ref Ad :: veTail).contains b) := by
  obtain ⟨q, N, bs, sn, sub, ab, col, dd, k0, k1, k2, k3, k5, hC⟩ := T.cls
  unfold mroIn clsIn
  rw [hC]
  rfl
theorem has_ty (T : String) (h : veTail.contains (.type T) = true) : (Value.ref C :: .ref Ad :: veTail).contains (.type T) = true := by
  rw [List.contains_cons, List.contains_cons, h, Bool.or_true, Bool.or_true]
theorem ErrTxt.exC (T : ErrTxt P K mg Ad x v C fI) : subIn K (.ref C) (.type "BaseException") = some true := (T.mro _).trans (by rw [has_ty _ (by decide)])
theorem ErrTxt.veC (T : ErrTxt P K mg Ad x v C fI) : subIn K (.ref C) (.type "ValueError") = some true := (T.mro _).trans (by rw [has_ty _ (by decide)])
theorem ErrTxt.obC (T : ErrTxt P K mg Ad x v C fI) : mroIn K C (.type "object") = some true := (T.mro _).trans (by rw [has_ty _ (by decide)])
theorem ErrTxt.mroC (T : ErrTxt P K mg Ad x v C fI) : mroIn K C (.ref C) = some true := (T.mro _).trans (by rw [List.contains_cons, beq_self_eq_true, Bool.true_or])
theorem ErrTxt.tyC (T : ErrTxt P K mg Ad x v C fI) : typeIn K (.ref C) = some (.type "type") := by
  obtain ⟨q, N, bs, sn, sub, ab, col, dd, k0, k1, k2, k3, k5, hC⟩ := T.cls
  show (K.lookup C).map (·.cls) = _
  rw [hC]
  rfl
theorem ErrTxt.isC (T : ErrTxt P K mg Ad x v C fI) : (clsIn K C).isSome = true := by
  obtain ⟨q, N, bs, sn, sub, ab, col, dd, k0, k1, k2, k3, k5, hC⟩ := T.cls
  unfold clsIn
  rw [hC]
  rfl
theorem oc_get : specialIn K (.builtin "object.__class__") "__get__" = some (some (.builtin "getset_descriptor.__get__")) := by kernel_rfl
theorem oc_takes : takesIn K (.builtin "object.__class__") = some true := by kernel_rfl
end
theorem boot_super : bootBuiltins "super" = some (.type "super") := by decide +kernel
theorem one_size (v : Value) : [v].length ≤ sizeLine := by
  rw [sizeLine_eq]
  exact (by decide : 1 ≤ 16777216)
/-- the module's names and the built-ins in this heap -/
structure Mo (mg : Str → Option Value) (h : Heap) : Prop where
  glob : h.Ns mainGlobals mg
  blt : ∃ mb, h.Ns builtinsNs mb ∧ ∀ x : Str, x ≠ "__name__" → mb x = bootBuiltins x
theorem Mo.keeps {mg : Str → Option Value} {h h' : Heap} (m : Mo mg h) (k : ∀ b o, h.get? b = some o → h'.get? b = some o) : Mo mg h' := ⟨m.glob.keeps k, by
  obtain ⟨mb, h1, h2⟩ := m.blt
  exact ⟨mb, h1.keeps k, h2⟩⟩
structure InitEnd (h h' : Heap) (x C dx t1 : Addr) (f : Str) (v : Value) : Prop where
  keep : ∀ b o, b ≠ x → h.get? b = some o → h'.get? b = some o
  obj : h'.get? x = some { cls := .ref C, dict := some dx, data := .fields #[.ref t1, .none, .none, .none, .bool false, .none] }
  dbig : h.objs.size ≤ dx
  dne : dx ≠ x
  ns : h'.Ns1 dx (fun y => if y = f then some v else none)
structure OwnMade (h h' : Heap) (e C d : Addr) (f : Str) (v : Value) : Prop where
  keep : ∀ b o, h.get? b = some o → h'.get? b = some o
  new : h.objs.size ≤ e
  obj : ∃ oe vs, h'.get? e = some oe ∧ oe.cls = .ref C ∧ oe.dict = some d ∧ oe.data = .fields vs ∧ vs[1]? = some .none
  dbig : h.objs.size ≤ d
  dne : d ≠ e
  ns : h'.Ns1 d (fun y => if y = f then some v else none)
section
variable {prog : Program} {w : World} {A : Around} {E : Value → Shared → Prop} {R : Result → Shared → Prop} {s : Shared} {K : Frag} {mg : Str → Option Value} {Ad C fI : Addr} {x v : Str}
/-- ValueError.__init__ bound to an error, called -/
theorem call_veinit {h : Heap} {g : Array GenState} {d : Drawn} {t : Nat} {os : OsState} {nm q : Str} {N : Addr} {bs bm : List Value} {hdct : Bool} {sn : List Str} {sub : List Value} {ab : Bool} {col : Option Bool} {dd : Option Addr} {k0 k1 k2 k3 k5 : Option Value}
    {u e t0 : Addr} {rest : List Value} {Q : Value → Shared → Prop}
    (hC : h.get? C = some (excClassObj nm q C N bs bm hdct sn sub ab col dd k0 k1 k2 k3 k5 "ValueError.__new__")) (he : h.get? e = some (excO C t0)) (hu : h.get? u = some (kxs_mw "ValueError.__init__" e)) (hrest : rest.length ≤ sizeLine)
    (hq : ∀ h' t1, (∀ b o, b ≠ e → h.get? b = some o → h'.get? b = some o) → h'.get? e = some (excO C t1) → Q .none ⟨h', g, d, t, os⟩) :
    wpAny (model prog w) A (call (.ref u) rest) Q E ⟨h, g, d, t, os⟩ := by
  refine wpAny_call (codeAny_of_tree ?_)
  show wpAny _ A.in1 (callAny (.ref u) ⟨rest, []⟩) _ _ _
  simp only [callAny]
  refine wpAny_bind (wpAny_load hu ?_)
  simp only [kxs_mw, show (Value.type "method-wrapper" == Value.type "method" || Value.type "method-wrapper" == Value.type "builtin_function_or_method" || Value.type "method-wrapper" == Value.type "method-wrapper") = true by decide, if_true]
  refine KFB.if_so (by decide) ?_
  refine wpAny_bind (ESX.check_bound F.excBase_ValueError hC he rfl ?_)
  refine wpAny_bind (wpAny_pure (wpAny_pure ?_))
  refine ⟨plainId_quiet F.excBase_ValueError.init.plain _, codeAny_builtin F.excBase_ValueError.initEntry ?_⟩
  exact exc_init_tree (cls := .ref C) (t0 := t0) (dv := none) (c2 := .none) (c3 := .none) (b4 := .bool false) he hrest fun h' k e' _ => hq h' _ k e'
theorem ldK {M : Model} {env : Env} {m : Str → Option Value} {y : Str} {pos : Pos} {u : Value} {Q : Value → Shared → Prop} (hn : s.heap.Ns env.locals m) (hv : m y = some u) (h : Q u s)
    (hk : env.scope.kind = .function) (hl : env.kindOf y = some .local) (hd : (y == ("__debug__" : Str)) = false) : wpAny M A (eval (.Name y pos) env) Q E s := wpAny_Name (wpAny_loadName_local hk hl hn hv h) hd
theorem meth_eq {o : Expr} {name : Str} {apos pos : Pos} {args : List Expr} {env : Env} (hline : (apos.endLine == pos.line) = true) (hf : methodCallForm (args.length + ([] : List Keyword).length) (backTo pos (starEach args env)) (backToKw pos (keywordEach [] env)) = true) :
    eval (.Call (.Attribute o name apos) args [] pos) env = (do
      let ov ← attributeBase o name env (eval o env)
      standAt apos.atName
      let (f, first) ← holding [ov] (getMethod ov name (do return (← importBound o env).getD true))
      callWith pos f first (backTo pos (starEach args env)) []) := by
  have hpos : methodCallPos true o env apos pos = pure pos := by unfold methodCallPos; simp [hline]
  rw [arm_eval_Call]
  unfold methodCall
  rw [hf, hpos]
  simp only [pure_bind]
  rfl
/-- the arguments ar are bound to self and the field -/
def BndA (v : Str) (o : Addr) (u : Value) (ar : Args) : Prop := ∀ (s : Shared) (qual : Str) (dT : Addr) (doc pm : Value) (an : Option Addr) (cdv ct : Value) (cc : Addr) (p1 p2 p3 : Pos) (body : List Stmt) (ot : Obj) (n : Nat), s.heap.get? dT = some ot → ot.data = .seq #[.none] n →
  BindsTo s (ksFn "__init__" qual (eA v p1 p2 p3) body (eS v) (.ref dT) .none doc pm an cdv ct cc) ar [("self", .ref o), (v, u)]
theorem err_initA (T : ErrTxt prog K mg Ad x v C fI) {o t0 : Addr} {u : Value} {ar : Args} (hbd : BndA v o u ar) (X : K.In s.heap) (hm : Mo mg s.heap) (hlim : s.heap.NoLimit) (hx : s.heap.get? o = some (excO C t0)) (hnx : K.lookup o = none) (hroom : A.depth < recursionLimit)
    (hq : ∀ h' tk dx t1, InitEnd s.heap h' o C dx t1 v u → R (.ok (.ret .none)) { s with heap := h', toks := tk }) :
    codeAny (model prog w) A (.call (.ref fI) ar) R s := by
  obtain ⟨oc, od, qual, dT, doc, pm, an, cda, cc, ct, osl, p1, p2, p3, q1, q2, q3, q4, q5, q6, r1, r2, r3, r4, ho, hcd, ⟨tc, td, tn, ts, hdT⟩, hline, ⟨cl, cld, csl, hcell⟩, ccl, cdd, ccs, vs, file, tf, hcode, hvs, hfile⟩ := T.fn
  obtain ⟨q, N, bs, sn, sub, ab, col, dd, k0, k1, k2, k3, k5, hC⟩ := T.cls
  have hbm : refsVE (.ref Ad :: veTail) = true := by first | rfl | (simp only [refsVE]; decide)
  obtain ⟨f1, f2, f3, f4, f5⟩ := T.fld
  have hcl : clsIn K C = some { name := x, bases := bs, mro := .ref C :: .ref Ad :: veTail, ns := N, qualname := q, hasDict := true, slotNames := sn, subclasses := sub, abstract := ab, collection := col, hasDel := false } := by unfold clsIn; rw [hC] <;> rfl
  have lv : (eS v).names.lookup v = some .local := by
    show List.lookup v [(("self" : Str), NameKind.local), (v, .local), (("__class__" : Str), .free), (("super" : Str), .globalImplicit)] = _
    simp [List.lookup, f1]
  have lc : (eS v).names.lookup ("__class__" : Str) = some .free := by
    show List.lookup ("__class__" : Str) [(("self" : Str), NameKind.local), (v, .local), (("__class__" : Str), .free), (("super" : Str), .globalImplicit)] = _
    simp [List.lookup, f3, show (("__class__" : Str) == ("self" : Str)) = false by decide]
  have ls : (eS v).names.lookup ("super" : Str) = some .globalImplicit := by
    show List.lookup ("super" : Str) [(("self" : Str), NameKind.local), (v, .local), (("__class__" : Str), .free), (("super" : Str), .globalImplicit)] = _
    simp [List.lookup, f4, show (("super" : Str) == ("self" : Str)) = false by decide, show (("super" : Str) == ("__class__" : Str)) = false by decide]
  have bv : ([(("self" : Str), Value.ref o), (v, u)] : List (Str × Value)).reverse.lookup v = some u := by simp [List.lookup]
  have bs' : ([(("self" : Str), Value.ref o), (v, u)] : List (Str × Value)).reverse.lookup ("self" : Str) = some (.ref o) := by simp [List.lookup, f5]
  refine ks_codeAny_call_defAt (fd := ksFn "__init__" qual (eA v p1 p2 p3) (eB v q1 q2 q3 q4 q5 q6 r1 r2 r3 r4) (eS v) (.ref dT) .none doc pm an (.ref cda) ct cc) (body := eB v q1 q2 q3 q4 q5 q6 r1 r2 r3 r4) (binds := [("self", .ref o), (v, u)]) hroom (X _ _ ho) rfl hlim (codeRec_of X hcd) rfl
    (hbd _ _ _ _ _ _ _ _ _ _ _ _ _ _ _ (X _ _ hdT) rfl) ?hcell ?hloc (fun h₁ hns k₁ => ?_) rfl rfl rfl
  case hcell =>
    intro y hy
    simp only [eS, List.mem_cons, List.not_mem_nil, or_false] at hy
    rcases hy with rfl | rfl | rfl | rfl <;> simp
  case hloc =>
    intro y hy
    simp only [List.mem_cons, List.not_mem_nil, or_false] at hy
    rcases hy with rfl | rfl
    · rfl
    · exact lv
  show wpAt _ (A.deeper (ksEnv qual (eS v) s.heap.objs.size fI (.ref cda) cc)) (.func (eB v q1 q2 q3 q4 q5 q6 r1 r2 r3 r4) (ksEnv qual (eS v) s.heap.objs.size fI (.ref cda) cc)) (execs (eB v q1 q2 q3 q4 q5 q6 r1 r2 r3 r4) (ksEnv qual (eS v) s.heap.objs.size fI (.ref cda) cc)) _ _ _
  have X₁ : K.In h₁ := X.keeps k₁
  have hx₁ := k₁ _ _ hx
  have hoC : o ≠ C := fun z => by
    have y := X _ _ hC
    rw [← z, hx] at y
    cases y
  refine ks_wpAt_execs_cons (ks_wpAt_Expr_any (ks_wpAt_MethodCall ?_ (meth_eq hline rfl)) rfl rfl)
  refine ks_wpAt_super_base (env := ksEnv qual (eS v) s.heap.objs.size fI (.ref cda) cc) ls lc (by decide) rfl (X₁ _ _ ho) rfl rfl rfl (X₁ _ _ hcode) rfl hvs hfile T.topS ?_
  obtain ⟨mb, m1, m2⟩ := hm.blt
  refine ks_loadName_global rfl ls (loadGlobal_builtin (env := ksEnv qual (eS v) s.heap.objs.size fI (.ref cda) cc) (hm.glob.keeps k₁) T.gS (m1.keeps k₁) ((m2 _ (by decide)).trans boot_super) ⟨rfl, ?_⟩)
  refine wpAny_loadName_free rfl lc rfl ⟨_, X₁ _ _ hcell, rfl⟩ ?_
  refine wpAny_loadName_local rfl rfl hns bs' ?_
  refine ks_wpAny_isType_cls (X₁ _ _ hC) rfl ⟨rfl, ?_⟩
  refine ks_wpAny_call_super (X₁ _ _ hC) rfl hx₁ rfl (fun c e => by cases e) (looks_mroIn X₁ T.mroC) (fun h₂ e2 k₂ => ?_)
  have X₂ : K.In h₂ := X₁.keeps k₂
  have hx₂ := k₂ _ _ hx₁
  have hI : W.InstAt h₂ o (excO C t0) C none := ⟨hx₂, rfl, rfl, trivial⟩
  have sup := T.sup
  unfold ks_superIn at sup
  rw [hcl, Option.bind_some] at sup
  refine kxs_getMethod kxs_ValueError e2 (looks_opaque X₂ T.opq) (l₀ := .ref C :: .ref Ad :: veTail) (fun A Q E s k q => wpAny_bind ((looks_clsIn X₂ hcl) A _ E s k (wpAny_pure q))) rfl X₂ sup (hI.type.andThen (looks_subIn X₂ T.veC)) hoC (by decide) ?_
  have k₃ : ∀ b ob, h₂.get? b = some ob → (h₂.push (kxs_mw "ValueError.__init__" o)).get? b = some ob := fun b ob e => Heap.get?_push_of_some _ e
  have kk : ∀ b ob, h₁.get? b = some ob → (h₂.push (kxs_mw "ValueError.__init__" o)).get? b = some ob := fun b ob e => k₃ _ _ (k₂ _ _ e)
  refine kxs_callWith (i := "ValueError.__init__") (x := o) rfl (evalArgs_plain (spliced_cons (ldK (hns.keeps kk) bv ?_ rfl lv f2)))
  refine spliced_nil ⟨Heap.get?_push_at rfl rfl, ?_⟩
  show wpAny _ _ (call (.ref h₂.objs.size) [u]) _ _ _
  refine call_veinit (kk _ _ (X₁ _ _ hC)) (k₃ _ _ hx₂) (Heap.get?_push_at rfl rfl) (one_size u) (fun h₄ t1 k₄ hx₄ => ?_)
  show wpAt _ _ _ (execs _ _) _ _ _
  have hne : s.heap.objs.size ≠ o := Nat.ne_of_gt (Heap.lt_size hx)
  have hns₄ : h₄.Ns s.heap.objs.size (fun y => ([(("self" : Str), Value.ref o), (v, u)] : List (Str × Value)).reverse.lookup y) := by
    obtain ⟨oL, es, ep, hL, r⟩ := hns
    exact ⟨oL, es, ep, k₄ _ _ hne (kk _ _ hL), r⟩
  have X₄ : K.In h₄ := fun a ob e => k₄ a ob (fun z => by rw [z, hnx] at e; cases e) (kk _ _ (X₁ a ob e))
  refine wpAt_of_wpAny ?_
  refine wpAny_execs_cons (plainObj_wpAny_Assign_Attribute ?_)
  refine ldK hns₄ bv (ldK (u := .ref o) hns₄ bs' ?_ rfl rfl (by decide)) rfl lv f2
  refine set_plain X₄ (ox := excO C t1) (od := none) ⟨hx₄, rfl, rfl, trivial⟩ T.sa ?_
  refine exc_osa X₄ hx₄ hcl (show refsVE (.ref C :: .ref Ad :: veTail) = true from hbm) rfl T.noN (fun h₅ tk₅ dx k₅ dn dne hx₅ hn₅ => ?_)
  show wpAny _ _ (execs _ _) _ _ _
  have z : s.heap.objs.size < h₄.objs.size := hns₄.lt
  refine wpAny_execs_nil (hq h₅ tk₅ dx t1 ⟨fun b ob hb e => k₅ b ob hb (k₄ b ob hb (kk _ _ (k₁ _ _ e))), hx₅, Nat.le_of_lt (Nat.lt_of_lt_of_le z dn), dne, hn₅⟩)
theorem err_init (T : ErrTxt prog K mg Ad x v C fI) {o t0 : Addr} {u : Value} (X : K.In s.heap) (hm : Mo mg s.heap) (hlim : s.heap.NoLimit) (hx : s.heap.get? o = some (excO C t0)) (hnx : K.lookup o = none) (hroom : A.depth < recursionLimit)
    (hq : ∀ h' tk dx t1, InitEnd s.heap h' o C dx t1 v u → R (.ok (.ret .none)) { s with heap := h', toks := tk }) :
    codeAny (model prog w) A (.call (.ref fI) ⟨[.ref o, u], []⟩) R s := err_initA T (fun s qual dT doc pm an cdv ct cc p1 p2 p3 body ot n h1 h2 => T.bnd s qual dT doc pm an cdv ct cc p1 p2 p3 body o u ot n h1 h2) X hm hlim hx hnx hroom hq
theorem err_made (T : ErrTxt prog K mg Ad x v C fI) {u : Value} (X : K.In s.heap) (hm : Mo mg s.heap) (hlim : s.heap.NoLimit) (hroom : A.depth + 1 < recursionLimit)
    (hq : ∀ h' tk e d, OwnMade s.heap h' e C d v u → R (.ok (.ret (.ref e))) { s with heap := h', toks := tk }) :
    codeAny (model prog w) A (.call (.ref C) ⟨[u], []⟩) R s := by
  obtain ⟨q, N, bs, sn, sub, ab, col, dd, k0, k1, k2, k3, k5, hC⟩ := T.cls
  have hbm : refsVE (.ref Ad :: veTail) = true := by first | rfl | (simp only [refsVE]; decide)
  obtain ⟨hp, g, dr, tk, os⟩ := s
  have k : ∀ b o, hp.get? b = some o → ((hp.push (kdv_tup [u])).push (excO C hp.objs.size)).get? b = some o := fun b o e => Heap.get?_push_of_some _ (Heap.get?_push_of_some _ e)
  have hget : ((hp.push (kdv_tup [u])).push (excO C hp.objs.size)).get? (hp.objs.size + 1) = some (excO C hp.objs.size) := by heap_get
  have hnx : K.lookup (hp.objs.size + 1) = none := by
    cases e : K.lookup (hp.objs.size + 1) with
    | none => rfl
    | some o =>
      have z : hp.get? (hp.objs.size + 1) = some o := X _ _ e
      exact absurd (Nat.lt_of_succ_lt (Heap.lt_size z)) (Nat.lt_irrefl _)
  refine call_own F.excBase_ValueError (fun X => refsVE_contains X _ hbm) (X _ _ hC) (looks_findIn X T.iC) (fun self => bind_fn X self T.tC) (one_size u) ?_
  refine err_init (s := ⟨(hp.push (kdv_tup [u])).push (excO C hp.objs.size), g, dr, tk, os⟩) T (X.keeps k) (hm.keeps k) (hlim.keeps k) hget hnx ?_ fun h' tk' dx t1 ⟨k', hx, dn, dne, hns⟩ => ?_
  · show A.depth + 1 < recursionLimit
    exact hroom
  · have old : ∀ b o, hp.get? b = some o → h'.get? b = some o := fun b o e => k' b o (Nat.ne_of_lt (Nat.lt_succ_of_lt (Heap.lt_size e))) (k b o e)
    have z : hp.objs.size + 1 + 1 ≤ dx := by
      first
        | (simpa only [Heap.size_push] using dn)
        | exact dn
        | (have q := dn; rw [Heap.size_push, Heap.size_push] at q; exact q)
    exact ⟨rfl, hq h' tk' (hp.objs.size + 1) dx ⟨old, Nat.le_succ _, ⟨_, _, hx, rfl, rfl, rfl, rfl⟩, Nat.le_trans (Nat.le_trans (Nat.le_succ _) (Nat.le_succ _)) z, dne, hns⟩⟩
end
end ErrX
end PySem
namespace Tr
open PySem PySem.Spec PyProof.Rows L2
theorem relO_one {v : V} {v' : Value} (n : Str) (r : RelV v v') (f : Str) : RelO (List.lookup f [(n, v)]) (if f = n then some v' else none) := by
  by_cases hw : f = n
  · subst hw
    rw [if_pos rfl]
    have q : List.lookup f [(f, v)] = some v := by simp [List.lookup]
    rw [q]
    exact r
  · rw [if_neg hw]
    have qw : (f == n) = false := by simpa using hw
    have q2 : List.lookup f [(n, v)] = none := by simp [List.lookup, qw]
    rw [q2]
    trivial
section
variable {X : Cx} {W : WX} {Ad C fI : Addr} {x v : Str}
/-- X(e) for an own error -/
def tMkE (C : Addr) (v : Str) (ta : TA) : Sg → Hp → XK → Prop := fun σ H Q => ta σ H fun vs H1 => ∃ y, vs = [y] ∧ ∀ d, H1 d = none → Q (.ref C) (some d) (upd H1 d (.xd [(v, y)]))
theorem pmk_err {a : Expr} {ta : TA} {p pos : Pos} {k : Nat} (T : PySem.ErrX.ErrTxt X.prog X.K X.mg Ad x v C fI) (hr : Room k X.A) (ha : PA X [a] ta) (hg : Gl X x := by rfl) (hdb : (x == ("__debug__" : Str)) = false := by decide)
    (he : starEach (a :: []) X.env = (false, eval a X.env) :: starEach [] X.env := by rfl) (hpl : (backTo pos (starEach [] X.env)).any (·.1) = false := by rfl) :
    PMk X (.Call (.Name x p) [a] [] pos) (tMkE C v ta) := by
  intro pins s σ H Q I h
  refine wpAny_Call_Name_kw (ld_glob I hg T.gC ?_ hdb)
  refine PySem.W.callWith_K (h₀ := X.base) I.ok.mod.kin T.kC (thn (ha.run pos pins s σ H _ I h) fun us s1 hh => ?_) he hpl
  obtain ⟨vs, H1, I1, r1, y, ev, q1⟩ := hh
  subst ev
  refine ⟨I1.kIn, ?_⟩
  cases r1 with
  | cons rv rn =>
    rename_i v' us'
    cases rn
    show wpAny _ _ (call (.ref C) [v']) _ _ _
    have hlim := I1.nolimit
    have hmo : PySem.ErrX.Mo X.mg s1.heap := PySem.ErrX.Mo.keeps ⟨I1.ok.mod.glob, I1.ok.mod.blt⟩ I1.bk
    obtain ⟨hp, g, dr, tk, os⟩ := s1
    refine wpAny_call (PySem.ErrX.err_made T I1.kIn hmo hlim (by have := hr.dp; omega) fun h' tk' e d M => ?_)
    show MkP X pins σ Q (.ref e) ⟨h', g, dr, tk', os⟩
    obtain ⟨oe, fv, hoe, hc, hd, hdat, h1⟩ := M.obj
    have hns := M.ns
    obtain ⟨G', g1, g2⟩ := restrict h' fun b => decide (b ≠ e)
    have gk : ∀ b, b ≠ e → G'.get? b = h'.get? b := fun b hb => g1 b (decide_eq_true hb)
    have ge : G'.get? e = none := g2 e (by simp)
    have old : ∀ b o, hp.get? b = some o → G'.get? b = some o := fun b o q => (gk b (Nat.ne_of_lt (Nat.lt_of_lt_of_le (Heap.lt_size q) M.new))).trans (M.keep b o q)
    have ob : ObjOk X.prog X.w (upd H1 d (.xd [(v, y)])) G' d (.xd [(v, y)]) :=
      ⟨_, hns.at (fun o q => (gk d M.dne).trans q), fun f => relO_one v rv f⟩
    have J : Inv X pins σ (upd H1 d (.xd [(v, y)])) ⟨G', g, dr, tk', os⟩ := I1.laid (t' := tk') old M.dbig ob
    refine ⟨e, oe, fv, ⟨G', g, dr, tk', os⟩, _, .ref C, some d, rfl, J, fun b o q => ?_, ge, hoe, ⟨hc, hd⟩, hdat, h1, ?_, rfl, I1.bare, raises_own T.exC T.tyC, q1 d (I1.hok.fresh M.dbig)⟩
    · by_cases hb : b = e
      · have q' : G'.get? b = some o := q
        rw [hb, ge] at q'; cases q'
      · exact (gk b hb).symm.trans q
    · rw [upd_ne (Ne.symm M.dne)]
      exact I1.hok.fresh M.new
/-- raise X(e) -/
def fsRaise (c n : Str) (f : FE) : FS := fun ρ => (f ρ).bind fun r => match frz r.2 r.1 with
  | some (d, ρ') => .ex c n d ρ'
  | none => .no
theorem ss_raise {a : Expr} {f : FE} {p pos pos2 : Pos} {k : Nat} (hc : X.calm = true) (T : PySem.ErrX.ErrTxt X.prog X.K X.mg Ad x v C fI) (hr : Room k X.A) (tk : Takes X W) (ha : SE X W a f) (hg : Gl X x := by rfl) (hdb : (x == ("__debug__" : Str)) = false := by decide)
    (he : starEach (a :: []) X.env = (false, eval a X.env) :: starEach [] X.env := by rfl) (hpl : (backTo pos (starEach [] X.env)).any (·.1) = false := by rfl) :
    SS X W (.Raise (some (.Call (.Name x p) [a] [] pos)) none pos2) (fsRaise x v f) :=
  ps_imp (ps_raise hc tk (pmk_err T hr (sa_cons ha sa_nil he) hg hdb he hpl)) fun D σ H ⟨ρ, F, rl, h⟩ => by
    unfold fsRaise at h
    refine ⟨ρ, F, rl, ?_⟩
    unfold faCons
    cases ea : f ρ with
    | no => rw [ea] at h; exact h
    | ex c n d ρ' => rw [ea] at h; exact fun F' H' cls dx s e => h σ F' H' cls dx s e
    | ok ra =>
      rw [ea] at h
      simp only [R.bind, faNil] at h ⊢
      intro xs F1 H1 s1 ⟨y, r, ex, py, pr⟩
      have pr : r = [] := pr
      subst pr
      refine ⟨y, ex, fun d hd => ?_⟩
      have pf : frz ra.2 ra.1.held = frz ra.2 ra.1 := frz_held _ _
      cases ef : frz ra.2 ra.1 with
      | none => simp only [ef] at h
      | some z =>
        obtain ⟨dd, ρ2⟩ := z
        simp only [ef] at h
        obtain ⟨F2, s2, dn⟩ := py.frz s1.rel (pf.trans ef)
        have nw : New (.of X) F2 H1 (F2.upd d (.xd [(v, y)])) (upd H1 d (.xd [(v, y)])) := New.sh s2.rel.sub hd
        exact h σ _ _ _ _ ((s1.trans s2).trans (nw.stp s2.rel)) ⟨C, d, y, T.gC, rfl, rfl, upd_same, dn.mono nw.ff⟩
end
end Tr
/-! Tr, part IK: errors made with keywords, or with nothing. -/
namespace PySem
namespace ErrX
open PySem.W PySem.Calls PyProof.Rows PySem.HandSPX Builtin Builtin.ObjectAttr
section
variable {M : Model} {A : Around} {E : Value → Shared → Prop} {h : Heap} {g : Array GenState} {d : Drawn} {t : Nat} {os : OsState}
variable {nm q : Str} {C N : Addr} {bs bm bmB : List Value} {hdct : Bool} {sn : List Str} {sub : List Value} {ab : Bool} {col : Option Bool} {dd : Option Addr} {k0 k1 k2 k3 k5 : Option Value} {B newId initId : String}
theorem check_newK (F : ExcBaseFacts B newId initId bmB) (hT : ∀ X : String, bm.contains (.type X) = bmB.contains (.type X)) {kw : List (Str × Value)} {Q : Unit → Shared → Prop}
    (hC : h.get? C = some (excClassObj nm q C N bs bm hdct sn sub ab col dd k0 k1 k2 k3 k5 newId)) (hq : Q () ⟨h, g, d, t, os⟩) : wpAny M A (checkBuiltinCall newId ⟨[.ref C], kw⟩) Q E ⟨h, g, d, t, os⟩ := by
  have hcont : (Value.ref C :: bm).contains (.type B) = true := by rw [List.contains_cons, hT, F.hasB, Bool.or_true]
  have hstar := F.noStar
  simp only [checkBuiltinCall, F.newKind, F.newSplit, F.newRow]
  repeat (first | refine wpAny_loadPart_at hC ?_ | (refine wpAny_isSubtype_exc hC ?_; rw [hcont]) | refine wpAny_staticBase_exc hC ?_ | refine wpAny_madeBy_exc hC ?_ | simp only [bne_self_eq_false, Bool.false_eq_true, if_false] | wp_step)
  exact hq
end
section
variable {prog : Program} {w : World} {A : Around} {E : Value → Shared → Prop} {R : Result → Shared → Prop} {h : Heap} {g : Array GenState} {d : Drawn} {t : Nat} {os : OsState}
variable {nm q : Str} {C N : Addr} {bs bm bmB : List Value} {hdct : Bool} {sn : List Str} {sub : List Value} {ab : Bool} {col : Option Bool} {dd : Option Addr} {k0 k1 k2 k3 k5 : Option Value} {B newId initId : String}
theorem newK (F : ExcBaseFacts B newId initId bmB) (hT : ∀ X : String, bm.contains (.type X) = bmB.contains (.type X)) {kw : List (Str × Value)}
    (hC : h.get? C = some (excClassObj nm q C N bs bm hdct sn sub ab col dd k0 k1 k2 k3 k5 newId))
    (hq : R (.ok (.ret (.ref (h.objs.size + 1)))) ⟨(h.push { cls := .type "tuple", data := .seq #[] }).push
      { cls := .ref C, data := .fields #[.ref h.objs.size, .none, .none, .none, .bool false, .none] }, g, d, t, os⟩) :
    codeAny (model prog w) A (.builtin newId ⟨[.ref C], kw⟩) R ⟨h, g, d, t, os⟩ := by
  have hrest : ([] : List Value).length ≤ sizeLine := Nat.zero_le _
  have hends := F.ends
  have hcB : (Value.ref C :: bm).contains (.type B) = true := by rw [List.contains_cons, hT, F.hasB, Bool.or_true]
  have hcA : (Value.ref C :: bm).contains (.type "AttributeError") = false := by rw [List.contains_cons, hT, F.noAttr]; rfl
  have hcN : (Value.ref C :: bm).contains (.type "NameError") = false := by rw [List.contains_cons, hT, F.noName]; rfl
  refine codeAny_builtinAt F.entry ?_
  unfold Builtin.«BaseException.__new__»
  refine wpAt_bind ?_
  show wpAt _ _ _ (stack >>= _) _ _ _
  refine wpAt_bind (wpAt_stack fun p below => wpAt_of_wpAny ?_)
  wp_walk
  refine wpAt_of_wpAny ?_
  rw [F.owner]
  repeat (first | with_reducible refine wpAny_madeHere_exc F.canon hC ?_ | with_reducible refine wpAny_loadPart_at hC ?_ | (with_reducible refine wpAny_isSubtype_exc hC ?_; first | rw [hcB] | rw [hcA] | rw [hcN]) | wp_step)
  show R _ _
  rw [Heap.size_push]
  exact hq
theorem type_callK (F : ExcBaseFacts B newId initId bmB) (hT : ∀ X : String, bm.contains (.type X) = bmB.contains (.type X)) {kw : List (Str × Value)} {fI : Addr} {Q : Fin → Shared → Prop}
    (hC : h.get? C = some (excClassObj nm q C N bs bm hdct sn sub ab col dd k0 k1 k2 k3 k5 newId))
    (hi : W.Looks (model prog w) h (typeLookup (.ref C) "__init__") (some (.ref fI))) (hb : ∀ self, W.Looks (model prog w) h (bindSpecial (.ref fI) self) (.ref fI, [self]))
    (hq : codeAny (model prog w) A (.call (.ref fI) ⟨[.ref (h.objs.size + 1)], kw⟩)
      (fun r s' => match r with | .ok (.ret v) => v = .none ∧ Q (.done (.ret (.ref (h.objs.size + 1)))) s' | .ok _ => False | .error e => E e s')
      ⟨(h.push (W.kdv_tup [])).push (excO C h.objs.size), g, d, t, os⟩) :
    wpAny (model prog w) A (Builtin.«type.__call__» ⟨[.ref C], kw⟩) Q E ⟨h, g, d, t, os⟩ := by
  repeat (first | with_reducible refine wpAny_loadPart_at hC ?_ | with_reducible refine wpAny_madeBy_exc hC ?_ | wp_step)
  refine codeAny_call_builtin_code (Code.quiet_builtin _ F.quiet) (check_newK F hT hC ?_)
  refine newK F hT hC ?_
  show wpAny _ _ _ _ _ _
  have k : ∀ b o, h.get? b = some o → ((h.push (W.kdv_tup [])).push (excO C h.objs.size)).get? b = some o := fun b o e => Heap.get?_push_of_some _ (Heap.get?_push_of_some _ e)
  have hC₁ := k _ _ hC
  have hget : ((h.push (W.kdv_tup [])).push (excO C h.objs.size)).get? (h.objs.size + 1) = some (excO C h.objs.size) := by heap_get
  have hcC : (Value.ref C :: bm).contains (.ref C) = true := by simp
  have i1 := hi.keeps k
  have b1 := (hb (.ref (h.objs.size + 1))).keeps k
  unfold isInstance
  repeat (first | with_reducible refine wpAny_loadPart_at hget ?_ | (with_reducible refine wpAny_isSubtype_exc hC₁ ?_; rw [hcC]) | wp_step)
  show wpAny _ _ (typeLookup (.ref C) _) _ _ _
  refine i1.at ?_
  refine wpAny_holding (wpAny_bind (b1.at ?_))
  refine wpAny_bind (wpAny_call (codeAny_mono hq fun r s' z => ?_))
  rcases r with e | (v | _ | _ | _) <;> first | exact z | exact z.elim | skip
  obtain ⟨rfl, z⟩ := z
  first
    | exact wpAny_pure (wpAny_pure z)
    | (wp_walk; exact z)
theorem call_ownK (F : ExcBaseFacts B newId initId bmB) (hT : ∀ X : String, bm.contains (.type X) = bmB.contains (.type X)) {kw : List (Str × Value)} {fI : Addr}
    (hC : h.get? C = some (excClassObj nm q C N bs bm hdct sn sub ab col dd k0 k1 k2 k3 k5 newId))
    (hi : W.Looks (model prog w) h (typeLookup (.ref C) "__init__") (some (.ref fI))) (hb : ∀ self, W.Looks (model prog w) h (bindSpecial (.ref fI) self) (.ref fI, [self]))
    (hq : codeAny (model prog w) (A.under (.builtin "type.__call__" ⟨[.ref C], kw⟩)) (.call (.ref fI) ⟨[.ref (h.objs.size + 1)], kw⟩) (W.InitBack (h.objs.size + 1) R)
      ⟨(h.push (W.kdv_tup [])).push (excO C h.objs.size), g, d, t, os⟩) :
    codeAny (model prog w) A (.call (.ref C) ⟨[], kw⟩) R ⟨h, g, d, t, os⟩ := by
  have f1 := tc_lookup
  have f2 := tc_bind (.ref C)
  have hTy : (⟨h, g, d, t, os⟩ : Shared).TypeIs (.ref C) "type" := ⟨_, hC, rfl⟩
  refine codeAny_of_tree ?_
  show wpAny _ _ (callAny (.ref C) _) _ _ _
  repeat (any_goals (first | assumption | with_reducible refine wpAny_loadPart_at hC ?_ | wp_step))
  refine ⟨rfl, ?_⟩
  refine codeAny_call_builtin_at (Code.quiet_builtin _ (by decide +kernel)) entry_typeCall (wpAny_check_type_call_sub hC (type_callK F hT hC hi hb ?_))
  refine codeAny_mono hq fun r s' z => ?_
  rcases r with e | (v | _ | _ | _) <;> exact z
end
section
variable {prog : Program} {w : World} {A : Around} {E : Value → Shared → Prop} {R : Result → Shared → Prop} {s : Shared} {K : Frag} {mg : Str → Option Value} {Ad C fI : Addr} {x v : Str}
theorem err_madeK (T : ErrTxt prog K mg Ad x v C fI) {u : Value} {kw : List (Str × Value)} (hbd : ∀ o, BndA v o u ⟨[.ref o], kw⟩) (X : K.In s.heap) (hm : Mo mg s.heap) (hlim : s.heap.NoLimit) (hroom : A.depth + 1 < recursionLimit)
    (hq : ∀ h' tk e d, OwnMade s.heap h' e C d v u → R (.ok (.ret (.ref e))) { s with heap := h', toks := tk }) :
    codeAny (model prog w) A (.call (.ref C) ⟨[], kw⟩) R s := by
  obtain ⟨q, N, bs, sn, sub, ab, col, dd, k0, k1, k2, k3, k5, hC⟩ := T.cls
  have hbm : refsVE (.ref Ad :: veTail) = true := by first | rfl | (simp only [refsVE]; decide)
  obtain ⟨hp, g, dr, tk, os⟩ := s
  have k : ∀ b o, hp.get? b = some o → ((hp.push (kdv_tup [])).push (excO C hp.objs.size)).get? b = some o := fun b o e => Heap.get?_push_of_some _ (Heap.get?_push_of_some _ e)
  have hget : ((hp.push (kdv_tup [])).push (excO C hp.objs.size)).get? (hp.objs.size + 1) = some (excO C hp.objs.size) := by heap_get
  have hnx : K.lookup (hp.objs.size + 1) = none := by
    cases e : K.lookup (hp.objs.size + 1) with
    | none => rfl
    | some o =>
      have z : hp.get? (hp.objs.size + 1) = some o := X _ _ e
      exact absurd (Nat.lt_of_succ_lt (Heap.lt_size z)) (Nat.lt_irrefl _)
  refine call_ownK F.excBase_ValueError (fun X => refsVE_contains X _ hbm) (X _ _ hC) (looks_findIn X T.iC) (fun self => bind_fn X self T.tC) ?_
  refine err_initA (s := ⟨(hp.push (kdv_tup [])).push (excO C hp.objs.size), g, dr, tk, os⟩) T (hbd _) (X.keeps k) (hm.keeps k) (hlim.keeps k) hget hnx ?_ fun h' tk' dx t1 ⟨k', hx, dn, dne, hns⟩ => ?_
  · show A.depth + 1 < recursionLimit
    exact hroom
  · have old : ∀ b o, hp.get? b = some o → h'.get? b = some o := fun b o e => k' b o (Nat.ne_of_lt (Nat.lt_succ_of_lt (Heap.lt_size e))) (k b o e)
    have z : hp.objs.size + 1 + 1 ≤ dx := by
      first
        | (simpa only [Heap.size_push] using dn)
        | exact dn
        | (have q := dn; rw [Heap.size_push, Heap.size_push] at q; exact q)
    exact ⟨rfl, hq h' tk' (hp.objs.size + 1) dx ⟨old, Nat.le_succ _, ⟨_, _, hx, rfl, rfl, rfl, rfl⟩, Nat.le_trans (Nat.le_trans (Nat.le_succ _) (Nat.le_succ _)) z, dne, hns⟩⟩
end
/-! ### the arguments bound -/
/-- by keyword, and by none -/
def BndKO (v : Str) : Prop := (∀ (o : Addr) (u : Value), BndA v o u ⟨[.ref o], [(v, u)]⟩) ∧ ∀ (o : Addr), BndA v o .none ⟨[.ref o], []⟩
theorem bk_value : BndKO "value" := ⟨fun o u s qual dT doc pm an cdv ct cc p1 p2 p3 body ot n h1 h2 => BindsTo.of_defaults (T := dT) rfl h1 h2 rfl (by first | rfl | with_unfolding_all rfl), fun o s qual dT doc pm an cdv ct cc p1 p2 p3 body ot n h1 h2 => BindsTo.of_defaults (T := dT) rfl h1 h2 rfl (by first | rfl | with_unfolding_all rfl)⟩
theorem bk_axes : BndKO "axes" := ⟨fun o u s qual dT doc pm an cdv ct cc p1 p2 p3 body ot n h1 h2 => BindsTo.of_defaults (T := dT) rfl h1 h2 rfl (by first | rfl | with_unfolding_all rfl), fun o s qual dT doc pm an cdv ct cc p1 p2 p3 body ot n h1 h2 => BindsTo.of_defaults (T := dT) rfl h1 h2 rfl (by first | rfl | with_unfolding_all rfl)⟩
theorem bk_place : BndKO "place" := ⟨fun o u s qual dT doc pm an cdv ct cc p1 p2 p3 body ot n h1 h2 => BindsTo.of_defaults (T := dT) rfl h1 h2 rfl (by first | rfl | with_unfolding_all rfl), fun o s qual dT doc pm an cdv ct cc p1 p2 p3 body ot n h1 h2 => BindsTo.of_defaults (T := dT) rfl h1 h2 rfl (by first | rfl | with_unfolding_all rfl)⟩
theorem bk_number : BndKO "number" := ⟨fun o u s qual dT doc pm an cdv ct cc p1 p2 p3 body ot n h1 h2 => BindsTo.of_defaults (T := dT) rfl h1 h2 rfl (by first | rfl | with_unfolding_all rfl), fun o s qual dT doc pm an cdv ct cc p1 p2 p3 body ot n h1 h2 => BindsTo.of_defaults (T := dT) rfl h1 h2 rfl (by first | rfl | with_unfolding_all rfl)⟩
theorem bk_name : BndKO "name" := ⟨fun o u s qual dT doc pm an cdv ct cc p1 p2 p3 body ot n h1 h2 => BindsTo.of_defaults (T := dT) rfl h1 h2 rfl (by first | rfl | with_unfolding_all rfl), fun o s qual dT doc pm an cdv ct cc p1 p2 p3 body ot n h1 h2 => BindsTo.of_defaults (T := dT) rfl h1 h2 rfl (by first | rfl | with_unfolding_all rfl)⟩
end ErrX
end PySem
/-! Tr, part J: calls of known defs by name, pairs stored at once, try .. except .. as. -/
namespace Tr
open PySem PySem.Spec PyProof.Rows L2
/-- a def of the module, known by name: with room for k calls it does run; ds0: the defaults that fill up -/
structure Cal (P : Program) (w : World) (K : PySem.W.Frag) (mg : Str → Option Value) (base : Heap) (k : Nat) (x : Str) (ds0 : List D) (run : FF) : Prop where
  ex : ∃ (f : Addr) (fd : FuncData) (ps : List Str) (ds : List Value) (dvs : List V), FnA P w K mg base k f fd ps (spP ⟨K, mg⟩ run) ∧ mg x = some (.ref f) ∧ PySem.W.keepIn K (.ref f) = true ∧ Binds K fd ps ds ∧ Vals dvs ds ∧ ∀ F, DenL ⟨K, mg⟩ F ds0 dvs
theorem Cal.mono {P : Program} {w : World} {K : PySem.W.Frag} {mg : Str → Option Value} {base : Heap} {j k : Nat} {x : Str} {ds0 : List D} {run : FF} (c : Cal P w K mg base j x ds0 run) (l : j ≤ k) : Cal P w K mg base k x ds0 run := by
  obtain ⟨f, fd, ps, ds, dvs, h, r⟩ := c.ex
  exact ⟨f, fd, ps, ds, dvs, h.mono l, r⟩
section
variable {X : Cx} {W : WX}
theorem run_fnS' {k : Nat} {f : Addr} {fd : FuncData} {ps : List Str} {sp : Sp} {dvs : List V} {ds : List Value} {E : XK} {pins : List (Addr × Obj)} {σ : Sg} {H : Hp} {s : Shared} {Q : VK} {us : List Value} {vs : List V}
    (G : FnA X.prog X.w X.K X.mg X.base k f fd ps sp) (hgu : X.A.guards = some []) (hr : Room k X.A) (hb : Binds X.K fd ps ds) (hd : Vals dvs ds) (hx : PassesAt (L2.CX X.prog X.w) X σ E)
    (I : Inv X pins σ H s) (r : Vals vs us) (h : sp (vs ++ dvs) H Q E) : wpAny (model X.prog X.w) X.A (call (.ref f) us) (EP X pins σ Q) X.xe s := by
  have rr := r.append hd
  have hl : (us ++ ds).length = ps.length := rr.length.symm.trans (G.len _ _ _ _ h)
  refine wpAny_call (codeAny_mono (G.go X.A X.stack s H ⟨us, []⟩ _ _ Q E hgu hr I.env0 (hb s us I.kIn hl) rr h) ?_)
  intro r s' hq
  match r, hq with
  | .error e, hq => exact hx pins H s e s' I hq
  | .ok (.ret u), hq => exact I.after hq
  | .ok .next, hq => exact hq.elim
  | .ok .brk, hq => exact hq.elim
  | .ok .cont, hq => exact hq.elim
/-- f(e, ..) -/
theorem se_c {x : Str} {k : Nat} {run : FF} {e : Expr} {es : List Expr} {fa : FA} {p pos : Pos} {ds0 : List D} (c : Cal X.prog X.w X.K X.mg X.base k x ds0 run) (hgu : X.A.guards = some []) (hr : Room k X.A) (tk : Takes X W) (ha : SA X W (e :: es) fa) (hg : Gl X x := by rfl) (hdb : (x == ("__debug__" : Str)) = false := by decide)
    (he : starEach (e :: es) X.env = (false, eval e X.env) :: starEach es X.env := by rfl) (hpl : (backTo pos (starEach es X.env)).any (·.1) = false := by rfl) :
    SE X W (.Call (.Name x p) (e :: es) [] pos) (evCall run ds0 fa) := by
  obtain ⟨f, fd, ps, ds, dvs, G, hm, hk, hb, hd, hd0⟩ := c.ex
  refine ⟨fun pins s σ H Q I q => ?_⟩
  have h := evCall_ok (E := fun cls d H => W cls d σ H) hd0 (fun _ _ _ h => h) (fun _ _ _ h => h) q
  exact wpAny_Call_Name_kw (ld_glob I hg hm (PySem.W.callWith_K (h₀ := X.base) I.ok.mod.kin hk (thn (ha.run pos pins s σ H _ I h) fun us s1 hh => by
    obtain ⟨vs, H1, I1, r, q⟩ := hh
    exact ⟨I1.kIn, run_fnS' G hgu hr hb hd (passAt tk σ) I1 r q⟩) he hpl) hdb)
/-- f() -/
theorem se_c0 {x : Str} {k : Nat} {run : FF} {p pos : Pos} {ds0 : List D} (c : Cal X.prog X.w X.K X.mg X.base k x ds0 run) (hgu : X.A.guards = some []) (hr : Room k X.A) (tk : Takes X W) (hg : Gl X x := by rfl) (hdb : (x == ("__debug__" : Str)) = false := by decide) :
    SE X W (.Call (.Name x p) [] [] pos) (evCall run ds0 faNil) := by
  obtain ⟨f, fd, ps, ds, dvs, G, hm, hk, hb, hd, hd0⟩ := c.ex
  refine ⟨fun pins s σ H Q I q => ?_⟩
  have h := evCall_ok (E := fun cls d H => W cls d σ H) hd0 (fun _ _ _ h => h) (fun _ _ _ h => h) q
  obtain ⟨ρ, F, rl, z⟩ := h
  exact wpAny_Call_Name_kw (ld_glob I hg hm (PySem.W.callWith_K0 I.kIn hk (run_fnS' (us := []) (vs := []) G hgu hr hb hd (passAt tk σ) I .nil (z [] F H (Stp.refl rl) rfl))) hdb)
/-! ### a, b = x, y -/
def fsPar (i j : Nat) (fa : FA) : FS := fun ρ => (fa ρ).bind fun r => match frzL r.2 r.1 with
  | some ([d, e], ρ1) => .ok (.nx, (ρ1.set i (.sh d)).set j (.sh e))
  | _ => .no
theorem ss_par {i j : Nat} {x y : Str} {a b : Expr} {fa : FA} {px py pt pos : Pos} {kt k2 pt2} (hc : X.calm = true) (hN : X.N.Nodup) (ha : SA X W [a, b] fa) (hi : X.N[i]? = some x := by rfl) (hj : X.N[j]? = some y := by rfl) (hij : i ≠ j := by decide)
    (hx : X.env.scope.names.lookup x = some .local := by rfl) (hy : X.env.scope.names.lookup y = some .local := by rfl)
    (hw : swappedStores [.Tuple [.Name x px, .Name y py] kt pt] (.Tuple [a, b] k2 pt2) X.env = pure (some [x, y]) := by rfl)
    (hs : swapsWithSole [.Tuple [.Name x px, .Name y py] kt pt] (.Tuple [a, b] k2 pt2) pos.line X.env = pure false := by rfl) :
    SS X W (.Assign [.Tuple [.Name x px, .Name y py] kt pt] (.Tuple [a, b] k2 pt2) pos) (fsPar i j fa) :=
  ps_imp (ps_par hc hN hi hj hij hx hy ha hw hs) fun D σ H ⟨ρ, F, rl, h⟩ => by
    unfold fsPar at h
    refine ⟨ρ, F, rl, ?_⟩
    cases ea : fa ρ with
    | no => rw [ea] at h; exact h
    | ex c n d ρ' => rw [ea] at h; exact fun F' H' cls dx s e => h σ F' H' cls dx s e
    | ok ra =>
      rw [ea] at h
      simp only [R.bind] at h
      intro xs F1 H1 s1 p1
      cases e1 : frzL ra.2 ra.1 with
      | none => simp only [e1] at h
      | some z =>
        obtain ⟨ds, ρ1⟩ := z
        simp only [e1] at h
        obtain ⟨F2, s2, d2⟩ := p1.frz s1.rel e1
        match ds, h, d2 with
        | [d, e], h, ⟨v, r1, ex, dv, w, r2, ew, dw, er⟩ =>
          have er : r2 = [] := er
          subst er
          refine ⟨v, w, by rw [ex, ew], ?_⟩
          have s3 := store_sh (i := i) s2.rel dv
          have s4 := store_sh (i := j) s3.rel dw
          exact h _ F2 H1 ((s1.trans s2).trans (s3.trans s4))
def fsPar3 (i j l : Nat) (fa : FA) : FS := fun ρ => (fa ρ).bind fun r => match frzL r.2 r.1 with
  | some ([d, e, f], ρ1) => .ok (.nx, ((ρ1.set i (.sh d)).set j (.sh e)).set l (.sh f))
  | _ => .no
theorem ss_par3 {i j l : Nat} {x y z : Str} {a b c : Expr} {fa : FA} {px py pz pt pos : Pos} {kt k2 pt2} (hc : X.calm = true) (hN : X.N.Nodup) (ha : SA X W [a, b, c] fa) (hi : X.N[i]? = some x := by rfl) (hj : X.N[j]? = some y := by rfl) (hl : X.N[l]? = some z := by rfl) (hij : i ≠ j := by decide) (hil : i ≠ l := by decide) (hjl : j ≠ l := by decide)
    (hx : X.env.scope.names.lookup x = some .local := by rfl) (hy : X.env.scope.names.lookup y = some .local := by rfl) (hz : X.env.scope.names.lookup z = some .local := by rfl)
    (hw : swappedStores [.Tuple [.Name x px, .Name y py, .Name z pz] kt pt] (.Tuple [a, b, c] k2 pt2) X.env = pure (some [x, y, z]) := by rfl)
    (hs : swapsWithSole [.Tuple [.Name x px, .Name y py, .Name z pz] kt pt] (.Tuple [a, b, c] k2 pt2) pos.line X.env = pure false := by rfl) :
    SS X W (.Assign [.Tuple [.Name x px, .Name y py, .Name z pz] kt pt] (.Tuple [a, b, c] k2 pt2) pos) (fsPar3 i j l fa) :=
  ps_imp (ps_par3 hc hN hi hj hl hij hil hjl hx hy hz ha hw hs) fun D σ H ⟨ρ, F, rl, h⟩ => by
    unfold fsPar3 at h
    refine ⟨ρ, F, rl, ?_⟩
    cases ea : fa ρ with
    | no => rw [ea] at h; exact h
    | ex c n d ρ' => rw [ea] at h; exact fun F' H' cls dx s e => h σ F' H' cls dx s e
    | ok ra =>
      rw [ea] at h
      simp only [R.bind] at h
      intro xs F1 H1 s1 p1
      cases e1 : frzL ra.2 ra.1 with
      | none => simp only [e1] at h
      | some z =>
        obtain ⟨ds, ρ1⟩ := z
        simp only [e1] at h
        obtain ⟨F2, s2, d2⟩ := p1.frz s1.rel e1
        match ds, h, d2 with
        | [d, e, f], h, ⟨v, r1, ex, dv, w, r2, ew, dw, u, r3, eu, du, er⟩ =>
          have er : r3 = [] := er
          subst er
          refine ⟨v, w, u, by rw [ex, ew, eu], ?_⟩
          have s3 := store_sh (i := i) s2.rel dv
          have s4 := store_sh (i := j) s3.rel dw
          have s5 := store_sh (i := l) s4.rel du
          exact h _ F2 H1 ((s1.trans s2).trans ((s3.trans s4).trans s5))

/-! ### try -/
/-- a name goes -/
theorem store_un {T : Tx} {F : Fz} {H : Hp} {ρ : En} {σ : Sg} {i : Nat} (r : Rel T F H ρ σ) : Stp T F H ρ σ F H (ρ.set i .un) (σ.set i none) where
  rel := by
    refine ⟨by rw [set_len, List.length_set]; exact r.len, r.sub, fun j e q => ?_, fun j e q => ?_, fun j k e e' c q q' s s' => ?_, r.lv, fun j e c q s => ?_⟩
    · by_cases w : i = j
      · subst w
        obtain ⟨z, hi⟩ := set_get_self q
        cases z
      · rw [get_set_ne w] at q
        rw [List.getElem?_set_ne w]
        exact r.sh j e q
    · rcases mu_set q with ⟨_, z, _⟩ | ⟨w, q⟩
      · cases z
      · rw [List.getElem?_set_ne w]
        exact r.ow j e q
    · rcases mu_set q with ⟨_, z, _⟩ | ⟨w, q⟩
      · cases z
      · rcases mu_set q' with ⟨_, z, _⟩ | ⟨w', q'⟩
        · cases z
        · rw [List.getElem?_set_ne w] at s
          rw [List.getElem?_set_ne w'] at s'
          exact r.dis j k e e' c q q' s s'
    · rcases mu_set q with ⟨_, z, _⟩ | ⟨w, q⟩
      · cases z
      · rw [List.getElem?_set_ne w] at s
        exact r.lo j e c q s
  same := Ext.refl F
  keep := fun _ _ h _ => h
  own := fun b z => by
    rcases z with ⟨j, e, q, s⟩ | z
    · rcases mu_set q with ⟨_, z, _⟩ | ⟨w, q⟩
      · cases z
      · rw [List.getElem?_set_ne w] at s
        exact .inl (.inl ⟨j, e, q, s⟩)
    · exact .inl (.inr z)
  dom := fun _ o h => ⟨o, h⟩
  fz := fun _ _ _ _ _ => rfl
/-- the context of an except suite whose error is held as a value -/
abbrev suite0 (X : Cx) (a : Addr) (pn : List (Addr × Obj)) : Cx := { X with A := X.A.mark (some (.ref a)), calm := false, pn := pn, xe := fun _ _ => False }
theorem ok_suite0 {a : Addr} {pn : List (Addr × Obj)} (ok : X.Ok) : (suite0 X a pn).Ok :=
  ⟨ok.mod, ok.kind, ok.glob, ok.blt, ok.above, ok.inj, ok.has, ok.cab, (fun z => absurd (show false = true from z) Bool.false_ne_true), ok.frames, ok.stk, ok.exf, ok.bs, ok.bsz, ok.noex, ok.exfs, ok.funs, ok.frf⟩
section
variable {pins : List (Addr × Obj)} {σ : Sg} {H : Hp} {s : Shared}
theorem to_suite0 {a : Addr} (I : Inv X pins σ H s) : Inv (suite0 X a (X.pn ++ pins)) [] σ H s :=
  ⟨ok_suite0 I.ok, I.os, I.bare, I.base, I.loc, I.cell, I.free, I.freeC, fun p hp => I.pin p (by rw [List.append_nil] at hp; exact hp), I.hok, I.len⟩
theorem of_suite0 {a : Addr} {pn' : List (Addr × Obj)} (I : Inv (suite0 X a (X.pn ++ pins)) pn' σ H s) (ok : X.Ok) : Inv X pins σ H s :=
  ⟨ok, I.os, I.bare, I.base, I.loc, I.cell, I.free, I.freeC, fun p hp => I.pin p (List.mem_append_left _ hp), I.hok, I.len⟩
/-- an object that nobody has told of is told of -/
theorem adopt {a : Addr} {o : HO} (I : Inv X pins σ H s) (n0 : X.s_0.heap.get? a = none) (na : H a = none) (nL : a ≠ X.env.locals) (nC : ∀ x c, X.env.cells.lookup x = some c → c ≠ a) (nP : ∀ p ∈ X.pn ++ pins, p.1 ≠ a)
    (no : ∀ c, o ≠ .own c) (nt : ∀ xs, o ≠ .tup xs) (new : ObjOk X.prog X.w (upd H a o) s.heap a o) : Inv X pins σ (upd H a o) s := by
  refine ⟨I.ok, I.os, I.bare, ⟨I.base.keep, I.base.slot, fun b ob e n hx => ?_, I.base.there, fun b xs e => ?_, fun b ob v e => ?_, fun b ps e => ?_⟩, I.loc, I.cell, by rw [upd_ne (Ne.symm nL)]; exact I.free, fun x c e => by rw [upd_ne (nC x c e)]; exact I.freeC x c e, fun p hp => ?_, fun b ob e => ?_, I.len⟩
  · have hne : b ≠ a := fun z => by rw [z, n0] at e; cases e
    rw [upd_ne hne]
    exact I.base.free b ob e n hx
  · have q := I.base.tups b xs e
    rw [upd_ne (ne_of_none q na)]
    exact q
  · have q := I.base.frzs b ob v e
    rw [upd_ne (ne_of_none q na)]
    exact q
  · obtain ⟨more, q⟩ := I.base.tbls b ps e
    exact ⟨more, by rw [upd_ne (ne_of_none q na)]; exact q⟩
  · obtain ⟨h1, h2, h3⟩ := I.pin p hp
    exact ⟨h1, by rw [upd_ne (nP p hp)]; exact h2, h3⟩
  · by_cases hb : b = a
    · subst hb
      rw [upd_same] at e
      cases e
      exact new
    · rw [upd_ne hb] at e
      exact (I.hok b ob e).stay (fun c w hc q => q) (fun c q => by rw [upd_ne (ne_of_none q na)]; exact q) fun c xs q => by rw [upd_ne (ne_of_none q na)]; exact q
end
end
end Tr
/-! Tr, part K: try: body, except x as n: suite, the error held as a value. -/
namespace Tr
open PySem PySem.Spec PyProof.Rows L2
/-- what the clause wishes of an exception of the body: slot i is the clause's name -/
def wAs0 (K : PySem.W.Frag) (c : Value) (i : Nat) (ts : TS) (Wout : WX) (D : Ends) : WX := fun cls d σ H =>
  ∃ b, PySem.W.exmOne K cls c = some b ∧ (b = true → ∃ C dx, cls = .ref C ∧ d = some dx ∧ ∀ a, H a = none →
      ts { nx := fun σ' H' => D.nx (σ'.set i none) H', rt := fun _ _ => False, bk := fun _ _ => False, ct := fun _ _ => False } (σ.set i (some (.ref a))) (upd H a (exv C dx a))) ∧
    (b = false → Wout cls d σ H)
section
variable {X : Cx} {x n : Str} {c : Value} {i : Nat} {body suite : List Stmt} {b₀ : Stmt} {np pos pos' : Pos} {tb : WX → TS} {ts : TS} {Wout : WX}
theorem ps_try_as0 (hs : X.stack = X.env :: X.outer) (hf : X.env.frame = some X.env.locals) (hex : X.ex = []) (hN : X.N.Nodup) (hi : X.N[i]? = some n) (hln : X.env.kindOf n = some .local) (hc : Names X x c) (tk : Takes X Wout)
    (hb : ∀ (W : WX) (pn : List (Addr × Obj)) (xe : Value → Shared → Prop), Takes (X.tr pn xe) W → PassesOwn (model X.prog X.w) X.A X.env xe → PSs (X.tr pn xe) body (tb W))
    (hsu : ∀ (a : Addr) (pn : List (Addr × Obj)), PSs (suite0 X a pn) (b₀ :: suite) ts) :
    PS X (.Try body [.ExceptHandler (some (.Name x np)) (some n) (b₀ :: suite) pos'] [] [] pos) (fun D σ H => tb (wAs0 X.K c i ts Wout D) D σ H) := by
  refine ⟨fun pins s σ H D I h => ?_⟩
  have ok := I.ok
  have hfr : X.A.frames = some (X.env :: X.outer) := by rw [ok.frames, hs]
  have hloc : Loc X.env.scope n := .inl hln
  refine wpAny_Try_except ?_
  refine wpAny_mono ((hb (wAs0 X.K c i ts Wout D) (X.pn ++ pins) (fun e s₁ => wpAny (model X.prog X.w) X.A (noteFrame e X.env) (fun _ s₂ => wpAny (model X.prog X.w) X.A (setFlight e none) (fun _ s₃ =>
    wpAny (model X.prog X.w) X.A (handleBy e X.env [.ExceptHandler (some (.Name x np)) (some n) (b₀ :: suite) pos']) (SP X pins D) X.xe s₃) X.xe s₂) X.xe s₁) (fun u s' xx => ?_) PassesOwn.looking).run [] s σ H D (I.toTry _) h) (fun f s1 hsp => ?_) (fun e s1 he => he)
  · obtain ⟨a, B, sI, pins', σ', H', cls, d, rfl, J', nb, up, sky, na, os, ag, b, hb1, hyes, hno⟩ := xx
    have J : Inv X pins σ' H' sI := J'.ofTry ok
    have sky' : Sky B (X.env :: X.outer) a (Zc cls d) X.env.locals s'.heap := by rw [← hs]; exact sky
    show wpAny (model X.prog X.w) X.A (noteFrame (.ref a) X.env) _ _ _
    refine Sky.land Zc.steady hfr hf sky' fun h3 fl3 up3 => ?_
    have J3 : Inv X pins σ' H' { s' with heap := h3 } := J.landed nb fl3.1 (up.trans up3) os ag
    obtain ⟨oe3, vs3, he3, hz3, hd3⟩ := fl3.there
    have notFr : ∀ {h : Heap} {o : Obj} {vs : Array Value}, h.FunFrames B (X.env :: X.outer) → h.get? a = some o → o.data = .fields vs → a ∉ frs (X.env :: X.outer) := fun {h o vs} ff e dd hm => by
      obtain ⟨_, o', e', hnf⟩ := ff.mem hm
      rw [e] at e'; cases e'
      exact hnf _ dd
    have nfr := notFr fl3.2.2.1 he3 hd3
    have nL : a ≠ X.env.locals := fun z => nfr (List.mem_filterMap.mpr ⟨X.env, List.mem_cons_self, by rw [hf, z]⟩)
    have nI : sI.heap.get? a = none := by
      cases e : sI.heap.get? a with
      | none => rfl
      | some o =>
        have y := nb a o e (by rw [hs]; exact nfr)
        rw [fl3.2.1] at y
        cases y
    have n0 : X.s_0.heap.get? a = none := by
      cases e : X.s_0.heap.get? a with
      | none => rfl
      | some o =>
        obtain ⟨o', y⟩ := J.base.there a o e (by rw [hex]; exact List.not_mem_nil)
        rw [nI] at y
        cases y
    have nP : ∀ p ∈ X.pn ++ pins, p.1 ≠ a := fun p hp z => by
      obtain ⟨y, _⟩ := J.pin p hp
      rw [z, nI] at y
      cases y
    have S3 := to_suite0 (a := a) J3
    refine wpAny_handleBy_cons (codeAny_handlers_test ?_) (by intro q; cases q)
    have LT : PySem.W.Looks (model X.prog X.w) h3 (typeOf (.ref a)) cls := fun A Q E s k q => wpAny_typeOf_ref (k _ _ he3) (by rw [hz3.1]; exact q)
    have LM := PySem.W.exm_one (M := model X.prog X.w) (J3.kIn) LT hb1
    have test : ∀ {Q : Value → Shared → Prop} {E : Value → Shared → Prop}, Q c { s' with heap := h3 } → wpAny (model X.prog X.w) (X.A.mark (some (.ref a))) (eval (.Name x np) X.env) Q E { s' with heap := h3 } := fun {Q E} q => by
      obtain ⟨hg, hdbg, hm | ⟨hm, hv, hnn⟩⟩ := hc
      · exact ld_glob (X := suite0 X a (X.pn ++ pins)) S3 hg hm q hdbg
      · exact ld_blt (X := suite0 X a (X.pn ++ pins)) S3 hg hm hv q hnn hdbg
    refine test (LM.here ?_)
    cases b with
    | true =>
      obtain ⟨C, dx, ec, ed, hy2⟩ := hyes rfl
      subst ec ed
      refine codeAny_handlers_suite_as ?_
      refine HandSPX.lands_againZ fl3 fun h4 fl4 up4 => ?_
      have J4 : Inv X pins σ' H' { s' with heap := h4 } := J.landed nb fl4.1 ((up.trans up3).trans up4) os ag
      obtain ⟨oe4, vs4, he4, hz4, hd4⟩ := fl4.there
      have nC : ∀ y cc, X.env.cells.lookup y = some cc → cc ≠ a := fun y cc e z => by
        obtain ⟨v, ob, q1, q2⟩ := J4.cell y cc e
        rw [z, he4] at q1
        cases q1
        rw [hd4] at q2
        cases q2
      have K4 : Inv X pins σ' (upd H' a (exv C dx a)) { s' with heap := h4 } := adopt J4 n0 na nL nC nP (fun _ z => by cases z) (fun _ z => by cases z) ⟨⟨oe4, vs4, he4, hz4.1, hz4.2, hd4⟩, ⟨oe4, he4⟩, fun h1 h2 ⟨oe, vs, e, r⟩ k => ⟨oe, vs, k _ e, r⟩⟩
      have S4 := to_suite0 (a := a) K4
      refine store_ok (X := suite0 X a (X.pn ++ pins)) (v := .ref a) S4 hN hi hloc rfl (fun s5 S5 => ?_) (.inr hln)
      refine wpAny_mono ((hsu a (X.pn ++ pins)).run [] s5 _ _ _ S5 (hy2 a na)) (fun f s6 hsp => ?_) (fun _ _ z => False.elim z)
      have end_ : ∀ {σ6 : Sg} {H6 : Hp} {Q : Shared → Prop}, Inv (suite0 X a (X.pn ++ pins)) [] σ6 H6 s6 → (∀ s7, Inv X pins (σ6.set i none) H6 s7 → Q s7) →
          wpAny (model X.prog X.w) X.A (do bindName X.env n .none; unbindBehindTheSuite X.env n pos') (fun _ s7 => Q s7) X.xe s6 := fun {σ6 H6 Q} S6 hq => gone_ok (of_suite0 S6 ok) hN hi hln hq
      cases f with
      | next =>
        obtain ⟨σ6, H6, S6, q6⟩ := hsp
        exact end_ S6 fun s7 J7 => ⟨_, _, J7, q6⟩
      | brk =>
        obtain ⟨σ6, H6, S6, q6⟩ := hsp
        exact q6.elim
      | cont =>
        obtain ⟨σ6, H6, S6, q6⟩ := hsp
        exact q6.elim
      | ret u =>
        obtain ⟨v6, σ6, H6, S6, r6, q6⟩ := hsp
        exact q6.elim
    | false =>
      show wpAny _ X.A (handleBy (.ref a) X.env []) _ _ _
      refine wpAny_handleBy_nil ?_
      obtain ⟨k1, k2, k3, oe, vs, T, oT, ts', he, hz, hd, h1, hr⟩ := id fl3
      unfold PySem.passOn
      refine wpAny_bind (wpAny_field he hd h1 ?_)
      rw [if_neg (show ¬ ((Value.ref T == Value.none) = true) from by simp)]
      have fin : wpAny (model X.prog X.w) X.A (setFlight (.ref a) X.env.frame) (fun _ s4 => wpAny (model X.prog X.w) X.A (throw (.ref a) : Sem Flow) (SP X pins D) X.xe s4) X.xe { s' with heap := h3 } := by
        rw [hf]
        refine HandSPX.setFlight_upZ fl3 fun h4 hh4 up4 => wpAny_throw (tk _ _ ?_)
        exact ⟨a, B, sI, pins, σ', H', cls, d, rfl, J, nb, (up.trans up3).trans up4, .inr (.inr (by rw [hs]; exact hh4)), na, os, ag, hno rfl⟩
      first
        | exact wpAny_bind (wpAny_pure (wpAny_bind fin))
        | exact wpAny_bind fin
  · cases f with
    | next =>
      obtain ⟨σ', H', J', q⟩ := hsp
      exact wpAny_execs_nil ⟨σ', H', J'.ofTry ok, q⟩
    | brk =>
      obtain ⟨σ', H', J', q⟩ := hsp
      exact ⟨σ', H', J'.ofTry ok, q⟩
    | cont =>
      obtain ⟨σ', H', J', q⟩ := hsp
      exact ⟨σ', H', J'.ofTry ok, q⟩
    | ret u =>
      obtain ⟨v, σ', H', J', r, q⟩ := hsp
      exact ⟨v, σ', H', J'.ofTry ok, r, q⟩
/-- try: body / except x as n: suite; cs: is an error of this class one of x -/
def fsTry (cs : Str → Option Bool) (i : Nat) (fb fs : FS) : FS := fun ρ => match fb ρ with
  | .ok r => .ok r
  | .no => .no
  | .ex c n d ρ' => match cs c with
    | some true => (match fs (ρ'.set i (.sh (.exn c n d))) with
      | .ok (.nx, ρ2) => .ok (.nx, ρ2.set i .un)
      | _ => .no)
    | some false => .ex c n d ρ'
    | none => .no
theorem ss_try {cs : Str → Option Bool} {fb fs : FS} (hcs : ∀ e b C, cs e = some b → X.mg e = some (.ref C) → PySem.W.exmOne X.K (.ref C) c = some b) (hN : X.N.Nodup) (hi : X.N[i]? = some n) (hc : Names X x c) (tk : Takes X Wout)
    (hb : ∀ (W : WX) (pn : List (Addr × Obj)) (xe : Value → Shared → Prop), Takes (X.tr pn xe) W → PassesOwn (model X.prog X.w) X.A X.env xe → SSs (X.tr pn xe) W body fb)
    (hsu : ∀ (a : Addr) (pn : List (Addr × Obj)), SSs (suite0 X a pn) W0 (b₀ :: suite) fs)
    (hs : X.stack = X.env :: X.outer := by rfl) (hf : X.env.frame = some X.env.locals := by rfl) (hex : X.ex = [] := by rfl) (hln : X.env.kindOf n = some .local := by rfl) :
    SS X Wout (.Try body [.ExceptHandler (some (.Name x np)) (some n) (b₀ :: suite) pos'] [] [] pos) (fsTry cs i fb fs) :=
  ps_imp (ps_try_as0 (tb := fun W => tOfS (.of X) W fb) (ts := tOfS (.of X) W0 fs) hs hf hex hN hi hln hc tk (fun W pn xe t p => hb W pn xe t p) (fun a pn => hsu a pn)) fun D σ H ⟨ρ, F, rl, h⟩ => by
    unfold fsTry at h
    refine ⟨ρ, F, rl, ?_⟩
    cases ea : fb ρ with
    | no => simp only [ea] at h
    | ok ra => simp only [ea] at h; exact h
    | ex c' n' d' ρ' =>
      simp only [ea] at h
      intro σ' F' H' cls dx s1 ⟨C, e, y, hm, hcl, hdx, he, hd⟩
      subst hcl hdx
      cases eb : cs c' with
      | none => simp only [eb] at h
      | some b =>
        refine ⟨b, hcs _ _ _ eb hm, fun hb => ?_, fun hb => ?_⟩
        · subst hb
          simp only [eb] at h
          refine ⟨C, e, rfl, rfl, fun a na => ?_⟩
          have nw : New (.of X) F' H' (F'.upd a (exv C e a)) (upd H' a (exv C e a)) := New.sh s1.rel.sub na
          have s2 := nw.stp s1.rel
          have dn : Den (.of X) (F'.upd a (exv C e a)) (.exn c' n' d') (.ref a) := ⟨a, C, e, y, rfl, hm, .inl ⟨upd_same, nw.ff.hp _ _ he⟩, hd.mono nw.ff⟩
          have s3 := store_sh (i := i) s2.rel dn
          refine ⟨_, _, s3.rel, ?_⟩
          cases ef : fs (ρ'.set i (.sh (.exn c' n' d'))) with
          | no => simp only [ef] at h
          | ex c3 n3 d3 ρ3 => simp only [ef] at h
          | ok rf =>
            obtain ⟨fl, ρ2⟩ := rf
            cases fl with
            | nx =>
              simp only [ef] at h
              intro σ2 F2 H2 s4
              exact h _ F2 H2 ((s1.trans (s2.trans (s3.trans s4))).trans (store_un s4.rel))
            | bk => simp only [ef] at h
            | ct => simp only [ef] at h
            | rt v => simp only [ef] at h
        · subst hb
          simp only [eb] at h
          exact h σ' F' H' _ _ s1 ⟨C, e, y, hm, rfl, rfl, he, hd⟩
end
end Tr
/-! Tr, part L: repr, isinstance, fields of errors. -/
namespace Tr
open PySem PySem.Spec PyProof.Rows L2
section
variable {X : Cx} {W : WX}
/-! ### {} -/
def evDK : FE := fun ρ => .ok (.fr (.dK [] []), ρ)
theorem se_dK {pos : Pos} : SE X W (.Dict [] [] pos) evDK := pe_imp pe_dnewK fun σ H Q ⟨ρ, F, rl, h⟩ p hp => by
  have nw : New (.of X) F H F (upd H p (.dK [])) := New.fr rl.sub hp
  exact h _ F _ (nw.stp rl) (NRel.vrel rl nw ⟨p, rfl, rl.sub.free hp, hp, [], upd_same, rfl, rfl⟩)

/-! ### repr -/
mutual
theorem dp_nodict {K : PySem.W.Frag} {H : Hp} : ∀ (p : PyData) {x : V}, Dp K H x p → p.hasDict = false
  | .none, _, _ => rfl
  | .bool _, _, _ => rfl
  | .int _, _, _ => rfl
  | .str _, _, _ => rfl
  | .list ps, _, h => by
    cases h with
    | lst _ ha => simp only [PyData.hasDict]; exact dp_nodicts ps ha
  | .tuple ps, _, h => by
    cases h with
    | tup _ ha => simp only [PyData.hasDict]; exact dp_nodicts ps ha
  | .dict _, _, h => by cases h
theorem dp_nodicts {K : PySem.W.Frag} {H : Hp} : ∀ (ps : List PyData) {xs : List V}, DpAll K H xs ps → PyData.hasDictAll ps = false
  | [], _, _ => rfl
  | p :: ps, _, h => by
    cases h with
    | cons h1 h2 => simp only [PyData.hasDictAll, dp_nodict p h1, dp_nodicts ps h2, Bool.or_self]
end
def rRepr (K : PySem.W.Frag) : List V → Hp → VK → Prop := fun xs H Q => ∃ x, xs = [x] ∧
  ((∃ p, Dp K H x p ∧ p.showable = true ∧ p.depth ≤ 60 ∧ p.shown.length ≤ 16777216 ∧ Q (.str p.shown) H) ∨ (∃ a, x = .ref a ∧ H a = some (.dK []) ∧ Q (.str "{}") H))
theorem call_reprD (hgu : X.A.guards = some []) (hu : X.A.units + 64 < cLine) : CallR X (.builtin "repr") (rRepr X.K) := by
  intro pins s σ H xs us Q I r h
  obtain ⟨x, rfl, h⟩ := h
  obtain ⟨u, rfl, ru⟩ := vals1 r
  rcases h with ⟨p, dp, hs, hd, hl, q⟩ | ⟨a, rfl, ha, q⟩
  · have hl' : p.shown.length ≤ sizeLine := size_le hl
    have nd := dp_nodict p dp
    have fin : ∀ a as, u = .ref a → Reads s.heap u p as → wpAny (model X.prog X.w) X.A (call (.builtin "repr") [u]) (EP X pins σ Q) X.xe s := fun a as e rd => by
      subst e
      exact repr_of_reads' rd hs (fun z => by rw [nd] at z; cases z) hgu (by omega) (fun _ _ e => e) (fun h' t tk k => ⟨.str p.shown, H, I.kept (t' := tk) k, ⟨_, rfl⟩, q⟩) hl'
    obtain ⟨as, rd⟩ := Dp.reads I p x u dp ru
    cases p with
    | none => cases dp; cases ru; exact PySem.P.repr_of_none ⟨.str _, H, I.tok _, ⟨_, rfl⟩, q⟩
    | bool b => cases dp; cases ru; exact PySem.P.repr_of_bool ⟨.str _, H, I.tok _, ⟨_, rfl⟩, q⟩
    | int i =>
      cases dp
      obtain ⟨t, rfl⟩ := ru
      exact PySem.P.repr_of_int (by simpa [PyData.showable] using hs) ⟨.str _, H, I.tok _, ⟨_, rfl⟩, q⟩
    | str y =>
      cases dp
      obtain ⟨t, rfl⟩ := ru
      exact PySem.P.repr_of_str ⟨.str _, H, I.tok _, ⟨_, rfl⟩, q⟩ hl'
    | list ps =>
      cases dp with
      | lst _ _ => exact fin _ as ru rd
    | tuple ps =>
      cases dp with
      | tup _ _ => exact fin _ as ru rd
    | dict _ => cases dp
  · cases (show u = Value.ref a from ru)
    obtain ⟨_, hsm, vs, kv, o, es, ep, h1, h2, h3⟩ := (show ObjOk X.prog X.w H s.heap a (.dK []) from I.hok a _ ha)
    obtain ⟨hdt, _, hp, _⟩ := h3
    have ev : vs = [] := by cases kv; rfl
    subst ev
    have ee : es.toList = [] := by
      cases q : es.toList with
      | nil => rfl
      | cons y ys => rw [q] at hp; cases hp
    have rd : Reads s.heap (.ref a) (.dict []) (a :: [] ++ []) := Reads.dict (kvs := []) h1 h2.1 hdt (by rw [ee]; exact .nil) (by rw [ee]; exact .nil)
    refine repr_of_reads' rd rfl (fun _ hm => ?_) hgu (by show X.A.units + (0 + 1 + 1) < cLine; omega) (fun _ _ e => e) (fun h' t tk k => ⟨.str "{}", H, I.kept (t' := tk) k, ⟨_, rfl⟩, q⟩) (by decide +kernel)
    have hm : sysModules = a := by simpa using hm
    rw [hm, beq_self_eq_true] at hsm
    cases hsm
def reprD : List D → Option Val
  | [.dK [] []] => some (.sh (.str "{}"))
  | [d] => (match toPy d with
    | some p => if p.showable = true ∧ p.depth ≤ 60 ∧ p.shown.length ≤ 16777216 then some (.sh (.str p.shown)) else none
    | none => none)
  | _ => none
theorem cs_repr (hgu : X.A.guards = some []) (hu : X.A.units + 64 < cLine) : CallS X (.builtin "repr") reprD := by
  refine ⟨_, call_reprD hgu hu, fun F H xs ds z Q s px hg k => ?_⟩
  unfold reprD at hg
  split at hg
  · cases hg
    obtain ⟨x, rfl, p⟩ := px.one
    refine ⟨x, rfl, .inr ?_⟩
    rcases p with ⟨a, xs, e1, h1, h2, h3⟩ | ⟨a, e1, xs, h1, h2, h3⟩
    · have h3 : xs = [] := h3
      subst h3
      exact ⟨a, e1, s _ _ h1, plainQ s k rfl⟩
    · have h3 : xs = [] := h3
      subst h3
      exact ⟨a, e1, h1, plainQ s k rfl⟩
  · obtain ⟨x, rfl, p⟩ := px.one
    split at hg
    · rename_i d q e1
      split at hg
      · rename_i hs
        cases hg
        exact ⟨x, rfl, .inl ⟨q, p.dp s e1, hs.1, hs.2.1, hs.2.2, plainQ s k rfl⟩⟩
      · cases hg
    · cases hg
  · cases hg

/-! ### isinstance -/
/-- the built-in class of a value that is no object of an own class -/
def tyN : D → Option String
  | .non => some "NoneType"
  | .bl _ => some "bool"
  | .int _ => some "int"
  | .str _ => some "str"
  | .lst _ => some "list"
  | .tup _ => some "tuple"
  | .dK _ _ => some "dict"
  | .dT _ _ => some "dict"
  | .scr _ => some "list"
  | _ => none
theorem tyN_x {T : Tx} {F : Fz} {H : Hp} {d : D} {x : V} {n : String} (s : Same F.hp H) (p : Pk T F H d x) (e : tyN d = some n) : TyX T.K H x (.type n) := by
  cases d with
  | non => cases e; rcases p with p | ⟨_, _, z⟩; (cases p; exact .base .non); exact z.elim
  | bl b => cases e; rcases p with p | ⟨_, _, z⟩; (cases p; exact .base (.bl b)); exact z.elim
  | int i => cases e; rcases p with p | ⟨_, _, z⟩; (cases p; exact .base (.int i)); exact z.elim
  | str y => cases e; rcases p with p | ⟨_, _, z⟩; (cases p; exact .base (.str y)); exact z.elim
  | lst ds =>
    cases e
    obtain ⟨a, xs, rfl, h1, _⟩ := p.lst s
    exact .base (.lst h1)
  | tup ds =>
    cases e
    obtain ⟨a, xs, rfl, h1, _, _⟩ := p.tup s
    rcases h1 with (h | ⟨o, h⟩) | h
    · exact .base (.tup h)
    · exact .fTuple h
    · obtain ⟨o, its, n, hk, hc, _⟩ := h
      exact .kTuple hk hc
  | dK ks ds =>
    cases e
    rcases p with ⟨a, xs, rfl, h1, _⟩ | ⟨a, rfl, xs, h1, _⟩
    · exact .base (.dK (s _ _ h1))
    · exact .base (.dK h1)
  | dT ks ds =>
    cases e
    rcases p with ⟨a, xs, rfl, h1, _⟩ | ⟨a, rfl, xs, h1, _⟩
    · exact .base (.dT (s _ _ h1))
    · exact .base (.dT h1)
  | scr ns =>
    cases e
    obtain ⟨a, rfl, h1⟩ := p.scr s
    rcases h1 with (h | ⟨o, h⟩) | h
    · exact .base (.lst h)
    · exact .base (.frz h)
    · obtain ⟨o, its, n, hk, hc, _⟩ := h
      exact .kList hk hc
  | ins _ _ _ => cases e
  | exn _ _ _ => cases e
  | ty _ => cases e
  | glo _ => cases e
  | ref _ => cases e
theorem mro_none {a : String} (h : a ∈ ["NoneType", "bool", "int", "str", "list", "tuple", "dict"]) (C : Addr) : (PySem.fastBuiltinMro a).map (·.contains (Value.ref C)) = some false := by
  simp only [List.mem_cons, List.not_mem_nil, or_false] at h
  rcases h with rfl | rfl | rfl | rfl | rfl | rfl | rfl <;> kernel_rfl
theorem tyN_mem {d : D} {n : String} (e : tyN d = some n) : n ∈ ["NoneType", "bool", "int", "str", "list", "tuple", "dict"] := by
  unfold tyN at e
  split at e <;> (cases e <;> decide)
/-- the own errors of the module: (class, field) -/
structure Errs (P : Program) (K : PySem.W.Frag) (mg : Str → Option Value) (Ad : Addr) (es : List (Str × Str)) : Prop where
  gA : mg "AddError" = some (.ref Ad)
  clsA : ∃ (od : Option Addr) (cd : ClassData) (sl : Array (Option Value)), K.lookup Ad = some ⟨.type "type", od, .cls cd, sl⟩ ∧ cd.name = "AddError"
  excA : PySem.W.subIn K (.ref Ad) (.type "BaseException") = some true
  noA : ∀ v, (("AddError" : Str), v) ∉ es
  all : ∀ c v, (c, v) ∈ es → ∃ C fI, PySem.ErrX.ErrTxt P K mg Ad c v C fI
section
variable {P : Program} {K : PySem.W.Frag} {mg : Str → Option Value} {Ad : Addr} {es : List (Str × Str)}
/-- an own class that isinstance and except may name -/
structure OwnCls (K : PySem.W.Frag) (C : Addr) (n : Str) : Prop where
  cls : ∃ (od : Option Addr) (cd : ClassData) (sl : Array (Option Value)), K.lookup C = some ⟨.type "type", od, .cls cd, sl⟩ ∧ cd.name = n
theorem OwnCls.ok {C : Addr} {n : Str} (o : OwnCls K C n) : ((PySem.W.clsIn K C).isSome && PySem.W.typeIn K (.ref C) == some (.type "type")) = true := by
  obtain ⟨od, cd, sl, h, _⟩ := o.cls
  have h1 : PySem.W.clsIn K C = some cd := by unfold PySem.W.clsIn; rw [h]
  have h2 : PySem.W.typeIn K (.ref C) = some (.type "type") := by
    show (K.lookup C).map (·.cls) = _
    rw [h]; rfl
  rw [h1, h2]; rfl
theorem OwnCls.name {C : Addr} {n m : Str} (o : OwnCls K C n) (o' : OwnCls K C m) : n = m := by
  obtain ⟨od, cd, sl, h, q⟩ := o.cls
  obtain ⟨od', cd', sl', h', q'⟩ := o'.cls
  rw [h] at h'
  cases h'
  exact q.symm.trans q'
theorem OwnCls.of_err {C fI : Addr} {x v : Str} (T : PySem.ErrX.ErrTxt P K mg Ad x v C fI) : OwnCls K C x := by
  obtain ⟨q, N, bs, sn, sub, ab, col, dd, k0, k1, k2, k3, k5, hC⟩ := T.cls
  exact ⟨_, _, _, hC, rfl⟩
theorem kit_plain {a : String} {C : Addr} {n : Str} (o : OwnCls K C n) (h : a ∈ ["NoneType", "bool", "int", "str", "list", "tuple", "dict"]) : PySem.W.kitOne K (.type a) (.ref C) = some false := by
  unfold PySem.W.kitOne
  rw [if_neg (by simp)]
  show (if _ then _ else _) = _
  rw [if_pos o.ok]
  exact mro_none h C
theorem kit_err {C fI C' : Addr} {x v n : Str} (T : PySem.ErrX.ErrTxt P K mg Ad x v C fI) (o : OwnCls K C' n) (oA : OwnCls K Ad "AddError") : PySem.W.kitCls K (.ref C) (.ref C') = some (decide (x = n) || decide (n = "AddError")) ∨ ((C = C' ↔ x = n) ∧ (Ad = C' ↔ n = "AddError")) → PySem.W.kitCls K (.ref C) (.ref C') = some (decide (x = n) || decide (n = "AddError")) := by
  rintro (h | ⟨h1, h2⟩)
  · exact h
  · show (if _ then _ else _) = _
    rw [if_pos o.ok]
    show PySem.W.mroIn K C (.ref C') = _
    rw [T.mro]
    congr 1
    rw [List.contains_cons, List.contains_cons]
    have e1 : (Value.ref C' == Value.ref C) = decide (x = n) := by
      by_cases q : x = n
      · rw [h1.mpr q]; simp [q]
      · rw [decide_eq_false q, beq_eq_false_iff_ne]
        intro z
        cases z
        exact q (h1.mp rfl)
    have e2 : (Value.ref C' == Value.ref Ad) = decide (n = "AddError") := by
      by_cases q : n = "AddError"
      · rw [h2.mpr q]; simp [q]
      · rw [decide_eq_false q, beq_eq_false_iff_ne]
        intro z
        cases z
        exact q (h2.mp rfl)
    rw [e1, e2]
    have e3 : PySem.HandSPX.veTail.contains (Value.ref C') = false := by rfl
    rw [e3, Bool.or_false]
theorem kit_one {C fI C' : Addr} {x v n : Str} (T : PySem.ErrX.ErrTxt P K mg Ad x v C fI) (o : OwnCls K C' n) (oA : OwnCls K Ad "AddError") (g' : mg n = some (.ref C')) (gA : mg "AddError" = some (.ref Ad)) : PySem.W.kitCls K (.ref C) (.ref C') = some (decide (x = n) || decide (n = "AddError")) ∧ PySem.W.kitOne K (.ref C) (.ref C') = some (decide (x = n) || decide (n = "AddError")) := by
  have h1 : C = C' ↔ x = n := ⟨fun e => by subst e; exact (OwnCls.of_err T).name o, fun e => by
    subst e
    have z := T.gC.symm.trans g'
    cases z
    rfl⟩
  have h2 : Ad = C' ↔ n = "AddError" := ⟨fun e => by subst e; exact (oA.name o).symm, fun e => by
    subst e
    have z := gA.symm.trans g'
    cases z
    rfl⟩
  have k := kit_err T o oA (.inr ⟨h1, h2⟩)
  refine ⟨k, ?_⟩
  unfold PySem.W.kitOne
  by_cases q : C = C'
  · subst q
    rw [if_pos (by simp), decide_eq_true (h1.mp rfl)]; rfl
  · rw [if_neg (by simpa using q)]
    exact k
theorem Errs.oA (E : Errs P K mg Ad es) : OwnCls K Ad "AddError" := ⟨E.clsA⟩
/-- is an error of class c one of the class n -/
def isErr (es : List (Str × Str)) (n : Str) (c : Str) : Option Bool := if ((es.map (·.1)).contains c && ((es.map (·.1)).contains n || n == "AddError")) = true then some (decide (c = n) || decide (n = "AddError")) else none
theorem Errs.mem (E : Errs P K mg Ad es) {c : Str} (h : (es.map (·.1)).contains c = true) : ∃ v C fI, (c, v) ∈ es ∧ PySem.ErrX.ErrTxt P K mg Ad c v C fI := by
  rw [List.contains_iff_mem] at h
  obtain ⟨⟨c', v⟩, h1, h2⟩ := List.mem_map.mp h
  cases h2
  obtain ⟨C, fI, T⟩ := E.all _ _ h1
  exact ⟨v, C, fI, h1, T⟩
theorem Errs.named (E : Errs P K mg Ad es) {n : Str} (h : ((es.map (·.1)).contains n || n == "AddError") = true) : ∃ C, mg n = some (.ref C) ∧ OwnCls K C n := by
  rw [Bool.or_eq_true] at h
  rcases h with h | h
  · obtain ⟨v, C, fI, _, T⟩ := E.mem h
    exact ⟨C, T.gC, .of_err T⟩
  · have e : n = "AddError" := beq_iff_eq.mp h
    subst e
    exact ⟨Ad, E.gA, E.oA⟩
theorem Errs.isE (E : Errs P K mg Ad es) {n c : Str} {b : Bool} {C C' : Addr} (h : isErr es n c = some b) (g : mg c = some (.ref C)) (g' : mg n = some (.ref C')) : PySem.W.kitCls K (.ref C) (.ref C') = some b ∧ PySem.W.kitOne K (.ref C) (.ref C') = some b ∧ PySem.W.exmOne K (.ref C) (.ref C') = some b := by
  unfold isErr at h
  split at h
  · rename_i q
    cases h
    rw [Bool.and_eq_true] at q
    obtain ⟨v, D, fI, _, T⟩ := E.mem q.1
    obtain ⟨D', gn, o⟩ := E.named q.2
    have z := T.gC.symm.trans g
    cases z
    have z := gn.symm.trans g'
    cases z
    obtain ⟨k1, k2⟩ := kit_one T o E.oA g' E.gA
    refine ⟨k1, k2, ?_⟩
    unfold PySem.W.exmOne
    have hex : PySem.W.subIn K (.ref C') (.type "BaseException") = some true := by
      have q2 := q.2
      rw [Bool.or_eq_true] at q2
      rcases q2 with h | h
      · obtain ⟨v', D2, fI2, _, T2⟩ := E.mem h
        have z := T2.gC.symm.trans g'
        cases z
        exact T2.exC
      · have e : n = "AddError" := beq_iff_eq.mp h
        subst e
        have z := E.gA.symm.trans g'
        cases z
        exact E.excA
    rw [hex, if_pos (by rfl)]
    exact k1
  · cases h
end
/-- isinstance(e, C): e an error that is held, C an own class -/
def rIsiE (X : Cx) (es : List (Str × Str)) : List V → Hp → VK → Prop := fun xs H Q => ∃ (a C dx C' : Addr) (c n : Str) (fs : List (Str × V)) (b : Bool), xs = [.ref a, .ref C'] ∧ X.mg c = some (.ref C) ∧ X.mg n = some (.ref C') ∧ isErr es n c = some b ∧ ((H a = some (exv C dx a) ∧ H dx = some (.xd fs)) ∨ H a = some (exv0 C a)) ∧ Q (.bl b) H
theorem exv_inst {X : Cx} {pins : List (Addr × Obj)} {σ : Sg} {H : Hp} {s : Shared} {a C dx : Addr} {fs : List (Str × V)} (I : Inv X pins σ H s) (ha : H a = some (exv C dx a)) (hd : H dx = some (.xd fs)) : ∃ oe od, PySem.W.InstAt s.heap a oe C (some od) ∧ ∃ mA : Str → Option Value, (∀ f, RelO (List.lookup f fs) (mA f)) ∧ ∀ f, PySem.W.lookIn f od = some (mA f) := by
  obtain ⟨⟨oe, vs, h1, h2, h3, h4⟩, _, _⟩ := (show ObjOk X.prog X.w H s.heap a (exv C dx a) from I.hok a _ ha)
  obtain ⟨mA, hns, hr⟩ := (show ObjOk X.prog X.w H s.heap dx (.xd fs) from I.hok dx _ hd)
  obtain ⟨od, ho, hl⟩ := lookIn_ns hns
  exact ⟨oe, od, ⟨h1, h2, by unfold PySem.W.notCls; rw [h4] <;> rfl, by rw [h3]; exact ho⟩, mA, hr, hl⟩
theorem exv0_inst {X : Cx} {pins : List (Addr × Obj)} {σ : Sg} {H : Hp} {s : Shared} {a C : Addr} (I : Inv X pins σ H s) (ha : H a = some (exv0 C a)) : ∃ oe, PySem.W.InstAt s.heap a oe C none := by
  obtain ⟨⟨oe, vs, h1, h2, h3, h4⟩, _, _⟩ := (show ObjOk X.prog X.w H s.heap a (exv0 C a) from I.hok a _ ha)
  exact ⟨oe, h1, h2, by unfold PySem.W.notCls; rw [h4] <;> rfl, by rw [h3]; trivial⟩
theorem call_isiE {X : Cx} {Ad : Addr} {es : List (Str × Str)} (E : Errs X.prog X.K X.mg Ad es) : CallR X (.builtin "isinstance") (rIsiE X es) := by
  intro pins s σ H xs us Q I r h
  obtain ⟨a, C, dx, C', c, n, fs, b, rfl, g, g', hb, hh, q⟩ := h
  obtain ⟨u1, u2, rfl, r1, r2⟩ := vals2 r
  cases (show u1 = Value.ref a from r1)
  cases (show u2 = Value.ref C' from r2)
  obtain ⟨_, k1, _⟩ := E.isE hb g g'
  have hm : (es.map (·.1)).contains c = true := by
    unfold isErr at hb
    split at hb
    · rename_i q
      rw [Bool.and_eq_true] at q
      exact q.1
    · cases hb
  obtain ⟨v, C2, fI, _, T⟩ := E.mem hm
  have z := T.gC.symm.trans g
  cases z
  obtain ⟨oe, od, J⟩ : ∃ oe od, PySem.W.InstAt s.heap a oe C od := by
    rcases hh with ⟨ha, hd⟩ | ha
    · obtain ⟨oe, od, J, _⟩ := exv_inst I ha hd
      exact ⟨oe, _, J⟩
    · obtain ⟨oe, J⟩ := exv0_inst I ha
      exact ⟨oe, _, J⟩
  exact PySem.W.kia_one (PySem.W.kitx_exc T.isC T.ga T.gg T.exC T.clC PySem.ErrX.oc_get PySem.ErrX.oc_takes T.obC) I.kIn J k1 (fun z => nomatch z) fun tk => ⟨.bl b, H, I.tok tk, rfl, q⟩
/-- isinstance(x, C) -/
def isiD (es : List (Str × Str)) : List D → Option Val
  | [.exn c _ _, .glo n] => (isErr es n c).map vB
  | [d, .ty n] => (match tyN d with
    | some a => (kitB a n).map vB
    | none => none)
  | [d, .glo n] => (match tyN d with
    | some _ => if ((es.map (·.1)).contains n || n == "AddError") = true then some (vB false) else none
    | none => none)
  | _ => none
theorem Pk.exn {T : Tx} {F : Fz} {H : Hp} {c n : Str} {d : D} {x : V} (h : Pk T F H (.exn c n d) x) : Den T F (.exn c n d) x := by
  rcases h with h | ⟨_, _, z⟩
  · exact h
  · exact z.elim
theorem Pk.glo {T : Tx} {F : Fz} {H : Hp} {c : Str} {x : V} (h : Pk T F H (.glo c) x) : Den T F (.glo c) x := by
  rcases h with h | ⟨_, _, z⟩
  · exact h
  · exact z.elim
theorem Pk.ty {T : Tx} {F : Fz} {H : Hp} {n : String} {x : V} (h : Pk T F H (.ty n) x) : x = .ty n := by
  rcases h with h | ⟨_, _, z⟩
  · exact h
  · exact z.elim
theorem CallR.or {X : Cx} {f : Value} {r r' : List V → Hp → VK → Prop} (h : CallR X f r) (h' : CallR X f r') : CallR X f (fun xs H Q => r xs H Q ∨ r' xs H Q) := fun pins s σ H xs us Q I v q => q.elim (h pins s σ H xs us Q I v) (h' pins s σ H xs us Q I v)
theorem cs_isi {X : Cx} {Ad : Addr} {es : List (Str × Str)} (E : Errs X.prog X.K X.mg Ad es) : CallS X (.builtin "isinstance") (isiD es) := by
  refine ⟨_, CallR.or call_isi (call_isiE E), fun F H xs ds z Q s px hg k => ?_⟩
  unfold isiD at hg
  split at hg
  · rw [Option.map_eq_some_iff] at hg
    obtain ⟨b, hb, rfl⟩ := hg
    obtain ⟨x, y, rfl, p, q⟩ := px.two
    obtain ⟨a, C, dx, w, rfl, g, h12, _⟩ := p.exn
    obtain ⟨C', g', rfl⟩ := q.glo
    exact .inr ⟨a, C, dx, C', _, _, _, b, rfl, g, g', hb, h12.imp (fun z => ⟨s _ _ z.1, s _ _ z.2⟩) (fun z => s _ _ z.2), plainQ s k rfl⟩
  · split at hg
    · rename_i a e1
      rw [Option.map_eq_some_iff] at hg
      obtain ⟨b, hb, rfl⟩ := hg
      obtain ⟨x, y, rfl, p, q⟩ := px.two
      exact .inl ⟨x, y, _, _, b, rfl, by rw [q.ty]; exact .ty _, tyN_x s p e1, kit_ty hb, plainQ s k rfl⟩
    · cases hg
  · split at hg
    · rename_i a e1
      split at hg
      · rename_i hn
        cases hg
        obtain ⟨x, y, rfl, p, q⟩ := px.two
        obtain ⟨C', g', rfl⟩ := q.glo
        obtain ⟨C2, g2, o⟩ := E.named hn
        have z := g2.symm.trans g'
        cases z
        exact .inl ⟨x, _, _, _, false, rfl, .own _, tyN_x s p e1, kit_plain o (tyN_mem e1), plainQ s k rfl⟩
      · cases hg
    · cases hg
  · cases hg

/-! ### e.field of an error -/
def tXf (X : Cx) (es : List (Str × Str)) (v : Str) (te : TE) : TE := fun σ H Q => te σ H fun x H1 => ∃ (a C dx : Addr) (c : Str) (y : V), x = .ref a ∧ X.mg c = some (.ref C) ∧ (c, v) ∈ es ∧ H1 a = some (exv C dx a) ∧ H1 dx = some (.xd [(v, y)]) ∧ Q y H1
theorem pe_xfE {X : Cx} {Ad : Addr} {es : List (Str × Str)} (E : Errs X.prog X.K X.mg Ad es) {v : Str} {e : Expr} {te : TE} {pos : Pos} (he : PE X e te) (hb : attributeBase e v X.env (eval e X.env) = eval e X.env := by rfl) : PE X (.Attribute e v pos) (tXf X es v te) := by
  refine ⟨fun pins s σ H Q I h => ?_⟩
  refine attr_of hb (thn (he.run pins s σ H _ I h) fun u s1 hh => ?_)
  obtain ⟨x, H1, I1, rx, a, C, dx, c, y, ex, g, hm, ha, hd, q⟩ := hh
  subst ex
  obtain rfl : u = Value.ref a := rx
  obtain ⟨C2, fI, T⟩ := E.all _ _ hm
  have z := T.gC.symm.trans g
  cases z
  obtain ⟨oe, od, J, mA, hr, hl⟩ := exv_inst I1 ha hd
  have l : List.lookup v [(v, y)] = some y := by simp [List.lookup]
  obtain ⟨u, hu, ru⟩ := RelO.some_of (v := y) (o := mA v) (by rw [← l]; exact hr v)
  exact HandSPX.exc_get I1.kIn J T.ga T.gg T.exC (PySem.W.findObj_own T.hdC T.noN rfl (by rw [hl, hu])) (handed_of ru) ⟨y, H1, I1.tok _, ru, q⟩
def xfD (es : List (Str × Str)) (v : Str) : D → Option Val
  | .exn c n d => if es.contains (c, v) = true ∧ n = v ∧ (n == Str.empty) = false then some (.sh d) else none
  | _ => none
theorem se_xf {X : Cx} {W : WX} {Ad : Addr} {es : List (Str × Str)} (E : Errs X.prog X.K X.mg Ad es) {v : Str} {e : Expr} {f : FE} {pos : Pos} (he : SE X W e f) (hb : attributeBase e v X.env (eval e X.env) = eval e X.env := by rfl) : SE X W (.Attribute e v pos) (evUn (xfD es v) f) :=
  pe_imp (pe_xfE E he hb) fun σ H Q h => evUn_ok (r := fun x H1 Q => ∃ (a C dx : Addr) (c : Str) (y : V), x = .ref a ∧ X.mg c = some (.ref C) ∧ (c, v) ∈ es ∧ H1 a = some (exv C dx a) ∧ H1 dx = some (.xd [(v, y)]) ∧ Q y H1) (fun F H x d z Q s px hg k => by
    unfold xfD at hg
    split at hg
    · split at hg
      · rename_i hm
        cases hg
        obtain ⟨hm, rfl, hne⟩ := hm
        obtain ⟨a, C, dx, y, rfl, g, ⟨h1, h2⟩ | ⟨h1, _⟩, h3⟩ := px.exn
        · exact ⟨a, C, dx, _, y, rfl, g, List.contains_iff_mem.mp hm, s _ _ h1, s _ _ h2, plainQ s k h3⟩
        · rw [h1, beq_self_eq_true] at hne; cases hne
      · cases hg
    · cases hg) h
end
end Tr
/-! Tr, part M: the defs of a law, known by name. -/
namespace Tr
open PySem PySem.Spec PyProof.Rows L2
section
variable {P : Program} {w : World} {K : PySem.W.Frag} {mg : Str → Option Value} {base : Heap}
/-- a def as it stands behind the top, with or without defaults -/
structure FunV (K : PySem.W.Frag) (x qual : Str) (st : Stmt) (f : Addr) (fd : FuncData) : Prop where
  ex : ∃ (oc : Value) (od : Option Addr) (dV kV doc pm : Value) (an : Option Addr) (cdv ct : Value) (osl : Array (Option Value)),
    fd = PySem.W.fnOf x qual (defArgs st) (defBody st) (defScope st) dV kV doc pm an cdv ct ∧ K.lookup f = some ⟨oc, od, .func fd, osl⟩ ∧ PySem.W.codeIn K cdv qual = true
  kp : PySem.W.keepIn K (.ref f) = true
theorem funV_mk {x qual : Str} {st : Stmt} {f : Addr} {oc : Value} {od an : Option Addr} {osl : Array (Option Value)} {dV kV doc pm cdv ct : Value} (l : K.lookup f = some ⟨oc, od, .func (PySem.W.fnOf x qual (defArgs st) (defBody st) (defScope st) dV kV doc pm an cdv ct), osl⟩)
    (c : PySem.W.codeIn K cdv qual = true) (k : PySem.W.keepIn K (.ref f) = true) : FunV K x qual st f (PySem.W.fnOf x qual (defArgs st) (defBody st) (defScope st) dV kV doc pm an cdv ct) := ⟨⟨oc, od, dV, kV, doc, pm, an, cdv, ct, osl, rfl, l, c⟩, k⟩
theorem fnV_body {x qual : Str} {st : Stmt} {f : Addr} {fd : FuncData} {N ps : List Str} {k : Nat} {sp : Sp} (F : FunV K x qual st f fd) (S : FnScope N ps (defScope st)) (len : ∀ vs H Q E, sp vs H Q E → vs.length = ps.length)
    (hb : ∀ (cdv : Value) (A : Around) (outer : List Env) (s : Shared) (H : Hp) (vs : List V) (Q : VK) (E : XK), A.guards = some [] → Room k (A.deeper (envOfC qual (defScope st) s.heap.objs.size f cdv)) → sp vs H Q E →
      ∃ t, PSs (cxD P w K mg base N qual st f cdv A outer s H E) (defBody st) t ∧ t { nx := fun _ H' => Q .non H', rt := Q } (L2.start N vs) H) : FnA P w K mg base (k + 1) f fd ps sp := by
  obtain ⟨oc, od, dV, kV, doc, pm, an, cdv, ct, osl, rfl, lk, hcd⟩ := F.ex
  refine ⟨len, fun A outer s H args us vs Q E hgu hr e0 hbi r hsp => ?_⟩
  have hlen := len vs H Q E hsp
  have inS : K.In s.heap := e0.mod.kin.keeps (fun b o e => And.left (e0.bs b o e))
  have nolim := e0.mod.nolimit.keeps (fun b o e => And.left (e0.bs b o e))
  have kinds : ∀ y, y ∈ ps.zip us → (defScope st).names.lookup y.1 = some .local ∨ ((defScope st).names.lookup y.1 = some .cell ∧ ((cellsFrom (s.heap.objs.size + 1) (defScope st).names []).lookup y.1).isSome = true) := by
    rintro ⟨n, v⟩ hy
    have hn : n ∈ ps := (List.of_mem_zip hy).1
    cases S.par n hn with
    | inl q => exact Or.inl q
    | inr q => exact Or.inr ⟨q, PySem.W.cellsFrom_some _ _ _ (Or.inl q)⟩
  apply codeAny_call_function hr.depth (inS _ _ lk) rfl S.co S.gen rfl (PySem.W.codeRec_of inS hcd)
  apply hbi
  apply wpAny_newFunctionEnv_cells S.kind kinds
  intro env he s1 x
  subst he
  constructor
  · exact nolim.keeps x.toInCall.keep
  · apply codeAny_func
    obtain ⟨t, ht, hq⟩ := hb cdv A outer s H vs Q E hgu (hr.deeper _) hsp
    have I0 := inv_start (CX := L2.CX P w) (E := E) S hr.hd e0 hlen r x
    refine wpAny_mono (ht.run [] s1 _ H _ I0 hq) (fun fl s' hs => ?_) (fun _ _ hs => hs)
    cases fl with
    | brk =>
      obtain ⟨_, _, _, z⟩ := hs
      exact z.elim
    | cont =>
      obtain ⟨_, _, _, z⟩ := hs
      exact z.elim
    | ret u =>
      obtain ⟨v, σ1, H1, J, rv, q⟩ := hs
      exact ⟨v, H1, J.os, J.bare, J.base, J.hok, rv, q⟩
    | next =>
      obtain ⟨σ1, H1, J, q⟩ := hs
      exact ⟨V.non, H1, J.os, J.bare, J.base, J.hok, rfl, q⟩
theorem fnVP {x qual : Str} {st : Stmt} {f : Addr} {fd : FuncData} {N ps : List Str} {k : Nat} {fb : FS} (F : FunV K x qual st f fd) (S : FnScope N ps (defScope st)) (hb : BdA P w K mg base N qual st f k fb) :
    FnA P w K mg base (k + 1) f fd ps (spP ⟨K, mg⟩ (runP N.length ps.length fb)) := by
  refine fnV_body F S (fun vs H Q E h => ?_) (fun cdv A outer s H vs Q E hg hr h => ⟨_, hb cdv A outer s H E hg hr, spP_run (X := cxD P w K mg base N qual st f cdv A outer s H E) (body := []) h⟩)
  obtain ⟨G, ds, L, s, lv, hd, h⟩ := h
  unfold runP at h
  by_cases hl : ds.length = ps.length
  · rw [← hd.length, hl]
  · rw [if_neg hl] at h; exact h.elim
/-- how arguments bind: no defaults; the last ones by defaults -/
structure Bnds (K : PySem.W.Frag) (fd : FuncData) (ps : List Str) (ds0 : List D) : Prop where
  ex : ∃ (ds : List Value) (dvs : List V), Binds K fd ps ds ∧ Vals dvs ds ∧ ∀ (T : Tx) (F : Fz), DenL T F ds0 dvs
theorem bnds0 {fd : FuncData} {ps : List Str} (h : ∀ us : List Value, us.length = ps.length → bindArgs fd ⟨us, []⟩ = pure (ps.zip us)) : Bnds K fd ps [] := ⟨[], [], .all h, .nil, fun _ _ => DenL.nil⟩
/-- a default that is None, the last n parameters -/
theorem bndsN {fd : FuncData} {ps : List Str} {dT : Addr} {oc : Value} {od : Option Addr} {m : Nat} {sl : Array (Option Value)} {its : Array Value} (n q : Nat) (hd : fd.defaults = .ref dT) (lk : K.lookup dT = some ⟨oc, od, .seq its m, sl⟩) (hq : q + n = ps.length)
    (h : ∀ us : List Value, us.length = q → ∃ k, bindArgs fd ⟨us, []⟩ = seqItems? fd.defaults >>= k ∧ k (some its) = pure (ps.zip (us ++ List.replicate n Value.none))) : Bnds K fd ps (List.replicate n .non) := by
  refine ⟨List.replicate n Value.none, List.replicate n .non, fun s us hk hl => ?_, ?_, fun T F => ?_⟩
  · rw [List.length_append, List.length_replicate] at hl
    obtain ⟨k, h1, h2⟩ := h us (by omega)
    exact BindsTo.of_defaults hd (hk _ _ lk) rfl h1 h2
  · clear h hq
    induction n with
    | zero => exact .nil
    | succ n ih => exact .cons rfl ih
  · clear h hq
    induction n with
    | zero => exact DenL.nil
    | succ n ih => exact DenL.cons rfl ih
theorem cal_mk {x : Str} {st : Stmt} {f : Addr} {fd : FuncData} {N ps : List Str} {k : Nat} {fb : FS} {ds0 : List D} (F : FunV K x x st f fd) (S : FnScope N ps (defScope st)) (hm : mg x = some (.ref f)) (b : Bnds K fd ps ds0) (hb : BdA P w K mg base N x st f k fb) :
    Cal P w K mg base (k + 1) x ds0 (runP N.length ps.length fb) := by
  obtain ⟨ds, dvs, h1, h2, h3⟩ := b.ex
  exact ⟨f, fd, ps, ds, dvs, fnVP F S hb, hm, F.kp, h1, h2, fun F => h3 _ F⟩
/-- a def that is never called there -/
theorem cal_no {x : Str} {f : Addr} {fd : FuncData} {ps : List Str} {k : Nat} {ds0 : List D} (hm : mg x = some (.ref f)) (kp : PySem.W.keepIn K (.ref f) = true) (b : Bnds K fd ps ds0) : Cal P w K mg base k x ds0 (fun _ _ => .no) := by
  obtain ⟨ds, dvs, h1, h2, h3⟩ := b.ex
  exact ⟨f, fd, ps, ds, dvs, ⟨fun vs H Q E ⟨_, _, _, _, _, _, h⟩ => h.elim, fun A outer s H args us vs Q E _ _ _ _ _ ⟨_, _, _, _, _, _, h⟩ => h.elim⟩, hm, kp, h1, h2, fun F => h3 _ F⟩
end
end Tr
/-! Tr, part N: forms of rules for printed terms. -/
namespace Tr
open PySem PySem.Spec PyProof.Rows L2
section
variable {X : Cx} {W : WX}
theorem tk0 : Takes X W0 := fun _ _ ⟨_, _, _, _, _, _, _, _, _, _, _, _, _, _, _, _, w⟩ => w.elim
theorem se_gloE {x : Str} {pos : Pos} (hm : ∃ a, X.mg x = some (.ref a)) (hg : Gl X x := by rfl) (hd : (x == ("__debug__" : Str)) = false := by decide) : SE X W (.Name x pos) (evC (.glo x)) := by
  obtain ⟨a, hm⟩ := hm
  exact se_glo hm hg hd
theorem ss_raiseE {Ad : Addr} {es : List (Str × Str)} {x v : Str} {a : Expr} {f : FE} {p pos pos2 : Pos} {k : Nat} (E : Errs X.prog X.K X.mg Ad es) (hc : X.calm = true) (hr : Room k X.A) (tk : Takes X W) (ha : SE X W a f) (hm : (x, v) ∈ es := by decide +kernel) (hg : Gl X x := by rfl) (hdb : (x == ("__debug__" : Str)) = false := by decide)
    (he : starEach (a :: []) X.env = (false, eval a X.env) :: starEach [] X.env := by rfl) (hpl : (backTo pos (starEach [] X.env)).any (·.1) = false := by rfl) :
    SS X W (.Raise (some (.Call (.Name x p) [a] [] pos)) none pos2) (fsRaise x v f) := by
  obtain ⟨C, fI, T⟩ := E.all _ _ hm
  exact ss_raise hc T hr tk ha hg hdb he hpl
theorem Errs.gE {P : Program} {K : PySem.W.Frag} {mg : Str → Option Value} {Ad : Addr} {es : List (Str × Str)} (E : Errs P K mg Ad es) {x v : Str} (hm : (x, v) ∈ es) : ∃ a, mg x = some (.ref a) := by
  obtain ⟨C, fI, T⟩ := E.all _ _ hm
  exact ⟨C, T.gC⟩
end
end Tr
/-! Tr, part W: what a function of the layer comes to, worked out backwards from what is wished; a tactic for it. -/
namespace Tr
open PySem PySem.Spec PyProof.Rows L2
/-- r comes to a value of P, or to an error of E -/
structure R.wp {α : Type} (r : R α) (P : α → Prop) (E : Str → Str → D → En → Prop) : Prop where
  out : match r with
    | .ok a => P a
    | .ex c n d ρ => E c n d ρ
    | .no => False
structure RF.wp (r : RF) (P : Bool → D → List D → Prop) (E : Str → Str → D → List D → Prop) : Prop where
  out : match r with
    | .ok fr d L => P fr d L
    | .ex c n d L => E c n d L
    | .no => False
abbrev EN : Str → Str → D → List D → Prop := fun _ _ _ _ => False
theorem ite_pt {b : Bool} {p q : Prop} (hb : b = true) (h : p) : (if b = true then p else q) := by rw [if_pos hb]; exact h
theorem ite_pf {b : Bool} {p q : Prop} (hb : b = false) (h : q) : (if b = true then p else q) := by rw [hb, if_neg Bool.false_ne_true]; exact h
theorem ite_p {b : Bool} {p q : Prop} (h1 : b = true → p) (h2 : b = false → q) : (if b = true then p else q) := by
  cases b with
  | true => exact ite_pt rfl (h1 rfl)
  | false => exact ite_pf rfl (h2 rfl)
theorem backV_f (d : D) : backV false d = .sh d := rfl
theorem backV_t (d : D) : backV true d = .fr d := rfl
theorem RF.wp_mono {r : RF} {P P' : Bool → D → List D → Prop} {E E' : Str → Str → D → List D → Prop} (h : r.wp P E) (k : ∀ fr d L, P fr d L → P' fr d L) (e : ∀ c n d L, E c n d L → E' c n d L) : r.wp P' E' := by
  cases r with
  | ok fr d L => exact ⟨k _ _ _ h.out⟩
  | ex c n d L => exact ⟨e _ _ _ _ h.out⟩
  | no => exact h.out.elim
theorem RF.wp_n {r : RF} {P P' : Bool → D → List D → Prop} {E' : Str → Str → D → List D → Prop} (h : r.wp P EN) (k : ∀ fr d L, P fr d L → P' fr d L) : r.wp P' E' := RF.wp_mono h k fun _ _ _ _ z => z.elim
theorem RF.wp_eq {r : RF} {fr : Bool} {d : D} {L : List D} {P : Bool → D → List D → Prop} {E : Str → Str → D → List D → Prop} (e : r = .ok fr d L) (k : P fr d L) : r.wp P E := by rw [e]; exact ⟨k⟩
theorem RF.wp_ex {r : RF} {c n : Str} {d : D} {L : List D} {P : Bool → D → List D → Prop} {E : Str → Str → D → List D → Prop} (e : r = .ex c n d L) (k : E c n d L) : r.wp P E := by rw [e]; exact ⟨k⟩
theorem RF.of_wp {r : RF} {fr : Bool} {d : D} {L : List D} (h : r.wp (fun fr' d' L' => fr' = fr ∧ d' = d ∧ L' = L) EN) : r = .ok fr d L := by
  cases r with
  | ok fr' d' L' => obtain ⟨rfl, rfl, rfl⟩ := h.out; rfl
  | ex c n d L => exact h.out.elim
  | no => exact h.out.elim
theorem RF.of_wpX {r : RF} {c n : Str} {d : D} {L : List D} (h : r.wp (fun _ _ _ => False) (fun c' n' d' L' => c' = c ∧ n' = n ∧ d' = d ∧ L' = L)) : r = .ex c n d L := by
  cases r with
  | ok fr' d' L' => exact h.out.elim
  | ex c' n' d' L' => obtain ⟨rfl, rfl, rfl, rfl⟩ := h.out; rfl
  | no => exact h.out.elim
theorem R.wp_mono {α : Type} {r : R α} {P P' : α → Prop} {E E' : Str → Str → D → En → Prop} (h : r.wp P E) (k : ∀ a, P a → P' a) (e : ∀ c n d ρ, E c n d ρ → E' c n d ρ) : r.wp P' E' := by
  cases r with
  | ok a => exact ⟨k _ h.out⟩
  | ex c n d L => exact ⟨e _ _ _ _ h.out⟩
  | no => exact h.out.elim
theorem R.wp_eq {α : Type} {r : R α} {a : α} {P : α → Prop} {E : Str → Str → D → En → Prop} (e : r = .ok a) (k : P a) : r.wp P E := by rw [e]; exact ⟨k⟩
section
variable {α β : Type} {P : α → Prop} {E : Str → Str → D → En → Prop} {ρ ρ1 ρ2 ρ3 : En} {f fb : FE} {g h : FT} {a : FA} {k k' : FS} {v w : Val} {d e : D} {i j l : Nat} {z : Val} {vs : List Val} {ds : List D}
theorem wp_ok {x : α} (h : P x) : (R.ok x).wp P E := ⟨h⟩
theorem wp_bind {r : R β} {q : β → R α} (h : r.wp (fun x => (q x).wp P E) E) : (r.bind q).wp P E := by
  cases r with
  | ok x => exact h.out
  | ex c n d ρ => exact ⟨h.out⟩
  | no => exact h.out.elim
theorem wp_ite_t {b : Bool} {x y : R α} (hb : b = true) (h : x.wp P E) : (if b = true then x else y).wp P E := by rw [if_pos hb]; exact h
theorem wp_ite_f {b : Bool} {x y : R α} (hb : b = false) (h : y.wp P E) : (if b = true then x else y).wp P E := by rw [hb, if_neg Bool.false_ne_true]; exact h
theorem wp_ite {b : Bool} {x y : R α} (h1 : b = true → x.wp P E) (h2 : b = false → y.wp P E) : (if b = true then x else y).wp P E := by
  cases b with
  | true => exact wp_ite_t rfl (h1 rfl)
  | false => exact wp_ite_f rfl (h2 rfl)
end
section
variable {P : Val × En → Prop} {E : Str → Str → D → En → Prop} {ρ ρ1 ρ2 ρ3 : En} {f fb : FE} {g h : FT} {a : FA} {v w : Val} {d e : D} {i j l : Nat} {z : Val} {vs : List Val} {ds : List D}
theorem wp_var (q : ρ.s[i]? = some (.sh d)) (k : P (.sh d, ρ)) : (evVar i ρ).wp P E := by simp only [evVar, q]; exact ⟨k⟩
theorem wp_varo (q : ρ.s[i]? = some (.ow d)) (k : P (.rf i, ρ)) : (evVar i ρ).wp P E := by simp only [evVar, q]; exact ⟨k⟩
theorem wp_c (k : P (.sh d, ρ)) : (evC d ρ).wp P E := ⟨k⟩
theorem wp_op {o : D → D → Option Val} (k : (f ρ).wp (fun r => (fb r.2).wp (fun q => (op2 o q.2 r.1 q.1).wp P E) E) E) : (evOp o f fb ρ).wp P E := by
  unfold evOp
  exact wp_bind (R.wp_mono k (fun r h => wp_bind h) fun _ _ _ _ z => z)
theorem wp_op2 {o : D → D → Option Val} (h1 : peek ρ v = some d) (h2 : peek ρ w = some e) (h3 : o d e = some z) (k : P (z, ρ)) : (op2 o ρ v w).wp P E := by simp only [op2, h1, h2, h3]; exact ⟨k⟩
theorem wp_un {o : D → Option Val} (k : (f ρ).wp (fun r => (op1 o r.2 r.1).wp P E) E) : (evUn o f ρ).wp P E := by unfold evUn; exact wp_bind k
theorem wp_op1 {o : D → Option Val} (h1 : peek ρ v = some d) (h3 : o d = some z) (k : P (z, ρ)) : (op1 o ρ v).wp P E := by simp only [op1, h1, h3]; exact ⟨k⟩
theorem wp_then {q : Bool → FE} (k : (g ρ).wp (fun r => (q r.1 r.2).wp P E) E) : (evThen g q ρ).wp P E := by unfold evThen; exact wp_bind k
theorem wp_ife (k : (g ρ).wp (fun r => (if r.1 = true then f r.2 else fb r.2).wp P E) E) : (evIf g f fb ρ).wp P E := by
  unfold evIf
  refine wp_then (R.wp_mono k (fun r h => ?_) fun _ _ _ _ z => z)
  cases hb : r.1 <;> simp only [hb, if_true, Bool.false_eq_true, if_false] at h ⊢ <;> exact h
theorem wp_and (k : (ftVal f ρ).wp (fun r => (if r.1 = true then fb r.2 else R.ok (.sh (.bl false), r.2)).wp P E) E) : (evAnd f fb ρ).wp P E := by
  unfold evAnd
  refine wp_then (R.wp_mono k (fun r h => ?_) fun _ _ _ _ z => z)
  cases hb : r.1 <;> simp only [hb, if_true, Bool.false_eq_true, if_false] at h ⊢ <;> exact h
theorem wp_or (k : (ftVal f ρ).wp (fun r => (if r.1 = true then R.ok (.sh (.bl true), r.2) else fb r.2).wp P E) E) : (evOr f fb ρ).wp P E := by
  unfold evOr
  refine wp_then (R.wp_mono k (fun r h => ?_) fun _ _ _ _ z => z)
  cases hb : r.1 <;> simp only [hb, if_true, Bool.false_eq_true, if_false] at h ⊢ <;> exact h
theorem wp_not (k : (ftVal f ρ).wp (fun r => P (.sh (.bl (!r.1)), r.2)) E) : (evNot f ρ).wp P E := by
  unfold evNot
  exact wp_then (R.wp_mono k (fun r h => ⟨h⟩) fun _ _ _ _ z => z)
theorem wp_tup (k : (a ρ).wp (fun r => (dispT r.2 r.1).wp P E) E) : (evTup a ρ).wp P E := by unfold evTup; exact wp_bind k
theorem wp_dispT (h1 : frzL ρ vs = some (ds, ρ1)) (h2 : ds.length ≤ 16777216) (k : P (.sh (.tup ds), ρ1)) : (dispT ρ vs).wp P E := by simp only [dispT, h1, h2, if_true]; exact ⟨k⟩
theorem wp_lst (k : (a ρ).wp (fun r => (dispL r.2 r.1).wp P E) E) : (evLst a ρ).wp P E := by unfold evLst; exact wp_bind k
theorem wp_dispL (h1 : frzL ρ vs = some (ds, ρ1)) (h2 : ds.length ≤ 16777216) (k : P (.fr (.lst ds), ρ1)) : (dispL ρ vs).wp P E := by simp only [dispL, h1, h2, if_true]; exact ⟨k⟩
theorem wp_b {o : List D → Option Val} (k : (a ρ).wp (fun r => (callG o r).wp P E) E) : (evB o a ρ).wp P E := by unfold evB; exact wp_bind k
theorem wp_callG {o : List D → Option Val} (h1 : peekL ρ vs = some ds) (h3 : o ds = some z) (k : P (z, ρ)) : (callG o (vs, ρ)).wp P E := by simp only [callG, h1, h3]; exact ⟨k⟩
theorem wp_call {run : FF} {ds0 : List D} (k : (a ρ).wp (fun r => (callP run ds0 r).wp P E) E) : (evCall run ds0 a ρ).wp P E := by unfold evCall; exact wp_bind k
theorem wp_callP {run : FF} {ds0 : List D} (h1 : frzL ρ vs = some (ds, ρ1)) (k : (run (ds ++ ds0) ρ1.l).wp (fun fr d L => P (backV fr d, ⟨ρ1.s, L⟩)) (fun c n d L => E c n d ⟨ρ1.s, L⟩)) : (callP run ds0 (vs, ρ)).wp P E := by
  simp only [callP, h1]
  cases er : run (ds ++ ds0) ρ1.l with
  | ok fr d L => rw [er] at k; exact ⟨k.out⟩
  | ex c n d L => rw [er] at k; exact ⟨k.out⟩
  | no => rw [er] at k; exact k.out.elim
theorem wp_sl {fl fh : FO} (k : (f ρ).wp (fun r => (fl r.2).wp (fun lo => (fh lo.2).wp (fun hi => (slEnd hi.2 r.1 lo.1 hi.1).wp P E) E) E) E) : (evSl f fl fh ρ).wp P E := by
  unfold evSl
  exact wp_bind (R.wp_mono k (fun r h => wp_bind (R.wp_mono h (fun q h => wp_bind h) fun _ _ _ _ z => z)) fun _ _ _ _ z => z)
theorem wp_slEnd {lo hi : Option Int} (h1 : peek ρ v = some d) (h3 : slD d lo hi = some z) (k : P (z, ρ)) : (slEnd ρ v lo hi).wp P E := by simp only [slEnd, h1, h3]; exact ⟨k⟩
theorem wp_m {o : D → List D → Option (D × D)} (k : (f ρ).wp (fun r => (if isLst (muV r.2 r.1) = true then (a r.2).bind (meth o r.1) else .no : R (Val × En)).wp P E) E) : (evM o f a ρ).wp P E := by unfold evM; exact wp_bind k
theorem wp_m2 {o : D → List D → Option (D × D)} (hl : isLst (muV ρ v) = true) (k : (a ρ).wp (fun q => (meth o v q).wp P E) E) : (if isLst (muV ρ v) = true then (a ρ).bind (meth o v) else .no : R (Val × En)).wp P E := by rw [if_pos hl]; exact wp_bind k
theorem wp_meth {o : D → List D → Option (D × D)} {d' y : D} (h1 : frzL ρ vs = some (ds, ρ1)) (h2 : muV ρ1 v = some d) (h3 : o d ds = some (d', y)) (h4 : setMu ρ1 v d' = ρ2) (k : P (.sh y, ρ2)) : (meth o v (vs, ρ)).wp P E := by
  simp only [meth, h1, h2, h3, h4]; exact ⟨k⟩
theorem wp_live (k : (f ρ).wp (fun r => (liven r).wp P E) E) : (evLive f ρ).wp P E := by unfold evLive; exact wp_bind k
theorem wp_liveF (h : ρ.push d = ρ1) (k : P (.sh (.ref ρ.l.length), ρ1)) : (liven (.fr d, ρ)).wp P E := by rw [← h] at k; exact ⟨k⟩
theorem wp_liveS (k : P (.sh d, ρ)) : (liven (.sh d, ρ)).wp P E := ⟨k⟩
theorem wp_dk (k : P (.fr (.dK [] []), ρ)) : (evDK ρ).wp P E := ⟨k⟩
end
section
variable {P : Bool × En → Prop} {E : Str → Str → D → En → Prop} {ρ ρ1 ρ2 ρ3 : En} {f fb : FE} {g h : FT}
theorem wp_val (k : (f ρ).wp (fun r => (asB r).wp P E) E) : (ftVal f ρ).wp P E := by unfold ftVal; exact wp_bind k
theorem wp_asB {b : Bool} (k : P (b, ρ)) : (asB (.sh (.bl b), ρ)).wp P E := ⟨k⟩
theorem wp_tthen {q : Bool → FT} (k : (g ρ).wp (fun r => (q r.1 r.2).wp P E) E) : (ftThen g q ρ).wp P E := by unfold ftThen; exact wp_bind k
theorem wp_tand (k : (g ρ).wp (fun r => (if r.1 = true then h r.2 else R.ok (false, r.2)).wp P E) E) : (ftAnd g h ρ).wp P E := by
  unfold ftAnd
  refine wp_tthen (R.wp_mono k (fun r h => ?_) fun _ _ _ _ z => z)
  cases hb : r.1 <;> simp only [hb, if_true, Bool.false_eq_true, if_false] at h ⊢ <;> exact h
theorem wp_tor (k : (g ρ).wp (fun r => (if r.1 = true then R.ok (true, r.2) else h r.2).wp P E) E) : (ftOr g h ρ).wp P E := by
  unfold ftOr
  refine wp_tthen (R.wp_mono k (fun r h => ?_) fun _ _ _ _ z => z)
  cases hb : r.1 <;> simp only [hb, if_true, Bool.false_eq_true, if_false] at h ⊢ <;> exact h
theorem wp_tnot (k : (g ρ).wp (fun r => P (!r.1, r.2)) E) : (ftNot g ρ).wp P E := by
  unfold ftNot
  exact wp_tthen (R.wp_mono k (fun r h => ⟨h⟩) fun _ _ _ _ z => z)
theorem wp_yes (k : P (true, ρ)) : (ftYes ρ).wp P E := ⟨k⟩
end
section
variable {P : List Val × En → Prop} {E : Str → Str → D → En → Prop} {ρ : En} {f : FE} {a : FA}
theorem wp_nil (k : P ([], ρ)) : (faNil ρ).wp P E := ⟨k⟩
theorem wp_cons (k : (f ρ).wp (fun r => (a r.2).wp (fun q => P (r.1.held :: q.1, q.2)) E) E) : (faCons f a ρ).wp P E := by
  unfold faCons
  exact wp_bind (R.wp_mono k (fun r h => wp_bind (R.wp_mono h (fun q h => ⟨h⟩) fun _ _ _ _ z => z)) fun _ _ _ _ z => z)
end
section
variable {P : Option Int × En → Prop} {E : Str → Str → D → En → Prop} {ρ : En} {f : FE}
theorem wp_foN (k : P (none, ρ)) : (foN ρ).wp P E := ⟨k⟩
theorem wp_foS (k : (f ρ).wp (fun r => (asI r).wp P E) E) : (foS f ρ).wp P E := by unfold foS; exact wp_bind k
theorem wp_asI {m : Int} (k : P (some m, ρ)) : (asI (.sh (.int m), ρ)).wp P E := ⟨k⟩
end
section
variable {P : Fl × En → Prop} {E : Str → Str → D → En → Prop} {ρ ρ1 ρ2 ρ3 : En} {f fb ft fi : FE} {g : FT} {a : FA} {k k' : FS} {v w : Val} {d e c c' : D} {i j l : Nat} {z : Val} {vs : List Val} {ds : List D}
theorem wp_fnil (q : P (.nx, ρ)) : (fsNil ρ).wp P E := ⟨q⟩
/-- on with K, or out by P -/
def seqK (K : En → Prop) (P : Fl × En → Prop) (r : Fl × En) : Prop := match r.1 with
    | .nx => K r.2
    | fl => P (fl, r.2)
theorem seqK_nx {K : En → Prop} (h : K ρ) : seqK K P (.nx, ρ) := h
theorem seqK_rt {K : En → Prop} (h : P (.rt v, ρ)) : seqK K P (.rt v, ρ) := h
theorem seqK_bk {K : En → Prop} (h : P (.bk, ρ)) : seqK K P (.bk, ρ) := h
theorem seqK_ct {K : En → Prop} (h : P (.ct, ρ)) : seqK K P (.ct, ρ) := h
/-- the next turn by I, or out by P -/
def turnK (I : En → Prop) (P : Fl × En → Prop) (r : Fl × En) : Prop := match r.1 with
    | .nx => I r.2
    | .ct => I r.2
    | .bk => P (.nx, r.2)
    | .rt v => P (.rt v, r.2)
theorem turnK_nx {I : En → Prop} (h : I ρ) : turnK I P (.nx, ρ) := h
theorem turnK_ct {I : En → Prop} (h : I ρ) : turnK I P (.ct, ρ) := h
theorem turnK_bk {I : En → Prop} (h : P (.nx, ρ)) : turnK I P (.bk, ρ) := h
theorem turnK_rt {I : En → Prop} (h : P (.rt v, ρ)) : turnK I P (.rt v, ρ) := h
theorem wp_seq (q : (k ρ).wp (seqK (fun ρ' => (k' ρ').wp P E) P) E) : (fsSeq k k' ρ).wp P E := by
  unfold fsSeq
  refine wp_bind (R.wp_mono q (fun r h => ?_) fun _ _ _ _ z => z)
  obtain ⟨fl, ρ1⟩ := r
  cases fl with
  | nx => exact h
  | bk => exact ⟨h⟩
  | ct => exact ⟨h⟩
  | rt v => exact ⟨h⟩
theorem wp_expr (q : (f ρ).wp (fun r => P (.nx, r.2)) E) : (fsExpr f ρ).wp P E := by unfold fsExpr fsVal; exact wp_bind (R.wp_mono q (fun r h => ⟨h⟩) fun _ _ _ _ z => z)
theorem wp_ret (q : (f ρ).wp (fun r => P (.rt r.1, r.2)) E) : (fsRet f ρ).wp P E := by unfold fsRet fsVal; exact wp_bind (R.wp_mono q (fun r h => ⟨h⟩) fun _ _ _ _ z => z)
theorem wp_retN (q : P (.rt (.sh .non), ρ)) : (fsRetN ρ).wp P E := ⟨q⟩
theorem wp_if (q : (g ρ).wp (fun r => (if r.1 = true then k r.2 else k' r.2).wp P E) E) : (fsIf g k k' ρ).wp P E := by unfold fsIf; exact wp_bind q
/-- what becomes of a value -/
def stV (i : Nat) (r : Val × En) : R (Fl × En) := match store r.2 i r.1 with
  | some ρ' => .ok (.nx, ρ')
  | none => .no
theorem wp_set (q : (f ρ).wp (fun r => (stV i r).wp P E) E) : (fsSet i f ρ).wp P E := by unfold fsSet fsVal; exact wp_bind (R.wp_mono q (fun r h => h) fun _ _ _ _ z => z)
theorem wp_stV (h : store ρ i v = some ρ1) (q : P (.nx, ρ1)) : (stV i (v, ρ)).wp P E := by unfold stV; simp only [h]; exact ⟨q⟩
def paV (p : Pat) (r : Val × En) : R (Fl × En) := match frz r.2 r.1 with
  | some (d, ρ1) => (match bindP p d ρ1 with
    | some ρ2 => .ok (.nx, ρ2)
    | none => .no)
  | none => .no
theorem wp_pat {p : Pat} (q : (f ρ).wp (fun r => (paV p r).wp P E) E) : (fsPat p f ρ).wp P E := by unfold fsPat fsVal; exact wp_bind (R.wp_mono q (fun r h => h) fun _ _ _ _ z => z)
theorem wp_paV {p : Pat} (h : frz ρ v = some (d, ρ1)) (h2 : bindP p d ρ1 = some ρ2) (q : P (.nx, ρ2)) : (paV p (v, ρ)).wp P E := by unfold paV; simp only [h, h2]; exact ⟨q⟩
theorem wp_put {o : D → D → D → Option D} (q : (f ρ).wp (fun r => (putV o ft fi r.1 r.2).wp P E) E) : (fsPut o ft fi f ρ).wp P E := by unfold fsPut fsVal; exact wp_bind q
theorem wp_putV {o : D → D → D → Option D} (h : frz ρ v = some (d, ρ1)) (q : (ft ρ1).wp (fun t => (if (muV t.2 t.1).isSome = true then (fi t.2).bind (putEnd o d t.1) else .no : R (Fl × En)).wp P E) E) : (putV o ft fi v ρ).wp P E := by unfold putV; simp only [h]; exact wp_bind q
theorem wp_put2 {o : D → D → D → Option D} (hl : (muV ρ v).isSome = true) (q : (fi ρ).wp (fun t => (putEnd o d v t).wp P E) E) : (if (muV ρ v).isSome = true then (fi ρ).bind (putEnd o d v) else .no : R (Fl × En)).wp P E := by rw [if_pos hl]; exact wp_bind q
theorem wp_putEnd {o : D → D → D → Option D} (h1 : frz ρ w = some (e, ρ1)) (h2 : muV ρ1 v = some c) (h3 : o c e d = some c') (h4 : setMu ρ1 v c' = ρ2) (q : P (.nx, ρ2)) : (putEnd o d v (w, ρ)).wp P E := by unfold putEnd; simp only [h1, h2, h3, h4]; exact ⟨q⟩
theorem wp_aug {o : D → D → Option Val} (h0 : ρ.s[i]? = some (.sh d)) (q : (f ρ).wp (fun r => (augV i o d r.1 r.2).wp P E) E) : (fsAug i o f ρ).wp P E := by unfold fsAug; simp only [h0]; unfold fsVal; exact wp_bind q
theorem wp_augV {o : D → D → Option Val} (h1 : peek ρ v = some e) (h2 : o d e = some z) (h3 : store ρ i z = some ρ1) (q : P (.nx, ρ1)) : (augV i o d v ρ).wp P E := by unfold augV; simp only [h1, h2, h3]; exact ⟨q⟩
def prV (i j : Nat) (r : List Val × En) : R (Fl × En) := match frzL r.2 r.1 with
  | some ([d, e], ρ1) => .ok (.nx, (ρ1.set i (.sh d)).set j (.sh e))
  | _ => .no
theorem wp_par (q : (a ρ).wp (fun r => (prV i j r).wp P E) E) : (fsPar i j a ρ).wp P E := by unfold fsPar; exact wp_bind q
theorem wp_prV (h : frzL ρ vs = some ([d, e], ρ1)) (h2 : (ρ1.set i (.sh d)).set j (.sh e) = ρ2) (q : P (.nx, ρ2)) : (prV i j (vs, ρ)).wp P E := by unfold prV; simp only [h, h2]; exact ⟨q⟩
def prV3 (i j l : Nat) (r : List Val × En) : R (Fl × En) := match frzL r.2 r.1 with
  | some ([d, e, f], ρ1) => .ok (.nx, ((ρ1.set i (.sh d)).set j (.sh e)).set l (.sh f))
  | _ => .no
theorem wp_par3 (q : (a ρ).wp (fun r => (prV3 i j l r).wp P E) E) : (fsPar3 i j l a ρ).wp P E := by unfold fsPar3; exact wp_bind q
theorem wp_prV3 (h : frzL ρ vs = some ([d, e, c], ρ1)) (h2 : ((ρ1.set i (.sh d)).set j (.sh e)).set l (.sh c) = ρ2) (q : P (.nx, ρ2)) : (prV3 i j l (vs, ρ)).wp P E := by unfold prV3; simp only [h, h2]; exact ⟨q⟩
def raV (x n : Str) (r : Val × En) : R (Fl × En) := match frz r.2 r.1 with
  | some (d, ρ') => .ex x n d ρ'
  | none => .no
theorem wp_raise {x n : Str} (q : (f ρ).wp (fun r => (raV x n r).wp P E) E) : (fsRaise x n f ρ).wp P E := by unfold fsRaise; exact wp_bind q
theorem wp_raV {x n : Str} (h : frz ρ v = some (d, ρ1)) (q : E x n d ρ1) : (raV x n (v, ρ)).wp P E := by unfold raV; simp only [h]; exact ⟨q⟩
/-- the suite behind a caught error -/
def suiteR (cs : Str → Option Bool) (i : Nat) (fs : FS) (c n : Str) (d : D) (ρ' : En) : R (Fl × En) := match cs c with
    | some true => (match fs (ρ'.set i (.sh (.exn c n d))) with
      | .ok (.nx, ρ2) => .ok (.nx, ρ2.set i .un)
      | _ => .no)
    | some false => .ex c n d ρ'
    | none => .no
theorem wp_try {cs : Str → Option Bool} (q : (k ρ).wp P (fun c n d ρ' => (suiteR cs i k' c n d ρ').wp P E)) : (fsTry cs i k k' ρ).wp P E := by
  unfold fsTry
  cases e : k ρ with
  | ok r => rw [e] at q; exact ⟨q.out⟩
  | no => rw [e] at q; exact q.out.elim
  | ex c n d ρ' => rw [e] at q; exact q.out
theorem wp_suite {cs : Str → Option Bool} {x n : Str} (hc : cs x = some true) (h1 : ρ.set i (.sh (.exn x n d)) = ρ1) (q : (k ρ1).wp (fun r => ∃ ρ2, r = (.nx, ρ2) ∧ P (.nx, ρ2.set i .un)) (fun _ _ _ _ => False)) : (suiteR cs i k x n d ρ).wp P E := by
  unfold suiteR
  simp only [hc, h1]
  cases e : k ρ1 with
  | ok r => rw [e] at q; obtain ⟨ρ2, rfl, q'⟩ := q.out; exact ⟨q'⟩
  | no => rw [e] at q; exact q.out.elim
  | ex c n d ρ' => rw [e] at q; exact q.out.elim
theorem wp_suiteN {cs : Str → Option Bool} {x n : Str} (hc : cs x = some false) (q : E x n d ρ) : (suiteR cs i k x n d ρ).wp P E := by
  unfold suiteR
  simp only [hc]
  exact ⟨q⟩
theorem wp_for {fi : FI} {p : Pat} (q : (fi ρ).wp (fun r => (loopD p k r.1.lv 0 r.1.ds r.2).wp P E) E) : (fsFor fi p k ρ).wp P E := by unfold fsFor; exact wp_bind q
theorem wp_lnil {p : Pat} {n : Nat} (q : P (.nx, ρ)) : (loopD p k none n [] ρ).wp P E := ⟨q⟩
theorem wp_lcons {p : Pat} {n : Nat} (h1 : bindP p d ρ = some ρ1) (q : (k ρ1).wp (turnK (fun ρ' => (loopD p k none (n + 1) ds ρ').wp P E) P) E) : (loopD p k none n (d :: ds) ρ).wp P E := by
  simp only [loopD, cur, h1]
  refine wp_bind (R.wp_mono q (fun r h => ?_) fun _ _ _ _ z => z)
  obtain ⟨fl, ρ1⟩ := r
  cases fl with
  | nx => exact h
  | ct => exact h
  | bk => exact ⟨h⟩
  | rt v => exact ⟨h⟩
/-- a loop over items that stay, by an invariant -/
theorem wp_loop {p : Pat} (I : Nat → En → Prop) (h0 : I 0 ρ) (step : ∀ (n : Nat) (d : D) (ρ : En), ds[n]? = some d → I n ρ → ∃ ρ1, bindP p d ρ = some ρ1 ∧ (k ρ1).wp (turnK (I (n + 1)) P) E) (fin : ∀ ρ, I ds.length ρ → P (.nx, ρ)) {m : Nat} : (loopD p k none m ds ρ).wp P E := by
  have main : ∀ (es : List D) (n m : Nat) (ρ : En), ds.drop n = es → n ≤ ds.length → I n ρ → (loopD p k none m es ρ).wp P E := by
    intro es
    induction es with
    | nil =>
      intro n m ρ e hn h
      have : ds.length ≤ n := by
        have := congrArg List.length e
        rw [List.length_drop] at this
        simp at this
        omega
      have : n = ds.length := by omega
      subst this
      exact wp_lnil (fin ρ h)
    | cons d es ih =>
      intro n m ρ e hn h
      have hlt : n < ds.length := by
        have := congrArg List.length e
        rw [List.length_drop] at this
        simp at this
        omega
      have hd : ds[n]? = some d := by
        have := congrArg (fun l : List D => l[0]?) e
        simpa using this
      obtain ⟨ρ1, h1, h2⟩ := step n d ρ hd h
      have he : ds.drop (n + 1) = es := by
        have := congrArg List.tail e
        simpa using this
      refine wp_lcons h1 (R.wp_mono h2 (fun r q => ?_) fun _ _ _ _ z => z)
      obtain ⟨fl, ρ2⟩ := r
      cases fl with
      | nx => exact ih (n + 1) _ ρ2 he (by omega) q
      | ct => exact ih (n + 1) _ ρ2 he (by omega) q
      | bk => exact q
      | rt v => exact q
  exact main ds 0 m ρ rfl (Nat.zero_le _) h0
theorem wp_while {μ : En → Nat} {n : Nat} (hn : μ ρ = n) (q : (whileN g k n ρ).wp P E) : (fsWhile μ g k ρ).wp P E := by unfold fsWhile; rw [hn]; exact q
/-- a while, by an invariant with a measure -/
theorem wp_whileN (I : Nat → En → Prop) (step : ∀ (n : Nat) (ρ : En), I n ρ → (g ρ).wp (fun r => if r.1 = true then (k r.2).wp (turnK (fun ρ' => ∃ m, m < n ∧ I m ρ') P) E else P (.nx, r.2)) E) : ∀ (n m : Nat) (ρ : En), I n ρ → n < m → (whileN g k m ρ).wp P E
  | n, 0, _, _, h => by omega
  | n, m + 1, ρ, h, hm => by
    unfold whileN
    refine wp_bind (R.wp_mono (step n ρ h) (fun r q => ?_) fun _ _ _ _ z => z)
    obtain ⟨b, ρ1⟩ := r
    cases b with
    | false => exact ⟨q⟩
    | true =>
      simp only [if_true] at q ⊢
      refine wp_bind (R.wp_mono q (fun r q => ?_) fun _ _ _ _ z => z)
      obtain ⟨fl, ρ2⟩ := r
      cases fl with
      | nx =>
        obtain ⟨n', h1, h2⟩ := q
        exact wp_whileN I step n' m ρ2 h2 (by omega)
      | ct =>
        obtain ⟨n', h1, h2⟩ := q
        exact wp_whileN I step n' m ρ2 h2 (by omega)
      | bk => exact ⟨q⟩
      | rt v => exact ⟨q⟩
end
section
variable {P : Its × En → Prop} {E : Str → Str → D → En → Prop} {ρ ρ1 : En} {f : FE} {a : FA} {v : Val} {vs : List Val} {ds : List D}
theorem wp_fiOf {q : Val × En → R (Its × En)} (k : (f ρ).wp (fun r => (q r).wp P E) E) : (fiOf f q ρ).wp P E := by unfold fiOf; exact wp_bind k
theorem wp_fiA {q : List Val × En → R (Its × En)} (k : (a ρ).wp (fun r => (q r).wp P E) E) : (fiA a q ρ).wp P E := by unfold fiA; exact wp_bind k
theorem wp_asQ {t : Its} (h : asQ (v, ρ) = .ok (t, ρ1)) (k : P (t, ρ1)) : (asQ (v, ρ)).wp P E := by rw [h]; exact ⟨k⟩
theorem wp_rng1 {m : Int} (h : peekL ρ vs = some [.int m]) (hl : -(2 ^ 62) ≤ m ∧ m < 2 ^ 62) (k : P (⟨(List.range m.toNat).map fun (i : Nat) => D.int (0 + i), none⟩, ρ)) : (rng1 (vs, ρ)).wp P E := by
  simp only [rng1, h]; rw [if_pos hl]; exact ⟨k⟩
theorem wp_rng2 {m n : Int} (h : peekL ρ vs = some [.int m, .int n]) (hl : -(2 ^ 62) ≤ m ∧ m < 2 ^ 62 ∧ -(2 ^ 62) ≤ n ∧ n < 2 ^ 62) (k : P (⟨(List.range (n - m).toNat).map fun (i : Nat) => D.int (m + i), none⟩, ρ)) : (rng2 (vs, ρ)).wp P E := by
  simp only [rng2, h]; rw [if_pos hl]; exact ⟨k⟩
end
section
variable {E : Str → Str → D → En → Prop} {ρ ρ0 ρ1 : En} {f : FE} {g : FT} {ws : List Nat} {p : Pat} {ds : List D} {d : D}
theorem wp_lc {P : Val × En → Prop} {fi : FI} (k : (fi ρ).wp (fun r => (lcEnd ws p g f r).wp P E) E) : (evLC ws fi p g f ρ).wp P E := by unfold evLC; exact wp_bind k
theorem wp_lcEnd {P : Val × En → Prop} {t : Its} (h1 : okW ρ ws = true) (h2 : t.ds.length ≤ 16777216) (h3 : wipeE ρ ws = ρ1) (k : (lcL ws p g f t.lv 0 t.ds ρ1).wp (fun q => P (.fr (.lst q.1), restE ρ q.2 ws)) E) : (lcEnd ws p g f (t, ρ)).wp P E := by
  unfold lcEnd
  simp only [h1, h2, h3, and_self, if_true]
  exact wp_bind (R.wp_mono k (fun q h => ⟨h⟩) fun _ _ _ _ z => z)
theorem wp_lcnil {P : List D × En → Prop} {n : Nat} (q : P ([], ρ)) : (lcL ws p g f none n [] ρ).wp P E := ⟨q⟩
theorem wp_sure {α : Type} {r : R α} {P : α → Prop} {E' : Str → Str → D → En → Prop} (h : r.wp P (fun _ _ _ _ => False)) : r.sure.wp P E' := by
  cases r with
  | ok x => exact ⟨h.out⟩
  | ex _ _ _ _ => exact h.out.elim
  | no => exact h.out.elim
/-- the element of a comprehension -/
def lcV (ws : List Nat) (r : Val × En) : R (D × En) := match frz r.2 r.1 with
  | some z => .ok (z.1, wipeE z.2 ws)
  | none => .no
theorem wp_lcV {P : D × En → Prop} {v : Val} (h : frz ρ v = some (d, ρ1)) (h2 : wipeE ρ1 ws = ρ0) (k : P (d, ρ0)) : (lcV ws (v, ρ)).wp P E := by unfold lcV; simp only [h, h2]; exact ⟨k⟩
theorem wp_lccons {P : List D × En → Prop} {n : Nat} (h1 : bindP p d ρ = some ρ1) (q : (g ρ1).wp (fun r => if r.1 = true then (f r.2).wp (fun q => (lcV ws q).wp (fun z => (lcL ws p g f none (n + 1) ds z.2).wp (fun y => P (z.1 :: y.1, y.2)) E) (fun _ _ _ _ => False)) (fun _ _ _ _ => False) else (lcL ws p g f none (n + 1) ds (wipeE r.2 ws)).wp P E) (fun _ _ _ _ => False)) : (lcL ws p g f none n (d :: ds) ρ).wp P E := by
  simp only [lcL, cur, h1]
  refine wp_bind (wp_sure (R.wp_mono q (fun r h => ?_) fun _ _ _ _ z => z))
  obtain ⟨b, ρ2⟩ := r
  cases b with
  | false => exact h
  | true =>
    simp only [if_true] at h ⊢
    refine wp_bind (wp_sure (R.wp_mono h (fun r h => ?_) fun _ _ _ _ z => z))
    obtain ⟨v, ρ3⟩ := r
    unfold lcV at h
    simp only at h
    cases e : frz ρ3 v with
    | none => simp only [e] at h; exact h.out.elim
    | some z =>
      simp only [e] at h ⊢
      have h := h.out
      exact wp_bind (R.wp_mono h (fun y hy => ⟨hy⟩) fun _ _ _ _ z => z)
/-- a comprehension over items that stay, by an invariant -/
theorem wp_lcI {P : List D × En → Prop} (I : Nat → List D → En → Prop) (h0 : I 0 [] ρ) (step : ∀ (n : Nat) (d : D) (done : List D) (ρ : En), ds[n]? = some d → I n done ρ → ∃ ρ1, bindP p d ρ = some ρ1 ∧ (g ρ1).wp (fun r => if r.1 = true then (f r.2).wp (fun q => (lcV ws q).wp (fun z => I (n + 1) (done ++ [z.1]) z.2) (fun _ _ _ _ => False)) (fun _ _ _ _ => False) else I (n + 1) done (wipeE r.2 ws)) (fun _ _ _ _ => False))
    (fin : ∀ done ρ, I ds.length done ρ → P (done, ρ)) {m : Nat} : (lcL ws p g f none m ds ρ).wp P E := by
  have main : ∀ (es : List D) (n m : Nat) (done : List D) (ρ : En), ds.drop n = es → n ≤ ds.length → I n done ρ → (lcL ws p g f none m es ρ).wp (fun q => P (done ++ q.1, q.2)) E := by
    intro es
    induction es with
    | nil =>
      intro n m done ρ e hn h
      have : ds.length ≤ n := by
        have := congrArg List.length e
        rw [List.length_drop] at this
        simp at this
        omega
      have : n = ds.length := by omega
      subst this
      exact wp_lcnil (by rw [List.append_nil]; exact fin done ρ h)
    | cons d es ih =>
      intro n m done ρ e hn h
      have hlt : n < ds.length := by
        have := congrArg List.length e
        rw [List.length_drop] at this
        simp at this
        omega
      have hd : ds[n]? = some d := by
        have := congrArg (fun l : List D => l[0]?) e
        simpa using this
      obtain ⟨ρ1, h1, h2⟩ := step n d done ρ hd h
      have he : ds.drop (n + 1) = es := by
        have := congrArg List.tail e
        simpa using this
      refine wp_lccons h1 (R.wp_mono h2 (fun r q => ?_) fun _ _ _ _ z => z)
      obtain ⟨b, ρ2⟩ := r
      cases b with
      | false => exact ih (n + 1) _ done _ he (by omega) q
      | true =>
        simp only [if_true] at q ⊢
        refine R.wp_mono q (fun r q => R.wp_mono q (fun z q => ?_) fun _ _ _ _ z => z) fun _ _ _ _ z => z
        refine R.wp_mono (ih (n + 1) _ (done ++ [z.1]) z.2 he (by omega) q) (fun y q => ?_) fun _ _ _ _ z => z
        rw [List.append_assoc] at q
        exact q
  have h := main ds 0 m [] ρ rfl (Nat.zero_le _) h0
  exact R.wp_mono h (fun y q => by simpa using q) fun _ _ _ _ z => z
/-- each item gives its own, the state stays -/
theorem wp_lcmap {P : List D × En → Prop} {y : D → D} (hd : ∀ d ∈ ds, ∃ ρ1, bindP p d ρ = some ρ1 ∧ (f ρ1).wp (fun q => (lcV ws q).wp (fun z => z = (y d, ρ)) (fun _ _ _ _ => False)) (fun _ _ _ _ => False)) (k : P (ds.map y, ρ)) {m : Nat} : (lcL ws p ftYes f none m ds ρ).wp P E := by
  refine wp_lcI (I := fun n done ρ' => ρ' = ρ ∧ done = (ds.take n).map y) ⟨rfl, rfl⟩ (fun n d done ρ' e h => ?_) (fun done ρ' h => ?_)
  · obtain ⟨rfl, rfl⟩ := h
    obtain ⟨ρ1, h1, h2⟩ := hd d (List.mem_of_getElem? e)
    refine ⟨ρ1, h1, wp_yes ?_⟩
    simp only [if_true]
    refine R.wp_mono h2 (fun q h => R.wp_mono h (fun z h => ?_) fun _ _ _ _ z => z) fun _ _ _ _ z => z
    subst h
    refine ⟨rfl, ?_⟩
    have hn : n < ds.length := (List.getElem?_eq_some_iff.mp e).1
    rw [List.take_succ_eq_append_getElem hn, List.map_append]
    have : ds[n] = d := (List.getElem?_eq_some_iff.mp e).2
    rw [this]
    rfl
  · obtain ⟨rfl, rfl⟩ := h
    rw [List.take_length]
    exact k
end
/-! ### defs -/
def finW (k : Nat) (P : Bool → D → List D → Prop) : Fl × En → Prop
  | (.nx, ρ) => P false .non (trim k .non ρ.l)
  | (.rt v, ρ) => (match v with
    | .sh d => P false d (trim k d ρ.l)
    | .fr d => P true d (trim k d ρ.l)
    | .rf i => (match ρ.s[i]? with
      | some (.ow d) => P true d (trim k d ρ.l)
      | some (.sh d) => P false d (trim k d ρ.l)
      | _ => False))
  | _ => False
theorem wp_run {P : Bool → D → List D → Prop} {E : Str → Str → D → List D → Prop} {n m : Nat} {fb : FS} {ds L : List D} (hl : ds.length = m) (h : (fb (startP n ds L)).wp (finW L.length P) (fun c n d ρ => E c n d (trim L.length d ρ.l))) : (runP n m fb ds L).wp P E := by
  unfold runP
  rw [if_pos hl]
  cases er : fb (startP n ds L) with
  | no => rw [er] at h; exact h.out.elim
  | ex c n d ρ => rw [er] at h; exact ⟨h.out⟩
  | ok r =>
    rw [er] at h
    obtain ⟨fl, ρ⟩ := r
    have h := h.out
    cases fl with
    | nx => exact ⟨h⟩
    | bk => exact h.elim
    | ct => exact h.elim
    | rt v =>
      cases v with
      | sh d => exact ⟨h⟩
      | fr d => exact ⟨h⟩
      | rf i =>
        have h : (match ρ.s[i]? with
          | some (.ow d) => P true d (trim L.length d ρ.l)
          | some (.sh d) => P false d (trim L.length d ρ.l)
          | _ => False) := h
        unfold finP retV
        simp only
        cases e : ρ.s[i]? with
        | none => simp only [e] at h
        | some s => cases s <;> simp only [e] at h ⊢ <;> exact ⟨h⟩
theorem finW_nx {k : Nat} {P : Bool → D → List D → Prop} {ρ : En} (hl : ρ.l.length = k) (h : P false .non ρ.l) : finW k P (.nx, ρ) := by
  show P false .non (trim k .non ρ.l)
  rw [trim_self hl]; exact h
theorem finW_sh {k : Nat} {P : Bool → D → List D → Prop} {ρ : En} {d : D} (hl : ρ.l.length = k) (h : P false d ρ.l) : finW k P (.rt (.sh d), ρ) := by
  show P false d (trim k d ρ.l)
  rw [trim_self hl]; exact h
theorem finW_fr {k : Nat} {P : Bool → D → List D → Prop} {ρ : En} {d : D} (hl : ρ.l.length = k) (h : P true d ρ.l) : finW k P (.rt (.fr d), ρ) := by
  show P true d (trim k d ρ.l)
  rw [trim_self hl]; exact h
theorem finW_ow {k : Nat} {P : Bool → D → List D → Prop} {ρ : En} {d : D} {i : Nat} (e : ρ.s[i]? = some (.ow d)) (hl : ρ.l.length = k) (h : P true d ρ.l) : finW k P (.rt (.rf i), ρ) := by
  show (match ρ.s[i]? with
          | some (.ow d) => P true d (trim k d ρ.l)
          | some (.sh d) => P false d (trim k d ρ.l)
          | _ => False)
  simp only [e]
  rw [trim_self hl]; exact h
end Tr
/-! Tr, part S: operations on ints, sizes. -/
namespace Tr
open PySem PySem.Spec PyProof.Rows L2
/-! operations on ints -/
theorem eqB_i (a b : Int) : eqB (.int a) (.int b) = some (decide (a = b)) := by
  unfold eqB toPy
  have h1 : ∀ i : Int, SeqAt.shaped (.int i) = true := fun _ => by rfl
  simp only [h1, and_self, if_true]
  rfl
theorem eqD_i (a b : Int) : eqD (.int a) (.int b) = some (vB (decide (a = b))) := by unfold eqD; rw [eqB_i]; rfl
theorem neD_i (a b : Int) : neD (.int a) (.int b) = some (vB (!decide (a = b))) := by unfold neD; rw [eqB_i]; rfl
/-! ### sizes -/
class Sz (i : Int) (n : outParam Nat) : Prop where
  lt : i.natAbs < 2 ^ n
theorem Sz.log {i : Int} {n : Nat} (h : Sz i n) : i.natAbs.log2 ≤ n := by
  by_cases z : i.natAbs = 0
  · rw [z]; simp
  · exact Nat.le_of_lt ((Nat.log2_lt z).mpr h.lt)
instance sz_l0 : Sz (0 : Int) 0 := ⟨by decide⟩
instance sz_l1 : Sz (1 : Int) 1 := ⟨by decide⟩
instance sz_l2 : Sz (2 : Int) 2 := ⟨by decide⟩
instance sz_l3 : Sz (3 : Int) 2 := ⟨by decide⟩
instance sz_l4 : Sz (4 : Int) 3 := ⟨by decide⟩
instance sz_l5 : Sz (5 : Int) 3 := ⟨by decide⟩
instance sz_l6 : Sz (6 : Int) 3 := ⟨by decide⟩
instance sz_l7 : Sz (7 : Int) 3 := ⟨by decide⟩
instance sz_l8 : Sz (8 : Int) 4 := ⟨by decide⟩
instance sz_l9 : Sz (9 : Int) 4 := ⟨by decide⟩
instance sz_l10 : Sz (10 : Int) 4 := ⟨by decide⟩
instance sz_l11 : Sz (11 : Int) 4 := ⟨by decide⟩
instance sz_l12 : Sz (12 : Int) 4 := ⟨by decide⟩
instance sz_l13 : Sz (13 : Int) 4 := ⟨by decide⟩
instance sz_l14 : Sz (14 : Int) 4 := ⟨by decide⟩
instance sz_l15 : Sz (15 : Int) 4 := ⟨by decide⟩
instance sz_l16 : Sz (16 : Int) 5 := ⟨by decide⟩
instance sz_l18 : Sz (18 : Int) 5 := ⟨by decide⟩
instance sz_l19 : Sz (19 : Int) 5 := ⟨by decide⟩
instance sz_l20 : Sz (20 : Int) 5 := ⟨by decide⟩
instance sz_l21 : Sz (21 : Int) 5 := ⟨by decide⟩
instance sz_l24 : Sz (24 : Int) 5 := ⟨by decide⟩
instance sz_l25 : Sz (25 : Int) 5 := ⟨by decide⟩
instance sz_l27 : Sz (27 : Int) 5 := ⟨by decide⟩
instance sz_l28 : Sz (28 : Int) 5 := ⟨by decide⟩
instance sz_l30 : Sz (30 : Int) 5 := ⟨by decide⟩
instance sz_l31 : Sz (31 : Int) 5 := ⟨by decide⟩
instance sz_l32 : Sz (32 : Int) 6 := ⟨by decide⟩
instance sz_l36 : Sz (36 : Int) 6 := ⟨by decide⟩
instance sz_l39 : Sz (39 : Int) 6 := ⟨by decide⟩
instance sz_l40 : Sz (40 : Int) 6 := ⟨by decide⟩
instance sz_l41 : Sz (41 : Int) 6 := ⟨by decide⟩
instance sz_l48 : Sz (48 : Int) 6 := ⟨by decide⟩
instance sz_l50 : Sz (50 : Int) 6 := ⟨by decide⟩
instance sz_l60 : Sz (60 : Int) 6 := ⟨by decide⟩
instance sz_l61 : Sz (61 : Int) 6 := ⟨by decide⟩
instance sz_l64 : Sz (64 : Int) 7 := ⟨by decide⟩
instance sz_l97 : Sz (97 : Int) 7 := ⟨by decide⟩
instance sz_l99 : Sz (99 : Int) 7 := ⟨by decide⟩
instance sz_l100 : Sz (100 : Int) 7 := ⟨by decide⟩
instance sz_l101 : Sz (101 : Int) 7 := ⟨by decide⟩
instance sz_l120 : Sz (120 : Int) 7 := ⟨by decide⟩
instance sz_l128 : Sz (128 : Int) 8 := ⟨by decide⟩
instance sz_l255 : Sz (255 : Int) 8 := ⟨by decide⟩
instance sz_l256 : Sz (256 : Int) 9 := ⟨by decide⟩
instance sz_l300 : Sz (300 : Int) 9 := ⟨by decide⟩
instance sz_l400 : Sz (400 : Int) 9 := ⟨by decide⟩
instance sz_l1000 : Sz (1000 : Int) 10 := ⟨by decide⟩
instance sz_l2000 : Sz (2000 : Int) 11 := ⟨by decide⟩
instance sz_l3000 : Sz (3000 : Int) 12 := ⟨by decide⟩
instance sz_l5000 : Sz (5000 : Int) 13 := ⟨by decide⟩
instance sz_l7919 : Sz (7919 : Int) 13 := ⟨by decide⟩
instance sz_l10000 : Sz (10000 : Int) 14 := ⟨by decide⟩
instance sz_l19988 : Sz (19988 : Int) 15 := ⟨by decide⟩
instance sz_l50000 : Sz (50000 : Int) 16 := ⟨by decide⟩
instance sz_l69621 : Sz (69621 : Int) 17 := ⟨by decide⟩
instance sz_l48271 : Sz (48271 : Int) 16 := ⟨by decide⟩
instance sz_l100000 : Sz (100000 : Int) 17 := ⟨by decide⟩
instance sz_l1000000 : Sz (1000000 : Int) 20 := ⟨by decide⟩
instance sz_l1000000000 : Sz (1000000000 : Int) 30 := ⟨by decide⟩
instance sz_l1103515245 : Sz (1103515245 : Int) 31 := ⟨by decide⟩
instance sz_l2147483587 : Sz (2147483587 : Int) 31 := ⟨by decide⟩
instance sz_l2147483629 : Sz (2147483629 : Int) 31 := ⟨by decide⟩
instance sz_l2147483647 : Sz (2147483647 : Int) 31 := ⟨by decide⟩
instance sz_l1000000000000 : Sz (1000000000000 : Int) 40 := ⟨by decide⟩
theorem Sz.up {i : Int} {m n : Nat} (h : Sz i m) (l : m ≤ n) : Sz i n := ⟨Nat.lt_of_lt_of_le h.lt (Nat.pow_le_pow_right (by decide) l)⟩
instance sz_neg {i : Int} {n : Nat} [h : Sz i n] : Sz (-i) n := ⟨by rw [Int.natAbs_neg]; exact h.lt⟩
instance sz_add {i j : Int} {m n : Nat} [h : Sz i m] [k : Sz j n] : Sz (i + j) (m + n + 1) := ⟨by
  have h1 := h.lt
  have h2 := k.lt
  have h3 : (i + j).natAbs ≤ i.natAbs + j.natAbs := Int.natAbs_add_le i j
  have h4 : 2 ^ m ≤ 2 ^ (m + n) := Nat.pow_le_pow_right (by decide) (by omega)
  have h5 : 2 ^ n ≤ 2 ^ (m + n) := Nat.pow_le_pow_right (by decide) (by omega)
  have h6 : 2 ^ (m + n + 1) = 2 ^ (m + n) * 2 := Nat.pow_succ _ _
  omega⟩
instance sz_sub {i j : Int} {m n : Nat} [h : Sz i m] [k : Sz j n] : Sz (i - j) (m + n + 1) := ⟨by
  have := (sz_add (i := i) (j := -j)).lt
  rwa [← Int.sub_eq_add_neg] at this⟩
instance sz_mul {i j : Int} {m n : Nat} [h : Sz i m] [k : Sz j n] : Sz (i * j) (m + n) := ⟨by
  rw [Int.natAbs_mul, Nat.pow_add]
  exact Nat.mul_lt_mul'' h.lt k.lt⟩
instance sz_pow {i : Int} {n : Nat} (k : Nat) [h : Sz i n] : Sz (i ^ k) (n * k + 1) := ⟨by
  rw [Int.natAbs_pow]
  have h1 : i.natAbs ^ k ≤ (2 ^ n) ^ k := Nat.pow_le_pow_left (Nat.le_of_lt h.lt) k
  rw [← Nat.pow_mul] at h1
  have h2 : 2 ^ (n * k + 1) = 2 ^ (n * k) * 2 := Nat.pow_succ _ _
  have h3 : 0 < 2 ^ (n * k) := Nat.pow_pos (by decide)
  omega⟩
class Ps (j : Int) : Prop where
  nn : 0 ≤ j
instance ps_l0 : Ps (0 : Int) := ⟨by decide⟩
instance ps_l1 : Ps (1 : Int) := ⟨by decide⟩
instance ps_l2 : Ps (2 : Int) := ⟨by decide⟩
instance ps_l3 : Ps (3 : Int) := ⟨by decide⟩
instance ps_l4 : Ps (4 : Int) := ⟨by decide⟩
instance ps_l5 : Ps (5 : Int) := ⟨by decide⟩
instance ps_l6 : Ps (6 : Int) := ⟨by decide⟩
instance ps_l7 : Ps (7 : Int) := ⟨by decide⟩
instance ps_l8 : Ps (8 : Int) := ⟨by decide⟩
instance ps_l9 : Ps (9 : Int) := ⟨by decide⟩
instance ps_l10 : Ps (10 : Int) := ⟨by decide⟩
instance ps_l11 : Ps (11 : Int) := ⟨by decide⟩
instance ps_l12 : Ps (12 : Int) := ⟨by decide⟩
instance ps_l13 : Ps (13 : Int) := ⟨by decide⟩
instance ps_l14 : Ps (14 : Int) := ⟨by decide⟩
instance ps_l15 : Ps (15 : Int) := ⟨by decide⟩
instance ps_l16 : Ps (16 : Int) := ⟨by decide⟩
instance ps_l18 : Ps (18 : Int) := ⟨by decide⟩
instance ps_l19 : Ps (19 : Int) := ⟨by decide⟩
instance ps_l20 : Ps (20 : Int) := ⟨by decide⟩
instance ps_l21 : Ps (21 : Int) := ⟨by decide⟩
instance ps_l24 : Ps (24 : Int) := ⟨by decide⟩
instance ps_l25 : Ps (25 : Int) := ⟨by decide⟩
instance ps_l27 : Ps (27 : Int) := ⟨by decide⟩
instance ps_l28 : Ps (28 : Int) := ⟨by decide⟩
instance ps_l30 : Ps (30 : Int) := ⟨by decide⟩
instance ps_l31 : Ps (31 : Int) := ⟨by decide⟩
instance ps_l32 : Ps (32 : Int) := ⟨by decide⟩
instance ps_l36 : Ps (36 : Int) := ⟨by decide⟩
instance ps_l39 : Ps (39 : Int) := ⟨by decide⟩
instance ps_l40 : Ps (40 : Int) := ⟨by decide⟩
instance ps_l41 : Ps (41 : Int) := ⟨by decide⟩
instance ps_l48 : Ps (48 : Int) := ⟨by decide⟩
instance ps_l50 : Ps (50 : Int) := ⟨by decide⟩
instance ps_l60 : Ps (60 : Int) := ⟨by decide⟩
instance ps_l61 : Ps (61 : Int) := ⟨by decide⟩
instance ps_l64 : Ps (64 : Int) := ⟨by decide⟩
instance ps_l97 : Ps (97 : Int) := ⟨by decide⟩
instance ps_l99 : Ps (99 : Int) := ⟨by decide⟩
instance ps_l100 : Ps (100 : Int) := ⟨by decide⟩
instance ps_l101 : Ps (101 : Int) := ⟨by decide⟩
instance ps_l120 : Ps (120 : Int) := ⟨by decide⟩
instance ps_l128 : Ps (128 : Int) := ⟨by decide⟩
instance ps_l255 : Ps (255 : Int) := ⟨by decide⟩
instance ps_l256 : Ps (256 : Int) := ⟨by decide⟩
instance ps_l300 : Ps (300 : Int) := ⟨by decide⟩
instance ps_l400 : Ps (400 : Int) := ⟨by decide⟩
instance ps_l1000 : Ps (1000 : Int) := ⟨by decide⟩
instance ps_l2000 : Ps (2000 : Int) := ⟨by decide⟩
instance ps_l3000 : Ps (3000 : Int) := ⟨by decide⟩
instance ps_l5000 : Ps (5000 : Int) := ⟨by decide⟩
instance ps_l7919 : Ps (7919 : Int) := ⟨by decide⟩
instance ps_l10000 : Ps (10000 : Int) := ⟨by decide⟩
instance ps_l19988 : Ps (19988 : Int) := ⟨by decide⟩
instance ps_l50000 : Ps (50000 : Int) := ⟨by decide⟩
instance ps_l69621 : Ps (69621 : Int) := ⟨by decide⟩
instance ps_l48271 : Ps (48271 : Int) := ⟨by decide⟩
instance ps_l100000 : Ps (100000 : Int) := ⟨by decide⟩
instance ps_l1000000 : Ps (1000000 : Int) := ⟨by decide⟩
instance ps_l1000000000 : Ps (1000000000 : Int) := ⟨by decide⟩
instance ps_l1103515245 : Ps (1103515245 : Int) := ⟨by decide⟩
instance ps_l2147483587 : Ps (2147483587 : Int) := ⟨by decide⟩
instance ps_l2147483629 : Ps (2147483629 : Int) := ⟨by decide⟩
instance ps_l2147483647 : Ps (2147483647 : Int) := ⟨by decide⟩
instance ps_l1000000000000 : Ps (1000000000000 : Int) := ⟨by decide⟩
instance sz_fdiv {i j : Int} {m : Nat} [h : Sz i m] [p : Ps j] : Sz (i.fdiv j) m := ⟨by
  rw [Int.fdiv_eq_ediv_of_nonneg _ p.nn]
  exact Nat.lt_of_le_of_lt (Int.natAbs_ediv_le_natAbs _ _) h.lt⟩
instance sz_fmod {i j : Int} {m n : Nat} [h : Sz i m] [k : Sz j n] [p : Ps j] : Sz (i.fmod j) (m + n) := ⟨by
  have h1 := h.lt
  have h2 := k.lt
  have h4 : 2 ^ m ≤ 2 ^ (m + n) := Nat.pow_le_pow_right (by decide) (by omega)
  have h5 : 2 ^ n ≤ 2 ^ (m + n) := Nat.pow_le_pow_right (by decide) (by omega)
  rw [Int.fmod_eq_emod_of_nonneg _ p.nn]
  have p := p.nn
  by_cases z : j = 0
  · subst z
    rw [Int.emod_zero]
    omega
  · have q1 := Int.emod_nonneg i z
    have q2 := Int.emod_lt_of_pos i (show 0 < j by omega)
    omega⟩
theorem fmod_lt {i j : Int} (h : 0 < j) : 0 ≤ i.fmod j ∧ i.fmod j < j := ⟨Int.fmod_nonneg_of_pos i h, Int.fmod_lt_of_pos i h⟩
theorem mulD_i {a b : Int} {m n : Nat} (ha : Sz a m) (hb : Sz b n) (h : m + n < 1000000) : mulD (.int a) (.int b) = some (vI (a * b)) := by
  unfold mulD
  have h1 := ha.log
  have h2 := hb.log
  exact if_pos (show mulOk a b from by unfold mulOk; omega)
theorem divD_i {a b : Int} {n : Nat} (hb : Sz b n) (h : n < 9000) (hn : b ≠ 0) : divD (.int a) (.int b) = some (vI (a.fdiv b)) := by
  unfold divD
  have h2 := hb.log
  exact if_pos (show divOk b from ⟨hn, by omega⟩)
theorem modD_i {a b : Int} (hn : b ≠ 0) : modD (.int a) (.int b) = some (vI (a.fmod b)) := by
  unfold modD
  exact if_pos hn
end Tr
/-! Tr, part O: lists of unlike lengths, tuples in order, sorted, remove, tuple(range), ints of the module. -/
namespace Tr
open PySem PySem.Spec PyProof.Rows L2
section
variable {X : Cx} {W : WX}
/-! ### == -/
def rEqLen (K : PySem.W.Frag) (b : Bool) : R2 := fun x y H Q => ∃ a a' xs ys, x = .ref a ∧ y = .ref a' ∧ SqL K H a xs ∧ SqL K H a' ys ∧ xs.length ≠ ys.length ∧ Q (.bl b) H
theorem op_eqLen (hu : X.A.units + 64 < cLine) : OpR X (compareOp .Eq) (rEqLen X.K false) := by
  intro pins s σ H x y v u Q I rx ry h
  obtain ⟨a, a', xs, ys, rfl, rfl, h1, h2, hl, q⟩ := h
  cases (show v = Value.ref a from rx)
  cases (show u = Value.ref a' from ry)
  obtain ⟨i1, r1, p1, _⟩ := I.list h1
  obtain ⟨i2, r2, p2, _⟩ := I.list h2
  have e1 := r1.length
  have e2 := r2.length
  exact SeqAt.RcAt.lists_lengths p1.isList p2.isList (by simp only [List.size_toArray, bne_iff_ne, ne_eq]; omega) (by omega) X.prog X.w _ _ ⟨.bl false, H, I, rfl, q⟩
theorem op_neLen (hu : X.A.units + 64 < cLine) : OpR X (compareOp .NotEq) (rEqLen X.K true) := by
  intro pins s σ H x y v u Q I rx ry h
  obtain ⟨a, a', xs, ys, rfl, rfl, h1, h2, hl, q⟩ := h
  cases (show v = Value.ref a from rx)
  cases (show u = Value.ref a' from ry)
  obtain ⟨i1, r1, p1, _⟩ := I.list h1
  obtain ⟨i2, r2, p2, _⟩ := I.list h2
  have e1 := r1.length
  have e2 := r2.length
  exact SeqAt.RcNeAt.lists_lengths p1.isList p2.isList (by simp only [List.size_toArray, bne_iff_ne, ne_eq]; omega) (by omega) X.prog X.w _ _ ⟨.bl true, H, I, rfl, q⟩
/-- lists of unlike lengths differ, whatever they hold -/
def eqX : D → D → Option Bool
  | .lst xs, .lst ys => if xs.length = ys.length then eqB (.lst xs) (.lst ys) else some false
  | d, e => eqB d e
def eqDX (d e : D) : Option Val := (eqX d e).map vB
def neDX (d e : D) : Option Val := (eqX d e).map fun b => vB (!b)
theorem Pk.lstK {T : Tx} {F : Fz} {H : Hp} {x : V} {ds : List D} (s : Same F.hp H) (h : Pk T F H (.lst ds) x) : ∃ a xs, x = .ref a ∧ SqL T.K H a xs ∧ ds.length = xs.length := by
  obtain ⟨a, xs, h1, h2, h3⟩ := h.lst s
  exact ⟨a, xs, h1, SqL.of h2, h3.length⟩
theorem os_eqX (hu : X.A.units + 64 < cLine) : OpS X (compareOp .Eq) eqDX := by
  obtain ⟨r, hr, hs⟩ := os_eq (X := X) hu
  refine ⟨_, OpR.or hr (op_eqLen hu), fun F H x y d e z Q s px py hg k => ?_⟩
  have old : eqD d e = some z → r x y H Q := fun h => hs F H x y d e z Q s px py h k
  unfold eqDX eqX at hg
  split at hg
  · split at hg
    · exact .inl (old hg)
    · rename_i hl
      cases hg
      obtain ⟨a, xs, e1, h1, l1⟩ := px.lstK s
      obtain ⟨b, ys, e2, h2, l2⟩ := py.lstK s
      exact .inr ⟨a, b, xs, ys, e1, e2, h1, h2, by omega, plainQ s k rfl⟩
  · exact .inl (old hg)
theorem os_neX (hu : X.A.units + 64 < cLine) : OpS X (compareOp .NotEq) neDX := by
  obtain ⟨r, hr, hs⟩ := os_ne (X := X) hu
  refine ⟨_, OpR.or hr (op_neLen hu), fun F H x y d e z Q s px py hg k => ?_⟩
  have old : neD d e = some z → r x y H Q := fun h => hs F H x y d e z Q s px py h k
  unfold neDX eqX at hg
  split at hg
  · split at hg
    · exact .inl (old hg)
    · rename_i hl
      cases hg
      obtain ⟨a, xs, e1, h1, l1⟩ := px.lstK s
      obtain ⟨b, ys, e2, h2, l2⟩ := py.lstK s
      exact .inr ⟨a, b, xs, ys, e1, e2, h1, h2, by omega, plainQ s k rfl⟩
  · exact .inl (old hg)
theorem eqDX_i (a b : Int) : eqDX (.int a) (.int b) = some (vB (decide (a = b))) := eqD_i a b
theorem neDX_i (a b : Int) : neDX (.int a) (.int b) = some (vB (!decide (a = b))) := neD_i a b
theorem eqDX_s (a b : Str) : eqDX (.str a) (.str b) = some (vB (decide (a = b))) := rfl
theorem neDX_s (a b : Str) : neDX (.str a) (.str b) = some (vB (!decide (a = b))) := rfl
theorem eqDX_nil (xs : List D) : eqDX (.lst xs) (.lst []) = some (vB xs.isEmpty) := by
  cases xs with
  | nil => rfl
  | cons x xs => rfl
theorem neDX_nil (xs : List D) : neDX (.lst xs) (.lst []) = some (vB (!xs.isEmpty)) := by
  cases xs with
  | nil => rfl
  | cons x xs => rfl
/-! ### < of tuples of ints -/
def ltDX : D → D → Option Val
  | .tup xs, .tup ys => (match allInts xs, allInts ys with
    | some ns, some ms => some (vB (HT.lexLt ns ms))
    | _, _ => none)
  | d, e => ltD d e
theorem os_ltX (hu : X.A.units + 64 < cLine) : OpS X (compareOp .Lt) ltDX := by
  obtain ⟨r, hr, hs⟩ := os_lt (X := X)
  refine ⟨_, OpR.or hr (op_ltT (by omega)), fun F H x y d e z Q s px py hg k => ?_⟩
  unfold ltDX at hg
  split at hg
  · split at hg
    · rename_i ns ms e1 e2
      cases hg
      obtain ⟨a, xs, ex, h1, d1, _⟩ := px.tup s
      obtain ⟨b, ys, ey, h2, d2, _⟩ := py.tup s
      rw [allInts_eq e1] at d1
      rw [allInts_eq e2] at d2
      have q1 := denL_ints_eq d1
      have q2 := denL_ints_eq d2
      subst q1 q2
      exact .inr ⟨a, b, ns, ms, ex, ey, h1, h2, plainQ s k rfl⟩
    · cases hg
  · exact .inl (hs F H x y d e z Q s px py hg k)
theorem allInts_map (ns : List Int) : allInts (ns.map D.int) = some ns := by
  induction ns with
  | nil => rfl
  | cons n ns ih => simp only [List.map_cons, allInts, ih, Option.map_some]
theorem ltDX_t (ns ms : List Int) : ltDX (.tup (ns.map .int)) (.tup (ms.map .int)) = some (vB (HT.lexLt ns ms)) := by
  simp only [ltDX, allInts_map]
/-! ### sorted(xs), ints -/
def insI (k : Int) : List Int → List Int
  | [] => [k]
  | n :: ns => if k ≤ n then k :: n :: ns else n :: insI k ns
def sortI : List Int → List Int
  | [] => []
  | n :: ns => insI n (sortI ns)
theorem insI_perm (k : Int) : ∀ ns : List Int, (insI k ns).Perm (k :: ns)
  | [] => .refl _
  | n :: ns => by
    unfold insI
    split
    · exact .refl _
    · exact ((insI_perm k ns).cons n).trans (.swap k n ns)
theorem sortI_perm : ∀ ns : List Int, (sortI ns).Perm ns
  | [] => .refl _
  | n :: ns => (insI_perm n _).trans ((sortI_perm ns).cons n)
theorem insI_sorted (k : Int) : ∀ ns : List Int, ns.Pairwise (· ≤ ·) → (insI k ns).Pairwise (· ≤ ·)
  | [], _ => by simp [insI]
  | n :: ns, h => by
    unfold insI
    rw [List.pairwise_cons] at h
    split
    · rename_i hk
      refine List.pairwise_cons.mpr ⟨fun m hm => ?_, List.pairwise_cons.mpr h⟩
      rcases List.mem_cons.mp hm with rfl | hm
      · exact hk
      · exact Int.le_trans hk (h.1 m hm)
    · rename_i hk
      refine List.pairwise_cons.mpr ⟨fun m hm => ?_, insI_sorted k ns h.2⟩
      rcases List.mem_cons.mp ((insI_perm k ns).mem_iff.mp hm) with rfl | hm
      · omega
      · exact h.1 m hm
theorem sortI_sorted : ∀ ns : List Int, (sortI ns).Pairwise (· ≤ ·)
  | [] => .nil
  | n :: ns => insI_sorted n _ (sortI_sorted ns)
theorem sortI_eq {ns ms : List Int} (hp : ms.Perm ns) (hs : ms.Pairwise (· ≤ ·)) : ms = sortI ns :=
  List.Perm.eq_of_pairwise (le := (· ≤ ·)) (fun a b _ _ h1 h2 => Int.le_antisymm h1 h2) hs (sortI_sorted ns) (hp.trans (sortI_perm ns).symm)
def sortedD : List D → Option Val
  | [.lst ds] => (allInts ds).map fun ns => .fr (.lst ((sortI ns).map .int))
  | _ => none
theorem cs_sorted : CallS X (.builtin "sorted") sortedD := by
  refine ⟨_, cr_sortedI, fun F H xs ds z Q s px hg k => ?_⟩
  unfold sortedD at hg
  split at hg
  · rw [Option.map_eq_some_iff] at hg
    obtain ⟨ns, h1, rfl⟩ := hg
    obtain ⟨x, rfl, p⟩ := px.one
    obtain ⟨a, xs, e1, h2, d1⟩ := p.lst s
    rw [allInts_eq h1] at d1
    refine ⟨a, ns, by rw [e1], SqL.of (by rw [← denL_ints_eq d1]; exact h2), fun ns' p hp hs hn => ?_⟩
    have := sortI_eq hp hs
    subst this
    exact k _ F _ (New.fr s hn) ⟨p, rfl, s.free hn, hn, _, upd_same, denL_ints _⟩
  · cases hg
theorem sortedD_i (ns : List Int) : sortedD [.lst (ns.map .int)] = some (.fr (.lst ((sortI ns).map .int))) := by simp only [sortedD, allInts_map, Option.map_some]
/-! ### xs.remove(k), ints -/
def remI (k : Int) : List Int → Option (List Int)
  | [] => none
  | n :: ns => if n = k then some ns else (remI k ns).map (n :: ·)
theorem remI_at {k : Int} : ∀ {ns ms : List Int}, remI k ns = some ms → ∃ j : Nat, ns[j]? = some k ∧ (∀ m : Nat, m < j → ns[m]? ≠ some k) ∧ ns.eraseIdx j = ms
  | [], _, h => by cases h
  | n :: ns, ms, h => by
    unfold remI at h
    split at h
    · rename_i e
      cases h
      exact ⟨0, by rw [e]; rfl, fun m hm => by omega, rfl⟩
    · rename_i e
      rw [Option.map_eq_some_iff] at h
      obtain ⟨l, h1, rfl⟩ := h
      obtain ⟨j, h2, h3, h4⟩ := remI_at h1
      refine ⟨j + 1, h2, fun m hm => ?_, by rw [List.eraseIdx_cons_succ, h4]⟩
      cases m with
      | zero => exact fun z => e (Option.some.inj z)
      | succ m => exact h3 m (by omega)
def remD : D → List D → Option (D × D)
  | .lst ds, [.int k] => (match allInts ds with
    | some ns => (match remI k ns with
      | some ms => some (.lst (ms.map .int), .non)
      | none => none)
    | none => none)
  | _, _ => none
theorem ms_rem : MuS X rRemI remD := fun F H a xs d ds d' z Q s fn ho hd hg k => by
  unfold remD at hg
  split at hg
  · split at hg
    · rename_i ns e1
      split at hg
      · rename_i ms e2
        cases hg
        obtain ⟨ys, h1, h2⟩ := ho
        rw [allInts_eq e1] at h2
        have q2 := denL_ints_eq h2
        subst q2
        obtain ⟨x, r, rfl, hx, hr⟩ := hd
        have hr : r = [] := hr
        subst hr
        have hx : x = .int _ := hx
        subst hx
        obtain ⟨j, j1, j2, j3⟩ := remI_at e2
        refine ⟨a, ns, _, j, rfl, rfl, h1, j1, j2, k _ _ ⟨_, upd_same, ?_⟩ rfl⟩
        rw [j3]
        exact denL_ints _
      · cases hg
    · cases hg
  · cases hg
theorem se_rem {o e : Expr} {ft : FE} {fa : FA} {apos cpos : Pos} (ho : SE X W o ft) (ha : SA X W [e] fa)
    (hbase : attributeBase o "remove" X.env (eval o X.env) = eval o X.env := by rfl)
    (hfew : ((backTo cpos (starEach [e] X.env)).all (fun x => !x.1) && (backToKw cpos (keywordEach [] X.env)).all (fun x => x.1.isSome)
      && decide ([e].length + ([] : List Keyword).length + (if ([] : List Keyword).isEmpty then 0 else 1) < 30)) = true := by rfl)
    (hline : (apos.endLine == cpos.line) = true := by rfl) (hs : starEach [e] X.env = (false, eval e X.env) :: starEach [] X.env := by rfl) (hplain : (backTo cpos (starEach [] X.env)).any (·.1) = false := by rfl) :
    SE X W (.Call (.Attribute o "remove" apos) [e] [] cpos) (evM remD ft fa) :=
  se_m PySem.F.slot_list_remove PySem.F.type_list_remove mt_remove ms_rem ho ha hbase hfew hline hs hplain
/-! ### ints and texts of the module -/
theorem se_gintE {x : Str} {i : Int} {pos : Pos} (hm : ∃ t, X.mg x = some (.int i t)) (hg : Gl X x := by rfl) (hd : (x == ("__debug__" : Str)) = false := by decide) : SE X W (.Name x pos) (evC (.int i)) := by
  obtain ⟨t, hm⟩ := hm
  exact se_gint hm hg hd
theorem se_gstrE {x y : Str} {pos : Pos} (hm : ∃ t, X.mg x = some (.str y t)) (hg : Gl X x := by rfl) (hd : (x == ("__debug__" : Str)) = false := by decide) : SE X W (.Name x pos) (evC (.str y)) := by
  obtain ⟨t, hm⟩ := hm
  exact se_gstr hm hg hd
/-! ### tuple(range(a, b)), list(range(..)) -/
def rgD (a b : Int) : List D := (List.range (b - a).toNat).map fun (i : Nat) => D.int (a + i)
theorem rgD_den {T : Tx} {F : Fz} (a b : Int) : DenL T F (rgD a b) (rgV a b) := by
  unfold rgD rgV
  have : ∀ l : List Nat, DenL T F (l.map fun (i : Nat) => D.int (a + i)) (l.map fun (i : Nat) => V.int (a + i)) := by
    intro l
    induction l with
    | nil => exact DenL.nil
    | cons x l ih => exact DenL.cons rfl ih
  exact this _
instance {a b : Int} : Decidable (RgOk a b) := inferInstanceAs (Decidable (_ ∧ _))
@[irreducible] def tupRg2 (r : List Val × En) : R (Val × En) := match peekL r.2 r.1 with
  | some [.int a, .int b] => if RgOk a b then .ok (.sh (.tup (rgD a b)), r.2) else .no
  | _ => .no
@[irreducible] def tupRg1 (r : List Val × En) : R (Val × En) := match peekL r.2 r.1 with
  | some [.int b] => if RgOk 0 b then .ok (.sh (.tup (rgD 0 b)), r.2) else .no
  | _ => .no
def evTRg (k : List Val × En → R (Val × En)) (f : FA) : FE := fun ρ => (f ρ).bind k
theorem se_tupRg2 {a b : Expr} {fa fb : FE} {p p2 pos pos2 : Pos} (hc : X.calm = true) (hm : X.mg "tuple" = none) (hm2 : X.mg "range" = none) (ha : SE X W a fa) (hb : SE X W b fb) (hg : Gl X "tuple" := by rfl) (hg2 : Gl X "range" := by rfl)
    (na : starEach [a, b] X.env = (false, eval a X.env) :: starEach [b] X.env := by rfl) (nb : starEach [b] X.env = (false, eval b X.env) :: starEach [] X.env := by rfl) (hp : (backTo pos2 (starEach [b] X.env)).any (·.1) = false := by rfl)
    (nr : starEach [.Call (.Name "range" p2) [a, b] [] pos2] X.env = (false, eval (.Call (.Name "range" p2) [a, b] [] pos2) X.env) :: starEach [] X.env := by rfl) :
    SE X W (.Call (.Name "tuple" p) [.Call (.Name "range" p2) [a, b] [] pos2] [] pos) (evTRg tupRg2 (faCons fa (faCons fb faNil))) :=
  pe_imp (pe_tupRg hc hg hm (prg_2 hg2 hm2 ha hb na nb hp) nr) fun σ H Q ⟨ρ, F, rl, h⟩ => by
    unfold evTRg faCons faNil at h
    refine ⟨ρ, F, rl, ?_⟩
    cases ea : fa ρ with
    | no => simp only [ea, R.bind] at h
    | ex c n d ρ' => simp only [ea, R.bind] at h; exact h
    | ok ra =>
      simp only [ea, R.bind] at h
      intro x F1 H1 s1 v1
      obtain ⟨F2, s12, m2, p2⟩ := held_ok s1 v1
      refine ⟨ra.2, F2, s12.rel, ?_⟩
      cases eb : fb ra.2 with
      | no => simp only [eb] at h
      | ex c n d ρ' => simp only [eb] at h; exact fun F' H' cls dx s e => h F' H' cls dx (s12.trans s) e
      | ok rb =>
        simp only [eb] at h
        intro y F3 H3 s3 v3
        obtain ⟨F4, s4, m4, p4⟩ := held_ok s3 v3
        have s14 := s12.trans s4
        unfold tupRg2 at h
        simp only at h
        cases e1 : peekL rb.2 [ra.1.held, rb.1.held] with
        | none => simp only [e1] at h
        | some ds =>
          have k1 := PendL.peek (vs := [ra.1.held, rb.1.held]) (xs := [x, y]) s4.rel ⟨x, [y], rfl, p2.mono s4.same, y, [], rfl, p4, rfl⟩ e1
          rw [e1] at h
          split at h
          · rename_i q
            split at q
            · rename_i i j z
              cases z
              split at q
              · rename_i hr
                cases q
                obtain ⟨u, v, e2, k2, k3⟩ := k1.two
                cases e2
                refine ⟨i, j, k2.int, k3.int, hr, fun p hp => ?_⟩
                have n5 : New (.of X) F4 H3 (F4.upd p (.tup (rgV i j))) (upd H3 p (.tup (rgV i j))) := New.sh s4.rel.sub hp
                exact h _ _ _ (s14.trans (n5.stp s4.rel)) ⟨p, _, rfl, SqT.of upd_same, rgD_den i j⟩
              · cases q
            · cases q
          · rename_i q
            split at q
            · split at q <;> cases q
            · cases q
          · exact h.elim
end
section
variable {P : Val × En → Prop} {E : Str → Str → D → En → Prop} {ρ : En} {a : FA} {vs : List Val}
theorem wp_trg {k : List Val × En → R (Val × En)} (q : (a ρ).wp (fun r => (k r).wp P E) E) : (evTRg k a ρ).wp P E := by unfold evTRg; exact wp_bind q
theorem wp_trg2 {i j : Int} (h1 : peekL ρ vs = some [.int i, .int j]) (h2 : RgOk i j) (q : P (.sh (.tup (rgD i j)), ρ)) : (tupRg2 (vs, ρ)).wp P E := by simp only [tupRg2, h1]; rw [if_pos h2]; exact ⟨q⟩
end
end Tr
/-! Tr, part P: what repr writes, and that texts are texts. -/
namespace Tr
open PySem PySem.Spec PyProof.Rows L2
theorem strOk_ofString (s : String) : PyData.strOk (Str.ofString s) = true := by
  rw [Str.ofString_eq_toList]
  unfold PyData.strOk
  rw [Array.all_eq_true]
  intro i hi
  simp only [List.getElem_toArray, List.getElem_map, decide_eq_true_eq]
  have key : ∀ c : Char, c.toNat < 1114112 := fun c => by
    have h := c.valid
    have e : c.toNat = c.val.toNat := rfl
    rcases h with h | ⟨_, h⟩ <;> omega
  exact key _
theorem strOk_append {a b : Str} (ha : PyData.strOk a = true) (hb : PyData.strOk b = true) : PyData.strOk (a ++ b) = true := by
  unfold PyData.strOk at ha hb ⊢
  show (a.cps ++ b.cps).all _ = true
  rw [Array.all_append, ha, hb]
  rfl
theorem strOk_textFrom : ∀ (ts : List Str) (k : Nat) (acc : Str), PyData.strOk acc = true → (∀ t ∈ ts, PyData.strOk t = true) → PyData.strOk (textFrom k acc ts) = true
  | [], _, _, h, _ => h
  | t :: ts, k, acc, h, ht => by
    unfold textFrom
    exact strOk_textFrom ts _ _ (strOk_append (strOk_append h (strOk_ofString _)) (ht t List.mem_cons_self)) fun u hu => ht u (List.mem_cons_of_mem _ hu)
theorem strOk_listText {ts : List Str} (h : ∀ t ∈ ts, PyData.strOk t = true) : PyData.strOk (listText ts) = true := strOk_append (strOk_textFrom ts 0 _ (strOk_ofString _) h) (strOk_ofString _)
theorem strOk_join : ∀ {ts : List Str}, (∀ t ∈ ts, PyData.strOk t = true) → PyData.strOk (Str.join ", " ts) = true
  | [], _ => by decide +kernel
  | [x], h => h x List.mem_cons_self
  | x :: y :: r, h => by
    show PyData.strOk (x ++ ", " ++ Str.join ", " (y :: r)) = true
    exact strOk_append (strOk_append (h x List.mem_cons_self) (strOk_ofString _)) (strOk_join fun t ht => h t (List.mem_cons_of_mem _ ht))
theorem strOk_tupleText {ts : List Str} (h : ∀ t ∈ ts, PyData.strOk t = true) : PyData.strOk (tupleText ts) = true := strOk_append (strOk_append (strOk_ofString _) (strOk_join h)) (strOk_ofString _)
/-- data that can be written -/
inductive Pn : PyData → Prop
  | none : Pn .none
  | bool (b : Bool) : Pn (.bool b)
  | int {i : Int} (h : i.natAbs < 2 ^ 600) : Pn (.int i)
  | str {x : Str} (h1 : PyData.strOk x = true) (h2 : PyData.strOk (reprText x) = true) : Pn (.str x)
  | list {ps : List PyData} (h : ∀ p ∈ ps, Pn p) : Pn (.list ps)
  | tuple {ps : List PyData} (h : ∀ p ∈ ps, Pn p) : Pn (.tuple ps)
theorem mem_shown {t : Str} : ∀ {ps : List PyData}, t ∈ PyData.shownAll ps → ∃ p ∈ ps, t = p.shown
  | p :: ps, h => by
    simp only [PyData.shownAll] at h
    rcases List.mem_cons.mp h with rfl | h
    · exact ⟨p, List.mem_cons_self, rfl⟩
    · obtain ⟨q, hq, e⟩ := mem_shown h
      exact ⟨q, List.mem_cons_of_mem _ hq, e⟩
theorem Pn.ok {p : PyData} (h : Pn p) : p.showable = true ∧ PyData.strOk p.shown = true ∧ p.canLay0 = true ∧ p.leavesShort 601 = true := by
  induction h with
  | none => exact ⟨rfl, by decide +kernel, rfl, rfl⟩
  | bool b => cases b <;> exact ⟨rfl, by decide +kernel, rfl, rfl⟩
  | @int i h =>
    have hl : i.natAbs.log2 < 600 := by
      by_cases z : i.natAbs = 0
      · rw [z]; decide
      · exact (Nat.log2_lt z).mpr h
    refine ⟨?_, strOk_ofString _, rfl, ?_⟩
    · simp only [PyData.showable, decide_eq_true_eq]; omega
    · simp only [PyData.leavesShort, decide_eq_true_eq]
      have := PySem.int_text_length_le (a := i) (k := 600) (by decide) hl
      show (Str.ofString (toString i)).length ≤ 601
      rw [Str.ofString_eq_toList]
      show ((toString i).toList.map Char.toNat).toArray.size ≤ 601
      rw [List.size_toArray, List.length_map]
      exact this
  | @str x h1 h2 =>
    refine ⟨rfl, h2, h1, ?_⟩
    simp only [PyData.leavesShort]
    rw [List.all_eq_true]
    intro c hc
    unfold PyData.strOk at h1
    rw [← Array.all_toList, List.all_eq_true] at h1
    have := of_decide_eq_true (h1 c hc)
    simp only [decide_eq_true_eq]
    omega
  | @list ps h ih =>
    refine ⟨?_, ?_, ?_, ?_⟩
    · simp only [PyData.showable]
      clear h
      induction ps with
      | nil => rfl
      | cons p ps ihp => simp only [PyData.showableAll, (ih p List.mem_cons_self).1, Bool.true_and]; exact ihp fun q hq => ih q (List.mem_cons_of_mem _ hq)
    · simp only [PyData.shown]
      refine strOk_listText fun t ht => ?_
      obtain ⟨p, hp, rfl⟩ := mem_shown ht
      exact (ih p hp).2.1
    · simp only [PyData.canLay0]
      clear h
      induction ps with
      | nil => rfl
      | cons p ps ihp => simp only [PyData.canLayAll0, (ih p List.mem_cons_self).2.2.1, Bool.true_and]; exact ihp fun q hq => ih q (List.mem_cons_of_mem _ hq)
    · simp only [PyData.leavesShort]
      clear h
      induction ps with
      | nil => rfl
      | cons p ps ihp => simp only [PyData.leavesShortAll, (ih p List.mem_cons_self).2.2.2, Bool.true_and]; exact ihp fun q hq => ih q (List.mem_cons_of_mem _ hq)
  | @tuple ps h ih =>
    refine ⟨?_, ?_, ?_, ?_⟩
    · simp only [PyData.showable]
      clear h
      induction ps with
      | nil => rfl
      | cons p ps ihp => simp only [PyData.showableAll, (ih p List.mem_cons_self).1, Bool.true_and]; exact ihp fun q hq => ih q (List.mem_cons_of_mem _ hq)
    · simp only [PyData.shown]
      refine strOk_tupleText fun t ht => ?_
      obtain ⟨p, hp, rfl⟩ := mem_shown ht
      exact (ih p hp).2.1
    · simp only [PyData.canLay0]
      clear h
      induction ps with
      | nil => rfl
      | cons p ps ihp => simp only [PyData.canLayAll0, (ih p List.mem_cons_self).2.2.1, Bool.true_and]; exact ihp fun q hq => ih q (List.mem_cons_of_mem _ hq)
    · simp only [PyData.leavesShort]
      clear h
      induction ps with
      | nil => rfl
      | cons p ps ihp => simp only [PyData.leavesShortAll, (ih p List.mem_cons_self).2.2.2, Bool.true_and]; exact ihp fun q hq => ih q (List.mem_cons_of_mem _ hq)
/-- what repr writes -/
theorem repr_ok {d : D} {p : PyData} (hp : toPy d = some p) (h : Pn p) (hb : p.bulk ≤ 20000) (hd : p.depth ≤ 60) : reprD [d] = some (.sh (.str p.shown)) ∧ PyData.strOk p.shown = true := by
  obtain ⟨h1, h2, _, h4⟩ := h.ok
  have hl := PyData.shown_le_bulk 601 (by decide) p h4
  have hl2 : p.shown.length ≤ 16777216 := by
    have : (601 + 2) * p.bulk ≤ 603 * 20000 := Nat.mul_le_mul (Nat.le_refl _) hb
    omega
  refine ⟨?_, h2⟩
  have nd : ∀ ks vs, d ≠ .dK ks vs := fun ks vs e => by rw [e] at hp; cases hp
  cases d with
  | dK ks vs => exact absurd rfl (nd ks vs)
  | _ => simp only [reprD, hp, h1, hd, hl2, and_self, if_true]
/-! ### == -/
theorem eqX_py {d e : D} {p q : PyData} (hp : toPy d = some p) (hq : toPy e = some q) (h1 : p.canLay0 = true) (h2 : q.canLay0 = true) (d1 : p.depth ≤ 64) (d2 : q.depth ≤ 64) (hn : p.eqv q = true ∨ ∀ xs ys, d = .lst xs → e = .lst ys → xs.length = ys.length) : eqX d e = some (p.eqv q) := by
  have s1 : SeqAt.shaped p = true := by unfold SeqAt.shaped; rw [h1, decide_eq_true d1]; rfl
  have s2 : SeqAt.shaped q = true := by unfold SeqAt.shaped; rw [h2, decide_eq_true d2]; rfl
  have base : (∀ a b, d = .str a → e = .str b → p.eqv q = decide (a = b)) → eqB d e = some (p.eqv q) := fun hs => by
    unfold eqB
    split
    · rename_i a b
      rw [hs a b rfl rfl]
    · simp only [hp, hq, s1, s2, and_self, if_true]
  have hs : ∀ a b, d = .str a → e = .str b → p.eqv q = decide (a = b) := fun a b ea eb => by
    subst ea eb
    cases hp; cases hq
    show (a == b) = decide (a = b)
    rfl
  have len : ∀ {xs ys : List D} {ps qs : List PyData}, toPys xs = some ps → toPys ys = some qs → PyData.eqvAll ps qs = true → xs.length = ys.length := by
    intro xs
    induction xs with
    | nil =>
      intro ys ps qs a b c
      cases a
      cases ys with
      | nil => rfl
      | cons y ys =>
        simp only [toPys] at b
        split at b
        · cases b; cases c
        · cases b
    | cons x xs ih =>
      intro ys ps qs a b c
      simp only [toPys] at a
      split at a
      · rename_i px pxs e1 e2
        cases a
        cases ys with
        | nil => cases b; cases c
        | cons y ys =>
          simp only [toPys] at b
          split at b
          · rename_i qy qys f1 f2
            cases b
            simp only [PyData.eqvAll, Bool.and_eq_true] at c
            rw [List.length_cons, List.length_cons, ih e2 f2 c.2]
          · cases b
      · cases a
  unfold eqX
  split
  · rename_i xs ys
    have hl : xs.length = ys.length := by
      rcases hn with z | z
      · simp only [toPy, Option.map_eq_some_iff] at hp hq
        obtain ⟨ps, a1, rfl⟩ := hp
        obtain ⟨qs, b1, rfl⟩ := hq
        exact len a1 b1 z
      · exact z xs ys rfl rfl
    rw [if_pos hl]
    exact base hs
  · exact base hs
theorem toPys_ints : ∀ ns : List Int, toPys (ns.map .int) = some (ns.map .int)
  | [] => rfl
  | n :: ns => by simp only [List.map_cons, toPys, toPy, toPys_ints ns]
theorem canLay_ints : ∀ ns : List Int, PyData.canLayAll0 (ns.map .int) = true
  | [] => rfl
  | n :: ns => by simp only [List.map_cons, PyData.canLayAll0, PyData.canLay0, canLay_ints ns, Bool.and_self]
theorem depth_ints : ∀ ns : List Int, PyData.depthAll (ns.map .int) = 0
  | [] => rfl
  | n :: ns => by simp only [List.map_cons, PyData.depthAll, PyData.depth, depth_ints ns]; rfl
theorem eqv_ints : ∀ ns ms : List Int, PyData.eqvAll (ns.map .int) (ms.map .int) = decide (ns = ms)
  | [], [] => rfl
  | [], _ :: _ => rfl
  | _ :: _, [] => rfl
  | n :: ns, m :: ms => by
    simp only [List.map_cons, PyData.eqvAll, PyData.eqv, eqv_ints ns ms]
    by_cases h : n = m
    · subst h; simp
    · simp [h]
theorem eqX_tups (ns ms : List Int) : eqX (.tup (ns.map .int)) (.tup (ms.map .int)) = some (decide (ns = ms)) := by
  have h := eqX_py (d := .tup (ns.map .int)) (e := .tup (ms.map .int)) (p := .tuple (ns.map .int)) (q := .tuple (ms.map .int)) (by simp only [toPy, toPys_ints, Option.map_some]) (by simp only [toPy, toPys_ints, Option.map_some]) (canLay_ints ns) (canLay_ints ms)
    (by simp only [PyData.depth, depth_ints]; decide) (by simp only [PyData.depth, depth_ints]; decide) (.inr fun xs ys a => by cases a)
  rw [h]
  exact congrArg some (eqv_ints ns ms)
theorem eqDX_tups (ns ms : List Int) : eqDX (.tup (ns.map .int)) (.tup (ms.map .int)) = some (vB (decide (ns = ms))) := by unfold eqDX; rw [eqX_tups]; rfl
theorem neDX_tups (ns ms : List Int) : neDX (.tup (ns.map .int)) (.tup (ms.map .int)) = some (vB (!decide (ns = ms))) := by unfold neDX; rw [eqX_tups]; rfl
theorem Pn.ints {ns : List Int} (h : ∀ n ∈ ns, n.natAbs < 2 ^ 600) : ∀ p ∈ ns.map PyData.int, Pn p := fun p hp => by
  obtain ⟨n, hn, rfl⟩ := List.mem_map.mp hp
  exact .int (h n hn)
end Tr
/-! Tr, part Q: repr of data with empty dicts within; a function value called. -/
namespace Tr
open PySem PySem.Spec PyProof.Rows L2
mutual
def toPr : D → Option PyData
  | .non => some .none
  | .bl b => some (.bool b)
  | .int i => some (.int i)
  | .str x => some (.str x)
  | .lst ds => (toPrs ds).map .list
  | .tup ds => (toPrs ds).map .tuple
  | .dK [] [] => some (.dict [])
  | .dK [.inr k] [.int i] => some (.dict [(.str k, .int i)])
  | _ => none
def toPrs : List D → Option (List PyData)
  | [] => some []
  | d :: ds => match toPr d, toPrs ds with
    | some p, some ps => some (p :: ps)
    | _, _ => none
end
section
variable {X : Cx} {W : WX} {pins : List (Addr × Obj)} {σ : Sg} {H : Hp} {s : Shared} {F : Fz}
theorem dict_reads (I : Inv X pins σ H s) {a : Addr} (ha : H a = some (.dK [])) : ∃ as, Reads s.heap (.ref a) (.dict []) as ∧ as = [a] ∧ a ≠ sysModules := by
  obtain ⟨_, hsm, vs, kv, o, es, ep, h1, h2, h3⟩ := (show ObjOk X.prog X.w H s.heap a (.dK []) from I.hok a _ ha)
  obtain ⟨hdt, _, hp, _⟩ := h3
  have ev : vs = [] := by cases kv; rfl
  subst ev
  have ee : es.toList = [] := by
    cases q : es.toList with
    | nil => rfl
    | cons y ys => rw [q] at hp; cases hp
  refine ⟨a :: [] ++ [], Reads.dict (kvs := []) h1 h2.1 hdt (by rw [ee]; exact .nil) (by rw [ee]; exact .nil), rfl, fun z => ?_⟩
  rw [z, beq_self_eq_true] at hsm
  cases hsm
theorem dict_reads1 (I : Inv X pins σ H s) {a : Addr} {k : Str} {i : Int} (ha : H a = some (.dK [(.inr k, .int i)])) : ∃ as, Reads s.heap (.ref a) (.dict [(.str k, .int i)]) as ∧ as = [a] ∧ a ≠ sysModules := by
  obtain ⟨_, hsm, vs, kv, o, es, ep, h1, h2, h3⟩ := (show ObjOk X.prog X.w H s.heap a (.dK [(.inr k, .int i)]) from I.hok a _ ha)
  obtain ⟨hdt, hko, hp, _⟩ := h3
  cases kv with
  | @cons q1 q2 qs1 qs2 hq t =>
    cases t
    obtain ⟨q2a, q2b⟩ := q2
    obtain ⟨hq1, hq2⟩ := hq
    have hq1 : (Sum.inr k : Key) = q2a := hq1
    subst hq1
    obtain ⟨tk, hq2⟩ := hq2
    subst hq2
    cases q : es.toList with
    | nil => rw [q] at hp; cases hp
    | cons y ys =>
      rw [q] at hp
      cases ys with
      | cons z zs =>
        cases hp with
        | cons a1 a2 a3 => cases a3
      | nil =>
        have hk : keyIs (.inr k) y.key = true ∧ y.val = .int i tk := by
          cases hp with
          | cons a1 a2 a3 => exact ⟨a1, a2⟩
        obtain ⟨hk1, hk2⟩ := hk
        rcases keyIs_shape hk1 with ⟨_, _, z, _⟩ | ⟨x, t, z, hk3⟩
        · cases z
        · cases z
          refine ⟨a :: [] ++ [], Reads.dict (kvs := [(.str k, .int i)]) h1 h2.1 hdt (by rw [q]; show ReadsAll _ [y.key] [.str k] []; rw [hk3]; exact .cons (.str _ _) .nil) (by rw [q]; show ReadsAll _ [y.val] [.int i] []; rw [hk2]; exact .cons (.int _ _) .nil), rfl, fun z => ?_⟩
          rw [z, beq_self_eq_true] at hsm
          cases hsm
theorem not_sys (hsy : ∃ mm, X.base.Ns sysModules mm) (I : Inv X pins σ H s) {a : Addr} {o : HO} (h : H a = some o) : a ≠ sysModules := fun z => by
  obtain ⟨mm, ob, es, ep, e, _⟩ := hsy
  have := (I.bs _ _ e).2
  rw [← z, h] at this
  cases this
mutual
theorem toPr_reads (hsy : ∃ mm, X.base.Ns sysModules mm) (I : Inv X pins σ H s) (sm : Same F.hp H) : ∀ (d : D) {p : PyData} {x : V} {u : Value}, toPr d = some p → Den (.of X) F d x → RelV x u → ∃ as, Reads s.heap u p as ∧ sysModules ∉ as
  | .non, _, _, _, e, h, r => by cases e; cases h; cases r; exact ⟨_, .none, by simp⟩
  | .bl b, _, _, _, e, h, r => by cases e; cases h; cases r; exact ⟨_, .bool b, by simp⟩
  | .int i, _, _, _, e, h, r => by cases e; cases h; obtain ⟨t, rfl⟩ := r; exact ⟨_, .int i t, by simp⟩
  | .str i, _, _, _, e, h, r => by cases e; cases h; obtain ⟨t, rfl⟩ := r; exact ⟨_, .str i t, by simp⟩
  | .lst ds, _, _, _, e, ⟨a, xs, h1, h2, h3⟩, r => by
    simp only [toPr, Option.map_eq_some_iff] at e
    obtain ⟨ps, e1, e2⟩ := e
    subst e2 h1
    cases r
    obtain ⟨its, rv, ⟨o, n, ho, hc, _, hd⟩, _⟩ := I.list (SqL.of (sm _ _ h2))
    obtain ⟨as, hr, hn⟩ := toPrs_reads hsy I sm ds e1 h3 rv
    exact ⟨_, Reads.list ho hc hd (by simpa using hr), fun z => by
      rcases List.mem_cons.mp z with z | z
      · exact not_sys hsy I (sm _ _ h2) z.symm
      · exact hn z⟩
  | .tup ds, _, _, _, e, ⟨a, xs, h1, h2, h3⟩, r => by
    simp only [toPr, Option.map_eq_some_iff] at e
    obtain ⟨ps, e1, e2⟩ := e
    subst e2 h1
    cases r
    obtain ⟨its, rv, ⟨o, ho, hc, n, hd⟩, _⟩ := I.tuple (Same.sqT sm h2)
    obtain ⟨as, hr, hn⟩ := toPrs_reads hsy I sm ds e1 h3 rv
    exact ⟨_, Reads.tuple ho hc hd (by simpa using hr), hn⟩
  | .dK ks ds, _, _, _, e, ⟨a, xs, h1, h2, _, h3⟩, r => by
    unfold toPr at e
    split at e <;> first | (rename_i z; cases z; done) | skip
    all_goals first | (cases e; done) | skip
    · rename_i z
      cases z
      cases e
      have h3 : xs = [] := h3
      subst h3 h1
      cases r
      obtain ⟨as, hr, rfl, hn⟩ := dict_reads I (sm _ _ h2)
      exact ⟨_, hr, by simpa using Ne.symm hn⟩
    · rename_i z
      cases z
      cases e
      obtain ⟨y, yr, h4, h5, h6⟩ := h3
      have h6 : yr = [] := h6
      have h5 : y = .int _ := h5
      subst h6 h5 h4 h1
      cases r
      obtain ⟨as, hr, rfl, hn⟩ := dict_reads1 I (sm _ _ h2)
      exact ⟨_, hr, by simpa using Ne.symm hn⟩
  | .dT _ _, _, _, _, e, _, _ => by cases e
  | .ins _ _ _, _, _, _, e, _, _ => by cases e
  | .exn _ _ _, _, _, _, e, _, _ => by cases e
  | .ty _, _, _, _, e, _, _ => by cases e
  | .glo _, _, _, _, e, _, _ => by cases e
  | .scr _, _, _, _, e, _, _ => by cases e
  | .ref _, _, _, _, e, _, _ => by cases e
theorem toPrs_reads (hsy : ∃ mm, X.base.Ns sysModules mm) (I : Inv X pins σ H s) (sm : Same F.hp H) : ∀ (ds : List D) {ps : List PyData} {xs : List V} {us : List Value}, toPrs ds = some ps → DenL (.of X) F ds xs → Vals xs us → ∃ as, ReadsAll s.heap us ps as ∧ sysModules ∉ as
  | [], _, _, _, e, h, r => by cases e; have h : _ = [] := h; subst h; cases r; exact ⟨_, .nil, by simp⟩
  | d :: ds, _, _, _, e, ⟨x, xr, h1, h2, h3⟩, r => by
    simp only [toPrs] at e
    cases e1 : toPr d with
    | none => simp only [e1] at e; cases e
    | some p =>
      cases e2 : toPrs ds with
      | none => simp only [e1, e2] at e; cases e
      | some ps =>
        simp only [e1, e2] at e
        cases e
        subst h1
        cases r with
        | cons r1 r2 =>
          obtain ⟨as, q1, n1⟩ := toPr_reads hsy I sm d e1 h2 r1
          obtain ⟨bs, q2, n2⟩ := toPrs_reads hsy I sm ds e2 h3 r2
          exact ⟨_, ReadsAll.cons q1 q2, by simp [n1, n2]⟩
end
theorem Pk.reads (hsy : ∃ mm, X.base.Ns sysModules mm) (I : Inv X pins σ H s) (sm : Same F.hp H) {d : D} {p : PyData} {x : V} {u : Value} (e : toPr d = some p) (h : Pk (.of X) F H d x) (r : RelV x u) : ∃ as, Reads s.heap u p as ∧ sysModules ∉ as := by
  rcases h with h | ⟨a, rfl, h⟩
  · exact toPr_reads hsy I sm d e h r
  · cases d with
    | lst ds =>
      obtain ⟨xs, h1, h2⟩ := h
      simp only [toPr, Option.map_eq_some_iff] at e
      obtain ⟨ps, e1, e2⟩ := e
      subst e2
      cases r
      obtain ⟨its, rv, ⟨o, n, ho, hc, _, hd⟩, _⟩ := I.list (SqL.of h1)
      obtain ⟨as, hr, hn⟩ := toPrs_reads hsy I sm ds e1 h2 rv
      exact ⟨_, Reads.list ho hc hd (by simpa using hr), fun z => by
        rcases List.mem_cons.mp z with z | z
        · exact not_sys hsy I h1 z.symm
        · exact hn z⟩
    | dK ks ds =>
      obtain ⟨xs, h1, h2, h3⟩ := h
      unfold toPr at e
      split at e <;> first | (rename_i z; cases z; done) | skip
      all_goals first | (cases e; done) | skip
      · rename_i z
        cases z
        cases e
        have h3 : xs = [] := h3
        subst h3
        cases r
        obtain ⟨as, hr, rfl, hn⟩ := dict_reads I h1
        exact ⟨_, hr, by simpa using Ne.symm hn⟩
      · rename_i z
        cases z
        cases e
        obtain ⟨y, yr, h4, h5, h6⟩ := h3
        have h6 : yr = [] := h6
        have h5 : y = .int _ := h5
        subst h6 h5 h4
        cases r
        obtain ⟨as, hr, rfl, hn⟩ := dict_reads1 I h1
        exact ⟨_, hr, by simpa using Ne.symm hn⟩
    | dT _ _ => cases e
    | ins _ _ _ => cases e
    | _ => exact h.elim
/-- repr(x) -/
def rReprR (X : Cx) : List V → Hp → VK → Prop := fun xs H Q => ∃ x d p F, xs = [x] ∧ Same (Fz.hp F) H ∧ Pk (.of X) F H d x ∧ toPr d = some p ∧ p.showable = true ∧ p.depth ≤ 60 ∧ p.shown.length ≤ 16777216 ∧ Q (.str p.shown) H
theorem call_reprR (hgu : X.A.guards = some []) (hu : X.A.units + 64 < cLine) (hsy : ∃ mm, X.base.Ns sysModules mm) : CallR X (.builtin "repr") (rReprR X) := by
  intro pins s σ H xs us Q I r h
  obtain ⟨x, d, p, F, rfl, sm, pk, ep, hs, hd, hl, q⟩ := h
  obtain ⟨u, rfl, ru⟩ := vals1 r
  have hl' : p.shown.length ≤ sizeLine := size_le hl
  obtain ⟨as, rd, nn⟩ := pk.reads hsy I sm ep ru
  cases rd with
  | none => exact PySem.P.repr_of_none ⟨.str _, H, I.tok _, ⟨_, rfl⟩, q⟩
  | bool b => exact PySem.P.repr_of_bool ⟨.str _, H, I.tok _, ⟨_, rfl⟩, q⟩
  | int i t => exact PySem.P.repr_of_int (by simpa [PyData.showable] using hs) ⟨.str _, H, I.tok _, ⟨_, rfl⟩, q⟩
  | str x t => exact PySem.P.repr_of_str ⟨.str _, H, I.tok _, ⟨_, rfl⟩, q⟩ hl'
  | list a b c d => exact repr_of_reads' (Reads.list a b c d) hs (fun _ => nn) hgu (by omega) (fun _ _ e => e) (fun h' t tk k => ⟨.str _, H, I.kept (t' := tk) k, ⟨_, rfl⟩, q⟩) hl'
  | tuple a b c d => exact repr_of_reads' (Reads.tuple a b c d) hs (fun _ => nn) hgu (by omega) (fun _ _ e => e) (fun h' t tk k => ⟨.str _, H, I.kept (t' := tk) k, ⟨_, rfl⟩, q⟩) hl'
  | dict a b c d e => exact repr_of_reads' (Reads.dict a b c d e) hs (fun _ => nn) hgu (by omega) (fun _ _ e => e) (fun h' t tk k => ⟨.str _, H, I.kept (t' := tk) k, ⟨_, rfl⟩, q⟩) hl'
def reprR : List D → Option Val
  | [d] => (match toPr d with
    | some p => if p.showable = true ∧ p.depth ≤ 60 ∧ p.shown.length ≤ 16777216 then some (.sh (.str p.shown)) else none
    | none => none)
  | _ => none
theorem cs_reprR (hgu : X.A.guards = some []) (hu : X.A.units + 64 < cLine) (hsy : ∃ mm, X.base.Ns sysModules mm) : CallS X (.builtin "repr") reprR := by
  refine ⟨_, call_reprR hgu hu hsy, fun F H xs ds z Q s px hg k => ?_⟩
  unfold reprR at hg
  split at hg
  · obtain ⟨x, rfl, p⟩ := px.one
    split at hg
    · rename_i d q e1
      split at hg
      · rename_i hs
        cases hg
        exact ⟨x, _, q, F, rfl, s, p, e1, hs.1, hs.2.1, hs.2.2, plainQ s k rfl⟩
      · cases hg
    · cases hg
  · cases hg
end
/-! ### a function value called -/
section
variable {X : Cx} {W : WX}
/-- tab: what the functions of the module do -/
def evCallV (tab : List (Str × FF)) (ft : FE) (fa : FA) : FE := fun ρ => (ft ρ).bind fun r => match r.1 with
  | .sh (.glo x) => (match tab.lookup x with
    | some run => evCall run [] fa r.2
    | none => .no)
  | _ => .no
theorem se_cv {k : Nat} {tab : List (Str × FF)} {fe e : Expr} {es : List Expr} {ft : FE} {fa : FA} {pos : Pos} (c : ∀ x run, tab.lookup x = some run → Cal X.prog X.w X.K X.mg X.base k x [] run) (hgu : X.A.guards = some []) (hr : Room k X.A) (tk : Takes X W) (hf : SE X W fe ft) (ha : SA X W (e :: es) fa)
    (ht : eval (.Call fe (e :: es) [] pos) X.env = (do callWith pos (← eval fe X.env) [] (backTo pos (starEach (e :: es) X.env)) (backToKw pos (keywordEach [] X.env))) := by rfl)
    (he : starEach (e :: es) X.env = (false, eval e X.env) :: starEach es X.env := by rfl) (hpl : (backTo pos (starEach es X.env)).any (·.1) = false := by rfl) :
    SE X W (.Call fe (e :: es) [] pos) (evCallV tab ft fa) := by
  refine ⟨fun pins s σ H Q I q => ?_⟩
  obtain ⟨ρ, F, rl, h⟩ := q
  unfold evCallV at h
  refine Call_ (thn (hf.run pins s σ H (fun x H1 => ∃ g run f fd ps ds dvs, x = .ref f ∧ FnA X.prog X.w X.K X.mg X.base k f fd ps (spP ⟨X.K, X.mg⟩ run) ∧ X.mg g = some (.ref f) ∧ PySem.W.keepIn X.K (.ref f) = true ∧ Binds X.K fd ps ds ∧ Vals dvs ds ∧ (∀ F, DenL ⟨X.K, X.mg⟩ F [] dvs) ∧ tOf (.of X) W (evCall run [] fa) σ H1 Q) I ?_) fun u s1 hh => ?_) ht
  · refine ⟨ρ, F, rl, ?_⟩
    cases ea : ft ρ with
    | no => rw [ea] at h; exact h
    | ex c n d ρ' => rw [ea] at h; exact h
    | ok ra =>
      rw [ea] at h
      intro x F1 H1 s1 v1
      have h : (match (match ra.1 with
        | .sh (.glo x) => (match tab.lookup x with
          | some run => evCall run [] fa ra.2
          | none => .no)
        | _ => .no : R (Val × En)) with
      | .ok r => ∀ x F' H', Stp (.of X) F H ρ σ F' H' r.2 σ → VRel (.of X) H F' H' r.2 σ r.1 x → Q x H'
      | .ex c n d ρ' => ∀ F' H' cls dx, Stp (.of X) F H ρ σ F' H' ρ' σ → ERel (.of X) F' c n d cls dx → W cls dx σ H'
      | .no => False) := h
      cases e1 : ra.1 with
      | sh d =>
        cases d with
        | glo g =>
          simp only [e1] at h v1
          cases e2 : tab.lookup g with
          | none => simp only [e2] at h
          | some run =>
            simp only [e2] at h
            obtain ⟨f, fd, ps, ds, dvs, h1, h2, h3, h4, h5, h6⟩ := (c g run e2).ex
            obtain ⟨a, z1, z2⟩ := v1
            have z1 : X.mg g = some (.ref a) := z1
            rw [h2] at z1
            cases z1
            refine ⟨g, run, f, fd, ps, ds, dvs, z2, h1, h2, h3, h4, h5, h6, ra.2, F1, s1.rel, ?_⟩
            cases e3 : evCall run [] fa ra.2 with
            | no => rw [e3] at h; exact h
            | ex c n d ρ' => rw [e3] at h; exact fun F' H' cls dx st e => h F' H' cls dx (s1.trans st) e
            | ok r => rw [e3] at h; exact fun y F' H' st v => h y F' H' (s1.trans st) (v.back s1)
        | _ => simp only [e1] at h
      | fr d => simp only [e1] at h
      | rf i => simp only [e1] at h
  · obtain ⟨x, H1, I1, r1, g, run, f, fd, ps, ds, dvs, rfl, G, hm, hk, hb, hd, hd0, q⟩ := hh
    cases (show u = Value.ref f from r1)
    have h := evCall_ok (E := fun cls d H => W cls d σ H) hd0 (fun _ _ _ h => h) (fun _ _ _ h => h) q
    exact PySem.W.callWith_K (h₀ := X.base) I1.ok.mod.kin hk (thn (ha.run pos pins s1 σ H1 _ I1 h) fun us s2 hh => by
      obtain ⟨vs, H2, I2, r, q⟩ := hh
      exact ⟨I2.kIn, run_fnS' G hgu hr hb hd (passAt tk σ) I2 r q⟩) he hpl
end
section
variable {P : Program} {w : World} {K : PySem.W.Frag} {mg : Str → Option Value} {base : Heap}
theorem tab_nil {k : Nat} : ∀ x run, List.lookup x ([] : List (Str × FF)) = some run → Cal P w K mg base k x [] run := fun x run h => by cases h
theorem tab_cons {j k : Nat} {y : Str} {r : FF} {tab : List (Str × FF)} (c : Cal P w K mg base j y [] r) (l : j ≤ k) (t : ∀ x run, tab.lookup x = some run → Cal P w K mg base k x [] run) : ∀ x run, List.lookup x ((y, r) :: tab) = some run → Cal P w K mg base k x [] run := fun x run h => by
  rw [List.lookup_cons] at h
  split at h
  · rename_i e
    cases h
    rw [LawfulBEq.eq_of_beq e]
    exact c.mono l
  · exact t x run h
end
section
variable {P : Val × En → Prop} {E : Str → Str → D → En → Prop} {ρ : En} {f : FE} {a : FA}
/-- what is called -/
def cvK (tab : List (Str × FF)) (fa : FA) (r : Val × En) : R (Val × En) := match r.1 with
  | .sh (.glo x) => (match tab.lookup x with
    | some run => evCall run [] fa r.2
    | none => .no)
  | _ => .no
theorem wp_cv {tab : List (Str × FF)} (k : (f ρ).wp (fun r => (cvK tab a r).wp P E) E) : (evCallV tab f a ρ).wp P E := by unfold evCallV; exact wp_bind k
theorem wp_cvK {tab : List (Str × FF)} {x : Str} {run : FF} (h : tab.lookup x = some run) (k : (evCall run [] a ρ).wp P E) : (cvK tab a (.sh (.glo x), ρ)).wp P E := by simp only [cvK, h]; exact k
end
/-- what repr writes -/
theorem reprR_ok {d : D} {p : PyData} (hp : toPr d = some p) (h1 : p.showable = true) (hl : p.shown.length ≤ 16777216) (hd : p.depth ≤ 60) : reprR [d] = some (.sh (.str p.shown)) := by
  simp only [reprR, hp, h1, hd, hl, and_self, if_true]
end Tr
/-! Tr, part R: what many laws need: data that is written, kinds of values, purses, lists. -/
namespace Tr
open PySem PySem.Spec PyProof.Rows L2
/-! ### data that repr writes -/
mutual
def wrB : D → Bool
  | .non => true
  | .bl _ => true
  | .int i => decide (i.natAbs < 2 ^ 600)
  | .str x => PyData.strOk x
  | .lst ds => wrBs ds
  | .tup ds => wrBs ds
  | .dK [] [] => true
  | .dK [.inr k] [.int i] => PyData.strOk k && decide (i.natAbs < 2 ^ 600)
  | _ => false
def wrBs : List D → Bool
  | [] => true
  | d :: ds => wrB d && wrBs ds
end
mutual
def bk : D → Nat
  | .str x => x.cps.size
  | .lst ds => bks ds
  | .tup ds => bks ds
  | .dK [.inr k] [_] => k.cps.size + 2
  | _ => 0
def bks : List D → Nat
  | [] => 0
  | d :: ds => bk d + 1 + bks ds
end
mutual
def dp : D → Nat
  | .lst ds => dps ds + 1
  | .tup ds => dps ds + 1
  | .dK _ _ => 1
  | _ => 0
def dps : List D → Nat
  | [] => 0
  | d :: ds => max (dp d) (dps ds)
end
mutual
theorem wr_py : ∀ (d : D), wrB d = true → ∃ p, toPr d = some p ∧ p.showable = true ∧ p.leavesShort 601 = true ∧ p.bulk = bk d ∧ p.depth = dp d
  | .non, _ => ⟨_, rfl, rfl, rfl, rfl, rfl⟩
  | .bl _, _ => ⟨_, rfl, rfl, rfl, rfl, rfl⟩
  | .int i, h => by
    have h : i.natAbs < 2 ^ 600 := of_decide_eq_true h
    have q := (Pn.int h).ok
    exact ⟨_, rfl, q.1, q.2.2.2, rfl, rfl⟩
  | .str x, h => by
    have h : PyData.strOk x = true := h
    refine ⟨_, rfl, rfl, ?_, rfl, rfl⟩
    simp only [PyData.leavesShort]
    rw [List.all_eq_true]
    intro c hc
    unfold PyData.strOk at h
    rw [← Array.all_toList, List.all_eq_true] at h
    have := of_decide_eq_true (h c hc)
    simp only [decide_eq_true_eq]
    omega
  | .lst ds, h => by
    obtain ⟨ps, h1, h2, h3, h4, h5⟩ := wr_pys ds h
    exact ⟨.list ps, by simp only [toPr, h1, Option.map_some], h2, h3, h4, by simp only [PyData.depth, dp, h5]⟩
  | .tup ds, h => by
    obtain ⟨ps, h1, h2, h3, h4, h5⟩ := wr_pys ds h
    exact ⟨.tuple ps, by simp only [toPr, h1, Option.map_some], h2, h3, h4, by simp only [PyData.depth, dp, h5]⟩
  | .dK ks ds, h => by
    unfold wrB at h
    split at h <;> first | (rename_i z; cases z; done) | (cases h; done) | skip
    · rename_i z
      cases z
      exact ⟨.dict [], rfl, rfl, rfl, rfl, rfl⟩
    · rename_i k i z
      cases z
      rw [Bool.and_eq_true] at h
      obtain ⟨h, hi⟩ := h
      have hi := of_decide_eq_true hi
      have q := (Pn.int hi).ok
      refine ⟨.dict [(.str k, .int i)], rfl, ?_, ?_, ?_, ?_⟩
      · simp only [PyData.showable, PyData.showableKv, Bool.true_and, Bool.and_true]
        exact q.1
      · simp only [PyData.leavesShort, PyData.leavesShortKv, Bool.and_true, Bool.and_eq_true]
        refine ⟨?_, q.2.2.2⟩
        rw [List.all_eq_true]
        intro c hc
        unfold PyData.strOk at h
        rw [← Array.all_toList, List.all_eq_true] at h
        have := h c hc
        simp only [decide_eq_true_eq] at this ⊢
        omega
      · simp only [PyData.bulk, PyData.bulkKv, bk]; try omega
      · simp only [PyData.depth, PyData.depthKv, dp]; try omega
  | .dT _ _, h => by cases h
  | .ins _ _ _, h => by cases h
  | .exn _ _ _, h => by cases h
  | .ty _, h => by cases h
  | .glo _, h => by cases h
  | .scr _, h => by cases h
  | .ref _, h => by cases h
theorem wr_pys : ∀ (ds : List D), wrBs ds = true → ∃ ps, toPrs ds = some ps ∧ PyData.showableAll ps = true ∧ PyData.leavesShortAll 601 ps = true ∧ PyData.bulkAll ps = bks ds ∧ PyData.depthAll ps = dps ds
  | [], _ => ⟨[], rfl, rfl, rfl, rfl, rfl⟩
  | d :: ds, h => by
    simp only [wrBs, Bool.and_eq_true] at h
    obtain ⟨p, a1, a2, a3, a4, a5⟩ := wr_py d h.1
    obtain ⟨ps, b1, b2, b3, b4, b5⟩ := wr_pys ds h.2
    refine ⟨p :: ps, by simp only [toPrs, a1, b1], ?_, ?_, ?_, ?_⟩
    · simp only [PyData.showableAll, a2, b2, Bool.and_self]
    · simp only [PyData.leavesShortAll, a3, b3, Bool.and_self]
    · simp only [PyData.bulkAll, bks, a4, b4]
    · simp only [PyData.depthAll, dps, a5, b5]
end
/-- a value that repr writes -/
structure Wr (d : D) : Prop where
  ok : wrB d = true
  bk : bk d ≤ 10000
  dp : dp d ≤ 50
theorem Wr.repr {d : D} (h : Wr d) : ∃ s, reprR [d] = some (.sh (.str s)) := by
  obtain ⟨p, h1, h2, h3, h4, h5⟩ := wr_py d h.ok
  have hl := PyData.shown_le_bulk 601 (by decide) p h3
  have q1 := h.bk
  have q2 := h.dp
  have : (601 + 2) * p.bulk ≤ 603 * 10000 := Nat.mul_le_mul (Nat.le_refl _) (by omega)
  exact ⟨_, reprR_ok h1 h2 (by omega) (by omega)⟩
theorem wrBs_mem : ∀ {ds : List D}, wrBs ds = true → ∀ d ∈ ds, wrB d = true
  | _ :: _, h, d, hd => by
    simp only [wrBs, Bool.and_eq_true] at h
    rcases List.mem_cons.mp hd with rfl | z
    · exact h.1
    · exact wrBs_mem h.2 d z
theorem wrBs_of : ∀ {ds : List D}, (∀ d ∈ ds, wrB d = true) → wrBs ds = true
  | [], _ => rfl
  | d :: ds, h => by
    simp only [wrBs, Bool.and_eq_true]
    exact ⟨h d List.mem_cons_self, wrBs_of fun e he => h e (List.mem_cons_of_mem _ he)⟩
theorem bks_len : ∀ (ds : List D), ds.length ≤ bks ds
  | [] => Nat.le_refl _
  | d :: ds => by
    have := bks_len ds
    simp only [bks, List.length_cons]
    omega
theorem wrBs_app : ∀ (xs ys : List D), wrBs (xs ++ ys) = (wrBs xs && wrBs ys)
  | [], ys => rfl
  | x :: xs, ys => by simp only [List.cons_append, wrBs, wrBs_app xs ys, Bool.and_assoc]
theorem bks_app : ∀ (xs ys : List D), bks (xs ++ ys) = bks xs + bks ys
  | [], ys => by simp only [List.nil_append, bks, Nat.zero_add]
  | x :: xs, ys => by simp only [List.cons_append, bks, bks_app xs ys]; omega
theorem dps_app : ∀ (xs ys : List D), dps (xs ++ ys) = max (dps xs) (dps ys)
  | [], ys => by simp only [List.nil_append, dps]; omega
  | x :: xs, ys => by simp only [List.cons_append, dps, dps_app xs ys]; omega
theorem bks_mem : ∀ {ds : List D} {d : D}, d ∈ ds → bk d + 1 ≤ bks ds
  | _ :: _, d, hd => by
    simp only [bks]
    rcases List.mem_cons.mp hd with rfl | z
    · omega
    · have := bks_mem z; omega
theorem dps_mem : ∀ {ds : List D} {d : D}, d ∈ ds → dp d ≤ dps ds
  | _ :: _, d, hd => by
    simp only [dps]
    rcases List.mem_cons.mp hd with rfl | z
    · omega
    · have := dps_mem z; omega
theorem wrB_ty {d : D} (h : wrB d = true) : (tyN d).isSome = true := by
  cases d <;> first | rfl | (cases h; done)
theorem Wr.ty {d : D} (h : Wr d) : (tyN d).isSome = true := wrB_ty h.ok
theorem Wr.tup {ds : List D} (h : Wr (.tup ds)) : ds.length ≤ 10000 ∧ ∀ d ∈ ds, Wr d := by
  have h1 : wrBs ds = true := h.ok
  have h2 : bks ds ≤ 10000 := h.bk
  have h3 : dps ds + 1 ≤ 50 := h.dp
  exact ⟨Nat.le_trans (bks_len ds) h2, fun d hd => ⟨wrBs_mem h1 d hd, by have := bks_mem hd; omega, by have := dps_mem hd; omega⟩⟩
theorem Wr.lst {ds : List D} (h : Wr (.lst ds)) : ds.length ≤ 10000 ∧ ∀ d ∈ ds, Wr d := Wr.tup (ds := ds) ⟨h.ok, h.bk, h.dp⟩
theorem ints_wr : ∀ {ns : List Int}, (∀ n ∈ ns, n.natAbs < 2 ^ 600) → wrBs (ns.map .int) = true
  | [], _ => rfl
  | n :: ns, h => by
    simp only [List.map_cons, wrBs, wrB, Bool.and_eq_true, decide_eq_true_eq]
    exact ⟨h n List.mem_cons_self, ints_wr fun m hm => h m (List.mem_cons_of_mem _ hm)⟩
theorem ints_bk : ∀ (ns : List Int), bks (ns.map .int) = ns.length
  | [] => rfl
  | n :: ns => by simp only [List.map_cons, bks, bk, ints_bk ns, List.length_cons]; omega
theorem ints_dp : ∀ (ns : List Int), dps (ns.map .int) = 0
  | [] => rfl
  | n :: ns => by simp only [List.map_cons, dps, dp, ints_dp ns]; omega
/-! ### kinds of values -/
theorem isi_ty {es : List (Str × Str)} {c : D} {a n : String} {b : Bool} (h : tyN c = some a) (hk : kitB a n = some b) : isiD es [c, .ty n] = some (vB b) := by
  cases c <;> first | (simp only [isiD, h, hk, Option.map_some]; done) | (cases h; done)
theorem look_ty {L : List D} {c : D} (h : (tyN c).isSome = true) : look L c = some c := by
  cases c <;> first | rfl | (cases h; done)
def isWD : D → Bool
  | .int _ => true
  | _ => false
def isTup : D → Bool
  | .tup _ => true
  | _ => false
def isLs : D → Bool
  | .lst _ => true
  | .scr _ => true
  | _ => false
theorem isi_tuple {es : List (Str × Str)} {c : D} (h : (tyN c).isSome = true) : isiD es [c, .ty "tuple"] = some (vB (isTup c)) := by
  cases c <;> first | (exact isi_ty rfl (by kernel_rfl)) | (cases h; done)
theorem isi_list {es : List (Str × Str)} {c : D} (h : (tyN c).isSome = true) : isiD es [c, .ty "list"] = some (vB (isLs c)) := by
  cases c <;> first | (exact isi_ty rfl (by kernel_rfl)) | (cases h; done)
def isIB : D → Bool
  | .int _ => true
  | .bl _ => true
  | _ => false
def isB : D → Bool
  | .bl _ => true
  | _ => false
theorem isi_int {es : List (Str × Str)} {c : D} (h : (tyN c).isSome = true) : isiD es [c, .ty "int"] = some (vB (isIB c)) := by
  cases c <;> first | (exact isi_ty rfl (by kernel_rfl)) | (cases h; done)
theorem isi_bool {es : List (Str × Str)} {c : D} (h : (tyN c).isSome = true) : isiD es [c, .ty "bool"] = some (vB (isB c)) := by
  cases c <;> first | (exact isi_ty rfl (by kernel_rfl)) | (cases h; done)
theorem pk1 {ρ : En} {d c : D} (h : look ρ.l d = some c) : peekL ρ [.sh d] = some [c] := by simp only [peekL, peek, h]
theorem pk1t {ρ : En} {d c : D} {n : String} (h : look ρ.l d = some c) : peekL ρ [.sh d, .sh (.ty n)] = some [c, .ty n] := by simp only [peekL, peek, h]; rfl
theorem pk1g {ρ : En} {d c : D} {n : Str} (h : look ρ.l d = some c) : peekL ρ [.sh d, .sh (.glo n)] = some [c, .glo n] := by simp only [peekL, peek, h]; rfl
/-- a comprehension that picks -/
theorem wp_lcfil {P : List D × En → Prop} {E : Str → Str → D → En → Prop} {ws : List Nat} {p : Pat} {g : FT} {f : FE} {ds : List D} {ρ : En} {q : D → Bool} (hd : ∀ d ∈ ds, ∃ ρ1, bindP p d ρ = some ρ1 ∧ wipeE ρ1 ws = ρ ∧ (g ρ1).wp (fun r => r = (q d, ρ1)) (fun _ _ _ _ => False) ∧ (f ρ1).wp (fun r => r = (.sh d, ρ1)) (fun _ _ _ _ => False))
    (k : P (ds.filter q, ρ)) {m : Nat} : (lcL ws p g f none m ds ρ).wp P E := by
  refine wp_lcI (I := fun n done ρ' => ρ' = ρ ∧ done = (ds.take n).filter q) ⟨rfl, rfl⟩ (fun n d done ρ' e h => ?_) (fun done ρ' h => ?_)
  · obtain ⟨rfl, rfl⟩ := h
    obtain ⟨ρ1, h1, h2, h3, h4⟩ := hd d (List.mem_of_getElem? e)
    have hn : n < ds.length := (List.getElem?_eq_some_iff.mp e).1
    have hg : ds[n] = d := (List.getElem?_eq_some_iff.mp e).2
    refine ⟨ρ1, h1, R.wp_mono h3 (fun r hr => ?_) fun _ _ _ _ z => z⟩
    subst hr
    dsimp only
    refine ite_p (fun hq => ?_) (fun hq => ?_)
    · refine R.wp_mono h4 (fun r hr => ?_) fun _ _ _ _ z => z
      subst hr
      refine wp_lcV rfl h2 ⟨rfl, ?_⟩
      rw [List.take_succ_eq_append_getElem hn, List.filter_append, hg]
      simp [hq]
    · refine ⟨h2, ?_⟩
      rw [List.take_succ_eq_append_getElem hn, List.filter_append, hg]
      simp [hq]
  · obtain ⟨rfl, rfl⟩ := h
    rw [List.take_length]
    exact k
theorem filter_no (q : D → Bool) (ds : List D) : (ds.filter fun d => !q d).isEmpty = ds.all q := by
  induction ds with
  | nil => rfl
  | cons d ds ih =>
    rw [List.filter_cons, List.all_cons]
    cases q d with
    | true => simpa using ih
    | false => rfl
def cellB (c : D) (n : Int) : Bool := match c with
  | .tup ds => decide ((ds.length : Int) = n) && ds.all isWD
  | _ => false
def geB : D → Bool
  | .int i => decide (0 ≤ i)
  | _ => false
def loopB (c : D) (n : Int) : Bool := match c with
  | .tup [a, b] => geB a && cellB b n
  | _ => false
def nestB (c : D) (n : Int) : Bool := match c with
  | .tup [.lst ls, b, a] => (ls.all fun d => loopB d n) && (cellB b n && isWD a)
  | _ => false
/-! ### purses -/
def mixD (s i : Int) : Int := (((s * 1103515245 + 7919 * i * i + i + 1).fmod 2147483647 * (s * 1103515245 + 7919 * i * i + i + 1).fmod 2147483647 + 69621).fmod 2147483629 * 48271).fmod 2147483587
theorem mixD_sz (s i : Int) : 0 ≤ mixD s i ∧ mixD s i < 2147483587 := fmod_lt (by decide)
theorem szI {i : Int} {n : Nat} (h1 : -(2 ^ n : Nat) < i) (h2 : i < (2 ^ n : Nat)) : Sz i n := ⟨by omega⟩
abbrev puD (g0 g1 g2 : Int) : D := .lst [.int g0, .int g1, .int g2]
/-- a purse of numbers -/
structure Pu (B g0 g1 g2 : Int) : Prop where
  a0 : 0 ≤ g1
  a1 : g1 < 2147483647
  b0 : 0 ≤ g2
  b1 : g2 ≤ B
theorem Pu.up {B B' g0 g1 g2 : Int} (h : Pu B g0 g1 g2) (l : B ≤ B') : Pu B' g0 g1 g2 := ⟨h.a0, h.a1, h.b0, by have := h.b1; omega⟩
theorem set_same {L : List D} {k : Nat} {d : D} (h : L[k]? = some d) : L.set k d = L := by
  obtain ⟨hk, e⟩ := List.getElem?_eq_some_iff.mp h
  rw [← e]
  exact List.set_getElem_self hk
theorem sumD_map (ns : List Int) : sumD [.lst (ns.map .int)] = some (vI ns.sum) := by simp only [sumD, allInts_map, Option.map_some]
theorem pow18 : powD (.int 10) (.int 18) = some (vI 1000000000000000000) := by kernel_rfl
theorem pow60 : powD (.int 10) (.int 60) = some (vI 1000000000000000000000000000000000000000000000000000000000000) := by kernel_rfl
theorem pow600 : powD (.int 1000000000000000000000000000000000000000000000000000000000000) (.int 10) = some (vI (1000000000000000000000000000000000000000000000000000000000000 ^ 10)) := by kernel_rfl
theorem pow9 : powD (.int 10) (.int 9) = some (vI 1000000000) := by kernel_rfl
theorem pow12 : powD (.int 10) (.int 12) = some (vI 1000000000000) := by kernel_rfl
theorem pow19 : powD (.int 10) (.int 19) = some (vI 10000000000000000000) := by kernel_rfl
theorem pow30 : powD (.int 10) (.int 30) = some (vI 1000000000000000000000000000000) := by kernel_rfl
theorem pow39 : powD (.int 10) (.int 39) = some (vI 1000000000000000000000000000000000000000) := by kernel_rfl
theorem pow40 : powD (.int 10) (.int 40) = some (vI 10000000000000000000000000000000000000000) := by kernel_rfl
theorem ixD_map {ns : List Int} {i : Int} (h0 : 0 ≤ i) (h1 : i < ns.length) : ∃ n, ns[i.toNat]? = some n ∧ ixD (.lst (ns.map .int)) (.int i) = some (vI n) ∧ ixD (.tup (ns.map .int)) (.int i) = some (vI n) := by
  have h : i.toNat < ns.length := by omega
  refine ⟨ns[i.toNat], List.getElem?_eq_getElem h, ?_, ?_⟩
  all_goals
    simp only [ixD, atI, ixN, List.length_map]
    rw [if_pos h0, if_pos h1]
    simp [List.getElem?_eq_getElem h]
/-- an item of a list or a tuple -/
theorem ixD_at {ds : List D} {i : Int} (h0 : 0 ≤ i) (h1 : i < ds.length) : ∃ d, ds[i.toNat]? = some d ∧ d ∈ ds ∧ ixD (.lst ds) (.int i) = some (.sh d) ∧ ixD (.tup ds) (.int i) = some (.sh d) := by
  have h : i.toNat < ds.length := by omega
  refine ⟨ds[i.toNat], List.getElem?_eq_getElem h, List.getElem_mem h, ?_, ?_⟩
  all_goals
    simp only [ixD, atI, ixN]
    rw [if_pos h0, if_pos h1]
    simp [List.getElem?_eq_getElem h]
/-- the purses of a law -/
def PQ (Q : List D) : Prop := ∀ q ∈ Q, ∃ a b c, q = puD a b c
theorem PQ.lts {Q : List D} (n : Nat) (h : PQ Q) : D.lts n Q = true := by
  induction Q with
  | nil => rfl
  | cons q Q ih =>
    obtain ⟨a, b, c, rfl⟩ := h q List.mem_cons_self
    simp only [D.lts, D.lt, Bool.and_self, Bool.true_and]
    exact ih fun r hr => h r (List.mem_cons_of_mem _ hr)
theorem PQ.set {Q : List D} (k : Nat) {a b c : Int} (h : PQ Q) : PQ (Q.set k (puD a b c)) := fun q hq => by
  rcases List.mem_or_eq_of_mem_set hq with z | z
  · exact h q z
  · exact ⟨a, b, c, z⟩
theorem PQ.push {Q : List D} {a b c : Int} (h : PQ Q) : PQ (Q ++ [puD a b c]) := fun q hq => by
  rcases List.mem_append.mp hq with z | z
  · exact h q z
  · exact ⟨a, b, c, List.mem_singleton.mp z⟩
/-! ### lists -/
theorem at_app {A B : List D} {x : D} {n : Nat} (h : A[n]? = some x) : (A ++ B)[n]? = some x := by
  rw [List.getElem?_append_left (List.getElem?_eq_some_iff.mp h).1]; exact h
theorem at_end {A B : List D} {x : D} : (A ++ x :: B)[A.length]? = some x := by simp
theorem set_end {A : List D} {x y : D} {B : List D} : (A ++ x :: B).set A.length y = A ++ y :: B := by
  rw [List.set_append_right _ _ (Nat.le_refl _)]; simp
theorem addT {xs ys : List D} (h : xs.length + ys.length ≤ 16777216) : addD (.tup xs) (.tup ys) = some (.sh (.tup (xs ++ ys))) := by
  simp only [addD]
  rw [if_pos h]
theorem addLs {xs ys : List D} (h : xs.length + ys.length ≤ 16777216) : addD (.lst xs) (.lst ys) = some (.fr (.lst (xs ++ ys))) := by
  simp only [addD]
  rw [if_pos h]
theorem appLs {xs : List D} {y : D} (h : xs.length < 16777216) : appD (.lst xs) [y] = some (.lst (xs ++ [y]), .non) := by
  simp only [appD]
  rw [if_pos h]
theorem cut_len {xs : List D} (lo hi : Option Int) : (cut xs lo hi).length ≤ xs.length := by
  unfold cut
  rw [List.length_take, List.length_drop]
  omega
theorem cut_mem {xs : List D} {lo hi : Option Int} {d : D} (h : d ∈ cut xs lo hi) : d ∈ xs := by
  unfold cut at h
  exact List.mem_of_mem_drop (List.mem_of_mem_take h)
theorem cut_takeN {α : Type} {xs : List α} {a : Nat} : cut xs none (some (a : Int)) = xs.take a := by
  unfold cut
  rw [HT.sIx_none, HT.sIx_nat, List.drop_zero, Nat.sub_zero, List.take_eq_take_iff]
  omega
theorem cut_dropN {α : Type} {xs : List α} {a : Nat} : cut xs (some (a : Int)) none = xs.drop a := by
  unfold cut
  rw [HT.sIx_none, HT.sIx_nat]
  by_cases h : a ≤ xs.length
  · rw [Nat.min_eq_left h]
    exact List.take_of_length_le (by rw [List.length_drop]; omega)
  · rw [Nat.min_eq_right (by omega), Nat.sub_self, List.take_zero]
    exact (List.drop_eq_nil_of_le (by omega)).symm
/-! ### nests as drawn -/
abbrev lpD (l : Int × List Int) : D := .tup [.int l.1, .tup (l.2.map .int)]
abbrev nsD (ls : List (Int × List Int)) (pl : List Int) (am : Int) : D := .tup [.lst (ls.map lpD), .tup (pl.map .int), .int am]
structure LpOk (m : Nat) (l : Int × List Int) : Prop where
  c0 : 0 ≤ l.1
  cb : l.1.natAbs < 2 ^ 150
  len : l.2.length = m
  bd : ∀ c ∈ l.2, c.natAbs < 2 ^ 150
structure NsOk (m : Nat) (ls : List (Int × List Int)) (pl : List Int) (am : Int) : Prop where
  lo : ∀ l ∈ ls, LpOk m l
  len : pl.length = m
  bd : ∀ c ∈ pl, c.natAbs < 2 ^ 250
  am : am.natAbs < 2 ^ 150
theorem up150 {n : Nat} (h : n < 2 ^ 150) : n < 2 ^ 600 := Nat.lt_of_lt_of_le h (Nat.pow_le_pow_right (by decide) (by decide))
/-- a value that is written, with its size -/
structure Pc (d : D) (b p : Nat) : Prop where
  ok : wrB d = true
  bk : bk d ≤ b
  dp : dp d ≤ p
structure Pcs (ds : List D) (b p : Nat) : Prop where
  ok : wrBs ds = true
  bk : bks ds ≤ b
  dp : dps ds ≤ p
theorem Pc.wr {d : D} {b p : Nat} (h : Pc d b p) (hb : b ≤ 10000) (hp : p ≤ 50) : Wr d := ⟨h.ok, Nat.le_trans h.bk hb, Nat.le_trans h.dp hp⟩
theorem Pc.up {d : D} {b p b' p' : Nat} (h : Pc d b p) (hb : b ≤ b') (hp : p ≤ p') : Pc d b' p' := ⟨h.ok, Nat.le_trans h.bk hb, Nat.le_trans h.dp hp⟩
theorem Pcs.up {d : List D} {b p b' p' : Nat} (h : Pcs d b p) (hb : b ≤ b') (hp : p ≤ p') : Pcs d b' p' := ⟨h.ok, Nat.le_trans h.bk hb, Nat.le_trans h.dp hp⟩
theorem Pcs.nil : Pcs [] 0 0 := ⟨rfl, Nat.le_refl _, Nat.le_refl _⟩
theorem Pcs.cons {d : D} {ds : List D} {b p c q : Nat} (h : Pc d b p) (t : Pcs ds c q) : Pcs (d :: ds) (b + 1 + c) (max p q) := ⟨by simp only [wrBs, h.ok, t.ok, Bool.and_self], by
  have := h.bk; have := t.bk; simp only [bks]; omega, by have := h.dp; have := t.dp; simp only [dps]; omega⟩
theorem Pcs.app {ds es : List D} {b p c q : Nat} (h : Pcs ds b p) (t : Pcs es c q) : Pcs (ds ++ es) (b + c) (max p q) := ⟨by rw [wrBs_app, h.ok, t.ok]; rfl, by
  have := h.bk; have := t.bk; rw [bks_app]; omega, by have := h.dp; have := t.dp; rw [dps_app]; omega⟩
theorem Pcs.tup {ds : List D} {b p : Nat} (h : Pcs ds b p) : Pc (.tup ds) b (p + 1) := ⟨h.ok, h.bk, by have := h.dp; simp only [Tr.dp]; omega⟩
theorem Pcs.lst {ds : List D} {b p : Nat} (h : Pcs ds b p) : Pc (.lst ds) b (p + 1) := ⟨h.ok, h.bk, by have := h.dp; simp only [Tr.dp]; omega⟩
theorem Pcs.get {ds : List D} {b p : Nat} {d : D} (h : Pcs ds b p) (hd : d ∈ ds) : Pc d b p := ⟨wrBs_mem h.ok d hd, by have := h.bk; have := bks_mem hd; omega, by have := h.dp; have := dps_mem hd; omega⟩
theorem Pcs.len {ds : List D} {b p : Nat} (h : Pcs ds b p) : ds.length ≤ b := Nat.le_trans (bks_len ds) h.bk
theorem bks_take (n : Nat) (ds : List D) : bks (ds.take n) ≤ bks ds := by
  have := bks_app (ds.take n) (ds.drop n)
  rw [List.take_append_drop] at this
  omega
theorem bks_drop (n : Nat) (ds : List D) : bks (ds.drop n) ≤ bks ds := by
  have := bks_app (ds.take n) (ds.drop n)
  rw [List.take_append_drop] at this
  omega
theorem dps_le {ds : List D} {n : Nat} (h : ∀ d ∈ ds, dp d ≤ n) : dps ds ≤ n := by
  induction ds with
  | nil => exact Nat.zero_le _
  | cons d ds ih =>
    have h1 := h d List.mem_cons_self
    have h2 := ih fun e he => h e (List.mem_cons_of_mem _ he)
    simp only [dps]
    omega
theorem Pcs.cut {ds : List D} {b p : Nat} (h : Pcs ds b p) (lo hi : Option Int) : Pcs (cut ds lo hi) b p := ⟨wrBs_of fun d hd => wrBs_mem h.ok d (cut_mem hd), by
  unfold Tr.cut
  exact Nat.le_trans (bks_take _ _) (Nat.le_trans (bks_drop _ _) h.bk), dps_le fun d hd => Nat.le_trans (dps_mem (cut_mem hd)) h.dp⟩
theorem Pc.int {i : Int} (h : i.natAbs < 2 ^ 150) : Pc (.int i) 0 0 := ⟨decide_eq_true (up150 h), Nat.le_refl _, Nat.le_refl _⟩
theorem Pcs.ints {ns : List Int} (h : ∀ n ∈ ns, n.natAbs < 2 ^ 150) : Pcs (ns.map .int) ns.length 0 := ⟨ints_wr fun n hn => up150 (h n hn), Nat.le_of_eq (ints_bk ns), Nat.le_of_eq (ints_dp ns)⟩
theorem up250 {n : Nat} (h : n < 2 ^ 250) : n < 2 ^ 600 := Nat.lt_of_lt_of_le h (Nat.pow_le_pow_right (by decide) (by decide))
theorem Pcs.ints2 {ns : List Int} (h : ∀ n ∈ ns, n.natAbs < 2 ^ 250) : Pcs (ns.map .int) ns.length 0 := ⟨ints_wr fun n hn => up250 (h n hn), Nat.le_of_eq (ints_bk ns), Nat.le_of_eq (ints_dp ns)⟩
theorem LpOk.pc {m : Nat} {l : Int × List Int} (h : LpOk m l) : Pc (lpD l) (m + 2) 2 := ((Pcs.cons (Pc.int h.cb) (.cons ((Pcs.ints h.bd).tup) .nil)).tup).up (by rw [h.len]; omega) (by omega)
theorem loops_pc {m : Nat} : ∀ {ls : List (Int × List Int)}, (∀ l ∈ ls, LpOk m l) → Pcs (ls.map lpD) (ls.length * (m + 3)) 2
  | [], _ => Pcs.nil.up (Nat.zero_le _) (Nat.zero_le _)
  | l :: ls, h => by
    have h1 := (h l List.mem_cons_self).pc
    have h2 := loops_pc (ls := ls) fun e he => h e (List.mem_cons_of_mem _ he)
    exact (Pcs.cons h1 h2).up (by rw [List.length_cons, Nat.succ_mul]; omega) (by omega)
theorem NsOk.pc {m : Nat} {ls : List (Int × List Int)} {pl : List Int} {am : Int} (h : NsOk m ls pl am) : Pc (nsD ls pl am) (ls.length * (m + 3) + m + 3) 4 :=
  ((Pcs.cons (loops_pc h.lo).lst (.cons (Pcs.ints2 h.bd).tup (.cons (Pc.int h.am) .nil))).tup).up (by rw [h.len]; omega) (by omega)
theorem cell_ints {ns : List Int} {m : Nat} (h : ns.length = m) : cellB (.tup (ns.map .int)) m = true := by
  simp only [cellB, List.length_map, h, decide_true, Bool.true_and]
  rw [List.all_eq_true]
  intro d hd
  obtain ⟨n, _, rfl⟩ := List.mem_map.mp hd
  rfl
theorem LpOk.lp {m : Nat} {l : Int × List Int} (h : LpOk m l) : loopB (lpD l) m = true := by
  simp only [loopB, geB, decide_eq_true h.c0, Bool.true_and]
  exact cell_ints h.len
theorem NsOk.ns {m : Nat} {ls : List (Int × List Int)} {pl : List Int} {am : Int} (h : NsOk m ls pl am) : nestB (nsD ls pl am) m = true := by
  simp only [nestB, cell_ints h.len, isWD, Bool.and_true]
  rw [List.all_eq_true]
  intro d hd
  obtain ⟨l, hl, rfl⟩ := List.mem_map.mp hd
  exact (h.lo l hl).lp
theorem ne_bl (a b : Bool) : neDX (.bl a) (.bl b) = some (vB (!(a == b))) := by cases a <;> cases b <;> rfl
theorem ne_self (s : Str) : neDX (.str s) (.str s) = some (vB false) := by rw [neDX_s]; simp
theorem eq_self (s : Str) : eqDX (.str s) (.str s) = some (vB true) := by rw [eqDX_s]; simp
end Tr
/-! Tr, part Z: zip(x, y) and zip(x, y, strict=True), lists or tuples. -/
namespace Tr
open PySem PySem.Spec PyProof.Rows L2
def SIt (t : Bool) (h : Heap) (i l : Addr) (k : Nat) : Prop := if t = true then h.IsTupleIter i l k else h.IsListIter i l k
def SSq (t : Bool) (h : Heap) (l : Addr) (xs : Array Value) : Prop := if t = true then h.IsTuple l xs else h.IsList l xs
section
variable {t : Bool} {h h' : Heap} {a b l : Addr} {k : Nat} {xs : Array Value}
theorem SIt.eb (x : SIt t h a l k) (hs : Heap.ExtBut b h h') (n : a ≠ b) : SIt t h' a l k := by
  cases t
  · exact Heap.IsListIter.extBut x hs n
  · exact Heap.IsTupleIter.extBut x hs n
theorem SIt.up (x : SIt t h a l k) (e : ∀ o, h.get? a = some o → h'.get? a = some o) : SIt t h' a l k := by
  cases t
  · exact Heap.IsListIter.at x e
  · exact Heap.IsTupleIter.at x e
theorem SSq.eb (x : SSq t h a xs) (hs : Heap.ExtBut b h h') (n : a ≠ b) : SSq t h' a xs := by
  cases t
  · exact Heap.IsList.extBut x hs n
  · exact Heap.IsTuple.extBut x hs n
theorem SIt.obj (x : SIt t h a l k) : ∃ o vs, h.get? a = some o ∧ o.data = .fields vs := by
  cases t
  · obtain ⟨o, h1, _, h2⟩ := x; exact ⟨o, _, h1, h2⟩
  · obtain ⟨o, h1, _, h2⟩ := x; exact ⟨o, _, h1, h2⟩
theorem SSq.obj (x : SSq t h a xs) : ∃ o, h.get? a = some o := by
  cases t
  · obtain ⟨o, h1, _⟩ := x; exact ⟨o, h1⟩
  · obtain ⟨o, h1, _⟩ := x; exact ⟨o, h1⟩
end
section
variable {prog : Program} {w : World} {A : Around} {E : Value → Shared → Prop} {s : Shared} {t : Bool} {it l : Addr} {i : Nat} {xs : Array Value} {x : Value}
open Builtin.SmallTypes in
theorem nx_item {Q : Value → Shared → Prop} (hit : SIt t s.heap it l i) (hl : SSq t s.heap l xs) (hx : xs[i]? = some x) (hQ : ∀ h', SIt t h' it l (i + 1) → Heap.SameBut it s.heap h' → Q x { s with heap := h' }) : wpAny (model prog w) A (nextOf (.ref it)) Q E s := by
  cases t
  · exact wpAny_nextOf_list_item hit hl hx hQ
  · exact RZ.nextOf_tuple_item hit hl hx hQ
open Builtin.SmallTypes in
theorem nx_end {Q : Value → Shared → Prop} (hh : A.handled = none) (hit : SIt t s.heap it l i) (hl : SSq t s.heap l xs) (hx : xs[i]? = none) (hE : ∀ h' e, Heap.ExtBut it s.heap h' → (∃ o, h'.get? e = some o ∧ o.cls = .type "StopIteration") → E (.ref e) { s with heap := h' }) : wpAny (model prog w) A (nextOf (.ref it)) Q E s := by
  cases t
  · exact wpAny_nextOf_list_end hh hit hl hx hE
  · exact RZ.nextOf_tuple_end hh hit hl hx hE
open Builtin.SmallTypes in
theorem ne_item {Q : Option Value → Shared → Prop} (hit : SIt t s.heap it l i) (hl : SSq t s.heap l xs) (hx : xs[i]? = some x) (hQ : ∀ h', SIt t h' it l (i + 1) → Heap.SameBut it s.heap h' → Q (some x) { s with heap := h' }) : wpAny (model prog w) A (nextOrEnd (.ref it)) Q E s := by
  unfold nextOrEnd
  exact wpAny_bind (wpAny_attempt (nx_item hit hl hx fun h' u v => wpAny_pure (hQ h' u v)))
open Builtin.SmallTypes in
theorem ne_end {Q : Option Value → Shared → Prop} (hh : A.handled = none) (hit : SIt t s.heap it l i) (hl : SSq t s.heap l xs) (hx : xs[i]? = none) (hQ : ∀ h', Heap.ExtBut it s.heap h' → Q none { s with heap := h' }) : wpAny (model prog w) A (nextOrEnd (.ref it)) Q E s := by
  unfold nextOrEnd
  refine wpAny_bind (wpAny_attempt (nx_end hh hit hl hx fun h' e u v => ?_))
  obtain ⟨o, v1, v2⟩ := v
  exact wpAny_bind (wpAny_isInstance (T := "StopIteration") (b := true) ⟨o, v1, v2⟩ isSubtype_stop (wpAny_pure (hQ h' u)))
open Builtin.SmallTypes in
theorem stop_all {α : Type} {Q : α → Shared → Prop} (hh : A.handled = none) (hE : ∀ h' e, (∀ c o, s.heap.get? c = some o → h'.get? c = some o) → (∃ o, h'.get? e = some o ∧ o.cls = .type "StopIteration") → E (.ref e) { s with heap := h' }) : wpAny (model prog w) A (stopIteration : Sem α) Q E s := by
  unfold stopIteration
  refine wpAny_bind ?_
  simp only [newExc, newTuple]
  refine wpAny_bind (wpAny_newObj_type ?_ (by size_fits)); refine wpAny_bind (m := firstArgMember _ _) (wpAny_of_eq (a := Value.none) (by first | rfl | (simp only [firstArgMember]; rfl)) ?_); refine wpAny_newObj_type ?_ (by size_fits)
  simp only [raiseNew]
  refine wpAny_bind (wpAny_handled ?_)
  rw [hh]
  refine wpAny_bind (wpAny_pure (wpAny_throw (hE _ _ ?_ ⟨_, Heap.get?_push_size _ rfl, rfl⟩)))
  exact fun c o e => Heap.get?_push_of_some _ (Heap.get?_push_of_some _ e)
end
/-- the zip object -/
abbrev IsZp (h : Heap) (b : Bool) (z TI TO : Addr) (f0 : Value) : Prop := h.get? z = some { cls := .type "zip", dict := none, data := .fields #[f0, .bool false, .bool b, .ref TI, .ref TO], slots := #[] }
section
variable {prog : Program} {w : World} {A : Around} {E : Value → Shared → Prop} {s : Shared} {z TI TO i1 i2 l1 l2 : Addr} {k1 k2 : Nat} {xs ys : Array Value} {x y a b : Value} {st t1 t2 : Bool}
/-- what is drawn of one -/
theorem dr_item {t : Bool} {it l : Addr} {i : Nat} {Q : Option Value → Shared → Prop} (hit : SIt t s.heap it l i) (hl : SSq t s.heap l xs) (hx : xs[i]? = some x) (hQ : ∀ h', SIt t h' it l (i + 1) → Heap.SameBut it s.heap h' → Q (some x) { s with heap := h' }) :
    wpAny (model prog w) A (if st = true then Builtin.SmallTypes.nextOrEnd (.ref it) else (Builtin.SmallTypes.nextOf (.ref it) >>= fun v => pure (some v))) Q E s := by
  cases st
  · exact wpAny_bind (nx_item hit hl hx fun h' u v => wpAny_pure (hQ h' u v))
  · exact ne_item hit hl hx hQ
theorem zp_item {Q : Value → Shared → Prop} (D : ZipApart z TI TO i1 i2 l1 l2) (hz : IsZp s.heap st z TI TO .none) (hTI : IsPair s.heap TI (.ref i1) (.ref i2)) (hTO : IsPair s.heap TO a b) (h1 : SIt t1 s.heap i1 l1 k1) (h2 : SIt t2 s.heap i2 l2 k2) (hl1 : SSq t1 s.heap l1 xs) (hl2 : SSq t2 s.heap l2 ys) (hx : xs[k1]? = some x) (hy : ys[k2]? = some y)
    (hQ : ∀ h', IsZp h' st z TI TO (rawInt s.heap.objs.size) → IsPair h' TO x y → SIt t1 h' i1 l1 (k1 + 1) → SIt t2 h' i2 l2 (k2 + 1) → IsPair h' s.heap.objs.size x y → h'.objs.size = s.heap.objs.size + 1 → (∀ c o, c ≠ z → c ≠ TO → c ≠ i1 → c ≠ i2 → s.heap.get? c = some o → h'.get? c = some o) → Q (.ref s.heap.objs.size) { s with heap := h' }) :
    wpAny (model prog w) A (Builtin.«zip.__next__» ⟨[.ref z], []⟩) (fun fin s' => ∃ v, fin = .done (.ret v) ∧ Q v s') E s := by
  have es : (Value.bool st == Value.bool true) = st := by cases st <;> rfl
  show wpAny _ _ (field (.ref z) 2 >>= _) _ _ _; refine wpAny_bind (wpAny_field hz rfl (x := .bool st) rfl ?_); show wpAny _ _ (field (.ref z) 3 >>= _) _ _ _; refine wpAny_bind (wpAny_field hz rfl (x := .ref TI) rfl ?_); refine wpAny_bind (wpAny_seqItems hTI rfl ?_)
  show wpAny _ _ (Builtin.SmallTypes.ownedTupleIsFree (.ref z) >>= _) _ _ _; refine wpAny_bind ?_; unfold Builtin.SmallTypes.ownedTupleIsFree; refine wpAny_bind (wpAny_field hz rfl (x := .none) rfl (wpAny_pure ?_))
  simp only [if_true, es]
  refine wpAny_bind (wpAny_rule ?_); refine wpAny_bind (wpAny_field hz rfl (x := .ref TO) rfl ?_); refine wpAny_bind (wpAny_setField_rec hz (by simp) fun H1 z1 b1 => ?_)
  replace z1 : IsZp H1 st z TI TO .ellipsis := z1
  refine wpAny_bind ?_; simp only [List.zipIdx_cons, List.zipIdx_nil, List.forIn_cons, List.forIn_nil]
  refine wpAny_bind (wpAny_bind (wpAny_onRaise ?_))
  show wpAny _ _ (if st = true then _ else _) _ _ _
  refine dr_item (h1.eb b1.extBut D.i1z) (hl1.eb b1.extBut D.l1z) hx fun H2 j1 b2 => ?_
  have o2 : IsPair H2 TO a b := b2.extBut _ _ D.TOi1 (b1.extBut _ _ D.TOz hTO)
  refine wpAny_bind (wpAny_seqItems o2 rfl ?_); refine wpAny_bind (wpAny_updateSeq_pair o2 fun H3 o3 b3 => ?_)
  replace o3 : IsPair H3 TO x b := o3
  refine wpAny_bind (wpAny_letGo (wpAny_pure ?_)); refine wpAny_bind (wpAny_bind (wpAny_onRaise ?_))
  show wpAny _ _ (if st = true then _ else _) _ _ _
  refine dr_item (((h2.eb b1.extBut D.i2z).eb b2.extBut D.i12.symm).eb b3.extBut D.TOi2.symm) (((hl2.eb b1.extBut D.l2z).eb b2.extBut D.l2i1).eb b3.extBut D.l2TO) hy fun H4 j2 b4 => ?_
  have o4 : IsPair H4 TO x b := b4.extBut _ _ D.TOi2 o3
  refine wpAny_bind (wpAny_seqItems o4 rfl ?_); refine wpAny_bind (wpAny_updateSeq_pair o4 fun H5 o5 b5 => ?_)
  replace o5 : IsPair H5 TO x y := o5
  refine wpAny_bind (wpAny_letGo (wpAny_pure (wpAny_pure ?_))); refine wpAny_bind (wpAny_seqItems o5 rfl ?_); refine wpAny_bind (wpAny_newTuple ?_)
  have sz : H5.objs.size = s.heap.objs.size := by rw [b5.1, b4.1, b3.1, b2.1, b1.1]
  have z5 : IsZp H5 st z TI TO .ellipsis := b5.extBut _ _ D.TOz.symm (b4.extBut _ _ D.i2z.symm (b3.extBut _ _ D.TOz.symm (b2.extBut _ _ D.i1z.symm z1)))
  have kp : ∀ c o, c ≠ z → c ≠ TO → c ≠ i1 → c ≠ i2 → s.heap.get? c = some o → H5.get? c = some o := fun c o q1 q2 q3 q4 e => b5.extBut _ _ q2 (b4.extBut _ _ q4 (b3.extBut _ _ q2 (b2.extBut _ _ q3 (b1.extBut _ _ q1 e))))
  have m1 : SIt t1 H5 i1 l1 (k1 + 1) := ((j1.eb b3.extBut D.TOi1.symm).eb b4.extBut D.i12).eb b5.extBut D.TOi1.symm
  have m2 : SIt t2 H5 i2 l2 (k2 + 1) := j2.eb b5.extBut D.TOi2.symm
  have zl : z < H5.objs.size := Heap.lt_size z5
  show wpAny _ _ (Builtin.SmallTypes.ownedTupleHandOut (.ref z) (.ref H5.objs.size) >>= _) _ _ _
  refine wpAny_bind ?_; unfold Builtin.SmallTypes.ownedTupleHandOut
  have z6 : IsZp (H5.push { cls := .type "tuple", data := .seq #[x, y] }) st z TI TO .ellipsis := Heap.get?_push_of_some _ z5
  refine wpAny_bind (wpAny_setField_rec z6 (by simp) fun H7 z7 b7 => ?_)
  replace z7 : IsZp H7 st z TI TO (rawInt H5.objs.size) := z7
  refine wpAny_setField_rec z7 (by simp) fun H8 z8 b8 => ?_
  replace z8 : IsZp H8 st z TI TO (rawInt H5.objs.size) := z8
  have up : ∀ c o, c ≠ z → H5.get? c = some o → H8.get? c = some o := fun c o q e => b8.extBut _ _ q (b7.extBut _ _ q (Heap.get?_push_of_some _ e))
  have n8 : IsPair H8 H5.objs.size x y := b8.extBut _ _ (Nat.ne_of_gt zl) (b7.extBut _ _ (Nat.ne_of_gt zl) (Heap.get?_push_size _ rfl))
  have s8 : H8.objs.size = H5.objs.size + 1 := by rw [b8.1, b7.1, Heap.size_push]
  rw [sz] at z8 n8 s8
  refine wpAny_pure ⟨_, rfl, ?_⟩
  show Q (.ref H5.objs.size) _
  rw [sz]
  exact hQ H8 z8 (up _ _ D.TOz o5) (m1.up fun o e => up _ o D.i1z e) (m2.up fun o e => up _ o D.i2z e) n8 s8 fun c o q1 q2 q3 q4 e => up c o q1 (kp c o q1 q2 q3 q4 e)
/-- both at their end -/
theorem zp_end {Q : Fin → Shared → Prop} (hh : A.handled = none) (D : ZipApart z TI TO i1 i2 l1 l2) (hz : IsZp s.heap st z TI TO .none) (hTI : IsPair s.heap TI (.ref i1) (.ref i2)) (h1 : SIt t1 s.heap i1 l1 k1) (h2 : SIt t2 s.heap i2 l2 k2) (hl1 : SSq t1 s.heap l1 xs) (hl2 : SSq t2 s.heap l2 ys) (hx : xs[k1]? = none) (hy : ys[k2]? = none)
    (hE : ∀ h' e, (∀ c o, c ≠ z → c ≠ i1 → c ≠ i2 → s.heap.get? c = some o → h'.get? c = some o) → (∃ o, h'.get? e = some o ∧ o.cls = .type "StopIteration") → E (.ref e) { s with heap := h' }) :
    wpAny (model prog w) A (Builtin.«zip.__next__» ⟨[.ref z], []⟩) Q E s := by
  have es : (Value.bool st == Value.bool true) = st := by cases st <;> rfl
  show wpAny _ _ (field (.ref z) 2 >>= _) _ _ _; refine wpAny_bind (wpAny_field hz rfl (x := .bool st) rfl ?_); show wpAny _ _ (field (.ref z) 3 >>= _) _ _ _; refine wpAny_bind (wpAny_field hz rfl (x := .ref TI) rfl ?_); refine wpAny_bind (wpAny_seqItems hTI rfl ?_)
  show wpAny _ _ (Builtin.SmallTypes.ownedTupleIsFree (.ref z) >>= _) _ _ _; refine wpAny_bind ?_; unfold Builtin.SmallTypes.ownedTupleIsFree; refine wpAny_bind (wpAny_field hz rfl (x := .none) rfl (wpAny_pure ?_))
  simp only [if_true, es]
  refine wpAny_bind (wpAny_rule ?_); refine wpAny_bind (wpAny_field hz rfl (x := .ref TO) rfl ?_); refine wpAny_bind (wpAny_setField_rec hz (by simp) fun H1 z1 b1 => ?_)
  replace z1 : IsZp H1 st z TI TO .ellipsis := z1
  refine wpAny_bind ?_; simp only [List.zipIdx_cons, List.zipIdx_nil, List.forIn_cons, List.forIn_nil]
  refine wpAny_bind (wpAny_bind (wpAny_onRaise ?_))
  have g1 := h1.eb b1.extBut D.i1z
  have g2 := hl1.eb b1.extBut D.l1z
  cases st with
  | false =>
    show wpAny _ _ (Builtin.SmallTypes.nextOf (.ref i1) >>= _) _ _ _
    refine wpAny_bind (nx_end hh g1 g2 hx fun H2 e b2 he => ?_)
    obtain ⟨o, e1, e2⟩ := he
    have z2 : IsZp H2 false z TI TO .ellipsis := b2 _ _ D.i1z.symm z1
    have ez : e ≠ z := fun q => by subst q; rw [z2] at e1; cases e1; simp at e2
    refine wpAny_setField_rec z2 (by simp) fun H3 _ b3 => hE H3 e (fun c o q1 q2 _ u => b3.extBut _ _ q1 (b2 _ _ q2 (b1.extBut _ _ q1 u))) ⟨o, b3.extBut _ _ ez e1, e2⟩
  | true =>
    show wpAny _ _ (Builtin.SmallTypes.nextOrEnd (.ref i1)) _ _ _
    refine ne_end hh g1 g2 hx fun H2 b2 => ?_
    have z2 : IsZp H2 true z TI TO .ellipsis := b2 _ _ D.i1z.symm z1
    refine wpAny_bind (wpAny_setField_rec z2 (by simp) fun H3 z3 b3 => ?_)
    have g3 := ((h2.eb b1.extBut D.i2z).eb b2 D.i12.symm).eb b3.extBut D.i2z
    have g4 := ((hl2.eb b1.extBut D.l2z).eb b2 D.l2i1).eb b3.extBut D.l2z
    refine wpAny_bind ?_
    show wpAny _ _ (forIn ((([Value.ref i1, Value.ref i2] : List Value).drop 1).zipIdx 1) _ _ >>= _) _ _ _
    refine wpAny_bind ?_
    simp only [List.drop_succ_cons, List.drop_zero, List.zipIdx_cons, List.zipIdx_nil, List.forIn_cons, List.forIn_nil]
    refine wpAny_bind (wpAny_bind (ne_end hh g3 g4 hy fun H4 b4 => ?_))
    simp only [Option.isSome_none, Bool.false_eq_true, if_false]
    refine wpAny_pure (wpAny_pure ?_)
    refine wpAny_bind (wpAny_rule ?_)
    exact stop_all hh fun H5 e kp he => hE H5 e (fun c o q1 q2 q3 u => kp _ _ (b4 _ _ q3 (b3.extBut _ _ q1 (b2 _ _ q2 (b1.extBut _ _ q1 u))))) he
end
section
variable {prog : Program} {w : World} {A : Around} {E : Value → Shared → Prop} {s : Shared} {z TI TO i1 i2 l1 l2 : Addr} {k1 k2 : Nat} {xs ys : Array Value} {x y a b : Value} {st t1 t2 : Bool}
theorem zp_nextI {Q : Option Value → Shared → Prop} (D : ZipApart z TI TO i1 i2 l1 l2) (hz : IsZp s.heap st z TI TO .none) (hTI : IsPair s.heap TI (.ref i1) (.ref i2)) (hTO : IsPair s.heap TO a b) (h1 : SIt t1 s.heap i1 l1 k1) (h2 : SIt t2 s.heap i2 l2 k2) (hl1 : SSq t1 s.heap l1 xs) (hl2 : SSq t2 s.heap l2 ys) (hx : xs[k1]? = some x) (hy : ys[k2]? = some y)
    (hQ : ∀ h', IsZp h' st z TI TO (rawInt s.heap.objs.size) → IsPair h' TO x y → SIt t1 h' i1 l1 (k1 + 1) → SIt t2 h' i2 l2 (k2 + 1) → IsPair h' s.heap.objs.size x y → h'.objs.size = s.heap.objs.size + 1 → (∀ c o, c ≠ z → c ≠ TO → c ≠ i1 → c ≠ i2 → s.heap.get? c = some o → h'.get? c = some o) → Q (some (.ref s.heap.objs.size)) { s with heap := h' }) :
    wpAny (model prog w) A (pyNext (.ref z)) Q E s := by
  have ty : s.TypeIs (.ref z) "zip" := ⟨_, hz, rfl⟩
  unfold pyNext
  exact wpAny_bind (wpAny_attempt (wpAny_callSpecial?_slot (name := Str.ofString "__next__") ty F.slot_zip_next (wpAny_call_entry F.slot_zip_next ty F.entry_zip_next (zp_item D hz hTI hTO h1 h2 hl1 hl2 hx hy fun h' q1 q2 q3 q4 q5 q6 q7 => wpAny_pure (hQ h' q1 q2 q3 q4 q5 q6 q7)) (F.args_zip_next_1 _))))
theorem zp_nextE {Q : Option Value → Shared → Prop} (hh : A.handled = none) (D : ZipApart z TI TO i1 i2 l1 l2) (hz : IsZp s.heap st z TI TO .none) (hTI : IsPair s.heap TI (.ref i1) (.ref i2)) (h1 : SIt t1 s.heap i1 l1 k1) (h2 : SIt t2 s.heap i2 l2 k2) (hl1 : SSq t1 s.heap l1 xs) (hl2 : SSq t2 s.heap l2 ys) (hx : xs[k1]? = none) (hy : ys[k2]? = none)
    (hQ : ∀ h', (∀ c o, c ≠ z → c ≠ i1 → c ≠ i2 → s.heap.get? c = some o → h'.get? c = some o) → Q none { s with heap := h' }) : wpAny (model prog w) A (pyNext (.ref z)) Q E s := by
  have ty : s.TypeIs (.ref z) "zip" := ⟨_, hz, rfl⟩
  unfold pyNext
  refine wpAny_bind (wpAny_attempt (wpAny_callSpecial?_slot (name := Str.ofString "__next__") ty F.slot_zip_next (wpAny_call_entry F.slot_zip_next ty F.entry_zip_next (zp_end hh D hz hTI h1 h2 hl1 hl2 hx hy fun h' e kp he => ?_) (F.args_zip_next_1 _))))
  obtain ⟨o, e1, e2⟩ := he
  exact wpAny_bind (wpAny_isInstance (T := "StopIteration") (b := true) ⟨o, e1, e2⟩ isSubtype_stop (wpAny_pure (hQ _ kp)))
theorem zp_go {elts : List Expr} {x1} {pos : Pos} {T : Addr} {Q : Unit → Shared → Prop} (hz : IsZp s.heap st z TI TO (rawInt T)) (hQ : ∀ h', IsZp h' st z TI TO .none → Heap.SameBut z s.heap h' → Q () { s with heap := h' }) : wpAny (model prog w) A (letOwnedTupleGo (.Tuple elts x1 pos) (.ref z) (.ref T)) Q E s := by
  unfold letOwnedTupleGo
  refine wpAny_bind (wpAny_load hz ?_)
  show wpAny _ _ (if (["enumerate", "zip", "dict_itemiterator", "dict_reverseitemiterator", "odict_iterator", "itertools.zip_longest", "itertools.pairwise"].contains "zip" && (#[rawInt T, .bool false, .bool st, .ref TI, .ref TO] : Array Value)[0]? == some (rawInt T)) = true then _ else _) Q E s
  rw [if_pos (by simp)]
  refine wpAny_bind (wpAny_rule ?_); show wpAny _ _ (setField (.ref z) 0 .none) Q E s
  exact wpAny_setField_rec hz (by simp) fun h' q1 q2 => hQ h' q1 q2
theorem zp_iter {f0 : Value} {Q : Value → Shared → Prop} (hz : IsZp s.heap st z TI TO f0) (h : Q (.ref z) s) : wpAny (model prog w) A (pyIter (.ref z)) Q E s := by
  have ty : s.TypeIs (.ref z) "zip" := ⟨_, hz, rfl⟩
  refine wpAny_pyIter_slot ty F.slot_zip_iter (wpAny_call_entry F.slot_zip_iter ty F.entry_zip_iter ?_ (F.args_zip_iter_1 _))
  show wpAny _ _ (ret (.ref z)) _ _ s
  exact wpAny_pure ⟨_, rfl, "zip", _, ty, F.slot_zip_next.lookup, h⟩
end
/-! ### made -/
abbrev itO (t : Bool) (l : Addr) : Obj := { cls := .type (if t = true then "tuple_iterator" else "list_iterator"), data := .fields #[.ref l, .int 0 0] }
theorem iter_s {prog : Program} {w : World} {A : Around} {E : Value → Shared → Prop} {s : Shared} {t : Bool} {l : Addr} {xs : Array Value} {Q : Value → Shared → Prop} (h : SSq t s.heap l xs) (hQ : Q (.ref s.heap.objs.size) { s with heap := s.heap.push (itO t l) }) : wpAny (model prog w) A (pyIter (.ref l)) Q E s := by
  cases t
  · exact wpAny_pyIter_list h hQ
  · exact wpAny_pyIter_tuple h hQ
abbrev zA (h : Heap) (t1 : Bool) (l1 : Addr) : Heap := h.push (itO t1 l1)
abbrev zB (h : Heap) (t1 t2 : Bool) (l1 l2 : Addr) : Heap := (zA h t1 l1).push (itO t2 l2)
abbrev zC (h : Heap) (t1 t2 : Bool) (l1 l2 : Addr) : Heap := (zB h t1 t2 l1 l2).push { cls := .type "tuple", data := .seq #[.ref h.objs.size, .ref (zA h t1 l1).objs.size] }
abbrev zD (h : Heap) (t1 t2 : Bool) (l1 l2 : Addr) : Heap := (zC h t1 t2 l1 l2).push { cls := .type "tuple", data := .seq #[.none, .none] }
abbrev zE (h : Heap) (st t1 t2 : Bool) (l1 l2 : Addr) : Heap := (zD h t1 t2 l1 l2).push { cls := .type "zip", data := .fields #[.none, .bool false, .bool st, .ref (zB h t1 t2 l1 l2).objs.size, .ref (zC h t1 t2 l1 l2).objs.size] }
theorem SSq.push {t : Bool} {h : Heap} {l : Addr} {xs : Array Value} (x : SSq t h l xs) (o : Obj) : SSq t (h.push o) l xs := by
  cases t
  · exact Heap.IsList.push x o
  · exact Heap.IsTuple.push x o
def zkw (st : Bool) : List (Str × Value) := if st = true then [(Str.ofString "strict", .bool true)] else []
theorem meets_zp (st t1 t2 : Bool) (l1 l2 : Addr) (xs ys : Array Value) :
    Meets (Builtin.«zip.__new__» ⟨[.type "zip", .ref l1, .ref l2], zkw st⟩) (fun _ R s => SSq t1 s.heap l1 xs ∧ SSq t2 s.heap l2 ys ∧ R (.ok (.ret (.ref (zD s.heap t1 t2 l1 l2).objs.size))) { s with heap := zE s.heap st t1 t2 l1 l2 }) :=
  .of_wp fun prog w A R s h => by
    obtain ⟨hp, g, d, tk, os⟩ := s; obtain ⟨hl1, hl2, h⟩ := h
    have hsub := sub_zip
    have q1 : ∀ {A' : Around} {E : Value → Shared → Prop} {Q : Value → Shared → Prop}, Q (.ref hp.objs.size) ⟨hp.push (itO t1 l1), g, d, tk, os⟩ → wpAny (model prog w) A' (pyIter (.ref l1)) Q E ⟨hp, g, d, tk, os⟩ := fun q => iter_s (s := ⟨hp, g, d, tk, os⟩) hl1 q
    have q2 : ∀ {A' : Around} {E : Value → Shared → Prop} {Q : Value → Shared → Prop}, Q (.ref (hp.push (itO t1 l1)).objs.size) ⟨(hp.push (itO t1 l1)).push (itO t2 l2), g, d, tk, os⟩ → wpAny (model prog w) A' (pyIter (.ref l2)) Q E ⟨hp.push (itO t1 l1), g, d, tk, os⟩ := fun q => iter_s (s := ⟨hp.push (itO t1 l1), g, d, tk, os⟩) (SSq.push (h := hp) hl2 _) q
    have e1 : (Str.ofString "strict" == ("strict" : Str)) = true := by decide +kernel
    have e2 : (Str.ofString "strict" != ("strict" : Str)) = false := by decide +kernel
    cases st
    · simp only [zkw, Bool.false_eq_true, if_false]
      wp_walk using q1, q2
      exact ⟨_, rfl, h⟩
    · simp only [zkw, if_true]
      wp_walk using q1, q2
      exact ⟨_, rfl, h⟩
namespace ZF
theorem tc (st : Bool) (a b : Value) : checkTypeCall "zip" ⟨[a, b], zkw st⟩ = pure () := by cases st <;> kernel_rfl
theorem nc (st : Bool) (a b : Value) : checkBuiltinCall "zip.__new__" ⟨[.type "zip", a, b], zkw st⟩ = pure () := by cases st <;> kernel_rfl
theorem oi (st : Bool) (o a b : Value) : argsOk "object.__init__" ⟨[o, a, b], zkw st⟩ := by
  cases st
  · exact F.args_object_init_3 o a b
  · unfold argsOk; kernel_rfl
end ZF
section
variable {prog : Program} {w : World} {A : Around} {E : Value → Shared → Prop} {s : Shared} {st t1 t2 : Bool} {l1 l2 : Addr} {xs ys : Array Value}
theorem call_zp {Q : Value → Shared → Prop} (hl1 : SSq t1 s.heap l1 xs) (hl2 : SSq t2 s.heap l2 ys)
    (h : ∀ h', IsZp h' st (s.heap.objs.size + 4) (s.heap.objs.size + 2) (s.heap.objs.size + 3) .none → IsPair h' (s.heap.objs.size + 2) (.ref s.heap.objs.size) (.ref (s.heap.objs.size + 1)) → IsPair h' (s.heap.objs.size + 3) .none .none → SIt t1 h' s.heap.objs.size l1 0 → SIt t2 h' (s.heap.objs.size + 1) l2 0 →
      (∀ c o, s.heap.get? c = some o → h'.get? c = some o) → Q (.ref (s.heap.objs.size + 4)) { s with heap := h' }) :
    wpAny (model prog w) A (call (.type "zip") [.ref l1, .ref l2] (zkw st)) Q E s := by
  refine callType_newKw F.called_zip (by decide) (ZF.tc st _ _) (ZF.nc st _ _) (fun obj => ZF.oi st obj _ _) F.entry_zip_new (meets_zp st t1 t2 l1 l2 xs ys) ⟨hl1, hl2, ?_⟩
  have n1 : (zA s.heap t1 l1).objs.size = s.heap.objs.size + 1 := Heap.size_push ..
  have n2 : (zB s.heap t1 t2 l1 l2).objs.size = s.heap.objs.size + 2 := by rw [Heap.size_push, n1]
  have n3 : (zC s.heap t1 t2 l1 l2).objs.size = s.heap.objs.size + 3 := by rw [Heap.size_push, n2]
  have n4 : (zD s.heap t1 t2 l1 l2).objs.size = s.heap.objs.size + 4 := by rw [Heap.size_push, n3]
  have g5 : (zE s.heap st t1 t2 l1 l2).get? (zD s.heap t1 t2 l1 l2).objs.size = some _ := Heap.get?_push_size _ rfl
  have g4 : (zE s.heap st t1 t2 l1 l2).get? (zC s.heap t1 t2 l1 l2).objs.size = some _ := Heap.get?_push_of_some _ (Heap.get?_push_size _ rfl)
  have g3 : (zE s.heap st t1 t2 l1 l2).get? (zB s.heap t1 t2 l1 l2).objs.size = some _ := Heap.get?_push_of_some _ (Heap.get?_push_of_some _ (Heap.get?_push_size _ rfl))
  have g2 : (zE s.heap st t1 t2 l1 l2).get? (zA s.heap t1 l1).objs.size = some _ := Heap.get?_push_of_some _ (Heap.get?_push_of_some _ (Heap.get?_push_of_some _ (Heap.get?_push_size _ rfl)))
  have g1 : (zE s.heap st t1 t2 l1 l2).get? s.heap.objs.size = some _ := Heap.get?_push_of_some _ (Heap.get?_push_of_some _ (Heap.get?_push_of_some _ (Heap.get?_push_of_some _ (Heap.get?_push_size _ rfl))))
  have mk : ∀ (t : Bool) (hh : Heap) (i l : Addr), hh.get? i = some (itO t l) → SIt t hh i l 0 := fun t hh i l e => by
    cases t
    · exact ⟨_, e, rfl, rfl⟩
    · exact ⟨_, e, rfl, rfl⟩
  show _ ∧ _
  rw [n2, n3, n4] at g5
  rw [n1, n2] at g3
  rw [n3] at g4
  rw [n1] at g2
  rw [n4]
  exact ⟨⟨_, g5, rfl⟩, h _ g5 g3 g4 (mk _ _ _ _ g1) (mk _ _ _ _ g2) fun c o e => Heap.get?_push_of_some _ (Heap.get?_push_of_some _ (Heap.get?_push_of_some _ (Heap.get?_push_of_some _ (Heap.get?_push_of_some _ e))))⟩
end
end Tr
/-! Tr, part Y: walks over zip. -/
namespace Tr
open PySem PySem.Spec PyProof.Rows L2
def SqX (t : Bool) (K : PySem.W.Frag) (H : Hp) (a : Addr) (xs : List V) : Prop := if t = true then SqT K H a xs else SqL K H a xs
theorem SqX.same {t : Bool} {K : PySem.W.Frag} {H H' : Hp} {a : Addr} {xs : List V} (e : Same H H') (h : SqX t K H a xs) : SqX t K H' a xs := by
  cases t
  · exact Same.sqL e h
  · exact Same.sqT e h
theorem SqX.sq {X : Cx} {pins : List (Addr × Obj)} {σ : Sg} {H : Hp} {s : Shared} {t : Bool} {a : Addr} {xs : List V} (I : Inv X pins σ H s) (h : SqX t X.K H a xs) : ∃ its : List Value, Vals xs its ∧ SSq t s.heap a its.toArray := by
  cases t
  · obtain ⟨its, r, p, _⟩ := I.list h; exact ⟨its, r, p.isList⟩
  · obtain ⟨its, r, p, _⟩ := I.tuple h; exact ⟨its, r, p⟩
theorem SqX.inj {X : Cx} {pins : List (Addr × Obj)} {σ : Sg} {H : Hp} {s : Shared} {t : Bool} {a : Addr} {xs ys : List V} (I : Inv X pins σ H s) (h : SqX t X.K H a xs) (h' : SqX t X.K H a ys) : xs = ys := by
  cases t
  · exact I.list_inj h h'
  · exact I.tuple_inj h h'
/-- both as they stand at each turn, the items in new pairs -/
def ItZ (K : PySem.W.Frag) (t1 t2 : Bool) (a b : Addr) : It :=
  ⟨fun i H => ∃ (xs ys : List V) (x y : V), SqX t1 K H a xs ∧ SqX t2 K H b ys ∧ xs[i]? = some x ∧ ys[i]? = some y,
    fun i H v H' => ∃ T x y, v = .ref T ∧ H T = none ∧ H' = upd H T (.tup [x, y]) ∧ (∀ xs, SqX t1 K H a xs → xs[i]? = some x) ∧ ∀ ys, SqX t2 K H b ys → ys[i]? = some y,
    fun i H => ∃ xs ys : List V, SqX t1 K H a xs ∧ SqX t2 K H b ys ∧ xs.length ≤ i ∧ ys.length ≤ i⟩
theorem turn_zp {P : Program} {w : World} {K : PySem.W.Frag} {elts : List Expr} {kk : Nat} {tpos : Pos} {st t1 t2 : Bool} {a b z TI TO i1 i2 : Addr} (D : ZipApart z TI TO i1 i2 a b) :
    Turn P w K (.Tuple elts kk tpos) (ItZ K t1 t2 a b) [z, TI, TO, i1, i2] z (fun i h => IsZp h st z TI TO .none ∧ IsPair h TI (.ref i1) (.ref i2) ∧ (∃ x y, IsPair h TO x y) ∧ SIt t1 h i1 a i ∧ SIt t2 h i2 b i) where
  mem := by simp
  obj := fun i h q c hc => by
    obtain ⟨u1, u2, ⟨x, y, u3⟩, u4, u5⟩ := q
    obtain ⟨o1, v1, e1, d1⟩ := u4.obj
    obtain ⟨o2, v2, e2, d2⟩ := u5.obj
    simp only [List.mem_cons, List.not_mem_nil, or_false] at hc
    rcases hc with rfl | rfl | rfl | rfl | rfl
    · exact ⟨_, u1, fun v q => nomatch q⟩
    · exact ⟨_, u2, fun v q => nomatch q⟩
    · exact ⟨_, u3, fun v q => nomatch q⟩
    · exact ⟨o1, e1, fun v q => by rw [d1] at q; cases q⟩
    · exact ⟨o2, e2, fun v q => by rw [d2] at q; cases q⟩
  keep := fun i h h' q k => by
    obtain ⟨u1, u2, ⟨x, y, u3⟩, u4, u5⟩ := q
    exact ⟨k z (by simp) _ u1, k TI (by simp) _ u2, ⟨x, y, k TO (by simp) _ u3⟩, u4.up fun o q => k i1 (by simp) o q, u5.up fun o q => k i2 (by simp) o q⟩
  item := by
    intro X hP hw hK hc i pins s σ H E I hf q hg
    subst hP hw hK
    obtain ⟨u1, u2, ⟨x0, y0, u3⟩, u4, u5⟩ := q
    obtain ⟨xs, ys, x, y, qx, qy, hx, hy⟩ := hg
    obtain ⟨its, rv, p⟩ := qx.sq I
    obtain ⟨its2, rv2, p2⟩ := qy.sq I
    obtain ⟨u, hu, ru⟩ := rv.get hx
    obtain ⟨v, hv, rw2⟩ := rv2.get hy
    have zl : z < s.heap.objs.size := Heap.lt_size u1
    refine zp_nextI D u1 u2 u3 u4 u5 p p2 (x := u) (y := v) (by simpa using hu) (by simpa using hv) fun h' a1 a2 a3 a4 a5 _ kp => ⟨_, rfl, zp_go (s := { s with heap := h' }) a1 fun h2 c1 sb => ?_⟩
    have n2 : h2.get? s.heap.objs.size = some { cls := .type "tuple", data := .seq #[u, v] } := (sb.2 _ (Nat.ne_of_gt zl)).trans a5
    have ok : ObjOk X.prog X.w (upd H s.heap.objs.size (.tup [x, y])) h2 s.heap.objs.size (.tup [x, y]) := ⟨by show 2 ≤ sizeLine; decide, [u, v], .cons ru (.cons rw2 .nil), ⟨_, n2, rfl, _, rfl⟩⟩
    have J : Inv X pins σ (upd H s.heap.objs.size (.tup [x, y])) { s with heap := h2 } :=
      I.turnedNew (t' := s.toks) (ch := [z, TI, TO, i1, i2]) (fun c o nb e => (sb.2 c (fun w => nb (by simp [w]))).trans (kp c o (fun w => nb (by simp [w])) (fun w => nb (by simp [w])) (fun w => nb (by simp [w])) (fun w => nb (by simp [w])) e)) hf (Nat.le_refl _) ok
    refine ⟨.ref s.heap.objs.size, _, J, rfl, ⟨_, x, y, rfl, I.hok.fresh (Nat.le_refl _), rfl, fun l hl => by rw [hl.inj I qx]; exact hx, fun l hl => by rw [hl.inj I qy]; exact hy⟩, ⟨c1, (sb.2 _ D.TIz).trans (kp _ _ D.TIz D.TITO D.TIi1 D.TIi2 u2), ⟨u, v, (sb.2 _ D.TOz).trans a2⟩, a3.up fun o q => (sb.2 _ D.i1z).trans q, a4.up fun o q => (sb.2 _ D.i2z).trans q⟩, fun c hcm => ?_⟩
    have lt : c < s.heap.objs.size := by
      obtain ⟨o1, _, e1, _⟩ := u4.obj
      obtain ⟨o2, _, e2, _⟩ := u5.obj
      simp only [List.mem_cons, List.not_mem_nil, or_false] at hcm
      rcases hcm with rfl | rfl | rfl | rfl | rfl
      · exact zl
      · exact Heap.lt_size u2
      · exact Heap.lt_size u3
      · exact Heap.lt_size e1
      · exact Heap.lt_size e2
    rw [upd_ne (Nat.ne_of_lt lt)]
    exact (hf c hcm).1
  done := by
    intro X hP hw hK hc i pins s σ H E I hf q hg
    subst hP hw hK
    obtain ⟨u1, u2, ⟨x0, y0, u3⟩, u4, u5⟩ := q
    obtain ⟨xs, ys, qx, qy, hx, hy⟩ := hg
    obtain ⟨its, rv, p⟩ := qx.sq I
    obtain ⟨its2, rv2, p2⟩ := qy.sq I
    have m1 := rv.length
    have m2 := rv2.length
    exact zp_nextE (I.ok.hd hc) D u1 u2 u4 u5 p p2 (by simp; omega) (by simp; omega) fun h' kp => ⟨rfl, I.turnedL (t' := s.toks) (ch := [z, TI, TO, i1, i2]) (fun c o nb e => kp c o (fun w => nb (by simp [w])) (fun w => nb (by simp [w])) (fun w => nb (by simp [w])) e) hf⟩
  self := fun A i s Q E q h => zp_iter q.1 h
section
variable {X : Cx} {W : WX}
def iZp (K : PySem.W.Frag) (ta : TA) : TI := fun σ H R => ta σ H fun vs H1 => ∃ t1 t2 a b xs ys, vs = [.ref a, .ref b] ∧ SqX t1 K H1 a xs ∧ SqX t2 K H1 b ys ∧ R (ItZ K t1 t2 a b) H1
/-- behind the arguments -/
theorem zp_made {pins : List (Addr × Obj)} {s1 : Shared} {σ : Sg} {H1 : Hp} {vs : List V} {us : List Value} {R : It → Hp → Prop} {elts : List Expr} {kk : Nat} {tpos : Pos} (st : Bool) (I1 : Inv X pins σ H1 s1) (r : Vals vs us)
    (q : ∃ t1 t2 a b xs ys, vs = [.ref a, .ref b] ∧ SqX t1 X.K H1 a xs ∧ SqX t2 X.K H1 b ys ∧ R (ItZ X.K t1 t2 a b) H1) :
    wpAny (model X.prog X.w) X.A (call (.type "zip") us (zkw st)) (fun v s2 => wpAny (model X.prog X.w) X.A (pyIter v) (PIE X pins σ (.Tuple elts kk tpos) R) X.xe s2) X.xe s1 := by
  obtain ⟨t1, t2, a, b, xs, ys, rfl, qx, qy, q⟩ := q
  obtain ⟨u, us1, rfl, r1, r⟩ : ∃ u us1, us = u :: us1 ∧ RelV (.ref a) u ∧ Vals [.ref b] us1 := by cases r with | cons h t => exact ⟨_, _, rfl, h, t⟩
  obtain ⟨v, rfl, r2⟩ := vals1 r
  cases (show u = Value.ref a from r1)
  cases (show v = Value.ref b from r2)
  obtain ⟨its, rv, p1⟩ := qx.sq I1
  obtain ⟨its2, rv2, p2⟩ := qy.sq I1
  obtain ⟨o1, e1⟩ := p1.obj
  obtain ⟨o2, e2⟩ := p2.obj
  refine call_zp p1 p2 fun h' z1 z2 z3 j1 j2 kp => zp_iter z1 ?_
  have I2 : Inv X pins σ H1 { s1 with heap := h' } := I1.kept (t' := s1.toks) kp
  refine ⟨s1.heap.objs.size + 4, [s1.heap.objs.size + 4, s1.heap.objs.size + 2, s1.heap.objs.size + 3, s1.heap.objs.size, s1.heap.objs.size + 1], _, _, H1, rfl, I2, turn_zp (PySem.W.ktu_apart s1.heap.objs.size a b (Heap.lt_size e1) (Heap.lt_size e2)), ⟨z1, z2, ⟨_, _, z3⟩, j1, j2⟩, fun c hcm => ?_, q⟩
  have le : s1.heap.objs.size ≤ c := by
    simp only [List.mem_cons, List.not_mem_nil, or_false] at hcm
    rcases hcm with rfl | rfl | rfl | rfl | rfl
    · exact Nat.le_add_right _ _
    · exact Nat.le_add_right _ _
    · exact Nat.le_add_right _ _
    · exact Nat.le_refl _
    · exact Nat.le_add_right _ _
  exact I1.fpOk le (I1.hok.fresh le)
theorem pi_zp0 {e e2 : Expr} {ta : TA} {p pos tpos : Pos} {elts : List Expr} {kk : Nat} (hg : Gl X "zip") (hm : X.mg "zip" = none) (ha : PA X [e, e2] ta)
    (hs : starEach [e, e2] X.env = (false, eval e X.env) :: starEach [e2] X.env := by rfl) (hpl : (backTo pos (starEach [e2] X.env)).any (·.1) = false := by rfl) :
    PI X (.Tuple elts kk tpos) (.Call (.Name "zip" p) [e, e2] [] pos) (iZp X.K ta) :=
  ⟨fun pins s σ H R I h => Call_ (ld_blt I hg hm PyProof.Rows.boot_zip (PyProof.Rows.callWith_type1 (thn (ha.run pos pins s σ H _ I h) fun us s1 ⟨vs, H1, I1, r1, q1⟩ => zp_made false I1 r1 q1) hs hpl))⟩
/-- a built-in class called with keywords -/
theorem callWith_tkw {M : Model} {A : Around} {E : Value → Shared → Prop} {s : Shared} {env : Env} {pos : Pos} {T : String} {e : Expr} {rest : List Expr} {kws : List Keyword} {Q : Value → Shared → Prop}
    (h : wpAny M A (spliced (backTo pos (starEach (e :: rest) env))) (fun vs s₁ => wpAny M A (evalAll ((backToKw pos (keywordEach kws env)).map (·.2))) (fun kvs s₂ => wpAny M A (call (.type T) vs (((backToKw pos (keywordEach kws env)).filterMap (·.1)).zip kvs)) Q E s₂) E s₁) E s)
    (he : backTo pos (starEach (e :: rest) env) = (false, eval e env) :: backTo pos (starEach rest env)) (hpl : (backTo pos (starEach (e :: rest) env)).any (·.1) = false) (hall : (backToKw pos (keywordEach kws env)).all (·.1.isSome) = true) (hkw : (backToKw pos (keywordEach kws env)).any (·.1.isNone) = false) :
    wpAny M A (callWith pos (.type T) [] (backTo pos (starEach (e :: rest) env)) (backToKw pos (keywordEach kws env))) Q E s := by
  unfold callWith
  rw [he] at h ⊢
  refine wpAny_bind (wpAny_holding (wpAny_mono (evalArgs_kwB (f := .type T) (Q := fun a s1 => wpAny M A (call (.type T) ([] ++ a.pos) a.kw) Q E s1) hall h) (fun a s1 k1 => wpAny_bind (wpAny_standAt ?_)) fun _ _ x => x))
  rw [he] at hpl
  simp only [hpl, hkw, Bool.or_false]
  refine wpAny_bind (wpAny_pure (wpAny_bind (wpAny_mono k1 (fun r s2 hr => wpAny_bind (wpAny_holding (wpAny_point (wpAny_pure hr)))) fun _ _ x => x)))
theorem pi_zp1 {e e2 : Expr} {ta : TA} {p pos tpos bp kp : Pos} {bk : Nat} {elts : List Expr} {kk : Nat} (hg : Gl X "zip") (hm : X.mg "zip" = none) (ha : PA X [e, e2] ta)
    (he : backTo pos (starEach [e, e2] X.env) = (false, eval e X.env) :: backTo pos (starEach [e2] X.env) := by rfl) (hpl : (backTo pos (starEach [e, e2] X.env)).any (·.1) = false := by rfl) :
    PI X (.Tuple elts kk tpos) (.Call (.Name "zip" p) [e, e2] [⟨some "strict", .Constant (.bool true) bk bp, kp⟩] pos) (iZp X.K ta) := by
  refine ⟨fun pins s σ H R I h => wpAny_Call_Name_kw (ld_blt I hg hm PyProof.Rows.boot_zip ?_)⟩
  refine callWith_tkw (thn (ha.run pos pins s σ H _ I h) fun us s1 ⟨vs, H1, I1, r1, q1⟩ => ?_) he hpl rfl rfl
  refine thn ((pk_cons (nm := some "strict") (kpos := kp) (X := X) (pe_bl (b := true)) pk_nil).run pos pins s1 σ H1 (fun zs H2 => zs = [.bl true] ∧ H2 = H1) I1 ⟨rfl, rfl⟩) fun ws s2 ⟨zs, H2, I2, r2, ez, eh⟩ => ?_
  subst ez eh
  obtain ⟨u, rfl, ru⟩ := vals1 r2
  cases (show u = Value.bool true from ru)
  exact zp_made true I2 r1 q1
/-! ### as walks of trees -/
def zipP : List D → List D → List D
  | x :: xs, y :: ys => .tup [x, y] :: zipP xs ys
  | _, _ => []
theorem zipP_len : ∀ {xs ys : List D}, xs.length = ys.length → (zipP xs ys).length = xs.length
  | [], [], _ => rfl
  | _ :: xs, _ :: ys, h => by simp only [zipP, List.length_cons, zipP_len (Nat.succ.inj h)]
theorem zipP_get : ∀ {xs ys : List D} {i : Nat} {d : D}, (zipP xs ys)[i]? = some d → ∃ x y, d = .tup [x, y] ∧ xs[i]? = some x ∧ ys[i]? = some y
  | x :: xs, y :: ys, 0, d, h => by cases h; exact ⟨x, y, rfl, rfl, rfl⟩
  | x :: xs, y :: ys, i + 1, d, h => zipP_get (xs := xs) (ys := ys) (i := i) h
  | [], _, _, _, h => by cases h
  | _ :: _, [], _, _, h => by cases h
theorem wk_zip {T : Tx} {F : Fz} {t1 t2 : Bool} {a b : Addr} {xs ys : List V} {ds es : List D} (hl : ds.length = es.length) (h1 : SqX t1 T.K F a xs) (h2 : SqX t2 T.K F b ys) (d1 : DenL T F ds xs) (d2 : DenL T F es ys) : Wk T F (ItZ T.K t1 t2 a b) ⟨zipP ds es, none⟩ := fun Fc Hc L s1 s2 lv i => by
  have q1 : SqX t1 T.K Hc a xs := (h1.same s1.hp).same s2
  have q2 : SqX t2 T.K Hc b ys := (h2.same s1.hp).same s2
  refine ⟨fun d d' e e' => ?_, fun hle _ => ⟨xs, ys, q1, q2, ?_, ?_⟩⟩
  · cases e'
    obtain ⟨x, y, rfl, ex, ey⟩ := zipP_get e
    obtain ⟨u, hu, du⟩ := d1.get ex
    obtain ⟨v, hv, dv⟩ := d2.get ey
    refine ⟨⟨xs, ys, u, v, q1, q2, hu, hv⟩, fun z H' ⟨N, u', v', ez, hN, eH, f1, f2⟩ => ?_⟩
    have eu : u = u' := Option.some.inj (hu.symm.trans (f1 xs q1))
    have ev : v = v' := Option.some.inj (hv.symm.trans (f2 ys q2))
    subst ez eH eu ev
    have nw : New T Fc Hc (Fc.upd N (.tup [u, v])) (upd Hc N (.tup [u, v])) := New.sh s2 hN
    exact ⟨_, nw, N, _, rfl, SqT.of upd_same, .cons ((du.mono s1).mono nw.ff) (.cons ((dv.mono s1).mono nw.ff) .nil)⟩
  · have := zipP_len hl
    have := d1.length
    simp only at hle
    omega
  · have := zipP_len hl
    have := d2.length
    simp only at hle
    omega
/-- a tree that is walked: a list or a tuple that stays -/
def seqD : D → Option (List D)
  | .lst ds => some ds
  | .tup ds => some ds
  | _ => none
theorem seqD_sq {T : Tx} {F : Fz} {d : D} {ds : List D} {x : V} (h : Den T F d x) (e : seqD d = some ds) : ∃ t a xs, x = .ref a ∧ SqX t T.K F a xs ∧ DenL T F ds xs := by
  cases d with
  | lst es => cases e; obtain ⟨a, xs, h1, h2, h3⟩ := h; exact ⟨false, a, xs, h1, SqL.of h2, h3⟩
  | tup es => cases e; obtain ⟨a, xs, h1, h2, h3⟩ := h; exact ⟨true, a, xs, h1, h2, h3⟩
  | _ => cases e
/-- both are made to stay -/
def zipK (r : List Val × En) : R (Its × En) := match frzL r.2 r.1 with
  | some ([x, y], ρ) => (match seqD x, seqD y with
    | some xs, some ys => if xs.length = ys.length then .ok (⟨zipP xs ys, none⟩, ρ) else .no
    | _, _ => .no)
  | _ => .no
theorem zip_ok {f : FA} {σ : Sg} {H : Hp} {Q : It → Hp → Prop} (h : tOfI (.of X) W (fiA f zipK) σ H Q) : iZp X.K (tOfA (.of X) W f) σ H Q := by
  obtain ⟨ρ, F, rl, h⟩ := h
  unfold fiA at h
  refine ⟨ρ, F, rl, ?_⟩
  cases ea : f ρ with
  | no => rw [ea] at h; exact h
  | ex c n d ρ' => rw [ea] at h; exact h
  | ok ra =>
    rw [ea] at h
    intro xs F1 H1 s1 p1
    have h : (match zipK ra with
      | .ok r => ∀ J F' H', Stp (.of X) F H ρ σ F' H' r.2 σ → Wk (.of X) F' J r.1 → Q J H'
      | .ex c n d ρ' => ∀ F' H' cls dx, Stp (.of X) F H ρ σ F' H' ρ' σ → ERel (.of X) F' c n d cls dx → W cls dx σ H'
      | .no => False) := h
    unfold zipK at h
    cases e1 : frzL ra.2 ra.1 with
    | none => simp only [e1] at h
    | some z =>
      obtain ⟨ds, ρ2⟩ := z
      simp only [e1] at h
      obtain ⟨F2, s2, d2⟩ := p1.frz s1.rel e1
      match ds, d2, h with
      | [], _, h => exact h.elim
      | [_], _, h => exact h.elim
      | _ :: _ :: _ :: _, _, h => exact h.elim
      | [x, y], d2, h =>
        obtain ⟨u, r, rfl, du, r', r2, rfl, dv, er⟩ := d2
        have er : r2 = [] := er
        subst er
        cases ex : seqD x with
        | none => simp only [ex] at h
        | some ds =>
          cases ey : seqD y with
          | none => simp only [ex, ey] at h
          | some es =>
            simp only [ex, ey] at h
            by_cases hl : ds.length = es.length
            · simp only [if_pos hl] at h
              obtain ⟨t1, a, xs, rfl, q1, m1⟩ := seqD_sq du ex
              obtain ⟨t2, b, ys, rfl, q2, m2⟩ := seqD_sq dv ey
              exact ⟨t1, t2, a, b, xs, ys, rfl, q1.same s2.rel.sub, q2.same s2.rel.sub, h _ F2 H1 (s1.trans s2) (wk_zip hl q1 q2 m1 m2)⟩
            · simp only [if_neg hl] at h
theorem si_zip {e e2 : Expr} {f : FA} {p pos tpos : Pos} {elts : List Expr} {kk : Nat} (hm : X.mg "zip" = none) (ha : SA X W [e, e2] f) (hg : Gl X "zip" := by rfl)
    (hs : starEach [e, e2] X.env = (false, eval e X.env) :: starEach [e2] X.env := by rfl) (hpl : (backTo pos (starEach [e2] X.env)).any (·.1) = false := by rfl) :
    SI X W (.Tuple elts kk tpos) (.Call (.Name "zip" p) [e, e2] [] pos) (fiA f zipK) := pi_imp (pi_zp0 hg hm ha hs hpl) fun σ H Q h => zip_ok h
theorem si_zipS {e e2 : Expr} {f : FA} {p pos tpos bp kp : Pos} {bk : Nat} {elts : List Expr} {kk : Nat} (hm : X.mg "zip" = none) (ha : SA X W [e, e2] f) (hg : Gl X "zip" := by rfl)
    (he : backTo pos (starEach [e, e2] X.env) = (false, eval e X.env) :: backTo pos (starEach [e2] X.env) := by rfl) (hpl : (backTo pos (starEach [e, e2] X.env)).any (·.1) = false := by rfl) :
    SI X W (.Tuple elts kk tpos) (.Call (.Name "zip" p) [e, e2] [⟨some "strict", .Constant (.bool true) bk bp, kp⟩] pos) (fiA f zipK) := pi_imp (pi_zp1 hg hm ha he hpl) fun σ H Q h => zip_ok h
end
section
variable {P : Its × En → Prop} {E : Str → Str → D → En → Prop} {ρ ρ1 : En} {vs : List Val}
theorem wp_zipK {x y : D} {xs ys : List D} (h : frzL ρ vs = some ([x, y], ρ1)) (hx : seqD x = some xs) (hy : seqD y = some ys) (hl : xs.length = ys.length) (k : P (⟨zipP xs ys, none⟩, ρ1)) : (zipK (vs, ρ)).wp P E := by
  simp only [zipK, h, hx, hy, hl, if_true]; exact ⟨k⟩
end
end Tr
/-! Tr, part X: o[i], o2[j] = e (two places stored at once). -/
namespace Tr
open PySem PySem.Spec PyProof.Rows L2
section
variable {X : Cx} {W : WX}
def putD (g : D → D → D → Option D) (ft fi : FE) (d : D) (ρ : En) : R En := (ft ρ).bind fun t => if (muV t.2 t.1).isSome = true then (fi t.2).bind fun r => (match frz r.2 r.1 with
  | some (k, ρ) => (match muV ρ t.1 with
    | some c => (match g c k d with
      | some c' => .ok (setMu ρ t.1 c')
      | none => .no)
    | none => .no)
  | none => .no) else .no
theorem putD_ok {ft fi : FE} {t : TSet} {g : D → D → D → Option D} (hp : PutS X t g) {F : Fz} {H : Hp} {ρ : En} {σ : Sg} {d : D} {x : V} {Q : Sg → Hp → Prop} (rl : Rel (.of X) F H ρ σ) (d2 : Den (.of X) F d x)
    (q : match putD g ft fi d ρ with
      | .ok ρ' => ∀ F' H', Stp (.of X) F H ρ σ F' H' ρ' σ → Q σ H'
      | .ex c n d ρ' => ∀ F' H' cls dx, Stp (.of X) F H ρ σ F' H' ρ' σ → ERel (.of X) F' c n d cls dx → W cls dx σ H'
      | .no => False) : gSub (tOf (.of X) W ft) (tOf (.of X) W fi) t x σ H Q := by
  unfold putD at q
  refine ⟨ρ, F, rl, ?_⟩
  cases e2 : ft ρ with
  | no => simp only [e2, R.bind] at q
  | ex c n d ρ' => simp only [e2, R.bind] at q; exact q
  | ok rt =>
    obtain ⟨u, ρ3⟩ := rt
    simp only [e2, R.bind] at q
    intro y F3 H3 s3 v3
    by_cases hm : (muV ρ3 u).isSome = true
    · simp only [hm, if_true] at q
      cases em : muV ρ3 u with
      | none => rw [em] at hm; cases hm
      | some c0 =>
        have p3 := pend_of (F := F) (ρ := ρ) v3 em
        obtain ⟨a, rfl, _, _, _⟩ := muV_at s3.rel p3 em
        refine ⟨ρ3, F3, s3.rel, ?_⟩
        cases e3 : fi ρ3 with
        | no => simp only [e3] at q
        | ex c n d ρ' => simp only [e3] at q; exact fun F' H' cls dx s e => q F' H' cls dx (s3.trans s) e
        | ok ri =>
          simp only [e3] at q
          intro k F4 H4 s4 v4
          cases e4 : frz ri.2 ri.1 with
          | none => simp only [e4] at q
          | some z =>
            obtain ⟨dk, ρ5⟩ := z
            simp only [e4] at q
            obtain ⟨F5, s5, _, d5⟩ := frz_val s4 v4 e4
            cases e5 : muV ρ5 u with
            | none => simp only [e5] at q
            | some c =>
              simp only [e5] at q
              cases e6 : g c dk d with
              | none => simp only [e6] at q
              | some c' =>
                simp only [e6] at q
                have p5 := p3.mono s5.same
                obtain ⟨b, eb, fn, ob, _⟩ := muV_at s5.rel p5 e5
                cases eb
                refine hp F5 H4 a k x c dk d c' _ s5.rel.sub fn ob d5 (d2.mono (s3.same.trans s5.same)) e6 fun o ho => ?_
                exact q F5 _ ((s3.trans s5).trans (mutate s5.rel p5 e5 ho))
    · simp only [hm] at q; exact q.elim
def put2V (g : D → D → D → Option D) (ft fi ft2 fi2 : FE) (v : Val) (ρ : En) : R (Fl × En) := match frz ρ v with
  | some (.tup [x, y], ρ1) => (putD g ft fi x ρ1).bind fun ρ2 => (putD g ft2 fi2 y ρ2).bind fun ρ3 => .ok (.nx, ρ3)
  | _ => .no
def fsPut2 (g : D → D → D → Option D) (ft fi ft2 fi2 f : FE) : FS := fsVal f (put2V g ft fi ft2 fi2)
theorem ss_put2 {o o2 e b b2 : Expr} {ft f fi ft2 fi2 : FE} {t : TSet} {g : D → D → D → Option D} {p2 p3 pt pos : Pos} {kt : Nat} (hc : X.calm = true) (hps : PSet X t) (hp : PutS X t g) (ho : SE X W o ft) (hb : SE X W b fi) (ho2 : SE X W o2 ft2) (hb2 : SE X W b2 fi2) (he : SE X W e f)
    (ha : ∀ v, assign (.Subscript o b p2) X.env v = (do
      let ov ← holding [v] (eval o X.env); let iv ← holding [v, ov] (eval b X.env)
      standAt p2; holding [v, ov, iv] (setItem ov iv v); release [v, ov, iv] []) := by intro _; rfl)
    (ha2 : ∀ v, assign (.Subscript o2 b2 p3) X.env v = (do
      let ov ← holding [v] (eval o2 X.env); let iv ← holding [v, ov] (eval b2 X.env)
      standAt p3; holding [v, ov, iv] (setItem ov iv v); release [v, ov, iv] []) := by intro _; rfl)
    (hs : swapsWithSole [.Tuple [.Subscript o b p2, .Subscript o2 b2 p3] kt pt] e pos.line X.env = pure false := by rfl) (hw : swappedStores [.Tuple [.Subscript o b p2, .Subscript o2 b2 p3] kt pt] e X.env = pure none := by rfl)
    (h1 : (assignEach [.Tuple [.Subscript o b p2, .Subscript o2 b2 p3] kt pt] X.env).map (·.2) = [assign (.Tuple [.Subscript o b p2, .Subscript o2 b2 p3] kt pt) X.env] := by rfl)
    (g1 : (assignEach [.Subscript o b p2, .Subscript o2 b2 p3] X.env).map (·.2) = assign (.Subscript o b p2) X.env :: (assignEach [.Subscript o2 b2 p3] X.env).map (·.2) := by rfl)
    (g2 : (assignEach [.Subscript o2 b2 p3] X.env).map (·.2) = assign (.Subscript o2 b2 p3) X.env :: (assignEach [] X.env).map (·.2) := by rfl)
    (hn : (assignEach [.Subscript o b p2, .Subscript o2 b2 p3] X.env).length = 2 := by rfl) (hst : (assignEach [.Subscript o b p2, .Subscript o2 b2 p3] X.env).findIdx? (·.1) = none := by rfl) :
    SS X W (.Assign [.Tuple [.Subscript o b p2, .Subscript o2 b2 p3] kt pt] e pos) (fsPut2 g ft fi ft2 fi2 f) :=
  ps_imp (ps_asg he (pg_tup hc (pgs_cons (pg_sub ho hb hps ha) (pgs_cons (pg_sub ho2 hb2 hps ha2) pgs_nil g2) g1) hn hst) hs hw h1) fun D σ H h => fsVal_ok h fun ρ F v ρ1 x F1 H1 s1 v1 q => by
    unfold put2V at q
    cases e1 : frz ρ1 v with
    | none => simp only [e1] at q
    | some z =>
      obtain ⟨d, ρ2⟩ := z
      obtain ⟨F2, s2, _, d2⟩ := frz_val s1 v1 e1
      match d, e1, d2 with
      | .tup [x1, y1], e1, d2 =>
        simp only [e1] at q
        obtain ⟨a, xs, rfl, hq, u, r, rfl, du, v', r2, rfl, dv, er⟩ := d2
        have er : r2 = [] := er
        subst er
        refine ⟨a, _, rfl, Same.sqT s2.rel.sub hq, rfl, _, _, rfl, putD_ok hp s2.rel du ?_⟩
        cases f1 : putD g ft fi x1 ρ2 with
        | no => simp only [f1, R.bind] at q
        | ex c n d ρ' => simp only [f1, R.bind] at q; exact fun F' H' cls dx s e => q σ F' H' cls dx (s2.trans s) e
        | ok ρ3 =>
          simp only [f1, R.bind] at q
          intro F3 H3 s3
          refine ⟨_, _, rfl, putD_ok hp s3.rel (dv.mono s3.same) ?_⟩
          cases f2 : putD g ft2 fi2 y1 ρ3 with
          | no => simp only [f2] at q
          | ex c n d ρ' => simp only [f2] at q; exact fun F' H' cls dx s e => q σ F' H' cls dx ((s2.trans s3).trans s) e
          | ok ρ4 =>
            simp only [f2] at q
            exact fun F4 H4 s4 => ⟨rfl, q σ F4 H4 ((s2.trans s3).trans s4)⟩
      | .non, e1, _ => simp only [e1] at q
      | .bl _, e1, _ => simp only [e1] at q
      | .int _, e1, _ => simp only [e1] at q
      | .str _, e1, _ => simp only [e1] at q
      | .lst _, e1, _ => simp only [e1] at q
      | .tup [], e1, _ => simp only [e1] at q
      | .tup [_], e1, _ => simp only [e1] at q
      | .tup (_ :: _ :: _ :: _), e1, _ => simp only [e1] at q
      | .dK _ _, e1, _ => simp only [e1] at q
      | .dT _ _, e1, _ => simp only [e1] at q
      | .ins _ _ _, e1, _ => simp only [e1] at q
      | .exn _ _ _, e1, _ => simp only [e1] at q
      | .ty _, e1, _ => simp only [e1] at q
      | .glo _, e1, _ => simp only [e1] at q
      | .scr _, e1, _ => simp only [e1] at q
      | .ref _, e1, _ => simp only [e1] at q
end
section
variable {E : Str → Str → D → En → Prop} {ρ ρ1 ρ2 : En} {ft fi ft2 fi2 f : FE} {g : D → D → D → Option D} {v w : Val} {c c' d k x y : D}
theorem wp_putTwo {P : Fl × En → Prop} (q : (f ρ).wp (fun r => (put2V g ft fi ft2 fi2 r.1 r.2).wp P E) E) : (fsPut2 g ft fi ft2 fi2 f ρ).wp P E := by unfold fsPut2 fsVal; exact wp_bind q
theorem wp_put2V {P : Fl × En → Prop} (h : frz ρ v = some (.tup [x, y], ρ1)) (q : (putD g ft fi x ρ1).wp (fun ρ2 => (putD g ft2 fi2 y ρ2).wp (fun ρ3 => P (.nx, ρ3)) E) E) : (put2V g ft fi ft2 fi2 v ρ).wp P E := by
  unfold put2V
  simp only [h]
  exact wp_bind (R.wp_mono q (fun _ h => wp_bind (R.wp_mono h (fun _ h => ⟨h⟩) fun _ _ _ _ z => z)) fun _ _ _ _ z => z)
/-- the place is known: the store -/
def pdK (g : D → D → D → Option D) (d : D) (t : Val) (r : Val × En) : R En := match frz r.2 r.1 with
  | some (k, ρ) => (match muV ρ t with
    | some c => (match g c k d with
      | some c' => .ok (setMu ρ t c')
      | none => .no)
    | none => .no)
  | none => .no
def pdT (g : D → D → D → Option D) (fi : FE) (d : D) (t : Val × En) : R En := if (muV t.2 t.1).isSome = true then (fi t.2).bind (pdK g d t.1) else .no
theorem wp_putD {P : En → Prop} (q : (ft ρ).wp (fun t => (pdT g fi d t).wp P E) E) : (putD g ft fi d ρ).wp P E := by unfold putD; exact wp_bind (R.wp_mono q (fun _ h => h) fun _ _ _ _ z => z)
theorem wp_pdT {P : En → Prop} (h : (muV ρ v).isSome = true) (q : (fi ρ).wp (fun r => (pdK g d v r).wp P E) E) : (pdT g fi d (v, ρ)).wp P E := by unfold pdT; simp only [h, if_true]; exact wp_bind q
theorem wp_pdK {P : En → Prop} (h1 : frz ρ w = some (k, ρ1)) (h2 : muV ρ1 v = some c) (h3 : g c k d = some c') (h4 : setMu ρ1 v c' = ρ2) (q : P ρ2) : (pdK g d v (w, ρ)).wp P E := by unfold pdK; simp only [h1, h2, h3, h4]; exact ⟨q⟩
end
/-- defaults, told one by one -/
theorem bndsG {K : PySem.W.Frag} {fd : FuncData} {ps : List Str} {dT : Addr} {oc : Value} {od : Option Addr} {m : Nat} {sl : Array (Option Value)} {its : Array Value} {ds0 : List D} (dsv : List Value) (dvs : List V) (q : Nat) (hd : fd.defaults = .ref dT) (lk : K.lookup dT = some ⟨oc, od, .seq its m, sl⟩) (hq : q + dsv.length = ps.length)
    (hv : Vals dvs dsv) (hden : ∀ (T : Tx) (F : Fz), DenL T F ds0 dvs) (h : ∀ us : List Value, us.length = q → ∃ k, bindArgs fd ⟨us, []⟩ = seqItems? fd.defaults >>= k ∧ k (some its) = pure (ps.zip (us ++ dsv))) : Bnds K fd ps ds0 := by
  refine ⟨dsv, dvs, fun s us hk hl => ?_, hv, hden⟩
  rw [List.length_append] at hl
  obtain ⟨k, h1, h2⟩ := h us (by omega)
  exact BindsTo.of_defaults hd (hk _ _ lk) rfl h1 h2
end Tr
/-! Tr, part V: data read through live objects (==, !=, repr); walks over live lists that stay. -/
namespace Tr
open PySem PySem.Spec PyProof.Rows L2
mutual
/-- a tree with its live parts put in -/
def mapR (f : Nat → Option D) : D → Option D
  | .lst ds => (mapRs f ds).map .lst
  | .tup ds => (mapRs f ds).map .tup
  | .dK ks ds => (mapRs f ds).map (.dK ks)
  | .dT ks ds => (mapRs f ds).map (.dT ks)
  | .ins c ns ds => (mapRs f ds).map (.ins c ns)
  | .exn c n d => (mapR f d).map (.exn c n)
  | .ref n => f n
  | .non => some .non
  | .bl b => some (.bl b)
  | .int i => some (.int i)
  | .str s => some (.str s)
  | .ty n => some (.ty n)
  | .glo x => some (.glo x)
  | .scr ns => some (.scr ns)
def mapRs (f : Nat → Option D) : List D → Option (List D)
  | [] => some []
  | d :: ds => match mapR f d, mapRs f ds with
    | some e, some es => some (e :: es)
    | _, _ => none
end
/-- what a tree reads as, now -/
def res (L : List D) : Nat → D → Option D
  | 0 => mapR fun _ => none
  | k + 1 => mapR fun n => (L[n]?).bind (res L k)
mutual
theorem Den.deep {T : Tx} {F : Fz} {H : Hp} {f : Nat → Option D} (s : Same F.hp H) (hf : ∀ (n : Nat) (a : Addr) (e : D), F.as[n]? = some a → f n = some e → Den T ⟨H, []⟩ e (.ref a)) : ∀ (d : D) {e : D} {x : V}, mapR f d = some e → Den T F d x → Den T ⟨H, []⟩ e x
  | .non, _, _, e, h => by cases e; exact h
  | .bl _, _, _, e, h => by cases e; exact h
  | .int _, _, _, e, h => by cases e; exact h
  | .str _, _, _, e, h => by cases e; exact h
  | .ty _, _, _, e, h => by cases e; exact h
  | .glo _, _, _, e, h => by cases e; exact h
  | .lst ds, _, _, e, ⟨a, xs, h1, h2, h3⟩ => by
    simp only [mapR, Option.map_eq_some_iff] at e
    obtain ⟨es, e1, rfl⟩ := e
    exact ⟨a, xs, h1, s _ _ h2, DenL.deep s hf ds e1 h3⟩
  | .tup ds, _, _, e, ⟨a, xs, h1, h2, h3⟩ => by
    simp only [mapR, Option.map_eq_some_iff] at e
    obtain ⟨es, e1, rfl⟩ := e
    exact ⟨a, xs, h1, Same.sqT s h2, DenL.deep s hf ds e1 h3⟩
  | .dK ks ds, _, _, e, ⟨a, xs, h1, h2, h3, h4⟩ => by
    simp only [mapR, Option.map_eq_some_iff] at e
    obtain ⟨es, e1, rfl⟩ := e
    exact ⟨a, xs, h1, s _ _ h2, h3, DenL.deep s hf ds e1 h4⟩
  | .dT ks ds, _, _, e, ⟨a, xs, h1, h2, h3, h4⟩ => by
    simp only [mapR, Option.map_eq_some_iff] at e
    obtain ⟨es, e1, rfl⟩ := e
    exact ⟨a, xs, h1, s _ _ h2, h3, DenL.deep s hf ds e1 h4⟩
  | .ins c ns ds, _, _, e, ⟨a, C, dx, xs, h1, h2, h3, h4, h5, h6⟩ => by
    simp only [mapR, Option.map_eq_some_iff] at e
    obtain ⟨es, e1, rfl⟩ := e
    exact ⟨a, C, dx, xs, h1, h2, s _ _ h3, s _ _ h4, h5, DenL.deep s hf ds e1 h6⟩
  | .exn c n d, _, _, e, ⟨a, C, dx, y, h1, h2, h3, h5⟩ => by
    simp only [mapR, Option.map_eq_some_iff] at e
    obtain ⟨e', e1, rfl⟩ := e
    exact ⟨a, C, dx, y, h1, h2, h3.imp (fun z => ⟨s _ _ z.1, s _ _ z.2⟩) (fun z => ⟨z.1, s _ _ z.2⟩), Den.deep s hf d e1 h5⟩
  | .scr _, _, _, e, ⟨a, h1, h2⟩ => by cases e; exact ⟨a, h1, Same.sqL s h2⟩
  | .ref n, _, _, e, ⟨a, h1, h2⟩ => by subst h1; exact hf n a _ h2 e
theorem DenL.deep {T : Tx} {F : Fz} {H : Hp} {f : Nat → Option D} (s : Same F.hp H) (hf : ∀ (n : Nat) (a : Addr) (e : D), F.as[n]? = some a → f n = some e → Den T ⟨H, []⟩ e (.ref a)) : ∀ (ds : List D) {es : List D} {xs : List V}, mapRs f ds = some es → DenL T F ds xs → DenL T ⟨H, []⟩ es xs
  | [], _, _, e, h => by cases e; exact h
  | d :: ds, es, _, e, ⟨x, r, h1, h2, h3⟩ => by
    simp only [mapRs] at e
    cases e1 : mapR f d with
    | none => simp only [e1] at e; cases e
    | some d' =>
      cases e2 : mapRs f ds with
      | none => simp only [e1, e2] at e; cases e
      | some ds' =>
        simp only [e1, e2] at e
        cases e
        exact ⟨x, r, h1, Den.deep s hf d e1 h2, DenL.deep s hf ds e2 h3⟩
end
theorem OwnAt.deep {T : Tx} {F : Fz} {H : Hp} {f : Nat → Option D} (s : Same F.hp H) (hf : ∀ (n : Nat) (a : Addr) (e : D), F.as[n]? = Option.some a → f n = Option.some e → Den T ⟨H, []⟩ e (.ref a)) {d e : D} {a : Addr} (he : mapR f d = Option.some e) (h : OwnAt T F H d a) : Den T ⟨H, []⟩ e (.ref a) := by
  cases d with
  | lst ds =>
    obtain ⟨xs, h1, h2⟩ := h
    simp only [mapR, Option.map_eq_some_iff] at he
    obtain ⟨es, e1, rfl⟩ := he
    exact ⟨a, xs, rfl, h1, DenL.deep s hf ds e1 h2⟩
  | dK ks ds =>
    obtain ⟨xs, h1, h2, h3⟩ := h
    simp only [mapR, Option.map_eq_some_iff] at he
    obtain ⟨es, e1, rfl⟩ := he
    exact ⟨a, xs, rfl, h1, h2, DenL.deep s hf ds e1 h3⟩
  | dT ks ds =>
    obtain ⟨xs, h1, h2, h3⟩ := h
    simp only [mapR, Option.map_eq_some_iff] at he
    obtain ⟨es, e1, rfl⟩ := he
    exact ⟨a, xs, rfl, h1, h2, DenL.deep s hf ds e1 h3⟩
  | ins c ns ds =>
    obtain ⟨C, dx, xs, h1, h2, h3, h4, h5⟩ := h
    simp only [mapR, Option.map_eq_some_iff] at he
    obtain ⟨es, e1, rfl⟩ := he
    exact ⟨a, C, dx, xs, rfl, h1, h2, h3, h4, DenL.deep s hf ds e1 h5⟩
  | _ => exact h.elim
theorem res_hf {T : Tx} {F : Fz} {H : Hp} {L : List D} (s : Same F.hp H) (lv : Live T F H L) : ∀ (k : Nat) (n : Nat) (a : Addr) (e : D), F.as[n]? = some a → ((L[n]?).bind (res L k)) = some e → Den T ⟨H, []⟩ e (.ref a)
  | 0, n, a, e, h, q => by
    cases hd : L[n]? with
    | none => rw [hd] at q; cases q
    | some d =>
      rw [hd] at q
      exact OwnAt.deep s (fun n a e h q => by cases q) q (lv.ok n d a hd h).2
  | k + 1, n, a, e, h, q => by
    cases hd : L[n]? with
    | none => rw [hd] at q; cases q
    | some d =>
      rw [hd] at q
      exact OwnAt.deep s (fun n a e h q => res_hf s lv k n a e h q) q (lv.ok n d a hd h).2
theorem Pk.deep {T : Tx} {F : Fz} {H : Hp} {L : List D} (s : Same F.hp H) (lv : Live T F H L) {k : Nat} {d e : D} {x : V} (h : Pk T F H d x) (q : res L k d = some e) : Pk T ⟨H, []⟩ H e x := by
  cases k with
  | zero =>
    rcases h with h | ⟨a, rfl, h⟩
    · exact .inl (Den.deep s (fun n a e h q => by cases q) d q h)
    · exact .inl (OwnAt.deep s (fun n a e h q => by cases q) q h)
  | succ k =>
    rcases h with h | ⟨a, rfl, h⟩
    · exact .inl (Den.deep s (fun n a e h q => res_hf s lv k n a e h q) d q h)
    · exact .inl (OwnAt.deep s (fun n a e h q => res_hf s lv k n a e h q) q h)
/-- a plain value -/
def imm : Val → Bool
  | .sh .non => true
  | .sh (.bl _) => true
  | .sh (.int _) => true
  | .sh (.str _) => true
  | _ => false
theorem imm_rel {T : Tx} {H H' : Hp} {F F' : Fz} {z : Val} {w : V} (hz : imm z = true) (h : NRel T H F H' z w) : NRel T H F' H' z w := by
  match z, hz, h with
  | .sh .non, _, h => exact h
  | .sh (.bl _), _, h => exact h
  | .sh (.int _), _, h => exact h
  | .sh (.str _), _, h => exact h
theorem deep_new {T : Tx} {F F' : Fz} {H H' : Hp} (s : Same F.hp H) (n : New T ⟨H, []⟩ H F' H') : New T F H F H' := ⟨n.hh, Ext.refl F, s.trans n.hh, fun _ _ _ => rfl, rfl⟩
section
variable {X : Cx} {W : WX}
def deepV (ρ : En) (v : Val) : Option D := (peek ρ v).bind (res ρ.l 5)
def op2D (g : D → D → Option Val) (ρ : En) (v w : Val) : R (Val × En) := match deepV ρ v, deepV ρ w with
  | some d, some e => (match g d e with
    | some z => if imm z = true then .ok (z, ρ) else .no
    | none => .no)
  | _, _ => .no
def evOpD (g : D → D → Option Val) (fa fb : FE) : FE := fun ρ => (fa ρ).bind fun r => (fb r.2).bind fun q => op2D g q.2 r.1 q.1
theorem deepV_peek {ρ : En} {v : Val} {d : D} (h : deepV ρ v = some d) : ∃ d0, peek ρ v = some d0 ∧ res ρ.l 5 d0 = some d := by
  unfold deepV at h
  cases e : peek ρ v with
  | none => rw [e] at h; cases h
  | some d0 => rw [e] at h; exact ⟨d0, rfl, h⟩
theorem evOpD_ok {fa fb : FE} {g : D → D → Option Val} {r : R2} (hr : ∀ (F : Fz) (H : Hp) (x y : V) (d e : D) (z : Val) (Q : VK), Same F H → Pk (.of X) F H d x → Pk (.of X) F H e y → g d e = some z → (∀ w F' H', New (.of X) F H F' H' → NRel (.of X) H F' H' z w → Q w H') → r x y H Q)
    {σ : Sg} {H : Hp} {Q : VK} (h : tOf (.of X) W (evOpD g fa fb) σ H Q) : tOp r (tOf (.of X) W fa) (tOf (.of X) W fb) σ H Q := by
  obtain ⟨ρ, F, rl, h⟩ := h
  unfold evOpD at h
  refine ⟨ρ, F, rl, ?_⟩
  cases ea : fa ρ with
  | no => rw [ea] at h; exact h
  | ex c n d ρ' => rw [ea] at h; exact h
  | ok ra =>
    simp only [ea, R.bind] at h
    intro x F1 H1 s1 v1
    obtain ⟨F2, s12, m2, p2⟩ := held_ok s1 v1
    refine ⟨ra.2, F2, s12.rel, ?_⟩
    cases eb : fb ra.2 with
    | no => simp only [eb] at h
    | ex c n d ρ' =>
      simp only [eb] at h
      exact fun F' H' cls dx s e => h F' H' cls dx (s12.trans s) e
    | ok rb =>
      simp only [eb] at h
      intro y F3 H3 s3 v3
      obtain ⟨F4, s4, m4, p4⟩ := held_ok s3 v3
      have s14 := s12.trans s4
      unfold op2D at h
      cases e1 : deepV rb.2 ra.1 with
      | none => simp only [e1] at h
      | some d =>
        cases e2 : deepV rb.2 rb.1 with
        | none => simp only [e1, e2] at h
        | some e =>
          simp only [e1, e2] at h
          cases e3 : g d e with
          | none => simp only [e3] at h
          | some z =>
            simp only [e3] at h
            by_cases hz : imm z = true
            · simp only [hz, if_true] at h
              obtain ⟨d0, q1, q2⟩ := deepV_peek e1
              obtain ⟨e0, q3, q4⟩ := deepV_peek e2
              have k1 := ((p2.mono s4.same).peek s4.rel (by rw [peek_held]; exact q1)).deep s4.rel.sub s4.rel.lv q2
              have k2 := (p4.peek s4.rel (by rw [peek_held]; exact q3)).deep s4.rel.sub s4.rel.lv q4
              refine hr ⟨H3, []⟩ H3 x y d e z Q (Same.refl _) k1 k2 e3 fun w F5 H5 n5 r5 => ?_
              have n6 := deep_new s4.rel.sub n5
              exact h w F4 H5 (s14.trans (n6.stp s4.rel)) (((imm_rel hz r5).vrel s4.rel n6).back s14)
            · simp only [hz] at h; exact h.elim
theorem se_cmpD {a b : Expr} {op : CmpOp} {pos : Pos} {fa fb : FE} {g : D → D → Option Val} (ho : OpS X (compareOp op) g) (ha : SE X W a fa) (hb : SE X W b fb) (hm : behindInMarks op b = false := by first | exact nomark _ | rfl) : SE X W (.Compare a [op] [b] pos) (evOpD g fa fb) := by
  obtain ⟨r, h1, h2⟩ := ho
  exact pe_imp (pe_cmpR h1 ha hb hm) fun σ H Q h => evOpD_ok h2 h
theorem st_cmpD {a b : Expr} {op : CmpOp} {pos : Pos} {fa fb : FE} {g : D → D → Option Val} (ho : OpS X (compareOp op) g) (ha : SE X W a fa) (hb : SE X W b fb) (hm : behindInMarks op b = false := by first | exact nomark _ | rfl) : ST X W (.Compare a [op] [b] pos) (ftVal (evOpD g fa fb)) := by
  obtain ⟨r, h1, h2⟩ := ho
  refine pt_imp (pt_cmpR h1 ha hb hm) fun σ H Q h => ?_
  have h := tB_of h
  exact evOpD_ok h2 h
/-- a built-in that reads one thing -/
def callD (g : List D → Option Val) (r : List Val × En) : R (Val × En) := match r.1 with
  | [v] => (match deepV r.2 v with
    | some d => (match g [d] with
      | some z => if imm z = true then .ok (z, r.2) else .no
      | none => .no)
    | none => .no)
  | _ => .no
def evBD (g : List D → Option Val) (f : FA) : FE := fun ρ => (f ρ).bind (callD g)
theorem evBD_ok {f : FA} {g : List D → Option Val} {r : List V → Hp → VK → Prop} (hr : ∀ (F : Fz) (H : Hp) (xs : List V) (ds : List D) (z : Val) (Q : VK), Same F.hp H → PkL (.of X) F H ds xs → g ds = some z → (∀ w F' H', New (.of X) F H F' H' → NRel (.of X) H F' H' z w → Q w H') → r xs H Q)
    {σ : Sg} {H : Hp} {Q : VK} (h : tOf (.of X) W (evBD g f) σ H Q) : tCB r (tOfA (.of X) W f) σ H Q := by
  obtain ⟨ρ, F, rl, h⟩ := h
  unfold evBD at h
  refine ⟨ρ, F, rl, ?_⟩
  cases ea : f ρ with
  | no => rw [ea] at h; exact h
  | ex c n d ρ' => rw [ea] at h; exact h
  | ok ra =>
    obtain ⟨vs, ρ1⟩ := ra
    simp only [ea, R.bind] at h
    intro xs F1 H1 s1 p1
    match vs, h, p1 with
    | [], h, _ => exact h.elim
    | _ :: _ :: _, h, _ => exact h.elim
    | [v], h, p1 =>
      unfold callD at h
      obtain ⟨x, r0, rfl, pv, p0⟩ := p1
      have p0 : r0 = [] := p0
      subst p0
      cases e1 : deepV ρ1 v with
      | none => simp only [e1] at h
      | some d =>
        simp only [e1] at h
        cases e2 : g [d] with
        | none => simp only [e2] at h
        | some z =>
          simp only [e2] at h
          by_cases hz : imm z = true
          · simp only [hz, if_true] at h
            obtain ⟨d0, q1, q2⟩ := deepV_peek e1
            have k1 := (pv.peek s1.rel q1).deep s1.rel.sub s1.rel.lv q2
            refine hr ⟨H1, []⟩ H1 [x] [d] z Q (Same.refl _) (.cons k1 .nil) e2 fun w F5 H5 n5 r5 => ?_
            have n6 := deep_new s1.rel.sub n5
            exact h w F1 H5 (s1.trans (n6.stp s1.rel)) (((imm_rel hz r5).vrel s1.rel n6).back s1)
          · simp only [hz] at h; exact h.elim
theorem se_bD {x : Str} {id : String} {e : Expr} {es : List Expr} {p pos : Pos} {f : FA} {g : List D → Option Val} (hc : CallS X (.builtin id) g) (hm : X.mg x = none) (hv : bootBuiltins x = some (.builtin id)) (ha : SA X W (e :: es) f) (hg : Gl X x := by rfl) (hn : x ≠ "__name__" := by decide) (hdb : (x == ("__debug__" : Str)) = false := by decide)
    (he : starEach (e :: es) X.env = (false, eval e X.env) :: starEach es X.env := by rfl) (hpl : (backTo pos (starEach es X.env)).any (·.1) = false := by rfl) : SE X W (.Call (.Name x p) (e :: es) [] pos) (evBD g f) := by
  obtain ⟨r, h1, h2⟩ := hc
  exact pe_imp (pe_callB h1 hg hm hv ha hn hdb he hpl) fun σ H Q h => evBD_ok h2 h
end
/-! ### rules -/
section
variable {P : Val × En → Prop} {E : Str → Str → D → En → Prop} {ρ ρ1 : En} {f fa fb : FE} {a : FA} {v w : Val} {d e : D} {z : Val}
theorem wp_opD {o : D → D → Option Val} (k : (fa ρ).wp (fun r => (fb r.2).wp (fun q => (op2D o q.2 r.1 q.1).wp P E) E) E) : (evOpD o fa fb ρ).wp P E := by
  unfold evOpD
  exact wp_bind (R.wp_mono k (fun r h => wp_bind h) fun _ _ _ _ z => z)
theorem wp_op2D {o : D → D → Option Val} (h1 : deepV ρ v = some d) (h2 : deepV ρ w = some e) (h3 : o d e = some z) (hz : imm z = true) (k : P (z, ρ)) : (op2D o ρ v w).wp P E := by simp only [op2D, h1, h2, h3, hz, if_true]; exact ⟨k⟩
theorem wp_bD {o : List D → Option Val} (k : (a ρ).wp (fun r => (callD o r).wp P E) E) : (evBD o a ρ).wp P E := by unfold evBD; exact wp_bind k
theorem wp_callD {o : List D → Option Val} (h1 : deepV ρ v = some d) (h3 : o [d] = some z) (hz : imm z = true) (k : P (z, ρ)) : (callD o ([v], ρ)).wp P E := by simp only [callD, h1, h3, hz, if_true]; exact ⟨k⟩
end
/-! ### what has no live part reads as itself -/
mutual
def pure' : D → Bool
  | .lst ds => pures ds
  | .tup ds => pures ds
  | .dK _ ds => pures ds
  | .dT _ ds => pures ds
  | .ins _ _ ds => pures ds
  | .exn _ _ d => pure' d
  | .ref _ => false
  | _ => true
def pures : List D → Bool
  | [] => true
  | d :: ds => pure' d && pures ds
end
mutual
theorem mapR_pure {f : Nat → Option D} : ∀ (d : D), pure' d = true → mapR f d = some d
  | .lst ds, h => by simp only [mapR, mapRs_pure ds h, Option.map_some]
  | .tup ds, h => by simp only [mapR, mapRs_pure ds h, Option.map_some]
  | .dK _ ds, h => by simp only [mapR, mapRs_pure ds h, Option.map_some]
  | .dT _ ds, h => by simp only [mapR, mapRs_pure ds h, Option.map_some]
  | .ins _ _ ds, h => by simp only [mapR, mapRs_pure ds h, Option.map_some]
  | .exn _ _ d, h => by simp only [mapR, mapR_pure d h, Option.map_some]
  | .ref _, h => by cases h
  | .non, _ => rfl
  | .bl _, _ => rfl
  | .int _, _ => rfl
  | .str _, _ => rfl
  | .ty _, _ => rfl
  | .glo _, _ => rfl
  | .scr _, _ => rfl
theorem mapRs_pure {f : Nat → Option D} : ∀ (ds : List D), pures ds = true → mapRs f ds = some ds
  | [], _ => rfl
  | d :: ds, h => by
    have h : (pure' d && pures ds) = true := h
    rw [Bool.and_eq_true] at h
    simp only [mapRs, mapR_pure d h.1, mapRs_pure ds h.2]
end
theorem res_pure {L : List D} {d : D} (h : pure' d = true) : ∀ k : Nat, res L k d = some d
  | 0 => mapR_pure d h
  | k + 1 => mapR_pure d h
theorem mapRs_map {α : Type} {f : Nat → Option D} {g g' : α → D} : ∀ (l : List α), (∀ a ∈ l, mapR f (g a) = some (g' a)) → mapRs f (l.map g) = some (l.map g')
  | [], _ => rfl
  | a :: l, h => by
    simp only [List.map_cons, mapRs, h a (by simp), mapRs_map l fun b hb => h b (by simp [hb])]
theorem pures_of {ds : List D} (h : ∀ d ∈ ds, pure' d = true) : pures ds = true := by
  induction ds with
  | nil => rfl
  | cons d ds ih =>
    show (pure' d && pures ds) = true
    rw [h d (by simp), ih fun e he => h e (by simp [he])]
    rfl
theorem pures_ints (ns : List Int) : pures (ns.map .int) = true := pures_of fun d hd => by
  obtain ⟨n, _, rfl⟩ := List.mem_map.mp hd
  rfl
theorem deepV_pure {ρ : En} {v : Val} {d : D} (h : peek ρ v = some d) (p : pure' d = true) : deepV ρ v = some d := by
  unfold deepV
  rw [h]
  exact res_pure p 5
/-! ### walks over lists that may be live, and stay -/
/-- the items are as they were taken -/
def Agr (L : List D) (t : Its) : Prop := t.lv = none ∨ ∃ n, t.lv = some n ∧ L[n]? = some (.lst t.ds)
theorem Agr.cur {L : List D} {t : Its} {i : Nat} {d : D} (h : Agr L t) (e : t.ds[i]? = some d) : cur L t.lv i d = some d := by
  rcases h with h | ⟨n, h, q⟩
  · rw [h]; rfl
  · rw [h]; simp only [Tr.cur, q]; exact e
theorem Agr.fin {L : List D} {t : Its} (h : Agr L t) : fin L t.lv t.ds.length = true := by
  rcases h with h | ⟨n, h, q⟩
  · rw [h]; rfl
  · rw [h]; simp only [Tr.fin, q]; simp
section
variable {P : Fl × En → Prop} {E : Str → Str → D → En → Prop} {ρ ρ0 ρ1 : En} {k : FS} {p : Pat} {d : D}
/-- a loop over items that stay while it runs, by an invariant -/
theorem wp_loopA {t : Its} (I : Nat → En → Prop) (ha : ∀ n ρ, I n ρ → Agr ρ.l t) (h0 : I 0 ρ) (step : ∀ (n : Nat) (d : D) (ρ : En), t.ds[n]? = some d → I n ρ → ∃ ρ1, bindP p d ρ = some ρ1 ∧ (k ρ1).wp (turnK (I (n + 1)) P) E) (fin : ∀ ρ, I t.ds.length ρ → P (.nx, ρ)) : (loopD p k t.lv 0 t.ds ρ).wp P E := by
  have main : ∀ (es : List D) (n : Nat) (ρ : En), t.ds.drop n = es → n ≤ t.ds.length → I n ρ → (loopD p k t.lv n es ρ).wp P E := by
    intro es
    induction es with
    | nil =>
      intro n ρ e hn h
      have : t.ds.length ≤ n := by
        have := congrArg List.length e
        rw [List.length_drop] at this
        simp at this
        omega
      have : n = t.ds.length := by omega
      subst this
      simp only [loopD, (ha _ _ h).fin, if_true]
      exact ⟨fin ρ h⟩
    | cons d es ih =>
      intro n ρ e hn h
      have hlt : n < t.ds.length := by
        have := congrArg List.length e
        rw [List.length_drop] at this
        simp at this
        omega
      have hd : t.ds[n]? = some d := by
        have := congrArg (fun l : List D => l[0]?) e
        simpa using this
      obtain ⟨ρ1, h1, h2⟩ := step n d ρ hd h
      have he : t.ds.drop (n + 1) = es := by
        have := congrArg List.tail e
        simpa using this
      simp only [loopD, (ha _ _ h).cur hd, h1]
      refine wp_bind (R.wp_mono h2 (fun r q => ?_) fun _ _ _ _ z => z)
      obtain ⟨fl, ρ2⟩ := r
      cases fl with
      | nx => exact ih (n + 1) ρ2 he (by omega) q
      | ct => exact ih (n + 1) ρ2 he (by omega) q
      | bk => exact ⟨q⟩
      | rt v => exact ⟨q⟩
  exact main t.ds 0 ρ rfl (Nat.zero_le _) h0
end
section
variable {E : Str → Str → D → En → Prop} {ρ ρ0 ρ1 : En} {f : FE} {g : FT} {ws : List Nat} {p : Pat} {d : D}
/-- a comprehension over items that stay while it runs, by an invariant -/
theorem wp_lcA {t : Its} {P : List D × En → Prop} (I : Nat → List D → En → Prop) (ha : ∀ n done ρ, I n done ρ → Agr ρ.l t) (h0 : I 0 [] ρ) (step : ∀ (n : Nat) (d : D) (done : List D) (ρ : En), t.ds[n]? = some d → I n done ρ → ∃ ρ1, bindP p d ρ = some ρ1 ∧ (g ρ1).wp (fun r => if r.1 = true then (f r.2).wp (fun q => (lcV ws q).wp (fun z => I (n + 1) (done ++ [z.1]) z.2) (fun _ _ _ _ => False)) (fun _ _ _ _ => False) else I (n + 1) done (wipeE r.2 ws)) (fun _ _ _ _ => False))
    (fin : ∀ done ρ, I t.ds.length done ρ → P (done, ρ)) : (lcL ws p g f t.lv 0 t.ds ρ).wp P E := by
  have main : ∀ (es : List D) (n : Nat) (done : List D) (ρ : En), t.ds.drop n = es → n ≤ t.ds.length → I n done ρ → (lcL ws p g f t.lv n es ρ).wp (fun q => P (done ++ q.1, q.2)) E := by
    intro es
    induction es with
    | nil =>
      intro n done ρ e hn h
      have : t.ds.length ≤ n := by
        have := congrArg List.length e
        rw [List.length_drop] at this
        simp at this
        omega
      have : n = t.ds.length := by omega
      subst this
      simp only [lcL, (ha _ _ _ h).fin, if_true]
      exact ⟨by show P (done ++ [], ρ); rw [List.append_nil]; exact fin done ρ h⟩
    | cons d es ih =>
      intro n done ρ e hn h
      have hlt : n < t.ds.length := by
        have := congrArg List.length e
        rw [List.length_drop] at this
        simp at this
        omega
      have hd : t.ds[n]? = some d := by
        have := congrArg (fun l : List D => l[0]?) e
        simpa using this
      obtain ⟨ρ1, h1, h2⟩ := step n d done ρ hd h
      have he : t.ds.drop (n + 1) = es := by
        have := congrArg List.tail e
        simpa using this
      simp only [lcL, (ha _ _ _ h).cur hd, h1]
      refine wp_bind (wp_sure (R.wp_mono h2 (fun r q => ?_) fun _ _ _ _ z => z))
      obtain ⟨b, ρ2⟩ := r
      cases b with
      | false => exact ih (n + 1) done _ he (by omega) q
      | true =>
        simp only [if_true] at q ⊢
        refine wp_bind (wp_sure (R.wp_mono q (fun r q => ?_) fun _ _ _ _ z => z))
        obtain ⟨v, ρ3⟩ := r
        unfold lcV at q
        simp only at q
        cases e : frz ρ3 v with
        | none => simp only [e] at q; exact q.out.elim
        | some z =>
          simp only [e] at q ⊢
          have q := q.out
          refine wp_bind (R.wp_mono (ih (n + 1) (done ++ [z.1]) _ he (by omega) q) (fun y q => ?_) fun _ _ _ _ z => z)
          refine ⟨?_⟩
          rw [List.append_assoc] at q
          exact q
  have h := main t.ds 0 [] ρ rfl (Nat.zero_le _) h0
  exact R.wp_mono h (fun y q => by simpa using q) fun _ _ _ _ z => z
/-- each item gives its own, the state stays -/
theorem wp_lcmapA {t : Its} {P : List D × En → Prop} {y : D → D} (ha : Agr ρ.l t) (hd : ∀ d ∈ t.ds, ∃ ρ1, bindP p d ρ = some ρ1 ∧ (f ρ1).wp (fun q => (lcV ws q).wp (fun z => z = (y d, ρ)) (fun _ _ _ _ => False)) (fun _ _ _ _ => False)) (k : P (t.ds.map y, ρ)) : (lcL ws p ftYes f t.lv 0 t.ds ρ).wp P E := by
  refine wp_lcA (I := fun n done ρ' => ρ' = ρ ∧ done = (t.ds.take n).map y) (fun n done ρ' h => by rw [h.1]; exact ha) ⟨rfl, rfl⟩ (fun n d done ρ' e h => ?_) (fun done ρ' h => ?_)
  · obtain ⟨rfl, rfl⟩ := h
    obtain ⟨ρ1, h1, h2⟩ := hd d (List.mem_of_getElem? e)
    refine ⟨ρ1, h1, wp_yes ?_⟩
    simp only [if_true]
    refine R.wp_mono h2 (fun q h => R.wp_mono h (fun z h => ?_) fun _ _ _ _ z => z) fun _ _ _ _ z => z
    subst h
    refine ⟨rfl, ?_⟩
    have hn : n < t.ds.length := (List.getElem?_eq_some_iff.mp e).1
    rw [List.take_succ_eq_append_getElem hn, List.map_append]
    have : t.ds[n] = d := (List.getElem?_eq_some_iff.mp e).2
    rw [this]
    rfl
  · obtain ⟨rfl, rfl⟩ := h
    rw [List.take_length]
    exact k
end
/-- what is walked, by a tree that is a list, live or not -/
theorem asQ_look {ρ : En} {d : D} {ds : List D} (h : look ρ.l d = some (.lst ds)) : ∃ t : Its, asQ (.sh d, ρ) = .ok (t, ρ) ∧ t.ds = ds ∧ Agr ρ.l t := by
  cases d with
  | ref n =>
    have h : ρ.l[n]? = some (.lst ds) := h
    exact ⟨⟨ds, some n⟩, by simp only [asQ, h], rfl, .inr ⟨n, rfl, h⟩⟩
  | lst es => cases h; exact ⟨⟨ds, none⟩, rfl, rfl, .inl rfl⟩
  | _ => cases h
end Tr
/-! Tr, part U: data: what repr writes, equal to itself. -/
namespace Tr
open PySem PySem.Spec PyProof.Rows L2
mutual
/-- data that repr writes, its text made of plain signs -/
def wsB : D → Bool
  | .non => true
  | .bl _ => true
  | .int i => decide (i.natAbs < 2 ^ 600)
  | .str x => PyData.strOk x && PyData.strOk (reprText x)
  | .lst ds => wsBs ds
  | .tup ds => wsBs ds
  | .dK [] [] => true
  | .dK [.inr k] [.int i] => PyData.strOk k && PyData.strOk (reprText k) && decide (i.natAbs < 2 ^ 600)
  | _ => false
def wsBs : List D → Bool
  | [] => true
  | d :: ds => wsB d && wsBs ds
end
mutual
theorem ws_py : ∀ (d : D), wsB d = true → wrB d = true ∧ ∀ p, toPr d = some p → PyData.strOk p.shown = true
  | .non, _ => ⟨rfl, fun p e => by cases e; decide +kernel⟩
  | .bl b, _ => ⟨rfl, fun p e => by cases e; cases b <;> decide +kernel⟩
  | .int i, h => ⟨h, fun p e => by cases e; exact strOk_ofString _⟩
  | .str x, h => by
    have h : (PyData.strOk x && PyData.strOk (reprText x)) = true := h
    rw [Bool.and_eq_true] at h
    exact ⟨h.1, fun p e => by cases e; exact h.2⟩
  | .lst ds, h => by
    obtain ⟨h1, h2⟩ := ws_pys ds h
    refine ⟨h1, fun p e => ?_⟩
    simp only [toPr, Option.map_eq_some_iff] at e
    obtain ⟨ps, e1, rfl⟩ := e
    exact strOk_listText (h2 ps e1)
  | .tup ds, h => by
    obtain ⟨h1, h2⟩ := ws_pys ds h
    refine ⟨h1, fun p e => ?_⟩
    simp only [toPr, Option.map_eq_some_iff] at e
    obtain ⟨ps, e1, rfl⟩ := e
    exact strOk_tupleText (h2 ps e1)
  | .dK ks ds, h => by
    unfold wsB at h
    split at h <;> first | (rename_i z; cases z; done) | (cases h; done) | skip
    · rename_i z
      cases z
      exact ⟨rfl, fun p e => by cases e; decide +kernel⟩
    · rename_i k i z
      cases z
      rw [Bool.and_eq_true, Bool.and_eq_true] at h
      refine ⟨by show (PyData.strOk k && _) = true; rw [h.1.1, h.2]; rfl, fun p e => ?_⟩
      cases e
      show PyData.strOk (("{" : Str) ++ Str.join ", " [reprText k ++ ": " ++ PyData.shown (.int i)] ++ "}") = true
      refine strOk_append (strOk_append (strOk_ofString _) (strOk_join fun t ht => ?_)) (strOk_ofString _)
      rw [List.mem_singleton.mp ht]
      exact strOk_append (strOk_append h.1.2 (strOk_ofString _)) (strOk_ofString _)
  | .dT _ _, h => by cases h
  | .ins _ _ _, h => by cases h
  | .exn _ _ _, h => by cases h
  | .ty _, h => by cases h
  | .glo _, h => by cases h
  | .scr _, h => by cases h
  | .ref _, h => by cases h
theorem ws_pys : ∀ (ds : List D), wsBs ds = true → wrBs ds = true ∧ ∀ ps, toPrs ds = some ps → ∀ t ∈ PyData.shownAll ps, PyData.strOk t = true
  | [], _ => ⟨rfl, fun ps e t ht => by cases e; cases ht⟩
  | d :: ds, h => by
    have h : (wsB d && wsBs ds) = true := h
    rw [Bool.and_eq_true] at h
    obtain ⟨a1, a2⟩ := ws_py d h.1
    obtain ⟨b1, b2⟩ := ws_pys ds h.2
    refine ⟨by simp only [wrBs, a1, b1, Bool.and_self], fun ps e t ht => ?_⟩
    simp only [toPrs] at e
    cases e1 : toPr d with
    | none => simp only [e1] at e; cases e
    | some p =>
      cases e2 : toPrs ds with
      | none => simp only [e1, e2] at e; cases e
      | some qs =>
        simp only [e1, e2] at e
        cases e
        simp only [PyData.shownAll] at ht
        rcases List.mem_cons.mp ht with rfl | ht
        · exact a2 p e1
        · exact b2 qs e2 t ht
end
structure Ws (d : D) : Prop where
  ok : wsB d = true
  bk : bk d ≤ 10000
  dp : dp d ≤ 50
theorem Ws.wr {d : D} (h : Ws d) : Wr d := ⟨(ws_py d h.ok).1, h.bk, h.dp⟩
theorem Ws.repr {d : D} (h : Ws d) : ∃ s, reprR [d] = some (.sh (.str s)) ∧ PyData.strOk s = true := by
  obtain ⟨p, h1, h2, h3, h4, h5⟩ := wr_py d h.wr.ok
  have hl := PyData.shown_le_bulk 601 (by decide) p h3
  have q1 := h.bk
  have q2 := h.dp
  have : (601 + 2) * p.bulk ≤ 603 * 10000 := Nat.mul_le_mul (Nat.le_refl _) (by omega)
  exact ⟨_, reprR_ok h1 h2 (by omega) (by omega), (ws_py d h.ok).2 p h1⟩
/-! ### equal to itself -/
mutual
/-- data without dicts -/
def eqsB : D → Bool
  | .non => true
  | .bl _ => true
  | .int _ => true
  | .str x => PyData.strOk x
  | .lst ds => eqsBs ds
  | .tup ds => eqsBs ds
  | _ => false
def eqsBs : List D → Bool
  | [] => true
  | d :: ds => eqsB d && eqsBs ds
end
mutual
theorem eqs_py : ∀ (d : D), eqsB d = true → ∃ p, toPy d = some p ∧ p.canLay0 = true ∧ p.depth = dp d
  | .non, _ => ⟨_, rfl, rfl, rfl⟩
  | .bl _, _ => ⟨_, rfl, rfl, rfl⟩
  | .int _, _ => ⟨_, rfl, rfl, rfl⟩
  | .str _, h => ⟨_, rfl, h, rfl⟩
  | .lst ds, h => by
    obtain ⟨ps, h1, h2, h3⟩ := eqs_pys ds h
    exact ⟨.list ps, by simp only [toPy, h1, Option.map_some], h2, by simp only [PyData.depth, dp, h3]⟩
  | .tup ds, h => by
    obtain ⟨ps, h1, h2, h3⟩ := eqs_pys ds h
    exact ⟨.tuple ps, by simp only [toPy, h1, Option.map_some], h2, by simp only [PyData.depth, dp, h3]⟩
  | .dK _ _, h => by cases h
  | .dT _ _, h => by cases h
  | .ins _ _ _, h => by cases h
  | .exn _ _ _, h => by cases h
  | .ty _, h => by cases h
  | .glo _, h => by cases h
  | .scr _, h => by cases h
  | .ref _, h => by cases h
theorem eqs_pys : ∀ (ds : List D), eqsBs ds = true → ∃ ps, toPys ds = some ps ∧ PyData.canLayAll0 ps = true ∧ PyData.depthAll ps = dps ds
  | [], _ => ⟨[], rfl, rfl, rfl⟩
  | d :: ds, h => by
    have h : (eqsB d && eqsBs ds) = true := h
    rw [Bool.and_eq_true] at h
    obtain ⟨p, a1, a2, a3⟩ := eqs_py d h.1
    obtain ⟨ps, b1, b2, b3⟩ := eqs_pys ds h.2
    exact ⟨p :: ps, by simp only [toPys, a1, b1], by simp only [PyData.canLayAll0, a2, b2, Bool.and_self], by simp only [PyData.depthAll, dps, a3, b3]⟩
end
theorem eqX_self {d : D} (h : eqsB d = true) (hd : dp d ≤ 60) : eqX d d = some true := by
  obtain ⟨p, h1, h2, h3⟩ := eqs_py d h
  have e := SeqAt.eqv_refl p h2
  rw [eqX_py h1 h1 h2 h2 (by omega) (by omega) (.inl e), e]
theorem neDX_self {d : D} (h : eqsB d = true) (hd : dp d ≤ 60) : neDX d d = some (vB false) := by unfold neDX; rw [eqX_self h hd]; rfl
theorem eqDX_self {d : D} (h : eqsB d = true) (hd : dp d ≤ 60) : eqDX d d = some (vB true) := by unfold eqDX; rw [eqX_self h hd]; rfl
theorem eqsBs_of {ds : List D} (h : ∀ d ∈ ds, eqsB d = true) : eqsBs ds = true := by
  induction ds with
  | nil => rfl
  | cons d ds ih =>
    show (eqsB d && eqsBs ds) = true
    rw [h d (by simp), ih fun e he => h e (by simp [he])]
    rfl
theorem wsBs_of {ds : List D} (h : ∀ d ∈ ds, wsB d = true) : wsBs ds = true := by
  induction ds with
  | nil => rfl
  | cons d ds ih =>
    show (wsB d && wsBs ds) = true
    rw [h d (by simp), ih fun e he => h e (by simp [he])]
    rfl
theorem wsBs_mem {ds : List D} (h : wsBs ds = true) : ∀ d ∈ ds, wsB d = true := by
  induction ds with
  | nil => intro d hd; cases hd
  | cons e ds ih =>
    have h : (wsB e && wsBs ds) = true := h
    rw [Bool.and_eq_true] at h
    intro d hd
    rcases List.mem_cons.mp hd with rfl | z
    · exact h.1
    · exact ih h.2 d z
theorem wsBs_app (xs ys : List D) : wsBs (xs ++ ys) = (wsBs xs && wsBs ys) := by
  induction xs with
  | nil => rfl
  | cons x xs ih => simp only [List.cons_append, wsBs, ih, Bool.and_assoc]
/-! ### bounds of data, by parts -/
/-- d can be written; it has at most b parts, p deep -/
structure Pw (d : D) (b p : Nat) : Prop where
  ok : wsB d = true
  bk : bk d ≤ b
  dp : dp d ≤ p
structure Pws (ds : List D) (b p : Nat) : Prop where
  ok : wsBs ds = true
  bk : bks ds ≤ b
  dp : dps ds ≤ p
theorem Pw.ws {d : D} {b p : Nat} (h : Pw d b p) (hb : b ≤ 10000) (hp : p ≤ 50) : Ws d := ⟨h.ok, Nat.le_trans h.bk hb, Nat.le_trans h.dp hp⟩
theorem Pw.up {d : D} {b p b' p' : Nat} (h : Pw d b p) (hb : b ≤ b') (hp : p ≤ p') : Pw d b' p' := ⟨h.ok, Nat.le_trans h.bk hb, Nat.le_trans h.dp hp⟩
theorem Pws.up {d : List D} {b p b' p' : Nat} (h : Pws d b p) (hb : b ≤ b') (hp : p ≤ p') : Pws d b' p' := ⟨h.ok, Nat.le_trans h.bk hb, Nat.le_trans h.dp hp⟩
theorem Pws.nil : Pws [] 0 0 := ⟨rfl, Nat.le_refl _, Nat.le_refl _⟩
theorem Pws.cons {d : D} {ds : List D} {b p c q : Nat} (h : Pw d b p) (t : Pws ds c q) : Pws (d :: ds) (b + 1 + c) (max p q) := ⟨by simp only [wsBs, h.ok, t.ok, Bool.and_self], by
  have := h.bk; have := t.bk; simp only [bks]; omega, by have := h.dp; have := t.dp; simp only [dps]; omega⟩
theorem Pws.app {ds es : List D} {b p c q : Nat} (h : Pws ds b p) (t : Pws es c q) : Pws (ds ++ es) (b + c) (max p q) := ⟨by rw [wsBs_app, h.ok, t.ok]; rfl, by
  have := h.bk; have := t.bk; rw [bks_app]; omega, by have := h.dp; have := t.dp; rw [dps_app]; omega⟩
theorem Pws.tup {ds : List D} {b p : Nat} (h : Pws ds b p) : Pw (.tup ds) b (p + 1) := ⟨h.ok, h.bk, by have := h.dp; simp only [Tr.dp]; omega⟩
theorem Pws.lst {ds : List D} {b p : Nat} (h : Pws ds b p) : Pw (.lst ds) b (p + 1) := ⟨h.ok, h.bk, by have := h.dp; simp only [Tr.dp]; omega⟩
theorem Pws.get {ds : List D} {b p : Nat} {d : D} (h : Pws ds b p) (hd : d ∈ ds) : Pw d b p := ⟨wsBs_mem h.ok d hd, by have := h.bk; have := bks_mem hd; omega, by have := h.dp; have := dps_mem hd; omega⟩
theorem Pws.len {ds : List D} {b p : Nat} (h : Pws ds b p) : ds.length ≤ b := Nat.le_trans (bks_len ds) h.bk
theorem Pws.cut {ds : List D} {b p : Nat} (h : Pws ds b p) (lo hi : Option Int) : Pws (cut ds lo hi) b p := ⟨wsBs_of fun d hd => wsBs_mem h.ok d (cut_mem hd), by
  have := h.bk; have := bks_take (HT.sIx ds.length ds.length hi - HT.sIx ds.length 0 lo) (ds.drop (HT.sIx ds.length 0 lo)); have := bks_drop (HT.sIx ds.length 0 lo) ds; unfold Tr.cut; omega, dps_le fun d hd => by have := h.dp; have := dps_mem (cut_mem hd); omega⟩
theorem Pw.int {i : Int} (h : i.natAbs < 2 ^ 150) : Pw (.int i) 0 0 := ⟨decide_eq_true (up150 h), Nat.le_refl _, Nat.le_refl _⟩
theorem Pws.ints {ns : List Int} (h : ∀ n ∈ ns, n.natAbs < 2 ^ 150) : Pws (ns.map .int) ns.length 0 := ⟨wsBs_of fun d hd => by
  obtain ⟨n, hn, rfl⟩ := List.mem_map.mp hd
  exact decide_eq_true (up150 (h n hn)), Nat.le_of_eq (ints_bk ns), Nat.le_of_eq (ints_dp ns)⟩
theorem Pws.ints2 {ns : List Int} (h : ∀ n ∈ ns, n.natAbs < 2 ^ 250) : Pws (ns.map .int) ns.length 0 := ⟨wsBs_of fun d hd => by
  obtain ⟨n, hn, rfl⟩ := List.mem_map.mp hd
  exact decide_eq_true (up250 (h n hn)), Nat.le_of_eq (ints_bk ns), Nat.le_of_eq (ints_dp ns)⟩
theorem LpOk.pw {m : Nat} {l : Int × List Int} (h : LpOk m l) : Pw (lpD l) (m + 2) 2 := ((Pws.cons (Pw.int h.cb) (.cons ((Pws.ints h.bd).tup) .nil)).tup).up (by rw [h.len]; omega) (by omega)
theorem loops_pw {m : Nat} : ∀ {ls : List (Int × List Int)}, (∀ l ∈ ls, LpOk m l) → Pws (ls.map lpD) (ls.length * (m + 3)) 2
  | [], _ => ⟨rfl, Nat.zero_le _, Nat.zero_le _⟩
  | l :: ls, h => (Pws.cons (h l (by simp)).pw (loops_pw fun k hk => h k (by simp [hk]))).up (by simp only [List.length_cons, Nat.succ_mul]; omega) (by omega)
theorem NsOk.pw {m : Nat} {ls : List (Int × List Int)} {pl : List Int} {am : Int} (h : NsOk m ls pl am) : Pw (nsD ls pl am) (ls.length * (m + 3) + m + 3) 4 :=
  ((Pws.cons (loops_pw h.lo).lst (.cons ((Pws.ints2 h.bd).tup) (.cons (Pw.int h.am) .nil))).tup).up (by rw [h.len]; omega) (by omega)
end Tr
/-! Tr, part T: tuple * 1; a list unpacked into names. -/
namespace Tr
open PySem PySem.Spec PyProof.Rows L2
theorem tuple_mul1 (l : Addr) (items : Array Value) (n : Nat) (dd : Option Addr) (sl : Array (Option Value)) (u : Tok) :
    Meets (Builtin.«tuple.__mul__» ⟨[.ref l, .int 1 u], []⟩) (fun _ R s => s.heap.get? l = some { cls := .type "tuple", dict := dd, data := .seq items n, slots := sl } ∧ R (.ok (.ret (Value.ref l))) s) :=
  .of_wp fun prog w A R s h => by
    obtain ⟨hp, g, d, tk, os⟩ := s
    obtain ⟨hl, h⟩ := h
    have f1 := AutoSeq1.idx_int
    wp_walk using wpAny_loadPart' hl
    exact ⟨_, rfl, h⟩
def rRep1 (K : PySem.W.Frag) : R2 := fun x y H Q => ∃ l xs, x = .ref l ∧ y = .int 1 ∧ SqT K H l xs ∧ Q (.ref l) H
section
variable {X : Cx} {W : WX}
theorem op_rep1 : OpR X (binaryOp .Mult) (rRep1 X.K) := by
  intro pins s σ H x y v u Q I rx ry h
  obtain ⟨l, xs, rfl, rfl, hT, q⟩ := h
  cases rx
  obtain ⟨t, rfl⟩ := ry
  obtain ⟨its, r, ⟨⟨cls, dd, data, sl⟩, ho, hc, n, hd⟩, hs⟩ := I.tuple hT
  simp only at hc hd
  subst hc hd
  refine wpAny_binaryOp_repeat_ref (T := "tuple") (U := "int") (by decide) ⟨_, ho, rfl⟩ (fun s' => typeIs_int s' 1 t) noFill_tuple_mul F.fills_int_mul F.slot_int_rmul repeat_tuple F.slot_int_index.lookup
    (call_meets F.slot_int_rmul (typeIs_int s 1 t) F.entry_int_rmul (F.args_int_rmul_2 _ _) (int_rmul_tuple 1 t l its.toArray n dd sl)
      ⟨ho, rfl, ⟨_, ho, rfl⟩, call_meets F.slot_tuple_mul ⟨_, ho, rfl⟩ F.entry_tuple_mul (F.args_tuple_mul_2 _ _) (tuple_mul1 l its.toArray n dd sl t) ⟨ho, ?_⟩⟩)
  exact ⟨.ref l, H, I, rfl, q⟩
/-- * with tuples of any number of times from 1 on -/
def mulX : D → D → Option Val
  | .tup xs, .int 1 => some (.sh (.tup xs))
  | d, e => mulD d e
theorem os_mulX : OpS X (binaryOp .Mult) mulX := by
  obtain ⟨r, h1, h2⟩ := os_mul (X := X)
  refine ⟨_, OpR.or op_rep1 h1, fun F H x y d e z Q s px py hg k => ?_⟩
  unfold mulX at hg
  split at hg
  · cases hg
    obtain ⟨a, xs, e1, h3, d1, f1⟩ := px.tup s
    exact .inl ⟨a, xs, e1, py.int, h3, plainQ s k ⟨a, xs, rfl, f1, d1⟩⟩
  · exact .inr (h2 F H x y d e z Q s px py hg k)
theorem mulX_i {a b : Int} {m n : Nat} (ha : Sz a m) (hb : Sz b n) (h : m + n < 1000000) : mulX (.int a) (.int b) = some (vI (a * b)) := mulD_i ha hb h
/-! ### a new object that is not changed any more -/
def frzN (r : Val × En) : R (Val × En) := match r.1 with
  | .fr d => .ok (.sh d, r.2)
  | v => .ok (v, r.2)
def evFrz (f : FE) : FE := fun ρ => (f ρ).bind frzN
theorem se_frz {e : Expr} {f : FE} (h : SE X W e f) : SE X W e (evFrz f) := pe_imp h fun σ H Q ⟨ρ, F, rl, h⟩ => by
  refine ⟨ρ, F, rl, ?_⟩
  unfold evFrz at h
  cases ea : f ρ with
  | no => rw [ea] at h; exact h
  | ex c n d ρ' => rw [ea] at h; exact h
  | ok ra =>
    obtain ⟨v, ρ'⟩ := ra
    simp only [ea, R.bind] at h
    intro x F1 H1 s1 v1
    cases v with
    | sh d => exact h x F1 H1 s1 v1
    | rf i => exact h x F1 H1 s1 v1
    | fr d =>
      obtain ⟨a, rfl, hn, h0, no, ho⟩ := v1
      obtain ⟨s2, q, m⟩ := s1.freezeNew hn h0 no ho
      exact h _ _ H1 s2 q
/-! ### a, b = a list -/
def fsPatL (ps : List Pat) (f : FE) : FS := fsVal f fun v ρ => match frz ρ v with
  | some (.lst ds, ρ1) => (match bindPs ps ds ρ1 with
    | some ρ2 => .ok (.nx, ρ2)
    | none => .no)
  | _ => .no
theorem bindPs_len : ∀ (ps : List Pat) (ds : List D) (ρ ρ' : En), bindPs ps ds ρ = some ρ' → ps.length = ds.length
  | [], [], _, _, _ => rfl
  | [], _ :: _, _, _, q => by simp [bindPs] at q
  | _ :: _, [], _, _, q => by simp [bindPs] at q
  | p :: ps, d :: ds, ρ, ρ', q => by
    simp only [bindPs] at q
    cases e1 : bindP p d ρ with
    | none => simp only [e1] at q; cases q
    | some ρ1 => simp only [e1] at q; rw [List.length_cons, List.length_cons, bindPs_len ps ds ρ1 ρ' q]
theorem ss_patL {es : List Expr} {kt : Nat} {pt : Pos} {e : Expr} {ps : List Pat} {f : FE} {pos : Pos} (hc : X.calm = true) (he : SE X W e f) (hg : SGs X es ps) (hl : ps.length = es.length := by rfl)
    (hn : (assignEach es X.env).length = es.length := by rfl) (hst : (assignEach es X.env).findIdx? (·.1) = none := by rfl)
    (hs : swapsWithSole [.Tuple es kt pt] e pos.line X.env = pure false := by rfl) (hw : swappedStores [.Tuple es kt pt] e X.env = pure none := by rfl)
    (h1 : (assignEach [.Tuple es kt pt] X.env).map (·.2) = [assign (.Tuple es kt pt) X.env] := by rfl) : SS X W (.Assign [.Tuple es kt pt] e pos) (fsPatL ps f) :=
  ps_imp (ps_asg he (pg_unl (n := es.length) hc hg hn hst) hs hw h1) fun D σ H h => fsVal_ok h fun ρ F v ρ1 x F1 H1 s1 v1 q => by
    cases e1 : frz ρ1 v with
    | none => simp only [e1] at q
    | some z =>
      obtain ⟨d, ρ2⟩ := z
      cases d with
      | lst ds =>
        simp only [e1] at q
        cases e2 : bindPs ps ds ρ2 with
        | none => simp only [e2] at q
        | some ρ3 =>
          simp only [e2] at q
          obtain ⟨F2, s2, _, a, xs, rfl, h2, h3⟩ := frz_val s1 v1 e1
          refine ⟨a, xs, rfl, SqL.of (s2.rel.sub _ _ h2), by rw [← h3.length, ← bindPs_len ps ds ρ2 ρ3 e2]; exact hl, ρ2, F2, ds, ρ3, s2.rel, h3, e2, fun σ' b => q σ' F2 H1 (s2.trans b.stp)⟩
      | _ => simp only [e1] at q
end
section
variable {P : Val × En → Prop} {E : Str → Str → D → En → Prop} {ρ : En} {f : FE} {d : D}
theorem wp_frz (k : (f ρ).wp (fun r => (frzN r).wp P E) E) : (evFrz f ρ).wp P E := by unfold evFrz; exact wp_bind k
theorem wp_frzF (k : P (.sh d, ρ)) : (frzN (.fr d, ρ)).wp P E := ⟨k⟩
theorem wp_frzS (k : P (.sh d, ρ)) : (frzN (.sh d, ρ)).wp P E := ⟨k⟩
end
section
variable {P : Fl × En → Prop} {E : Str → Str → D → En → Prop} {ρ ρ1 ρ2 : En} {f : FE} {v : Val} {ds : List D} {ps : List Pat}
def paL (ps : List Pat) (r : Val × En) : R (Fl × En) := match frz r.2 r.1 with
  | some (.lst ds, ρ1) => (match bindPs ps ds ρ1 with
    | some ρ2 => .ok (.nx, ρ2)
    | none => .no)
  | _ => .no
theorem wp_patL (q : (f ρ).wp (fun r => (paL ps r).wp P E) E) : (fsPatL ps f ρ).wp P E := by unfold fsPatL fsVal; exact wp_bind (R.wp_mono q (fun r h => h) fun _ _ _ _ z => z)
theorem wp_paL (h : frz ρ v = some (.lst ds, ρ1)) (h2 : bindPs ps ds ρ1 = some ρ2) (q : P (.nx, ρ2)) : (paL ps (v, ρ)).wp P E := by unfold paL; simp only [h, h2]; exact ⟨q⟩
end
/-- a block within a block: it takes no name from outside -/
theorem blkIn {N : List Str} {sc scope : Scope} {own : List (Str × Nat)} (h1 : scope.kind = .function) (h2 : ∀ y ∈ scope.names, scope.names.lookup y.1 = some y.2) (h3 : ∀ p ∈ own, N[p.2]? = some p.1) (h4 : ∀ y ∈ scope.names, y.2 ≠ .free)
    (h5 : ∀ y ∈ scope.names, y.2 = .local ∨ y.2 = .cell → y.1 ∈ own.map (·.1) ∨ y.1 ∉ N) : L2.BlkOk N sc scope own :=
  ⟨h1, h2, h3, fun y hy he => absurd he (h4 y hy), h5⟩
end Tr
/-! Tr, part XA: errors made as values: by position, by keyword, with nothing. -/
namespace Tr
open PySem PySem.Spec PyProof.Rows L2
section
variable {X : Cx} {W : WX} {Ad C fI : Addr} {x v : Str}
theorem own_inv {pins : List (Addr × Obj)} {σ : Sg} {H1 : Hp} {hp h' : Heap} {g : Array GenState} {dr : Drawn} {tk tk' : Nat} {os : OsState} {e d : Addr} {y : V} {u : Value} (I1 : Inv X pins σ H1 ⟨hp, g, dr, tk, os⟩) (M : PySem.ErrX.OwnMade hp h' e C d v u) (rv : RelV y u) :
    Inv X pins σ (upd (upd H1 d (.xd [(v, y)])) e (exv C d e)) ⟨h', g, dr, tk', os⟩ ∧ H1 d = none ∧ H1 e = none ∧ d ≠ e := by
  obtain ⟨oe, fv, hoe, hc, hd, hdat, h1⟩ := M.obj
  have hns := M.ns
  obtain ⟨G', g1, g2⟩ := restrict h' fun b => decide (b ≠ e)
  have gk : ∀ b, b ≠ e → G'.get? b = h'.get? b := fun b hb => g1 b (decide_eq_true hb)
  have ge : G'.get? e = none := g2 e (by simp)
  have old : ∀ b o, hp.get? b = some o → G'.get? b = some o := fun b o q => (gk b (Nat.ne_of_lt (Nat.lt_of_lt_of_le (Heap.lt_size q) M.new))).trans (M.keep b o q)
  have ob : ObjOk X.prog X.w (upd H1 d (.xd [(v, y)])) G' d (.xd [(v, y)]) :=
    ⟨_, hns.at (fun o q => (gk d M.dne).trans q), fun f => relO_one v rv f⟩
  have J : Inv X pins σ (upd H1 d (.xd [(v, y)])) ⟨G', g, dr, tk', os⟩ := I1.laid (t' := tk') old M.dbig ob
  have e0 : H1 e = none := I1.hok.fresh M.new
  refine ⟨J.laidN (t' := tk') (fun b o q => ?_) ge (by rw [upd_ne (Ne.symm M.dne)]; exact e0) ⟨⟨oe, fv, hoe, hc, hd, hdat⟩, ⟨oe, hoe⟩, fun h1 h2 ⟨oe, vs, e, r⟩ k => ⟨oe, vs, k _ e, r⟩⟩, I1.hok.fresh M.dbig, e0, M.dne⟩
  by_cases hb : b = e
  · have q' : G'.get? b = some o := q
    rw [hb, ge] at q'; cases q'
  · exact (gk b hb).symm.trans q
/-- X(e) for an own error, as a value -/
def tMkV (C : Addr) (v : Str) (ta : TA) : TE := fun σ H Q => ta σ H fun vs H1 => ∃ y, vs = [y] ∧ ∀ d e, H1 d = none → H1 e = none → d ≠ e → Q (.ref e) (upd (upd H1 d (.xd [(v, y)])) e (exv C d e))
theorem pe_err {a : Expr} {ta : TA} {p pos : Pos} {k : Nat} (T : PySem.ErrX.ErrTxt X.prog X.K X.mg Ad x v C fI) (hr : Room k X.A) (ha : PA X [a] ta) (hg : Gl X x := by rfl) (hdb : (x == ("__debug__" : Str)) = false := by decide)
    (he : starEach (a :: []) X.env = (false, eval a X.env) :: starEach [] X.env := by rfl) (hpl : (backTo pos (starEach [] X.env)).any (·.1) = false := by rfl) :
    PE X (.Call (.Name x p) [a] [] pos) (tMkV C v ta) := by
  refine ⟨fun pins s σ H Q I h => ?_⟩
  refine wpAny_Call_Name_kw (ld_glob I hg T.gC ?_ hdb)
  refine PySem.W.callWith_K (h₀ := X.base) I.ok.mod.kin T.kC (thn (ha.run pos pins s σ H _ I h) fun us s1 hh => ?_) he hpl
  obtain ⟨vs, H1, I1, r1, y, ev, q1⟩ := hh
  subst ev
  refine ⟨I1.kIn, ?_⟩
  cases r1 with
  | cons rv rn =>
    rename_i v' us'
    cases rn
    show wpAny _ _ (call (.ref C) [v']) _ _ _
    have hlim := I1.nolimit
    have hmo : PySem.ErrX.Mo X.mg s1.heap := PySem.ErrX.Mo.keeps ⟨I1.ok.mod.glob, I1.ok.mod.blt⟩ I1.bk
    obtain ⟨hp, g, dr, tk, os⟩ := s1
    refine wpAny_call (PySem.ErrX.err_made T I1.kIn hmo hlim (by have := hr.dp; omega) fun h' tk' e d M => ?_)
    obtain ⟨J, h1, h2, h3⟩ := own_inv (tk' := tk') I1 M rv
    exact ⟨.ref e, _, J, rfl, q1 d e h1 h2 h3⟩
theorem pe_errK {a : Expr} {ta : TA} {p pos kpos : Pos} {k : Nat} (T : PySem.ErrX.ErrTxt X.prog X.K X.mg Ad x v C fI) (B : PySem.ErrX.BndKO v) (hr : Room k X.A) (ha : PK X [⟨some v, a, kpos⟩] ta) (hg : Gl X x := by rfl) (hdb : (x == ("__debug__" : Str)) = false := by decide)
    (hall : (backToKw pos (keywordEach [⟨some v, a, kpos⟩] X.env)).all (·.1.isSome) = true := by rfl) (hks : (backToKw pos (keywordEach [⟨some v, a, kpos⟩] X.env)).filterMap (·.1) = [v] := by rfl)
    (hpl : ((backTo pos (starEach [] X.env)).any (·.1) || (backToKw pos (keywordEach [⟨some v, a, kpos⟩] X.env)).any (·.1.isNone)) = false := by rfl) :
    PE X (.Call (.Name x p) [] [⟨some v, a, kpos⟩] pos) (tMkV C v ta) := by
  refine ⟨fun pins s σ H Q I h => ?_⟩
  refine wpAny_Call_Name_kw (ld_glob I hg T.gC ?_ hdb)
  refine PySem.W.callWith_KW0 (h₀ := X.base) I.ok.mod.kin T.kC hall (thn (ha.run pos pins s σ H _ I h) fun us s1 hh => ?_) hpl
  obtain ⟨vs, H1, I1, r1, y, ev, q1⟩ := hh
  subst ev
  refine ⟨I1.kIn, ?_⟩
  rw [hks]
  cases r1 with
  | cons rv rn =>
    rename_i v' us'
    cases rn
    show wpAny _ _ (call (.ref C) [] [(v, v')]) _ _ _
    have hlim := I1.nolimit
    have hmo : PySem.ErrX.Mo X.mg s1.heap := PySem.ErrX.Mo.keeps ⟨I1.ok.mod.glob, I1.ok.mod.blt⟩ I1.bk
    obtain ⟨hp, g, dr, tk, os⟩ := s1
    refine wpAny_call (PySem.ErrX.err_madeK (u := v') (kw := [(v, v')]) T (fun o => B.1 o v') I1.kIn hmo hlim (by have := hr.dp; omega) fun h' tk' e d M => ?_)
    obtain ⟨J, h1, h2, h3⟩ := own_inv (tk' := tk') I1 M rv
    exact ⟨.ref e, _, J, rfl, q1 d e h1 h2 h3⟩
theorem pe_err0 {p pos : Pos} {k : Nat} (T : PySem.ErrX.ErrTxt X.prog X.K X.mg Ad x v C fI) (B : PySem.ErrX.BndKO v) (hr : Room k X.A) (hg : Gl X x := by rfl) (hdb : (x == ("__debug__" : Str)) = false := by decide) :
    PE X (.Call (.Name x p) [] [] pos) (fun σ H Q => ∀ d e, H d = none → H e = none → d ≠ e → Q (.ref e) (upd (upd H d (.xd [(v, .non)])) e (exv C d e))) := by
  refine ⟨fun pins s σ H Q I h => ?_⟩
  refine wpAny_Call_Name_kw (ld_glob I hg T.gC ?_ hdb)
  refine PySem.W.callWith_K0 (first := []) I.kIn T.kC ?_
  show wpAny _ _ (call (.ref C) [] []) _ _ _
  have hlim := I.nolimit
  have hmo : PySem.ErrX.Mo X.mg s.heap := PySem.ErrX.Mo.keeps ⟨I.ok.mod.glob, I.ok.mod.blt⟩ I.bk
  obtain ⟨hp, g, dr, tk, os⟩ := s
  refine wpAny_call (PySem.ErrX.err_madeK (u := .none) (kw := []) T (fun o => B.2 o) I.kIn hmo hlim (by have := hr.dp; omega) fun h' tk' e d M => ?_)
  obtain ⟨J, h1, h2, h3⟩ := own_inv (y := .non) (tk' := tk') I M rfl
  exact ⟨.ref e, _, J, rfl, h d e h1 h2 h3⟩
/-! ### over trees -/
def evMkE (c n : Str) (f : FE) : FE := fun ρ => (f ρ).bind fun r => match frz r.2 r.1 with
  | some (d, ρ') => .ok (.sh (.exn c n d), ρ')
  | none => .no
theorem mk_den {F2 : Fz} {H1 : Hp} {dd : D} {d e : Addr} {y : V} {ρ2 : En} {σ : Sg} (r2 : Rel (.of X) F2 H1 ρ2 σ) (hm : X.mg x = some (.ref C)) (hd : H1 d = none) (he : H1 e = none) (hne : d ≠ e) (dn : Den (.of X) F2 dd y) :
    ∃ F', Stp (.of X) F2 H1 ρ2 σ F' (upd (upd H1 d (.xd [(v, y)])) e (exv C d e)) ρ2 σ ∧ Den (.of X) F' (.exn x v dd) (.ref e) := by
  have nw : New (.of X) F2 H1 (F2.upd d (.xd [(v, y)])) (upd H1 d (.xd [(v, y)])) := New.sh r2.sub hd
  have s3 := nw.stp r2
  have he' : upd H1 d (.xd [(v, y)]) e = none := by rw [upd_ne (Ne.symm hne)]; exact he
  have nw2 : New (.of X) (F2.upd d (.xd [(v, y)])) (upd H1 d (.xd [(v, y)])) ((F2.upd d (.xd [(v, y)])).upd e (exv C d e)) (upd (upd H1 d (.xd [(v, y)])) e (exv C d e)) := New.sh s3.rel.sub he'
  have s4 := nw2.stp s3.rel
  refine ⟨_, s3.trans s4, e, C, d, y, rfl, hm, .inl ⟨upd_same, ?_⟩, (dn.mono nw.ff).mono nw2.ff⟩
  show upd (upd F2.hp d _) e _ d = _
  rw [upd_ne hne]
  exact upd_same
theorem evMkE_ok {f : FE} (hm : X.mg x = some (.ref C)) {σ : Sg} {H : Hp} {Q : VK} (h : tOf (.of X) W (evMkE x v f) σ H Q) : tMkV C v (tOfA (.of X) W (faCons f faNil)) σ H Q := by
  obtain ⟨ρ, F, rl, h⟩ := h
  unfold evMkE at h
  refine ⟨ρ, F, rl, ?_⟩
  unfold faCons
  cases ea : f ρ with
  | no => rw [ea] at h; exact h
  | ex c n d ρ' => rw [ea] at h; exact h
  | ok ra =>
    rw [ea] at h
    simp only [R.bind, faNil] at h ⊢
    intro xs F1 H1 s1 ⟨y, r, ex, py, pr⟩
    have pr : r = [] := pr
    subst pr
    refine ⟨y, ex, fun d e hd he hne => ?_⟩
    have pf : frz ra.2 ra.1.held = frz ra.2 ra.1 := frz_held _ _
    cases ef : frz ra.2 ra.1 with
    | none => simp only [ef] at h
    | some z =>
      obtain ⟨dd, ρ2⟩ := z
      simp only [ef] at h
      obtain ⟨F2, s2, dn⟩ := py.frz s1.rel (pf.trans ef)
      obtain ⟨F', s3, d3⟩ := mk_den (v := v) s2.rel hm hd he hne dn
      exact h _ _ _ ((s1.trans s2).trans s3) d3
end
section
variable {X : Cx} {W : WX} {Ad : Addr} {es : List (Str × Str)}
theorem se_mkE {x v : Str} {a : Expr} {f : FE} {p pos : Pos} {k : Nat} (E : Errs X.prog X.K X.mg Ad es) (hmem : (x, v) ∈ es) (hr : Room k X.A) (ha : SE X W a f) (hg : Gl X x := by rfl) (hdb : (x == ("__debug__" : Str)) = false := by decide)
    (he : starEach (a :: []) X.env = (false, eval a X.env) :: starEach [] X.env := by rfl) (hpl : (backTo pos (starEach [] X.env)).any (·.1) = false := by rfl) :
    SE X W (.Call (.Name x p) [a] [] pos) (evMkE x v f) := by
  obtain ⟨C, fI, T⟩ := E.all _ _ hmem
  exact pe_imp (pe_err T hr (sa_cons ha sa_nil he) hg hdb he hpl) fun σ H Q h => evMkE_ok T.gC h
/-- keywords -/
def SK (X : Cx) (W : WX) (kws : List Keyword) (f : FA) : Prop := PK X kws (tOfA (.of X) W f)
theorem sk_nil : SK X W [] faNil := ⟨fun pos pins s σ H Q I ⟨ρ, F, rl, h⟩ => pk_nil.run pos pins s σ H Q I (h [] F H (Stp.refl rl) rfl)⟩
theorem sk_cons {e : Expr} {kws : List Keyword} {f : FE} {g : FA} {nm : Option Str} {kpos : Pos} (he : SE X W e f) (hr : SK X W kws g) : SK X W (⟨nm, e, kpos⟩ :: kws) (faCons f g) := by
  have hh := pk_cons (nm := nm) (kpos := kpos) he hr
  refine ⟨fun pos pins s σ H Q I q => hh.run pos pins s σ H Q I ?_⟩
  obtain ⟨ρ, F, rl, h⟩ := q
  unfold faCons at h
  refine ⟨ρ, F, rl, ?_⟩
  cases ea : f ρ with
  | no => rw [ea] at h; exact h
  | ex c n d ρ' => rw [ea] at h; exact h
  | ok ra =>
    rw [ea] at h
    intro x F1 H1 s1 v1
    obtain ⟨F2, s12, m2, p2⟩ := held_ok s1 v1
    refine ⟨ra.2, F2, s12.rel, ?_⟩
    have h : (match (g ra.2).bind fun q => R.ok (ra.1.held :: q.1, q.2) with
      | .ok r => ∀ xs F' H', Stp (.of X) F H ρ σ F' H' r.2 σ → PendL (.of X) F' σ r.1 xs → Q xs H'
      | .ex c n d ρ' => ∀ F' H' cls dx, Stp (.of X) F H ρ σ F' H' ρ' σ → ERel (.of X) F' c n d cls dx → W cls dx σ H'
      | .no => False) := h
    cases eb : g ra.2 with
    | no => rw [eb] at h; exact h
    | ex c n d ρ' => rw [eb] at h; exact fun F' H' cls dx s e => h F' H' cls dx (s12.trans s) e
    | ok rb =>
      rw [eb] at h
      exact fun xs F' H' s p => h (x :: xs) F' H' (s12.trans s) ⟨x, xs, rfl, p2.mono s.same, p⟩
theorem se_mkEK {x v : Str} {a : Expr} {f : FE} {p pos kpos : Pos} {k : Nat} (E : Errs X.prog X.K X.mg Ad es) (hmem : (x, v) ∈ es) (B : PySem.ErrX.BndKO v) (hr : Room k X.A) (ha : SE X W a f) (hg : Gl X x := by rfl) (hdb : (x == ("__debug__" : Str)) = false := by decide)
    (hall : (backToKw pos (keywordEach [⟨some v, a, kpos⟩] X.env)).all (·.1.isSome) = true := by rfl) (hks : (backToKw pos (keywordEach [⟨some v, a, kpos⟩] X.env)).filterMap (·.1) = [v] := by rfl)
    (hpl : ((backTo pos (starEach [] X.env)).any (·.1) || (backToKw pos (keywordEach [⟨some v, a, kpos⟩] X.env)).any (·.1.isNone)) = false := by rfl) :
    SE X W (.Call (.Name x p) [] [⟨some v, a, kpos⟩] pos) (evMkE x v f) := by
  obtain ⟨C, fI, T⟩ := E.all _ _ hmem
  exact pe_imp (pe_errK T B hr (sk_cons ha sk_nil) hg hdb hall hks hpl) fun σ H Q h => evMkE_ok T.gC h
theorem se_mkE0 {x v : Str} {p pos : Pos} {k : Nat} (E : Errs X.prog X.K X.mg Ad es) (hmem : (x, v) ∈ es) (B : PySem.ErrX.BndKO v) (hr : Room k X.A) (hg : Gl X x := by rfl) (hdb : (x == ("__debug__" : Str)) = false := by decide) :
    SE X W (.Call (.Name x p) [] [] pos) (evC (.exn x v .non)) := by
  obtain ⟨C, fI, T⟩ := E.all _ _ hmem
  refine pe_imp (pe_err0 T B hr hg hdb) fun σ H Q ⟨ρ, F, rl, h⟩ d e hd he hne => ?_
  obtain ⟨F', s3, d3⟩ := mk_den (x := x) (v := v) (y := .non) (dd := .non) rl T.gC hd he hne rfl
  exact h _ _ _ s3 d3
end
end Tr
/-! Tr, part XB: an error class without __init__; isinstance of errors and ValueError; a dict with one entry. -/
namespace Tr
open PySem PySem.Spec PyProof.Rows L2
structure ExcF (K : PySem.W.Frag) (C : Addr) : Prop where
  f1 : (PySem.W.clsIn K C).isSome = true
  f2 : PySem.W.findIn K (.ref C) "__getattribute__" = some (some (.builtin "BaseException.__getattribute__"))
  f3 : PySem.W.findIn K (.ref C) "__getattr__" = some none
  f4 : PySem.W.subIn K (.ref C) (.type "BaseException") = some true
  f5 : PySem.W.findIn K (.ref C) "__class__" = some (some (.builtin "object.__class__"))
  f6 : PySem.W.mroIn K C (.type "object") = some true
/-- what the written part says of an error class without own __init__ -/
structure Err0 (K : PySem.W.Frag) (mg : Str → Option Value) (Ad : Addr) (es : List (Str × Str)) (x : Str) : Prop where
  ex : ∃ C, mg x = some (.ref C) ∧ PySem.W.excIn K C PySem.HandSPX.veTail "ValueError.__new__" = true ∧ PySem.W.keepIn K (.ref C) = true ∧
    ExcF K C ∧
    PySem.W.kitOne K (.ref C) (.ref Ad) = some true ∧ PySem.W.kitOne K (.ref C) (.type "ValueError") = some true ∧
    ∀ n Cn, (es.map (·.1)).contains n = true → mg n = some (.ref Cn) → PySem.W.kitOne K (.ref C) (.ref Cn) = some false ∧ PySem.W.kitOne K (.ref Cn) (.ref C) = some false ∧ PySem.W.kitOne K (.ref Cn) (.type "ValueError") = some true
theorem err0_g {K : PySem.W.Frag} {mg : Str → Option Value} {Ad : Addr} {es : List (Str × Str)} {x : Str} (N : Err0 K mg Ad es x) : ∃ a, mg x = some (.ref a) := ⟨_, N.ex.choose_spec.1⟩
section
variable {X : Cx} {W : WX} {Ad : Addr} {es : List (Str × Str)}
theorem se_mk00 {x : Str} {p pos : Pos} (N : Err0 X.K X.mg Ad es x) (hg : Gl X x := by rfl) (hdb : (x == ("__debug__" : Str)) = false := by decide) : SE X W (.Call (.Name x p) [] [] pos) (evC (.exn x Str.empty .non)) := by
  obtain ⟨C, gC, q, kC, _⟩ := N.ex
  refine ⟨fun pins s σ H Q I h => ?_⟩
  obtain ⟨ρ, Fz0, rl, h⟩ := h
  refine wpAny_Call_Name_kw (ld_glob I hg gC ?_ hdb)
  refine PySem.W.callWith_K0 (first := []) I.kIn kC ?_
  show wpAny _ _ (call (.ref C) []) _ _ _
  obtain ⟨bm, N, nm, qn, bs, hdct, sn, sub, ab, col, dd, k0, k1, k2, k3, k5, mN, hC, hN, hni, T⟩ := exc_obj I.kIn q
  refine wpAny_call_exc_subT F.excBase_ValueError T hC hN hni (fun h' a hm => ?_) (Nat.zero_le _)
  have hn : H a = none := I.hok.gone hm.new
  obtain ⟨t, ht, _, _⟩ := hm.there
  have nw : New (.of X) Fz0 H (Fz0.upd a (exv0 C a)) (upd H a (exv0 C a)) := New.sh rl.sub hn
  refine ⟨.ref a, upd H a (exv0 C a), I.laidN hm.keeps hm.new hn ⟨⟨_, _, ht, rfl, rfl, rfl⟩, ⟨_, ht⟩, fun h1 h2 ⟨oe, vs, e, r⟩ k => ⟨oe, vs, k _ e, r⟩⟩, rfl, ?_⟩
  exact h (.ref a) _ _ (nw.stp rl) ⟨a, C, a, .non, rfl, gC, .inr ⟨rfl, upd_same⟩, rfl⟩
/-! ### isinstance -/
def isi0 (es : List (Str × Str)) (x : Str) : List D → Option Val
  | [.exn c _ _, .glo n] => if c = x then (if n = x ∨ n = "AddError" then some (vB true) else if (es.map (·.1)).contains n = true then some (vB false) else none) else if (es.map (·.1)).contains c = true ∧ n = x then some (vB false) else none
  | [.exn c _ _, .ty "ValueError"] => if c = x ∨ (es.map (·.1)).contains c = true then some (vB true) else none
  | _ => none
def isiDX (es : List (Str × Str)) (x : Str) (ds : List D) : Option Val := match isiD es ds with
  | some v => some v
  | none => isi0 es x ds
/-- isinstance(e, c), by the classes -/
def rIsi0 (X : Cx) : List V → Hp → VK → Prop := fun xs H Q => ∃ (a C dx : Addr) (y : V) (c : Value) (fs : List (Str × V)) (b : Bool), xs = [.ref a, y] ∧ (y = .ty "ValueError" ∧ c = .type "ValueError" ∨ ∃ C', y = .ref C' ∧ c = .ref C') ∧ PySem.W.kitOne X.K (.ref C) c = some b ∧
  ExcF X.K C ∧ ((H a = some (exv C dx a) ∧ H dx = some (.xd fs)) ∨ H a = some (exv0 C a)) ∧ Q (.bl b) H
theorem call_isi0 : CallR X (.builtin "isinstance") (rIsi0 X) := by
  intro pins s σ H xs us Q I r h
  obtain ⟨a, C, dx, y, c, fs, b, rfl, hy, hk, ⟨f1, f2, f3, f4, f5, f6⟩, hh, q⟩ := h
  obtain ⟨u1, u2, rfl, r1, r2⟩ := vals2 r
  cases (show u1 = Value.ref a from r1)
  obtain ⟨oe, od, J⟩ : ∃ oe od, PySem.W.InstAt s.heap a oe C od := by
    rcases hh with ⟨ha, hd⟩ | ha
    · obtain ⟨oe, od, J, _⟩ := exv_inst I ha hd
      exact ⟨oe, _, J⟩
    · obtain ⟨oe, J⟩ := exv0_inst I ha
      exact ⟨oe, _, J⟩
  have e2 : u2 = c := by
    rcases hy with ⟨rfl, rfl⟩ | ⟨C', rfl, rfl⟩
    · exact r2
    · exact r2
  subst e2
  exact PySem.W.kia_one (PySem.W.kitx_exc f1 f2 f3 f4 f5 PySem.ErrX.oc_get PySem.ErrX.oc_takes f6) I.kIn J hk (fun z => nomatch z) fun tk => ⟨.bl b, H, I.tok tk, rfl, q⟩
theorem cs_isi0 {x : Str} (E : Errs X.prog X.K X.mg Ad es) (N : Err0 X.K X.mg Ad es x) : CallS X (.builtin "isinstance") (isi0 es x) := by
  obtain ⟨C0, g0, _, _, hx, kA, kV, kn⟩ := N.ex
  refine ⟨_, call_isi0, fun F H xs ds z Q s px hg k => ?_⟩
  have own : ∀ c C, (es.map (·.1)).contains c = true → X.mg c = some (.ref C) → ExcF X.K C := fun c C h g => by
    obtain ⟨v, D, fI, _, T⟩ := E.mem h
    have z := T.gC.symm.trans g
    cases z
    exact ⟨T.isC, T.ga, T.gg, T.exC, T.clC, T.obC⟩
  unfold isi0 at hg
  split at hg
  · rename_i c n0 d n
    obtain ⟨x1, y1, rfl, p, q⟩ := px.two
    obtain ⟨a, C, dx, w, rfl, g, h12, _⟩ := p.exn
    obtain ⟨C', g', rfl⟩ := q.glo
    have g : X.mg c = some (.ref C) := g
    have g' : X.mg n = some (.ref C') := g'
    have h12' := h12.imp (fun z => (⟨s _ _ z.1, s _ _ z.2⟩ : H a = some (exv C dx a) ∧ H dx = some (.xd [(n0, w)]))) (fun z => s _ _ z.2)
    split at hg
    · rename_i hc
      subst hc
      rw [g0] at g
      cases g
      split at hg
      · rename_i hn
        cases hg
        refine ⟨a, C0, dx, _, _, _, true, rfl, .inr ⟨C', rfl, rfl⟩, ?_, hx, h12', plainQ s k rfl⟩
        rcases hn with rfl | rfl
        · rw [g0] at g'; cases g'
          unfold PySem.W.kitOne
          rw [if_pos (by simp)]
        · have z := E.gA.symm.trans g'
          cases z
          exact kA
      · split at hg
        · rename_i hn
          cases hg
          exact ⟨a, C0, dx, _, _, _, false, rfl, .inr ⟨C', rfl, rfl⟩, (kn n C' hn g').1, hx, h12', plainQ s k rfl⟩
        · cases hg
    · split at hg
      · rename_i hn
        cases hg
        obtain ⟨hn, rfl⟩ := hn
        rw [g0] at g'; cases g'
        exact ⟨a, C, dx, _, _, _, false, rfl, .inr ⟨_, rfl, rfl⟩, (kn c C hn g).2.1, own c C hn g, h12', plainQ s k rfl⟩
      · cases hg
  · rename_i c n0 d
    obtain ⟨x1, y1, rfl, p, q⟩ := px.two
    obtain ⟨a, C, dx, w, rfl, g, h12, _⟩ := p.exn
    have e := q.ty
    subst e
    have g : X.mg c = some (.ref C) := g
    have h12' := h12.imp (fun z => (⟨s _ _ z.1, s _ _ z.2⟩ : H a = some (exv C dx a) ∧ H dx = some (.xd [(n0, w)]))) (fun z => s _ _ z.2)
    split at hg
    · rename_i hc
      cases hg
      rcases hc with rfl | hc
      · rw [g0] at g
        cases g
        exact ⟨a, C0, dx, _, _, _, true, rfl, .inl ⟨rfl, rfl⟩, kV, hx, h12', plainQ s k rfl⟩
      · exact ⟨a, C, dx, _, _, _, true, rfl, .inl ⟨rfl, rfl⟩, (kn c C hc g).2.2, own c C hc g, h12', plainQ s k rfl⟩
    · cases hg
  · cases hg
theorem cs_isiX0 {x : Str} (E : Errs X.prog X.K X.mg Ad es) (N : Err0 X.K X.mg Ad es x) : CallS X (.builtin "isinstance") (isiDX es x) := by
  obtain ⟨r, h1, h2⟩ := cs_isi E (X := X)
  obtain ⟨r', h1', h2'⟩ := cs_isi0 E N (X := X)
  refine ⟨_, CallR.or h1 h1', fun F H xs ds z Q s px hg k => ?_⟩
  unfold isiDX at hg
  split at hg
  · rename_i v e
    cases hg
    exact .inl (h2 F H xs ds _ Q s px e k)
  · exact .inr (h2' F H xs ds z Q s px hg k)
/-! ### {"k": x} -/
def evDisp1 (k : Str) (i : Nat) : FE := fun ρ => match ρ.s[i]? with
  | some (.sh d) => .ok (.fr (.dK [.inr k] [d]), ρ)
  | _ => .no
theorem se_disp1 (i : Nat) {k x : Str} {j : Nat} {kp pos vp : Pos} (hN : X.N[i]? = some x := by rfl) (hv : Vis X.env.scope x := by first | exact Or.inl rfl | exact Or.inr (Or.inl rfl) | exact Or.inr (Or.inr rfl))
    (hd : (x == ("__debug__" : Str)) = false := by decide) (hcd : (x == ("__classdict__" : Str)) = false := by decide) : SE X W (.Dict [some (.Constant (.str k) j kp)] [.Name x vp] pos) (evDisp1 k i) := by
  refine pe_imp (pe_disp (pps_cons pe_str (pe_var hN hv hd hcd) pps_nil) rfl rfl (by simp) (by simp)) fun σ H Q ⟨ρ, F, rl, h⟩ p hp => ?_
  unfold evDisp1 at h
  cases e : ρ.s[i]? with
  | none => simp only [e] at h
  | some sl =>
    cases sl with
    | un => simp only [e] at h
    | ow d => simp only [e] at h
    | sh d =>
      simp only [e] at h
      obtain ⟨y, hy, dy⟩ := rl.sh i d e
      refine ⟨y, hy, ?_⟩
      refine ⟨upd_same, [(.inr k, y)], rfl, by simp, ?_⟩
      have e2 : upd (upd H p (.dK [])) p (.dK (mergeK [] [((.inr k : Key), y)])) = upd H p (.dK [(.inr k, y)]) := by
        funext b
        by_cases hb : b = p
        · subst hb; rw [upd_same, upd_same]; rfl
        · rw [upd_ne hb, upd_ne hb, upd_ne hb]
      rw [e2]
      have nw : New (.of X) F H F (upd H p (.dK [(.inr k, y)])) := New.fr rl.sub hp
      exact h _ F _ (nw.stp rl) (NRel.vrel rl nw ⟨p, rfl, rl.sub.free hp, hp, [y], upd_same, rfl, DenL.cons dy DenL.nil⟩)
end
section
variable {P : Val × En → Prop} {E : Str → Str → D → En → Prop} {ρ ρ1 : En} {f : FE} {d : D} {v : Val} {i : Nat} {c n k : Str}
/-- the end of C(e) -/
def mkEnd (c n : Str) (r : Val × En) : R (Val × En) := match frz r.2 r.1 with
  | some (d, ρ') => .ok (.sh (.exn c n d), ρ')
  | none => .no
theorem wp_mkE (q : (f ρ).wp (fun r => (mkEnd c n r).wp P E) E) : (evMkE c n f ρ).wp P E := by unfold evMkE; exact wp_bind q
theorem wp_mkEnd (h : frz ρ v = some (d, ρ1)) (q : P (.sh (.exn c n d), ρ1)) : (mkEnd c n (v, ρ)).wp P E := by unfold mkEnd; simp only [h]; exact ⟨q⟩
theorem wp_disp1 (h : ρ.s[i]? = some (.sh d)) (q : P (.fr (.dK [.inr k] [d]), ρ)) : (evDisp1 k i ρ).wp P E := by unfold evDisp1; simp only [h]; exact ⟨q⟩
end
end Tr
namespace K01
open PySem PySem.Spec PyProof.Rows L2 Tr
def top (i : Nat) : Stmt := PySem.Challenge.pw_addnests_k01_errors.main.body.getD i (.Pass ⟨0, 0, 0, 0⟩)
def errL : List (Str × Str) := [("InvalidNumber", "value"), ("InvalidCell", "value"), ("InvalidNest", "value"), ("InvalidProgram", "value"), ("InvalidOrder", "value"), ("InvalidList", "value"), ("InvalidText", "value"), ("InvalidFamily", "value"), ("UnlikeAxes", "axes"), ("NotStraight", "place"), ("Negative", "place"), ("NegativeCount", "number"), ("InvalidName", "name"), ("TakenName", "name"), ("UnknownName", "name")]
/-- what the module's top has written, as the bodies need it -/
structure Txt (P : Program) (K : PySem.W.Frag) (mg : Str → Option Value) (Ad : Addr) : Prop where
  n_ValueError : mg "ValueError" = none
  n_isinstance : mg "isinstance" = none
  n_list : mg "list" = none
  n_max : mg "max" = none
  n_range : mg "range" = none
  n_repr : mg "repr" = none
  n_sum : mg "sum" = none
  errs : Errs P K mg Ad errL
  no0 : Err0 K mg Ad errL "NothingToUndo"
section
variable {P : Program} {w : World} {K : PySem.W.Frag} {mg : Str → Option Value} {base : Heap} {Ad : Addr}
/-! ### _law_mixed -/
abbrev s__law_mixed : Stmt := top 19
def N__law_mixed : List Str := ["_law_cell", "_law_k", "_law_figure"]
def fb__law_mixed : FS := (fsSeq (fsSet 2 (evOp modD (evOp addD (evOp addD (evOp addD (evOp mulD (evVar 0) (evC (.int 1103515245))) (evOp mulD (evOp mulD (evC (.int 7919)) (evVar 1)) (evVar 1))) (evVar 1)) (evC (.int 1))) (evC (.int 2147483647))))
 (fsSeq (fsSet 2 (evOp modD (evOp addD (evOp mulD (evVar 2) (evVar 2)) (evC (.int 69621))) (evC (.int 2147483629))))
 (fsRet (evOp modD (evOp mulD (evVar 2) (evC (.int 48271))) (evC (.int 2147483587))))))
def run__law_mixed : FF := runP 3 2 fb__law_mixed
theorem sc__law_mixed : FnScope N__law_mixed ["_law_cell", "_law_k"] (defScope s__law_mixed) := ⟨rfl, rfl, rfl, by decide +kernel, rfl, by decide +kernel, by decide +kernel⟩
theorem bd__law_mixed {f : Addr} (T : Txt P K mg Ad) (hsy : ∃ mm, base.Ns sysModules mm) : BdA P w K mg base N__law_mixed "_law_mixed" s__law_mixed f 0 (fb__law_mixed) := by
  intro cdv A outer s H E hgu hr
  have tk : Takes (cxD P w K mg base N__law_mixed "_law_mixed" s__law_mixed f cdv A outer s H E) (fun cls d _ H' => E cls d H') := takes_of rfl rfl rfl rfl
  have hp : PassesOwn (model P w) (cxD P w K mg base N__law_mixed "_law_mixed" s__law_mixed f cdv A outer s H E).A (cxD P w K mg base N__law_mixed "_law_mixed" s__law_mixed f cdv A outer s H E).env (cxD P w K mg base N__law_mixed "_law_mixed" s__law_mixed f cdv A outer s H E).xe := passes_of rfl
  have hu := hr.units
  have hN : N__law_mixed.Nodup := sc__law_mixed.nd
  have hc : (cxD P w K mg base N__law_mixed "_law_mixed" s__law_mixed f cdv A outer s H E).calm = true := rfl
  exact (sss_cons (ss_set (i := 2) hN (se_op os_mod (se_op os_add (se_op os_add (se_op os_add (se_op os_mul (se_var 0) se_int) (se_op os_mul (se_op os_mul se_int (se_var 1)) (se_var 1))) (se_var 1)) se_int) se_int))
 (sss_cons (ss_set (i := 2) hN (se_op os_mod (se_op os_add (se_op os_mul (se_var 2) (se_var 2)) se_int) se_int))
 (sss_one (ss_ret (se_op os_mod (se_op os_mul (se_var 2) se_int) se_int)))))
/-! ### _law_purse -/
abbrev s__law_purse : Stmt := top 20
def N__law_purse : List Str := ["_law_script", "_law_at", "_law_cell"]
def fb__law_purse : FS := (fsSeq (fsSet 2 (evB sumD (faCons (evSl (evVar 0) (foS (evVar 1)) (foS (evOp addD (evVar 1) (evC (.int 1))))) faNil)))
 (fsRet (evLst (faCons (evOp modD (evB maxD (faCons (evOp subD (evVar 2) (evOp powD (evC (.int 10)) (evC (.int 18)))) (faCons (evC (.int 0)) faNil))) (evOp powD (evOp powD (evC (.int 10)) (evC (.int 60))) (evC (.int 10)))) (faCons (evOp modD (evVar 2) (evC (.int 2147483647))) (faCons (evOp mulD (evC (.int 1000)) (evVar 1)) faNil))))))
def run__law_purse : FF := runP 3 2 fb__law_purse
theorem sc__law_purse : FnScope N__law_purse ["_law_script", "_law_at"] (defScope s__law_purse) := ⟨rfl, rfl, rfl, by decide +kernel, rfl, by decide +kernel, by decide +kernel⟩
theorem bd__law_purse {f : Addr} (T : Txt P K mg Ad) (hsy : ∃ mm, base.Ns sysModules mm) : BdA P w K mg base N__law_purse "_law_purse" s__law_purse f 0 (fb__law_purse) := by
  intro cdv A outer s H E hgu hr
  have tk : Takes (cxD P w K mg base N__law_purse "_law_purse" s__law_purse f cdv A outer s H E) (fun cls d _ H' => E cls d H') := takes_of rfl rfl rfl rfl
  have hp : PassesOwn (model P w) (cxD P w K mg base N__law_purse "_law_purse" s__law_purse f cdv A outer s H E).A (cxD P w K mg base N__law_purse "_law_purse" s__law_purse f cdv A outer s H E).env (cxD P w K mg base N__law_purse "_law_purse" s__law_purse f cdv A outer s H E).xe := passes_of rfl
  have hu := hr.units
  have hN : N__law_purse.Nodup := sc__law_purse.nd
  have hc : (cxD P w K mg base N__law_purse "_law_purse" s__law_purse f cdv A outer s H E).calm = true := rfl
  exact (sss_cons (ss_set (i := 2) hN (se_b (cs_sum hc) T.n_sum (by decide +kernel) (sa_cons (se_sl (se_var 0) (so_some (se_var 1)) (so_some (se_op os_add (se_var 1) se_int))) sa_nil)))
 (sss_one (ss_ret (se_lst (sa_cons (se_op os_mod (se_b (cs_max hc) T.n_max (by decide +kernel) (sa_cons (se_op os_sub (se_var 2) (se_op os_pow se_int se_int)) (sa_cons se_int sa_nil))) (se_op os_pow (se_op os_pow se_int se_int) se_int)) (sa_cons (se_op os_mod (se_var 2) se_int) (sa_cons (se_op os_mul se_int (se_var 1)) sa_nil)))))))
/-! ### _law_draw -/
abbrev s__law_draw : Stmt := top 21
def N__law_draw : List Str := ["_law_purse_here", "_law_out_of", "_law_figure", "_law_k", "_law_drawn"]
def fb__law_draw : FS := (fsSeq (fsIf (ftVal (evOp gtD (evOp ixD (evVar 0) (evC (.int 0))) (evC (.int 0))))
 (fsSeq (fsSet 4 (evOp modD (evOp ixD (evVar 0) (evC (.int 0))) (evVar 1)))
 (fsSeq (fsPut putL (evVar 0) (evC (.int 0)) (evOp divD (evOp ixD (evVar 0) (evC (.int 0))) (evVar 1)))
 (fsRet (evVar 4))))
 fsNil)
 (fsSeq (fsSet 2 (evC (.int 0)))
 (fsSeq (fsFor (fiA (faCons (evOp addD (evC (.int 1)) (evOp divD (evUn bitsD (evVar 1)) (evC (.int 30)))) faNil) rng1) (.nm 3)
 (fsSeq (fsPut putL (evVar 0) (evC (.int 2)) (evOp addD (evOp ixD (evVar 0) (evC (.int 2))) (evC (.int 1))))
 (fsSet 2 (evOp addD (evOp mulD (evVar 2) (evC (.int 2147483587))) (evCall run__law_mixed [] (faCons (evOp ixD (evVar 0) (evC (.int 1))) (faCons (evOp ixD (evVar 0) (evC (.int 2))) faNil)))))))
 (fsRet (evOp modD (evVar 2) (evVar 1))))))
def run__law_draw : FF := runP 5 2 fb__law_draw
theorem sc__law_draw : FnScope N__law_draw ["_law_purse_here", "_law_out_of"] (defScope s__law_draw) := ⟨rfl, rfl, rfl, by decide +kernel, rfl, by decide +kernel, by decide +kernel⟩
theorem bd__law_draw {f : Addr} (T : Txt P K mg Ad) (hsy : ∃ mm, base.Ns sysModules mm) (c__law_mixed : Cal P w K mg base 1 "_law_mixed" [] run__law_mixed) : BdA P w K mg base N__law_draw "_law_draw" s__law_draw f 1 (fb__law_draw) := by
  intro cdv A outer s H E hgu hr
  have tk : Takes (cxD P w K mg base N__law_draw "_law_draw" s__law_draw f cdv A outer s H E) (fun cls d _ H' => E cls d H') := takes_of rfl rfl rfl rfl
  have hp : PassesOwn (model P w) (cxD P w K mg base N__law_draw "_law_draw" s__law_draw f cdv A outer s H E).A (cxD P w K mg base N__law_draw "_law_draw" s__law_draw f cdv A outer s H E).env (cxD P w K mg base N__law_draw "_law_draw" s__law_draw f cdv A outer s H E).xe := passes_of rfl
  have hu := hr.units
  have hN : N__law_draw.Nodup := sc__law_draw.nd
  have hc : (cxD P w K mg base N__law_draw "_law_draw" s__law_draw f cdv A outer s H E).calm = true := rfl
  exact (sss_cons (ss_if (st_cmp os_gt (se_ix is_ix (se_var 0) se_int) se_int)
 (sss_cons (ss_set (i := 4) hN (se_op os_mod (se_ix is_ix (se_var 0) se_int) (se_var 1)))
 (sss_cons (ss_put set_list ps_putL (se_var 0) (se_op os_div (se_ix is_ix (se_var 0) se_int) (se_var 1)) se_int)
 (sss_one (ss_ret (se_var 4)))))
 sss_nil)
 (sss_cons (ss_set (i := 2) hN se_int)
 (sss_cons (ss_for hp hc (si_range1 T.n_range (sa_cons (se_op os_add se_int (se_op os_div (se_bits (se_var 1)) se_int)) sa_nil)) (sg_nm hN)
 (sss_cons (ss_put set_list ps_putL (se_var 0) (se_op os_add (se_ix is_ix (se_var 0) se_int) se_int) se_int)
 (sss_one (ss_set (i := 2) hN (se_op os_add (se_op os_mul (se_var 2) se_int) (se_c c__law_mixed hgu (hr.mono (by omega)) tk (sa_cons (se_ix is_ix (se_var 0) se_int) (sa_cons (se_ix is_ix (se_var 0) se_int) sa_nil))))))))
 (sss_one (ss_ret (se_op os_mod (se_var 2) (se_var 1)))))))
/-! ### _law_kinds -/
abbrev s__law_kinds : Stmt := top 22
def N__law_kinds : List Str := ["_law_error", "_law_kinds_here", "_law_at"]
def fb__law_kinds : FS := (fsSeq (fsSet 1 (evLst (faCons (evB (isiDX errL "NothingToUndo") (faCons (evVar 0) (faCons (evC (.glo "InvalidNumber")) faNil))) (faCons (evB (isiDX errL "NothingToUndo") (faCons (evVar 0) (faCons (evC (.glo "InvalidCell")) faNil))) (faCons (evB (isiDX errL "NothingToUndo") (faCons (evVar 0) (faCons (evC (.glo "InvalidNest")) faNil))) faNil)))))
 (fsSeq (fsSet 1 (evOp addD (evVar 1) (evLst (faCons (evB (isiDX errL "NothingToUndo") (faCons (evVar 0) (faCons (evC (.glo "InvalidProgram")) faNil))) (faCons (evB (isiDX errL "NothingToUndo") (faCons (evVar 0) (faCons (evC (.glo "InvalidOrder")) faNil))) (faCons (evB (isiDX errL "NothingToUndo") (faCons (evVar 0) (faCons (evC (.glo "InvalidList")) faNil))) faNil))))))
 (fsSeq (fsSet 1 (evOp addD (evVar 1) (evLst (faCons (evB (isiDX errL "NothingToUndo") (faCons (evVar 0) (faCons (evC (.glo "InvalidText")) faNil))) (faCons (evB (isiDX errL "NothingToUndo") (faCons (evVar 0) (faCons (evC (.glo "InvalidFamily")) faNil))) (faCons (evB (isiDX errL "NothingToUndo") (faCons (evVar 0) (faCons (evC (.glo "UnlikeAxes")) faNil))) faNil))))))
 (fsSeq (fsSet 1 (evOp addD (evVar 1) (evLst (faCons (evB (isiDX errL "NothingToUndo") (faCons (evVar 0) (faCons (evC (.glo "NotStraight")) faNil))) (faCons (evB (isiDX errL "NothingToUndo") (faCons (evVar 0) (faCons (evC (.glo "Negative")) faNil))) (faCons (evB (isiDX errL "NothingToUndo") (faCons (evVar 0) (faCons (evC (.glo "NegativeCount")) faNil))) faNil))))))
 (fsSeq (fsSet 1 (evOp addD (evVar 1) (evLst (faCons (evB (isiDX errL "NothingToUndo") (faCons (evVar 0) (faCons (evC (.glo "InvalidName")) faNil))) (faCons (evB (isiDX errL "NothingToUndo") (faCons (evVar 0) (faCons (evC (.glo "TakenName")) faNil))) (faCons (evB (isiDX errL "NothingToUndo") (faCons (evVar 0) (faCons (evC (.glo "UnknownName")) faNil))) faNil))))))
 (fsSeq (fsExpr (evM appD (evVar 1) (faCons (evB (isiDX errL "NothingToUndo") (faCons (evVar 0) (faCons (evC (.glo "NothingToUndo")) faNil))) faNil)))
 (fsSeq (fsIf (ftOr (ftNot (ftVal (evB (isiDX errL "NothingToUndo") (faCons (evVar 0) (faCons (evC (.glo "AddError")) faNil))))) (ftNot (ftVal (evB (isiDX errL "NothingToUndo") (faCons (evVar 0) (faCons (evC (.ty "ValueError")) faNil))))))
 (fsRet (evLst faNil))
 fsNil)
 (fsRet (evLC [2] (fiA (faCons (evC (.int 16)) faNil) rng1) (.nm 2) (ftVal (evOp ixD (evVar 1) (evVar 2))) (evVar 2))))))))))
def run__law_kinds : FF := runP 3 1 fb__law_kinds
theorem sc__law_kinds : FnScope N__law_kinds ["_law_error"] (defScope s__law_kinds) := ⟨rfl, rfl, rfl, by decide +kernel, rfl, by decide +kernel, by decide +kernel⟩
theorem bd__law_kinds {f : Addr} (T : Txt P K mg Ad) (hsy : ∃ mm, base.Ns sysModules mm) : BdA P w K mg base N__law_kinds "_law_kinds" s__law_kinds f 0 (fb__law_kinds) := by
  intro cdv A outer s H E hgu hr
  have tk : Takes (cxD P w K mg base N__law_kinds "_law_kinds" s__law_kinds f cdv A outer s H E) (fun cls d _ H' => E cls d H') := takes_of rfl rfl rfl rfl
  have hp : PassesOwn (model P w) (cxD P w K mg base N__law_kinds "_law_kinds" s__law_kinds f cdv A outer s H E).A (cxD P w K mg base N__law_kinds "_law_kinds" s__law_kinds f cdv A outer s H E).env (cxD P w K mg base N__law_kinds "_law_kinds" s__law_kinds f cdv A outer s H E).xe := passes_of rfl
  have hu := hr.units
  have hN : N__law_kinds.Nodup := sc__law_kinds.nd
  have hc : (cxD P w K mg base N__law_kinds "_law_kinds" s__law_kinds f cdv A outer s H E).calm = true := rfl
  exact (sss_cons (ss_set (i := 1) hN (se_lst (sa_cons (se_b (cs_isiX0 T.errs T.no0) T.n_isinstance (by decide +kernel) (sa_cons (se_var 0) (sa_cons (se_gloE (T.errs.gE (v := "value") (by decide +kernel))) sa_nil))) (sa_cons (se_b (cs_isiX0 T.errs T.no0) T.n_isinstance (by decide +kernel) (sa_cons (se_var 0) (sa_cons (se_gloE (T.errs.gE (v := "value") (by decide +kernel))) sa_nil))) (sa_cons (se_b (cs_isiX0 T.errs T.no0) T.n_isinstance (by decide +kernel) (sa_cons (se_var 0) (sa_cons (se_gloE (T.errs.gE (v := "value") (by decide +kernel))) sa_nil))) sa_nil)))))
 (sss_cons (ss_set (i := 1) hN (se_op os_add (se_var 1) (se_lst (sa_cons (se_b (cs_isiX0 T.errs T.no0) T.n_isinstance (by decide +kernel) (sa_cons (se_var 0) (sa_cons (se_gloE (T.errs.gE (v := "value") (by decide +kernel))) sa_nil))) (sa_cons (se_b (cs_isiX0 T.errs T.no0) T.n_isinstance (by decide +kernel) (sa_cons (se_var 0) (sa_cons (se_gloE (T.errs.gE (v := "value") (by decide +kernel))) sa_nil))) (sa_cons (se_b (cs_isiX0 T.errs T.no0) T.n_isinstance (by decide +kernel) (sa_cons (se_var 0) (sa_cons (se_gloE (T.errs.gE (v := "value") (by decide +kernel))) sa_nil))) sa_nil))))))
 (sss_cons (ss_set (i := 1) hN (se_op os_add (se_var 1) (se_lst (sa_cons (se_b (cs_isiX0 T.errs T.no0) T.n_isinstance (by decide +kernel) (sa_cons (se_var 0) (sa_cons (se_gloE (T.errs.gE (v := "value") (by decide +kernel))) sa_nil))) (sa_cons (se_b (cs_isiX0 T.errs T.no0) T.n_isinstance (by decide +kernel) (sa_cons (se_var 0) (sa_cons (se_gloE (T.errs.gE (v := "value") (by decide +kernel))) sa_nil))) (sa_cons (se_b (cs_isiX0 T.errs T.no0) T.n_isinstance (by decide +kernel) (sa_cons (se_var 0) (sa_cons (se_gloE (T.errs.gE (v := "axes") (by decide +kernel))) sa_nil))) sa_nil))))))
 (sss_cons (ss_set (i := 1) hN (se_op os_add (se_var 1) (se_lst (sa_cons (se_b (cs_isiX0 T.errs T.no0) T.n_isinstance (by decide +kernel) (sa_cons (se_var 0) (sa_cons (se_gloE (T.errs.gE (v := "place") (by decide +kernel))) sa_nil))) (sa_cons (se_b (cs_isiX0 T.errs T.no0) T.n_isinstance (by decide +kernel) (sa_cons (se_var 0) (sa_cons (se_gloE (T.errs.gE (v := "place") (by decide +kernel))) sa_nil))) (sa_cons (se_b (cs_isiX0 T.errs T.no0) T.n_isinstance (by decide +kernel) (sa_cons (se_var 0) (sa_cons (se_gloE (T.errs.gE (v := "number") (by decide +kernel))) sa_nil))) sa_nil))))))
 (sss_cons (ss_set (i := 1) hN (se_op os_add (se_var 1) (se_lst (sa_cons (se_b (cs_isiX0 T.errs T.no0) T.n_isinstance (by decide +kernel) (sa_cons (se_var 0) (sa_cons (se_gloE (T.errs.gE (v := "name") (by decide +kernel))) sa_nil))) (sa_cons (se_b (cs_isiX0 T.errs T.no0) T.n_isinstance (by decide +kernel) (sa_cons (se_var 0) (sa_cons (se_gloE (T.errs.gE (v := "name") (by decide +kernel))) sa_nil))) (sa_cons (se_b (cs_isiX0 T.errs T.no0) T.n_isinstance (by decide +kernel) (sa_cons (se_var 0) (sa_cons (se_gloE (T.errs.gE (v := "name") (by decide +kernel))) sa_nil))) sa_nil))))))
 (sss_cons (ss_expr (se_app (se_var 1) (sa_cons (se_b (cs_isiX0 T.errs T.no0) T.n_isinstance (by decide +kernel) (sa_cons (se_var 0) (sa_cons (se_gloE (err0_g T.no0)) sa_nil))) sa_nil)))
 (sss_cons (ss_if (SW.st (sw_or (st_not (st_val (se_b (cs_isiX0 T.errs T.no0) T.n_isinstance (by decide +kernel) (sa_cons (se_var 0) (sa_cons (se_gloE ⟨_, T.errs.gA⟩) sa_nil))))) (sw_or1 (st_not (st_val (se_b (cs_isiX0 T.errs T.no0) T.n_isinstance (by decide +kernel) (sa_cons (se_var 0) (sa_cons (se_ty T.n_ValueError (by decide +kernel)) sa_nil))))))))
 (sss_one (ss_ret (se_lst sa_nil)))
 sss_nil)
 (sss_one (ss_ret (se_lcIf hc hN (own := [("_law_at", 2)]) (si_range1 T.n_range (sa_cons se_int sa_nil)) (BlkOk.mk (N := N__law_kinds) (sc := defScope s__law_kinds) rfl (by decide +kernel) (by decide +kernel) (by decide +kernel) (by decide +kernel)) (fun _ _ _ _ _ => (sg_nm hN)) (fun _ _ _ _ _ => (st_val (se_ix is_ix (se_var 1) (se_var 2)))) (fun _ _ _ _ _ => (se_var 2))))))))))))
/-! ### _law_fields -/
abbrev s__law_fields : Stmt := top 23
def N__law_fields : List Str := ["_law_errors", "_law_found", "_law_error"]
def fb__law_fields : FS := (fsSeq (fsSet 1 (evOp addD (evLC [2] (fiOf (evSl (evVar 0) foN (foS (evC (.int 8)))) asQ) (.nm 2) ftYes (evUn (xfD errL "value") (evVar 2))) (evLst (faCons (evUn (xfD errL "axes") (evOp ixD (evVar 0) (evC (.int 8)))) (faCons (evUn (xfD errL "place") (evOp ixD (evVar 0) (evC (.int 9)))) (faCons (evUn (xfD errL "place") (evOp ixD (evVar 0) (evC (.int 10)))) faNil))))))
 (fsRet (evOp addD (evOp addD (evVar 1) (evLst (faCons (evUn (xfD errL "number") (evOp ixD (evVar 0) (evC (.int 11)))) faNil))) (evLC [2] (fiOf (evSl (evVar 0) (foS (evC (.int 12))) foN) asQ) (.nm 2) ftYes (evUn (xfD errL "name") (evVar 2))))))
def run__law_fields : FF := runP 3 1 fb__law_fields
theorem sc__law_fields : FnScope N__law_fields ["_law_errors"] (defScope s__law_fields) := ⟨rfl, rfl, rfl, by decide +kernel, rfl, by decide +kernel, by decide +kernel⟩
theorem bd__law_fields {f : Addr} (T : Txt P K mg Ad) (hsy : ∃ mm, base.Ns sysModules mm) : BdA P w K mg base N__law_fields "_law_fields" s__law_fields f 0 (fb__law_fields) := by
  intro cdv A outer s H E hgu hr
  have tk : Takes (cxD P w K mg base N__law_fields "_law_fields" s__law_fields f cdv A outer s H E) (fun cls d _ H' => E cls d H') := takes_of rfl rfl rfl rfl
  have hp : PassesOwn (model P w) (cxD P w K mg base N__law_fields "_law_fields" s__law_fields f cdv A outer s H E).A (cxD P w K mg base N__law_fields "_law_fields" s__law_fields f cdv A outer s H E).env (cxD P w K mg base N__law_fields "_law_fields" s__law_fields f cdv A outer s H E).xe := passes_of rfl
  have hu := hr.units
  have hN : N__law_fields.Nodup := sc__law_fields.nd
  have hc : (cxD P w K mg base N__law_fields "_law_fields" s__law_fields f cdv A outer s H E).calm = true := rfl
  exact (sss_cons (ss_set (i := 1) hN (se_op os_add (se_lc hc hN (own := [("_law_error", 2)]) (si_seq (se_sl (se_var 0) so_none (so_some se_int))) (BlkOk.mk (N := N__law_fields) (sc := defScope s__law_fields) rfl (by decide +kernel) (by decide +kernel) (by decide +kernel) (by decide +kernel)) (fun _ _ _ _ _ => (sg_nm hN)) (fun _ _ _ _ _ => (se_xf T.errs (se_var 2)))) (se_lst (sa_cons (se_xf T.errs (se_ix is_ix (se_var 0) se_int)) (sa_cons (se_xf T.errs (se_ix is_ix (se_var 0) se_int)) (sa_cons (se_xf T.errs (se_ix is_ix (se_var 0) se_int)) sa_nil))))))
 (sss_one (ss_ret (se_op os_add (se_op os_add (se_var 1) (se_lst (sa_cons (se_xf T.errs (se_ix is_ix (se_var 0) se_int)) sa_nil))) (se_lc hc hN (own := [("_law_error", 2)]) (si_seq (se_sl (se_var 0) (so_some se_int) so_none)) (BlkOk.mk (N := N__law_fields) (sc := defScope s__law_fields) rfl (by decide +kernel) (by decide +kernel) (by decide +kernel) (by decide +kernel)) (fun _ _ _ _ _ => (sg_nm hN)) (fun _ _ _ _ _ => (se_xf T.errs (se_var 2))))))))
/-! ### _law_right -/
abbrev s__law_right : Stmt := top 24
def N__law_right : List Str := ["_law_errors", "_law_due", "_law_error", "_law_at"]
def fb__law_right : FS := (fsSeq (fsIf (ftVal (evOp neDX (evLC [2] (fiOf (evVar 0) asQ) (.nm 2) ftYes (evCall run__law_kinds [] (faCons (evVar 2) faNil))) (evLC [3] (fiA (faCons (evC (.int 15)) faNil) rng1) (.nm 3) ftYes (evLst (faCons (evVar 3) faNil)))))
 (fsRet (evC (.bl false)))
 fsNil)
 (fsRet (evOp eqDX (evBD reprR (faCons (evCall run__law_fields [] (faCons (evVar 0) faNil)) faNil)) (evBD reprR (faCons (evOp mulD (evLst (faCons (evVar 1) faNil)) (evC (.int 15))) faNil)))))
def run__law_right : FF := runP 4 2 fb__law_right
theorem sc__law_right : FnScope N__law_right ["_law_errors", "_law_due"] (defScope s__law_right) := ⟨rfl, rfl, rfl, by decide +kernel, rfl, by decide +kernel, by decide +kernel⟩
theorem bd__law_right {f : Addr} (T : Txt P K mg Ad) (hsy : ∃ mm, base.Ns sysModules mm) (c__law_fields : Cal P w K mg base 1 "_law_fields" [] run__law_fields) (c__law_kinds : Cal P w K mg base 1 "_law_kinds" [] run__law_kinds) : BdA P w K mg base N__law_right "_law_right" s__law_right f 1 (fb__law_right) := by
  intro cdv A outer s H E hgu hr
  have tk : Takes (cxD P w K mg base N__law_right "_law_right" s__law_right f cdv A outer s H E) (fun cls d _ H' => E cls d H') := takes_of rfl rfl rfl rfl
  have hp : PassesOwn (model P w) (cxD P w K mg base N__law_right "_law_right" s__law_right f cdv A outer s H E).A (cxD P w K mg base N__law_right "_law_right" s__law_right f cdv A outer s H E).env (cxD P w K mg base N__law_right "_law_right" s__law_right f cdv A outer s H E).xe := passes_of rfl
  have hu := hr.units
  have hN : N__law_right.Nodup := sc__law_right.nd
  have hc : (cxD P w K mg base N__law_right "_law_right" s__law_right f cdv A outer s H E).calm = true := rfl
  exact (sss_cons (ss_if (st_cmp (os_neX hu) (se_lc hc hN (own := [("_law_error", 2)]) (si_seq (se_var 0)) (BlkOk.mk (N := N__law_right) (sc := defScope s__law_right) rfl (by decide +kernel) (by decide +kernel) (by decide +kernel) (by decide +kernel)) (fun _ _ _ _ _ => (sg_nm hN)) (fun _ _ _ _ _ => (have tk := tk0; (se_c c__law_kinds hgu (hr.mono (by omega)) tk (sa_cons (se_var 2) sa_nil))))) (se_lc hc hN (own := [("_law_at", 3)]) (si_range1 T.n_range (sa_cons se_int sa_nil)) (BlkOk.mk (N := N__law_right) (sc := defScope s__law_right) rfl (by decide +kernel) (by decide +kernel) (by decide +kernel) (by decide +kernel)) (fun _ _ _ _ _ => (sg_nm hN)) (fun _ _ _ _ _ => (se_lst (sa_cons (se_var 3) sa_nil)))))
 (sss_one (ss_ret se_bl))
 sss_nil)
 (sss_one (ss_ret (se_cmp (os_eqX hu) (se_bD (cs_reprR hgu hu hsy) T.n_repr (by decide +kernel) (sa_cons (se_c c__law_fields hgu (hr.mono (by omega)) tk (sa_cons (se_var 0) sa_nil)) sa_nil)) (se_bD (cs_reprR hgu hu hsy) T.n_repr (by decide +kernel) (sa_cons (se_op os_mul (se_lst (sa_cons (se_var 1) sa_nil)) se_int) sa_nil))))))
/-! ### _law_placed -/
abbrev s__law_placed : Stmt := top 25
def N__law_placed : List Str := ["_law_odd", "_law_found"]
def fb__law_placed : FS := (fsSeq (fsSet 1 (evLst (faCons (evMkE "InvalidNumber" "value" (evVar 0)) (faCons (evMkE "InvalidCell" "value" (evVar 0)) (faCons (evMkE "InvalidNest" "value" (evVar 0)) (faCons (evMkE "InvalidProgram" "value" (evVar 0)) (faCons (evMkE "InvalidOrder" "value" (evVar 0)) faNil)))))))
 (fsSeq (fsSet 1 (evOp addD (evVar 1) (evLst (faCons (evMkE "InvalidList" "value" (evVar 0)) (faCons (evMkE "InvalidText" "value" (evVar 0)) (faCons (evMkE "InvalidFamily" "value" (evVar 0)) (faCons (evMkE "UnlikeAxes" "axes" (evVar 0)) (faCons (evMkE "NotStraight" "place" (evVar 0)) faNil))))))))
 (fsRet (evOp addD (evVar 1) (evLst (faCons (evMkE "Negative" "place" (evVar 0)) (faCons (evMkE "NegativeCount" "number" (evVar 0)) (faCons (evMkE "InvalidName" "name" (evVar 0)) (faCons (evMkE "TakenName" "name" (evVar 0)) (faCons (evMkE "UnknownName" "name" (evVar 0)) faNil))))))))))
def run__law_placed : FF := runP 2 1 fb__law_placed
theorem sc__law_placed : FnScope N__law_placed ["_law_odd"] (defScope s__law_placed) := ⟨rfl, rfl, rfl, by decide +kernel, rfl, by decide +kernel, by decide +kernel⟩
theorem bd__law_placed {f : Addr} (T : Txt P K mg Ad) (hsy : ∃ mm, base.Ns sysModules mm) : BdA P w K mg base N__law_placed "_law_placed" s__law_placed f 0 (fb__law_placed) := by
  intro cdv A outer s H E hgu hr
  have tk : Takes (cxD P w K mg base N__law_placed "_law_placed" s__law_placed f cdv A outer s H E) (fun cls d _ H' => E cls d H') := takes_of rfl rfl rfl rfl
  have hp : PassesOwn (model P w) (cxD P w K mg base N__law_placed "_law_placed" s__law_placed f cdv A outer s H E).A (cxD P w K mg base N__law_placed "_law_placed" s__law_placed f cdv A outer s H E).env (cxD P w K mg base N__law_placed "_law_placed" s__law_placed f cdv A outer s H E).xe := passes_of rfl
  have hu := hr.units
  have hN : N__law_placed.Nodup := sc__law_placed.nd
  have hc : (cxD P w K mg base N__law_placed "_law_placed" s__law_placed f cdv A outer s H E).calm = true := rfl
  exact (sss_cons (ss_set (i := 1) hN (se_lst (sa_cons (se_mkE (v := "value") T.errs (by decide +kernel) hr (se_var 0)) (sa_cons (se_mkE (v := "value") T.errs (by decide +kernel) hr (se_var 0)) (sa_cons (se_mkE (v := "value") T.errs (by decide +kernel) hr (se_var 0)) (sa_cons (se_mkE (v := "value") T.errs (by decide +kernel) hr (se_var 0)) (sa_cons (se_mkE (v := "value") T.errs (by decide +kernel) hr (se_var 0)) sa_nil)))))))
 (sss_cons (ss_set (i := 1) hN (se_op os_add (se_var 1) (se_lst (sa_cons (se_mkE (v := "value") T.errs (by decide +kernel) hr (se_var 0)) (sa_cons (se_mkE (v := "value") T.errs (by decide +kernel) hr (se_var 0)) (sa_cons (se_mkE (v := "value") T.errs (by decide +kernel) hr (se_var 0)) (sa_cons (se_mkE (v := "axes") T.errs (by decide +kernel) hr (se_var 0)) (sa_cons (se_mkE (v := "place") T.errs (by decide +kernel) hr (se_var 0)) sa_nil))))))))
 (sss_one (ss_ret (se_op os_add (se_var 1) (se_lst (sa_cons (se_mkE (v := "place") T.errs (by decide +kernel) hr (se_var 0)) (sa_cons (se_mkE (v := "number") T.errs (by decide +kernel) hr (se_var 0)) (sa_cons (se_mkE (v := "name") T.errs (by decide +kernel) hr (se_var 0)) (sa_cons (se_mkE (v := "name") T.errs (by decide +kernel) hr (se_var 0)) (sa_cons (se_mkE (v := "name") T.errs (by decide +kernel) hr (se_var 0)) sa_nil)))))))))))
/-! ### _law_named -/
abbrev s__law_named : Stmt := top 26
def N__law_named : List Str := ["_law_odd", "_law_found"]
def fb__law_named : FS := (fsSeq (fsSet 1 (evLst (faCons (evMkE "InvalidNumber" "value" (evVar 0)) (faCons (evMkE "InvalidCell" "value" (evVar 0)) (faCons (evMkE "InvalidNest" "value" (evVar 0)) (faCons (evMkE "InvalidProgram" "value" (evVar 0)) faNil))))))
 (fsSeq (fsSet 1 (evOp addD (evVar 1) (evLst (faCons (evMkE "InvalidOrder" "value" (evVar 0)) (faCons (evMkE "InvalidList" "value" (evVar 0)) (faCons (evMkE "InvalidText" "value" (evVar 0)) (faCons (evMkE "InvalidFamily" "value" (evVar 0)) faNil)))))))
 (fsSeq (fsSet 1 (evOp addD (evVar 1) (evLst (faCons (evMkE "UnlikeAxes" "axes" (evVar 0)) (faCons (evMkE "NotStraight" "place" (evVar 0)) (faCons (evMkE "Negative" "place" (evVar 0)) (faCons (evMkE "NegativeCount" "number" (evVar 0)) faNil)))))))
 (fsRet (evOp addD (evVar 1) (evLst (faCons (evMkE "InvalidName" "name" (evVar 0)) (faCons (evMkE "TakenName" "name" (evVar 0)) (faCons (evMkE "UnknownName" "name" (evVar 0)) faNil)))))))))
def run__law_named : FF := runP 2 1 fb__law_named
theorem sc__law_named : FnScope N__law_named ["_law_odd"] (defScope s__law_named) := ⟨rfl, rfl, rfl, by decide +kernel, rfl, by decide +kernel, by decide +kernel⟩
theorem bd__law_named {f : Addr} (T : Txt P K mg Ad) (hsy : ∃ mm, base.Ns sysModules mm) : BdA P w K mg base N__law_named "_law_named" s__law_named f 0 (fb__law_named) := by
  intro cdv A outer s H E hgu hr
  have tk : Takes (cxD P w K mg base N__law_named "_law_named" s__law_named f cdv A outer s H E) (fun cls d _ H' => E cls d H') := takes_of rfl rfl rfl rfl
  have hp : PassesOwn (model P w) (cxD P w K mg base N__law_named "_law_named" s__law_named f cdv A outer s H E).A (cxD P w K mg base N__law_named "_law_named" s__law_named f cdv A outer s H E).env (cxD P w K mg base N__law_named "_law_named" s__law_named f cdv A outer s H E).xe := passes_of rfl
  have hu := hr.units
  have hN : N__law_named.Nodup := sc__law_named.nd
  have hc : (cxD P w K mg base N__law_named "_law_named" s__law_named f cdv A outer s H E).calm = true := rfl
  exact (sss_cons (ss_set (i := 1) hN (se_lst (sa_cons (se_mkEK (v := "value") T.errs (by decide +kernel) PySem.ErrX.bk_value hr (se_var 0)) (sa_cons (se_mkEK (v := "value") T.errs (by decide +kernel) PySem.ErrX.bk_value hr (se_var 0)) (sa_cons (se_mkEK (v := "value") T.errs (by decide +kernel) PySem.ErrX.bk_value hr (se_var 0)) (sa_cons (se_mkEK (v := "value") T.errs (by decide +kernel) PySem.ErrX.bk_value hr (se_var 0)) sa_nil))))))
 (sss_cons (ss_set (i := 1) hN (se_op os_add (se_var 1) (se_lst (sa_cons (se_mkEK (v := "value") T.errs (by decide +kernel) PySem.ErrX.bk_value hr (se_var 0)) (sa_cons (se_mkEK (v := "value") T.errs (by decide +kernel) PySem.ErrX.bk_value hr (se_var 0)) (sa_cons (se_mkEK (v := "value") T.errs (by decide +kernel) PySem.ErrX.bk_value hr (se_var 0)) (sa_cons (se_mkEK (v := "value") T.errs (by decide +kernel) PySem.ErrX.bk_value hr (se_var 0)) sa_nil)))))))
 (sss_cons (ss_set (i := 1) hN (se_op os_add (se_var 1) (se_lst (sa_cons (se_mkEK (v := "axes") T.errs (by decide +kernel) PySem.ErrX.bk_axes hr (se_var 0)) (sa_cons (se_mkEK (v := "place") T.errs (by decide +kernel) PySem.ErrX.bk_place hr (se_var 0)) (sa_cons (se_mkEK (v := "place") T.errs (by decide +kernel) PySem.ErrX.bk_place hr (se_var 0)) (sa_cons (se_mkEK (v := "number") T.errs (by decide +kernel) PySem.ErrX.bk_number hr (se_var 0)) sa_nil)))))))
 (sss_one (ss_ret (se_op os_add (se_var 1) (se_lst (sa_cons (se_mkEK (v := "name") T.errs (by decide +kernel) PySem.ErrX.bk_name hr (se_var 0)) (sa_cons (se_mkEK (v := "name") T.errs (by decide +kernel) PySem.ErrX.bk_name hr (se_var 0)) (sa_cons (se_mkEK (v := "name") T.errs (by decide +kernel) PySem.ErrX.bk_name hr (se_var 0)) sa_nil))))))))))
/-! ### _law_bare -/
abbrev s__law_bare : Stmt := top 27
def N__law_bare : List Str := ["_law_found"]
def fb__law_bare : FS := (fsSeq (fsSet 0 (evLst (faCons (evC (.exn "InvalidNumber" "value" .non)) (faCons (evC (.exn "InvalidCell" "value" .non)) (faCons (evC (.exn "InvalidNest" "value" .non)) (faCons (evC (.exn "InvalidProgram" "value" .non)) (faCons (evC (.exn "InvalidOrder" "value" .non)) (faCons (evC (.exn "InvalidList" "value" .non)) faNil))))))))
 (fsSeq (fsSet 0 (evOp addD (evVar 0) (evLst (faCons (evC (.exn "InvalidText" "value" .non)) (faCons (evC (.exn "InvalidFamily" "value" .non)) (faCons (evC (.exn "UnlikeAxes" "axes" .non)) (faCons (evC (.exn "NotStraight" "place" .non)) (faCons (evC (.exn "Negative" "place" .non)) (faCons (evC (.exn "NegativeCount" "number" .non)) faNil)))))))))
 (fsRet (evOp addD (evVar 0) (evLst (faCons (evC (.exn "InvalidName" "name" .non)) (faCons (evC (.exn "TakenName" "name" .non)) (faCons (evC (.exn "UnknownName" "name" .non)) faNil))))))))
def run__law_bare : FF := runP 1 0 fb__law_bare
theorem sc__law_bare : FnScope N__law_bare [] (defScope s__law_bare) := ⟨rfl, rfl, rfl, by decide +kernel, rfl, by decide +kernel, by decide +kernel⟩
theorem bd__law_bare {f : Addr} (T : Txt P K mg Ad) (hsy : ∃ mm, base.Ns sysModules mm) : BdA P w K mg base N__law_bare "_law_bare" s__law_bare f 0 (fb__law_bare) := by
  intro cdv A outer s H E hgu hr
  have tk : Takes (cxD P w K mg base N__law_bare "_law_bare" s__law_bare f cdv A outer s H E) (fun cls d _ H' => E cls d H') := takes_of rfl rfl rfl rfl
  have hp : PassesOwn (model P w) (cxD P w K mg base N__law_bare "_law_bare" s__law_bare f cdv A outer s H E).A (cxD P w K mg base N__law_bare "_law_bare" s__law_bare f cdv A outer s H E).env (cxD P w K mg base N__law_bare "_law_bare" s__law_bare f cdv A outer s H E).xe := passes_of rfl
  have hu := hr.units
  have hN : N__law_bare.Nodup := sc__law_bare.nd
  have hc : (cxD P w K mg base N__law_bare "_law_bare" s__law_bare f cdv A outer s H E).calm = true := rfl
  exact (sss_cons (ss_set (i := 0) hN (se_lst (sa_cons (se_mkE0 (v := "value") T.errs (by decide +kernel) PySem.ErrX.bk_value hr) (sa_cons (se_mkE0 (v := "value") T.errs (by decide +kernel) PySem.ErrX.bk_value hr) (sa_cons (se_mkE0 (v := "value") T.errs (by decide +kernel) PySem.ErrX.bk_value hr) (sa_cons (se_mkE0 (v := "value") T.errs (by decide +kernel) PySem.ErrX.bk_value hr) (sa_cons (se_mkE0 (v := "value") T.errs (by decide +kernel) PySem.ErrX.bk_value hr) (sa_cons (se_mkE0 (v := "value") T.errs (by decide +kernel) PySem.ErrX.bk_value hr) sa_nil))))))))
 (sss_cons (ss_set (i := 0) hN (se_op os_add (se_var 0) (se_lst (sa_cons (se_mkE0 (v := "value") T.errs (by decide +kernel) PySem.ErrX.bk_value hr) (sa_cons (se_mkE0 (v := "value") T.errs (by decide +kernel) PySem.ErrX.bk_value hr) (sa_cons (se_mkE0 (v := "axes") T.errs (by decide +kernel) PySem.ErrX.bk_axes hr) (sa_cons (se_mkE0 (v := "place") T.errs (by decide +kernel) PySem.ErrX.bk_place hr) (sa_cons (se_mkE0 (v := "place") T.errs (by decide +kernel) PySem.ErrX.bk_place hr) (sa_cons (se_mkE0 (v := "number") T.errs (by decide +kernel) PySem.ErrX.bk_number hr) sa_nil)))))))))
 (sss_one (ss_ret (se_op os_add (se_var 0) (se_lst (sa_cons (se_mkE0 (v := "name") T.errs (by decide +kernel) PySem.ErrX.bk_name hr) (sa_cons (se_mkE0 (v := "name") T.errs (by decide +kernel) PySem.ErrX.bk_name hr) (sa_cons (se_mkE0 (v := "name") T.errs (by decide +kernel) PySem.ErrX.bk_name hr) sa_nil)))))))))
/-! ### law -/
abbrev s_law : Stmt := top 28
def N_law : List Str := ["_law_script", "_law_drawn", "_law_kept", "_law_odd", "_law_first", "_law_second"]
def fb_law : FS := (fsSeq (fsSet 1 (evCall run__law_draw [] (faCons (evLive (evCall run__law_purse [] (faCons (evVar 0) (faCons (evC (.int 0)) faNil)))) (faCons (evOp powD (evC (.int 10)) (evC (.int 12))) faNil))))
 (fsSeq (fsSet 2 (evCall run__law_placed [] (faCons (evVar 1) faNil)))
 (fsSeq (fsFor (fiOf (evLst (faCons (evVar 1) (faCons (evOp subD (evC (.int 0)) (evVar 1)) (faCons (evTup (faCons (evC (.int 1)) (faCons (evC (.int 2)) faNil))) (faCons (evTup faNil) (faCons (evLive (evLst (faCons (evC (.int 1)) faNil))) (faCons (evLive (evLst faNil)) (faCons evDK (faCons (evDisp1 "a" 1) (faCons (evC (.str "a b")) (faCons (evC (.str "")) (faCons (evC (.bl true)) (faCons (evC (.bl false)) (faCons (evC .non) (faCons (evTup (faCons (evTup (faCons (evC (.int 1)) faNil)) (faCons (evLst (faCons (evC (.int 2)) faNil)) faNil))) faNil))))))))))))))) asQ) (.nm 3)
 (fsSeq (fsPar 4 5 (faCons (evCall run__law_placed [] (faCons (evVar 3) faNil)) (faCons (evCall run__law_named [] (faCons (evVar 3) faNil)) faNil)))
 (fsSeq (fsIf (ftOr (ftNot (ftVal (evCall run__law_right [] (faCons (evVar 4) (faCons (evVar 3) faNil))))) (ftNot (ftVal (evCall run__law_right [] (faCons (evVar 5) (faCons (evVar 3) faNil))))))
 (fsRet (evC (.bl false)))
 fsNil)
 (fsSeq (fsIf (ftVal (evB (isiD errL) (faCons (evVar 3) (faCons (evC (.ty "list")) faNil))))
 (fsExpr (evM appD (evVar 3) (faCons (evC (.str "more")) faNil)))
 fsNil)
 (fsIf (ftOr (ftNot (ftVal (evCall run__law_right [] (faCons (evVar 4) (faCons (evVar 3) faNil))))) (ftNot (ftVal (evCall run__law_right [] (faCons (evVar 5) (faCons (evVar 3) faNil))))))
 (fsRet (evC (.bl false)))
 fsNil)))))
 (fsRet (evAnd (evCall run__law_right [] (faCons (evVar 2) (faCons (evVar 1) faNil))) (evAnd (evCall run__law_right [] (faCons (evCall run__law_bare [] faNil) (faCons (evC .non) faNil))) (evOp eqDX (evCall run__law_kinds [] (faCons (evC (.exn "NothingToUndo" Str.empty .non)) faNil)) (evLst (faCons (evC (.int 15)) faNil)))))))))
def run_law : FF := runP 6 1 fb_law
theorem sc_law : FnScope N_law ["_law_script"] (defScope s_law) := ⟨rfl, rfl, rfl, by decide +kernel, rfl, by decide +kernel, by decide +kernel⟩
theorem bd_law {f : Addr} (T : Txt P K mg Ad) (hsy : ∃ mm, base.Ns sysModules mm) (c__law_bare : Cal P w K mg base 1 "_law_bare" [] run__law_bare) (c__law_draw : Cal P w K mg base 2 "_law_draw" [] run__law_draw) (c__law_kinds : Cal P w K mg base 1 "_law_kinds" [] run__law_kinds) (c__law_named : Cal P w K mg base 1 "_law_named" [] run__law_named) (c__law_placed : Cal P w K mg base 1 "_law_placed" [] run__law_placed) (c__law_purse : Cal P w K mg base 1 "_law_purse" [] run__law_purse) (c__law_right : Cal P w K mg base 2 "_law_right" [] run__law_right) : BdA P w K mg base N_law "law" s_law f 2 (fb_law) := by
  intro cdv A outer s H E hgu hr
  have tk : Takes (cxD P w K mg base N_law "law" s_law f cdv A outer s H E) (fun cls d _ H' => E cls d H') := takes_of rfl rfl rfl rfl
  have hp : PassesOwn (model P w) (cxD P w K mg base N_law "law" s_law f cdv A outer s H E).A (cxD P w K mg base N_law "law" s_law f cdv A outer s H E).env (cxD P w K mg base N_law "law" s_law f cdv A outer s H E).xe := passes_of rfl
  have hu := hr.units
  have hN : N_law.Nodup := sc_law.nd
  have hc : (cxD P w K mg base N_law "law" s_law f cdv A outer s H E).calm = true := rfl
  exact (sss_cons (ss_set (i := 1) hN (se_c c__law_draw hgu (hr.mono (by omega)) tk (sa_cons (se_live (se_c c__law_purse hgu (hr.mono (by omega)) tk (sa_cons (se_var 0) (sa_cons se_int sa_nil)))) (sa_cons (se_op os_pow se_int se_int) sa_nil))))
 (sss_cons (ss_set (i := 2) hN (se_c c__law_placed hgu (hr.mono (by omega)) tk (sa_cons (se_var 1) sa_nil)))
 (sss_cons (ss_for hp hc (si_seq (se_lst (sa_cons (se_var 1) (sa_cons (se_op os_sub se_int (se_var 1)) (sa_cons (se_tup (sa_cons se_int (sa_cons se_int sa_nil))) (sa_cons (se_tup sa_nil) (sa_cons (se_live (se_lst (sa_cons se_int sa_nil))) (sa_cons (se_live (se_lst sa_nil)) (sa_cons se_dK (sa_cons (se_disp1 1) (sa_cons se_str (sa_cons se_str (sa_cons se_bl (sa_cons se_bl (sa_cons se_non (sa_cons (se_tup (sa_cons (se_tup (sa_cons se_int sa_nil)) (sa_cons (se_lst (sa_cons se_int sa_nil)) sa_nil))) sa_nil)))))))))))))))) (sg_nm hN)
 (sss_cons (ss_par (i := 4) (j := 5) hc hN (sa_cons (se_c c__law_placed hgu (hr.mono (by omega)) tk (sa_cons (se_var 3) sa_nil)) (sa_cons (se_c c__law_named hgu (hr.mono (by omega)) tk (sa_cons (se_var 3) sa_nil)) sa_nil)))
 (sss_cons (ss_if (SW.st (sw_or (st_not (st_val (se_c c__law_right hgu (hr.mono (by omega)) tk (sa_cons (se_var 4) (sa_cons (se_var 3) sa_nil))))) (sw_or1 (st_not (st_val (se_c c__law_right hgu (hr.mono (by omega)) tk (sa_cons (se_var 5) (sa_cons (se_var 3) sa_nil))))))))
 (sss_one (ss_ret se_bl))
 sss_nil)
 (sss_cons (ss_if (st_val (se_b (cs_isi T.errs) T.n_isinstance (by decide +kernel) (sa_cons (se_var 3) (sa_cons (se_ty T.n_list (by decide +kernel)) sa_nil))))
 (sss_one (ss_expr (se_app (se_var 3) (sa_cons se_str sa_nil))))
 sss_nil)
 (sss_one (ss_if (SW.st (sw_or (st_not (st_val (se_c c__law_right hgu (hr.mono (by omega)) tk (sa_cons (se_var 4) (sa_cons (se_var 3) sa_nil))))) (sw_or1 (st_not (st_val (se_c c__law_right hgu (hr.mono (by omega)) tk (sa_cons (se_var 5) (sa_cons (se_var 3) sa_nil))))))))
 (sss_one (ss_ret se_bl))
 sss_nil))))))
 (sss_one (ss_ret (se_and (se_c c__law_right hgu (hr.mono (by omega)) tk (sa_cons (se_var 2) (sa_cons (se_var 1) sa_nil))) (se_and (se_c c__law_right hgu (hr.mono (by omega)) tk (sa_cons (se_c0 c__law_bare hgu (hr.mono (by omega)) tk) (sa_cons se_non sa_nil))) (se_one (se_cmp (os_eqX hu) (se_c c__law_kinds hgu (hr.mono (by omega)) tk (sa_cons (se_mk00 T.no0) sa_nil)) (se_lst (sa_cons se_int sa_nil)))))))))))
end
end K01
namespace K01
open PySem PySem.Spec PyProof.Rows L2 Tr
local macro_rules | `(tactic| walk_at "dv") => `(tactic| first
  | with_reducible assumption
  | exact rfl
  | exact deepV_pure rfl rfl)
local macro_rules | `(tactic| walk_at "lk") => `(tactic| first
  | with_reducible assumption
  | ((show look _ _ = _); (with_reducible assumption))
  | ((dsimp only [muV, peek, look]); (with_reducible assumption))
  | ((dsimp only [muV, peek, look]); exact List.getElem?_set_self (by first | (with_reducible assumption) | (simp only [List.length_set]; (with_reducible assumption))))
  | ((dsimp only [muV, peek, look]); simp only [*, Option.isSome_some]; done)
  | ((dsimp only [muV, peek, look]); (simp only [*, List.getElem?_set_self, List.length_set, Option.isSome_some]); done))
local macro_rules | `(tactic| walk_at "side") => `(tactic| first
  | with_reducible assumption
  | (with_reducible exact eqDX_i _ _)
  | (with_reducible exact neDX_i _ _)
  | (with_reducible exact eqD_i _ _)
  | (with_reducible exact neD_i _ _)
  | (exact rfl)
  | ((with_reducible refine' mulD_i inferInstance inferInstance ?_); decide +kernel)
  | ((with_reducible refine' mulX_i inferInstance inferInstance ?_); decide +kernel)
  | ((with_reducible refine' divD_i inferInstance ?_ ?_); (decide +kernel); (first | (with_reducible assumption) | omega | decide))
  | ((with_reducible refine modD_i ?_); (first | (with_reducible assumption) | omega | decide))
  | with_reducible assumption
  | (with_reducible exact addLs (by (try simp only [List.length_append, List.length_cons, List.length_nil, List.length_map]); omega))
  | (with_reducible exact addT (by (try simp only [List.length_append, List.length_cons, List.length_nil, List.length_map]); omega))
  | (with_reducible exact appLs (by (try simp only [List.length_append, List.length_cons, List.length_nil, List.length_map]); omega)))
local macro_rules | `(tactic| walk_at "dec") => `(tactic| first
  | (first | rfl | (with_reducible assumption) | (simp only [decide_eq_true_eq, Bool.not_eq_true', decide_eq_false_iff_not, Bool.not_eq_eq_eq_not, Bool.not_true, Bool.not_false, Bool.not_eq_true, Bool.not_not] <;> first | (with_reducible assumption) | omega | decide)))
local macro_rules | `(tactic| walk_at "wp1") => `(tactic| first
  | ((with_reducible refine' wp_var ?a ?_); (case a => exact rfl); (try dsimp only))
  | ((with_reducible refine' wp_varo ?a ?_); (case a => exact rfl); (try dsimp only))
  | ((with_reducible refine' wp_c ?_); (try dsimp only))
  | (with_reducible refine' wp_op ?_)
  | ((with_reducible refine' wp_op2 ?a ?b ?c ?_); (case a => first | rfl | (walk_at "lk")); (case b => first | rfl | (walk_at "lk")); (case c => walk_at "side"); (try dsimp only))
  | (with_reducible refine' wp_opD ?_)
  | ((with_reducible refine' wp_op2D ?a ?b ?c ?d ?_); (case a => walk_at "dv"); (case b => walk_at "dv"); (case c => walk_at "side"); (case d => exact rfl); (try dsimp only))
  | (with_reducible refine' wp_bD ?_)
  | ((with_reducible refine' wp_callD ?a ?c ?d ?_); (case a => walk_at "dv"); (case c => walk_at "side"); (case d => exact rfl); (try dsimp only))
  | (with_reducible refine' wp_un ?_)
  | ((with_reducible refine' wp_op1 ?a ?c ?_); (case a => first | rfl | (walk_at "lk")); (case c => walk_at "side"); (try dsimp only))
  | ((with_reducible refine' wp_m2 ?a ?_); (case a => first | exact rfl | ((dsimp only [muV]); simp only [*, isLst]; done)))
  | ((with_reducible refine' wp_ite_t ?a ?_); (case a => walk_at "dec"); (try dsimp only))
  | ((with_reducible refine' wp_ite_f ?a ?_); (case a => walk_at "dec"); (try dsimp only))
  | ((with_reducible refine' ite_pt ?a ?_); (case a => walk_at "dec"); (try dsimp only))
  | ((with_reducible refine' ite_pf ?a ?_); (case a => walk_at "dec"); (try dsimp only))
  | (with_reducible refine' wp_ife ?_)
  | (with_reducible refine' wp_and ?_)
  | (with_reducible refine' wp_or ?_)
  | (with_reducible refine' wp_not ?_)
  | (with_reducible refine' wp_tup ?_)
  | ((with_reducible refine' wp_dispT ?a ?b ?_); (case a => exact rfl); (case b => (first | exact Nat.le_of_ble_eq_true rfl | ((try dsimp only); simp only [List.length_map, List.length_range, List.length_append, List.length_cons, List.length_nil]; omega) | ((try dsimp only); omega))); (try dsimp only [En.set, List.set, setMu, En.push]))
  | (with_reducible refine' wp_lst ?_)
  | ((with_reducible refine' wp_dispL ?a ?b ?_); (case a => exact rfl); (case b => (first | exact Nat.le_of_ble_eq_true rfl | ((try dsimp only); simp only [List.length_map, List.length_range, List.length_append, List.length_cons, List.length_nil]; omega) | ((try dsimp only); omega))); (try dsimp only [En.set, List.set, setMu, En.push]))
  | (with_reducible refine' wp_b ?_)
  | ((with_reducible refine' wp_callG ?a ?c ?_); (case a => first | rfl | (walk_at "lk")); (case c => walk_at "side"); (try dsimp only))
  | (with_reducible refine' wp_call ?_)
  | ((with_reducible refine' wp_callP ?a ?_); (case a => exact rfl); (try dsimp only [List.cons_append, List.nil_append, List.append_nil]); (try dsimp only [En.set, List.set, setMu, En.push]))
  | (with_reducible refine' wp_sl ?_)
  | ((with_reducible refine' wp_slEnd ?a ?c ?_); (case a => first | rfl | (walk_at "lk")); (case c => walk_at "side"); (try dsimp only))
  | (with_reducible refine' wp_m ?_)
  | ((with_reducible refine' wp_meth ?a ?b ?c ?d ?_); (case a => exact rfl); (case b => first | exact rfl | (walk_at "lk")); (case c => walk_at "side"); (case d => exact rfl); (try dsimp only [En.set, List.set, setMu]); (try simp only [List.set_set, Int.reduceToNat, List.set]))
  | (with_reducible refine' wp_frz ?_)
  | ((with_reducible refine' wp_frzF ?_); (try dsimp only))
  | ((with_reducible refine' wp_frzS ?_); (try dsimp only))
  | (with_reducible refine' wp_live ?_)
  | ((with_reducible refine' wp_liveF ?a ?_); (case a => exact rfl); (try dsimp only [En.set, List.set, setMu, En.push]))
  | ((with_reducible refine' wp_liveS ?_); (try dsimp only))
  | ((with_reducible refine' wp_dk ?_); (try dsimp only))
  | (with_reducible refine' wp_val ?_)
  | ((with_reducible refine' wp_asB ?_); (try dsimp only))
  | (with_reducible refine' wp_tand ?_)
  | (with_reducible refine' wp_tor ?_)
  | (with_reducible refine' wp_tnot ?_)
  | ((with_reducible refine' wp_yes ?_); (try dsimp only))
  | ((with_reducible refine' wp_nil ?_); (try dsimp only [Val.held]))
  | (with_reducible refine' wp_cons ?_)
  | ((with_reducible refine' wp_foN ?_); (try dsimp only))
  | (with_reducible refine' wp_foS ?_)
  | ((with_reducible refine' wp_asI ?_); (try dsimp only))
  | ((with_reducible refine' wp_fnil ?_); (try dsimp only))
  | (with_reducible refine' wp_seq ?_)
  | (with_reducible refine' wp_expr ?_)
  | (with_reducible refine' wp_ret ?_)
  | ((with_reducible refine' wp_retN ?_); (try dsimp only))
  | (with_reducible refine' wp_if ?_)
  | (with_reducible refine' wp_set ?_)
  | ((with_reducible refine' wp_stV ?a ?_); (case a => exact rfl); (try dsimp only [En.set, List.set, setMu, En.push]))
  | (with_reducible refine' wp_pat ?_)
  | ((with_reducible refine' wp_paV ?a ?b ?_); (case a => exact rfl); (case b => exact rfl); (try dsimp only [En.set, List.set, setMu, En.push]))
  | (with_reducible refine' wp_patL ?_)
  | ((with_reducible refine' wp_paL ?a ?b ?_); (case a => exact rfl); (case b => exact rfl); (try dsimp only [En.set, List.set, setMu, En.push]))
  | (with_reducible refine' wp_put ?_)
  | ((with_reducible refine' wp_putV ?a ?_); (case a => exact rfl); (try dsimp only))
  | (with_reducible refine' wp_putTwo ?_)
  | ((with_reducible refine' wp_put2V ?a ?_); (case a => exact rfl); (try dsimp only [En.set, List.set, setMu, En.push]))
  | (with_reducible refine' wp_putD ?_)
  | ((with_reducible refine' wp_pdT ?a ?_); (case a => first | exact rfl | (walk_at "lk")); (try dsimp only))
  | ((with_reducible refine' wp_pdK ?a ?b ?c ?d ?_); (case a => exact rfl); (case b => first | exact rfl | (walk_at "lk")); (case c => walk_at "side"); (case d => exact rfl); (try dsimp only [En.set, List.set, setMu]); (try simp only [List.set_set, Int.reduceToNat, List.set]))
  | (with_reducible refine' wp_cv ?_)
  | ((with_reducible refine' wp_put2 ?a ?_); (case a => first | exact rfl | (walk_at "lk")); (try dsimp only))
  | ((with_reducible refine' wp_putEnd ?a ?b ?c ?d ?_); (case a => exact rfl); (case b => first | exact rfl | (walk_at "lk")); (case c => walk_at "side"); (case d => exact rfl); (try dsimp only [En.set, List.set, setMu]); (try simp only [List.set_set, Int.reduceToNat, List.set]))
  | ((with_reducible refine' wp_aug ?a ?_); (case a => exact rfl))
  | ((with_reducible refine' wp_augV ?a ?b ?c ?_); (case a => first | rfl | (walk_at "lk")); (case b => walk_at "side"); (case c => exact rfl); (try dsimp only [En.set, List.set, setMu, En.push]))
  | (with_reducible refine' wp_par ?_)
  | ((with_reducible refine' wp_prV ?a ?b ?_); (case a => exact rfl); (case b => exact rfl); (try dsimp only [En.set, List.set, setMu, En.push]))
  | (with_reducible refine' wp_par3 ?_)
  | ((with_reducible refine' wp_prV3 ?a ?b ?_); (case a => exact rfl); (case b => exact rfl); (try dsimp only [En.set, List.set, setMu, En.push]))
  | (with_reducible refine' wp_raise ?_)
  | ((with_reducible refine' wp_raV ?a ?_); (case a => exact rfl); (try dsimp only [En.set, List.set, setMu, En.push]))
  | (with_reducible refine' wp_try ?_)
  | ((with_reducible refine' wp_suite ?a ?b ?_); (case a => exact rfl); (case b => exact rfl); (try dsimp only [En.set, List.set, setMu, En.push]))
  | (with_reducible refine' wp_for ?_)
  | (with_reducible refine' wp_fiOf ?_)
  | (with_reducible refine' wp_fiA ?_)
  | ((with_reducible refine' wp_asQ ?a ?_); (case a => exact rfl); (try dsimp only))
  | ((with_reducible refine' wp_zipK ?a ?b ?c ?d ?_); (case a => exact rfl); (case b => exact rfl); (case c => exact rfl); (case d => first | (with_reducible assumption) | (simp only [List.length_map]; (first | (with_reducible assumption) | omega))); (try dsimp only))
  | ((with_reducible refine' wp_rng1 ?a ?b ?_); (case a => exact rfl); (case b => (first | omega | decide)); (try dsimp only))
  | ((with_reducible refine' wp_rng2 ?a ?b ?_); (case a => exact rfl); (case b => (first | omega | decide)); (try dsimp only))
  | (with_reducible refine' wp_lc ?_)
  | ((with_reducible refine' wp_lcEnd ?a ?b ?c ?_); (case a => exact rfl); (case b => (first | exact Nat.le_of_ble_eq_true rfl | ((try dsimp only); simp only [List.length_map, List.length_range, List.length_append, List.length_cons, List.length_nil]; omega) | ((try dsimp only); omega))); (case c => exact rfl); (try dsimp only [wipeE, En.set, List.set]))
  | ((with_reducible refine' wp_lcV ?a ?b ?_); (case a => exact rfl); (case b => exact rfl); (try dsimp only [wipeE, En.set, List.set]))
  | ((with_reducible refine' wp_ok ?_); (try dsimp only))
  | ((with_reducible refine' seqK_nx ?_); (try dsimp only))
  | (with_reducible refine' seqK_rt ?_)
  | (with_reducible refine' seqK_bk ?_)
  | (with_reducible refine' seqK_ct ?_)
  | ((with_reducible refine' turnK_nx ?_); (try dsimp only))
  | ((with_reducible refine' turnK_ct ?_); (try dsimp only))
  | (with_reducible refine' turnK_bk ?_)
  | (with_reducible refine' turnK_rt ?_))
local macro_rules | `(tactic| walk_at "wpu") => `(tactic| first
  | ((with_reducible refine' wp_lcons ?a ?_); (case a => exact rfl); (try dsimp only))
  | ((with_reducible refine' wp_lnil ?_); (try dsimp only))
  | ((with_reducible refine' wp_lccons ?a ?_); (case a => exact rfl); (try dsimp only))
  | ((with_reducible refine' wp_lcnil ?_); (try dsimp only [restE, En.set, List.set, List.getElem?_cons_succ, List.getElem?_cons_zero]); (try dsimp only)))
local macro_rules | `(tactic| walk_at "fin") => `(tactic| first
  | ((with_reducible refine' finW_sh ?a ?_); (case a => (first | rfl | (simp only [List.length_set]; done))))
  | ((with_reducible refine' finW_fr ?a ?_); (case a => (first | rfl | (simp only [List.length_set]; done))))
  | ((with_reducible refine' finW_nx ?a ?_); (case a => (first | rfl | (simp only [List.length_set]; done))))
  | ((with_reducible refine' finW_ow ?b ?a ?_); (case b => exact rfl); (case a => (first | rfl | (simp only [List.length_set]; done)))))
theorem mixed_ok {s i : Int} {m n : Nat} {L : List D} (hs : Sz s m) (hi : Sz i n) (hm : m ≤ 20000) (hn : n ≤ 20000) : run__law_mixed [.int s, .int i] L = .ok false (.int (mixD s i)) L := by
  haveI : Sz s 20000 := ⟨Nat.lt_of_lt_of_le hs.lt (Nat.pow_le_pow_right (by decide) hm)⟩
  haveI : Sz i 20000 := ⟨Nat.lt_of_lt_of_le hi.lt (Nat.pow_le_pow_right (by decide) hn)⟩
  apply RF.of_wp
  unfold run__law_mixed
  refine wp_run (by rfl) ?_
  unfold fb__law_mixed
  show R.wp (fsSeq _ _ ⟨[.sh (.int s), .sh (.int i), .un], L⟩) _ _
  repeat' (first | walk_at "wp1")
  walk_at "fin"
  exact ⟨rfl, rfl, rfl⟩
theorem draw_ok {L : List D} {k : Nat} {B g0 g1 g2 b : Int} (hL : L[k]? = some (puD g0 g1 g2)) (hp : Pu B g0 g1 g2) (hB : B ≤ 1000000000) (hb : 0 < b) (hb2 : b < 1000000000000000000000000000000000000000000000) :
    (run__law_draw [.ref k, .int b] L).wp (fun fr d L' => fr = false ∧ ∃ r h0 h2, d = .int r ∧ 0 ≤ r ∧ r < b ∧ L' = L.set k (puD h0 g1 h2) ∧ Pu (B + 7) h0 g1 h2) EN := by
  have h0 : b ≠ 0 := by omega
  haveI : Ps b := ⟨by omega⟩
  haveI sb : Sz b 150 := szI (by omega) (by omega)
  have hk : k < L.length := (List.getElem?_eq_some_iff.mp hL).1
  have e1 : ∀ x, (L.set k x)[k]? = some x := fun x => List.getElem?_set_self hk
  unfold run__law_draw
  refine wp_run (by rfl) ?_
  unfold fb__law_draw
  show R.wp (fsSeq _ _ ⟨[.sh (.ref k), .sh (.int b), .un, .un, .un], L⟩) _ _
  by_cases c : 0 < g0
  · repeat' (first | walk_at "wp1")
    walk_at "fin"
    exact ⟨rfl, g0.fmod b, g0.fdiv b, g2, rfl, (fmod_lt hb).1, (fmod_lt hb).2, rfl, hp.a0, hp.a1, hp.b0, by have := hp.b1; omega⟩
  · have ib : Builtin.Int.intBits b ≤ 150 := PyProof.Rows.intBits_le sb.lt
    have fd : ((Builtin.Int.intBits b : Nat) : Int).fdiv 30 = ((Builtin.Int.intBits b : Nat) : Int) / 30 := Int.fdiv_eq_ediv_of_nonneg _ (by decide)
    repeat' (first | ((with_reducible refine' wp_rng1 ?a ?b ?_); (case a => exact rfl); (case b => rw [fd]; omega); (try dsimp only)) | walk_at "wp1")
    refine wp_loop (I := fun n ρ => ∃ x y h2, ρ = ⟨[.sh (.ref k), .sh (.int b), .sh (.int x), y, .un], L.set k (puD g0 g1 h2)⟩ ∧ 0 ≤ x ∧ x.natAbs < 2 ^ (40 * n + 1) ∧ g2 ≤ h2 ∧ h2 ≤ g2 + n) ⟨0, .un, g2, ?_, by omega, by decide, by omega, by omega⟩ ?step ?fin
    · rw [set_same hL]
    case fin =>
      rintro ρ ⟨x, y, h2, rfl, h3, h4, h5, h6⟩
      repeat' (first | walk_at "wp1")
      walk_at "fin"
      rw [List.length_map, List.length_range, fd] at h6
      exact ⟨rfl, x.fmod b, g0, h2, rfl, (fmod_lt hb).1, (fmod_lt hb).2, rfl, hp.a0, hp.a1, by have := hp.b0; omega, by have := hp.b1; omega⟩
    case step =>
      rintro n d ρ hd ⟨x, y, h2, rfl, h3, h4, h5, h6⟩
      have hn : n < 6 := by
        have := (List.getElem?_eq_some_iff.mp hd).1
        rw [List.length_map, List.length_range, fd] at this
        omega
      haveI : Sz x 300 := ⟨Nat.lt_of_lt_of_le h4 (Nat.pow_le_pow_right (by decide) (by omega))⟩
      have q1 := hp.a0
      have q2 := hp.a1
      have q3 := hp.b0
      have q4 := hp.b1
      have m1 : Sz g1 100 := szI (by omega) (by omega)
      have m2 : Sz (h2 + 1) 100 := szI (by omega) (by omega)
      refine ⟨_, rfl, ?_⟩
      have mx := mixD_sz g1 (h2 + 1)
      dsimp only [En.set, List.set]
      repeat' (first | ((with_reducible refine' RF.wp_eq (mixed_ok m1 m2 (by decide) (by decide)) ?_); (try dsimp only [backV_f, backV_t])) | walk_at "wp1")
      refine ⟨_, _, h2 + 1, rfl, ?_, ?_, by omega, by omega⟩
      · have := Int.mul_nonneg h3 (show (0 : Int) ≤ 2147483587 by decide)
        omega
      · have e : 2 ^ (40 * (n + 1) + 1) = 2 ^ (40 * n + 1) * 2 ^ 40 := by rw [← Nat.pow_add]; congr 1
        have e2 : (2 : Nat) ^ 40 = 1099511627776 := rfl
        have e3 : 0 < 2 ^ (40 * n + 1) := Nat.pow_pos (by decide)
        rw [e, e2]
        omega
local macro_rules | `(tactic| walk_at "side") => `(tactic| first | exact pow18 | exact pow60 | exact pow600 | exact pow9 | exact pow39 | exact pow40 | exact sumD_map _)
theorem purse_ok (ns : List Int) {k : Int} {L : List D} (hk : 0 ≤ k) (hk2 : k ≤ 100) : ∃ g0 g1, run__law_purse [.scr ns, .int k] L = .ok true (puD g0 g1 (1000 * k)) L ∧ Pu (1000 * k) g0 g1 (1000 * k) := by
  haveI : Sz k 10 := szI (by omega) (by omega)
  apply Exists.intro
  apply Exists.intro
  refine ⟨?pe, ?pp⟩
  case pe =>
    apply RF.of_wp
    unfold run__law_purse
    refine wp_run (by rfl) ?_
    unfold fb__law_purse
    show R.wp (fsSeq _ _ ⟨[.sh (.scr ns), .sh (.int k), .un], L⟩) _ _
    repeat' (first | walk_at "wp1")
    walk_at "fin"
    exact ⟨rfl, rfl, rfl⟩
  case pp => exact ⟨(fmod_lt (by decide)).1, (fmod_lt (by decide)).2, by omega, by omega⟩
end K01
namespace K01
open PySem PySem.Spec PyProof.Rows L2 Tr
local macro_rules | `(tactic| walk_at "dv") => `(tactic| first
  | with_reducible assumption
  | exact rfl
  | exact deepV_pure rfl rfl)
local macro_rules | `(tactic| walk_at "lk") => `(tactic| first
  | with_reducible assumption
  | ((show look _ _ = _); (with_reducible assumption))
  | ((dsimp only [muV, peek, look]); (with_reducible assumption))
  | ((dsimp only [muV, peek, look]); exact List.getElem?_set_self (by first | (with_reducible assumption) | (simp only [List.length_set]; (with_reducible assumption))))
  | ((dsimp only [muV, peek, look]); simp only [*, Option.isSome_some]; done)
  | ((dsimp only [muV, peek, look]); (simp only [*, List.getElem?_set_self, List.length_set, Option.isSome_some]); done))
local macro_rules | `(tactic| walk_at "side") => `(tactic| first
  | with_reducible assumption
  | (with_reducible exact eqDX_i _ _)
  | (with_reducible exact neDX_i _ _)
  | (with_reducible exact eqD_i _ _)
  | (with_reducible exact neD_i _ _)
  | (exact rfl)
  | ((with_reducible refine' mulD_i inferInstance inferInstance ?_); decide +kernel)
  | ((with_reducible refine' mulX_i inferInstance inferInstance ?_); decide +kernel)
  | ((with_reducible refine' divD_i inferInstance ?_ ?_); (decide +kernel); (first | (with_reducible assumption) | omega | decide))
  | ((with_reducible refine modD_i ?_); (first | (with_reducible assumption) | omega | decide))
  | with_reducible assumption
  | (with_reducible exact addLs (by (try simp only [List.length_append, List.length_cons, List.length_nil, List.length_map]); omega))
  | (with_reducible exact addT (by (try simp only [List.length_append, List.length_cons, List.length_nil, List.length_map]); omega))
  | (with_reducible exact appLs (by (try simp only [List.length_append, List.length_cons, List.length_nil, List.length_map]); omega)))
local macro_rules | `(tactic| walk_at "dec") => `(tactic| first
  | (first | rfl | (with_reducible assumption) | (simp only [decide_eq_true_eq, Bool.not_eq_true', decide_eq_false_iff_not, Bool.not_eq_eq_eq_not, Bool.not_true, Bool.not_false, Bool.not_eq_true, Bool.not_not] <;> first | (with_reducible assumption) | omega | decide)))
local macro_rules | `(tactic| walk_at "wp1") => `(tactic| first
  | ((with_reducible refine' wp_var ?a ?_); (case a => exact rfl); (try dsimp only))
  | ((with_reducible refine' wp_varo ?a ?_); (case a => exact rfl); (try dsimp only))
  | ((with_reducible refine' wp_c ?_); (try dsimp only))
  | (with_reducible refine' wp_op ?_)
  | ((with_reducible refine' wp_op2 ?a ?b ?c ?_); (case a => first | rfl | (walk_at "lk")); (case b => first | rfl | (walk_at "lk")); (case c => walk_at "side"); (try dsimp only))
  | (with_reducible refine' wp_opD ?_)
  | ((with_reducible refine' wp_op2D ?a ?b ?c ?d ?_); (case a => walk_at "dv"); (case b => walk_at "dv"); (case c => walk_at "side"); (case d => exact rfl); (try dsimp only))
  | (with_reducible refine' wp_bD ?_)
  | ((with_reducible refine' wp_callD ?a ?c ?d ?_); (case a => walk_at "dv"); (case c => walk_at "side"); (case d => exact rfl); (try dsimp only))
  | (with_reducible refine' wp_un ?_)
  | ((with_reducible refine' wp_op1 ?a ?c ?_); (case a => first | rfl | (walk_at "lk")); (case c => walk_at "side"); (try dsimp only))
  | ((with_reducible refine' wp_m2 ?a ?_); (case a => first | exact rfl | ((dsimp only [muV]); simp only [*, isLst]; done)))
  | ((with_reducible refine' wp_ite_t ?a ?_); (case a => walk_at "dec"); (try dsimp only))
  | ((with_reducible refine' wp_ite_f ?a ?_); (case a => walk_at "dec"); (try dsimp only))
  | ((with_reducible refine' ite_pt ?a ?_); (case a => walk_at "dec"); (try dsimp only))
  | ((with_reducible refine' ite_pf ?a ?_); (case a => walk_at "dec"); (try dsimp only))
  | (with_reducible refine' wp_ife ?_)
  | (with_reducible refine' wp_and ?_)
  | (with_reducible refine' wp_or ?_)
  | (with_reducible refine' wp_not ?_)
  | (with_reducible refine' wp_tup ?_)
  | ((with_reducible refine' wp_dispT ?a ?b ?_); (case a => exact rfl); (case b => (first | exact Nat.le_of_ble_eq_true rfl | ((try dsimp only); simp only [List.length_map, List.length_range, List.length_append, List.length_cons, List.length_nil]; omega) | ((try dsimp only); omega))); (try dsimp only [En.set, List.set, setMu, En.push]))
  | (with_reducible refine' wp_lst ?_)
  | ((with_reducible refine' wp_dispL ?a ?b ?_); (case a => exact rfl); (case b => (first | exact Nat.le_of_ble_eq_true rfl | ((try dsimp only); simp only [List.length_map, List.length_range, List.length_append, List.length_cons, List.length_nil]; omega) | ((try dsimp only); omega))); (try dsimp only [En.set, List.set, setMu, En.push]))
  | (with_reducible refine' wp_b ?_)
  | ((with_reducible refine' wp_callG ?a ?c ?_); (case a => first | rfl | (walk_at "lk")); (case c => walk_at "side"); (try dsimp only))
  | (with_reducible refine' wp_call ?_)
  | ((with_reducible refine' wp_callP ?a ?_); (case a => exact rfl); (try dsimp only [List.cons_append, List.nil_append, List.append_nil]); (try dsimp only [En.set, List.set, setMu, En.push]))
  | (with_reducible refine' wp_sl ?_)
  | ((with_reducible refine' wp_slEnd ?a ?c ?_); (case a => first | rfl | (walk_at "lk")); (case c => walk_at "side"); (try dsimp only))
  | (with_reducible refine' wp_m ?_)
  | ((with_reducible refine' wp_meth ?a ?b ?c ?d ?_); (case a => exact rfl); (case b => first | exact rfl | (walk_at "lk")); (case c => walk_at "side"); (case d => exact rfl); (try dsimp only [En.set, List.set, setMu]); (try simp only [List.set_set, Int.reduceToNat, List.set]))
  | (with_reducible refine' wp_frz ?_)
  | ((with_reducible refine' wp_frzF ?_); (try dsimp only))
  | ((with_reducible refine' wp_frzS ?_); (try dsimp only))
  | (with_reducible refine' wp_live ?_)
  | ((with_reducible refine' wp_liveF ?a ?_); (case a => exact rfl); (try dsimp only [En.set, List.set, setMu, En.push]))
  | ((with_reducible refine' wp_liveS ?_); (try dsimp only))
  | ((with_reducible refine' wp_dk ?_); (try dsimp only))
  | (with_reducible refine' wp_val ?_)
  | ((with_reducible refine' wp_asB ?_); (try dsimp only))
  | (with_reducible refine' wp_tand ?_)
  | (with_reducible refine' wp_tor ?_)
  | (with_reducible refine' wp_tnot ?_)
  | ((with_reducible refine' wp_yes ?_); (try dsimp only))
  | ((with_reducible refine' wp_nil ?_); (try dsimp only [Val.held]))
  | (with_reducible refine' wp_cons ?_)
  | ((with_reducible refine' wp_foN ?_); (try dsimp only))
  | (with_reducible refine' wp_foS ?_)
  | ((with_reducible refine' wp_asI ?_); (try dsimp only))
  | ((with_reducible refine' wp_fnil ?_); (try dsimp only))
  | (with_reducible refine' wp_seq ?_)
  | (with_reducible refine' wp_expr ?_)
  | (with_reducible refine' wp_ret ?_)
  | ((with_reducible refine' wp_retN ?_); (try dsimp only))
  | (with_reducible refine' wp_if ?_)
  | (with_reducible refine' wp_set ?_)
  | ((with_reducible refine' wp_stV ?a ?_); (case a => exact rfl); (try dsimp only [En.set, List.set, setMu, En.push]))
  | (with_reducible refine' wp_pat ?_)
  | ((with_reducible refine' wp_paV ?a ?b ?_); (case a => exact rfl); (case b => exact rfl); (try dsimp only [En.set, List.set, setMu, En.push]))
  | (with_reducible refine' wp_patL ?_)
  | ((with_reducible refine' wp_paL ?a ?b ?_); (case a => exact rfl); (case b => exact rfl); (try dsimp only [En.set, List.set, setMu, En.push]))
  | (with_reducible refine' wp_put ?_)
  | ((with_reducible refine' wp_putV ?a ?_); (case a => exact rfl); (try dsimp only))
  | (with_reducible refine' wp_putTwo ?_)
  | ((with_reducible refine' wp_put2V ?a ?_); (case a => exact rfl); (try dsimp only [En.set, List.set, setMu, En.push]))
  | (with_reducible refine' wp_putD ?_)
  | ((with_reducible refine' wp_pdT ?a ?_); (case a => first | exact rfl | (walk_at "lk")); (try dsimp only))
  | ((with_reducible refine' wp_pdK ?a ?b ?c ?d ?_); (case a => exact rfl); (case b => first | exact rfl | (walk_at "lk")); (case c => walk_at "side"); (case d => exact rfl); (try dsimp only [En.set, List.set, setMu]); (try simp only [List.set_set, Int.reduceToNat, List.set]))
  | (with_reducible refine' wp_cv ?_)
  | ((with_reducible refine' wp_put2 ?a ?_); (case a => first | exact rfl | (walk_at "lk")); (try dsimp only))
  | ((with_reducible refine' wp_putEnd ?a ?b ?c ?d ?_); (case a => exact rfl); (case b => first | exact rfl | (walk_at "lk")); (case c => walk_at "side"); (case d => exact rfl); (try dsimp only [En.set, List.set, setMu]); (try simp only [List.set_set, Int.reduceToNat, List.set]))
  | ((with_reducible refine' wp_aug ?a ?_); (case a => exact rfl))
  | ((with_reducible refine' wp_augV ?a ?b ?c ?_); (case a => first | rfl | (walk_at "lk")); (case b => walk_at "side"); (case c => exact rfl); (try dsimp only [En.set, List.set, setMu, En.push]))
  | (with_reducible refine' wp_par ?_)
  | ((with_reducible refine' wp_prV ?a ?b ?_); (case a => exact rfl); (case b => exact rfl); (try dsimp only [En.set, List.set, setMu, En.push]))
  | (with_reducible refine' wp_par3 ?_)
  | ((with_reducible refine' wp_prV3 ?a ?b ?_); (case a => exact rfl); (case b => exact rfl); (try dsimp only [En.set, List.set, setMu, En.push]))
  | (with_reducible refine' wp_raise ?_)
  | ((with_reducible refine' wp_raV ?a ?_); (case a => exact rfl); (try dsimp only [En.set, List.set, setMu, En.push]))
  | (with_reducible refine' wp_try ?_)
  | ((with_reducible refine' wp_suite ?a ?b ?_); (case a => exact rfl); (case b => exact rfl); (try dsimp only [En.set, List.set, setMu, En.push]))
  | (with_reducible refine' wp_for ?_)
  | (with_reducible refine' wp_fiOf ?_)
  | (with_reducible refine' wp_fiA ?_)
  | ((with_reducible refine' wp_asQ ?a ?_); (case a => exact rfl); (try dsimp only))
  | ((with_reducible refine' wp_zipK ?a ?b ?c ?d ?_); (case a => exact rfl); (case b => exact rfl); (case c => exact rfl); (case d => first | (with_reducible assumption) | (simp only [List.length_map]; (first | (with_reducible assumption) | omega))); (try dsimp only))
  | ((with_reducible refine' wp_rng1 ?a ?b ?_); (case a => exact rfl); (case b => (first | omega | decide)); (try dsimp only))
  | ((with_reducible refine' wp_rng2 ?a ?b ?_); (case a => exact rfl); (case b => (first | omega | decide)); (try dsimp only))
  | (with_reducible refine' wp_lc ?_)
  | ((with_reducible refine' wp_lcEnd ?a ?b ?c ?_); (case a => exact rfl); (case b => (first | exact Nat.le_of_ble_eq_true rfl | ((try dsimp only); simp only [List.length_map, List.length_range, List.length_append, List.length_cons, List.length_nil]; omega) | ((try dsimp only); omega))); (case c => exact rfl); (try dsimp only [wipeE, En.set, List.set]))
  | ((with_reducible refine' wp_lcV ?a ?b ?_); (case a => exact rfl); (case b => exact rfl); (try dsimp only [wipeE, En.set, List.set]))
  | ((with_reducible refine' wp_ok ?_); (try dsimp only))
  | ((with_reducible refine' seqK_nx ?_); (try dsimp only))
  | (with_reducible refine' seqK_rt ?_)
  | (with_reducible refine' seqK_bk ?_)
  | (with_reducible refine' seqK_ct ?_)
  | ((with_reducible refine' turnK_nx ?_); (try dsimp only))
  | ((with_reducible refine' turnK_ct ?_); (try dsimp only))
  | (with_reducible refine' turnK_bk ?_)
  | (with_reducible refine' turnK_rt ?_)
  | (with_reducible refine' wp_mkE ?_)
  | ((with_reducible refine' wp_mkEnd ?a ?_); (case a => exact rfl); (try dsimp only [En.set, List.set, setMu, En.push]))
  | ((with_reducible refine' wp_disp1 ?a ?_); (case a => exact rfl); (try dsimp only)))
local macro_rules | `(tactic| walk_at "wpu") => `(tactic| first
  | ((with_reducible refine' wp_lcons ?a ?_); (case a => exact rfl); (try dsimp only))
  | ((with_reducible refine' wp_lnil ?_); (try dsimp only))
  | ((with_reducible refine' wp_lccons ?a ?_); (case a => exact rfl); (try dsimp only))
  | ((with_reducible refine' wp_lcnil ?_); (try dsimp only [restE, En.set, List.set, List.getElem?_cons_succ, List.getElem?_cons_zero]); (try dsimp only)))
local macro_rules | `(tactic| walk_at "fin") => `(tactic| first
  | ((with_reducible refine' finW_sh ?a ?_); (case a => (first | rfl | (simp only [List.length_set]; done))))
  | ((with_reducible refine' finW_fr ?a ?_); (case a => (first | rfl | (simp only [List.length_set]; done))))
  | ((with_reducible refine' finW_nx ?a ?_); (case a => (first | rfl | (simp only [List.length_set]; done))))
  | ((with_reducible refine' finW_ow ?b ?a ?_); (case b => exact rfl); (case a => (first | rfl | (simp only [List.length_set]; done)))))
abbrev er (d : D) : List D := [.exn "InvalidNumber" "value" d, .exn "InvalidCell" "value" d, .exn "InvalidNest" "value" d, .exn "InvalidProgram" "value" d, .exn "InvalidOrder" "value" d, .exn "InvalidList" "value" d, .exn "InvalidText" "value" d, .exn "InvalidFamily" "value" d, .exn "UnlikeAxes" "axes" d, .exn "NotStraight" "place" d, .exn "Negative" "place" d, .exn "NegativeCount" "number" d, .exn "InvalidName" "name" d, .exn "TakenName" "name" d, .exn "UnknownName" "name" d]
abbrev r15 (d : D) : List D := [d, d, d, d, d, d, d, d, d, d, d, d, d, d, d]
section
variable {L : List D} {d : D}
theorem kinds_0 : run__law_kinds [.exn "InvalidNumber" "value" d] L = .ok true (.lst [.int 0]) L := by
  have hb : fb__law_kinds (startP 3 [.exn "InvalidNumber" "value" d] L) = .ok (.rt (.fr (.lst [.int 0])), ⟨[.sh (.exn "InvalidNumber" "value" d), .ow (.lst [.bl true, .bl false, .bl false, .bl false, .bl false, .bl false, .bl false, .bl false, .bl false, .bl false, .bl false, .bl false, .bl false, .bl false, .bl false, .bl false]), .un], L⟩) := by kernel_rfl
  apply RF.of_wp
  unfold run__law_kinds
  refine wp_run (by rfl) (R.wp_eq hb ?_)
  exact finW_fr rfl ⟨rfl, rfl, rfl⟩
theorem kinds_1 : run__law_kinds [.exn "InvalidCell" "value" d] L = .ok true (.lst [.int 1]) L := by
  have hb : fb__law_kinds (startP 3 [.exn "InvalidCell" "value" d] L) = .ok (.rt (.fr (.lst [.int 1])), ⟨[.sh (.exn "InvalidCell" "value" d), .ow (.lst [.bl false, .bl true, .bl false, .bl false, .bl false, .bl false, .bl false, .bl false, .bl false, .bl false, .bl false, .bl false, .bl false, .bl false, .bl false, .bl false]), .un], L⟩) := by kernel_rfl
  apply RF.of_wp
  unfold run__law_kinds
  refine wp_run (by rfl) (R.wp_eq hb ?_)
  exact finW_fr rfl ⟨rfl, rfl, rfl⟩
theorem kinds_2 : run__law_kinds [.exn "InvalidNest" "value" d] L = .ok true (.lst [.int 2]) L := by
  have hb : fb__law_kinds (startP 3 [.exn "InvalidNest" "value" d] L) = .ok (.rt (.fr (.lst [.int 2])), ⟨[.sh (.exn "InvalidNest" "value" d), .ow (.lst [.bl false, .bl false, .bl true, .bl false, .bl false, .bl false, .bl false, .bl false, .bl false, .bl false, .bl false, .bl false, .bl false, .bl false, .bl false, .bl false]), .un], L⟩) := by kernel_rfl
  apply RF.of_wp
  unfold run__law_kinds
  refine wp_run (by rfl) (R.wp_eq hb ?_)
  exact finW_fr rfl ⟨rfl, rfl, rfl⟩
theorem kinds_3 : run__law_kinds [.exn "InvalidProgram" "value" d] L = .ok true (.lst [.int 3]) L := by
  have hb : fb__law_kinds (startP 3 [.exn "InvalidProgram" "value" d] L) = .ok (.rt (.fr (.lst [.int 3])), ⟨[.sh (.exn "InvalidProgram" "value" d), .ow (.lst [.bl false, .bl false, .bl false, .bl true, .bl false, .bl false, .bl false, .bl false, .bl false, .bl false, .bl false, .bl false, .bl false, .bl false, .bl false, .bl false]), .un], L⟩) := by kernel_rfl
  apply RF.of_wp
  unfold run__law_kinds
  refine wp_run (by rfl) (R.wp_eq hb ?_)
  exact finW_fr rfl ⟨rfl, rfl, rfl⟩
theorem kinds_4 : run__law_kinds [.exn "InvalidOrder" "value" d] L = .ok true (.lst [.int 4]) L := by
  have hb : fb__law_kinds (startP 3 [.exn "InvalidOrder" "value" d] L) = .ok (.rt (.fr (.lst [.int 4])), ⟨[.sh (.exn "InvalidOrder" "value" d), .ow (.lst [.bl false, .bl false, .bl false, .bl false, .bl true, .bl false, .bl false, .bl false, .bl false, .bl false, .bl false, .bl false, .bl false, .bl false, .bl false, .bl false]), .un], L⟩) := by kernel_rfl
  apply RF.of_wp
  unfold run__law_kinds
  refine wp_run (by rfl) (R.wp_eq hb ?_)
  exact finW_fr rfl ⟨rfl, rfl, rfl⟩
theorem kinds_5 : run__law_kinds [.exn "InvalidList" "value" d] L = .ok true (.lst [.int 5]) L := by
  have hb : fb__law_kinds (startP 3 [.exn "InvalidList" "value" d] L) = .ok (.rt (.fr (.lst [.int 5])), ⟨[.sh (.exn "InvalidList" "value" d), .ow (.lst [.bl false, .bl false, .bl false, .bl false, .bl false, .bl true, .bl false, .bl false, .bl false, .bl false, .bl false, .bl false, .bl false, .bl false, .bl false, .bl false]), .un], L⟩) := by kernel_rfl
  apply RF.of_wp
  unfold run__law_kinds
  refine wp_run (by rfl) (R.wp_eq hb ?_)
  exact finW_fr rfl ⟨rfl, rfl, rfl⟩
theorem kinds_6 : run__law_kinds [.exn "InvalidText" "value" d] L = .ok true (.lst [.int 6]) L := by
  have hb : fb__law_kinds (startP 3 [.exn "InvalidText" "value" d] L) = .ok (.rt (.fr (.lst [.int 6])), ⟨[.sh (.exn "InvalidText" "value" d), .ow (.lst [.bl false, .bl false, .bl false, .bl false, .bl false, .bl false, .bl true, .bl false, .bl false, .bl false, .bl false, .bl false, .bl false, .bl false, .bl false, .bl false]), .un], L⟩) := by kernel_rfl
  apply RF.of_wp
  unfold run__law_kinds
  refine wp_run (by rfl) (R.wp_eq hb ?_)
  exact finW_fr rfl ⟨rfl, rfl, rfl⟩
theorem kinds_7 : run__law_kinds [.exn "InvalidFamily" "value" d] L = .ok true (.lst [.int 7]) L := by
  have hb : fb__law_kinds (startP 3 [.exn "InvalidFamily" "value" d] L) = .ok (.rt (.fr (.lst [.int 7])), ⟨[.sh (.exn "InvalidFamily" "value" d), .ow (.lst [.bl false, .bl false, .bl false, .bl false, .bl false, .bl false, .bl false, .bl true, .bl false, .bl false, .bl false, .bl false, .bl false, .bl false, .bl false, .bl false]), .un], L⟩) := by kernel_rfl
  apply RF.of_wp
  unfold run__law_kinds
  refine wp_run (by rfl) (R.wp_eq hb ?_)
  exact finW_fr rfl ⟨rfl, rfl, rfl⟩
theorem kinds_8 : run__law_kinds [.exn "UnlikeAxes" "axes" d] L = .ok true (.lst [.int 8]) L := by
  have hb : fb__law_kinds (startP 3 [.exn "UnlikeAxes" "axes" d] L) = .ok (.rt (.fr (.lst [.int 8])), ⟨[.sh (.exn "UnlikeAxes" "axes" d), .ow (.lst [.bl false, .bl false, .bl false, .bl false, .bl false, .bl false, .bl false, .bl false, .bl true, .bl false, .bl false, .bl false, .bl false, .bl false, .bl false, .bl false]), .un], L⟩) := by kernel_rfl
  apply RF.of_wp
  unfold run__law_kinds
  refine wp_run (by rfl) (R.wp_eq hb ?_)
  exact finW_fr rfl ⟨rfl, rfl, rfl⟩
theorem kinds_9 : run__law_kinds [.exn "NotStraight" "place" d] L = .ok true (.lst [.int 9]) L := by
  have hb : fb__law_kinds (startP 3 [.exn "NotStraight" "place" d] L) = .ok (.rt (.fr (.lst [.int 9])), ⟨[.sh (.exn "NotStraight" "place" d), .ow (.lst [.bl false, .bl false, .bl false, .bl false, .bl false, .bl false, .bl false, .bl false, .bl false, .bl true, .bl false, .bl false, .bl false, .bl false, .bl false, .bl false]), .un], L⟩) := by kernel_rfl
  apply RF.of_wp
  unfold run__law_kinds
  refine wp_run (by rfl) (R.wp_eq hb ?_)
  exact finW_fr rfl ⟨rfl, rfl, rfl⟩
theorem kinds_10 : run__law_kinds [.exn "Negative" "place" d] L = .ok true (.lst [.int 10]) L := by
  have hb : fb__law_kinds (startP 3 [.exn "Negative" "place" d] L) = .ok (.rt (.fr (.lst [.int 10])), ⟨[.sh (.exn "Negative" "place" d), .ow (.lst [.bl false, .bl false, .bl false, .bl false, .bl false, .bl false, .bl false, .bl false, .bl false, .bl false, .bl true, .bl false, .bl false, .bl false, .bl false, .bl false]), .un], L⟩) := by kernel_rfl
  apply RF.of_wp
  unfold run__law_kinds
  refine wp_run (by rfl) (R.wp_eq hb ?_)
  exact finW_fr rfl ⟨rfl, rfl, rfl⟩
theorem kinds_11 : run__law_kinds [.exn "NegativeCount" "number" d] L = .ok true (.lst [.int 11]) L := by
  have hb : fb__law_kinds (startP 3 [.exn "NegativeCount" "number" d] L) = .ok (.rt (.fr (.lst [.int 11])), ⟨[.sh (.exn "NegativeCount" "number" d), .ow (.lst [.bl false, .bl false, .bl false, .bl false, .bl false, .bl false, .bl false, .bl false, .bl false, .bl false, .bl false, .bl true, .bl false, .bl false, .bl false, .bl false]), .un], L⟩) := by kernel_rfl
  apply RF.of_wp
  unfold run__law_kinds
  refine wp_run (by rfl) (R.wp_eq hb ?_)
  exact finW_fr rfl ⟨rfl, rfl, rfl⟩
theorem kinds_12 : run__law_kinds [.exn "InvalidName" "name" d] L = .ok true (.lst [.int 12]) L := by
  have hb : fb__law_kinds (startP 3 [.exn "InvalidName" "name" d] L) = .ok (.rt (.fr (.lst [.int 12])), ⟨[.sh (.exn "InvalidName" "name" d), .ow (.lst [.bl false, .bl false, .bl false, .bl false, .bl false, .bl false, .bl false, .bl false, .bl false, .bl false, .bl false, .bl false, .bl true, .bl false, .bl false, .bl false]), .un], L⟩) := by kernel_rfl
  apply RF.of_wp
  unfold run__law_kinds
  refine wp_run (by rfl) (R.wp_eq hb ?_)
  exact finW_fr rfl ⟨rfl, rfl, rfl⟩
theorem kinds_13 : run__law_kinds [.exn "TakenName" "name" d] L = .ok true (.lst [.int 13]) L := by
  have hb : fb__law_kinds (startP 3 [.exn "TakenName" "name" d] L) = .ok (.rt (.fr (.lst [.int 13])), ⟨[.sh (.exn "TakenName" "name" d), .ow (.lst [.bl false, .bl false, .bl false, .bl false, .bl false, .bl false, .bl false, .bl false, .bl false, .bl false, .bl false, .bl false, .bl false, .bl true, .bl false, .bl false]), .un], L⟩) := by kernel_rfl
  apply RF.of_wp
  unfold run__law_kinds
  refine wp_run (by rfl) (R.wp_eq hb ?_)
  exact finW_fr rfl ⟨rfl, rfl, rfl⟩
theorem kinds_14 : run__law_kinds [.exn "UnknownName" "name" d] L = .ok true (.lst [.int 14]) L := by
  have hb : fb__law_kinds (startP 3 [.exn "UnknownName" "name" d] L) = .ok (.rt (.fr (.lst [.int 14])), ⟨[.sh (.exn "UnknownName" "name" d), .ow (.lst [.bl false, .bl false, .bl false, .bl false, .bl false, .bl false, .bl false, .bl false, .bl false, .bl false, .bl false, .bl false, .bl false, .bl false, .bl true, .bl false]), .un], L⟩) := by kernel_rfl
  apply RF.of_wp
  unfold run__law_kinds
  refine wp_run (by rfl) (R.wp_eq hb ?_)
  exact finW_fr rfl ⟨rfl, rfl, rfl⟩
theorem kinds_15 : run__law_kinds [.exn "NothingToUndo" Str.empty .non] L = .ok true (.lst [.int 15]) L := by
  have hb : fb__law_kinds (startP 3 [.exn "NothingToUndo" Str.empty .non] L) = .ok (.rt (.fr (.lst [.int 15])), ⟨[.sh (.exn "NothingToUndo" Str.empty .non), .ow (.lst [.bl false, .bl false, .bl false, .bl false, .bl false, .bl false, .bl false, .bl false, .bl false, .bl false, .bl false, .bl false, .bl false, .bl false, .bl false, .bl true]), .un], L⟩) := by kernel_rfl
  apply RF.of_wp
  unfold run__law_kinds
  refine wp_run (by rfl) (R.wp_eq hb ?_)
  exact finW_fr rfl ⟨rfl, rfl, rfl⟩
theorem fields_ok : run__law_fields [.lst (er d)] L = .ok true (.lst (r15 d)) L := by
  have hb : fb__law_fields (startP 3 [.lst (er d)] L) = .ok (.rt (.fr (.lst (r15 d))), ⟨[.sh (.lst (er d)), .ow (.lst [d, d, d, d, d, d, d, d, d, d, d]), .un], L⟩) := by kernel_rfl
  apply RF.of_wp
  unfold run__law_fields
  refine wp_run (by rfl) (R.wp_eq hb ?_)
  exact finW_fr rfl ⟨rfl, rfl, rfl⟩
theorem placed_ok : run__law_placed [d] L = .ok true (.lst (er d)) L := by
  apply RF.of_wp
  unfold run__law_placed
  refine wp_run (by rfl) ?_
  unfold fb__law_placed
  show R.wp (fsSeq _ _ ⟨[.sh d, .un], L⟩) _ _
  repeat' (first | walk_at "wp1")
  exact finW_fr rfl ⟨rfl, rfl, rfl⟩
theorem named_ok : run__law_named [d] L = .ok true (.lst (er d)) L := by
  apply RF.of_wp
  unfold run__law_named
  refine wp_run (by rfl) ?_
  unfold fb__law_named
  show R.wp (fsSeq _ _ ⟨[.sh d, .un], L⟩) _ _
  repeat' (first | walk_at "wp1")
  exact finW_fr rfl ⟨rfl, rfl, rfl⟩
theorem bare_ok : run__law_bare [] L = .ok true (.lst (er .non)) L := by
  apply RF.of_wp
  unfold run__law_bare
  refine wp_run (by rfl) ?_
  unfold fb__law_bare
  show R.wp (fsSeq _ _ ⟨[.un], L⟩) _ _
  repeat' (first | walk_at "wp1")
  exact finW_fr rfl ⟨rfl, rfl, rfl⟩
end
end K01
namespace K01
open PySem PySem.Spec PyProof.Rows L2 Tr
local macro_rules | `(tactic| walk_at "dv") => `(tactic| first
  | with_reducible assumption
  | exact rfl
  | exact deepV_pure rfl rfl)
local macro_rules | `(tactic| walk_at "lk") => `(tactic| first
  | with_reducible assumption
  | ((show look _ _ = _); (with_reducible assumption))
  | ((dsimp only [muV, peek, look]); (with_reducible assumption))
  | ((dsimp only [muV, peek, look]); exact List.getElem?_set_self (by first | (with_reducible assumption) | (simp only [List.length_set]; (with_reducible assumption))))
  | ((dsimp only [muV, peek, look]); simp only [*, Option.isSome_some]; done)
  | ((dsimp only [muV, peek, look]); (simp only [*, List.getElem?_set_self, List.length_set, Option.isSome_some]); done))
local macro_rules | `(tactic| walk_at "side") => `(tactic| first
  | with_reducible assumption
  | (with_reducible exact eqDX_i _ _)
  | (with_reducible exact neDX_i _ _)
  | (with_reducible exact eqD_i _ _)
  | (with_reducible exact neD_i _ _)
  | (exact rfl)
  | ((with_reducible refine' mulD_i inferInstance inferInstance ?_); decide +kernel)
  | ((with_reducible refine' mulX_i inferInstance inferInstance ?_); decide +kernel)
  | ((with_reducible refine' divD_i inferInstance ?_ ?_); (decide +kernel); (first | (with_reducible assumption) | omega | decide))
  | ((with_reducible refine modD_i ?_); (first | (with_reducible assumption) | omega | decide))
  | with_reducible assumption
  | (with_reducible exact addLs (by (try simp only [List.length_append, List.length_cons, List.length_nil, List.length_map]); omega))
  | (with_reducible exact addT (by (try simp only [List.length_append, List.length_cons, List.length_nil, List.length_map]); omega))
  | (with_reducible exact appLs (by (try simp only [List.length_append, List.length_cons, List.length_nil, List.length_map]); omega)))
local macro_rules | `(tactic| walk_at "dec") => `(tactic| first
  | (first | rfl | (with_reducible assumption) | (simp only [decide_eq_true_eq, Bool.not_eq_true', decide_eq_false_iff_not, Bool.not_eq_eq_eq_not, Bool.not_true, Bool.not_false, Bool.not_eq_true, Bool.not_not] <;> first | (with_reducible assumption) | omega | decide)))
local macro_rules | `(tactic| walk_at "wp1") => `(tactic| first
  | ((with_reducible refine' wp_var ?a ?_); (case a => exact rfl); (try dsimp only))
  | ((with_reducible refine' wp_varo ?a ?_); (case a => exact rfl); (try dsimp only))
  | ((with_reducible refine' wp_c ?_); (try dsimp only))
  | (with_reducible refine' wp_op ?_)
  | ((with_reducible refine' wp_op2 ?a ?b ?c ?_); (case a => first | rfl | (walk_at "lk")); (case b => first | rfl | (walk_at "lk")); (case c => walk_at "side"); (try dsimp only))
  | (with_reducible refine' wp_opD ?_)
  | ((with_reducible refine' wp_op2D ?a ?b ?c ?d ?_); (case a => walk_at "dv"); (case b => walk_at "dv"); (case c => walk_at "side"); (case d => exact rfl); (try dsimp only))
  | (with_reducible refine' wp_bD ?_)
  | ((with_reducible refine' wp_callD ?a ?c ?d ?_); (case a => walk_at "dv"); (case c => walk_at "side"); (case d => exact rfl); (try dsimp only))
  | (with_reducible refine' wp_un ?_)
  | ((with_reducible refine' wp_op1 ?a ?c ?_); (case a => first | rfl | (walk_at "lk")); (case c => walk_at "side"); (try dsimp only))
  | ((with_reducible refine' wp_m2 ?a ?_); (case a => first | exact rfl | ((dsimp only [muV]); simp only [*, isLst]; done)))
  | ((with_reducible refine' wp_ite_t ?a ?_); (case a => walk_at "dec"); (try dsimp only))
  | ((with_reducible refine' wp_ite_f ?a ?_); (case a => walk_at "dec"); (try dsimp only))
  | ((with_reducible refine' ite_pt ?a ?_); (case a => walk_at "dec"); (try dsimp only))
  | ((with_reducible refine' ite_pf ?a ?_); (case a => walk_at "dec"); (try dsimp only))
  | (with_reducible refine' wp_ife ?_)
  | (with_reducible refine' wp_and ?_)
  | (with_reducible refine' wp_or ?_)
  | (with_reducible refine' wp_not ?_)
  | (with_reducible refine' wp_tup ?_)
  | ((with_reducible refine' wp_dispT ?a ?b ?_); (case a => exact rfl); (case b => (first | exact Nat.le_of_ble_eq_true rfl | ((try dsimp only); simp only [List.length_map, List.length_range, List.length_append, List.length_cons, List.length_nil]; omega) | ((try dsimp only); omega))); (try dsimp only [En.set, List.set, setMu, En.push]))
  | (with_reducible refine' wp_lst ?_)
  | ((with_reducible refine' wp_dispL ?a ?b ?_); (case a => exact rfl); (case b => (first | exact Nat.le_of_ble_eq_true rfl | ((try dsimp only); simp only [List.length_map, List.length_range, List.length_append, List.length_cons, List.length_nil]; omega) | ((try dsimp only); omega))); (try dsimp only [En.set, List.set, setMu, En.push]))
  | (with_reducible refine' wp_b ?_)
  | ((with_reducible refine' wp_callG ?a ?c ?_); (case a => first | rfl | (walk_at "lk")); (case c => walk_at "side"); (try dsimp only))
  | (with_reducible refine' wp_call ?_)
  | ((with_reducible refine' wp_callP ?a ?_); (case a => exact rfl); (try dsimp only [List.cons_append, List.nil_append, List.append_nil]); (try dsimp only [En.set, List.set, setMu, En.push]))
  | (with_reducible refine' wp_sl ?_)
  | ((with_reducible refine' wp_slEnd ?a ?c ?_); (case a => first | rfl | (walk_at "lk")); (case c => walk_at "side"); (try dsimp only))
  | (with_reducible refine' wp_m ?_)
  | ((with_reducible refine' wp_meth ?a ?b ?c ?d ?_); (case a => exact rfl); (case b => first | exact rfl | (walk_at "lk")); (case c => walk_at "side"); (case d => exact rfl); (try dsimp only [En.set, List.set, setMu]); (try simp only [List.set_set, Int.reduceToNat, List.set]))
  | (with_reducible refine' wp_frz ?_)
  | ((with_reducible refine' wp_frzF ?_); (try dsimp only))
  | ((with_reducible refine' wp_frzS ?_); (try dsimp only))
  | (with_reducible refine' wp_live ?_)
  | ((with_reducible refine' wp_liveF ?a ?_); (case a => exact rfl); (try dsimp only [En.set, List.set, setMu, En.push]))
  | ((with_reducible refine' wp_liveS ?_); (try dsimp only))
  | ((with_reducible refine' wp_dk ?_); (try dsimp only))
  | (with_reducible refine' wp_val ?_)
  | ((with_reducible refine' wp_asB ?_); (try dsimp only))
  | (with_reducible refine' wp_tand ?_)
  | (with_reducible refine' wp_tor ?_)
  | (with_reducible refine' wp_tnot ?_)
  | ((with_reducible refine' wp_yes ?_); (try dsimp only))
  | ((with_reducible refine' wp_nil ?_); (try dsimp only [Val.held]))
  | (with_reducible refine' wp_cons ?_)
  | ((with_reducible refine' wp_foN ?_); (try dsimp only))
  | (with_reducible refine' wp_foS ?_)
  | ((with_reducible refine' wp_asI ?_); (try dsimp only))
  | ((with_reducible refine' wp_fnil ?_); (try dsimp only))
  | (with_reducible refine' wp_seq ?_)
  | (with_reducible refine' wp_expr ?_)
  | (with_reducible refine' wp_ret ?_)
  | ((with_reducible refine' wp_retN ?_); (try dsimp only))
  | (with_reducible refine' wp_if ?_)
  | (with_reducible refine' wp_set ?_)
  | ((with_reducible refine' wp_stV ?a ?_); (case a => exact rfl); (try dsimp only [En.set, List.set, setMu, En.push]))
  | (with_reducible refine' wp_pat ?_)
  | ((with_reducible refine' wp_paV ?a ?b ?_); (case a => exact rfl); (case b => exact rfl); (try dsimp only [En.set, List.set, setMu, En.push]))
  | (with_reducible refine' wp_patL ?_)
  | ((with_reducible refine' wp_paL ?a ?b ?_); (case a => exact rfl); (case b => exact rfl); (try dsimp only [En.set, List.set, setMu, En.push]))
  | (with_reducible refine' wp_put ?_)
  | ((with_reducible refine' wp_putV ?a ?_); (case a => exact rfl); (try dsimp only))
  | (with_reducible refine' wp_putTwo ?_)
  | ((with_reducible refine' wp_put2V ?a ?_); (case a => exact rfl); (try dsimp only [En.set, List.set, setMu, En.push]))
  | (with_reducible refine' wp_putD ?_)
  | ((with_reducible refine' wp_pdT ?a ?_); (case a => first | exact rfl | (walk_at "lk")); (try dsimp only))
  | ((with_reducible refine' wp_pdK ?a ?b ?c ?d ?_); (case a => exact rfl); (case b => first | exact rfl | (walk_at "lk")); (case c => walk_at "side"); (case d => exact rfl); (try dsimp only [En.set, List.set, setMu]); (try simp only [List.set_set, Int.reduceToNat, List.set]))
  | (with_reducible refine' wp_cv ?_)
  | ((with_reducible refine' wp_put2 ?a ?_); (case a => first | exact rfl | (walk_at "lk")); (try dsimp only))
  | ((with_reducible refine' wp_putEnd ?a ?b ?c ?d ?_); (case a => exact rfl); (case b => first | exact rfl | (walk_at "lk")); (case c => walk_at "side"); (case d => exact rfl); (try dsimp only [En.set, List.set, setMu]); (try simp only [List.set_set, Int.reduceToNat, List.set]))
  | ((with_reducible refine' wp_aug ?a ?_); (case a => exact rfl))
  | ((with_reducible refine' wp_augV ?a ?b ?c ?_); (case a => first | rfl | (walk_at "lk")); (case b => walk_at "side"); (case c => exact rfl); (try dsimp only [En.set, List.set, setMu, En.push]))
  | (with_reducible refine' wp_par ?_)
  | ((with_reducible refine' wp_prV ?a ?b ?_); (case a => exact rfl); (case b => exact rfl); (try dsimp only [En.set, List.set, setMu, En.push]))
  | (with_reducible refine' wp_par3 ?_)
  | ((with_reducible refine' wp_prV3 ?a ?b ?_); (case a => exact rfl); (case b => exact rfl); (try dsimp only [En.set, List.set, setMu, En.push]))
  | (with_reducible refine' wp_raise ?_)
  | ((with_reducible refine' wp_raV ?a ?_); (case a => exact rfl); (try dsimp only [En.set, List.set, setMu, En.push]))
  | (with_reducible refine' wp_try ?_)
  | ((with_reducible refine' wp_suite ?a ?b ?_); (case a => exact rfl); (case b => exact rfl); (try dsimp only [En.set, List.set, setMu, En.push]))
  | (with_reducible refine' wp_for ?_)
  | (with_reducible refine' wp_fiOf ?_)
  | (with_reducible refine' wp_fiA ?_)
  | ((with_reducible refine' wp_asQ ?a ?_); (case a => exact rfl); (try dsimp only))
  | ((with_reducible refine' wp_zipK ?a ?b ?c ?d ?_); (case a => exact rfl); (case b => exact rfl); (case c => exact rfl); (case d => first | (with_reducible assumption) | (simp only [List.length_map]; (first | (with_reducible assumption) | omega))); (try dsimp only))
  | ((with_reducible refine' wp_rng1 ?a ?b ?_); (case a => exact rfl); (case b => (first | omega | decide)); (try dsimp only))
  | ((with_reducible refine' wp_rng2 ?a ?b ?_); (case a => exact rfl); (case b => (first | omega | decide)); (try dsimp only))
  | (with_reducible refine' wp_lc ?_)
  | ((with_reducible refine' wp_lcEnd ?a ?b ?c ?_); (case a => exact rfl); (case b => (first | exact Nat.le_of_ble_eq_true rfl | ((try dsimp only); simp only [List.length_map, List.length_range, List.length_append, List.length_cons, List.length_nil]; omega) | ((try dsimp only); omega))); (case c => exact rfl); (try dsimp only [wipeE, En.set, List.set]))
  | ((with_reducible refine' wp_lcV ?a ?b ?_); (case a => exact rfl); (case b => exact rfl); (try dsimp only [wipeE, En.set, List.set]))
  | ((with_reducible refine' wp_ok ?_); (try dsimp only))
  | ((with_reducible refine' seqK_nx ?_); (try dsimp only))
  | (with_reducible refine' seqK_rt ?_)
  | (with_reducible refine' seqK_bk ?_)
  | (with_reducible refine' seqK_ct ?_)
  | ((with_reducible refine' turnK_nx ?_); (try dsimp only))
  | ((with_reducible refine' turnK_ct ?_); (try dsimp only))
  | (with_reducible refine' turnK_bk ?_)
  | (with_reducible refine' turnK_rt ?_)
  | (with_reducible refine' wp_mkE ?_)
  | ((with_reducible refine' wp_mkEnd ?a ?_); (case a => exact rfl); (try dsimp only [En.set, List.set, setMu, En.push]))
  | ((with_reducible refine' wp_disp1 ?a ?_); (case a => exact rfl); (try dsimp only)))
local macro_rules | `(tactic| walk_at "wpu") => `(tactic| first
  | ((with_reducible refine' wp_lcons ?a ?_); (case a => exact rfl); (try dsimp only))
  | ((with_reducible refine' wp_lnil ?_); (try dsimp only))
  | ((with_reducible refine' wp_lccons ?a ?_); (case a => exact rfl); (try dsimp only))
  | ((with_reducible refine' wp_lcnil ?_); (try dsimp only [restE, En.set, List.set, List.getElem?_cons_succ, List.getElem?_cons_zero]); (try dsimp only)))
local macro_rules | `(tactic| walk_at "fin") => `(tactic| first
  | ((with_reducible refine' finW_sh ?a ?_); (case a => (first | rfl | (simp only [List.length_set]; done))))
  | ((with_reducible refine' finW_fr ?a ?_); (case a => (first | rfl | (simp only [List.length_set]; done))))
  | ((with_reducible refine' finW_nx ?a ?_); (case a => (first | rfl | (simp only [List.length_set]; done))))
  | ((with_reducible refine' finW_ow ?b ?a ?_); (case b => exact rfl); (case a => (first | rfl | (simp only [List.length_set]; done)))))
section
variable {L : List D} {d d' : D}
abbrev kD : List D := [.lst [.int 0], .lst [.int 1], .lst [.int 2], .lst [.int 3], .lst [.int 4], .lst [.int 5], .lst [.int 6], .lst [.int 7], .lst [.int 8], .lst [.int 9], .lst [.int 10], .lst [.int 11], .lst [.int 12], .lst [.int 13], .lst [.int 14]]
theorem ne_k : neDX (.lst kD) (.lst kD) = some (vB false) := neDX_self (by decide +kernel) (by decide +kernel)
theorem kD_eq : (List.map (fun (i : Nat) => D.int (0 + (i : Int))) (List.range (15 : Int).toNat)).map (fun d => D.lst [d]) = kD := by rfl
theorem mul15 : mulD (.lst [d]) (.int 15) = some (.fr (.lst (r15 d))) := by
  show (if -(2 ^ 63) ≤ (15 : Int) ∧ (15 : Int) < 2 ^ 63 ∧ [d].length * (15 : Int).toNat ≤ 16777216 then some (Val.fr (.lst (List.replicate (15 : Int).toNat [d]).flatten)) else none) = _
  rw [if_pos ⟨by decide, by decide, Nat.le_of_ble_eq_true rfl⟩]
  rfl
theorem res15 (h : res L 5 d = some d') : res L 5 (.lst (r15 d)) = some (.lst (r15 d')) := by
  have h : mapR (fun n => (L[n]?).bind (res L 4)) d = some d' := h
  show (mapRs (fun n => (L[n]?).bind (res L 4)) (r15 d)).map D.lst = _
  simp only [mapRs, h, Option.map_some]
theorem eq_str {s : Str} (h : PyData.strOk s = true) : eqDX (.str s) (.str s) = some (vB true) := eqDX_self h (by simp [dp])
theorem right_ok (h : res L 5 d = some d') (hw : Ws (.lst (r15 d'))) : run__law_right [.lst (er d), d] L = .ok false (.bl true) L := by
  obtain ⟨t, rt, ok⟩ := hw.repr
  have eq := eq_str ok
  have nk := ne_k
  have fk := fields_ok (L := L) (d := d)
  have mk := mul15 (d := d)
  have dv : ∀ ss, deepV ⟨ss, L⟩ (.sh (.lst (r15 d))) = some (.lst (r15 d')) := fun ss => res15 h
  apply RF.of_wp
  unfold run__law_right
  refine wp_run (by rfl) ?_
  unfold fb__law_right
  show R.wp (fsSeq _ _ ⟨[.sh (.lst (er d)), .sh d, .un, .un], L⟩) _ _
  repeat' (first | ((with_reducible refine' RF.wp_eq (kinds_0) ?_); (try dsimp only [backV_f, backV_t])) | ((with_reducible refine' RF.wp_eq (kinds_1) ?_); (try dsimp only [backV_f, backV_t])) | ((with_reducible refine' RF.wp_eq (kinds_2) ?_); (try dsimp only [backV_f, backV_t])) | ((with_reducible refine' RF.wp_eq (kinds_3) ?_); (try dsimp only [backV_f, backV_t])) | ((with_reducible refine' RF.wp_eq (kinds_4) ?_); (try dsimp only [backV_f, backV_t])) | ((with_reducible refine' RF.wp_eq (kinds_5) ?_); (try dsimp only [backV_f, backV_t])) | ((with_reducible refine' RF.wp_eq (kinds_6) ?_); (try dsimp only [backV_f, backV_t])) | ((with_reducible refine' RF.wp_eq (kinds_7) ?_); (try dsimp only [backV_f, backV_t])) | ((with_reducible refine' RF.wp_eq (kinds_8) ?_); (try dsimp only [backV_f, backV_t])) | ((with_reducible refine' RF.wp_eq (kinds_9) ?_); (try dsimp only [backV_f, backV_t])) | ((with_reducible refine' RF.wp_eq (kinds_10) ?_); (try dsimp only [backV_f, backV_t])) | ((with_reducible refine' RF.wp_eq (kinds_11) ?_); (try dsimp only [backV_f, backV_t])) | ((with_reducible refine' RF.wp_eq (kinds_12) ?_); (try dsimp only [backV_f, backV_t])) | ((with_reducible refine' RF.wp_eq (kinds_13) ?_); (try dsimp only [backV_f, backV_t])) | ((with_reducible refine' RF.wp_eq (kinds_14) ?_); (try dsimp only [backV_f, backV_t])) | walk_at "wp1" | walk_at "wpu")
  refine wp_lcmap (y := fun d => .lst [d]) (fun e he => ?_) ?_
  · obtain ⟨i, hi, rfl⟩ := List.mem_map.mp he
    refine ⟨_, rfl, ?_⟩
    (try simp only [List.set_set]); (try dsimp only [restE, wipeE, En.set, List.set, List.getElem?_cons_succ, List.getElem?_cons_zero, backV_f, backV_t])
    repeat' (first | walk_at "wp1")
  · (try simp only [List.set_set]); (try dsimp only [restE, wipeE, En.set, List.set, List.getElem?_cons_succ, List.getElem?_cons_zero, backV_f, backV_t])
    rw [kD_eq]
    repeat' (first | ((with_reducible refine' RF.wp_eq (fk) ?_); (try dsimp only [backV_f, backV_t])) | ((with_reducible refine' wp_callD (dv _) rt rfl ?_); (try dsimp only)) | walk_at "wp1")
    walk_at "fin"
    exact ⟨rfl, rfl, rfl⟩
end
end K01
namespace K01
open PySem PySem.Spec PyProof.Rows L2 Tr
local macro_rules | `(tactic| walk_at "dv") => `(tactic| first
  | with_reducible assumption
  | exact rfl
  | exact deepV_pure rfl rfl)
local macro_rules | `(tactic| walk_at "lk") => `(tactic| first
  | with_reducible assumption
  | ((show look _ _ = _); (with_reducible assumption))
  | ((dsimp only [muV, peek, look]); (with_reducible assumption))
  | ((dsimp only [muV, peek, look]); exact List.getElem?_set_self (by first | (with_reducible assumption) | (simp only [List.length_set]; (with_reducible assumption))))
  | ((dsimp only [muV, peek, look]); simp only [*, Option.isSome_some]; done)
  | ((dsimp only [muV, peek, look]); (simp only [*, List.getElem?_set_self, List.length_set, Option.isSome_some]); done))
local macro_rules | `(tactic| walk_at "side") => `(tactic| first
  | with_reducible assumption
  | (with_reducible exact eqDX_i _ _)
  | (with_reducible exact neDX_i _ _)
  | (with_reducible exact eqD_i _ _)
  | (with_reducible exact neD_i _ _)
  | (exact rfl)
  | ((with_reducible refine' mulD_i inferInstance inferInstance ?_); decide +kernel)
  | ((with_reducible refine' mulX_i inferInstance inferInstance ?_); decide +kernel)
  | ((with_reducible refine' divD_i inferInstance ?_ ?_); (decide +kernel); (first | (with_reducible assumption) | omega | decide))
  | ((with_reducible refine modD_i ?_); (first | (with_reducible assumption) | omega | decide))
  | with_reducible assumption
  | (with_reducible exact addLs (by (try simp only [List.length_append, List.length_cons, List.length_nil, List.length_map]); omega))
  | (with_reducible exact addT (by (try simp only [List.length_append, List.length_cons, List.length_nil, List.length_map]); omega))
  | (with_reducible exact appLs (by (try simp only [List.length_append, List.length_cons, List.length_nil, List.length_map]); omega)))
local macro_rules | `(tactic| walk_at "dec") => `(tactic| first
  | (first | rfl | (with_reducible assumption) | (simp only [decide_eq_true_eq, Bool.not_eq_true', decide_eq_false_iff_not, Bool.not_eq_eq_eq_not, Bool.not_true, Bool.not_false, Bool.not_eq_true, Bool.not_not] <;> first | (with_reducible assumption) | omega | decide)))
local macro_rules | `(tactic| walk_at "wp1") => `(tactic| first
  | ((with_reducible refine' wp_var ?a ?_); (case a => exact rfl); (try dsimp only))
  | ((with_reducible refine' wp_varo ?a ?_); (case a => exact rfl); (try dsimp only))
  | ((with_reducible refine' wp_c ?_); (try dsimp only))
  | (with_reducible refine' wp_op ?_)
  | ((with_reducible refine' wp_op2 ?a ?b ?c ?_); (case a => first | rfl | (walk_at "lk")); (case b => first | rfl | (walk_at "lk")); (case c => walk_at "side"); (try dsimp only))
  | (with_reducible refine' wp_opD ?_)
  | ((with_reducible refine' wp_op2D ?a ?b ?c ?d ?_); (case a => walk_at "dv"); (case b => walk_at "dv"); (case c => walk_at "side"); (case d => exact rfl); (try dsimp only))
  | (with_reducible refine' wp_bD ?_)
  | ((with_reducible refine' wp_callD ?a ?c ?d ?_); (case a => walk_at "dv"); (case c => walk_at "side"); (case d => exact rfl); (try dsimp only))
  | (with_reducible refine' wp_un ?_)
  | ((with_reducible refine' wp_op1 ?a ?c ?_); (case a => first | rfl | (walk_at "lk")); (case c => walk_at "side"); (try dsimp only))
  | ((with_reducible refine' wp_m2 ?a ?_); (case a => first | exact rfl | ((dsimp only [muV]); simp only [*, isLst]; done)))
  | ((with_reducible refine' wp_ite_t ?a ?_); (case a => walk_at "dec"); (try dsimp only))
  | ((with_reducible refine' wp_ite_f ?a ?_); (case a => walk_at "dec"); (try dsimp only))
  | ((with_reducible refine' ite_pt ?a ?_); (case a => walk_at "dec"); (try dsimp only))
  | ((with_reducible refine' ite_pf ?a ?_); (case a => walk_at "dec"); (try dsimp only))
  | (with_reducible refine' wp_ife ?_)
  | (with_reducible refine' wp_and ?_)
  | (with_reducible refine' wp_or ?_)
  | (with_reducible refine' wp_not ?_)
  | (with_reducible refine' wp_tup ?_)
  | ((with_reducible refine' wp_dispT ?a ?b ?_); (case a => exact rfl); (case b => (first | exact Nat.le_of_ble_eq_true rfl | ((try dsimp only); simp only [List.length_map, List.length_range, List.length_append, List.length_cons, List.length_nil]; omega) | ((try dsimp only); omega))); (try dsimp only [En.set, List.set, setMu, En.push]))
  | (with_reducible refine' wp_lst ?_)
  | ((with_reducible refine' wp_dispL ?a ?b ?_); (case a => exact rfl); (case b => (first | exact Nat.le_of_ble_eq_true rfl | ((try dsimp only); simp only [List.length_map, List.length_range, List.length_append, List.length_cons, List.length_nil]; omega) | ((try dsimp only); omega))); (try dsimp only [En.set, List.set, setMu, En.push]))
  | (with_reducible refine' wp_b ?_)
  | ((with_reducible refine' wp_callG ?a ?c ?_); (case a => first | rfl | (walk_at "lk")); (case c => walk_at "side"); (try dsimp only))
  | (with_reducible refine' wp_call ?_)
  | ((with_reducible refine' wp_callP ?a ?_); (case a => exact rfl); (try dsimp only [List.cons_append, List.nil_append, List.append_nil]); (try dsimp only [En.set, List.set, setMu, En.push]))
  | (with_reducible refine' wp_sl ?_)
  | ((with_reducible refine' wp_slEnd ?a ?c ?_); (case a => first | rfl | (walk_at "lk")); (case c => walk_at "side"); (try dsimp only))
  | (with_reducible refine' wp_m ?_)
  | ((with_reducible refine' wp_meth ?a ?b ?c ?d ?_); (case a => exact rfl); (case b => first | exact rfl | (walk_at "lk")); (case c => walk_at "side"); (case d => exact rfl); (try dsimp only [En.set, List.set, setMu]); (try simp only [List.set_set, Int.reduceToNat, List.set]))
  | (with_reducible refine' wp_frz ?_)
  | ((with_reducible refine' wp_frzF ?_); (try dsimp only))
  | ((with_reducible refine' wp_frzS ?_); (try dsimp only))
  | (with_reducible refine' wp_live ?_)
  | ((with_reducible refine' wp_liveF ?a ?_); (case a => exact rfl); (try dsimp only [En.set, List.set, setMu, En.push]))
  | ((with_reducible refine' wp_liveS ?_); (try dsimp only))
  | ((with_reducible refine' wp_dk ?_); (try dsimp only))
  | (with_reducible refine' wp_val ?_)
  | ((with_reducible refine' wp_asB ?_); (try dsimp only))
  | (with_reducible refine' wp_tand ?_)
  | (with_reducible refine' wp_tor ?_)
  | (with_reducible refine' wp_tnot ?_)
  | ((with_reducible refine' wp_yes ?_); (try dsimp only))
  | ((with_reducible refine' wp_nil ?_); (try dsimp only [Val.held]))
  | (with_reducible refine' wp_cons ?_)
  | ((with_reducible refine' wp_foN ?_); (try dsimp only))
  | (with_reducible refine' wp_foS ?_)
  | ((with_reducible refine' wp_asI ?_); (try dsimp only))
  | ((with_reducible refine' wp_fnil ?_); (try dsimp only))
  | (with_reducible refine' wp_seq ?_)
  | (with_reducible refine' wp_expr ?_)
  | (with_reducible refine' wp_ret ?_)
  | ((with_reducible refine' wp_retN ?_); (try dsimp only))
  | (with_reducible refine' wp_if ?_)
  | (with_reducible refine' wp_set ?_)
  | ((with_reducible refine' wp_stV ?a ?_); (case a => exact rfl); (try dsimp only [En.set, List.set, setMu, En.push]))
  | (with_reducible refine' wp_pat ?_)
  | ((with_reducible refine' wp_paV ?a ?b ?_); (case a => exact rfl); (case b => exact rfl); (try dsimp only [En.set, List.set, setMu, En.push]))
  | (with_reducible refine' wp_patL ?_)
  | ((with_reducible refine' wp_paL ?a ?b ?_); (case a => exact rfl); (case b => exact rfl); (try dsimp only [En.set, List.set, setMu, En.push]))
  | (with_reducible refine' wp_put ?_)
  | ((with_reducible refine' wp_putV ?a ?_); (case a => exact rfl); (try dsimp only))
  | (with_reducible refine' wp_putTwo ?_)
  | ((with_reducible refine' wp_put2V ?a ?_); (case a => exact rfl); (try dsimp only [En.set, List.set, setMu, En.push]))
  | (with_reducible refine' wp_putD ?_)
  | ((with_reducible refine' wp_pdT ?a ?_); (case a => first | exact rfl | (walk_at "lk")); (try dsimp only))
  | ((with_reducible refine' wp_pdK ?a ?b ?c ?d ?_); (case a => exact rfl); (case b => first | exact rfl | (walk_at "lk")); (case c => walk_at "side"); (case d => exact rfl); (try dsimp only [En.set, List.set, setMu]); (try simp only [List.set_set, Int.reduceToNat, List.set]))
  | (with_reducible refine' wp_cv ?_)
  | ((with_reducible refine' wp_put2 ?a ?_); (case a => first | exact rfl | (walk_at "lk")); (try dsimp only))
  | ((with_reducible refine' wp_putEnd ?a ?b ?c ?d ?_); (case a => exact rfl); (case b => first | exact rfl | (walk_at "lk")); (case c => walk_at "side"); (case d => exact rfl); (try dsimp only [En.set, List.set, setMu]); (try simp only [List.set_set, Int.reduceToNat, List.set]))
  | ((with_reducible refine' wp_aug ?a ?_); (case a => exact rfl))
  | ((with_reducible refine' wp_augV ?a ?b ?c ?_); (case a => first | rfl | (walk_at "lk")); (case b => walk_at "side"); (case c => exact rfl); (try dsimp only [En.set, List.set, setMu, En.push]))
  | (with_reducible refine' wp_par ?_)
  | ((with_reducible refine' wp_prV ?a ?b ?_); (case a => exact rfl); (case b => exact rfl); (try dsimp only [En.set, List.set, setMu, En.push]))
  | (with_reducible refine' wp_par3 ?_)
  | ((with_reducible refine' wp_prV3 ?a ?b ?_); (case a => exact rfl); (case b => exact rfl); (try dsimp only [En.set, List.set, setMu, En.push]))
  | (with_reducible refine' wp_raise ?_)
  | ((with_reducible refine' wp_raV ?a ?_); (case a => exact rfl); (try dsimp only [En.set, List.set, setMu, En.push]))
  | (with_reducible refine' wp_try ?_)
  | ((with_reducible refine' wp_suite ?a ?b ?_); (case a => exact rfl); (case b => exact rfl); (try dsimp only [En.set, List.set, setMu, En.push]))
  | (with_reducible refine' wp_for ?_)
  | (with_reducible refine' wp_fiOf ?_)
  | (with_reducible refine' wp_fiA ?_)
  | ((with_reducible refine' wp_asQ ?a ?_); (case a => exact rfl); (try dsimp only))
  | ((with_reducible refine' wp_zipK ?a ?b ?c ?d ?_); (case a => exact rfl); (case b => exact rfl); (case c => exact rfl); (case d => first | (with_reducible assumption) | (simp only [List.length_map]; (first | (with_reducible assumption) | omega))); (try dsimp only))
  | ((with_reducible refine' wp_rng1 ?a ?b ?_); (case a => exact rfl); (case b => (first | omega | decide)); (try dsimp only))
  | ((with_reducible refine' wp_rng2 ?a ?b ?_); (case a => exact rfl); (case b => (first | omega | decide)); (try dsimp only))
  | (with_reducible refine' wp_lc ?_)
  | ((with_reducible refine' wp_lcEnd ?a ?b ?c ?_); (case a => exact rfl); (case b => (first | exact Nat.le_of_ble_eq_true rfl | ((try dsimp only); simp only [List.length_map, List.length_range, List.length_append, List.length_cons, List.length_nil]; omega) | ((try dsimp only); omega))); (case c => exact rfl); (try dsimp only [wipeE, En.set, List.set]))
  | ((with_reducible refine' wp_lcV ?a ?b ?_); (case a => exact rfl); (case b => exact rfl); (try dsimp only [wipeE, En.set, List.set]))
  | ((with_reducible refine' wp_ok ?_); (try dsimp only))
  | ((with_reducible refine' seqK_nx ?_); (try dsimp only))
  | (with_reducible refine' seqK_rt ?_)
  | (with_reducible refine' seqK_bk ?_)
  | (with_reducible refine' seqK_ct ?_)
  | ((with_reducible refine' turnK_nx ?_); (try dsimp only))
  | ((with_reducible refine' turnK_ct ?_); (try dsimp only))
  | (with_reducible refine' turnK_bk ?_)
  | (with_reducible refine' turnK_rt ?_)
  | (with_reducible refine' wp_mkE ?_)
  | ((with_reducible refine' wp_mkEnd ?a ?_); (case a => exact rfl); (try dsimp only [En.set, List.set, setMu, En.push]))
  | ((with_reducible refine' wp_disp1 ?a ?_); (case a => exact rfl); (try dsimp only)))
local macro_rules | `(tactic| walk_at "wpu") => `(tactic| first
  | ((with_reducible refine' wp_lcons ?a ?_); (case a => exact rfl); (try dsimp only))
  | ((with_reducible refine' wp_lnil ?_); (try dsimp only))
  | ((with_reducible refine' wp_lccons ?a ?_); (case a => exact rfl); (try dsimp only))
  | ((with_reducible refine' wp_lcnil ?_); (try dsimp only [restE, En.set, List.set, List.getElem?_cons_succ, List.getElem?_cons_zero]); (try dsimp only)))
local macro_rules | `(tactic| walk_at "fin") => `(tactic| first
  | ((with_reducible refine' finW_sh ?a ?_); (case a => (first | rfl | (simp only [List.length_set]; done))))
  | ((with_reducible refine' finW_fr ?a ?_); (case a => (first | rfl | (simp only [List.length_set]; done))))
  | ((with_reducible refine' finW_nx ?a ?_); (case a => (first | rfl | (simp only [List.length_set]; done))))
  | ((with_reducible refine' finW_ow ?b ?a ?_); (case b => exact rfl); (case a => (first | rfl | (simp only [List.length_set]; done)))))
theorem finW_shT {k : Nat} {P : Bool → D → List D → Prop} {ρ : En} {d : D} {L' : List D} (e : trim k d ρ.l = L') (h : P false d L') : finW k P (.rt (.sh d), ρ) := by
  show P false d (trim k d ρ.l)
  rw [e]; exact h
theorem ws15 {d : D} {b p : Nat} (h : Pw d b p) (hb : b ≤ 500) (hp : p ≤ 40) : Ws (.lst (r15 d)) :=
  ((Pws.cons h (.cons h (.cons h (.cons h (.cons h (.cons h (.cons h (.cons h (.cons h (.cons h (.cons h (.cons h (.cons h (.cons h (.cons h .nil))))))))))))))).lst).ws (by omega) (by omega)
def bodyB : FS := (fsSeq (fsPar 4 5 (faCons (evCall run__law_placed [] (faCons (evVar 3) faNil)) (faCons (evCall run__law_named [] (faCons (evVar 3) faNil)) faNil)))
 (fsSeq (fsIf (ftOr (ftNot (ftVal (evCall run__law_right [] (faCons (evVar 4) (faCons (evVar 3) faNil))))) (ftNot (ftVal (evCall run__law_right [] (faCons (evVar 5) (faCons (evVar 3) faNil))))))
 (fsRet (evC (.bl false)))
 fsNil)
 (fsSeq (fsIf (ftVal (evB (isiD errL) (faCons (evVar 3) (faCons (evC (.ty "list")) faNil))))
 (fsExpr (evM appD (evVar 3) (faCons (evC (.str "more")) faNil)))
 fsNil)
 (fsIf (ftOr (ftNot (ftVal (evCall run__law_right [] (faCons (evVar 4) (faCons (evVar 3) faNil))))) (ftNot (ftVal (evCall run__law_right [] (faCons (evVar 5) (faCons (evVar 3) faNil))))))
 (fsRet (evC (.bl false)))
 fsNil))))
section
variable {L : List D} {d : D} {s0 s1 s2 s4 s5 : Slot} {K : En → Prop} {P : Fl × En → Prop} {E : Str → Str → D → En → Prop}
theorem turn_plain {b p : Nat} (hu : pure' d = true) (h : Pw d b p) (hb : b ≤ 500) (hp : p ≤ 40) (lk : look L d = some d) (hl : isiD errL [d, .ty "list"] = some (vB false)) (hK : ∀ s4 s5, K ⟨[s0, s1, s2, .sh d, s4, s5], L⟩) :
    (bodyB ⟨[s0, s1, s2, .sh d, s4, s5], L⟩).wp (turnK K P) E := by
  have pk := placed_ok (L := L) (d := d)
  have nk := named_ok (L := L) (d := d)
  have rk := right_ok (L := L) (res_pure hu 5) (ws15 h hb hp)
  unfold bodyB
  repeat' (first | ((with_reducible refine' RF.wp_eq (pk) ?_); (try dsimp only [backV_f, backV_t])) | ((with_reducible refine' RF.wp_eq (nk) ?_); (try dsimp only [backV_f, backV_t])) | ((with_reducible refine' RF.wp_eq (rk) ?_); (try dsimp only [backV_f, backV_t])) | ((with_reducible refine' wp_callG (pk1t lk) (hl) ?_); (try dsimp only)) | walk_at "wp1")
  exact hK _ _
theorem turn_list {n : Nat} {xs : List D} {b p : Nat} (hn : L[n]? = some (.lst xs)) (hu : pure' (.lst xs) = true) (hu2 : pure' (.lst (xs ++ [.str "more"])) = true) (h : Pw (.lst xs) b p) (h2 : Pw (.lst (xs ++ [.str "more"])) b p) (hb : b ≤ 500) (hp : p ≤ 40) (hx : xs.length ≤ 100)
    (hK : ∀ s4 s5, K ⟨[s0, s1, s2, .sh (.ref n), s4, s5], L.set n (.lst (xs ++ [.str "more"]))⟩) :
    (bodyB ⟨[s0, s1, s2, .sh (.ref n), s4, s5], L⟩).wp (turnK K P) E := by
  have hlt : n < L.length := (List.getElem?_eq_some_iff.mp hn).1
  have e2 : (L.set n (.lst (xs ++ [.str "more"])))[n]? = some (.lst (xs ++ [.str "more"])) := List.getElem?_set_self hlt
  have r1 : res L 5 (.ref n) = some (.lst xs) := by
    show (L[n]?).bind (res L 4) = _
    rw [hn]
    exact res_pure hu 4
  have r2 : res (L.set n (.lst (xs ++ [.str "more"]))) 5 (.ref n) = some (.lst (xs ++ [.str "more"])) := by
    show ((L.set n (.lst (xs ++ [.str "more"])))[n]?).bind (res _ 4) = _
    rw [e2]
    exact res_pure hu2 4
  have pk := placed_ok (L := L) (d := .ref n)
  have nk := named_ok (L := L) (d := .ref n)
  have rk := right_ok r1 (ws15 h hb hp)
  have rk2 := right_ok r2 (ws15 h2 hb hp)
  have lk : look L (.ref n) = some (.lst xs) := hn
  have hl : isiD errL [.lst xs, .ty "list"] = some (vB true) := by rfl
  have ap : appD (.lst xs) [.str "more"] = some (.lst (xs ++ [.str "more"]), .non) := appLs (by omega)
  unfold bodyB
  repeat' (first | ((with_reducible refine' RF.wp_eq (pk) ?_); (try dsimp only [backV_f, backV_t])) | ((with_reducible refine' RF.wp_eq (nk) ?_); (try dsimp only [backV_f, backV_t])) | ((with_reducible refine' RF.wp_eq (rk) ?_); (try dsimp only [backV_f, backV_t])) | ((with_reducible refine' RF.wp_eq (rk2) ?_); (try dsimp only [backV_f, backV_t])) | ((with_reducible refine' wp_callG (pk1t lk) (hl) ?_); (try dsimp only)) | ((with_reducible refine' wp_meth ?_ ?_ (ap) ?_ ?_); (exact rfl); (first | exact rfl | (walk_at "lk")); (exact rfl); (try dsimp only [En.set, List.set, setMu]); (try simp only [List.set_set, Int.reduceToNat, List.set])) | walk_at "wp1")
  exact hK _ _
end
theorem pow12 : powD (.int 10) (.int 12) = some (vI 1000000000000) := by kernel_rfl
theorem law_ok (ns : List Int) : run_law [.scr ns] [] = .ok false (.bl true) [] := by
  obtain ⟨g0, g1, ep, hp⟩ := purse_ok ns (k := 0) (L := []) (by omega) (by omega)
  have p12 := pow12
  have a0 : ([] ++ [puD g0 g1 (1000 * 0)] : List D)[0]? = some (puD g0 g1 (1000 * 0)) := rfl
  apply RF.of_wp
  unfold run_law
  refine wp_run (by rfl) ?_
  unfold fb_law
  show R.wp (fsSeq _ _ ⟨[.sh (.scr ns), .un, .un, .un, .un, .un], []⟩) _ _
  repeat' (first | ((with_reducible refine' RF.wp_eq (ep) ?_); (try dsimp only [backV_f, backV_t])) | ((with_reducible refine' RF.wp_n (draw_ok (k := 0) a0 hp (by omega) (by omega) (by omega)) ?_)) | walk_at "wp1")
  rintro _ _ _ ⟨rfl, r, u0, u2, rfl, r1, r2, rfl, hu⟩
  (try simp only [List.set_set]); (try dsimp only [restE, wipeE, En.set, List.set, List.getElem?_cons_succ, List.getElem?_cons_zero, backV_f, backV_t])
  have hr : r.natAbs < 2 ^ 150 := by
    have : (2 : Nat) ^ 150 = 1427247692705959881058285969449495136382746624 := by decide
    omega
  have hr0 : (0 - r).natAbs < 2 ^ 150 := by
    have : (2 : Nat) ^ 150 = 1427247692705959881058285969449495136382746624 := by decide
    omega
  have pk := fun (L : List D) => placed_ok (L := L) (d := .int r)
  repeat' (first | ((with_reducible refine' RF.wp_eq (pk _) ?_); (try dsimp only [backV_f, backV_t])) | walk_at "wp1")
  show (loopD (.nm 3) bodyB none 0 [.int r, .int (0 - r), .tup [.int 1, .int 2], .tup [], .ref 1, .ref 2, .dK [] [], .dK [.inr "a"] [.int r], .str "a b", .str "", .bl true, .bl false, .non, .tup [.tup [.int 1], .lst [.int 2]]] ⟨[.sh (.scr ns), .sh (.int r), .ow (.lst (er (.int r))), .un, .un, .un], [puD u0 g1 u2, .lst [.int 1], .lst []]⟩).wp _ _
  have pd : Pw (.dK [.inr "a"] [.int r]) 3 1 := ⟨by
    show (PyData.strOk "a" && PyData.strOk (reprText "a") && decide (r.natAbs < 2 ^ 600)) = true
    have h1 : PyData.strOk "a" = true := by decide +kernel
    have h2 : PyData.strOk (reprText "a") = true := by decide +kernel
    rw [h1, h2, decide_eq_true (up150 hr)]
    rfl, by show ("a" : Str).cps.size + 2 ≤ 3; decide +kernel, Nat.le_refl 1⟩
  refine wp_lcons rfl (turn_plain rfl (Pw.int hr) (by omega) (by omega) rfl rfl fun _ _ => ?_)
  refine wp_lcons rfl (turn_plain rfl (Pw.int hr0) (by omega) (by omega) rfl rfl fun _ _ => ?_)
  refine wp_lcons rfl (turn_plain (b := 100) (p := 10) rfl ⟨by decide +kernel, by decide +kernel, by decide +kernel⟩ (by omega) (by omega) rfl rfl fun _ _ => ?_)
  refine wp_lcons rfl (turn_plain (b := 100) (p := 10) rfl ⟨by decide +kernel, by decide +kernel, by decide +kernel⟩ (by omega) (by omega) rfl rfl fun _ _ => ?_)
  refine wp_lcons rfl (turn_list (b := 100) (p := 10) (n := 1) (xs := [.int 1]) rfl rfl rfl ⟨by decide +kernel, by decide +kernel, by decide +kernel⟩ ⟨by decide +kernel, by decide +kernel, by decide +kernel⟩ (by omega) (by omega) (by decide) fun _ _ => ?_)
  refine wp_lcons rfl (turn_list (b := 100) (p := 10) (n := 2) (xs := []) rfl rfl rfl ⟨by decide +kernel, by decide +kernel, by decide +kernel⟩ ⟨by decide +kernel, by decide +kernel, by decide +kernel⟩ (by omega) (by omega) (by decide) fun _ _ => ?_)
  refine wp_lcons rfl (turn_plain (b := 100) (p := 10) rfl ⟨by decide +kernel, by decide +kernel, by decide +kernel⟩ (by omega) (by omega) rfl rfl fun _ _ => ?_)
  refine wp_lcons rfl (turn_plain rfl pd (by omega) (by omega) rfl rfl fun _ _ => ?_)
  refine wp_lcons rfl (turn_plain (b := 100) (p := 10) rfl ⟨by decide +kernel, by decide +kernel, by decide +kernel⟩ (by omega) (by omega) rfl rfl fun _ _ => ?_)
  refine wp_lcons rfl (turn_plain (b := 100) (p := 10) rfl ⟨by decide +kernel, by decide +kernel, by decide +kernel⟩ (by omega) (by omega) rfl rfl fun _ _ => ?_)
  refine wp_lcons rfl (turn_plain (b := 100) (p := 10) rfl ⟨by decide +kernel, by decide +kernel, by decide +kernel⟩ (by omega) (by omega) rfl rfl fun _ _ => ?_)
  refine wp_lcons rfl (turn_plain (b := 100) (p := 10) rfl ⟨by decide +kernel, by decide +kernel, by decide +kernel⟩ (by omega) (by omega) rfl rfl fun _ _ => ?_)
  refine wp_lcons rfl (turn_plain (b := 100) (p := 10) rfl ⟨by decide +kernel, by decide +kernel, by decide +kernel⟩ (by omega) (by omega) rfl rfl fun _ _ => ?_)
  refine wp_lcons rfl (turn_plain (b := 100) (p := 10) rfl ⟨by decide +kernel, by decide +kernel, by decide +kernel⟩ (by omega) (by omega) rfl rfl fun _ _ => ?_)
  refine wp_lnil ?_
  have ra := fun (L : List D) => right_ok (L := L) (d := .int r) (res_pure rfl 5) (ws15 (Pw.int hr) (by omega) (by omega))
  have rb := fun (L : List D) => right_ok (L := L) (d := .non) (res_pure rfl 5) (ws15 (b := 100) (p := 10) ⟨by decide +kernel, by decide +kernel, by decide +kernel⟩ (by omega) (by omega))
  have bk := fun (L : List D) => bare_ok (L := L)
  have kk := fun (L : List D) => kinds_15 (L := L)
  have eq : eqDX (.lst [.int 15]) (.lst [.int 15]) = some (vB true) := eqDX_self rfl (by simp [dp, dps])
  refine seqK_nx ?_
  repeat' (first | ((with_reducible refine' RF.wp_eq (ra _) ?_); (try dsimp only [backV_f, backV_t])) | ((with_reducible refine' RF.wp_eq (bk _) ?_); (try dsimp only [backV_f, backV_t])) | ((with_reducible refine' RF.wp_eq (rb _) ?_); (try dsimp only [backV_f, backV_t])) | ((with_reducible refine' RF.wp_eq (kk _) ?_); (try dsimp only [backV_f, backV_t])) | walk_at "wp1")
  refine finW_shT ?_ ⟨rfl, rfl, rfl⟩
  rfl
end K01
namespace K01
open PySem PySem.Spec PyProof.Rows L2 Tr
theorem all_mk {P : Program} {w : World} {K : PySem.W.Frag} {h : Heap} {mg : Str → Option Value} {fa : Addr} (X : K.In h) (G : h.Ns mainGlobals mg) (hfa : mg "law" = some (.ref fa))
    {Ad : Addr}
    {odA : Option Addr} {cdA : ClassData} {slA : Array (Option Value)}
    {C0 f0 dT0 cda0 cc0 N0 : Addr} {q0 qu0 : Str} {bs0 sub0 : List Value} {sn0 : List Str} {ab0 : Bool} {col0 : Option Bool} {dd0 : Option Addr} {k00 k10 k20 k30 k50 : Option Value}
    {oc0 doc0 pm0 ct0 : Value} {od0 an0 : Option Addr} {osl0 : Array (Option Value)} {p10 p20 p30 x10 x20 x30 x40 x50 x60 r10 r20 r30 r40 : Pos} {tc0 : Value} {td0 : Option Addr} {tn0 : Nat} {ts0 : Array (Option Value)} {cl0 : Value} {cld0 : Option Addr} {csl0 : Array (Option Value)} {ccl0 : Value} {cdd0 : Option Addr} {ccs0 : Array (Option Value)} {vs0 : Array Value} {file0 : Str} {tf0 : Tok}
    {C1 f1 dT1 cda1 cc1 N1 : Addr} {q1 qu1 : Str} {bs1 sub1 : List Value} {sn1 : List Str} {ab1 : Bool} {col1 : Option Bool} {dd1 : Option Addr} {k01 k11 k21 k31 k51 : Option Value}
    {oc1 doc1 pm1 ct1 : Value} {od1 an1 : Option Addr} {osl1 : Array (Option Value)} {p11 p21 p31 x11 x21 x31 x41 x51 x61 r11 r21 r31 r41 : Pos} {tc1 : Value} {td1 : Option Addr} {tn1 : Nat} {ts1 : Array (Option Value)} {cl1 : Value} {cld1 : Option Addr} {csl1 : Array (Option Value)} {ccl1 : Value} {cdd1 : Option Addr} {ccs1 : Array (Option Value)} {vs1 : Array Value} {file1 : Str} {tf1 : Tok}
    {C2 f2 dT2 cda2 cc2 N2 : Addr} {q2 qu2 : Str} {bs2 sub2 : List Value} {sn2 : List Str} {ab2 : Bool} {col2 : Option Bool} {dd2 : Option Addr} {k02 k12 k22 k32 k52 : Option Value}
    {oc2 doc2 pm2 ct2 : Value} {od2 an2 : Option Addr} {osl2 : Array (Option Value)} {p12 p22 p32 x12 x22 x32 x42 x52 x62 r12 r22 r32 r42 : Pos} {tc2 : Value} {td2 : Option Addr} {tn2 : Nat} {ts2 : Array (Option Value)} {cl2 : Value} {cld2 : Option Addr} {csl2 : Array (Option Value)} {ccl2 : Value} {cdd2 : Option Addr} {ccs2 : Array (Option Value)} {vs2 : Array Value} {file2 : Str} {tf2 : Tok}
    {C3 f3 dT3 cda3 cc3 N3 : Addr} {q3 qu3 : Str} {bs3 sub3 : List Value} {sn3 : List Str} {ab3 : Bool} {col3 : Option Bool} {dd3 : Option Addr} {k03 k13 k23 k33 k53 : Option Value}
    {oc3 doc3 pm3 ct3 : Value} {od3 an3 : Option Addr} {osl3 : Array (Option Value)} {p13 p23 p33 x13 x23 x33 x43 x53 x63 r13 r23 r33 r43 : Pos} {tc3 : Value} {td3 : Option Addr} {tn3 : Nat} {ts3 : Array (Option Value)} {cl3 : Value} {cld3 : Option Addr} {csl3 : Array (Option Value)} {ccl3 : Value} {cdd3 : Option Addr} {ccs3 : Array (Option Value)} {vs3 : Array Value} {file3 : Str} {tf3 : Tok}
    {C4 f4 dT4 cda4 cc4 N4 : Addr} {q4 qu4 : Str} {bs4 sub4 : List Value} {sn4 : List Str} {ab4 : Bool} {col4 : Option Bool} {dd4 : Option Addr} {k04 k14 k24 k34 k54 : Option Value}
    {oc4 doc4 pm4 ct4 : Value} {od4 an4 : Option Addr} {osl4 : Array (Option Value)} {p14 p24 p34 x14 x24 x34 x44 x54 x64 r14 r24 r34 r44 : Pos} {tc4 : Value} {td4 : Option Addr} {tn4 : Nat} {ts4 : Array (Option Value)} {cl4 : Value} {cld4 : Option Addr} {csl4 : Array (Option Value)} {ccl4 : Value} {cdd4 : Option Addr} {ccs4 : Array (Option Value)} {vs4 : Array Value} {file4 : Str} {tf4 : Tok}
    {C5 f5 dT5 cda5 cc5 N5 : Addr} {q5 qu5 : Str} {bs5 sub5 : List Value} {sn5 : List Str} {ab5 : Bool} {col5 : Option Bool} {dd5 : Option Addr} {k05 k15 k25 k35 k55 : Option Value}
    {oc5 doc5 pm5 ct5 : Value} {od5 an5 : Option Addr} {osl5 : Array (Option Value)} {p15 p25 p35 x15 x25 x35 x45 x55 x65 r15 r25 r35 r45 : Pos} {tc5 : Value} {td5 : Option Addr} {tn5 : Nat} {ts5 : Array (Option Value)} {cl5 : Value} {cld5 : Option Addr} {csl5 : Array (Option Value)} {ccl5 : Value} {cdd5 : Option Addr} {ccs5 : Array (Option Value)} {vs5 : Array Value} {file5 : Str} {tf5 : Tok}
    {C6 f6 dT6 cda6 cc6 N6 : Addr} {q6 qu6 : Str} {bs6 sub6 : List Value} {sn6 : List Str} {ab6 : Bool} {col6 : Option Bool} {dd6 : Option Addr} {k06 k16 k26 k36 k56 : Option Value}
    {oc6 doc6 pm6 ct6 : Value} {od6 an6 : Option Addr} {osl6 : Array (Option Value)} {p16 p26 p36 x16 x26 x36 x46 x56 x66 r16 r26 r36 r46 : Pos} {tc6 : Value} {td6 : Option Addr} {tn6 : Nat} {ts6 : Array (Option Value)} {cl6 : Value} {cld6 : Option Addr} {csl6 : Array (Option Value)} {ccl6 : Value} {cdd6 : Option Addr} {ccs6 : Array (Option Value)} {vs6 : Array Value} {file6 : Str} {tf6 : Tok}
    {C7 f7 dT7 cda7 cc7 N7 : Addr} {q7 qu7 : Str} {bs7 sub7 : List Value} {sn7 : List Str} {ab7 : Bool} {col7 : Option Bool} {dd7 : Option Addr} {k07 k17 k27 k37 k57 : Option Value}
    {oc7 doc7 pm7 ct7 : Value} {od7 an7 : Option Addr} {osl7 : Array (Option Value)} {p17 p27 p37 x17 x27 x37 x47 x57 x67 r17 r27 r37 r47 : Pos} {tc7 : Value} {td7 : Option Addr} {tn7 : Nat} {ts7 : Array (Option Value)} {cl7 : Value} {cld7 : Option Addr} {csl7 : Array (Option Value)} {ccl7 : Value} {cdd7 : Option Addr} {ccs7 : Array (Option Value)} {vs7 : Array Value} {file7 : Str} {tf7 : Tok}
    {C8 f8 dT8 cda8 cc8 N8 : Addr} {q8 qu8 : Str} {bs8 sub8 : List Value} {sn8 : List Str} {ab8 : Bool} {col8 : Option Bool} {dd8 : Option Addr} {k08 k18 k28 k38 k58 : Option Value}
    {oc8 doc8 pm8 ct8 : Value} {od8 an8 : Option Addr} {osl8 : Array (Option Value)} {p18 p28 p38 x18 x28 x38 x48 x58 x68 r18 r28 r38 r48 : Pos} {tc8 : Value} {td8 : Option Addr} {tn8 : Nat} {ts8 : Array (Option Value)} {cl8 : Value} {cld8 : Option Addr} {csl8 : Array (Option Value)} {ccl8 : Value} {cdd8 : Option Addr} {ccs8 : Array (Option Value)} {vs8 : Array Value} {file8 : Str} {tf8 : Tok}
    {C9 f9 dT9 cda9 cc9 N9 : Addr} {q9 qu9 : Str} {bs9 sub9 : List Value} {sn9 : List Str} {ab9 : Bool} {col9 : Option Bool} {dd9 : Option Addr} {k09 k19 k29 k39 k59 : Option Value}
    {oc9 doc9 pm9 ct9 : Value} {od9 an9 : Option Addr} {osl9 : Array (Option Value)} {p19 p29 p39 x19 x29 x39 x49 x59 x69 r19 r29 r39 r49 : Pos} {tc9 : Value} {td9 : Option Addr} {tn9 : Nat} {ts9 : Array (Option Value)} {cl9 : Value} {cld9 : Option Addr} {csl9 : Array (Option Value)} {ccl9 : Value} {cdd9 : Option Addr} {ccs9 : Array (Option Value)} {vs9 : Array Value} {file9 : Str} {tf9 : Tok}
    {C10 f10 dT10 cda10 cc10 N10 : Addr} {q10 qu10 : Str} {bs10 sub10 : List Value} {sn10 : List Str} {ab10 : Bool} {col10 : Option Bool} {dd10 : Option Addr} {k010 k110 k210 k310 k510 : Option Value}
    {oc10 doc10 pm10 ct10 : Value} {od10 an10 : Option Addr} {osl10 : Array (Option Value)} {p110 p210 p310 x110 x210 x310 x410 x510 x610 r110 r210 r310 r410 : Pos} {tc10 : Value} {td10 : Option Addr} {tn10 : Nat} {ts10 : Array (Option Value)} {cl10 : Value} {cld10 : Option Addr} {csl10 : Array (Option Value)} {ccl10 : Value} {cdd10 : Option Addr} {ccs10 : Array (Option Value)} {vs10 : Array Value} {file10 : Str} {tf10 : Tok}
    {C11 f11 dT11 cda11 cc11 N11 : Addr} {q11 qu11 : Str} {bs11 sub11 : List Value} {sn11 : List Str} {ab11 : Bool} {col11 : Option Bool} {dd11 : Option Addr} {k011 k111 k211 k311 k511 : Option Value}
    {oc11 doc11 pm11 ct11 : Value} {od11 an11 : Option Addr} {osl11 : Array (Option Value)} {p111 p211 p311 x111 x211 x311 x411 x511 x611 r111 r211 r311 r411 : Pos} {tc11 : Value} {td11 : Option Addr} {tn11 : Nat} {ts11 : Array (Option Value)} {cl11 : Value} {cld11 : Option Addr} {csl11 : Array (Option Value)} {ccl11 : Value} {cdd11 : Option Addr} {ccs11 : Array (Option Value)} {vs11 : Array Value} {file11 : Str} {tf11 : Tok}
    {C12 f12 dT12 cda12 cc12 N12 : Addr} {q12 qu12 : Str} {bs12 sub12 : List Value} {sn12 : List Str} {ab12 : Bool} {col12 : Option Bool} {dd12 : Option Addr} {k012 k112 k212 k312 k512 : Option Value}
    {oc12 doc12 pm12 ct12 : Value} {od12 an12 : Option Addr} {osl12 : Array (Option Value)} {p112 p212 p312 x112 x212 x312 x412 x512 x612 r112 r212 r312 r412 : Pos} {tc12 : Value} {td12 : Option Addr} {tn12 : Nat} {ts12 : Array (Option Value)} {cl12 : Value} {cld12 : Option Addr} {csl12 : Array (Option Value)} {ccl12 : Value} {cdd12 : Option Addr} {ccs12 : Array (Option Value)} {vs12 : Array Value} {file12 : Str} {tf12 : Tok}
    {C13 f13 dT13 cda13 cc13 N13 : Addr} {q13 qu13 : Str} {bs13 sub13 : List Value} {sn13 : List Str} {ab13 : Bool} {col13 : Option Bool} {dd13 : Option Addr} {k013 k113 k213 k313 k513 : Option Value}
    {oc13 doc13 pm13 ct13 : Value} {od13 an13 : Option Addr} {osl13 : Array (Option Value)} {p113 p213 p313 x113 x213 x313 x413 x513 x613 r113 r213 r313 r413 : Pos} {tc13 : Value} {td13 : Option Addr} {tn13 : Nat} {ts13 : Array (Option Value)} {cl13 : Value} {cld13 : Option Addr} {csl13 : Array (Option Value)} {ccl13 : Value} {cdd13 : Option Addr} {ccs13 : Array (Option Value)} {vs13 : Array Value} {file13 : Str} {tf13 : Tok}
    {C14 f14 dT14 cda14 cc14 N14 : Addr} {q14 qu14 : Str} {bs14 sub14 : List Value} {sn14 : List Str} {ab14 : Bool} {col14 : Option Bool} {dd14 : Option Addr} {k014 k114 k214 k314 k514 : Option Value}
    {oc14 doc14 pm14 ct14 : Value} {od14 an14 : Option Addr} {osl14 : Array (Option Value)} {p114 p214 p314 x114 x214 x314 x414 x514 x614 r114 r214 r314 r414 : Pos} {tc14 : Value} {td14 : Option Addr} {tn14 : Nat} {ts14 : Array (Option Value)} {cl14 : Value} {cld14 : Option Addr} {csl14 : Array (Option Value)} {ccl14 : Value} {cdd14 : Option Addr} {ccs14 : Array (Option Value)} {vs14 : Array Value} {file14 : Str} {tf14 : Tok}
    {C00 : Addr}
    {aD0 : Addr} {ocD0 kVD0 dcD0 pmD0 cdD0 ctD0 : Value} {odD0 anD0 : Option Addr} {slD0 : Array (Option Value)}
    {aD1 : Addr} {ocD1 kVD1 dcD1 pmD1 cdD1 ctD1 : Value} {odD1 anD1 : Option Addr} {slD1 : Array (Option Value)}
    {aD2 : Addr} {ocD2 kVD2 dcD2 pmD2 cdD2 ctD2 : Value} {odD2 anD2 : Option Addr} {slD2 : Array (Option Value)}
    {aD3 : Addr} {ocD3 kVD3 dcD3 pmD3 cdD3 ctD3 : Value} {odD3 anD3 : Option Addr} {slD3 : Array (Option Value)}
    {aD4 : Addr} {ocD4 kVD4 dcD4 pmD4 cdD4 ctD4 : Value} {odD4 anD4 : Option Addr} {slD4 : Array (Option Value)}
    {aD5 : Addr} {ocD5 kVD5 dcD5 pmD5 cdD5 ctD5 : Value} {odD5 anD5 : Option Addr} {slD5 : Array (Option Value)}
    {aD6 : Addr} {ocD6 kVD6 dcD6 pmD6 cdD6 ctD6 : Value} {odD6 anD6 : Option Addr} {slD6 : Array (Option Value)}
    {aD7 : Addr} {ocD7 kVD7 dcD7 pmD7 cdD7 ctD7 : Value} {odD7 anD7 : Option Addr} {slD7 : Array (Option Value)}
    {aD8 : Addr} {ocD8 kVD8 dcD8 pmD8 cdD8 ctD8 : Value} {odD8 anD8 : Option Addr} {slD8 : Array (Option Value)}
    {aD9 : Addr} {ocD9 kVD9 dcD9 pmD9 cdD9 ctD9 : Value} {odD9 anD9 : Option Addr} {slD9 : Array (Option Value)}
    (n_ValueError : PySem.W.nsIn K mainGlobals "ValueError" = some none)
    (n_isinstance : PySem.W.nsIn K mainGlobals "isinstance" = some none)
    (n_list : PySem.W.nsIn K mainGlobals "list" = some none)
    (n_max : PySem.W.nsIn K mainGlobals "max" = some none)
    (n_range : PySem.W.nsIn K mainGlobals "range" = some none)
    (n_repr : PySem.W.nsIn K mainGlobals "repr" = some none)
    (n_sum : PySem.W.nsIn K mainGlobals "sum" = some none)
    (aA : PySem.W.nsIn K mainGlobals "AddError" = some (some (.ref Ad)))
    (lA : K.lookup Ad = some ⟨.type "type", odA, .cls cdA, slA⟩)
    (nmA : cdA.name = "AddError")
    (exA : PySem.W.subIn K (.ref Ad) (.type "BaseException") = some true)
    (opq : PySem.W.nsIn K cStatics "thirdparty.any" = some none)
    (nsup : PySem.W.nsIn K mainGlobals "super" = some none)
    (tsup : (P.main.scope.names.lookup ("super" : Str)).isSome = false)
    (eg0 : PySem.W.nsIn K mainGlobals "InvalidNumber" = some (some (.ref C0)))
    (ec0 : K.lookup C0 = some (excClassObj "InvalidNumber" q0 C0 N0 bs0 (.ref Ad :: PySem.HandSPX.veTail) true sn0 sub0 ab0 col0 dd0 k00 k10 k20 k30 k50 "ValueError.__new__"))
    (esa0 : PySem.W.findIn K (.ref C0) "__setattr__" = some (some (.builtin "object.__setattr__")))
    (ega0 : PySem.W.findIn K (.ref C0) "__getattribute__" = some (some (.builtin "BaseException.__getattribute__")))
    (egg0 : PySem.W.findIn K (.ref C0) "__getattr__" = some none)
    (enn0 : PySem.W.findIn K (.ref C0) "value" = some none)
    (ecl0 : PySem.W.findIn K (.ref C0) "__class__" = some (some (.builtin "object.__class__")))
    (ei0 : PySem.W.findIn K (.ref C0) "__init__" = some (some (.ref f0)))
    (et0 : PySem.W.typeIn K (.ref f0) = some (.type "function"))
    (ek0 : PySem.W.keepIn K (.ref C0) = true)
    (eh0 : PySem.W.hasDictIn K C0 = true)
    (es0 : PySem.W.ks_superIn K C0 C0 "__init__" = some (some (.builtin "ValueError.__init__")))
    (el0 : K.lookup f0 = some ⟨oc0, od0, .func (PySem.W.ksFn "__init__" qu0 (PySem.ErrX.eA "value" p10 p20 p30) (PySem.ErrX.eB "value" x10 x20 x30 x40 x50 x60 r10 r20 r30 r40) (PySem.ErrX.eS "value") (.ref dT0) .none doc0 pm0 an0 (.ref cda0) ct0 cc0), osl0⟩)
    (eo0 : PySem.W.codeIn K (.ref cda0) qu0 = true)
    (ed0 : K.lookup dT0 = some ⟨tc0, td0, .seq #[.none] tn0, ts0⟩)
    (ep0 : (x30.endLine == x50.line) = true)
    (ec20 : K.lookup cc0 = some ⟨cl0, cld0, .cell (some (.ref C0)), csl0⟩)
    (ecd0 : K.lookup cda0 = some ⟨ccl0, cdd0, .fields vs0, ccs0⟩)
    (ev0 : vs0[2]? = some (.str file0 tf0))
    (ef0 : ((P.main.file : Str) == file0) = true)
    (eg1 : PySem.W.nsIn K mainGlobals "InvalidCell" = some (some (.ref C1)))
    (ec1 : K.lookup C1 = some (excClassObj "InvalidCell" q1 C1 N1 bs1 (.ref Ad :: PySem.HandSPX.veTail) true sn1 sub1 ab1 col1 dd1 k01 k11 k21 k31 k51 "ValueError.__new__"))
    (esa1 : PySem.W.findIn K (.ref C1) "__setattr__" = some (some (.builtin "object.__setattr__")))
    (ega1 : PySem.W.findIn K (.ref C1) "__getattribute__" = some (some (.builtin "BaseException.__getattribute__")))
    (egg1 : PySem.W.findIn K (.ref C1) "__getattr__" = some none)
    (enn1 : PySem.W.findIn K (.ref C1) "value" = some none)
    (ecl1 : PySem.W.findIn K (.ref C1) "__class__" = some (some (.builtin "object.__class__")))
    (ei1 : PySem.W.findIn K (.ref C1) "__init__" = some (some (.ref f1)))
    (et1 : PySem.W.typeIn K (.ref f1) = some (.type "function"))
    (ek1 : PySem.W.keepIn K (.ref C1) = true)
    (eh1 : PySem.W.hasDictIn K C1 = true)
    (es1 : PySem.W.ks_superIn K C1 C1 "__init__" = some (some (.builtin "ValueError.__init__")))
    (el1 : K.lookup f1 = some ⟨oc1, od1, .func (PySem.W.ksFn "__init__" qu1 (PySem.ErrX.eA "value" p11 p21 p31) (PySem.ErrX.eB "value" x11 x21 x31 x41 x51 x61 r11 r21 r31 r41) (PySem.ErrX.eS "value") (.ref dT1) .none doc1 pm1 an1 (.ref cda1) ct1 cc1), osl1⟩)
    (eo1 : PySem.W.codeIn K (.ref cda1) qu1 = true)
    (ed1 : K.lookup dT1 = some ⟨tc1, td1, .seq #[.none] tn1, ts1⟩)
    (ep1 : (x31.endLine == x51.line) = true)
    (ec21 : K.lookup cc1 = some ⟨cl1, cld1, .cell (some (.ref C1)), csl1⟩)
    (ecd1 : K.lookup cda1 = some ⟨ccl1, cdd1, .fields vs1, ccs1⟩)
    (ev1 : vs1[2]? = some (.str file1 tf1))
    (ef1 : ((P.main.file : Str) == file1) = true)
    (eg2 : PySem.W.nsIn K mainGlobals "InvalidNest" = some (some (.ref C2)))
    (ec2 : K.lookup C2 = some (excClassObj "InvalidNest" q2 C2 N2 bs2 (.ref Ad :: PySem.HandSPX.veTail) true sn2 sub2 ab2 col2 dd2 k02 k12 k22 k32 k52 "ValueError.__new__"))
    (esa2 : PySem.W.findIn K (.ref C2) "__setattr__" = some (some (.builtin "object.__setattr__")))
    (ega2 : PySem.W.findIn K (.ref C2) "__getattribute__" = some (some (.builtin "BaseException.__getattribute__")))
    (egg2 : PySem.W.findIn K (.ref C2) "__getattr__" = some none)
    (enn2 : PySem.W.findIn K (.ref C2) "value" = some none)
    (ecl2 : PySem.W.findIn K (.ref C2) "__class__" = some (some (.builtin "object.__class__")))
    (ei2 : PySem.W.findIn K (.ref C2) "__init__" = some (some (.ref f2)))
    (et2 : PySem.W.typeIn K (.ref f2) = some (.type "function"))
    (ek2 : PySem.W.keepIn K (.ref C2) = true)
    (eh2 : PySem.W.hasDictIn K C2 = true)
    (es2 : PySem.W.ks_superIn K C2 C2 "__init__" = some (some (.builtin "ValueError.__init__")))
    (el2 : K.lookup f2 = some ⟨oc2, od2, .func (PySem.W.ksFn "__init__" qu2 (PySem.ErrX.eA "value" p12 p22 p32) (PySem.ErrX.eB "value" x12 x22 x32 x42 x52 x62 r12 r22 r32 r42) (PySem.ErrX.eS "value") (.ref dT2) .none doc2 pm2 an2 (.ref cda2) ct2 cc2), osl2⟩)
    (eo2 : PySem.W.codeIn K (.ref cda2) qu2 = true)
    (ed2 : K.lookup dT2 = some ⟨tc2, td2, .seq #[.none] tn2, ts2⟩)
    (ep2 : (x32.endLine == x52.line) = true)
    (ec22 : K.lookup cc2 = some ⟨cl2, cld2, .cell (some (.ref C2)), csl2⟩)
    (ecd2 : K.lookup cda2 = some ⟨ccl2, cdd2, .fields vs2, ccs2⟩)
    (ev2 : vs2[2]? = some (.str file2 tf2))
    (ef2 : ((P.main.file : Str) == file2) = true)
    (eg3 : PySem.W.nsIn K mainGlobals "InvalidProgram" = some (some (.ref C3)))
    (ec3 : K.lookup C3 = some (excClassObj "InvalidProgram" q3 C3 N3 bs3 (.ref Ad :: PySem.HandSPX.veTail) true sn3 sub3 ab3 col3 dd3 k03 k13 k23 k33 k53 "ValueError.__new__"))
    (esa3 : PySem.W.findIn K (.ref C3) "__setattr__" = some (some (.builtin "object.__setattr__")))
    (ega3 : PySem.W.findIn K (.ref C3) "__getattribute__" = some (some (.builtin "BaseException.__getattribute__")))
    (egg3 : PySem.W.findIn K (.ref C3) "__getattr__" = some none)
    (enn3 : PySem.W.findIn K (.ref C3) "value" = some none)
    (ecl3 : PySem.W.findIn K (.ref C3) "__class__" = some (some (.builtin "object.__class__")))
    (ei3 : PySem.W.findIn K (.ref C3) "__init__" = some (some (.ref f3)))
    (et3 : PySem.W.typeIn K (.ref f3) = some (.type "function"))
    (ek3 : PySem.W.keepIn K (.ref C3) = true)
    (eh3 : PySem.W.hasDictIn K C3 = true)
    (es3 : PySem.W.ks_superIn K C3 C3 "__init__" = some (some (.builtin "ValueError.__init__")))
    (el3 : K.lookup f3 = some ⟨oc3, od3, .func (PySem.W.ksFn "__init__" qu3 (PySem.ErrX.eA "value" p13 p23 p33) (PySem.ErrX.eB "value" x13 x23 x33 x43 x53 x63 r13 r23 r33 r43) (PySem.ErrX.eS "value") (.ref dT3) .none doc3 pm3 an3 (.ref cda3) ct3 cc3), osl3⟩)
    (eo3 : PySem.W.codeIn K (.ref cda3) qu3 = true)
    (ed3 : K.lookup dT3 = some ⟨tc3, td3, .seq #[.none] tn3, ts3⟩)
    (ep3 : (x33.endLine == x53.line) = true)
    (ec23 : K.lookup cc3 = some ⟨cl3, cld3, .cell (some (.ref C3)), csl3⟩)
    (ecd3 : K.lookup cda3 = some ⟨ccl3, cdd3, .fields vs3, ccs3⟩)
    (ev3 : vs3[2]? = some (.str file3 tf3))
    (ef3 : ((P.main.file : Str) == file3) = true)
    (eg4 : PySem.W.nsIn K mainGlobals "InvalidOrder" = some (some (.ref C4)))
    (ec4 : K.lookup C4 = some (excClassObj "InvalidOrder" q4 C4 N4 bs4 (.ref Ad :: PySem.HandSPX.veTail) true sn4 sub4 ab4 col4 dd4 k04 k14 k24 k34 k54 "ValueError.__new__"))
    (esa4 : PySem.W.findIn K (.ref C4) "__setattr__" = some (some (.builtin "object.__setattr__")))
    (ega4 : PySem.W.findIn K (.ref C4) "__getattribute__" = some (some (.builtin "BaseException.__getattribute__")))
    (egg4 : PySem.W.findIn K (.ref C4) "__getattr__" = some none)
    (enn4 : PySem.W.findIn K (.ref C4) "value" = some none)
    (ecl4 : PySem.W.findIn K (.ref C4) "__class__" = some (some (.builtin "object.__class__")))
    (ei4 : PySem.W.findIn K (.ref C4) "__init__" = some (some (.ref f4)))
    (et4 : PySem.W.typeIn K (.ref f4) = some (.type "function"))
    (ek4 : PySem.W.keepIn K (.ref C4) = true)
    (eh4 : PySem.W.hasDictIn K C4 = true)
    (es4 : PySem.W.ks_superIn K C4 C4 "__init__" = some (some (.builtin "ValueError.__init__")))
    (el4 : K.lookup f4 = some ⟨oc4, od4, .func (PySem.W.ksFn "__init__" qu4 (PySem.ErrX.eA "value" p14 p24 p34) (PySem.ErrX.eB "value" x14 x24 x34 x44 x54 x64 r14 r24 r34 r44) (PySem.ErrX.eS "value") (.ref dT4) .none doc4 pm4 an4 (.ref cda4) ct4 cc4), osl4⟩)
    (eo4 : PySem.W.codeIn K (.ref cda4) qu4 = true)
    (ed4 : K.lookup dT4 = some ⟨tc4, td4, .seq #[.none] tn4, ts4⟩)
    (ep4 : (x34.endLine == x54.line) = true)
    (ec24 : K.lookup cc4 = some ⟨cl4, cld4, .cell (some (.ref C4)), csl4⟩)
    (ecd4 : K.lookup cda4 = some ⟨ccl4, cdd4, .fields vs4, ccs4⟩)
    (ev4 : vs4[2]? = some (.str file4 tf4))
    (ef4 : ((P.main.file : Str) == file4) = true)
    (eg5 : PySem.W.nsIn K mainGlobals "InvalidList" = some (some (.ref C5)))
    (ec5 : K.lookup C5 = some (excClassObj "InvalidList" q5 C5 N5 bs5 (.ref Ad :: PySem.HandSPX.veTail) true sn5 sub5 ab5 col5 dd5 k05 k15 k25 k35 k55 "ValueError.__new__"))
    (esa5 : PySem.W.findIn K (.ref C5) "__setattr__" = some (some (.builtin "object.__setattr__")))
    (ega5 : PySem.W.findIn K (.ref C5) "__getattribute__" = some (some (.builtin "BaseException.__getattribute__")))
    (egg5 : PySem.W.findIn K (.ref C5) "__getattr__" = some none)
    (enn5 : PySem.W.findIn K (.ref C5) "value" = some none)
    (ecl5 : PySem.W.findIn K (.ref C5) "__class__" = some (some (.builtin "object.__class__")))
    (ei5 : PySem.W.findIn K (.ref C5) "__init__" = some (some (.ref f5)))
    (et5 : PySem.W.typeIn K (.ref f5) = some (.type "function"))
    (ek5 : PySem.W.keepIn K (.ref C5) = true)
    (eh5 : PySem.W.hasDictIn K C5 = true)
    (es5 : PySem.W.ks_superIn K C5 C5 "__init__" = some (some (.builtin "ValueError.__init__")))
    (el5 : K.lookup f5 = some ⟨oc5, od5, .func (PySem.W.ksFn "__init__" qu5 (PySem.ErrX.eA "value" p15 p25 p35) (PySem.ErrX.eB "value" x15 x25 x35 x45 x55 x65 r15 r25 r35 r45) (PySem.ErrX.eS "value") (.ref dT5) .none doc5 pm5 an5 (.ref cda5) ct5 cc5), osl5⟩)
    (eo5 : PySem.W.codeIn K (.ref cda5) qu5 = true)
    (ed5 : K.lookup dT5 = some ⟨tc5, td5, .seq #[.none] tn5, ts5⟩)
    (ep5 : (x35.endLine == x55.line) = true)
    (ec25 : K.lookup cc5 = some ⟨cl5, cld5, .cell (some (.ref C5)), csl5⟩)
    (ecd5 : K.lookup cda5 = some ⟨ccl5, cdd5, .fields vs5, ccs5⟩)
    (ev5 : vs5[2]? = some (.str file5 tf5))
    (ef5 : ((P.main.file : Str) == file5) = true)
    (eg6 : PySem.W.nsIn K mainGlobals "InvalidText" = some (some (.ref C6)))
    (ec6 : K.lookup C6 = some (excClassObj "InvalidText" q6 C6 N6 bs6 (.ref Ad :: PySem.HandSPX.veTail) true sn6 sub6 ab6 col6 dd6 k06 k16 k26 k36 k56 "ValueError.__new__"))
    (esa6 : PySem.W.findIn K (.ref C6) "__setattr__" = some (some (.builtin "object.__setattr__")))
    (ega6 : PySem.W.findIn K (.ref C6) "__getattribute__" = some (some (.builtin "BaseException.__getattribute__")))
    (egg6 : PySem.W.findIn K (.ref C6) "__getattr__" = some none)
    (enn6 : PySem.W.findIn K (.ref C6) "value" = some none)
    (ecl6 : PySem.W.findIn K (.ref C6) "__class__" = some (some (.builtin "object.__class__")))
    (ei6 : PySem.W.findIn K (.ref C6) "__init__" = some (some (.ref f6)))
    (et6 : PySem.W.typeIn K (.ref f6) = some (.type "function"))
    (ek6 : PySem.W.keepIn K (.ref C6) = true)
    (eh6 : PySem.W.hasDictIn K C6 = true)
    (es6 : PySem.W.ks_superIn K C6 C6 "__init__" = some (some (.builtin "ValueError.__init__")))
    (el6 : K.lookup f6 = some ⟨oc6, od6, .func (PySem.W.ksFn "__init__" qu6 (PySem.ErrX.eA "value" p16 p26 p36) (PySem.ErrX.eB "value" x16 x26 x36 x46 x56 x66 r16 r26 r36 r46) (PySem.ErrX.eS "value") (.ref dT6) .none doc6 pm6 an6 (.ref cda6) ct6 cc6), osl6⟩)
    (eo6 : PySem.W.codeIn K (.ref cda6) qu6 = true)
    (ed6 : K.lookup dT6 = some ⟨tc6, td6, .seq #[.none] tn6, ts6⟩)
    (ep6 : (x36.endLine == x56.line) = true)
    (ec26 : K.lookup cc6 = some ⟨cl6, cld6, .cell (some (.ref C6)), csl6⟩)
    (ecd6 : K.lookup cda6 = some ⟨ccl6, cdd6, .fields vs6, ccs6⟩)
    (ev6 : vs6[2]? = some (.str file6 tf6))
    (ef6 : ((P.main.file : Str) == file6) = true)
    (eg7 : PySem.W.nsIn K mainGlobals "InvalidFamily" = some (some (.ref C7)))
    (ec7 : K.lookup C7 = some (excClassObj "InvalidFamily" q7 C7 N7 bs7 (.ref Ad :: PySem.HandSPX.veTail) true sn7 sub7 ab7 col7 dd7 k07 k17 k27 k37 k57 "ValueError.__new__"))
    (esa7 : PySem.W.findIn K (.ref C7) "__setattr__" = some (some (.builtin "object.__setattr__")))
    (ega7 : PySem.W.findIn K (.ref C7) "__getattribute__" = some (some (.builtin "BaseException.__getattribute__")))
    (egg7 : PySem.W.findIn K (.ref C7) "__getattr__" = some none)
    (enn7 : PySem.W.findIn K (.ref C7) "value" = some none)
    (ecl7 : PySem.W.findIn K (.ref C7) "__class__" = some (some (.builtin "object.__class__")))
    (ei7 : PySem.W.findIn K (.ref C7) "__init__" = some (some (.ref f7)))
    (et7 : PySem.W.typeIn K (.ref f7) = some (.type "function"))
    (ek7 : PySem.W.keepIn K (.ref C7) = true)
    (eh7 : PySem.W.hasDictIn K C7 = true)
    (es7 : PySem.W.ks_superIn K C7 C7 "__init__" = some (some (.builtin "ValueError.__init__")))
    (el7 : K.lookup f7 = some ⟨oc7, od7, .func (PySem.W.ksFn "__init__" qu7 (PySem.ErrX.eA "value" p17 p27 p37) (PySem.ErrX.eB "value" x17 x27 x37 x47 x57 x67 r17 r27 r37 r47) (PySem.ErrX.eS "value") (.ref dT7) .none doc7 pm7 an7 (.ref cda7) ct7 cc7), osl7⟩)
    (eo7 : PySem.W.codeIn K (.ref cda7) qu7 = true)
    (ed7 : K.lookup dT7 = some ⟨tc7, td7, .seq #[.none] tn7, ts7⟩)
    (ep7 : (x37.endLine == x57.line) = true)
    (ec27 : K.lookup cc7 = some ⟨cl7, cld7, .cell (some (.ref C7)), csl7⟩)
    (ecd7 : K.lookup cda7 = some ⟨ccl7, cdd7, .fields vs7, ccs7⟩)
    (ev7 : vs7[2]? = some (.str file7 tf7))
    (ef7 : ((P.main.file : Str) == file7) = true)
    (eg8 : PySem.W.nsIn K mainGlobals "UnlikeAxes" = some (some (.ref C8)))
    (ec8 : K.lookup C8 = some (excClassObj "UnlikeAxes" q8 C8 N8 bs8 (.ref Ad :: PySem.HandSPX.veTail) true sn8 sub8 ab8 col8 dd8 k08 k18 k28 k38 k58 "ValueError.__new__"))
    (esa8 : PySem.W.findIn K (.ref C8) "__setattr__" = some (some (.builtin "object.__setattr__")))
    (ega8 : PySem.W.findIn K (.ref C8) "__getattribute__" = some (some (.builtin "BaseException.__getattribute__")))
    (egg8 : PySem.W.findIn K (.ref C8) "__getattr__" = some none)
    (enn8 : PySem.W.findIn K (.ref C8) "axes" = some none)
    (ecl8 : PySem.W.findIn K (.ref C8) "__class__" = some (some (.builtin "object.__class__")))
    (ei8 : PySem.W.findIn K (.ref C8) "__init__" = some (some (.ref f8)))
    (et8 : PySem.W.typeIn K (.ref f8) = some (.type "function"))
    (ek8 : PySem.W.keepIn K (.ref C8) = true)
    (eh8 : PySem.W.hasDictIn K C8 = true)
    (es8 : PySem.W.ks_superIn K C8 C8 "__init__" = some (some (.builtin "ValueError.__init__")))
    (el8 : K.lookup f8 = some ⟨oc8, od8, .func (PySem.W.ksFn "__init__" qu8 (PySem.ErrX.eA "axes" p18 p28 p38) (PySem.ErrX.eB "axes" x18 x28 x38 x48 x58 x68 r18 r28 r38 r48) (PySem.ErrX.eS "axes") (.ref dT8) .none doc8 pm8 an8 (.ref cda8) ct8 cc8), osl8⟩)
    (eo8 : PySem.W.codeIn K (.ref cda8) qu8 = true)
    (ed8 : K.lookup dT8 = some ⟨tc8, td8, .seq #[.none] tn8, ts8⟩)
    (ep8 : (x38.endLine == x58.line) = true)
    (ec28 : K.lookup cc8 = some ⟨cl8, cld8, .cell (some (.ref C8)), csl8⟩)
    (ecd8 : K.lookup cda8 = some ⟨ccl8, cdd8, .fields vs8, ccs8⟩)
    (ev8 : vs8[2]? = some (.str file8 tf8))
    (ef8 : ((P.main.file : Str) == file8) = true)
    (eg9 : PySem.W.nsIn K mainGlobals "NotStraight" = some (some (.ref C9)))
    (ec9 : K.lookup C9 = some (excClassObj "NotStraight" q9 C9 N9 bs9 (.ref Ad :: PySem.HandSPX.veTail) true sn9 sub9 ab9 col9 dd9 k09 k19 k29 k39 k59 "ValueError.__new__"))
    (esa9 : PySem.W.findIn K (.ref C9) "__setattr__" = some (some (.builtin "object.__setattr__")))
    (ega9 : PySem.W.findIn K (.ref C9) "__getattribute__" = some (some (.builtin "BaseException.__getattribute__")))
    (egg9 : PySem.W.findIn K (.ref C9) "__getattr__" = some none)
    (enn9 : PySem.W.findIn K (.ref C9) "place" = some none)
    (ecl9 : PySem.W.findIn K (.ref C9) "__class__" = some (some (.builtin "object.__class__")))
    (ei9 : PySem.W.findIn K (.ref C9) "__init__" = some (some (.ref f9)))
    (et9 : PySem.W.typeIn K (.ref f9) = some (.type "function"))
    (ek9 : PySem.W.keepIn K (.ref C9) = true)
    (eh9 : PySem.W.hasDictIn K C9 = true)
    (es9 : PySem.W.ks_superIn K C9 C9 "__init__" = some (some (.builtin "ValueError.__init__")))
    (el9 : K.lookup f9 = some ⟨oc9, od9, .func (PySem.W.ksFn "__init__" qu9 (PySem.ErrX.eA "place" p19 p29 p39) (PySem.ErrX.eB "place" x19 x29 x39 x49 x59 x69 r19 r29 r39 r49) (PySem.ErrX.eS "place") (.ref dT9) .none doc9 pm9 an9 (.ref cda9) ct9 cc9), osl9⟩)
    (eo9 : PySem.W.codeIn K (.ref cda9) qu9 = true)
    (ed9 : K.lookup dT9 = some ⟨tc9, td9, .seq #[.none] tn9, ts9⟩)
    (ep9 : (x39.endLine == x59.line) = true)
    (ec29 : K.lookup cc9 = some ⟨cl9, cld9, .cell (some (.ref C9)), csl9⟩)
    (ecd9 : K.lookup cda9 = some ⟨ccl9, cdd9, .fields vs9, ccs9⟩)
    (ev9 : vs9[2]? = some (.str file9 tf9))
    (ef9 : ((P.main.file : Str) == file9) = true)
    (eg10 : PySem.W.nsIn K mainGlobals "Negative" = some (some (.ref C10)))
    (ec10 : K.lookup C10 = some (excClassObj "Negative" q10 C10 N10 bs10 (.ref Ad :: PySem.HandSPX.veTail) true sn10 sub10 ab10 col10 dd10 k010 k110 k210 k310 k510 "ValueError.__new__"))
    (esa10 : PySem.W.findIn K (.ref C10) "__setattr__" = some (some (.builtin "object.__setattr__")))
    (ega10 : PySem.W.findIn K (.ref C10) "__getattribute__" = some (some (.builtin "BaseException.__getattribute__")))
    (egg10 : PySem.W.findIn K (.ref C10) "__getattr__" = some none)
    (enn10 : PySem.W.findIn K (.ref C10) "place" = some none)
    (ecl10 : PySem.W.findIn K (.ref C10) "__class__" = some (some (.builtin "object.__class__")))
    (ei10 : PySem.W.findIn K (.ref C10) "__init__" = some (some (.ref f10)))
    (et10 : PySem.W.typeIn K (.ref f10) = some (.type "function"))
    (ek10 : PySem.W.keepIn K (.ref C10) = true)
    (eh10 : PySem.W.hasDictIn K C10 = true)
    (es10 : PySem.W.ks_superIn K C10 C10 "__init__" = some (some (.builtin "ValueError.__init__")))
    (el10 : K.lookup f10 = some ⟨oc10, od10, .func (PySem.W.ksFn "__init__" qu10 (PySem.ErrX.eA "place" p110 p210 p310) (PySem.ErrX.eB "place" x110 x210 x310 x410 x510 x610 r110 r210 r310 r410) (PySem.ErrX.eS "place") (.ref dT10) .none doc10 pm10 an10 (.ref cda10) ct10 cc10), osl10⟩)
    (eo10 : PySem.W.codeIn K (.ref cda10) qu10 = true)
    (ed10 : K.lookup dT10 = some ⟨tc10, td10, .seq #[.none] tn10, ts10⟩)
    (ep10 : (x310.endLine == x510.line) = true)
    (ec210 : K.lookup cc10 = some ⟨cl10, cld10, .cell (some (.ref C10)), csl10⟩)
    (ecd10 : K.lookup cda10 = some ⟨ccl10, cdd10, .fields vs10, ccs10⟩)
    (ev10 : vs10[2]? = some (.str file10 tf10))
    (ef10 : ((P.main.file : Str) == file10) = true)
    (eg11 : PySem.W.nsIn K mainGlobals "NegativeCount" = some (some (.ref C11)))
    (ec11 : K.lookup C11 = some (excClassObj "NegativeCount" q11 C11 N11 bs11 (.ref Ad :: PySem.HandSPX.veTail) true sn11 sub11 ab11 col11 dd11 k011 k111 k211 k311 k511 "ValueError.__new__"))
    (esa11 : PySem.W.findIn K (.ref C11) "__setattr__" = some (some (.builtin "object.__setattr__")))
    (ega11 : PySem.W.findIn K (.ref C11) "__getattribute__" = some (some (.builtin "BaseException.__getattribute__")))
    (egg11 : PySem.W.findIn K (.ref C11) "__getattr__" = some none)
    (enn11 : PySem.W.findIn K (.ref C11) "number" = some none)
    (ecl11 : PySem.W.findIn K (.ref C11) "__class__" = some (some (.builtin "object.__class__")))
    (ei11 : PySem.W.findIn K (.ref C11) "__init__" = some (some (.ref f11)))
    (et11 : PySem.W.typeIn K (.ref f11) = some (.type "function"))
    (ek11 : PySem.W.keepIn K (.ref C11) = true)
    (eh11 : PySem.W.hasDictIn K C11 = true)
    (es11 : PySem.W.ks_superIn K C11 C11 "__init__" = some (some (.builtin "ValueError.__init__")))
    (el11 : K.lookup f11 = some ⟨oc11, od11, .func (PySem.W.ksFn "__init__" qu11 (PySem.ErrX.eA "number" p111 p211 p311) (PySem.ErrX.eB "number" x111 x211 x311 x411 x511 x611 r111 r211 r311 r411) (PySem.ErrX.eS "number") (.ref dT11) .none doc11 pm11 an11 (.ref cda11) ct11 cc11), osl11⟩)
    (eo11 : PySem.W.codeIn K (.ref cda11) qu11 = true)
    (ed11 : K.lookup dT11 = some ⟨tc11, td11, .seq #[.none] tn11, ts11⟩)
    (ep11 : (x311.endLine == x511.line) = true)
    (ec211 : K.lookup cc11 = some ⟨cl11, cld11, .cell (some (.ref C11)), csl11⟩)
    (ecd11 : K.lookup cda11 = some ⟨ccl11, cdd11, .fields vs11, ccs11⟩)
    (ev11 : vs11[2]? = some (.str file11 tf11))
    (ef11 : ((P.main.file : Str) == file11) = true)
    (eg12 : PySem.W.nsIn K mainGlobals "InvalidName" = some (some (.ref C12)))
    (ec12 : K.lookup C12 = some (excClassObj "InvalidName" q12 C12 N12 bs12 (.ref Ad :: PySem.HandSPX.veTail) true sn12 sub12 ab12 col12 dd12 k012 k112 k212 k312 k512 "ValueError.__new__"))
    (esa12 : PySem.W.findIn K (.ref C12) "__setattr__" = some (some (.builtin "object.__setattr__")))
    (ega12 : PySem.W.findIn K (.ref C12) "__getattribute__" = some (some (.builtin "BaseException.__getattribute__")))
    (egg12 : PySem.W.findIn K (.ref C12) "__getattr__" = some none)
    (enn12 : PySem.W.findIn K (.ref C12) "name" = some none)
    (ecl12 : PySem.W.findIn K (.ref C12) "__class__" = some (some (.builtin "object.__class__")))
    (ei12 : PySem.W.findIn K (.ref C12) "__init__" = some (some (.ref f12)))
    (et12 : PySem.W.typeIn K (.ref f12) = some (.type "function"))
    (ek12 : PySem.W.keepIn K (.ref C12) = true)
    (eh12 : PySem.W.hasDictIn K C12 = true)
    (es12 : PySem.W.ks_superIn K C12 C12 "__init__" = some (some (.builtin "ValueError.__init__")))
    (el12 : K.lookup f12 = some ⟨oc12, od12, .func (PySem.W.ksFn "__init__" qu12 (PySem.ErrX.eA "name" p112 p212 p312) (PySem.ErrX.eB "name" x112 x212 x312 x412 x512 x612 r112 r212 r312 r412) (PySem.ErrX.eS "name") (.ref dT12) .none doc12 pm12 an12 (.ref cda12) ct12 cc12), osl12⟩)
    (eo12 : PySem.W.codeIn K (.ref cda12) qu12 = true)
    (ed12 : K.lookup dT12 = some ⟨tc12, td12, .seq #[.none] tn12, ts12⟩)
    (ep12 : (x312.endLine == x512.line) = true)
    (ec212 : K.lookup cc12 = some ⟨cl12, cld12, .cell (some (.ref C12)), csl12⟩)
    (ecd12 : K.lookup cda12 = some ⟨ccl12, cdd12, .fields vs12, ccs12⟩)
    (ev12 : vs12[2]? = some (.str file12 tf12))
    (ef12 : ((P.main.file : Str) == file12) = true)
    (eg13 : PySem.W.nsIn K mainGlobals "TakenName" = some (some (.ref C13)))
    (ec13 : K.lookup C13 = some (excClassObj "TakenName" q13 C13 N13 bs13 (.ref Ad :: PySem.HandSPX.veTail) true sn13 sub13 ab13 col13 dd13 k013 k113 k213 k313 k513 "ValueError.__new__"))
    (esa13 : PySem.W.findIn K (.ref C13) "__setattr__" = some (some (.builtin "object.__setattr__")))
    (ega13 : PySem.W.findIn K (.ref C13) "__getattribute__" = some (some (.builtin "BaseException.__getattribute__")))
    (egg13 : PySem.W.findIn K (.ref C13) "__getattr__" = some none)
    (enn13 : PySem.W.findIn K (.ref C13) "name" = some none)
    (ecl13 : PySem.W.findIn K (.ref C13) "__class__" = some (some (.builtin "object.__class__")))
    (ei13 : PySem.W.findIn K (.ref C13) "__init__" = some (some (.ref f13)))
    (et13 : PySem.W.typeIn K (.ref f13) = some (.type "function"))
    (ek13 : PySem.W.keepIn K (.ref C13) = true)
    (eh13 : PySem.W.hasDictIn K C13 = true)
    (es13 : PySem.W.ks_superIn K C13 C13 "__init__" = some (some (.builtin "ValueError.__init__")))
    (el13 : K.lookup f13 = some ⟨oc13, od13, .func (PySem.W.ksFn "__init__" qu13 (PySem.ErrX.eA "name" p113 p213 p313) (PySem.ErrX.eB "name" x113 x213 x313 x413 x513 x613 r113 r213 r313 r413) (PySem.ErrX.eS "name") (.ref dT13) .none doc13 pm13 an13 (.ref cda13) ct13 cc13), osl13⟩)
    (eo13 : PySem.W.codeIn K (.ref cda13) qu13 = true)
    (ed13 : K.lookup dT13 = some ⟨tc13, td13, .seq #[.none] tn13, ts13⟩)
    (ep13 : (x313.endLine == x513.line) = true)
    (ec213 : K.lookup cc13 = some ⟨cl13, cld13, .cell (some (.ref C13)), csl13⟩)
    (ecd13 : K.lookup cda13 = some ⟨ccl13, cdd13, .fields vs13, ccs13⟩)
    (ev13 : vs13[2]? = some (.str file13 tf13))
    (ef13 : ((P.main.file : Str) == file13) = true)
    (eg14 : PySem.W.nsIn K mainGlobals "UnknownName" = some (some (.ref C14)))
    (ec14 : K.lookup C14 = some (excClassObj "UnknownName" q14 C14 N14 bs14 (.ref Ad :: PySem.HandSPX.veTail) true sn14 sub14 ab14 col14 dd14 k014 k114 k214 k314 k514 "ValueError.__new__"))
    (esa14 : PySem.W.findIn K (.ref C14) "__setattr__" = some (some (.builtin "object.__setattr__")))
    (ega14 : PySem.W.findIn K (.ref C14) "__getattribute__" = some (some (.builtin "BaseException.__getattribute__")))
    (egg14 : PySem.W.findIn K (.ref C14) "__getattr__" = some none)
    (enn14 : PySem.W.findIn K (.ref C14) "name" = some none)
    (ecl14 : PySem.W.findIn K (.ref C14) "__class__" = some (some (.builtin "object.__class__")))
    (ei14 : PySem.W.findIn K (.ref C14) "__init__" = some (some (.ref f14)))
    (et14 : PySem.W.typeIn K (.ref f14) = some (.type "function"))
    (ek14 : PySem.W.keepIn K (.ref C14) = true)
    (eh14 : PySem.W.hasDictIn K C14 = true)
    (es14 : PySem.W.ks_superIn K C14 C14 "__init__" = some (some (.builtin "ValueError.__init__")))
    (el14 : K.lookup f14 = some ⟨oc14, od14, .func (PySem.W.ksFn "__init__" qu14 (PySem.ErrX.eA "name" p114 p214 p314) (PySem.ErrX.eB "name" x114 x214 x314 x414 x514 x614 r114 r214 r314 r414) (PySem.ErrX.eS "name") (.ref dT14) .none doc14 pm14 an14 (.ref cda14) ct14 cc14), osl14⟩)
    (eo14 : PySem.W.codeIn K (.ref cda14) qu14 = true)
    (ed14 : K.lookup dT14 = some ⟨tc14, td14, .seq #[.none] tn14, ts14⟩)
    (ep14 : (x314.endLine == x514.line) = true)
    (ec214 : K.lookup cc14 = some ⟨cl14, cld14, .cell (some (.ref C14)), csl14⟩)
    (ecd14 : K.lookup cda14 = some ⟨ccl14, cdd14, .fields vs14, ccs14⟩)
    (ev14 : vs14[2]? = some (.str file14 tf14))
    (ef14 : ((P.main.file : Str) == file14) = true)
    (g00 : PySem.W.nsIn K mainGlobals "NothingToUndo" = some (some (.ref C00)))
    (x00 : PySem.W.excIn K C00 PySem.HandSPX.veTail "ValueError.__new__" = true)
    (k00 : PySem.W.keepIn K (.ref C00) = true)
    (f001 : (PySem.W.clsIn K C00).isSome = true)
    (f002 : PySem.W.findIn K (.ref C00) "__getattribute__" = some (some (.builtin "BaseException.__getattribute__")))
    (f003 : PySem.W.findIn K (.ref C00) "__getattr__" = some none)
    (f004 : PySem.W.subIn K (.ref C00) (.type "BaseException") = some true)
    (f005 : PySem.W.findIn K (.ref C00) "__class__" = some (some (.builtin "object.__class__")))
    (f006 : PySem.W.mroIn K C00 (.type "object") = some true)
    (kA00 : PySem.W.kitOne K (.ref C00) (.ref Ad) = some true)
    (kV00 : PySem.W.kitOne K (.ref C00) (.type "ValueError") = some true)
    (ka000 : PySem.W.kitOne K (.ref C00) (.ref C0) = some false)
    (kb000 : PySem.W.kitOne K (.ref C0) (.ref C00) = some false)
    (kc000 : PySem.W.kitOne K (.ref C0) (.type "ValueError") = some true)
    (ka001 : PySem.W.kitOne K (.ref C00) (.ref C1) = some false)
    (kb001 : PySem.W.kitOne K (.ref C1) (.ref C00) = some false)
    (kc001 : PySem.W.kitOne K (.ref C1) (.type "ValueError") = some true)
    (ka002 : PySem.W.kitOne K (.ref C00) (.ref C2) = some false)
    (kb002 : PySem.W.kitOne K (.ref C2) (.ref C00) = some false)
    (kc002 : PySem.W.kitOne K (.ref C2) (.type "ValueError") = some true)
    (ka003 : PySem.W.kitOne K (.ref C00) (.ref C3) = some false)
    (kb003 : PySem.W.kitOne K (.ref C3) (.ref C00) = some false)
    (kc003 : PySem.W.kitOne K (.ref C3) (.type "ValueError") = some true)
    (ka004 : PySem.W.kitOne K (.ref C00) (.ref C4) = some false)
    (kb004 : PySem.W.kitOne K (.ref C4) (.ref C00) = some false)
    (kc004 : PySem.W.kitOne K (.ref C4) (.type "ValueError") = some true)
    (ka005 : PySem.W.kitOne K (.ref C00) (.ref C5) = some false)
    (kb005 : PySem.W.kitOne K (.ref C5) (.ref C00) = some false)
    (kc005 : PySem.W.kitOne K (.ref C5) (.type "ValueError") = some true)
    (ka006 : PySem.W.kitOne K (.ref C00) (.ref C6) = some false)
    (kb006 : PySem.W.kitOne K (.ref C6) (.ref C00) = some false)
    (kc006 : PySem.W.kitOne K (.ref C6) (.type "ValueError") = some true)
    (ka007 : PySem.W.kitOne K (.ref C00) (.ref C7) = some false)
    (kb007 : PySem.W.kitOne K (.ref C7) (.ref C00) = some false)
    (kc007 : PySem.W.kitOne K (.ref C7) (.type "ValueError") = some true)
    (ka008 : PySem.W.kitOne K (.ref C00) (.ref C8) = some false)
    (kb008 : PySem.W.kitOne K (.ref C8) (.ref C00) = some false)
    (kc008 : PySem.W.kitOne K (.ref C8) (.type "ValueError") = some true)
    (ka009 : PySem.W.kitOne K (.ref C00) (.ref C9) = some false)
    (kb009 : PySem.W.kitOne K (.ref C9) (.ref C00) = some false)
    (kc009 : PySem.W.kitOne K (.ref C9) (.type "ValueError") = some true)
    (ka0010 : PySem.W.kitOne K (.ref C00) (.ref C10) = some false)
    (kb0010 : PySem.W.kitOne K (.ref C10) (.ref C00) = some false)
    (kc0010 : PySem.W.kitOne K (.ref C10) (.type "ValueError") = some true)
    (ka0011 : PySem.W.kitOne K (.ref C00) (.ref C11) = some false)
    (kb0011 : PySem.W.kitOne K (.ref C11) (.ref C00) = some false)
    (kc0011 : PySem.W.kitOne K (.ref C11) (.type "ValueError") = some true)
    (ka0012 : PySem.W.kitOne K (.ref C00) (.ref C12) = some false)
    (kb0012 : PySem.W.kitOne K (.ref C12) (.ref C00) = some false)
    (kc0012 : PySem.W.kitOne K (.ref C12) (.type "ValueError") = some true)
    (ka0013 : PySem.W.kitOne K (.ref C00) (.ref C13) = some false)
    (kb0013 : PySem.W.kitOne K (.ref C13) (.ref C00) = some false)
    (kc0013 : PySem.W.kitOne K (.ref C13) (.type "ValueError") = some true)
    (ka0014 : PySem.W.kitOne K (.ref C00) (.ref C14) = some false)
    (kb0014 : PySem.W.kitOne K (.ref C14) (.ref C00) = some false)
    (kc0014 : PySem.W.kitOne K (.ref C14) (.type "ValueError") = some true)
    (gD0 : PySem.W.nsIn K mainGlobals "_law_mixed" = some (some (.ref aD0)))
    (lD0 : K.lookup aD0 = some ⟨ocD0, odD0, .func (PySem.W.fnOf "_law_mixed" "_law_mixed" (defArgs s__law_mixed) (defBody s__law_mixed) (defScope s__law_mixed) .none kVD0 dcD0 pmD0 anD0 cdD0 ctD0), slD0⟩)
    (cD0 : PySem.W.codeIn K cdD0 "_law_mixed" = true)
    (kD0 : PySem.W.keepIn K (.ref aD0) = true)
    (gD1 : PySem.W.nsIn K mainGlobals "_law_purse" = some (some (.ref aD1)))
    (lD1 : K.lookup aD1 = some ⟨ocD1, odD1, .func (PySem.W.fnOf "_law_purse" "_law_purse" (defArgs s__law_purse) (defBody s__law_purse) (defScope s__law_purse) .none kVD1 dcD1 pmD1 anD1 cdD1 ctD1), slD1⟩)
    (cD1 : PySem.W.codeIn K cdD1 "_law_purse" = true)
    (kD1 : PySem.W.keepIn K (.ref aD1) = true)
    (gD2 : PySem.W.nsIn K mainGlobals "_law_draw" = some (some (.ref aD2)))
    (lD2 : K.lookup aD2 = some ⟨ocD2, odD2, .func (PySem.W.fnOf "_law_draw" "_law_draw" (defArgs s__law_draw) (defBody s__law_draw) (defScope s__law_draw) .none kVD2 dcD2 pmD2 anD2 cdD2 ctD2), slD2⟩)
    (cD2 : PySem.W.codeIn K cdD2 "_law_draw" = true)
    (kD2 : PySem.W.keepIn K (.ref aD2) = true)
    (gD3 : PySem.W.nsIn K mainGlobals "_law_kinds" = some (some (.ref aD3)))
    (lD3 : K.lookup aD3 = some ⟨ocD3, odD3, .func (PySem.W.fnOf "_law_kinds" "_law_kinds" (defArgs s__law_kinds) (defBody s__law_kinds) (defScope s__law_kinds) .none kVD3 dcD3 pmD3 anD3 cdD3 ctD3), slD3⟩)
    (cD3 : PySem.W.codeIn K cdD3 "_law_kinds" = true)
    (kD3 : PySem.W.keepIn K (.ref aD3) = true)
    (gD4 : PySem.W.nsIn K mainGlobals "_law_fields" = some (some (.ref aD4)))
    (lD4 : K.lookup aD4 = some ⟨ocD4, odD4, .func (PySem.W.fnOf "_law_fields" "_law_fields" (defArgs s__law_fields) (defBody s__law_fields) (defScope s__law_fields) .none kVD4 dcD4 pmD4 anD4 cdD4 ctD4), slD4⟩)
    (cD4 : PySem.W.codeIn K cdD4 "_law_fields" = true)
    (kD4 : PySem.W.keepIn K (.ref aD4) = true)
    (gD5 : PySem.W.nsIn K mainGlobals "_law_right" = some (some (.ref aD5)))
    (lD5 : K.lookup aD5 = some ⟨ocD5, odD5, .func (PySem.W.fnOf "_law_right" "_law_right" (defArgs s__law_right) (defBody s__law_right) (defScope s__law_right) .none kVD5 dcD5 pmD5 anD5 cdD5 ctD5), slD5⟩)
    (cD5 : PySem.W.codeIn K cdD5 "_law_right" = true)
    (kD5 : PySem.W.keepIn K (.ref aD5) = true)
    (gD6 : PySem.W.nsIn K mainGlobals "_law_placed" = some (some (.ref aD6)))
    (lD6 : K.lookup aD6 = some ⟨ocD6, odD6, .func (PySem.W.fnOf "_law_placed" "_law_placed" (defArgs s__law_placed) (defBody s__law_placed) (defScope s__law_placed) .none kVD6 dcD6 pmD6 anD6 cdD6 ctD6), slD6⟩)
    (cD6 : PySem.W.codeIn K cdD6 "_law_placed" = true)
    (kD6 : PySem.W.keepIn K (.ref aD6) = true)
    (gD7 : PySem.W.nsIn K mainGlobals "_law_named" = some (some (.ref aD7)))
    (lD7 : K.lookup aD7 = some ⟨ocD7, odD7, .func (PySem.W.fnOf "_law_named" "_law_named" (defArgs s__law_named) (defBody s__law_named) (defScope s__law_named) .none kVD7 dcD7 pmD7 anD7 cdD7 ctD7), slD7⟩)
    (cD7 : PySem.W.codeIn K cdD7 "_law_named" = true)
    (kD7 : PySem.W.keepIn K (.ref aD7) = true)
    (gD8 : PySem.W.nsIn K mainGlobals "_law_bare" = some (some (.ref aD8)))
    (lD8 : K.lookup aD8 = some ⟨ocD8, odD8, .func (PySem.W.fnOf "_law_bare" "_law_bare" (defArgs s__law_bare) (defBody s__law_bare) (defScope s__law_bare) .none kVD8 dcD8 pmD8 anD8 cdD8 ctD8), slD8⟩)
    (cD8 : PySem.W.codeIn K cdD8 "_law_bare" = true)
    (kD8 : PySem.W.keepIn K (.ref aD8) = true)
    (gD9 : PySem.W.nsIn K mainGlobals "law" = some (some (.ref aD9)))
    (lD9 : K.lookup aD9 = some ⟨ocD9, odD9, .func (PySem.W.fnOf "law" "law" (defArgs s_law) (defBody s_law) (defScope s_law) .none kVD9 dcD9 pmD9 anD9 cdD9 ctD9), slD9⟩)
    (cD9 : PySem.W.codeIn K cdD9 "law" = true)
    (kD9 : PySem.W.keepIn K (.ref aD9) = true)
    : ∃ fd : FuncData, (∀ (s : Shared) (u : Value), BindsTo s fd ⟨[u], []⟩ [("_law_script", u)]) ∧ ∀ base : Heap, K.In base → base.Ns mainGlobals mg → (∃ mm, base.Ns sysModules mm) → FnA P w K mg base 3 fa fd ["_law_script"] (spP ⟨K, mg⟩ run_law) := by
  have e := hfa.symm.trans (PySem.W.mg_of X G gD9)
  cases e
  have T0 : PySem.ErrX.ErrTxt P K mg Ad "InvalidNumber" "value" C0 f0 := { fld := PySem.ErrX.fld_value, bnd := PySem.ErrX.bnd_value, gC := PySem.W.mg_of X G eg0, cls := ⟨_, _, _, _, _, _, _, _, _, _, _, _, _, ec0⟩, sa := esa0, ga := ega0, gg := egg0, noN := enn0, iC := ei0, tC := et0, kC := ek0, hdC := eh0, clC := ecl0, sup := es0, opq := opq, gS := PySem.W.mg_none_of X G nsup, topS := tsup, fn := ⟨_, _, _, _, _, _, _, _, _, _, _, _, _, _, _, _, _, _, _, _, _, _, _, _, el0, eo0, ⟨_, _, _, _, ed0⟩, ep0, ⟨_, _, _, ec20⟩, _, _, _, _, _, _, ecd0, ev0, ef0⟩ }
  have T1 : PySem.ErrX.ErrTxt P K mg Ad "InvalidCell" "value" C1 f1 := { fld := PySem.ErrX.fld_value, bnd := PySem.ErrX.bnd_value, gC := PySem.W.mg_of X G eg1, cls := ⟨_, _, _, _, _, _, _, _, _, _, _, _, _, ec1⟩, sa := esa1, ga := ega1, gg := egg1, noN := enn1, iC := ei1, tC := et1, kC := ek1, hdC := eh1, clC := ecl1, sup := es1, opq := opq, gS := PySem.W.mg_none_of X G nsup, topS := tsup, fn := ⟨_, _, _, _, _, _, _, _, _, _, _, _, _, _, _, _, _, _, _, _, _, _, _, _, el1, eo1, ⟨_, _, _, _, ed1⟩, ep1, ⟨_, _, _, ec21⟩, _, _, _, _, _, _, ecd1, ev1, ef1⟩ }
  have T2 : PySem.ErrX.ErrTxt P K mg Ad "InvalidNest" "value" C2 f2 := { fld := PySem.ErrX.fld_value, bnd := PySem.ErrX.bnd_value, gC := PySem.W.mg_of X G eg2, cls := ⟨_, _, _, _, _, _, _, _, _, _, _, _, _, ec2⟩, sa := esa2, ga := ega2, gg := egg2, noN := enn2, iC := ei2, tC := et2, kC := ek2, hdC := eh2, clC := ecl2, sup := es2, opq := opq, gS := PySem.W.mg_none_of X G nsup, topS := tsup, fn := ⟨_, _, _, _, _, _, _, _, _, _, _, _, _, _, _, _, _, _, _, _, _, _, _, _, el2, eo2, ⟨_, _, _, _, ed2⟩, ep2, ⟨_, _, _, ec22⟩, _, _, _, _, _, _, ecd2, ev2, ef2⟩ }
  have T3 : PySem.ErrX.ErrTxt P K mg Ad "InvalidProgram" "value" C3 f3 := { fld := PySem.ErrX.fld_value, bnd := PySem.ErrX.bnd_value, gC := PySem.W.mg_of X G eg3, cls := ⟨_, _, _, _, _, _, _, _, _, _, _, _, _, ec3⟩, sa := esa3, ga := ega3, gg := egg3, noN := enn3, iC := ei3, tC := et3, kC := ek3, hdC := eh3, clC := ecl3, sup := es3, opq := opq, gS := PySem.W.mg_none_of X G nsup, topS := tsup, fn := ⟨_, _, _, _, _, _, _, _, _, _, _, _, _, _, _, _, _, _, _, _, _, _, _, _, el3, eo3, ⟨_, _, _, _, ed3⟩, ep3, ⟨_, _, _, ec23⟩, _, _, _, _, _, _, ecd3, ev3, ef3⟩ }
  have T4 : PySem.ErrX.ErrTxt P K mg Ad "InvalidOrder" "value" C4 f4 := { fld := PySem.ErrX.fld_value, bnd := PySem.ErrX.bnd_value, gC := PySem.W.mg_of X G eg4, cls := ⟨_, _, _, _, _, _, _, _, _, _, _, _, _, ec4⟩, sa := esa4, ga := ega4, gg := egg4, noN := enn4, iC := ei4, tC := et4, kC := ek4, hdC := eh4, clC := ecl4, sup := es4, opq := opq, gS := PySem.W.mg_none_of X G nsup, topS := tsup, fn := ⟨_, _, _, _, _, _, _, _, _, _, _, _, _, _, _, _, _, _, _, _, _, _, _, _, el4, eo4, ⟨_, _, _, _, ed4⟩, ep4, ⟨_, _, _, ec24⟩, _, _, _, _, _, _, ecd4, ev4, ef4⟩ }
  have T5 : PySem.ErrX.ErrTxt P K mg Ad "InvalidList" "value" C5 f5 := { fld := PySem.ErrX.fld_value, bnd := PySem.ErrX.bnd_value, gC := PySem.W.mg_of X G eg5, cls := ⟨_, _, _, _, _, _, _, _, _, _, _, _, _, ec5⟩, sa := esa5, ga := ega5, gg := egg5, noN := enn5, iC := ei5, tC := et5, kC := ek5, hdC := eh5, clC := ecl5, sup := es5, opq := opq, gS := PySem.W.mg_none_of X G nsup, topS := tsup, fn := ⟨_, _, _, _, _, _, _, _, _, _, _, _, _, _, _, _, _, _, _, _, _, _, _, _, el5, eo5, ⟨_, _, _, _, ed5⟩, ep5, ⟨_, _, _, ec25⟩, _, _, _, _, _, _, ecd5, ev5, ef5⟩ }
  have T6 : PySem.ErrX.ErrTxt P K mg Ad "InvalidText" "value" C6 f6 := { fld := PySem.ErrX.fld_value, bnd := PySem.ErrX.bnd_value, gC := PySem.W.mg_of X G eg6, cls := ⟨_, _, _, _, _, _, _, _, _, _, _, _, _, ec6⟩, sa := esa6, ga := ega6, gg := egg6, noN := enn6, iC := ei6, tC := et6, kC := ek6, hdC := eh6, clC := ecl6, sup := es6, opq := opq, gS := PySem.W.mg_none_of X G nsup, topS := tsup, fn := ⟨_, _, _, _, _, _, _, _, _, _, _, _, _, _, _, _, _, _, _, _, _, _, _, _, el6, eo6, ⟨_, _, _, _, ed6⟩, ep6, ⟨_, _, _, ec26⟩, _, _, _, _, _, _, ecd6, ev6, ef6⟩ }
  have T7 : PySem.ErrX.ErrTxt P K mg Ad "InvalidFamily" "value" C7 f7 := { fld := PySem.ErrX.fld_value, bnd := PySem.ErrX.bnd_value, gC := PySem.W.mg_of X G eg7, cls := ⟨_, _, _, _, _, _, _, _, _, _, _, _, _, ec7⟩, sa := esa7, ga := ega7, gg := egg7, noN := enn7, iC := ei7, tC := et7, kC := ek7, hdC := eh7, clC := ecl7, sup := es7, opq := opq, gS := PySem.W.mg_none_of X G nsup, topS := tsup, fn := ⟨_, _, _, _, _, _, _, _, _, _, _, _, _, _, _, _, _, _, _, _, _, _, _, _, el7, eo7, ⟨_, _, _, _, ed7⟩, ep7, ⟨_, _, _, ec27⟩, _, _, _, _, _, _, ecd7, ev7, ef7⟩ }
  have T8 : PySem.ErrX.ErrTxt P K mg Ad "UnlikeAxes" "axes" C8 f8 := { fld := PySem.ErrX.fld_axes, bnd := PySem.ErrX.bnd_axes, gC := PySem.W.mg_of X G eg8, cls := ⟨_, _, _, _, _, _, _, _, _, _, _, _, _, ec8⟩, sa := esa8, ga := ega8, gg := egg8, noN := enn8, iC := ei8, tC := et8, kC := ek8, hdC := eh8, clC := ecl8, sup := es8, opq := opq, gS := PySem.W.mg_none_of X G nsup, topS := tsup, fn := ⟨_, _, _, _, _, _, _, _, _, _, _, _, _, _, _, _, _, _, _, _, _, _, _, _, el8, eo8, ⟨_, _, _, _, ed8⟩, ep8, ⟨_, _, _, ec28⟩, _, _, _, _, _, _, ecd8, ev8, ef8⟩ }
  have T9 : PySem.ErrX.ErrTxt P K mg Ad "NotStraight" "place" C9 f9 := { fld := PySem.ErrX.fld_place, bnd := PySem.ErrX.bnd_place, gC := PySem.W.mg_of X G eg9, cls := ⟨_, _, _, _, _, _, _, _, _, _, _, _, _, ec9⟩, sa := esa9, ga := ega9, gg := egg9, noN := enn9, iC := ei9, tC := et9, kC := ek9, hdC := eh9, clC := ecl9, sup := es9, opq := opq, gS := PySem.W.mg_none_of X G nsup, topS := tsup, fn := ⟨_, _, _, _, _, _, _, _, _, _, _, _, _, _, _, _, _, _, _, _, _, _, _, _, el9, eo9, ⟨_, _, _, _, ed9⟩, ep9, ⟨_, _, _, ec29⟩, _, _, _, _, _, _, ecd9, ev9, ef9⟩ }
  have T10 : PySem.ErrX.ErrTxt P K mg Ad "Negative" "place" C10 f10 := { fld := PySem.ErrX.fld_place, bnd := PySem.ErrX.bnd_place, gC := PySem.W.mg_of X G eg10, cls := ⟨_, _, _, _, _, _, _, _, _, _, _, _, _, ec10⟩, sa := esa10, ga := ega10, gg := egg10, noN := enn10, iC := ei10, tC := et10, kC := ek10, hdC := eh10, clC := ecl10, sup := es10, opq := opq, gS := PySem.W.mg_none_of X G nsup, topS := tsup, fn := ⟨_, _, _, _, _, _, _, _, _, _, _, _, _, _, _, _, _, _, _, _, _, _, _, _, el10, eo10, ⟨_, _, _, _, ed10⟩, ep10, ⟨_, _, _, ec210⟩, _, _, _, _, _, _, ecd10, ev10, ef10⟩ }
  have T11 : PySem.ErrX.ErrTxt P K mg Ad "NegativeCount" "number" C11 f11 := { fld := PySem.ErrX.fld_number, bnd := PySem.ErrX.bnd_number, gC := PySem.W.mg_of X G eg11, cls := ⟨_, _, _, _, _, _, _, _, _, _, _, _, _, ec11⟩, sa := esa11, ga := ega11, gg := egg11, noN := enn11, iC := ei11, tC := et11, kC := ek11, hdC := eh11, clC := ecl11, sup := es11, opq := opq, gS := PySem.W.mg_none_of X G nsup, topS := tsup, fn := ⟨_, _, _, _, _, _, _, _, _, _, _, _, _, _, _, _, _, _, _, _, _, _, _, _, el11, eo11, ⟨_, _, _, _, ed11⟩, ep11, ⟨_, _, _, ec211⟩, _, _, _, _, _, _, ecd11, ev11, ef11⟩ }
  have T12 : PySem.ErrX.ErrTxt P K mg Ad "InvalidName" "name" C12 f12 := { fld := PySem.ErrX.fld_name, bnd := PySem.ErrX.bnd_name, gC := PySem.W.mg_of X G eg12, cls := ⟨_, _, _, _, _, _, _, _, _, _, _, _, _, ec12⟩, sa := esa12, ga := ega12, gg := egg12, noN := enn12, iC := ei12, tC := et12, kC := ek12, hdC := eh12, clC := ecl12, sup := es12, opq := opq, gS := PySem.W.mg_none_of X G nsup, topS := tsup, fn := ⟨_, _, _, _, _, _, _, _, _, _, _, _, _, _, _, _, _, _, _, _, _, _, _, _, el12, eo12, ⟨_, _, _, _, ed12⟩, ep12, ⟨_, _, _, ec212⟩, _, _, _, _, _, _, ecd12, ev12, ef12⟩ }
  have T13 : PySem.ErrX.ErrTxt P K mg Ad "TakenName" "name" C13 f13 := { fld := PySem.ErrX.fld_name, bnd := PySem.ErrX.bnd_name, gC := PySem.W.mg_of X G eg13, cls := ⟨_, _, _, _, _, _, _, _, _, _, _, _, _, ec13⟩, sa := esa13, ga := ega13, gg := egg13, noN := enn13, iC := ei13, tC := et13, kC := ek13, hdC := eh13, clC := ecl13, sup := es13, opq := opq, gS := PySem.W.mg_none_of X G nsup, topS := tsup, fn := ⟨_, _, _, _, _, _, _, _, _, _, _, _, _, _, _, _, _, _, _, _, _, _, _, _, el13, eo13, ⟨_, _, _, _, ed13⟩, ep13, ⟨_, _, _, ec213⟩, _, _, _, _, _, _, ecd13, ev13, ef13⟩ }
  have T14 : PySem.ErrX.ErrTxt P K mg Ad "UnknownName" "name" C14 f14 := { fld := PySem.ErrX.fld_name, bnd := PySem.ErrX.bnd_name, gC := PySem.W.mg_of X G eg14, cls := ⟨_, _, _, _, _, _, _, _, _, _, _, _, _, ec14⟩, sa := esa14, ga := ega14, gg := egg14, noN := enn14, iC := ei14, tC := et14, kC := ek14, hdC := eh14, clC := ecl14, sup := es14, opq := opq, gS := PySem.W.mg_none_of X G nsup, topS := tsup, fn := ⟨_, _, _, _, _, _, _, _, _, _, _, _, _, _, _, _, _, _, _, _, _, _, _, _, el14, eo14, ⟨_, _, _, _, ed14⟩, ep14, ⟨_, _, _, ec214⟩, _, _, _, _, _, _, ecd14, ev14, ef14⟩ }
  have E1 : ∀ c v, (c, v) ∈ errL → ∃ C fI, PySem.ErrX.ErrTxt P K mg Ad c v C fI := by
    intro c v hc
    simp only [errL, List.mem_cons, List.not_mem_nil, or_false, Prod.mk.injEq] at hc
    rcases hc with ⟨rfl, rfl⟩ | ⟨rfl, rfl⟩ | ⟨rfl, rfl⟩ | ⟨rfl, rfl⟩ | ⟨rfl, rfl⟩ | ⟨rfl, rfl⟩ | ⟨rfl, rfl⟩ | ⟨rfl, rfl⟩ | ⟨rfl, rfl⟩ | ⟨rfl, rfl⟩ | ⟨rfl, rfl⟩ | ⟨rfl, rfl⟩ | ⟨rfl, rfl⟩ | ⟨rfl, rfl⟩ | ⟨rfl, rfl⟩
    · exact ⟨_, _, T0⟩
    · exact ⟨_, _, T1⟩
    · exact ⟨_, _, T2⟩
    · exact ⟨_, _, T3⟩
    · exact ⟨_, _, T4⟩
    · exact ⟨_, _, T5⟩
    · exact ⟨_, _, T6⟩
    · exact ⟨_, _, T7⟩
    · exact ⟨_, _, T8⟩
    · exact ⟨_, _, T9⟩
    · exact ⟨_, _, T10⟩
    · exact ⟨_, _, T11⟩
    · exact ⟨_, _, T12⟩
    · exact ⟨_, _, T13⟩
    · exact ⟨_, _, T14⟩
  have E2 : ∀ v, (("AddError" : Str), v) ∉ errL := by
    intro v hv
    simp only [errL, List.mem_cons, List.not_mem_nil, or_false, Prod.mk.injEq] at hv
    rcases hv with ⟨h, _⟩ | ⟨h, _⟩ | ⟨h, _⟩ | ⟨h, _⟩ | ⟨h, _⟩ | ⟨h, _⟩ | ⟨h, _⟩ | ⟨h, _⟩ | ⟨h, _⟩ | ⟨h, _⟩ | ⟨h, _⟩ | ⟨h, _⟩ | ⟨h, _⟩ | ⟨h, _⟩ | ⟨h, _⟩ <;> exact absurd h (by decide)
  have NO : Err0 K mg Ad errL "NothingToUndo" := ⟨C00, PySem.W.mg_of X G g00, x00, k00, ⟨f001, f002, f003, f004, f005, f006⟩, kA00, kV00, fun n Cn hn g => by
    have hn := List.contains_iff_mem.mp hn
    simp only [errL, List.map_cons, List.map_nil, List.mem_cons, List.not_mem_nil, or_false] at hn
    rcases hn with rfl | rfl | rfl | rfl | rfl | rfl | rfl | rfl | rfl | rfl | rfl | rfl | rfl | rfl | rfl
    · have z := (PySem.W.mg_of X G eg0).symm.trans g; cases z; exact ⟨ka000, kb000, kc000⟩
    · have z := (PySem.W.mg_of X G eg1).symm.trans g; cases z; exact ⟨ka001, kb001, kc001⟩
    · have z := (PySem.W.mg_of X G eg2).symm.trans g; cases z; exact ⟨ka002, kb002, kc002⟩
    · have z := (PySem.W.mg_of X G eg3).symm.trans g; cases z; exact ⟨ka003, kb003, kc003⟩
    · have z := (PySem.W.mg_of X G eg4).symm.trans g; cases z; exact ⟨ka004, kb004, kc004⟩
    · have z := (PySem.W.mg_of X G eg5).symm.trans g; cases z; exact ⟨ka005, kb005, kc005⟩
    · have z := (PySem.W.mg_of X G eg6).symm.trans g; cases z; exact ⟨ka006, kb006, kc006⟩
    · have z := (PySem.W.mg_of X G eg7).symm.trans g; cases z; exact ⟨ka007, kb007, kc007⟩
    · have z := (PySem.W.mg_of X G eg8).symm.trans g; cases z; exact ⟨ka008, kb008, kc008⟩
    · have z := (PySem.W.mg_of X G eg9).symm.trans g; cases z; exact ⟨ka009, kb009, kc009⟩
    · have z := (PySem.W.mg_of X G eg10).symm.trans g; cases z; exact ⟨ka0010, kb0010, kc0010⟩
    · have z := (PySem.W.mg_of X G eg11).symm.trans g; cases z; exact ⟨ka0011, kb0011, kc0011⟩
    · have z := (PySem.W.mg_of X G eg12).symm.trans g; cases z; exact ⟨ka0012, kb0012, kc0012⟩
    · have z := (PySem.W.mg_of X G eg13).symm.trans g; cases z; exact ⟨ka0013, kb0013, kc0013⟩
    · have z := (PySem.W.mg_of X G eg14).symm.trans g; cases z; exact ⟨ka0014, kb0014, kc0014⟩
    ⟩
  have E : Errs P K mg Ad errL := ⟨PySem.W.mg_of X G aA, ⟨_, _, _, lA, nmA⟩, exA, E2, E1⟩
  have T : Txt P K mg Ad := ⟨PySem.W.mg_none_of X G n_ValueError, PySem.W.mg_none_of X G n_isinstance, PySem.W.mg_none_of X G n_list, PySem.W.mg_none_of X G n_max, PySem.W.mg_none_of X G n_range, PySem.W.mg_none_of X G n_repr, PySem.W.mg_none_of X G n_sum, E, NO⟩
  have FD0 := funV_mk (st := s__law_mixed) lD0 cD0 kD0
  have bD0 : Bnds K _ ["_law_cell", "_law_k"] [] := bnds0 (fd := PySem.W.fnOf "_law_mixed" "_law_mixed" (defArgs s__law_mixed) (defBody s__law_mixed) (defScope s__law_mixed) .none kVD0 dcD0 pmD0 anD0 cdD0 ctD0) fun us hl => match us, hl with | [_, _], _ => rfl
  have FD1 := funV_mk (st := s__law_purse) lD1 cD1 kD1
  have bD1 : Bnds K _ ["_law_script", "_law_at"] [] := bnds0 (fd := PySem.W.fnOf "_law_purse" "_law_purse" (defArgs s__law_purse) (defBody s__law_purse) (defScope s__law_purse) .none kVD1 dcD1 pmD1 anD1 cdD1 ctD1) fun us hl => match us, hl with | [_, _], _ => rfl
  have FD2 := funV_mk (st := s__law_draw) lD2 cD2 kD2
  have bD2 : Bnds K _ ["_law_purse_here", "_law_out_of"] [] := bnds0 (fd := PySem.W.fnOf "_law_draw" "_law_draw" (defArgs s__law_draw) (defBody s__law_draw) (defScope s__law_draw) .none kVD2 dcD2 pmD2 anD2 cdD2 ctD2) fun us hl => match us, hl with | [_, _], _ => rfl
  have FD3 := funV_mk (st := s__law_kinds) lD3 cD3 kD3
  have bD3 : Bnds K _ ["_law_error"] [] := bnds0 (fd := PySem.W.fnOf "_law_kinds" "_law_kinds" (defArgs s__law_kinds) (defBody s__law_kinds) (defScope s__law_kinds) .none kVD3 dcD3 pmD3 anD3 cdD3 ctD3) fun us hl => match us, hl with | [_], _ => rfl
  have FD4 := funV_mk (st := s__law_fields) lD4 cD4 kD4
  have bD4 : Bnds K _ ["_law_errors"] [] := bnds0 (fd := PySem.W.fnOf "_law_fields" "_law_fields" (defArgs s__law_fields) (defBody s__law_fields) (defScope s__law_fields) .none kVD4 dcD4 pmD4 anD4 cdD4 ctD4) fun us hl => match us, hl with | [_], _ => rfl
  have FD5 := funV_mk (st := s__law_right) lD5 cD5 kD5
  have bD5 : Bnds K _ ["_law_errors", "_law_due"] [] := bnds0 (fd := PySem.W.fnOf "_law_right" "_law_right" (defArgs s__law_right) (defBody s__law_right) (defScope s__law_right) .none kVD5 dcD5 pmD5 anD5 cdD5 ctD5) fun us hl => match us, hl with | [_, _], _ => rfl
  have FD6 := funV_mk (st := s__law_placed) lD6 cD6 kD6
  have bD6 : Bnds K _ ["_law_odd"] [] := bnds0 (fd := PySem.W.fnOf "_law_placed" "_law_placed" (defArgs s__law_placed) (defBody s__law_placed) (defScope s__law_placed) .none kVD6 dcD6 pmD6 anD6 cdD6 ctD6) fun us hl => match us, hl with | [_], _ => rfl
  have FD7 := funV_mk (st := s__law_named) lD7 cD7 kD7
  have bD7 : Bnds K _ ["_law_odd"] [] := bnds0 (fd := PySem.W.fnOf "_law_named" "_law_named" (defArgs s__law_named) (defBody s__law_named) (defScope s__law_named) .none kVD7 dcD7 pmD7 anD7 cdD7 ctD7) fun us hl => match us, hl with | [_], _ => rfl
  have FD8 := funV_mk (st := s__law_bare) lD8 cD8 kD8
  have bD8 : Bnds K _ [] [] := bnds0 (fd := PySem.W.fnOf "_law_bare" "_law_bare" (defArgs s__law_bare) (defBody s__law_bare) (defScope s__law_bare) .none kVD8 dcD8 pmD8 anD8 cdD8 ctD8) fun us hl => match us, hl with | [], _ => rfl
  have FD9 := funV_mk (st := s_law) lD9 cD9 kD9
  have bD9 : Bnds K _ ["_law_script"] [] := bnds0 (fd := PySem.W.fnOf "law" "law" (defArgs s_law) (defBody s_law) (defScope s_law) .none kVD9 dcD9 pmD9 anD9 cdD9 ctD9) fun us hl => match us, hl with | [_], _ => rfl
  refine ⟨PySem.W.fnOf "law" "law" (defArgs s_law) (defBody s_law) (defScope s_law) .none kVD9 dcD9 pmD9 anD9 cdD9 ctD9, ?bind, ?body⟩
  case body =>
    intro base _ _ hsys
    have c__law_mixed : Cal P w K mg base 1 "_law_mixed" [] run__law_mixed := cal_mk FD0 sc__law_mixed (PySem.W.mg_of X G gD0) bD0 (bd__law_mixed T hsys )
    have c__law_purse : Cal P w K mg base 1 "_law_purse" [] run__law_purse := cal_mk FD1 sc__law_purse (PySem.W.mg_of X G gD1) bD1 (bd__law_purse T hsys )
    have c__law_draw : Cal P w K mg base 2 "_law_draw" [] run__law_draw := cal_mk FD2 sc__law_draw (PySem.W.mg_of X G gD2) bD2 (bd__law_draw T hsys c__law_mixed)
    have c__law_kinds : Cal P w K mg base 1 "_law_kinds" [] run__law_kinds := cal_mk FD3 sc__law_kinds (PySem.W.mg_of X G gD3) bD3 (bd__law_kinds T hsys )
    have c__law_fields : Cal P w K mg base 1 "_law_fields" [] run__law_fields := cal_mk FD4 sc__law_fields (PySem.W.mg_of X G gD4) bD4 (bd__law_fields T hsys )
    have c__law_right : Cal P w K mg base 2 "_law_right" [] run__law_right := cal_mk FD5 sc__law_right (PySem.W.mg_of X G gD5) bD5 (bd__law_right T hsys c__law_fields c__law_kinds)
    have c__law_placed : Cal P w K mg base 1 "_law_placed" [] run__law_placed := cal_mk FD6 sc__law_placed (PySem.W.mg_of X G gD6) bD6 (bd__law_placed T hsys )
    have c__law_named : Cal P w K mg base 1 "_law_named" [] run__law_named := cal_mk FD7 sc__law_named (PySem.W.mg_of X G gD7) bD7 (bd__law_named T hsys )
    have c__law_bare : Cal P w K mg base 1 "_law_bare" [] run__law_bare := cal_mk FD8 sc__law_bare (PySem.W.mg_of X G gD8) bD8 (bd__law_bare T hsys )
    exact fnVP FD9 sc_law (bd_law T hsys c__law_bare c__law_draw c__law_kinds c__law_named c__law_placed c__law_purse c__law_right)
  case bind => exact fun s u => BindsTo.of_eq rfl
theorem law_sp (K : PySem.W.Frag) (mg : Str → Option Value) (H : Hp) (a : Addr) (ns : List Int) (hS : SqL K H a (ns.map V.int)) : spP ⟨K, mg⟩ run_law [.ref a] H (fun v _ => v = .bl true) fun _ _ _ => False := by
  refine ⟨⟨H, []⟩, [.scr ns], [], Same.refl H, ⟨rfl, fun n d a q => by simp at q, .nil⟩, ⟨_, _, rfl, ⟨a, rfl, hS⟩, rfl⟩, ?_⟩
  rw [law_ok ns]
  exact fun x F' H' _ _ br => by
    unfold BRel at br
    rw [if_neg Bool.false_ne_true] at br
    exact br
end K01
open PySem PySem.W PyProof.Rows
set_option maxRecDepth 100000 in
set_option maxHeartbeats 0 in
theorem PySem.Challenge.cw_addnests_k01_errors_holds : PySem.Challenge.rw_addnests_k01_errors.Holds := by
  w_on; o_law; k_head; (case hw => w_witness2)
  k_fill
  refine Tr.walkA (l := PySem.Challenge.rw_addnests_k01_errors) (k := 3) (x := "_law_script") (sp := fun K mg => Tr.spP ⟨K, mg⟩ K01.run_law) rfl (by decide +kernel) rfl ⟨rfl, by decide +kernel, by decide +kernel⟩ (by decide +kernel) (fun w h Y => PySem.W.kIn_of Y) ?F (fun K mg H a ns _ hS => K01.law_sp K mg H a ns hS)
  case F =>
    intro w mg fa h KX G hmg
    refine' K01.all_mk KX G hmg ?n_ValueError ?n_isinstance ?n_list ?n_max ?n_range ?n_repr ?n_sum ?aA ?lA ?nmA ?exA ?opq ?nsup ?tsup ?eg0 ?ec0 ?esa0 ?ega0 ?egg0 ?enn0 ?ecl0 ?ei0 ?et0 ?ek0 ?eh0 ?es0 ?el0 ?eo0 ?ed0 ?ep0 ?ec20 ?ecd0 ?ev0 ?ef0 ?eg1 ?ec1 ?esa1 ?ega1 ?egg1 ?enn1 ?ecl1 ?ei1 ?et1 ?ek1 ?eh1 ?es1 ?el1 ?eo1 ?ed1 ?ep1 ?ec21 ?ecd1 ?ev1 ?ef1 ?eg2 ?ec2 ?esa2 ?ega2 ?egg2 ?enn2 ?ecl2 ?ei2 ?et2 ?ek2 ?eh2 ?es2 ?el2 ?eo2 ?ed2 ?ep2 ?ec22 ?ecd2 ?ev2 ?ef2 ?eg3 ?ec3 ?esa3 ?ega3 ?egg3 ?enn3 ?ecl3 ?ei3 ?et3 ?ek3 ?eh3 ?es3 ?el3 ?eo3 ?ed3 ?ep3 ?ec23 ?ecd3 ?ev3 ?ef3 ?eg4 ?ec4 ?esa4 ?ega4 ?egg4 ?enn4 ?ecl4 ?ei4 ?et4 ?ek4 ?eh4 ?es4 ?el4 ?eo4 ?ed4 ?ep4 ?ec24 ?ecd4 ?ev4 ?ef4 ?eg5 ?ec5 ?esa5 ?ega5 ?egg5 ?enn5 ?ecl5 ?ei5 ?et5 ?ek5 ?eh5 ?es5 ?el5 ?eo5 ?ed5 ?ep5 ?ec25 ?ecd5 ?ev5 ?ef5 ?eg6 ?ec6 ?esa6 ?ega6 ?egg6 ?enn6 ?ecl6 ?ei6 ?et6 ?ek6 ?eh6 ?es6 ?el6 ?eo6 ?ed6 ?ep6 ?ec26 ?ecd6 ?ev6 ?ef6 ?eg7 ?ec7 ?esa7 ?ega7 ?egg7 ?enn7 ?ecl7 ?ei7 ?et7 ?ek7 ?eh7 ?es7 ?el7 ?eo7 ?ed7 ?ep7 ?ec27 ?ecd7 ?ev7 ?ef7 ?eg8 ?ec8 ?esa8 ?ega8 ?egg8 ?enn8 ?ecl8 ?ei8 ?et8 ?ek8 ?eh8 ?es8 ?el8 ?eo8 ?ed8 ?ep8 ?ec28 ?ecd8 ?ev8 ?ef8 ?eg9 ?ec9 ?esa9 ?ega9 ?egg9 ?enn9 ?ecl9 ?ei9 ?et9 ?ek9 ?eh9 ?es9 ?el9 ?eo9 ?ed9 ?ep9 ?ec29 ?ecd9 ?ev9 ?ef9 ?eg10 ?ec10 ?esa10 ?ega10 ?egg10 ?enn10 ?ecl10 ?ei10 ?et10 ?ek10 ?eh10 ?es10 ?el10 ?eo10 ?ed10 ?ep10 ?ec210 ?ecd10 ?ev10 ?ef10 ?eg11 ?ec11 ?esa11 ?ega11 ?egg11 ?enn11 ?ecl11 ?ei11 ?et11 ?ek11 ?eh11 ?es11 ?el11 ?eo11 ?ed11 ?ep11 ?ec211 ?ecd11 ?ev11 ?ef11 ?eg12 ?ec12 ?esa12 ?ega12 ?egg12 ?enn12 ?ecl12 ?ei12 ?et12 ?ek12 ?eh12 ?es12 ?el12 ?eo12 ?ed12 ?ep12 ?ec212 ?ecd12 ?ev12 ?ef12 ?eg13 ?ec13 ?esa13 ?ega13 ?egg13 ?enn13 ?ecl13 ?ei13 ?et13 ?ek13 ?eh13 ?es13 ?el13 ?eo13 ?ed13 ?ep13 ?ec213 ?ecd13 ?ev13 ?ef13 ?eg14 ?ec14 ?esa14 ?ega14 ?egg14 ?enn14 ?ecl14 ?ei14 ?et14 ?ek14 ?eh14 ?es14 ?el14 ?eo14 ?ed14 ?ep14 ?ec214 ?ecd14 ?ev14 ?ef14 ?g00 ?x00 ?k00 ?f001 ?f002 ?f003 ?f004 ?f005 ?f006 ?kA00 ?kV00 ?ka000 ?kb000 ?kc000 ?ka001 ?kb001 ?kc001 ?ka002 ?kb002 ?kc002 ?ka003 ?kb003 ?kc003 ?ka004 ?kb004 ?kc004 ?ka005 ?kb005 ?kc005 ?ka006 ?kb006 ?kc006 ?ka007 ?kb007 ?kc007 ?ka008 ?kb008 ?kc008 ?ka009 ?kb009 ?kc009 ?ka0010 ?kb0010 ?kc0010 ?ka0011 ?kb0011 ?kc0011 ?ka0012 ?kb0012 ?kc0012 ?ka0013 ?kb0013 ?kc0013 ?ka0014 ?kb0014 ?kc0014 ?gD0 ?lD0 ?cD0 ?kD0 ?gD1 ?lD1 ?cD1 ?kD1 ?gD2 ?lD2 ?cD2 ?kD2 ?gD3 ?lD3 ?cD3 ?kD3 ?gD4 ?lD4 ?cD4 ?kD4 ?gD5 ?lD5 ?cD5 ?kD5 ?gD6 ?lD6 ?cD6 ?kD6 ?gD7 ?lD7 ?cD7 ?kD7 ?gD8 ?lD8 ?cD8 ?kD8 ?gD9 ?lD9 ?cD9 ?kD9
    (case n_ValueError => first | k_is | rfl | kernel_rfl | decide +kernel)
    (case n_isinstance => first | k_is | rfl | kernel_rfl | decide +kernel)
    (case n_list => first | k_is | rfl | kernel_rfl | decide +kernel)
    (case n_max => first | k_is | rfl | kernel_rfl | decide +kernel)
    (case n_range => first | k_is | rfl | kernel_rfl | decide +kernel)
    (case n_repr => first | k_is | rfl | kernel_rfl | decide +kernel)
    (case n_sum => first | k_is | rfl | kernel_rfl | decide +kernel)
    (case aA => first | k_is | rfl | kernel_rfl | decide +kernel)
    (case lA => first | k_is | rfl | kernel_rfl | decide +kernel)
    (case nmA => first | k_is | rfl | kernel_rfl | decide +kernel)
    (case exA => first | k_is | rfl | kernel_rfl | decide +kernel)
    (case opq => first | k_is | rfl | kernel_rfl | decide +kernel)
    (case nsup => first | k_is | rfl | kernel_rfl | decide +kernel)
    (case tsup => first | k_is | rfl | kernel_rfl | decide +kernel)
    (case eg0 => first | k_is | rfl | kernel_rfl | decide +kernel)
    (case ec0 => first | k_is | rfl | kernel_rfl | decide +kernel)
    (case esa0 => first | k_is | rfl | kernel_rfl | decide +kernel)
    (case ega0 => first | k_is | rfl | kernel_rfl | decide +kernel)
    (case egg0 => first | k_is | rfl | kernel_rfl | decide +kernel)
    (case enn0 => first | k_is | rfl | kernel_rfl | decide +kernel)
    (case ecl0 => first | k_is | rfl | kernel_rfl | decide +kernel)
    (case ei0 => first | k_is | rfl | kernel_rfl | decide +kernel)
    (case et0 => first | k_is | rfl | kernel_rfl | decide +kernel)
    (case ek0 => first | k_is | rfl | kernel_rfl | decide +kernel)
    (case eh0 => first | k_is | rfl | kernel_rfl | decide +kernel)
    (case es0 => first | k_is | rfl | kernel_rfl | decide +kernel)
    (case el0 => first | k_is | rfl | kernel_rfl | decide +kernel)
    (case eo0 => first | k_is | rfl | kernel_rfl | decide +kernel)
    (case ed0 => first | k_is | rfl | kernel_rfl | decide +kernel)
    (case ep0 => first | k_is | rfl | kernel_rfl | decide +kernel)
    (case ec20 => first | k_is | rfl | kernel_rfl | decide +kernel)
    (case ecd0 => first | k_is | rfl | kernel_rfl | decide +kernel)
    (case ev0 => first | k_is | rfl | kernel_rfl | decide +kernel)
    (case ef0 => first | k_is | rfl | kernel_rfl | decide +kernel)
    (case eg1 => first | k_is | rfl | kernel_rfl | decide +kernel)
    (case ec1 => first | k_is | rfl | kernel_rfl | decide +kernel)
    (case esa1 => first | k_is | rfl | kernel_rfl | decide +kernel)
    (case ega1 => first | k_is | rfl | kernel_rfl | decide +kernel)
    (case egg1 => first | k_is | rfl | kernel_rfl | decide +kernel)
    (case enn1 => first | k_is | rfl | kernel_rfl | decide +kernel)
    (case ecl1 => first | k_is | rfl | kernel_rfl | decide +kernel)
    (case ei1 => first | k_is | rfl | kernel_rfl | decide +kernel)
    (case et1 => first | k_is | rfl | kernel_rfl | decide +kernel)
    (case ek1 => first | k_is | rfl | kernel_rfl | decide +kernel)
    (case eh1 => first | k_is | rfl | kernel_rfl | decide +kernel)
    (case es1 => first | k_is | rfl | kernel_rfl | decide +kernel)
    (case el1 => first | k_is | rfl | kernel_rfl | decide +kernel)
    (case eo1 => first | k_is | rfl | kernel_rfl | decide +kernel)
    (case ed1 => first | k_is | rfl | kernel_rfl | decide +kernel)
    (case ep1 => first | k_is | rfl | kernel_rfl | decide +kernel)
    (case ec21 => first | k_is | rfl | kernel_rfl | decide +kernel)
    (case ecd1 => first | k_is | rfl | kernel_rfl | decide +kernel)
    (case ev1 => first | k_is | rfl | kernel_rfl | decide +kernel)
    (case ef1 => first | k_is | rfl | kernel_rfl | decide +kernel)
    (case eg2 => first | k_is | rfl | kernel_rfl | decide +kernel)
    (case ec2 => first | k_is | rfl | kernel_rfl | decide +kernel)
    (case esa2 => first | k_is | rfl | kernel_rfl | decide +kernel)
    (case ega2 => first | k_is | rfl | kernel_rfl | decide +kernel)
    (case egg2 => first | k_is | rfl | kernel_rfl | decide +kernel)
    (case enn2 => first | k_is | rfl | kernel_rfl | decide +kernel)
    (case ecl2 => first | k_is | rfl | kernel_rfl | decide +kernel)
    (case ei2 => first | k_is | rfl | kernel_rfl | decide +kernel)
    (case et2 => first | k_is | rfl | kernel_rfl | decide +kernel)
    (case ek2 => first | k_is | rfl | kernel_rfl | decide +kernel)
    (case eh2 => first | k_is | rfl | kernel_rfl | decide +kernel)
    (case es2 => first | k_is | rfl | kernel_rfl | decide +kernel)
    (case el2 => first | k_is | rfl | kernel_rfl | decide +kernel)
    (case eo2 => first | k_is | rfl | kernel_rfl | decide +kernel)
    (case ed2 => first | k_is | rfl | kernel_rfl | decide +kernel)
    (case ep2 => first | k_is | rfl | kernel_rfl | decide +kernel)
    (case ec22 => first | k_is | rfl | kernel_rfl | decide +kernel)
    (case ecd2 => first | k_is | rfl | kernel_rfl | decide +kernel)
    (case ev2 => first | k_is | rfl | kernel_rfl | decide +kernel)
    (case ef2 => first | k_is | rfl | kernel_rfl | decide +kernel)
    (case eg3 => first | k_is | rfl | kernel_rfl | decide +kernel)
    (case ec3 => first | k_is | rfl | kernel_rfl | decide +kernel)
    (case esa3 => first | k_is | rfl | kernel_rfl | decide +kernel)
    (case ega3 => first | k_is | rfl | kernel_rfl | decide +kernel)
    (case egg3 => first | k_is | rfl | kernel_rfl | decide +kernel)
    (case enn3 => first | k_is | rfl | kernel_rfl | decide +kernel)
    (case ecl3 => first | k_is | rfl | kernel_rfl | decide +kernel)
    (case ei3 => first | k_is | rfl | kernel_rfl | decide +kernel)
    (case et3 => first | k_is | rfl | kernel_rfl | decide +kernel)
    (case ek3 => first | k_is | rfl | kernel_rfl | decide +kernel)
    (case eh3 => first | k_is | rfl | kernel_rfl | decide +kernel)
    (case es3 => first | k_is | rfl | kernel_rfl | decide +kernel)
    (case el3 => first | k_is | rfl | kernel_rfl | decide +kernel)
    (case eo3 => first | k_is | rfl | kernel_rfl | decide +kernel)
    (case ed3 => first | k_is | rfl | kernel_rfl | decide +kernel)
    (case ep3 => first | k_is | rfl | kernel_rfl | decide +kernel)
    (case ec23 => first | k_is | rfl | kernel_rfl | decide +kernel)
    (case ecd3 => first | k_is | rfl | kernel_rfl | decide +kernel)
    (case ev3 => first | k_is | rfl | kernel_rfl | decide +kernel)
    (case ef3 => first | k_is | rfl | kernel_rfl | decide +kernel)
    (case eg4 => first | k_is | rfl | kernel_rfl | decide +kernel)
    (case ec4 => first | k_is | rfl | kernel_rfl | decide +kernel)
    (case esa4 => first | k_is | rfl | kernel_rfl | decide +kernel)
    (case ega4 => first | k_is | rfl | kernel_rfl | decide +kernel)
    (case egg4 => first | k_is | rfl | kernel_rfl | decide +kernel)
    (case enn4 => first | k_is | rfl | kernel_rfl | decide +kernel)
    (case ecl4 => first | k_is | rfl | kernel_rfl | decide +kernel)
    (case ei4 => first | k_is | rfl | kernel_rfl | decide +kernel)
    (case et4 => first | k_is | rfl | kernel_rfl | decide +kernel)
    (case ek4 => first | k_is | rfl | kernel_rfl | decide +kernel)
    (case eh4 => first | k_is | rfl | kernel_rfl | decide +kernel)
    (case es4 => first | k_is | rfl | kernel_rfl | decide +kernel)
    (case el4 => first | k_is | rfl | kernel_rfl | decide +kernel)
    (case eo4 => first | k_is | rfl | kernel_rfl | decide +kernel)
    (case ed4 => first | k_is | rfl | kernel_rfl | decide +kernel)
    (case ep4 => first | k_is | rfl | kernel_rfl | decide +kernel)
    (case ec24 => first | k_is | rfl | kernel_rfl | decide +kernel)
    (case ecd4 => first | k_is | rfl | kernel_rfl | decide +kernel)
    (case ev4 => first | k_is | rfl | kernel_rfl | decide +kernel)
    (case ef4 => first | k_is | rfl | kernel_rfl | decide +kernel)
    (case eg5 => first | k_is | rfl | kernel_rfl | decide +kernel)
    (case ec5 => first | k_is | rfl | kernel_rfl | decide +kernel)
    (case esa5 => first | k_is | rfl | kernel_rfl | decide +kernel)
    (case ega5 => first | k_is | rfl | kernel_rfl | decide +kernel)
    (case egg5 => first | k_is | rfl | kernel_rfl | decide +kernel)
    (case enn5 => first | k_is | rfl | kernel_rfl | decide +kernel)
    (case ecl5 => first | k_is | rfl | kernel_rfl | decide +kernel)
    (case ei5 => first | k_is | rfl | kernel_rfl | decide +kernel)
    (case et5 => first | k_is | rfl | kernel_rfl | decide +kernel)
    (case ek5 => first | k_is | rfl | kernel_rfl | decide +kernel)
    (case eh5 => first | k_is | rfl | kernel_rfl | decide +kernel)
    (case es5 => first | k_is | rfl | kernel_rfl | decide +kernel)
    (case el5 => first | k_is | rfl | kernel_rfl | decide +kernel)
    (case eo5 => first | k_is | rfl | kernel_rfl | decide +kernel)
    (case ed5 => first | k_is | rfl | kernel_rfl | decide +kernel)
    (case ep5 => first | k_is | rfl | kernel_rfl | decide +kernel)
    (case ec25 => first | k_is | rfl | kernel_rfl | decide +kernel)
    (case ecd5 => first | k_is | rfl | kernel_rfl | decide +kernel)
    (case ev5 => first | k_is | rfl | kernel_rfl | decide +kernel)
    (case ef5 => first | k_is | rfl | kernel_rfl | decide +kernel)
    (case eg6 => first | k_is | rfl | kernel_rfl | decide +kernel)
    (case ec6 => first | k_is | rfl | kernel_rfl | decide +kernel)
    (case esa6 => first | k_is | rfl | kernel_rfl | decide +kernel)
    (case ega6 => first | k_is | rfl | kernel_rfl | decide +kernel)
    (case egg6 => first | k_is | rfl | kernel_rfl | decide +kernel)
    (case enn6 => first | k_is | rfl | kernel_rfl | decide +kernel)
    (case ecl6 => first | k_is | rfl | kernel_rfl | decide +kernel)
    (case ei6 => first | k_is | rfl | kernel_rfl | decide +kernel)
    (case et6 => first | k_is | rfl | kernel_rfl | decide +kernel)
    (case ek6 => first | k_is | rfl | kernel_rfl | decide +kernel)
    (case eh6 => first | k_is | rfl | kernel_rfl | decide +kernel)
    (case es6 => first | k_is | rfl | kernel_rfl | decide +kernel)
    (case el6 => first | k_is | rfl | kernel_rfl | decide +kernel)
    (case eo6 => first | k_is | rfl | kernel_rfl | decide +kernel)
    (case ed6 => first | k_is | rfl | kernel_rfl | decide +kernel)
    (case ep6 => first | k_is | rfl | kernel_rfl | decide +kernel)
    (case ec26 => first | k_is | rfl | kernel_rfl | decide +kernel)
    (case ecd6 => first | k_is | rfl | kernel_rfl | decide +kernel)
    (case ev6 => first | k_is | rfl | kernel_rfl | decide +kernel)
    (case ef6 => first | k_is | rfl | kernel_rfl | decide +kernel)
    (case eg7 => first | k_is | rfl | kernel_rfl | decide +kernel)
    (case ec7 => first | k_is | rfl | kernel_rfl | decide +kernel)
    (case esa7 => first | k_is | rfl | kernel_rfl | decide +kernel)
    (case ega7 => first | k_is | rfl | kernel_rfl | decide +kernel)
    (case egg7 => first | k_is | rfl | kernel_rfl | decide +kernel)
    (case enn7 => first | k_is | rfl | kernel_rfl | decide +kernel)
    (case ecl7 => first | k_is | rfl | kernel_rfl | decide +kernel)
    (case ei7 => first | k_is | rfl | kernel_rfl | decide +kernel)
    (case et7 => first | k_is | rfl | kernel_rfl | decide +kernel)
    (case ek7 => first | k_is | rfl | kernel_rfl | decide +kernel)
    (case eh7 => first | k_is | rfl | kernel_rfl | decide +kernel)
    (case es7 => first | k_is | rfl | kernel_rfl | decide +kernel)
    (case el7 => first | k_is | rfl | kernel_rfl | decide +kernel)
    (case eo7 => first | k_is | rfl | kernel_rfl | decide +kernel)
    (case ed7 => first | k_is | rfl | kernel_rfl | decide +kernel)
    (case ep7 => first | k_is | rfl | kernel_rfl | decide +kernel)
    (case ec27 => first | k_is | rfl | kernel_rfl | decide +kernel)
    (case ecd7 => first | k_is | rfl | kernel_rfl | decide +kernel)
    (case ev7 => first | k_is | rfl | kernel_rfl | decide +kernel)
    (case ef7 => first | k_is | rfl | kernel_rfl | decide +kernel)
    (case eg8 => first | k_is | rfl | kernel_rfl | decide +kernel)
    (case ec8 => first | k_is | rfl | kernel_rfl | decide +kernel)
    (case esa8 => first | k_is | rfl | kernel_rfl | decide +kernel)
    (case ega8 => first | k_is | rfl | kernel_rfl | decide +kernel)
    (case egg8 => first | k_is | rfl | kernel_rfl | decide +kernel)
    (case enn8 => first | k_is | rfl | kernel_rfl | decide +kernel)
    (case ecl8 => first | k_is | rfl | kernel_rfl | decide +kernel)
    (case ei8 => first | k_is | rfl | kernel_rfl | decide +kernel)
    (case et8 => first | k_is | rfl | kernel_rfl | decide +kernel)
    (case ek8 => first | k_is | rfl | kernel_rfl | decide +kernel)
    (case eh8 => first | k_is | rfl | kernel_rfl | decide +kernel)
    (case es8 => first | k_is | rfl | kernel_rfl | decide +kernel)
    (case el8 => first | k_is | rfl | kernel_rfl | decide +kernel)
    (case eo8 => first | k_is | rfl | kernel_rfl | decide +kernel)
    (case ed8 => first | k_is | rfl | kernel_rfl | decide +kernel)
    (case ep8 => first | k_is | rfl | kernel_rfl | decide +kernel)
    (case ec28 => first | k_is | rfl | kernel_rfl | decide +kernel)
    (case ecd8 => first | k_is | rfl | kernel_rfl | decide +kernel)
    (case ev8 => first | k_is | rfl | kernel_rfl | decide +kernel)
    (case ef8 => first | k_is | rfl | kernel_rfl | decide +kernel)
    (case eg9 => first | k_is | rfl | kernel_rfl | decide +kernel)
    (case ec9 => first | k_is | rfl | kernel_rfl | decide +kernel)
    (case esa9 => first | k_is | rfl | kernel_rfl | decide +kernel)
    (case ega9 => first | k_is | rfl | kernel_rfl | decide +kernel)
    (case egg9 => first | k_is | rfl | kernel_rfl | decide +kernel)
    (case enn9 => first | k_is | rfl | kernel_rfl | decide +kernel)
    (case ecl9 => first | k_is | rfl | kernel_rfl | decide +kernel)
    (case ei9 => first | k_is | rfl | kernel_rfl | decide +kernel)
    (case et9 => first | k_is | rfl | kernel_rfl | decide +kernel)
    (case ek9 => first | k_is | rfl | kernel_rfl | decide +kernel)
    (case eh9 => first | k_is | rfl | kernel_rfl | decide +kernel)
    (case es9 => first | k_is | rfl | kernel_rfl | decide +kernel)
    (case el9 => first | k_is | rfl | kernel_rfl | decide +kernel)
    (case eo9 => first | k_is | rfl | kernel_rfl | decide +kernel)
    (case ed9 => first | k_is | rfl | kernel_rfl | decide +kernel)
    (case ep9 => first | k_is | rfl | kernel_rfl | decide +kernel)
    (case ec29 => first | k_is | rfl | kernel_rfl | decide +kernel)
    (case ecd9 => first | k_is | rfl | kernel_rfl | decide +kernel)
    (case ev9 => first | k_is | rfl | kernel_rfl | decide +kernel)
    (case ef9 => first | k_is | rfl | kernel_rfl | decide +kernel)
    (case eg10 => first | k_is | rfl | kernel_rfl | decide +kernel)
    (case ec10 => first | k_is | rfl | kernel_rfl | decide +kernel)
    (case esa10 => first | k_is | rfl | kernel_rfl | decide +kernel)
    (case ega10 => first | k_is | rfl | kernel_rfl | decide +kernel)
    (case egg10 => first | k_is | rfl | kernel_rfl | decide +kernel)
    (case enn10 => first | k_is | rfl | kernel_rfl | decide +kernel)
    (case ecl10 => first | k_is | rfl | kernel_rfl | decide +kernel)
    (case ei10 => first | k_is | rfl | kernel_rfl | decide +kernel)
    (case et10 => first | k_is | rfl | kernel_rfl | decide +kernel)
    (case ek10 => first | k_is | rfl | kernel_rfl | decide +kernel)
    (case eh10 => first | k_is | rfl | kernel_rfl | decide +kernel)
    (case es10 => first | k_is | rfl | kernel_rfl | decide +kernel)
    (case el10 => first | k_is | rfl | kernel_rfl | decide +kernel)
    (case eo10 => first | k_is | rfl | kernel_rfl | decide +kernel)
    (case ed10 => first | k_is | rfl | kernel_rfl | decide +kernel)
    (case ep10 => first | k_is | rfl | kernel_rfl | decide +kernel)
    (case ec210 => first | k_is | rfl | kernel_rfl | decide +kernel)
    (case ecd10 => first | k_is | rfl | kernel_rfl | decide +kernel)
    (case ev10 => first | k_is | rfl | kernel_rfl | decide +kernel)
    (case ef10 => first | k_is | rfl | kernel_rfl | decide +kernel)
    (case eg11 => first | k_is | rfl | kernel_rfl | decide +kernel)
    (case ec11 => first | k_is | rfl | kernel_rfl | decide +kernel)
    (case esa11 => first | k_is | rfl | kernel_rfl | decide +kernel)
    (case ega11 => first | k_is | rfl | kernel_rfl | decide +kernel)
    (case egg11 => first | k_is | rfl | kernel_rfl | decide +kernel)
    (case enn11 => first | k_is | rfl | kernel_rfl | decide +kernel)
    (case ecl11 => first | k_is | rfl | kernel_rfl | decide +kernel)
    (case ei11 => first | k_is | rfl | kernel_rfl | decide +kernel)
    (case et11 => first | k_is | rfl | kernel_rfl | decide +kernel)
    (case ek11 => first | k_is | rfl | kernel_rfl | decide +kernel)
    (case eh11 => first | k_is | rfl | kernel_rfl | decide +kernel)
    (case es11 => first | k_is | rfl | kernel_rfl | decide +kernel)
    (case el11 => first | k_is | rfl | kernel_rfl | decide +kernel)
    (case eo11 => first | k_is | rfl | kernel_rfl | decide +kernel)
    (case ed11 => first | k_is | rfl | kernel_rfl | decide +kernel)
    (case ep11 => first | k_is | rfl | kernel_rfl | decide +kernel)
    (case ec211 => first | k_is | rfl | kernel_rfl | decide +kernel)
    (case ecd11 => first | k_is | rfl | kernel_rfl | decide +kernel)
    (case ev11 => first | k_is | rfl | kernel_rfl | decide +kernel)
    (case ef11 => first | k_is | rfl | kernel_rfl | decide +kernel)
    (case eg12 => first | k_is | rfl | kernel_rfl | decide +kernel)
    (case ec12 => first | k_is | rfl | kernel_rfl | decide +kernel)
    (case esa12 => first | k_is | rfl | kernel_rfl | decide +kernel)
    (case ega12 => first | k_is | rfl | kernel_rfl | decide +kernel)
    (case egg12 => first | k_is | rfl | kernel_rfl | decide +kernel)
    (case enn12 => first | k_is | rfl | kernel_rfl | decide +kernel)
    (case ecl12 => first | k_is | rfl | kernel_rfl | decide +kernel)
    (case ei12 => first | k_is | rfl | kernel_rfl | decide +kernel)
    (case et12 => first | k_is | rfl | kernel_rfl | decide +kernel)
    (case ek12 => first | k_is | rfl | kernel_rfl | decide +kernel)
    (case eh12 => first | k_is | rfl | kernel_rfl | decide +kernel)
    (case es12 => first | k_is | rfl | kernel_rfl | decide +kernel)
    (case el12 => first | k_is | rfl | kernel_rfl | decide +kernel)
    (case eo12 => first | k_is | rfl | kernel_rfl | decide +kernel)
    (case ed12 => first | k_is | rfl | kernel_rfl | decide +kernel)
    (case ep12 => first | k_is | rfl | kernel_rfl | decide +kernel)
    (case ec212 => first | k_is | rfl | kernel_rfl | decide +kernel)
    (case ecd12 => first | k_is | rfl | kernel_rfl | decide +kernel)
    (case ev12 => first | k_is | rfl | kernel_rfl | decide +kernel)
    (case ef12 => first | k_is | rfl | kernel_rfl | decide +kernel)
    (case eg13 => first | k_is | rfl | kernel_rfl | decide +kernel)
    (case ec13 => first | k_is | rfl | kernel_rfl | decide +kernel)
    (case esa13 => first | k_is | rfl | kernel_rfl | decide +kernel)
    (case ega13 => first | k_is | rfl | kernel_rfl | decide +kernel)
    (case egg13 => first | k_is | rfl | kernel_rfl | decide +kernel)
    (case enn13 => first | k_is | rfl | kernel_rfl | decide +kernel)
    (case ecl13 => first | k_is | rfl | kernel_rfl | decide +kernel)
    (case ei13 => first | k_is | rfl | kernel_rfl | decide +kernel)
    (case et13 => first | k_is | rfl | kernel_rfl | decide +kernel)
    (case ek13 => first | k_is | rfl | kernel_rfl | decide +kernel)
    (case eh13 => first | k_is | rfl | kernel_rfl | decide +kernel)
    (case es13 => first | k_is | rfl | kernel_rfl | decide +kernel)
    (case el13 => first | k_is | rfl | kernel_rfl | decide +kernel)
    (case eo13 => first | k_is | rfl | kernel_rfl | decide +kernel)
    (case ed13 => first | k_is | rfl | kernel_rfl | decide +kernel)
    (case ep13 => first | k_is | rfl | kernel_rfl | decide +kernel)
    (case ec213 => first | k_is | rfl | kernel_rfl | decide +kernel)
    (case ecd13 => first | k_is | rfl | kernel_rfl | decide +kernel)
    (case ev13 => first | k_is | rfl | kernel_rfl | decide +kernel)
    (case ef13 => first | k_is | rfl | kernel_rfl | decide +kernel)
    (case eg14 => first | k_is | rfl | kernel_rfl | decide +kernel)
    (case ec14 => first | k_is | rfl | kernel_rfl | decide +kernel)
    (case esa14 => first | k_is | rfl | kernel_rfl | decide +kernel)
    (case ega14 => first | k_is | rfl | kernel_rfl | decide +kernel)
    (case egg14 => first | k_is | rfl | kernel_rfl | decide +kernel)
    (case enn14 => first | k_is | rfl | kernel_rfl | decide +kernel)
    (case ecl14 => first | k_is | rfl | kernel_rfl | decide +kernel)
    (case ei14 => first | k_is | rfl | kernel_rfl | decide +kernel)
    (case et14 => first | k_is | rfl | kernel_rfl | decide +kernel)
    (case ek14 => first | k_is | rfl | kernel_rfl | decide +kernel)
    (case eh14 => first | k_is | rfl | kernel_rfl | decide +kernel)
    (case es14 => first | k_is | rfl | kernel_rfl | decide +kernel)
    (case el14 => first | k_is | rfl | kernel_rfl | decide +kernel)
    (case eo14 => first | k_is | rfl | kernel_rfl | decide +kernel)
    (case ed14 => first | k_is | rfl | kernel_rfl | decide +kernel)
    (case ep14 => first | k_is | rfl | kernel_rfl | decide +kernel)
    (case ec214 => first | k_is | rfl | kernel_rfl | decide +kernel)
    (case ecd14 => first | k_is | rfl | kernel_rfl | decide +kernel)
    (case ev14 => first | k_is | rfl | kernel_rfl | decide +kernel)
    (case ef14 => first | k_is | rfl | kernel_rfl | decide +kernel)
    (case g00 => first | k_is | rfl | kernel_rfl | decide +kernel)
    (case x00 => first | k_is | rfl | kernel_rfl | decide +kernel)
    (case k00 => first | k_is | rfl | kernel_rfl | decide +kernel)
    (case f001 => first | k_is | rfl | kernel_rfl | decide +kernel)
    (case f002 => first | k_is | rfl | kernel_rfl | decide +kernel)
    (case f003 => first | k_is | rfl | kernel_rfl | decide +kernel)
    (case f004 => first | k_is | rfl | kernel_rfl | decide +kernel)
    (case f005 => first | k_is | rfl | kernel_rfl | decide +kernel)
    (case f006 => first | k_is | rfl | kernel_rfl | decide +kernel)
    (case kA00 => first | k_is | rfl | kernel_rfl | decide +kernel)
    (case kV00 => first | k_is | rfl | kernel_rfl | decide +kernel)
    (case ka000 => first | k_is | rfl | kernel_rfl | decide +kernel)
    (case kb000 => first | k_is | rfl | kernel_rfl | decide +kernel)
    (case kc000 => first | k_is | rfl | kernel_rfl | decide +kernel)
    (case ka001 => first | k_is | rfl | kernel_rfl | decide +kernel)
    (case kb001 => first | k_is | rfl | kernel_rfl | decide +kernel)
    (case kc001 => first | k_is | rfl | kernel_rfl | decide +kernel)
    (case ka002 => first | k_is | rfl | kernel_rfl | decide +kernel)
    (case kb002 => first | k_is | rfl | kernel_rfl | decide +kernel)
    (case kc002 => first | k_is | rfl | kernel_rfl | decide +kernel)
    (case ka003 => first | k_is | rfl | kernel_rfl | decide +kernel)
    (case kb003 => first | k_is | rfl | kernel_rfl | decide +kernel)
    (case kc003 => first | k_is | rfl | kernel_rfl | decide +kernel)
    (case ka004 => first | k_is | rfl | kernel_rfl | decide +kernel)
    (case kb004 => first | k_is | rfl | kernel_rfl | decide +kernel)
    (case kc004 => first | k_is | rfl | kernel_rfl | decide +kernel)
    (case ka005 => first | k_is | rfl | kernel_rfl | decide +kernel)
    (case kb005 => first | k_is | rfl | kernel_rfl | decide +kernel)
    (case kc005 => first | k_is | rfl | kernel_rfl | decide +kernel)
    (case ka006 => first | k_is | rfl | kernel_rfl | decide +kernel)
    (case kb006 => first | k_is | rfl | kernel_rfl | decide +kernel)
    (case kc006 => first | k_is | rfl | kernel_rfl | decide +kernel)
    (case ka007 => first | k_is | rfl | kernel_rfl | decide +kernel)
    (case kb007 => first | k_is | rfl | kernel_rfl | decide +kernel)
    (case kc007 => first | k_is | rfl | kernel_rfl | decide +kernel)
    (case ka008 => first | k_is | rfl | kernel_rfl | decide +kernel)
    (case kb008 => first | k_is | rfl | kernel_rfl | decide +kernel)
    (case kc008 => first | k_is | rfl | kernel_rfl | decide +kernel)
    (case ka009 => first | k_is | rfl | kernel_rfl | decide +kernel)
    (case kb009 => first | k_is | rfl | kernel_rfl | decide +kernel)
    (case kc009 => first | k_is | rfl | kernel_rfl | decide +kernel)
    (case ka0010 => first | k_is | rfl | kernel_rfl | decide +kernel)
    (case kb0010 => first | k_is | rfl | kernel_rfl | decide +kernel)
    (case kc0010 => first | k_is | rfl | kernel_rfl | decide +kernel)
    (case ka0011 => first | k_is | rfl | kernel_rfl | decide +kernel)
    (case kb0011 => first | k_is | rfl | kernel_rfl | decide +kernel)
    (case kc0011 => first | k_is | rfl | kernel_rfl | decide +kernel)
    (case ka0012 => first | k_is | rfl | kernel_rfl | decide +kernel)
    (case kb0012 => first | k_is | rfl | kernel_rfl | decide +kernel)
    (case kc0012 => first | k_is | rfl | kernel_rfl | decide +kernel)
    (case ka0013 => first | k_is | rfl | kernel_rfl | decide +kernel)
    (case kb0013 => first | k_is | rfl | kernel_rfl | decide +kernel)
    (case kc0013 => first | k_is | rfl | kernel_rfl | decide +kernel)
    (case ka0014 => first | k_is | rfl | kernel_rfl | decide +kernel)
    (case kb0014 => first | k_is | rfl | kernel_rfl | decide +kernel)
    (case kc0014 => first | k_is | rfl | kernel_rfl | decide +kernel)
    (case gD0 => first | k_is | rfl | kernel_rfl | decide +kernel)
    (case lD0 => first | k_is | rfl | kernel_rfl | decide +kernel)
    (case cD0 => first | k_is | rfl | kernel_rfl | decide +kernel)
    (case kD0 => first | k_is | rfl | kernel_rfl | decide +kernel)
    (case gD1 => first | k_is | rfl | kernel_rfl | decide +kernel)
    (case lD1 => first | k_is | rfl | kernel_rfl | decide +kernel)
    (case cD1 => first | k_is | rfl | kernel_rfl | decide +kernel)
    (case kD1 => first | k_is | rfl | kernel_rfl | decide +kernel)
    (case gD2 => first | k_is | rfl | kernel_rfl | decide +kernel)
    (case lD2 => first | k_is | rfl | kernel_rfl | decide +kernel)
    (case cD2 => first | k_is | rfl | kernel_rfl | decide +kernel)
    (case kD2 => first | k_is | rfl | kernel_rfl | decide +kernel)
    (case gD3 => first | k_is | rfl | kernel_rfl | decide +kernel)
    (case lD3 => first | k_is | rfl | kernel_rfl | decide +kernel)
    (case cD3 => first | k_is | rfl | kernel_rfl | decide +kernel)
    (case kD3 => first | k_is | rfl | kernel_rfl | decide +kernel)
    (case gD4 => first | k_is | rfl | kernel_rfl | decide +kernel)
    (case lD4 => first | k_is | rfl | kernel_rfl | decide +kernel)
    (case cD4 => first | k_is | rfl | kernel_rfl | decide +kernel)
    (case kD4 => first | k_is | rfl | kernel_rfl | decide +kernel)
    (case gD5 => first | k_is | rfl | kernel_rfl | decide +kernel)
    (case lD5 => first | k_is | rfl | kernel_rfl | decide +kernel)
    (case cD5 => first | k_is | rfl | kernel_rfl | decide +kernel)
    (case kD5 => first | k_is | rfl | kernel_rfl | decide +kernel)
    (case gD6 => first | k_is | rfl | kernel_rfl | decide +kernel)
    (case lD6 => first | k_is | rfl | kernel_rfl | decide +kernel)
    (case cD6 => first | k_is | rfl | kernel_rfl | decide +kernel)
    (case kD6 => first | k_is | rfl | kernel_rfl | decide +kernel)
    (case gD7 => first | k_is | rfl | kernel_rfl | decide +kernel)
    (case lD7 => first | k_is | rfl | kernel_rfl | decide +kernel)
    (case cD7 => first | k_is | rfl | kernel_rfl | decide +kernel)
    (case kD7 => first | k_is | rfl | kernel_rfl | decide +kernel)
    (case gD8 => first | k_is | rfl | kernel_rfl | decide +kernel)
    (case lD8 => first | k_is | rfl | kernel_rfl | decide +kernel)
    (case cD8 => first | k_is | rfl | kernel_rfl | decide +kernel)
    (case kD8 => first | k_is | rfl | kernel_rfl | decide +kernel)
    (case gD9 => first | k_is | rfl | kernel_rfl | decide +kernel)
    (case lD9 => first | k_is | rfl | kernel_rfl | decide +kernel)
    (case cD9 => first | k_is | rfl | kernel_rfl | decide +kernel)
    (case kD9 => first | k_is | rfl | kernel_rfl | decide +kernel)
