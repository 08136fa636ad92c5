import PyProof.Rows.All
import Wide.All
import OpenK.AllK
import Wide.FinOn
import HandS.ForMost
import HandS.ForExc
import HandS.TupAny
import HandS.TupMul
import HandS.Style
import HandS.Star
import HandS.CallSlots
import HandS.Sort
import HandS.IsInst
import HandS.More
import HandS.Flow
import KE.GoesEnum
import KE.GoesMore
import PyProof.EnumMake
import HandS.Zip
import HandS.ExcInit
import HandS.SortKw
import HandS.SortInts
import HandS.TupSets
import PySem.Challenge.RW_plactic_k03_whole_exchanges
set_option Elab.async false
set_option linter.all false
set_option maxRecDepth 100000
set_option autoImplicit false
/-! the small interpreter: values, heap, results; how they stand for the model's -/
namespace MP
open PySem PySem.Spec PyProof.Rows L2

/-- a value: tuples are values, what can change is a number in the small heap -/
inductive Mv where
  | non | bl (b : Bool) | int (i : Int) | str (x : Str) | tup (xs : List Mv) | frl (xs : List Mv) | ref (n : Nat)
  deriving Inhabited
/-- an object: a list, a dict, an instance (its class by name) -/
inductive Mo where
  | lst (xs : List Mv) | dic (kvs : List (Mv × Mv)) | ins (c : Str) (fs : List (Str × Mv))
  deriving Inhabited
abbrev Mh := List Mo
abbrev Mf := List (Option Mv)
/-- what an expression comes to: a value, an exception (its class, its fields), or no word -/
inductive Mr (α : Type) where
  | ok (a : α) (h : Mh) | exc (c : Str) (p : List (Str × Mv)) (h : Mh) | err
def Mr.bind {α β : Type} (r : Mr α) (f : α → Mh → Mr β) : Mr β := match r with
  | .ok a h => f a h
  | .exc c p h => .exc c p h
  | .err => .err
/-- what a block comes to -/
inductive Ms where
  | nx (fr : Mf) (h : Mh) | rt (v : Mv) (h : Mh) | bk (fr : Mf) (h : Mh) | ct (fr : Mf) (h : Mh) | exc (c : Str) (p : List (Str × Mv)) (fr : Mf) (h : Mh) | err

/-- the world's side -/
structure Tb where
  P : Program
  w : World
  K : PySem.W.Frag
  mg : Str → Option Value
  base : Heap
  ca : Str → Addr

/-- a list that is read alone: it stays -/
def SqF (K : PySem.W.Frag) (H : Hp) (a : Addr) (xs : List V) : Prop := (∃ o, H a = some (.frz o (.lst xs))) ∨ SqL K (fun _ => none) a xs
theorem sqL_rest {K : PySem.W.Frag} {H : Hp} {a : Addr} {xs : List V} (s : SqL K (fun _ => none) a xs) : SqL K H a xs := by
  rcases s with (s | ⟨o, s⟩) | s
  · cases s
  · cases s
  · exact .inr s
theorem SqF.sq {K : PySem.W.Frag} {H : Hp} {a : Addr} {xs : List V} (s : SqF K H a xs) : SqL K H a xs := by
  rcases s with ⟨o, e⟩ | s
  · exact .inl (.inr ⟨o, e⟩)
  · exact sqL_rest s
mutual
def RW (K : PySem.W.Frag) (ph : List Addr) (H : Hp) : Mv → V → Prop
  | .non, v => v = .non
  | .bl b, v => v = .bl b
  | .int i, v => v = .int i
  | .str x, v => v = .str x
  | .ref n, v => ∃ a, ph[n]? = some a ∧ v = .ref a
  | .tup ws, v => ∃ a vs, v = .ref a ∧ SqT K H a vs ∧ RWs K ph H ws vs
  | .frl ws, v => ∃ a vs, v = .ref a ∧ SqF K H a vs ∧ RWs K ph H ws vs
def RWs (K : PySem.W.Frag) (ph : List Addr) (H : Hp) : List Mv → List V → Prop
  | [], vs => vs = []
  | w :: ws, vs => ∃ v r, vs = v :: r ∧ RW K ph H w v ∧ RWs K ph H ws r
end
def Kp (K : PySem.W.Frag) (H H' : Hp) : Prop := ∀ a xs, (SqT K H a xs → SqT K H' a xs) ∧ (SqF K H a xs → SqF K H' a xs)
/-- what a piece of code leaves: the small heap's numbers go on, tuples stay, what the small heap does not know stays, its new objects are new -/
structure Ext (K : PySem.W.Frag) (ph ph' : List Addr) (H H' : Hp) : Prop where
  pre : ph <+: ph'
  kp : Kp K H H'
  oth : ∀ a o, H a = some o → a ∉ ph → H' a = some o
  new : ∀ a, a ∈ ph' → a ∉ ph → H a = none
theorem Kp.refl {K : PySem.W.Frag} {H : Hp} : Kp K H H := fun _ _ => ⟨fun h => h, fun h => h⟩
theorem Kp.trans {K : PySem.W.Frag} {H H1 H2 : Hp} (a : Kp K H H1) (b : Kp K H1 H2) : Kp K H H2 := fun x xs => ⟨fun h => (b x xs).1 ((a x xs).1 h), fun h => (b x xs).2 ((a x xs).2 h)⟩
theorem Ext.refl {K : PySem.W.Frag} {ph : List Addr} {H : Hp} : Ext K ph ph H H := ⟨List.prefix_refl _, .refl, fun _ _ h _ => h, fun _ h n => absurd h n⟩
theorem Ext.trans {K : PySem.W.Frag} {p p1 p2 : List Addr} {H H1 H2 : Hp} (a : Ext K p p1 H H1) (b : Ext K p1 p2 H1 H2) : Ext K p p2 H H2 := by
  have key : ∀ x o, H x = some o → x ∉ p → x ∉ p1 := fun x o h n m => by
    have z := a.new x m n
    rw [h] at z; cases z
  refine ⟨a.pre.trans b.pre, a.kp.trans b.kp, fun x o h n => b.oth x o (a.oth x o h n) (key x o h n), fun x m n => ?_⟩
  by_cases h1 : x ∈ p1
  · exact a.new x h1 n
  · cases e : H x with
    | none => rfl
    | some o =>
      have z := b.new x m h1
      rw [a.oth x o e n] at z; cases z
theorem pre_get {ph ph' : List Addr} (h : ph <+: ph') {n : Nat} {a : Addr} (e : ph[n]? = some a) : ph'[n]? = some a := by
  obtain ⟨t, rfl⟩ := h
  rw [List.getElem?_append_left (List.getElem?_eq_some_iff.mp e).1]; exact e
section
variable {K : PySem.W.Frag} {ph ph' : List Addr} {H H' : Hp}
mutual
theorem RW.mon (xp : ph <+: ph') (xk : Kp K H H') : ∀ {w : Mv} {v : V}, RW K ph H w v → RW K ph' H' w v
  | .non, _, h => h
  | .bl _, _, h => h
  | .int _, _, h => h
  | .str _, _, h => h
  | .ref n, v, h => by
    unfold RW at h ⊢
    obtain ⟨a, e, r⟩ := h
    exact ⟨a, pre_get xp e, r⟩
  | .tup ws, v, h => by
    unfold RW at h ⊢
    obtain ⟨a, vs, e, s, r⟩ := h
    exact ⟨a, vs, e, (xk a vs).1 s, RWs.mon xp xk r⟩
  | .frl ws, v, h => by
    unfold RW at h ⊢
    obtain ⟨a, vs, e, s, r⟩ := h
    exact ⟨a, vs, e, (xk a vs).2 s, RWs.mon xp xk r⟩
theorem RWs.mon (xp : ph <+: ph') (xk : Kp K H H') : ∀ {ws : List Mv} {vs : List V}, RWs K ph H ws vs → RWs K ph' H' ws vs
  | [], _, h => by unfold RWs at h ⊢; exact h
  | w :: ws, vs, h => by
    unfold RWs at h ⊢
    obtain ⟨v, r, e, a, b⟩ := h
    exact ⟨v, r, e, RW.mon xp xk a, RWs.mon xp xk b⟩
end
theorem RW.ext (x : Ext K ph ph' H H') {w : Mv} {v : V} (r : RW K ph H w v) : RW K ph' H' w v := RW.mon x.pre x.kp r
theorem RWs.ext (x : Ext K ph ph' H H') {ws : List Mv} {vs : List V} (r : RWs K ph H ws vs) : RWs K ph' H' ws vs := RWs.mon x.pre x.kp r
end
end MP

namespace MP
open PySem PySem.Spec PyProof.Rows L2

def RFs (K : PySem.W.Frag) (ph : List Addr) (H : Hp) (fs : List (Str × Mv)) (gs : List (Str × V)) : Prop := fs.map (·.1) = gs.map (·.1) ∧ RWs K ph H (fs.map (·.2)) (gs.map (·.2))
def OR (T : Tb) (ph : List Addr) (H : Hp) (a : Addr) : Mo → Prop
  | .lst xs => ∃ vs, H a = some (.lst vs) ∧ RWs T.K ph H xs vs
  | .ins c fs => ∃ dx gs, H a = some (.ins (T.ca c) dx gs) ∧ RFs T.K ph H fs gs
  | .dic _ => False
structure RelH (T : Tb) (ph : List Addr) (H : Hp) (h : Mh) : Prop where
  nd : ph.Nodup
  len : ph.length = h.length
  ob : ∀ (n : Nat) (o : Mo), h[n]? = some o → ∃ a, ph[n]? = some a ∧ OR T ph H a o
theorem RFs.ext {K : PySem.W.Frag} {ph ph' : List Addr} {H H' : Hp} {fs : List (Str × Mv)} {gs : List (Str × V)} (x : Ext K ph ph' H H') (r : RFs K ph H fs gs) : RFs K ph' H' fs gs := ⟨r.1, RWs.ext x r.2⟩
theorem OR.there {T : Tb} {ph : List Addr} {H : Hp} {a : Addr} {o : Mo} (r : OR T ph H a o) : ∃ u, H a = some u ∧ ∀ xs, u ≠ .tup xs := by
  cases o with
  | lst xs => obtain ⟨vs, e, _⟩ := r; exact ⟨_, e, fun _ z => by cases z⟩
  | ins c fs => obtain ⟨dx, gs, e, _⟩ := r; exact ⟨_, e, fun _ z => by cases z⟩
  | dic _ => exact r.elim
theorem OR.mon {T : Tb} {ph ph' : List Addr} {H H' : Hp} {a : Addr} {o : Mo} (xp : ph <+: ph') (xk : Kp T.K H H') (e : H' a = H a) (r : OR T ph H a o) : OR T ph' H' a o := by
  cases o with
  | lst xs => obtain ⟨vs, q, z⟩ := r; exact ⟨vs, e.trans q, RWs.mon xp xk z⟩
  | ins c fs => obtain ⟨dx, gs, q, z⟩ := r; exact ⟨dx, gs, e.trans q, z.1, RWs.mon xp xk z.2⟩
  | dic _ => exact r.elim
theorem OR.ext {T : Tb} {ph ph' : List Addr} {H H' : Hp} {a : Addr} {o : Mo} (x : Ext T.K ph ph' H H') (e : H' a = H a) (r : OR T ph H a o) : OR T ph' H' a o := by
  cases o with
  | lst xs => obtain ⟨vs, q, z⟩ := r; exact ⟨vs, e.trans q, RWs.ext x z⟩
  | ins c fs => obtain ⟨dx, gs, q, z⟩ := r; exact ⟨dx, gs, e.trans q, z.ext x⟩
  | dic _ => exact r.elim
section
variable {T : Tb} {ph : List Addr} {H : Hp} {h : Mh} {p a : Addr} {n : Nat} {o o' : Mo} {u : HO}
theorem kp_fresh {K : PySem.W.Frag} (hp : H p = none) : Kp K H (upd H p u) := fun a xs => by
  constructor
  · intro s
    rcases s with (s | ⟨ob, s⟩) | s
    · exact .inl (.inl (by rw [upd_ne (ne_of_none s hp)]; exact s))
    · exact .inl (.inr ⟨ob, by rw [upd_ne (ne_of_none s hp)]; exact s⟩)
    · exact .inr s
  · intro s
    rcases s with ⟨ob, s⟩ | s
    · exact .inl ⟨ob, by rw [upd_ne (ne_of_none s hp)]; exact s⟩
    · exact .inr s
/-- what is no tuple and not locked is written -/
theorem kp_write {K : PySem.W.Frag} {u0 : HO} (hp : H p = some u0) (nt : ∀ xs, u0 ≠ .tup xs) (nf : ∀ ob w, u0 ≠ .frz ob w) : Kp K H (upd H p u) := fun a xs => by
  constructor
  · intro s
    rcases s with (s | ⟨ob, s⟩) | s
    · exact .inl (.inl (by rw [upd_ne (ne_of s hp (fun z => nt xs z.symm))]; exact s))
    · exact .inl (.inr ⟨ob, by rw [upd_ne (ne_of s hp (fun z => nf ob _ z.symm))]; exact s⟩)
    · exact .inr s
  · intro s
    rcases s with ⟨ob, s⟩ | s
    · exact .inl ⟨ob, by rw [upd_ne (ne_of s hp (fun z => nf ob _ z.symm))]; exact s⟩
    · exact .inr s
theorem ext_fresh (hp : H p = none) : Ext T.K ph ph H (upd H p u) := ⟨List.prefix_refl _, kp_fresh hp, fun a o e _ => by rw [upd_ne (ne_of_none e hp)]; exact e, fun _ h n => absurd h n⟩
theorem RelH.apart (R : RelH T ph H h) (hp : H p = none) : p ∉ ph := fun hm => by
  obtain ⟨n, hn⟩ := List.getElem?_of_mem hm
  have hl : n < h.length := by rw [← R.len]; exact (List.getElem?_eq_some_iff.mp hn).1
  obtain ⟨a, ha, r⟩ := R.ob n h[n] (List.getElem?_eq_getElem hl)
  rw [hn] at ha; cases ha
  obtain ⟨u, e, _⟩ := r.there
  rw [hp] at e; cases e
/-- a new object that the small heap does not know (a tuple) -/
theorem RelH.fresh (R : RelH T ph H h) (hp : H p = none) : RelH T ph (upd H p u) h := ⟨R.nd, R.len, fun n o e => by
  obtain ⟨a, ha, r⟩ := R.ob n o e
  refine ⟨a, ha, r.ext (ext_fresh hp) (upd_ne fun z => ?_)⟩
  obtain ⟨w, e, _⟩ := r.there
  rw [z, hp] at e; cases e⟩
/-- a new object of the small heap -/
theorem RelH.alloc (R : RelH T ph H h) (hp : H p = none) (ho : OR T (ph ++ [p]) (upd H p u) p o) : RelH T (ph ++ [p]) (upd H p u) (h ++ [o]) ∧ Ext T.K ph (ph ++ [p]) H (upd H p u) := by
  have x : Ext T.K ph (ph ++ [p]) H (upd H p u) := ⟨List.prefix_append _ _, kp_fresh hp, fun a o e _ => by rw [upd_ne (ne_of_none e hp)]; exact e, fun a m n => by
    rcases List.mem_append.mp m with z | z
    · exact absurd z n
    · rw [show a = p by simpa using z]; exact hp⟩
  refine ⟨⟨?_, by simp [R.len], fun n o' e => ?_⟩, x⟩
  · rw [List.nodup_append]
    refine ⟨R.nd, by simp, fun a ha b hb => ?_⟩
    have : b = p := by simpa using hb
    subst this
    exact fun z => R.apart hp (z ▸ ha)
  · by_cases hn : n < h.length
    · rw [List.getElem?_append_left hn] at e
      obtain ⟨a, ha, r⟩ := R.ob n o' e
      refine ⟨a, pre_get x.pre ha, r.ext x (upd_ne fun z => ?_)⟩
      obtain ⟨w, e, _⟩ := r.there
      rw [z, hp] at e; cases e
    · have hn' : n = h.length := by
        have := (List.getElem?_eq_some_iff.mp e).1
        rw [List.length_append, List.length_singleton] at this
        omega
      subst hn'
      rw [List.getElem?_append_right (Nat.le_refl _), Nat.sub_self] at e
      cases e
      refine ⟨p, ?_, ho⟩
      rw [← R.len, List.getElem?_append_right (Nat.le_refl _), Nat.sub_self]; rfl
/-- an object of the small heap is changed -/
theorem RelH.set {u0 : HO} (R : RelH T ph H h) (ha : ph[n]? = some a) (he : H a = some u0) (nt : ∀ xs, u0 ≠ .tup xs) (nf : ∀ ob w, u0 ≠ .frz ob w)
    (ho : OR T ph (upd H a u) a o) : RelH T ph (upd H a u) (h.set n o) ∧ Ext T.K ph ph H (upd H a u) := by
  have x : Ext T.K ph ph H (upd H a u) := ⟨List.prefix_refl _, kp_write he nt nf, fun b o e n' => by rw [upd_ne (fun z : b = a => n' (by rw [z]; exact List.mem_of_getElem? ha))]; exact e, fun _ h n => absurd h n⟩
  refine ⟨⟨R.nd, by simp [R.len], fun m o' e => ?_⟩, x⟩
  by_cases hm : m = n
  · subst hm
    have hl : m < h.length := by rw [← R.len]; exact (List.getElem?_eq_some_iff.mp ha).1
    rw [List.getElem?_set_self hl] at e
    cases e
    exact ⟨a, ha, ho⟩
  · rw [List.getElem?_set_ne (Ne.symm hm)] at e
    obtain ⟨b, hb, r⟩ := R.ob m o' e
    refine ⟨b, hb, r.ext x (upd_ne fun z => ?_)⟩
    rw [z] at hb
    exact hm ((List.getElem?_inj (List.getElem?_eq_some_iff.mp hb).1 R.nd).mp (hb.trans ha.symm))
theorem RelH.at (R : RelH T ph H h) {w : V} (r : RW T.K ph H (.ref n) w) (e : h[n]? = some o) : ∃ a, w = .ref a ∧ ph[n]? = some a ∧ OR T ph H a o := by
  unfold RW at r
  obtain ⟨a, ha, rfl⟩ := r
  obtain ⟨b, hb, ro⟩ := R.ob n o e
  rw [ha] at hb; cases hb
  exact ⟨a, rfl, ha, ro⟩
end

/-! ### frames, what is wanted behind -/
def RelF (T : Tb) (ph : List Addr) (H : Hp) (fr : Mf) (σ : L2.St) : Prop := fr.length = σ.length ∧ ∀ (i : Nat) (w : Mv), fr[i]? = some (some w) → ∃ v, σ[i]? = some (some v) ∧ RW T.K ph H w v
theorem RelF.ext {T : Tb} {ph ph' : List Addr} {H H' : Hp} {fr : Mf} {σ : L2.St} (x : Ext T.K ph ph' H H') (r : RelF T ph H fr σ) : RelF T ph' H' fr σ := ⟨r.1, fun i w e => by
  obtain ⟨v, e1, e2⟩ := r.2 i w e
  exact ⟨v, e1, RW.ext x e2⟩⟩
theorem RelF.set {T : Tb} {ph : List Addr} {H : Hp} {fr : Mf} {σ : L2.St} {i : Nat} {w : Mv} {v : V} (r : RelF T ph H fr σ) (rw' : RW T.K ph H w v) : RelF T ph H (fr.set i (some w)) (σ.set i (some v)) := by
  refine ⟨by simp [r.1], fun j w' e => ?_⟩
  by_cases hj : j = i
  · subst hj
    have hl : j < fr.length := by
      have := (List.getElem?_eq_some_iff.mp e).1
      simpa using this
    rw [List.getElem?_set_self hl] at e
    cases e
    exact ⟨v, by rw [List.getElem?_set_self (by rw [← r.1]; exact hl)], rw'⟩
  · rw [List.getElem?_set_ne (Ne.symm hj)] at e ⊢
    exact r.2 j w' e
/-- the fields that an exception carries -/
def Pay (T : Tb) (ph : List Addr) (H : Hp) (p : List (Str × Mv)) (d : Option Addr) : Prop := match p with
  | [] => True
  | f :: fs => ∃ dd gs, d = some dd ∧ H dd = some (.xd gs) ∧ RFs T.K ph H (f :: fs) gs
def Post (T : Tb) (ph : List Addr) (H : Hp) {α β : Type} (RA : List Addr → Hp → α → β → Prop) (r : Mr α) (Q : β → Hp → Prop) (E : XK) : Prop := match r with
  | .ok w h' => ∀ ph' v H', Ext T.K ph ph' H H' → RelH T ph' H' h' → RA ph' H' w v → Q v H'
  | .exc c p h' => ∀ ph' H' d, Ext T.K ph ph' H H' → RelH T ph' H' h' → Pay T ph' H' p d → E (.ref (T.ca c)) d H'
  | .err => False
theorem Post.mono {T : Tb} {ph : List Addr} {H : Hp} {α β : Type} {RA : List Addr → Hp → α → β → Prop} {r : Mr α} {Q Q' : β → Hp → Prop} {E E' : XK} (p : Post T ph H RA r Q E) (hq : ∀ v H, Q v H → Q' v H) (he : ∀ c d H, E c d H → E' c d H) : Post T ph H RA r Q' E' := by
  cases r with
  | ok w h' => exact fun ph' v H' x R a => hq _ _ (p ph' v H' x R a)
  | exc c q h' => exact fun ph' H' d x R a => he _ _ _ (p ph' H' d x R a)
  | err => exact p.elim
/-- one after another -/
theorem Post.bind {T : Tb} {ph : List Addr} {H : Hp} {α β γ δ : Type} {RA : List Addr → Hp → α → β → Prop} {RB : List Addr → Hp → γ → δ → Prop} {r : Mr α} {f : α → Mh → Mr γ} {Q : δ → Hp → Prop} {E : XK} (p : Post T ph H RB (r.bind f) Q E) :
    Post T ph H RA r (fun v H' => ∃ ph' w h', Ext T.K ph ph' H H' ∧ RelH T ph' H' h' ∧ RA ph' H' w v ∧ Post T ph' H' RB (f w h') Q E) E := by
  cases r with
  | ok w h' =>
    intro ph' v H' x R a
    refine ⟨ph', w, h', x, R, a, ?_⟩
    have p' : Post T ph H RB (f w h') Q E := p
    cases hf : f w h' with
    | ok w2 h2 =>
      rw [hf] at p'
      exact fun ph2 v2 H2 x2 R2 a2 => p' ph2 v2 H2 (x.trans x2) R2 a2
    | exc c q h2 =>
      rw [hf] at p'
      exact fun ph2 H2 d x2 R2 a2 => p' ph2 H2 d (x.trans x2) R2 a2
    | err => rw [hf] at p'; exact p'.elim
  | exc c q h' => exact p
  | err => exact p
abbrev PostV (T : Tb) (ph : List Addr) (H : Hp) (r : Mr Mv) (Q : VK) (E : XK) : Prop := Post T ph H (fun p H => RW T.K p H) r Q E
abbrev PostL (T : Tb) (ph : List Addr) (H : Hp) (r : Mr (List Mv)) (Q : List V → Hp → Prop) (E : XK) : Prop := Post T ph H (fun p H => RWs T.K p H) r Q E

/-- what a small expression means as a reading; W: what is wished of exceptions -/
def rdE (T : Tb) (W : WX) (ev : Mf → Mh → Mr Mv) : TE := fun σ H Q => ∃ ph fr h, RelF T ph H fr σ ∧ RelH T ph H h ∧ PostV T ph H (ev fr h) Q (fun c d H' => W c d σ H')
def rdA (T : Tb) (W : WX) (ev : Mf → Mh → Mr (List Mv)) : TA := fun σ H Q => ∃ ph fr h, RelF T ph H fr σ ∧ RelH T ph H h ∧ PostL T ph H (ev fr h) Q (fun c d H' => W c d σ H')
def rdT (T : Tb) (W : WX) (ev : Mf → Mh → Mr Bool) : TT := fun σ H Q => ∃ ph fr h, RelF T ph H fr σ ∧ RelH T ph H h ∧ Post T ph H (fun _ _ (a : Bool) b => b = a) (ev fr h) Q (fun c d H' => W c d σ H')
theorem PE.weak {X : Cx} {e : Expr} {t t' : TE} (h : PE X e t) (w : ∀ σ H Q, t' σ H Q → t σ H Q) : PE X e t' := ⟨fun pins s σ H Q I q => h.run pins s σ H Q I (w σ H Q q)⟩
theorem PA.weak {X : Cx} {e : List Expr} {t t' : TA} (h : PA X e t) (w : ∀ σ H Q, t' σ H Q → t σ H Q) : PA X e t' := ⟨fun pos pins s σ H Q I q => h.run pos pins s σ H Q I (w σ H Q q)⟩
theorem PT.weak {X : Cx} {e : Expr} {t t' : TT} (h : PT X e t) (w : ∀ σ H Q, t' σ H Q → t σ H Q) : PT X e t' := ⟨fun pins s σ H Q I q => h.run pins s σ H Q I (w σ H Q q)⟩
theorem PS.weak {X : Cx} {e : Stmt} {t t' : TS} (h : PS X e t) (w : ∀ D σ H, t' D σ H → t D σ H) : PS X e t' := ⟨fun pins s σ H D I q => h.run pins s σ H D I (w D σ H q)⟩
theorem PSs.weak {X : Cx} {e : List Stmt} {t t' : TS} (h : PSs X e t) (w : ∀ D σ H, t' D σ H → t D σ H) : PSs X e t' := ⟨fun pins s σ H D I q => h.run pins s σ H D I (w D σ H q)⟩
end MP

/-! the small language and what it means -/
namespace MP
open PySem PySem.Spec PyProof.Rows L2

/-- which of the arguments goes where: the i-th by place, the j-th by name -/
inductive Ar where
  | p (i : Nat) | k (j : Nat)
  deriving DecidableEq
/-- what an iterator is made of -/
inductive Ik where
  | rng | enu | zip | itm
inductive C where
  | lit (v : Mv) | var (i : Nat) | cst (x : Str)
  | bin (op : Operator) (a b : C) | neg (a : C)
  | cmp (op : CmpOp) (a b : C) | chn (op op' : CmpOp) (a b c : C)
  | and (a b : C) | or (a b : C) | not (a : C) | tru (a : C) | ife (t a b : C)
  | anil | acons (a r : C) | astar (a r : C)
  | tup (a : C) | lst (a : C) | dct (a : C)
  | ix (a i : C) | slc (a lo hi : C) | nop | rev (a : C)
  | fld (a : C) (f : Str)
  | call (f : Str) (a : C) | calk (f : Str) (a k : C) (r : List Ar)
  | make (c : Str) (a : C) | mthd (o : C) (m : Str) (a : C) | mthk (o : C) (m : Str) (a k : C) (r : List Ar)
  | mthl (o : C) (m : Str) (a : C) | blt (f : Str) (a : C) | isi (a : C) (t : Str)
  | comp (elt tg it ifs : C) (own : List Nat)
  | it (k : Ik) (a : C)
  | fst (a : C)
inductive S where
  | skip | seq (s t : S) | exp (c : C) | asg (tg c : C) | six (o i c : C) | sfl (o : C) (f : Str) (c : C)
  | aug (i : Nat) (op : Operator) (c : C) | agx (o i : C) (op : Operator) (c : C) | agf (o : C) (f : Str) (op : Operator) (c : C)
  | ret (c : C) | retn | ite (t : C) (s u : S) | whl (t : C) (s : S) | forr (tg it : C) (s : S) | brk | cnt
  | rse (c : Str) (f : List Str) (a : C) | stop

/-- what a piece of code leans on -/
structure Sg where
  ph : Str → List Mv → Mh → Mr Mv
  cst : Str → Option Mv
  prop : Str → Str → Bool
  isc : Str → Str → Bool

/-! ### values -/
def line : Nat := 16777216
mutual
def toD (h : Mh) : Nat → Mv → Option PyData
  | 0, _ => none
  | n + 1, v => match v with
    | .non => some .none
    | .bl b => some (.bool b)
    | .int i => some (.int i)
    | .str x => some (.str x)
    | .tup xs => (toDs h n xs).map .tuple
    | .frl xs => (toDs h n xs).map .list
    | .ref k => match h[k]? with
      | some (.lst xs) => (toDs h n xs).map .list
      | _ => none
def toDs (h : Mh) : Nat → List Mv → Option (List PyData)
  | _, [] => some []
  | 0, _ :: _ => none
  | n + 1, x :: xs => match toD h n x, toDs h (n + 1) xs with
    | some d, some ds => some (d :: ds)
    | _, _ => none
end
def deep : Nat := 12
def eqM (h : Mh) (a b : Mv) : Option Bool := match toD h deep a, toD h deep b with
  | some d, some e => if SeqAt.shaped d && SeqAt.shaped e then some (PyData.eqv d e) else none
  | _, _ => none
def truM (h : Mh) : Mv → Option Bool
  | .non => some false
  | .bl b => some b
  | .int i => some (i != 0)
  | .tup xs => some (!xs.isEmpty)
  | .frl xs => some (!xs.isEmpty)
  | .ref k => match h[k]? with
    | some (.lst xs) => some (!xs.isEmpty)
    | _ => none
  | .str _ => none
def Mr.ofO {α : Type} (o : Option α) (h : Mh) : Mr α := match o with
  | some a => .ok a h
  | none => .err
def alloc (o : Mo) (h : Mh) : Mr Mv := .ok (.ref h.length) (h ++ [o])
def big (i : Int) : Bool := decide (-(2 ^ 64) < i) && decide (i < 2 ^ 64)
def opB (op : Operator) (a b : Mv) (h : Mh) : Mr Mv := match op, a, b with
  | .Add, .int i, .int j => .ok (.int (i + j)) h
  | .Sub, .int i, .int j => .ok (.int (i - j)) h
  | .Mult, .int i, .int j => if big i || big j then .ok (.int (i * j)) h else .err
  | .FloorDiv, .int i, .int j => if j ≠ 0 ∧ j.natAbs < 1073741824 then .ok (.int (i.fdiv j)) h else .err
  | .Mod, .int i, .int j => if j ≠ 0 then .ok (.int (i.fmod j)) h else .err
  | .Pow, .int i, .int j => if 0 ≤ j ∧ j ≤ 1000000 ∧ i.natAbs < 2 ^ 64 then .ok (.int (i ^ j.toNat)) h else .err
  | .Add, .tup xs, .tup ys => if xs.length + ys.length ≤ line then .ok (.tup (xs ++ ys)) h else .err
  | .Add, .str x, .str y => if x.length + y.length ≤ line then .ok (.str (x ++ y)) h else .err
  | .Add, .ref m, .ref n => match h[m]?, h[n]? with
    | some (.lst xs), some (.lst ys) => if xs.length + ys.length ≤ line then alloc (.lst (xs ++ ys)) h else .err
    | _, _ => .err
  | .Mult, .ref m, .int k => match h[m]? with
    | some (.lst xs) => if -(2 ^ 63) ≤ k ∧ k < 2 ^ 63 ∧ xs.length * k.toNat ≤ line then alloc (.lst (List.replicate k.toNat xs).flatten) h else .err
    | _ => .err
  | .Mult, .tup xs, .int k => if xs ≠ [] ∧ 2 ≤ k ∧ k ≤ 1000 ∧ xs.length ≤ 1000 then .ok (.tup (List.replicate k.toNat xs).flatten) h else .err
  | _, _, _ => .err
/-- op= by values: a list grows in its place -/
def opI (op : Operator) (a b : Mv) (h : Mh) : Mr Mv := match op, a, b with
  | .Add, .ref m, .ref n => match h[m]?, h[n]? with
    | some (.lst xs), some (.lst ys) => if xs.length + ys.length ≤ line then .ok (.ref m) (h.set m (.lst (xs ++ ys))) else .err
    | _, _ => .err
  | .Add, .int i, .int j => .ok (.int (i + j)) h
  | .Sub, .int i, .int j => .ok (.int (i - j)) h
  | _, _, _ => .err
def flatM : Mv → Bool
  | .non => true
  | .bl _ => true
  | .int _ => true
  | .str _ => true
  | _ => false
def opC (op : CmpOp) (a b : Mv) (h : Mh) : Mr Bool := match op, a, b with
  | .Lt, .int i, .int j => .ok (decide (i < j)) h
  | .LtE, .int i, .int j => .ok (decide (i ≤ j)) h
  | .Gt, .int i, .int j => .ok (decide (j < i)) h
  | .GtE, .int i, .int j => .ok (decide (j ≤ i)) h
  | .Eq, .int i, .int j => .ok (decide (i = j)) h
  | .Eq, .str i, .str j => .ok (decide (i = j)) h
  | .Eq, .bl i, .bl j => .ok (decide (i = j)) h
  | .NotEq, .int i, .int j => .ok (!decide (i = j)) h
  | .NotEq, .str i, .str j => .ok (!decide (i = j)) h
  | .NotEq, .bl i, .bl j => .ok (!decide (i = j)) h
  | .Eq, a, b => Mr.ofO (eqM h a b) h
  | .NotEq, a, b => Mr.ofO ((eqM h a b).map (!·)) h
  | .Is, .non, .non => .ok true h
  | .Is, .bl _, .non => .ok false h
  | .Is, .int _, .non => .ok false h
  | .Is, .str _, .non => .ok false h
  | .Is, .tup _, .non => .ok false h
  | .Is, .ref _, .non => .ok false h
  | .Is, .frl _, .non => .ok false h
  | .IsNot, .non, .non => .ok false h
  | .IsNot, .bl _, .non => .ok true h
  | .IsNot, .int _, .non => .ok true h
  | .IsNot, .str _, .non => .ok true h
  | .IsNot, .tup _, .non => .ok true h
  | .IsNot, .ref _, .non => .ok true h
  | .IsNot, .frl _, .non => .ok true h
  | _, _, _ => .err
def cutM {α : Type} (xs : List α) (lo hi : Option Int) : List α := (xs.drop (HT.sIx xs.length 0 lo)).take (HT.sIx xs.length xs.length hi - HT.sIx xs.length 0 lo)
def ixM (a i : Mv) (h : Mh) : Mr Mv := match a, i with
  | .tup xs, .int k => Mr.ofO (atI xs k) h
  | .frl xs, .int k => Mr.ofO (atI xs k) h
  | .ref n, .int k => match h[n]? with
    | some (.lst xs) => Mr.ofO (atI xs k) h
    | _ => .err
  | _, _ => .err
def partM : Mv → Option (Option Int)
  | .int i => some (some i)
  | _ => none
def slM (a : Mv) (lo hi : Option Int) (h : Mh) : Mr Mv := match a with
  | .tup xs => .ok (.tup (cutM xs lo hi)) h
  | .frl xs => alloc (.lst (cutM xs lo hi)) h
  | .ref n => match h[n]? with
    | some (.lst xs) => alloc (.lst (cutM xs lo hi)) h
    | _ => .err
  | _ => .err
def revM (a : Mv) (h : Mh) : Mr Mv := match a with
  | .tup xs => .ok (.tup xs.reverse) h
  | .ref n => match h[n]? with
    | some (.lst xs) => alloc (.lst xs.reverse) h
    | _ => .err
  | _ => .err
def setM (o i v : Mv) (h : Mh) : Mr Unit := match o, i with
  | .ref n, .int k => match h[n]? with
    | some (.lst xs) => match ixN xs.length k with
      | some j => .ok () (h.set n (.lst (xs.set j v)))
      | none => .err
    | _ => .err
  | _, _ => .err
def intsM : List Mv → Option (List Int)
  | [] => some []
  | .int i :: r => (intsM r).map (i :: ·)
  | _ :: _ => none
def blsM : List Mv → Option (List Bool)
  | [] => some []
  | .bl i :: r => (blsM r).map (i :: ·)
  | _ :: _ => none
def strsM : List Mv → Option (List Str)
  | [] => some []
  | .str i :: r => (strsM r).map (i :: ·)
  | _ :: _ => none
def itemsM (v : Mv) (h : Mh) : Option (List Mv) := match v with
  | .tup xs => some xs
  | .frl xs => some xs
  | .ref n => match h[n]? with
    | some (.lst xs) => some xs
    | _ => none
  | _ => none
def insI (a : Int) : List Int → List Int
  | [] => [a]
  | b :: r => if a ≤ b then a :: b :: r else b :: insI a r
def sortI : List Int → List Int
  | [] => []
  | a :: r => insI a (sortI r)
/-- tuples of ints -/
def tupsI : List Mv → Option (List (List Int))
  | [] => some []
  | .tup xs :: r => match intsM xs, tupsI r with
    | some ns, some l => some (ns :: l)
    | _, _ => none
  | _ :: _ => none
def bdB (B : Int) (ns : List Int) : Bool := ns.all fun x => decide (0 ≤ x) && decide (x < B)
/-- put in by the code, each once -/
def insK (a : List Int) : List (List Int) → List (List Int)
  | [] => [a]
  | b :: r => if _root_.TS.code 64 a < _root_.TS.code 64 b then a :: b :: r else if a = b then b :: r else b :: insK a r
def sortK : List (List Int) → List (List Int)
  | [] => []
  | a :: r => insK a (sortK r)
def evenB (ks : List (List Int)) : Bool := match ks with
  | [] => true
  | k :: r => decide (1 ≤ k.length) && bdB 64 k && r.all fun q => decide (q.length = k.length) && bdB 64 q
def ofInts (ns : List Int) : Mv := .tup (ns.map .int)
def reprM (h : Mh) (v : Mv) : Option Str := match toD h deep v with
  | some d => if d.showable && !d.hasDict && decide (d.depth ≤ 30) && decide (d.shown.length ≤ line) then some d.shown else none
  | none => none
/-- a built-in function by its name, on values -/
def bltM (f : Str) (ws : List Mv) (h : Mh) : Mr Mv :=
  if f = "len" then match ws with
    | [.tup xs] => .ok (.int xs.length) h
    | [.frl xs] => .ok (.int xs.length) h
    | [.ref n] => match h[n]? with
      | some (.lst xs) => .ok (.int xs.length) h
      | _ => .err
    | _ => .err
  else if f = "int" then match ws with
    | [.int i] => .ok (.int i) h
    | [.bl b] => .ok (.int (if b then 1 else 0)) h
    | _ => .err
  else if f = "abs" then match ws with
    | [.int i] => .ok (.int (if i < 0 then -i else i)) h
    | _ => .err
  else if f = "max" then match ws with
    | [.int i, .int j] => .ok (.int (if j > i then j else i)) h
    | _ => .err
  else if f = "min" then match ws with
    | [.int i, .int j] => .ok (.int (if j < i then j else i)) h
    | _ => .err
  else if f = "divmod" then match ws with
    | [.int i, .int j] => if 0 < j ∧ j < 1073741824 then .ok (.tup [.int (i / j), .int (i % j)]) h else .err
    | _ => .err
  else if f = "sum" then match ws with
    | [.ref n] => match (itemsM (.ref n) h).bind intsM with
      | some ns => .ok (.int ns.sum) h
      | none => .err
    | _ => .err
  else if f = "all" then match ws with
    | [.ref n] => match (itemsM (.ref n) h).bind blsM with
      | some bs => .ok (.bl (bs.all id)) h
      | none => .err
    | _ => .err
  else if f = "any" then match ws with
    | [.ref n] => match (itemsM (.ref n) h).bind blsM with
      | some bs => .ok (.bl (bs.any id)) h
      | none => .err
    | _ => .err
  else if f = "tuple" then match ws with
    | [v] => match itemsM v h with
      | some xs => .ok (.tup xs) h
      | none => .err
    | _ => .err
  else if f = "list" then match ws with
    | [v] => match itemsM v h with
      | some xs => alloc (.lst xs) h
      | none => .err
    | _ => .err
  else if f = "sorted" then match ws with
    | [.ref n] => match (itemsM (.ref n) h).bind intsM with
      | some ns => alloc (.lst ((sortI ns).map .int)) h
      | none => .err
    | _ => .err
  else if f = "sorted_down" then match ws with
    | [.ref n] => match (itemsM (.ref n) h).bind intsM with
      | some ns => alloc (.lst ((sortI ns).reverse.map .int)) h
      | none => .err
    | _ => .err
  else if f = "sorted_set" then match ws with
    | [.ref n] => match (itemsM (.ref n) h).bind tupsI with
      | some ks => if evenB ks && decide (ks.length < 64) then alloc (.lst ((sortK ks).map ofInts)) h else .err
      | none => .err
    | _ => .err
  else if f = "repr" then match ws with
    | [.ref n] => match reprM h (.ref n) with
      | some x => .ok (.str x) h
      | none => .err
    | [.tup xs] => match reprM h (.tup xs) with
      | some x => .ok (.str x) h
      | none => .err
    | _ => .err
  else .err
/-- a built-in method by its name -/
def mthM (m : Str) (o : Mv) (ws : List Mv) (h : Mh) : Mr Mv := match o with
  | .ref n => match h[n]? with
    | some (.lst xs) =>
      if m = "append" then match ws with
        | [v] => if xs.length < line then .ok .non (h.set n (.lst (xs ++ [v]))) else .err
        | _ => .err
      else if m = "insert" then match ws with
        | [.int i, v] => if 0 ≤ i ∧ i < 2 ^ 63 ∧ xs.length < line then .ok .non (h.set n (.lst (xs.take i.toNat ++ [v] ++ xs.drop i.toNat))) else .err
        | _ => .err
      else if m = "pop" then match ws with
        | [] => match xs[xs.length - 1]? with
          | some y => .ok y (h.set n (.lst xs.dropLast))
          | none => .err
        | _ => .err
      else .err
    | _ => .err
  | _ => .err

/-- a list of the small heap -/
def lstAt (v : Mv) (h : Mh) : Option Nat := match v with
  | .ref n => match h[n]? with
    | some (.lst _) => some n
    | _ => none
  | _ => none
/-- isinstance(w, t), t a built-in type -/
def isiM (t : Str) (w : Mv) (h : Mh) : Mr Mv := match w with
  | .non => .ok (.bl false) h
  | .bl _ => .ok (.bl (decide (t = "bool") || decide (t = "int"))) h
  | .int _ => .ok (.bl (decide (t = "int"))) h
  | .str _ => .ok (.bl (decide (t = "str"))) h
  | .tup _ => .ok (.bl (decide (t = "tuple"))) h
  | .frl _ => .ok (.bl (decide (t = "list"))) h
  | .ref n => match h[n]? with
    | some (.lst _) => .ok (.bl (decide (t = "list"))) h
    | _ => .err
/-! ### targets, frames -/
def asgM : C → Mv → Mf → Option Mf
  | .var i, v, fr => some (fr.set i (some v))
  | .tup t, v, fr => asgM t v fr
  | .anil, .tup [], fr => some fr
  | .acons t r, .tup (v :: vs), fr => (asgM t v fr).bind fun fr' => asgM r (.tup vs) fr'
  | _, _, _ => none
def wipeM (fr : Mf) : List Nat → Mf
  | [] => fr
  | v :: vs => (wipeM fr vs).set v none
def pick {α : Type} (ws zs : List α) : List Ar → List α
  | [] => []
  | .p i :: r => (ws[i]?).toList ++ pick ws zs r
  | .k j :: r => (zs[j]?).toList ++ pick ws zs r
def Mr.tups (r : Mr Mv) : Mr (List Mv) := r.bind fun v h => match v with
  | .tup xs => .ok xs h
  | _ => .err
def Mr.bool (r : Mr Mv) : Mr Bool := r.bind fun v h => match v with
  | .bl b => .ok b h
  | _ => .err
/-- no exception may leave -/
def Mr.cm {α : Type} (r : Mr α) : Mr α := match r with
  | .exc _ _ _ => .err
  | r => r
/-- a comprehension's turns over what is written down -/
def compL (f : Mf → Mh → Mr (Option Mv)) (tg : C) (fr : Mf) : List Mv → Mh → Mr (List Mv)
  | [], h => .ok [] h
  | x :: xs, h => match asgM tg x fr with
    | none => .err
    | some fr' => (f fr' h).cm.bind fun y h1 => (compL f tg fr xs h1).bind fun ys h2 => .ok (match y with | some y => y :: ys | none => ys) h2
/-- .. over a list of the small heap, read at each turn -/
def liveL (f : Mf → Mh → Mr (Option Mv)) (tg : C) (fr : Mf) (w : Mv) : Nat → Nat → Mh → Mr (List Mv)
  | k, i, h => match itemsM w h with
    | some xs => match xs[i]?, k with
      | none, _ => .ok [] h
      | some _, 0 => .err
      | some x, k + 1 => match asgM tg x fr with
        | none => .err
        | some fr' => (f fr' h).cm.bind fun y h1 => (liveL f tg fr w k (i + 1) h1).bind fun ys h2 => .ok (match y with | some y => y :: ys | none => ys) h2
    | none => .err
def compV (f : Mf → Mh → Mr (Option Mv)) (tg : C) (fr : Mf) (v : Mv) (h : Mh) : Mr (List Mv) := match v with
  | .tup xs => if xs.length ≤ line then compL f tg fr xs h else .err
  | .frl xs => if xs.length ≤ line then compL f tg fr xs h else .err
  | .ref n => match itemsM (.ref n) h with
    | some xs => if xs.length ≤ line then liveL f tg fr (.ref n) xs.length 0 h else .err
    | none => .err
  | _ => .err
def rngM : List Mv → Option (List Mv)
  | [.int j] => if -(2 ^ 62) ≤ j ∧ j < 2 ^ 62 then some ((List.range j.toNat).map fun (i : Nat) => Mv.int (i : Int)) else none
  | [.int i, .int j] => if -(2 ^ 62) ≤ i ∧ i < 2 ^ 62 ∧ -(2 ^ 62) ≤ j ∧ j < 2 ^ 62 then some ((List.range (j - i).toNat).map fun (m : Nat) => Mv.int (i + (m : Int))) else none
  | [.int i, .int j, .int c] => if c = -1 ∧ -(2 ^ 62) ≤ i ∧ i < 2 ^ 62 ∧ -(2 ^ 62) ≤ j ∧ j < 2 ^ 62 then some ((List.range (i - j).toNat).map fun (m : Nat) => Mv.int (i - (m : Int))) else none
  | _ => none
def enuM : List Mv → Option (List Mv)
  | [.tup xs] => some (xs.zipIdx.map fun p => .tup [.int (p.2 : Nat), p.1])
  | _ => none
def zipM : List Mv → Option (List Mv)
  | [.tup xs, .tup ys] => some ((xs.zip ys).map fun p => .tup [p.1, p.2])
  | _ => none

section
variable (G : Sg)
def ev : C → Mf → Mh → Mr Mv
  | .lit v, _, h => .ok v h
  | .var i, fr, h => match fr[i]? with
    | some (some v) => .ok v h
    | _ => .err
  | .cst x, _, h => Mr.ofO (G.cst x) h
  | .bin op a b, fr, h => (ev a fr h).bind fun x h1 => (ev b fr h1).bind fun y h2 => opB op x y h2
  | .neg a, fr, h => (ev a fr h).bind fun x h1 => match x with
    | .int i => .ok (.int (-i)) h1
    | _ => .err
  | .cmp op a b, fr, h => (ev a fr h).bind fun x h1 => (ev b fr h1).bind fun y h2 => (opC op x y h2).bind fun c h3 => .ok (.bl c) h3
  | .chn op op' a b c, fr, h => (ev a fr h).bind fun x h1 => (ev b fr h1).bind fun y h2 => (opC op x y h2).bind fun k h3 =>
      if k then (ev c fr h3).bind fun z h4 => (opC op' y z h4).bind fun k' h5 => .ok (.bl k') h5 else .ok (.bl false) h3
  | .and a b, fr, h => (ev a fr h).bool.bind fun c h1 => if c then (ev b fr h1).bool.bind fun d h2 => .ok (.bl d) h2 else .ok (.bl false) h1
  | .or a b, fr, h => (ev a fr h).bool.bind fun c h1 => if c then .ok (.bl true) h1 else (ev b fr h1).bool.bind fun d h2 => .ok (.bl d) h2
  | .not a, fr, h => (ev a fr h).bool.bind fun c h1 => .ok (.bl (!c)) h1
  | .tru a, fr, h => (ev a fr h).bind fun x h1 => Mr.ofO ((truM h1 x).map .bl) h1
  | .ife t a b, fr, h => (ev t fr h).bool.bind fun c h1 => if c then ev a fr h1 else ev b fr h1
  | .anil, _, h => .ok (.tup []) h
  | .acons a r, fr, h => (ev a fr h).bind fun x h1 => (ev r fr h1).tups.bind fun xs h2 => .ok (.tup (x :: xs)) h2
  | .astar a r, fr, h => (ev a fr h).bind fun x h1 => match itemsM x h1 with
    | some ys => (ev r fr h1).tups.bind fun xs h2 => .ok (.tup (ys ++ xs)) h2
    | none => .err
  | .tup a, fr, h => (ev a fr h).tups.bind fun xs h1 => if xs.length ≤ line then .ok (.tup xs) h1 else .err
  | .lst a, fr, h => (ev a fr h).tups.bind fun xs h1 => if xs.length ≤ line then alloc (.lst xs) h1 else .err
  | .dct _, _, _ => .err
  | .ix a i, fr, h => (ev a fr h).bind fun x h1 => (ev i fr h1).bind fun y h2 => ixM x y h2
  | .slc a lo hi, fr, h => (ev a fr h).bind fun x h1 => (ev lo fr h1).bind fun l h2 => (ev hi fr h2).bind fun u h3 => match l, u with
    | .non, .non => slM x none none h3
    | .int i, .non => slM x (some i) none h3
    | .non, .int j => slM x none (some j) h3
    | .int i, .int j => slM x (some i) (some j) h3
    | _, _ => .err
  | .nop, _, h => .ok .non h
  | .rev a, fr, h => (ev a fr h).bind fun x h1 => revM x h1
  | .fld a f, fr, h => (ev a fr h).bind fun x h1 => match x with
    | .ref n => match h1[n]? with
      | some (.ins c fs) => match fs.lookup f with
        | some v => .ok v h1
        | none => if G.prop c f then G.ph (c ++ "." ++ f) [.ref n] h1 else .err
      | _ => .err
    | _ => .err
  | .call f a, fr, h => (ev a fr h).tups.bind fun ws h1 => G.ph f ws h1
  | .calk f a k r, fr, h => (ev a fr h).tups.bind fun ws h1 => (ev k fr h1).tups.bind fun zs h2 => G.ph f (pick ws zs r) h2
  | .make c a, fr, h => (ev a fr h).tups.bind fun ws h1 => (G.ph (c ++ ".__init__") (.ref h1.length :: ws) (h1 ++ [.ins c []])).bind fun v h2 => match v with
    | .non => .ok (.ref h1.length) h2
    | _ => .err
  | .mthd o m a, fr, h => (ev o fr h).bind fun x h1 => (ev a fr h1).tups.bind fun ws h2 => match x with
    | .ref n => match h2[n]? with
      | some (.ins c _) => G.ph (c ++ "." ++ m) (.ref n :: ws) h2
      | _ => mthM m x ws h2
    | _ => mthM m x ws h2
  | .mthk o m a k r, fr, h => (ev o fr h).bind fun x h1 => (ev a fr h1).tups.bind fun ws h2 => (ev k fr h2).tups.bind fun zs h3 => match x with
    | .ref n => match h3[n]? with
      | some (.ins c _) => G.ph (c ++ "." ++ m) (pick (x :: ws) zs r) h3
      | _ => .err
    | _ => .err
  | .mthl o m a, fr, h => (ev o fr h).bind fun x h1 => match lstAt x h1 with
    | some n => (ev a fr h1).tups.bind fun ws h2 => match lstAt (.ref n) h2 with
      | some _ => mthM m (.ref n) ws h2
      | none => .err
    | none => .err
  | .blt f a, fr, h => (ev a fr h).tups.bind fun ws h1 => bltM f ws h1
  | .isi a t, fr, h => (ev a fr h).bind fun x h1 => isiM t x h1
  | .comp elt tg it ifs own, fr, h => (ev it fr h).bind fun v h1 => (compV (fun fr' h2 => (ev ifs fr' h2).bool.bind fun b h3 =>
      if b then (ev elt fr' h3).bind fun y h4 => .ok (some y) h4 else .ok none h3) tg (wipeM fr own) v h1).bind fun ys h5 => alloc (.lst ys) h5
  | .it k a, fr, h => (ev a fr h).tups.bind fun ws h1 => match k with
    | .rng => Mr.ofO ((rngM ws).map .tup) h1
    | .enu => Mr.ofO ((enuM ws).map .tup) h1
    | .zip => Mr.ofO ((zipM ws).map .tup) h1
    | .itm => match ws with
      | [v] => match itemsM v h1 with
        | some _ => .ok v h1
        | none => .err
      | _ => .err
  | .fst a, fr, h => (ev a fr h).bind fun x h1 => match x with
    | .int i => .ok (.int i) h1
    | _ => .err
end
end MP
namespace MP
open PySem PySem.Spec PyProof.Rows L2
/-! ### statements -/
def Mr.toS {α : Type} (r : Mr α) (fr : Mf) (k : α → Mh → Ms) : Ms := match r with
  | .ok a h => k a h
  | .exc c p h => .exc c p fr h
  | .err => .err
def loopL (f : Mv → Mf → Mh → Ms) : List Mv → Mf → Mh → Ms
  | [], fr, h => .nx fr h
  | x :: xs, fr, h => match f x fr h with
    | .nx fr' h' => loopL f xs fr' h'
    | .ct fr' h' => loopL f xs fr' h'
    | .bk fr' h' => .nx fr' h'
    | r => r
def loopN (f : Mv → Mf → Mh → Ms) (w : Mv) : Nat → Nat → Mf → Mh → Ms
  | k, i, fr, h => match itemsM w h with
    | some xs => match xs[i]?, k with
      | none, _ => .nx fr h
      | some _, 0 => .err
      | some x, k + 1 => match f x fr h with
        | .nx fr' h' => loopN f w k (i + 1) fr' h'
        | .ct fr' h' => loopN f w k (i + 1) fr' h'
        | .bk fr' h' => .nx fr' h'
        | r => r
    | none => .err
/-- a list that grows is walked on: what is added is at most this -/
def grows : Nat := 1000
def loopV (f : Mv → Mf → Mh → Ms) (v : Mv) (fr : Mf) (h : Mh) : Ms := match v with
  | .tup xs => loopL f xs fr h
  | .frl xs => loopL f xs fr h
  | .ref n => match itemsM (.ref n) h with
    | some xs => loopN f (.ref n) (xs.length + grows) 0 fr h
    | none => .err
  | _ => .err
def loopW (t : Mf → Mh → Mr Bool) (f : Mf → Mh → Ms) : Nat → Mf → Mh → Ms
  | 0, _, _ => .err
  | k + 1, fr, h => (t fr h).toS fr fun b h1 => if b then match f fr h1 with
      | .nx fr' h' => loopW t f k fr' h'
      | .ct fr' h' => loopW t f k fr' h'
      | .bk fr' h' => .nx fr' h'
      | r => r
    else .nx fr h1
def turns : Nat := 1000000
def putM (f : Str) (v : Mv) : List (Str × Mv) → List (Str × Mv)
  | [] => [(f, v)]
  | (g, x) :: r => if g = f then (g, v) :: r else (g, x) :: putM f v r
def asgX (G : Sg) : C → Mv → Mf → Mh → Option (Mf × Mh)
  | .var i, v, fr, h => some (fr.set i (some v), h)
  | .tup t, v, fr, h => asgX G t v fr h
  | .anil, .tup [], fr, h => some (fr, h)
  | .acons t r, .tup (v :: vs), fr, h => (asgX G t v fr h).bind fun p => asgX G r (.tup vs) p.1 p.2
  | .ix o i, v, fr, h => match ev G o fr h with
    | .ok x h1 => match ev G i fr h1 with
      | .ok y h2 => match setM x y v h2 with
        | .ok _ h3 => some (fr, h3)
        | _ => none
      | _ => none
    | _ => none
  | _, _, _, _ => none
def sflM (o : Mv) (f : Str) (v : Mv) (h : Mh) : Mr Unit := match o with
  | .ref n => match h[n]? with
    | some (.ins c fs) => if fs.length < 1000 then .ok () (h.set n (.ins c (putM f v fs))) else .err
    | _ => .err
  | _ => .err
def fldM (o : Mv) (f : Str) (h : Mh) : Mr Mv := match o with
  | .ref n => match h[n]? with
    | some (.ins _ fs) => Mr.ofO (fs.lookup f) h
    | _ => .err
  | _ => .err
section
variable (G : Sg)
def exec : S → Mf → Mh → Ms
  | .skip, fr, h => .nx fr h
  | .seq s t, fr, h => match exec s fr h with
    | .nx fr' h' => exec t fr' h'
    | r => r
  | .exp c, fr, h => (ev G c fr h).toS fr fun _ h1 => .nx fr h1
  | .asg tg c, fr, h => (ev G c fr h).toS fr fun v h1 => match asgX G tg v fr h1 with
    | some p => .nx p.1 p.2
    | none => .err
  | .six o i c, fr, h => (ev G c fr h).toS fr fun v h1 => (ev G o fr h1).toS fr fun x h2 => (ev G i fr h2).toS fr fun y h3 => (setM x y v h3).toS fr fun _ h4 => .nx fr h4
  | .sfl o f c, fr, h => (ev G c fr h).toS fr fun v h1 => (ev G o fr h1).toS fr fun x h2 => (sflM x f v h2).toS fr fun _ h3 => .nx fr h3
  | .aug i op c, fr, h => match fr[i]? with
    | some (some x) => (ev G c fr h).toS fr fun y h1 => (opI op x y h1).toS fr fun z h2 => .nx (fr.set i (some z)) h2
    | _ => .err
  | .agx o i op c, fr, h => (ev G o fr h).toS fr fun x h1 => (ev G i fr h1).toS fr fun y h2 => (ixM x y h2).toS fr fun z h3 => (ev G c fr h3).toS fr fun w h4 => (opI op z w h4).toS fr fun u h5 => (setM x y u h5).toS fr fun _ h6 => .nx fr h6
  | .agf o f op c, fr, h => (ev G o fr h).toS fr fun x h1 => (fldM x f h1).toS fr fun z h2 => (ev G c fr h2).toS fr fun w h3 => (opI op z w h3).toS fr fun u h4 => (sflM x f u h4).toS fr fun _ h5 => .nx fr h5
  | .ret c, fr, h => (ev G c fr h).toS fr fun v h1 => .rt v h1
  | .retn, _, h => .rt .non h
  | .ite t s u, fr, h => (ev G t fr h).bool.toS fr fun b h1 => if b then exec s fr h1 else exec u fr h1
  | .whl t s, fr, h => loopW (fun fr h => (ev G t fr h).bool) (fun fr h => exec s fr h) turns fr h
  | .forr tg it s, fr, h => (ev G it fr h).toS fr fun v h1 => loopV (fun x fr h => match asgM tg x fr with
      | some fr' => exec s fr' h
      | none => .err) v fr h1
  | .brk, fr, h => .bk fr h
  | .cnt, fr, h => .ct fr h
  | .rse c fl a, fr, h => (ev G a fr h).tups.toS fr fun ws h1 => if fl.length = ws.length then .exc c (fl.zip ws) fr h1 else .err
  | .stop, _, _ => .err
end
/-- a def's frame, its run -/
def frameM (n : Nat) (ws : List Mv) : Mf := ws.map some ++ List.replicate (n - ws.length) none
def finM : Ms → Mr Mv
  | .nx _ h => .ok .non h
  | .rt v h => .ok v h
  | .exc c p _ h => .exc c p h
  | _ => .err
def runM (G : Sg) (n : Nat) (b : S) (ws : List Mv) (h : Mh) : Mr Mv := finM (exec G b (frameM n ws) h)
end MP

/-! the operations on values hold -/
namespace MP
open PySem PySem.Spec PyProof.Rows L2

/-- the world's side of a context -/
abbrev tbX (X : Cx) (ca : Str → Addr) : Tb := ⟨X.prog, X.w, X.K, X.mg, X.base, ca⟩

section
variable {K : PySem.W.Frag} {ph : List Addr} {H : Hp}
theorem RWs.nil : RWs K ph H [] [] := by unfold RWs; rfl
theorem RWs.cons {w : Mv} {v : V} {ws : List Mv} {vs : List V} (a : RW K ph H w v) (b : RWs K ph H ws vs) : RWs K ph H (w :: ws) (v :: vs) := by unfold RWs; exact ⟨v, vs, rfl, a, b⟩
theorem RWs.inv {w : Mv} {ws : List Mv} {vs : List V} (r : RWs K ph H (w :: ws) vs) : ∃ v r', vs = v :: r' ∧ RW K ph H w v ∧ RWs K ph H ws r' := by unfold RWs at r; exact r
theorem RWs.inv_nil {vs : List V} (r : RWs K ph H [] vs) : vs = [] := by unfold RWs at r; exact r
theorem RWs.length : ∀ {ws : List Mv} {vs : List V}, RWs K ph H ws vs → ws.length = vs.length
  | [], vs, r => by rw [r.inv_nil]; rfl
  | w :: ws, vs, r => by
    obtain ⟨v, r', rfl, a, b⟩ := r.inv
    simp [RWs.length b]
theorem RWs.append : ∀ {ws ws' : List Mv} {vs vs' : List V}, RWs K ph H ws vs → RWs K ph H ws' vs' → RWs K ph H (ws ++ ws') (vs ++ vs')
  | [], _, vs, _, r, r' => by rw [r.inv_nil]; exact r'
  | w :: ws, _, vs, _, r, r' => by
    obtain ⟨v, t, rfl, a, b⟩ := r.inv
    exact .cons a (RWs.append b r')
theorem RWs.take : ∀ {ws : List Mv} {vs : List V} (n : Nat), RWs K ph H ws vs → RWs K ph H (ws.take n) (vs.take n)
  | ws, vs, 0, _ => by simp only [List.take_zero]; exact .nil
  | [], vs, n + 1, r => by rw [r.inv_nil]; exact .nil
  | w :: ws, vs, n + 1, r => by
    obtain ⟨v, t, rfl, a, b⟩ := r.inv
    exact .cons a (RWs.take n b)
theorem RWs.drop : ∀ {ws : List Mv} {vs : List V} (n : Nat), RWs K ph H ws vs → RWs K ph H (ws.drop n) (vs.drop n)
  | ws, vs, 0, r => r
  | [], vs, n + 1, r => by rw [r.inv_nil]; exact .nil
  | w :: ws, vs, n + 1, r => by
    obtain ⟨v, t, rfl, a, b⟩ := r.inv
    exact RWs.drop n b
theorem RWs.reverse : ∀ {ws : List Mv} {vs : List V}, RWs K ph H ws vs → RWs K ph H ws.reverse vs.reverse
  | [], vs, r => by rw [r.inv_nil]; exact .nil
  | w :: ws, vs, r => by
    obtain ⟨v, t, rfl, a, b⟩ := r.inv
    rw [List.reverse_cons, List.reverse_cons]
    exact RWs.append (RWs.reverse b) (.cons a .nil)
theorem RWs.get : ∀ {ws : List Mv} {vs : List V} {i : Nat} {w : Mv}, RWs K ph H ws vs → ws[i]? = some w → ∃ v, vs[i]? = some v ∧ RW K ph H w v
  | [], _, i, w, r, e => by simp at e
  | w :: ws, vs, 0, w', r, e => by
    obtain ⟨v, t, rfl, a, b⟩ := r.inv
    simp at e; subst e
    exact ⟨v, rfl, a⟩
  | w :: ws, vs, i + 1, w', r, e => by
    obtain ⟨v, t, rfl, a, b⟩ := r.inv
    obtain ⟨v', h1, h2⟩ := RWs.get (i := i) b (by simpa using e)
    exact ⟨v', by simpa using h1, h2⟩
theorem RWs.get' : ∀ {ws : List Mv} {vs : List V} {i : Nat} {v : V}, RWs K ph H ws vs → vs[i]? = some v → ∃ w, ws[i]? = some w ∧ RW K ph H w v := fun {ws vs i v} r e => by
  have hl : i < ws.length := by rw [r.length]; exact (List.getElem?_eq_some_iff.mp e).1
  obtain ⟨v', h1, h2⟩ := r.get (List.getElem?_eq_getElem hl)
  rw [e] at h1; cases h1
  exact ⟨_, List.getElem?_eq_getElem hl, h2⟩
theorem RWs.set {w : Mv} {v : V} (a : RW K ph H w v) : ∀ {ws : List Mv} {vs : List V} (i : Nat), RWs K ph H ws vs → RWs K ph H (ws.set i w) (vs.set i v)
  | [], vs, i, r => by rw [r.inv_nil]; simp; exact .nil
  | w :: ws, vs, 0, r => by
    obtain ⟨v', t, rfl, a', b⟩ := r.inv
    exact .cons a b
  | w :: ws, vs, i + 1, r => by
    obtain ⟨v', t, rfl, a', b⟩ := r.inv
    exact .cons a' (RWs.set a i b)
theorem RWs.rep {ws : List Mv} {vs : List V} (r : RWs K ph H ws vs) : ∀ n : Nat, RWs K ph H (List.replicate n ws).flatten (List.replicate n vs).flatten
  | 0 => .nil
  | n + 1 => by
    rw [List.replicate_succ, List.replicate_succ, List.flatten_cons, List.flatten_cons]
    exact r.append (RWs.rep r n)
theorem RWs.ints : ∀ {ws : List Mv} {vs : List V} {ns : List Int}, RWs K ph H ws vs → intsM ws = some ns → vs = ns.map V.int
  | [], vs, ns, r, e => by cases e; rw [r.inv_nil]; rfl
  | .int i :: ws, vs, ns, r, e => by
    obtain ⟨v, t, rfl, a, b⟩ := r.inv
    unfold intsM at e
    cases q : intsM ws with
    | none => rw [q] at e; cases e
    | some ms =>
      rw [q] at e; cases e
      rw [RWs.ints b q]
      unfold RW at a
      subst a; rfl
  | .non :: _, _, _, _, e => nomatch e
  | .bl _ :: _, _, _, _, e => nomatch e
  | .str _ :: _, _, _, _, e => nomatch e
  | .tup _ :: _, _, _, _, e => nomatch e
  | .ref _ :: _, _, _, _, e => nomatch e
  | .frl _ :: _, _, _, _, e => nomatch e
theorem RWs.bls : ∀ {ws : List Mv} {vs : List V} {ns : List Bool}, RWs K ph H ws vs → blsM ws = some ns → vs = ns.map V.bl
  | [], vs, ns, r, e => by cases e; rw [r.inv_nil]; rfl
  | .bl i :: ws, vs, ns, r, e => by
    obtain ⟨v, t, rfl, a, b⟩ := r.inv
    unfold blsM at e
    cases q : blsM ws with
    | none => rw [q] at e; cases e
    | some ms =>
      rw [q] at e; cases e
      rw [RWs.bls b q]
      unfold RW at a
      subst a; rfl
  | .non :: _, _, _, _, e => nomatch e
  | .int _ :: _, _, _, _, e => nomatch e
  | .str _ :: _, _, _, _, e => nomatch e
  | .tup _ :: _, _, _, _, e => nomatch e
  | .ref _ :: _, _, _, _, e => nomatch e
  | .frl _ :: _, _, _, _, e => nomatch e
theorem RWs.ofInts : ∀ (ns : List Int), RWs K ph H (ns.map Mv.int) (ns.map V.int)
  | [] => .nil
  | n :: ns => .cons (by unfold RW; rfl) (RWs.ofInts ns)
theorem RW.non : RW K ph H .non .non := by unfold RW; rfl
theorem RW.bl (b : Bool) : RW K ph H (.bl b) (.bl b) := by unfold RW; rfl
theorem RW.int (i : Int) : RW K ph H (.int i) (.int i) := by unfold RW; rfl
theorem RW.str (x : Str) : RW K ph H (.str x) (.str x) := by unfold RW; rfl
theorem RW.i_non {v : V} (r : RW K ph H .non v) : v = .non := by unfold RW at r; exact r
theorem RW.i_bl {v : V} {b : Bool} (r : RW K ph H (.bl b) v) : v = .bl b := by unfold RW at r; exact r
theorem RW.i_int {v : V} {b : Int} (r : RW K ph H (.int b) v) : v = .int b := by unfold RW at r; exact r
theorem RW.i_str {v : V} {b : Str} (r : RW K ph H (.str b) v) : v = .str b := by unfold RW at r; exact r
theorem RW.i_tup {v : V} {ws : List Mv} (r : RW K ph H (.tup ws) v) : ∃ a vs, v = .ref a ∧ SqT K H a vs ∧ RWs K ph H ws vs := by unfold RW at r; exact r
theorem RW.i_frl {v : V} {ws : List Mv} (r : RW K ph H (.frl ws) v) : ∃ a vs, v = .ref a ∧ SqF K H a vs ∧ RWs K ph H ws vs := by unfold RW at r; exact r
theorem RW.i_ref {v : V} {n : Nat} (r : RW K ph H (.ref n) v) : ∃ a, ph[n]? = some a ∧ v = .ref a := by unfold RW at r; exact r
theorem RW.tup {a : Addr} {ws : List Mv} {vs : List V} (s : SqT K H a vs) (r : RWs K ph H ws vs) : RW K ph H (.tup ws) (.ref a) := by unfold RW; exact ⟨a, vs, rfl, s, r⟩
theorem RW.frl {a : Addr} {ws : List Mv} {vs : List V} (s : SqF K H a vs) (r : RWs K ph H ws vs) : RW K ph H (.frl ws) (.ref a) := by unfold RW; exact ⟨a, vs, rfl, s, r⟩
theorem RW.ref {a : Addr} {n : Nat} (e : ph[n]? = some a) : RW K ph H (.ref n) (.ref a) := by unfold RW; exact ⟨a, e, rfl⟩
end
theorem line_eq : line = sizeLine := sizeLine_eq.symm

section
variable {T : Tb} {ph : List Addr} {H : Hp} {h : Mh} {a : Addr} {Q : VK} {E : XK} {u : HO} {o : Mo} {n : Nat}
theorem post_same {w : Mv} {v : V} (R : RelH T ph H h) (r : RW T.K ph H w v) (p : PostV T ph H (.ok w h) Q E) : Q v H := p ph v H .refl R r
theorem post_alloc (R : RelH T ph H h) (p : PostV T ph H (alloc o h) Q E) (hp : H a = none) (ho : ∀ x : Ext T.K ph (ph ++ [a]) H (upd H a u), OR T (ph ++ [a]) (upd H a u) a o) : Q (.ref a) (upd H a u) := by
  have x : Ext T.K ph (ph ++ [a]) H (upd H a u) := ⟨List.prefix_append _ _, kp_fresh hp, fun b o e _ => by rw [upd_ne (ne_of_none e hp)]; exact e, fun b m n => by
    rcases List.mem_append.mp m with z | z
    · exact absurd z n
    · rw [show b = a by simpa using z]; exact hp⟩
  obtain ⟨R', x'⟩ := R.alloc hp (ho x)
  refine p _ _ _ x' R' (RW.ref ?_)
  rw [← R.len, List.getElem?_append_right (Nat.le_refl _), Nat.sub_self]; rfl
theorem post_lst {ws : List Mv} {vs : List V} (R : RelH T ph H h) (p : PostV T ph H (alloc (.lst ws) h) Q E) (r : RWs T.K ph H ws vs) (hp : H a = none) : Q (.ref a) (upd H a (.lst vs)) :=
  post_alloc R p hp fun x => ⟨vs, upd_same, RWs.ext x r⟩
theorem post_tup {ws : List Mv} {vs : List V} (R : RelH T ph H h) (p : PostV T ph H (.ok (.tup ws) h) Q E) (r : RWs T.K ph H ws vs) (hp : H a = none) : Q (.ref a) (upd H a (.tup vs)) :=
  p ph _ _ (ext_fresh hp) (R.fresh hp) (RW.tup (SqT.of upd_same) (RWs.ext (ext_fresh hp) r))
/-- the list at n is written -/
theorem post_set {α β : Type} {RA : List Addr → Hp → α → β → Prop} {Q : β → Hp → Prop} {w : α} {b : β} {xs ws : List Mv} {vs : List V} (R : RelH T ph H h) (p : Post T ph H RA (.ok w (h.set n (.lst ws))) Q E) (e : h[n]? = some (.lst xs)) (ha : ph[n]? = some a) (r : RWs T.K ph H ws vs)
    (hb : ∀ H', Ext T.K ph ph H H' → RA ph H' w b) : Q b (upd H a (.lst vs)) := by
  obtain ⟨b', hb', vs0, e0, _⟩ := R.ob n _ e
  rw [ha] at hb'; cases hb'
  have x : Ext T.K ph ph H (upd H a (.lst vs)) := ⟨List.prefix_refl _, kp_write e0 (fun _ z => by cases z) (fun _ _ z => by cases z), fun b o e n' => by rw [upd_ne (fun z : b = a => n' (by rw [z]; exact List.mem_of_getElem? ha))]; exact e, fun _ h n => absurd h n⟩
  obtain ⟨R', x'⟩ := R.set ha e0 (fun _ z => by cases z) (fun _ _ z => by cases z) (u := .lst vs) (o := .lst ws) ⟨vs, upd_same, RWs.ext x r⟩
  exact p _ _ _ x' R' (hb _ x')
theorem RelH.lst {xs : List Mv} {v : V} (R : RelH T ph H h) (r : RW T.K ph H (.ref n) v) (e : h[n]? = some (.lst xs)) : ∃ a vs, v = .ref a ∧ ph[n]? = some a ∧ H a = some (.lst vs) ∧ RWs T.K ph H xs vs := by
  obtain ⟨a, h1, h2, vs, h3, h4⟩ := R.at r e
  exact ⟨a, vs, h1, h2, h3, h4⟩
/-- what is read as a list -/
theorem RelH.seqL {xs : List Mv} {v : V} (R : RelH T ph H h) (r : RW T.K ph H (.ref n) v) (e : itemsM (.ref n) h = some xs) : ∃ a vs, v = .ref a ∧ ph[n]? = some a ∧ SqL T.K H a vs ∧ RWs T.K ph H xs vs := by
  unfold itemsM at e
  dsimp only at e
  split at e
  · rename_i ys q
    cases e
    obtain ⟨a, h1, h2, vs, h3, h4⟩ := R.at r q
    exact ⟨a, vs, h1, h2, SqL.of h3, h4⟩
  · cases e
end

/-- a two-place operation of the small language -/
def rdO (T : Tb) (f : Mv → Mv → Mh → Mr Mv) : R2 := fun x y H Q => ∃ E : XK, ∃ ph a b h, RelH T ph H h ∧ RW T.K ph H a x ∧ RW T.K ph H b y ∧ PostV T ph H (f a b h) Q E
section
variable {X : Cx} {ca : Str → Addr}
theorem CMul.of {i j : Int} (h : (big i || big j) = true) : CMul i j := by
  unfold big at h
  simp only [Bool.or_eq_true, Bool.and_eq_true, decide_eq_true_eq] at h
  exact h
theorem opB_ok (op : Operator) : OpR X (binaryOp op) (rdO (tbX X ca) (opB op)) := by
  intro pins s σ H x y v u Q I rx ry h
  obtain ⟨E, ph, a, b, h, R, ra, rb, p⟩ := h
  unfold opB at p
  split at p
  · rw [ra.i_int] at rx; rw [rb.i_int] at ry
    exact op_add pins s σ H _ _ v u Q I rx ry ⟨_, _, rfl, rfl, post_same R (.int _) p⟩
  · rw [ra.i_int] at rx; rw [rb.i_int] at ry
    exact op_sub pins s σ H _ _ v u Q I rx ry ⟨_, _, rfl, rfl, post_same R (.int _) p⟩
  · rw [ra.i_int] at rx; rw [rb.i_int] at ry
    split at p
    · rename_i hb
      exact op_mul pins s σ H _ _ v u Q I rx ry ⟨_, _, rfl, rfl, CMul.of hb, post_same R (.int _) p⟩
    · exact p.elim
  · rw [ra.i_int] at rx; rw [rb.i_int] at ry
    split at p
    · rename_i hb
      exact op_fdivN pins s σ H _ _ v u Q I rx ry ⟨_, _, rfl, rfl, hb, post_same R (.int _) p⟩
    · exact p.elim
  · rw [ra.i_int] at rx; rw [rb.i_int] at ry
    split at p
    · rename_i hb
      exact op_modN pins s σ H _ _ v u Q I rx ry ⟨_, _, rfl, rfl, hb, post_same R (.int _) p⟩
    · exact p.elim
  · rw [ra.i_int] at rx; rw [rb.i_int] at ry
    split at p
    · rename_i hb
      exact op_pow pins s σ H _ _ v u Q I rx ry ⟨_, _, rfl, rfl, hb, post_same R (.int _) p⟩
    · exact p.elim
  · obtain ⟨a1, vs, rfl, s1, r1⟩ := ra.i_tup
    obtain ⟨a2, ws, rfl, s2, r2⟩ := rb.i_tup
    split at p
    · rename_i hb
      refine op_catA pins s σ H _ _ v u Q I rx ry ⟨a1, a2, vs, ws, rfl, rfl, s1, s2, ?_, fun z => ?_, fun z z2 => ?_, fun z z2 q hq => ?_⟩
      · rw [← r1.length, ← r2.length, ← line_eq]; exact hb
      · subst z
        have : (_ : List Mv) = [] := List.length_eq_zero_iff.mp r1.length
        subst this
        exact post_same R (RW.tup s2 (by simpa using r2)) p
      · subst z2
        have : (_ : List Mv) = [] := List.length_eq_zero_iff.mp r2.length
        subst this
        exact post_same R (RW.tup s1 (by simpa using r1)) p
      · exact post_tup R p (r1.append r2) hq
    · exact p.elim
  · rw [ra.i_str] at rx; rw [rb.i_str] at ry
    split at p
    · rename_i hb
      exact op_add_str pins s σ H _ _ v u Q I rx ry ⟨_, _, rfl, rfl, by rw [← line_eq]; exact hb, post_same R (.str _) p⟩
    · exact p.elim
  · split at p
    · rename_i q1 q2
      obtain ⟨a1, vs, rfl, _, s1, r1⟩ := R.lst ra q1
      obtain ⟨a2, ws, rfl, _, s2, r2⟩ := R.lst rb q2
      split at p
      · rename_i hb
        exact op_cat pins s σ H _ _ v u Q I rx ry ⟨a1, a2, vs, ws, rfl, rfl, s1, s2, by rw [← r1.length, ← r2.length, ← line_eq]; exact hb, fun q hq => post_lst R p (r1.append r2) hq⟩
      · exact p.elim
    · exact p.elim
  · rw [rb.i_int] at ry
    split at p
    · rename_i q1
      obtain ⟨a1, vs, rfl, _, s1, r1⟩ := R.lst ra q1
      split at p
      · rename_i hb
        exact op_rep pins s σ H _ _ v u Q I rx ry ⟨a1, _, vs, rfl, rfl, s1, hb.1, hb.2.1, by rw [← r1.length, ← line_eq]; exact hb.2.2, fun q hq => post_lst R p (r1.rep _) hq⟩
      · exact p.elim
    · exact p.elim
  · rw [rb.i_int] at ry
    obtain ⟨a1, vs, rfl, s1, r1⟩ := ra.i_tup
    split at p
    · rename_i hb
      refine op_repT pins s σ H _ _ v u Q I rx ry ⟨a1, _, vs, rfl, rfl, s1, fun z => hb.1 ?_, hb.2.1, hb.2.2.1, by rw [← r1.length]; exact hb.2.2.2, fun q hq => post_tup R p (r1.rep _) hq⟩
      subst z
      exact List.length_eq_zero_iff.mp r1.length
    · exact p.elim
  · exact p.elim
end
end MP

/-! comparisons, places, slices, built-in functions on values hold -/
namespace MP
open PySem PySem.Spec PyProof.Rows L2

section
variable {T : Tb} {ph : List Addr} {H : Hp} {h : Mh}
mutual
theorem toD_ok (R : RelH T ph H h) : ∀ (n : Nat) (w : Mv) (v : V) (d : PyData), RW T.K ph H w v → toD h n w = some d → Dp T.K H v d
  | 0, _, _, _, _, e => by unfold toD at e; cases e
  | n + 1, w, v, d, r, e => by
    unfold toD at e
    cases w with
    | non => cases e; rw [r.i_non]; exact .non
    | bl b => cases e; rw [r.i_bl]; exact .bl b
    | int b => cases e; rw [r.i_int]; exact .int b
    | str b => cases e; rw [r.i_str]; exact .str b
    | tup xs =>
      obtain ⟨a, vs, rfl, s, rs⟩ := r.i_tup
      dsimp only at e
      cases q : toDs h n xs with
      | none => rw [q] at e; cases e
      | some ds =>
        rw [q] at e; cases e
        exact .tup s (toDs_ok R n xs vs ds rs q)
    | ref k =>
      dsimp only at e
      split at e
      · rename_i xs q
        obtain ⟨a, vs, rfl, _, s, rs⟩ := R.lst r q
        cases q : toDs h n xs with
        | none => rw [q] at e; cases e
        | some ds =>
          rw [q] at e; cases e
          exact .lst (SqL.of s) (toDs_ok R n xs vs ds rs q)
      · cases e
    | frl xs =>
      obtain ⟨a, vs, rfl, s, rs⟩ := r.i_frl
      dsimp only at e
      cases q : toDs h n xs with
      | none => rw [q] at e; cases e
      | some ds =>
        rw [q] at e; cases e
        exact .lst s.sq (toDs_ok R n xs vs ds rs q)
theorem toDs_ok (R : RelH T ph H h) : ∀ (n : Nat) (ws : List Mv) (vs : List V) (ds : List PyData), RWs T.K ph H ws vs → toDs h n ws = some ds → DpAll T.K H vs ds
  | n, [], vs, ds, r, e => by
    unfold toDs at e; cases e
    rw [r.inv_nil]; exact .nil
  | 0, _ :: _, _, _, _, e => by unfold toDs at e; cases e
  | n + 1, w :: ws, vs, ds, r, e => by
    obtain ⟨v, t, rfl, a, b⟩ := r.inv
    unfold toDs at e
    cases q1 : toD h n w with
    | none => rw [q1] at e; cases e
    | some d =>
      cases q2 : toDs h (n + 1) ws with
      | none => rw [q1, q2] at e; cases e
      | some ds' =>
        rw [q1, q2] at e; cases e
        exact .cons (toD_ok R n w v d a q1) (toDs_ok R (n + 1) ws t ds' b q2)
end
theorem eqM_ok (R : RelH T ph H h) {a b : Mv} {x y : V} {c : Bool} (ra : RW T.K ph H a x) (rb : RW T.K ph H b y) (e : eqM h a b = some c) : ∃ d d', Dp T.K H x d ∧ Dp T.K H y d' ∧ SeqAt.shaped d = true ∧ SeqAt.shaped d' = true ∧ PyData.eqv d d' = c := by
  unfold eqM at e
  split at e
  · rename_i d d' q1 q2
    split at e
    · rename_i hs
      simp only [Bool.and_eq_true] at hs
      exact ⟨d, d', toD_ok R _ _ _ _ ra q1, toD_ok R _ _ _ _ rb q2, hs.1, hs.2, Option.some.inj e⟩
    · cases e
  · cases e
end

/-- a comparison of the small language: a bool -/
def rdC (T : Tb) (f : Mv → Mv → Mh → Mr Bool) : R2 := fun x y H Q => ∃ E : XK, ∃ ph a b h, RelH T ph H h ∧ RW T.K ph H a x ∧ RW T.K ph H b y ∧ Post T ph H (fun _ _ (c : Bool) (v : V) => v = .bl c) (f a b h) Q E
section
variable {X : Cx} {ca : Str → Addr}
theorem post_bl {T : Tb} {ph : List Addr} {H : Hp} {h : Mh} {c : Bool} {Q : VK} {E : XK} (R : RelH T ph H h) (p : Post T ph H (fun _ _ (c : Bool) (v : V) => v = .bl c) (.ok c h) Q E) : Q (.bl c) H := p ph _ H .refl R rfl
theorem opC_ok (op : CmpOp) (hu : X.A.units + 64 < cLine) : OpR X (compareOp op) (rdC (tbX X ca) (opC op)) := by
  intro pins s σ H x y v u Q I rx ry h
  obtain ⟨E, ph, a, b, h, R, ra, rb, p⟩ := h
  unfold opC at p
  split at p
  · rw [ra.i_int] at rx; rw [rb.i_int] at ry
    exact op_lt pins s σ H _ _ v u Q I rx ry ⟨_, _, rfl, rfl, post_bl R p⟩
  · rw [ra.i_int] at rx; rw [rb.i_int] at ry
    exact op_le pins s σ H _ _ v u Q I rx ry ⟨_, _, rfl, rfl, post_bl R p⟩
  · rw [ra.i_int] at rx; rw [rb.i_int] at ry
    exact op_gt pins s σ H _ _ v u Q I rx ry ⟨_, _, rfl, rfl, post_bl R p⟩
  · rw [ra.i_int] at rx; rw [rb.i_int] at ry
    exact op_ge pins s σ H _ _ v u Q I rx ry ⟨_, _, rfl, rfl, post_bl R p⟩
  · rw [ra.i_int] at rx; rw [rb.i_int] at ry
    have p2 := post_bl R p
    exact op_eq pins s σ H _ _ v u Q I rx ry ⟨rfl, by simpa using p2⟩
  · rw [ra.i_str] at rx; rw [rb.i_str] at ry
    have p2 := post_bl R p
    exact op_eq pins s σ H _ _ v u Q I rx ry ⟨rfl, by simpa using p2⟩
  · rw [ra.i_bl] at rx; rw [rb.i_bl] at ry
    have p2 := post_bl R p
    exact op_eq pins s σ H _ _ v u Q I rx ry ⟨rfl, by simpa using p2⟩
  · rw [ra.i_int] at rx; rw [rb.i_int] at ry
    have p2 := post_bl R p
    exact op_ne pins s σ H _ _ v u Q I rx ry ⟨rfl, by simpa using p2⟩
  · rw [ra.i_str] at rx; rw [rb.i_str] at ry
    have p2 := post_bl R p
    exact op_ne pins s σ H _ _ v u Q I rx ry ⟨rfl, by simpa using p2⟩
  · rw [ra.i_bl] at rx; rw [rb.i_bl] at ry
    have p2 := post_bl R p
    exact op_ne pins s σ H _ _ v u Q I rx ry ⟨rfl, by simpa using p2⟩
  · cases e : eqM h a b with
    | none => rw [e] at p; exact p.elim
    | some c =>
      rw [e] at p
      obtain ⟨d, d', h1, h2, h3, h4, h5⟩ := eqM_ok R ra rb e
      exact op_eqD hu pins s σ H x y v u Q I rx ry ⟨d, d', h1, h2, h3, h4, by rw [h5]; exact post_bl R p⟩
  · cases e : eqM h a b with
    | none => rw [e] at p; exact p.elim
    | some c =>
      rw [e] at p
      obtain ⟨d, d', h1, h2, h3, h4, h5⟩ := eqM_ok R ra rb e
      exact op_neD hu pins s σ H x y v u Q I rx ry ⟨d, d', h1, h2, h3, h4, by rw [h5]; exact post_bl R p⟩
  · rw [ra.i_non] at rx; rw [rb.i_non] at ry
    exact op_isN pins s σ H _ _ v u Q I rx ry ⟨rfl, post_bl R p⟩
  · rw [ra.i_bl] at rx; rw [rb.i_non] at ry
    exact op_isN pins s σ H _ _ v u Q I rx ry ⟨rfl, post_bl R p⟩
  · rw [ra.i_int] at rx; rw [rb.i_non] at ry
    exact op_isN pins s σ H _ _ v u Q I rx ry ⟨rfl, post_bl R p⟩
  · rw [ra.i_str] at rx; rw [rb.i_non] at ry
    exact op_isN pins s σ H _ _ v u Q I rx ry ⟨rfl, post_bl R p⟩
  · obtain ⟨a, vs, rfl, _, _⟩ := ra.i_tup
    rw [rb.i_non] at ry
    exact op_isN pins s σ H _ _ v u Q I rx ry ⟨rfl, post_bl R p⟩
  · obtain ⟨a, _, rfl⟩ := ra.i_ref
    rw [rb.i_non] at ry
    exact op_isN pins s σ H _ _ v u Q I rx ry ⟨rfl, post_bl R p⟩
  · obtain ⟨a, vs, rfl, _, _⟩ := ra.i_frl
    rw [rb.i_non] at ry
    exact op_isN pins s σ H _ _ v u Q I rx ry ⟨rfl, post_bl R p⟩
  · rw [ra.i_non] at rx; rw [rb.i_non] at ry
    exact op_notN pins s σ H _ _ v u Q I rx ry ⟨rfl, post_bl R p⟩
  · rw [ra.i_bl] at rx; rw [rb.i_non] at ry
    exact op_notN pins s σ H _ _ v u Q I rx ry ⟨rfl, post_bl R p⟩
  · rw [ra.i_int] at rx; rw [rb.i_non] at ry
    exact op_notN pins s σ H _ _ v u Q I rx ry ⟨rfl, post_bl R p⟩
  · rw [ra.i_str] at rx; rw [rb.i_non] at ry
    exact op_notN pins s σ H _ _ v u Q I rx ry ⟨rfl, post_bl R p⟩
  · obtain ⟨a, vs, rfl, _, _⟩ := ra.i_tup
    rw [rb.i_non] at ry
    exact op_notN pins s σ H _ _ v u Q I rx ry ⟨rfl, post_bl R p⟩
  · obtain ⟨a, _, rfl⟩ := ra.i_ref
    rw [rb.i_non] at ry
    exact op_notN pins s σ H _ _ v u Q I rx ry ⟨rfl, post_bl R p⟩
  · obtain ⟨a, vs, rfl, _, _⟩ := ra.i_frl
    rw [rb.i_non] at ry
    exact op_notN pins s σ H _ _ v u Q I rx ry ⟨rfl, post_bl R p⟩
  · exact p.elim

theorem opI_ok (op : Operator) : PIp X op (rdO (tbX X ca) (opI op)) := by
  intro pins s σ H x y v u Q I rx ry h
  obtain ⟨E, ph, a, b, h, R, ra, rb, p⟩ := h
  unfold opI at p
  split at p
  · split at p
    · rename_i q1 q2
      obtain ⟨a1, vs, rfl, e1, s1, r1⟩ := R.lst ra q1
      obtain ⟨a2, ws, rfl, _, s2, r2⟩ := R.lst rb q2
      split at p
      · rename_i hb
        exact iop_ext pins s σ H _ _ v u Q I rx ry ⟨a1, a2, vs, ws, rfl, rfl, s1, s2, by rw [← r1.length, ← r2.length, ← line_eq]; exact hb, post_set R p q1 e1 (r1.append r2) fun _ _ => RW.ref e1⟩
      · exact p.elim
    · exact p.elim
  · rw [ra.i_int] at rx; rw [rb.i_int] at ry
    exact iop_add pins s σ H _ _ v u Q I rx ry ⟨_, _, rfl, rfl, post_same R (.int _) p⟩
  · rw [ra.i_int] at rx; rw [rb.i_int] at ry
    exact iop_sub pins s σ H _ _ v u Q I rx ry ⟨_, _, rfl, rfl, post_same R (.int _) p⟩
  · exact p.elim

theorem atI_rel {K : PySem.W.Frag} {ph : List Addr} {H : Hp} {ws : List Mv} {vs : List V} {k : Int} {w : Mv} (r : RWs K ph H ws vs) (e : atI ws k = some w) : ∃ v, atI vs k = some v ∧ RW K ph H w v := by
  unfold atI at e ⊢
  rw [← r.length]
  cases q : ixN ws.length k with
  | none => rw [q] at e; cases e
  | some j =>
    rw [q] at e
    exact r.get e
theorem ixM_ok : IxR X (rdO (tbX X ca) ixM) := by
  intro value slice pins s σ H x y v u Q I rx ry h hs
  obtain ⟨E, ph, a, b, h, R, ra, rb, p⟩ := h
  unfold ixM at p
  split at p
  · obtain ⟨a1, vs, rfl, s1, r1⟩ := ra.i_tup
    rw [rb.i_int] at ry
    rename_i xs k
    cases e : atI xs k with
    | none => rw [e] at p; exact p.elim
    | some w =>
      rw [e] at p
      obtain ⟨z, e2, r2⟩ := atI_rel r1 e
      exact ix_tup value slice pins s σ H _ _ v u Q I rx ry ⟨a1, vs, _, z, rfl, rfl, s1, e2, post_same R r2 p⟩ hs
  · obtain ⟨a1, vs, rfl, s1, r1⟩ := ra.i_frl
    rw [rb.i_int] at ry
    rename_i xs k
    cases e : atI xs k with
    | none => rw [e] at p; exact p.elim
    | some w =>
      rw [e] at p
      obtain ⟨z, e2, r2⟩ := atI_rel r1 e
      exact ix_list value slice pins s σ H _ _ v u Q I rx ry ⟨a1, vs, _, z, rfl, rfl, s1.sq, e2, post_same R r2 p⟩ hs
  · rw [rb.i_int] at ry
    split at p
    · rename_i k _ xs q
      obtain ⟨a1, vs, rfl, _, s1, r1⟩ := R.lst ra q
      cases e : atI xs k with
      | none => rw [e] at p; exact p.elim
      | some w =>
        rw [e] at p
        obtain ⟨z, e2, r2⟩ := atI_rel r1 e
        exact ix_list value slice pins s σ H _ _ v u Q I rx ry ⟨a1, vs, _, z, rfl, rfl, SqL.of s1, e2, post_same R r2 p⟩ hs
    · exact p.elim
  · exact p.elim

/-- a slice by values -/
def rdSl (T : Tb) : V → Option Int → Option Int → Hp → VK → Prop := fun x lo hi H Q => ∃ E : XK, ∃ ph a h, RelH T ph H h ∧ RW T.K ph H a x ∧ PostV T ph H (slM a lo hi h) Q E
theorem cut_rel {K : PySem.W.Frag} {ph : List Addr} {H : Hp} {ws : List Mv} {vs : List V} {lo hi : Option Int} (r : RWs K ph H ws vs) : RWs K ph H (cutM ws lo hi) (cutV vs lo hi) := by
  unfold cutM cutV
  rw [← r.length]
  exact (r.drop _).take _
theorem slM_ok : SlR X (rdSl (tbX X ca)) := by
  intro pins s σ H x v vl vu lo hi sl Q I rx hs pl pu h
  obtain ⟨E, ph, a, h, R, ra, p⟩ := h
  unfold slM at p
  split at p
  · rename_i xs
    obtain ⟨a1, vs, rfl, s1, r1⟩ := ra.i_tup
    refine sl_tupA pins s σ H _ v vl vu lo hi sl Q I rx hs pl pu ⟨a1, vs, rfl, s1, fun z => ?_, fun z q hq => post_tup R p (cut_rel r1) hq⟩
    refine post_same R (RW.tup s1 ?_) p
    have e : cutM xs lo hi = xs := by
      unfold cutM
      rw [r1.length, z.1, z.2, Nat.sub_zero, List.drop_zero, ← r1.length, List.take_length]
    rw [e]; exact r1
  · obtain ⟨a1, vs, rfl, s1, r1⟩ := ra.i_frl
    exact sl_list pins s σ H _ v vl vu lo hi sl Q I rx hs pl pu ⟨a1, vs, rfl, s1.sq, fun q hq => post_lst R p (cut_rel r1) hq⟩
  · split at p
    · rename_i q
      obtain ⟨a1, vs, rfl, _, s1, r1⟩ := R.lst ra q
      exact sl_list pins s σ H _ v vl vu lo hi sl Q I rx hs pl pu ⟨a1, vs, rfl, SqL.of s1, fun q hq => post_lst R p (cut_rel r1) hq⟩
    · exact p.elim
  · exact p.elim
/-- a store to a place -/
def rdSet (T : Tb) : V → V → V → Hp → (Hp → Prop) → Prop := fun o i v H Q => ∃ E : XK, ∃ ph a b w h, RelH T ph H h ∧ RW T.K ph H a o ∧ RW T.K ph H b i ∧ RW T.K ph H w v ∧ Post T ph H (fun _ _ (_ : Unit) (_ : Unit) => True) (setM a b w h) (fun _ H => Q H) E
theorem setM_ok : PSet X (rdSet (tbX X ca)) := by
  intro pins s σ H o i v ov iv u Q I ro ri rv h
  obtain ⟨E, ph, a, b, w, h, R, ra, rb, rw', p⟩ := h
  unfold setM at p
  split at p
  · rw [rb.i_int] at ri
    split at p
    · rename_i xs q
      obtain ⟨a1, vs, rfl, e1, s1, r1⟩ := R.lst ra q
      split at p
      · rename_i j hj
        exact set_list pins s σ H _ _ v ov iv u Q I ro ri rv ⟨a1, vs, _, j, rfl, rfl, s1, by rw [← r1.length]; exact hj, post_set (Q := fun _ H => Q H) (b := ()) R p q e1 (r1.set rw' j) fun _ _ => trivial⟩
      · exact p.elim
    · exact p.elim
  · exact p.elim
/-- a value's truth -/
def rdTru (T : Tb) : V → Hp → (Bool → Hp → Prop) → Prop := fun x H Q => ∃ E : XK, ∃ ph a h, RelH T ph H h ∧ RW T.K ph H a x ∧ Post T ph H (fun _ _ (c : Bool) b => b = c) (Mr.ofO (truM h a) h) Q E
theorem isEmpty_rel {K : PySem.W.Frag} {ph : List Addr} {H : Hp} {ws : List Mv} {vs : List V} (r : RWs K ph H ws vs) : ws.isEmpty = vs.isEmpty := by
  cases ws with
  | nil => rw [r.inv_nil]; rfl
  | cons w ws => obtain ⟨v, t, rfl, _, _⟩ := r.inv; rfl
theorem truV_of {T : Tb} {ph : List Addr} {H : Hp} {h : Mh} {a : Mv} {x : V} {k : Bool} (R : RelH T ph H h) (ra : RW T.K ph H a x) (e : truM h a = some k) : TruV T.K x H k := by
  unfold truM at e
  split at e
  · rw [ra.i_non]; exact (Option.some.inj e).symm
  · rw [ra.i_bl]; exact (Option.some.inj e).symm
  · rw [ra.i_int]; exact (Option.some.inj e).symm
  · obtain ⟨a1, vs, rfl, s1, r1⟩ := ra.i_tup
    exact .inr (.inl ⟨vs, s1, by rw [← isEmpty_rel r1]; exact (Option.some.inj e).symm⟩)
  · obtain ⟨a1, vs, rfl, s1, r1⟩ := ra.i_frl
    exact .inl ⟨vs, s1.sq, by rw [← isEmpty_rel r1]; exact (Option.some.inj e).symm⟩
  · split at e
    · rename_i q
      obtain ⟨a1, vs, rfl, _, s1, r1⟩ := R.lst ra q
      exact .inl ⟨vs, SqL.of s1, by rw [← isEmpty_rel r1]; exact (Option.some.inj e).symm⟩
    · cases e
  · cases e
end
end MP

/-! built-in functions and methods on values hold -/
namespace MP
open PySem PySem.Spec PyProof.Rows L2

/-- a built-in function of the small language -/
def rdB (T : Tb) (f : List Mv → Mh → Mr Mv) : List V → Hp → VK → Prop := fun xs H Q => ∃ E : XK, ∃ ph ws h, RelH T ph H h ∧ RWs T.K ph H ws xs ∧ PostV T ph H (f ws h) Q E
section
variable {K : PySem.W.Frag} {ph : List Addr} {H : Hp}
theorem RWs.inv1 {w : Mv} {vs : List V} (r : RWs K ph H [w] vs) : ∃ v, vs = [v] ∧ RW K ph H w v := by
  obtain ⟨v, t, rfl, a, b⟩ := r.inv
  rw [b.inv_nil]; exact ⟨v, rfl, a⟩
theorem RWs.inv2 {w w2 : Mv} {vs : List V} (r : RWs K ph H [w, w2] vs) : ∃ v v2, vs = [v, v2] ∧ RW K ph H w v ∧ RW K ph H w2 v2 := by
  obtain ⟨v, t, rfl, a, b⟩ := r.inv
  obtain ⟨v2, rfl, c⟩ := b.inv1
  exact ⟨v, v2, rfl, a, c⟩
end
/-- what is read as a list or a tuple -/
theorem items_rel {T : Tb} {ph : List Addr} {H : Hp} {h : Mh} {v : Mv} {x : V} {xs : List Mv} (R : RelH T ph H h) (r : RW T.K ph H v x) (e : itemsM v h = some xs) :
    ∃ a vs, x = .ref a ∧ RWs T.K ph H xs vs ∧ (SqL T.K H a vs ∨ (v = .tup xs ∧ SqT T.K H a vs)) := by
  cases v with
  | tup ys =>
    cases e
    obtain ⟨a, vs, rfl, s, rs⟩ := r.i_tup
    exact ⟨a, vs, rfl, rs, .inr ⟨rfl, s⟩⟩
  | ref n =>
    obtain ⟨a, vs, rfl, _, s, rs⟩ := R.seqL r e
    exact ⟨a, vs, rfl, rs, .inl s⟩
  | frl ys =>
    cases e
    obtain ⟨a, vs, rfl, s, rs⟩ := r.i_frl
    exact ⟨a, vs, rfl, rs, .inl s.sq⟩
  | _ => cases e
section
variable {X : Cx} {ca : Str → Addr}
theorem blt_len : CallR X (.builtin "len") (rdB (tbX X ca) (bltM "len")) := by
  intro pins s σ H xs us Q I r h
  obtain ⟨E, ph, ws, h, R, rs, p⟩ := h
  unfold bltM at p
  rw [if_pos rfl] at p
  split at p
  · obtain ⟨v, rfl, rv⟩ := rs.inv1
    obtain ⟨a, vs, rfl, s1, r1⟩ := rv.i_tup
    exact call_len pins s σ H _ us Q I r ⟨_, _, rfl, .inr ⟨vs, s1, rfl⟩, by rw [← r1.length]; exact post_same R (.int _) p⟩
  · obtain ⟨v, rfl, rv⟩ := rs.inv1
    obtain ⟨a, vs, rfl, s1, r1⟩ := rv.i_frl
    exact call_len pins s σ H _ us Q I r ⟨_, _, rfl, .inl ⟨vs, s1.sq, rfl⟩, by rw [← r1.length]; exact post_same R (.int _) p⟩
  · obtain ⟨v, rfl, rv⟩ := rs.inv1
    split at p
    · rename_i q
      obtain ⟨a, vs, rfl, _, s1, r1⟩ := R.lst rv q
      exact call_len pins s σ H _ us Q I r ⟨_, _, rfl, .inl ⟨vs, SqL.of s1, rfl⟩, by rw [← r1.length]; exact post_same R (.int _) p⟩
    · exact p.elim
  · exact p.elim
theorem blt_int : CallR X (.type "int") (rdB (tbX X ca) (bltM "int")) := by
  intro pins s σ H xs us Q I r h
  obtain ⟨E, ph, ws, h, R, rs, p⟩ := h
  unfold bltM at p
  rw [if_neg (by decide), if_pos rfl] at p
  split at p
  · obtain ⟨v, rfl, rv⟩ := rs.inv1
    rw [rv.i_int] at r
    exact call_int1 pins s σ H _ us Q I r (.inl ⟨_, rfl, post_same R (.int _) p⟩)
  · obtain ⟨v, rfl, rv⟩ := rs.inv1
    rw [rv.i_bl] at r
    exact call_int1 pins s σ H _ us Q I r (.inr ⟨_, rfl, post_same R (.int _) p⟩)
  · exact p.elim
theorem blt_abs : CallR X (.builtin "abs") (rdB (tbX X ca) (bltM "abs")) := by
  intro pins s σ H xs us Q I r h
  obtain ⟨E, ph, ws, h, R, rs, p⟩ := h
  unfold bltM at p
  rw [if_neg (by decide), if_neg (by decide), if_pos rfl] at p
  split at p
  · obtain ⟨v, rfl, rv⟩ := rs.inv1
    rw [rv.i_int] at r
    exact call_abs pins s σ H _ us Q I r ⟨_, rfl, post_same R (.int _) p⟩
  · exact p.elim
theorem blt_max (hc : X.calm = true) : CallR X (.builtin "max") (rdB (tbX X ca) (bltM "max")) := by
  intro pins s σ H xs us Q I r h
  obtain ⟨E, ph, ws, h, R, rs, p⟩ := h
  unfold bltM at p
  rw [if_neg (by decide), if_neg (by decide), if_neg (by decide), if_pos rfl] at p
  split at p
  · obtain ⟨v, v2, rfl, rv, rv2⟩ := rs.inv2
    rw [rv.i_int, rv2.i_int] at r
    exact call_max2 hc pins s σ H _ us Q I r ⟨_, _, rfl, post_same R (.int _) p⟩
  · exact p.elim
theorem blt_min (hc : X.calm = true) : CallR X (.builtin "min") (rdB (tbX X ca) (bltM "min")) := by
  intro pins s σ H xs us Q I r h
  obtain ⟨E, ph, ws, h, R, rs, p⟩ := h
  unfold bltM at p
  rw [if_neg (by decide), if_neg (by decide), if_neg (by decide), if_neg (by decide), if_pos rfl] at p
  split at p
  · obtain ⟨v, v2, rfl, rv, rv2⟩ := rs.inv2
    rw [rv.i_int, rv2.i_int] at r
    exact call_min2 hc pins s σ H _ us Q I r ⟨_, _, rfl, post_same R (.int _) p⟩
  · exact p.elim
theorem blt_divmod : CallR X (.builtin "divmod") (rdB (tbX X ca) (bltM "divmod")) := by
  intro pins s σ H xs us Q I r h
  obtain ⟨E, ph, ws, h, R, rs, p⟩ := h
  unfold bltM at p
  rw [if_neg (by decide), if_neg (by decide), if_neg (by decide), if_neg (by decide), if_neg (by decide), if_pos rfl] at p
  split at p
  · obtain ⟨v, v2, rfl, rv, rv2⟩ := rs.inv2
    rw [rv.i_int, rv2.i_int] at r
    split at p
    · rename_i hd
      exact call_divmod pins s σ H _ us Q I r ⟨_, _, rfl, hd, fun q hq => post_tup R p (.cons (.int _) (.cons (.int _) .nil)) hq⟩
    · exact p.elim
  · exact p.elim
theorem blt_sum (hc : X.calm = true) : CallR X (.builtin "sum") (rdB (tbX X ca) (bltM "sum")) := by
  intro pins s σ H xs us Q I r h
  obtain ⟨E, ph, ws, h, R, rs, p⟩ := h
  unfold bltM at p
  rw [if_neg (by decide), if_neg (by decide), if_neg (by decide), if_neg (by decide), if_neg (by decide), if_neg (by decide), if_pos rfl] at p
  split at p
  · obtain ⟨v, rfl, rv⟩ := rs.inv1
    split at p
    · rename_i n ns q
      obtain ⟨xs, e1, e2⟩ := Option.bind_eq_some_iff.mp q
      obtain ⟨a, vs, rfl, _, s1, r1⟩ := R.seqL rv e1
      rw [r1.ints e2] at s1
      exact cr_sum hc pins s σ H _ us Q I r ⟨_, _, rfl, s1, post_same R (.int _) p⟩
    · exact p.elim
  · exact p.elim
theorem blt_all (hc : X.calm = true) : CallR X (.builtin "all") (rdB (tbX X ca) (bltM "all")) := by
  intro pins s σ H xs us Q I r h
  obtain ⟨E, ph, ws, h, R, rs, p⟩ := h
  unfold bltM at p
  rw [if_neg (by decide), if_neg (by decide), if_neg (by decide), if_neg (by decide), if_neg (by decide), if_neg (by decide), if_neg (by decide), if_pos rfl] at p
  split at p
  · obtain ⟨v, rfl, rv⟩ := rs.inv1
    split at p
    · rename_i n ns q
      obtain ⟨xs, e1, e2⟩ := Option.bind_eq_some_iff.mp q
      obtain ⟨a, vs, rfl, _, s1, r1⟩ := R.seqL rv e1
      rw [r1.bls e2] at s1
      exact cr_all hc pins s σ H _ us Q I r ⟨_, _, rfl, s1, post_same R (.bl _) p⟩
    · exact p.elim
  · exact p.elim
theorem blt_any (hc : X.calm = true) : CallR X (.builtin "any") (rdB (tbX X ca) (bltM "any")) := by
  intro pins s σ H xs us Q I r h
  obtain ⟨E, ph, ws, h, R, rs, p⟩ := h
  unfold bltM at p
  rw [if_neg (by decide), if_neg (by decide), if_neg (by decide), if_neg (by decide), if_neg (by decide), if_neg (by decide), if_neg (by decide), if_neg (by decide), if_pos rfl] at p
  split at p
  · obtain ⟨v, rfl, rv⟩ := rs.inv1
    split at p
    · rename_i n ns q
      obtain ⟨xs, e1, e2⟩ := Option.bind_eq_some_iff.mp q
      obtain ⟨a, vs, rfl, _, s1, r1⟩ := R.seqL rv e1
      rw [r1.bls e2] at s1
      exact cr_any hc pins s σ H _ us Q I r ⟨_, _, rfl, s1, post_same R (.bl _) p⟩
    · exact p.elim
  · exact p.elim
theorem blt_tuple : CallR X (.type "tuple") (rdB (tbX X ca) (bltM "tuple")) := by
  intro pins s σ H xs us Q I r h
  obtain ⟨E, ph, ws, h, R, rs, p⟩ := h
  unfold bltM at p
  rw [if_neg (by decide), if_neg (by decide), if_neg (by decide), if_neg (by decide), if_neg (by decide), if_neg (by decide), if_neg (by decide), if_neg (by decide), if_neg (by decide), if_pos rfl] at p
  split at p
  · obtain ⟨v, rfl, rv⟩ := rs.inv1
    split at p
    · rename_i xs q
      obtain ⟨a, vs, rfl, r1, s1 | ⟨_, s1⟩⟩ := items_rel R rv q
      · exact call_tuple_of pins s σ H _ us Q I r ⟨_, _, rfl, .inl ⟨s1, fun l hl => post_tup R p r1 hl⟩⟩
      · exact call_tuple_of pins s σ H _ us Q I r ⟨_, _, rfl, .inr ⟨s1, post_same R (.tup s1 r1) p⟩⟩
    · exact p.elim
  · exact p.elim
theorem blt_list : CallR X (.type "list") (rdB (tbX X ca) (bltM "list")) := by
  intro pins s σ H xs us Q I r h
  obtain ⟨E, ph, ws, h, R, rs, p⟩ := h
  unfold bltM at p
  rw [if_neg (by decide), if_neg (by decide), if_neg (by decide), if_neg (by decide), if_neg (by decide), if_neg (by decide), if_neg (by decide), if_neg (by decide), if_neg (by decide), if_neg (by decide), if_pos rfl] at p
  split at p
  · obtain ⟨v, rfl, rv⟩ := rs.inv1
    split at p
    · rename_i xs q
      obtain ⟨a, vs, rfl, r1, s1 | ⟨_, s1⟩⟩ := items_rel R rv q
      · exact call_list_of pins s σ H _ us Q I r ⟨_, _, rfl, .inl s1, fun l hl => post_lst R p r1 hl⟩
      · exact call_list_of pins s σ H _ us Q I r ⟨_, _, rfl, .inr s1, fun l hl => post_lst R p r1 hl⟩
    · exact p.elim
  · exact p.elim
theorem repr_run {pins : List (Addr × Obj)} {s : Shared} {σ : L2.St} {H : Hp} {a : Addr} {d : PyData} {Q : VK} (hg : X.A.guards = some []) (hu : X.A.units + 64 < cLine) (I : Inv X pins σ H s) (hd : Dp X.K H (.ref a) d) (h1 : d.showable = true) (h2 : d.hasDict = false) (h3 : d.depth ≤ 30) (h4 : d.shown.length ≤ sizeLine) (q : Q (.str d.shown) H) :
    wpAny (model X.prog X.w) X.A (call (.builtin "repr") [.ref a]) (EP X pins σ Q) X.xe s := by
  obtain ⟨as, rd⟩ := Dp.reads I d _ _ hd (show RelV (.ref a) (.ref a) from rfl)
  exact repr_of_reads' rd h1 (PyData.noDict_hsm h2) hg (by omega) (fun _ _ e => e) (fun h' u tk hk => ⟨.str d.shown, H, I.kept hk, ⟨_, rfl⟩, q⟩) h4
theorem reprM_ok {T : Tb} {ph : List Addr} {H : Hp} {h : Mh} {v : Mv} {x : V} {z : Str} (R : RelH T ph H h) (r : RW T.K ph H v x) (e : reprM h v = some z) : ∃ d, Dp T.K H x d ∧ d.showable = true ∧ d.hasDict = false ∧ d.depth ≤ 30 ∧ d.shown.length ≤ sizeLine ∧ z = d.shown := by
  unfold reprM at e
  split at e
  · rename_i d q
    split at e
    · rename_i hb
      simp only [Bool.and_eq_true, Bool.not_eq_true', decide_eq_true_eq] at hb
      exact ⟨d, toD_ok R _ _ _ _ r q, hb.1.1.1, hb.1.1.2, hb.1.2, by rw [← line_eq]; exact hb.2, (Option.some.inj e).symm⟩
    · cases e
  · cases e
theorem blt_repr (hg : X.A.guards = some []) (hu : X.A.units + 64 < cLine) : CallR X (.builtin "repr") (rdB (tbX X ca) (bltM "repr")) := by
  intro pins s σ H xs us Q I r h
  obtain ⟨E, ph, ws, h, R, rs, p⟩ := h
  unfold bltM at p
  rw [if_neg (by decide), if_neg (by decide), if_neg (by decide), if_neg (by decide), if_neg (by decide), if_neg (by decide), if_neg (by decide), if_neg (by decide), if_neg (by decide), if_neg (by decide), if_neg (by decide), if_neg (by decide), if_neg (by decide), if_neg (by decide), if_pos rfl] at p
  split at p
  · obtain ⟨v, rfl, rv⟩ := rs.inv1
    split at p
    · rename_i x q
      obtain ⟨d, h0, h1, h2, h3, h4, rfl⟩ := reprM_ok R rv q
      obtain ⟨a, _, rfl⟩ := rv.i_ref
      obtain ⟨u, rfl, ru⟩ := vals1 r
      cases ru
      exact repr_run hg hu I h0 h1 h2 h3 h4 (post_same R (.str _) p)
    · exact p.elim
  · obtain ⟨v, rfl, rv⟩ := rs.inv1
    split at p
    · rename_i x q
      obtain ⟨d, h0, h1, h2, h3, h4, rfl⟩ := reprM_ok R rv q
      obtain ⟨a, _, rfl, _⟩ := rv.i_tup
      obtain ⟨u, rfl, ru⟩ := vals1 r
      cases ru
      exact repr_run hg hu I h0 h1 h2 h3 h4 (post_same R (.str _) p)
    · exact p.elim
  · exact p.elim

/-! ### methods of a list -/
def rdM (T : Tb) (m : Str) : V → List V → Hp → VK → Prop := fun x xs H Q => ∃ E : XK, ∃ ph n zs ws h, RelH T ph H h ∧ RW T.K ph H (.ref n) x ∧ h[n]? = some (.lst zs) ∧ RWs T.K ph H ws xs ∧ PostV T ph H (mthM m (.ref n) ws h) Q E
theorem mth_append : MtR X "list.append" (rdM (tbX X ca) "append") := by
  intro pins s σ H x xs v us Q I rx r h
  obtain ⟨E, ph, n, zs, ws, h, R, ro, e, rs, p⟩ := h
  unfold mthM at p
  dsimp only at p
  rw [e] at p
  dsimp only at p
  rw [if_pos rfl] at p
  split at p
  · obtain ⟨y, rfl, ry⟩ := rs.inv1
    obtain ⟨a, vs, rfl, e1, s1, r1⟩ := R.lst ro e
    split at p
    · rename_i hz
      exact mt_append pins s σ H _ _ v _ Q I rx r ⟨a, vs, y, rfl, rfl, s1, by rw [← r1.length, ← line_eq]; exact hz, post_set R p e e1 (r1.append (.cons ry .nil)) fun _ _ => .non⟩
    · exact p.elim
  · exact p.elim
theorem mth_insert : MtR X "list.insert" (rdM (tbX X ca) "insert") := by
  intro pins s σ H x xs v us Q I rx r h
  obtain ⟨E, ph, n, zs, ws, h, R, ro, e, rs, p⟩ := h
  unfold mthM at p
  dsimp only at p
  rw [e] at p
  dsimp only at p
  rw [if_neg (by decide), if_pos rfl] at p
  split at p
  · obtain ⟨y, y2, rfl, ry, ry2⟩ := rs.inv2
    obtain ⟨a, vs, rfl, e1, s1, r1⟩ := R.lst ro e
    rw [ry.i_int] at r
    split at p
    · rename_i hz
      exact mt_insert pins s σ H _ _ v us Q I rx r ⟨a, vs, _, y2, rfl, rfl, s1, by rw [← r1.length, ← line_eq]; exact hz.2.2, hz.1, hz.2.1, post_set R p e e1 (((r1.take _).append (.cons ry2 .nil)).append (r1.drop _)) fun _ _ => .non⟩
    · exact p.elim
  · exact p.elim
end
end MP

/-! a def's promise in the small language; statements' readings; the law's call -/
namespace MP
open PySem PySem.Spec PyProof.Rows L2

/-! ### statements -/
def PostS (T : Tb) (ph : List Addr) (H : Hp) (r : Ms) (D : Ends) (W : WX) : Prop := match r with
  | .nx fr' h' => ∀ ph' σ' H', Ext T.K ph ph' H H' → RelH T ph' H' h' → RelF T ph' H' fr' σ' → D.nx σ' H'
  | .bk fr' h' => ∀ ph' σ' H', Ext T.K ph ph' H H' → RelH T ph' H' h' → RelF T ph' H' fr' σ' → D.bk σ' H'
  | .ct fr' h' => ∀ ph' σ' H', Ext T.K ph ph' H H' → RelH T ph' H' h' → RelF T ph' H' fr' σ' → D.ct σ' H'
  | .rt v h' => ∀ ph' x H', Ext T.K ph ph' H H' → RelH T ph' H' h' → RW T.K ph' H' v x → D.rt x H'
  | .exc c p fr' h' => ∀ ph' σ' H' d, Ext T.K ph ph' H H' → RelH T ph' H' h' → RelF T ph' H' fr' σ' → Pay T ph' H' p d → W (.ref (T.ca c)) d σ' H'
  | .err => False
def rdS (T : Tb) (W : WX) (ex : Mf → Mh → Ms) : TS := fun D σ H => ∃ ph fr h, RelF T ph H fr σ ∧ RelH T ph H h ∧ PostS T ph H (ex fr h) D W
theorem PostS.ext {T : Tb} {ph ph' : List Addr} {H H' : Hp} {r : Ms} {D : Ends} {W : WX} (x : Ext T.K ph ph' H H') (p : PostS T ph H r D W) : PostS T ph' H' r D W := by
  cases r with
  | nx fr h => exact fun ph' σ' H' y R F => p _ _ _ (x.trans y) R F
  | bk fr h => exact fun ph' σ' H' y R F => p _ _ _ (x.trans y) R F
  | ct fr h => exact fun ph' σ' H' y R F => p _ _ _ (x.trans y) R F
  | rt v h => exact fun ph' σ' H' y R F => p _ _ _ (x.trans y) R F
  | exc c q fr h => exact fun ph' σ' H' d y R F P => p _ _ _ _ (x.trans y) R F P
  | err => exact p
/-- an expression, then a piece of the statement -/
theorem toS_post {T : Tb} {ph : List Addr} {H : Hp} {α β : Type} {RA : List Addr → Hp → α → β → Prop} {r : Mr α} {fr : Mf} {σ : L2.St} {f : α → Mh → Ms} {D : Ends} {W : WX} (RF : RelF T ph H fr σ) (p : PostS T ph H (r.toS fr f) D W) :
    Post T ph H RA r (fun v H' => ∃ ph' w h', Ext T.K ph ph' H H' ∧ RelH T ph' H' h' ∧ RA ph' H' w v ∧ RelF T ph' H' fr σ ∧ PostS T ph' H' (f w h') D W) (fun c d H' => W c d σ H') := by
  cases r with
  | ok w h' => exact fun ph' v H' x R a => ⟨ph', w, h', x, R, a, RF.ext x, PostS.ext x p⟩
  | exc c q h' => exact fun ph' H' d x R P => p ph' σ H' d x R (RF.ext x) P
  | err => exact p.elim

/-! ### a def's promise -/
structure FnG (T : Tb) (k : Nat) (f : Addr) (fd : FuncData) (ps : List Str) (sp : Sp) : Prop where
  len : ∀ vs H Q E, sp vs H Q E → vs.length = ps.length
  run : ∀ (A : Around) (outer : List Env) (s : Shared) (H : Hp) (args : Args) (us : List Value) (vs : List V) (Q : VK) (E : XK), Room k A → A.guards = some [] → Env0 T.P T.w T.K T.mg T.base A outer s H → BindsTo s fd args (ps.zip us) → Vals vs us → sp vs H Q E →
    codeAny (model T.P T.w) A (.call (.ref f) args) (CR (L2.CX T.P T.w) outer T.P T.w H s Q E) s
theorem FnG.mono {T : Tb} {j k : Nat} {f : Addr} {fd : FuncData} {ps : List Str} {sp : Sp} (F : FnG T j f fd ps sp) (h : j ≤ k) : FnG T k f fd ps sp :=
  ⟨F.len, fun A outer s H args us vs Q E hr => F.run A outer s H args us vs Q E (hr.mono h)⟩
def spF (T : Tb) (n : Nat) (g : List Mv → Mh → Mr Mv) : Sp := fun vs H Q E => ∃ ph ws h, ws.length = n ∧ RelH T ph H h ∧ RWs T.K ph H ws vs ∧ PostV T ph H (g ws h) Q E
/-- a def of the text by its body -/
theorem fnG_of {T : Tb} {k : Nat} {f : Addr} {name qual : Str} {params : Arguments} {body : List Stmt} {scope : Scope} {dV kV doc pm cdv ct oc : Value} {an od : Option Addr}
    {osl : Array (Option Value)} {N ps : List Str} {sp : Sp} (lk : T.K.lookup f = some ⟨oc, od, .func (PySem.W.fnOf name qual params body scope dV kV doc pm an cdv ct), osl⟩) (hcd : PySem.W.codeIn T.K cdv qual = true) (S : FnScope N ps scope)
    (len : ∀ vs H Q E, sp vs H Q E → vs.length = ps.length)
    (hbody : ∀ (A : Around) (outer : List Env) (s : Shared) (H : Hp) (vs : List V) (Q : VK) (E : XK), Room k (A.deeper (envOfC qual scope s.heap.objs.size f cdv)) → (A.deeper (envOfC qual scope s.heap.objs.size f cdv)).guards = some [] → sp vs H Q E →
      ∃ t, PSs (cxOf (L2.CX T.P T.w) T.P T.w T.K T.mg T.base N qual scope f cdv A outer s H E) body t ∧ t { nx := fun _ H' => Q .non H', rt := Q } (start N vs) H) :
    FnG T (k + 1) f (PySem.W.fnOf name qual params body scope dV kV doc pm an cdv ct) ps sp := by
  refine ⟨len, fun A outer s H args us vs Q E hr hg e0 hb r hsp => ?_⟩
  have hl := len _ _ _ _ hsp
  have KX : T.K.In s.heap := e0.mod.kin.keeps fun b o e => (e0.bs b o e).1
  have lim : s.heap.NoLimit := e0.mod.nolimit.keeps fun b o e => (e0.bs b o e).1
  have hkind : ∀ y ∈ ps.zip us, scope.names.lookup y.1 = some .local ∨ (scope.names.lookup y.1 = some .cell ∧ ((cellsFrom (s.heap.objs.size + 1) scope.names []).lookup y.1).isSome = true) := fun ⟨n, v⟩ hy => by
    rcases S.par n (List.of_mem_zip hy).1 with q | q
    · exact .inl q
    · exact .inr ⟨q, PySem.W.cellsFrom_some _ _ _ (.inl q)⟩
  refine codeAny_call_function hr.depth (KX _ _ lk) rfl S.co S.gen rfl (PySem.W.codeRec_of KX hcd) (hb _ _ _ _ ?_)
  refine wpAny_newFunctionEnv_cells S.kind hkind fun env he s1 x => ?_
  subst he
  refine ⟨lim.keeps x.toInCall.keep, codeAny_func ?_⟩
  obtain ⟨t, ht, hq⟩ := hbody A outer s H vs Q E (hr.deeper _) hg hsp
  have I : L2.Inv (cxOf (L2.CX T.P T.w) T.P T.w T.K T.mg T.base N qual scope f cdv A outer s H E) [] (start N vs) H s1 := inv_start S hr.hd e0 hl r x
  refine wpAny_mono (ht.run [] s1 (start N vs) H _ I hq) (fun fl s' hs => ?_) fun e s' hs => hs
  have fin : ∀ {σ' : L2.St} {H' : Hp} {v : V} {u : Value}, L2.Inv (cxOf (L2.CX T.P T.w) T.P T.w T.K T.mg T.base N qual scope f cdv A outer s H E) [] σ' H' s' → RelV v u → Q v H' → CE outer T.P T.w H s Q u s' :=
    fun {σ' H' v u} J rv q => ⟨v, H', J.os, J.bare, J.base, J.hok, rv, q⟩
  cases fl with
  | ret u =>
    obtain ⟨v, σ', H', J, rv, q⟩ := hs
    exact fin J rv q
  | next =>
    obtain ⟨σ', H', J, q⟩ := hs
    exact fin (v := V.non) (u := Value.none) J rfl q
  | brk =>
    obtain ⟨_, _, _, q⟩ := hs
    exact False.elim q
  | cont =>
    obtain ⟨_, _, _, q⟩ := hs
    exact False.elim q
theorem RelF.ini {T : Tb} {ph : List Addr} {H : Hp} {N : List Str} {ws : List Mv} {vs : List V} (r : RWs T.K ph H ws vs) : RelF T ph H (frameM N.length ws) (start N vs) := by
  have hl := r.length
  refine ⟨by unfold frameM L2.start; simp [hl], fun i w e => ?_⟩
  unfold frameM at e
  by_cases hi : i < ws.length
  · rw [List.getElem?_append_left (by simpa using hi), List.getElem?_map] at e
    cases q : ws[i]? with
    | none => rw [q] at e; cases e
    | some a =>
      rw [q] at e; cases e
      obtain ⟨v, e1, e2⟩ := r.get q
      refine ⟨v, ?_, e2⟩
      unfold L2.start
      rw [List.getElem?_append_left (by simpa [← hl] using hi), List.getElem?_map, e1]
      rfl
  · rw [List.getElem?_append_right (by simpa using hi), List.getElem?_replicate] at e
    split at e <;> cases e
/-- .. whose body is b -/
theorem fnG_mk {T : Tb} {k : Nat} {G : Sg} {b : S} {f : Addr} {name qual : Str} {params : Arguments} {body : List Stmt} {scope : Scope} {dV kV doc pm cdv ct oc : Value} {an od : Option Addr}
    {osl : Array (Option Value)} {N ps : List Str} (lk : T.K.lookup f = some ⟨oc, od, .func (PySem.W.fnOf name qual params body scope dV kV doc pm an cdv ct), osl⟩) (hcd : PySem.W.codeIn T.K cdv qual = true) (S : FnScope N ps scope)
    (hb : ∀ (A : Around) (outer : List Env) (s : Shared) (H : Hp) (E : XK), Room k (A.deeper (envOfC qual scope s.heap.objs.size f cdv)) → (A.deeper (envOfC qual scope s.heap.objs.size f cdv)).guards = some [] →
      PSs (cxOf (L2.CX T.P T.w) T.P T.w T.K T.mg T.base N qual scope f cdv A outer s H E) body (rdS T (fun c d _ H => E c d H) (exec G b))) :
    FnG T (k + 1) f (PySem.W.fnOf name qual params body scope dV kV doc pm an cdv ct) ps (spF T ps.length (runM G N.length b)) := by
  refine fnG_of lk hcd S (fun vs H Q E h => ?_) (fun A outer s H vs Q E hr hg h => ⟨_, hb A outer s H E hr hg, ?_⟩)
  · obtain ⟨ph, ws, h, e, _, r, _⟩ := h
    rw [← r.length]; exact e
  · obtain ⟨ph, ws, h, e, R, r, p⟩ := h
    refine ⟨ph, frameM N.length ws, h, RelF.ini r, R, ?_⟩
    unfold runM at p
    cases q : exec G b (frameM N.length ws) h with
    | nx fr' h' => rw [q] at p; exact fun ph' σ' H' x R F => p ph' _ H' x R .non
    | rt v h' => rw [q] at p; exact fun ph' v' H' x R F => p ph' _ H' x R F
    | exc c q2 fr' h' => rw [q] at p; exact fun ph' σ' H' d x R F P => p ph' H' d x R P
    | bk fr' h' => rw [q] at p; exact p.elim
    | ct fr' h' => rw [q] at p; exact p.elim
    | err => rw [q] at p; exact p.elim

/-! ### the law's call -/
theorem law_callG {P : Program} {w : World} {K : PySem.W.Frag} {mg mb : Str → Option Value} {ca : Str → Addr} {k : Nat} {fa a : Addr} {fd : FuncData} {x : Str} {sp : Tb → Sp} {s₁ : Shared} {vs : List Value} {ns : List Int}
    (KX : K.In s₁.heap) (hns : s₁.heap.Ns mainGlobals mg) (hb : s₁.heap.Ns builtinsNs mb) (hbb : ∀ x : Str, x ≠ "__name__" → mb x = bootBuiltins x) (hlim : s₁.heap.NoLimit) (hg : s₁.gens = #[])
    (ha : s₁.heap.get? a = some { cls := .type "list", data := .seq vs.toArray }) (hi : IntsAre vs ns) (hl : ns.length ≤ sizeLine) (hr : Room k callerA)
    (F : ∀ base : Heap, K.In base → base.Ns mainGlobals mg → FnG ⟨P, w, K, mg, base, ca⟩ k fa fd [x] (sp ⟨P, w, K, mg, base, ca⟩)) (hbind : ∀ (s : Shared) (u : Value), BindsTo s fd ⟨[u], []⟩ [(x, u)])
    (hsp : ∀ (base : Heap) (H : Hp), Only H → SqL K H a (ns.map V.int) → sp ⟨P, w, K, mg, base, ca⟩ [.ref a] H (fun v _ => v = .bl true) fun _ _ _ => False) :
    codeAny (model P w) callerA (.call (.ref fa) ⟨[.ref a], []⟩) (fun r s' => r = .ok (.ret (.bool true)) ∧ OldK s₁.heap s'.heap ∧ s'.os = s₁.os ∧ AllBare s'.gens) s₁ := by
  have rv := vals_ints hi
  have lenV := hi.length
  have core : ∀ H : Hp, Only H → SqL K H a (ns.map V.int) → HOk P w H s₁.heap → (∀ b, H b ≠ none → b = a) → (H a ≠ none → K.lookup a = none) →
      codeAny (model P w) callerA (.call (.ref fa) ⟨[.ref a], []⟩) (fun r s' => r = .ok (.ret (.bool true)) ∧ OldK s₁.heap s'.heap ∧ s'.os = s₁.os ∧ AllBare s'.gens) s₁ := by
    intro H hO hS hok hA hK
    have base_of : ∀ {b : Addr} {o : Obj}, s₁.heap.get? b = some o → H b = none → (hidT s₁.heap H).get? b = some o := fun e n => hidT_get e n
    have noA : ∀ {b : Addr} {o : Obj} {es : Array DictEntry} {ep : Nat}, s₁.heap.get? b = some o → o.data = .dict es ep → H b = none := fun {b o es ep} e d => by
      cases q : H b with
      | none => rfl
      | some u =>
        have e' : b = a := hA b (by rw [q]; simp)
        subst e'
        rw [ha] at e; cases e
        have d' : Data.seq vs.toArray _ = Data.dict es ep := d
        cases d'
    have nsK : ∀ {b : Addr} {m : Str → Option Value}, s₁.heap.Ns b m → (hidT s₁.heap H).Ns b m := fun {b m} ⟨o, es, ep, e, d, r⟩ => ⟨o, es, ep, base_of e (noA e d), d, r⟩
    have hKb : K.In (hidT s₁.heap H) := fun b o e => base_of (KX b o e) (by
      cases q : H b with
      | none => rfl
      | some u =>
        have e' : b = a := hA b (by rw [q]; simp)
        subst e'
        rw [hK (by rw [q]; simp)] at e; cases e)
    have hM : Mod K mg (hidT s₁.heap H) := ⟨hKb, nsK hns, ⟨mb, nsK hb, hbb⟩, let ⟨mc, h1, h2⟩ := hlim; ⟨mc, nsK h1, h2⟩⟩
    have e0 : Env0 P w K mg (hidT s₁.heap H) callerA [] s₁ H := ⟨rfl, hM, fun b o e => of_hidT e, Nat.le_of_eq (hidT_size _ _), trivial, fun b hb => absurd (show b ∈ ([] : List Addr) from hb) (by simp), hok, .of_eq hg⟩
    refine codeAny_mono ((F _ hKb (nsK hns)).run callerA [] s₁ H ⟨[.ref a], []⟩ [.ref a] [.ref a] _ _ hr rfl e0 (hbind s₁ (.ref a)) (.cons rfl .nil) (hsp _ H hO hS)) fun r s' h => ?_
    cases r with
    | error e =>
      obtain ⟨_, _, _, _, _, _, _, _, _, _, _, _, z⟩ := h
      exact z.elim
    | ok fl =>
      cases fl with
      | next => exact False.elim h
      | brk => exact False.elim h
      | cont => exact False.elim h
      | ret u =>
        obtain ⟨v, H', os, bare, un, hok', r', q⟩ := h
        have q' : v = .bl true := q
        subst q'
        obtain rfl : u = Value.bool true := r'
        refine ⟨rfl, OldK.of_keep fun b o e => ?_, os, bare⟩
        cases q : H b with
        | none => exact un.keep b o e q (by intro z; exact absurd (show b ∈ ([] : List Addr) from z) (by simp)) (by simp)
        | some u =>
          rcases hO b with z | ⟨ob, xs, z⟩
          · rw [q] at z; cases z
          · have z2 := un.frzs b ob _ z
            obtain ⟨e1, _⟩ := hok b _ z
            obtain ⟨e2, _⟩ := hok' b _ z2
            rw [e] at e1; cases e1
            exact e2
  cases hk : K.lookup a with
  | some o =>
    have e := KX a o hk
    rw [ha] at e
    cases e
    refine core (fun _ => none) (fun _ => .inl rfl) (.inr ⟨_, vs.toArray, _, hk, rfl, rfl, rfl, by rw [List.size_toArray, lenV]; exact hl, by simpa using rv⟩) (fun b u z => by have z' : (none : Option HO) = some u := z; cases z') (fun b z => absurd rfl z) fun z => absurd rfl z
  | none =>
    refine core (fun b => if b = a then some (.frz { cls := .type "list", data := .seq vs.toArray } (.lst (ns.map V.int))) else none) (fun b => ?_) (.inl (.inr ⟨{ cls := .type "list", data := .seq vs.toArray }, if_pos rfl⟩)) (fun b u z => ?_) (fun b z => ?_) fun _ => hk
    · by_cases hb : b = a
      · exact .inr ⟨_, _, if_pos hb⟩
      · exact .inl (if_neg hb)
    · by_cases hb : b = a
      · have z' := (if_pos hb).symm.trans z
        cases z'
        subst hb
        exact ⟨ha, by rw [List.length_map]; exact hl, vs, _, rv, ha⟩
      · have z' := (if_neg hb).symm.trans z
        cases z'
    · by_cases hb : b = a
      · exact hb
      · exact absurd (if_neg hb) z
theorem walk_ofG {l : PySem.W.OpenLaw} {n k : Nat} {q : Program} {loose : List Str} {XP : (Str → Option Value) → Heap → Prop} {YP : World → Heap → Prop} {d : DefRec} {K : Params → PySem.W.Frag} {sp : Tb → Sp} {x : Str}
    (hn : l.most = some n) (hn2 : n ≤ sizeLine) (hdf : d.params.defaults = []) (hr : Room k callerA)
    (hY : ∀ (w : World) (h : Heap), YP w h → (K w.params).In h)
    (F : ∀ (w : World) (mg : Str → Option Value) (fa : Addr) (h : Heap), (K w.params).In h → h.Ns mainGlobals mg → mg d.name = some (.ref fa) →
      ∃ (fd : FuncData) (ca : Str → Addr), (∀ (s : Shared) (u : Value), BindsTo s fd ⟨[u], []⟩ [(x, u)]) ∧
        ∀ base : Heap, (K w.params).In base → base.Ns mainGlobals mg → FnG ⟨l.prog, w, K w.params, mg, base, ca⟩ k fa fd [x] (sp ⟨l.prog, w, K w.params, mg, base, ca⟩))
    (hsp : ∀ (w : World) (mg : Str → Option Value) (base : Heap) (ca : Str → Addr) (H : Hp) (a : Addr) (ns : List Int), ns.length ≤ n → Only H → SqL (K w.params) H a (ns.map V.int) → sp ⟨l.prog, w, K w.params, mg, base, ca⟩ [.ref a] H (fun v _ => v = .bl true) fun _ _ _ => False) :
    PySem.W.WalkO q loose XP YP l.row.toRowW d [] (fun f vs => PySem.call f vs) := by
  refine Att.attach_call hn hdf fun w s₀ s₁ mg mb fa o pm cd doc a vs ns G Y ho hd hcd hmg hobj hints hlen hg => ?_
  have KX := hY w _ Y
  obtain ⟨fd, ca, hb, hF⟩ := F w mg fa _ KX G.T.g hmg
  exact law_callG KX G.T.g G.T.b G.T.builtins G.T.nolimit hg hobj hints (Nat.le_trans hlen hn2) hr hF hb (fun base H hO hS => hsp w mg base ca H a ns hlen hO hS)
end MP

/-! the rules for expressions -/
namespace MP
open PySem PySem.Spec PyProof.Rows L2

section
variable {T : Tb} {ph ph' : List Addr} {H H' : Hp}
theorem Post.ext {α β : Type} {RA : List Addr → Hp → α → β → Prop} {r : Mr α} {Q : β → Hp → Prop} {E : XK} (x : Ext T.K ph ph' H H') (p : Post T ph H RA r Q E) : Post T ph' H' RA r Q E := by
  cases r with
  | ok w h => exact fun ph2 v H2 y R a => p _ _ _ (x.trans y) R a
  | exc c q h => exact fun ph2 H2 d y R P => p _ _ _ (x.trans y) R P
  | err => exact p
theorem Post.bool {β δ : Type} {RB : List Addr → Hp → β → δ → Prop} {r : Mr Mv} {f : Bool → Mh → Mr β} {Q : δ → Hp → Prop} {E : XK} (p : Post T ph H RB (r.bool.bind f) Q E) :
    PostV T ph H r (fun v H' => ∃ c ph' h', v = .bl c ∧ Ext T.K ph ph' H H' ∧ RelH T ph' H' h' ∧ Post T ph' H' RB (f c h') Q E) E := by
  cases r with
  | ok w h' =>
    intro ph' v H' x R a
    cases w with
    | bl b => exact ⟨b, ph', h', a.i_bl, x, R, Post.ext x p⟩
    | _ => exact p.elim
  | exc c q h' => exact p
  | err => exact p.elim
theorem Post.boolT {r : Mr Mv} {Q : Bool → Hp → Prop} {E : XK} (p : Post T ph H (fun _ _ (c : Bool) b => b = c) r.bool Q E) : PostV T ph H r (fun v H' => ∃ c, v = .bl c ∧ Q c H') E := by
  cases r with
  | ok w h' =>
    intro ph' v H' x R a
    cases w with
    | bl b => exact ⟨b, a.i_bl, p ph' b H' x R rfl⟩
    | _ => exact p.elim
  | exc c q h' => exact p
  | err => exact p.elim
theorem Mr.tups_bind {α : Type} (r : Mr α) (f : α → Mh → Mr Mv) : (r.bind f).tups = r.bind fun x h => (f x h).tups := by cases r <;> rfl
theorem Mr.bool_bind {α : Type} (r : Mr α) (f : α → Mh → Mr Mv) : (r.bind f).bool = r.bind fun x h => (f x h).bool := by cases r <;> rfl
theorem Mr.bind_bind {α β γ : Type} (r : Mr α) (f : α → Mh → Mr β) (g : β → Mh → Mr γ) : (r.bind f).bind g = r.bind fun x h => (f x h).bind g := by cases r <;> rfl
theorem Mr.bool_okbl (c : Bool) (h : Mh) : (Mr.ok (Mv.bl c) h).bool = .ok c h := rfl
theorem Mr.bind_ok {α : Type} (r : Mr α) : (r.bind fun c h => .ok c h) = r := by cases r <;> rfl
end

abbrev ME (X : Cx) (ca : Str → Addr) (W : WX) (G : Sg) (e : Expr) (c : C) : Prop := PE X e (rdE (tbX X ca) W (ev G c))
abbrev MA (X : Cx) (ca : Str → Addr) (W : WX) (G : Sg) (es : List Expr) (c : C) : Prop := PA X es (rdA (tbX X ca) W (fun fr h => (ev G c fr h).tups))
abbrev MT (X : Cx) (ca : Str → Addr) (W : WX) (G : Sg) (e : Expr) (c : C) : Prop := PT X e (rdT (tbX X ca) W (fun fr h => (ev G c fr h).bool))
abbrev MW (X : Cx) (ca : Str → Addr) (W : WX) (G : Sg) (e : Expr) (c : C) : Prop := PW X e (rdT (tbX X ca) W (fun fr h => (ev G c fr h).bool))

/-- names: the defs with their parameters; the exceptions with their field -/
structure Tls where
  fn : List (Str × List Str)
  xc : List (Str × Str)
  kw : List (Str × Nat × List Str × List Ar)
  bl : List Str
structure XcT (K : PySem.W.Frag) (mg : Str → Option Value) (x f : Str) (C fI : Addr) : Prop where
  gC : mg x = some (.ref C)
  cls : ∃ nm q N bs bm sn sub ab col dd k0 k1 k2 k3 k5, K.lookup C = some (excClassObj nm q C N bs bm true sn sub ab col dd k0 k1 k2 k3 k5 "ValueError.__new__") ∧ PySem.HandSPX.refsVE bm = true
  sa : PySem.W.findIn K (.ref C) "__setattr__" = some (some (.builtin "object.__setattr__"))
  ga : PySem.W.findIn K (.ref C) "__getattribute__" = some (some (.builtin "BaseException.__getattribute__"))
  gg : PySem.W.findIn K (.ref C) "__getattr__" = some none
  noN : PySem.W.findIn K (.ref C) f = some none
  iC : PySem.W.findIn K (.ref C) "__init__" = some (some (.ref fI))
  tC : PySem.W.typeIn K (.ref fI) = some (.type "function")
  kC : PySem.W.keepIn K (.ref C) = true
  exC : PySem.W.subIn K (.ref C) (.type "BaseException") = some true
  tyC : PySem.W.typeIn K (.ref C) = some (.type "type")
  hdC : PySem.W.hasDictIn K C = true
  fn : ∃ (oc : Value) (od : Option Addr) (qual : Str) (args : Arguments) (sc : Scope) (doc pm : Value) (an : Option Addr) (cdv ct : Value) (osl : Array (Option Value)) (q1 q2 q3 q4 : Pos),
    K.lookup fI = some ⟨oc, od, .func (PySem.W.fnOf "__init__" qual args [.Assign [.Attribute (.Name "self" q1) f q2] (.Name f q3) q4] sc .none .none doc pm an cdv ct), osl⟩ ∧ PySem.W.codeIn K cdv qual = true ∧
    (∀ x v, bindArgs (PySem.W.fnOf "__init__" qual args [.Assign [.Attribute (.Name "self" q1) f q2] (.Name f q3) q4] sc .none .none doc pm an cdv ct) ⟨[x, v], []⟩ = pure [(("self" : Str), x), (f, v)]) ∧
    sc.kind = .function ∧ sc.names.lookup ("self" : Str) = some .local ∧ sc.names.lookup f = some .local ∧ (f == ("__debug__" : Str)) = false ∧ (f == ("self" : Str)) = false ∧ sc.isCoroutine = false ∧ sc.isGenerator = false
def FnRow (T : Tb) (lv : Nat) (G : Sg) (p : Str × List Str) : Prop := ∃ f fd, T.mg p.1 = some (.ref f) ∧ PySem.W.keepIn T.K (.ref f) = true ∧ (∀ us : List Value, us.length = p.2.length → bindArgs fd ⟨us, []⟩ = pure (p.2.zip us)) ∧ FnG T lv f fd p.2 (spF T p.2.length (G.ph p.1))
def KwRow (T : Tb) (lv : Nat) (G : Sg) (p : Str × Nat × List Str × List Ar) : Prop := ∃ f fd ps, T.mg p.1 = some (.ref f) ∧ PySem.W.keepIn T.K (.ref f) = true ∧ FnG T lv f fd ps (spF T ps.length (G.ph p.1)) ∧
    ∀ us ws : List Value, us.length = p.2.1 → ws.length = p.2.2.1.length → bindArgs fd ⟨us, p.2.2.1.zip ws⟩ = pure (ps.zip (pick us ws p.2.2.2)) ∧ (pick us ws p.2.2.2).length = ps.length
/-- what the module holds: its ints (and what else stands in G.cst); its defs; its exceptions; which names of the language it leaves alone -/
structure Tk (T : Tb) (lv : Nat) (G : Sg) (fnl : Tls) : Prop where
  cst : ∀ x v, G.cst x = some v → ∃ u x', T.mg x = some u ∧ RelV x' u ∧ ∀ ph H, RW T.K ph H v x'
  fn : ∀ p ∈ fnl.fn, FnRow T lv G p
  kw : ∀ p ∈ fnl.kw, KwRow T lv G p
  xc : ∀ p ∈ fnl.xc, ∃ fI, XcT T.K T.mg p.1 p.2 (T.ca p.1) fI
  bl : ∀ x ∈ fnl.bl, T.mg x = none
theorem lookup_mem {α β : Type} [BEq α] [LawfulBEq α] {x : α} {v : β} : ∀ {l : List (α × β)}, l.lookup x = some v → (x, v) ∈ l
  | [], h => nomatch h
  | (a, b) :: r, h => by
    rw [List.lookup_cons] at h
    split at h
    · rename_i e
      cases h
      rw [eq_of_beq e]
      exact List.mem_cons_self ..
    · exact List.mem_cons_of_mem _ (lookup_mem h)
/-- where a piece of code stands -/
structure Xg (X : Cx) (ca : Str → Addr) (W : WX) (lv : Nat) (G : Sg) (fnl : Tls) : Prop where
  tk : Takes X W
  calm : X.calm = true
  nd : X.N.Nodup
  room : Room (lv + 1) X.A
  gd : X.A.guards = some []
  tab : Tk (tbX X ca) lv G fnl
  po : PassesOwn (model X.prog X.w) X.A X.env X.xe
theorem Xg.nb {X : Cx} {ca : Str → Addr} {W : WX} {lv : Nat} {G : Sg} {fnl : Tls} (xg : Xg X ca W lv G fnl) {x : Str} (h : fnl.bl.contains x = true) : X.mg x = none := xg.tab.bl x (by simpa using h)

section
variable {X : Cx} {ca : Str → Addr} {W : WX} {lv : Nat} {G : Sg} {fnl : Tls} {a b c : Expr} {ka kb kc : C} {pos p2 p3 : Pos} {es : List Expr} {x : Str}

theorem me_of {t : TE} {e : Expr} {k : C} (h : PE X e t) (w : ∀ σ H Q ph fr h, RelF (tbX X ca) ph H fr σ → RelH (tbX X ca) ph H h → PostV (tbX X ca) ph H (ev G k fr h) Q (fun c d H' => W c d σ H') → t σ H Q) : ME X ca W G e k :=
  PE.weak h fun σ H Q ⟨ph, fr, h, RF, R, p⟩ => w σ H Q ph fr h RF R p

theorem m_int {i : Int} {j} : ME X ca W G (.Constant (.int i) j pos) (.lit (.int i)) := me_of pe_int fun σ H Q ph fr h RF R p => post_same R (.int _) p
theorem m_bl {i : Bool} {j} : ME X ca W G (.Constant (.bool i) j pos) (.lit (.bl i)) := me_of pe_bl fun σ H Q ph fr h RF R p => post_same R (.bl _) p
theorem m_non {j} : ME X ca W G (.Constant .none j pos) (.lit .non) := me_of pe_non fun σ H Q ph fr h RF R p => post_same R .non p
theorem m_str {i : Str} {j} : ME X ca W G (.Constant (.str i) j pos) (.lit (.str i)) := me_of pe_str fun σ H Q ph fr h RF R p => post_same R (.str _) p
theorem m_var {i : Nat} (hN : X.N[i]? = some x) (hv : Vis X.env.scope x) (hd : (x == ("__debug__" : Str)) = false := by decide) (hcd : (x == ("__classdict__" : Str)) = false := by decide) : ME X ca W G (.Name x pos) (.var i) :=
  me_of (pe_var hN hv hd hcd) fun σ H Q ph fr h RF R p => by
    unfold ev at p
    split at p
    · rename_i v e
      obtain ⟨v', e1, e2⟩ := RF.2 i v e
      exact ⟨v', e1, post_same R e2 p⟩
    · exact p.elim
theorem m_cst {v : Mv} (xg : Xg X ca W lv G fnl) (hg : Gl X x) (hc : G.cst x = some v) (hd : (x == ("__debug__" : Str)) = false := by decide) : ME X ca W G (.Name x pos) (.cst x) := by
  obtain ⟨u, x', e1, e2, e3⟩ := xg.tab.cst x v hc
  refine me_of (pe_glob hg e1 e2 hd) fun σ H Q ph fr h RF R p => ?_
  unfold ev at p
  rw [hc] at p
  exact post_same R (e3 ph H) p

/-- two places -/
theorem two {σ : L2.St} {H : Hp} {ph : List Addr} {fr : Mf} {h : Mh} {γ δ : Type} {RB : List Addr → Hp → γ → δ → Prop} {Q : δ → Hp → Prop} {E : XK} {f : Mv → Mv → Mh → Mr γ} {T : Tb} (hE : E = fun c d H' => W c d σ H') (RF : RelF T ph H fr σ) (R : RelH T ph H h)
    (p : Post T ph H RB ((ev G ka fr h).bind fun x h1 => (ev G kb fr h1).bind fun y h2 => f x y h2) Q E) :
    rdE T W (ev G ka) σ H fun x H1 => rdE T W (ev G kb) σ H1 fun y H2 => ∃ ph' a b h', Ext T.K ph ph' H H2 ∧ RelF T ph' H2 fr σ ∧ RelH T ph' H2 h' ∧ RW T.K ph' H2 a x ∧ RW T.K ph' H2 b y ∧ Post T ph' H2 RB (f a b h') Q E := by
  subst hE
  refine ⟨ph, fr, h, RF, R, p.bind.mono (fun x H1 ⟨ph1, a, h1, x1, R1, ra, p1⟩ => ⟨ph1, fr, h1, RF.ext x1, R1, p1.bind.mono (fun y H2 ⟨ph2, b, h2, x2, R2, rb, p2⟩ => ?_) fun _ _ _ z => z⟩) fun _ _ _ z => z⟩
  exact ⟨ph2, a, b, h2, x1.trans x2, (RF.ext x1).ext x2, R2, RW.ext x2 ra, rb, p2⟩
theorem one {σ : L2.St} {H : Hp} {ph : List Addr} {fr : Mf} {h : Mh} {γ δ : Type} {RB : List Addr → Hp → γ → δ → Prop} {Q : δ → Hp → Prop} {E : XK} {f : Mv → Mh → Mr γ} {T : Tb} (hE : E = fun c d H' => W c d σ H') (RF : RelF T ph H fr σ) (R : RelH T ph H h)
    (p : Post T ph H RB ((ev G ka fr h).bind fun x h1 => f x h1) Q E) :
    rdE T W (ev G ka) σ H fun x H1 => ∃ ph' a h', Ext T.K ph ph' H H1 ∧ RelF T ph' H1 fr σ ∧ RelH T ph' H1 h' ∧ RW T.K ph' H1 a x ∧ Post T ph' H1 RB (f a h') Q E := by
  subst hE
  exact ⟨ph, fr, h, RF, R, p.bind.mono (fun x H1 ⟨ph1, a, h1, x1, R1, ra, p1⟩ => ⟨ph1, a, h1, x1, RF.ext x1, R1, ra, p1⟩) fun _ _ _ z => z⟩
/-- rdE goes along the wish -/
theorem rdE_mono {T : Tb} {f : Mf → Mh → Mr Mv} {σ : L2.St} {H : Hp} {Q Q' : VK} (r : rdE T W f σ H Q) (h : ∀ v H, Q v H → Q' v H) : rdE T W f σ H Q' := by
  obtain ⟨ph, fr, m, RF, R, p⟩ := r
  exact ⟨ph, fr, m, RF, R, p.mono h fun _ _ _ z => z⟩
theorem rdA_mono {T : Tb} {f : Mf → Mh → Mr (List Mv)} {σ : L2.St} {H : Hp} {Q Q' : List V → Hp → Prop} (r : rdA T W f σ H Q) (h : ∀ v H, Q v H → Q' v H) : rdA T W f σ H Q' := by
  obtain ⟨ph, fr, m, RF, R, p⟩ := r
  exact ⟨ph, fr, m, RF, R, p.mono h fun _ _ _ z => z⟩
theorem rdT_mono {T : Tb} {f : Mf → Mh → Mr Bool} {σ : L2.St} {H : Hp} {Q Q' : Bool → Hp → Prop} (r : rdT T W f σ H Q) (h : ∀ v H, Q v H → Q' v H) : rdT T W f σ H Q' := by
  obtain ⟨ph, fr, m, RF, R, p⟩ := r
  exact ⟨ph, fr, m, RF, R, p.mono h fun _ _ _ z => z⟩

theorem m_bin {op : Operator} (ha : ME X ca W G a ka) (hb : ME X ca W G b kb) : ME X ca W G (.BinOp a op b pos) (.bin op ka kb) :=
  me_of (pe_op (opB_ok (ca := ca) op) ha hb) fun σ H Q ph fr h RF R p => by
    unfold ev at p
    refine rdE_mono (two rfl RF R p) fun x H1 q => rdE_mono q fun y H2 ⟨ph', u, v, h', _, _, R', ra, rb, p'⟩ => ⟨_, ph', u, v, h', R', ra, rb, p'⟩
theorem m_neg (ha : ME X ca W G a ka) : ME X ca W G (.UnaryOp .USub a pos) (.neg ka) :=
  me_of (pe_un un_neg ha) fun σ H Q ph fr h RF R p => by
    unfold ev at p
    refine rdE_mono (one rfl RF R p) fun x H1 ⟨ph', u, h', _, _, R', ra, p'⟩ => ?_
    cases u with
    | int i => exact ⟨i, ra.i_int, post_same R' (.int _) p'⟩
    | _ => exact p'.elim
theorem bl_of {T : Tb} {ph : List Addr} {H : Hp} {r : Mr Bool} {Q : VK} {E : XK} (p : PostV T ph H (r.bind fun c h3 => .ok (.bl c) h3) Q E) : Post T ph H (fun _ _ (c : Bool) (v : V) => v = .bl c) r Q E := by
  cases r with
  | ok c h' => exact fun ph' v H' x R e => p ph' v H' x R (e ▸ RW.bl c)
  | exc c q h' => exact p
  | err => exact p.elim
theorem bl_ofT {T : Tb} {ph : List Addr} {H : Hp} {r : Mr Bool} {Q : Bool → Hp → Prop} {E : XK} (p : Post T ph H (fun _ _ (c : Bool) b => b = c) r Q E) : Post T ph H (fun _ _ (c : Bool) (v : V) => v = .bl c) r (fun x H' => ∃ k, x = .bl k ∧ Q k H') E := by
  cases r with
  | ok c h' => exact fun ph' v H' x R e => ⟨c, e, p ph' c H' x R rfl⟩
  | exc c q h' => exact p
  | err => exact p.elim
theorem m_cmp {op : CmpOp} (xg : Xg X ca W lv G fnl) (ha : ME X ca W G a ka) (hb : ME X ca W G b kb) (hm : behindInMarks op b = false := by first | exact nobehind _ (by decide) (by decide) | rfl) : ME X ca W G (.Compare a [op] [b] pos) (.cmp op ka kb) :=
  me_of (pe_cmpR (opC_ok (ca := ca) op xg.room.units) ha hb hm) fun σ H Q ph fr h RF R p => by
    unfold ev at p
    refine rdE_mono (two (f := fun x y h2 => (opC op x y h2).bind fun (c : Bool) h3 => Mr.ok (Mv.bl c) h3) rfl RF R p) fun x H1 q => rdE_mono q fun y H2 ⟨ph', u, v, h', _, _, R', ra, rb, p'⟩ => ⟨_, ph', u, v, h', R', ra, rb, bl_of p'⟩
theorem m_tcmp {op : CmpOp} (xg : Xg X ca W lv G fnl) (ha : ME X ca W G a ka) (hb : ME X ca W G b kb) (hm : behindInMarks op b = false := by first | exact nobehind _ (by decide) (by decide) | rfl) : MT X ca W G (.Compare a [op] [b] pos) (.cmp op ka kb) :=
  PT.weak (pt_cmpR (opC_ok (ca := ca) op xg.room.units) ha hb hm) fun σ H Q ⟨ph, fr, h, RF, R, p⟩ => by
    unfold ev at p
    dsimp only at p
    rw [Mr.bool_bind] at p
    simp only [Mr.bool_bind, Mr.bool_okbl, Mr.bind_ok] at p
    exact rdE_mono (two (f := fun x y h2 => opC op x y h2) rfl RF R p) fun x H1 q => rdE_mono q fun y H2 ⟨ph', u, v, h', _, _, R', ra, rb, p'⟩ => ⟨_, ph', u, v, h', R', ra, rb, bl_ofT p'⟩
end
end MP

/-! more rules for expressions -/
namespace MP
open PySem PySem.Spec PyProof.Rows L2

section
variable {X : Cx} {ca : Str → Addr} {W : WX} {lv : Nat} {G : Sg} {fnl : Tls} {a b c e : Expr} {ka kb kc : C} {pos p2 p3 : Pos} {es rest : List Expr} {x : Str}

theorem chain_core {T : Tb} {op op' : CmpOp} {β δ : Type} {RB : List Addr → Hp → β → δ → Prop} {fin : Bool → Mh → Mr β} {σ : L2.St} {H : Hp} {ph : List Addr} {fr : Mf} {h : Mh} {Q : δ → Hp → Prop} {QV : VK} (RF : RelF T ph H fr σ) (R : RelH T ph H h)
    (hQ : ∀ {ph' : List Addr} {H' : Hp} {h' : Mh} {r : Mr Bool}, Post T ph' H' RB (r.bind fin) Q (fun c d H' => W c d σ H') → Post T ph' H' (fun _ _ (c : Bool) (v : V) => v = .bl c) r QV (fun c d H' => W c d σ H'))
    (hF : ∀ {ph' : List Addr} {H' : Hp} {h' : Mh}, RelH T ph' H' h' → Post T ph' H' RB (fin false h') Q (fun c d H' => W c d σ H') → QV (.bl false) H')
    (p : Post T ph H RB ((ev G ka fr h).bind fun x h1 => (ev G kb fr h1).bind fun y h2 => (opC op x y h2).bind fun k h3 =>
      if k then (ev G kc fr h3).bind fun z h4 => (opC op' y z h4).bind fin else fin false h3) Q (fun c d H' => W c d σ H')) :
    tChain (rdC T (opC op)) (rdC T (opC op')) (rdE T W (ev G ka)) (rdE T W (ev G kb)) (rdE T W (ev G kc)) σ H QV := by
  refine rdE_mono (two rfl RF R p) fun x H1 q => rdE_mono q fun y H2 ⟨ph', u, v, h', _, RF', R', ra, rb, p'⟩ => ⟨fun c d H' => W c d σ H', ph', u, v, h', R', ra, rb, ?_⟩
  refine (p'.bind (RA := fun _ _ (c : Bool) (v : V) => v = .bl c)).mono (fun z H3 ⟨ph3, k, h3, x3, R3, ez, p3⟩ => ⟨k, ez, ?_⟩) fun _ _ _ z => z
  cases k with
  | true =>
    rw [if_pos rfl] at p3 ⊢
    exact ⟨ph3, fr, h3, RF'.ext x3, R3, p3.bind.mono (fun w H4 ⟨ph4, t, h4, x4, R4, rt, p4⟩ => ⟨fun c d H' => W c d σ H', ph4, v, t, h4, R4, RW.ext (x3.trans x4) rb, rt, hQ (h' := h4) p4⟩) fun _ _ _ z => z⟩
  | false =>
    rw [if_neg Bool.false_ne_true] at p3 ⊢
    exact hF R3 p3
theorem m_chn {op op' : CmpOp} (xg : Xg X ca W lv G fnl) (ha : ME X ca W G a ka) (hb : ME X ca W G b kb) (hc : ME X ca W G c kc) (hm : lastMarks [op, op'] [b, c] = false := by with_unfolding_all rfl) : ME X ca W G (.Compare a [op, op'] [b, c] pos) (.chn op op' ka kb kc) :=
  me_of (pe_chain (opC_ok (ca := ca) op xg.room.units) (opC_ok (ca := ca) op' xg.room.units) ha hb hc hm) fun σ H Q ph fr h RF R p => by
    unfold ev at p
    exact chain_core (RB := fun p H => RW (tbX X ca).K p H) (fin := fun (c : Bool) h3 => Mr.ok (Mv.bl c) h3) RF R (fun p => bl_of p) (fun R p => post_same R (.bl _) p) p
theorem m_tchn {op op' : CmpOp} (xg : Xg X ca W lv G fnl) (ha : ME X ca W G a ka) (hb : ME X ca W G b kb) (hc : ME X ca W G c kc) (hm : lastMarks [op, op'] [b, c] = false := by with_unfolding_all rfl) : MT X ca W G (.Compare a [op, op'] [b, c] pos) (.chn op op' ka kb kc) :=
  PT.weak (pt_chain (opC_ok (ca := ca) op xg.room.units) (opC_ok (ca := ca) op' xg.room.units) ha hb hc hm) fun σ H Q ⟨ph, fr, h, RF, R, p⟩ => by
    have e : (ev G (.chn op op' ka kb kc) fr h).bool = ((ev G ka fr h).bind fun x h1 => (ev G kb fr h1).bind fun y h2 => (opC op x y h2).bind fun k h3 =>
      if k then (ev G kc fr h3).bind fun z h4 => (opC op' y z h4).bind fun c h => .ok c h else .ok false h3) := by
      show (Mr.bind _ _).bool = _
      simp only [Mr.bool_bind]
      congr 1; funext x h1; congr 1; funext y h2; congr 1; funext k h3
      cases k with
      | true => simp only [if_true, Mr.bool_bind, Mr.bool_okbl]
      | false => rfl
    dsimp only at p
    rw [e] at p
    refine chain_core (RB := fun _ _ (c : Bool) b => b = c) (fin := fun (c : Bool) h3 => Mr.ok c h3) RF R (fun p => ?_) (fun {ph' H' h'} R p => ⟨false, rfl, p ph' false H' .refl R rfl⟩) p
    rw [Mr.bind_ok] at p
    exact bl_ofT p

/-- a test inside -/
theorem inT {T : Tb} {β δ : Type} {RB : List Addr → Hp → β → δ → Prop} {f : Bool → Mh → Mr β} {σ : L2.St} {H : Hp} {ph : List Addr} {fr : Mf} {h : Mh} {Q : δ → Hp → Prop} {E : XK} (hE : E = fun c d H' => W c d σ H') (RF : RelF T ph H fr σ) (R : RelH T ph H h)
    (p : Post T ph H RB ((ev G ka fr h).bool.bind f) Q E) :
    rdT T W (fun fr h => (ev G ka fr h).bool) σ H fun c H1 => ∃ ph' h', Ext T.K ph ph' H H1 ∧ RelF T ph' H1 fr σ ∧ RelH T ph' H1 h' ∧ Post T ph' H1 RB (f c h') Q E := by
  subst hE
  exact ⟨ph, fr, h, RF, R, p.bind.mono (fun c H1 ⟨ph1, k, h1, x1, R1, e, p1⟩ => ⟨ph1, h1, x1, RF.ext x1, R1, by rw [e]; exact p1⟩) fun _ _ _ z => z⟩
theorem inB {T : Tb} {β δ : Type} {RB : List Addr → Hp → β → δ → Prop} {f : Bool → Mh → Mr β} {σ : L2.St} {H : Hp} {ph : List Addr} {fr : Mf} {h : Mh} {Q : δ → Hp → Prop} {E : XK} (hE : E = fun c d H' => W c d σ H') (RF : RelF T ph H fr σ) (R : RelH T ph H h)
    (p : Post T ph H RB ((ev G ka fr h).bool.bind f) Q E) :
    rdE T W (ev G ka) σ H fun v H1 => ∃ c ph' h', v = .bl c ∧ Ext T.K ph ph' H H1 ∧ RelF T ph' H1 fr σ ∧ RelH T ph' H1 h' ∧ Post T ph' H1 RB (f c h') Q E := by
  subst hE
  exact ⟨ph, fr, h, RF, R, p.bool.mono (fun v H1 ⟨k, ph1, h1, e, x1, R1, p1⟩ => ⟨k, ph1, h1, e, x1, RF.ext x1, R1, p1⟩) fun _ _ _ z => z⟩
theorem bool_r {T : Tb} {r : Mr Mv} {Q : VK} {E : XK} {ph : List Addr} {H : Hp} (p : PostV T ph H (r.bool.bind fun d h2 => .ok (.bl d) h2) Q E) : PostV T ph H r Q E := by
  cases r with
  | ok w h' =>
    cases w with
    | bl b => exact p
    | _ => exact p.elim
  | exc c q h' => exact p
  | err => exact p.elim
theorem m_and (ha : ME X ca W G a ka) (hb : ME X ca W G (.BoolOp .And (b :: rest) pos) kb) : ME X ca W G (.BoolOp .And (a :: b :: rest) pos) (.and ka kb) :=
  me_of (pe_and ha hb) fun σ H Q ph fr h RF R p => by
    unfold ev at p
    refine rdE_mono (inB rfl RF R p) fun v H1 ⟨c, ph', h', ev', _, RF', R', p'⟩ => ⟨c, ev', ?_⟩
    cases c with
    | true =>
      rw [if_pos rfl] at p' ⊢
      exact ⟨ph', fr, h', RF', R', bool_r p'⟩
    | false =>
      rw [if_neg Bool.false_ne_true] at p' ⊢
      exact post_same R' (.bl _) p'
theorem m_or (ha : ME X ca W G a ka) (hb : ME X ca W G (.BoolOp .Or (b :: rest) pos) kb) : ME X ca W G (.BoolOp .Or (a :: b :: rest) pos) (.or ka kb) :=
  me_of (pe_or ha hb) fun σ H Q ph fr h RF R p => by
    unfold ev at p
    refine rdE_mono (inB rfl RF R p) fun v H1 ⟨c, ph', h', ev', _, RF', R', p'⟩ => ⟨c, ev', ?_⟩
    cases c with
    | true =>
      rw [if_pos rfl] at p' ⊢
      exact post_same R' (.bl _) p'
    | false =>
      rw [if_neg Bool.false_ne_true] at p' ⊢
      exact ⟨ph', fr, h', RF', R', bool_r p'⟩
theorem m_one {op} (ha : ME X ca W G a ka) : ME X ca W G (.BoolOp op [a] pos) ka := pe_one ha
theorem m_tand1 (ha : MT X ca W G a ka) : MW X ca W G (.BoolOp .And [a] pos) ka := pw_and1 ha
theorem m_tor1 (ha : MT X ca W G a ka) : MW X ca W G (.BoolOp .Or [a] pos) ka := pw_or1 ha
theorem PW.weak {X : Cx} {e : Expr} {t t' : TT} (h : PW X e t) (w : ∀ σ H Q, t' σ H Q → t σ H Q) : PW X e t' := ⟨fun wh pins s σ H Q I q => h.run wh pins s σ H Q I (w σ H Q q)⟩
theorem bool_b {T : Tb} {r : Mr Bool} {Q : Bool → Hp → Prop} {E : XK} {ph : List Addr} {H : Hp} (p : Post T ph H (fun _ _ (c : Bool) b => b = c) (r.bind fun d h2 => (Mr.ok (Mv.bl d) h2).bool) Q E) : Post T ph H (fun _ _ (c : Bool) b => b = c) r Q E := by
  cases r <;> exact p
theorem m_tand (ha : MT X ca W G a ka) (hb : MW X ca W G (.BoolOp .And (b :: rest) pos) kb) : MW X ca W G (.BoolOp .And (a :: b :: rest) pos) (.and ka kb) :=
  PW.weak (pw_and ha hb) fun σ H Q ⟨ph, fr, h, RF, R, p⟩ => by
    unfold ev at p
    dsimp only at p
    rw [Mr.bool_bind] at p
    refine rdT_mono (inT rfl RF R p) fun c H1 ⟨ph', h', _, RF', R', p'⟩ => ?_
    cases c with
    | true =>
      rw [if_pos rfl] at p' ⊢
      rw [Mr.bool_bind] at p'
      exact ⟨ph', fr, h', RF', R', bool_b p'⟩
    | false =>
      rw [if_neg Bool.false_ne_true] at p' ⊢
      exact p' ph' false H1 .refl R' rfl
theorem m_tor (ha : MT X ca W G a ka) (hb : MW X ca W G (.BoolOp .Or (b :: rest) pos) kb) : MW X ca W G (.BoolOp .Or (a :: b :: rest) pos) (.or ka kb) :=
  PW.weak (pw_or ha hb) fun σ H Q ⟨ph, fr, h, RF, R, p⟩ => by
    unfold ev at p
    dsimp only at p
    rw [Mr.bool_bind] at p
    refine rdT_mono (inT rfl RF R p) fun c H1 ⟨ph', h', _, RF', R', p'⟩ => ?_
    cases c with
    | true =>
      rw [if_pos rfl] at p' ⊢
      exact p' ph' true H1 .refl R' rfl
    | false =>
      rw [if_neg Bool.false_ne_true] at p' ⊢
      rw [Mr.bool_bind] at p'
      exact ⟨ph', fr, h', RF', R', bool_b p'⟩
theorem m_tw (h : MW X ca W G a ka) : MT X ca W G a ka := h.pt
theorem m_tnot (ha : MT X ca W G a ka) : MT X ca W G (.UnaryOp .Not a pos) (.not ka) :=
  PT.weak (pt_not ha) fun σ H Q ⟨ph, fr, h, RF, R, p⟩ => by
    unfold ev at p
    dsimp only at p
    rw [Mr.bool_bind] at p
    exact rdT_mono (inT rfl RF R p) fun c H1 ⟨ph', h', _, RF', R', p'⟩ => p' ph' (!c) H1 .refl R' rfl
theorem tru_of {T : Tb} {ph : List Addr} {H : Hp} {h : Mh} {a : Mv} {x : V} {Q : Bool → Hp → Prop} {E : XK} {β δ : Type} {RB : List Addr → Hp → β → δ → Prop} {QQ : δ → Hp → Prop} {f : Bool → Mh → Mr β} (R : RelH T ph H h) (ra : RW T.K ph H a x)
    (p : Post T ph H RB ((Mr.ofO (truM h a) h).bind f) QQ E) : ∃ k, TruV T.K x H k ∧ Post T ph H RB (f k h) QQ E := by
  cases e : truM h a with
  | none => rw [e] at p; exact p.elim
  | some k => rw [e] at p; exact ⟨k, truV_of R ra e, p⟩
/-- not of any value -/
theorem m_not (ha : ME X ca W G a ka) : ME X ca W G (.UnaryOp .Not a pos) (.not (.tru ka)) :=
  me_of (pe_notT ha) fun σ H Q ph fr h RF R p => by
    unfold ev at p
    have e : ((ev G (.tru ka) fr h).bool.bind fun c h1 => Mr.ok (Mv.bl (!c)) h1) = (ev G ka fr h).bind fun x h1 => (Mr.ofO (truM h1 x) h1).bind fun c h1 => Mr.ok (Mv.bl (!c)) h1 := by
      show (Mr.bind _ _).bool.bind _ = _
      rw [Mr.bool_bind, Mr.bind_bind]
      congr 1; funext x h1
      cases truM h1 x <;> rfl
    rw [e] at p
    refine rdE_mono (one rfl RF R p) fun x H1 ⟨ph', u, h', _, RF', R', ra, p'⟩ => ?_
    obtain ⟨k, tk, p2⟩ := tru_of (Q := fun _ _ => True) R' ra p'
    exact ⟨k, tk, post_same R' (.bl _) p2⟩
theorem m_ttru (ha : ME X ca W G a ka) (he : ∀ whole, isTrue a X.env whole = (do let v ← whole; standAt a.pos; holding [v] (truthy v)) := by intro _; rfl) : MT X ca W G a (.tru ka) :=
  PT.weak (pt_truth ha he) fun σ H Q ⟨ph, fr, h, RF, R, p⟩ => by
    unfold ev at p
    dsimp only at p
    rw [Mr.bool_bind] at p
    refine rdE_mono (one rfl RF R p) fun x H1 ⟨ph', u, h', _, RF', R', ra, p'⟩ => ?_
    cases e : truM h' u with
    | none => rw [e] at p'; exact p'.elim
    | some k => rw [e] at p'; exact ⟨k, truV_of R' ra e, p' ph' k H1 .refl R' rfl⟩
theorem m_ife (hc : MT X ca W G c kc) (ha : ME X ca W G a ka) (hb : ME X ca W G b kb) : ME X ca W G (.IfExp c a b pos) (.ife kc ka kb) :=
  me_of (pe_ifExp hc ha hb) fun σ H Q ph fr h RF R p => by
    unfold ev at p
    refine rdT_mono (inT rfl RF R p) fun c H1 ⟨ph', h', _, RF', R', p'⟩ => ?_
    cases c with
    | true =>
      rw [if_pos rfl] at p' ⊢
      exact ⟨ph', fr, h', RF', R', p'⟩
    | false =>
      rw [if_neg Bool.false_ne_true] at p' ⊢
      exact ⟨ph', fr, h', RF', R', p'⟩

/-! ### argument lists -/
theorem ma_of {t : TA} {k : C} (h : PA X es t) (w : ∀ σ H Q ph fr h, RelF (tbX X ca) ph H fr σ → RelH (tbX X ca) ph H h → PostL (tbX X ca) ph H (ev G k fr h).tups Q (fun c d H' => W c d σ H') → t σ H Q) : MA X ca W G es k :=
  PA.weak h fun σ H Q ⟨ph, fr, h, RF, R, p⟩ => w σ H Q ph fr h RF R p
theorem m_anil : MA X ca W G [] .anil := ma_of pa_nil fun σ H Q ph fr h RF R p => p ph [] H .refl R .nil
/-- arguments inside -/
theorem inA {T : Tb} {β δ : Type} {RB : List Addr → Hp → β → δ → Prop} {f : List Mv → Mh → Mr β} {σ : L2.St} {H : Hp} {ph : List Addr} {fr : Mf} {h : Mh} {Q : δ → Hp → Prop} {E : XK} (hE : E = fun c d H' => W c d σ H') (RF : RelF T ph H fr σ) (R : RelH T ph H h)
    (p : Post T ph H RB ((ev G ka fr h).tups.bind f) Q E) :
    rdA T W (fun fr h => (ev G ka fr h).tups) σ H fun xs H1 => ∃ ph' ws h', Ext T.K ph ph' H H1 ∧ RelF T ph' H1 fr σ ∧ RelH T ph' H1 h' ∧ RWs T.K ph' H1 ws xs ∧ Post T ph' H1 RB (f ws h') Q E := by
  subst hE
  exact ⟨ph, fr, h, RF, R, p.bind.mono (fun c H1 ⟨ph1, ws, h1, x1, R1, rs, p1⟩ => ⟨ph1, ws, h1, x1, RF.ext x1, R1, rs, p1⟩) fun _ _ _ z => z⟩
theorem tups_cons {r : Mr Mv} {x : Mv} : ((r.tups.bind fun xs h2 => Mr.ok (Mv.tup (x :: xs)) h2).tups) = r.tups.bind fun xs h2 => .ok (x :: xs) h2 := by
  rw [Mr.tups_bind]; rfl
theorem m_acons (ha : ME X ca W G e ka) (hr : MA X ca W G es kb) (hs : starEach (e :: es) X.env = (false, eval e X.env) :: starEach es X.env := by rfl) : MA X ca W G (e :: es) (.acons ka kb) :=
  ma_of (pa_cons ha hr hs) fun σ H Q ph fr h RF R p => by
    unfold ev at p
    rw [Mr.tups_bind] at p
    simp only [tups_cons] at p
    refine rdE_mono (one rfl RF R p) fun x H1 ⟨ph', u, h', _, RF', R', ra, p'⟩ => ?_
    refine rdA_mono (inA rfl RF' R' p') fun xs H2 ⟨ph2, ws, h2, x2, _, R2, rs, p2⟩ => ?_
    exact p2 ph2 _ H2 .refl R2 (.cons (RW.ext x2 ra) rs)
theorem tups_app {r : Mr Mv} {ys : List Mv} : ((r.tups.bind fun xs h2 => Mr.ok (Mv.tup (ys ++ xs)) h2).tups) = r.tups.bind fun xs h2 => .ok (ys ++ xs) h2 := by
  rw [Mr.tups_bind]; rfl
theorem m_astar (ha : ME X ca W G e ka) (hr : MA X ca W G es kb) (hs : starEach (.Starred e pos :: es) X.env = (true, eval e X.env) :: starEach es X.env := by rfl) : MA X ca W G (.Starred e pos :: es) (.astar ka kb) :=
  ma_of (StX.pa_star ha hr hs) fun σ H Q ph fr h RF R p => by
    unfold ev at p
    rw [Mr.tups_bind] at p
    refine rdE_mono (one rfl RF R p) fun x H1 ⟨ph', u, h', _, RF', R', ra, p'⟩ => ?_
    cases e : itemsM u h' with
    | none => rw [e] at p'; exact p'.elim
    | some ys =>
      rw [e] at p'
      dsimp only at p'
      rw [tups_app] at p'
      obtain ⟨a, vs, rfl, rs, k⟩ := items_rel R' ra e
      refine ⟨a, vs, rfl, ?_, ?_⟩
      · rcases k with k | ⟨_, k⟩
        · exact .inr k
        · exact .inl k
      · refine rdA_mono (inA rfl RF' R' p') fun xs H2 ⟨ph2, ws, h2, x2, _, R2, rs2, p2⟩ => ?_
        exact p2 ph2 _ H2 .refl R2 ((RWs.ext x2 rs).append rs2)
theorem m_tup {x1} (ha : MA X ca W G es ka) : ME X ca W G (.Tuple es x1 pos) (.tup ka) :=
  me_of (pe_tup ha) fun σ H Q ph fr h RF R p => by
    unfold ev at p
    refine rdA_mono (inA rfl RF R p) fun xs H1 ⟨ph', ws, h', _, _, R', rs, p'⟩ => ?_
    split at p'
    · rename_i hl
      exact ⟨by rw [← rs.length, ← line_eq]; exact hl, fun q hq => post_tup R' p' rs hq⟩
    · exact p'.elim
theorem m_lst (ha : MA X ca W G es ka) : ME X ca W G (.List es pos) (.lst ka) :=
  me_of (pe_lst ha) fun σ H Q ph fr h RF R p => by
    unfold ev at p
    refine rdA_mono (inA rfl RF R p) fun xs H1 ⟨ph', ws, h', _, _, R', rs, p'⟩ => ?_
    split at p'
    · rename_i hl
      exact ⟨by rw [← rs.length, ← line_eq]; exact hl, fun q hq => post_lst R' p' rs hq⟩
    · exact p'.elim

/-! ### places, slices -/
theorem m_ix (ha : ME X ca W G a ka) (hb : ME X ca W G b kb) (hs : PlainIx b := by intro _ _; rfl) : ME X ca W G (.Subscript a b pos) (.ix ka kb) :=
  me_of (pe_ix (ixM_ok (ca := ca)) ha hb hs) fun σ H Q ph fr h RF R p => by
    unfold ev at p
    exact rdE_mono (two rfl RF R p) fun x H1 q => rdE_mono q fun y H2 ⟨ph', u, v, h', _, _, R', ra, rb, p'⟩ => ⟨_, ph', u, v, h', R', ra, rb, p'⟩
def PartR : List Addr → Hp → Mv → Option Int → Prop := fun _ _ w o => (w = .non ∧ o = none) ∨ ∃ i, w = .int i ∧ o = some i
def rdP (T : Tb) (W : WX) (f : Mf → Mh → Mr Mv) : TO := fun σ H Q => ∃ ph fr h, RelF T ph H fr σ ∧ RelH T ph H h ∧ Post T ph H PartR (f fr h) Q (fun c d H' => W c d σ H')
abbrev MO (X : Cx) (ca : Str → Addr) (W : WX) (G : Sg) (e : Option Expr) (c : C) : Prop := PO X e (rdP (tbX X ca) W (ev G c))
theorem PO.weak {X : Cx} {e : Option Expr} {t t' : TO} (h : PO X e t) (w : ∀ σ H Q, t' σ H Q → t σ H Q) : PO X e t' := ⟨fun pins s σ H Q I q => h.run pins s σ H Q I (w σ H Q q)⟩
theorem m_po0 : MO X ca W G none .nop := PO.weak po_none fun σ H Q ⟨ph, fr, h, RF, R, p⟩ => p ph none H .refl R (.inl ⟨rfl, rfl⟩)
theorem m_po1 (ha : ME X ca W G e ka) : MO X ca W G (some e) (.fst ka) := PO.weak (po_some ha) fun σ H Q ⟨ph, fr, h, RF, R, p⟩ => by
  unfold ev at p
  refine rdE_mono (one (RB := PartR) rfl RF R p) fun x H1 ⟨ph', u, h', _, RF', R', ra, p'⟩ => ?_
  cases u with
  | int i => exact ⟨i, ra.i_int, p' ph' (some i) H1 .refl R' (.inr ⟨i, rfl, rfl⟩)⟩
  | _ => exact p'.elim
theorem rdP_mono {T : Tb} {f : Mf → Mh → Mr Mv} {σ : L2.St} {H : Hp} {Q Q' : Option Int → Hp → Prop} (r : rdP T W f σ H Q) (h : ∀ v H, Q v H → Q' v H) : rdP T W f σ H Q' := by
  obtain ⟨ph, fr, m, RF, R, p⟩ := r
  exact ⟨ph, fr, m, RF, R, p.mono h fun _ _ _ z => z⟩
theorem inP {T : Tb} {β δ : Type} {RB : List Addr → Hp → β → δ → Prop} {f : Mv → Mh → Mr β} {σ : L2.St} {H : Hp} {ph : List Addr} {fr : Mf} {h : Mh} {Q : δ → Hp → Prop} {E : XK} (hE : E = fun c d H' => W c d σ H') (RF : RelF T ph H fr σ) (R : RelH T ph H h)
    (p : Post T ph H RB ((ev G ka fr h).bind f) Q E) :
    rdP T W (ev G ka) σ H fun o H1 => ∃ ph' w h', Ext T.K ph ph' H H1 ∧ RelF T ph' H1 fr σ ∧ RelH T ph' H1 h' ∧ PartR ph' H1 w o ∧ Post T ph' H1 RB (f w h') Q E := by
  subst hE
  exact ⟨ph, fr, h, RF, R, p.bind.mono (fun c H1 ⟨ph1, ws, h1, x1, R1, rs, p1⟩ => ⟨ph1, ws, h1, x1, RF.ext x1, R1, rs, p1⟩) fun _ _ _ z => z⟩
theorem m_slc {lo hi : Option Expr} (ha : ME X ca W G a ka) (hl : MO X ca W G lo kb) (hh : MO X ca W G hi kc) : ME X ca W G (.Subscript a (.Slice lo hi none p2) pos) (.slc ka kb kc) :=
  me_of (pe_slice (slM_ok (ca := ca)) ha hl hh) fun σ H Q ph fr h RF R p => by
    unfold ev at p
    refine rdE_mono (one rfl RF R p) fun x H1 ⟨ph1, u, h1, _, RF1, R1, ra, p1⟩ => ?_
    refine rdP_mono (inP rfl RF1 R1 p1) fun o H2 ⟨ph2, l, h2, x2, RF2, R2, ro, p2⟩ => ?_
    refine rdP_mono (inP rfl RF2 R2 p2) fun o' H3 ⟨ph3, l', h3, x3, RF3, R3, ro', p3⟩ => ?_
    have ra3 := RW.ext (x2.trans x3) ra
    rcases ro with ⟨rfl, rfl⟩ | ⟨i, rfl, rfl⟩ <;> rcases ro' with ⟨rfl, rfl⟩ | ⟨j, rfl, rfl⟩ <;> exact ⟨_, ph3, u, h3, R3, ra3, p3⟩

/-! ### calls -/
theorem m_callB {id : String} {f : Str} (hc : CallR X (.builtin id) (rdB (tbX X ca) (bltM f))) (hg : Gl X x) (hm : X.mg x = none) (hv : bootBuiltins x = some (.builtin id)) (ha : MA X ca W G (e :: es) ka) (hn : x ≠ "__name__" := by decide) (hdb : (x == ("__debug__" : Str)) = false := by decide)
    (he : starEach (e :: es) X.env = (false, eval e X.env) :: starEach es X.env := by rfl) (hpl : (backTo pos (starEach es X.env)).any (·.1) = false := by rfl) : ME X ca W G (.Call (.Name x p2) (e :: es) [] pos) (.blt f ka) :=
  me_of (pe_callB hc hg hm hv ha hn hdb he hpl) fun σ H Q ph fr h RF R p => by
    unfold ev at p
    exact rdA_mono (inA rfl RF R p) fun xs H1 ⟨ph', ws, h', _, _, R', rs, p'⟩ => ⟨_, ph', ws, h', R', rs, p'⟩
theorem m_callTy {id : String} {f : Str} (hc : CallR X (.type id) (rdB (tbX X ca) (bltM f))) (hg : Gl X x) (hm : X.mg x = none) (hv : bootBuiltins x = some (.type id)) (ha : MA X ca W G (e :: es) ka) (hn : x ≠ "__name__" := by decide) (hdb : (x == ("__debug__" : Str)) = false := by decide)
    (he : starEach (e :: es) X.env = (false, eval e X.env) :: starEach es X.env := by rfl) (hpl : (backTo pos (starEach es X.env)).any (·.1) = false := by rfl) : ME X ca W G (.Call (.Name x p2) (e :: es) [] pos) (.blt f ka) :=
  me_of (pe_callTy hc hg hm hv ha hn hdb he hpl) fun σ H Q ph fr h RF R p => by
    unfold ev at p
    exact rdA_mono (inA rfl RF R p) fun xs H1 ⟨ph', ws, h', _, _, R', rs, p'⟩ => ⟨_, ph', ws, h', R', rs, p'⟩
theorem run_g {k : Nat} {f : Addr} {fd : FuncData} {ps : List Str} {g : List Mv → Mh → Mr Mv} {pins : List (Addr × Obj)} {σ : L2.St} {H : Hp} {s : Shared} {Q : VK} {us : List Value} {vs : List V} {ws : List Mv} {ph : List Addr} {h : Mh} {args : Args}
    (F : FnG (tbX X ca) k f fd ps (spF (tbX X ca) ps.length g)) (hr : Room k X.A) (gd : X.A.guards = some []) (tk : Takes X W) (hb : BindsTo s fd args (ps.zip us)) (hl : us.length = ps.length)
    (I : L2.Inv X pins σ H s) (r : Vals vs us) (R : RelH (tbX X ca) ph H h) (rs : RWs (tbX X ca).K ph H ws vs) (p : PostV (tbX X ca) ph H (g ws h) Q (fun c d H' => W c d σ H')) :
    codeAny (model X.prog X.w) X.A (.call (.ref f) args) (fun r s' => match r with | .ok (.ret u) => EP X pins σ Q u s' | .ok _ => False | .error e => X.xe e s') s := by
  refine codeAny_mono (F.run X.A X.stack s H args us vs Q (fun c d H' => W c d σ H') hr gd I.env0 hb r ⟨ph, ws, h, by rw [rs.length, r.length, hl], R, rs, p⟩) fun r s' hq => ?_
  cases r with
  | error e => exact tk e s' (XE.of_call I (fun _ _ _ h => h) hq)
  | ok fl =>
    cases fl with
    | ret u => exact I.after hq
    | next => exact False.elim hq
    | brk => exact False.elim hq
    | cont => exact False.elim hq
theorem run_g' {k : Nat} {f : Addr} {fd : FuncData} {ps : List Str} {g : List Mv → Mh → Mr Mv} {pins : List (Addr × Obj)} {σ : L2.St} {H : Hp} {s : Shared} {Q : VK} {us : List Value} {vs : List V} {ws : List Mv} {ph : List Addr} {h : Mh}
    (F : FnG (tbX X ca) k f fd ps (spF (tbX X ca) ps.length g)) (hr : Room k X.A) (gd : X.A.guards = some []) (tk : Takes X W) (hb : ∀ us : List Value, us.length = ps.length → bindArgs fd ⟨us, []⟩ = pure (ps.zip us)) (hl : us.length = ps.length)
    (I : L2.Inv X pins σ H s) (r : Vals vs us) (R : RelH (tbX X ca) ph H h) (rs : RWs (tbX X ca).K ph H ws vs) (p : PostV (tbX X ca) ph H (g ws h) Q (fun c d H' => W c d σ H')) :
    wpAny (model X.prog X.w) X.A (call (.ref f) us) (EP X pins σ Q) X.xe s := by
  refine wpAny_call (codeAny_mono (run_g F hr gd tk (.of_eq (hb us hl)) hl I r R rs p) fun r s' hq => ?_)
  cases r with
  | error e => exact hq
  | ok fl =>
    cases fl with
    | ret u => exact hq
    | _ => exact hq.elim
def alen : C → Option Nat
  | .anil => some 0
  | .acons _ r => (alen r).map (· + 1)
  | _ => none
theorem alen_ok : ∀ (k : C) (n : Nat) (fr : Mf) (h : Mh) (ws : List Mv) (h' : Mh), alen k = some n → (ev G k fr h).tups = .ok ws h' → ws.length = n
  | .anil, n, fr, h, ws, h', e, q => by
    cases e
    cases q
    rfl
  | .acons a r, n, fr, h, ws, h', e, q => by
    unfold alen at e
    obtain ⟨m, e1, e2⟩ := Option.map_eq_some_iff.mp e
    subst e2
    unfold ev at q
    rw [Mr.tups_bind] at q
    cases q1 : ev G a fr h with
    | ok x h1 =>
      rw [q1] at q
      rw [show ((Mr.ok x h1).bind fun x h => (((ev G r fr h).tups.bind fun xs h2 => Mr.ok (Mv.tup (x :: xs)) h2).tups)) = (((ev G r fr h1).tups.bind fun xs h2 => Mr.ok (Mv.tup (x :: xs)) h2).tups) from rfl, tups_cons] at q
      cases q2 : (ev G r fr h1).tups with
      | ok xs h2 =>
        rw [q2] at q
        cases q
        rw [List.length_cons, alen_ok r m fr h1 xs _ e1 q2]
      | exc c p h2 => rw [q2] at q; cases q
      | err => rw [q2] at q; cases q
    | exc c p h2 => rw [q1] at q; cases q
    | err => rw [q1] at q; cases q
  | .lit _, _, _, _, _, _, e, _ => nomatch e
  | .var _, _, _, _, _, _, e, _ => nomatch e
  | .cst _, _, _, _, _, _, e, _ => nomatch e
  | .bin _ _ _, _, _, _, _, _, e, _ => nomatch e
  | .neg _, _, _, _, _, _, e, _ => nomatch e
  | .cmp _ _ _, _, _, _, _, _, e, _ => nomatch e
  | .chn _ _ _ _ _, _, _, _, _, _, e, _ => nomatch e
  | .and _ _, _, _, _, _, _, e, _ => nomatch e
  | .or _ _, _, _, _, _, _, e, _ => nomatch e
  | .not _, _, _, _, _, _, e, _ => nomatch e
  | .tru _, _, _, _, _, _, e, _ => nomatch e
  | .ife _ _ _, _, _, _, _, _, e, _ => nomatch e
  | .astar _ _, _, _, _, _, _, e, _ => nomatch e
  | .tup _, _, _, _, _, _, e, _ => nomatch e
  | .lst _, _, _, _, _, _, e, _ => nomatch e
  | .dct _, _, _, _, _, _, e, _ => nomatch e
  | .ix _ _, _, _, _, _, _, e, _ => nomatch e
  | .slc _ _ _, _, _, _, _, _, e, _ => nomatch e
  | .nop, _, _, _, _, _, e, _ => nomatch e
  | .rev _, _, _, _, _, _, e, _ => nomatch e
  | .fld _ _, _, _, _, _, _, e, _ => nomatch e
  | .call _ _, _, _, _, _, _, e, _ => nomatch e
  | .calk _ _ _ _, _, _, _, _, _, e, _ => nomatch e
  | .make _ _, _, _, _, _, _, e, _ => nomatch e
  | .mthd _ _ _, _, _, _, _, _, e, _ => nomatch e
  | .mthk _ _ _ _ _, _, _, _, _, _, e, _ => nomatch e
  | .blt _ _, _, _, _, _, _, e, _ => nomatch e
  | .mthl _ _ _, _, _, _, _, _, e, _ => nomatch e
  | .isi _ _, _, _, _, _, _, e, _ => nomatch e
  | .comp _ _ _ _ _, _, _, _, _, _, e, _ => nomatch e
  | .it _ _, _, _, _, _, _, e, _ => nomatch e
  | .fst _, _, _, _, _, _, e, _ => nomatch e
/-- the arguments, and how many they are -/
theorem inAn {n : Nat} {T : Tb} {β δ : Type} {RB : List Addr → Hp → β → δ → Prop} {f : List Mv → Mh → Mr β} {σ : L2.St} {H : Hp} {ph : List Addr} {fr : Mf} {h : Mh} {Q : δ → Hp → Prop} {E : XK} (hE : E = fun c d H' => W c d σ H') (hn : alen ka = some n) (RF : RelF T ph H fr σ) (R : RelH T ph H h)
    (p : Post T ph H RB ((ev G ka fr h).tups.bind f) Q E) :
    rdA T W (fun fr h => (ev G ka fr h).tups) σ H fun xs H1 => xs.length = n ∧ ∃ ph' ws h', Ext T.K ph ph' H H1 ∧ RelF T ph' H1 fr σ ∧ RelH T ph' H1 h' ∧ RWs T.K ph' H1 ws xs ∧ Post T ph' H1 RB (f ws h') Q E := by
  subst hE
  refine ⟨ph, fr, h, RF, R, ?_⟩
  show Post T ph H _ (ev G ka fr h).tups _ _
  cases e1 : (ev G ka fr h).tups with
  | ok ws h' =>
    rw [e1] at p
    have hl := alen_ok ka n fr h ws h' hn e1
    intro ph' v H' x R' rs
    exact ⟨by rw [← RWs.length rs]; exact hl, ph', ws, h', x, RF.ext x, R', rs, Post.ext x p⟩
  | exc c q h' => rw [e1] at p; exact p
  | err => rw [e1] at p; exact p.elim
/-- f(e, ..) -/
theorem m_call {ps : List Str} (xg : Xg X ca W lv G fnl) (hf : fnl.fn.lookup x = some ps) (hn : alen ka = some ps.length) (hg : Gl X x) (ha : MA X ca W G (e :: es) ka) (hdb : (x == ("__debug__" : Str)) = false := by decide)
    (he : starEach (e :: es) X.env = (false, eval e X.env) :: starEach es X.env := by rfl) (hpl : (backTo pos (starEach es X.env)).any (·.1) = false := by rfl) : ME X ca W G (.Call (.Name x p2) (e :: es) [] pos) (.call x ka) := by
  obtain ⟨f, fd, hm, hk, hb, F⟩ := xg.tab.fn _ (lookup_mem hf)
  refine ⟨fun pins s σ H Q I ⟨ph, fr, h, RF, R, p⟩ => ?_⟩
  unfold ev at p
  refine wpAny_Call_Name_kw (ld_glob I hg hm ?_ hdb)
  have q := inAn (ka := ka) (RB := fun p H => RW (tbX X ca).K p H) rfl hn RF R p
  refine PySem.W.callWith_K (h₀ := X.base) I.ok.mod.kin hk (thn (ha.run pos pins s σ H _ I q) fun us s1 hh => ?_) he hpl
  obtain ⟨vs, H1, I1, r, hl, ph', ws, h', _, _, R', rs, p'⟩ := hh
  exact ⟨I1.kIn, run_g' F (xg.room.mono (Nat.le_succ _)) xg.gd xg.tk hb (by rw [List.nil_append, ← r.length]; exact hl) I1 r R' rs p'⟩
/-- f() -/
theorem m_call0 (xg : Xg X ca W lv G fnl) (hf : fnl.fn.lookup x = some []) (hg : Gl X x) (hdb : (x == ("__debug__" : Str)) = false := by decide) : ME X ca W G (.Call (.Name x p2) [] [] pos) (.call x .anil) := by
  obtain ⟨f, fd, hm, hk, hb, F⟩ := xg.tab.fn _ (lookup_mem hf)
  refine ⟨fun pins s σ H Q I ⟨ph, fr, h, RF, R, p⟩ => ?_⟩
  unfold ev at p
  refine wpAny_Call_Name_kw (ld_glob I hg hm ?_ hdb)
  exact PySem.W.callWith_K0 I.kIn hk (run_g' (us := []) (vs := []) (ws := []) F (xg.room.mono (Nat.le_succ _)) xg.gd xg.tk hb rfl I .nil R .nil p)
end
end MP

/-! enumerate over tuples -/
namespace PySem
open PySem.W
set_option maxHeartbeats 1000000 in
theorem mp_enum_new {v : Value} {o : Obj} {H : Heap → Prop} (B : Begins v o H) :
    Meets (Builtin.«enumerate.__new__» ⟨[.type "enumerate", v], []⟩) (fun _ R s => H s.heap ∧
      R (.ok (.ret (.ref (s.heap.push o).objs.size))) { s with heap := (s.heap.push o).push { cls := .type "enumerate", data := .fields #[.none, .bool false, .ref s.heap.objs.size, rawInt 0, .none, .none] } }) :=
  .of_wp fun prog w A R s h => by
    obtain ⟨hp, g, d, tk, os⟩ := s; obtain ⟨h1, h⟩ := h
    have hsub := sub_enumerate
    have q1 : ∀ {A' : Around} {E : Value → Shared → Prop} {Q : Value → Shared → Prop}, Q (.ref hp.objs.size) ⟨hp.push o, g, d, tk, os⟩ → wpAny (model prog w) A' (pyIter v) Q E ⟨hp, g, d, tk, os⟩ :=
      fun q => B.iter prog w _ _ ⟨hp, g, d, tk, os⟩ _ h1 q
    wp_walk using q1
    refine wpAny_stack_any fun st => wpAny_pure ?_
    split
    · rename_i c _ _ _ _ _
      cases (c == Value.type "enumerate")
      · wp_walk using q1
        exact ⟨_, rfl, h⟩
      · wp_walk using q1
        exact ⟨_, rfl, h⟩
    · wp_walk using q1
      exact ⟨_, rfl, h⟩
theorem mp_enum_begins {prog : Program} {w : World} {A : Around} {E : Value → Shared → Prop} {s : Shared} {v : Value} {o : Obj} {H : Heap → Prop} {Q : Value → Shared → Prop} (B : Begins v o H) (h1 : H s.heap)
    (h : ∀ h', IsEnum h' (s.heap.objs.size + 1) s.heap.objs.size 0 .none → h'.get? s.heap.objs.size = some o → h'.objs.size = s.heap.objs.size + 2 →
      (∀ b o, s.heap.get? b = some o → h'.get? b = some o) → Q (.ref (s.heap.objs.size + 1)) { s with heap := h' }) :
    wpAny (model prog w) A (call (.type "enumerate") [v]) Q E s := by
  refine callType_new F.called_enumerate (by decide) (F.typeCall_enumerate_1 _) (F.newCall_enumerate_1 _) (fun obj => F.args_object_init_2 obj _) F.entry_enumerate_new
    (mp_enum_new B) ⟨h1, ?_⟩
  have hz : (s.heap.push o).objs.size = s.heap.objs.size + 1 := Heap.size_push ..
  show _ ∧ _
  rw [hz]
  have he : IsEnum ((s.heap.push o).push { cls := .type "enumerate", data := .fields #[.none, .bool false, .ref s.heap.objs.size, rawInt 0, .none, .none] }) (s.heap.objs.size + 1) s.heap.objs.size 0 .none := by
    have := Heap.get?_push_size (s.heap.push o) (o := { cls := .type "enumerate", data := .fields #[.none, .bool false, .ref s.heap.objs.size, rawInt 0, .none, .none] }) rfl
    rw [hz] at this; exact this
  refine ⟨⟨_, he, rfl⟩, h _ he (Heap.get?_push_of_some _ (Heap.get?_push_size _ B.free)) (by rw [Heap.size_push, hz]) fun b o x => Heap.get?_push_of_some _ (Heap.get?_push_of_some _ x)⟩
end PySem
namespace MP
open PySem PySem.Spec PyProof.Rows L2 PySem.W
/-- the tuple at a, each item in a new pair -/
def IteT (K : PySem.W.Frag) (a : Addr) : It :=
  ⟨fun i H => ∃ (xs : List V) (x : V), SqT K H a xs ∧ xs[i]? = some x, fun i H v H' => ∃ T x, v = .ref T ∧ H T = none ∧ H' = upd H T (.tup [.int (i : Nat), x]) ∧ ∀ xs, SqT K H a xs → xs[i]? = some x, fun i H => ∃ xs : List V, SqT K H a xs ∧ xs.length ≤ i⟩
theorem turn_enumT {P : Program} {w : World} {K : PySem.W.Frag} {elts : List Expr} {kk : Nat} {tpos : Pos} (a e it : Addr) :
    Turn P w K (.Tuple elts kk tpos) (IteT K a) [e, it] e (fun i h => (∃ old, IsEnum h e it ((i : Nat) : Int) old) ∧ h.IsTupleIter it a i ∧ e ≠ it) where
  mem := by simp
  obj := fun i h st b hb => by
    obtain ⟨⟨old, he⟩, ⟨o, ho, hc, hd⟩, _⟩ := st
    have e' : b = e ∨ b = it := by simpa using hb
    rcases e' with z | z
    · rw [z]; exact ⟨_, he, fun v q => nomatch q⟩
    · rw [z]; exact ⟨o, ho, fun v q => by rw [hd] at q; cases q⟩
  keep := fun i h h' st k => let ⟨⟨old, he⟩, hi, hne⟩ := st; ⟨⟨old, k e (by simp) _ he⟩, hi.at fun o q => k it (by simp) o q, hne⟩
  item := by
    intro X hP hw hK hc i pins s σ H E I hf st hg
    subst hP hw hK
    obtain ⟨⟨old, he⟩, hit, hne⟩ := st
    obtain ⟨xs, x, hq, hx⟩ := hg
    obtain ⟨its, rv, p, hz⟩ := I.tuple hq
    obtain ⟨u, hu, ru⟩ := rv.get hx
    have p' : s.heap.IsTuple a its.toArray := p
    have hel : e < s.heap.objs.size := Heap.lt_size he
    have hil : it < s.heap.objs.size := by obtain ⟨_, q, _⟩ := hit; exact Heap.lt_size q
    have hae : e ≠ a := fun z => by
      obtain ⟨o, ho, hc', n, hd'⟩ := p'
      rw [← z, he] at ho; cases ho
      exact absurd (Value.type.inj hc') (by decide)
    have hai : a ≠ it := fun z => by
      obtain ⟨o, ho, hc', n, hd'⟩ := p'
      obtain ⟨o', ho', hc2, _⟩ := hit
      rw [z, ho'] at ho; cases ho
      rw [hc2] at hc'
      exact absurd (Value.type.inj hc') (by decide)
    have hlt : i < its.toArray.size := by
      have := (List.getElem?_eq_some_iff.mp hu).1
      simpa using this
    refine wpAny_pyNext_enum_itemC (Draws.tuple (A := X.A.in1) (I.ok.hd hc) it a hai its.toArray) he ⟨hit, p'⟩ hlt hne (by simp [hne, hae]) fun y h' tk hy ho hit' hT hsz hk => ?_
    have hy' : u = y := by
      have hy2 : its[i]? = some y := by simpa using hy
      rw [hu] at hy2; exact Option.some.inj hy2
    subst hy'
    refine ⟨_, rfl, wpAny_letOwnedTupleGo_enum (s := { s with heap := h', toks := tk + 1 }) ho fun h'' he' sb => ?_⟩
    have hT2 : h''.get? s.heap.objs.size = some { cls := .type "tuple", data := .seq #[.int i tk, u] } := (sb.2 _ (Nat.ne_of_gt hel)).trans hT
    have new : ObjOk X.prog X.w (upd H s.heap.objs.size (.tup [.int (i : Nat), x])) h'' s.heap.objs.size (.tup [.int (i : Nat), x]) :=
      ⟨by show 2 ≤ sizeLine; decide, [.int i tk, u], .cons ⟨_, rfl⟩ (.cons ru .nil), ⟨_, hT2, rfl, _, rfl⟩⟩
    have I1 : L2.Inv X pins σ (upd H s.heap.objs.size (.tup [.int (i : Nat), x])) { s with heap := h'', toks := tk + 1 } :=
      I.turnedNew (ch := [e, it]) (fun b ob hb q => (sb.2 b (fun z => hb (by simp [z]))).trans (hk b ob (fun z => hb (by simp [z])) (fun z => hb (by simp [z])) q)) hf (Nat.le_refl _) new
    refine ⟨.ref s.heap.objs.size, _, I1, rfl, ⟨_, x, rfl, I.hok.fresh (Nat.le_refl _), rfl, fun ys hy => by rw [I.tuple_inj hy hq]; exact hx⟩, ⟨⟨u, ?_⟩, hit'.1.at fun o q => (sb.2 it (Ne.symm hne)).trans q, hne⟩, fun b hb => ?_⟩
    · have e1 : ((i + 1 : Nat) : Int) = (i : Int) + 1 := by omega
      rw [e1]; exact he'
    · have hb' : b < s.heap.objs.size := by
        have e' : b = e ∨ b = it := by simpa using hb
        rcases e' with z | z
        · rw [z]; exact hel
        · rw [z]; exact hil
      rw [upd_ne (Nat.ne_of_lt hb')]
      exact (hf b hb).1
  done := by
    intro X hP hw hK hc i pins s σ H E I hf st hg
    subst hP hw hK
    obtain ⟨⟨old, he⟩, hit, hne⟩ := st
    obtain ⟨xs, hq, hx⟩ := hg
    obtain ⟨its, rv, p, hz⟩ := I.tuple hq
    have p' : s.heap.IsTuple a its.toArray := p
    obtain ⟨f0, f1, f2, f3, f4, f5⟩ := hf it (by simp)
    have hl := rv.length
    have hai : a ≠ it := fun z => by
      obtain ⟨o, ho, hc', n, hd'⟩ := p'
      obtain ⟨o', ho', hc2, _⟩ := hit
      rw [z, ho'] at ho; cases ho
      rw [hc2] at hc'
      exact absurd (Value.type.inj hc') (by decide)
    have D : Draws X.prog X.w X.A.in1 it [it, a] i (fun j v => j < i ∧ its.toArray[j]? = some v ∧ False) (fun j h => (j = i ∧ h.IsTupleIter it a i) ∧ h.IsTuple a its.toArray) :=
      { live := fun _ _ st => let ⟨o, ho, _⟩ := st.1.2; ⟨o, ho⟩
        frame := fun _ _ _ st hk => ⟨⟨st.1.1, st.1.2.at fun o e => hk it (by simp) o e⟩, st.2.at fun o e => hk a (by simp) o e⟩
        item := fun j s Q E hj st => absurd st.1.1 (Nat.ne_of_lt hj)
        done := fun s Q E st hE => wpAny_nextOf_tuple_end (I.ok.hd hc) st.1.2 st.2 (by simp; omega) hE }
    exact wpAny_pyNext_enum_endD D he ⟨⟨rfl, hit⟩, p'⟩ fun h' eb => ⟨rfl, I.turned (t' := s.toks) (fun b o hb q => eb b o hb q) f0 f1 f3 f4 f5⟩
  self := fun A i s Q E st h => let ⟨⟨_, he⟩, _⟩ := st; wpAny_pyIter_enum he h
def iEnumA (K : PySem.W.Frag) (ta : TA) : TI := fun σ H R => ta σ H fun vs H1 => ∃ a xs, vs = [.ref a] ∧ ((SqL K H1 a xs ∧ R (Ite K a) H1) ∨ (SqT K H1 a xs ∧ R (IteT K a) H1))
theorem pi_enumA {X : Cx} {e : Expr} {ta : TA} {p pos tpos : Pos} {elts : List Expr} {kk : Nat} (hg : Gl X "enumerate") (hm : X.mg "enumerate" = none) (ha : PA X [e] ta) (hs : starEach [e] X.env = [(false, eval e X.env)] := by rfl) :
    PI X (.Tuple elts kk tpos) (.Call (.Name "enumerate" p) [e] [] pos) (iEnumA X.K ta) := by
  refine ⟨fun pins s σ H R I h => ?_⟩
  refine Call_ (ld_blt I hg hm boot_enumerate (PyProof.Rows.callWith_type1 (thn (ha.run pos pins s σ H _ I h) fun us s1 ⟨vs, H1, I1, r1, q1⟩ => ?_) hs rfl))
  obtain ⟨a, xs, ex, q⟩ := q1
  subst ex
  cases r1 with
  | cons r rr =>
    cases rr
    cases r
    have new2 : ∀ b, b ∈ [s1.heap.objs.size + 1, s1.heap.objs.size] → FpOk X pins H1 b := fun b hb => by
      have e' : b = s1.heap.objs.size + 1 ∨ b = s1.heap.objs.size := by simpa using hb
      have hle : s1.heap.objs.size ≤ b := by
        rcases e' with z | z
        · rw [z]; exact Nat.le_add_right _ _
        · rw [z]; exact Nat.le_refl _
      exact I1.fpOk hle (I1.hok.fresh hle)
    rcases q with ⟨hq, q⟩ | ⟨hq, q⟩
    · obtain ⟨its, rv, p', hz⟩ := I1.list hq
      refine call_enumerate_list p'.isList fun h' he hit hsz hk => wpAny_pyIter_enum he ?_
      have I2 : L2.Inv X pins σ H1 { s1 with heap := h' } := I1.kept (t' := s1.toks) hk
      exact ⟨s1.heap.objs.size + 1, [s1.heap.objs.size + 1, s1.heap.objs.size], _, _, H1, rfl, I2, turn_enum a (s1.heap.objs.size + 1) s1.heap.objs.size, ⟨⟨.none, he⟩, hit, Nat.succ_ne_self _⟩, new2, q⟩
    · obtain ⟨its, rv, p', hz⟩ := I1.tuple hq
      refine mp_enum_begins (begins_tuple a its.toArray) (show s1.heap.IsTuple a its.toArray from p') fun h' he hit hsz hk => wpAny_pyIter_enum he ?_
      have I2 : L2.Inv X pins σ H1 { s1 with heap := h' } := I1.kept (t' := s1.toks) hk
      exact ⟨s1.heap.objs.size + 1, [s1.heap.objs.size + 1, s1.heap.objs.size], _, _, H1, rfl, I2, turn_enumT a (s1.heap.objs.size + 1) s1.heap.objs.size, ⟨⟨.none, he⟩, ⟨_, hit, rfl, rfl⟩, Nat.succ_ne_self _⟩, new2, q⟩
end MP

/-! targets, what is walked, comprehensions -/
namespace MP
open PySem PySem.Spec PyProof.Rows L2

/-! ### targets -/
def varsOf : C → List Nat
  | .var i => [i]
  | .tup t => varsOf t
  | .acons a r => varsOf a ++ varsOf r
  | _ => []
def rdN (T : Tb) (k : C) : TG := fun v σ H Q => ∃ ph fr h w fr', RelF T ph H fr σ ∧ RelH T ph H h ∧ RW T.K ph H w v ∧ asgM k w fr = some fr' ∧ ∀ σ', RelF T ph H fr' σ' → (∀ i, i ∉ varsOf k → σ'[i]? = σ[i]?) → Q σ' H
def rdNs (T : Tb) (k : C) : TGs := fun vs σ H Q => ∃ ph fr h ws fr', RelF T ph H fr σ ∧ RelH T ph H h ∧ RWs T.K ph H ws vs ∧ asgM k (.tup ws) fr = some fr' ∧ ∀ σ', RelF T ph H fr' σ' → (∀ i, i ∉ varsOf k → σ'[i]? = σ[i]?) → Q σ' H
abbrev MN (X : Cx) (ca : Str → Addr) (tg : Expr) (k : C) : Prop := PG X tg (rdN (tbX X ca) k)
abbrev MNs (X : Cx) (ca : Str → Addr) (tg : List Expr) (k : C) : Prop := PGs X tg (rdNs (tbX X ca) k)
def rdG (T : Tb) (G : Sg) (k : C) : TG := fun v σ H Q => ∃ ph fr h w fr' h', RelF T ph H fr σ ∧ RelH T ph H h ∧ RW T.K ph H w v ∧ asgX G k w fr h = some (fr', h') ∧ ∀ ph' σ' H', Ext T.K ph ph' H H' → RelH T ph' H' h' → RelF T ph' H' fr' σ' → Q σ' H'
def rdGs (T : Tb) (G : Sg) (k : C) : TGs := fun vs σ H Q => ∃ ph fr h ws fr' h', RelF T ph H fr σ ∧ RelH T ph H h ∧ RWs T.K ph H ws vs ∧ asgX G k (.tup ws) fr h = some (fr', h') ∧ ∀ ph' σ' H', Ext T.K ph ph' H H' → RelH T ph' H' h' → RelF T ph' H' fr' σ' → Q σ' H'
abbrev MG (X : Cx) (ca : Str → Addr) (G : Sg) (tg : Expr) (k : C) : Prop := PG X tg (rdG (tbX X ca) G k)
abbrev MGs (X : Cx) (ca : Str → Addr) (G : Sg) (tg : List Expr) (k : C) : Prop := PGs X tg (rdGs (tbX X ca) G k)
theorem PG.weak {X : Cx} {e : Expr} {t t' : TG} (h : PG X e t) (w : ∀ v σ H Q, t' v σ H Q → t v σ H Q) : PG X e t' := ⟨fun pins s σ H v u Q I r q => h.run pins s σ H v u Q I r (w v σ H Q q)⟩
theorem PGs.weak {X : Cx} {e : List Expr} {t t' : TGs} (h : PGs X e t) (w : ∀ v σ H Q, t' v σ H Q → t v σ H Q) : PGs X e t' := ⟨fun pins s σ H v u Q I r q => h.run pins s σ H v u Q I r (w v σ H Q q)⟩
theorem asgM_len : ∀ (k : C) (n : Nat) (ws : List Mv) (fr fr' : Mf), alen k = some n → asgM k (.tup ws) fr = some fr' → ws.length = n := by
  intro k
  induction k with
  | anil =>
    intro n ws fr fr' e q
    cases e
    cases ws with
    | nil => rfl
    | cons w ws => cases q
  | acons a r ha hr =>
    intro n ws fr fr' e q
    unfold alen at e
    obtain ⟨m, e1, rfl⟩ := Option.map_eq_some_iff.mp e
    cases ws with
    | nil => cases q
    | cons w ws =>
      unfold asgM at q
      obtain ⟨f2, _, q2⟩ := Option.bind_eq_some_iff.mp q
      rw [List.length_cons, hr m ws f2 fr' e1 q2]
  | _ => intro n ws fr fr' e q; cases e
theorem asgX_len (G : Sg) : ∀ (k : C) (n : Nat) (ws : List Mv) (fr : Mf) (h : Mh) (p : Mf × Mh), alen k = some n → asgX G k (.tup ws) fr h = some p → ws.length = n := by
  intro k
  induction k with
  | anil =>
    intro n ws fr h p e q
    cases e
    cases ws with
    | nil => rfl
    | cons w ws => cases q
  | acons a r ha hr =>
    intro n ws fr h p e q
    unfold alen at e
    obtain ⟨m, e1, rfl⟩ := Option.map_eq_some_iff.mp e
    cases ws with
    | nil => cases q
    | cons w ws =>
      unfold asgX at q
      obtain ⟨f2, _, q2⟩ := Option.bind_eq_some_iff.mp q
      rw [List.length_cons, hr m ws f2.1 f2.2 p e1 q2]
  | _ => intro n ws fr h p e q; cases e
section
variable {X : Cx} {ca : Str → Addr} {W : WX} {lv : Nat} {G : Sg} {fnl : Tls} {a b c e tg iter elt : Expr} {ka kb kc kt : C} {pos p2 p3 : Pos} {es rest : List Expr} {x : Str}
theorem n_name {i : Nat} (xg : X.N.Nodup) (hi : X.N[i]? = some x) (hx : Loc X.env.scope x) (hf : X.fn x = true ∨ X.env.scope.names.lookup x = some .local := by first | exact .inl rfl | exact .inr rfl | assumption) : MN X ca (.Name x pos) (.var i) :=
  PG.weak (pg_name xg hi hx hf) fun v σ H Q ⟨ph, fr, h, w, fr', RF, R, rw', e, q⟩ => by
    cases e
    refine q _ (RF.set rw') fun j hj => ?_
    have : i ≠ j := fun z => hj (by simp [varsOf, z])
    rw [List.getElem?_set_ne this]
theorem n_nil : MNs X ca [] .anil := PGs.weak pgs_nil fun v σ H Q ⟨ph, fr, h, ws, fr', RF, R, rs, e, q⟩ => by
  cases ws with
  | nil =>
    cases e
    exact ⟨rs.inv_nil, q σ RF fun _ _ => rfl⟩
  | cons w ws => cases e
theorem n_cons (h1 : MN X ca e ka) (h2 : MNs X ca es kb) (hs : (assignEach (e :: es) X.env).map (·.2) = assign e X.env :: (assignEach es X.env).map (·.2) := by rfl) : MNs X ca (e :: es) (.acons ka kb) :=
  PGs.weak (pgs_cons h1 h2 hs) fun v σ H Q ⟨ph, fr, h, ws, fr', RF, R, rs, e, q⟩ => by
    cases ws with
    | nil => cases e
    | cons w ws =>
      obtain ⟨v1, r, rfl, r1, r2⟩ := rs.inv
      unfold asgM at e
      obtain ⟨f2, e1, e2⟩ := Option.bind_eq_some_iff.mp e
      refine ⟨v1, r, rfl, ph, fr, h, w, f2, RF, R, r1, e1, fun σ1 RF1 o1 => ⟨ph, f2, h, ws, fr', RF1, R, r2, e2, fun σ2 RF2 o2 => q σ2 RF2 fun i hi => ?_⟩⟩
      have hi' : i ∉ varsOf ka ∧ i ∉ varsOf kb := by
        constructor
        · exact fun z => hi (by unfold varsOf; exact List.mem_append_left _ z)
        · exact fun z => hi (by unfold varsOf; exact List.mem_append_right _ z)
      rw [o2 i hi'.2, o1 i hi'.1]
theorem n_tup {x1 n : Nat} (hc : X.calm = true) (ht : MNs X ca es ka) (hl : alen ka = some n) (hn : (assignEach es X.env).length = n := by rfl) (hst : (assignEach es X.env).findIdx? (·.1) = none := by rfl) : MN X ca (.Tuple es x1 pos) (.tup ka) :=
  PG.weak (pg_tup hc ht hn hst) fun v σ H Q ⟨ph, fr, h, w, fr', RF, R, rw', e, q⟩ => by
    unfold asgM at e
    cases w with
    | tup ws =>
      obtain ⟨a, vs, rfl, s, rs⟩ := rw'.i_tup
      exact ⟨a, vs, rfl, s, by rw [← rs.length]; exact asgM_len ka n ws fr fr' hl e, ph, fr, h, ws, fr', RF, R, rs, e, q⟩
    | _ => exact absurd e (by cases ka <;> simp [alen] at hl <;> simp [asgM])
theorem g_name {i : Nat} (xg : X.N.Nodup) (hi : X.N[i]? = some x) (hx : Loc X.env.scope x) (hf : X.fn x = true ∨ X.env.scope.names.lookup x = some .local := by first | exact .inl rfl | exact .inr rfl | assumption) : MG X ca G (.Name x pos) (.var i) :=
  PG.weak (pg_name xg hi hx hf) fun v σ H Q ⟨ph, fr, h, w, fr', h', RF, R, rw', e, q⟩ => by
    cases e
    exact q ph _ H .refl R (RF.set rw')
theorem g_nil : MGs X ca G [] .anil := PGs.weak pgs_nil fun v σ H Q ⟨ph, fr, h, ws, fr', h', RF, R, rs, e, q⟩ => by
  cases ws with
  | nil =>
    cases e
    exact ⟨rs.inv_nil, q ph σ H .refl R RF⟩
  | cons w ws => cases e
theorem g_cons (h1 : MG X ca G e ka) (h2 : MGs X ca G es kb) (hs : (assignEach (e :: es) X.env).map (·.2) = assign e X.env :: (assignEach es X.env).map (·.2) := by rfl) : MGs X ca G (e :: es) (.acons ka kb) :=
  PGs.weak (pgs_cons h1 h2 hs) fun v σ H Q ⟨ph, fr, h, ws, fr', h', RF, R, rs, e, q⟩ => by
    cases ws with
    | nil => cases e
    | cons w ws =>
      obtain ⟨v1, r, rfl, r1, r2⟩ := rs.inv
      unfold asgX at e
      obtain ⟨⟨f2, m2⟩, e1, e2⟩ := Option.bind_eq_some_iff.mp e
      exact ⟨v1, r, rfl, ph, fr, h, w, f2, m2, RF, R, r1, e1, fun ph1 σ1 H1 x1 R1 RF1 => ⟨ph1, f2, m2, ws, fr', h', RF1, R1, RWs.ext x1 r2, e2, fun ph2 σ2 H2 x2 R2 RF2 => q ph2 σ2 H2 (x1.trans x2) R2 RF2⟩⟩
theorem g_tup {x1 n : Nat} (hc : X.calm = true) (ht : MGs X ca G es ka) (hl : alen ka = some n) (hn : (assignEach es X.env).length = n := by rfl) (hst : (assignEach es X.env).findIdx? (·.1) = none := by rfl) : MG X ca G (.Tuple es x1 pos) (.tup ka) :=
  PG.weak (pg_tup hc ht hn hst) fun v σ H Q ⟨ph, fr, h, w, fr', h', RF, R, rw', e, q⟩ => by
    unfold asgX at e
    cases w with
    | tup ws =>
      obtain ⟨a, vs, rfl, s, rs⟩ := rw'.i_tup
      exact ⟨a, vs, rfl, s, by rw [← rs.length]; exact asgX_len G ka n ws fr h _ hl e, ph, fr, h, ws, fr', h', RF, R, rs, e, q⟩
    | _ => exact absurd e (by cases ka <;> simp [alen] at hl <;> simp [asgX])
theorem post_okE {T : Tb} {ph : List Addr} {H : Hp} {w : Mv} {h' : Mh} {Q : VK} {E : XK} (q : ∀ ph' v H', Ext T.K ph ph' H H' → RelH T ph' H' h' → RW T.K ph' H' w v → Q v H') : PostV T ph H (.ok w h') Q E := q
theorem g_sub (ha : ME X ca W G a ka) (hb : ME X ca W G b kb)
    (he : ∀ v, assign (.Subscript a b pos) X.env v = (do
      let ov ← holding [v] (eval a X.env)
      let iv ← holding [v, ov] (eval b X.env)
      standAt pos
      holding [v, ov, iv] (setItem ov iv v)
      release [v, ov, iv] []) := by intro _; rfl) : MG X ca G (.Subscript a b pos) (.ix ka kb) :=
  PG.weak (pg_sub ha hb (setM_ok (ca := ca)) he) fun v σ H Q ⟨ph, fr, h, w, fr', h', RF, R, rw', e, q⟩ => by
    unfold asgX at e
    split at e
    · rename_i o h1 q1
      split at e
      · rename_i i h2 q2
        split at e
        · rename_i _ h3 q3
          cases e
          refine ⟨ph, fr, h, RF, R, ?_⟩
          rw [q1]
          refine post_okE fun ph1 x H1 x1 R1 r1 => ⟨ph1, fr, h1, RF.ext x1, R1, ?_⟩
          rw [q2]
          refine post_okE fun ph2 y H2 x2 R2 r2 => ⟨fun _ _ _ => False, ph2, o, i, w, h2, R2, RW.ext x2 r1, r2, RW.ext (x1.trans x2) rw', ?_⟩
          rw [q3]
          exact fun ph3 _ H3 x3 R3 _ => q ph3 σ H3 ((x1.trans x2).trans x3) R3 (RF.ext ((x1.trans x2).trans x3))
        · cases e
      · cases e
    · cases e

/-! ### what is walked -/
def ItOk (T : Tb) : List Addr → Hp → Mv → It → Prop := fun ph H w J => ∀ ph' H' h' xs, Ext T.K ph ph' H H' → RelH T ph' H' h' → itemsM w h' = some xs → ∀ i, (xs.length ≤ i → J.stop i H') ∧
  (i < xs.length → J.go i H' ∧ ∀ x H2, J.yld i H' x H2 → ∃ y, xs[i]? = some y ∧ RW T.K ph' H2 y x ∧ Ext T.K ph' ph' H' H2 ∧ RelH T ph' H2 h')
def rdI (T : Tb) (W : WX) (f : Mf → Mh → Mr Mv) : TI := fun σ H R => ∃ ph fr h, RelF T ph H fr σ ∧ RelH T ph H h ∧ Post T ph H (ItOk T) (f fr h) R (fun c d H' => W c d σ H')
abbrev MI (X : Cx) (ca : Str → Addr) (W : WX) (G : Sg) (tg it : Expr) (k : C) : Prop := PI X tg it (rdI (tbX X ca) W (ev G k))
theorem PI.weak {X : Cx} {tg e : Expr} {t t' : TI} (h : PI X tg e t) (w : ∀ σ H Q, t' σ H Q → t σ H Q) : PI X tg e t' := ⟨fun pins s σ H Q I q => h.run pins s σ H Q I (w σ H Q q)⟩
/-- a list or a tuple -/
def iSeq (K : PySem.W.Frag) (tl : TE) : TI := fun σ H R => tl σ H fun x H1 => ∃ a, x = .ref a ∧ ((∃ xs, SqL K H1 a xs ∧ R (Itl K a) H1) ∨ (∃ xs, SqT K H1 a xs ∧ R (Itt K a) H1))
theorem pi_seqA {X : Cx} {tg l : Expr} {tl : TE} (hl : PE X l tl) : PI X tg l (iSeq X.K tl) := by
  refine ⟨fun pins s σ H R I h => ?_⟩
  refine thn (hl.run pins s σ H _ I h) fun v s1 ⟨x, H1, I1, r1, q1⟩ => ?_
  obtain ⟨a, e, q1⟩ := q1
  subst e
  cases r1
  have fresh : ∀ b, b ∈ [s1.heap.objs.size] → FpOk X pins H1 b := fun b hb => by
    have e : b = s1.heap.objs.size := by simpa using hb
    subst e
    exact I1.fpOk (Nat.le_refl _) (I1.hok.fresh (Nat.le_refl _))
  rcases q1 with ⟨xs, hq, q⟩ | ⟨xs, hq, q⟩
  · obtain ⟨its, rv, p, hz⟩ := I1.list hq
    refine wpAny_pyIter_list p.isList ?_
    exact ⟨s1.heap.objs.size, [s1.heap.objs.size], _, _, H1, rfl, I1.kept (t' := s1.toks) fun b o e => Heap.get?_push_of_some _ e, turn_list a _, ⟨_, Heap.get?_push_size _ rfl, rfl, rfl⟩, fresh, q⟩
  · obtain ⟨its, rv, p, hz⟩ := I1.tuple hq
    refine wpAny_pyIter_tuple (show s1.heap.IsTuple a its.toArray from p) ?_
    exact ⟨s1.heap.objs.size, [s1.heap.objs.size], _, _, H1, rfl, I1.kept (t' := s1.toks) fun b o e => Heap.get?_push_of_some _ e, turn_tuple a _, ⟨_, Heap.get?_push_size _ rfl, rfl, rfl⟩, fresh, q⟩
theorem itok_list {T : Tb} {ph : List Addr} {H : Hp} {w : Mv} {a : Addr} (r : RW T.K ph H w (.ref a)) (hw : ∀ xs, w ≠ .tup xs) : ItOk T ph H w (Itl T.K a) := by
  intro ph' H' h' xs x R e i
  obtain ⟨a', vs, e1, rs, k⟩ := items_rel R (RW.ext x r) e
  cases e1
  rcases k with k | ⟨z, _⟩
  · refine ⟨fun hi => ⟨vs, k, by rw [← rs.length]; exact hi⟩, fun hi => ?_⟩
    obtain ⟨v, hv, rv⟩ := rs.get (List.getElem?_eq_getElem hi)
    refine ⟨⟨vs, v, k, hv⟩, fun y H2 ⟨e2, hy⟩ => ?_⟩
    subst e2
    have e3 := (hy vs k).symm.trans hv
    cases e3
    exact ⟨_, List.getElem?_eq_getElem hi, rv, .refl, R⟩
  · exact absurd z (hw xs)
theorem itok_tup {T : Tb} {ph : List Addr} {H : Hp} {ws : List Mv} {a : Addr} {vs : List V} (s : SqT T.K H a vs) (rs0 : RWs T.K ph H ws vs) : ItOk T ph H (.tup ws) (Itt T.K a) := by
  intro ph' H' h' xs x R e i
  cases e
  have k := (x.kp a vs).1 s
  have rs := RWs.ext x rs0
  refine ⟨fun hi => ⟨vs, k, by rw [← rs.length]; exact hi⟩, fun hi => ?_⟩
  obtain ⟨v, hv, rv⟩ := rs.get (List.getElem?_eq_getElem hi)
  refine ⟨⟨vs, v, k, hv⟩, fun y H2 ⟨e2, hy⟩ => ?_⟩
  subst e2
  have e3 := (hy vs k).symm.trans hv
  cases e3
  exact ⟨_, List.getElem?_eq_getElem hi, rv, .refl, R⟩
end
end MP

/-! what is walked; comprehensions -/
namespace MP
open PySem PySem.Spec PyProof.Rows L2
section
variable {X : Cx} {ca : Str → Addr} {W : WX} {lv : Nat} {G : Sg} {fnl : Tls} {a b c e tg iter elt : Expr} {ka kb kc kt ki ke kf : C} {pos p2 p3 tpos : Pos} {es elts rest : List Expr} {x : Str} {kk : Nat}
theorem i_seq (ha : ME X ca W G a ka) : MI X ca W G tg a (.it .itm (.acons ka .anil)) :=
  PI.weak (pi_seqA ha) fun σ H Q ⟨ph, fr, h, RF, R, p⟩ => by
    have e : ev G (.it .itm (.acons ka .anil)) fr h = (ev G ka fr h).bind fun v h1 => match itemsM v h1 with
        | some _ => .ok v h1
        | none => .err := by
      show ((Mr.bind _ _).tups.bind _) = _
      rw [Mr.tups_bind, Mr.bind_bind]
      rfl
    rw [e] at p
    refine rdE_mono (one (RB := ItOk (tbX X ca)) rfl RF R p) fun y H1 ⟨ph', u, h', x1, RF', R', ra, p'⟩ => ?_
    cases q : itemsM u h' with
    | none => rw [q] at p'; exact p'.elim
    | some xs =>
      rw [q] at p'
      cases u with
      | tup ws =>
        obtain ⟨a1, vs, rfl, s, rs⟩ := ra.i_tup
        exact ⟨a1, rfl, .inr ⟨vs, s, p' ph' _ H1 .refl R' (itok_tup s rs)⟩⟩
      | frl ws =>
        obtain ⟨a1, vs, rfl, s, rs⟩ := ra.i_frl
        exact ⟨a1, rfl, .inl ⟨vs, s.sq, p' ph' _ H1 .refl R' (itok_list ra (fun _ z => by cases z))⟩⟩
      | ref n =>
        obtain ⟨a1, vs, rfl, _, s, rs⟩ := R'.seqL ra q
        exact ⟨a1, rfl, .inl ⟨vs, s, p' ph' _ H1 .refl R' (itok_list ra (fun _ z => by cases z))⟩⟩
      | _ => cases q
theorem itok_rng {T : Tb} {ph : List Addr} {H : Hp} {lo : Int} {n : Nat} : ItOk T ph H (.tup ((List.range n).map fun (m : Nat) => Mv.int (lo + (m : Int)))) (Itr lo n) := by
  intro ph' H' h' xs x R e i
  cases e
  have hl : ((List.range n).map fun (m : Nat) => Mv.int (lo + (m : Int))).length = n := by simp
  refine ⟨fun hi => ?_, fun hi => ?_⟩
  · show n ≤ i
    rw [← hl]; exact hi
  · rw [hl] at hi
    refine ⟨hi, fun y H2 ⟨e2, e3⟩ => ?_⟩
    subst e2 e3
    exact ⟨.int (lo + i), by simp [hi], .int _, .refl, R⟩
theorem it_ev {k : Ik} {a : C} {fr : Mf} {h : Mh} (f : List Mv → Option (List Mv)) (hk : ∀ ws h1, (match k with
    | .rng => Mr.ofO ((rngM ws).map .tup) h1
    | .enu => Mr.ofO ((enuM ws).map .tup) h1
    | .zip => Mr.ofO ((zipM ws).map .tup) h1
    | .itm => match ws with
      | [v] => match itemsM v h1 with
        | some _ => .ok v h1
        | none => .err
      | _ => .err) = Mr.ofO ((f ws).map .tup) h1) : ev G (.it k a) fr h = (ev G a fr h).tups.bind fun ws h1 => Mr.ofO ((f ws).map .tup) h1 := by
  show Mr.bind _ _ = _
  congr 1; funext ws h1
  exact hk ws h1
theorem rngM1 {ws : List Mv} {l : List Mv} (hl : ws.length = 1) (e : rngM ws = some l) : ∃ j : Int, ws = [.int j] ∧ -(2 ^ 62) ≤ j ∧ j < 2 ^ 62 ∧ l = (List.range j.toNat).map fun (i : Nat) => Mv.int (i : Int) := by
  match ws, hl with
  | [a], _ =>
    unfold rngM at e
    split at e
    · rename_i j h
      split at e
      · rename_i h2
        exact ⟨j, h, h2.1, h2.2, (Option.some.inj e).symm⟩
      · cases e
    · rename_i h; simp at h
    · rename_i h; simp at h
    · cases e
theorem rngM2 {ws : List Mv} {l : List Mv} (hl : ws.length = 2) (e : rngM ws = some l) : ∃ i j : Int, ws = [.int i, .int j] ∧ (-(2 ^ 62) ≤ i ∧ i < 2 ^ 62 ∧ -(2 ^ 62) ≤ j ∧ j < 2 ^ 62) ∧ l = (List.range (j - i).toNat).map fun (m : Nat) => Mv.int (i + (m : Int)) := by
  match ws, hl with
  | [a, b], _ =>
    unfold rngM at e
    split at e
    · rename_i h; simp at h
    · rename_i i j h
      split at e
      · rename_i h2
        exact ⟨i, j, h, h2, (Option.some.inj e).symm⟩
      · cases e
    · rename_i h; simp at h
    · cases e
theorem rngM3 {ws : List Mv} {l : List Mv} (hl : ws.length = 3) (e : rngM ws = some l) : ∃ i j : Int, ws = [.int i, .int j, .int (-1)] ∧ (-(2 ^ 62) ≤ i ∧ i < 2 ^ 62 ∧ -(2 ^ 62) ≤ j ∧ j < 2 ^ 62) ∧ l = (List.range (i - j).toNat).map fun (m : Nat) => Mv.int (i - (m : Int)) := by
  match ws, hl with
  | [a, b, c], _ =>
    unfold rngM at e
    split at e
    · rename_i h; simp at h
    · rename_i h; simp at h
    · rename_i i j c h
      split at e
      · rename_i h2
        obtain ⟨rfl, h2⟩ := h2
        exact ⟨i, j, h, h2, (Option.some.inj e).symm⟩
      · cases e
    · cases e
theorem ofO_post {T : Tb} {ph : List Addr} {H : Hp} {o : Option (List Mv)} {h : Mh} {R : It → Hp → Prop} {E : XK} (p : Post T ph H (ItOk T) (Mr.ofO (o.map .tup) h) R E) : ∃ l, o = some l ∧ Post T ph H (ItOk T) (.ok (.tup l) h) R E := by
  cases o with
  | none => exact p.elim
  | some l => exact ⟨l, rfl, p⟩
theorem i_rng1 (hg : Gl X "range") (hm : X.mg "range" = none) (hn : alen ka = some 1) (ha : MA X ca W G [a] ka) (hs : starEach [a] X.env = [(false, eval a X.env)] := by rfl) : MI X ca W G tg (.Call (.Name "range" p2) [a] [] pos) (.it .rng ka) :=
  PI.weak (pi_range1 hg hm ha hs) fun σ H Q ⟨ph, fr, h, RF, R, p⟩ => by
    rw [it_ev rngM (fun _ _ => rfl)] at p
    refine rdA_mono (inAn (RB := ItOk (tbX X ca)) rfl hn RF R p) fun xs H1 ⟨hl, ph', ws, h', _, _, R', rs, p'⟩ => ?_
    obtain ⟨l, e, p2⟩ := ofO_post p'
    obtain ⟨j, rfl, h1, h2, rfl⟩ := rngM1 (by rw [rs.length]; exact hl) e
    obtain ⟨v, rfl, rv⟩ := rs.inv1
    rw [rv.i_int]
    refine ⟨j, rfl, h1, h2, p2 ph' _ H1 .refl R' ?_⟩
    have := itok_rng (T := tbX X ca) (ph := ph') (H := H1) (lo := 0) (n := j.toNat)
    simpa using this
theorem i_rng2 (hg : Gl X "range") (hm : X.mg "range" = none) (hn : alen ka = some 2) (ha : MA X ca W G [a, b] ka) (hs : starEach [a, b] X.env = [(false, eval a X.env), (false, eval b X.env)] := by rfl) (hs2 : starEach [b] X.env = [(false, eval b X.env)] := by rfl) : MI X ca W G tg (.Call (.Name "range" p2) [a, b] [] pos) (.it .rng ka) :=
  PI.weak (pi_range2 hg hm ha hs hs2) fun σ H Q ⟨ph, fr, h, RF, R, p⟩ => by
    rw [it_ev rngM (fun _ _ => rfl)] at p
    refine rdA_mono (inAn (RB := ItOk (tbX X ca)) rfl hn RF R p) fun xs H1 ⟨hl, ph', ws, h', _, _, R', rs, p'⟩ => ?_
    obtain ⟨l, e, p2⟩ := ofO_post p'
    obtain ⟨i, j, rfl, hb, rfl⟩ := rngM2 (by rw [rs.length]; exact hl) e
    obtain ⟨v, v2, rfl, rv, rv2⟩ := rs.inv2
    rw [rv.i_int, rv2.i_int]
    exact ⟨i, j, rfl, hb, p2 ph' _ H1 .refl R' itok_rng⟩
theorem itok_rngD {T : Tb} {ph : List Addr} {H : Hp} {lo : Int} {n : Nat} : ItOk T ph H (.tup ((List.range n).map fun (m : Nat) => Mv.int (lo - (m : Int)))) (Itc lo (-1) n) := by
  intro ph' H' h' xs x R e i
  cases e
  have hl : ((List.range n).map fun (m : Nat) => Mv.int (lo - (m : Int))).length = n := by simp
  refine ⟨fun hi => ?_, fun hi => ?_⟩
  · show n ≤ i
    rw [← hl]; exact hi
  · rw [hl] at hi
    refine ⟨hi, fun y H2 ⟨e2, e3⟩ => ?_⟩
    subst e2 e3
    refine ⟨.int (lo - i), by simp [hi], ?_, .refl, R⟩
    have e4 : lo - (i : Int) = lo + (i : Int) * (-1) := by omega
    rw [e4]
    exact .int _
theorem RWs.inv3 {K : PySem.W.Frag} {ph : List Addr} {H : Hp} {w w2 w3 : Mv} {vs : List V} (r : RWs K ph H [w, w2, w3] vs) : ∃ v v2 v3, vs = [v, v2, v3] ∧ RW K ph H w v ∧ RW K ph H w2 v2 ∧ RW K ph H w3 v3 := by
  obtain ⟨v, t, rfl, a, b⟩ := r.inv
  obtain ⟨v2, v3, rfl, c, d⟩ := b.inv2
  exact ⟨v, v2, v3, rfl, a, c, d⟩
theorem i_rng3 (hg : Gl X "range") (hm : X.mg "range" = none) (hn : alen ka = some 3) (ha : MA X ca W G [a, b, c] ka) (hs : starEach [a, b, c] X.env = (false, eval a X.env) :: starEach [b, c] X.env := by rfl) (hpl : (backTo pos (starEach [b, c] X.env)).any (·.1) = false := by rfl) : MI X ca W G tg (.Call (.Name "range" p2) [a, b, c] [] pos) (.it .rng ka) :=
  PI.weak (pi_range3 hg hm ha hs hpl) fun σ H Q ⟨ph, fr, h, RF, R, p⟩ => by
    rw [it_ev rngM (fun _ _ => rfl)] at p
    refine rdA_mono (inAn (RB := ItOk (tbX X ca)) rfl hn RF R p) fun xs H1 ⟨hl, ph', ws, h', _, _, R', rs, p'⟩ => ?_
    obtain ⟨l, e, p2⟩ := ofO_post p'
    obtain ⟨i, j, rfl, hb, rfl⟩ := rngM3 (by rw [rs.length]; exact hl) e
    obtain ⟨v, v2, v3, rfl, rv, rv2, rv3⟩ := rs.inv3
    rw [rv.i_int, rv2.i_int, rv3.i_int]
    exact ⟨i, j, -1, _, rfl, RgC.neg hb.1 hb.2.1 hb.2.2.1 hb.2.2.2, p2 ph' _ H1 .refl R' itok_rngD⟩
theorem itok_enu {T : Tb} {ph : List Addr} {H : Hp} {ws : List Mv} {a : Addr} {vs : List V} (s : SqT T.K H a vs) (rs0 : RWs T.K ph H ws vs) : ItOk T ph H (.tup (ws.zipIdx.map fun p => .tup [.int (p.2 : Nat), p.1])) (IteT T.K a) := by
  intro ph' H' h' xs x R e i
  cases e
  have k := (x.kp a vs).1 s
  have rs := RWs.ext x rs0
  have hl : (ws.zipIdx.map fun p : Mv × Nat => Mv.tup [.int (p.2 : Nat), p.1]).length = ws.length := by simp
  refine ⟨fun hi => ⟨vs, k, by rw [← rs.length]; rw [hl] at hi; exact hi⟩, fun hi => ?_⟩
  rw [hl] at hi
  obtain ⟨v, hv, rv⟩ := rs.get (List.getElem?_eq_getElem hi)
  refine ⟨⟨vs, v, k, hv⟩, fun y H2 ⟨t, z, e1, e2, e3, hy⟩ => ?_⟩
  subst e1 e3
  have e3 := (hy vs k).symm.trans hv
  cases e3
  have xt := ext_fresh (T := T) (ph := ph') (u := .tup [.int (i : Nat), v]) e2
  refine ⟨.tup [.int (i : Nat), ws[i]], by simp [hi], ?_, xt, R.fresh e2⟩
  exact RW.tup (SqT.of upd_same) (.cons (.int _) (.cons (RW.ext xt rv) .nil))
theorem i_enu (hg : Gl X "enumerate") (hm : X.mg "enumerate" = none) (hn : alen ka = some 1) (ha : MA X ca W G [a] ka) (hs : starEach [a] X.env = [(false, eval a X.env)] := by rfl) : MI X ca W G (.Tuple elts kk tpos) (.Call (.Name "enumerate" p2) [a] [] pos) (.it .enu ka) :=
  PI.weak (pi_enumA hg hm ha hs) fun σ H Q ⟨ph, fr, h, RF, R, p⟩ => by
    rw [it_ev enuM (fun _ _ => rfl)] at p
    refine rdA_mono (inAn (RB := ItOk (tbX X ca)) rfl hn RF R p) fun xs H1 ⟨hl, ph', ws, h', _, _, R', rs, p'⟩ => ?_
    obtain ⟨l, e, p2⟩ := ofO_post p'
    unfold enuM at e
    split at e
    · obtain ⟨v, rfl, rv⟩ := rs.inv1
      obtain ⟨a1, vs, rfl, s, rs1⟩ := rv.i_tup
      cases e
      exact ⟨a1, vs, rfl, .inr ⟨s, p2 ph' _ H1 .refl R' (itok_enu s rs1)⟩⟩
    · cases e
theorem itok_zip {T : Tb} {ph : List Addr} {H : Hp} {ws ws2 : List Mv} {a b : Addr} {vs vs2 : List V} (s : SqT T.K H a vs) (s2 : SqT T.K H b vs2) (rs0 : RWs T.K ph H ws vs) (rs2 : RWs T.K ph H ws2 vs2) : ItOk T ph H (.tup ((ws.zip ws2).map fun p => .tup [p.1, p.2])) (RZ.ItzT T.K a b) := by
  intro ph' H' h' xs x R e i
  cases e
  have k := (x.kp a vs).1 s
  have k2 := (x.kp b vs2).1 s2
  have rs := RWs.ext x rs0
  have rs2 := RWs.ext x rs2
  have hl : ((ws.zip ws2).map fun p : Mv × Mv => Mv.tup [p.1, p.2]).length = min ws.length ws2.length := by simp
  refine ⟨fun hi => ⟨vs, vs2, k, k2, by rw [← rs.length, ← rs2.length]; rw [hl] at hi; omega⟩, fun hi => ?_⟩
  rw [hl] at hi
  have h1 : i < ws.length := by omega
  have h2 : i < ws2.length := by omega
  obtain ⟨v, hv, rv⟩ := rs.get (List.getElem?_eq_getElem h1)
  obtain ⟨v2, hv2, rv2⟩ := rs2.get (List.getElem?_eq_getElem h2)
  refine ⟨⟨vs, vs2, v, v2, k, k2, hv, hv2⟩, fun y H2 ⟨t, z, z2, e1, e2, e3, hy, hy2⟩ => ?_⟩
  subst e1 e3
  have e3 := (hy vs k).symm.trans hv
  cases e3
  have e4 := (hy2 vs2 k2).symm.trans hv2
  cases e4
  have xt := ext_fresh (T := T) (ph := ph') (u := .tup [v, v2]) e2
  refine ⟨.tup [ws[i], ws2[i]], by rw [List.getElem?_map, List.getElem?_eq_getElem (by simp; omega), List.getElem_zip]; rfl, ?_, xt, R.fresh e2⟩
  exact RW.tup (SqT.of upd_same) (.cons (RW.ext xt rv) (.cons (RW.ext xt rv2) .nil))
theorem i_zip (hg : Gl X "zip") (hm : X.mg "zip" = none) (ha : MA X ca W G [a, b] ka) (hs : starEach [a, b] X.env = (false, eval a X.env) :: starEach [b] X.env := by rfl) (hpl : (backTo pos (starEach [b] X.env)).any (·.1) = false := by rfl) : MI X ca W G (.Tuple elts kk tpos) (.Call (.Name "zip" p2) [a, b] [] pos) (.it .zip ka) :=
  PI.weak (RZ.pi_zipA hg hm ha hs hpl) fun σ H Q ⟨ph, fr, h, RF, R, p⟩ => by
    rw [it_ev zipM (fun _ _ => rfl)] at p
    refine rdA_mono (inA (RB := ItOk (tbX X ca)) rfl RF R p) fun xs H1 ⟨ph', ws, h', _, _, R', rs, p'⟩ => ?_
    obtain ⟨l, e, p2⟩ := ofO_post p'
    unfold zipM at e
    split at e
    · obtain ⟨v, v2, rfl, rv, rv2⟩ := rs.inv2
      obtain ⟨a1, vs, rfl, s, rs1⟩ := rv.i_tup
      obtain ⟨a2, vs2, rfl, s2, rs2⟩ := rv2.i_tup
      cases e
      exact ⟨a1, a2, vs, vs2, rfl, .inr ⟨s, s2, p2 ph' _ H1 .refl R' (itok_zip s s2 rs1 rs2)⟩⟩
    · cases e

/-! ### comprehensions -/
theorem asgM_length : ∀ (k : C) (w : Mv) (fr fr' : Mf), asgM k w fr = some fr' → fr'.length = fr.length := by
  intro k
  induction k with
  | var i => intro w fr fr' e; cases e; simp
  | tup t ih => intro w fr fr' e; exact ih w fr fr' e
  | anil =>
    intro w fr fr' e
    cases w with
    | tup ws => cases ws with
      | nil => cases e; rfl
      | cons _ _ => cases e
    | _ => cases e
  | acons a r ha hr =>
    intro w fr fr' e
    cases w with
    | tup ws => cases ws with
      | nil => cases e
      | cons w ws =>
        unfold asgM at e
        obtain ⟨f2, e1, e2⟩ := Option.bind_eq_some_iff.mp e
        rw [hr _ _ _ e2, ha _ _ _ e1]
    | _ => cases e
  | _ => intro w fr fr' e; cases e
theorem wipe_in {σ : L2.St} {i : Nat} : ∀ {vs : List Nat}, i ∈ vs → (wipe σ vs)[i]? = if i < σ.length then some none else none
  | v :: vs, h => by
    unfold wipe
    by_cases e : v = i
    · subst e
      rw [List.getElem?_set, wipe_length]
      simp
    · rw [List.getElem?_set_ne e]
      exact wipe_in (by rcases List.mem_cons.mp h with z | z; exact absurd z.symm e; exact z)
theorem wipe_of {σ τ : L2.St} {vs : List Nat} (hl : τ.length = σ.length) (h : ∀ i, i ∉ vs → τ[i]? = (wipe σ vs)[i]?) : wipe τ vs = wipe σ vs := by
  apply List.ext_getElem?
  intro i
  by_cases hi : i ∈ vs
  · rw [wipe_in hi, wipe_in hi, hl]
  · rw [wipe_out hi, h i hi]
theorem wipeM_get : ∀ {fr : Mf} {i : Nat} {w : Mv} (vs : List Nat), (wipeM fr vs)[i]? = some (some w) → fr[i]? = some (some w) ∧ i ∉ vs
  | fr, i, w, [], e => ⟨e, fun z => nomatch z⟩
  | fr, i, w, v :: vs, e => by
    unfold wipeM at e
    by_cases hv : v = i
    · subst hv
      rw [List.getElem?_set] at e
      split at e
      · split at e <;> cases e
      · rename_i h; exact absurd rfl h
    · rw [List.getElem?_set_ne hv] at e
      obtain ⟨h1, h2⟩ := wipeM_get vs e
      exact ⟨h1, fun z => by rcases List.mem_cons.mp z with z | z; exact hv z.symm; exact h2 z⟩
theorem wipeM_length (fr : Mf) : ∀ vs : List Nat, (wipeM fr vs).length = fr.length
  | [] => rfl
  | v :: vs => by unfold wipeM; rw [List.length_set, wipeM_length fr vs]
theorem RelF.wipe {T : Tb} {ph : List Addr} {H : Hp} {fr : Mf} {σ : L2.St} (RF : RelF T ph H fr σ) (vs : List Nat) : RelF T ph H (wipeM fr vs) (L2.wipe σ vs) := by
  refine ⟨by rw [wipeM_length, wipe_length]; exact RF.1, fun i w e => ?_⟩
  obtain ⟨h1, h2⟩ := wipeM_get vs e
  obtain ⟨v, e1, e2⟩ := RF.2 i w h1
  exact ⟨v, by rw [wipe_out h2]; exact e1, e2⟩
/-- bind with the base kept -/
theorem Post.bindB {T : Tb} {ph0 ph : List Addr} {H0 H : Hp} {α β γ δ : Type} {RA : List Addr → Hp → α → β → Prop} {RB : List Addr → Hp → γ → δ → Prop} {r : Mr α} {f : α → Mh → Mr γ} {Q : δ → Hp → Prop} {E E' : XK} (x0 : Ext T.K ph0 ph H0 H) (p : Post T ph0 H0 RB (r.cm.bind f) Q E) :
    Post T ph H RA r (fun v H' => ∃ ph' w h', Ext T.K ph ph' H H' ∧ RelH T ph' H' h' ∧ RA ph' H' w v ∧ Post T ph0 H0 RB (f w h') Q E) E' := by
  cases r with
  | ok w h' => exact fun ph' v H' x R a => ⟨ph', w, h', x, R, a, p⟩
  | exc c q h' => exact p.elim
  | err => exact p.elim
/-- what a test says in a block -/
def rdTs (T : Tb) (G : Sg) (k : C) : TT := rdT T (fun _ _ _ _ => False) (fun fr h => (ev G k fr h).bool)
abbrev W0 : WX := fun _ _ _ _ => False
theorem compL_live {f : Mf → Mh → Mr (Option Mv)} {tg : C} {fr : Mf} {w : Mv} {xs : List Mv} (hw : ∀ h, itemsM w h = some xs) : ∀ (k i : Nat) (h : Mh), i + k = xs.length → liveL f tg fr w k i h = compL f tg fr (xs.drop i) h
  | 0, i, h, e => by
    unfold liveL
    rw [hw h]
    have e1 : xs[i]? = none := List.getElem?_eq_none (by omega)
    have e2 : xs.drop i = [] := List.drop_eq_nil_of_le (by omega)
    rw [e2]
    dsimp only
    rw [e1]
    rfl
  | k + 1, i, h, e => by
    have hi : i < xs.length := by omega
    unfold liveL
    rw [hw h]
    dsimp only
    rw [List.getElem?_eq_getElem hi, List.drop_eq_getElem_cons hi]
    dsimp only
    unfold compL
    cases asgM tg xs[i] fr with
    | none => rfl
    | some fr' =>
      dsimp only
      congr 1; funext y h1
      rw [compL_live hw k (i + 1) h1 (by omega)]
theorem comp_tLc {T : Tb} {σ : L2.St} {H : Hp} {Q : VK} {vs : List Nat} {elt' tg' it' ifs' : C} (hv : ∀ i ∈ varsOf tg', i ∈ vs) (r : rdE T W (ev G (.comp elt' tg' it' ifs' vs)) σ H Q) :
    tLc (rdI T W (ev G it')) (rdN T tg') (rdTs T G ifs') (rdE T W0 (ev G elt')) vs σ H Q := by
  obtain ⟨ph, fr, h, RF, R, p⟩ := r
  unfold ev at p
  refine ⟨ph, fr, h, RF, R, p.bind.mono (fun J H1 ⟨ph1, w, h1, x1, R1, io, p1⟩ => fun D hD => ?_) fun _ _ _ z => z⟩
  -- the body of a turn
  generalize hf : (fun fr' h2 => ((ev G ifs' fr' h2).bool.bind fun b h3 => if b = true then (ev G elt' fr' h3).bind fun y h4 => .ok (some y) h4 else .ok none h3 : Mr (Option Mv))) = f at p1
  have RF1 : RelF T ph1 H1 fr σ := RF.ext x1
  -- as a live walk
  obtain ⟨xs0, hx0, hl0, p2⟩ : ∃ xs0, itemsM w h1 = some xs0 ∧ xs0.length ≤ line ∧ PostV T ph1 H1 ((liveL f tg' (wipeM fr vs) w xs0.length 0 h1).bind fun ys h5 => alloc (.lst ys) h5) Q (fun c d H' => W c d σ H') := by
    unfold compV at p1
    split at p1
    · split at p1
      · rename_i xs hl
        refine ⟨xs, rfl, hl, ?_⟩
        rw [compL_live (fun _ => rfl) xs.length 0 h1 (by omega), List.drop_zero]
        exact p1
      · exact p1.elim
    · split at p1
      · rename_i xs hl
        refine ⟨xs, rfl, hl, ?_⟩
        rw [compL_live (fun _ => rfl) xs.length 0 h1 (by omega), List.drop_zero]
        exact p1
      · exact p1.elim
    · split at p1
      · rename_i n xs hx
        split at p1
        · rename_i hl
          exact ⟨xs, hx, hl, p1⟩
        · exact p1.elim
      · exact p1.elim
    · exact p1.elim
  have nD : D ∉ ph1 := R1.apart hD
  refine ⟨fun i m H' => ∃ ph' h' acc ws, i + m = xs0.length ∧ acc.length ≤ i ∧ Ext T.K ph1 ph' H1 H' ∧ RelH T ph' H' h' ∧ H' D = some (.lst acc) ∧ D ∉ ph' ∧ RWs T.K ph' H' ws acc ∧
    PostV T ph1 H1 ((liveL f tg' (wipeM fr vs) w m i h').bind fun ys h5 => alloc (.lst (ws ++ ys)) h5) Q (fun c d H' => W c d σ H'), ⟨xs0.length, ph1, h1, [], [], by omega, Nat.le_refl _, ext_fresh hD, R1.fresh hD, upd_same, nD, .nil, p2⟩, fun i m H2 hW => ?_⟩
  obtain ⟨ph2, h2, acc, ws, him, hacc, x2, R2, eD, nD2, rws, p3⟩ := hW
  -- the walk's list as it stands
  cases hx : itemsM w h2 with
  | none =>
    unfold liveL at p3
    rw [hx] at p3
    exact p3.elim
  | some xs =>
    obtain ⟨io1, io2⟩ := io ph2 H2 h2 xs x2 R2 hx i
    by_cases hi : i < xs.length
    · right
      cases m with
      | zero =>
        unfold liveL at p3
        rw [hx] at p3
        dsimp only at p3
        rw [List.getElem?_eq_getElem hi] at p3
        exact p3.elim
      | succ m =>
        obtain ⟨go, yl⟩ := io2 hi
        refine ⟨go, fun H' => ∃ ph' h' acc ws, (i + 1) + m = xs0.length ∧ acc.length ≤ i + 1 ∧ Ext T.K ph1 ph' H1 H' ∧ RelH T ph' H' h' ∧ H' D = some (.lst acc) ∧ D ∉ ph' ∧ RWs T.K ph' H' ws acc ∧
          PostV T ph1 H1 ((liveL f tg' (wipeM fr vs) w m (i + 1) h').bind fun ys h5 => alloc (.lst (ws ++ ys)) h5) Q (fun c d H' => W c d σ H'), fun H' hN => ⟨m, Nat.lt_succ_self m, hN⟩, fun x H3 hy => ?_⟩
        obtain ⟨y, e1, ry, x3, R3⟩ := yl x H3 hy
        have e1' : xs[i]? = some y := e1
        unfold liveL at p3
        rw [hx] at p3
        dsimp only at p3
        rw [e1'] at p3
        dsimp only at p3
        have eD3 : H3 D = some (.lst acc) := x3.oth D _ eD nD2
        have x13 := x2.trans x3
        have RF3 : RelF T ph2 H3 fr σ := (RF1.ext x13)
        cases ha : asgM tg' y (wipeM fr vs) with
        | none => rw [ha] at p3; exact p3.elim
        | some fr' =>
          rw [ha] at p3
          dsimp only at p3
          rw [Mr.bind_bind] at p3
          refine ⟨ph2, wipeM fr vs, h2, y, fr', RF3.wipe vs, R3, ry, ha, fun σ2 RF2 oth => ⟨?_, ?_⟩⟩
          · refine wipe_of ?_ fun j hj => oth j fun z => hj (hv j z)
            have l1 := RF2.1
            have l2 := RF.1
            have l3 : fr'.length = (wipeM fr vs).length := asgM_length _ _ _ _ ha
            rw [← l1, l3, wipeM_length, l2]
          · -- the test
            have hfe : f fr' h2 = ((ev G ifs' fr' h2).bool.bind fun b h3 => if b = true then (ev G elt' fr' h3).bind fun y h4 => .ok (some y) h4 else .ok none h3) := by rw [← hf]
            rw [hfe] at p3
            have p5 : Post T ph2 H3 (fun _ _ (c : Bool) b => b = c) (ev G ifs' fr' h2).bool (fun b H4 => ∃ ph4 h4, Ext T.K ph2 ph4 H3 H4 ∧ RelH T ph4 H4 h4 ∧
                PostV T ph1 H1 (((if b = true then (ev G elt' fr' h4).bind fun y h4 => .ok (some y) h4 else .ok none h4 : Mr (Option Mv))).cm.bind fun y h1 =>
                  ((liveL f tg' (wipeM fr vs) w m (i + 1) h1).bind fun ys h2 => Mr.ok (match y with | some y => y :: ys | none => ys) h2).bind fun ys h5 => alloc (.lst (ws ++ ys)) h5) Q (fun c d H' => W c d σ H')) (fun _ _ _ => False) := by
              cases hb : (ev G ifs' fr' h2).bool with
              | ok b h4 =>
                intro ph4 b' H4 x4 R4 eb
                subst eb
                refine ⟨ph4, h4, x4, R4, ?_⟩
                rw [hb] at p3
                exact p3
              | exc c q h' => rw [hb] at p3; exact p3.elim
              | err => rw [hb] at p3; exact p3.elim
            refine ⟨ph2, fr', h2, RF2, R3, p5.mono (fun b H4 ⟨ph4, h4, x4, R4, p6⟩ => ?_) fun _ _ _ z => z⟩
            have x14 := x13.trans x4
            have eD4 : H4 D = some (.lst acc) := x4.oth D _ eD3 nD2
            have nD4 : D ∉ ph4 := fun z => by
              have := x4.new D z nD2
              rw [eD3] at this; cases this
            cases b with
            | true =>
              rw [if_pos rfl] at p6 ⊢
              refine ⟨ph4, fr', h4, RF2.ext x4, R4, ?_⟩
              cases he : ev G elt' fr' h4 with
              | ok z h5 =>
                intro ph5 v H5 x5 R5 rz
                rw [he] at p6
                have eD5 : H5 D = some (.lst acc) := x5.oth D _ eD4 nD4
                have nD5 : D ∉ ph5 := fun z => by
                  have := x5.new D z nD4
                  rw [eD4] at this; cases this
                have hbd : acc.length < sizeLine := by
                  rw [← line_eq]; omega
                refine ⟨acc, eD5, hbd, ?_⟩
                have x15 := x14.trans x5
                have kw : Kp (T.K) H5 (upd H5 D (.lst (acc ++ [v]))) := kp_write eD5 (fun _ z => by cases z) (fun _ _ z => by cases z)
                refine ⟨ph5, h5, acc ++ [v], ws ++ [z], by omega, by rw [List.length_append, List.length_singleton]; omega, ⟨x15.pre, x15.kp.trans kw, fun b o e n' => ?_, x15.new⟩, ⟨R5.nd, R5.len, fun n o e => ?_⟩, upd_same, nD5,
                  (RWs.mon (List.prefix_refl _) kw ((RWs.ext ((x3.trans x4).trans x5) rws).append (.cons rz .nil))), ?_⟩
                · rw [upd_ne (fun z : b = D => by rw [z, hD] at e; cases e)]
                  exact x15.oth b o e n'
                · obtain ⟨a1, ha1, r1⟩ := R5.ob n o e
                  refine ⟨a1, ha1, r1.mon (List.prefix_refl _) kw (upd_ne fun z => nD5 ?_)⟩
                  rw [← z]; exact List.mem_of_getElem? ha1
                · have e9 : (((Mr.ok z h5).bind fun y h4 => Mr.ok (some y) h4).cm.bind fun y h1 => ((liveL f tg' (wipeM fr vs) w m (i + 1) h1).bind fun ys h2 => Mr.ok (match y with | some y => y :: ys | none => ys) h2).bind fun ys h5 => alloc (.lst (ws ++ ys)) h5) =
                    (liveL f tg' (wipeM fr vs) w m (i + 1) h5).bind fun ys h5 => alloc (.lst (ws ++ [z] ++ ys)) h5 := by
                    show ((Mr.bind _ _).bind _) = _
                    rw [Mr.bind_bind]
                    congr 1; funext ys h6
                    show alloc (.lst (ws ++ (z :: ys))) h6 = _
                    rw [List.append_assoc]; rfl
                  rw [e9] at p6
                  exact p6
              | exc c q h5 => rw [he] at p6; exact p6.elim
              | err => rw [he] at p6; exact p6.elim
            | false =>
              rw [if_neg Bool.false_ne_true] at p6 ⊢
              refine ⟨ph4, h4, acc, ws, by omega, by omega, x14, R4, eD4, nD4, RWs.ext (x3.trans x4) rws, ?_⟩
              have e9 : ((Mr.ok (none : Option Mv) h4).cm.bind fun y h1 => ((liveL f tg' (wipeM fr vs) w m (i + 1) h1).bind fun ys h2 => Mr.ok (match y with | some y => y :: ys | none => ys) h2).bind fun ys h5 => alloc (.lst (ws ++ ys)) h5) =
                (liveL f tg' (wipeM fr vs) w m (i + 1) h4).bind fun ys h5 => alloc (.lst (ws ++ ys)) h5 := by
                show ((Mr.bind _ _).bind _) = _
                rw [Mr.bind_bind]
                rfl
              rw [e9] at p6
              exact p6
    · left
      refine ⟨io1 (by omega), ?_⟩
      unfold liveL at p3
      rw [hx] at p3
      dsimp only at p3
      rw [List.getElem?_eq_none (by omega)] at p3
      dsimp only at p3
      have p4 : PostV T ph1 H1 (alloc (.lst (ws ++ [])) h2) Q (fun c d H' => W c d σ H') := p3
      rw [List.append_nil] at p4
      have hpre : ph2 <+: ph2 ++ [D] := List.prefix_append _ _
      refine p4 (ph2 ++ [D]) (.ref D) H2 ⟨x2.pre.trans hpre, x2.kp, x2.oth, fun a m n => ?_⟩ ⟨?_, by simp [R2.len], fun n o e => ?_⟩ (RW.ref ?_)
      · rcases List.mem_append.mp m with z | z
        · exact x2.new a z n
        · rw [show a = D by simpa using z]; exact hD
      · rw [List.nodup_append]
        refine ⟨R2.nd, by simp, fun a ha b hb => ?_⟩
        have : b = D := by simpa using hb
        subst this
        exact fun z => nD2 (z ▸ ha)
      · by_cases hn : n < h2.length
        · rw [List.getElem?_append_left hn] at e
          obtain ⟨a1, ha1, r1⟩ := R2.ob n o e
          exact ⟨a1, pre_get hpre ha1, r1.mon hpre .refl rfl⟩
        · have hn' : n = h2.length := by
            have := (List.getElem?_eq_some_iff.mp e).1
            rw [List.length_append, List.length_singleton] at this
            omega
          subst hn'
          rw [List.getElem?_append_right (Nat.le_refl _), Nat.sub_self] at e
          cases e
          refine ⟨D, ?_, acc, eD, RWs.mon hpre .refl rws⟩
          rw [← R2.len, List.getElem?_append_right (Nat.le_refl _), Nat.sub_self]; rfl
      · rw [← R2.len, List.getElem?_append_right (Nat.le_refl _), Nat.sub_self]; rfl
end
end MP

/-! the rules for statements -/
namespace MP
open PySem PySem.Spec PyProof.Rows L2
abbrev MS (X : Cx) (ca : Str → Addr) (W : WX) (G : Sg) (s : Stmt) (k : S) : Prop := PS X s (rdS (tbX X ca) W (exec G k))
abbrev MSs (X : Cx) (ca : Str → Addr) (W : WX) (G : Sg) (s : List Stmt) (k : S) : Prop := PSs X s (rdS (tbX X ca) W (exec G k))
section
variable {X : Cx} {ca : Str → Addr} {W : WX} {lv : Nat} {G : Sg} {fnl : Tls} {a b c e tg iter elt : Expr} {ka kb kc kt ki ke kf : C} {pos p2 p3 tpos : Pos} {es elts rest : List Expr} {x y z : Str} {kk : Nat}
  {st : Stmt} {sts body els : List Stmt} {ks kr kb' : S} {i : Nat}

/-- an expression, then the rest -/
theorem sE {T : Tb} {σ : L2.St} {H : Hp} {ph : List Addr} {fr : Mf} {h : Mh} {D : Ends} {f : Mv → Mh → Ms} (RF : RelF T ph H fr σ) (R : RelH T ph H h) (p : PostS T ph H ((ev G ka fr h).toS fr f) D W) :
    rdE T W (ev G ka) σ H fun v H1 => ∃ ph' w h', Ext T.K ph ph' H H1 ∧ RelH T ph' H1 h' ∧ RW T.K ph' H1 w v ∧ RelF T ph' H1 fr σ ∧ PostS T ph' H1 (f w h') D W :=
  ⟨ph, fr, h, RF, R, toS_post RF p⟩
theorem sT {T : Tb} {σ : L2.St} {H : Hp} {ph : List Addr} {fr : Mf} {h : Mh} {D : Ends} {f : Bool → Mh → Ms} (RF : RelF T ph H fr σ) (R : RelH T ph H h) (p : PostS T ph H ((ev G ka fr h).bool.toS fr f) D W) :
    rdT T W (fun fr h => (ev G ka fr h).bool) σ H fun b H1 => ∃ ph' h', Ext T.K ph ph' H H1 ∧ RelH T ph' H1 h' ∧ RelF T ph' H1 fr σ ∧ PostS T ph' H1 (f b h') D W := by
  refine ⟨ph, fr, h, RF, R, (toS_post (RA := fun _ _ (c : Bool) b => b = c) RF p).mono (fun b H1 ⟨ph', w, h', x, R', e, RF', q⟩ => ⟨ph', h', x, R', RF', by rw [e]; exact q⟩) fun _ _ _ z => z⟩
theorem s_nil : MSs X ca W G [] .skip := PSs.weak pss_nil fun D σ H ⟨ph, fr, h, RF, R, p⟩ => p ph σ H .refl R RF
theorem s_one (h : MS X ca W G st ks) : MSs X ca W G [st] ks := pss_one h
theorem s_cons (h1 : MS X ca W G st ks) (h2 : MSs X ca W G sts kr) : MSs X ca W G (st :: sts) (.seq ks kr) :=
  PSs.weak (pss_cons h1 h2) fun D σ H ⟨ph, fr, h, RF, R, p⟩ => by
    refine ⟨ph, fr, h, RF, R, ?_⟩
    unfold exec at p
    cases q : exec G ks fr h with
    | nx fr' h' =>
      rw [q] at p
      exact fun ph' σ' H' x R' RF' => ⟨ph', fr', h', RF', R', PostS.ext x p⟩
    | rt v h' => rw [q] at p; exact p
    | bk fr' h' => rw [q] at p; exact p
    | ct fr' h' => rw [q] at p; exact p
    | exc c q2 fr' h' => rw [q] at p; exact p
    | err => rw [q] at p; exact p.elim
theorem s_pass : MS X ca W G (.Pass pos) .skip := PS.weak ps_pass fun D σ H ⟨ph, fr, h, RF, R, p⟩ => p ph σ H .refl R RF
theorem s_brk : MS X ca W G (.Break pos) .brk := PS.weak ps_break fun D σ H ⟨ph, fr, h, RF, R, p⟩ => p ph σ H .refl R RF
theorem s_cnt : MS X ca W G (.Continue pos) .cnt := PS.weak ps_continue fun D σ H ⟨ph, fr, h, RF, R, p⟩ => p ph σ H .refl R RF
theorem s_exp (he : ME X ca W G e ka) (hs : swapsWith e none pos.line X.env = pure false := by rfl) : MS X ca W G (.Expr e pos) (.exp ka) :=
  PS.weak (ps_expr he hs) fun D σ H ⟨ph, fr, h, RF, R, p⟩ => by
    unfold exec at p
    exact rdE_mono (sE RF R p) fun v H1 ⟨ph', w, h', x1, R', r, RF', p'⟩ => p' ph' σ H1 .refl R' RF'
theorem s_ret (he : ME X ca W G e ka) : MS X ca W G (.Return (some e) pos) (.ret ka) :=
  PS.weak (ps_ret he) fun D σ H ⟨ph, fr, h, RF, R, p⟩ => by
    unfold exec at p
    exact rdE_mono (sE RF R p) fun v H1 ⟨ph', w, h', x1, R', r, RF', p'⟩ => p' ph' v H1 .refl R' r
theorem s_retN : MS X ca W G (.Return none pos) .retn := PS.weak ps_retN fun D σ H ⟨ph, fr, h, RF, R, p⟩ => p ph .non H .refl R .non
theorem asg_core {T : Tb} {g : TG} {D : Ends} {σ : L2.St} {H : Hp} {ph : List Addr} {fr : Mf} {h : Mh} (hg : ∀ v σ H Q, rdG T G kt v σ H Q → g v σ H Q) (RF : RelF T ph H fr σ) (R : RelH T ph H h) (p : PostS T ph H (exec G (.asg kt ka) fr h) D W) : tAsg (rdE T W (ev G ka)) g D σ H := by
  unfold exec at p
  refine rdE_mono (sE RF R p) fun v H1 ⟨ph', w, h', x1, R', r, RF', p'⟩ => ?_
  cases q : asgX G kt w fr h' with
  | none => rw [q] at p'; exact p'.elim
  | some pr =>
    rw [q] at p'
    exact hg _ _ _ _ ⟨ph', fr, h', w, pr.1, pr.2, RF', R', r, q, fun ph2 σ2 H2 x2 R2 RF2 => p' ph2 σ2 H2 x2 R2 RF2⟩
theorem s_asg (he : ME X ca W G e ka) (hg : MG X ca G tg kt) (hs : swapsWithSole [tg] e pos.line X.env = pure false := by rfl) (hw : swappedStores [tg] e X.env = pure none := by rfl)
    (h1 : (assignEach [tg] X.env).map (·.2) = [assign tg X.env] := by rfl) : MS X ca W G (.Assign [tg] e pos) (.asg kt ka) :=
  PS.weak (ps_asg he hg hs hw h1) fun D σ H ⟨ph, fr, h, RF, R, p⟩ => asg_core (fun _ _ _ _ q => q) RF R p
theorem gname_of {T : Tb} {v : V} {σ : L2.St} {H : Hp} {Q : L2.St → Hp → Prop} (q : rdG T G (.var i) v σ H Q) : gName i v σ H Q := by
  obtain ⟨ph, fr, h, w, fr', h', RF, R, rw', e, q⟩ := q
  cases e
  exact q ph _ H .refl R (RF.set rw')
/-- name = value -/
theorem s_set (xg : X.N.Nodup) (hi : X.N[i]? = some x) (hx : Loc X.env.scope x) (he : ME X ca W G e ka) (hs : swapsWith e (some (.Name x p2)) pos.line X.env = pure false := by rfl) (hf : X.fn x = true ∨ X.env.scope.names.lookup x = some .local := by first | exact .inl rfl | exact .inr rfl | assumption) : MS X ca W G (.Assign [.Name x p2] e pos) (.asg (.var i) ka) :=
  PS.weak (ps_set xg hi hx he hs hf) fun D σ H ⟨ph, fr, h, RF, R, p⟩ => asg_core (fun _ _ _ _ q => gname_of q) RF R p
theorem s_if (hc : MT X ca W G c kc) (ha : MSs X ca W G body ks) (hb : MSs X ca W G els kr) : MS X ca W G (.If c body els pos) (.ite kc ks kr) :=
  PS.weak (ps_if hc ha hb) fun D σ H ⟨ph, fr, h, RF, R, p⟩ => by
    unfold exec at p
    refine rdT_mono (sT RF R p) fun b H1 ⟨ph', h', x1, R', RF', p'⟩ => ?_
    cases b with
    | true => rw [if_pos rfl] at p' ⊢; exact ⟨ph', fr, h', RF', R', p'⟩
    | false => rw [if_neg Bool.false_ne_true] at p' ⊢; exact ⟨ph', fr, h', RF', R', p'⟩
/-- what a body's end means for the loop around -/
theorem loop_body {T : Tb} {ph : List Addr} {H : Hp} {r : Ms} {D : Ends} {N : L2.St → Hp → Prop} {k : Mf → Mh → Ms} (hN : ∀ ph' σ' H' fr' h', Ext T.K ph ph' H H' → RelH T ph' H' h' → RelF T ph' H' fr' σ' → PostS T ph' H' (k fr' h') D W → N σ' H')
    (p : PostS T ph H (match r with | .nx fr' h' => k fr' h' | .ct fr' h' => k fr' h' | .bk fr' h' => .nx fr' h' | r => r) D W) : PostS T ph H r { D with nx := N, ct := N, bk := D.nx } W := by
  cases r with
  | nx fr h => exact fun ph' σ' H' x R RF => hN ph' σ' H' fr h x R RF (PostS.ext x p)
  | ct fr h => exact fun ph' σ' H' x R RF => hN ph' σ' H' fr h x R RF (PostS.ext x p)
  | bk fr h => exact p
  | rt v h => exact p
  | exc c q fr h => exact p
  | err => exact p
theorem s_while (hp : PassesOwn (model X.prog X.w) X.A X.env X.xe) (hc : MT X ca W G c kc) (hb : MSs X ca W G body ks) : MS X ca W G (.While c body [] pos) (.whl kc ks) :=
  PS.weak (ps_while hp hc hb) fun D σ H ⟨ph, fr, h, RF, R, p⟩ => by
    unfold exec at p
    refine ⟨fun m σ H => ∃ ph fr h, RelF (tbX X ca) ph H fr σ ∧ RelH (tbX X ca) ph H h ∧ PostS (tbX X ca) ph H (loopW (fun fr h => (ev G kc fr h).bool) (fun fr h => exec G ks fr h) m fr h) D W, ⟨turns, ph, fr, h, RF, R, p⟩, fun m σ H ⟨ph, fr, h, RF, R, p⟩ => ?_⟩
    cases m with
    | zero => exact p.elim
    | succ m =>
      unfold loopW at p
      refine rdT_mono (sT RF R p) fun b H1 ⟨ph', h', x1, R', RF', p'⟩ => ?_
      cases b with
      | true =>
        rw [if_pos rfl] at p' ⊢
        refine ⟨_, fun σ' H' hN => ⟨m, Nat.lt_succ_self m, hN⟩, ph', fr, h', RF', R', loop_body (fun ph2 σ2 H2 fr2 h2 x2 R2 RF2 p2 => ⟨ph2, fr2, h2, RF2, R2, p2⟩) p'⟩
      | false =>
        rw [if_neg Bool.false_ne_true] at p' ⊢
        exact p' ph' σ H1 .refl R' RF'
theorem loopL_N {f : Mv → Mf → Mh → Ms} {w : Mv} {xs : List Mv} (hw : ∀ h, itemsM w h = some xs) : ∀ (k i : Nat) (fr : Mf) (h : Mh), i + k = xs.length → loopN f w k i fr h = loopL f (xs.drop i) fr h
  | 0, i, fr, h, e => by
    unfold loopN
    rw [hw h]
    have e1 : xs[i]? = none := List.getElem?_eq_none (by omega)
    have e2 : xs.drop i = [] := List.drop_eq_nil_of_le (by omega)
    rw [e2]
    dsimp only
    rw [e1]
    rfl
  | k + 1, i, fr, h, e => by
    have hi : i < xs.length := by omega
    unfold loopN
    rw [hw h]
    dsimp only
    rw [List.getElem?_eq_getElem hi, List.drop_eq_getElem_cons hi]
    dsimp only
    unfold loopL
    cases f xs[i] fr h with
    | nx fr' h' => exact loopL_N hw k (i + 1) fr' h' (by omega)
    | ct fr' h' => exact loopL_N hw k (i + 1) fr' h' (by omega)
    | _ => rfl
theorem s_for (hp : PassesOwn (model X.prog X.w) X.A X.env X.xe) (hc : X.calm = true) (hi : MI X ca W G tg iter ki) (hg : MN X ca tg kt) (hb : MSs X ca W G body ks) (hs : ∀ x, foldedSetIterable iter X.env x = pure x := by intro _; rfl) : MS X ca W G (.For tg iter body [] pos) (.forr kt ki ks) :=
  PS.weak (ps_for hp hc hi hg hb hs) fun D σ H ⟨ph, fr, h, RF, R, p⟩ => by
    unfold exec at p
    generalize hf : (fun x fr h => (match asgM kt x fr with | some fr' => exec G ks fr' h | none => .err : Ms)) = f at p
    refine ⟨ph, fr, h, RF, R, (toS_post (RA := ItOk (tbX X ca)) RF p).mono (fun J H1 ⟨ph1, w, h1, x1, R1, io, RF1, p1⟩ => ?_) fun _ _ _ z => z⟩
    obtain ⟨n0, p2⟩ : ∃ n0, PostS (tbX X ca) ph1 H1 (loopN f w n0 0 fr h1) D W := by
      unfold loopV at p1
      split at p1
      · rename_i xs
        exact ⟨xs.length, by rw [loopL_N (fun _ => rfl) xs.length 0 fr h1 (by omega), List.drop_zero]; exact p1⟩
      · rename_i xs
        exact ⟨xs.length, by rw [loopL_N (fun _ => rfl) xs.length 0 fr h1 (by omega), List.drop_zero]; exact p1⟩
      · split at p1
        · exact ⟨_, p1⟩
        · exact p1.elim
      · exact p1.elim
    refine ⟨fun i m σ' H' => ∃ ph' fr' h', Ext (tbX X ca).K ph1 ph' H1 H' ∧ RelF (tbX X ca) ph' H' fr' σ' ∧ RelH (tbX X ca) ph' H' h' ∧ PostS (tbX X ca) ph' H' (loopN f w m i fr' h') D W, ⟨n0, ph1, fr, h1, .refl, RF1, R1, p2⟩, fun i m σ' H' ⟨ph', fr', h', x', RF', R', p'⟩ => ?_⟩
    cases hx : itemsM w h' with
    | none =>
      unfold loopN at p'
      rw [hx] at p'
      exact p'.elim
    | some xs =>
      obtain ⟨io1, io2⟩ := io ph' H' h' xs x' R' hx i
      unfold loopN at p'
      rw [hx] at p'
      dsimp only at p'
      by_cases hi : i < xs.length
      · right
        obtain ⟨go, yl⟩ := io2 hi
        rw [List.getElem?_eq_getElem hi] at p'
        cases m with
        | zero => exact p'.elim
        | succ m =>
          dsimp only at p'
          refine ⟨go, _, fun σ2 H2 hN => ⟨m, Nat.lt_succ_self m, hN⟩, fun x H2 hy => ?_⟩
          obtain ⟨y, e1, ry, x2, R2⟩ := yl x H2 hy
          rw [List.getElem?_eq_getElem hi] at e1
          cases e1
          have RF2 := RF'.ext x2
          have hfe : f xs[i] fr' h' = (match asgM kt xs[i] fr' with | some fr2 => exec G ks fr2 h' | none => .err) := by rw [← hf]
          cases ha : asgM kt xs[i] fr' with
          | none => rw [hfe, ha] at p'; exact p'.elim
          | some fr2 =>
            rw [hfe, ha] at p'
            refine ⟨ph', fr', h', xs[i], fr2, RF2, R2, ry, ha, fun σ3 RF3 _ => ⟨ph', fr2, h', RF3, R2, loop_body (fun ph4 σ4 H4 fr4 h4 x4 R4 RF4 p4 => ⟨ph4, fr4, h4, (x'.trans x2).trans x4, RF4, R4, p4⟩) (PostS.ext x2 p')⟩⟩
      · left
        rw [List.getElem?_eq_none (by omega)] at p'
        exact ⟨io1 (by omega), p' ph' σ' H' .refl R' RF'⟩
theorem s_aug {op : Operator} (xg : X.N.Nodup) (hi : X.N[i]? = some x) (hx : Loc X.env.scope x) (he : ME X ca W G e ka) (hf : X.fn x = true ∨ X.env.scope.names.lookup x = some .local := by first | exact .inl rfl | exact .inr rfl | assumption) : MS X ca W G (.AugAssign (.Name x p2) op e pos) (.aug i op ka) :=
  PS.weak (ps_aug xg hi hx he (opI_ok (ca := ca) op) hf) fun D σ H ⟨ph, fr, h, RF, R, p⟩ => by
    unfold exec at p
    cases e1 : fr[i]? with
    | none => rw [e1] at p; exact p.elim
    | some o =>
      cases o with
      | none => rw [e1] at p; exact p.elim
      | some w =>
        rw [e1] at p
        dsimp only at p
        obtain ⟨v, hv, rv⟩ := RF.2 i w e1
        refine ⟨v, hv, rdE_mono (sE RF R p) fun y H1 ⟨ph', u, h', x1, R', ry, RF', p'⟩ => ⟨fun c d H' => W c d σ H', ph', w, u, h', R', RW.ext x1 rv, ry, ?_⟩⟩
        exact (toS_post (RA := fun p H => RW (tbX X ca).K p H) RF' p').mono (fun z H2 ⟨ph2, t, h2, x2, R2, rt, RF2, p2⟩ => p2 ph2 _ H2 .refl R2 (RF2.set rt)) fun _ _ _ z => z
/-- a, b = x, y with plain local names -/
theorem tupev {fr : Mf} {h : Mh} : ∀ {D : Ends} {σ : L2.St} {T : Tb} {ph : List Addr} {H : Hp} {f : Mv → Mh → Ms}, RelF T ph H fr σ → RelH T ph H h → PostS T ph H ((ev G (.tup ka) fr h).toS fr f) D W →
    rdA T W (fun fr h => (ev G ka fr h).tups) σ H fun vs H1 => ∃ ph' ws h', Ext T.K ph ph' H H1 ∧ RelH T ph' H1 h' ∧ RWs T.K ph' H1 ws vs ∧ RelF T ph' H1 fr σ ∧ PostS T ph' H1 (f (.tup ws) h') D W := by
  intro D σ T ph H f RF R p
  refine ⟨ph, fr, h, RF, R, ?_⟩
  unfold ev at p
  show Post T ph H _ (ev G ka fr h).tups _ _
  cases q : (ev G ka fr h).tups with
  | ok ws h' =>
    rw [q] at p
    intro ph' vs H' x R' rs
    have p' : PostS T ph H ((if ws.length ≤ line then Mr.ok (Mv.tup ws) h' else .err).toS fr f) D W := p
    split at p'
    · exact ⟨ph', ws, h', x, R', rs, RF.ext x, PostS.ext x p'⟩
    · exact p'.elim
  | exc c q2 h' => rw [q] at p; exact fun ph' H' d x R' P => p ph' σ H' d x R' (RF.ext x) P
  | err => rw [q] at p; exact p.elim
theorem s_par {i j : Nat} {px py pt : Pos} {kt2 k2 pt2} (hc : X.calm = true) (xg : X.N.Nodup) (hi : X.N[i]? = some x) (hj : X.N[j]? = some y) (hij : i ≠ j)
    (hx : X.env.scope.names.lookup x = some .local) (hy : X.env.scope.names.lookup y = some .local) (ha : MA X ca W G [a, b] ka)
    (hw : swappedStores [.Tuple [.Name x px, .Name y py] kt2 pt] (.Tuple [a, b] k2 pt2) X.env = pure (some [x, y]))
    (hs : swapsWithSole [.Tuple [.Name x px, .Name y py] kt2 pt] (.Tuple [a, b] k2 pt2) pos.line X.env = pure false := by rfl) :
    MS X ca W G (.Assign [.Tuple [.Name x px, .Name y py] kt2 pt] (.Tuple [a, b] k2 pt2) pos) (.asg (.tup (.acons (.var i) (.acons (.var j) .anil))) (.tup ka)) :=
  PS.weak (ps_par hc xg hi hj hij hx hy ha hw hs) fun D σ H ⟨ph, fr, h, RF, R, p⟩ => by
    unfold exec at p
    refine rdA_mono (tupev RF R p) fun vs H1 ⟨ph', ws, h', x1, R', rs, RF', p'⟩ => ?_
    match ws, rs, p' with
    | [], _, p' => exact p'.elim
    | [_], _, p' => exact p'.elim
    | [u, v], rs, p' =>
      obtain ⟨u', v', rfl, r1, r2⟩ := rs.inv2
      exact ⟨u', v', rfl, p' ph' _ H1 .refl R' ((RF'.set r1).set r2)⟩
    | _ :: _ :: _ :: _, _, p' => exact p'.elim
theorem s_par3 {i j l : Nat} {px py pz pt : Pos} {kt2 k2 pt2} (hc : X.calm = true) (xg : X.N.Nodup) (hi : X.N[i]? = some x) (hj : X.N[j]? = some y) (hl : X.N[l]? = some z) (hij : i ≠ j) (hil : i ≠ l) (hjl : j ≠ l)
    (hx : X.env.scope.names.lookup x = some .local) (hy : X.env.scope.names.lookup y = some .local) (hz : X.env.scope.names.lookup z = some .local) (ha : MA X ca W G [a, b, c] ka)
    (hw : swappedStores [.Tuple [.Name x px, .Name y py, .Name z pz] kt2 pt] (.Tuple [a, b, c] k2 pt2) X.env = pure (some [x, y, z]))
    (hs : swapsWithSole [.Tuple [.Name x px, .Name y py, .Name z pz] kt2 pt] (.Tuple [a, b, c] k2 pt2) pos.line X.env = pure false := by rfl) :
    MS X ca W G (.Assign [.Tuple [.Name x px, .Name y py, .Name z pz] kt2 pt] (.Tuple [a, b, c] k2 pt2) pos) (.asg (.tup (.acons (.var i) (.acons (.var j) (.acons (.var l) .anil)))) (.tup ka)) :=
  PS.weak (ps_par3 hc xg hi hj hl hij hil hjl hx hy hz ha hw hs) fun D σ H ⟨ph, fr, h, RF, R, p⟩ => by
    unfold exec at p
    refine rdA_mono (tupev RF R p) fun vs H1 ⟨ph', ws, h', x1, R', rs, RF', p'⟩ => ?_
    match ws, rs, p' with
    | [], _, p' => exact p'.elim
    | [_], _, p' => exact p'.elim
    | [_, _], _, p' => exact p'.elim
    | [u, v, w], rs, p' =>
      obtain ⟨u', v', w', rfl, r1, r2, r3⟩ := rs.inv3
      exact ⟨u', v', w', rfl, p' ph' _ H1 .refl R' (((RF'.set r1).set r2).set r3)⟩
    | _ :: _ :: _ :: _ :: _, _, p' => exact p'.elim
/-- [elt for tg in it if ..] -/
theorem Xg.blk {lv : Nat} (xg : Xg X ca W lv G fnl) (s : Shared) (H : Hp) (scope : Scope) (cenv : Env) (fp : List Addr) : Xg (X.blk s H scope cenv fp) ca W0 lv G fnl := ⟨takes0, xg.calm, xg.nd, xg.room, xg.gd, xg.tab, PassesOwn.never⟩
theorem ifs0 : PTs X [] (rdTs (tbX X ca) G (.lit (.bl true))) := ⟨fun pins s σ H Q I ⟨ph, fr, h, RF, R, p⟩ => pts_nil.run pins s σ H Q I (p ph true H .refl R rfl)⟩
theorem ifs1 (h : MT X ca W0 G c kc) : PTs X [c] (rdTs (tbX X ca) G kc) := pts_one h
theorem m_comp {ifs : List Expr} {scope : Scope} {own : List (Str × Nat)} (xg : Xg X ca W lv G fnl) (hi : MI X ca W G tg iter ki) (ok : blkC X.N X.env.scope scope own = true)
    (hg : ∀ (s : Shared) (H : Hp) (C : Addr) (cl : List (Str × Addr)) (fp : List Addr), MN (X.blk s H scope (compEnvC scope cl C X.env) fp) ca tg kt)
    (ht : ∀ (s : Shared) (H : Hp) (C : Addr) (cl : List (Str × Addr)) (fp : List Addr), Xg (X.blk s H scope (compEnvC scope cl C X.env) fp) ca W0 lv G fnl → PTs (X.blk s H scope (compEnvC scope cl C X.env) fp) ifs (rdTs (tbX X ca) G kf))
    (he : ∀ (s : Shared) (H : Hp) (C : Addr) (cl : List (Str × Addr)) (fp : List Addr), Xg (X.blk s H scope (compEnvC scope cl C X.env) fp) ca W0 lv G fnl → ME (X.blk s H scope (compEnvC scope cl C X.env) fp) ca W0 G elt ke)
    (hv : ∀ i ∈ varsOf kt, i ∈ own.map (·.2)) (hs : ∀ x, foldedSetIterable iter X.env x = pure x := by intro _; rfl) :
    ME X ca W G (.ListComp elt [⟨tg, iter, ifs, 0⟩] scope pos) (.comp ke kt ki kf (own.map (·.2))) :=
  PE.weak (pe_lc xg.calm xg.nd hi (blkOk_by ok) hg (fun s H C cl fp => ht s H C cl fp (xg.blk ..)) (fun s H C cl fp => he s H C cl fp (xg.blk ..)) hs) fun σ H Q r => comp_tLc hv r
/-- name = [..] on one line -/
theorem s_setc {ifs : List Expr} {scope : Scope} {own : List (Str × Nat)} {spos : Pos} (xg : Xg X ca W lv G fnl) (hy : X.N[i]? = some y) (hyl : X.env.scope.names.lookup y = some .local)
    (hsw : swapsWith (.ListComp elt [⟨tg, iter, ifs, 0⟩] scope pos) (some (.Name y p2)) spos.line X.env = pure true) (hi : MI X ca W G tg iter ki) (ok : blkC X.N X.env.scope scope own = true)
    (hg : ∀ (s : Shared) (H : Hp) (C : Addr) (cl : List (Str × Addr)) (fp : List Addr), MN (X.blk s H scope (compEnvC scope cl C X.env) fp) ca tg kt)
    (ht : ∀ (s : Shared) (H : Hp) (C : Addr) (cl : List (Str × Addr)) (fp : List Addr), Xg (X.blk s H scope (compEnvC scope cl C X.env) fp) ca W0 lv G fnl → PTs (X.blk s H scope (compEnvC scope cl C X.env) fp) ifs (rdTs (tbX X ca) G kf))
    (he : ∀ (s : Shared) (H : Hp) (C : Addr) (cl : List (Str × Addr)) (fp : List Addr), Xg (X.blk s H scope (compEnvC scope cl C X.env) fp) ca W0 lv G fnl → ME (X.blk s H scope (compEnvC scope cl C X.env) fp) ca W0 G elt ke)
    (hv : ∀ i ∈ varsOf kt, i ∈ own.map (·.2)) (hs : ∀ x, foldedSetIterable iter X.env x = pure x := by intro _; rfl) :
    MS X ca W G (.Assign [.Name y p2] (.ListComp elt [⟨tg, iter, ifs, 0⟩] scope pos) spos) (.asg (.var i) (.comp ke kt ki kf (own.map (·.2)))) :=
  PS.weak (ps_setLc xg.calm xg.nd hy hyl hsw hi (blkOk_by ok) hg (fun s H C cl fp => ht s H C cl fp (xg.blk ..)) (fun s H C cl fp => he s H C cl fp (xg.blk ..)) hs) fun D σ H ⟨ph, fr, h, RF, R, p⟩ => by
    unfold exec at p
    refine comp_tLc (W := W) (G := G) hv (rdE_mono (sE RF R p) fun v H1 ⟨ph', w, h', x1, R', r, RF', p'⟩ => ?_)
    exact p' ph' _ H1 .refl R' (RF'.set r)
end
end MP

/-! exceptions with one field -/
namespace PySem
namespace MPXc
open PySem.W PySem.Calls PyProof.Rows PySem.HandSPX MP
theorem one_size (v : Value) : [v].length ≤ sizeLine := by
  rw [sizeLine_eq]
  exact (by decide : 1 ≤ 16777216)
theorem ldC {M : Model} {s : Shared} {name : Str} {scope : Scope} {L a : Addr} {cd : Value} {m : Str → Option Value} {x : Str} {pos : Pos} {v : Value} {Q : Value → Shared → Prop} {A : Around} {E : Value → Shared → Prop} (hn : s.heap.Ns L m) (hv : m x = some v) (h : Q v s)
    (hk : scope.kind = .function) (hl : (envOfC name scope L a cd).kindOf x = some .local) (hd : (x == ("__debug__" : Str)) = false) :
    wpAny M A (eval (.Name x pos) (envOfC name scope L a cd)) Q E s := wpAny_Name (wpAny_loadName_local hk hl hn hv h) hd
structure InitEnd (h h' : Heap) (f : Str) (x C dx t1 : Addr) (v : Value) : Prop where
  keep : ∀ b o, b ≠ x → h.get? b = some o → h'.get? b = some o
  obj : h'.get? x = some { cls := .ref C, dict := some dx, data := .fields #[.ref t1, .none, .none, .none, .bool false, .none] }
  dbig : h.objs.size ≤ dx
  dne : dx ≠ x
  ns : h'.Ns1 dx (fun y => if y = f then some v else none)
structure OwnMade (h h' : Heap) (f : Str) (e C d : Addr) (v : Value) : Prop where
  keep : ∀ b o, h.get? b = some o → h'.get? b = some o
  new : h.objs.size ≤ e
  obj : ∃ oe vs, h'.get? e = some oe ∧ oe.cls = .ref C ∧ oe.dict = some d ∧ oe.data = .fields vs ∧ vs[1]? = some .none
  dbig : h.objs.size ≤ d
  dne : d ≠ e
  ns : h'.Ns1 d (fun y => if y = f then some v else none)
section
variable {prog : Program} {w : World} {A : Around} {E : Value → Shared → Prop} {R : Result → Shared → Prop} {s : Shared} {K : Frag} {mg : Str → Option Value} {C fI : Addr} {xn f : Str}
theorem xc_init (T : XcT K mg xn f C fI) {x t0 : Addr} {v : Value} (X : K.In s.heap) (hlim : s.heap.NoLimit) (hx : s.heap.get? x = some (excO C t0)) (hnx : K.lookup x = none) (hroom : A.depth < recursionLimit)
    (hq : ∀ h' tk dx, InitEnd s.heap h' f x C dx t0 v → R (.ok (.ret .none)) { s with heap := h', toks := tk }) :
    codeAny (model prog w) A (.call (.ref fI) ⟨[.ref x, v], []⟩) R s := by
  obtain ⟨oc, od, qual, args, sc, doc, pm, an, cdv, ct, osl, q1, q2, q3, q4, ho, hcd, hb, hk, hself, hf, hdb, hfs, hco, hge⟩ := T.fn
  obtain ⟨nm, q, N, bs, bm, sn, sub, ab, col, dd, k0, k1, k2, k3, k5, hC, hbm⟩ := T.cls
  have hcl : clsIn K C = some { name := nm, bases := bs, mro := .ref C :: bm, ns := N, qualname := q, hasDict := true, slotNames := sn, subclasses := sub, abstract := ab, collection := col, hasDel := false } := by unfold clsIn; rw [hC] <;> rfl
  refine Att.call_fn (binds := [(("self" : Str), .ref x), (f, v)]) X hlim ho hcd hroom (BindsTo.of_eq (hb _ _)) (by simp [hself, hf]) (fun s₁ IC => ?_) hco hge hk
  obtain ⟨h₁, tk₁, rfl⟩ := IC.toInCall.same
  have k : ∀ b o, s.heap.get? b = some o → h₁.get? b = some o := IC.toInCall.keep
  have hn := IC.toInCall.ns
  have hxL : s.heap.objs.size ≠ x := Nat.ne_of_gt (Heap.lt_size hx)
  have X₁ : K.In h₁ := X.keeps k
  have hx₁ := k _ _ hx
  have ks : (envOfC qual sc s.heap.objs.size fI cdv).kindOf ("self" : Str) = some .local := hself
  have kf : (envOfC qual sc s.heap.objs.size fI cdv).kindOf f = some .local := hf
  have hfs' : f ≠ ("self" : Str) := by
    intro z
    rw [z] at hfs
    exact absurd hfs (by decide)
  have ms : bindL (envOfC qual sc s.heap.objs.size fI cdv).kindOf [(("self" : Str), Value.ref x), (f, v)] (fun _ => none) ("self" : Str) = some (.ref x) := by
    unfold bindL bindL bindL
    rw [if_pos ks, if_pos kf]
    simp [Ne.symm hfs']
  have mf : bindL (envOfC qual sc s.heap.objs.size fI cdv).kindOf [(("self" : Str), Value.ref x), (f, v)] (fun _ => none) f = some v := by
    unfold bindL bindL bindL
    rw [if_pos ks, if_pos kf]
    simp
  show wpAny _ _ (execs _ _) _ _ _
  refine wpAny_execs_cons (plainObj_wpAny_Assign_Attribute ?_)
  refine ldC (v := v) hn mf (ldC (v := .ref x) hn ms ?_ hk ks (by decide)) hk kf hdb
  refine set_plain X₁ (ox := excO C t0) (od := none) ⟨hx₁, rfl, rfl, trivial⟩ T.sa ?_
  refine exc_osa X₁ hx₁ hcl (show refsVE (.ref C :: bm) = true from hbm) rfl T.noN (fun h₃ tk₃ dx k₃ dn dne hx₃ hn₃ => ?_)
  show wpAny _ _ (execs _ _) _ _ _
  have z : s.heap.objs.size < h₁.objs.size := hn.lt
  exact wpAny_execs_nil (hq h₃ tk₃ dx ⟨fun b o hb e => k₃ b o hb (k b o e), hx₃, Nat.le_of_lt (Nat.lt_of_lt_of_le z dn), dne, hn₃⟩)
theorem xc_made (T : XcT K mg xn f C fI) {v : Value} (X : K.In s.heap) (hlim : s.heap.NoLimit) (hroom : A.depth + 1 < recursionLimit)
    (hq : ∀ h' tk e d, OwnMade s.heap h' f e C d v → R (.ok (.ret (.ref e))) { s with heap := h', toks := tk }) :
    codeAny (model prog w) A (.call (.ref C) ⟨[v], []⟩) R s := by
  obtain ⟨nm, q, N, bs, bm, sn, sub, ab, col, dd, k0, k1, k2, k3, k5, hC, hbm⟩ := T.cls
  obtain ⟨hp, g, dr, tk, os⟩ := s
  have k : ∀ b o, hp.get? b = some o → ((hp.push (kdv_tup [v])).push (excO C hp.objs.size)).get? b = some o := fun b o e => Heap.get?_push_of_some _ (Heap.get?_push_of_some _ e)
  have hget : ((hp.push (kdv_tup [v])).push (excO C hp.objs.size)).get? (hp.objs.size + 1) = some (excO C hp.objs.size) := by heap_get
  have hnx : K.lookup (hp.objs.size + 1) = none := by
    cases e : K.lookup (hp.objs.size + 1) with
    | none => rfl
    | some o =>
      have z : hp.get? (hp.objs.size + 1) = some o := X _ _ e
      exact absurd (Nat.lt_of_succ_lt (Heap.lt_size z)) (Nat.lt_irrefl _)
  refine call_own F.excBase_ValueError (fun X => refsVE_contains X bm hbm) (X _ _ hC) (looks_findIn X T.iC) (fun self => bind_fn X self T.tC) (one_size v) ?_
  refine xc_init (s := ⟨(hp.push (kdv_tup [v])).push (excO C hp.objs.size), g, dr, tk, os⟩) T (X.keeps k) (hlim.keeps k) hget hnx ?_ fun h' tk' dx ⟨k', hx, dn, dne, hns⟩ => ?_
  · show A.depth + 1 < recursionLimit
    exact hroom
  · have old : ∀ b o, hp.get? b = some o → h'.get? b = some o := fun b o e => k' b o (Nat.ne_of_lt (Nat.lt_succ_of_lt (Heap.lt_size e))) (k b o e)
    have z : hp.objs.size + 1 + 1 ≤ dx := by
      first
        | (simpa only [Heap.size_push] using dn)
        | exact dn
        | (have q := dn; rw [Heap.size_push, Heap.size_push] at q; exact q)
    exact ⟨rfl, hq h' tk' (hp.objs.size + 1) dx ⟨old, Nat.le_succ _, ⟨_, _, hx, rfl, rfl, rfl, rfl⟩, Nat.le_trans (Nat.le_trans (Nat.le_succ _) (Nat.le_succ _)) z, dne, hns⟩⟩
end
end MPXc
end PySem
namespace MP
open PySem PySem.Spec PyProof.Rows L2
theorem relO_one {v : V} {v' : Value} (r : RelV v v') (g f : Str) : RelO (List.lookup f [(g, v)]) (if f = g then some v' else none) := by
  by_cases hw : f = g
  · subst hw
    rw [if_pos rfl]
    have q : List.lookup f [(f, v)] = some v := by simp [List.lookup]
    rw [q]
    exact r
  · rw [if_neg hw]
    have qw : (f == g) = false := by simpa using hw
    have q2 : List.lookup f [(g, v)] = none := by simp [List.lookup, qw]
    rw [q2]
    trivial
section
variable {X : Cx} {ca : Str → Addr} {W : WX} {lv : Nat} {G : Sg} {fnl : Tls} {a : Expr} {ka : C} {C' fI : Addr} {x f : Str} {p pos pos2 : Pos}
def tMkX (f : Str) (C : Addr) (ta : TA) : L2.St → Hp → XK → Prop := fun σ H Q => ta σ H fun vs H1 => ∃ v, vs = [v] ∧ ∀ d, H1 d = none → Q (.ref C) (some d) (upd H1 d (.xd [(f, v)]))
theorem pmk_x {ta : TA} {k : Nat} (T : XcT X.K X.mg x f C' fI) (hr : Room k X.A) (ha : PA X [a] ta) (hg : Gl X x) (hdb : (x == ("__debug__" : Str)) = false)
    (he : starEach (a :: []) X.env = (false, eval a X.env) :: starEach [] X.env) (hpl : (backTo pos (starEach [] X.env)).any (·.1) = false) :
    PMk X (.Call (.Name x p) [a] [] pos) (tMkX f C' ta) := by
  intro pins s σ H Q I h
  refine wpAny_Call_Name_kw (ld_glob I hg T.gC ?_ hdb)
  refine PySem.W.callWith_K (h₀ := X.base) I.ok.mod.kin T.kC (thn (ha.run pos pins s σ H _ I h) fun us s1 hh => ?_) he hpl
  obtain ⟨vs, H1, I1, r1, v, ev, q1⟩ := hh
  subst ev
  refine ⟨I1.kIn, ?_⟩
  cases r1 with
  | cons rv rn =>
    rename_i v' us'
    cases rn
    show wpAny _ _ (call (.ref C') [v']) _ _ _
    have hlim := I1.nolimit
    obtain ⟨hp, g, dr, tk, os⟩ := s1
    refine wpAny_call (PySem.MPXc.xc_made T I1.kIn hlim (by have := hr.dp; omega) fun h' tk' e d M => ?_)
    show MkP X pins σ Q (.ref e) ⟨h', g, dr, tk', os⟩
    obtain ⟨oe, fv, hoe, hc, hd, hdat, h1⟩ := M.obj
    have hns := M.ns
    obtain ⟨G', g1, g2⟩ := restrict h' fun b => decide (b ≠ e)
    have gk : ∀ b, b ≠ e → G'.get? b = h'.get? b := fun b hb => g1 b (decide_eq_true hb)
    have ge : G'.get? e = none := g2 e (by simp)
    have old : ∀ b o, hp.get? b = some o → G'.get? b = some o := fun b o q => (gk b (Nat.ne_of_lt (Nat.lt_of_lt_of_le (Heap.lt_size q) M.new))).trans (M.keep b o q)
    have ob : ObjOk X.prog X.w (upd H1 d (.xd [(f, v)])) G' d (.xd [(f, v)]) :=
      ⟨_, hns.at (fun o q => (gk d M.dne).trans q), fun g => relO_one rv f g⟩
    have J : L2.Inv X pins σ (upd H1 d (.xd [(f, v)])) ⟨G', g, dr, tk', os⟩ := I1.laid (t' := tk') old M.dbig ob
    refine ⟨e, oe, fv, ⟨G', g, dr, tk', os⟩, _, .ref C', some d, rfl, J, fun b o q => ?_, ge, hoe, ⟨hc, hd⟩, hdat, h1, ?_, rfl, I1.bare, raises_own T.exC T.tyC, q1 d (I1.hok.fresh M.dbig)⟩
    · by_cases hb : b = e
      · have q' : G'.get? b = some o := q
        rw [hb, ge] at q'; cases q'
      · exact (gk b hb).symm.trans q
    · rw [upd_ne (Ne.symm M.dne)]
      exact I1.hok.fresh M.new
/-- raise x(a) -/
theorem s_raise (xg : Xg X ca W lv G fnl) (hf : fnl.xc.lookup x = some f) (ha : MA X ca W G [a] ka) (hg : Gl X x) (hdb : (x == ("__debug__" : Str)) = false := by decide)
    (he : starEach (a :: []) X.env = (false, eval a X.env) :: starEach [] X.env := by rfl) (hpl : (backTo pos (starEach [] X.env)).any (·.1) = false := by rfl) :
    MS X ca W G (.Raise (some (.Call (.Name x p) [a] [] pos)) none pos2) (.rse x [f] ka) := by
  obtain ⟨fI, T⟩ := xg.tab.xc _ (lookup_mem hf)
  refine PS.weak (ps_raise xg.calm xg.tk (pmk_x T xg.room ha hg hdb he hpl)) fun D σ H ⟨ph, fr, h, RF, R, q⟩ => ?_
  unfold exec at q
  refine ⟨ph, fr, h, RF, R, (toS_post (RA := fun p H => RWs (tbX X ca).K p H) RF q).mono (fun vs H1 ⟨ph', ws, h', x1, R', rs, RF', p'⟩ => ?_) fun _ _ _ z => z⟩
  split at p'
  · rename_i hl
    match ws, hl, rs, p' with
    | [w], _, rs, p' =>
      obtain ⟨v, rfl, rv⟩ := rs.inv1
      refine ⟨v, rfl, fun d hd => ?_⟩
      have xt := ext_fresh (T := tbX X ca) (ph := ph') (u := .xd [(f, v)]) hd
      exact p' ph' σ _ (some d) xt (R'.fresh hd) (RF'.ext xt) ⟨d, [(f, v)], rfl, upd_same, rfl, .cons (RW.ext xt rv) .nil⟩
  · exact p'.elim
end
end MP

/-! isinstance, methods of lists, sorted, keywords -/
namespace MP
open PySem PySem.Spec PyProof.Rows L2

section
variable {X : Cx} {ca : Str → Addr} {W : WX} {lv : Nat} {G : Sg} {fnl : Tls} {a b c e o : Expr} {ka kb kc ko : C} {pos p2 p3 apos cpos p4 : Pos} {es rest : List Expr} {x : Str} {i : Nat}

/-! ### isinstance -/
def typs : List (String × String) := [("bool", "bool"), ("int", "int"), ("str", "str"), ("tuple", "tuple"), ("list", "list")]
theorem pe_typ {t : String} (hg : Gl X t) (hm : X.mg t = none) (hv : bootBuiltins t = some (.type t)) (hn : (t : Str) ≠ "__name__") (hd : ((t : Str) == ("__debug__" : Str)) = false) : PE X (.Name t pos) (tC (.ty t)) :=
  ⟨fun pins s σ H Q I h => ld_blt I hg hm hv ⟨.ty t, H, I, rfl, h⟩ hn hd⟩
structure TyK (t : String) : Prop where
  non : kitB "NoneType" t = some false
  bl : kitB "bool" t = some (decide ((t : Str) = "bool") || decide ((t : Str) = "int"))
  int : kitB "int" t = some (decide ((t : Str) = "int"))
  str : kitB "str" t = some (decide ((t : Str) = "str"))
  tup : kitB "tuple" t = some (decide ((t : Str) = "tuple"))
  lst : kitB "list" t = some (decide ((t : Str) = "list"))
  boot : bootBuiltins t = some (.type t)
  nn : (t : Str) ≠ "__name__"
  nd : ((t : Str) == ("__debug__" : Str)) = false
theorem tyk_int : TyK "int" := ⟨by decide +kernel, by decide +kernel, by decide +kernel, by decide +kernel, by decide +kernel, by decide +kernel, by first | rfl | decide +kernel, by decide, by decide⟩
theorem tyk_bool : TyK "bool" := ⟨by decide +kernel, by decide +kernel, by decide +kernel, by decide +kernel, by decide +kernel, by decide +kernel, by first | rfl | decide +kernel, by decide, by decide⟩
theorem tyk_tuple : TyK "tuple" := ⟨by decide +kernel, by decide +kernel, by decide +kernel, by decide +kernel, by decide +kernel, by decide +kernel, by first | rfl | decide +kernel, by decide, by decide⟩
theorem tyk_list : TyK "list" := ⟨by decide +kernel, by decide +kernel, by decide +kernel, by decide +kernel, by decide +kernel, by decide +kernel, by first | rfl | decide +kernel, by decide, by decide⟩
theorem tyk_str : TyK "str" := ⟨by decide +kernel, by decide +kernel, by decide +kernel, by decide +kernel, by decide +kernel, by decide +kernel, by first | rfl | decide +kernel, by decide, by decide⟩

theorem isi_ty {T : Tb} {ph : List Addr} {H : Hp} {h : Mh} {w : Mv} {v : V} {t : String} {Q : VK} {E : XK} (k : TyK t) (R : RelH T ph H h) (r : RW T.K ph H w v) (p : PostV T ph H (isiM t w h) Q E) : ∃ ty b, TyX T.K H v (.type ty) ∧ kitB ty t = some b ∧ Q (.bl b) H := by
  unfold isiM at p
  cases w with
  | non => rw [r.i_non]; exact ⟨_, _, .base .non, k.non, post_same R (.bl _) p⟩
  | bl y => rw [r.i_bl]; exact ⟨_, _, .base (.bl y), k.bl, post_same R (.bl _) p⟩
  | int y => rw [r.i_int]; exact ⟨_, _, .base (.int y), k.int, post_same R (.bl _) p⟩
  | str y => rw [r.i_str]; exact ⟨_, _, .base (.str y), k.str, post_same R (.bl _) p⟩
  | tup ws =>
    obtain ⟨a, vs, rfl, s, _⟩ := r.i_tup
    refine ⟨"tuple", _, ?_, k.tup, post_same R (.bl _) p⟩
    rcases s with (s | ⟨ob, s⟩) | ⟨ob, its, n, s, hc, _⟩
    · exact .base (.tup s)
    · exact .fTuple s
    · exact .kTuple s hc
  | frl ws =>
    obtain ⟨a, vs, rfl, s, _⟩ := r.i_frl
    refine ⟨"list", _, ?_, k.lst, post_same R (.bl _) p⟩
    rcases s with ⟨ob, s⟩ | (s | ⟨ob, s⟩) | ⟨ob, its, n, s, hc, _⟩
    · exact .base (.frz s)
    · cases s
    · cases s
    · exact .kList s hc
  | ref n =>
    dsimp only at p
    split at p
    · rename_i xs q
      obtain ⟨a, vs, rfl, _, s, _⟩ := R.lst r q
      exact ⟨"list", _, .base (.lst s), k.lst, post_same R (.bl _) p⟩
    · exact p.elim
theorem m_isi {t : String} (k : TyK t) (hg : Gl X "isinstance") (hm : X.mg "isinstance" = none) (hgt : Gl X t) (hmt : X.mg t = none) (ha : ME X ca W G a ka)
    (hs : starEach [a, .Name t p3] X.env = (false, eval a X.env) :: starEach [.Name t p3] X.env := by rfl) (hs2 : starEach [.Name t p3] X.env = (false, eval (.Name t p3) X.env) :: starEach [] X.env := by rfl) (hpl : (backTo pos (starEach [.Name t p3] X.env)).any (·.1) = false := by rfl) :
    ME X ca W G (.Call (.Name "isinstance" p2) [a, .Name t p3] [] pos) (.isi ka t) :=
  me_of (pe_callB call_isi hg hm PyProof.Rows.boot_isinstance (pa_cons ha (pa_cons (pe_typ hgt hmt k.boot k.nn k.nd) pa_nil hs2) hs) (by decide) (by decide) hs hpl) fun σ H Q ph fr h RF R p => by
    unfold ev at p
    refine rdE_mono (one rfl RF R p) fun v H1 ⟨ph', w, h', _, _, R', r, p'⟩ => ?_
    obtain ⟨ty, b, h1, h2, h3⟩ := isi_ty k R' r p'
    exact ⟨v, .ty t, .type ty, .type t, b, rfl, .ty t, h1, kit_ty h2, h3⟩

/-! ### methods of a list -/
theorem meth_post {T : Tb} {m : Str} {σ : L2.St} {H : Hp} {Q : VK} {f : Mv → List Mv → Mh → Mr Mv} {ph : List Addr} {fr : Mf} {h : Mh} {u : Mv} {x : V} (R : RelH T ph H h) (RF : RelF T ph H fr σ) (r : RW T.K ph H u x) : True := trivial
/-- o.m(e, ..), o a list -/
theorem m_bm {m : Str} {id : String} (hm : MtR X id (rdM (tbX X ca) m)) (slot : Slot "list" m id) (hty : typeOf (.builtin id) = pure (.type "method_descriptor")) (ho : ME X ca W G o ko) (ha : MA X ca W G (e :: es) ka)
    (hbase : attributeBase o m X.env (eval o X.env) = eval o X.env := by rfl)
    (hfew : ((backTo cpos (starEach (e :: es) X.env)).all (fun x => !x.1) && (backToKw cpos (keywordEach [] X.env)).all (fun x => x.1.isSome)
      && decide ((e :: es).length + ([] : List Keyword).length + (if ([] : List Keyword).isEmpty then 0 else 1) < 30)) = true := by rfl)
    (hline : (apos.endLine == cpos.line) = true := by rfl) (he : starEach (e :: es) X.env = (false, eval e X.env) :: starEach es X.env := by rfl) (hpl : (backTo cpos (starEach es X.env)).any (·.1) = false := by rfl) :
    ME X ca W G (.Call (.Attribute o m apos) (e :: es) [] cpos) (.mthl ko m ka) :=
  me_of (pe_bm PySem.F.plainAttrs_list slot hty hm ho ha hbase hfew hline he hpl) fun σ H Q ph fr h RF R p => by
    unfold ev at p
    refine rdE_mono (one rfl RF R p) fun x H1 ⟨ph', u, h', _, RF', R', r, p'⟩ => ?_
    cases hu : lstAt u h' with
    | none => rw [hu] at p'; exact p'.elim
    | some n =>
      rw [hu] at p'
      dsimp only at p'
      unfold lstAt at hu
      split at hu
      · rename_i k
        split at hu
        · rename_i xs hx
          cases hu
          obtain ⟨a1, vs, rfl, _, s, _⟩ := R'.lst r hx
          refine ⟨.inl ⟨rfl, vs, SqL.of s⟩, ?_⟩
          refine rdA_mono (inA rfl RF' R' p') fun ws H2 ⟨ph2, us, h2, x2, _, R2, rs, p2⟩ => ?_
          cases hz : lstAt (.ref n) h2 with
          | none => rw [hz] at p2; exact p2.elim
          | some n2 =>
            rw [hz] at p2
            unfold lstAt at hz
            dsimp only at hz
            split at hz
            · rename_i zs hzs
              cases hz
              exact ⟨_, ph2, n, zs, us, h2, R2, RW.ext x2 r, hzs, rs, p2⟩
            · cases hz
        · cases hu
      · cases hu
/-- o.m(), o a list -/
theorem m_bm0 {m : Str} {id : String} (hm : MtR X id (rdM (tbX X ca) m)) (slot : Slot "list" m id) (hty : typeOf (.builtin id) = pure (.type "method_descriptor")) (ho : ME X ca W G o ko)
    (hbase : attributeBase o m X.env (eval o X.env) = eval o X.env := by rfl) (hline : (apos.endLine == cpos.line) = true := by rfl) :
    ME X ca W G (.Call (.Attribute o m apos) [] [] cpos) (.mthl ko m .anil) :=
  me_of (pe_bm0 PySem.F.plainAttrs_list slot hty hm ho hbase hline) fun σ H Q ph fr h RF R p => by
    unfold ev at p
    refine rdE_mono (one rfl RF R p) fun x H1 ⟨ph', u, h', _, RF', R', r, p'⟩ => ?_
    cases hu : lstAt u h' with
    | none => rw [hu] at p'; exact p'.elim
    | some n =>
      rw [hu] at p'
      dsimp only at p'
      have hu0 := hu
      unfold lstAt at hu
      split at hu
      · rename_i k
        split at hu
        · rename_i xs hx
          cases hu
          obtain ⟨a1, vs, rfl, _, s, _⟩ := R'.lst r hx
          refine ⟨.inl ⟨rfl, vs, SqL.of s⟩, ?_⟩
          have p2 : PostV (tbX X ca) ph' H1 (match lstAt (.ref n) h' with | some _ => mthM m (.ref n) [] h' | none => .err) Q (fun c d H' => W c d σ H') := p'
          rw [hu0] at p2
          exact ⟨_, ph', n, xs, [], h', R', r, hx, .nil, p2⟩
        · cases hu
      · cases hu
theorem mth_pop : MtR X "list.pop" (rdM (tbX X ca) "pop") := by
  intro pins s σ H x xs v us Q I rx r h
  obtain ⟨E, ph, n, zs, ws, h, R, ro, e, rs, p⟩ := h
  unfold mthM at p
  dsimp only at p
  rw [e] at p
  dsimp only at p
  rw [if_neg (by decide), if_neg (by decide), if_pos rfl] at p
  split at p
  · have ex := rs.inv_nil
    subst ex
    obtain ⟨a, vs, rfl, e1, s1, r1⟩ := R.lst ro e
    cases hy : zs[zs.length - 1]? with
    | none => rw [hy] at p; exact p.elim
    | some y =>
      rw [hy] at p
      obtain ⟨y', hy', ry⟩ := r1.get hy
      have hd : RWs (tbX X ca).K ph H zs.dropLast vs.dropLast := by
        rw [List.dropLast_eq_take, List.dropLast_eq_take, ← r1.length]
        exact r1.take _
      exact mt_pop pins s σ H _ _ v _ Q I rx r ⟨a, vs, y', rfl, rfl, s1, by rw [← r1.length]; exact hy', post_set R p e e1 hd fun H' xe => RW.ext xe ry⟩
  · exact p.elim

/-! ### sorted -/
theorem insI_perm (a : Int) : ∀ l : List Int, (insI a l).Perm (a :: l)
  | [] => .refl _
  | b :: r => by
    unfold insI
    split
    · exact .refl _
    · exact ((insI_perm a r).cons b).trans (.swap a b r)
theorem sortI_perm : ∀ l : List Int, (sortI l).Perm l
  | [] => .refl _
  | a :: r => (insI_perm a (sortI r)).trans ((sortI_perm r).cons a)
theorem insI_sorted (a : Int) : ∀ l : List Int, l.Pairwise (· ≤ ·) → (insI a l).Pairwise (· ≤ ·)
  | [], _ => by simp [insI]
  | b :: r, h => by
    unfold insI
    have hb := List.pairwise_cons.mp h
    split
    · rename_i hab
      refine List.pairwise_cons.mpr ⟨fun x hx => ?_, h⟩
      rcases List.mem_cons.mp hx with z | z
      · omega
      · have := hb.1 x z; omega
    · rename_i hab
      refine List.pairwise_cons.mpr ⟨fun x hx => ?_, insI_sorted a r hb.2⟩
      rcases List.mem_cons.mp ((insI_perm a r).mem_iff.mp hx) with z | z
      · omega
      · exact hb.1 x z
theorem sortI_sorted : ∀ l : List Int, (sortI l).Pairwise (· ≤ ·)
  | [] => .nil
  | a :: r => insI_sorted a _ (sortI_sorted r)
theorem sortI_eq {l m : List Int} (h : m.Perm l) (s : m.Pairwise (· ≤ ·)) : m = sortI l :=
  (h.trans (sortI_perm l).symm).eq_of_pairwise (fun a b _ _ h1 h2 => by omega) s (sortI_sorted l)
theorem sortI_down {l m : List Int} (h : m.Perm l) (s : m.Pairwise (· ≥ ·)) : m = (sortI l).reverse := by
  have e : m.reverse = sortI l := sortI_eq ((List.reverse_perm m).trans h) (by rw [List.pairwise_reverse]; exact s)
  rw [← e, List.reverse_reverse]
theorem blt_sorted : CallR X (.builtin "sorted") (rdB (tbX X ca) (bltM "sorted")) := by
  intro pins s σ H xs us Q I r h
  obtain ⟨E, ph, ws, h, R, rs, p⟩ := h
  unfold bltM at p
  rw [if_neg (by decide), if_neg (by decide), if_neg (by decide), if_neg (by decide), if_neg (by decide), if_neg (by decide), if_neg (by decide), if_neg (by decide), if_neg (by decide), if_neg (by decide), if_neg (by decide), if_pos rfl] at p
  split at p
  · obtain ⟨v, rfl, rv⟩ := rs.inv1
    split at p
    · rename_i n ns q
      obtain ⟨zs, e1, e2⟩ := Option.bind_eq_some_iff.mp q
      obtain ⟨a, vs, rfl, _, s1, r1⟩ := R.seqL rv e1
      rw [r1.ints e2] at s1
      exact cr_sortedI pins s σ H _ us Q I r ⟨_, ns, rfl, s1, fun ns' q hp hs hq => by rw [sortI_eq hp hs]; exact post_lst R p (RWs.ofInts _) hq⟩
    · exact p.elim
  · exact p.elim
def rdB2 (T : Tb) (zs0 : List V) (f : List Mv → Mh → Mr Mv) : List V → List V → Hp → VK → Prop := fun xs zs H Q => zs = zs0 ∧ ∃ E : XK, ∃ ph ws h, RelH T ph H h ∧ RWs T.K ph H ws xs ∧ PostV T ph H (f ws h) Q E
theorem blt_sortedD : CallRK X (.builtin "sorted") [Str.ofString "reverse"] (rdB2 (tbX X ca) [.bl true] (bltM "sorted_down")) := by
  intro pins s σ H xs zs us ws' Q I r r2 h
  obtain ⟨ez, E, ph, ws, h, R, rs, p⟩ := h
  unfold bltM at p
  rw [if_neg (by decide), if_neg (by decide), if_neg (by decide), if_neg (by decide), if_neg (by decide), if_neg (by decide), if_neg (by decide), if_neg (by decide), if_neg (by decide), if_neg (by decide), if_neg (by decide), if_neg (by decide), if_pos rfl] at p
  split at p
  · obtain ⟨v, rfl, rv⟩ := rs.inv1
    split at p
    · rename_i n ns q
      obtain ⟨zs, e1, e2⟩ := Option.bind_eq_some_iff.mp q
      obtain ⟨a, vs, rfl, _, s1, r1⟩ := R.seqL rv e1
      rw [r1.ints e2] at s1
      exact cr_sortedRev pins s σ H _ _ us ws' Q I r r2 ⟨_, ns, rfl, ez, s1, fun ns' q hp hs hq => by rw [sortI_down hp hs]; exact post_lst R p (RWs.ofInts _) hq⟩
    · exact p.elim
  · exact p.elim
/-- sorted(e, reverse=True) -/
theorem m_sortD {kws : List Keyword} {kj : Nat} {kp kp2 : Pos} (hk : kws = [⟨some "reverse", .Constant (.bool true) kj kp, kp2⟩]) (hg : Gl X "sorted") (hm : X.mg "sorted" = none) (ha : MA X ca W G [e] ka)
    (he : backTo pos (starEach [e] X.env) = (false, eval e X.env) :: backTo pos (starEach [] X.env) := by rfl) (hpl : (backTo pos (starEach [e] X.env)).any (·.1) = false := by rfl)
    (hall : (backToKw pos (keywordEach kws X.env)).all (·.1.isSome) = true := by rfl) (hnone : (backToKw pos (keywordEach kws X.env)).any (·.1.isNone) = false := by rfl) (hks : (backToKw pos (keywordEach kws X.env)).filterMap (·.1) = [Str.ofString "reverse"] := by rfl) :
    ME X ca W G (.Call (.Name "sorted" p2) [e] kws pos) (.blt "sorted_down" ka) := by
  subst hk
  exact me_of (pe_callBK blt_sortedD hg hm PyProof.Rows.boot_sorted ha (pk_cons pe_bl pk_nil) (by decide) (by decide) he hpl hall hnone hks) fun σ H Q ph fr h RF R p => by
    unfold ev at p
    exact rdA_mono (inA rfl RF R p) fun xs H1 ⟨ph', ws, h', _, _, R', rs, p'⟩ => ⟨rfl, _, ph', ws, h', R', rs, p'⟩

/-! ### sorted(set(tuples)) -/
theorem code_inj {B : Int} : ∀ {k q : List Int}, k.length = q.length → _root_.TS.Bd B k → _root_.TS.Bd B q → _root_.TS.code B k = _root_.TS.code B q → k = q
  | [], [], _, _, _, _ => rfl
  | [], _ :: _, h, _, _, _ => nomatch h
  | _ :: _, [], h, _, _, _ => nomatch h
  | d :: r, e :: q, h, h1, h2, hc => by
    have hl : r.length = q.length := by simpa using h
    have hde : d = e := by
      by_cases h3 : d < e
      · exact absurd hc (Int.ne_of_lt (_root_.TS.code_lt hl h1.tail h2.tail h3))
      · by_cases h4 : e < d
        · exact absurd hc.symm (Int.ne_of_lt (_root_.TS.code_lt hl.symm h2.tail h1.tail h4))
        · omega
    subst hde
    have : _root_.TS.code B r = _root_.TS.code B q := by
      have e1 : d * B ^ r.length + _root_.TS.code B r = d * B ^ q.length + _root_.TS.code B q := hc
      rw [hl] at e1
      omega
    rw [code_inj hl h1.tail h2.tail this]
def Ev (d : Nat) (ks : List (List Int)) : Prop := ∀ k ∈ ks, k.length = d ∧ _root_.TS.Bd 64 k
theorem insK_mem (a : List Int) : ∀ (l : List (List Int)) (x : List Int), x ∈ insK a l ↔ x = a ∨ x ∈ l
  | [], x => by simp [insK]
  | b :: r, x => by
    unfold insK
    split
    · simp
    · split
      · rename_i h; subst h; simp
      · rw [List.mem_cons, insK_mem a r, List.mem_cons]
        constructor
        · rintro (h | h | h)
          · exact .inr (.inl h)
          · exact .inl h
          · exact .inr (.inr h)
        · rintro (h | h | h)
          · exact .inr (.inl h)
          · exact .inl h
          · exact .inr (.inr h)
theorem sortK_mem : ∀ (l : List (List Int)) (x : List Int), x ∈ sortK l ↔ x ∈ l
  | [], x => by simp [sortK]
  | a :: r, x => by unfold sortK; rw [insK_mem, sortK_mem r, List.mem_cons]
theorem insK_srt {d : Nat} (a : List Int) (ha : a.length = d ∧ _root_.TS.Bd 64 a) : ∀ l : List (List Int), Ev d l → l.Pairwise (fun x y => _root_.TS.code 64 x < _root_.TS.code 64 y) → (insK a l).Pairwise (fun x y => _root_.TS.code 64 x < _root_.TS.code 64 y)
  | [], _, _ => by simp [insK]
  | b :: r, he, h => by
    unfold insK
    have hb := List.pairwise_cons.mp h
    split
    · rename_i hab
      refine List.pairwise_cons.mpr ⟨fun x hx => ?_, h⟩
      rcases List.mem_cons.mp hx with z | z
      · rw [z]; exact hab
      · exact Int.lt_trans hab (hb.1 x z)
    · rename_i hab
      split
      · exact h
      · rename_i hne
        refine List.pairwise_cons.mpr ⟨fun x hx => ?_, insK_srt a ha r (fun k hk => he k (List.mem_cons_of_mem _ hk)) hb.2⟩
        rcases (insK_mem a r x).mp hx with z | z
        · rw [z]
          have hb1 := he b (List.mem_cons_self ..)
          have : _root_.TS.code 64 a ≠ _root_.TS.code 64 b := fun z => hne (code_inj (ha.1.trans hb1.1.symm) ha.2 hb1.2 z)
          omega
        · exact hb.1 x z
theorem sortK_srt {d : Nat} : ∀ l : List (List Int), Ev d l → (sortK l).Pairwise (fun x y => _root_.TS.code 64 x < _root_.TS.code 64 y)
  | [], _ => by simp [sortK]
  | a :: r, h => by
    unfold sortK
    exact insK_srt a (h a (List.mem_cons_self ..)) _ (fun k hk => h k (List.mem_cons_of_mem _ ((sortK_mem r k).mp hk))) (sortK_srt r fun k hk => h k (List.mem_cons_of_mem _ hk))
theorem strict_eq {α : Type} (f : α → Int) : ∀ {l m : List α}, l.Pairwise (fun x y => f x < f y) → m.Pairwise (fun x y => f x < f y) → (∀ x, x ∈ l ↔ x ∈ m) → l = m
  | [], [], _, _, _ => rfl
  | [], y :: m, _, _, h => absurd ((h y).mpr (List.mem_cons_self ..)) (by simp)
  | x :: l, [], _, _, h => absurd ((h x).mp (List.mem_cons_self ..)) (by simp)
  | x :: l, y :: m, hl, hm, h => by
    have hl' := List.pairwise_cons.mp hl
    have hm' := List.pairwise_cons.mp hm
    have hxy : x = y := by
      rcases List.mem_cons.mp ((h x).mp (List.mem_cons_self ..)) with z | z
      · exact z
      · rcases List.mem_cons.mp ((h y).mpr (List.mem_cons_self ..)) with z2 | z2
        · exact z2.symm
        · have h1 := hm'.1 x z
          have h2 := hl'.1 y z2
          omega
    subst hxy
    rw [strict_eq f hl'.2 hm'.2 fun z => ?_]
    have hz := h z
    rw [List.mem_cons, List.mem_cons] at hz
    constructor
    · intro k
      rcases hz.mp (.inr k) with q | q
      · have := hl'.1 z k; rw [q] at this; omega
      · exact q
    · intro k
      rcases hz.mpr (.inr k) with q | q
      · have := hm'.1 z k; rw [q] at this; omega
      · exact q
theorem evenB_ok {ks : List (List Int)} (h : evenB ks = true) : ∃ d, 1 ≤ d ∧ Ev d ks := by
  unfold evenB at h
  have bd : ∀ {k : List Int}, bdB 64 k = true → _root_.TS.Bd 64 k := fun {k} hk m hm => by
    unfold bdB at hk
    have := List.all_eq_true.mp hk m hm
    simpa using this
  cases ks with
  | nil => exact ⟨1, Nat.le_refl _, fun k hk => nomatch hk⟩
  | cons k r =>
    dsimp only at h
    simp only [Bool.and_eq_true, decide_eq_true_eq] at h
    obtain ⟨⟨h1, h2⟩, h3⟩ := h
    refine ⟨k.length, h1, fun q hq => ?_⟩
    rcases List.mem_cons.mp hq with z | z
    · rw [z]; exact ⟨rfl, bd h2⟩
    · have := List.all_eq_true.mp h3 q z
      simp only [Bool.and_eq_true, decide_eq_true_eq] at this
      exact ⟨this.1, bd this.2⟩
theorem tups_rel {K : PySem.W.Frag} {ph : List Addr} {H : Hp} : ∀ {ws : List Mv} {vs : List V} {kl : List (List Int)}, RWs K ph H ws vs → tupsI ws = some kl → ∃ ks : List (Addr × List Int), vs = ks.map (fun p => V.ref p.1) ∧ ks.map (·.2) = kl ∧ ∀ p ∈ ks, SqT K H p.1 (p.2.map V.int)
  | [], vs, kl, r, e => by cases e; exact ⟨[], r.inv_nil, rfl, fun p hp => nomatch hp⟩
  | .tup xs :: ws, vs, kl, r, e => by
    obtain ⟨v, t, rfl, r1, r2⟩ := r.inv
    unfold tupsI at e
    cases h1 : intsM xs with
    | none => rw [h1] at e; cases e
    | some ns =>
      cases h2 : tupsI ws with
      | none => rw [h1, h2] at e; cases e
      | some l =>
        rw [h1, h2] at e
        cases e
        obtain ⟨a, us, rfl, s, rs⟩ := r1.i_tup
        obtain ⟨ks, e1, e2, e3⟩ := tups_rel r2 h2
        rw [rs.ints h1] at s
        refine ⟨(a, ns) :: ks, by rw [e1]; rfl, by rw [← e2]; rfl, fun p hp => ?_⟩
        rcases List.mem_cons.mp hp with z | z
        · rw [z]; exact s
        · exact e3 p z
  | .non :: _, _, _, _, e => nomatch e
  | .bl _ :: _, _, _, _, e => nomatch e
  | .int _ :: _, _, _, _, e => nomatch e
  | .str _ :: _, _, _, _, e => nomatch e
  | .frl _ :: _, _, _, _, e => nomatch e
  | .ref _ :: _, _, _, _, e => nomatch e
theorem rws_tups {K : PySem.W.Frag} {ph : List Addr} {H : Hp} : ∀ (ks : List (Addr × List Int)), (∀ p ∈ ks, SqT K H p.1 (p.2.map V.int)) → RWs K ph H ((ks.map (·.2)).map ofInts) (ks.map fun p => V.ref p.1)
  | [], _ => .nil
  | p :: ks, h => .cons (RW.tup (h p (List.mem_cons_self ..)) (RWs.ofInts _)) (rws_tups ks fun q hq => h q (List.mem_cons_of_mem _ hq))
/-- sorted(set(e)) -/
theorem m_sortSet {q1 q2 : Pos} (xg : Xg X ca W lv G fnl) (hg : Gl X "sorted") (hm : X.mg "sorted" = none) (hg2 : Gl X "set") (hm2 : X.mg "set" = none) (ha : ME X ca W G e ka)
    (he2 : starEach [e] X.env = (false, eval e X.env) :: starEach [] X.env := by rfl) (hpl2 : (backTo q1 (starEach [] X.env)).any (·.1) = false := by rfl)
    (he : starEach [.Call (.Name "set" q2) [e] [] q1] X.env = (false, eval (.Call (.Name "set" q2) [e] [] q1) X.env) :: starEach [] X.env := by rfl) (hpl : (backTo pos (starEach [] X.env)).any (·.1) = false := by rfl) :
    ME X ca W G (.Call (.Name "sorted" p2) [.Call (.Name "set" q2) [e] [] q1] [] pos) (.blt "sorted_set" (.acons ka .anil)) :=
  me_of (pe_callB (cr_sortedT xg.calm) hg hm PyProof.Rows.boot_sorted (pa_cons (pe_callTy (cr_setOfT xg.calm xg.room.units) hg2 hm2 PyProof.Rows.boot_set (pa_cons ha pa_nil he2) (by decide) (by decide) he2 hpl2) pa_nil he) (by decide) (by decide) he hpl) fun σ H Q ph fr h RF R p => by
    have e1 : ev G (.blt "sorted_set" (.acons ka .anil)) fr h = (ev G ka fr h).bind fun v h1 => bltM "sorted_set" [v] h1 := by
      show ((Mr.bind _ _).tups.bind _) = _
      rw [Mr.tups_bind, Mr.bind_bind]
      rfl
    rw [e1] at p
    refine rdE_mono (one rfl RF R p) fun v H1 ⟨ph', w, h', _, _, R', rv, p'⟩ => ?_
    unfold bltM at p'
    rw [if_neg (by decide), if_neg (by decide), if_neg (by decide), if_neg (by decide), if_neg (by decide), if_neg (by decide), if_neg (by decide), if_neg (by decide), if_neg (by decide), if_neg (by decide), if_neg (by decide), if_neg (by decide), if_neg (by decide), if_pos rfl] at p'
    split at p'
    · rename_i n ew
      cases ew
      split at p'
      · rename_i kl q
        obtain ⟨zs, e2, e3⟩ := Option.bind_eq_some_iff.mp q
        obtain ⟨a1, vs, rfl, _, s1, r1⟩ := R'.seqL rv e2
        obtain ⟨ks, rfl, rfl, hk⟩ := tups_rel r1 e3
        split at p'
        · rename_i hc
          simp only [Bool.and_eq_true, decide_eq_true_eq, List.length_map] at hc
          obtain ⟨d, hd, hev⟩ := evenB_ok hc.1
          refine ⟨a1, ks, rfl, s1, hk, hc.2, fun s L hs sub all => ?_⟩
          have x2 := ext_fresh (T := tbX X ca) (ph := ph') (u := SetTO X.prog X.w s L) hs
          have hk2 : ∀ p ∈ L, SqT X.K (upd H1 s (SetTO X.prog X.w s L)) p.1 (p.2.map V.int) := fun p hp => (x2.kp _ _).1 (hk p (sub p hp))
          have hev2 : ∀ p ∈ L, p.2.length = d ∧ _root_.TS.Bd 64 p.2 := fun p hp => hev p.2 (List.mem_map_of_mem (sub p hp))
          refine ⟨s, L, d, 64, rfl, upd_same, hk2, hd, hev2, fun L' q pm nd lt pw hq => ?_⟩
          have p3 := Post.ext x2 p'
          have el : L'.map (·.2) = sortK (ks.map (·.2)) := by
            refine strict_eq (fun k => _root_.TS.code 64 k) ?_ (sortK_srt _ hev) fun k => ?_
            · rw [List.pairwise_map]
              have nd2 := nd
              rw [List.nodup_iff_pairwise_ne, List.pairwise_map] at nd2
              refine List.Pairwise.imp_of_mem (fun {a b} ha hb hab => ?_) (List.pairwise_and_iff.mpr ⟨pw, nd2⟩)
              have e1 := hev2 a (pm.mem_iff.mp ha)
              have e2 := hev2 b (pm.mem_iff.mp hb)
              have ne : _root_.TS.code 64 a.2 ≠ _root_.TS.code 64 b.2 := fun z => hab.2 (code_inj (e1.1.trans e2.1.symm) e1.2 e2.2 z)
              have := hab.1
              omega
            · rw [sortK_mem]
              constructor
              · intro h
                obtain ⟨p, hp, rfl⟩ := List.mem_map.mp h
                exact List.mem_map_of_mem (sub p (pm.mem_iff.mp hp))
              · intro h
                obtain ⟨p, hp, rfl⟩ := List.mem_map.mp h
                exact (pm.map (·.2)).mem_iff.mpr (all p hp)
          rw [← el] at p3
          exact post_lst (R'.fresh hs) p3 (rws_tups L' fun p hp => hk2 p (pm.mem_iff.mp hp)) hq
        · exact p'.elim
      · exact p'.elim
    · exact p'.elim

/-! ### calls with names -/
theorem opt_rel {K : PySem.W.Frag} {ph : List Addr} {H : Hp} {ws : List Mv} {vs : List V} (r1 : RWs K ph H ws vs) (i : Nat) : RWs K ph H (ws[i]?).toList (vs[i]?).toList := by
  cases e : ws[i]? with
  | none =>
    have e2 : vs[i]? = none := List.getElem?_eq_none (by rw [← r1.length]; exact List.getElem?_eq_none_iff.mp e)
    rw [e2]; exact .nil
  | some w =>
    obtain ⟨v, e2, rv⟩ := r1.get e
    rw [e2]; exact .cons rv .nil
theorem opt_vals {vs : List V} {us : List Value} (r1 : Vals vs us) (i : Nat) : Vals (vs[i]?).toList (us[i]?).toList := by
  cases e : vs[i]? with
  | none =>
    have e2 : us[i]? = none := List.getElem?_eq_none (by rw [← Paired.length r1]; exact List.getElem?_eq_none_iff.mp e)
    rw [e2]; exact .nil
  | some w =>
    obtain ⟨v, e2, rv⟩ := r1.get e
    rw [e2]; exact .cons rv .nil
theorem pick_rel {K : PySem.W.Frag} {ph : List Addr} {H : Hp} {ws zs : List Mv} {vs us : List V} (r1 : RWs K ph H ws vs) (r2 : RWs K ph H zs us) : ∀ r : List Ar, RWs K ph H (pick ws zs r) (pick vs us r)
  | [] => .nil
  | .p i :: r => (opt_rel r1 i).append (pick_rel r1 r2 r)
  | .k i :: r => (opt_rel r2 i).append (pick_rel r1 r2 r)
theorem pick_vals {vs zs : List V} {us ws : List Value} (r1 : Vals vs us) (r2 : Vals zs ws) : ∀ r : List Ar, Vals (pick vs zs r) (pick us ws r)
  | [] => .nil
  | .p i :: r => (opt_vals r1 i).append (pick_vals r1 r2 r)
  | .k i :: r => (opt_vals r2 i).append (pick_vals r1 r2 r)
theorem run_gk {k : Nat} {f : Addr} {fd : FuncData} {ps ks : List Str} {r : List Ar} {g : List Mv → Mh → Mr Mv} {pins : List (Addr × Obj)} {σ : L2.St} {H : Hp} {s : Shared} {Q : VK} {us ws : List Value} {vs zs : List V} {qs ts : List Mv} {ph : List Addr} {h : Mh} {n : Nat}
    (F : FnG (tbX X ca) k f fd ps (spF (tbX X ca) ps.length g)) (hr : Room k X.A) (gd : X.A.guards = some []) (tk : Takes X W)
    (hb : ∀ us ws : List Value, us.length = n → ws.length = ks.length → bindArgs fd ⟨us, ks.zip ws⟩ = pure (ps.zip (pick us ws r)) ∧ (pick us ws r).length = ps.length) (h1 : us.length = n) (h2 : ws.length = ks.length)
    (I : L2.Inv X pins σ H s) (r1 : Vals vs us) (r2 : Vals zs ws) (R : RelH (tbX X ca) ph H h) (rs : RWs (tbX X ca).K ph H qs vs) (rs2 : RWs (tbX X ca).K ph H ts zs) (p : PostV (tbX X ca) ph H (g (pick qs ts r) h) Q (fun c d H' => W c d σ H')) :
    wpAny (model X.prog X.w) X.A (call (.ref f) us (ks.zip ws)) (EP X pins σ Q) X.xe s := by
  obtain ⟨b1, b2⟩ := hb us ws h1 h2
  refine wpAny_call (codeAny_mono (run_g F hr gd tk (.of_eq b1) b2 I (pick_vals r1 r2 r) R (pick_rel rs rs2 r) p) fun r s' hq => ?_)
  cases r with
  | error e => exact hq
  | ok fl =>
    cases fl with
    | ret u => exact hq
    | _ => exact hq.elim
abbrev MK (X : Cx) (ca : Str → Addr) (W : WX) (G : Sg) (kws : List Keyword) (c : C) : Prop := PK X kws (rdA (tbX X ca) W (fun fr h => (ev G c fr h).tups))
theorem PK.weak {X : Cx} {e : List Keyword} {t t' : TA} (h : PK X e t) (w : ∀ σ H Q, t' σ H Q → t σ H Q) : PK X e t' := ⟨fun pos pins s σ H Q I q => h.run pos pins s σ H Q I (w σ H Q q)⟩
theorem m_knil : MK X ca W G [] .anil := PK.weak pk_nil fun σ H Q ⟨ph, fr, h, RF, R, p⟩ => p ph [] H .refl R .nil
theorem m_kcons {nm : Option Str} {kws : List Keyword} {kpos : Pos} (ha : ME X ca W G e ka) (hr : MK X ca W G kws kb) : MK X ca W G (⟨nm, e, kpos⟩ :: kws) (.acons ka kb) :=
  PK.weak (pk_cons ha hr) fun σ H Q ⟨ph, fr, h, RF, R, p⟩ => by
    unfold ev at p
    dsimp only at p
    rw [Mr.tups_bind] at p
    simp only [tups_cons] at p
    refine rdE_mono (one rfl RF R p) fun x H1 ⟨ph', u, h', _, RF', R', ra, p'⟩ => ?_
    refine rdA_mono (inA rfl RF' R' p') fun xs H2 ⟨ph2, ws, h2, x2, _, R2, rs, p2⟩ => ?_
    exact p2 ph2 _ H2 .refl R2 (.cons (RW.ext x2 ra) rs)
/-- f(e, .., k = v, ..) -/
theorem m_callk {n : Nat} {ks : List Str} {r : List Ar} {kws : List Keyword} (xg : Xg X ca W lv G fnl) (hf : (x, n, ks, r) ∈ fnl.kw) (hn : alen ka = some n) (hn2 : alen kb = some ks.length) (hg : Gl X x) (ha : MA X ca W G (e :: es) ka) (hkw : MK X ca W G kws kb)
    (hall : (backToKw pos (keywordEach kws X.env)).all (·.1.isSome) = true := by rfl) (hks : (backToKw pos (keywordEach kws X.env)).filterMap (·.1) = ks := by rfl) (hdb : (x == ("__debug__" : Str)) = false := by decide)
    (he : starEach (e :: es) X.env = (false, eval e X.env) :: starEach es X.env := by rfl) (hpl : ((backTo pos (starEach (e :: es) X.env)).any (·.1) || (backToKw pos (keywordEach kws X.env)).any (·.1.isNone)) = false := by rfl) :
    ME X ca W G (.Call (.Name x p2) (e :: es) kws pos) (.calk x ka kb r) := by
  obtain ⟨f, fd, ps, hm, hk, F, hb⟩ := xg.tab.kw _ hf
  refine ⟨fun pins s σ H Q I ⟨ph, fr, h, RF, R, p⟩ => ?_⟩
  unfold ev at p
  refine wpAny_Call_Name_kw (ld_glob I hg hm ?_ hdb)
  have q := inAn (ka := ka) (RB := fun p H => RW (tbX X ca).K p H) rfl hn RF R p
  refine PySem.W.callWith_KW (h₀ := X.base) I.ok.mod.kin hk hall (thn (ha.run pos pins s σ H _ I q) fun us s1 hh => ?_) hpl he
  obtain ⟨vs, H1, I1, r1, hl, ph', ws, h', _, RF', R', rs, p'⟩ := hh
  have q2 := inAn (ka := kb) (RB := fun p H => RW (tbX X ca).K p H) rfl hn2 RF' R' p'
  refine thn (hkw.run pos pins s1 σ H1 _ I1 q2) fun us2 s2 hh2 => ?_
  obtain ⟨zs, H2, I2, r2, hl2, ph2, ts, h2, x2, RF2, R2, rs2, p2⟩ := hh2
  refine ⟨I2.kIn, ?_⟩
  rw [hks, List.nil_append]
  exact run_gk F (xg.room.mono (Nat.le_succ _)) xg.gd xg.tk hb (by rw [← Paired.length r1]; exact hl) (by rw [← Paired.length r2]; exact hl2) I2 r1 r2 R2 (RWs.ext x2 rs) rs2 p2
/-- f(k = v, ..) -/
theorem m_callk0 {ks : List Str} {r : List Ar} {kws : List Keyword} (xg : Xg X ca W lv G fnl) (hf : (x, 0, ks, r) ∈ fnl.kw) (hn2 : alen kb = some ks.length) (hg : Gl X x) (hkw : MK X ca W G kws kb)
    (hall : (backToKw pos (keywordEach kws X.env)).all (·.1.isSome) = true := by rfl) (hks : (backToKw pos (keywordEach kws X.env)).filterMap (·.1) = ks := by rfl) (hdb : (x == ("__debug__" : Str)) = false := by decide)
    (hpl : ((backTo pos (starEach [] X.env)).any (·.1) || (backToKw pos (keywordEach kws X.env)).any (·.1.isNone)) = false := by rfl) :
    ME X ca W G (.Call (.Name x p2) [] kws pos) (.calk x .anil kb r) := by
  obtain ⟨f, fd, ps, hm, hk, F, hb⟩ := xg.tab.kw _ hf
  refine ⟨fun pins s σ H Q I ⟨ph, fr, h, RF, R, p⟩ => ?_⟩
  have p' : PostV (tbX X ca) ph H ((ev G kb fr h).tups.bind fun zs h2 => G.ph x (pick [] zs r) h2) Q (fun c d H' => W c d σ H') := p
  refine wpAny_Call_Name_kw (ld_glob I hg hm ?_ hdb)
  have q2 := inAn (ka := kb) (RB := fun p H => RW (tbX X ca).K p H) rfl hn2 RF R p'
  refine PySem.W.callWith_KW0 (h₀ := X.base) I.ok.mod.kin hk hall (thn (hkw.run pos pins s σ H _ I q2) fun us2 s2 hh2 => ?_) hpl
  obtain ⟨zs, H2, I2, r2, hl2, ph2, ts, h2, x2, RF2, R2, rs2, p2⟩ := hh2
  refine ⟨I2.kIn, ?_⟩
  rw [hks, List.nil_append]
  exact run_gk (us := []) (vs := []) (qs := []) F (xg.room.mono (Nat.le_succ _)) xg.gd xg.tk hb rfl (by rw [← Paired.length r2]; exact hl2) I2 .nil r2 R2 .nil rs2 p2
end
end MP

/-! the head: a law's text, level by level -/
namespace MP
open PySem PySem.Spec PyProof.Rows L2
theorem bb_len : bootBuiltins "len" = some (.builtin "len") := by decide +kernel
theorem bb_abs : bootBuiltins "abs" = some (.builtin "abs") := by decide +kernel
theorem bb_max : bootBuiltins "max" = some (.builtin "max") := by decide +kernel
theorem bb_min : bootBuiltins "min" = some (.builtin "min") := by decide +kernel
theorem bb_divmod : bootBuiltins "divmod" = some (.builtin "divmod") := by decide +kernel
theorem bb_sum : bootBuiltins "sum" = some (.builtin "sum") := by decide +kernel
theorem bb_all : bootBuiltins "all" = some (.builtin "all") := by decide +kernel
theorem bb_any : bootBuiltins "any" = some (.builtin "any") := by decide +kernel
theorem bb_sorted : bootBuiltins "sorted" = some (.builtin "sorted") := by decide +kernel
theorem bb_repr : bootBuiltins "repr" = some (.builtin "repr") := by decide +kernel
theorem bb_int : bootBuiltins "int" = some (.type "int") := by decide +kernel
theorem bb_tuple : bootBuiltins "tuple" = some (.type "tuple") := by decide +kernel
theorem bb_list : bootBuiltins "list" = some (.type "list") := by decide +kernel
def visC (sc : Scope) (x : Str) : Bool := match sc.names.lookup x with
  | some .local => true
  | some .cell => true
  | some .free => true
  | _ => false
theorem vis_of {sc : Scope} {x : Str} (h : visC sc x = true) : Vis sc x := by
  unfold visC at h
  unfold Vis
  split at h <;> first | exact .inl (by assumption) | exact .inr (.inl (by assumption)) | exact .inr (.inr (by assumption)) | cases h
def locC (sc : Scope) (x : Str) : Bool := match sc.names.lookup x with
  | some .local => true
  | some .cell => true
  | _ => false
theorem loc_of {sc : Scope} {x : Str} (h : locC sc x = true) : L2.Loc sc x := by
  unfold locC at h
  unfold L2.Loc
  split at h <;> first | exact .inl (by assumption) | exact .inr (by assumption) | cases h
/-- at a def's entry -/
theorem xg_def {T : Tb} {G : Sg} {lv : Nat} {fnl : Tls} (tab : Tk T lv G fnl) {N : List Str} (nd : N.Nodup) {qual : Str} {scope : Scope} {f : Addr} {cd : Value} {A : Around} {outer : List Env} {s : Shared} {H : Hp} {E : XK}
    (hr : Room (lv + 1) (A.deeper (envOfC qual scope s.heap.objs.size f cd))) (hg : (A.deeper (envOfC qual scope s.heap.objs.size f cd)).guards = some []) :
    Xg (cxOf (L2.CX T.P T.w) T.P T.w T.K T.mg T.base N qual scope f cd A outer s H E) T.ca (fun c d _ H => E c d H) lv G fnl :=
  ⟨takes_of rfl rfl rfl rfl, rfl, nd, hr, hg, tab, PassesOwn.leaving⟩
/-- the defs, level by level -/
structure Tx where
  cs : List (Str × Mv)
  defs : List (Str × Nat × S)
  isc : Str → Str → Bool := fun _ _ => false
  prop : Str → Str → Bool := fun _ _ => false
def Tx.ph (t : Tx) : Nat → Str → List Mv → Mh → Mr Mv
  | 0, _, _, _ => .err
  | j + 1, x, ws, h => match t.defs.lookup x with
      | some d => runM { ph := t.ph j, cst := fun x => t.cs.lookup x, prop := t.prop, isc := t.isc } d.1 d.2 ws h
      | none => .err
def Tx.G (t : Tx) (j : Nat) : Sg := { ph := t.ph j, cst := fun x => t.cs.lookup x, prop := t.prop, isc := t.isc }
theorem mem_at {α : Type} {l : List α} {x : α} (i : Nat) (h : l[i]? = some x) : x ∈ l := List.mem_of_getElem? h
def cbody : Stmt → List Stmt
  | .ClassDef _ _ _ b _ _ _ _ _ _ _ => b
  | _ => []
/-- a class of exceptions by its rows in the written part -/
theorem xc_mk {K : PySem.W.Frag} {mg : Str → Option Value} {h : Heap} (X : K.In h) (G : h.Ns mainGlobals mg) {x f : Str} {st : Stmt} {C fI : Addr}
    {nm q : Str} {N : Addr} {bs bm : List Value} {sn : List Str} {sub : List Value} {ab : Bool} {col : Option Bool} {dd : Option Addr} {m0 m1 m2 m3 m5 : Option Value} {od an : Option Addr} {sl : Array (Option Value)} {oc dc pm cd ct : Value} {qual : Str}
    (aC : PySem.W.nsIn K mainGlobals x = some (some (.ref C)))
    (xL : K.lookup C = some (excClassObj nm q C N bs bm true sn sub ab col dd m0 m1 m2 m3 m5 "ValueError.__new__")) (rb : PySem.HandSPX.refsVE bm = true)
    (sa : PySem.W.findIn K (.ref C) "__setattr__" = some (some (.builtin "object.__setattr__"))) (ga : PySem.W.findIn K (.ref C) "__getattribute__" = some (some (.builtin "BaseException.__getattribute__"))) (gg : PySem.W.findIn K (.ref C) "__getattr__" = some none) (nb : PySem.W.findIn K (.ref C) f = some none)
    (iC : PySem.W.findIn K (.ref C) "__init__" = some (some (.ref fI))) (tI : PySem.W.typeIn K (.ref fI) = some (.type "function"))
    (l1 : K.lookup fI = some ⟨oc, od, .func (PySem.W.fnOf "__init__" qual (defArgs st) (defBody st) (defScope st) .none .none dc pm an cd ct), sl⟩) (c1 : PySem.W.codeIn K cd qual = true)
    (kC : PySem.W.keepIn K (.ref C) = true) (eC : PySem.W.subIn K (.ref C) (.type "BaseException") = some true) (tC : PySem.W.typeIn K (.ref C) = some (.type "type")) (hC : PySem.W.hasDictIn K C = true)
    (hbody : ∃ q1 q2 q3 q4, defBody st = [.Assign [.Attribute (.Name "self" q1) f q2] (.Name f q3) q4])
    (hbind : ∀ x v, bindArgs (PySem.W.fnOf "__init__" qual (defArgs st) (defBody st) (defScope st) .none .none dc pm an cd ct) ⟨[x, v], []⟩ = pure [(("self" : Str), x), (f, v)])
    (s1 : (defScope st).kind = .function) (s2 : (defScope st).names.lookup ("self" : Str) = some .local) (s3 : (defScope st).names.lookup f = some .local) (s4 : (f == ("__debug__" : Str)) = false) (s5 : (f == ("self" : Str)) = false) (s6 : (defScope st).isCoroutine = false) (s7 : (defScope st).isGenerator = false) :
    XcT K mg x f C fI := by
  refine ⟨PySem.W.mg_of X G aC, ⟨_, _, _, _, _, _, _, _, _, _, _, _, _, _, _, xL, rb⟩, sa, ga, gg, nb, iC, tI, kC, eC, tC, hC, ?_⟩
  obtain ⟨q1, q2, q3, q4, hbody⟩ := hbody
  rw [hbody] at l1 hbind
  exact ⟨_, _, _, _, _, _, _, _, _, _, _, _, _, _, _, l1, c1, hbind, s1, s2, s3, s4, s5, s6, s7⟩
/-- every def of the text is there, at every level; .. a row for each -/
theorem fnG_err {T : Tb} {f : Addr} {fd : FuncData} {ps : List Str} {n : Nat} {k : Nat} (h : ps.length = n) : FnG T k f fd ps (spF T n fun _ _ => .err) := by
  refine ⟨fun vs H Q E ⟨ph, ws, h', e, _, r, _⟩ => by rw [h, ← r.length]; exact e, fun A outer s H args us vs Q E _ _ _ _ _ ⟨_, _, _, _, _, _, p⟩ => p.elim⟩
theorem law_end {l : PySem.W.OpenLaw} {P : Program} {w : World} {K : PySem.W.Frag} {mg : Str → Option Value} {base : Heap} {ca : Str → Addr} {g : List Mv → Mh → Mr Mv} {H : Hp} {a : Addr} {ns : List Int} (hO : Only H) (hS : SqL K H a (ns.map V.int))
    (h : ∃ m, g [.frl (ns.map .int)] [] = .ok (.bl true) m) : spF ⟨P, w, K, mg, base, ca⟩ 1 g [.ref a] H (fun v _ => v = .bl true) fun _ _ _ => False := by
  obtain ⟨m, e⟩ := h
  refine ⟨[], [.frl (ns.map .int)], [], rfl, ⟨by simp, rfl, fun n o e => by simp at e⟩, .cons (RW.frl ?_ (RWs.ofInts ns)) .nil, ?_⟩
  · rcases hS with (z | ⟨o, z⟩) | z
    · rcases hO a with q | ⟨o, xs, q⟩
      · have z' : H a = some (.lst _) := z
        rw [q] at z'; cases z'
      · have z' : H a = some (.lst _) := z
        rw [q] at z'; cases z'
    · exact .inl ⟨o, z⟩
    · exact .inr (.inr z)
  · rw [e]
    exact fun ph' v H' x R r => r.i_bl
end MP

/-! bodies that several texts share -/
namespace MPB
open PySem MP

abbrev N__law_after : List Str := ["_law_word_here", "_law_i", "_law_a", "_law_b", "_law_c"]
def b__law_after : S :=
  (.seq (.asg (.tup (.acons (.var 2) (.acons (.var 3) (.acons (.var 4) .anil)))) (.slc (.var 0) (.fst (.var 1)) (.fst (.bin .Add (.var 1) (.lit (.int 3))))))
    (.seq (.ite (.chn .Lt .LtE (.blt "min" (.acons (.var 3) (.acons (.var 4) .anil))) (.var 2) (.blt "max" (.acons (.var 3) (.acons (.var 4) .anil)))) (.ret (.bin .Add (.bin .Add (.slc (.var 0) .nop (.fst (.var 1))) (.tup (.acons (.var 2) (.acons (.var 4) (.acons (.var 3) .anil))))) (.slc (.var 0) (.fst (.bin .Add (.var 1) (.lit (.int 3)))) .nop))) .skip)
    (.seq (.ite (.chn .LtE .Lt (.blt "min" (.acons (.var 2) (.acons (.var 3) .anil))) (.var 4) (.blt "max" (.acons (.var 2) (.acons (.var 3) .anil)))) (.ret (.bin .Add (.bin .Add (.slc (.var 0) .nop (.fst (.var 1))) (.tup (.acons (.var 3) (.acons (.var 2) (.acons (.var 4) .anil))))) (.slc (.var 0) (.fst (.bin .Add (.var 1) (.lit (.int 3)))) .nop))) .skip)
    (.ret (.lit .non)))))

abbrev N__law_agrees : List Str := ["_law_told", "_law_sheet"]
def b__law_agrees : S :=
  (.ret (.call "_law_says" (.acons (.var 0) (.acons (.var 1) (.acons (.call "_law_meant" (.acons (.var 0) (.acons (.var 1) .anil))) .anil)))))

abbrev N__law_are_lines : List Str := ["_law_thing", "_law_k", "_law_above", "_law_high", "_law_low", "_law_line"]
def b__law_are_lines : S :=
  (.seq (.ite (.not (.tru (.isi (.var 0) "tuple"))) (.ret (.lit (.bl false))) .skip)
    (.seq (.forr (.var 1) (.it .rng (.acons (.blt "len" (.acons (.var 0) .anil)) .anil)) (.seq (.ite (.or (.not (.tru (.call "_law_is_word" (.acons (.ix (.var 0) (.var 1)) .anil)))) (.or (.cmp .Eq (.ix (.var 0) (.var 1)) (.tup .anil)) (.cmp .NotEq (.blt "list" (.acons (.ix (.var 0) (.var 1)) .anil)) (.blt "sorted" (.acons (.ix (.var 0) (.var 1)) .anil))))) (.ret (.lit (.bl false))) .skip)
    (.seq (.asg (.var 2) (.ife (.cmp .Gt (.var 1) (.lit (.int 0))) (.ix (.var 0) (.bin .Sub (.var 1) (.lit (.int 1)))) (.bin .Mult (.tup (.acons (.lit (.int 0)) .anil)) (.lit (.int 40)))))
    (.ite (.or (.cmp .Gt (.blt "len" (.acons (.ix (.var 0) (.var 1)) .anil)) (.blt "len" (.acons (.var 2) .anil))) (.tru (.blt "any" (.acons (.comp (.cmp .LtE (.var 4) (.var 3)) (.tup (.acons (.var 3) (.acons (.var 4) .anil))) (.it .zip (.acons (.var 2) (.acons (.ix (.var 0) (.var 1)) .anil))) (.lit (.bl true)) [3, 4]) .anil)))) (.ret (.lit (.bl false))) .skip))))
    (.ret (.cmp .LtE (.blt "sum" (.acons (.comp (.blt "len" (.acons (.var 5) .anil)) (.var 5) (.it .itm (.acons (.var 0) .anil)) (.lit (.bl true)) [5]) .anil)) (.lit (.int 40))))))

abbrev N__law_beside : List Str := ["_law_word_here", "_law_found", "_law_i", "_law_later"]
def b__law_beside : S :=
  (.seq (.asg (.var 1) (.lst .anil))
    (.seq (.forr (.var 2) (.it .rng (.acons (.bin .Sub (.blt "len" (.acons (.var 0) .anil)) (.lit (.int 2))) .anil)) (.seq (.asg (.var 3) (.call "_law_after" (.acons (.var 0) (.acons (.var 2) .anil))))
    (.ite (.cmp .IsNot (.var 3) (.lit .non)) (.exp (.mthl (.var 1) "append" (.acons (.tup (.acons (.var 2) (.acons (.var 3) .anil))) .anil))) .skip)))
    (.ret (.var 1))))

abbrev N__law_by_hand : List Str := ["_law_some", "_law_each"]
def b__law_by_hand : S :=
  (.seq (.asg (.var 0) (.lst (.acons (.lst (.acons (.tup (.acons (.lit (.int 2)) (.acons (.lit (.int 1)) (.acons (.lit (.int 3)) .anil)))) (.acons (.tup (.acons (.lit (.int 2)) (.acons (.lit (.int 3)) (.acons (.lit (.int 1)) .anil)))) (.acons (.tup (.acons (.lit (.int 0)) .anil)) (.acons (.lit (.bl true)) .anil))))) (.acons (.lst (.acons (.tup (.acons (.lit (.int 2)) (.acons (.lit (.int 3)) (.acons (.lit (.int 1)) .anil)))) (.acons (.tup (.acons (.lit (.int 2)) (.acons (.lit (.int 1)) (.acons (.lit (.int 3)) .anil)))) (.acons (.tup (.acons (.lit (.int 0)) .anil)) (.acons (.lit (.bl true)) .anil))))) (.acons (.lst (.acons (.tup (.acons (.lit (.int 1)) (.acons (.lit (.int 3)) (.acons (.lit (.int 2)) .anil)))) (.acons (.tup (.acons (.lit (.int 3)) (.acons (.lit (.int 1)) (.acons (.lit (.int 2)) .anil)))) (.acons (.tup (.acons (.lit (.int 0)) .anil)) (.acons (.lit (.bl true)) .anil))))) .anil)))))
    (.seq (.asg (.var 0) (.bin .Add (.var 0) (.lst (.acons (.lst (.acons (.tup (.acons (.lit (.int 3)) (.acons (.lit (.int 1)) (.acons (.lit (.int 2)) .anil)))) (.acons (.tup (.acons (.lit (.int 1)) (.acons (.lit (.int 3)) (.acons (.lit (.int 2)) .anil)))) (.acons (.tup (.acons (.lit (.int 0)) .anil)) (.acons (.lit (.bl true)) .anil))))) (.acons (.lst (.acons (.tup (.acons (.lit (.int 1)) (.acons (.lit (.int 2)) (.acons (.lit (.int 1)) .anil)))) (.acons (.tup (.acons (.lit (.int 2)) (.acons (.lit (.int 1)) (.acons (.lit (.int 1)) .anil)))) (.acons (.tup (.acons (.lit (.int 0)) .anil)) (.acons (.lit (.bl true)) .anil))))) .anil)))))
    (.seq (.exp (.mthl (.var 0) "append" (.acons (.lst (.acons (.tup (.acons (.lit (.int 2)) (.acons (.lit (.int 1)) (.acons (.lit (.int 2)) .anil)))) (.acons (.tup (.acons (.lit (.int 2)) (.acons (.lit (.int 2)) (.acons (.lit (.int 1)) .anil)))) (.acons (.tup (.acons (.lit (.int 0)) .anil)) (.acons (.lit (.bl true)) .anil))))) .anil)))
    (.seq (.asg (.var 0) (.bin .Add (.var 0) (.lst (.acons (.lst (.acons (.tup (.acons (.lit (.int 1)) (.acons (.lit (.int 2)) (.acons (.lit (.int 2)) .anil)))) (.acons (.tup (.acons (.lit (.int 2)) (.acons (.lit (.int 1)) (.acons (.lit (.int 2)) .anil)))) (.acons (.tup (.acons (.lit (.int 0)) .anil)) (.acons (.lit (.bl false)) .anil))))) (.acons (.lst (.acons (.tup (.acons (.lit (.int 1)) (.acons (.lit (.int 2)) (.acons (.lit (.int 1)) .anil)))) (.acons (.tup (.acons (.lit (.int 1)) (.acons (.lit (.int 1)) (.acons (.lit (.int 2)) .anil)))) (.acons (.tup (.acons (.lit (.int 0)) .anil)) (.acons (.lit (.bl false)) .anil))))) (.acons (.lst (.acons (.tup (.acons (.lit (.int 1)) (.acons (.lit (.int 2)) .anil))) (.acons (.tup (.acons (.lit (.int 1)) (.acons (.lit (.int 2)) .anil))) (.acons (.tup .anil) (.acons (.lit (.bl true)) .anil))))) .anil))))))
    (.seq (.asg (.var 0) (.bin .Add (.var 0) (.lst (.acons (.lst (.acons (.tup (.acons (.lit (.int 2)) (.acons (.lit (.int 1)) (.acons (.lit (.int 3)) .anil)))) (.acons (.tup (.acons (.lit (.int 2)) (.acons (.lit (.int 1)) (.acons (.lit (.int 3)) .anil)))) (.acons (.tup (.acons (.lit (.int 0)) (.acons (.lit (.int 0)) .anil))) (.acons (.lit (.bl true)) .anil))))) (.acons (.lst (.acons (.tup (.acons (.lit (.int 2)) (.acons (.lit (.int 1)) (.acons (.lit (.int 3)) .anil)))) (.acons (.tup (.acons (.lit (.int 2)) (.acons (.lit (.int 1)) (.acons (.lit (.int 3)) .anil)))) (.acons (.tup (.acons (.lit (.int 1)) (.acons (.lit (.int 1)) .anil))) (.acons (.lit (.bl false)) .anil))))) (.acons (.lst (.acons (.tup .anil) (.acons (.tup .anil) (.acons (.tup .anil) (.acons (.lit (.bl true)) .anil))))) .anil))))))
    (.seq (.asg (.var 0) (.bin .Add (.var 0) (.lst (.acons (.lst (.acons (.tup (.acons (.lit (.int 2)) (.acons (.lit (.int 1)) (.acons (.lit (.int 3)) .anil)))) (.acons (.tup (.acons (.lit (.int 2)) (.acons (.lit (.int 3)) (.acons (.lit (.int 1)) .anil)))) (.acons (.tup (.acons (.neg (.lit (.int 1))) .anil)) (.acons (.lit (.bl false)) .anil))))) (.acons (.lst (.acons (.tup (.acons (.lit (.int 2)) (.acons (.lit (.int 1)) (.acons (.lit (.int 3)) .anil)))) (.acons (.tup (.acons (.lit (.int 2)) (.acons (.lit (.int 3)) (.acons (.lit (.int 1)) .anil)))) (.acons (.tup (.acons (.lit (.bl false)) .anil)) (.acons (.lit (.bl false)) .anil))))) .anil)))))
    (.seq (.exp (.mthl (.var 0) "append" (.acons (.lst (.acons (.tup (.acons (.lit (.int 1)) .anil)) (.acons (.tup (.acons (.lit (.int 2)) .anil)) (.acons (.tup .anil) (.acons (.lit (.bl false)) .anil))))) .anil)))
    (.ret (.cmp .Eq (.comp (.call "holds" (.acons (.tup (.acons (.lit (.str (PySem.Str.ofString "alike"))) (.acons (.ix (.var 1) (.lit (.int 0))) (.acons (.ix (.var 1) (.lit (.int 1))) .anil)))) (.acons (.ix (.var 1) (.lit (.int 2))) .anil))) (.var 1) (.it .itm (.acons (.var 0) .anil)) (.lit (.bl true)) [1]) (.comp (.ix (.var 1) (.lit (.int 3))) (.var 1) (.it .itm (.acons (.var 0) .anil)) (.lit (.bl true)) [1]))))))))))

abbrev N__law_by_hand_2 : List Str := ["_law_up", "_law_low", "_law_some", "_law_each"]
def b__law_by_hand_2 : S :=
  (.seq (.asg (.tup (.acons (.var 0) (.acons (.var 1) .anil))) (.tup (.acons (.tup (.acons (.lit (.int 1)) (.acons (.lit (.int 2)) .anil))) (.acons (.tup (.acons (.lit (.int 2)) (.acons (.lit (.int 1)) .anil))) .anil))))
    (.seq (.asg (.var 2) (.lst (.acons (.lst (.acons (.var 1) (.acons (.var 0) (.acons (.tup (.acons (.lit (.int 1)) (.acons (.lit (.int 2)) (.acons (.lit (.int 1)) (.acons (.tup (.acons (.tup (.acons (.lit (.int 0)) (.acons (.lit (.int 1)) .anil))) .anil)) (.acons (.tup (.acons (.tup (.acons (.lit (.int 0)) (.acons (.lit (.int 1)) .anil))) .anil)) .anil)))))) (.acons (.lit (.bl true)) .anil))))) (.acons (.lst (.acons (.var 0) (.acons (.var 1) (.acons (.tup (.acons (.lit (.int 0)) (.acons (.lit (.int 2)) (.acons (.lit (.int 1)) (.acons (.tup (.acons (.tup (.acons (.lit (.int 0)) (.acons (.lit (.int 1)) .anil))) .anil)) (.acons (.tup (.acons (.tup (.acons (.lit (.int 0)) (.acons (.lit (.int 1)) .anil))) .anil)) .anil)))))) (.acons (.lit (.bl true)) .anil))))) .anil))))
    (.seq (.asg (.var 2) (.bin .Add (.var 2) (.lst (.acons (.lst (.acons (.var 1) (.acons (.var 0) (.acons (.tup (.acons (.lit (.int 0)) (.acons (.lit (.int 2)) (.acons (.lit (.int 1)) (.acons (.tup (.acons (.tup (.acons (.lit (.int 0)) .anil)) .anil)) (.acons (.tup (.acons (.tup (.acons (.lit (.int 0)) (.acons (.lit (.int 1)) .anil))) .anil)) .anil)))))) (.acons (.lit (.bl false)) .anil))))) (.acons (.lst (.acons (.var 1) (.acons (.var 0) (.acons (.tup (.acons (.lit (.int 1)) (.acons (.lit (.int 9)) (.acons (.lit (.int 1)) (.acons (.tup (.acons (.tup (.acons (.lit (.int 0)) (.acons (.lit (.int 1)) .anil))) .anil)) (.acons (.tup (.acons (.tup (.acons (.lit (.int 0)) (.acons (.lit (.int 1)) .anil))) .anil)) .anil)))))) (.acons (.lit (.bl true)) .anil))))) .anil)))))
    (.seq (.asg (.var 2) (.bin .Add (.var 2) (.lst (.acons (.lst (.acons (.var 1) (.acons (.var 0) (.acons (.tup (.acons (.lit (.int 1)) (.acons (.lit (.int 1)) (.acons (.lit (.int 1)) (.acons (.tup (.acons (.tup (.acons (.lit (.int 0)) (.acons (.lit (.int 1)) .anil))) .anil)) (.acons (.tup (.acons (.tup (.acons (.lit (.int 0)) (.acons (.lit (.int 1)) .anil))) .anil)) .anil)))))) (.acons (.lit (.bl false)) .anil))))) (.acons (.lst (.acons (.var 1) (.acons (.var 0) (.acons (.tup (.acons (.lit (.int 1)) (.acons (.lit (.int 2)) (.acons (.lit (.int 1)) (.acons (.tup (.acons (.tup (.acons (.lit (.int 0)) (.acons (.lit (.int 1)) .anil))) .anil)) (.acons (.tup .anil) .anil)))))) (.acons (.lit (.bl false)) .anil))))) .anil)))))
    (.seq (.asg (.var 2) (.bin .Add (.var 2) (.lst (.acons (.lst (.acons (.var 1) (.acons (.var 0) (.acons (.tup (.acons (.lit (.int 1)) (.acons (.lit (.int 2)) (.acons (.lit (.int 0)) (.acons (.tup (.acons (.tup (.acons (.lit (.int 0)) (.acons (.lit (.int 1)) .anil))) .anil)) (.acons (.tup (.acons (.tup (.acons (.lit (.int 0)) (.acons (.lit (.int 1)) .anil))) .anil)) .anil)))))) (.acons (.lit (.bl false)) .anil))))) (.acons (.lst (.acons (.tup (.acons (.lit (.int 1)) .anil)) (.acons (.tup .anil) (.acons (.tup (.acons (.lit (.int 0)) (.acons (.lit (.int 1)) (.acons (.lit (.int 1)) (.acons (.tup (.acons (.tup (.acons (.lit (.int 0)) .anil)) .anil)) (.acons (.tup .anil) .anil)))))) (.acons (.lit (.bl true)) .anil))))) .anil)))))
    (.seq (.asg (.var 2) (.bin .Add (.var 2) (.lst (.acons (.lst (.acons (.tup (.acons (.lit (.int 1)) .anil)) (.acons (.tup .anil) (.acons (.tup (.acons (.lit (.int 1)) (.acons (.lit (.int 1)) (.acons (.lit (.int 1)) (.acons (.tup .anil) (.acons (.tup .anil) .anil)))))) (.acons (.lit (.bl false)) .anil))))) (.acons (.lst (.acons (.tup (.acons (.lit (.int 3)) (.acons (.lit (.int 1)) (.acons (.lit (.int 2)) .anil)))) (.acons (.tup (.acons (.lit (.int 3)) (.acons (.lit (.int 2)) (.acons (.lit (.int 1)) .anil)))) (.acons (.tup (.acons (.lit (.int 0)) (.acons (.lit (.int 2)) (.acons (.lit (.int 1)) (.acons (.tup (.acons (.tup (.acons (.lit (.int 0)) (.acons (.lit (.int 1)) .anil))) .anil)) (.acons (.tup (.acons (.tup (.acons (.lit (.int 0)) (.acons (.lit (.int 1)) .anil))) .anil)) .anil)))))) (.acons (.lit (.bl true)) .anil))))) .anil)))))
    (.seq (.asg (.var 2) (.bin .Add (.var 2) (.lst (.acons (.lst (.acons (.tup (.acons (.lit (.int 2)) (.acons (.lit (.int 2)) .anil))) (.acons (.tup (.acons (.lit (.int 2)) .anil)) (.acons (.tup (.acons (.lit (.int 0)) (.acons (.lit (.int 2)) (.acons (.lit (.int 2)) (.acons (.tup (.acons (.tup (.acons (.lit (.int 0)) .anil)) (.acons (.tup (.acons (.lit (.int 0)) .anil)) .anil))) (.acons (.tup (.acons (.tup (.acons (.lit (.int 0)) .anil)) .anil)) .anil)))))) (.acons (.lit (.bl false)) .anil))))) .anil))))
    (.seq (.exp (.mthl (.var 2) "append" (.acons (.lst (.acons (.var 1) (.acons (.var 0) (.acons (.tup (.acons (.lit (.bl true)) (.acons (.lit (.int 2)) (.acons (.lit (.int 1)) (.acons (.tup (.acons (.tup (.acons (.lit (.int 0)) (.acons (.lit (.int 1)) .anil))) .anil)) (.acons (.tup (.acons (.tup (.acons (.lit (.int 0)) (.acons (.lit (.int 1)) .anil))) .anil)) .anil)))))) (.acons (.lit (.bl false)) .anil))))) .anil)))
    (.ret (.cmp .Eq (.comp (.call "holds" (.acons (.tup (.acons (.lit (.str (PySem.Str.ofString "unlike"))) (.acons (.ix (.var 3) (.lit (.int 0))) (.acons (.ix (.var 3) (.lit (.int 1))) .anil)))) (.acons (.ix (.var 3) (.lit (.int 2))) .anil))) (.var 3) (.it .itm (.acons (.var 2) .anil)) (.lit (.bl true)) [3]) (.comp (.ix (.var 3) (.lit (.int 3))) (.var 3) (.it .itm (.acons (.var 2) .anil)) (.lit (.bl true)) [3])))))))))))

abbrev N__law_by_hand_3 : List Str := ["_law_some", "_law_each"]
def b__law_by_hand_3 : S :=
  (.seq (.asg (.var 0) (.lst (.acons (.lst (.acons (.tup (.acons (.lit (.int 1)) (.acons (.lit (.int 2)) .anil))) (.acons (.tup (.acons (.tup (.acons (.lit (.int 1)) (.acons (.lit (.int 2)) .anil))) .anil)) (.acons (.tup .anil) (.acons (.lit (.bl true)) .anil))))) (.acons (.lst (.acons (.tup (.acons (.lit (.int 2)) (.acons (.lit (.int 1)) .anil))) (.acons (.tup (.acons (.tup (.acons (.lit (.int 1)) .anil)) (.acons (.tup (.acons (.lit (.int 2)) .anil)) .anil))) (.acons (.tup .anil) (.acons (.lit (.bl true)) .anil))))) (.acons (.lst (.acons (.tup (.acons (.lit (.int 2)) (.acons (.lit (.int 1)) .anil))) (.acons (.tup (.acons (.tup (.acons (.lit (.int 2)) .anil)) (.acons (.tup (.acons (.lit (.int 1)) .anil)) .anil))) (.acons (.tup .anil) (.acons (.lit (.bl false)) .anil))))) .anil)))))
    (.seq (.asg (.var 0) (.bin .Add (.var 0) (.comp (.lst (.acons (.tup (.acons (.lit (.int 2)) (.acons (.lit (.int 1)) (.acons (.lit (.int 3)) (.acons (.lit (.int 1)) (.acons (.lit (.int 2)) .anil)))))) (.acons (.tup (.acons (.tup (.acons (.lit (.int 1)) (.acons (.lit (.int 1)) (.acons (.lit (.int 2)) .anil)))) (.acons (.tup (.acons (.lit (.int 2)) (.acons (.lit (.int 3)) .anil))) .anil))) (.acons (.var 1) (.acons (.cmp .Eq (.var 1) (.tup (.acons (.lit (.int 0)) .anil))) .anil))))) (.var 1) (.it .itm (.acons (.lst (.acons (.tup (.acons (.lit (.int 0)) .anil)) (.acons (.tup .anil) .anil))) .anil)) (.lit (.bl true)) [1])))
    (.seq (.asg (.var 0) (.bin .Add (.var 0) (.lst (.acons (.lst (.acons (.tup .anil) (.acons (.tup .anil) (.acons (.tup .anil) (.acons (.lit (.bl true)) .anil))))) (.acons (.lst (.acons (.tup .anil) (.acons (.tup (.acons (.tup .anil) .anil)) (.acons (.tup .anil) (.acons (.lit (.bl false)) .anil))))) (.acons (.lst (.acons (.tup (.acons (.lit (.int 1)) (.acons (.lit (.int 2)) .anil))) (.acons (.lst (.acons (.tup (.acons (.lit (.int 1)) (.acons (.lit (.int 2)) .anil))) .anil)) (.acons (.tup .anil) (.acons (.lit (.bl false)) .anil))))) .anil))))))
    (.seq (.exp (.mthl (.var 0) "append" (.acons (.lst (.acons (.tup (.acons (.lit (.int 1)) (.acons (.lit (.int 2)) .anil))) (.acons (.tup (.acons (.lst (.acons (.lit (.int 1)) (.acons (.lit (.int 2)) .anil))) .anil)) (.acons (.tup .anil) (.acons (.lit (.bl false)) .anil))))) .anil)))
    (.seq (.asg (.var 0) (.bin .Add (.var 0) (.lst (.acons (.lst (.acons (.tup (.acons (.lit (.int 2)) (.acons (.lit (.int 1)) (.acons (.lit (.int 3)) .anil)))) (.acons (.tup (.acons (.tup (.acons (.lit (.int 1)) .anil)) (.acons (.tup (.acons (.lit (.int 2)) .anil)) (.acons (.tup (.acons (.lit (.int 3)) .anil)) .anil)))) (.acons (.tup .anil) (.acons (.lit (.bl false)) .anil))))) (.acons (.lst (.acons (.tup (.acons (.lit (.int 2)) (.acons (.lit (.int 1)) (.acons (.lit (.int 3)) .anil)))) (.acons (.tup (.acons (.tup (.acons (.lit (.int 1)) (.acons (.lit (.int 3)) .anil))) (.acons (.tup (.acons (.lit (.int 2)) .anil)) .anil))) (.acons (.tup .anil) (.acons (.lit (.bl true)) .anil))))) .anil)))))
    (.seq (.asg (.var 0) (.bin .Add (.var 0) (.lst (.acons (.lst (.acons (.tup (.acons (.lit (.int 2)) (.acons (.lit (.int 3)) (.acons (.lit (.int 1)) .anil)))) (.acons (.tup (.acons (.tup (.acons (.lit (.int 1)) (.acons (.lit (.int 3)) .anil))) (.acons (.tup (.acons (.lit (.int 2)) .anil)) .anil))) (.acons (.tup (.acons (.lit (.int 0)) .anil)) (.acons (.lit (.bl true)) .anil))))) (.acons (.lst (.acons (.tup (.acons (.lit (.int 2)) (.acons (.lit (.int 1)) (.acons (.lit (.int 2)) .anil)))) (.acons (.tup (.acons (.tup (.acons (.lit (.int 1)) (.acons (.lit (.int 2)) .anil))) (.acons (.tup (.acons (.lit (.int 2)) .anil)) .anil))) (.acons (.tup .anil) (.acons (.lit (.bl true)) .anil))))) .anil)))))
    (.ret (.cmp .Eq (.comp (.call "holds" (.acons (.tup (.acons (.lit (.str (PySem.Str.ofString "table"))) (.acons (.ix (.var 1) (.lit (.int 0))) (.acons (.ix (.var 1) (.lit (.int 1))) .anil)))) (.acons (.ix (.var 1) (.lit (.int 2))) .anil))) (.var 1) (.it .itm (.acons (.var 0) .anil)) (.lit (.bl true)) [1]) (.comp (.ix (.var 1) (.lit (.int 3))) (.var 1) (.it .itm (.acons (.var 0) .anil)) (.lit (.bl true)) [1])))))))))

abbrev N__law_by_hand_4 : List Str := ["_law_some", "_law_each"]
def b__law_by_hand_4 : S :=
  (.seq (.asg (.var 0) (.lst (.acons (.lst (.acons (.tup .anil) (.acons (.lit (.int 1)) (.acons (.lit (.bl true)) .anil)))) (.acons (.lst (.acons (.bin .Mult (.tup (.acons (.lit (.int 5)) .anil)) (.lit (.int 40))) (.acons (.lit (.int 1)) (.acons (.lit (.bl true)) .anil)))) (.acons (.lst (.acons (.tup (.acons (.lit (.int 9)) (.acons (.lit (.int 8)) (.acons (.lit (.int 7)) (.acons (.lit (.int 6)) (.acons (.lit (.int 5)) (.acons (.lit (.int 4)) (.acons (.lit (.int 3)) (.acons (.lit (.int 2)) (.acons (.lit (.int 1)) .anil)))))))))) (.acons (.lit (.int 1)) (.acons (.lit (.bl true)) .anil)))) (.acons (.lst (.acons (.tup (.acons (.lit (.int 2)) (.acons (.lit (.int 1)) (.acons (.lit (.int 3)) .anil)))) (.acons (.lit (.int 2)) (.acons (.lit (.bl true)) .anil)))) .anil))))))
    (.seq (.asg (.var 0) (.bin .Add (.var 0) (.lst (.acons (.lst (.acons (.tup (.acons (.lit (.int 2)) (.acons (.lit (.int 1)) (.acons (.lit (.int 3)) .anil)))) (.acons (.lit (.int 1)) (.acons (.lit (.bl false)) .anil)))) (.acons (.lst (.acons (.tup (.acons (.lit (.int 3)) (.acons (.lit (.int 1)) (.acons (.lit (.int 2)) (.acons (.lit (.int 3)) .anil))))) (.acons (.lit (.int 3)) (.acons (.lit (.bl true)) .anil)))) (.acons (.lst (.acons (.bin .Mult (.tup (.acons (.lit (.int 2)) (.acons (.lit (.int 1)) .anil))) (.lit (.int 2))) (.acons (.lit (.int 2)) (.acons (.lit (.bl true)) .anil)))) (.acons (.lst (.acons (.bin .Add (.tup (.acons (.lit (.int 2)) .anil)) (.bin .Mult (.tup (.acons (.lit (.int 1)) .anil)) (.lit (.int 39)))) (.acons (.lit (.int 39)) (.acons (.lit (.bl true)) .anil)))) .anil)))))))
    (.seq (.asg (.var 0) (.bin .Add (.var 0) (.lst (.acons (.lst (.acons (.tup (.acons (.lit (.int 2)) (.acons (.lit (.int 1)) (.acons (.lit (.int 3)) (.acons (.lit (.int 1)) (.acons (.lit (.int 2)) .anil)))))) (.acons (.lit (.int 5)) (.acons (.lit (.bl true)) .anil)))) (.acons (.lst (.acons (.tup (.acons (.lit (.int 2)) (.acons (.lit (.int 1)) (.acons (.lit (.int 3)) .anil)))) (.acons (.neg (.lit (.int 2))) (.acons (.lit (.bl false)) .anil)))) (.acons (.lst (.acons (.tup (.acons (.lit (.int 2)) (.acons (.lit (.int 1)) (.acons (.lit (.int 3)) .anil)))) (.acons (.lit (.bl true)) (.acons (.lit (.bl false)) .anil)))) (.acons (.lst (.acons (.tup (.acons (.lit (.int 1)) .anil)) (.acons (.lit (.bl true)) (.acons (.lit (.bl false)) .anil)))) .anil)))))))
    (.ret (.cmp .Eq (.comp (.call "holds" (.acons (.tup (.acons (.lit (.str (PySem.Str.ofString "class"))) (.acons (.ix (.var 1) (.lit (.int 0))) (.acons (.ix (.var 1) (.lit (.int 1))) .anil)))) (.acons (.tup .anil) .anil))) (.var 1) (.it .itm (.acons (.var 0) .anil)) (.lit (.bl true)) [1]) (.comp (.ix (.var 1) (.lit (.int 2))) (.var 1) (.it .itm (.acons (.var 0) .anil)) (.lit (.bl true)) [1]))))))

abbrev N__law_by_hand_5 : List Str := ["_law_ten", "_law_more", "_law_some", "_law_size", "_law_each"]
def b__law_by_hand_5 : S :=
  (.seq (.asg (.tup (.acons (.var 0) (.acons (.var 1) .anil))) (.tup (.acons (.bin .Mult (.tup (.acons (.lit (.int 1)) .anil)) (.lit (.int 10))) (.acons (.bin .Mult (.tup (.acons (.lit (.int 1)) .anil)) (.lit (.int 11))) .anil))))
    (.seq (.asg (.var 2) (.bin .Add (.comp (.lst (.acons (.tup (.acons (.lit (.int 2)) (.acons (.lit (.int 3)) (.acons (.lit (.int 1)) (.acons (.lit (.int 1)) (.acons (.lit (.int 2)) .anil)))))) (.acons (.tup (.acons (.lit (.int 1)) (.acons (.lit (.int 2)) (.acons (.lit (.int 3)) (.acons (.lit (.int 1)) (.acons (.lit (.int 2)) .anil)))))) (.acons (.var 3) (.acons (.cmp .Eq (.var 3) (.lit (.int 4))) .anil))))) (.var 3) (.it .itm (.acons (.lst (.acons (.lit (.int 4)) (.acons (.lit (.int 5)) .anil))) .anil)) (.lit (.bl true)) [3]) (.lst (.acons (.lst (.acons (.var 0) (.acons (.var 0) (.acons (.lit (.int 0)) (.acons (.lit (.bl true)) .anil))))) .anil))))
    (.seq (.asg (.var 2) (.bin .Add (.var 2) (.lst (.acons (.lst (.acons (.var 1) (.acons (.var 1) (.acons (.lit (.int 0)) (.acons (.lit (.bl false)) .anil))))) (.acons (.lst (.acons (.bin .Add (.tup (.acons (.lit (.int 2)) .anil)) (.bin .Mult (.tup (.acons (.lit (.int 1)) .anil)) (.lit (.int 9)))) (.acons (.bin .Add (.bin .Mult (.tup (.acons (.lit (.int 1)) .anil)) (.lit (.int 8))) (.tup (.acons (.lit (.int 2)) (.acons (.lit (.int 1)) .anil)))) (.acons (.lit (.int 8)) (.acons (.lit (.bl true)) .anil))))) (.acons (.lst (.acons (.tup .anil) (.acons (.tup .anil) (.acons (.lit (.int 0)) (.acons (.lit (.bl true)) .anil))))) .anil))))))
    (.seq (.asg (.var 2) (.bin .Add (.var 2) (.lst (.acons (.lst (.acons (.bin .Add (.tup (.acons (.lit (.int 2)) .anil)) (.bin .Mult (.tup (.acons (.lit (.int 1)) .anil)) (.lit (.int 10)))) (.acons (.bin .Add (.bin .Mult (.tup (.acons (.lit (.int 1)) .anil)) (.lit (.int 9))) (.tup (.acons (.lit (.int 2)) (.acons (.lit (.int 1)) .anil)))) (.acons (.lit (.int 9)) (.acons (.lit (.bl false)) .anil))))) (.acons (.lst (.acons (.tup (.acons (.lit (.int 1)) (.acons (.lit (.int 2)) .anil))) (.acons (.tup (.acons (.lit (.int 2)) (.acons (.lit (.int 1)) .anil))) (.acons (.lit (.int 0)) (.acons (.lit (.bl false)) .anil))))) .anil)))))
    (.seq (.exp (.mthl (.var 2) "append" (.acons (.lst (.acons (.tup (.acons (.lit (.int 1)) (.acons (.lit (.int 2)) .anil))) (.acons (.tup (.acons (.lit (.int 1)) (.acons (.lit (.int 2)) (.acons (.lit (.int 2)) .anil)))) (.acons (.lit (.int 0)) (.acons (.lit (.bl false)) .anil))))) .anil)))
    (.seq (.asg (.var 2) (.bin .Add (.var 2) (.comp (.lst (.acons (.tup (.acons (.lit (.int 2)) (.acons (.lit (.int 1)) (.acons (.lit (.int 3)) .anil)))) (.acons (.tup (.acons (.lit (.int 2)) (.acons (.lit (.int 3)) (.acons (.lit (.int 1)) .anil)))) (.acons (.var 3) (.acons (.cmp .Eq (.blt "repr" (.acons (.var 3) .anil)) (.lit (.str (PySem.Str.ofString "1")))) .anil))))) (.var 3) (.it .itm (.acons (.lst (.acons (.lit (.int 1)) (.acons (.lit (.bl true)) (.acons (.neg (.lit (.int 1))) (.acons (.lit (.int 0)) .anil))))) .anil)) (.lit (.bl true)) [3])))
    (.ret (.cmp .Eq (.comp (.call "holds" (.acons (.tup (.acons (.lit (.str (PySem.Str.ofString "apart"))) (.acons (.ix (.var 4) (.lit (.int 0))) (.acons (.ix (.var 4) (.lit (.int 1))) (.acons (.ix (.var 4) (.lit (.int 2))) .anil))))) (.acons (.tup .anil) .anil))) (.var 4) (.it .itm (.acons (.var 2) .anil)) (.lit (.bl true)) [4]) (.comp (.ix (.var 4) (.lit (.int 3))) (.var 4) (.it .itm (.acons (.var 2) .anil)) (.lit (.bl true)) [4])))))))))

abbrev N__law_by_hand_7 : List Str := ["_law_some", "_law_said"]
def b__law_by_hand_7 : S :=
  (.seq (.asg (.var 0) (.lst (.acons (.tup .anil) (.acons (.tup (.acons (.lit (.int 1)) .anil)) (.acons (.tup (.acons (.lit (.int 1)) (.acons (.lit (.int 1)) (.acons (.lit (.int 2)) (.acons (.lit (.int 9)) .anil))))) (.acons (.tup (.acons (.lit (.int 9)) (.acons (.lit (.int 5)) (.acons (.lit (.int 1)) .anil)))) (.acons (.tup (.acons (.lit (.int 2)) (.acons (.lit (.int 3)) (.acons (.lit (.int 1)) (.acons (.lit (.int 1)) (.acons (.lit (.int 2)) .anil)))))) (.acons (.bin .Mult (.tup (.acons (.lit (.int 1)) .anil)) (.lit (.int 40))) (.acons (.tup (.acons (.lit (.int 1)) (.acons (.lit (.int 2)) (.acons (.lit (.int 1)) .anil)))) (.acons (.tup (.acons (.lit (.int 3)) (.acons (.lit (.int 1)) (.acons (.lit (.int 2)) .anil)))) (.acons (.bin .Mult (.tup (.acons (.lit (.int 9)) (.acons (.lit (.int 1)) .anil))) (.lit (.int 20))) .anil)))))))))))
    (.ret (.blt "all" (.acons (.comp (.call "_law_right_one" (.acons (.var 1) .anil)) (.var 1) (.it .itm (.acons (.var 0) .anil)) (.lit (.bl true)) [1]) .anil))))

abbrev N__law_dip : List Str := ["_law_well_here", "_law_many", "_law_digit", "_law_deep"]
def b__law_dip : S :=
  (.seq (.asg (.ix (.var 0) (.lit (.int 2))) (.bin .Add (.ix (.var 0) (.lit (.int 2))) (.lit (.int 1))))
    (.seq (.asg (.ix (.var 0) (.lit (.int 1))) (.bin .Mod (.blt "int" (.acons (.bin .Add (.bin .Add (.bin .Mult (.ix (.var 0) (.lit (.int 1))) (.lit (.int 50023))) (.bin .Mult (.lit (.int 19009)) (.ix (.var 0) (.lit (.int 2))))) (.lit (.int 11))) .anil)) (.lit (.int 2147483497))))
    (.seq (.ite (.cmp .Gt (.ix (.var 0) (.lit (.int 0))) (.lit (.int 0))) (.seq (.asg (.tup (.acons (.ix (.var 0) (.lit (.int 0))) (.acons (.var 2) .anil))) (.blt "divmod" (.acons (.blt "int" (.acons (.ix (.var 0) (.lit (.int 0))) .anil)) (.acons (.var 1) .anil))))
    (.ret (.var 2))) .skip)
    (.seq (.asg (.var 3) (.bin .Mod (.blt "int" (.acons (.bin .Add (.bin .Mult (.ix (.var 0) (.lit (.int 1))) (.bin .Add (.ix (.var 0) (.lit (.int 1))) (.bin .Mult (.lit (.int 5)) (.ix (.var 0) (.lit (.int 2)))))) (.lit (.int 7013))) .anil)) (.lit (.int 2147483423))))
    (.ret (.bin .Mod (.blt "int" (.acons (.bin .FloorDiv (.var 3) (.lit (.int 2048))) .anil)) (.var 1)))))))

abbrev N__law_drawn : List Str := ["_law_well_here", "_law_most_now", "_law_top", "_law_k"]
def b__law_drawn : S :=
  (.seq (.asg (.var 2) (.call "_law_one" (.acons (.var 0) (.acons (.lst (.acons (.lit (.int 2)) (.acons (.lit (.int 3)) (.acons (.lit (.int 4)) (.acons (.lit (.int 9)) .anil))))) .anil))))
    (.ret (.blt "tuple" (.acons (.comp (.bin .Add (.lit (.int 1)) (.call "_law_dip" (.acons (.var 0) (.acons (.var 2) .anil)))) (.var 3) (.it .rng (.acons (.call "_law_dip" (.acons (.var 0) (.acons (.bin .Add (.var 1) (.lit (.int 1))) .anil))) .anil)) (.lit (.bl true)) [3]) .anil))))

abbrev N__law_goes : List Str := ["_law_last", "_law_letter", "_law_is_rise"]
def b__law_goes : S :=
  (.ret (.ife (.tru (.var 2)) (.cmp .LtE (.var 0) (.var 1)) (.cmp .Gt (.var 0) (.var 1))))

abbrev N__law_hooks : List Str := ["_law_lines_here", "_law_top", "_law_low", "_law_sizes", "_law_line", "_law_k", "_law_j", "_law_size"]
def b__law_hooks : S :=
  (.seq (.asg (.tup (.acons (.var 1) (.acons (.var 2) (.acons (.var 3) .anil)))) (.tup (.acons (.lit (.int 1)) (.acons (.lit (.int 1)) (.acons (.comp (.blt "len" (.acons (.var 4) .anil)) (.var 4) (.it .itm (.acons (.var 0) .anil)) (.lit (.bl true)) [4]) .anil)))))
    (.seq (.forr (.var 5) (.it .rng (.acons (.blt "sum" (.acons (.var 3) .anil)) .anil)) (.asg (.var 1) (.bin .Mult (.var 1) (.bin .Add (.var 5) (.lit (.int 1))))))
    (.seq (.forr (.var 5) (.it .rng (.acons (.blt "len" (.acons (.var 3) .anil)) .anil)) (.forr (.var 6) (.it .rng (.acons (.ix (.var 3) (.var 5)) .anil)) (.asg (.var 2) (.bin .Mult (.var 2) (.bin .Add (.bin .Sub (.ix (.var 3) (.var 5)) (.var 6)) (.blt "len" (.acons (.comp (.var 7) (.var 7) (.it .itm (.acons (.slc (.var 3) (.fst (.bin .Add (.var 5) (.lit (.int 1)))) .nop) .anil)) (.cmp .Gt (.var 7) (.var 6)) [7]) .anil)))))))
    (.ret (.bin .FloorDiv (.var 1) (.var 2))))))

abbrev N__law_is_word : List Str := ["_law_thing", "_law_sign"]
def b__law_is_word : S :=
  (.ret (.and (.isi (.var 0) "tuple") (.and (.cmp .LtE (.blt "len" (.acons (.var 0) .anil)) (.lit (.int 40))) (.blt "all" (.acons (.comp (.call "_law_whole" (.acons (.var 1) (.acons (.lit (.int 1)) (.acons (.lit (.int 9)) .anil)))) (.var 1) (.it .itm (.acons (.var 0) .anil)) (.lit (.bl true)) [1]) .anil)))))

abbrev N__law_jar : List Str := ["_law_script", "_law_k", "_law_own", "_law_mixed", "_law_entry"]
def b__law_jar : S :=
  (.seq (.asg (.var 2) (.ife (.cmp .Lt (.var 1) (.blt "len" (.acons (.var 0) .anil))) (.blt "int" (.acons (.ix (.var 0) (.var 1)) .anil)) (.bin .Add (.bin .Mult (.lit (.int 83)) (.var 1)) (.lit (.int 47)))))
    (.seq (.asg (.var 3) (.bin .Add (.lit (.int 90001)) (.bin .Mult (.lit (.int 2111)) (.var 1))))
    (.seq (.forr (.var 4) (.it .itm (.acons (.slc (.var 0) .nop (.fst (.lit (.int 13)))) .anil)) (.asg (.var 3) (.bin .Mod (.blt "int" (.acons (.bin .Add (.bin .Mult (.var 3) (.lit (.int 48017))) (.bin .Mod (.blt "int" (.acons (.var 4) .anil)) (.lit (.int 1999999471)))) .anil)) (.lit (.int 1999999471)))))
    (.ret (.lst (.acons (.lit (.int 5)) (.acons (.bin .Mod (.blt "int" (.acons (.bin .Add (.bin .Mult (.var 3) (.lit (.int 53))) (.bin .Mod (.var 2) (.lit (.int 1999999471)))) .anil)) (.lit (.int 1999999471))) (.acons (.ife (.or (.cmp .Lt (.var 2) (.lit (.int 0))) (.cmp .GtE (.var 2) (.bin .Pow (.lit (.int 10)) (.lit (.int 14))))) (.blt "abs" (.acons (.var 2) .anil)) (.lit (.int 0))) .anil))))))))

abbrev N__law_leads : List Str := ["_law_said", "_law_goal", "_law_sheet", "_law_k"]
def b__law_leads : S :=
  (.seq (.ite (.or (.not (.tru (.isi (.var 2) "tuple"))) (.not (.tru (.blt "all" (.acons (.comp (.call "_law_whole" (.acons (.var 3) (.acons (.lit (.int 0)) (.acons (.lit (.int 40)) .anil)))) (.var 3) (.it .itm (.acons (.var 2) .anil)) (.lit (.bl true)) [3]) .anil))))) (.ret (.lit (.bl false))) .skip)
    (.seq (.forr (.var 3) (.it .itm (.acons (.var 2) .anil)) (.asg (.var 0) (.ife (.cmp .NotEq (.var 0) (.lst .anil)) (.call "_law_swap" (.acons (.var 0) (.acons (.var 3) .anil))) (.lst .anil))))
    (.ret (.cmp .Eq (.var 0) (.var 1)))))

abbrev N__law_led : List Str := ["_law_word_here", "_law_places_here", "_law_place"]
def b__law_led : S :=
  (.seq (.forr (.var 2) (.it .itm (.acons (.var 1) .anil)) (.seq (.ite (.or (.cmp .Is (.var 0) (.lit .non)) (.not (.chn .LtE .LtE (.lit (.int 0)) (.var 2) (.bin .Sub (.blt "len" (.acons (.var 0) .anil)) (.lit (.int 3)))))) (.ret (.lit .non)) .skip)
    (.asg (.var 0) (.call "_law_after" (.acons (.var 0) (.acons (.var 2) .anil))))))
    (.ret (.var 0)))

abbrev N__law_lines : List Str := ["_law_said", "_law_found", "_law_sign", "_law_going", "_law_k", "_law_greater", "_law_j", "_law_line"]
def b__law_lines : S :=
  (.seq (.asg (.var 1) (.lst .anil))
    (.seq (.forr (.var 2) (.it .itm (.acons (.var 0) .anil)) (.seq (.asg (.tup (.acons (.var 3) (.acons (.var 4) .anil))) (.tup (.acons (.var 2) (.acons (.lit (.int 0)) .anil))))
    (.whl (.cmp .Gt (.var 3) (.lit (.int 0))) (.seq (.ite (.cmp .Eq (.var 4) (.blt "len" (.acons (.var 1) .anil))) (.exp (.mthl (.var 1) "append" (.acons (.lst .anil) .anil))) .skip)
    (.seq (.asg (.var 5) (.comp (.var 6) (.var 6) (.it .rng (.acons (.blt "len" (.acons (.ix (.var 1) (.var 4)) .anil)) .anil)) (.cmp .Gt (.ix (.ix (.var 1) (.var 4)) (.var 6)) (.var 3)) [6]))
    (.seq (.ite (.cmp .Eq (.var 5) (.lst .anil)) (.seq (.exp (.mthl (.ix (.var 1) (.var 4)) "append" (.acons (.var 3) .anil)))
    (.asg (.var 3) (.lit (.int 0)))) (.asg (.tup (.acons (.ix (.ix (.var 1) (.var 4)) (.ix (.var 5) (.lit (.int 0)))) (.acons (.var 3) .anil))) (.tup (.acons (.var 3) (.acons (.ix (.ix (.var 1) (.var 4)) (.ix (.var 5) (.lit (.int 0)))) .anil)))))
    (.asg (.var 4) (.bin .Add (.var 4) (.lit (.int 1))))))))))
    (.ret (.blt "tuple" (.acons (.comp (.blt "tuple" (.acons (.var 7) .anil)) (.var 7) (.it .itm (.acons (.var 1) .anil)) (.lit (.bl true)) [7]) .anil)))))

abbrev N__law_longest : List Str := ["_law_said", "_law_is_up", "_law_found", "_law_k", "_law_before", "_law_lot"]
def b__law_longest : S :=
  (.seq (.asg (.var 2) (.lst (.acons (.tup .anil) .anil)))
    (.seq (.forr (.var 3) (.it .rng (.acons (.blt "len" (.acons (.var 0) .anil)) .anil)) (.seq (.asg (.var 4) (.comp (.var 5) (.var 5) (.it .itm (.acons (.var 2) .anil)) (.or (.cmp .Eq (.var 5) (.tup .anil)) (.cmp .Eq (.cmp .LtE (.ix (.var 0) (.ix (.var 5) (.neg (.lit (.int 1))))) (.ix (.var 0) (.var 3))) (.var 1))) [5]))
    (.exp (.mthl (.var 2) "append" (.acons (.bin .Add (.ix (.blt "max" (.acons (.comp (.tup (.acons (.blt "len" (.acons (.var 5) .anil)) (.acons (.var 5) .anil))) (.var 5) (.it .itm (.acons (.var 4) .anil)) (.lit (.bl true)) [5]) .anil)) (.lit (.int 1))) (.tup (.acons (.var 3) .anil))) .anil)))))
    (.ret (.ix (.blt "max" (.acons (.comp (.tup (.acons (.blt "len" (.acons (.var 5) .anil)) (.acons (.var 5) .anil))) (.var 5) (.it .itm (.acons (.var 2) .anil)) (.lit (.bl true)) [5]) .anil)) (.lit (.int 1))))))

abbrev N__law_one : List Str := ["_law_jar_here", "_law_things"]
def b__law_one : S :=
  (.ret (.ix (.var 1) (.call "_law_spoon" (.acons (.var 0) (.acons (.blt "len" (.acons (.var 1) .anil)) .anil)))))

abbrev N__law_one_2 : List Str := ["_law_well_here", "_law_some"]
def b__law_one_2 : S :=
  (.ret (.ix (.var 1) (.call "_law_dip" (.acons (.var 0) (.acons (.blt "len" (.acons (.var 1) .anil)) .anil)))))

abbrev N__law_parts : List Str := ["_law_word_here", "_law_other", "_law_letter", "_law_one_here", "_law_each", "_law_two", "_law_count", "_law_first", "_law_second"]
def b__law_parts : S :=
  (.seq (.forr (.var 2) (.it .rng (.acons (.lit (.int 1)) (.acons (.lit (.int 10)) .anil))) (.seq (.asg (.var 3) (.blt "tuple" (.acons (.comp (.var 4) (.var 4) (.it .itm (.acons (.var 0) .anil)) (.cmp .LtE (.var 4) (.var 2)) [4]) .anil)))
    (.seq (.asg (.var 5) (.blt "tuple" (.acons (.comp (.var 4) (.var 4) (.it .itm (.acons (.var 1) .anil)) (.cmp .LtE (.var 4) (.var 2)) [4]) .anil)))
    (.forr (.var 6) (.it .rng (.acons (.lit (.int 1)) (.acons (.bin .Add (.blt "max" (.acons (.blt "len" (.acons (.var 3) .anil)) (.acons (.blt "len" (.acons (.var 5) .anil)) .anil))) (.lit (.int 1))) .anil))) (.seq (.asg (.tup (.acons (.var 7) (.acons (.var 8) .anil))) (.tup (.acons (.call "_law_greatest" (.acons (.var 3) (.acons (.var 6) (.acons (.lit (.bl true)) .anil)))) (.acons (.call "_law_greatest" (.acons (.var 5) (.acons (.var 6) (.acons (.lit (.bl true)) .anil)))) .anil))))
    (.seq (.ite (.cmp .NotEq (.var 7) (.var 8)) (.ret (.tup (.acons (.var 2) (.acons (.var 6) .anil)))) .skip)
    (.ite (.and (.cmp .Eq (.var 7) (.blt "len" (.acons (.var 3) .anil))) (.cmp .Eq (.var 8) (.blt "len" (.acons (.var 5) .anil)))) .brk .skip)))))))
    (.ret (.lit .non)))

abbrev N__law_put : List Str := ["_law_parts_now", "_law_k", "_law_thing"]
def b__law_put : S :=
  (.ret (.bin .Add (.bin .Add (.slc (.var 0) .nop (.fst (.var 1))) (.tup (.acons (.var 2) .anil))) (.slc (.var 0) (.fst (.bin .Add (.var 1) (.lit (.int 1)))) .nop)))

abbrev N__law_right_one : List Str := ["_law_said", "_law_told", "_law_lines_here"]
def b__law_right_one : S :=
  (.seq (.asg (.tup (.acons (.var 1) (.acons (.var 2) .anil))) (.tup (.acons (.call "certify_table" (.acons (.var 0) .anil)) (.acons (.call "_law_lines" (.acons (.var 0) .anil)) .anil))))
    (.seq (.ite (.or (.cmp .NotEq (.blt "repr" (.acons (.calk "certify_table" .anil (.acons (.var 0) .anil) [.k 0]) .anil)) (.blt "repr" (.acons (.var 1) .anil))) (.or (.not (.tru (.isi (.var 1) "tuple"))) (.cmp .NotEq (.blt "len" (.acons (.var 1) .anil)) (.lit (.int 2))))) (.ret (.lit (.bl false))) .skip)
    (.seq (.ite (.or (.cmp .NotEq (.blt "repr" (.acons (.ix (.var 1) (.lit (.int 0))) .anil)) (.blt "repr" (.acons (.tup (.acons (.lit (.str (PySem.Str.ofString "table"))) (.acons (.var 0) (.acons (.var 2) .anil)))) .anil))) (.not (.tru (.call "_law_leads" (.acons (.var 0) (.acons (.call "_law_read" (.acons (.var 2) .anil)) (.acons (.ix (.var 1) (.lit (.int 1))) .anil))))))) (.ret (.lit (.bl false))) .skip)
    (.seq (.ite (.not (.tru (.call "_law_says" (.acons (.ix (.var 1) (.lit (.int 0))) (.acons (.ix (.var 1) (.lit (.int 1))) (.acons (.lit (.bl true)) .anil)))))) (.ret (.lit (.bl false))) .skip)
    (.seq (.ite (.and (.cmp .NotEq (.var 2) (.tup .anil)) (.not (.tru (.call "_law_says" (.acons (.tup (.acons (.lit (.str (PySem.Str.ofString "table"))) (.acons (.var 0) (.acons (.call "_law_lines" (.acons (.slc (.var 0) (.fst (.lit (.int 1))) .nop) .anil)) .anil)))) (.acons (.ix (.var 1) (.lit (.int 1))) (.acons (.lit (.bl false)) .anil))))))) (.ret (.lit (.bl false))) .skip)
    (.ret (.cmp .Is (.call "holds" (.acons (.tup (.acons (.lit (.str (PySem.Str.ofString "alike"))) (.acons (.var 0) (.acons (.call "_law_read" (.acons (.var 2) .anil)) .anil)))) (.acons (.ix (.var 1) (.lit (.int 1))) .anil))) (.lit (.bl true)))))))))

abbrev N__law_says : List Str := ["_law_told", "_law_sheet", "_law_due"]
def b__law_says : S :=
  (.ret (.cmp .Eq (.blt "repr" (.acons (.lst (.acons (.call "holds" (.acons (.var 0) (.acons (.var 1) .anil))) (.acons (.calk "holds" .anil (.acons (.var 1) (.acons (.var 0) .anil)) [.k 1, .k 0]) .anil))) .anil)) (.blt "repr" (.acons (.lst (.acons (.var 2) (.acons (.var 2) .anil))) .anil))))

abbrev N__law_shaken : List Str := ["_law_jar_here", "_law_word_here", "_law_times", "_law_turn", "_law_some"]
def b__law_shaken : S :=
  (.seq (.forr (.var 3) (.it .rng (.acons (.var 2) .anil)) (.seq (.asg (.var 4) (.call "_law_beside" (.acons (.var 1) .anil)))
    (.ite (.cmp .NotEq (.var 4) (.lst .anil)) (.asg (.var 1) (.ix (.call "_law_one" (.acons (.var 0) (.acons (.var 4) .anil))) (.lit (.int 1)))) .skip)))
    (.ret (.var 1)))

abbrev N__law_shows_total : List Str := ["_law_said", "_law_many_now", "_law_size", "_law_sheet", "_law_is_up", "_law_bound_now"]
def b__law_shows_total : S :=
  (.seq (.ite (.or (.not (.tru (.isi (.var 3) "tuple"))) (.cmp .NotEq (.blt "len" (.acons (.var 3) .anil)) (.lit (.int 2)))) (.ret (.lit (.bl false))) .skip)
    (.seq (.ite (.or (.not (.tru (.call "_law_are_lots" (.acons (.var 0) (.acons (.ix (.var 3) (.lit (.int 0))) (.acons (.var 4) .anil)))))) (.not (.tru (.call "_law_are_lots" (.acons (.var 0) (.acons (.ix (.var 3) (.lit (.int 1))) (.acons (.not (.tru (.var 4))) .anil))))))) (.ret (.lit (.bl false))) .skip)
    (.seq (.asg (.var 5) (.bin .Sub (.bin .Add (.bin .Mult (.var 1) (.blt "len" (.acons (.ix (.var 3) (.lit (.int 1))) .anil))) (.blt "len" (.acons (.var 0) .anil))) (.call "_law_total" (.acons (.ix (.var 3) (.lit (.int 1))) .anil))))
    (.ret (.and (.cmp .LtE (.blt "len" (.acons (.ix (.var 3) (.lit (.int 0))) .anil)) (.var 1)) (.chn .Eq .Eq (.call "_law_total" (.acons (.ix (.var 3) (.lit (.int 0))) .anil)) (.var 2) (.var 5)))))))

abbrev N__law_shows_unlike : List Str := ["_law_both", "_law_sheet", "_law_mine", "_law_theirs", "_law_bound_now"]
def b__law_shows_unlike : S :=
  (.seq (.ite (.or (.not (.tru (.isi (.var 1) "tuple"))) (.or (.cmp .NotEq (.blt "len" (.acons (.var 1) .anil)) (.lit (.int 5))) (.not (.tru (.call "_law_whole" (.acons (.ix (.var 1) (.lit (.int 0))) (.acons (.lit (.int 0)) (.acons (.lit (.int 1)) .anil)))))))) (.ret (.lit (.bl false))) .skip)
    (.seq (.ite (.or (.not (.tru (.call "_law_whole" (.acons (.ix (.var 1) (.lit (.int 1))) (.acons (.lit (.int 1)) (.acons (.lit (.int 9)) .anil)))))) (.not (.tru (.call "_law_whole" (.acons (.ix (.var 1) (.lit (.int 2))) (.acons (.lit (.int 0)) (.acons (.lit (.int 40)) .anil))))))) (.ret (.lit (.bl false))) .skip)
    (.seq (.asg (.tup (.acons (.var 2) (.acons (.var 3) .anil))) (.tup (.acons (.call "_law_up_to" (.acons (.ix (.var 0) (.ix (.var 1) (.lit (.int 0)))) (.acons (.ix (.var 1) (.lit (.int 1))) .anil))) (.acons (.call "_law_up_to" (.acons (.ix (.var 0) (.bin .Sub (.lit (.int 1)) (.ix (.var 1) (.lit (.int 0))))) (.acons (.ix (.var 1) (.lit (.int 1))) .anil))) .anil))))
    (.seq (.ite (.or (.not (.tru (.call "_law_are_lots" (.acons (.var 2) (.acons (.ix (.var 1) (.lit (.int 3))) (.acons (.lit (.bl true)) .anil)))))) (.not (.tru (.call "_law_are_lots" (.acons (.var 3) (.acons (.ix (.var 1) (.lit (.int 4))) (.acons (.lit (.bl false)) .anil))))))) (.ret (.lit (.bl false))) .skip)
    (.seq (.asg (.var 4) (.bin .Sub (.bin .Add (.bin .Mult (.ix (.var 1) (.lit (.int 2))) (.blt "len" (.acons (.ix (.var 1) (.lit (.int 4))) .anil))) (.blt "len" (.acons (.var 3) .anil))) (.call "_law_total" (.acons (.ix (.var 1) (.lit (.int 4))) .anil))))
    (.ret (.and (.cmp .LtE (.blt "len" (.acons (.ix (.var 1) (.lit (.int 3))) .anil)) (.ix (.var 1) (.lit (.int 2)))) (.cmp .Gt (.call "_law_total" (.acons (.ix (.var 1) (.lit (.int 3))) .anil)) (.var 4)))))))))

abbrev N__law_sinks : List Str := ["_law_said", "_law_found", "_law_k", "_law_fits", "_law_j"]
def b__law_sinks : S :=
  (.seq (.asg (.var 1) (.lst .anil))
    (.seq (.forr (.var 2) (.it .rng (.acons (.blt "len" (.acons (.var 0) .anil)) .anil)) (.seq (.asg (.var 3) (.comp (.var 4) (.var 4) (.it .rng (.acons (.blt "len" (.acons (.var 1) .anil)) .anil)) (.cmp .Gt (.ix (.var 0) (.ix (.ix (.var 1) (.var 4)) (.neg (.lit (.int 1))))) (.ix (.var 0) (.var 2))) [4]))
    (.ite (.cmp .Eq (.var 3) (.lst .anil)) (.exp (.mthl (.var 1) "append" (.acons (.tup (.acons (.var 2) .anil)) .anil))) (.asg (.ix (.var 1) (.ix (.var 3) (.lit (.int 0)))) (.bin .Add (.ix (.var 1) (.ix (.var 3) (.lit (.int 0)))) (.tup (.acons (.var 2) .anil)))))))
    (.ret (.blt "tuple" (.acons (.var 1) .anil)))))

abbrev N__law_spoon : List Str := ["_law_jar_here", "_law_many", "_law_digit"]
def b__law_spoon : S :=
  (.seq (.asg (.ix (.var 0) (.lit (.int 0))) (.bin .Add (.ix (.var 0) (.lit (.int 0))) (.lit (.int 3))))
    (.seq (.ite (.cmp .Gt (.ix (.var 0) (.lit (.int 2))) (.lit (.int 0))) (.seq (.asg (.tup (.acons (.ix (.var 0) (.lit (.int 2))) (.acons (.var 2) .anil))) (.blt "divmod" (.acons (.blt "int" (.acons (.ix (.var 0) (.lit (.int 2))) .anil)) (.acons (.var 1) .anil))))
    (.ret (.var 2))) .skip)
    (.seq (.asg (.ix (.var 0) (.lit (.int 1))) (.bin .Mod (.blt "int" (.acons (.bin .Add (.bin .Add (.bin .Mult (.ix (.var 0) (.lit (.int 1))) (.lit (.int 51043))) (.bin .Mult (.ix (.var 0) (.lit (.int 0))) (.lit (.int 60013)))) (.bin .Mult (.bin .FloorDiv (.ix (.var 0) (.lit (.int 1))) (.lit (.int 12007))) (.lit (.int 73)))) .anil)) (.lit (.int 1999999471))))
    (.ret (.bin .Mod (.blt "int" (.acons (.bin .FloorDiv (.ix (.var 0) (.lit (.int 1))) (.lit (.int 379))) .anil)) (.var 1))))))

abbrev N__law_spots : List Str := ["_law_said", "_law_k"]
def b__law_spots : S :=
  (.ret (.comp (.var 1) (.var 1) (.it .rng (.acons (.blt "len" (.acons (.var 0) .anil)) .anil)) (.cmp .NotEq (.call "_law_swap" (.acons (.var 0) (.acons (.var 1) .anil))) (.lst .anil)) [1]))

abbrev N__law_sums : List Str := ["_law_word_here", "_law_is_rise", "_law_found", "_law_count"]
def b__law_sums : S :=
  (.seq (.asg (.tup (.acons (.var 2) (.acons (.var 3) .anil))) (.tup (.acons (.lst .anil) (.acons (.lit (.int 0)) .anil))))
    (.seq (.whl (.or (.cmp .Eq (.var 2) (.lst .anil)) (.cmp .Lt (.ix (.var 2) (.neg (.lit (.int 1)))) (.blt "len" (.acons (.var 0) .anil)))) (.seq (.ite (.cmp .Eq (.blt "len" (.acons (.var 0) .anil)) (.lit (.int 0))) (.ret (.tup .anil)) .skip)
    (.seq (.asg (.var 3) (.bin .Add (.var 3) (.lit (.int 1))))
    (.exp (.mthl (.var 2) "append" (.acons (.call "_law_greatest" (.acons (.var 0) (.acons (.var 3) (.acons (.var 1) .anil)))) .anil))))))
    (.ret (.blt "tuple" (.acons (.var 2) .anil)))))

abbrev N__law_swap : List Str := ["_law_said", "_law_k", "_law_a", "_law_b", "_law_c"]
def b__law_swap : S :=
  (.seq (.ite (.not (.chn .LtE .LtE (.lit (.int 0)) (.var 1) (.bin .Sub (.blt "len" (.acons (.var 0) .anil)) (.lit (.int 3))))) (.ret (.lst .anil)) .skip)
    (.seq (.asg (.tup (.acons (.var 2) (.acons (.var 3) (.acons (.var 4) .anil)))) (.tup (.acons (.ix (.var 0) (.var 1)) (.acons (.ix (.var 0) (.bin .Add (.var 1) (.lit (.int 1)))) (.acons (.ix (.var 0) (.bin .Add (.var 1) (.lit (.int 2)))) .anil)))))
    (.seq (.ite (.or (.chn .Lt .LtE (.var 3) (.var 2) (.var 4)) (.chn .Lt .LtE (.var 4) (.var 2) (.var 3))) (.ret (.bin .Add (.bin .Add (.slc (.var 0) .nop (.fst (.bin .Add (.var 1) (.lit (.int 1))))) (.tup (.acons (.var 4) (.acons (.var 3) .anil)))) (.slc (.var 0) (.fst (.bin .Add (.var 1) (.lit (.int 3)))) .nop))) .skip)
    (.ret (.ife (.or (.chn .LtE .Lt (.var 2) (.var 4) (.var 3)) (.chn .LtE .Lt (.var 3) (.var 4) (.var 2))) (.bin .Add (.bin .Add (.slc (.var 0) .nop (.fst (.var 1))) (.tup (.acons (.var 3) (.acons (.var 2) .anil)))) (.slc (.var 0) (.fst (.bin .Add (.var 1) (.lit (.int 2)))) .nop)) (.lst .anil))))))

abbrev N__law_total : List Str := ["_law_lots", "_law_lot"]
def b__law_total : S :=
  (.ret (.blt "sum" (.acons (.comp (.blt "len" (.acons (.var 1) .anil)) (.var 1) (.it .itm (.acons (.var 0) .anil)) (.lit (.bl true)) [1]) .anil)))

abbrev N__law_up_to : List Str := ["_law_said", "_law_top", "_law_sign"]
def b__law_up_to : S :=
  (.ret (.blt "tuple" (.acons (.comp (.var 2) (.var 2) (.it .itm (.acons (.var 0) .anil)) (.cmp .LtE (.var 2) (.var 1)) [2]) .anil)))

abbrev N__law_walk : List Str := ["_law_well_here", "_law_said", "_law_most_now", "_law_found", "_law_turn", "_law_spots_here"]
def b__law_walk : S :=
  (.seq (.asg (.var 3) (.lst .anil))
    (.seq (.forr (.var 4) (.it .rng (.acons (.call "_law_dip" (.acons (.var 0) (.acons (.bin .Add (.var 2) (.lit (.int 1))) .anil))) .anil)) (.seq (.asg (.var 5) (.call "_law_spots" (.acons (.var 1) .anil)))
    (.ite (.cmp .NotEq (.var 5) (.lst .anil)) (.seq (.exp (.mthl (.var 3) "append" (.acons (.call "_law_one" (.acons (.var 0) (.acons (.var 5) .anil))) .anil)))
    (.asg (.var 1) (.call "_law_swap" (.acons (.var 1) (.acons (.ix (.var 3) (.neg (.lit (.int 1)))) .anil))))) .skip)))
    (.ret (.lst (.acons (.blt "tuple" (.acons (.var 3) .anil)) (.acons (.var 1) .anil))))))

abbrev N__law_well : List Str := ["_law_script", "_law_k", "_law_own", "_law_stir", "_law_entry"]
def b__law_well : S :=
  (.seq (.asg (.var 2) (.ife (.cmp .Lt (.var 1) (.blt "len" (.acons (.var 0) .anil))) (.blt "int" (.acons (.ix (.var 0) (.var 1)) .anil)) (.bin .Add (.bin .Mult (.lit (.int 641)) (.var 1)) (.lit (.int 83)))))
    (.seq (.asg (.var 3) (.bin .Add (.lit (.int 52009)) (.bin .Mult (.lit (.int 419)) (.var 1))))
    (.seq (.forr (.var 4) (.it .itm (.acons (.slc (.var 0) .nop (.fst (.lit (.int 11)))) .anil)) (.asg (.var 3) (.bin .Mod (.blt "int" (.acons (.bin .Add (.bin .Mult (.var 3) (.lit (.int 57019))) (.blt "int" (.acons (.var 4) .anil))) .anil)) (.lit (.int 2147483543)))))
    (.ret (.lst (.acons (.ife (.or (.cmp .Lt (.var 2) (.lit (.int 0))) (.cmp .GtE (.var 2) (.bin .Pow (.lit (.int 10)) (.lit (.int 15))))) (.blt "abs" (.acons (.var 2) .anil)) (.lit (.int 0))) (.acons (.bin .Mod (.blt "int" (.acons (.bin .Add (.bin .Mult (.var 3) (.lit (.int 46507))) (.var 2)) .anil)) (.lit (.int 2147483543))) (.acons (.lit (.int 5)) .anil))))))))

abbrev N__law_whole : List Str := ["_law_thing", "_law_low", "_law_high"]
def b__law_whole : S :=
  (.ret (.and (.isi (.var 0) "int") (.and (.not (.tru (.isi (.var 0) "bool"))) (.chn .LtE .LtE (.var 1) (.var 0) (.var 2)))))

abbrev N__law_word : List Str := ["_law_jar_here", "_law_most", "_law_n", "_law_top", "_law_way", "_law_word_here", "_law_k"]
def b__law_word : S :=
  (.seq (.asg (.tup (.acons (.var 2) (.acons (.var 3) (.acons (.var 4) .anil)))) (.tup (.acons (.call "_law_spoon" (.acons (.var 0) (.acons (.bin .Add (.var 1) (.lit (.int 1))) .anil))) (.acons (.call "_law_one" (.acons (.var 0) (.acons (.lst (.acons (.lit (.int 2)) (.acons (.lit (.int 3)) (.acons (.lit (.int 4)) (.acons (.lit (.int 9)) .anil))))) .anil))) (.acons (.call "_law_spoon" (.acons (.var 0) (.acons (.lit (.int 5)) .anil))) .anil)))))
    (.seq (.asg (.var 5) (.comp (.bin .Add (.lit (.int 1)) (.call "_law_spoon" (.acons (.var 0) (.acons (.var 3) .anil)))) (.var 6) (.it .rng (.acons (.var 2) .anil)) (.lit (.bl true)) [6]))
    (.seq (.ite (.cmp .Eq (.var 4) (.lit (.int 0))) (.asg (.var 5) (.blt "sorted_down" (.acons (.var 5) .anil))) .skip)
    (.seq (.ite (.and (.cmp .Eq (.var 4) (.lit (.int 1))) (.cmp .Lt (.var 2) (.lit (.int 10)))) (.seq (.asg (.var 5) (.lst .anil))
    (.forr (.var 6) (.it .rng (.acons (.var 2) .anil)) (.exp (.mthl (.var 5) "insert" (.acons (.call "_law_spoon" (.acons (.var 0) (.acons (.bin .Add (.var 6) (.lit (.int 1))) .anil))) (.acons (.bin .Add (.var 6) (.lit (.int 1))) .anil)))))) .skip)
    (.ret (.blt "tuple" (.acons (.var 5) .anil)))))))

abbrev N_after_exchange : List Str := ["word", "place", "a", "b", "c"]
def b_after_exchange : S :=
  (.seq (.asg (.tup (.acons (.var 2) (.acons (.var 3) (.acons (.var 4) .anil)))) (.slc (.var 0) (.fst (.var 1)) (.fst (.bin .Add (.var 1) (.lit (.int 3))))))
    (.seq (.ite (.or (.chn .Lt .LtE (.var 3) (.var 2) (.var 4)) (.chn .Lt .LtE (.var 4) (.var 2) (.var 3))) (.ret (.bin .Add (.bin .Add (.slc (.var 0) .nop (.fst (.var 1))) (.tup (.acons (.var 2) (.acons (.var 4) (.acons (.var 3) .anil))))) (.slc (.var 0) (.fst (.bin .Add (.var 1) (.lit (.int 3)))) .nop))) .skip)
    (.seq (.ite (.or (.chn .LtE .Lt (.var 2) (.var 4) (.var 3)) (.chn .LtE .Lt (.var 3) (.var 4) (.var 2))) (.ret (.bin .Add (.bin .Add (.slc (.var 0) .nop (.fst (.var 1))) (.tup (.acons (.var 3) (.acons (.var 2) (.acons (.var 4) .anil))))) (.slc (.var 0) (.fst (.bin .Add (.var 1) (.lit (.int 3)))) .nop))) .skip)
    (.ret (.lit .non)))))

abbrev N_all_places : List Str := ["word", "place"]
def b_all_places : S :=
  (.ret (.blt "tuple" (.acons (.comp (.var 1) (.var 1) (.it .rng (.acons (.bin .Sub (.blt "len" (.acons (.var 0) .anil)) (.lit (.int 2))) .anil)) (.cmp .IsNot (.call "after_exchange" (.acons (.var 0) (.acons (.var 1) .anil))) (.lit .non)) [1]) .anil)))

abbrev N_are_alike : List Str := ["word", "other"]
def b_are_alike : S :=
  (.seq (.exp (.call "check_words" (.acons (.var 0) (.acons (.var 1) .anil))))
    (.ret (.call "are_same" (.acons (.var 0) (.acons (.var 1) .anil)))))

abbrev N_are_lots : List Str := ["word", "value", "is_rise"]
def b_are_lots : S :=
  (.ret (.and (.isi (.var 1) "tuple") (.cmp .Is (.call "wrong_part" (.acons (.var 0) (.acons (.var 1) (.acons (.var 2) .anil)))) (.lit .non))))

abbrev N_are_rows : List Str := ["value", "row"]
def b_are_rows : S :=
  (.ret (.and (.isi (.var 0) "tuple") (.and (.cmp .Is (.call "wrong_row" (.acons (.var 0) .anil)) (.lit .non)) (.cmp .LtE (.blt "sum" (.acons (.comp (.blt "len" (.acons (.var 1) .anil)) (.var 1) (.it .itm (.acons (.var 0) .anil)) (.lit (.bl true)) [1]) .anil)) (.cst "MOST_WORD")))))

abbrev N_are_same : List Str := ["word", "other"]
def b_are_same : S :=
  (.ret (.cmp .Eq (.call "rows_of" (.acons (.var 0) .anil)) (.call "rows_of" (.acons (.var 1) .anil))))

abbrev N_below : List Str := ["shape", "row", "place", "size"]
def b_below : S :=
  (.ret (.blt "len" (.acons (.comp (.var 3) (.var 3) (.it .itm (.acons (.slc (.var 0) (.fst (.bin .Add (.var 1) (.lit (.int 1)))) .nop) .anil)) (.cmp .Gt (.var 3) (.var 2)) [3]) .anil)))

abbrev N_bound_with : List Str := ["word", "parts", "count"]
def b_bound_with : S :=
  (.ret (.bin .Sub (.bin .Add (.bin .Mult (.var 2) (.blt "len" (.acons (.var 1) .anil))) (.blt "len" (.acons (.var 0) .anil))) (.call "total_of" (.acons (.var 1) .anil))))

abbrev N_certify_table : List Str := ["word"]
def b_certify_table : S :=
  (.seq (.exp (.call "check_word" (.acons (.var 0) .anil)))
    (.ret (.tup (.acons (.tup (.acons (.lit (.str (PySem.Str.ofString "table"))) (.acons (.var 0) (.acons (.call "rows_of" (.acons (.var 0) .anil)) .anil)))) (.acons (.call "to_reading" (.acons (.var 0) .anil)) .anil)))))

abbrev N_chain : List Str := ["word", "other"]
def b_chain : S :=
  (.seq (.exp (.call "check_words" (.acons (.var 0) (.acons (.var 1) .anil))))
    (.ret (.ife (.tru (.call "are_same" (.acons (.var 0) (.acons (.var 1) .anil)))) (.call "chain_of" (.acons (.var 0) (.acons (.var 1) .anil))) (.lit .non))))

abbrev N_check_letter : List Str := ["value"]
def b_check_letter : S :=
  (.ite (.not (.tru (.call "is_letter" (.acons (.var 0) .anil)))) (.rse "InvalidLetter" ["value"] (.acons (.var 0) .anil)) .skip)

abbrev N_check_listed : List Str := ["size"]
def b_check_listed : S :=
  (.ite (.cmp .Gt (.var 0) (.cst "MOST_LISTED")) (.rse "TooMany" ["limit"] (.acons (.cst "MOST_LISTED") .anil)) .skip)

abbrev N_check_short : List Str := ["word", "other"]
def b_check_short : S :=
  (.seq (.exp (.call "check_words" (.acons (.var 0) (.acons (.var 1) .anil))))
    (.exp (.call "check_listed" (.acons (.blt "max" (.acons (.blt "len" (.acons (.var 0) .anil)) (.acons (.blt "len" (.acons (.var 1) .anil)) .anil))) .anil))))

abbrev N_check_word : List Str := ["value", "index"]
def b_check_word : S :=
  (.seq (.ite (.or (.not (.tru (.isi (.var 0) "tuple"))) (.cmp .Gt (.blt "len" (.acons (.var 0) .anil)) (.cst "MOST_WORD"))) (.rse "InvalidWord" ["index"] (.acons (.lit .non) .anil)) .skip)
    (.seq (.asg (.var 1) (.call "wrong_letter" (.acons (.var 0) .anil)))
    (.ite (.cmp .IsNot (.var 1) (.lit .non)) (.rse "InvalidWord" ["index"] (.acons (.var 1) .anil)) .skip)))

abbrev N_check_words : List Str := ["word", "other"]
def b_check_words : S :=
  (.seq (.exp (.call "check_word" (.acons (.var 0) .anil)))
    (.exp (.call "check_word" (.acons (.var 1) .anil))))

abbrev N_column_lengths : List Str := ["rows", "row", "place"]
def b_column_lengths : S :=
  (.seq (.ite (.cmp .Eq (.blt "len" (.acons (.var 0) .anil)) (.lit (.int 0))) (.ret (.tup .anil)) .skip)
    (.ret (.blt "tuple" (.acons (.comp (.blt "len" (.acons (.comp (.var 1) (.var 1) (.it .itm (.acons (.var 0) .anil)) (.cmp .Gt (.blt "len" (.acons (.var 1) .anil)) (.var 2)) [1]) .anil)) (.var 2) (.it .rng (.acons (.blt "len" (.acons (.ix (.var 0) (.lit (.int 0))) .anil)) .anil)) (.lit (.bl true)) [2]) .anil))))

abbrev N_descents : List Str := ["word", "place"]
def b_descents : S :=
  (.seq (.exp (.call "check_word" (.acons (.var 0) .anil)))
    (.ret (.blt "tuple" (.acons (.comp (.var 1) (.var 1) (.it .rng (.acons (.bin .Sub (.blt "len" (.acons (.var 0) .anil)) (.lit (.int 1))) .anil)) (.cmp .Gt (.ix (.var 0) (.var 1)) (.ix (.var 0) (.bin .Add (.var 1) (.lit (.int 1))))) [1]) .anil))))

abbrev N_exchanged : List Str := ["word", "place"]
def b_exchanged : S :=
  (.seq (.exp (.call "check_word" (.acons (.var 0) .anil)))
    (.seq (.ite (.not (.tru (.call "has_exchange" (.acons (.var 0) (.acons (.var 1) .anil))))) (.rse "InvalidPlace" ["value"] (.acons (.var 1) .anil)) .skip)
    (.ret (.call "after_exchange" (.acons (.var 0) (.acons (.var 1) .anil))))))

abbrev N_fall_sums : List Str := ["word"]
def b_fall_sums : S :=
  (.ret (.call "sums_of" (.acons (.call "column_lengths" (.acons (.call "rows_of" (.acons (.var 0) .anil)) .anil)) .anil)))

abbrev N_fall_totals : List Str := ["word"]
def b_fall_totals : S :=
  (.seq (.exp (.call "check_word" (.acons (.var 0) .anil)))
    (.ret (.call "fall_sums" (.acons (.var 0) .anil))))

abbrev N_fewest_exchanges : List Str := ["word", "other", "places"]
def b_fewest_exchanges : S :=
  (.seq (.exp (.call "check_short" (.acons (.var 0) (.acons (.var 1) .anil))))
    (.seq (.asg (.var 2) (.call "shortest" (.acons (.var 0) (.acons (.var 1) .anil))))
    (.ret (.ife (.cmp .Is (.var 2) (.lit .non)) (.lit .non) (.blt "len" (.acons (.var 2) .anil))))))

abbrev N_has_exchange : List Str := ["word", "place"]
def b_has_exchange : S :=
  (.ret (.and (.call "is_between" (.acons (.var 1) (.acons (.lit (.int 0)) (.acons (.bin .Sub (.blt "len" (.acons (.var 0) .anil)) (.lit (.int 3))) .anil)))) (.cmp .IsNot (.call "after_exchange" (.acons (.var 0) (.acons (.var 1) .anil))) (.lit .non))))

abbrev N_holds : List Str := ["claim", "paper", "kind", "word"]
def b_holds : S :=
  (.seq (.ite (.not (.tru (.call "is_claim" (.acons (.var 0) .anil)))) (.ret (.lit (.bl false))) .skip)
    (.seq (.asg (.tup (.acons (.var 2) (.acons (.var 3) .anil))) (.tup (.acons (.ix (.var 0) (.lit (.int 0))) (.acons (.ix (.var 0) (.lit (.int 1))) .anil))))
    (.seq (.ite (.cmp .Eq (.var 2) (.lit (.str (PySem.Str.ofString "alike")))) (.ret (.call "shows_chain" (.acons (.var 3) (.acons (.ix (.var 0) (.lit (.int 2))) (.acons (.var 1) .anil))))) .skip)
    (.seq (.ite (.cmp .Eq (.var 2) (.lit (.str (PySem.Str.ofString "unlike")))) (.ret (.call "shows_unlike" (.acons (.slc (.var 0) (.fst (.lit (.int 1))) .nop) (.acons (.var 1) .anil)))) .skip)
    (.seq (.ite (.cmp .Eq (.var 2) (.lit (.str (PySem.Str.ofString "table")))) (.ret (.call "shows_chain" (.acons (.var 3) (.acons (.call "reading_word" (.acons (.ix (.var 0) (.lit (.int 2))) .anil)) (.acons (.var 1) .anil))))) .skip)
    (.seq (.ite (.cmp .Eq (.var 2) (.lit (.str (PySem.Str.ofString "class")))) (.ret (.and (.call "is_empty" (.acons (.var 1) .anil)) (.cmp .Eq (.call "size_of" (.acons (.var 3) .anil)) (.ix (.var 0) (.lit (.int 2)))))) .skip)
    (.seq (.ite (.cmp .Eq (.var 2) (.lit (.str (PySem.Str.ofString "apart")))) (.ret (.call "shows_apart" (.acons (.var 3) (.acons (.ix (.var 0) (.lit (.int 2))) (.acons (.ix (.var 0) (.lit (.int 3))) (.acons (.var 1) .anil)))))) .skip)
    (.ret (.call "shows_total" (.acons (.var 3) (.acons (.ix (.var 0) (.lit (.int 2))) (.acons (.ix (.var 0) (.lit (.int 3))) (.acons (.var 1) (.acons (.cmp .Eq (.var 2) (.lit (.str (PySem.Str.ofString "rises")))) .anil))))))))))))))

abbrev N_is_between : List Str := ["value", "low", "high"]
def b_is_between : S :=
  (.ret (.and (.isi (.var 0) "int") (.and (.not (.tru (.isi (.var 0) "bool"))) (.chn .LtE .LtE (.var 1) (.var 0) (.var 2)))))

abbrev N_is_empty : List Str := ["paper"]
def b_is_empty : S :=
  (.ret (.and (.isi (.var 0) "tuple") (.cmp .Eq (.blt "len" (.acons (.var 0) .anil)) (.lit (.int 0)))))

abbrev N_is_letter : List Str := ["value"]
def b_is_letter : S :=
  (.ret (.call "is_between" (.acons (.var 0) (.acons (.lit (.int 1)) (.acons (.cst "MOST_LETTER") .anil)))))

abbrev N_is_lot : List Str := ["word", "value", "is_rise", "place", "k"]
def b_is_lot : S :=
  (.seq (.ite (.or (.not (.tru (.isi (.var 1) "tuple"))) (.cmp .Eq (.blt "len" (.acons (.var 1) .anil)) (.lit (.int 0)))) (.ret (.lit (.bl false))) .skip)
    (.seq (.ite (.not (.tru (.blt "all" (.acons (.comp (.call "is_between" (.acons (.var 3) (.acons (.lit (.int 0)) (.acons (.bin .Sub (.blt "len" (.acons (.var 0) .anil)) (.lit (.int 1))) .anil)))) (.var 3) (.it .itm (.acons (.var 1) .anil)) (.lit (.bl true)) [3]) .anil)))) (.ret (.lit (.bl false))) .skip)
    (.ret (.blt "all" (.acons (.comp (.call "may_follow" (.acons (.var 0) (.acons (.ix (.var 1) (.var 4)) (.acons (.ix (.var 1) (.bin .Add (.var 4) (.lit (.int 1)))) (.acons (.var 2) .anil))))) (.var 4) (.it .rng (.acons (.bin .Sub (.blt "len" (.acons (.var 1) .anil)) (.lit (.int 1))) .anil)) (.lit (.bl true)) [4]) .anil)))))

abbrev N_is_row : List Str := ["value", "above", "high", "low"]
def b_is_row : S :=
  (.seq (.ite (.or (.not (.tru (.isi (.var 0) "tuple"))) (.or (.cmp .Eq (.blt "len" (.acons (.var 0) .anil)) (.lit (.int 0))) (.cmp .IsNot (.call "wrong_letter" (.acons (.var 0) .anil)) (.lit .non)))) (.ret (.lit (.bl false))) .skip)
    (.seq (.ite (.cmp .NotEq (.blt "list" (.acons (.var 0) .anil)) (.blt "sorted" (.acons (.var 0) .anil))) (.ret (.lit (.bl false))) .skip)
    (.seq (.ite (.cmp .Is (.var 1) (.lit .non)) (.ret (.lit (.bl true))) .skip)
    (.ret (.and (.cmp .LtE (.blt "len" (.acons (.var 0) .anil)) (.blt "len" (.acons (.var 1) .anil))) (.blt "all" (.acons (.comp (.cmp .Lt (.var 2) (.var 3)) (.tup (.acons (.var 2) (.acons (.var 3) .anil))) (.it .zip (.acons (.var 1) (.acons (.var 0) .anil))) (.lit (.bl true)) [2, 3]) .anil)))))))

abbrev N_is_size : List Str := ["value"]
def b_is_size : S :=
  (.ret (.and (.isi (.var 0) "int") (.and (.not (.tru (.isi (.var 0) "bool"))) (.cmp .GtE (.var 0) (.lit (.int 0))))))

abbrev N_is_word : List Str := ["value"]
def b_is_word : S :=
  (.ret (.and (.isi (.var 0) "tuple") (.and (.cmp .LtE (.blt "len" (.acons (.var 0) .anil)) (.cst "MOST_WORD")) (.cmp .Is (.call "wrong_letter" (.acons (.var 0) .anil)) (.lit .non)))))

abbrev N_led_by : List Str := ["word", "places", "place"]
def b_led_by : S :=
  (.seq (.forr (.var 2) (.it .itm (.acons (.var 1) .anil)) (.seq (.ite (.not (.chn .LtE .LtE (.lit (.int 0)) (.var 2) (.bin .Sub (.blt "len" (.acons (.var 0) .anil)) (.lit (.int 3))))) (.ret (.lit .non)) .skip)
    (.seq (.asg (.var 0) (.call "after_exchange" (.acons (.var 0) (.acons (.var 2) .anil))))
    (.ite (.cmp .Is (.var 0) (.lit .non)) (.ret (.lit .non)) .skip))))
    (.ret (.var 0)))

abbrev N_may_follow : List Str := ["word", "one", "other", "is_rise"]
def b_may_follow : S :=
  (.seq (.ite (.cmp .GtE (.var 1) (.var 2)) (.ret (.lit (.bl false))) .skip)
    (.ret (.ife (.tru (.var 3)) (.cmp .LtE (.ix (.var 0) (.var 1)) (.ix (.var 0) (.var 2))) (.cmp .Gt (.ix (.var 0) (.var 1)) (.ix (.var 0) (.var 2))))))

abbrev N_neighbours : List Str := ["word"]
def b_neighbours : S :=
  (.seq (.exp (.call "check_word" (.acons (.var 0) .anil)))
    (.ret (.call "words_beside" (.acons (.var 0) .anil))))

abbrev N_parting : List Str := ["word", "other"]
def b_parting : S :=
  (.seq (.exp (.call "check_words" (.acons (.var 0) (.acons (.var 1) .anil))))
    (.ret (.call "parting_of" (.acons (.var 0) (.acons (.var 1) .anil)))))

abbrev N_parting_of : List Str := ["word", "other", "letter", "first", "second", "count"]
def b_parting_of : S :=
  (.seq (.forr (.var 2) (.it .rng (.acons (.lit (.int 1)) (.acons (.bin .Add (.cst "MOST_LETTER") (.lit (.int 1))) .anil))) (.seq (.asg (.tup (.acons (.var 3) (.acons (.var 4) .anil))) (.tup (.acons (.call "rise_sums" (.acons (.call "up_to" (.acons (.var 0) (.acons (.var 2) .anil))) .anil)) (.acons (.call "rise_sums" (.acons (.call "up_to" (.acons (.var 1) (.acons (.var 2) .anil))) .anil)) .anil))))
    (.forr (.var 5) (.it .rng (.acons (.lit (.int 1)) (.acons (.bin .Add (.blt "max" (.acons (.blt "len" (.acons (.var 3) .anil)) (.acons (.blt "len" (.acons (.var 4) .anil)) .anil))) (.lit (.int 1))) .anil))) (.ite (.cmp .NotEq (.call "total_at" (.acons (.var 3) (.acons (.var 5) .anil))) (.call "total_at" (.acons (.var 4) (.acons (.var 5) .anil)))) (.ret (.tup (.acons (.var 2) (.acons (.var 5) .anil)))) .skip))))
    (.ret (.lit .non)))

abbrev N_places_for : List Str := ["rows", "letter", "found", "start", "row", "fresh", "further"]
def b_places_for : S :=
  (.seq (.asg (.tup (.acons (.var 2) (.acons (.var 3) .anil))) (.tup (.acons (.lst .anil) (.acons (.blt "len" (.acons (.call "reading_word" (.acons (.var 0) .anil)) .anil)) .anil))))
    (.seq (.forr (.var 4) (.it .itm (.acons (.var 0) .anil)) (.seq (.aug 3 .Sub (.blt "len" (.acons (.var 4) .anil)))
    (.seq (.asg (.tup (.acons (.var 5) (.acons (.var 6) .anil))) (.call "put_into_row" (.acons (.var 4) (.acons (.var 1) .anil))))
    (.seq (.ite (.cmp .Is (.var 6) (.lit .non)) (.ret (.var 2)) .skip)
    (.seq (.aug 2 .Add (.call "places_in_row" (.acons (.var 4) (.acons (.var 1) (.acons (.var 3) .anil)))))
    (.asg (.var 1) (.var 6)))))))
    (.ret (.var 2))))

abbrev N_places_in_row : List Str := ["row", "letter", "start", "first", "k", "each", "ahead"]
def b_places_in_row : S :=
  (.seq (.asg (.var 3) (.ix (.comp (.var 4) (.tup (.acons (.var 4) (.acons (.var 5) .anil))) (.it .enu (.acons (.var 0) .anil)) (.cmp .Gt (.var 5) (.var 1)) [4, 5]) (.lit (.int 0))))
    (.seq (.asg (.var 6) (.comp (.bin .Sub (.bin .Add (.var 2) (.var 4)) (.lit (.int 1))) (.var 4) (.it .rng (.acons (.bin .Sub (.blt "len" (.acons (.var 0) .anil)) (.lit (.int 1))) (.acons (.var 3) (.acons (.neg (.lit (.int 1))) .anil)))) (.lit (.bl true)) [4]))
    (.ret (.bin .Add (.var 6) (.comp (.bin .Add (.var 2) (.var 4)) (.var 4) (.it .rng (.acons (.bin .Sub (.var 3) (.lit (.int 1))) (.acons (.neg (.lit (.int 1))) (.acons (.neg (.lit (.int 1))) .anil)))) (.lit (.bl true)) [4])))))

abbrev N_places_of : List Str := ["word"]
def b_places_of : S :=
  (.seq (.exp (.call "check_word" (.acons (.var 0) .anil)))
    (.ret (.call "all_places" (.acons (.var 0) .anil))))

abbrev N_put_into : List Str := ["rows", "letter", "found", "place", "row", "fresh"]
def b_put_into : S :=
  (.seq (.asg (.var 2) (.lst .anil))
    (.seq (.forr (.tup (.acons (.var 3) (.acons (.var 4) .anil))) (.it .enu (.acons (.var 0) .anil)) (.seq (.asg (.tup (.acons (.var 5) (.acons (.var 1) .anil))) (.call "put_into_row" (.acons (.var 4) (.acons (.var 1) .anil))))
    (.seq (.exp (.mthl (.var 2) "append" (.acons (.var 5) .anil)))
    (.ite (.cmp .Is (.var 1) (.lit .non)) (.ret (.tup (.acons (.bin .Add (.blt "tuple" (.acons (.var 2) .anil)) (.slc (.var 0) (.fst (.bin .Add (.var 3) (.lit (.int 1)))) .nop)) (.acons (.var 3) .anil)))) .skip))))
    (.ret (.tup (.acons (.tup (.astar (.var 2) (.acons (.tup (.acons (.var 1) .anil)) .anil))) (.acons (.blt "len" (.acons (.var 0) .anil)) .anil))))))

abbrev N_put_into_row : List Str := ["row", "letter", "place", "each"]
def b_put_into_row : S :=
  (.seq (.forr (.tup (.acons (.var 2) (.acons (.var 3) .anil))) (.it .enu (.acons (.var 0) .anil)) (.ite (.cmp .Gt (.var 3) (.var 1)) (.ret (.tup (.acons (.bin .Add (.bin .Add (.slc (.var 0) .nop (.fst (.var 2))) (.tup (.acons (.var 1) .anil))) (.slc (.var 0) (.fst (.bin .Add (.var 2) (.lit (.int 1)))) .nop)) (.acons (.var 3) .anil)))) .skip))
    (.ret (.tup (.acons (.bin .Add (.var 0) (.tup (.acons (.var 1) .anil))) (.acons (.lit .non) .anil)))))

abbrev N_restricted : List Str := ["word", "letter"]
def b_restricted : S :=
  (.seq (.exp (.call "check_word" (.acons (.var 0) .anil)))
    (.seq (.exp (.call "check_letter" (.acons (.var 1) .anil)))
    (.ret (.call "up_to" (.acons (.var 0) (.acons (.var 1) .anil))))))

abbrev N_rise_sums : List Str := ["word", "row"]
def b_rise_sums : S :=
  (.ret (.call "sums_of" (.acons (.comp (.blt "len" (.acons (.var 1) .anil)) (.var 1) (.it .itm (.acons (.call "rows_of" (.acons (.var 0) .anil)) .anil)) (.lit (.bl true)) [1]) .anil)))

abbrev N_rise_totals : List Str := ["word"]
def b_rise_totals : S :=
  (.seq (.exp (.call "check_word" (.acons (.var 0) .anil)))
    (.ret (.call "rise_sums" (.acons (.var 0) .anil))))

abbrev N_rows_of : List Str := ["word", "rows", "letter"]
def b_rows_of : S :=
  (.seq (.asg (.var 1) (.tup .anil))
    (.seq (.forr (.var 2) (.it .itm (.acons (.var 0) .anil)) (.asg (.var 1) (.ix (.call "put_into" (.acons (.var 1) (.acons (.var 2) .anil))) (.lit (.int 0)))))
    (.ret (.var 1))))

abbrev N_shortest_chain : List Str := ["word", "other"]
def b_shortest_chain : S :=
  (.seq (.exp (.call "check_short" (.acons (.var 0) (.acons (.var 1) .anil))))
    (.ret (.call "shortest" (.acons (.var 0) (.acons (.var 1) .anil)))))

abbrev N_shows_apart : List Str := ["word", "other", "number", "paper", "places"]
def b_shows_apart : S :=
  (.seq (.ite (.or (.not (.tru (.call "is_empty" (.acons (.var 3) .anil)))) (.cmp .Gt (.blt "max" (.acons (.blt "len" (.acons (.var 0) .anil)) (.acons (.blt "len" (.acons (.var 1) .anil)) .anil))) (.cst "MOST_LISTED"))) (.ret (.lit (.bl false))) .skip)
    (.seq (.asg (.var 4) (.call "shortest" (.acons (.var 0) (.acons (.var 1) .anil))))
    (.ret (.and (.cmp .IsNot (.var 4) (.lit .non)) (.cmp .Eq (.blt "len" (.acons (.var 4) .anil)) (.var 2))))))

abbrev N_shows_chain : List Str := ["word", "goal", "paper", "place"]
def b_shows_chain : S :=
  (.seq (.ite (.or (.not (.tru (.isi (.var 2) "tuple"))) (.not (.tru (.blt "all" (.acons (.comp (.call "is_size" (.acons (.var 3) .anil)) (.var 3) (.it .itm (.acons (.var 2) .anil)) (.lit (.bl true)) [3]) .anil))))) (.ret (.lit (.bl false))) .skip)
    (.ret (.cmp .Eq (.call "led_by" (.acons (.var 0) (.acons (.var 2) .anil))) (.var 1))))

abbrev N_shows_total : List Str := ["word", "count", "total", "paper", "is_rise", "own", "across"]
def b_shows_total : S :=
  (.seq (.ite (.or (.not (.tru (.isi (.var 3) "tuple"))) (.cmp .NotEq (.blt "len" (.acons (.var 3) .anil)) (.lit (.int 2)))) (.ret (.lit (.bl false))) .skip)
    (.seq (.asg (.tup (.acons (.var 5) (.acons (.var 6) .anil))) (.var 3))
    (.seq (.ite (.or (.not (.tru (.call "are_lots" (.acons (.var 0) (.acons (.var 5) (.acons (.var 4) .anil)))))) (.or (.cmp .Gt (.blt "len" (.acons (.var 5) .anil)) (.var 1)) (.cmp .NotEq (.call "total_of" (.acons (.var 5) .anil)) (.var 2)))) (.ret (.lit (.bl false))) .skip)
    (.ret (.and (.call "are_lots" (.acons (.var 0) (.acons (.var 6) (.acons (.not (.tru (.var 4))) .anil)))) (.cmp .Eq (.call "bound_with" (.acons (.var 0) (.acons (.var 6) (.acons (.var 1) .anil)))) (.var 2)))))))

abbrev N_shows_unlike : List Str := ["words", "paper", "side", "letter", "count", "high", "low", "one", "other"]
def b_shows_unlike : S :=
  (.seq (.ite (.or (.not (.tru (.isi (.var 1) "tuple"))) (.or (.cmp .NotEq (.blt "len" (.acons (.var 1) .anil)) (.lit (.int 5))) (.not (.tru (.call "is_between" (.acons (.ix (.var 1) (.lit (.int 0))) (.acons (.lit (.int 0)) (.acons (.lit (.int 1)) .anil)))))))) (.ret (.lit (.bl false))) .skip)
    (.seq (.asg (.tup (.acons (.var 2) (.acons (.var 3) (.acons (.var 4) (.acons (.var 5) (.acons (.var 6) .anil)))))) (.var 1))
    (.seq (.ite (.or (.not (.tru (.call "is_letter" (.acons (.var 3) .anil)))) (.not (.tru (.call "is_between" (.acons (.var 4) (.acons (.lit (.int 0)) (.acons (.cst "MOST_WORD") .anil))))))) (.ret (.lit (.bl false))) .skip)
    (.seq (.asg (.tup (.acons (.var 7) (.acons (.var 8) .anil))) (.tup (.acons (.call "up_to" (.acons (.ix (.var 0) (.var 2)) (.acons (.var 3) .anil))) (.acons (.call "up_to" (.acons (.ix (.var 0) (.bin .Sub (.lit (.int 1)) (.var 2))) (.acons (.var 3) .anil))) .anil))))
    (.seq (.ite (.or (.not (.tru (.call "are_lots" (.acons (.var 7) (.acons (.var 5) (.acons (.lit (.bl true)) .anil)))))) (.or (.cmp .Gt (.blt "len" (.acons (.var 5) .anil)) (.var 4)) (.not (.tru (.call "are_lots" (.acons (.var 8) (.acons (.var 6) (.acons (.lit (.bl false)) .anil)))))))) (.ret (.lit (.bl false))) .skip)
    (.ret (.cmp .Gt (.call "total_of" (.acons (.var 5) .anil)) (.call "bound_with" (.acons (.var 8) (.acons (.var 6) (.acons (.var 4) .anil)))))))))))

abbrev N_size_of : List Str := ["word", "row"]
def b_size_of : S :=
  (.ret (.call "steps_count" (.acons (.blt "tuple" (.acons (.comp (.blt "len" (.acons (.var 1) .anil)) (.var 1) (.it .itm (.acons (.call "rows_of" (.acons (.var 0) .anil)) .anil)) (.lit (.bl true)) [1]) .anil)) .anil)))

abbrev N_steps_count : List Str := ["shape", "top", "bottom", "number", "row", "size", "place"]
def b_steps_count : S :=
  (.seq (.asg (.var 1) (.lit (.int 1)))
    (.seq (.asg (.var 2) (.lit (.int 1)))
    (.seq (.forr (.var 3) (.it .rng (.acons (.lit (.int 1)) (.acons (.bin .Add (.blt "sum" (.acons (.var 0) .anil)) (.lit (.int 1))) .anil))) (.asg (.var 1) (.bin .Mult (.var 1) (.var 3))))
    (.seq (.forr (.tup (.acons (.var 4) (.acons (.var 5) .anil))) (.it .enu (.acons (.var 0) .anil)) (.forr (.var 6) (.it .rng (.acons (.var 5) .anil)) (.asg (.var 2) (.bin .Mult (.var 2) (.bin .Add (.bin .Sub (.var 5) (.var 6)) (.call "below" (.acons (.var 0) (.acons (.var 4) (.acons (.var 6) .anil)))))))))
    (.ret (.bin .FloorDiv (.var 1) (.var 2)))))))

abbrev N_sums_of : List Str := ["numbers", "found", "total", "number"]
def b_sums_of : S :=
  (.seq (.asg (.tup (.acons (.var 1) (.acons (.var 2) .anil))) (.tup (.acons (.lst .anil) (.acons (.lit (.int 0)) .anil))))
    (.seq (.forr (.var 3) (.it .itm (.acons (.var 0) .anil)) (.seq (.aug 2 .Add (.var 3))
    (.exp (.mthl (.var 1) "append" (.acons (.var 2) .anil)))))
    (.ret (.blt "tuple" (.acons (.var 1) .anil)))))

abbrev N_to_reading : List Str := ["word", "found", "size"]
def b_to_reading : S :=
  (.seq (.asg (.var 1) (.lst .anil))
    (.seq (.forr (.var 2) (.it .rng (.acons (.blt "len" (.acons (.var 0) .anil)) .anil)) (.aug 1 .Add (.call "places_for" (.acons (.call "rows_of" (.acons (.slc (.var 0) .nop (.fst (.var 2))) .anil)) (.acons (.ix (.var 0) (.var 2)) .anil)))))
    (.ret (.blt "tuple" (.acons (.var 1) .anil)))))

abbrev N_total_at : List Str := ["sums", "count"]
def b_total_at : S :=
  (.ret (.ife (.or (.cmp .Eq (.var 1) (.lit (.int 0))) (.cmp .Eq (.blt "len" (.acons (.var 0) .anil)) (.lit (.int 0)))) (.lit (.int 0)) (.ix (.var 0) (.bin .Sub (.blt "min" (.acons (.var 1) (.acons (.blt "len" (.acons (.var 0) .anil)) .anil))) (.lit (.int 1))))))

abbrev N_total_of : List Str := ["parts", "part"]
def b_total_of : S :=
  (.ret (.blt "sum" (.acons (.comp (.blt "len" (.acons (.var 1) .anil)) (.var 1) (.it .itm (.acons (.var 0) .anil)) (.lit (.bl true)) [1]) .anil)))

abbrev N_up_to : List Str := ["word", "letter", "each"]
def b_up_to : S :=
  (.ret (.blt "tuple" (.acons (.comp (.var 2) (.var 2) (.it .itm (.acons (.var 0) .anil)) (.cmp .LtE (.var 2) (.var 1)) [2]) .anil)))

abbrev N_words_beside : List Str := ["word", "place"]
def b_words_beside : S :=
  (.ret (.blt "tuple" (.acons (.blt "sorted_set" (.acons (.comp (.call "after_exchange" (.acons (.var 0) (.acons (.var 1) .anil))) (.var 1) (.it .itm (.acons (.call "all_places" (.acons (.var 0) .anil)) .anil)) (.lit (.bl true)) [1]) .anil)) .anil)))

abbrev N_wrong_letter : List Str := ["letters", "index", "letter"]
def b_wrong_letter : S :=
  (.seq (.forr (.tup (.acons (.var 1) (.acons (.var 2) .anil))) (.it .enu (.acons (.var 0) .anil)) (.ite (.not (.tru (.call "is_letter" (.acons (.var 2) .anil)))) (.ret (.var 1)) .skip))
    (.ret (.lit .non)))

abbrev N_wrong_row : List Str := ["rows", "index", "row"]
def b_wrong_row : S :=
  (.seq (.forr (.tup (.acons (.var 1) (.acons (.var 2) .anil))) (.it .enu (.acons (.var 0) .anil)) (.ite (.not (.tru (.call "is_row" (.acons (.var 2) (.acons (.ife (.cmp .Gt (.var 1) (.lit (.int 0))) (.ix (.var 0) (.bin .Sub (.var 1) (.lit (.int 1)))) (.lit .non)) .anil))))) (.ret (.var 1)) .skip))
    (.ret (.lit .non)))

end MPB

/-! plain lemmas about the small language -/
namespace MP
open PySem PySem.Spec PyProof.Rows L2

/-! ### ends -/
def Mr.wp {α : Type} (r : Mr α) (Q : α → Mh → Prop) (E : Str → List (Str × Mv) → Mh → Prop := fun _ _ _ => False) : Prop := match r with
  | .ok a h => Q a h
  | .exc c p h => E c p h
  | .err => False
def Ms.wp (r : Ms) (N : Mf → Mh → Prop) (R : Mv → Mh → Prop) (E : Str → List (Str × Mv) → Mh → Prop := fun _ _ _ => False) (B : Mf → Mh → Prop := fun _ _ => False) (C : Mf → Mh → Prop := fun _ _ => False) : Prop := match r with
  | .nx fr h => N fr h
  | .rt v h => R v h
  | .bk fr h => B fr h
  | .ct fr h => C fr h
  | .exc c p _ h => E c p h
  | .err => False
section
variable {α β : Type} {E : Str → List (Str × Mv) → Mh → Prop}
theorem wp_bind {r : Mr α} {f : α → Mh → Mr β} {Q : β → Mh → Prop} (h : r.wp (fun a h => (f a h).wp Q E) E) : (r.bind f).wp Q E := by
  cases r with
  | ok a m => exact h
  | exc c p m => exact h
  | err => exact h
theorem wp_mono {r : Mr α} {Q Q' : α → Mh → Prop} (h : r.wp Q E) (k : ∀ a h, Q a h → Q' a h) : r.wp Q' E := by
  cases r with
  | ok a m => exact k _ _ h
  | exc c p m => exact h
  | err => exact h
theorem wp_ok {a : α} {m : Mh} {Q : α → Mh → Prop} (h : Q a m) : (Mr.ok a m).wp Q E := h
theorem wp_of_eq {r : Mr α} {a : α} {m : Mh} {Q : α → Mh → Prop} (e : r = .ok a m) (h : Q a m) : r.wp Q E := by rw [e]; exact h
theorem wp_toS {r : Mr α} {fr : Mf} {k : α → Mh → Ms} {N R} {B C : Mf → Mh → Prop} (h : r.wp (fun a m => (k a m).wp N R E B C) E) : (r.toS fr k).wp N R E B C := by
  cases r with
  | ok a m => exact h
  | exc c p m => exact h
  | err => exact h
theorem ws_mono {r : Ms} {N N' : Mf → Mh → Prop} {R R' : Mv → Mh → Prop} {B C B' C' : Mf → Mh → Prop} (h : r.wp N R E B C) (hn : ∀ fr h, N fr h → N' fr h) (hr : ∀ v h, R v h → R' v h) (hb : ∀ fr h, B fr h → B' fr h) (hc : ∀ fr h, C fr h → C' fr h) : r.wp N' R' E B' C' := by
  cases r with
  | nx fr m => exact hn _ _ h
  | rt v m => exact hr _ _ h
  | bk fr m => exact hb _ _ h
  | ct fr m => exact hc _ _ h
  | exc c p fr m => exact h
  | err => exact h
theorem wp_fin {r : Ms} {Q : Mv → Mh → Prop} (h : r.wp (fun _ m => Q .non m) Q E) : (finM r).wp Q E := by
  cases r with
  | nx fr m => exact h
  | rt v m => exact h
  | exc c p fr m => exact h
  | bk fr m => exact h
  | ct fr m => exact h
  | err => exact h
end
theorem ok_of_wp {r : Mr Mv} {Q : Mv → Mh → Prop} (h : r.wp Q) : ∃ v m, r = .ok v m ∧ Q v m := by
  cases r with
  | ok a m => exact ⟨a, m, rfl, h⟩
  | exc c p m => exact h.elim
  | err => exact h.elim
/-- a for loop over what is written down -/
theorem loopL_wp {f : Mv → Mf → Mh → Ms} {N : Mf → Mh → Prop} {R : Mv → Mh → Prop} {E : Str → List (Str × Mv) → Mh → Prop} {B C : Mf → Mh → Prop} (I : Nat → Mf → Mh → Prop) : ∀ (xs : List Mv) (k : Nat) (fr : Mf) (h : Mh),
    (∀ i x fr h, xs[i]? = some x → I (k + i) fr h → (f x fr h).wp (I (k + i + 1)) R E N (I (k + i + 1))) → I k fr h → (∀ fr h, I (k + xs.length) fr h → N fr h) → (loopL f xs fr h).wp N R E B C
  | [], k, fr, h, _, h0, h2 => h2 fr h h0
  | x :: xs, k, fr, h, h1, h0, h2 => by
    have s := h1 0 x fr h rfl h0
    unfold loopL
    have next : ∀ fr' h', I (k + 0 + 1) fr' h' → (loopL f xs fr' h').wp N R E B C := fun fr' h' hi =>
      loopL_wp I xs (k + 1) fr' h' (fun i y fr h e hk => by
        have := h1 (i + 1) y fr h (by simpa using e) (by rw [show k + (i + 1) = k + 1 + i by omega]; exact hk)
        rw [show k + (i + 1) + 1 = k + 1 + i + 1 by omega] at this
        exact this) hi fun fr h hi => h2 fr h (by rw [List.length_cons, show k + (xs.length + 1) = k + 1 + xs.length by omega]; exact hi)
    cases e : f x fr h with
    | nx fr' h' => rw [e] at s; exact next _ _ s
    | ct fr' h' => rw [e] at s; exact next _ _ s
    | bk fr' h' => rw [e] at s; exact s
    | rt v h' => rw [e] at s; exact s
    | exc c p fr' h' => rw [e] at s; exact s
    | err => rw [e] at s; exact s.elim
/-- a comprehension over what is written down -/
theorem compL_wp {f : Mf → Mh → Mr (Option Mv)} {tg : C} {fr : Mf} {Q : List Mv → Mh → Prop} {E : Str → List (Str × Mv) → Mh → Prop} (I : Nat → List Mv → Mh → Prop) : ∀ (xs : List Mv) (k : Nat) (acc : List Mv) (h : Mh),
    (∀ i x acc h, xs[i]? = some x → I (k + i) acc h → ∃ fr', asgM tg x fr = some fr' ∧ (f fr' h).wp (fun y h' => I (k + i + 1) (acc ++ y.toList) h')) → I k acc h → (∀ ys h', I (k + xs.length) (acc ++ ys) h' → Q ys h') → (compL f tg fr xs h).wp Q E
  | [], k, acc, h, _, h0, h2 => h2 [] h (by simpa using h0)
  | x :: xs, k, acc, h, h1, h0, h2 => by
    obtain ⟨fr', e, s⟩ := h1 0 x acc h rfl h0
    unfold compL
    rw [e]
    dsimp only
    cases e2 : f fr' h with
    | ok y h' =>
      rw [e2] at s
      refine wp_bind ?_
      show ((compL f tg fr xs h').bind _).wp Q E
      refine wp_bind (compL_wp I xs (k + 1) (acc ++ y.toList) h' (fun i z acc h e hk => ?_) s fun ys h'' hi => ?_)
      · obtain ⟨fr2, q1, q2⟩ := h1 (i + 1) z acc h (by simpa using e) (by rw [show k + (i + 1) = k + 1 + i by omega]; exact hk)
        rw [show k + (i + 1) + 1 = k + 1 + i + 1 by omega] at q2
        exact ⟨fr2, q1, q2⟩
      · refine h2 _ h'' ?_
        rw [List.length_cons, show k + (xs.length + 1) = k + 1 + xs.length by omega]
        cases y with
        | none => simpa using hi
        | some y => simpa using hi
    | exc c p h' => rw [e2] at s; exact s.elim
    | err => rw [e2] at s; exact s.elim
/-- a comprehension that leaves the heap as it is -/
theorem compL_pure {f : Mf → Mh → Mr (Option Mv)} {tg : C} {fr : Mf} {h : Mh} (g : Mv → Option Mv) : ∀ (xs : List Mv), (∀ x ∈ xs, ∃ fr', asgM tg x fr = some fr' ∧ f fr' h = .ok (g x) h) → compL f tg fr xs h = .ok (xs.filterMap g) h
  | [], _ => rfl
  | x :: xs, h1 => by
    obtain ⟨fr', e, s⟩ := h1 x (List.mem_cons_self ..)
    unfold compL
    rw [e]
    dsimp only
    rw [s]
    have ih := compL_pure (f := f) (tg := tg) (fr := fr) (h := h) g xs fun y hy => h1 y (List.mem_cons_of_mem _ hy)
    show Mr.bind (compL f tg fr xs h) _ = _
    rw [ih, List.filterMap_cons]
    cases g x <;> rfl
/-- the same over a list of the small heap that nothing changes -/
theorem liveL_pure {f : Mf → Mh → Mr (Option Mv)} {tg : C} {fr : Mf} {h : Mh} {w : Mv} {xs : List Mv} (hw : itemsM w h = some xs) (g : Mv → Option Mv) (h1 : ∀ x ∈ xs, ∃ fr', asgM tg x fr = some fr' ∧ f fr' h = .ok (g x) h) : ∀ (k i : Nat), i + k = xs.length → liveL f tg fr w k i h = .ok ((xs.drop i).filterMap g) h
  | 0, i, e => by
    unfold liveL
    rw [hw]
    dsimp only
    rw [List.getElem?_eq_none (by omega), List.drop_eq_nil_of_le (by omega)]
    rfl
  | k + 1, i, e => by
    have hi : i < xs.length := by omega
    unfold liveL
    rw [hw]
    dsimp only
    rw [List.getElem?_eq_getElem hi, List.drop_eq_getElem_cons hi]
    dsimp only
    obtain ⟨fr', e1, s⟩ := h1 xs[i] (List.getElem_mem hi)
    rw [e1]
    dsimp only
    rw [s]
    show Mr.bind (liveL f tg fr w k (i + 1) h) _ = _
    rw [liveL_pure hw g h1 k (i + 1) (by omega), List.filterMap_cons]
    cases g xs[i] <;> rfl
/-- a while loop, by a measure -/
theorem loopW_wp {t : Mf → Mh → Mr Bool} {f : Mf → Mh → Ms} {N : Mf → Mh → Prop} {R : Mv → Mh → Prop} {E : Str → List (Str × Mv) → Mh → Prop} {B C : Mf → Mh → Prop} (I : Nat → Mf → Mh → Prop)
    (h1 : ∀ m fr h, I m fr h → (t fr h).wp (fun b h1 => if b = true then (f fr h1).wp (fun fr' h' => ∃ m', m' < m ∧ I m' fr' h') R E N (fun fr' h' => ∃ m', m' < m ∧ I m' fr' h') else N fr h1) E) :
    ∀ (k m : Nat) (fr : Mf) (h : Mh), m < k → I m fr h → (loopW t f k fr h).wp N R E B C
  | 0, m, fr, h, hk, _ => absurd hk (Nat.not_lt_zero _)
  | k + 1, m, fr, h, hk, hi => by
    unfold loopW
    refine wp_toS (wp_mono (h1 m fr h hi) fun b h2 hb => ?_)
    cases b with
    | true =>
      rw [if_pos rfl] at hb ⊢
      cases e : f fr h2 with
      | nx fr' h' =>
        rw [e] at hb
        obtain ⟨m', hm, hi'⟩ := hb
        exact loopW_wp I h1 k m' fr' h' (by omega) hi'
      | ct fr' h' =>
        rw [e] at hb
        obtain ⟨m', hm, hi'⟩ := hb
        exact loopW_wp I h1 k m' fr' h' (by omega) hi'
      | bk fr' h' => rw [e] at hb; exact hb
      | rt v h' => rw [e] at hb; exact hb
      | exc c p fr' h' => rw [e] at hb; exact hb
      | err => rw [e] at hb; exact hb.elim
    | false =>
      rw [if_neg Bool.false_ne_true] at hb ⊢
      exact hb

/-! ### values -/
theorem intsM_map : ∀ ns : List Int, intsM (ns.map .int) = some ns
  | [] => rfl
  | n :: ns => by
    show (intsM (ns.map .int)).map (n :: ·) = _
    rw [intsM_map ns]; rfl
theorem blsM_map : ∀ ns : List Bool, blsM (ns.map .bl) = some ns
  | [] => rfl
  | n :: ns => by
    show (blsM (ns.map .bl)).map (n :: ·) = _
    rw [blsM_map ns]; rfl
theorem tupsI_map : ∀ ns : List (List Int), tupsI (ns.map ofInts) = some ns
  | [] => rfl
  | n :: ns => by
    show (match intsM (n.map .int), tupsI (ns.map ofInts) with | some ns, some l => some (ns :: l) | _, _ => none) = _
    rw [intsM_map, tupsI_map ns]
theorem toDs_ints (h : Mh) (k : Nat) : ∀ ns : List Int, toDs h (k + 2) (ns.map .int) = some (ns.map .int)
  | [] => by unfold toDs; rfl
  | n :: ns => by
    show toDs h (k + 2) (.int n :: ns.map .int) = _
    unfold toDs
    rw [toDs_ints h k ns, show toD h (k + 1) (.int n) = some (.int n) by unfold toD; rfl]
    rfl
theorem toD_ofInts (h : Mh) (k : Nat) (ns : List Int) : toD h (k + 3) (ofInts ns) = some (.tuple (ns.map .int)) := by
  unfold toD ofInts
  dsimp only
  rw [toDs_ints]; rfl
theorem canLay_ints : ∀ ns : List Int, PyData.canLayAll0 (ns.map .int) = true
  | [] => rfl
  | n :: ns => by
    show (true && PyData.canLayAll0 (ns.map .int)) = true
    rw [canLay_ints ns]; rfl
theorem depth_ints : ∀ ns : List Int, PyData.depthAll (ns.map .int) = 0
  | [] => rfl
  | n :: ns => by
    show max 0 (PyData.depthAll (ns.map .int)) = 0
    rw [depth_ints ns]; rfl
theorem shaped_ofInts (ns : List Int) : SeqAt.shaped (.tuple (ns.map .int)) = true := by
  show (PyData.canLayAll0 (ns.map .int) && decide (PyData.depthAll (ns.map .int) + 1 ≤ 64)) = true
  rw [canLay_ints, depth_ints]; rfl
theorem eqv_ints : ∀ a b : List Int, PyData.eqvAll (a.map .int) (b.map .int) = decide (a = b)
  | [], [] => rfl
  | [], _ :: _ => rfl
  | _ :: _, [] => rfl
  | x :: a, y :: b => by
    show ((x == y) && PyData.eqvAll (a.map .int) (b.map .int)) = _
    rw [eqv_ints a b, Bool.eq_iff_iff]
    simp
theorem eqM_ofInts (h : Mh) (a b : List Int) : eqM h (ofInts a) (ofInts b) = some (decide (a = b)) := by
  unfold eqM
  rw [show deep = 9 + 3 from rfl, toD_ofInts, toD_ofInts]
  dsimp only
  rw [shaped_ofInts, shaped_ofInts]
  show some (PyData.eqvAll (a.map .int) (b.map .int)) = _
  rw [eqv_ints]
theorem cut_nat {α : Type} (xs : List α) (lo hi : Nat) : cutM xs (some (lo : Int)) (some (hi : Int)) = (xs.drop lo).take (hi - lo) := by
  unfold cutM
  rw [HT.sIx_nat, HT.sIx_nat]
  by_cases h : lo ≤ xs.length
  · rw [Nat.min_eq_left h]
    by_cases h2 : hi ≤ xs.length
    · rw [Nat.min_eq_left h2]
    · rw [Nat.min_eq_right (by omega), List.take_of_length_le (by rw [List.length_drop]; omega), List.take_of_length_le (by rw [List.length_drop]; omega)]
  · have e : min lo xs.length = xs.length := by omega
    rw [e, List.drop_eq_nil_of_le (Nat.le_refl _), List.drop_eq_nil_of_le (by omega)]; simp
theorem cut_to {α : Type} (xs : List α) (hi : Nat) : cutM xs none (some (hi : Int)) = xs.take hi := by
  unfold cutM
  rw [HT.sIx_none, HT.sIx_nat, List.drop_zero, Nat.sub_zero]
  by_cases h2 : hi ≤ xs.length
  · rw [Nat.min_eq_left h2]
  · rw [Nat.min_eq_right (by omega), List.take_of_length_le (Nat.le_refl _), List.take_of_length_le (by omega)]
theorem cut_from {α : Type} (xs : List α) (lo : Nat) : cutM xs (some (lo : Int)) none = xs.drop lo := by
  unfold cutM
  rw [HT.sIx_none, HT.sIx_nat]
  by_cases h2 : lo ≤ xs.length
  · rw [Nat.min_eq_left h2, List.take_of_length_le]
    rw [List.length_drop]; omega
  · rw [Nat.min_eq_right (by omega), List.drop_eq_nil_of_le (Nat.le_refl _), List.drop_eq_nil_of_le (by omega)]; simp
theorem atI_natd {α : Type} (xs : List α) (i : Nat) : atI xs (i : Int) = xs[i]? := by
  unfold atI ixN
  rw [if_pos (by omega)]
  by_cases h : i < xs.length
  · rw [if_pos (by omega)]; simp
  · rw [if_neg (by omega), List.getElem?_eq_none (by omega)]; rfl
theorem ixN_nat {n i : Nat} (h : i < n) : ixN n (i : Int) = some i := by
  unfold ixN
  rw [if_pos (by omega), if_pos (by omega)]; simp
/-- the heap has grown -/
abbrev Gr (h h' : Mh) : Prop := h <+: h'
theorem Gr.get {h h' : Mh} (g : Gr h h') {n : Nat} {o : Mo} (e : h[n]? = some o) : h'[n]? = some o := by
  obtain ⟨t, rfl⟩ := g
  rw [List.getElem?_append_left (List.getElem?_eq_some_iff.mp e).1]; exact e
theorem Gr.refl (h : Mh) : Gr h h := List.prefix_refl _
theorem Gr.trans {h h1 h2 : Mh} (a : Gr h h1) (b : Gr h1 h2) : Gr h h2 := List.IsPrefix.trans a b
theorem Gr.app (h t : Mh) : Gr h (h ++ t) := List.prefix_append _ _
end MP

/-! equations for stepping -/
namespace MP
open PySem PySem.Spec PyProof.Rows L2
section
variable {α β : Type} {h : Mh} {fr : Mf} {i j v : Int} {xs ys : List Mv} {b c d : Bool}
theorem q_bind (a : α) (f : α → Mh → Mr β) : (Mr.ok a h).bind f = f a h := rfl
theorem q_bindx (c : Str) (p : List (Str × Mv)) (f : α → Mh → Mr β) : (Mr.exc c p h : Mr α).bind f = .exc c p h := rfl
theorem q_bool : (Mr.ok (Mv.bl b) h).bool = .ok b h := rfl
theorem q_tups : (Mr.ok (Mv.tup xs) h).tups = .ok xs h := rfl
theorem q_toS (a : α) (k : α → Mh → Ms) : (Mr.ok a h).toS fr k = k a h := rfl
theorem q_toSx (c : Str) (p : List (Str × Mv)) (k : α → Mh → Ms) : (Mr.exc c p h : Mr α).toS fr k = .exc c p fr h := rfl
theorem q_some (a : α) : Mr.ofO (some a) h = .ok a h := rfl
theorem q_and : (if c = true then Mr.ok (Mv.bl d) h else Mr.ok (Mv.bl false) h) = .ok (.bl (c && d)) h := by cases c <;> rfl
theorem q_or : (if c = true then Mr.ok (Mv.bl true) h else Mr.ok (Mv.bl d) h) = .ok (.bl (c || d)) h := by cases c <;> rfl
theorem q_cm (a : α) : (Mr.ok a h).cm = .ok a h := rfl
theorem q_finr (v : Mv) : finM (.rt v h) = .ok v h := rfl
theorem q_finn : finM (.nx fr h) = .ok .non h := rfl
theorem q_finx (c : Str) (p : List (Str × Mv)) : finM (.exc c p fr h) = .exc c p h := rfl
theorem q_trub : truM h (.bl b) = some b := rfl
theorem q_trui : truM h (.int i) = some (i != 0) := rfl
theorem q_trun : truM h .non = some false := rfl
theorem q_trut : truM h (.tup xs) = some (!xs.isEmpty) := rfl
theorem q_map (f : α → β) (a : α) : (some a).map f = some (f a) := rfl
theorem q_add : opB .Add (.int i) (.int j) h = .ok (.int (i + j)) h := rfl
theorem q_sub : opB .Sub (.int i) (.int j) h = .ok (.int (i - j)) h := rfl
theorem q_lt : opC .Lt (.int i) (.int j) h = .ok (decide (i < j)) h := rfl
theorem q_le : opC .LtE (.int i) (.int j) h = .ok (decide (i ≤ j)) h := rfl
theorem q_gt : opC .Gt (.int i) (.int j) h = .ok (decide (j < i)) h := rfl
theorem q_ge : opC .GtE (.int i) (.int j) h = .ok (decide (j ≤ i)) h := rfl
theorem q_eqi : opC .Eq (.int i) (.int j) h = .ok (decide (i = j)) h := rfl
theorem q_nei : opC .NotEq (.int i) (.int j) h = .ok (!decide (i = j)) h := rfl
theorem q_eqs (x y : Str) : opC .Eq (.str x) (.str y) h = .ok (decide (x = y)) h := rfl
theorem q_nes (x y : Str) : opC .NotEq (.str x) (.str y) h = .ok (!decide (x = y)) h := rfl
theorem q_isnn : opC .Is .non .non h = .ok true h := rfl
theorem q_isni : opC .Is (.int i) .non h = .ok false h := rfl
theorem q_isnt : opC .Is (.tup xs) .non h = .ok false h := rfl
theorem q_isnr (n : Nat) : opC .Is (.ref n) .non h = .ok false h := rfl
theorem q_notnn : opC .IsNot .non .non h = .ok false h := rfl
theorem q_notni : opC .IsNot (.int i) .non h = .ok true h := rfl
theorem q_notnt : opC .IsNot (.tup xs) .non h = .ok true h := rfl
theorem q_notnr (n : Nat) : opC .IsNot (.ref n) .non h = .ok true h := rfl
theorem q_eqt (a b : List Int) : opC .Eq (ofInts a) (ofInts b) h = .ok (decide (a = b)) h := by
  show Mr.ofO (eqM h _ _) h = _
  rw [eqM_ofInts]; rfl
theorem q_net (a b : List Int) : opC .NotEq (ofInts a) (ofInts b) h = .ok (!decide (a = b)) h := by
  show Mr.ofO ((eqM h _ _).map (!·)) h = _
  rw [eqM_ofInts]; rfl
theorem q_isi1 : isiM "int" (.int i) h = .ok (.bl true) h := rfl
theorem q_isi2 : isiM "bool" (.int i) h = .ok (.bl false) h := rfl
theorem q_isi3 : isiM "tuple" (.int i) h = .ok (.bl false) h := rfl
theorem q_isi4 : isiM "tuple" (.tup xs) h = .ok (.bl true) h := rfl
theorem q_isi5 : isiM "int" (.tup xs) h = .ok (.bl false) h := rfl
theorem q_isi6 : isiM "int" .non h = .ok (.bl false) h := rfl
theorem q_isi7 : isiM "tuple" .non h = .ok (.bl false) h := rfl
theorem q_isi8 : isiM "int" (.bl b) h = .ok (.bl true) h := rfl
theorem q_isi9 : isiM "bool" (.bl b) h = .ok (.bl true) h := rfl
theorem q_lent : bltM "len" [.tup xs] h = .ok (.int xs.length) h := rfl
theorem q_lenf : bltM "len" [.frl xs] h = .ok (.int xs.length) h := rfl
theorem q_lenr {n : Nat} (e : h[n]? = some (.lst xs)) : bltM "len" [.ref n] h = .ok (.int xs.length) h := by
  show (match h[n]? with | some (.lst xs) => Mr.ok (Mv.int xs.length) h | _ => .err) = _
  rw [e]
theorem q_inti : bltM "int" [.int i] h = .ok (.int i) h := rfl
theorem q_intb : bltM "int" [.bl b] h = .ok (.int (if b then 1 else 0)) h := rfl
theorem q_abs : bltM "abs" [.int i] h = .ok (.int (if i < 0 then -i else i)) h := rfl
theorem q_max : bltM "max" [.int i, .int j] h = .ok (.int (if j > i then j else i)) h := rfl
theorem q_min : bltM "min" [.int i, .int j] h = .ok (.int (if j < i then j else i)) h := rfl
theorem q_divmod (hj : 0 < j ∧ j < 1073741824) : bltM "divmod" [.int i, .int j] h = .ok (.tup [.int (i / j), .int (i % j)]) h := by
  show (if 0 < j ∧ j < 1073741824 then _ else _) = _
  rw [if_pos hj]
theorem q_tupt : bltM "tuple" [.tup xs] h = .ok (.tup xs) h := rfl
theorem q_tupr {n : Nat} (e : h[n]? = some (.lst xs)) : bltM "tuple" [.ref n] h = .ok (.tup xs) h := by
  show (match (match h[n]? with | some (.lst xs) => some xs | _ => none) with | some xs => Mr.ok (Mv.tup xs) h | none => .err) = _
  rw [e]
theorem q_listt : bltM "list" [.tup xs] h = .ok (.ref h.length) (h ++ [.lst xs]) := rfl
theorem q_listr {n : Nat} (e : h[n]? = some (.lst xs)) : bltM "list" [.ref n] h = .ok (.ref h.length) (h ++ [.lst xs]) := by
  show (match (match h[n]? with | some (.lst xs) => some xs | _ => none) with | some xs => alloc (.lst xs) h | none => .err) = _
  rw [e]; rfl
theorem q_all {n : Nat} {bs : List Bool} (e : h[n]? = some (.lst (bs.map .bl))) : bltM "all" [.ref n] h = .ok (.bl (bs.all id)) h := by
  show (match ((match h[n]? with | some (.lst xs) => some xs | _ => none : Option (List Mv)).bind blsM) with | some bs => Mr.ok (Mv.bl (bs.all id)) h | none => .err) = _
  rw [e]
  show (match blsM (bs.map .bl) with | some bs => Mr.ok (Mv.bl (bs.all id)) h | none => .err) = _
  rw [blsM_map]
theorem q_any {n : Nat} {bs : List Bool} (e : h[n]? = some (.lst (bs.map .bl))) : bltM "any" [.ref n] h = .ok (.bl (bs.any id)) h := by
  show (match ((match h[n]? with | some (.lst xs) => some xs | _ => none : Option (List Mv)).bind blsM) with | some bs => Mr.ok (Mv.bl (bs.any id)) h | none => .err) = _
  rw [e]
  show (match blsM (bs.map .bl) with | some bs => Mr.ok (Mv.bl (bs.any id)) h | none => .err) = _
  rw [blsM_map]
theorem q_sum {n : Nat} {ns : List Int} (e : h[n]? = some (.lst (ns.map .int))) : bltM "sum" [.ref n] h = .ok (.int ns.sum) h := by
  show (match ((match h[n]? with | some (.lst xs) => some xs | _ => none : Option (List Mv)).bind intsM) with | some bs => Mr.ok (Mv.int bs.sum) h | none => .err) = _
  rw [e]
  show (match intsM (ns.map .int) with | some bs => Mr.ok (Mv.int bs.sum) h | none => .err) = _
  rw [intsM_map]
theorem q_sorted {n : Nat} {ns : List Int} (e : h[n]? = some (.lst (ns.map .int))) : bltM "sorted" [.ref n] h = .ok (.ref h.length) (h ++ [.lst ((sortI ns).map .int)]) := by
  show (match ((match h[n]? with | some (.lst xs) => some xs | _ => none : Option (List Mv)).bind intsM) with | some ns => alloc (.lst ((sortI ns).map .int)) h | none => .err) = _
  rw [e]
  show (match intsM (ns.map .int) with | some ns => alloc (.lst ((sortI ns).map .int)) h | none => .err) = _
  rw [intsM_map]; rfl
theorem q_sortedD {n : Nat} {ns : List Int} (e : h[n]? = some (.lst (ns.map .int))) : bltM "sorted_down" [.ref n] h = .ok (.ref h.length) (h ++ [.lst ((sortI ns).reverse.map .int)]) := by
  show (match ((match h[n]? with | some (.lst xs) => some xs | _ => none : Option (List Mv)).bind intsM) with | some ns => alloc (.lst ((sortI ns).reverse.map .int)) h | none => .err) = _
  rw [e]
  show (match intsM (ns.map .int) with | some ns => alloc (.lst ((sortI ns).reverse.map .int)) h | none => .err) = _
  rw [intsM_map]; rfl
theorem q_sortSet {n : Nat} {ks : List (List Int)} (e : h[n]? = some (.lst (ks.map ofInts))) (he : evenB ks = true) (hl : ks.length < 64) : bltM "sorted_set" [.ref n] h = .ok (.ref h.length) (h ++ [.lst ((sortK ks).map ofInts)]) := by
  show (match ((match h[n]? with | some (.lst xs) => some xs | _ => none : Option (List Mv)).bind tupsI) with | some ks => (if evenB ks && decide (ks.length < 64) then alloc (.lst ((sortK ks).map ofInts)) h else .err) | none => .err) = _
  rw [e]
  show (match tupsI (ks.map ofInts) with | some ks => (if evenB ks && decide (ks.length < 64) then alloc (.lst ((sortK ks).map ofInts)) h else .err) | none => .err) = _
  rw [tupsI_map]
  dsimp only
  rw [he, decide_eq_true hl]; rfl
theorem q_mul (hb : (big i || big j) = true) : opB .Mult (.int i) (.int j) h = .ok (.int (i * j)) h := by
  show (if (big i || big j) = true then _ else _) = _
  rw [if_pos hb]
theorem q_fdiv (hj : 0 < j ∧ j < 1073741824) : opB .FloorDiv (.int i) (.int j) h = .ok (.int (i / j)) h := by
  show (if j ≠ 0 ∧ j.natAbs < 1073741824 then _ else _) = _
  rw [if_pos ⟨by omega, by omega⟩, Int.fdiv_eq_ediv_of_nonneg _ (by omega)]
theorem q_mod (hj : 0 < j) : opB .Mod (.int i) (.int j) h = .ok (.int (i % j)) h := by
  show (if j ≠ 0 then _ else _) = _
  rw [if_pos (by omega), Int.fmod_eq_emod_of_nonneg _ (by omega)]
theorem q_catt (hl : xs.length + ys.length ≤ line) : opB .Add (.tup xs) (.tup ys) h = .ok (.tup (xs ++ ys)) h := by
  show (if xs.length + ys.length ≤ line then _ else _) = _
  rw [if_pos hl]
theorem q_sl (w : List Mv) (lo hi : Option Int) : slM (.tup w) lo hi h = .ok (.tup (cutM w lo hi)) h := rfl
theorem q_slf (w : List Mv) (lo hi : Option Int) : slM (.frl w) lo hi h = .ok (.ref h.length) (h ++ [.lst (cutM w lo hi)]) := rfl
theorem q_slr {n : Nat} (e : h[n]? = some (.lst xs)) (lo hi : Option Int) : slM (.ref n) lo hi h = .ok (.ref h.length) (h ++ [.lst (cutM xs lo hi)]) := by
  show (match h[n]? with | some (.lst xs) => alloc (.lst (cutM xs lo hi)) h | _ => .err) = _
  rw [e]; rfl
theorem q_ixt {k : Int} {w : Mv} (e : atI xs k = some w) : ixM (.tup xs) (.int k) h = .ok w h := by
  show Mr.ofO (atI xs k) h = _
  rw [e]; rfl
theorem q_ixf {k : Int} {w : Mv} (e : atI xs k = some w) : ixM (.frl xs) (.int k) h = .ok w h := by
  show Mr.ofO (atI xs k) h = _
  rw [e]; rfl
theorem q_ixr {n : Nat} {k : Int} {w : Mv} (e : h[n]? = some (.lst xs)) (e2 : atI xs k = some w) : ixM (.ref n) (.int k) h = .ok w h := by
  show (match h[n]? with | some (.lst xs) => Mr.ofO (atI xs k) h | _ => .err) = _
  rw [e]
  show Mr.ofO (atI xs k) h = _
  rw [e2]; rfl
theorem q_set {n k : Nat} {w : Mv} (e : h[n]? = some (.lst xs)) (hk : k < xs.length) : setM (.ref n) (.int (k : Int)) w h = .ok () (h.set n (.lst (xs.set k w))) := by
  show (match h[n]? with | some (.lst xs) => (match ixN xs.length (k : Int) with | some j => Mr.ok () (h.set n (.lst (xs.set j w))) | none => .err) | _ => .err) = _
  rw [e]
  dsimp only
  rw [ixN_nat hk]
theorem q_lst (hl : xs.length ≤ line) : (if xs.length ≤ line then alloc (.lst xs) h else .err) = .ok (.ref h.length) (h ++ [.lst xs]) := by rw [if_pos hl]; rfl
theorem q_tup (hl : xs.length ≤ line) : (if xs.length ≤ line then Mr.ok (Mv.tup xs) h else .err) = .ok (.tup xs) h := by rw [if_pos hl]
theorem q_at {n : Nat} (e : h[n]? = some (.lst xs)) : lstAt (.ref n) h = some n := by
  unfold lstAt
  dsimp only
  rw [e]
theorem q_append {n : Nat} {w : Mv} (e : h[n]? = some (.lst xs)) (hl : xs.length < line) : mthM "append" (.ref n) [w] h = .ok .non (h.set n (.lst (xs ++ [w]))) := by
  unfold mthM
  dsimp only
  rw [e]
  dsimp only
  rw [if_pos rfl, if_pos hl]
theorem q_insert {n : Nat} {w : Mv} (e : h[n]? = some (.lst xs)) (hi : 0 ≤ i ∧ i < 2 ^ 63) (hl : xs.length < line) : mthM "insert" (.ref n) [.int i, w] h = .ok .non (h.set n (.lst (xs.take i.toNat ++ [w] ++ xs.drop i.toNat))) := by
  unfold mthM
  dsimp only
  rw [e]
  dsimp only
  rw [if_neg (by decide), if_pos rfl, if_pos ⟨hi.1, hi.2, hl⟩]
theorem q_rng (hj : 0 ≤ j ∧ j < 2 ^ 62) : rngM [.int j] = some ((List.range j.toNat).map fun (i : Nat) => Mv.int (i : Int)) := by
  show (if -(2 ^ 62) ≤ j ∧ j < 2 ^ 62 then _ else _) = _
  rw [if_pos ⟨by omega, hj.2⟩]
theorem q_rng0 (hj : -(2 ^ 62) ≤ j ∧ j < 2 ^ 62) : rngM [.int j] = some ((List.range j.toNat).map fun (i : Nat) => Mv.int (i : Int)) := by
  show (if -(2 ^ 62) ≤ j ∧ j < 2 ^ 62 then _ else _) = _
  rw [if_pos hj]
end

/-! ### statements, one after another -/
def Ms.thn (r : Ms) (k : Mf → Mh → Ms) : Ms := match r with
  | .nx fr h => k fr h
  | .rt v h => .rt v h
  | .bk fr h => .bk fr h
  | .ct fr h => .ct fr h
  | .exc c p fr h => .exc c p fr h
  | .err => .err
section
variable {G : Sg} {fr : Mf} {h : Mh} {k : Mf → Mh → Ms}
theorem n_nx : (Ms.nx fr h).thn k = k fr h := rfl
theorem n_rt (v : Mv) : (Ms.rt v h).thn k = .rt v h := rfl
theorem n_bk : (Ms.bk fr h).thn k = .bk fr h := rfl
theorem n_ct : (Ms.ct fr h).thn k = .ct fr h := rfl
theorem n_exc (c : Str) (p : List (Str × Mv)) : (Ms.exc c p fr h).thn k = .exc c p fr h := rfl
theorem n_ite {b : Bool} {r s : Ms} : (if b = true then r else s).thn k = if b = true then r.thn k else s.thn k := by cases b <;> rfl
theorem x_seq (s t : S) : exec G (.seq s t) fr h = (exec G s fr h).thn (exec G t) := by
  rw [exec]
  cases exec G s fr h <;> rfl
theorem x_skip : exec G .skip fr h = .nx fr h := by rw [exec]
theorem x_exp (c : C) : exec G (.exp c) fr h = (ev G c fr h).toS fr fun _ h1 => .nx fr h1 := by rw [exec]
def asgS (p : Option (Mf × Mh)) : Ms := match p with
    | some p => .nx p.1 p.2
    | none => .err
theorem x_asgS (p : Mf × Mh) : asgS (some p) = .nx p.1 p.2 := rfl
theorem x_asg (tg c : C) : exec G (.asg tg c) fr h = (ev G c fr h).toS fr fun v h1 => asgS (asgX G tg v fr h1) := by
  rw [exec]
  rfl
theorem x_aug (i : Nat) (op : Operator) (c : C) (x : Mv) (e : fr[i]? = some (some x)) : exec G (.aug i op c) fr h = (ev G c fr h).toS fr fun y h1 => (opI op x y h1).toS fr fun z h2 => .nx (fr.set i (some z)) h2 := by
  rw [exec, e]
theorem x_ret (c : C) : exec G (.ret c) fr h = (ev G c fr h).toS fr fun v h1 => .rt v h1 := by rw [exec]
theorem x_retn : exec G .retn fr h = .rt .non h := by rw [exec]
theorem x_ite (t : C) (s u : S) : exec G (.ite t s u) fr h = (ev G t fr h).bool.toS fr fun b h1 => if b then exec G s fr h1 else exec G u fr h1 := by rw [exec]
theorem x_whl (t : C) (s : S) : exec G (.whl t s) fr h = loopW (fun fr h => (ev G t fr h).bool) (fun fr h => exec G s fr h) turns fr h := by rw [exec]
def forF (G : Sg) (tg : C) (s : S) (x : Mv) (fr : Mf) (h : Mh) : Ms := match asgM tg x fr with
      | some fr' => exec G s fr' h
      | none => .err
theorem x_forr (tg it : C) (s : S) : exec G (.forr tg it s) fr h = (ev G it fr h).toS fr fun v h1 => loopV (forF G tg s) v fr h1 := by
  rw [exec]
  rfl
theorem x_forF {tg : C} {s : S} {x : Mv} {fr' : Mf} (e : asgM tg x fr = some fr') : forF G tg s x fr h = exec G s fr' h := by
  unfold forF
  rw [e]
theorem x_brk : exec G .brk fr h = .bk fr h := by rw [exec]
theorem x_cnt : exec G .cnt fr h = .ct fr h := by rw [exec]
theorem x_rse (c : Str) (f : List Str) (a : C) : exec G (.rse c f a) fr h = (ev G a fr h).tups.toS fr fun ws h1 => if f.length = ws.length then .exc c (f.zip ws) fr h1 else .err := by rw [exec]
theorem wp_thn {r : Ms} {N : Mf → Mh → Prop} {R : Mv → Mh → Prop} {E : Str → List (Str × Mv) → Mh → Prop} {B C : Mf → Mh → Prop} (w : r.wp (fun fr h => (k fr h).wp N R E B C) R E B C) : (r.thn k).wp N R E B C := by
  cases r <;> exact w
theorem loopV_t (f : Mv → Mf → Mh → Ms) (xs : List Mv) : loopV f (.tup xs) fr h = loopL f xs fr h := rfl
theorem loopV_f (f : Mv → Mf → Mh → Ms) (xs : List Mv) : loopV f (.frl xs) fr h = loopL f xs fr h := rfl
/-- a list that the loop leaves alone -/
theorem loopN_L {f : Mv → Mf → Mh → Ms} {n : Nat} {xs : List Mv} {N : Mf → Mh → Prop} {R : Mv → Mh → Prop} {E : Str → List (Str × Mv) → Mh → Prop} {B C : Mf → Mh → Prop} (I : Nat → Mf → Mh → Prop)
    (hI : ∀ i fr h, I i fr h → h[n]? = some (.lst xs))
    (h1 : ∀ i x fr h, xs[i]? = some x → I i fr h → (f x fr h).wp (I (i + 1)) R E N (I (i + 1))) (h2 : ∀ fr h, I xs.length fr h → N fr h) : ∀ (k i : Nat) (fr : Mf) (h : Mh), i ≤ xs.length → xs.length ≤ i + k → I i fr h → (loopN f (.ref n) k i fr h).wp N R E B C
  | 0, i, fr, h, hi, hk, h0 => by
    unfold loopN
    have e := hI i fr h h0
    have e2 : itemsM (.ref n) h = some xs := by show (match h[n]? with | some (.lst xs) => some xs | _ => none) = _; rw [e]
    rw [e2]
    dsimp only
    have e3 : i = xs.length := by omega
    rw [List.getElem?_eq_none (by omega)]
    exact h2 fr h (by rw [← e3]; exact h0)
  | k + 1, i, fr, h, hi, hk, h0 => by
    unfold loopN
    have e := hI i fr h h0
    have e2 : itemsM (.ref n) h = some xs := by show (match h[n]? with | some (.lst xs) => some xs | _ => none) = _; rw [e]
    rw [e2]
    dsimp only
    by_cases hlt : i < xs.length
    · rw [List.getElem?_eq_getElem hlt]
      dsimp only
      have s := h1 i _ fr h (List.getElem?_eq_getElem hlt) h0
      cases q : f xs[i] fr h with
      | nx fr' h' => rw [q] at s; exact loopN_L I hI h1 h2 k (i + 1) fr' h' hlt (by omega) s
      | ct fr' h' => rw [q] at s; exact loopN_L I hI h1 h2 k (i + 1) fr' h' hlt (by omega) s
      | bk fr' h' => rw [q] at s; exact s
      | rt v h' => rw [q] at s; exact s
      | exc c p fr' h' => rw [q] at s; exact s
      | err => rw [q] at s; exact s.elim
    · have e3 : i = xs.length := by omega
      rw [List.getElem?_eq_none (by omega)]
      exact h2 fr h (by rw [← e3]; exact h0)
end
theorem eq_of_wp {r : Mr Mv} {a : Mv} {m : Mh} (w : r.wp fun v h => v = a ∧ h = m) : r = .ok a m := by
  cases r with
  | ok v h => obtain ⟨rfl, rfl⟩ := w; rfl
  | exc c p h => exact w.elim
  | err => exact w.elim
theorem compL_map {α : Type} {e : α → Mv} {f : Mf → Mh → Mr (Option Mv)} {tg : C} {fr : Mf} {h : Mh} (g : α → Option Mv) : ∀ (l : List α), (∀ a ∈ l, ∃ fr', asgM tg (e a) fr = some fr' ∧ f fr' h = .ok (g a) h) → compL f tg fr (l.map e) h = .ok (l.filterMap g) h
  | [], _ => rfl
  | x :: xs, h1 => by
    obtain ⟨fr', e1, s⟩ := h1 x (List.mem_cons_self ..)
    rw [List.map_cons]
    unfold compL
    rw [e1]
    dsimp only
    rw [s]
    have ih := compL_map (e := e) (f := f) (tg := tg) (fr := fr) (h := h) g xs fun y hy => h1 y (List.mem_cons_of_mem _ hy)
    show Mr.bind (compL f tg fr (xs.map e) h) _ = _
    rw [ih, List.filterMap_cons]
    cases g x <;> rfl
theorem q_alloc (o : Mo) (h : Mh) : alloc o h = .ok (.ref h.length) (h ++ [o]) := rfl
theorem q_new (h : Mh) (o : Mo) : (h ++ [o])[h.length]? = some o := by
  rw [List.getElem?_append_right (Nat.le_refl _), Nat.sub_self]; rfl
theorem q_tupnew (h : Mh) (xs : List Mv) : bltM "tuple" [.ref h.length] (h ++ [.lst xs]) = .ok (.tup xs) (h ++ [.lst xs]) := q_tupr (q_new h _)
theorem q_allnew (h : Mh) (bs : List Bool) : bltM "all" [.ref h.length] (h ++ [.lst (bs.map .bl)]) = .ok (.bl (bs.all id)) (h ++ [.lst (bs.map .bl)]) := q_all (q_new h _)
theorem q_sumnew (h : Mh) (ns : List Int) : bltM "sum" [.ref h.length] (h ++ [.lst (ns.map .int)]) = .ok (.int ns.sum) (h ++ [.lst (ns.map .int)]) := q_sum (q_new h _)
theorem filter_map {α β : Type} (p : α → Bool) (e : α → β) (l : List α) : (l.filterMap fun a => if p a = true then some (e a) else none) = (l.filter p).map e := by
  induction l with
  | nil => rfl
  | cons a l ih =>
    rw [List.filterMap_cons, List.filter_cons]
    by_cases h : p a = true
    · rw [if_pos h, if_pos h, ih]; rfl
    · rw [if_neg h, if_neg h, ih]
theorem some_map {α β : Type} (e : α → β) (l : List α) : (l.filterMap fun a => some (e a)) = l.map e := by
  induction l with
  | nil => rfl
  | cons a l ih => rw [List.filterMap_cons, ih]; rfl
theorem q_itt (xs : List Mv) (h : Mh) : itemsM (.tup xs) h = some xs := rfl
theorem q_itf (xs : List Mv) (h : Mh) : itemsM (.frl xs) h = some xs := rfl
theorem q_itr {xs : List Mv} {n : Nat} {h : Mh} (e : h[n]? = some (.lst xs)) : itemsM (.ref n) h = some xs := by
  show (match h[n]? with | some (.lst xs) => some xs | _ => none) = _
  rw [e]
theorem q_compt (f : Mf → Mh → Mr (Option Mv)) (tg : C) (fr : Mf) (xs : List Mv) (h : Mh) : compV f tg fr (.tup xs) h = if xs.length ≤ line then compL f tg fr xs h else .err := rfl
theorem q_compf (f : Mf → Mh → Mr (Option Mv)) (tg : C) (fr : Mf) (xs : List Mv) (h : Mh) : compV f tg fr (.frl xs) h = if xs.length ≤ line then compL f tg fr xs h else .err := rfl
theorem q_compr (f : Mf → Mh → Mr (Option Mv)) (tg : C) (fr : Mf) {xs : List Mv} {n : Nat} {h : Mh} (e : h[n]? = some (.lst xs)) : compV f tg fr (.ref n) h = if xs.length ≤ line then liveL f tg fr (.ref n) xs.length 0 h else .err := by
  show (match itemsM (.ref n) h with | some xs => (if xs.length ≤ line then liveL f tg fr (.ref n) xs.length 0 h else .err) | none => .err) = _
  rw [q_itr e]
theorem loopV_r (f : Mv → Mf → Mh → Ms) {xs : List Mv} {n : Nat} {fr : Mf} {h : Mh} (e : h[n]? = some (.lst xs)) : loopV f (.ref n) fr h = loopN f (.ref n) (xs.length + grows) 0 fr h := by
  show (match itemsM (.ref n) h with | some xs => loopN f (.ref n) (xs.length + grows) 0 fr h | none => .err) = _
  rw [q_itr e]
/-- a for loop over a list of the heap that the loop leaves alone -/
theorem loopR_wp {f : Mv → Mf → Mh → Ms} {n : Nat} {xs : List Mv} {N : Mf → Mh → Prop} {R : Mv → Mh → Prop} {E : Str → List (Str × Mv) → Mh → Prop} {B C : Mf → Mh → Prop} (I : Nat → Mf → Mh → Prop) {fr : Mf} {h : Mh} (e : h[n]? = some (.lst xs))
    (hI : ∀ i fr h, I i fr h → h[n]? = some (.lst xs))
    (h1 : ∀ i x fr h, xs[i]? = some x → I i fr h → (f x fr h).wp (I (i + 1)) R E N (I (i + 1))) (h0 : I 0 fr h) (h2 : ∀ fr h, I xs.length fr h → N fr h) : (loopV f (.ref n) fr h).wp N R E B C := by
  rw [loopV_r f e]
  exact loopN_L I hI h1 h2 _ 0 fr h (Nat.zero_le _) (by omega) h0
theorem q_pow {i j : Int} {h : Mh} (hb : 0 ≤ j ∧ j ≤ 1000000 ∧ i.natAbs < 2 ^ 64) : opB .Pow (.int i) (.int j) h = .ok (.int (i ^ j.toNat)) h := by
  show (if 0 ≤ j ∧ j ≤ 1000000 ∧ i.natAbs < 2 ^ 64 then _ else _) = _
  rw [if_pos hb]
theorem liveL_map {α : Type} {e : α → Mv} {f : Mf → Mh → Mr (Option Mv)} {tg : C} {fr : Mf} {h : Mh} {w : Mv} (g : α → Option Mv) {l : List α} (hw : itemsM w h = some (l.map e)) (h1 : ∀ a ∈ l, ∃ fr', asgM tg (e a) fr = some fr' ∧ f fr' h = .ok (g a) h) : ∀ (k i : Nat), i + k = l.length → liveL f tg fr w k i h = .ok ((l.drop i).filterMap g) h
  | 0, i, q => by
    unfold liveL
    rw [hw]
    dsimp only
    rw [List.getElem?_eq_none (by rw [List.length_map]; omega), List.drop_eq_nil_of_le (by omega)]
    rfl
  | k + 1, i, q => by
    have hi : i < l.length := by omega
    unfold liveL
    rw [hw]
    dsimp only
    rw [List.getElem?_map, List.getElem?_eq_getElem hi, List.drop_eq_getElem_cons hi]
    obtain ⟨fr', e1, s⟩ := h1 l[i] (List.getElem_mem hi)
    show (match asgM tg (e l[i]) fr with | none => Mr.err | some fr' => (f fr' h).cm.bind fun y h1 => (liveL f tg fr w k (i + 1) h1).bind fun ys h2 => .ok (match y with | some y => y :: ys | none => ys) h2) = _
    rw [e1]
    dsimp only
    rw [s]
    show Mr.bind (liveL f tg fr w k (i + 1) h) _ = _
    rw [liveL_map g hw h1 k (i + 1) (by omega), List.filterMap_cons]
    cases g l[i] <;> rfl
theorem compR_map {α : Type} {e : α → Mv} {f : Mf → Mh → Mr (Option Mv)} {tg : C} {fr : Mf} {h : Mh} {n : Nat} (g : α → Option Mv) {l : List α} (hw : h[n]? = some (.lst (l.map e))) (hl : l.length ≤ line) (h1 : ∀ a ∈ l, ∃ fr', asgM tg (e a) fr = some fr' ∧ f fr' h = .ok (g a) h) : compV f tg fr (.ref n) h = .ok (l.filterMap g) h := by
  rw [q_compr f tg fr hw, if_pos (by rw [List.length_map]; exact hl), liveL_map g (q_itr hw) h1 _ 0 (by rw [List.length_map]; omega)]
  rfl
end MP

/-! what the program's defs do -/
namespace MP
open PySem PySem.Spec PyProof.Rows L2 MPB
/-! ### words -/
def letterB (v : Int) : Bool := decide (1 ≤ v) && decide (v ≤ 9)
def wordB (w : List Int) : Bool := decide (w.length ≤ 40) && w.all letterB
theorem ok_is_between (G : Sg) (v a b : Int) (h : Mh) : runM G 3 b_is_between [.int v, .int a, .int b] h = .ok (.bl (decide (a ≤ v) && decide (v ≤ b))) h := by
  unfold runM b_is_between
  simp only [frameM, x_seq, x_skip, x_exp, x_asg, x_asgS, x_ret, x_retn, x_ite, x_whl, x_forr, x_brk, x_cnt, x_rse, n_nx, n_rt, n_bk, n_ct, n_exc, n_ite, loopV_t, loopV_f, ev, asgX, asgM, wipeM, varsOf, List.map_cons, List.map_nil, List.length_cons, List.length_nil, List.replicate, List.cons_append, List.nil_append, List.append_nil, List.getElem?_cons_zero, List.getElem?_cons_succ, List.set_cons_zero, List.set_cons_succ, Option.bind_some, q_bind, q_bindx, q_bool, q_tups, q_toS, q_toSx, q_some, q_and, q_or, q_cm, q_finr, q_finn, q_finx, q_trub, q_trui, q_trun, q_map, q_add, q_sub, q_lt, q_le, q_gt, q_ge, q_eqi, q_nei, q_eqs, q_nes, q_isnn, q_isni, q_isnt, q_isnr, q_notnn, q_notni, q_notnt, q_notnr, q_eqt, q_net, q_isi1, q_isi2, q_isi3, q_isi4, q_isi5, q_isi6, q_isi7, q_isi8, q_isi9, q_lent, q_lenf, q_inti, q_intb, q_abs, q_max, q_min, q_tupt, q_listt, q_sl, q_slf, Bool.not_true, Bool.not_false, Bool.true_and, Bool.and_true, Bool.false_and, Bool.false_or, Bool.or_false, Bool.true_or, if_true, if_false, line, pick, Option.toList, q_alloc, q_itt, q_itf, q_compt, q_compf, q_tupnew, Nat.reduceAdd, Nat.reduceLeDiff, Nat.zero_add, Bool.false_eq_true]
def SpBetween (G : Sg) : Prop := ∀ v a b h, G.ph "is_between" [.int v, .int a, .int b] h = .ok (.bl (decide (a ≤ v) && decide (v ≤ b))) h
theorem ok_is_letter (G : Sg) (hb : SpBetween G) (hc : G.cst "MOST_LETTER" = some (.int 9)) (v : Int) (h : Mh) : runM G 1 b_is_letter [.int v] h = .ok (.bl (letterB v)) h := by
  unfold runM b_is_letter
  simp only [frameM, x_seq, x_skip, x_exp, x_asg, x_asgS, x_ret, x_retn, x_ite, x_whl, x_forr, x_brk, x_cnt, x_rse, n_nx, n_rt, n_bk, n_ct, n_exc, n_ite, loopV_t, loopV_f, ev, asgX, asgM, wipeM, varsOf, List.map_cons, List.map_nil, List.length_cons, List.length_nil, List.replicate, List.cons_append, List.nil_append, List.append_nil, List.getElem?_cons_zero, List.getElem?_cons_succ, List.set_cons_zero, List.set_cons_succ, Option.bind_some, q_bind, q_bindx, q_bool, q_tups, q_toS, q_toSx, q_some, q_and, q_or, q_cm, q_finr, q_finn, q_finx, q_trub, q_trui, q_trun, q_map, q_add, q_sub, q_lt, q_le, q_gt, q_ge, q_eqi, q_nei, q_eqs, q_nes, q_isnn, q_isni, q_isnt, q_isnr, q_notnn, q_notni, q_notnt, q_notnr, q_eqt, q_net, q_isi1, q_isi2, q_isi3, q_isi4, q_isi5, q_isi6, q_isi7, q_isi8, q_isi9, q_lent, q_lenf, q_inti, q_intb, q_abs, q_max, q_min, q_tupt, q_listt, q_sl, q_slf, Bool.not_true, Bool.not_false, Bool.true_and, Bool.and_true, Bool.false_and, Bool.false_or, Bool.or_false, Bool.true_or, if_true, if_false, line, pick, Option.toList, q_alloc, q_itt, q_itf, q_compt, q_compf, q_tupnew, Nat.reduceAdd, Nat.reduceLeDiff, Nat.zero_add, Bool.false_eq_true, hb _ _ _ _, hc]
  rfl
def SpLetter (G : Sg) : Prop := ∀ v h, G.ph "is_letter" [.int v] h = .ok (.bl (letterB v)) h
/-- the first place that is no letter's -/
def wrongI : List Int → Nat → Option Nat
  | [], _ => none
  | x :: r, k => if letterB x then wrongI r (k + 1) else some k
def emN : Option Nat → Mv
  | none => .non
  | some k => .int k
theorem wrongI_cons (x : Int) (r : List Int) (k : Nat) : wrongI (x :: r) k = if letterB x then wrongI r (k + 1) else some k := rfl
theorem wrongI_none {w : List Int} (hw : w.all letterB = true) : ∀ k, wrongI w k = none := by
  induction w with
  | nil => intro k; rfl
  | cons x r ih =>
    intro k
    rw [List.all_cons, Bool.and_eq_true] at hw
    unfold wrongI
    rw [if_pos hw.1]
    exact ih hw.2 _
theorem enu_get {xs : List Mv} {i : Nat} {x : Mv} (e : (xs.zipIdx.map fun p => Mv.tup [.int (p.2 : Nat), p.1])[i]? = some x) : ∃ y, xs[i]? = some y ∧ x = .tup [.int (i : Nat), y] := by
  rw [List.getElem?_map, List.getElem?_zipIdx] at e
  cases q : xs[i]? with
  | none => rw [q] at e; cases e
  | some y =>
    rw [q] at e
    cases e
    exact ⟨y, rfl, by simp⟩
theorem map_get {α : Type} {f : α → Mv} {xs : List α} {i : Nat} {x : Mv} (e : (xs.map f)[i]? = some x) : ∃ y, xs[i]? = some y ∧ x = f y := by
  rw [List.getElem?_map] at e
  cases q : xs[i]? with
  | none => rw [q] at e; cases e
  | some y => rw [q] at e; cases e; exact ⟨y, rfl, rfl⟩
theorem rng_get {n i : Nat} {x : Mv} (e : ((List.range n).map fun (m : Nat) => Mv.int (m : Int))[i]? = some x) : i < n ∧ x = .int (i : Int) := by
  obtain ⟨y, h1, h2⟩ := map_get e
  have := List.getElem?_eq_some_iff.mp h1
  obtain ⟨h3, h4⟩ := this
  rw [List.getElem_range] at h4
  subst h4
  exact ⟨by simpa using h3, h2⟩
theorem drop_get {α : Type} {xs : List α} {i : Nat} {y : α} (e : xs[i]? = some y) : xs.drop i = y :: xs.drop (i + 1) := by
  obtain ⟨h, rfl⟩ := List.getElem?_eq_some_iff.mp e
  exact List.drop_eq_getElem_cons h
theorem ok_wrong_letter (G : Sg) (hl : SpLetter G) (w : List Int) (h : Mh) : runM G 3 b_wrong_letter [ofInts w] h = .ok (emN (wrongI w 0)) h := by
  unfold runM b_wrong_letter ofInts
  simp only [frameM, x_seq, x_skip, x_exp, x_asg, x_asgS, x_ret, x_retn, x_ite, x_whl, x_forr, x_brk, x_cnt, x_rse, n_nx, n_rt, n_bk, n_ct, n_exc, n_ite, loopV_t, loopV_f, ev, asgX, asgM, wipeM, varsOf, List.map_cons, List.map_nil, List.length_cons, List.length_nil, List.replicate, List.cons_append, List.nil_append, List.append_nil, List.getElem?_cons_zero, List.getElem?_cons_succ, List.set_cons_zero, List.set_cons_succ, Option.bind_some, q_bind, q_bindx, q_bool, q_tups, q_toS, q_toSx, q_some, q_and, q_or, q_cm, q_finr, q_finn, q_finx, q_trub, q_trui, q_trun, q_map, q_add, q_sub, q_lt, q_le, q_gt, q_ge, q_eqi, q_nei, q_eqs, q_nes, q_isnn, q_isni, q_isnt, q_isnr, q_notnn, q_notni, q_notnt, q_notnr, q_eqt, q_net, q_isi1, q_isi2, q_isi3, q_isi4, q_isi5, q_isi6, q_isi7, q_isi8, q_isi9, q_lent, q_lenf, q_inti, q_intb, q_abs, q_max, q_min, q_tupt, q_listt, q_sl, q_slf, Bool.not_true, Bool.not_false, Bool.true_and, Bool.and_true, Bool.false_and, Bool.false_or, Bool.or_false, Bool.true_or, if_true, if_false, line, pick, Option.toList, q_alloc, q_itt, q_itf, q_compt, q_compf, q_tupnew, Nat.reduceAdd, Nat.reduceLeDiff, Nat.zero_add, Bool.false_eq_true, enuM]
  refine eq_of_wp (wp_fin (wp_thn (loopL_wp (fun k fr m => m = h ∧ (∃ a b, fr = [some (.tup (w.map .int)), a, b]) ∧ wrongI (w.drop k) k = wrongI w 0) _ 0 _ h ?_ ⟨rfl, ⟨none, none, rfl⟩, rfl⟩ ?_)))
  · rintro i x fr m e ⟨rfl, ⟨a, b, rfl⟩, hk⟩
    rw [Nat.zero_add] at hk ⊢
    obtain ⟨y, hy, rfl⟩ := enu_get e
    obtain ⟨z, hz, rfl⟩ := map_get hy
    rw [x_forF (fr' := [some (.tup (w.map .int)), some (.int (i : Nat)), some (.int z)]) (by simp only [frameM, x_seq, x_skip, x_exp, x_asg, x_asgS, x_ret, x_retn, x_ite, x_whl, x_forr, x_brk, x_cnt, x_rse, n_nx, n_rt, n_bk, n_ct, n_exc, n_ite, loopV_t, loopV_f, ev, asgX, asgM, wipeM, varsOf, List.map_cons, List.map_nil, List.length_cons, List.length_nil, List.replicate, List.cons_append, List.nil_append, List.append_nil, List.getElem?_cons_zero, List.getElem?_cons_succ, List.set_cons_zero, List.set_cons_succ, Option.bind_some, q_bind, q_bindx, q_bool, q_tups, q_toS, q_toSx, q_some, q_and, q_or, q_cm, q_finr, q_finn, q_finx, q_trub, q_trui, q_trun, q_map, q_add, q_sub, q_lt, q_le, q_gt, q_ge, q_eqi, q_nei, q_eqs, q_nes, q_isnn, q_isni, q_isnt, q_isnr, q_notnn, q_notni, q_notnt, q_notnr, q_eqt, q_net, q_isi1, q_isi2, q_isi3, q_isi4, q_isi5, q_isi6, q_isi7, q_isi8, q_isi9, q_lent, q_lenf, q_inti, q_intb, q_abs, q_max, q_min, q_tupt, q_listt, q_sl, q_slf, Bool.not_true, Bool.not_false, Bool.true_and, Bool.and_true, Bool.false_and, Bool.false_or, Bool.or_false, Bool.true_or, if_true, if_false, line, pick, Option.toList, q_alloc, q_itt, q_itf, q_compt, q_compf, q_tupnew, Nat.reduceAdd, Nat.reduceLeDiff, Nat.zero_add, Bool.false_eq_true])]
    rw [drop_get hz, wrongI_cons] at hk
    simp only [frameM, x_seq, x_skip, x_exp, x_asg, x_asgS, x_ret, x_retn, x_ite, x_whl, x_forr, x_brk, x_cnt, x_rse, n_nx, n_rt, n_bk, n_ct, n_exc, n_ite, loopV_t, loopV_f, ev, asgX, asgM, wipeM, varsOf, List.map_cons, List.map_nil, List.length_cons, List.length_nil, List.replicate, List.cons_append, List.nil_append, List.append_nil, List.getElem?_cons_zero, List.getElem?_cons_succ, List.set_cons_zero, List.set_cons_succ, Option.bind_some, q_bind, q_bindx, q_bool, q_tups, q_toS, q_toSx, q_some, q_and, q_or, q_cm, q_finr, q_finn, q_finx, q_trub, q_trui, q_trun, q_map, q_add, q_sub, q_lt, q_le, q_gt, q_ge, q_eqi, q_nei, q_eqs, q_nes, q_isnn, q_isni, q_isnt, q_isnr, q_notnn, q_notni, q_notnt, q_notnr, q_eqt, q_net, q_isi1, q_isi2, q_isi3, q_isi4, q_isi5, q_isi6, q_isi7, q_isi8, q_isi9, q_lent, q_lenf, q_inti, q_intb, q_abs, q_max, q_min, q_tupt, q_listt, q_sl, q_slf, Bool.not_true, Bool.not_false, Bool.true_and, Bool.and_true, Bool.false_and, Bool.false_or, Bool.or_false, Bool.true_or, if_true, if_false, line, pick, Option.toList, q_alloc, q_itt, q_itf, q_compt, q_compf, q_tupnew, Nat.reduceAdd, Nat.reduceLeDiff, Nat.zero_add, Bool.false_eq_true, hl z m]
    cases q : letterB z with
    | true =>
      rw [q, if_pos rfl] at hk
      exact ⟨rfl, ⟨_, _, rfl⟩, hk⟩
    | false =>
      rw [q, if_neg Bool.false_ne_true] at hk
      rw [← hk]
      exact ⟨rfl, rfl⟩
  · rintro fr m ⟨rfl, ⟨a, b, rfl⟩, hk⟩
    simp only [frameM, x_seq, x_skip, x_exp, x_asg, x_asgS, x_ret, x_retn, x_ite, x_whl, x_forr, x_brk, x_cnt, x_rse, n_nx, n_rt, n_bk, n_ct, n_exc, n_ite, loopV_t, loopV_f, ev, asgX, asgM, wipeM, varsOf, List.map_cons, List.map_nil, List.length_cons, List.length_nil, List.replicate, List.cons_append, List.nil_append, List.append_nil, List.getElem?_cons_zero, List.getElem?_cons_succ, List.set_cons_zero, List.set_cons_succ, Option.bind_some, q_bind, q_bindx, q_bool, q_tups, q_toS, q_toSx, q_some, q_and, q_or, q_cm, q_finr, q_finn, q_finx, q_trub, q_trui, q_trun, q_map, q_add, q_sub, q_lt, q_le, q_gt, q_ge, q_eqi, q_nei, q_eqs, q_nes, q_isnn, q_isni, q_isnt, q_isnr, q_notnn, q_notni, q_notnt, q_notnr, q_eqt, q_net, q_isi1, q_isi2, q_isi3, q_isi4, q_isi5, q_isi6, q_isi7, q_isi8, q_isi9, q_lent, q_lenf, q_inti, q_intb, q_abs, q_max, q_min, q_tupt, q_listt, q_sl, q_slf, Bool.not_true, Bool.not_false, Bool.true_and, Bool.and_true, Bool.false_and, Bool.false_or, Bool.or_false, Bool.true_or, if_true, if_false, line, pick, Option.toList, q_alloc, q_itt, q_itf, q_compt, q_compf, q_tupnew, Nat.reduceAdd, Nat.reduceLeDiff, Nat.zero_add, Bool.false_eq_true]
    rw [List.length_map, List.length_zipIdx, List.length_map, Nat.zero_add, List.drop_length] at hk
    rw [← hk]
    exact ⟨rfl, rfl⟩
def SpWrong (G : Sg) : Prop := ∀ w h, G.ph "wrong_letter" [ofInts w] h = .ok (emN (wrongI w 0)) h
theorem ok_check_word (G : Sg) (hw : SpWrong G) (hc : G.cst "MOST_WORD" = some (.int 40)) (w : List Int) (h : Mh) (hv : wordB w = true) : runM G 2 b_check_word [ofInts w] h = .ok .non h := by
  unfold wordB at hv
  rw [Bool.and_eq_true, decide_eq_true_eq] at hv
  have e1 := hw w h
  rw [wrongI_none hv.2] at e1
  unfold ofInts at e1
  unfold runM b_check_word ofInts
  simp only [frameM, x_seq, x_skip, x_exp, x_asg, x_asgS, x_ret, x_retn, x_ite, x_whl, x_forr, x_brk, x_cnt, x_rse, n_nx, n_rt, n_bk, n_ct, n_exc, n_ite, loopV_t, loopV_f, ev, asgX, asgM, wipeM, varsOf, List.map_cons, List.map_nil, List.length_cons, List.length_nil, List.replicate, List.cons_append, List.nil_append, List.append_nil, List.getElem?_cons_zero, List.getElem?_cons_succ, List.set_cons_zero, List.set_cons_succ, Option.bind_some, q_bind, q_bindx, q_bool, q_tups, q_toS, q_toSx, q_some, q_and, q_or, q_cm, q_finr, q_finn, q_finx, q_trub, q_trui, q_trun, q_map, q_add, q_sub, q_lt, q_le, q_gt, q_ge, q_eqi, q_nei, q_eqs, q_nes, q_isnn, q_isni, q_isnt, q_isnr, q_notnn, q_notni, q_notnt, q_notnr, q_eqt, q_net, q_isi1, q_isi2, q_isi3, q_isi4, q_isi5, q_isi6, q_isi7, q_isi8, q_isi9, q_lent, q_lenf, q_inti, q_intb, q_abs, q_max, q_min, q_tupt, q_listt, q_sl, q_slf, Bool.not_true, Bool.not_false, Bool.true_and, Bool.and_true, Bool.false_and, Bool.false_or, Bool.or_false, Bool.true_or, if_true, if_false, line, pick, Option.toList, q_alloc, q_itt, q_itf, q_compt, q_compf, q_tupnew, Nat.reduceAdd, Nat.reduceLeDiff, Nat.zero_add, Bool.false_eq_true, hc, e1, emN, List.length_map]
  rw [if_neg (by simp; omega)]
  rfl
def SpCheck (G : Sg) : Prop := ∀ w h, wordB w = true → G.ph "check_word" [ofInts w] h = .ok .non h
/-! ### exchanges -/
/-- an exchange at a place -/
def aft (w : List Int) (p : Nat) : Option (List Int) := match (w.drop p).take 3 with
  | [a, b, c] => if (decide (b < a) && decide (a ≤ c)) || (decide (c < a) && decide (a ≤ b)) then some (w.take p ++ [a, c, b] ++ w.drop (p + 3))
    else if (decide (a ≤ c) && decide (c < b)) || (decide (b ≤ c) && decide (c < a)) then some (w.take p ++ [b, a, c] ++ w.drop (p + 3)) else none
  | _ => none
def emW : Option (List Int) → Mv
  | none => .non
  | some w => ofInts w
theorem three {w : List Int} {p : Nat} (hp : p + 3 ≤ w.length) : ∃ a b c, (w.drop p).take 3 = [a, b, c] := by
  have hl : ((w.drop p).take 3).length = 3 := by rw [List.length_take, List.length_drop]; omega
  match (w.drop p).take 3, hl with
  | [a, b, c], _ => exact ⟨a, b, c, rfl⟩
theorem ok_after_exchange (G : Sg) (w : List Int) (p : Nat) (h : Mh) (hp : p + 3 ≤ w.length) (hl : w.length ≤ 1000) : runM G 5 b_after_exchange [ofInts w, .int p] h = .ok (emW (aft w p)) h := by
  obtain ⟨a, b, c, e3⟩ := three hp
  have ec : cutM (w.map Mv.int) (some (p : Int)) (some ((p : Int) + 3)) = [.int a, .int b, .int c] := by
    have := cut_nat (w.map Mv.int) p (p + 3)
    rw [show ((p + 3 : Nat) : Int) = (p : Int) + 3 by omega] at this
    rw [this, ← List.map_drop, ← List.map_take, show p + 3 - p = 3 by omega, e3]; rfl
  have e1 : cutM (w.map Mv.int) none (some (p : Int)) = (w.take p).map .int := by rw [cut_to, List.map_take]
  have e2 : cutM (w.map Mv.int) (some ((p : Int) + 3)) none = (w.drop (p + 3)).map .int := by
    have := cut_from (w.map Mv.int) (p + 3)
    rw [show ((p + 3 : Nat) : Int) = (p : Int) + 3 by omega] at this
    rw [this, List.map_drop]
  have cat : ∀ (x y z : Int), (opB .Add (.tup ((w.take p).map .int)) (.tup [.int x, .int y, .int z]) h).bind (fun u h2 => opB .Add u (.tup ((w.drop (p + 3)).map .int)) h2) = .ok (ofInts (w.take p ++ [x, y, z] ++ w.drop (p + 3))) h := fun x y z => by
    rw [q_catt (by simp only [List.length_map, List.length_take, List.length_cons, List.length_nil]; unfold line; omega), q_bind, q_catt (by simp only [List.length_append, List.length_map, List.length_take, List.length_drop, List.length_cons, List.length_nil]; unfold line; omega)]
    simp [ofInts]
  unfold runM b_after_exchange ofInts
  unfold aft
  rw [e3]
  simp only [frameM, x_seq, x_skip, x_exp, x_asg, x_asgS, x_ret, x_retn, x_ite, x_whl, x_forr, x_brk, x_cnt, x_rse, n_nx, n_rt, n_bk, n_ct, n_exc, n_ite, loopV_t, loopV_f, ev, asgX, asgM, wipeM, varsOf, List.map_cons, List.map_nil, List.length_cons, List.length_nil, List.replicate, List.cons_append, List.nil_append, List.append_nil, List.getElem?_cons_zero, List.getElem?_cons_succ, List.set_cons_zero, List.set_cons_succ, Option.bind_some, q_bind, q_bindx, q_bool, q_tups, q_toS, q_toSx, q_some, q_and, q_or, q_cm, q_finr, q_finn, q_finx, q_trub, q_trui, q_trun, q_map, q_add, q_sub, q_lt, q_le, q_gt, q_ge, q_eqi, q_nei, q_eqs, q_nes, q_isnn, q_isni, q_isnt, q_isnr, q_notnn, q_notni, q_notnt, q_notnr, q_eqt, q_net, q_isi1, q_isi2, q_isi3, q_isi4, q_isi5, q_isi6, q_isi7, q_isi8, q_isi9, q_lent, q_lenf, q_inti, q_intb, q_abs, q_max, q_min, q_tupt, q_listt, q_sl, q_slf, Bool.not_true, Bool.not_false, Bool.true_and, Bool.and_true, Bool.false_and, Bool.false_or, Bool.or_false, Bool.true_or, if_true, if_false, line, pick, Option.toList, q_alloc, q_itt, q_itf, q_compt, q_compf, q_tupnew, Nat.reduceAdd, Nat.reduceLeDiff, Nat.zero_add, Bool.false_eq_true, ec, e1, e2, cat]
  split
  · rfl
  · split <;> rfl
def SpAfter (G : Sg) : Prop := ∀ (w : List Int) (p : Nat) h, p + 3 ≤ w.length → w.length ≤ 1000 → G.ph "after_exchange" [ofInts w, .int p] h = .ok (emW (aft w p)) h
theorem emW_not (o : Option (List Int)) (h : Mh) : opC .IsNot (emW o) .non h = .ok o.isSome h := by cases o <;> rfl
theorem ok_has_exchange (G : Sg) (hb : SpBetween G) (ha : SpAfter G) (w : List Int) (p : Nat) (h : Mh) (hp : p + 3 ≤ w.length) (hl : w.length ≤ 1000) : runM G 2 b_has_exchange [ofInts w, .int p] h = .ok (.bl (aft w p).isSome) h := by
  have e1 := hb p 0 ((w.length : Int) - 3) h
  rw [decide_eq_true (by omega), decide_eq_true (by omega)] at e1
  have e2 := ha w p h hp hl
  unfold ofInts at e2
  unfold runM b_has_exchange ofInts
  simp only [frameM, x_seq, x_skip, x_exp, x_asg, x_asgS, x_ret, x_retn, x_ite, x_whl, x_forr, x_brk, x_cnt, x_rse, n_nx, n_rt, n_bk, n_ct, n_exc, n_ite, loopV_t, loopV_f, ev, asgX, asgM, wipeM, varsOf, List.map_cons, List.map_nil, List.length_cons, List.length_nil, List.replicate, List.cons_append, List.nil_append, List.append_nil, List.getElem?_cons_zero, List.getElem?_cons_succ, List.set_cons_zero, List.set_cons_succ, Option.bind_some, q_bind, q_bindx, q_bool, q_tups, q_toS, q_toSx, q_some, q_and, q_or, q_cm, q_finr, q_finn, q_finx, q_trub, q_trui, q_trun, q_map, q_add, q_sub, q_lt, q_le, q_gt, q_ge, q_eqi, q_nei, q_eqs, q_nes, q_isnn, q_isni, q_isnt, q_isnr, q_notnn, q_notni, q_notnt, q_notnr, q_eqt, q_net, q_isi1, q_isi2, q_isi3, q_isi4, q_isi5, q_isi6, q_isi7, q_isi8, q_isi9, q_lent, q_lenf, q_inti, q_intb, q_abs, q_max, q_min, q_tupt, q_listt, q_sl, q_slf, Bool.not_true, Bool.not_false, Bool.true_and, Bool.and_true, Bool.false_and, Bool.false_or, Bool.or_false, Bool.true_or, if_true, if_false, line, pick, Option.toList, q_alloc, q_itt, q_itf, q_compt, q_compf, q_tupnew, Nat.reduceAdd, Nat.reduceLeDiff, Nat.zero_add, Bool.false_eq_true, List.length_map, e1, e2, emW_not]
def SpHas (G : Sg) : Prop := ∀ (w : List Int) (p : Nat) h, p + 3 ≤ w.length → w.length ≤ 1000 → G.ph "has_exchange" [ofInts w, .int p] h = .ok (.bl (aft w p).isSome) h
theorem ok_exchanged (G : Sg) (hc : SpCheck G) (hh : SpHas G) (ha : SpAfter G) (w v : List Int) (p : Nat) (h : Mh) (hw : wordB w = true) (hp : p + 3 ≤ w.length) (hv : aft w p = some v) : runM G 2 b_exchanged [ofInts w, .int p] h = .ok (ofInts v) h := by
  have hl : w.length ≤ 1000 := by unfold wordB at hw; simp at hw; omega
  have e0 := hc w h hw
  have e1 := hh w p h hp hl
  have e2 := ha w p h hp hl
  rw [hv] at e1 e2
  unfold ofInts at e0 e1 e2
  unfold runM b_exchanged ofInts
  simp only [frameM, x_seq, x_skip, x_exp, x_asg, x_asgS, x_ret, x_retn, x_ite, x_whl, x_forr, x_brk, x_cnt, x_rse, n_nx, n_rt, n_bk, n_ct, n_exc, n_ite, loopV_t, loopV_f, ev, asgX, asgM, wipeM, varsOf, List.map_cons, List.map_nil, List.length_cons, List.length_nil, List.replicate, List.cons_append, List.nil_append, List.append_nil, List.getElem?_cons_zero, List.getElem?_cons_succ, List.set_cons_zero, List.set_cons_succ, Option.bind_some, q_bind, q_bindx, q_bool, q_tups, q_toS, q_toSx, q_some, q_and, q_or, q_cm, q_finr, q_finn, q_finx, q_trub, q_trui, q_trun, q_map, q_add, q_sub, q_lt, q_le, q_gt, q_ge, q_eqi, q_nei, q_eqs, q_nes, q_isnn, q_isni, q_isnt, q_isnr, q_notnn, q_notni, q_notnt, q_notnr, q_eqt, q_net, q_isi1, q_isi2, q_isi3, q_isi4, q_isi5, q_isi6, q_isi7, q_isi8, q_isi9, q_lent, q_lenf, q_inti, q_intb, q_abs, q_max, q_min, q_tupt, q_listt, q_sl, q_slf, Bool.not_true, Bool.not_false, Bool.true_and, Bool.and_true, Bool.false_and, Bool.false_or, Bool.or_false, Bool.true_or, if_true, if_false, line, pick, Option.toList, q_alloc, q_itt, q_itf, q_compt, q_compf, q_tupnew, Nat.reduceAdd, Nat.reduceLeDiff, Nat.zero_add, Bool.false_eq_true, e0, e1, e2, emW, Option.isSome_some]
  rfl
def SpExchanged (G : Sg) : Prop := ∀ (w v : List Int) (p : Nat) h, wordB w = true → p + 3 ≤ w.length → aft w p = some v → G.ph "exchanged" [ofInts w, .int p] h = .ok (ofInts v) h
/-- all places -/
def placesI (w : List Int) : List Nat := (List.range (w.length - 2)).filter fun p => (aft w p).isSome
def emP (ps : List Nat) : Mv := ofInts (ps.map fun (p : Nat) => (p : Int))
theorem ok_all_places (G : Sg) (ha : SpAfter G) (w : List Int) (h : Mh) (hl : w.length ≤ 1000) : (runM G 2 b_all_places [ofInts w] h).wp fun v m => v = emP (placesI w) ∧ Gr h m := by
  unfold runM b_all_places ofInts
  have hr : rngM [.int ((w.length : Int) - 2)] = some ((List.range ((w.length : Int) - 2).toNat).map fun (i : Nat) => Mv.int (i : Int)) := q_rng0 (by constructor <;> omega)
  simp only [frameM, x_seq, x_skip, x_exp, x_asg, x_asgS, x_ret, x_retn, x_ite, x_whl, x_forr, x_brk, x_cnt, x_rse, n_nx, n_rt, n_bk, n_ct, n_exc, n_ite, loopV_t, loopV_f, ev, asgX, asgM, wipeM, varsOf, List.map_cons, List.map_nil, List.length_cons, List.length_nil, List.replicate, List.cons_append, List.nil_append, List.append_nil, List.getElem?_cons_zero, List.getElem?_cons_succ, List.set_cons_zero, List.set_cons_succ, Option.bind_some, q_bind, q_bindx, q_bool, q_tups, q_toS, q_toSx, q_some, q_and, q_or, q_cm, q_finr, q_finn, q_finx, q_trub, q_trui, q_trun, q_map, q_add, q_sub, q_lt, q_le, q_gt, q_ge, q_eqi, q_nei, q_eqs, q_nes, q_isnn, q_isni, q_isnt, q_isnr, q_notnn, q_notni, q_notnt, q_notnr, q_eqt, q_net, q_isi1, q_isi2, q_isi3, q_isi4, q_isi5, q_isi6, q_isi7, q_isi8, q_isi9, q_lent, q_lenf, q_inti, q_intb, q_abs, q_max, q_min, q_tupt, q_listt, q_sl, q_slf, Bool.not_true, Bool.not_false, Bool.true_and, Bool.and_true, Bool.false_and, Bool.false_or, Bool.or_false, Bool.true_or, if_true, if_false, line, pick, Option.toList, q_alloc, q_itt, q_itf, q_compt, q_compf, q_tupnew, Nat.reduceAdd, Nat.reduceLeDiff, Nat.zero_add, Bool.false_eq_true, List.length_map, hr, compV]
  rw [show ((w.length : Int) - 2).toNat = w.length - 2 by omega]
  rw [if_pos (by rw [List.length_range]; omega), compL_map (fun (i : Nat) => if (aft w i).isSome = true then some (Mv.int (i : Int)) else none)]
  · simp only [frameM, x_seq, x_skip, x_exp, x_asg, x_asgS, x_ret, x_retn, x_ite, x_whl, x_forr, x_brk, x_cnt, x_rse, n_nx, n_rt, n_bk, n_ct, n_exc, n_ite, loopV_t, loopV_f, ev, asgX, asgM, wipeM, varsOf, List.map_cons, List.map_nil, List.length_cons, List.length_nil, List.replicate, List.cons_append, List.nil_append, List.append_nil, List.getElem?_cons_zero, List.getElem?_cons_succ, List.set_cons_zero, List.set_cons_succ, Option.bind_some, q_bind, q_bindx, q_bool, q_tups, q_toS, q_toSx, q_some, q_and, q_or, q_cm, q_finr, q_finn, q_finx, q_trub, q_trui, q_trun, q_map, q_add, q_sub, q_lt, q_le, q_gt, q_ge, q_eqi, q_nei, q_eqs, q_nes, q_isnn, q_isni, q_isnt, q_isnr, q_notnn, q_notni, q_notnt, q_notnr, q_eqt, q_net, q_isi1, q_isi2, q_isi3, q_isi4, q_isi5, q_isi6, q_isi7, q_isi8, q_isi9, q_lent, q_lenf, q_inti, q_intb, q_abs, q_max, q_min, q_tupt, q_listt, q_sl, q_slf, Bool.not_true, Bool.not_false, Bool.true_and, Bool.and_true, Bool.false_and, Bool.false_or, Bool.or_false, Bool.true_or, if_true, if_false, line, pick, Option.toList, q_alloc, q_itt, q_itf, q_compt, q_compf, q_tupnew, Nat.reduceAdd, Nat.reduceLeDiff, Nat.zero_add, Bool.false_eq_true, filter_map]
    refine ⟨?_, Gr.app _ _⟩
    unfold emP placesI ofInts
    rw [List.map_map]; rfl
  · intro i hi
    have hi' : i < w.length - 2 := by simpa using hi
    refine ⟨_, rfl, ?_⟩
    have e2 := ha w i h (by omega) hl
    unfold ofInts at e2
    simp only [frameM, x_seq, x_skip, x_exp, x_asg, x_asgS, x_ret, x_retn, x_ite, x_whl, x_forr, x_brk, x_cnt, x_rse, n_nx, n_rt, n_bk, n_ct, n_exc, n_ite, loopV_t, loopV_f, ev, asgX, asgM, wipeM, varsOf, List.map_cons, List.map_nil, List.length_cons, List.length_nil, List.replicate, List.cons_append, List.nil_append, List.append_nil, List.getElem?_cons_zero, List.getElem?_cons_succ, List.set_cons_zero, List.set_cons_succ, Option.bind_some, q_bind, q_bindx, q_bool, q_tups, q_toS, q_toSx, q_some, q_and, q_or, q_cm, q_finr, q_finn, q_finx, q_trub, q_trui, q_trun, q_map, q_add, q_sub, q_lt, q_le, q_gt, q_ge, q_eqi, q_nei, q_eqs, q_nes, q_isnn, q_isni, q_isnt, q_isnr, q_notnn, q_notni, q_notnt, q_notnr, q_eqt, q_net, q_isi1, q_isi2, q_isi3, q_isi4, q_isi5, q_isi6, q_isi7, q_isi8, q_isi9, q_lent, q_lenf, q_inti, q_intb, q_abs, q_max, q_min, q_tupt, q_listt, q_sl, q_slf, Bool.not_true, Bool.not_false, Bool.true_and, Bool.and_true, Bool.false_and, Bool.false_or, Bool.or_false, Bool.true_or, if_true, if_false, line, pick, Option.toList, q_alloc, q_itt, q_itf, q_compt, q_compf, q_tupnew, Nat.reduceAdd, Nat.reduceLeDiff, Nat.zero_add, Bool.false_eq_true, e2, emW_not]
    cases (aft w i).isSome <;> rfl
def SpAll (G : Sg) : Prop := ∀ (w : List Int) h, w.length ≤ 1000 → (G.ph "all_places" [ofInts w] h).wp fun v m => v = emP (placesI w) ∧ Gr h m
theorem ok_places_of (G : Sg) (hc : SpCheck G) (ha : SpAll G) (w : List Int) (h : Mh) (hw : wordB w = true) : (runM G 1 b_places_of [ofInts w] h).wp fun v m => v = emP (placesI w) ∧ Gr h m := by
  have hl : w.length ≤ 1000 := by unfold wordB at hw; simp at hw; omega
  have e0 := hc w h hw
  obtain ⟨v, m, e1, e2, e3⟩ := ok_of_wp (ha w h hl)
  unfold ofInts at e0 e1
  unfold runM b_places_of ofInts
  simp only [frameM, x_seq, x_skip, x_exp, x_asg, x_asgS, x_ret, x_retn, x_ite, x_whl, x_forr, x_brk, x_cnt, x_rse, n_nx, n_rt, n_bk, n_ct, n_exc, n_ite, loopV_t, loopV_f, ev, asgX, asgM, wipeM, varsOf, List.map_cons, List.map_nil, List.length_cons, List.length_nil, List.replicate, List.cons_append, List.nil_append, List.append_nil, List.getElem?_cons_zero, List.getElem?_cons_succ, List.set_cons_zero, List.set_cons_succ, Option.bind_some, q_bind, q_bindx, q_bool, q_tups, q_toS, q_toSx, q_some, q_and, q_or, q_cm, q_finr, q_finn, q_finx, q_trub, q_trui, q_trun, q_map, q_add, q_sub, q_lt, q_le, q_gt, q_ge, q_eqi, q_nei, q_eqs, q_nes, q_isnn, q_isni, q_isnt, q_isnr, q_notnn, q_notni, q_notnt, q_notnr, q_eqt, q_net, q_isi1, q_isi2, q_isi3, q_isi4, q_isi5, q_isi6, q_isi7, q_isi8, q_isi9, q_lent, q_lenf, q_inti, q_intb, q_abs, q_max, q_min, q_tupt, q_listt, q_sl, q_slf, Bool.not_true, Bool.not_false, Bool.true_and, Bool.and_true, Bool.false_and, Bool.false_or, Bool.or_false, Bool.true_or, if_true, if_false, line, pick, Option.toList, q_alloc, q_itt, q_itf, q_compt, q_compf, q_tupnew, Nat.reduceAdd, Nat.reduceLeDiff, Nat.zero_add, Bool.false_eq_true, e0, e1]
  exact ⟨e2, e3⟩
def SpPlaces (G : Sg) : Prop := ∀ (w : List Int) h, wordB w = true → (G.ph "places_of" [ofInts w] h).wp fun v m => v = emP (placesI w) ∧ Gr h m
/-- the words beside, sorted -/
def besideI (w : List Int) : List (List Int) := sortK ((placesI w).filterMap fun p => aft w p)
theorem aft_props {w v : List Int} {p : Nat} (h : aft w p = some v) : p + 3 ≤ w.length ∧ v.length = w.length ∧ v.Perm w := by
  unfold aft at h
  split at h
  · rename_i a b c e
    have hl : ((w.drop p).take 3).length = 3 := by rw [e]; rfl
    rw [List.length_take, List.length_drop] at hl
    have hp : p + 3 ≤ w.length := by omega
    have hw : w.take p ++ [a, b, c] ++ w.drop (p + 3) = w := by
      rw [← e, List.append_assoc, ← List.drop_drop, List.take_append_drop, List.take_append_drop]
    have key : ∀ x : List Int, x.Perm [a, b, c] → p + 3 ≤ w.length ∧ (w.take p ++ x ++ w.drop (p + 3)).length = w.length ∧ (w.take p ++ x ++ w.drop (p + 3)).Perm w := fun x hx => by
      have hperm : (w.take p ++ x ++ w.drop (p + 3)).Perm w := by
        conv => rhs; rw [← hw]
        exact (hx.append_left _).append_right _
      exact ⟨hp, hperm.length_eq, hperm⟩
    split at h
    · cases h
      exact key _ (.cons _ (.swap _ _ _))
    · split at h
      · cases h
        exact key _ (.swap _ _ _)
      · cases h
  · cases h
theorem placesI_mem {w : List Int} {p : Nat} (h : p ∈ placesI w) : ∃ v, aft w p = some v := by
  unfold placesI at h
  exact Option.isSome_iff_exists.mp (List.mem_filter.mp h).2
theorem evenB_of {ks : List (List Int)} {d : Nat} (hd : 1 ≤ d) (h : ∀ k ∈ ks, k.length = d ∧ bdB 64 k = true) : evenB ks = true := by
  unfold evenB
  cases ks with
  | nil => rfl
  | cons k r =>
    have hk := h k (List.mem_cons_self ..)
    dsimp only
    rw [hk.2, decide_eq_true (by omega : 1 ≤ k.length)]
    simp only [Bool.true_and, List.all_eq_true, Bool.and_eq_true, decide_eq_true_eq]
    intro q hq
    have := h q (List.mem_cons_of_mem _ hq)
    exact ⟨by rw [this.1, hk.1], this.2⟩
theorem bd_of_letters {k : List Int} (h : k.all letterB = true) : bdB 64 k = true := by
  unfold bdB
  rw [List.all_eq_true] at h ⊢
  intro x hx
  have := h x hx
  unfold letterB at this
  simp at this ⊢
  omega
theorem all_perm {α : Type} {p : α → Bool} {a b : List α} (h : a.Perm b) (hb : b.all p = true) : a.all p = true := by
  rw [List.all_eq_true] at hb ⊢
  exact fun x hx => hb x (h.mem_iff.mp hx)
theorem aft_word {w v : List Int} {p : Nat} (hw : wordB w = true) (h : aft w p = some v) : wordB v = true := by
  obtain ⟨_, h2, h3⟩ := aft_props h
  unfold wordB at hw ⊢
  rw [Bool.and_eq_true] at hw ⊢
  exact ⟨by rw [h2]; exact hw.1, all_perm h3 hw.2⟩
theorem wordB_len {w : List Int} (hw : wordB w = true) : w.length ≤ 40 := by unfold wordB at hw; simp at hw; exact hw.1
theorem placesI_len (w : List Int) : (placesI w).length ≤ w.length - 2 := by
  unfold placesI
  exact Nat.le_trans (List.length_filter_le _ _) (by rw [List.length_range]; exact Nat.le_refl _)
theorem ok_words_beside (G : Sg) (ha : SpAfter G) (hp : SpAll G) (w : List Int) (h : Mh) (hw : wordB w = true) : (runM G 2 b_words_beside [ofInts w] h).wp fun v m => v = .tup ((besideI w).map ofInts) ∧ Gr h m := by
  have hl : w.length ≤ 40 := wordB_len hw
  obtain ⟨v, m, e1, e2, e3⟩ := ok_of_wp (hp w h (by omega))
  subst e2
  unfold ofInts at e1
  unfold runM b_words_beside ofInts
  simp only [frameM, x_seq, x_skip, x_exp, x_asg, x_asgS, x_ret, x_retn, x_ite, x_whl, x_forr, x_brk, x_cnt, x_rse, n_nx, n_rt, n_bk, n_ct, n_exc, n_ite, loopV_t, loopV_f, ev, asgX, asgM, wipeM, varsOf, List.map_cons, List.map_nil, List.length_cons, List.length_nil, List.replicate, List.cons_append, List.nil_append, List.append_nil, List.getElem?_cons_zero, List.getElem?_cons_succ, List.set_cons_zero, List.set_cons_succ, Option.bind_some, q_bind, q_bindx, q_bool, q_tups, q_toS, q_toSx, q_some, q_and, q_or, q_cm, q_finr, q_finn, q_finx, q_trub, q_trui, q_trun, q_map, q_add, q_sub, q_lt, q_le, q_gt, q_ge, q_eqi, q_nei, q_eqs, q_nes, q_isnn, q_isni, q_isnt, q_isnr, q_notnn, q_notni, q_notnt, q_notnr, q_eqt, q_net, q_isi1, q_isi2, q_isi3, q_isi4, q_isi5, q_isi6, q_isi7, q_isi8, q_isi9, q_lent, q_lenf, q_inti, q_intb, q_abs, q_max, q_min, q_tupt, q_listt, q_sl, q_slf, Bool.not_true, Bool.not_false, Bool.true_and, Bool.and_true, Bool.false_and, Bool.false_or, Bool.or_false, Bool.true_or, if_true, if_false, line, pick, Option.toList, q_alloc, q_itt, q_itf, q_compt, q_compf, q_tupnew, Nat.reduceAdd, Nat.reduceLeDiff, Nat.zero_add, Bool.false_eq_true, e1, emP]
  unfold ofInts
  have hlen := placesI_len w
  simp only [frameM, x_seq, x_skip, x_exp, x_asg, x_asgS, x_ret, x_retn, x_ite, x_whl, x_forr, x_brk, x_cnt, x_rse, n_nx, n_rt, n_bk, n_ct, n_exc, n_ite, loopV_t, loopV_f, ev, asgX, asgM, wipeM, varsOf, List.map_cons, List.map_nil, List.length_cons, List.length_nil, List.replicate, List.cons_append, List.nil_append, List.append_nil, List.getElem?_cons_zero, List.getElem?_cons_succ, List.set_cons_zero, List.set_cons_succ, Option.bind_some, q_bind, q_bindx, q_bool, q_tups, q_toS, q_toSx, q_some, q_and, q_or, q_cm, q_finr, q_finn, q_finx, q_trub, q_trui, q_trun, q_map, q_add, q_sub, q_lt, q_le, q_gt, q_ge, q_eqi, q_nei, q_eqs, q_nes, q_isnn, q_isni, q_isnt, q_isnr, q_notnn, q_notni, q_notnt, q_notnr, q_eqt, q_net, q_isi1, q_isi2, q_isi3, q_isi4, q_isi5, q_isi6, q_isi7, q_isi8, q_isi9, q_lent, q_lenf, q_inti, q_intb, q_abs, q_max, q_min, q_tupt, q_listt, q_sl, q_slf, Bool.not_true, Bool.not_false, Bool.true_and, Bool.and_true, Bool.false_and, Bool.false_or, Bool.or_false, Bool.true_or, if_true, if_false, line, pick, Option.toList, q_alloc, q_itt, q_itf, q_compt, q_compf, q_tupnew, Nat.reduceAdd, Nat.reduceLeDiff, Nat.zero_add, Bool.false_eq_true, List.length_map, List.map_map]
  rw [if_pos (by omega), compL_map (fun (p : Nat) => (aft w p).map ofInts)]
  · have hk : ∀ k ∈ (placesI w).filterMap (fun p => aft w p), k.length = w.length ∧ bdB 64 k = true := fun k hk => by
      obtain ⟨p, hp, e⟩ := List.mem_filterMap.mp hk
      obtain ⟨_, h2, h3⟩ := aft_props e
      exact ⟨h2, bd_of_letters (all_perm h3 (by unfold wordB at hw; rw [Bool.and_eq_true] at hw; exact hw.2))⟩
    have hfm : (placesI w).filterMap (fun p => (aft w p).map ofInts) = ((placesI w).filterMap fun p => aft w p).map ofInts := by
      rw [List.map_filterMap]
    have hev : evenB ((placesI w).filterMap fun p => aft w p) = true := by
      cases q : (placesI w).filterMap (fun p => aft w p) with
      | nil => rfl
      | cons k r =>
        rw [← q]
        have : k ∈ (placesI w).filterMap (fun p => aft w p) := by rw [q]; exact List.mem_cons_self ..
        obtain ⟨p, hp, e⟩ := List.mem_filterMap.mp this
        obtain ⟨h1, _, _⟩ := aft_props e
        exact evenB_of (d := w.length) (by omega) hk
    have hl2 : ((placesI w).filterMap fun p => aft w p).length < 64 := Nat.lt_of_le_of_lt (List.length_filterMap_le _ _) (by omega)
    rw [hfm]
    simp only [frameM, x_seq, x_skip, x_exp, x_asg, x_asgS, x_ret, x_retn, x_ite, x_whl, x_forr, x_brk, x_cnt, x_rse, n_nx, n_rt, n_bk, n_ct, n_exc, n_ite, loopV_t, loopV_f, ev, asgX, asgM, wipeM, varsOf, List.map_cons, List.map_nil, List.length_cons, List.length_nil, List.replicate, List.cons_append, List.nil_append, List.append_nil, List.getElem?_cons_zero, List.getElem?_cons_succ, List.set_cons_zero, List.set_cons_succ, Option.bind_some, q_bind, q_bindx, q_bool, q_tups, q_toS, q_toSx, q_some, q_and, q_or, q_cm, q_finr, q_finn, q_finx, q_trub, q_trui, q_trun, q_map, q_add, q_sub, q_lt, q_le, q_gt, q_ge, q_eqi, q_nei, q_eqs, q_nes, q_isnn, q_isni, q_isnt, q_isnr, q_notnn, q_notni, q_notnt, q_notnr, q_eqt, q_net, q_isi1, q_isi2, q_isi3, q_isi4, q_isi5, q_isi6, q_isi7, q_isi8, q_isi9, q_lent, q_lenf, q_inti, q_intb, q_abs, q_max, q_min, q_tupt, q_listt, q_sl, q_slf, Bool.not_true, Bool.not_false, Bool.true_and, Bool.and_true, Bool.false_and, Bool.false_or, Bool.or_false, Bool.true_or, if_true, if_false, line, pick, Option.toList, q_alloc, q_itt, q_itf, q_compt, q_compf, q_tupnew, Nat.reduceAdd, Nat.reduceLeDiff, Nat.zero_add, Bool.false_eq_true, q_sortSet (q_new _ _) hev hl2]
    refine ⟨rfl, ?_⟩
    exact (e3.trans (Gr.app _ _)).trans (Gr.app _ _)
  · intro p hp
    obtain ⟨v, hv⟩ := placesI_mem hp
    refine ⟨_, rfl, ?_⟩
    have e2 := ha w p m (aft_props hv).1 (by omega)
    unfold ofInts at e2
    simp only [frameM, x_seq, x_skip, x_exp, x_asg, x_asgS, x_ret, x_retn, x_ite, x_whl, x_forr, x_brk, x_cnt, x_rse, n_nx, n_rt, n_bk, n_ct, n_exc, n_ite, loopV_t, loopV_f, ev, asgX, asgM, wipeM, varsOf, List.map_cons, List.map_nil, List.length_cons, List.length_nil, List.replicate, List.cons_append, List.nil_append, List.append_nil, List.getElem?_cons_zero, List.getElem?_cons_succ, List.set_cons_zero, List.set_cons_succ, Option.bind_some, q_bind, q_bindx, q_bool, q_tups, q_toS, q_toSx, q_some, q_and, q_or, q_cm, q_finr, q_finn, q_finx, q_trub, q_trui, q_trun, q_map, q_add, q_sub, q_lt, q_le, q_gt, q_ge, q_eqi, q_nei, q_eqs, q_nes, q_isnn, q_isni, q_isnt, q_isnr, q_notnn, q_notni, q_notnt, q_notnr, q_eqt, q_net, q_isi1, q_isi2, q_isi3, q_isi4, q_isi5, q_isi6, q_isi7, q_isi8, q_isi9, q_lent, q_lenf, q_inti, q_intb, q_abs, q_max, q_min, q_tupt, q_listt, q_sl, q_slf, Bool.not_true, Bool.not_false, Bool.true_and, Bool.and_true, Bool.false_and, Bool.false_or, Bool.or_false, Bool.true_or, if_true, if_false, line, pick, Option.toList, q_alloc, q_itt, q_itf, q_compt, q_compf, q_tupnew, Nat.reduceAdd, Nat.reduceLeDiff, Nat.zero_add, Bool.false_eq_true, Function.comp, e2, hv, emW]
def SpBeside (G : Sg) : Prop := ∀ (w : List Int) h, wordB w = true → (G.ph "words_beside" [ofInts w] h).wp fun v m => v = .tup ((besideI w).map ofInts) ∧ Gr h m
theorem ok_neighbours (G : Sg) (hc : SpCheck G) (hb : SpBeside G) (w : List Int) (h : Mh) (hw : wordB w = true) : (runM G 1 b_neighbours [ofInts w] h).wp fun v m => v = .tup ((besideI w).map ofInts) ∧ Gr h m := by
  have e0 := hc w h hw
  obtain ⟨v, m, e1, e2, e3⟩ := ok_of_wp (hb w h hw)
  unfold ofInts at e0 e1
  unfold runM b_neighbours ofInts
  simp only [frameM, x_seq, x_skip, x_exp, x_asg, x_asgS, x_ret, x_retn, x_ite, x_whl, x_forr, x_brk, x_cnt, x_rse, n_nx, n_rt, n_bk, n_ct, n_exc, n_ite, loopV_t, loopV_f, ev, asgX, asgM, wipeM, varsOf, List.map_cons, List.map_nil, List.length_cons, List.length_nil, List.replicate, List.cons_append, List.nil_append, List.append_nil, List.getElem?_cons_zero, List.getElem?_cons_succ, List.set_cons_zero, List.set_cons_succ, Option.bind_some, q_bind, q_bindx, q_bool, q_tups, q_toS, q_toSx, q_some, q_and, q_or, q_cm, q_finr, q_finn, q_finx, q_trub, q_trui, q_trun, q_map, q_add, q_sub, q_lt, q_le, q_gt, q_ge, q_eqi, q_nei, q_eqs, q_nes, q_isnn, q_isni, q_isnt, q_isnr, q_notnn, q_notni, q_notnt, q_notnr, q_eqt, q_net, q_isi1, q_isi2, q_isi3, q_isi4, q_isi5, q_isi6, q_isi7, q_isi8, q_isi9, q_lent, q_lenf, q_inti, q_intb, q_abs, q_max, q_min, q_tupt, q_listt, q_sl, q_slf, Bool.not_true, Bool.not_false, Bool.true_and, Bool.and_true, Bool.false_and, Bool.false_or, Bool.or_false, Bool.true_or, if_true, if_false, line, pick, Option.toList, q_alloc, q_itt, q_itf, q_compt, q_compf, q_tupnew, Nat.reduceAdd, Nat.reduceLeDiff, Nat.zero_add, Bool.false_eq_true, e0, e1]
  exact ⟨e2, e3⟩
def SpNeigh (G : Sg) : Prop := ∀ (w : List Int) h, wordB w = true → (G.ph "neighbours" [ofInts w] h).wp fun v m => v = .tup ((besideI w).map ofInts) ∧ Gr h m
end MP

/-! the laws' jar of numbers -/
namespace MP
open PySem PySem.Spec PyProof.Rows L2 MPB
/-- only the object at n changes; new ones come -/
structure Up (n : Nat) (h h' : Mh) : Prop where
  le : h.length ≤ h'.length
  eq : ∀ m, m ≠ n → m < h.length → h'[m]? = h[m]?
theorem Up.refl (n : Nat) (h : Mh) : Up n h h := ⟨Nat.le_refl _, fun _ _ _ => rfl⟩
theorem Up.trans {n : Nat} {h h1 h2 : Mh} (a : Up n h h1) (b : Up n h1 h2) : Up n h h2 := ⟨Nat.le_trans a.le b.le, fun m h3 h4 => (b.eq m h3 (Nat.lt_of_lt_of_le h4 a.le)).trans (a.eq m h3 h4)⟩
theorem Up.of_gr {n : Nat} {h h' : Mh} (g : Gr h h') : Up n h h' := by
  obtain ⟨t, rfl⟩ := g
  exact ⟨by simp, fun m _ h4 => List.getElem?_append_left h4⟩
theorem Up.set (n : Nat) (h : Mh) (o : Mo) : Up n h (h.set n o) := ⟨by simp, fun m h3 _ => by rw [List.getElem?_set_ne (Ne.symm h3)]⟩
theorem Up.setn {n L : Nat} {h m : Mh} {o : Mo} (u : Up n h m) (hL : h.length ≤ L) : Up n h (m.set L o) := ⟨by rw [List.length_set]; exact u.le, fun k h3 h4 => by rw [List.getElem?_set_ne (by omega)]; exact u.eq k h3 h4⟩
theorem Up.app (n : Nat) (h t : Mh) : Up n h (h ++ t) := .of_gr (Gr.app _ _)
theorem Up.get {n m : Nat} {h h' : Mh} {o : Mo} (u : Up n h h') (hm : m ≠ n) (e : h[m]? = some o) : h'[m]? = some o := (u.eq m hm (List.getElem?_eq_some_iff.mp e).1).trans e
def Jar (n : Nat) (h : Mh) : Prop := ∃ a b c : Int, h[n]? = some (.lst [.int a, .int b, .int c]) ∧ 0 ≤ c
theorem Jar.lt {n : Nat} {h : Mh} (j : Jar n h) : n < h.length := by
  obtain ⟨_, _, _, e, _⟩ := j
  exact (List.getElem?_eq_some_iff.mp e).1
theorem Jar.gr {n : Nat} {h h' : Mh} (j : Jar n h) (g : Gr h h') : Jar n h' := by
  obtain ⟨a, b, c, e, k⟩ := j
  exact ⟨a, b, c, g.get e, k⟩
theorem set_get {n : Nat} {h : Mh} (hn : n < h.length) (o : Mo) : (h.set n o)[n]? = some o := List.getElem?_set_self hn
section
variable {n : Nat} {h : Mh} {x y z w : Mv}
theorem q_i0 (e : h[n]? = some (.lst [x, y, z])) : ixM (.ref n) (.int 0) h = .ok x h := q_ixr e rfl
theorem q_i1 (e : h[n]? = some (.lst [x, y, z])) : ixM (.ref n) (.int 1) h = .ok y h := q_ixr e rfl
theorem q_i2 (e : h[n]? = some (.lst [x, y, z])) : ixM (.ref n) (.int 2) h = .ok z h := q_ixr e rfl
theorem q_s0 (e : h[n]? = some (.lst [x, y, z])) : setM (.ref n) (.int 0) w h = .ok () (h.set n (.lst [w, y, z])) := q_set (k := 0) e (by simp)
theorem q_s1 (e : h[n]? = some (.lst [x, y, z])) : setM (.ref n) (.int 1) w h = .ok () (h.set n (.lst [x, w, z])) := q_set (k := 1) e (by simp)
theorem q_s2 (e : h[n]? = some (.lst [x, y, z])) : setM (.ref n) (.int 2) w h = .ok () (h.set n (.lst [x, y, w])) := q_set (k := 2) e (by simp)
end
theorem big_l {i j : Int} (h : big i = true) : (big i || big j) = true := by rw [h]; rfl
theorem big_r {i j : Int} (h : big j = true) : (big i || big j) = true := by rw [h]; simp
theorem q_mulr {i j : Int} {h : Mh} (hb : big j = true) : opB .Mult (.int i) (.int j) h = .ok (.int (i * j)) h := q_mul (big_r hb)
theorem q_mull {i j : Int} {h : Mh} (hb : big i = true) : opB .Mult (.int i) (.int j) h = .ok (.int (i * j)) h := q_mul (big_l hb)
theorem ok_spoon (G : Sg) (n : Nat) (many : Int) (h : Mh) (hj : Jar n h) (hm : 0 < many ∧ many < 1000000) : (runM G 3 b__law_spoon [.ref n, .int many] h).wp fun v m => ∃ r, v = .int r ∧ 0 ≤ r ∧ r < many ∧ Jar n m ∧ Up n h m := by
  have hn := hj.lt
  obtain ⟨a, b, c, e, hc⟩ := hj
  have e0 := set_get hn (.lst [.int (a + 3), .int b, .int c])
  unfold runM b__law_spoon
  simp only [frameM, x_seq, x_skip, x_exp, x_asg, x_asgS, x_ret, x_retn, x_ite, x_whl, x_forr, x_brk, x_cnt, x_rse, n_nx, n_rt, n_bk, n_ct, n_exc, n_ite, loopV_t, loopV_f, ev, asgX, asgM, wipeM, varsOf, List.map_cons, List.map_nil, List.length_cons, List.length_nil, List.replicate, List.cons_append, List.nil_append, List.append_nil, List.getElem?_cons_zero, List.getElem?_cons_succ, List.set_cons_zero, List.set_cons_succ, Option.bind_some, q_bind, q_bindx, q_bool, q_tups, q_toS, q_toSx, q_some, q_and, q_or, q_cm, q_finr, q_finn, q_finx, q_trub, q_trui, q_trun, q_map, q_add, q_sub, q_lt, q_le, q_gt, q_ge, q_eqi, q_nei, q_eqs, q_nes, q_isnn, q_isni, q_isnt, q_isnr, q_notnn, q_notni, q_notnt, q_notnr, q_eqt, q_net, q_isi1, q_isi2, q_isi3, q_isi4, q_isi5, q_isi6, q_isi7, q_isi8, q_isi9, q_lent, q_lenf, q_inti, q_intb, q_abs, q_max, q_min, q_tupt, q_listt, q_sl, q_slf, Bool.not_true, Bool.not_false, Bool.true_and, Bool.and_true, Bool.false_and, Bool.false_or, Bool.or_false, Bool.true_or, if_true, if_false, line, pick, Option.toList, q_alloc, q_itt, q_itf, q_compt, q_compf, q_tupnew, Nat.reduceAdd, Nat.reduceLeDiff, Nat.zero_add, Bool.false_eq_true, q_i0 e, q_i1 e, q_i2 e, q_s0 e, q_i2 e0, q_i1 e0, q_i0 e0]
  by_cases h0 : 0 < c
  · rw [if_pos (decide_eq_true h0)]
    have e2 := set_get (by simpa using hn : n < (h.set n (.lst [.int (a + 3), .int b, .int c])).length) (.lst [.int (a + 3), .int b, .int (c / many)])
    simp only [frameM, x_seq, x_skip, x_exp, x_asg, x_asgS, x_ret, x_retn, x_ite, x_whl, x_forr, x_brk, x_cnt, x_rse, n_nx, n_rt, n_bk, n_ct, n_exc, n_ite, loopV_t, loopV_f, ev, asgX, asgM, wipeM, varsOf, List.map_cons, List.map_nil, List.length_cons, List.length_nil, List.replicate, List.cons_append, List.nil_append, List.append_nil, List.getElem?_cons_zero, List.getElem?_cons_succ, List.set_cons_zero, List.set_cons_succ, Option.bind_some, q_bind, q_bindx, q_bool, q_tups, q_toS, q_toSx, q_some, q_and, q_or, q_cm, q_finr, q_finn, q_finx, q_trub, q_trui, q_trun, q_map, q_add, q_sub, q_lt, q_le, q_gt, q_ge, q_eqi, q_nei, q_eqs, q_nes, q_isnn, q_isni, q_isnt, q_isnr, q_notnn, q_notni, q_notnt, q_notnr, q_eqt, q_net, q_isi1, q_isi2, q_isi3, q_isi4, q_isi5, q_isi6, q_isi7, q_isi8, q_isi9, q_lent, q_lenf, q_inti, q_intb, q_abs, q_max, q_min, q_tupt, q_listt, q_sl, q_slf, Bool.not_true, Bool.not_false, Bool.true_and, Bool.and_true, Bool.false_and, Bool.false_or, Bool.or_false, Bool.true_or, if_true, if_false, line, pick, Option.toList, q_alloc, q_itt, q_itf, q_compt, q_compf, q_tupnew, Nat.reduceAdd, Nat.reduceLeDiff, Nat.zero_add, Bool.false_eq_true, q_divmod (i := c) (j := many) ⟨hm.1, by omega⟩, q_s2 e0]
    exact ⟨_, rfl, Int.emod_nonneg _ (by omega), Int.emod_lt_of_pos _ hm.1, ⟨_, _, _, e2, Int.ediv_nonneg hc (by omega)⟩, (Up.set _ _ _).trans (Up.set _ _ _)⟩
  · rw [if_neg (by simpa using h0)]
    generalize hb : ((b * 51043 + (a + 3) * 60013 + b / 12007 * 73) % 1999999471) = b'
    have e2 := set_get (by simpa using hn : n < (h.set n (.lst [.int (a + 3), .int b, .int c])).length) (.lst [.int (a + 3), .int b', .int c])
    simp only [frameM, x_seq, x_skip, x_exp, x_asg, x_asgS, x_ret, x_retn, x_ite, x_whl, x_forr, x_brk, x_cnt, x_rse, n_nx, n_rt, n_bk, n_ct, n_exc, n_ite, loopV_t, loopV_f, ev, asgX, asgM, wipeM, varsOf, List.map_cons, List.map_nil, List.length_cons, List.length_nil, List.replicate, List.cons_append, List.nil_append, List.append_nil, List.getElem?_cons_zero, List.getElem?_cons_succ, List.set_cons_zero, List.set_cons_succ, Option.bind_some, q_bind, q_bindx, q_bool, q_tups, q_toS, q_toSx, q_some, q_and, q_or, q_cm, q_finr, q_finn, q_finx, q_trub, q_trui, q_trun, q_map, q_add, q_sub, q_lt, q_le, q_gt, q_ge, q_eqi, q_nei, q_eqs, q_nes, q_isnn, q_isni, q_isnt, q_isnr, q_notnn, q_notni, q_notnt, q_notnr, q_eqt, q_net, q_isi1, q_isi2, q_isi3, q_isi4, q_isi5, q_isi6, q_isi7, q_isi8, q_isi9, q_lent, q_lenf, q_inti, q_intb, q_abs, q_max, q_min, q_tupt, q_listt, q_sl, q_slf, Bool.not_true, Bool.not_false, Bool.true_and, Bool.and_true, Bool.false_and, Bool.false_or, Bool.or_false, Bool.true_or, if_true, if_false, line, pick, Option.toList, q_alloc, q_itt, q_itf, q_compt, q_compf, q_tupnew, Nat.reduceAdd, Nat.reduceLeDiff, Nat.zero_add, Bool.false_eq_true, q_mulr (j := 51043) rfl, q_mulr (j := 60013) rfl, q_mulr (j := 73) rfl, q_fdiv (j := 12007) (by decide), q_mod (j := 1999999471) (by decide), q_i0 e0, q_i1 e0, q_i2 e0, q_s1 e0, hb, q_i1 e2, q_fdiv (j := 379) (by decide), q_mod (j := many) hm.1]
    exact ⟨_, rfl, Int.emod_nonneg _ (by omega), Int.emod_lt_of_pos _ hm.1, ⟨_, _, _, e2, hc⟩, (Up.set _ _ _).trans (Up.set _ _ _)⟩
def SpSpoon (G : Sg) : Prop := ∀ (n : Nat) (many : Int) (h : Mh), Jar n h → 0 < many ∧ many < 1000000 → (G.ph "_law_spoon" [.ref n, .int many] h).wp fun v m => ∃ r, v = .int r ∧ 0 ≤ r ∧ r < many ∧ Jar n m ∧ Up n h m
theorem ok_one (G : Sg) (hs : SpSpoon G) (n k : Nat) (xs : List Mv) (h : Mh) (hj : Jar n h) (hk : k ≠ n) (e : h[k]? = some (.lst xs)) (h0 : 0 < xs.length ∧ xs.length < 1000) : (runM G 2 b__law_one [.ref n, .ref k] h).wp fun v m => v ∈ xs ∧ Jar n m ∧ Up n h m := by
  obtain ⟨v, m, e1, r, rfl, h1, h2, h3, h4⟩ := ok_of_wp (hs n xs.length h hj (by constructor <;> omega))
  have e2 := h4.get hk e
  have e3 : atI xs r = some (xs[r.toNat]'(by omega)) := by
    have := atI_natd xs r.toNat
    rw [Int.toNat_of_nonneg h1] at this
    rw [this, List.getElem?_eq_getElem]
  unfold runM b__law_one
  simp only [frameM, x_seq, x_skip, x_exp, x_asg, x_asgS, x_ret, x_retn, x_ite, x_whl, x_forr, x_brk, x_cnt, x_rse, n_nx, n_rt, n_bk, n_ct, n_exc, n_ite, loopV_t, loopV_f, ev, asgX, asgM, wipeM, varsOf, List.map_cons, List.map_nil, List.length_cons, List.length_nil, List.replicate, List.cons_append, List.nil_append, List.append_nil, List.getElem?_cons_zero, List.getElem?_cons_succ, List.set_cons_zero, List.set_cons_succ, Option.bind_some, q_bind, q_bindx, q_bool, q_tups, q_toS, q_toSx, q_some, q_and, q_or, q_cm, q_finr, q_finn, q_finx, q_trub, q_trui, q_trun, q_map, q_add, q_sub, q_lt, q_le, q_gt, q_ge, q_eqi, q_nei, q_eqs, q_nes, q_isnn, q_isni, q_isnt, q_isnr, q_notnn, q_notni, q_notnt, q_notnr, q_eqt, q_net, q_isi1, q_isi2, q_isi3, q_isi4, q_isi5, q_isi6, q_isi7, q_isi8, q_isi9, q_lent, q_lenf, q_inti, q_intb, q_abs, q_max, q_min, q_tupt, q_listt, q_sl, q_slf, Bool.not_true, Bool.not_false, Bool.true_and, Bool.and_true, Bool.false_and, Bool.false_or, Bool.or_false, Bool.true_or, if_true, if_false, line, pick, Option.toList, q_alloc, q_itt, q_itf, q_compt, q_compf, q_tupnew, Nat.reduceAdd, Nat.reduceLeDiff, Nat.zero_add, Bool.false_eq_true, q_lenr e, e1, q_ixr e2 e3]
  exact ⟨List.getElem_mem _, h3, h4⟩
def SpOne (G : Sg) : Prop := ∀ (n k : Nat) (xs : List Mv) (h : Mh), Jar n h → k ≠ n → h[k]? = some (.lst xs) → 0 < xs.length ∧ xs.length < 1000 → (G.ph "_law_one" [.ref n, .ref k] h).wp fun v m => v ∈ xs ∧ Jar n m ∧ Up n h m
theorem ok_jar (G : Sg) (ns : List Int) (k : Nat) (h : Mh) (hk : k < 1000) : (runM G 5 b__law_jar [.frl (ns.map .int), .int k] h).wp fun v m => ∃ n, v = .ref n ∧ Jar n m ∧ Gr h m := by
  unfold runM b__law_jar
  simp only [frameM, x_seq, x_skip, x_exp, x_asg, x_asgS, x_ret, x_retn, x_ite, x_whl, x_forr, x_brk, x_cnt, x_rse, n_nx, n_rt, n_bk, n_ct, n_exc, n_ite, loopV_t, loopV_f, ev, asgX, asgM, wipeM, varsOf, List.map_cons, List.map_nil, List.length_cons, List.length_nil, List.replicate, List.cons_append, List.nil_append, List.append_nil, List.getElem?_cons_zero, List.getElem?_cons_succ, List.set_cons_zero, List.set_cons_succ, Option.bind_some, q_bind, q_bindx, q_bool, q_tups, q_toS, q_toSx, q_some, q_and, q_or, q_cm, q_finr, q_finn, q_finx, q_trub, q_trui, q_trun, q_map, q_add, q_sub, q_lt, q_le, q_gt, q_ge, q_eqi, q_nei, q_eqs, q_nes, q_isnn, q_isni, q_isnt, q_isnr, q_notnn, q_notni, q_notnt, q_notnr, q_eqt, q_net, q_isi1, q_isi2, q_isi3, q_isi4, q_isi5, q_isi6, q_isi7, q_isi8, q_isi9, q_lent, q_lenf, q_inti, q_intb, q_abs, q_max, q_min, q_tupt, q_listt, q_sl, q_slf, Bool.not_true, Bool.not_false, Bool.true_and, Bool.and_true, Bool.false_and, Bool.false_or, Bool.or_false, Bool.true_or, if_true, if_false, line, pick, Option.toList, q_alloc, q_itt, q_itf, q_compt, q_compf, q_tupnew, Nat.reduceAdd, Nat.reduceLeDiff, Nat.zero_add, Bool.false_eq_true, List.length_map]
  refine wp_fin (wp_thn (wp_toS (wp_of_eq (a := .int (if h : k < ns.length then ns[k] else 83 * k + 47)) (m := h) ?_ ?_)))
  · by_cases hlt : k < ns.length
    · rw [if_pos (by simp; omega), dif_pos hlt, q_ixf (w := .int ns[k]) (by rw [atI_natd, List.getElem?_map, List.getElem?_eq_getElem hlt]; rfl)]
      rfl
    · rw [if_neg (by simp; omega), dif_neg hlt, q_mull (by rfl)]
      rfl
  generalize (if h : k < ns.length then ns[k] else 83 * (k : Int) + 47) = own
  have ec : cutM (ns.map Mv.int) none (some (13 : Int)) = (ns.take 13).map .int := by rw [List.map_take]; exact cut_to (ns.map Mv.int) 13
  simp only [Ms.wp]
  simp only [frameM, x_seq, x_skip, x_exp, x_asg, x_asgS, x_ret, x_retn, x_ite, x_whl, x_forr, x_brk, x_cnt, x_rse, n_nx, n_rt, n_bk, n_ct, n_exc, n_ite, loopV_t, loopV_f, ev, asgX, asgM, wipeM, varsOf, List.map_cons, List.map_nil, List.length_cons, List.length_nil, List.replicate, List.cons_append, List.nil_append, List.append_nil, List.getElem?_cons_zero, List.getElem?_cons_succ, List.set_cons_zero, List.set_cons_succ, Option.bind_some, q_bind, q_bindx, q_bool, q_tups, q_toS, q_toSx, q_some, q_and, q_or, q_cm, q_finr, q_finn, q_finx, q_trub, q_trui, q_trun, q_map, q_add, q_sub, q_lt, q_le, q_gt, q_ge, q_eqi, q_nei, q_eqs, q_nes, q_isnn, q_isni, q_isnt, q_isnr, q_notnn, q_notni, q_notnt, q_notnr, q_eqt, q_net, q_isi1, q_isi2, q_isi3, q_isi4, q_isi5, q_isi6, q_isi7, q_isi8, q_isi9, q_lent, q_lenf, q_inti, q_intb, q_abs, q_max, q_min, q_tupt, q_listt, q_sl, q_slf, Bool.not_true, Bool.not_false, Bool.true_and, Bool.and_true, Bool.false_and, Bool.false_or, Bool.or_false, Bool.true_or, if_true, if_false, line, pick, Option.toList, q_alloc, q_itt, q_itf, q_compt, q_compf, q_tupnew, Nat.reduceAdd, Nat.reduceLeDiff, Nat.zero_add, Bool.false_eq_true, q_mull (i := 2111) rfl, ec, q_itr (q_new h _)]
  refine wp_thn (loopR_wp (fun i fr m => m = h ++ [.lst ((ns.take 13).map .int)] ∧ ∃ (x : Int) (y : Option Mv), fr = [some (.frl (ns.map .int)), some (.int k), some (.int own), some (.int x), y]) (q_new h _) (fun i fr m hI => by rw [hI.1]; exact q_new h _) ?_ ⟨rfl, _, _, rfl⟩ ?_)
  · rintro i x fr m ei ⟨rfl, x', y, rfl⟩
    obtain ⟨z, hz, rfl⟩ := map_get ei
    rw [x_forF (fr' := [some (.frl (ns.map .int)), some (.int k), some (.int own), some (.int x'), some (.int z)]) (by simp only [frameM, x_seq, x_skip, x_exp, x_asg, x_asgS, x_ret, x_retn, x_ite, x_whl, x_forr, x_brk, x_cnt, x_rse, n_nx, n_rt, n_bk, n_ct, n_exc, n_ite, loopV_t, loopV_f, ev, asgX, asgM, wipeM, varsOf, List.map_cons, List.map_nil, List.length_cons, List.length_nil, List.replicate, List.cons_append, List.nil_append, List.append_nil, List.getElem?_cons_zero, List.getElem?_cons_succ, List.set_cons_zero, List.set_cons_succ, Option.bind_some, q_bind, q_bindx, q_bool, q_tups, q_toS, q_toSx, q_some, q_and, q_or, q_cm, q_finr, q_finn, q_finx, q_trub, q_trui, q_trun, q_map, q_add, q_sub, q_lt, q_le, q_gt, q_ge, q_eqi, q_nei, q_eqs, q_nes, q_isnn, q_isni, q_isnt, q_isnr, q_notnn, q_notni, q_notnt, q_notnr, q_eqt, q_net, q_isi1, q_isi2, q_isi3, q_isi4, q_isi5, q_isi6, q_isi7, q_isi8, q_isi9, q_lent, q_lenf, q_inti, q_intb, q_abs, q_max, q_min, q_tupt, q_listt, q_sl, q_slf, Bool.not_true, Bool.not_false, Bool.true_and, Bool.and_true, Bool.false_and, Bool.false_or, Bool.or_false, Bool.true_or, if_true, if_false, line, pick, Option.toList, q_alloc, q_itt, q_itf, q_compt, q_compf, q_tupnew, Nat.reduceAdd, Nat.reduceLeDiff, Nat.zero_add, Bool.false_eq_true])]
    simp only [frameM, x_seq, x_skip, x_exp, x_asg, x_asgS, x_ret, x_retn, x_ite, x_whl, x_forr, x_brk, x_cnt, x_rse, n_nx, n_rt, n_bk, n_ct, n_exc, n_ite, loopV_t, loopV_f, ev, asgX, asgM, wipeM, varsOf, List.map_cons, List.map_nil, List.length_cons, List.length_nil, List.replicate, List.cons_append, List.nil_append, List.append_nil, List.getElem?_cons_zero, List.getElem?_cons_succ, List.set_cons_zero, List.set_cons_succ, Option.bind_some, q_bind, q_bindx, q_bool, q_tups, q_toS, q_toSx, q_some, q_and, q_or, q_cm, q_finr, q_finn, q_finx, q_trub, q_trui, q_trun, q_map, q_add, q_sub, q_lt, q_le, q_gt, q_ge, q_eqi, q_nei, q_eqs, q_nes, q_isnn, q_isni, q_isnt, q_isnr, q_notnn, q_notni, q_notnt, q_notnr, q_eqt, q_net, q_isi1, q_isi2, q_isi3, q_isi4, q_isi5, q_isi6, q_isi7, q_isi8, q_isi9, q_lent, q_lenf, q_inti, q_intb, q_abs, q_max, q_min, q_tupt, q_listt, q_sl, q_slf, Bool.not_true, Bool.not_false, Bool.true_and, Bool.and_true, Bool.false_and, Bool.false_or, Bool.or_false, Bool.true_or, if_true, if_false, line, pick, Option.toList, q_alloc, q_itt, q_itf, q_compt, q_compf, q_tupnew, Nat.reduceAdd, Nat.reduceLeDiff, Nat.zero_add, Bool.false_eq_true, q_mulr (j := 48017) rfl, q_mod (j := 1999999471) (by decide)]
    exact ⟨rfl, _, _, rfl⟩
  · rintro fr m ⟨rfl, x', y, rfl⟩
    simp only [frameM, x_seq, x_skip, x_exp, x_asg, x_asgS, x_ret, x_retn, x_ite, x_whl, x_forr, x_brk, x_cnt, x_rse, n_nx, n_rt, n_bk, n_ct, n_exc, n_ite, loopV_t, loopV_f, ev, asgX, asgM, wipeM, varsOf, List.map_cons, List.map_nil, List.length_cons, List.length_nil, List.replicate, List.cons_append, List.nil_append, List.append_nil, List.getElem?_cons_zero, List.getElem?_cons_succ, List.set_cons_zero, List.set_cons_succ, Option.bind_some, q_bind, q_bindx, q_bool, q_tups, q_toS, q_toSx, q_some, q_and, q_or, q_cm, q_finr, q_finn, q_finx, q_trub, q_trui, q_trun, q_map, q_add, q_sub, q_lt, q_le, q_gt, q_ge, q_eqi, q_nei, q_eqs, q_nes, q_isnn, q_isni, q_isnt, q_isnr, q_notnn, q_notni, q_notnt, q_notnr, q_eqt, q_net, q_isi1, q_isi2, q_isi3, q_isi4, q_isi5, q_isi6, q_isi7, q_isi8, q_isi9, q_lent, q_lenf, q_inti, q_intb, q_abs, q_max, q_min, q_tupt, q_listt, q_sl, q_slf, Bool.not_true, Bool.not_false, Bool.true_and, Bool.and_true, Bool.false_and, Bool.false_or, Bool.or_false, Bool.true_or, if_true, if_false, line, pick, Option.toList, q_alloc, q_itt, q_itf, q_compt, q_compf, q_tupnew, Nat.reduceAdd, Nat.reduceLeDiff, Nat.zero_add, Bool.false_eq_true, q_mulr (j := 53) rfl, q_mod (j := 1999999471) (by decide), q_pow (i := 10) (j := 14) (by decide)]
    have key : ∀ c : Bool, (if c = true then Mr.ok (Mv.int (if own < 0 then -own else own)) (h ++ [Mo.lst ((ns.take 13).map Mv.int)]) else Mr.ok (Mv.int 0) (h ++ [Mo.lst ((ns.take 13).map Mv.int)])) = .ok (.int (if c = true then (if own < 0 then -own else own) else 0)) (h ++ [Mo.lst ((ns.take 13).map Mv.int)]) := fun c => by cases c <;> rfl
    simp only [key, frameM, x_seq, x_skip, x_exp, x_asg, x_asgS, x_ret, x_retn, x_ite, x_whl, x_forr, x_brk, x_cnt, x_rse, n_nx, n_rt, n_bk, n_ct, n_exc, n_ite, loopV_t, loopV_f, ev, asgX, asgM, wipeM, varsOf, List.map_cons, List.map_nil, List.length_cons, List.length_nil, List.replicate, List.cons_append, List.nil_append, List.append_nil, List.getElem?_cons_zero, List.getElem?_cons_succ, List.set_cons_zero, List.set_cons_succ, Option.bind_some, q_bind, q_bindx, q_bool, q_tups, q_toS, q_toSx, q_some, q_and, q_or, q_cm, q_finr, q_finn, q_finx, q_trub, q_trui, q_trun, q_map, q_add, q_sub, q_lt, q_le, q_gt, q_ge, q_eqi, q_nei, q_eqs, q_nes, q_isnn, q_isni, q_isnt, q_isnr, q_notnn, q_notni, q_notnt, q_notnr, q_eqt, q_net, q_isi1, q_isi2, q_isi3, q_isi4, q_isi5, q_isi6, q_isi7, q_isi8, q_isi9, q_lent, q_lenf, q_inti, q_intb, q_abs, q_max, q_min, q_tupt, q_listt, q_sl, q_slf, Bool.not_true, Bool.not_false, Bool.true_and, Bool.and_true, Bool.false_and, Bool.false_or, Bool.or_false, Bool.true_or, if_true, if_false, line, pick, Option.toList, q_alloc, q_itt, q_itf, q_compt, q_compf, q_tupnew, Nat.reduceAdd, Nat.reduceLeDiff, Nat.zero_add, Bool.false_eq_true]
    refine ⟨_, rfl, ⟨_, _, _, q_new _ _, ?_⟩, (Gr.app _ _).trans (Gr.app _ _)⟩
    split
    · split <;> omega
    · exact Int.le_refl _
def SpJar (G : Sg) : Prop := ∀ (ns : List Int) (k : Nat) (h : Mh), k < 1000 → (G.ph "_law_jar" [.frl (ns.map .int), .int k] h).wp fun v m => ∃ n, v = .ref n ∧ Jar n m ∧ Gr h m
/-- a word that the laws draw: letters 1 .. 9 -/
def goodW (most : Int) (w : List Int) : Prop := (w.length : Int) ≤ most ∧ w.all letterB = true
theorem letter_of {r t : Int} (h0 : 0 ≤ r) (h1 : r < t) (ht : t ≤ 9) : letterB (1 + r) = true := by unfold letterB; simp; omega
theorem ok_word (G : Sg) (hs : SpSpoon G) (ho : SpOne G) (n : Nat) (most : Int) (h : Mh) (hj : Jar n h) (hm : 0 ≤ most ∧ most < 1000) : (runM G 7 b__law_word [.ref n, .int most] h).wp fun v m => ∃ w, v = ofInts w ∧ goodW most w ∧ Jar n m ∧ Up n h m := by
  obtain ⟨v1, m1, e1, r1, rfl, h1, h2, j1, u1⟩ := ok_of_wp (hs n (most + 1) h hj (by omega))
  have hn1 : n ≠ m1.length := Nat.ne_of_lt j1.lt
  obtain ⟨v2, m2, e2, v2m, j2, u2⟩ := ok_of_wp (ho n m1.length [.int 2, .int 3, .int 4, .int 9] (m1 ++ [.lst [.int 2, .int 3, .int 4, .int 9]]) (j1.gr (Gr.app _ _)) (Ne.symm hn1) (q_new _ _) (by simp))
  obtain ⟨t, rfl, t1, t2⟩ : ∃ t : Int, v2 = .int t ∧ 0 < t ∧ t ≤ 9 := by
    simp at v2m
    rcases v2m with rfl | rfl | rfl | rfl <;> exact ⟨_, rfl, by omega, by omega⟩
  obtain ⟨v3, m3, e3, r3, rfl, h5, h6, j3, u3⟩ := ok_of_wp (hs n 5 m2 j2 (by omega))
  have hr : rngM [.int r1] = some ((List.range r1.toNat).map fun (i : Nat) => Mv.int (i : Int)) := q_rng ⟨h1, by omega⟩
  unfold runM b__law_word
  simp only [frameM, x_seq, x_skip, x_exp, x_asg, x_asgS, x_ret, x_retn, x_ite, x_whl, x_forr, x_brk, x_cnt, x_rse, n_nx, n_rt, n_bk, n_ct, n_exc, n_ite, loopV_t, loopV_f, ev, asgX, asgM, wipeM, varsOf, List.map_cons, List.map_nil, List.length_cons, List.length_nil, List.replicate, List.cons_append, List.nil_append, List.append_nil, List.getElem?_cons_zero, List.getElem?_cons_succ, List.set_cons_zero, List.set_cons_succ, Option.bind_some, q_bind, q_bindx, q_bool, q_tups, q_toS, q_toSx, q_some, q_and, q_or, q_cm, q_finr, q_finn, q_finx, q_trub, q_trui, q_trun, q_map, q_add, q_sub, q_lt, q_le, q_gt, q_ge, q_eqi, q_nei, q_eqs, q_nes, q_isnn, q_isni, q_isnt, q_isnr, q_notnn, q_notni, q_notnt, q_notnr, q_eqt, q_net, q_isi1, q_isi2, q_isi3, q_isi4, q_isi5, q_isi6, q_isi7, q_isi8, q_isi9, q_lent, q_lenf, q_inti, q_intb, q_abs, q_max, q_min, q_tupt, q_listt, q_sl, q_slf, Bool.not_true, Bool.not_false, Bool.true_and, Bool.and_true, Bool.false_and, Bool.false_or, Bool.or_false, Bool.true_or, if_true, if_false, line, pick, Option.toList, q_alloc, q_itt, q_itf, q_compt, q_compf, q_tupnew, Nat.reduceAdd, Nat.reduceLeDiff, Nat.zero_add, Bool.false_eq_true, e1, e2, e3, hr, List.length_map, List.length_range]
  rw [if_pos (by omega)]
  -- what is known of the word so far
  let Q : Mf → Mh → Prop := fun fr m => ∃ (L : Nat) (w : List Int) (x6 : Option Mv), fr = [some (.ref n), some (.int most), some (.int r1), some (.int t), some (.int r3), some (.ref L), x6] ∧ L ≠ n ∧ h.length ≤ L ∧ m[L]? = some (.lst (w.map .int)) ∧ w.length = r1.toNat ∧ w.all letterB = true ∧ Jar n m ∧ Up n h m
  have u13 : Up n h m3 := ((u1.trans (Up.app _ _ _)).trans u2).trans u3
  refine wp_fin (wp_thn ?_)
  refine ws_mono (N := Q) (R := fun _ _ => False) (B := fun _ _ => False) (C := fun _ _ => False) (wp_toS (wp_bind (compL_wp (fun k acc m => Jar n m ∧ Up n h m ∧ ∃ w : List Int, acc = w.map .int ∧ w.length = k ∧ w.all letterB = true) _ 0 [] m3 ?c1 ⟨j3, u13, [], rfl, rfl, rfl⟩ ?c2))) ?nx (fun _ _ z => z.elim) (fun _ _ z => z.elim) (fun _ _ z => z.elim)
  case c1 =>
    rintro i x acc m ei ⟨jm, um, w, rfl, hk, hw⟩
    obtain ⟨hi, rfl⟩ := rng_get ei
    obtain ⟨v, m', e, r, rfl, q1, q2, j', u'⟩ := ok_of_wp (hs n t m jm (by omega))
    refine ⟨_, rfl, ?_⟩
    simp only [frameM, x_seq, x_skip, x_exp, x_asg, x_asgS, x_ret, x_retn, x_ite, x_whl, x_forr, x_brk, x_cnt, x_rse, n_nx, n_rt, n_bk, n_ct, n_exc, n_ite, loopV_t, loopV_f, ev, asgX, asgM, wipeM, varsOf, List.map_cons, List.map_nil, List.length_cons, List.length_nil, List.replicate, List.cons_append, List.nil_append, List.append_nil, List.getElem?_cons_zero, List.getElem?_cons_succ, List.set_cons_zero, List.set_cons_succ, Option.bind_some, q_bind, q_bindx, q_bool, q_tups, q_toS, q_toSx, q_some, q_and, q_or, q_cm, q_finr, q_finn, q_finx, q_trub, q_trui, q_trun, q_map, q_add, q_sub, q_lt, q_le, q_gt, q_ge, q_eqi, q_nei, q_eqs, q_nes, q_isnn, q_isni, q_isnt, q_isnr, q_notnn, q_notni, q_notnt, q_notnr, q_eqt, q_net, q_isi1, q_isi2, q_isi3, q_isi4, q_isi5, q_isi6, q_isi7, q_isi8, q_isi9, q_lent, q_lenf, q_inti, q_intb, q_abs, q_max, q_min, q_tupt, q_listt, q_sl, q_slf, Bool.not_true, Bool.not_false, Bool.true_and, Bool.and_true, Bool.false_and, Bool.false_or, Bool.or_false, Bool.true_or, if_true, if_false, line, pick, Option.toList, q_alloc, q_itt, q_itf, q_compt, q_compf, q_tupnew, Nat.reduceAdd, Nat.reduceLeDiff, Nat.zero_add, Bool.false_eq_true, e]
    refine ⟨j', um.trans u', w ++ [1 + r], by simp, by simp [hk], ?_⟩
    rw [List.all_append, hw]
    simp [letter_of q1 q2 t2]
  case c2 =>
    rintro ys m ⟨jm, um, w, hw1, hw2, hw3⟩
    rw [List.nil_append] at hw1
    subst hw1
    refine ⟨m.length, w, none, rfl, Nat.ne_of_gt jm.lt, um.le, q_new _ _, by simpa using hw2, hw3, jm.gr (Gr.app _ _), um.trans (Up.app _ _ _)⟩
  case nx =>
    rintro fr m ⟨L, w, x6, rfl, hL, hh, eL, hw1, hw2, jm, um⟩
    rw [x_seq]
    refine wp_thn (ws_mono (N := Q) (R := fun _ _ => False) (B := fun _ _ => False) (C := fun _ _ => False) ?way0 ?nx2 (fun _ _ z => z.elim) (fun _ _ z => z.elim) (fun _ _ z => z.elim))
    case way0 =>
      simp only [frameM, x_seq, x_skip, x_exp, x_asg, x_asgS, x_ret, x_retn, x_ite, x_whl, x_forr, x_brk, x_cnt, x_rse, n_nx, n_rt, n_bk, n_ct, n_exc, n_ite, loopV_t, loopV_f, ev, asgX, asgM, wipeM, varsOf, List.map_cons, List.map_nil, List.length_cons, List.length_nil, List.replicate, List.cons_append, List.nil_append, List.append_nil, List.getElem?_cons_zero, List.getElem?_cons_succ, List.set_cons_zero, List.set_cons_succ, Option.bind_some, q_bind, q_bindx, q_bool, q_tups, q_toS, q_toSx, q_some, q_and, q_or, q_cm, q_finr, q_finn, q_finx, q_trub, q_trui, q_trun, q_map, q_add, q_sub, q_lt, q_le, q_gt, q_ge, q_eqi, q_nei, q_eqs, q_nes, q_isnn, q_isni, q_isnt, q_isnr, q_notnn, q_notni, q_notnt, q_notnr, q_eqt, q_net, q_isi1, q_isi2, q_isi3, q_isi4, q_isi5, q_isi6, q_isi7, q_isi8, q_isi9, q_lent, q_lenf, q_inti, q_intb, q_abs, q_max, q_min, q_tupt, q_listt, q_sl, q_slf, Bool.not_true, Bool.not_false, Bool.true_and, Bool.and_true, Bool.false_and, Bool.false_or, Bool.or_false, Bool.true_or, if_true, if_false, line, pick, Option.toList, q_alloc, q_itt, q_itf, q_compt, q_compf, q_tupnew, Nat.reduceAdd, Nat.reduceLeDiff, Nat.zero_add, Bool.false_eq_true]
      by_cases h0 : r3 = 0
      · rw [if_pos (decide_eq_true h0)]
        simp only [frameM, x_seq, x_skip, x_exp, x_asg, x_asgS, x_ret, x_retn, x_ite, x_whl, x_forr, x_brk, x_cnt, x_rse, n_nx, n_rt, n_bk, n_ct, n_exc, n_ite, loopV_t, loopV_f, ev, asgX, asgM, wipeM, varsOf, List.map_cons, List.map_nil, List.length_cons, List.length_nil, List.replicate, List.cons_append, List.nil_append, List.append_nil, List.getElem?_cons_zero, List.getElem?_cons_succ, List.set_cons_zero, List.set_cons_succ, Option.bind_some, q_bind, q_bindx, q_bool, q_tups, q_toS, q_toSx, q_some, q_and, q_or, q_cm, q_finr, q_finn, q_finx, q_trub, q_trui, q_trun, q_map, q_add, q_sub, q_lt, q_le, q_gt, q_ge, q_eqi, q_nei, q_eqs, q_nes, q_isnn, q_isni, q_isnt, q_isnr, q_notnn, q_notni, q_notnt, q_notnr, q_eqt, q_net, q_isi1, q_isi2, q_isi3, q_isi4, q_isi5, q_isi6, q_isi7, q_isi8, q_isi9, q_lent, q_lenf, q_inti, q_intb, q_abs, q_max, q_min, q_tupt, q_listt, q_sl, q_slf, Bool.not_true, Bool.not_false, Bool.true_and, Bool.and_true, Bool.false_and, Bool.false_or, Bool.or_false, Bool.true_or, if_true, if_false, line, pick, Option.toList, q_alloc, q_itt, q_itf, q_compt, q_compf, q_tupnew, Nat.reduceAdd, Nat.reduceLeDiff, Nat.zero_add, Bool.false_eq_true, q_sortedD eL]
        refine ⟨m.length, (sortI w).reverse, x6, rfl, Nat.ne_of_gt jm.lt, um.le, q_new _ _, ?_, ?_, jm.gr (Gr.app _ _), um.trans (Up.app _ _ _)⟩
        · rw [List.length_reverse, (sortI_perm w).length_eq, hw1]
        · rw [List.all_reverse]; exact all_perm (sortI_perm w) hw2
      · rw [if_neg (by simpa using h0)]
        exact ⟨L, w, x6, rfl, hL, hh, eL, hw1, hw2, jm, um⟩
    case nx2 =>
      rintro fr m ⟨L, w, x6, rfl, hL, hh, eL, hw1, hw2, jm, um⟩
      rw [x_seq]
      refine wp_thn (ws_mono (N := Q) (R := fun _ _ => False) (B := fun _ _ => False) (C := fun _ _ => False) ?way1 ?nx3 (fun _ _ z => z.elim) (fun _ _ z => z.elim) (fun _ _ z => z.elim))
      case way1 =>
        simp only [frameM, x_seq, x_skip, x_exp, x_asg, x_asgS, x_ret, x_retn, x_ite, x_whl, x_forr, x_brk, x_cnt, x_rse, n_nx, n_rt, n_bk, n_ct, n_exc, n_ite, loopV_t, loopV_f, ev, asgX, asgM, wipeM, varsOf, List.map_cons, List.map_nil, List.length_cons, List.length_nil, List.replicate, List.cons_append, List.nil_append, List.append_nil, List.getElem?_cons_zero, List.getElem?_cons_succ, List.set_cons_zero, List.set_cons_succ, Option.bind_some, q_bind, q_bindx, q_bool, q_tups, q_toS, q_toSx, q_some, q_and, q_or, q_cm, q_finr, q_finn, q_finx, q_trub, q_trui, q_trun, q_map, q_add, q_sub, q_lt, q_le, q_gt, q_ge, q_eqi, q_nei, q_eqs, q_nes, q_isnn, q_isni, q_isnt, q_isnr, q_notnn, q_notni, q_notnt, q_notnr, q_eqt, q_net, q_isi1, q_isi2, q_isi3, q_isi4, q_isi5, q_isi6, q_isi7, q_isi8, q_isi9, q_lent, q_lenf, q_inti, q_intb, q_abs, q_max, q_min, q_tupt, q_listt, q_sl, q_slf, Bool.not_true, Bool.not_false, Bool.true_and, Bool.and_true, Bool.false_and, Bool.false_or, Bool.or_false, Bool.true_or, if_true, if_false, line, pick, Option.toList, q_alloc, q_itt, q_itf, q_compt, q_compf, q_tupnew, Nat.reduceAdd, Nat.reduceLeDiff, Nat.zero_add, Bool.false_eq_true]
        by_cases h0 : (decide (r3 = 1) && decide (r1 < 10)) = true
        · rw [if_pos h0]
          rw [Bool.and_eq_true, decide_eq_true_eq, decide_eq_true_eq] at h0
          simp only [frameM, x_seq, x_skip, x_exp, x_asg, x_asgS, x_ret, x_retn, x_ite, x_whl, x_forr, x_brk, x_cnt, x_rse, n_nx, n_rt, n_bk, n_ct, n_exc, n_ite, loopV_t, loopV_f, ev, asgX, asgM, wipeM, varsOf, List.map_cons, List.map_nil, List.length_cons, List.length_nil, List.replicate, List.cons_append, List.nil_append, List.append_nil, List.getElem?_cons_zero, List.getElem?_cons_succ, List.set_cons_zero, List.set_cons_succ, Option.bind_some, q_bind, q_bindx, q_bool, q_tups, q_toS, q_toSx, q_some, q_and, q_or, q_cm, q_finr, q_finn, q_finx, q_trub, q_trui, q_trun, q_map, q_add, q_sub, q_lt, q_le, q_gt, q_ge, q_eqi, q_nei, q_eqs, q_nes, q_isnn, q_isni, q_isnt, q_isnr, q_notnn, q_notni, q_notnt, q_notnr, q_eqt, q_net, q_isi1, q_isi2, q_isi3, q_isi4, q_isi5, q_isi6, q_isi7, q_isi8, q_isi9, q_lent, q_lenf, q_inti, q_intb, q_abs, q_max, q_min, q_tupt, q_listt, q_sl, q_slf, Bool.not_true, Bool.not_false, Bool.true_and, Bool.and_true, Bool.false_and, Bool.false_or, Bool.or_false, Bool.true_or, if_true, if_false, line, pick, Option.toList, q_alloc, q_itt, q_itf, q_compt, q_compf, q_tupnew, Nat.reduceAdd, Nat.reduceLeDiff, Nat.zero_add, Bool.false_eq_true, hr]
          refine loopL_wp (fun k fr m => ∃ (L : Nat) (w : List Int) (x6 : Option Mv), fr = [some (.ref n), some (.int most), some (.int r1), some (.int t), some (.int r3), some (.ref L), x6] ∧ L ≠ n ∧ h.length ≤ L ∧ m[L]? = some (.lst (w.map .int)) ∧ w.length = k ∧ w.all letterB = true ∧ Jar n m ∧ Up n h m) _ 0 _ _ ?_ ⟨m.length, [], x6, rfl, Nat.ne_of_gt jm.lt, um.le, q_new _ _, rfl, rfl, jm.gr (Gr.app _ _), um.trans (Up.app _ _ _)⟩ ?_
          · rintro i x fr m ei ⟨L, w, x6, rfl, hL, hh, eL, hw1, hw2, jm, um⟩
            obtain ⟨hi, rfl⟩ := rng_get ei
            obtain ⟨v, m', e, r, rfl, q1, q2, j', u'⟩ := ok_of_wp (hs n ((i : Int) + 1) m jm (by omega))
            rw [Nat.zero_add] at hw1
            have eL' := u'.get hL eL
            have hlt : L < m'.length := (List.getElem?_eq_some_iff.mp eL').1
            rw [x_forF rfl]
            simp only [frameM, x_seq, x_skip, x_exp, x_asg, x_asgS, x_ret, x_retn, x_ite, x_whl, x_forr, x_brk, x_cnt, x_rse, n_nx, n_rt, n_bk, n_ct, n_exc, n_ite, loopV_t, loopV_f, ev, asgX, asgM, wipeM, varsOf, List.map_cons, List.map_nil, List.length_cons, List.length_nil, List.replicate, List.cons_append, List.nil_append, List.append_nil, List.getElem?_cons_zero, List.getElem?_cons_succ, List.set_cons_zero, List.set_cons_succ, Option.bind_some, q_bind, q_bindx, q_bool, q_tups, q_toS, q_toSx, q_some, q_and, q_or, q_cm, q_finr, q_finn, q_finx, q_trub, q_trui, q_trun, q_map, q_add, q_sub, q_lt, q_le, q_gt, q_ge, q_eqi, q_nei, q_eqs, q_nes, q_isnn, q_isni, q_isnt, q_isnr, q_notnn, q_notni, q_notnt, q_notnr, q_eqt, q_net, q_isi1, q_isi2, q_isi3, q_isi4, q_isi5, q_isi6, q_isi7, q_isi8, q_isi9, q_lent, q_lenf, q_inti, q_intb, q_abs, q_max, q_min, q_tupt, q_listt, q_sl, q_slf, Bool.not_true, Bool.not_false, Bool.true_and, Bool.and_true, Bool.false_and, Bool.false_or, Bool.or_false, Bool.true_or, if_true, if_false, line, pick, Option.toList, q_alloc, q_itt, q_itf, q_compt, q_compf, q_tupnew, Nat.reduceAdd, Nat.reduceLeDiff, Nat.zero_add, Bool.false_eq_true, q_at eL, e, q_at eL', q_insert eL' (i := r) (w := .int ((i : Int) + 1)) ⟨q1, by omega⟩ (by rw [List.length_map]; unfold line; omega)]
            refine ⟨L, w.take r.toNat ++ [(i : Int) + 1] ++ w.drop r.toNat, _, rfl, hL, hh, ?_, ?_, ?_, ?_, (um.trans u').setn hh⟩
            · rw [set_get hlt]
              simp
            · simp only [List.length_append, List.length_take, List.length_drop, List.length_cons, List.length_nil]; omega
            · have : letterB ((i : Int) + 1) = true := by unfold letterB; simp; omega
              rw [List.all_append, List.all_append, Bool.and_eq_true, Bool.and_eq_true]
              have hsub := List.all_eq_true.mp hw2
              exact ⟨⟨List.all_eq_true.mpr fun x hx => hsub x (List.mem_of_mem_take hx), by simp [this]⟩, List.all_eq_true.mpr fun x hx => hsub x (List.mem_of_mem_drop hx)⟩
            · obtain ⟨a, b, c, e9, k9⟩ := j'
              exact ⟨a, b, c, by rw [List.getElem?_set_ne hL]; exact e9, k9⟩
          · rintro fr m ⟨L, w, x6, rfl, hL, hh, eL, hw1, hw2, jm, um⟩
            exact ⟨L, w, x6, rfl, hL, hh, eL, by simpa using hw1, hw2, jm, um⟩
        · rw [if_neg h0]
          exact ⟨L, w, x6, rfl, hL, hh, eL, hw1, hw2, jm, um⟩
      case nx3 =>
        rintro fr m ⟨L, w, x6, rfl, hL, hh, eL, hw1, hw2, jm, um⟩
        simp only [frameM, x_seq, x_skip, x_exp, x_asg, x_asgS, x_ret, x_retn, x_ite, x_whl, x_forr, x_brk, x_cnt, x_rse, n_nx, n_rt, n_bk, n_ct, n_exc, n_ite, loopV_t, loopV_f, ev, asgX, asgM, wipeM, varsOf, List.map_cons, List.map_nil, List.length_cons, List.length_nil, List.replicate, List.cons_append, List.nil_append, List.append_nil, List.getElem?_cons_zero, List.getElem?_cons_succ, List.set_cons_zero, List.set_cons_succ, Option.bind_some, q_bind, q_bindx, q_bool, q_tups, q_toS, q_toSx, q_some, q_and, q_or, q_cm, q_finr, q_finn, q_finx, q_trub, q_trui, q_trun, q_map, q_add, q_sub, q_lt, q_le, q_gt, q_ge, q_eqi, q_nei, q_eqs, q_nes, q_isnn, q_isni, q_isnt, q_isnr, q_notnn, q_notni, q_notnt, q_notnr, q_eqt, q_net, q_isi1, q_isi2, q_isi3, q_isi4, q_isi5, q_isi6, q_isi7, q_isi8, q_isi9, q_lent, q_lenf, q_inti, q_intb, q_abs, q_max, q_min, q_tupt, q_listt, q_sl, q_slf, Bool.not_true, Bool.not_false, Bool.true_and, Bool.and_true, Bool.false_and, Bool.false_or, Bool.or_false, Bool.true_or, if_true, if_false, line, pick, Option.toList, q_alloc, q_itt, q_itf, q_compt, q_compf, q_tupnew, Nat.reduceAdd, Nat.reduceLeDiff, Nat.zero_add, Bool.false_eq_true, q_tupr eL]
        exact ⟨w, rfl, ⟨by omega, hw2⟩, jm, um⟩
end MP

/-! repr of small things -/
namespace MP
open PySem PySem.Spec PyProof.Rows L2
mutual
def smallD : PyData → Bool
  | .none => true
  | .bool _ => true
  | .int i => decide (i.natAbs < 10 ^ 18)
  | .str _ => false
  | .list xs => smallDs xs
  | .tuple xs => smallDs xs
  | .dict _ => false
def smallDs : List PyData → Bool
  | [] => true
  | x :: xs => smallD x && smallDs xs
end
mutual
def msz : PyData → Nat
  | .none => 22
  | .bool _ => 22
  | .int _ => 22
  | .str _ => 22
  | .list xs => 4 + mszs xs
  | .tuple xs => 4 + mszs xs
  | .dict _ => 22
def mszs : List PyData → Nat
  | [] => 0
  | x :: xs => msz x + 2 + mszs xs
end
theorem len_app (a b : Str) : (a ++ b).length = a.length + b.length := by
  show (a.cps ++ b.cps).size = _
  rw [Array.size_append]; rfl
theorem textFrom_le : ∀ (ts : List Str) (k : Nat) (acc : Str), (textFrom k acc ts).length ≤ acc.length + (ts.map fun t => t.length + 2).sum
  | [], k, acc => by simp [textFrom]
  | t :: r, k, acc => by
    unfold textFrom
    refine Nat.le_trans (textFrom_le r (k + 1) _) ?_
    rw [len_app, len_app, List.map_cons, List.sum_cons]
    have : (Str.ofString (if k > 0 then ", " else "")).length ≤ 2 := by split <;> decide
    omega
theorem listText_le (ts : List Str) : (listText ts).length ≤ 2 + (ts.map fun t => t.length + 2).sum := by
  unfold listText
  rw [len_app]
  have := textFrom_le ts 0 "["
  have e1 : (Str.ofString "[").length = 1 := by decide
  have e2 : (Str.ofString "]").length = 1 := by decide
  omega
theorem tupleText_le (ts : List Str) : (tupleText ts).length ≤ 4 + (ts.map fun t => t.length + 2).sum := by
  unfold tupleText
  rw [len_app, len_app]
  have e1 : (Str.ofString "(").length = 1 := by decide
  have e2 : (Str.ofString (if (ts.length == 1) = true then ",)" else ")")).length ≤ 2 := by split <;> decide
  have e3 : (Str.join ", " ts).length ≤ (ts.map fun t => t.length + 2).sum := by
    cases ts with
    | nil => decide
    | cons t r =>
      have := join_length_add (t :: r) (by simp)
      unfold piled at this
      omega
  omega
mutual
theorem shown_le : ∀ d : PyData, smallD d = true → d.shown.length ≤ msz d
  | .none, _ => by decide
  | .bool b, _ => by cases b <;> decide
  | .int i, h => by
    have h' : i.natAbs < 10 ^ 18 := of_decide_eq_true h
    have := int_text_length_le10 (k := 18) (by omega) h'
    show (Str.ofString (toString i)).length ≤ 22
    have e : (Str.ofString (toString i)).length = (toString i).length := PySem.ofString_length _
    omega
  | .str _, h => nomatch h
  | .list xs, h => by
    have := shownAll_le xs h
    have := listText_le (PyData.shownAll xs)
    show (listText (PyData.shownAll xs)).length ≤ 4 + mszs xs
    omega
  | .tuple xs, h => by
    have := shownAll_le xs h
    have := tupleText_le (PyData.shownAll xs)
    show (tupleText (PyData.shownAll xs)).length ≤ 4 + mszs xs
    omega
  | .dict _, h => nomatch h
theorem shownAll_le : ∀ ds : List PyData, smallDs ds = true → ((PyData.shownAll ds).map fun t => t.length + 2).sum ≤ mszs ds
  | [], _ => Nat.le_refl _
  | d :: ds, h => by
    have h' : (smallD d && smallDs ds) = true := h
    rw [Bool.and_eq_true] at h'
    have h1 := shown_le d h'.1
    have h2 := shownAll_le ds h'.2
    show (d.shown.length + 2) + ((PyData.shownAll ds).map fun t => t.length + 2).sum ≤ msz d + 2 + mszs ds
    omega
end
mutual
theorem small_showable : ∀ d : PyData, smallD d = true → d.showable = true
  | .none, _ => rfl
  | .bool b, _ => rfl
  | .int i, h => by
    have h' : i.natAbs < 10 ^ 18 := of_decide_eq_true h
    show decide (i.natAbs.log2 < 1920) = true
    rw [decide_eq_true_eq]
    by_cases h0 : i.natAbs = 0
    · rw [h0]; decide
    · have := (Nat.log2_lt h0 (k := 1920)).mpr (Nat.lt_of_lt_of_le h' (by decide +kernel))
      exact this
  | .str _, h => nomatch h
  | .list xs, h => smalls_showable xs h
  | .tuple xs, h => smalls_showable xs h
  | .dict _, h => nomatch h
theorem smalls_showable : ∀ ds : List PyData, smallDs ds = true → PyData.showableAll ds = true
  | [], _ => rfl
  | d :: ds, h => by
    have h' : (smallD d && smallDs ds) = true := h
    rw [Bool.and_eq_true] at h'
    show (d.showable && PyData.showableAll ds) = true
    rw [small_showable d h'.1, smalls_showable ds h'.2]; rfl
end
mutual
theorem small_noDict : ∀ d : PyData, smallD d = true → d.hasDict = false
  | .none, _ => rfl
  | .bool b, _ => rfl
  | .int i, h => rfl
  | .str _, h => nomatch h
  | .list xs, h => smalls_noDict xs h
  | .tuple xs, h => smalls_noDict xs h
  | .dict _, h => nomatch h
theorem smalls_noDict : ∀ ds : List PyData, smallDs ds = true → PyData.hasDictAll ds = false
  | [], _ => rfl
  | d :: ds, h => by
    have h' : (smallD d && smallDs ds) = true := h
    rw [Bool.and_eq_true] at h'
    show (d.hasDict || PyData.hasDictAll ds) = false
    rw [small_noDict d h'.1, smalls_noDict ds h'.2]; rfl
end
theorem repr_ok {h : Mh} {v : Mv} {d : PyData} (e : toD h deep v = some d) (hs : smallD d = true) (hd : d.depth ≤ 30) (hm : msz d ≤ line) : reprM h v = some d.shown := by
  unfold reprM
  rw [e]
  dsimp only
  rw [small_showable d hs, small_noDict d hs, decide_eq_true hd, decide_eq_true (Nat.le_trans (shown_le d hs) hm)]
  rfl
theorem q_reprr {h : Mh} {n : Nat} {z : Str} (e : reprM h (.ref n) = some z) : bltM "repr" [.ref n] h = .ok (.str z) h := by
  show (match reprM h (.ref n) with | some x => Mr.ok (Mv.str x) h | none => .err) = _
  rw [e]
theorem q_reprt {h : Mh} {xs : List Mv} {z : Str} (e : reprM h (.tup xs) = some z) : bltM "repr" [.tup xs] h = .ok (.str z) h := by
  show (match reprM h (.tup xs) with | some x => Mr.ok (Mv.str x) h | none => .err) = _
  rw [e]
end MP

set_option maxHeartbeats 4000000
/-! plactic_k03_whole_exchanges: the text in the small language, and that it means the same -/
namespace K03
open PySem PySem.Spec PyProof.Rows L2 MP MPB

def top (i : Nat) : Stmt := PySem.Challenge.pw_plactic_k03_whole_exchanges.main.body.getD i (.Pass ⟨0, 0, 0, 0⟩)

abbrev s_is_between : Stmt := top 7
abbrev s_is_letter : Stmt := top 8
abbrev s_wrong_letter : Stmt := top 9
abbrev s_check_word : Stmt := top 10
abbrev s_after_exchange : Stmt := top 11
abbrev s_has_exchange : Stmt := top 12
abbrev s_exchanged : Stmt := top 13
abbrev s_all_places : Stmt := top 14
abbrev s_places_of : Stmt := top 15
abbrev s_words_beside : Stmt := top 16
abbrev s_neighbours : Stmt := top 17
abbrev s__law_jar : Stmt := top 19
abbrev s__law_spoon : Stmt := top 20
abbrev s__law_one : Stmt := top 21
abbrev s__law_word : Stmt := top 22
abbrev s__law_after : Stmt := top 23
abbrev s__law_beside : Stmt := top 24
abbrev s__law_right : Stmt := top 25
abbrev N__law_right : List Str := ["_law_jar_here", "_law_again", "_law_word_here", "_law_some", "_law_due", "_law_place", "_law_later"]
def b__law_right : S :=
  (.seq (.forr (.var 1) (.it .rng (.acons (.lit (.int 4)) .anil)) (.seq (.asg (.var 2) (.call "_law_word" (.acons (.var 0) (.acons (.lit (.int 40)) .anil))))
    (.seq (.asg (.var 3) (.call "_law_beside" (.acons (.var 2) .anil)))
    (.seq (.asg (.var 4) (.blt "tuple" (.acons (.comp (.var 5) (.tup (.acons (.var 5) (.acons (.var 6) .anil))) (.it .itm (.acons (.var 3) .anil)) (.lit (.bl true)) [5, 6]) .anil)))
    (.seq (.ite (.cmp .NotEq (.blt "repr" (.acons (.lst (.acons (.call "places_of" (.acons (.var 2) .anil)) (.acons (.calk "places_of" .anil (.acons (.var 2) .anil) [.k 0]) .anil))) .anil)) (.blt "repr" (.acons (.lst (.acons (.var 4) (.acons (.var 4) .anil))) .anil))) (.ret (.lit (.bl false))) .skip)
    (.seq (.forr (.tup (.acons (.var 5) (.acons (.var 6) .anil))) (.it .itm (.acons (.var 3) .anil)) (.seq (.ite (.or (.cmp .Eq (.var 6) (.var 2)) (.cmp .NotEq (.call "exchanged" (.acons (.var 2) (.acons (.var 5) .anil))) (.var 6))) (.ret (.lit (.bl false))) .skip)
    (.seq (.ite (.cmp .NotEq (.calk "exchanged" .anil (.acons (.var 5) (.acons (.var 2) .anil)) [.k 1, .k 0]) (.var 6)) (.ret (.lit (.bl false))) .skip)
    (.ite (.cmp .NotEq (.call "exchanged" (.acons (.var 6) (.acons (.var 5) .anil))) (.var 2)) (.ret (.lit (.bl false))) .skip))))
    (.seq (.asg (.var 4) (.blt "tuple" (.acons (.blt "sorted_set" (.acons (.comp (.var 6) (.tup (.acons (.var 5) (.acons (.var 6) .anil))) (.it .itm (.acons (.var 3) .anil)) (.lit (.bl true)) [5, 6]) .anil)) .anil)))
    (.ite (.cmp .NotEq (.blt "repr" (.acons (.lst (.acons (.call "neighbours" (.acons (.var 2) .anil)) (.acons (.calk "neighbours" .anil (.acons (.var 2) .anil) [.k 0]) .anil))) .anil)) (.blt "repr" (.acons (.lst (.acons (.var 4) (.acons (.var 4) .anil))) .anil))) (.ret (.lit (.bl false))) .skip))))))))
    (.ret (.lit (.bl true))))

abbrev s_law : Stmt := top 26
abbrev N_law : List Str := ["_law_script", "_law_k"]
def b_law : S :=
  (.ret (.blt "all" (.acons (.comp (.call "_law_right" (.acons (.call "_law_jar" (.acons (.var 0) (.acons (.var 1) .anil))) .anil)) (.var 1) (.it .rng (.acons (.blt "max" (.acons (.lit (.int 2)) (.acons (.blt "min" (.acons (.blt "len" (.acons (.var 0) .anil)) (.acons (.lit (.int 5)) .anil))) .anil))) .anil)) (.lit (.bl true)) [1]) .anil)))

def tx : Tx := { cs := [("MOST_LETTER", .int 9), ("MOST_WORD", .int 40)], defs := [("is_between", 3, b_is_between), ("is_letter", 1, b_is_letter), ("wrong_letter", 3, b_wrong_letter), ("check_word", 2, b_check_word), ("after_exchange", 5, b_after_exchange), ("has_exchange", 2, b_has_exchange), ("exchanged", 2, b_exchanged), ("all_places", 2, b_all_places), ("places_of", 1, b_places_of), ("words_beside", 2, b_words_beside), ("neighbours", 1, b_neighbours), ("_law_jar", 5, b__law_jar), ("_law_spoon", 3, b__law_spoon), ("_law_one", 2, b__law_one), ("_law_word", 7, b__law_word), ("_law_after", 5, b__law_after), ("_law_beside", 4, b__law_beside), ("_law_right", 7, b__law_right), ("law", 2, b_law)] }

def tls : Tls := ⟨[("is_between", ["value", "low", "high"]), ("is_letter", ["value"]), ("wrong_letter", ["letters"]), ("check_word", ["value"]), ("after_exchange", ["word", "place"]), ("has_exchange", ["word", "place"]), ("exchanged", ["word", "place"]), ("all_places", ["word"]), ("places_of", ["word"]), ("words_beside", ["word"]), ("neighbours", ["word"]), ("_law_jar", ["_law_script", "_law_k"]), ("_law_spoon", ["_law_jar_here", "_law_many"]), ("_law_one", ["_law_jar_here", "_law_things"]), ("_law_word", ["_law_jar_here", "_law_most"]), ("_law_after", ["_law_word_here", "_law_i"]), ("_law_beside", ["_law_word_here"]), ("_law_right", ["_law_jar_here"]), ("law", ["_law_script"])],
  [("InvalidWord", "index"), ("InvalidPlace", "value")],
  [("places_of", 0, ["word"], [.k 0]), ("exchanged", 0, ["place", "word"], [.k 1, .k 0]), ("neighbours", 0, ["word"], [.k 0])],
  ["isinstance", "int", "bool", "enumerate", "tuple", "len", "range", "sorted", "set", "abs", "divmod", "min", "max", "repr", "all"]⟩

theorem sc_is_between : FnScope N_is_between ["value", "low", "high"] (defScope s_is_between) := ⟨rfl, rfl, rfl, by decide +kernel, rfl, by decide +kernel, by decide +kernel⟩

theorem d_is_between {T : Tb} {j lv : Nat} (tab : Tk T lv (tx.G j) tls) (f : Addr) (cd : Value) (A : Around) (outer : List Env) (s : Shared) (H : Hp) (E : XK) (hr : Room (lv + 1) (A.deeper (envOfC "is_between" (defScope s_is_between) s.heap.objs.size f cd))) (hg : (A.deeper (envOfC "is_between" (defScope s_is_between) s.heap.objs.size f cd)).guards = some []) :
    MSs (cxOf (L2.CX T.P T.w) T.P T.w T.K T.mg T.base N_is_between "is_between" (defScope s_is_between) f cd A outer s H E) T.ca (fun c d _ H => E c d H) (tx.G j) (defBody s_is_between) b_is_between := by
  have xg := xg_def (outer := outer) (H := H) (E := E) tab sc_is_between.nd hr hg
  exact (s_one (s_ret (m_and (m_isi tyk_int rfl (xg.nb rfl) rfl (xg.nb rfl) (m_var (i := 0) rfl (vis_of rfl))) (m_and (m_not (m_isi tyk_bool rfl (xg.nb rfl) rfl (xg.nb rfl) (m_var (i := 0) rfl (vis_of rfl)))) (m_one (m_chn xg (m_var (i := 1) rfl (vis_of rfl)) (m_var (i := 0) rfl (vis_of rfl)) (m_var (i := 2) rfl (vis_of rfl))))))))

theorem g_is_between {T : Tb} {a : Addr} {fd : FuncData} (F : Fun T.K "is_between" "is_between" s_is_between a fd) {j lv : Nat} (tab : Tk T lv (tx.G j) tls) : FnG T (lv + 2) a fd ["value", "low", "high"] (spF T 3 ((tx.G (j + 1)).ph "is_between")) := by
  obtain ⟨oc, od, kV, doc, pm, an, cdv, ct, osl, rfl, lk, hcd⟩ := F.ex
  have e : (tx.G (j + 1)).ph "is_between" = runM (tx.G j) N_is_between.length b_is_between := rfl
  rw [e]
  exact fnG_mk lk hcd sc_is_between fun A outer s H E hr hg => d_is_between tab _ _ A outer s H E hr hg

theorem bd_is_between {K : PySem.W.Frag} {a : Addr} {fd : FuncData} (F : Fun K "is_between" "is_between" s_is_between a fd) (us : List Value) (hl : us.length = 3) : bindArgs fd ⟨us, []⟩ = pure ((["value", "low", "high"] : List Str).zip us) := by
  obtain ⟨oc, od, kV, doc, pm, an, cdv, ct, osl, rfl, lk, hcd⟩ := F.ex
  match us, hl with
  | [_, _, _], _ => rfl

theorem sc_is_letter : FnScope N_is_letter ["value"] (defScope s_is_letter) := ⟨rfl, rfl, rfl, by decide +kernel, rfl, by decide +kernel, by decide +kernel⟩

theorem d_is_letter {T : Tb} {j lv : Nat} (tab : Tk T lv (tx.G j) tls) (f : Addr) (cd : Value) (A : Around) (outer : List Env) (s : Shared) (H : Hp) (E : XK) (hr : Room (lv + 1) (A.deeper (envOfC "is_letter" (defScope s_is_letter) s.heap.objs.size f cd))) (hg : (A.deeper (envOfC "is_letter" (defScope s_is_letter) s.heap.objs.size f cd)).guards = some []) :
    MSs (cxOf (L2.CX T.P T.w) T.P T.w T.K T.mg T.base N_is_letter "is_letter" (defScope s_is_letter) f cd A outer s H E) T.ca (fun c d _ H => E c d H) (tx.G j) (defBody s_is_letter) b_is_letter := by
  have xg := xg_def (outer := outer) (H := H) (E := E) tab sc_is_letter.nd hr hg
  exact (s_one (s_ret (m_call xg rfl rfl rfl (m_acons (m_var (i := 0) rfl (vis_of rfl)) (m_acons m_int (m_acons (m_cst xg rfl rfl) m_anil))))))

theorem g_is_letter {T : Tb} {a : Addr} {fd : FuncData} (F : Fun T.K "is_letter" "is_letter" s_is_letter a fd) {j lv : Nat} (tab : Tk T lv (tx.G j) tls) : FnG T (lv + 2) a fd ["value"] (spF T 1 ((tx.G (j + 1)).ph "is_letter")) := by
  obtain ⟨oc, od, kV, doc, pm, an, cdv, ct, osl, rfl, lk, hcd⟩ := F.ex
  have e : (tx.G (j + 1)).ph "is_letter" = runM (tx.G j) N_is_letter.length b_is_letter := rfl
  rw [e]
  exact fnG_mk lk hcd sc_is_letter fun A outer s H E hr hg => d_is_letter tab _ _ A outer s H E hr hg

theorem bd_is_letter {K : PySem.W.Frag} {a : Addr} {fd : FuncData} (F : Fun K "is_letter" "is_letter" s_is_letter a fd) (us : List Value) (hl : us.length = 1) : bindArgs fd ⟨us, []⟩ = pure ((["value"] : List Str).zip us) := by
  obtain ⟨oc, od, kV, doc, pm, an, cdv, ct, osl, rfl, lk, hcd⟩ := F.ex
  match us, hl with
  | [_], _ => rfl

theorem sc_wrong_letter : FnScope N_wrong_letter ["letters"] (defScope s_wrong_letter) := ⟨rfl, rfl, rfl, by decide +kernel, rfl, by decide +kernel, by decide +kernel⟩

theorem d_wrong_letter {T : Tb} {j lv : Nat} (tab : Tk T lv (tx.G j) tls) (f : Addr) (cd : Value) (A : Around) (outer : List Env) (s : Shared) (H : Hp) (E : XK) (hr : Room (lv + 1) (A.deeper (envOfC "wrong_letter" (defScope s_wrong_letter) s.heap.objs.size f cd))) (hg : (A.deeper (envOfC "wrong_letter" (defScope s_wrong_letter) s.heap.objs.size f cd)).guards = some []) :
    MSs (cxOf (L2.CX T.P T.w) T.P T.w T.K T.mg T.base N_wrong_letter "wrong_letter" (defScope s_wrong_letter) f cd A outer s H E) T.ca (fun c d _ H => E c d H) (tx.G j) (defBody s_wrong_letter) b_wrong_letter := by
  have xg := xg_def (outer := outer) (H := H) (E := E) tab sc_wrong_letter.nd hr hg
  exact (s_cons (s_for xg.po xg.calm (i_enu rfl (xg.nb rfl) rfl (m_acons (m_var (i := 0) rfl (vis_of rfl)) m_anil)) (n_tup xg.calm (n_cons (n_name (i := 1) xg.nd rfl (loc_of rfl)) (n_cons (n_name (i := 2) xg.nd rfl (loc_of rfl)) n_nil)) rfl) (s_one (s_if (m_tnot (m_ttru (m_call xg rfl rfl rfl (m_acons (m_var (i := 2) rfl (vis_of rfl)) m_anil)))) (s_one (s_ret (m_var (i := 1) rfl (vis_of rfl)))) s_nil)))
    (s_one (s_ret m_non)))

theorem g_wrong_letter {T : Tb} {a : Addr} {fd : FuncData} (F : Fun T.K "wrong_letter" "wrong_letter" s_wrong_letter a fd) {j lv : Nat} (tab : Tk T lv (tx.G j) tls) : FnG T (lv + 2) a fd ["letters"] (spF T 1 ((tx.G (j + 1)).ph "wrong_letter")) := by
  obtain ⟨oc, od, kV, doc, pm, an, cdv, ct, osl, rfl, lk, hcd⟩ := F.ex
  have e : (tx.G (j + 1)).ph "wrong_letter" = runM (tx.G j) N_wrong_letter.length b_wrong_letter := rfl
  rw [e]
  exact fnG_mk lk hcd sc_wrong_letter fun A outer s H E hr hg => d_wrong_letter tab _ _ A outer s H E hr hg

theorem bd_wrong_letter {K : PySem.W.Frag} {a : Addr} {fd : FuncData} (F : Fun K "wrong_letter" "wrong_letter" s_wrong_letter a fd) (us : List Value) (hl : us.length = 1) : bindArgs fd ⟨us, []⟩ = pure ((["letters"] : List Str).zip us) := by
  obtain ⟨oc, od, kV, doc, pm, an, cdv, ct, osl, rfl, lk, hcd⟩ := F.ex
  match us, hl with
  | [_], _ => rfl

theorem sc_check_word : FnScope N_check_word ["value"] (defScope s_check_word) := ⟨rfl, rfl, rfl, by decide +kernel, rfl, by decide +kernel, by decide +kernel⟩

theorem d_check_word {T : Tb} {j lv : Nat} (tab : Tk T lv (tx.G j) tls) (f : Addr) (cd : Value) (A : Around) (outer : List Env) (s : Shared) (H : Hp) (E : XK) (hr : Room (lv + 1) (A.deeper (envOfC "check_word" (defScope s_check_word) s.heap.objs.size f cd))) (hg : (A.deeper (envOfC "check_word" (defScope s_check_word) s.heap.objs.size f cd)).guards = some []) :
    MSs (cxOf (L2.CX T.P T.w) T.P T.w T.K T.mg T.base N_check_word "check_word" (defScope s_check_word) f cd A outer s H E) T.ca (fun c d _ H => E c d H) (tx.G j) (defBody s_check_word) b_check_word := by
  have xg := xg_def (outer := outer) (H := H) (E := E) tab sc_check_word.nd hr hg
  exact (s_cons (s_if (m_tw (m_tor (m_tnot (m_ttru (m_isi tyk_tuple rfl (xg.nb rfl) rfl (xg.nb rfl) (m_var (i := 0) rfl (vis_of rfl))))) (m_tor1 (m_tcmp xg (m_callB blt_len rfl (xg.nb rfl) bb_len (m_acons (m_var (i := 0) rfl (vis_of rfl)) m_anil)) (m_cst xg rfl rfl))))) (s_one (s_raise xg rfl (m_acons m_non m_anil) rfl)) s_nil)
    (s_cons (s_set (i := 1) xg.nd rfl (loc_of rfl) (m_call xg rfl rfl rfl (m_acons (m_var (i := 0) rfl (vis_of rfl)) m_anil)))
    (s_one (s_if (m_tcmp xg (m_var (i := 1) rfl (vis_of rfl)) m_non) (s_one (s_raise xg rfl (m_acons (m_var (i := 1) rfl (vis_of rfl)) m_anil) rfl)) s_nil))))

theorem g_check_word {T : Tb} {a : Addr} {fd : FuncData} (F : Fun T.K "check_word" "check_word" s_check_word a fd) {j lv : Nat} (tab : Tk T lv (tx.G j) tls) : FnG T (lv + 2) a fd ["value"] (spF T 1 ((tx.G (j + 1)).ph "check_word")) := by
  obtain ⟨oc, od, kV, doc, pm, an, cdv, ct, osl, rfl, lk, hcd⟩ := F.ex
  have e : (tx.G (j + 1)).ph "check_word" = runM (tx.G j) N_check_word.length b_check_word := rfl
  rw [e]
  exact fnG_mk lk hcd sc_check_word fun A outer s H E hr hg => d_check_word tab _ _ A outer s H E hr hg

theorem bd_check_word {K : PySem.W.Frag} {a : Addr} {fd : FuncData} (F : Fun K "check_word" "check_word" s_check_word a fd) (us : List Value) (hl : us.length = 1) : bindArgs fd ⟨us, []⟩ = pure ((["value"] : List Str).zip us) := by
  obtain ⟨oc, od, kV, doc, pm, an, cdv, ct, osl, rfl, lk, hcd⟩ := F.ex
  match us, hl with
  | [_], _ => rfl

theorem sc_after_exchange : FnScope N_after_exchange ["word", "place"] (defScope s_after_exchange) := ⟨rfl, rfl, rfl, by decide +kernel, rfl, by decide +kernel, by decide +kernel⟩

theorem d_after_exchange {T : Tb} {j lv : Nat} (tab : Tk T lv (tx.G j) tls) (f : Addr) (cd : Value) (A : Around) (outer : List Env) (s : Shared) (H : Hp) (E : XK) (hr : Room (lv + 1) (A.deeper (envOfC "after_exchange" (defScope s_after_exchange) s.heap.objs.size f cd))) (hg : (A.deeper (envOfC "after_exchange" (defScope s_after_exchange) s.heap.objs.size f cd)).guards = some []) :
    MSs (cxOf (L2.CX T.P T.w) T.P T.w T.K T.mg T.base N_after_exchange "after_exchange" (defScope s_after_exchange) f cd A outer s H E) T.ca (fun c d _ H => E c d H) (tx.G j) (defBody s_after_exchange) b_after_exchange := by
  have xg := xg_def (outer := outer) (H := H) (E := E) tab sc_after_exchange.nd hr hg
  exact (s_cons (s_asg (m_slc (m_var (i := 0) rfl (vis_of rfl)) (m_po1 (m_var (i := 1) rfl (vis_of rfl))) (m_po1 (m_bin (m_var (i := 1) rfl (vis_of rfl)) m_int))) (g_tup xg.calm (g_cons (g_name (i := 2) xg.nd rfl (loc_of rfl)) (g_cons (g_name (i := 3) xg.nd rfl (loc_of rfl)) (g_cons (g_name (i := 4) xg.nd rfl (loc_of rfl)) g_nil))) rfl))
    (s_cons (s_if (m_tw (m_tor (m_tchn xg (m_var (i := 3) rfl (vis_of rfl)) (m_var (i := 2) rfl (vis_of rfl)) (m_var (i := 4) rfl (vis_of rfl))) (m_tor1 (m_tchn xg (m_var (i := 4) rfl (vis_of rfl)) (m_var (i := 2) rfl (vis_of rfl)) (m_var (i := 3) rfl (vis_of rfl)))))) (s_one (s_ret (m_bin (m_bin (m_slc (m_var (i := 0) rfl (vis_of rfl)) m_po0 (m_po1 (m_var (i := 1) rfl (vis_of rfl)))) (m_tup (m_acons (m_var (i := 2) rfl (vis_of rfl)) (m_acons (m_var (i := 4) rfl (vis_of rfl)) (m_acons (m_var (i := 3) rfl (vis_of rfl)) m_anil))))) (m_slc (m_var (i := 0) rfl (vis_of rfl)) (m_po1 (m_bin (m_var (i := 1) rfl (vis_of rfl)) m_int)) m_po0)))) s_nil)
    (s_cons (s_if (m_tw (m_tor (m_tchn xg (m_var (i := 2) rfl (vis_of rfl)) (m_var (i := 4) rfl (vis_of rfl)) (m_var (i := 3) rfl (vis_of rfl))) (m_tor1 (m_tchn xg (m_var (i := 3) rfl (vis_of rfl)) (m_var (i := 4) rfl (vis_of rfl)) (m_var (i := 2) rfl (vis_of rfl)))))) (s_one (s_ret (m_bin (m_bin (m_slc (m_var (i := 0) rfl (vis_of rfl)) m_po0 (m_po1 (m_var (i := 1) rfl (vis_of rfl)))) (m_tup (m_acons (m_var (i := 3) rfl (vis_of rfl)) (m_acons (m_var (i := 2) rfl (vis_of rfl)) (m_acons (m_var (i := 4) rfl (vis_of rfl)) m_anil))))) (m_slc (m_var (i := 0) rfl (vis_of rfl)) (m_po1 (m_bin (m_var (i := 1) rfl (vis_of rfl)) m_int)) m_po0)))) s_nil)
    (s_one (s_ret m_non)))))

theorem g_after_exchange {T : Tb} {a : Addr} {fd : FuncData} (F : Fun T.K "after_exchange" "after_exchange" s_after_exchange a fd) {j lv : Nat} (tab : Tk T lv (tx.G j) tls) : FnG T (lv + 2) a fd ["word", "place"] (spF T 2 ((tx.G (j + 1)).ph "after_exchange")) := by
  obtain ⟨oc, od, kV, doc, pm, an, cdv, ct, osl, rfl, lk, hcd⟩ := F.ex
  have e : (tx.G (j + 1)).ph "after_exchange" = runM (tx.G j) N_after_exchange.length b_after_exchange := rfl
  rw [e]
  exact fnG_mk lk hcd sc_after_exchange fun A outer s H E hr hg => d_after_exchange tab _ _ A outer s H E hr hg

theorem bd_after_exchange {K : PySem.W.Frag} {a : Addr} {fd : FuncData} (F : Fun K "after_exchange" "after_exchange" s_after_exchange a fd) (us : List Value) (hl : us.length = 2) : bindArgs fd ⟨us, []⟩ = pure ((["word", "place"] : List Str).zip us) := by
  obtain ⟨oc, od, kV, doc, pm, an, cdv, ct, osl, rfl, lk, hcd⟩ := F.ex
  match us, hl with
  | [_, _], _ => rfl

theorem sc_has_exchange : FnScope N_has_exchange ["word", "place"] (defScope s_has_exchange) := ⟨rfl, rfl, rfl, by decide +kernel, rfl, by decide +kernel, by decide +kernel⟩

theorem d_has_exchange {T : Tb} {j lv : Nat} (tab : Tk T lv (tx.G j) tls) (f : Addr) (cd : Value) (A : Around) (outer : List Env) (s : Shared) (H : Hp) (E : XK) (hr : Room (lv + 1) (A.deeper (envOfC "has_exchange" (defScope s_has_exchange) s.heap.objs.size f cd))) (hg : (A.deeper (envOfC "has_exchange" (defScope s_has_exchange) s.heap.objs.size f cd)).guards = some []) :
    MSs (cxOf (L2.CX T.P T.w) T.P T.w T.K T.mg T.base N_has_exchange "has_exchange" (defScope s_has_exchange) f cd A outer s H E) T.ca (fun c d _ H => E c d H) (tx.G j) (defBody s_has_exchange) b_has_exchange := by
  have xg := xg_def (outer := outer) (H := H) (E := E) tab sc_has_exchange.nd hr hg
  exact (s_one (s_ret (m_and (m_call xg rfl rfl rfl (m_acons (m_var (i := 1) rfl (vis_of rfl)) (m_acons m_int (m_acons (m_bin (m_callB blt_len rfl (xg.nb rfl) bb_len (m_acons (m_var (i := 0) rfl (vis_of rfl)) m_anil)) m_int) m_anil)))) (m_one (m_cmp xg (m_call xg rfl rfl rfl (m_acons (m_var (i := 0) rfl (vis_of rfl)) (m_acons (m_var (i := 1) rfl (vis_of rfl)) m_anil))) m_non)))))

theorem g_has_exchange {T : Tb} {a : Addr} {fd : FuncData} (F : Fun T.K "has_exchange" "has_exchange" s_has_exchange a fd) {j lv : Nat} (tab : Tk T lv (tx.G j) tls) : FnG T (lv + 2) a fd ["word", "place"] (spF T 2 ((tx.G (j + 1)).ph "has_exchange")) := by
  obtain ⟨oc, od, kV, doc, pm, an, cdv, ct, osl, rfl, lk, hcd⟩ := F.ex
  have e : (tx.G (j + 1)).ph "has_exchange" = runM (tx.G j) N_has_exchange.length b_has_exchange := rfl
  rw [e]
  exact fnG_mk lk hcd sc_has_exchange fun A outer s H E hr hg => d_has_exchange tab _ _ A outer s H E hr hg

theorem bd_has_exchange {K : PySem.W.Frag} {a : Addr} {fd : FuncData} (F : Fun K "has_exchange" "has_exchange" s_has_exchange a fd) (us : List Value) (hl : us.length = 2) : bindArgs fd ⟨us, []⟩ = pure ((["word", "place"] : List Str).zip us) := by
  obtain ⟨oc, od, kV, doc, pm, an, cdv, ct, osl, rfl, lk, hcd⟩ := F.ex
  match us, hl with
  | [_, _], _ => rfl

theorem sc_exchanged : FnScope N_exchanged ["word", "place"] (defScope s_exchanged) := ⟨rfl, rfl, rfl, by decide +kernel, rfl, by decide +kernel, by decide +kernel⟩

theorem d_exchanged {T : Tb} {j lv : Nat} (tab : Tk T lv (tx.G j) tls) (f : Addr) (cd : Value) (A : Around) (outer : List Env) (s : Shared) (H : Hp) (E : XK) (hr : Room (lv + 1) (A.deeper (envOfC "exchanged" (defScope s_exchanged) s.heap.objs.size f cd))) (hg : (A.deeper (envOfC "exchanged" (defScope s_exchanged) s.heap.objs.size f cd)).guards = some []) :
    MSs (cxOf (L2.CX T.P T.w) T.P T.w T.K T.mg T.base N_exchanged "exchanged" (defScope s_exchanged) f cd A outer s H E) T.ca (fun c d _ H => E c d H) (tx.G j) (defBody s_exchanged) b_exchanged := by
  have xg := xg_def (outer := outer) (H := H) (E := E) tab sc_exchanged.nd hr hg
  exact (s_cons (s_exp (m_call xg rfl rfl rfl (m_acons (m_var (i := 0) rfl (vis_of rfl)) m_anil)))
    (s_cons (s_if (m_tnot (m_ttru (m_call xg rfl rfl rfl (m_acons (m_var (i := 0) rfl (vis_of rfl)) (m_acons (m_var (i := 1) rfl (vis_of rfl)) m_anil))))) (s_one (s_raise xg rfl (m_acons (m_var (i := 1) rfl (vis_of rfl)) m_anil) rfl)) s_nil)
    (s_one (s_ret (m_call xg rfl rfl rfl (m_acons (m_var (i := 0) rfl (vis_of rfl)) (m_acons (m_var (i := 1) rfl (vis_of rfl)) m_anil)))))))

theorem g_exchanged {T : Tb} {a : Addr} {fd : FuncData} (F : Fun T.K "exchanged" "exchanged" s_exchanged a fd) {j lv : Nat} (tab : Tk T lv (tx.G j) tls) : FnG T (lv + 2) a fd ["word", "place"] (spF T 2 ((tx.G (j + 1)).ph "exchanged")) := by
  obtain ⟨oc, od, kV, doc, pm, an, cdv, ct, osl, rfl, lk, hcd⟩ := F.ex
  have e : (tx.G (j + 1)).ph "exchanged" = runM (tx.G j) N_exchanged.length b_exchanged := rfl
  rw [e]
  exact fnG_mk lk hcd sc_exchanged fun A outer s H E hr hg => d_exchanged tab _ _ A outer s H E hr hg

theorem bd_exchanged {K : PySem.W.Frag} {a : Addr} {fd : FuncData} (F : Fun K "exchanged" "exchanged" s_exchanged a fd) (us : List Value) (hl : us.length = 2) : bindArgs fd ⟨us, []⟩ = pure ((["word", "place"] : List Str).zip us) := by
  obtain ⟨oc, od, kV, doc, pm, an, cdv, ct, osl, rfl, lk, hcd⟩ := F.ex
  match us, hl with
  | [_, _], _ => rfl

theorem sc_all_places : FnScope N_all_places ["word"] (defScope s_all_places) := ⟨rfl, rfl, rfl, by decide +kernel, rfl, by decide +kernel, by decide +kernel⟩

theorem d_all_places {T : Tb} {j lv : Nat} (tab : Tk T lv (tx.G j) tls) (f : Addr) (cd : Value) (A : Around) (outer : List Env) (s : Shared) (H : Hp) (E : XK) (hr : Room (lv + 1) (A.deeper (envOfC "all_places" (defScope s_all_places) s.heap.objs.size f cd))) (hg : (A.deeper (envOfC "all_places" (defScope s_all_places) s.heap.objs.size f cd)).guards = some []) :
    MSs (cxOf (L2.CX T.P T.w) T.P T.w T.K T.mg T.base N_all_places "all_places" (defScope s_all_places) f cd A outer s H E) T.ca (fun c d _ H => E c d H) (tx.G j) (defBody s_all_places) b_all_places := by
  have xg := xg_def (outer := outer) (H := H) (E := E) tab sc_all_places.nd hr hg
  exact (s_one (s_ret (m_callTy blt_tuple rfl (xg.nb rfl) bb_tuple (m_acons (m_comp (own := [("place", 1)]) xg (i_rng1 rfl (xg.nb rfl) rfl (m_acons (m_bin (m_callB blt_len rfl (xg.nb rfl) bb_len (m_acons (m_var (i := 0) rfl (vis_of rfl)) m_anil)) m_int) m_anil)) (by rfl) (fun _ _ _ _ _ => (n_name (i := 1) xg.nd rfl (loc_of rfl))) (fun _ _ _ _ _ xg => (ifs1 (m_tcmp xg (m_call xg rfl rfl rfl (m_acons (m_var (i := 0) rfl (vis_of rfl)) (m_acons (m_var (i := 1) rfl (vis_of rfl)) m_anil))) m_non))) (fun _ _ _ _ _ xg => (m_var (i := 1) rfl (vis_of rfl))) (by decide)) m_anil))))

theorem g_all_places {T : Tb} {a : Addr} {fd : FuncData} (F : Fun T.K "all_places" "all_places" s_all_places a fd) {j lv : Nat} (tab : Tk T lv (tx.G j) tls) : FnG T (lv + 2) a fd ["word"] (spF T 1 ((tx.G (j + 1)).ph "all_places")) := by
  obtain ⟨oc, od, kV, doc, pm, an, cdv, ct, osl, rfl, lk, hcd⟩ := F.ex
  have e : (tx.G (j + 1)).ph "all_places" = runM (tx.G j) N_all_places.length b_all_places := rfl
  rw [e]
  exact fnG_mk lk hcd sc_all_places fun A outer s H E hr hg => d_all_places tab _ _ A outer s H E hr hg

theorem bd_all_places {K : PySem.W.Frag} {a : Addr} {fd : FuncData} (F : Fun K "all_places" "all_places" s_all_places a fd) (us : List Value) (hl : us.length = 1) : bindArgs fd ⟨us, []⟩ = pure ((["word"] : List Str).zip us) := by
  obtain ⟨oc, od, kV, doc, pm, an, cdv, ct, osl, rfl, lk, hcd⟩ := F.ex
  match us, hl with
  | [_], _ => rfl

theorem sc_places_of : FnScope N_places_of ["word"] (defScope s_places_of) := ⟨rfl, rfl, rfl, by decide +kernel, rfl, by decide +kernel, by decide +kernel⟩

theorem d_places_of {T : Tb} {j lv : Nat} (tab : Tk T lv (tx.G j) tls) (f : Addr) (cd : Value) (A : Around) (outer : List Env) (s : Shared) (H : Hp) (E : XK) (hr : Room (lv + 1) (A.deeper (envOfC "places_of" (defScope s_places_of) s.heap.objs.size f cd))) (hg : (A.deeper (envOfC "places_of" (defScope s_places_of) s.heap.objs.size f cd)).guards = some []) :
    MSs (cxOf (L2.CX T.P T.w) T.P T.w T.K T.mg T.base N_places_of "places_of" (defScope s_places_of) f cd A outer s H E) T.ca (fun c d _ H => E c d H) (tx.G j) (defBody s_places_of) b_places_of := by
  have xg := xg_def (outer := outer) (H := H) (E := E) tab sc_places_of.nd hr hg
  exact (s_cons (s_exp (m_call xg rfl rfl rfl (m_acons (m_var (i := 0) rfl (vis_of rfl)) m_anil)))
    (s_one (s_ret (m_call xg rfl rfl rfl (m_acons (m_var (i := 0) rfl (vis_of rfl)) m_anil)))))

theorem g_places_of {T : Tb} {a : Addr} {fd : FuncData} (F : Fun T.K "places_of" "places_of" s_places_of a fd) {j lv : Nat} (tab : Tk T lv (tx.G j) tls) : FnG T (lv + 2) a fd ["word"] (spF T 1 ((tx.G (j + 1)).ph "places_of")) := by
  obtain ⟨oc, od, kV, doc, pm, an, cdv, ct, osl, rfl, lk, hcd⟩ := F.ex
  have e : (tx.G (j + 1)).ph "places_of" = runM (tx.G j) N_places_of.length b_places_of := rfl
  rw [e]
  exact fnG_mk lk hcd sc_places_of fun A outer s H E hr hg => d_places_of tab _ _ A outer s H E hr hg

theorem bd_places_of {K : PySem.W.Frag} {a : Addr} {fd : FuncData} (F : Fun K "places_of" "places_of" s_places_of a fd) (us : List Value) (hl : us.length = 1) : bindArgs fd ⟨us, []⟩ = pure ((["word"] : List Str).zip us) := by
  obtain ⟨oc, od, kV, doc, pm, an, cdv, ct, osl, rfl, lk, hcd⟩ := F.ex
  match us, hl with
  | [_], _ => rfl

theorem sc_words_beside : FnScope N_words_beside ["word"] (defScope s_words_beside) := ⟨rfl, rfl, rfl, by decide +kernel, rfl, by decide +kernel, by decide +kernel⟩

theorem d_words_beside {T : Tb} {j lv : Nat} (tab : Tk T lv (tx.G j) tls) (f : Addr) (cd : Value) (A : Around) (outer : List Env) (s : Shared) (H : Hp) (E : XK) (hr : Room (lv + 1) (A.deeper (envOfC "words_beside" (defScope s_words_beside) s.heap.objs.size f cd))) (hg : (A.deeper (envOfC "words_beside" (defScope s_words_beside) s.heap.objs.size f cd)).guards = some []) :
    MSs (cxOf (L2.CX T.P T.w) T.P T.w T.K T.mg T.base N_words_beside "words_beside" (defScope s_words_beside) f cd A outer s H E) T.ca (fun c d _ H => E c d H) (tx.G j) (defBody s_words_beside) b_words_beside := by
  have xg := xg_def (outer := outer) (H := H) (E := E) tab sc_words_beside.nd hr hg
  exact (s_one (s_ret (m_callTy blt_tuple rfl (xg.nb rfl) bb_tuple (m_acons (m_sortSet xg rfl (xg.nb rfl) rfl (xg.nb rfl) (m_comp (own := [("place", 1)]) xg (i_seq (m_call xg rfl rfl rfl (m_acons (m_var (i := 0) rfl (vis_of rfl)) m_anil))) (by rfl) (fun _ _ _ _ _ => (n_name (i := 1) xg.nd rfl (loc_of rfl))) (fun _ _ _ _ _ xg => ifs0) (fun _ _ _ _ _ xg => (m_call xg rfl rfl rfl (m_acons (m_var (i := 0) rfl (vis_of rfl)) (m_acons (m_var (i := 1) rfl (vis_of rfl)) m_anil)))) (by decide))) m_anil))))

theorem g_words_beside {T : Tb} {a : Addr} {fd : FuncData} (F : Fun T.K "words_beside" "words_beside" s_words_beside a fd) {j lv : Nat} (tab : Tk T lv (tx.G j) tls) : FnG T (lv + 2) a fd ["word"] (spF T 1 ((tx.G (j + 1)).ph "words_beside")) := by
  obtain ⟨oc, od, kV, doc, pm, an, cdv, ct, osl, rfl, lk, hcd⟩ := F.ex
  have e : (tx.G (j + 1)).ph "words_beside" = runM (tx.G j) N_words_beside.length b_words_beside := rfl
  rw [e]
  exact fnG_mk lk hcd sc_words_beside fun A outer s H E hr hg => d_words_beside tab _ _ A outer s H E hr hg

theorem bd_words_beside {K : PySem.W.Frag} {a : Addr} {fd : FuncData} (F : Fun K "words_beside" "words_beside" s_words_beside a fd) (us : List Value) (hl : us.length = 1) : bindArgs fd ⟨us, []⟩ = pure ((["word"] : List Str).zip us) := by
  obtain ⟨oc, od, kV, doc, pm, an, cdv, ct, osl, rfl, lk, hcd⟩ := F.ex
  match us, hl with
  | [_], _ => rfl

theorem sc_neighbours : FnScope N_neighbours ["word"] (defScope s_neighbours) := ⟨rfl, rfl, rfl, by decide +kernel, rfl, by decide +kernel, by decide +kernel⟩

theorem d_neighbours {T : Tb} {j lv : Nat} (tab : Tk T lv (tx.G j) tls) (f : Addr) (cd : Value) (A : Around) (outer : List Env) (s : Shared) (H : Hp) (E : XK) (hr : Room (lv + 1) (A.deeper (envOfC "neighbours" (defScope s_neighbours) s.heap.objs.size f cd))) (hg : (A.deeper (envOfC "neighbours" (defScope s_neighbours) s.heap.objs.size f cd)).guards = some []) :
    MSs (cxOf (L2.CX T.P T.w) T.P T.w T.K T.mg T.base N_neighbours "neighbours" (defScope s_neighbours) f cd A outer s H E) T.ca (fun c d _ H => E c d H) (tx.G j) (defBody s_neighbours) b_neighbours := by
  have xg := xg_def (outer := outer) (H := H) (E := E) tab sc_neighbours.nd hr hg
  exact (s_cons (s_exp (m_call xg rfl rfl rfl (m_acons (m_var (i := 0) rfl (vis_of rfl)) m_anil)))
    (s_one (s_ret (m_call xg rfl rfl rfl (m_acons (m_var (i := 0) rfl (vis_of rfl)) m_anil)))))

theorem g_neighbours {T : Tb} {a : Addr} {fd : FuncData} (F : Fun T.K "neighbours" "neighbours" s_neighbours a fd) {j lv : Nat} (tab : Tk T lv (tx.G j) tls) : FnG T (lv + 2) a fd ["word"] (spF T 1 ((tx.G (j + 1)).ph "neighbours")) := by
  obtain ⟨oc, od, kV, doc, pm, an, cdv, ct, osl, rfl, lk, hcd⟩ := F.ex
  have e : (tx.G (j + 1)).ph "neighbours" = runM (tx.G j) N_neighbours.length b_neighbours := rfl
  rw [e]
  exact fnG_mk lk hcd sc_neighbours fun A outer s H E hr hg => d_neighbours tab _ _ A outer s H E hr hg

theorem bd_neighbours {K : PySem.W.Frag} {a : Addr} {fd : FuncData} (F : Fun K "neighbours" "neighbours" s_neighbours a fd) (us : List Value) (hl : us.length = 1) : bindArgs fd ⟨us, []⟩ = pure ((["word"] : List Str).zip us) := by
  obtain ⟨oc, od, kV, doc, pm, an, cdv, ct, osl, rfl, lk, hcd⟩ := F.ex
  match us, hl with
  | [_], _ => rfl

theorem sc__law_jar : FnScope N__law_jar ["_law_script", "_law_k"] (defScope s__law_jar) := ⟨rfl, rfl, rfl, by decide +kernel, rfl, by decide +kernel, by decide +kernel⟩

theorem d__law_jar {T : Tb} {j lv : Nat} (tab : Tk T lv (tx.G j) tls) (f : Addr) (cd : Value) (A : Around) (outer : List Env) (s : Shared) (H : Hp) (E : XK) (hr : Room (lv + 1) (A.deeper (envOfC "_law_jar" (defScope s__law_jar) s.heap.objs.size f cd))) (hg : (A.deeper (envOfC "_law_jar" (defScope s__law_jar) s.heap.objs.size f cd)).guards = some []) :
    MSs (cxOf (L2.CX T.P T.w) T.P T.w T.K T.mg T.base N__law_jar "_law_jar" (defScope s__law_jar) f cd A outer s H E) T.ca (fun c d _ H => E c d H) (tx.G j) (defBody s__law_jar) b__law_jar := by
  have xg := xg_def (outer := outer) (H := H) (E := E) tab sc__law_jar.nd hr hg
  exact (s_cons (s_set (i := 2) xg.nd rfl (loc_of rfl) (m_ife (m_tcmp xg (m_var (i := 1) rfl (vis_of rfl)) (m_callB blt_len rfl (xg.nb rfl) bb_len (m_acons (m_var (i := 0) rfl (vis_of rfl)) m_anil))) (m_callTy blt_int rfl (xg.nb rfl) bb_int (m_acons (m_ix (m_var (i := 0) rfl (vis_of rfl)) (m_var (i := 1) rfl (vis_of rfl))) m_anil)) (m_bin (m_bin m_int (m_var (i := 1) rfl (vis_of rfl))) m_int)))
    (s_cons (s_set (i := 3) xg.nd rfl (loc_of rfl) (m_bin m_int (m_bin m_int (m_var (i := 1) rfl (vis_of rfl)))))
    (s_cons (s_for xg.po xg.calm (i_seq (m_slc (m_var (i := 0) rfl (vis_of rfl)) m_po0 (m_po1 m_int))) (n_name (i := 4) xg.nd rfl (loc_of rfl)) (s_one (s_set (i := 3) xg.nd rfl (loc_of rfl) (m_bin (m_callTy blt_int rfl (xg.nb rfl) bb_int (m_acons (m_bin (m_bin (m_var (i := 3) rfl (vis_of rfl)) m_int) (m_bin (m_callTy blt_int rfl (xg.nb rfl) bb_int (m_acons (m_var (i := 4) rfl (vis_of rfl)) m_anil)) m_int)) m_anil)) m_int))))
    (s_one (s_ret (m_lst (m_acons m_int (m_acons (m_bin (m_callTy blt_int rfl (xg.nb rfl) bb_int (m_acons (m_bin (m_bin (m_var (i := 3) rfl (vis_of rfl)) m_int) (m_bin (m_var (i := 2) rfl (vis_of rfl)) m_int)) m_anil)) m_int) (m_acons (m_ife (m_tw (m_tor (m_tcmp xg (m_var (i := 2) rfl (vis_of rfl)) m_int) (m_tor1 (m_tcmp xg (m_var (i := 2) rfl (vis_of rfl)) (m_bin m_int m_int))))) (m_callB blt_abs rfl (xg.nb rfl) bb_abs (m_acons (m_var (i := 2) rfl (vis_of rfl)) m_anil)) m_int) m_anil)))))))))

theorem g__law_jar {T : Tb} {a : Addr} {fd : FuncData} (F : Fun T.K "_law_jar" "_law_jar" s__law_jar a fd) {j lv : Nat} (tab : Tk T lv (tx.G j) tls) : FnG T (lv + 2) a fd ["_law_script", "_law_k"] (spF T 2 ((tx.G (j + 1)).ph "_law_jar")) := by
  obtain ⟨oc, od, kV, doc, pm, an, cdv, ct, osl, rfl, lk, hcd⟩ := F.ex
  have e : (tx.G (j + 1)).ph "_law_jar" = runM (tx.G j) N__law_jar.length b__law_jar := rfl
  rw [e]
  exact fnG_mk lk hcd sc__law_jar fun A outer s H E hr hg => d__law_jar tab _ _ A outer s H E hr hg

theorem bd__law_jar {K : PySem.W.Frag} {a : Addr} {fd : FuncData} (F : Fun K "_law_jar" "_law_jar" s__law_jar a fd) (us : List Value) (hl : us.length = 2) : bindArgs fd ⟨us, []⟩ = pure ((["_law_script", "_law_k"] : List Str).zip us) := by
  obtain ⟨oc, od, kV, doc, pm, an, cdv, ct, osl, rfl, lk, hcd⟩ := F.ex
  match us, hl with
  | [_, _], _ => rfl

theorem sc__law_spoon : FnScope N__law_spoon ["_law_jar_here", "_law_many"] (defScope s__law_spoon) := ⟨rfl, rfl, rfl, by decide +kernel, rfl, by decide +kernel, by decide +kernel⟩

theorem d__law_spoon {T : Tb} {j lv : Nat} (tab : Tk T lv (tx.G j) tls) (f : Addr) (cd : Value) (A : Around) (outer : List Env) (s : Shared) (H : Hp) (E : XK) (hr : Room (lv + 1) (A.deeper (envOfC "_law_spoon" (defScope s__law_spoon) s.heap.objs.size f cd))) (hg : (A.deeper (envOfC "_law_spoon" (defScope s__law_spoon) s.heap.objs.size f cd)).guards = some []) :
    MSs (cxOf (L2.CX T.P T.w) T.P T.w T.K T.mg T.base N__law_spoon "_law_spoon" (defScope s__law_spoon) f cd A outer s H E) T.ca (fun c d _ H => E c d H) (tx.G j) (defBody s__law_spoon) b__law_spoon := by
  have xg := xg_def (outer := outer) (H := H) (E := E) tab sc__law_spoon.nd hr hg
  exact (s_cons (s_asg (m_bin (m_ix (m_var (i := 0) rfl (vis_of rfl)) m_int) m_int) (g_sub (W := W0) (m_var (i := 0) rfl (vis_of rfl)) m_int))
    (s_cons (s_if (m_tcmp xg (m_ix (m_var (i := 0) rfl (vis_of rfl)) m_int) m_int) (s_cons (s_asg (m_callB blt_divmod rfl (xg.nb rfl) bb_divmod (m_acons (m_callTy blt_int rfl (xg.nb rfl) bb_int (m_acons (m_ix (m_var (i := 0) rfl (vis_of rfl)) m_int) m_anil)) (m_acons (m_var (i := 1) rfl (vis_of rfl)) m_anil))) (g_tup xg.calm (g_cons (g_sub (W := W0) (m_var (i := 0) rfl (vis_of rfl)) m_int) (g_cons (g_name (i := 2) xg.nd rfl (loc_of rfl)) g_nil)) rfl))
    (s_one (s_ret (m_var (i := 2) rfl (vis_of rfl))))) s_nil)
    (s_cons (s_asg (m_bin (m_callTy blt_int rfl (xg.nb rfl) bb_int (m_acons (m_bin (m_bin (m_bin (m_ix (m_var (i := 0) rfl (vis_of rfl)) m_int) m_int) (m_bin (m_ix (m_var (i := 0) rfl (vis_of rfl)) m_int) m_int)) (m_bin (m_bin (m_ix (m_var (i := 0) rfl (vis_of rfl)) m_int) m_int) m_int)) m_anil)) m_int) (g_sub (W := W0) (m_var (i := 0) rfl (vis_of rfl)) m_int))
    (s_one (s_ret (m_bin (m_callTy blt_int rfl (xg.nb rfl) bb_int (m_acons (m_bin (m_ix (m_var (i := 0) rfl (vis_of rfl)) m_int) m_int) m_anil)) (m_var (i := 1) rfl (vis_of rfl))))))))

theorem g__law_spoon {T : Tb} {a : Addr} {fd : FuncData} (F : Fun T.K "_law_spoon" "_law_spoon" s__law_spoon a fd) {j lv : Nat} (tab : Tk T lv (tx.G j) tls) : FnG T (lv + 2) a fd ["_law_jar_here", "_law_many"] (spF T 2 ((tx.G (j + 1)).ph "_law_spoon")) := by
  obtain ⟨oc, od, kV, doc, pm, an, cdv, ct, osl, rfl, lk, hcd⟩ := F.ex
  have e : (tx.G (j + 1)).ph "_law_spoon" = runM (tx.G j) N__law_spoon.length b__law_spoon := rfl
  rw [e]
  exact fnG_mk lk hcd sc__law_spoon fun A outer s H E hr hg => d__law_spoon tab _ _ A outer s H E hr hg

theorem bd__law_spoon {K : PySem.W.Frag} {a : Addr} {fd : FuncData} (F : Fun K "_law_spoon" "_law_spoon" s__law_spoon a fd) (us : List Value) (hl : us.length = 2) : bindArgs fd ⟨us, []⟩ = pure ((["_law_jar_here", "_law_many"] : List Str).zip us) := by
  obtain ⟨oc, od, kV, doc, pm, an, cdv, ct, osl, rfl, lk, hcd⟩ := F.ex
  match us, hl with
  | [_, _], _ => rfl

theorem sc__law_one : FnScope N__law_one ["_law_jar_here", "_law_things"] (defScope s__law_one) := ⟨rfl, rfl, rfl, by decide +kernel, rfl, by decide +kernel, by decide +kernel⟩

theorem d__law_one {T : Tb} {j lv : Nat} (tab : Tk T lv (tx.G j) tls) (f : Addr) (cd : Value) (A : Around) (outer : List Env) (s : Shared) (H : Hp) (E : XK) (hr : Room (lv + 1) (A.deeper (envOfC "_law_one" (defScope s__law_one) s.heap.objs.size f cd))) (hg : (A.deeper (envOfC "_law_one" (defScope s__law_one) s.heap.objs.size f cd)).guards = some []) :
    MSs (cxOf (L2.CX T.P T.w) T.P T.w T.K T.mg T.base N__law_one "_law_one" (defScope s__law_one) f cd A outer s H E) T.ca (fun c d _ H => E c d H) (tx.G j) (defBody s__law_one) b__law_one := by
  have xg := xg_def (outer := outer) (H := H) (E := E) tab sc__law_one.nd hr hg
  exact (s_one (s_ret (m_ix (m_var (i := 1) rfl (vis_of rfl)) (m_call xg rfl rfl rfl (m_acons (m_var (i := 0) rfl (vis_of rfl)) (m_acons (m_callB blt_len rfl (xg.nb rfl) bb_len (m_acons (m_var (i := 1) rfl (vis_of rfl)) m_anil)) m_anil))))))

theorem g__law_one {T : Tb} {a : Addr} {fd : FuncData} (F : Fun T.K "_law_one" "_law_one" s__law_one a fd) {j lv : Nat} (tab : Tk T lv (tx.G j) tls) : FnG T (lv + 2) a fd ["_law_jar_here", "_law_things"] (spF T 2 ((tx.G (j + 1)).ph "_law_one")) := by
  obtain ⟨oc, od, kV, doc, pm, an, cdv, ct, osl, rfl, lk, hcd⟩ := F.ex
  have e : (tx.G (j + 1)).ph "_law_one" = runM (tx.G j) N__law_one.length b__law_one := rfl
  rw [e]
  exact fnG_mk lk hcd sc__law_one fun A outer s H E hr hg => d__law_one tab _ _ A outer s H E hr hg

theorem bd__law_one {K : PySem.W.Frag} {a : Addr} {fd : FuncData} (F : Fun K "_law_one" "_law_one" s__law_one a fd) (us : List Value) (hl : us.length = 2) : bindArgs fd ⟨us, []⟩ = pure ((["_law_jar_here", "_law_things"] : List Str).zip us) := by
  obtain ⟨oc, od, kV, doc, pm, an, cdv, ct, osl, rfl, lk, hcd⟩ := F.ex
  match us, hl with
  | [_, _], _ => rfl

theorem sc__law_word : FnScope N__law_word ["_law_jar_here", "_law_most"] (defScope s__law_word) := ⟨rfl, rfl, rfl, by decide +kernel, rfl, by decide +kernel, by decide +kernel⟩

theorem d__law_word {T : Tb} {j lv : Nat} (tab : Tk T lv (tx.G j) tls) (f : Addr) (cd : Value) (A : Around) (outer : List Env) (s : Shared) (H : Hp) (E : XK) (hr : Room (lv + 1) (A.deeper (envOfC "_law_word" (defScope s__law_word) s.heap.objs.size f cd))) (hg : (A.deeper (envOfC "_law_word" (defScope s__law_word) s.heap.objs.size f cd)).guards = some []) :
    MSs (cxOf (L2.CX T.P T.w) T.P T.w T.K T.mg T.base N__law_word "_law_word" (defScope s__law_word) f cd A outer s H E) T.ca (fun c d _ H => E c d H) (tx.G j) (defBody s__law_word) b__law_word := by
  have xg := xg_def (outer := outer) (H := H) (E := E) tab sc__law_word.nd hr hg
  exact (s_cons (by first | exact (s_par3 (i := 2) (j := 3) (l := 4) xg.calm xg.nd rfl rfl rfl (by decide) (by decide) (by decide) rfl rfl rfl (m_acons (m_call xg rfl rfl rfl (m_acons (m_var (i := 0) rfl (vis_of rfl)) (m_acons (m_bin (m_var (i := 1) rfl (vis_of rfl)) m_int) m_anil))) (m_acons (m_call xg rfl rfl rfl (m_acons (m_var (i := 0) rfl (vis_of rfl)) (m_acons (m_lst (m_acons m_int (m_acons m_int (m_acons m_int (m_acons m_int m_anil))))) m_anil))) (m_acons (m_call xg rfl rfl rfl (m_acons (m_var (i := 0) rfl (vis_of rfl)) (m_acons m_int m_anil))) m_anil))) rfl) | exact (s_asg (m_tup (m_acons (m_call xg rfl rfl rfl (m_acons (m_var (i := 0) rfl (vis_of rfl)) (m_acons (m_bin (m_var (i := 1) rfl (vis_of rfl)) m_int) m_anil))) (m_acons (m_call xg rfl rfl rfl (m_acons (m_var (i := 0) rfl (vis_of rfl)) (m_acons (m_lst (m_acons m_int (m_acons m_int (m_acons m_int (m_acons m_int m_anil))))) m_anil))) (m_acons (m_call xg rfl rfl rfl (m_acons (m_var (i := 0) rfl (vis_of rfl)) (m_acons m_int m_anil))) m_anil)))) (g_tup xg.calm (g_cons (g_name (i := 2) xg.nd rfl (loc_of rfl)) (g_cons (g_name (i := 3) xg.nd rfl (loc_of rfl)) (g_cons (g_name (i := 4) xg.nd rfl (loc_of rfl)) g_nil))) rfl)))
    (s_cons (by first | exact (s_setc (own := [("_law_k", 6)]) (i := 5) xg rfl rfl (sw_true rfl rfl rfl rfl) (i_rng1 rfl (xg.nb rfl) rfl (m_acons (m_var (i := 2) rfl (vis_of rfl)) m_anil)) (by rfl) (fun _ _ _ _ _ => (n_name (i := 6) xg.nd rfl (loc_of rfl))) (fun _ _ _ _ _ xg => ifs0) (fun _ _ _ _ _ xg => (m_bin m_int (m_call xg rfl rfl rfl (m_acons (m_var (i := 0) rfl (vis_of rfl)) (m_acons (m_var (i := 3) rfl (vis_of rfl)) m_anil))))) (by decide)) | exact (s_set (i := 5) xg.nd rfl (loc_of rfl) (m_comp (own := [("_law_k", 6)]) xg (i_rng1 rfl (xg.nb rfl) rfl (m_acons (m_var (i := 2) rfl (vis_of rfl)) m_anil)) (by rfl) (fun _ _ _ _ _ => (n_name (i := 6) xg.nd rfl (loc_of rfl))) (fun _ _ _ _ _ xg => ifs0) (fun _ _ _ _ _ xg => (m_bin m_int (m_call xg rfl rfl rfl (m_acons (m_var (i := 0) rfl (vis_of rfl)) (m_acons (m_var (i := 3) rfl (vis_of rfl)) m_anil))))) (by decide))))
    (s_cons (s_if (m_tcmp xg (m_var (i := 4) rfl (vis_of rfl)) m_int) (s_one (s_set (i := 5) xg.nd rfl (loc_of rfl) (m_sortD rfl rfl (xg.nb rfl) (m_acons (m_var (i := 5) rfl (vis_of rfl)) m_anil)))) s_nil)
    (s_cons (s_if (m_tw (m_tand (m_tcmp xg (m_var (i := 4) rfl (vis_of rfl)) m_int) (m_tand1 (m_tcmp xg (m_var (i := 2) rfl (vis_of rfl)) m_int)))) (s_cons (s_set (i := 5) xg.nd rfl (loc_of rfl) (m_lst m_anil))
    (s_one (s_for xg.po xg.calm (i_rng1 rfl (xg.nb rfl) rfl (m_acons (m_var (i := 2) rfl (vis_of rfl)) m_anil)) (n_name (i := 6) xg.nd rfl (loc_of rfl)) (s_one (s_exp (m_bm mth_insert PySem.F.slot_list_insert PySem.F.type_list_insert (m_var (i := 5) rfl (vis_of rfl)) (m_acons (m_call xg rfl rfl rfl (m_acons (m_var (i := 0) rfl (vis_of rfl)) (m_acons (m_bin (m_var (i := 6) rfl (vis_of rfl)) m_int) m_anil))) (m_acons (m_bin (m_var (i := 6) rfl (vis_of rfl)) m_int) m_anil)))))))) s_nil)
    (s_one (s_ret (m_callTy blt_tuple rfl (xg.nb rfl) bb_tuple (m_acons (m_var (i := 5) rfl (vis_of rfl)) m_anil))))))))

theorem g__law_word {T : Tb} {a : Addr} {fd : FuncData} (F : Fun T.K "_law_word" "_law_word" s__law_word a fd) {j lv : Nat} (tab : Tk T lv (tx.G j) tls) : FnG T (lv + 2) a fd ["_law_jar_here", "_law_most"] (spF T 2 ((tx.G (j + 1)).ph "_law_word")) := by
  obtain ⟨oc, od, kV, doc, pm, an, cdv, ct, osl, rfl, lk, hcd⟩ := F.ex
  have e : (tx.G (j + 1)).ph "_law_word" = runM (tx.G j) N__law_word.length b__law_word := rfl
  rw [e]
  exact fnG_mk lk hcd sc__law_word fun A outer s H E hr hg => d__law_word tab _ _ A outer s H E hr hg

theorem bd__law_word {K : PySem.W.Frag} {a : Addr} {fd : FuncData} (F : Fun K "_law_word" "_law_word" s__law_word a fd) (us : List Value) (hl : us.length = 2) : bindArgs fd ⟨us, []⟩ = pure ((["_law_jar_here", "_law_most"] : List Str).zip us) := by
  obtain ⟨oc, od, kV, doc, pm, an, cdv, ct, osl, rfl, lk, hcd⟩ := F.ex
  match us, hl with
  | [_, _], _ => rfl

theorem sc__law_after : FnScope N__law_after ["_law_word_here", "_law_i"] (defScope s__law_after) := ⟨rfl, rfl, rfl, by decide +kernel, rfl, by decide +kernel, by decide +kernel⟩

theorem d__law_after {T : Tb} {j lv : Nat} (tab : Tk T lv (tx.G j) tls) (f : Addr) (cd : Value) (A : Around) (outer : List Env) (s : Shared) (H : Hp) (E : XK) (hr : Room (lv + 1) (A.deeper (envOfC "_law_after" (defScope s__law_after) s.heap.objs.size f cd))) (hg : (A.deeper (envOfC "_law_after" (defScope s__law_after) s.heap.objs.size f cd)).guards = some []) :
    MSs (cxOf (L2.CX T.P T.w) T.P T.w T.K T.mg T.base N__law_after "_law_after" (defScope s__law_after) f cd A outer s H E) T.ca (fun c d _ H => E c d H) (tx.G j) (defBody s__law_after) b__law_after := by
  have xg := xg_def (outer := outer) (H := H) (E := E) tab sc__law_after.nd hr hg
  exact (s_cons (s_asg (m_slc (m_var (i := 0) rfl (vis_of rfl)) (m_po1 (m_var (i := 1) rfl (vis_of rfl))) (m_po1 (m_bin (m_var (i := 1) rfl (vis_of rfl)) m_int))) (g_tup xg.calm (g_cons (g_name (i := 2) xg.nd rfl (loc_of rfl)) (g_cons (g_name (i := 3) xg.nd rfl (loc_of rfl)) (g_cons (g_name (i := 4) xg.nd rfl (loc_of rfl)) g_nil))) rfl))
    (s_cons (s_if (m_tchn xg (m_callB (blt_min xg.calm) rfl (xg.nb rfl) bb_min (m_acons (m_var (i := 3) rfl (vis_of rfl)) (m_acons (m_var (i := 4) rfl (vis_of rfl)) m_anil))) (m_var (i := 2) rfl (vis_of rfl)) (m_callB (blt_max xg.calm) rfl (xg.nb rfl) bb_max (m_acons (m_var (i := 3) rfl (vis_of rfl)) (m_acons (m_var (i := 4) rfl (vis_of rfl)) m_anil)))) (s_one (s_ret (m_bin (m_bin (m_slc (m_var (i := 0) rfl (vis_of rfl)) m_po0 (m_po1 (m_var (i := 1) rfl (vis_of rfl)))) (m_tup (m_acons (m_var (i := 2) rfl (vis_of rfl)) (m_acons (m_var (i := 4) rfl (vis_of rfl)) (m_acons (m_var (i := 3) rfl (vis_of rfl)) m_anil))))) (m_slc (m_var (i := 0) rfl (vis_of rfl)) (m_po1 (m_bin (m_var (i := 1) rfl (vis_of rfl)) m_int)) m_po0)))) s_nil)
    (s_cons (s_if (m_tchn xg (m_callB (blt_min xg.calm) rfl (xg.nb rfl) bb_min (m_acons (m_var (i := 2) rfl (vis_of rfl)) (m_acons (m_var (i := 3) rfl (vis_of rfl)) m_anil))) (m_var (i := 4) rfl (vis_of rfl)) (m_callB (blt_max xg.calm) rfl (xg.nb rfl) bb_max (m_acons (m_var (i := 2) rfl (vis_of rfl)) (m_acons (m_var (i := 3) rfl (vis_of rfl)) m_anil)))) (s_one (s_ret (m_bin (m_bin (m_slc (m_var (i := 0) rfl (vis_of rfl)) m_po0 (m_po1 (m_var (i := 1) rfl (vis_of rfl)))) (m_tup (m_acons (m_var (i := 3) rfl (vis_of rfl)) (m_acons (m_var (i := 2) rfl (vis_of rfl)) (m_acons (m_var (i := 4) rfl (vis_of rfl)) m_anil))))) (m_slc (m_var (i := 0) rfl (vis_of rfl)) (m_po1 (m_bin (m_var (i := 1) rfl (vis_of rfl)) m_int)) m_po0)))) s_nil)
    (s_one (s_ret m_non)))))

theorem g__law_after {T : Tb} {a : Addr} {fd : FuncData} (F : Fun T.K "_law_after" "_law_after" s__law_after a fd) {j lv : Nat} (tab : Tk T lv (tx.G j) tls) : FnG T (lv + 2) a fd ["_law_word_here", "_law_i"] (spF T 2 ((tx.G (j + 1)).ph "_law_after")) := by
  obtain ⟨oc, od, kV, doc, pm, an, cdv, ct, osl, rfl, lk, hcd⟩ := F.ex
  have e : (tx.G (j + 1)).ph "_law_after" = runM (tx.G j) N__law_after.length b__law_after := rfl
  rw [e]
  exact fnG_mk lk hcd sc__law_after fun A outer s H E hr hg => d__law_after tab _ _ A outer s H E hr hg

theorem bd__law_after {K : PySem.W.Frag} {a : Addr} {fd : FuncData} (F : Fun K "_law_after" "_law_after" s__law_after a fd) (us : List Value) (hl : us.length = 2) : bindArgs fd ⟨us, []⟩ = pure ((["_law_word_here", "_law_i"] : List Str).zip us) := by
  obtain ⟨oc, od, kV, doc, pm, an, cdv, ct, osl, rfl, lk, hcd⟩ := F.ex
  match us, hl with
  | [_, _], _ => rfl

theorem sc__law_beside : FnScope N__law_beside ["_law_word_here"] (defScope s__law_beside) := ⟨rfl, rfl, rfl, by decide +kernel, rfl, by decide +kernel, by decide +kernel⟩

theorem d__law_beside {T : Tb} {j lv : Nat} (tab : Tk T lv (tx.G j) tls) (f : Addr) (cd : Value) (A : Around) (outer : List Env) (s : Shared) (H : Hp) (E : XK) (hr : Room (lv + 1) (A.deeper (envOfC "_law_beside" (defScope s__law_beside) s.heap.objs.size f cd))) (hg : (A.deeper (envOfC "_law_beside" (defScope s__law_beside) s.heap.objs.size f cd)).guards = some []) :
    MSs (cxOf (L2.CX T.P T.w) T.P T.w T.K T.mg T.base N__law_beside "_law_beside" (defScope s__law_beside) f cd A outer s H E) T.ca (fun c d _ H => E c d H) (tx.G j) (defBody s__law_beside) b__law_beside := by
  have xg := xg_def (outer := outer) (H := H) (E := E) tab sc__law_beside.nd hr hg
  exact (s_cons (s_set (i := 1) xg.nd rfl (loc_of rfl) (m_lst m_anil))
    (s_cons (s_for xg.po xg.calm (i_rng1 rfl (xg.nb rfl) rfl (m_acons (m_bin (m_callB blt_len rfl (xg.nb rfl) bb_len (m_acons (m_var (i := 0) rfl (vis_of rfl)) m_anil)) m_int) m_anil)) (n_name (i := 2) xg.nd rfl (loc_of rfl)) (s_cons (s_set (i := 3) xg.nd rfl (loc_of rfl) (m_call xg rfl rfl rfl (m_acons (m_var (i := 0) rfl (vis_of rfl)) (m_acons (m_var (i := 2) rfl (vis_of rfl)) m_anil))))
    (s_one (s_if (m_tcmp xg (m_var (i := 3) rfl (vis_of rfl)) m_non) (s_one (s_exp (m_bm mth_append PySem.F.slot_list_append PySem.F.type_list_append (m_var (i := 1) rfl (vis_of rfl)) (m_acons (m_tup (m_acons (m_var (i := 2) rfl (vis_of rfl)) (m_acons (m_var (i := 3) rfl (vis_of rfl)) m_anil))) m_anil)))) s_nil))))
    (s_one (s_ret (m_var (i := 1) rfl (vis_of rfl))))))

theorem g__law_beside {T : Tb} {a : Addr} {fd : FuncData} (F : Fun T.K "_law_beside" "_law_beside" s__law_beside a fd) {j lv : Nat} (tab : Tk T lv (tx.G j) tls) : FnG T (lv + 2) a fd ["_law_word_here"] (spF T 1 ((tx.G (j + 1)).ph "_law_beside")) := by
  obtain ⟨oc, od, kV, doc, pm, an, cdv, ct, osl, rfl, lk, hcd⟩ := F.ex
  have e : (tx.G (j + 1)).ph "_law_beside" = runM (tx.G j) N__law_beside.length b__law_beside := rfl
  rw [e]
  exact fnG_mk lk hcd sc__law_beside fun A outer s H E hr hg => d__law_beside tab _ _ A outer s H E hr hg

theorem bd__law_beside {K : PySem.W.Frag} {a : Addr} {fd : FuncData} (F : Fun K "_law_beside" "_law_beside" s__law_beside a fd) (us : List Value) (hl : us.length = 1) : bindArgs fd ⟨us, []⟩ = pure ((["_law_word_here"] : List Str).zip us) := by
  obtain ⟨oc, od, kV, doc, pm, an, cdv, ct, osl, rfl, lk, hcd⟩ := F.ex
  match us, hl with
  | [_], _ => rfl

theorem sc__law_right : FnScope N__law_right ["_law_jar_here"] (defScope s__law_right) := ⟨rfl, rfl, rfl, by decide +kernel, rfl, by decide +kernel, by decide +kernel⟩

theorem d__law_right {T : Tb} {j lv : Nat} (tab : Tk T lv (tx.G j) tls) (f : Addr) (cd : Value) (A : Around) (outer : List Env) (s : Shared) (H : Hp) (E : XK) (hr : Room (lv + 1) (A.deeper (envOfC "_law_right" (defScope s__law_right) s.heap.objs.size f cd))) (hg : (A.deeper (envOfC "_law_right" (defScope s__law_right) s.heap.objs.size f cd)).guards = some []) :
    MSs (cxOf (L2.CX T.P T.w) T.P T.w T.K T.mg T.base N__law_right "_law_right" (defScope s__law_right) f cd A outer s H E) T.ca (fun c d _ H => E c d H) (tx.G j) (defBody s__law_right) b__law_right := by
  have xg := xg_def (outer := outer) (H := H) (E := E) tab sc__law_right.nd hr hg
  exact (s_cons (s_for xg.po xg.calm (i_rng1 rfl (xg.nb rfl) rfl (m_acons m_int m_anil)) (n_name (i := 1) xg.nd rfl (loc_of rfl)) (s_cons (s_set (i := 2) xg.nd rfl (loc_of rfl) (m_call xg rfl rfl rfl (m_acons (m_var (i := 0) rfl (vis_of rfl)) (m_acons m_int m_anil))))
    (s_cons (s_set (i := 3) xg.nd rfl (loc_of rfl) (m_call xg rfl rfl rfl (m_acons (m_var (i := 2) rfl (vis_of rfl)) m_anil)))
    (s_cons (s_set (i := 4) xg.nd rfl (loc_of rfl) (m_callTy blt_tuple rfl (xg.nb rfl) bb_tuple (m_acons (m_comp (own := [("_law_place", 5), ("_law_later", 6)]) xg (i_seq (m_var (i := 3) rfl (vis_of rfl))) (by rfl) (fun _ _ _ _ _ => (n_tup xg.calm (n_cons (n_name (i := 5) xg.nd rfl (loc_of rfl)) (n_cons (n_name (i := 6) xg.nd rfl (loc_of rfl)) n_nil)) rfl)) (fun _ _ _ _ _ xg => ifs0) (fun _ _ _ _ _ xg => (m_var (i := 5) rfl (vis_of rfl))) (by decide)) m_anil)))
    (s_cons (s_if (m_tcmp xg (m_callB (blt_repr xg.gd xg.room.units) rfl (xg.nb rfl) bb_repr (m_acons (m_lst (m_acons (m_call xg rfl rfl rfl (m_acons (m_var (i := 2) rfl (vis_of rfl)) m_anil)) (m_acons (m_callk0 (ks := ["word"]) (r := [.k 0]) xg (mem_at 0 rfl) rfl rfl (m_kcons (m_var (i := 2) rfl (vis_of rfl)) m_knil)) m_anil))) m_anil)) (m_callB (blt_repr xg.gd xg.room.units) rfl (xg.nb rfl) bb_repr (m_acons (m_lst (m_acons (m_var (i := 4) rfl (vis_of rfl)) (m_acons (m_var (i := 4) rfl (vis_of rfl)) m_anil))) m_anil))) (s_one (s_ret m_bl)) s_nil)
    (s_cons (s_for xg.po xg.calm (i_seq (m_var (i := 3) rfl (vis_of rfl))) (n_tup xg.calm (n_cons (n_name (i := 5) xg.nd rfl (loc_of rfl)) (n_cons (n_name (i := 6) xg.nd rfl (loc_of rfl)) n_nil)) rfl) (s_cons (s_if (m_tw (m_tor (m_tcmp xg (m_var (i := 6) rfl (vis_of rfl)) (m_var (i := 2) rfl (vis_of rfl))) (m_tor1 (m_tcmp xg (m_call xg rfl rfl rfl (m_acons (m_var (i := 2) rfl (vis_of rfl)) (m_acons (m_var (i := 5) rfl (vis_of rfl)) m_anil))) (m_var (i := 6) rfl (vis_of rfl)))))) (s_one (s_ret m_bl)) s_nil)
    (s_cons (s_if (m_tcmp xg (m_callk0 (ks := ["place", "word"]) (r := [.k 1, .k 0]) xg (mem_at 1 rfl) rfl rfl (m_kcons (m_var (i := 5) rfl (vis_of rfl)) (m_kcons (m_var (i := 2) rfl (vis_of rfl)) m_knil))) (m_var (i := 6) rfl (vis_of rfl))) (s_one (s_ret m_bl)) s_nil)
    (s_one (s_if (m_tcmp xg (m_call xg rfl rfl rfl (m_acons (m_var (i := 6) rfl (vis_of rfl)) (m_acons (m_var (i := 5) rfl (vis_of rfl)) m_anil))) (m_var (i := 2) rfl (vis_of rfl))) (s_one (s_ret m_bl)) s_nil)))))
    (s_cons (s_set (i := 4) xg.nd rfl (loc_of rfl) (m_callTy blt_tuple rfl (xg.nb rfl) bb_tuple (m_acons (m_sortSet xg rfl (xg.nb rfl) rfl (xg.nb rfl) (m_comp (own := [("_law_place", 5), ("_law_later", 6)]) xg (i_seq (m_var (i := 3) rfl (vis_of rfl))) (by rfl) (fun _ _ _ _ _ => (n_tup xg.calm (n_cons (n_name (i := 5) xg.nd rfl (loc_of rfl)) (n_cons (n_name (i := 6) xg.nd rfl (loc_of rfl)) n_nil)) rfl)) (fun _ _ _ _ _ xg => ifs0) (fun _ _ _ _ _ xg => (m_var (i := 6) rfl (vis_of rfl))) (by decide))) m_anil)))
    (s_one (s_if (m_tcmp xg (m_callB (blt_repr xg.gd xg.room.units) rfl (xg.nb rfl) bb_repr (m_acons (m_lst (m_acons (m_call xg rfl rfl rfl (m_acons (m_var (i := 2) rfl (vis_of rfl)) m_anil)) (m_acons (m_callk0 (ks := ["word"]) (r := [.k 0]) xg (mem_at 2 rfl) rfl rfl (m_kcons (m_var (i := 2) rfl (vis_of rfl)) m_knil)) m_anil))) m_anil)) (m_callB (blt_repr xg.gd xg.room.units) rfl (xg.nb rfl) bb_repr (m_acons (m_lst (m_acons (m_var (i := 4) rfl (vis_of rfl)) (m_acons (m_var (i := 4) rfl (vis_of rfl)) m_anil))) m_anil))) (s_one (s_ret m_bl)) s_nil)))))))))
    (s_one (s_ret m_bl)))

theorem g__law_right {T : Tb} {a : Addr} {fd : FuncData} (F : Fun T.K "_law_right" "_law_right" s__law_right a fd) {j lv : Nat} (tab : Tk T lv (tx.G j) tls) : FnG T (lv + 2) a fd ["_law_jar_here"] (spF T 1 ((tx.G (j + 1)).ph "_law_right")) := by
  obtain ⟨oc, od, kV, doc, pm, an, cdv, ct, osl, rfl, lk, hcd⟩ := F.ex
  have e : (tx.G (j + 1)).ph "_law_right" = runM (tx.G j) N__law_right.length b__law_right := rfl
  rw [e]
  exact fnG_mk lk hcd sc__law_right fun A outer s H E hr hg => d__law_right tab _ _ A outer s H E hr hg

theorem bd__law_right {K : PySem.W.Frag} {a : Addr} {fd : FuncData} (F : Fun K "_law_right" "_law_right" s__law_right a fd) (us : List Value) (hl : us.length = 1) : bindArgs fd ⟨us, []⟩ = pure ((["_law_jar_here"] : List Str).zip us) := by
  obtain ⟨oc, od, kV, doc, pm, an, cdv, ct, osl, rfl, lk, hcd⟩ := F.ex
  match us, hl with
  | [_], _ => rfl

theorem sc_law : FnScope N_law ["_law_script"] (defScope s_law) := ⟨rfl, rfl, rfl, by decide +kernel, rfl, by decide +kernel, by decide +kernel⟩

theorem d_law {T : Tb} {j lv : Nat} (tab : Tk T lv (tx.G j) tls) (f : Addr) (cd : Value) (A : Around) (outer : List Env) (s : Shared) (H : Hp) (E : XK) (hr : Room (lv + 1) (A.deeper (envOfC "law" (defScope s_law) s.heap.objs.size f cd))) (hg : (A.deeper (envOfC "law" (defScope s_law) s.heap.objs.size f cd)).guards = some []) :
    MSs (cxOf (L2.CX T.P T.w) T.P T.w T.K T.mg T.base N_law "law" (defScope s_law) f cd A outer s H E) T.ca (fun c d _ H => E c d H) (tx.G j) (defBody s_law) b_law := by
  have xg := xg_def (outer := outer) (H := H) (E := E) tab sc_law.nd hr hg
  exact (s_one (s_ret (m_callB (blt_all xg.calm) rfl (xg.nb rfl) bb_all (m_acons (m_comp (own := [("_law_k", 1)]) xg (i_rng1 rfl (xg.nb rfl) rfl (m_acons (m_callB (blt_max xg.calm) rfl (xg.nb rfl) bb_max (m_acons m_int (m_acons (m_callB (blt_min xg.calm) rfl (xg.nb rfl) bb_min (m_acons (m_callB blt_len rfl (xg.nb rfl) bb_len (m_acons (m_var (i := 0) rfl (vis_of rfl)) m_anil)) (m_acons m_int m_anil))) m_anil))) m_anil)) (by rfl) (fun _ _ _ _ _ => (n_name (i := 1) xg.nd rfl (loc_of rfl))) (fun _ _ _ _ _ xg => ifs0) (fun _ _ _ _ _ xg => (m_call xg rfl rfl rfl (m_acons (m_call xg rfl rfl rfl (m_acons (m_var (i := 0) rfl (vis_of rfl)) (m_acons (m_var (i := 1) rfl (vis_of rfl)) m_anil))) m_anil))) (by decide)) m_anil))))

theorem g_law {T : Tb} {a : Addr} {fd : FuncData} (F : Fun T.K "law" "law" s_law a fd) {j lv : Nat} (tab : Tk T lv (tx.G j) tls) : FnG T (lv + 2) a fd ["_law_script"] (spF T 1 ((tx.G (j + 1)).ph "law")) := by
  obtain ⟨oc, od, kV, doc, pm, an, cdv, ct, osl, rfl, lk, hcd⟩ := F.ex
  have e : (tx.G (j + 1)).ph "law" = runM (tx.G j) N_law.length b_law := rfl
  rw [e]
  exact fnG_mk lk hcd sc_law fun A outer s H E hr hg => d_law tab _ _ A outer s H E hr hg

theorem bd_law {K : PySem.W.Frag} {a : Addr} {fd : FuncData} (F : Fun K "law" "law" s_law a fd) (us : List Value) (hl : us.length = 1) : bindArgs fd ⟨us, []⟩ = pure ((["_law_script"] : List Str).zip us) := by
  obtain ⟨oc, od, kV, doc, pm, an, cdv, ct, osl, rfl, lk, hcd⟩ := F.ex
  match us, hl with
  | [_], _ => rfl

theorem bk_0 {K : PySem.W.Frag} {a : Addr} {fd : FuncData} (F : Fun K "places_of" "places_of" s_places_of a fd) (us ws : List Value) (h1 : us.length = 0) (h2 : ws.length = 1) : bindArgs fd ⟨us, (["word"] : List Str).zip ws⟩ = pure ((["word"] : List Str).zip (pick us ws [.k 0])) ∧ (pick us ws [.k 0]).length = 1 := by
  obtain ⟨oc, od, kV, doc, pm, an, cdv, ct, osl, rfl, lk, hcd⟩ := F.ex
  match us, h1, ws, h2 with
  | [], _, [_], _ => exact ⟨rfl, rfl⟩

theorem bk_1 {K : PySem.W.Frag} {a : Addr} {fd : FuncData} (F : Fun K "exchanged" "exchanged" s_exchanged a fd) (us ws : List Value) (h1 : us.length = 0) (h2 : ws.length = 2) : bindArgs fd ⟨us, (["place", "word"] : List Str).zip ws⟩ = pure ((["word", "place"] : List Str).zip (pick us ws [.k 1, .k 0])) ∧ (pick us ws [.k 1, .k 0]).length = 2 := by
  obtain ⟨oc, od, kV, doc, pm, an, cdv, ct, osl, rfl, lk, hcd⟩ := F.ex
  match us, h1, ws, h2 with
  | [], _, [_, _], _ => exact ⟨rfl, rfl⟩

theorem bk_2 {K : PySem.W.Frag} {a : Addr} {fd : FuncData} (F : Fun K "neighbours" "neighbours" s_neighbours a fd) (us ws : List Value) (h1 : us.length = 0) (h2 : ws.length = 1) : bindArgs fd ⟨us, (["word"] : List Str).zip ws⟩ = pure ((["word"] : List Str).zip (pick us ws [.k 0])) ∧ (pick us ws [.k 0]).length = 1 := by
  obtain ⟨oc, od, kV, doc, pm, an, cdv, ct, osl, rfl, lk, hcd⟩ := F.ex
  match us, h1, ws, h2 with
  | [], _, [_], _ => exact ⟨rfl, rfl⟩

/-- what the text has written -/
structure Wf (T : Tb) : Prop where
  f_is_between : ∃ a fd, Fun T.K "is_between" "is_between" s_is_between a fd ∧ T.mg "is_between" = some (.ref a)
  f_is_letter : ∃ a fd, Fun T.K "is_letter" "is_letter" s_is_letter a fd ∧ T.mg "is_letter" = some (.ref a)
  f_wrong_letter : ∃ a fd, Fun T.K "wrong_letter" "wrong_letter" s_wrong_letter a fd ∧ T.mg "wrong_letter" = some (.ref a)
  f_check_word : ∃ a fd, Fun T.K "check_word" "check_word" s_check_word a fd ∧ T.mg "check_word" = some (.ref a)
  f_after_exchange : ∃ a fd, Fun T.K "after_exchange" "after_exchange" s_after_exchange a fd ∧ T.mg "after_exchange" = some (.ref a)
  f_has_exchange : ∃ a fd, Fun T.K "has_exchange" "has_exchange" s_has_exchange a fd ∧ T.mg "has_exchange" = some (.ref a)
  f_exchanged : ∃ a fd, Fun T.K "exchanged" "exchanged" s_exchanged a fd ∧ T.mg "exchanged" = some (.ref a)
  f_all_places : ∃ a fd, Fun T.K "all_places" "all_places" s_all_places a fd ∧ T.mg "all_places" = some (.ref a)
  f_places_of : ∃ a fd, Fun T.K "places_of" "places_of" s_places_of a fd ∧ T.mg "places_of" = some (.ref a)
  f_words_beside : ∃ a fd, Fun T.K "words_beside" "words_beside" s_words_beside a fd ∧ T.mg "words_beside" = some (.ref a)
  f_neighbours : ∃ a fd, Fun T.K "neighbours" "neighbours" s_neighbours a fd ∧ T.mg "neighbours" = some (.ref a)
  f__law_jar : ∃ a fd, Fun T.K "_law_jar" "_law_jar" s__law_jar a fd ∧ T.mg "_law_jar" = some (.ref a)
  f__law_spoon : ∃ a fd, Fun T.K "_law_spoon" "_law_spoon" s__law_spoon a fd ∧ T.mg "_law_spoon" = some (.ref a)
  f__law_one : ∃ a fd, Fun T.K "_law_one" "_law_one" s__law_one a fd ∧ T.mg "_law_one" = some (.ref a)
  f__law_word : ∃ a fd, Fun T.K "_law_word" "_law_word" s__law_word a fd ∧ T.mg "_law_word" = some (.ref a)
  f__law_after : ∃ a fd, Fun T.K "_law_after" "_law_after" s__law_after a fd ∧ T.mg "_law_after" = some (.ref a)
  f__law_beside : ∃ a fd, Fun T.K "_law_beside" "_law_beside" s__law_beside a fd ∧ T.mg "_law_beside" = some (.ref a)
  f__law_right : ∃ a fd, Fun T.K "_law_right" "_law_right" s__law_right a fd ∧ T.mg "_law_right" = some (.ref a)
  f_law : ∃ a fd, Fun T.K "law" "law" s_law a fd ∧ T.mg "law" = some (.ref a)
  cst : ∀ p ∈ tx.cs, ∃ u x', T.mg p.1 = some u ∧ RelV x' u ∧ ∀ ph H, RW T.K ph H p.2 x'
  xc : ∀ p ∈ tls.xc, ∃ fI, XcT T.K T.mg p.1 p.2 (T.ca p.1) fI
  bl : ∀ x ∈ tls.bl, T.mg x = none

theorem tk_all {T : Tb} (w : Wf T) : ∀ j, Tk T (2 * j) (tx.G j) tls
  | 0 => ⟨fun x v h => w.cst (x, v) (lookup_mem h), List.forall_mem_cons.mpr ⟨(by obtain ⟨a, fd, F, m⟩ := w.f_is_between; exact ⟨a, fd, m, F.kp, bd_is_between F, fnG_err rfl⟩), List.forall_mem_cons.mpr ⟨(by obtain ⟨a, fd, F, m⟩ := w.f_is_letter; exact ⟨a, fd, m, F.kp, bd_is_letter F, fnG_err rfl⟩), List.forall_mem_cons.mpr ⟨(by obtain ⟨a, fd, F, m⟩ := w.f_wrong_letter; exact ⟨a, fd, m, F.kp, bd_wrong_letter F, fnG_err rfl⟩), List.forall_mem_cons.mpr ⟨(by obtain ⟨a, fd, F, m⟩ := w.f_check_word; exact ⟨a, fd, m, F.kp, bd_check_word F, fnG_err rfl⟩), List.forall_mem_cons.mpr ⟨(by obtain ⟨a, fd, F, m⟩ := w.f_after_exchange; exact ⟨a, fd, m, F.kp, bd_after_exchange F, fnG_err rfl⟩), List.forall_mem_cons.mpr ⟨(by obtain ⟨a, fd, F, m⟩ := w.f_has_exchange; exact ⟨a, fd, m, F.kp, bd_has_exchange F, fnG_err rfl⟩), List.forall_mem_cons.mpr ⟨(by obtain ⟨a, fd, F, m⟩ := w.f_exchanged; exact ⟨a, fd, m, F.kp, bd_exchanged F, fnG_err rfl⟩), List.forall_mem_cons.mpr ⟨(by obtain ⟨a, fd, F, m⟩ := w.f_all_places; exact ⟨a, fd, m, F.kp, bd_all_places F, fnG_err rfl⟩), List.forall_mem_cons.mpr ⟨(by obtain ⟨a, fd, F, m⟩ := w.f_places_of; exact ⟨a, fd, m, F.kp, bd_places_of F, fnG_err rfl⟩), List.forall_mem_cons.mpr ⟨(by obtain ⟨a, fd, F, m⟩ := w.f_words_beside; exact ⟨a, fd, m, F.kp, bd_words_beside F, fnG_err rfl⟩), List.forall_mem_cons.mpr ⟨(by obtain ⟨a, fd, F, m⟩ := w.f_neighbours; exact ⟨a, fd, m, F.kp, bd_neighbours F, fnG_err rfl⟩), List.forall_mem_cons.mpr ⟨(by obtain ⟨a, fd, F, m⟩ := w.f__law_jar; exact ⟨a, fd, m, F.kp, bd__law_jar F, fnG_err rfl⟩), List.forall_mem_cons.mpr ⟨(by obtain ⟨a, fd, F, m⟩ := w.f__law_spoon; exact ⟨a, fd, m, F.kp, bd__law_spoon F, fnG_err rfl⟩), List.forall_mem_cons.mpr ⟨(by obtain ⟨a, fd, F, m⟩ := w.f__law_one; exact ⟨a, fd, m, F.kp, bd__law_one F, fnG_err rfl⟩), List.forall_mem_cons.mpr ⟨(by obtain ⟨a, fd, F, m⟩ := w.f__law_word; exact ⟨a, fd, m, F.kp, bd__law_word F, fnG_err rfl⟩), List.forall_mem_cons.mpr ⟨(by obtain ⟨a, fd, F, m⟩ := w.f__law_after; exact ⟨a, fd, m, F.kp, bd__law_after F, fnG_err rfl⟩), List.forall_mem_cons.mpr ⟨(by obtain ⟨a, fd, F, m⟩ := w.f__law_beside; exact ⟨a, fd, m, F.kp, bd__law_beside F, fnG_err rfl⟩), List.forall_mem_cons.mpr ⟨(by obtain ⟨a, fd, F, m⟩ := w.f__law_right; exact ⟨a, fd, m, F.kp, bd__law_right F, fnG_err rfl⟩), List.forall_mem_cons.mpr ⟨(by obtain ⟨a, fd, F, m⟩ := w.f_law; exact ⟨a, fd, m, F.kp, bd_law F, fnG_err rfl⟩), List.forall_mem_nil _⟩⟩⟩⟩⟩⟩⟩⟩⟩⟩⟩⟩⟩⟩⟩⟩⟩⟩⟩, List.forall_mem_cons.mpr ⟨(by obtain ⟨a, fd, F, m⟩ := w.f_places_of; exact ⟨a, fd, ["word"], m, F.kp, fnG_err rfl, bk_0 F⟩), List.forall_mem_cons.mpr ⟨(by obtain ⟨a, fd, F, m⟩ := w.f_exchanged; exact ⟨a, fd, ["word", "place"], m, F.kp, fnG_err rfl, bk_1 F⟩), List.forall_mem_cons.mpr ⟨(by obtain ⟨a, fd, F, m⟩ := w.f_neighbours; exact ⟨a, fd, ["word"], m, F.kp, fnG_err rfl, bk_2 F⟩), List.forall_mem_nil _⟩⟩⟩, w.xc, w.bl⟩
  | j + 1 => by
    have tab := tk_all w j
    exact ⟨fun x v h => w.cst (x, v) (lookup_mem h), List.forall_mem_cons.mpr ⟨(by obtain ⟨a, fd, F, m⟩ := w.f_is_between; exact ⟨a, fd, m, F.kp, bd_is_between F, g_is_between F tab⟩), List.forall_mem_cons.mpr ⟨(by obtain ⟨a, fd, F, m⟩ := w.f_is_letter; exact ⟨a, fd, m, F.kp, bd_is_letter F, g_is_letter F tab⟩), List.forall_mem_cons.mpr ⟨(by obtain ⟨a, fd, F, m⟩ := w.f_wrong_letter; exact ⟨a, fd, m, F.kp, bd_wrong_letter F, g_wrong_letter F tab⟩), List.forall_mem_cons.mpr ⟨(by obtain ⟨a, fd, F, m⟩ := w.f_check_word; exact ⟨a, fd, m, F.kp, bd_check_word F, g_check_word F tab⟩), List.forall_mem_cons.mpr ⟨(by obtain ⟨a, fd, F, m⟩ := w.f_after_exchange; exact ⟨a, fd, m, F.kp, bd_after_exchange F, g_after_exchange F tab⟩), List.forall_mem_cons.mpr ⟨(by obtain ⟨a, fd, F, m⟩ := w.f_has_exchange; exact ⟨a, fd, m, F.kp, bd_has_exchange F, g_has_exchange F tab⟩), List.forall_mem_cons.mpr ⟨(by obtain ⟨a, fd, F, m⟩ := w.f_exchanged; exact ⟨a, fd, m, F.kp, bd_exchanged F, g_exchanged F tab⟩), List.forall_mem_cons.mpr ⟨(by obtain ⟨a, fd, F, m⟩ := w.f_all_places; exact ⟨a, fd, m, F.kp, bd_all_places F, g_all_places F tab⟩), List.forall_mem_cons.mpr ⟨(by obtain ⟨a, fd, F, m⟩ := w.f_places_of; exact ⟨a, fd, m, F.kp, bd_places_of F, g_places_of F tab⟩), List.forall_mem_cons.mpr ⟨(by obtain ⟨a, fd, F, m⟩ := w.f_words_beside; exact ⟨a, fd, m, F.kp, bd_words_beside F, g_words_beside F tab⟩), List.forall_mem_cons.mpr ⟨(by obtain ⟨a, fd, F, m⟩ := w.f_neighbours; exact ⟨a, fd, m, F.kp, bd_neighbours F, g_neighbours F tab⟩), List.forall_mem_cons.mpr ⟨(by obtain ⟨a, fd, F, m⟩ := w.f__law_jar; exact ⟨a, fd, m, F.kp, bd__law_jar F, g__law_jar F tab⟩), List.forall_mem_cons.mpr ⟨(by obtain ⟨a, fd, F, m⟩ := w.f__law_spoon; exact ⟨a, fd, m, F.kp, bd__law_spoon F, g__law_spoon F tab⟩), List.forall_mem_cons.mpr ⟨(by obtain ⟨a, fd, F, m⟩ := w.f__law_one; exact ⟨a, fd, m, F.kp, bd__law_one F, g__law_one F tab⟩), List.forall_mem_cons.mpr ⟨(by obtain ⟨a, fd, F, m⟩ := w.f__law_word; exact ⟨a, fd, m, F.kp, bd__law_word F, g__law_word F tab⟩), List.forall_mem_cons.mpr ⟨(by obtain ⟨a, fd, F, m⟩ := w.f__law_after; exact ⟨a, fd, m, F.kp, bd__law_after F, g__law_after F tab⟩), List.forall_mem_cons.mpr ⟨(by obtain ⟨a, fd, F, m⟩ := w.f__law_beside; exact ⟨a, fd, m, F.kp, bd__law_beside F, g__law_beside F tab⟩), List.forall_mem_cons.mpr ⟨(by obtain ⟨a, fd, F, m⟩ := w.f__law_right; exact ⟨a, fd, m, F.kp, bd__law_right F, g__law_right F tab⟩), List.forall_mem_cons.mpr ⟨(by obtain ⟨a, fd, F, m⟩ := w.f_law; exact ⟨a, fd, m, F.kp, bd_law F, g_law F tab⟩), List.forall_mem_nil _⟩⟩⟩⟩⟩⟩⟩⟩⟩⟩⟩⟩⟩⟩⟩⟩⟩⟩⟩, List.forall_mem_cons.mpr ⟨(by obtain ⟨a, fd, F, m⟩ := w.f_places_of; exact ⟨a, fd, ["word"], m, F.kp, g_places_of F tab, bk_0 F⟩), List.forall_mem_cons.mpr ⟨(by obtain ⟨a, fd, F, m⟩ := w.f_exchanged; exact ⟨a, fd, ["word", "place"], m, F.kp, g_exchanged F tab, bk_1 F⟩), List.forall_mem_cons.mpr ⟨(by obtain ⟨a, fd, F, m⟩ := w.f_neighbours; exact ⟨a, fd, ["word"], m, F.kp, g_neighbours F tab, bk_2 F⟩), List.forall_mem_nil _⟩⟩⟩, w.xc, w.bl⟩

theorem all_mk {P : Program} {w : World} {K : PySem.W.Frag} {h : Heap} {mg : Str → Option Value} {fa : Addr} (X : K.In h) (G : h.Ns mainGlobals mg) (hfa : mg "law" = some (.ref fa))
    {f0 : Addr} {od0 an0 : Option Addr} {sl0 : Array (Option Value)} {oc0 kV0 dc0 pm0 cd0 ct0 : Value}
    {f1 : Addr} {od1 an1 : Option Addr} {sl1 : Array (Option Value)} {oc1 kV1 dc1 pm1 cd1 ct1 : Value}
    {f2 : Addr} {od2 an2 : Option Addr} {sl2 : Array (Option Value)} {oc2 kV2 dc2 pm2 cd2 ct2 : Value}
    {f3 : Addr} {od3 an3 : Option Addr} {sl3 : Array (Option Value)} {oc3 kV3 dc3 pm3 cd3 ct3 : Value}
    {f4 : Addr} {od4 an4 : Option Addr} {sl4 : Array (Option Value)} {oc4 kV4 dc4 pm4 cd4 ct4 : Value}
    {f5 : Addr} {od5 an5 : Option Addr} {sl5 : Array (Option Value)} {oc5 kV5 dc5 pm5 cd5 ct5 : Value}
    {f6 : Addr} {od6 an6 : Option Addr} {sl6 : Array (Option Value)} {oc6 kV6 dc6 pm6 cd6 ct6 : Value}
    {f7 : Addr} {od7 an7 : Option Addr} {sl7 : Array (Option Value)} {oc7 kV7 dc7 pm7 cd7 ct7 : Value}
    {f8 : Addr} {od8 an8 : Option Addr} {sl8 : Array (Option Value)} {oc8 kV8 dc8 pm8 cd8 ct8 : Value}
    {f9 : Addr} {od9 an9 : Option Addr} {sl9 : Array (Option Value)} {oc9 kV9 dc9 pm9 cd9 ct9 : Value}
    {f10 : Addr} {od10 an10 : Option Addr} {sl10 : Array (Option Value)} {oc10 kV10 dc10 pm10 cd10 ct10 : Value}
    {f11 : Addr} {od11 an11 : Option Addr} {sl11 : Array (Option Value)} {oc11 kV11 dc11 pm11 cd11 ct11 : Value}
    {f12 : Addr} {od12 an12 : Option Addr} {sl12 : Array (Option Value)} {oc12 kV12 dc12 pm12 cd12 ct12 : Value}
    {f13 : Addr} {od13 an13 : Option Addr} {sl13 : Array (Option Value)} {oc13 kV13 dc13 pm13 cd13 ct13 : Value}
    {f14 : Addr} {od14 an14 : Option Addr} {sl14 : Array (Option Value)} {oc14 kV14 dc14 pm14 cd14 ct14 : Value}
    {f15 : Addr} {od15 an15 : Option Addr} {sl15 : Array (Option Value)} {oc15 kV15 dc15 pm15 cd15 ct15 : Value}
    {f16 : Addr} {od16 an16 : Option Addr} {sl16 : Array (Option Value)} {oc16 kV16 dc16 pm16 cd16 ct16 : Value}
    {f17 : Addr} {od17 an17 : Option Addr} {sl17 : Array (Option Value)} {oc17 kV17 dc17 pm17 cd17 ct17 : Value}
    {f18 : Addr} {od18 an18 : Option Addr} {sl18 : Array (Option Value)} {oc18 kV18 dc18 pm18 cd18 ct18 : Value}
    {y0 : Tok}
    {y1 : Tok}
    {C0 fI0 : Addr} {nm0 xq0 : Str} {xN0 : Addr} {xb0 xm0 : List Value} {xs0 : List Str} {xu0 : List Value} {xa0 : Bool} {xc0 : Option Bool} {xd0 : Option Addr} {w00 w10 w20 w30 w50 : Option Value} {xo0 xn0 : Option Addr} {xl0 : Array (Option Value)} {x10 x20 x30 x40 x50 : Value}
    {C1 fI1 : Addr} {nm1 xq1 : Str} {xN1 : Addr} {xb1 xm1 : List Value} {xs1 : List Str} {xu1 : List Value} {xa1 : Bool} {xc1 : Option Bool} {xd1 : Option Addr} {w01 w11 w21 w31 w51 : Option Value} {xo1 xn1 : Option Addr} {xl1 : Array (Option Value)} {x11 x21 x31 x41 x51 : Value}
    (a0 : PySem.W.nsIn K mainGlobals "is_between" = some (some (.ref f0))) (l0 : K.lookup f0 = some ⟨oc0, od0, .func (PySem.W.fnOf "is_between" "is_between" (defArgs s_is_between) (defBody s_is_between) (defScope s_is_between) .none kV0 dc0 pm0 an0 cd0 ct0), sl0⟩) (c0 : PySem.W.codeIn K cd0 "is_between" = true) (k0 : PySem.W.keepIn K (.ref f0) = true)
    (a1 : PySem.W.nsIn K mainGlobals "is_letter" = some (some (.ref f1))) (l1 : K.lookup f1 = some ⟨oc1, od1, .func (PySem.W.fnOf "is_letter" "is_letter" (defArgs s_is_letter) (defBody s_is_letter) (defScope s_is_letter) .none kV1 dc1 pm1 an1 cd1 ct1), sl1⟩) (c1 : PySem.W.codeIn K cd1 "is_letter" = true) (k1 : PySem.W.keepIn K (.ref f1) = true)
    (a2 : PySem.W.nsIn K mainGlobals "wrong_letter" = some (some (.ref f2))) (l2 : K.lookup f2 = some ⟨oc2, od2, .func (PySem.W.fnOf "wrong_letter" "wrong_letter" (defArgs s_wrong_letter) (defBody s_wrong_letter) (defScope s_wrong_letter) .none kV2 dc2 pm2 an2 cd2 ct2), sl2⟩) (c2 : PySem.W.codeIn K cd2 "wrong_letter" = true) (k2 : PySem.W.keepIn K (.ref f2) = true)
    (a3 : PySem.W.nsIn K mainGlobals "check_word" = some (some (.ref f3))) (l3 : K.lookup f3 = some ⟨oc3, od3, .func (PySem.W.fnOf "check_word" "check_word" (defArgs s_check_word) (defBody s_check_word) (defScope s_check_word) .none kV3 dc3 pm3 an3 cd3 ct3), sl3⟩) (c3 : PySem.W.codeIn K cd3 "check_word" = true) (k3 : PySem.W.keepIn K (.ref f3) = true)
    (a4 : PySem.W.nsIn K mainGlobals "after_exchange" = some (some (.ref f4))) (l4 : K.lookup f4 = some ⟨oc4, od4, .func (PySem.W.fnOf "after_exchange" "after_exchange" (defArgs s_after_exchange) (defBody s_after_exchange) (defScope s_after_exchange) .none kV4 dc4 pm4 an4 cd4 ct4), sl4⟩) (c4 : PySem.W.codeIn K cd4 "after_exchange" = true) (k4 : PySem.W.keepIn K (.ref f4) = true)
    (a5 : PySem.W.nsIn K mainGlobals "has_exchange" = some (some (.ref f5))) (l5 : K.lookup f5 = some ⟨oc5, od5, .func (PySem.W.fnOf "has_exchange" "has_exchange" (defArgs s_has_exchange) (defBody s_has_exchange) (defScope s_has_exchange) .none kV5 dc5 pm5 an5 cd5 ct5), sl5⟩) (c5 : PySem.W.codeIn K cd5 "has_exchange" = true) (k5 : PySem.W.keepIn K (.ref f5) = true)
    (a6 : PySem.W.nsIn K mainGlobals "exchanged" = some (some (.ref f6))) (l6 : K.lookup f6 = some ⟨oc6, od6, .func (PySem.W.fnOf "exchanged" "exchanged" (defArgs s_exchanged) (defBody s_exchanged) (defScope s_exchanged) .none kV6 dc6 pm6 an6 cd6 ct6), sl6⟩) (c6 : PySem.W.codeIn K cd6 "exchanged" = true) (k6 : PySem.W.keepIn K (.ref f6) = true)
    (a7 : PySem.W.nsIn K mainGlobals "all_places" = some (some (.ref f7))) (l7 : K.lookup f7 = some ⟨oc7, od7, .func (PySem.W.fnOf "all_places" "all_places" (defArgs s_all_places) (defBody s_all_places) (defScope s_all_places) .none kV7 dc7 pm7 an7 cd7 ct7), sl7⟩) (c7 : PySem.W.codeIn K cd7 "all_places" = true) (k7 : PySem.W.keepIn K (.ref f7) = true)
    (a8 : PySem.W.nsIn K mainGlobals "places_of" = some (some (.ref f8))) (l8 : K.lookup f8 = some ⟨oc8, od8, .func (PySem.W.fnOf "places_of" "places_of" (defArgs s_places_of) (defBody s_places_of) (defScope s_places_of) .none kV8 dc8 pm8 an8 cd8 ct8), sl8⟩) (c8 : PySem.W.codeIn K cd8 "places_of" = true) (k8 : PySem.W.keepIn K (.ref f8) = true)
    (a9 : PySem.W.nsIn K mainGlobals "words_beside" = some (some (.ref f9))) (l9 : K.lookup f9 = some ⟨oc9, od9, .func (PySem.W.fnOf "words_beside" "words_beside" (defArgs s_words_beside) (defBody s_words_beside) (defScope s_words_beside) .none kV9 dc9 pm9 an9 cd9 ct9), sl9⟩) (c9 : PySem.W.codeIn K cd9 "words_beside" = true) (k9 : PySem.W.keepIn K (.ref f9) = true)
    (a10 : PySem.W.nsIn K mainGlobals "neighbours" = some (some (.ref f10))) (l10 : K.lookup f10 = some ⟨oc10, od10, .func (PySem.W.fnOf "neighbours" "neighbours" (defArgs s_neighbours) (defBody s_neighbours) (defScope s_neighbours) .none kV10 dc10 pm10 an10 cd10 ct10), sl10⟩) (c10 : PySem.W.codeIn K cd10 "neighbours" = true) (k10 : PySem.W.keepIn K (.ref f10) = true)
    (a11 : PySem.W.nsIn K mainGlobals "_law_jar" = some (some (.ref f11))) (l11 : K.lookup f11 = some ⟨oc11, od11, .func (PySem.W.fnOf "_law_jar" "_law_jar" (defArgs s__law_jar) (defBody s__law_jar) (defScope s__law_jar) .none kV11 dc11 pm11 an11 cd11 ct11), sl11⟩) (c11 : PySem.W.codeIn K cd11 "_law_jar" = true) (k11 : PySem.W.keepIn K (.ref f11) = true)
    (a12 : PySem.W.nsIn K mainGlobals "_law_spoon" = some (some (.ref f12))) (l12 : K.lookup f12 = some ⟨oc12, od12, .func (PySem.W.fnOf "_law_spoon" "_law_spoon" (defArgs s__law_spoon) (defBody s__law_spoon) (defScope s__law_spoon) .none kV12 dc12 pm12 an12 cd12 ct12), sl12⟩) (c12 : PySem.W.codeIn K cd12 "_law_spoon" = true) (k12 : PySem.W.keepIn K (.ref f12) = true)
    (a13 : PySem.W.nsIn K mainGlobals "_law_one" = some (some (.ref f13))) (l13 : K.lookup f13 = some ⟨oc13, od13, .func (PySem.W.fnOf "_law_one" "_law_one" (defArgs s__law_one) (defBody s__law_one) (defScope s__law_one) .none kV13 dc13 pm13 an13 cd13 ct13), sl13⟩) (c13 : PySem.W.codeIn K cd13 "_law_one" = true) (k13 : PySem.W.keepIn K (.ref f13) = true)
    (a14 : PySem.W.nsIn K mainGlobals "_law_word" = some (some (.ref f14))) (l14 : K.lookup f14 = some ⟨oc14, od14, .func (PySem.W.fnOf "_law_word" "_law_word" (defArgs s__law_word) (defBody s__law_word) (defScope s__law_word) .none kV14 dc14 pm14 an14 cd14 ct14), sl14⟩) (c14 : PySem.W.codeIn K cd14 "_law_word" = true) (k14 : PySem.W.keepIn K (.ref f14) = true)
    (a15 : PySem.W.nsIn K mainGlobals "_law_after" = some (some (.ref f15))) (l15 : K.lookup f15 = some ⟨oc15, od15, .func (PySem.W.fnOf "_law_after" "_law_after" (defArgs s__law_after) (defBody s__law_after) (defScope s__law_after) .none kV15 dc15 pm15 an15 cd15 ct15), sl15⟩) (c15 : PySem.W.codeIn K cd15 "_law_after" = true) (k15 : PySem.W.keepIn K (.ref f15) = true)
    (a16 : PySem.W.nsIn K mainGlobals "_law_beside" = some (some (.ref f16))) (l16 : K.lookup f16 = some ⟨oc16, od16, .func (PySem.W.fnOf "_law_beside" "_law_beside" (defArgs s__law_beside) (defBody s__law_beside) (defScope s__law_beside) .none kV16 dc16 pm16 an16 cd16 ct16), sl16⟩) (c16 : PySem.W.codeIn K cd16 "_law_beside" = true) (k16 : PySem.W.keepIn K (.ref f16) = true)
    (a17 : PySem.W.nsIn K mainGlobals "_law_right" = some (some (.ref f17))) (l17 : K.lookup f17 = some ⟨oc17, od17, .func (PySem.W.fnOf "_law_right" "_law_right" (defArgs s__law_right) (defBody s__law_right) (defScope s__law_right) .none kV17 dc17 pm17 an17 cd17 ct17), sl17⟩) (c17 : PySem.W.codeIn K cd17 "_law_right" = true) (k17 : PySem.W.keepIn K (.ref f17) = true)
    (a18 : PySem.W.nsIn K mainGlobals "law" = some (some (.ref f18))) (l18 : K.lookup f18 = some ⟨oc18, od18, .func (PySem.W.fnOf "law" "law" (defArgs s_law) (defBody s_law) (defScope s_law) .none kV18 dc18 pm18 an18 cd18 ct18), sl18⟩) (c18 : PySem.W.codeIn K cd18 "law" = true) (k18 : PySem.W.keepIn K (.ref f18) = true)
    (v0 : PySem.W.nsIn K mainGlobals "MOST_LETTER" = some (some (.int 9 y0)))
    (v1 : PySem.W.nsIn K mainGlobals "MOST_WORD" = some (some (.int 40 y1)))
    (z0 : PySem.W.nsIn K mainGlobals "isinstance" = some none)
    (z1 : PySem.W.nsIn K mainGlobals "int" = some none)
    (z2 : PySem.W.nsIn K mainGlobals "bool" = some none)
    (z3 : PySem.W.nsIn K mainGlobals "enumerate" = some none)
    (z4 : PySem.W.nsIn K mainGlobals "tuple" = some none)
    (z5 : PySem.W.nsIn K mainGlobals "len" = some none)
    (z6 : PySem.W.nsIn K mainGlobals "range" = some none)
    (z7 : PySem.W.nsIn K mainGlobals "sorted" = some none)
    (z8 : PySem.W.nsIn K mainGlobals "set" = some none)
    (z9 : PySem.W.nsIn K mainGlobals "abs" = some none)
    (z10 : PySem.W.nsIn K mainGlobals "divmod" = some none)
    (z11 : PySem.W.nsIn K mainGlobals "min" = some none)
    (z12 : PySem.W.nsIn K mainGlobals "max" = some none)
    (z13 : PySem.W.nsIn K mainGlobals "repr" = some none)
    (z14 : PySem.W.nsIn K mainGlobals "all" = some none)
    (e1_0 : PySem.W.nsIn K mainGlobals "InvalidWord" = some (some (.ref C0))) (e2_0 : K.lookup C0 = some (excClassObj nm0 xq0 C0 xN0 xb0 xm0 true xs0 xu0 xa0 xc0 xd0 w00 w10 w20 w30 w50 "ValueError.__new__")) (e3_0 : PySem.HandSPX.refsVE xm0 = true)
    (e4_0 : PySem.W.findIn K (.ref C0) "__setattr__" = some (some (.builtin "object.__setattr__"))) (e5_0 : PySem.W.findIn K (.ref C0) "__getattribute__" = some (some (.builtin "BaseException.__getattribute__"))) (e6_0 : PySem.W.findIn K (.ref C0) "__getattr__" = some none) (e7_0 : PySem.W.findIn K (.ref C0) "index" = some none)
    (e8_0 : PySem.W.findIn K (.ref C0) "__init__" = some (some (.ref fI0))) (e9_0 : PySem.W.typeIn K (.ref fI0) = some (.type "function")) (ea_0 : K.lookup fI0 = some ⟨x10, xo0, .func (PySem.W.fnOf "__init__" "InvalidWord.__init__" (defArgs ((cbody (top 3)).getD 0 (.Pass ⟨0, 0, 0, 0⟩))) (defBody ((cbody (top 3)).getD 0 (.Pass ⟨0, 0, 0, 0⟩))) (defScope ((cbody (top 3)).getD 0 (.Pass ⟨0, 0, 0, 0⟩))) .none .none x20 x30 xn0 x40 x50), xl0⟩) (eb_0 : PySem.W.codeIn K x40 "InvalidWord.__init__" = true)
    (ec_0 : PySem.W.keepIn K (.ref C0) = true) (ed_0 : PySem.W.subIn K (.ref C0) (.type "BaseException") = some true) (ee_0 : PySem.W.typeIn K (.ref C0) = some (.type "type")) (ef_0 : PySem.W.hasDictIn K C0 = true)
    (e1_1 : PySem.W.nsIn K mainGlobals "InvalidPlace" = some (some (.ref C1))) (e2_1 : K.lookup C1 = some (excClassObj nm1 xq1 C1 xN1 xb1 xm1 true xs1 xu1 xa1 xc1 xd1 w01 w11 w21 w31 w51 "ValueError.__new__")) (e3_1 : PySem.HandSPX.refsVE xm1 = true)
    (e4_1 : PySem.W.findIn K (.ref C1) "__setattr__" = some (some (.builtin "object.__setattr__"))) (e5_1 : PySem.W.findIn K (.ref C1) "__getattribute__" = some (some (.builtin "BaseException.__getattribute__"))) (e6_1 : PySem.W.findIn K (.ref C1) "__getattr__" = some none) (e7_1 : PySem.W.findIn K (.ref C1) "value" = some none)
    (e8_1 : PySem.W.findIn K (.ref C1) "__init__" = some (some (.ref fI1))) (e9_1 : PySem.W.typeIn K (.ref fI1) = some (.type "function")) (ea_1 : K.lookup fI1 = some ⟨x11, xo1, .func (PySem.W.fnOf "__init__" "InvalidPlace.__init__" (defArgs ((cbody (top 2)).getD 0 (.Pass ⟨0, 0, 0, 0⟩))) (defBody ((cbody (top 2)).getD 0 (.Pass ⟨0, 0, 0, 0⟩))) (defScope ((cbody (top 2)).getD 0 (.Pass ⟨0, 0, 0, 0⟩))) .none .none x21 x31 xn1 x41 x51), xl1⟩) (eb_1 : PySem.W.codeIn K x41 "InvalidPlace.__init__" = true)
    (ec_1 : PySem.W.keepIn K (.ref C1) = true) (ed_1 : PySem.W.subIn K (.ref C1) (.type "BaseException") = some true) (ee_1 : PySem.W.typeIn K (.ref C1) = some (.type "type")) (ef_1 : PySem.W.hasDictIn K C1 = true) :
    ∃ (fd : FuncData) (ca : Str → Addr), (∀ (s : Shared) (u : Value), BindsTo s fd ⟨[u], []⟩ [(("_law_script" : Str), u)]) ∧ ∀ base : Heap, K.In base → base.Ns mainGlobals mg → FnG ⟨P, w, K, mg, base, ca⟩ 14 fa fd ["_law_script"] (spF ⟨P, w, K, mg, base, ca⟩ 1 ((tx.G 7).ph "law")) := by
  have e := hfa.symm.trans (PySem.W.mg_of X G a18)
  cases e
  refine ⟨PySem.W.fnOf "law" "law" (defArgs s_law) (defBody s_law) (defScope s_law) .none kV18 dc18 pm18 an18 cd18 ct18, fun x => (([("InvalidWord", C0), ("InvalidPlace", C1)] : List (Str × Addr)).lookup x).getD 0, fun s v => .of_eq rfl, fun base _ _ => ?_⟩
  have w : Wf ⟨P, w, K, mg, base, fun x => (([("InvalidWord", C0), ("InvalidPlace", C1)] : List (Str × Addr)).lookup x).getD 0⟩ := ⟨⟨_, _, fun_mk (st := s_is_between) l0 c0 k0, PySem.W.mg_of X G a0⟩, ⟨_, _, fun_mk (st := s_is_letter) l1 c1 k1, PySem.W.mg_of X G a1⟩, ⟨_, _, fun_mk (st := s_wrong_letter) l2 c2 k2, PySem.W.mg_of X G a2⟩, ⟨_, _, fun_mk (st := s_check_word) l3 c3 k3, PySem.W.mg_of X G a3⟩, ⟨_, _, fun_mk (st := s_after_exchange) l4 c4 k4, PySem.W.mg_of X G a4⟩, ⟨_, _, fun_mk (st := s_has_exchange) l5 c5 k5, PySem.W.mg_of X G a5⟩, ⟨_, _, fun_mk (st := s_exchanged) l6 c6 k6, PySem.W.mg_of X G a6⟩, ⟨_, _, fun_mk (st := s_all_places) l7 c7 k7, PySem.W.mg_of X G a7⟩, ⟨_, _, fun_mk (st := s_places_of) l8 c8 k8, PySem.W.mg_of X G a8⟩, ⟨_, _, fun_mk (st := s_words_beside) l9 c9 k9, PySem.W.mg_of X G a9⟩, ⟨_, _, fun_mk (st := s_neighbours) l10 c10 k10, PySem.W.mg_of X G a10⟩, ⟨_, _, fun_mk (st := s__law_jar) l11 c11 k11, PySem.W.mg_of X G a11⟩, ⟨_, _, fun_mk (st := s__law_spoon) l12 c12 k12, PySem.W.mg_of X G a12⟩, ⟨_, _, fun_mk (st := s__law_one) l13 c13 k13, PySem.W.mg_of X G a13⟩, ⟨_, _, fun_mk (st := s__law_word) l14 c14 k14, PySem.W.mg_of X G a14⟩, ⟨_, _, fun_mk (st := s__law_after) l15 c15 k15, PySem.W.mg_of X G a15⟩, ⟨_, _, fun_mk (st := s__law_beside) l16 c16 k16, PySem.W.mg_of X G a16⟩, ⟨_, _, fun_mk (st := s__law_right) l17 c17 k17, PySem.W.mg_of X G a17⟩, ⟨_, _, fun_mk (st := s_law) l18 c18 k18, PySem.W.mg_of X G a18⟩, List.forall_mem_cons.mpr ⟨⟨_, .int 9, PySem.W.mg_of X G v0, ⟨_, rfl⟩, fun _ _ => RW.int _⟩, List.forall_mem_cons.mpr ⟨⟨_, .int 40, PySem.W.mg_of X G v1, ⟨_, rfl⟩, fun _ _ => RW.int _⟩, List.forall_mem_nil _⟩⟩, List.forall_mem_cons.mpr ⟨⟨fI0, xc_mk (st := ((cbody (top 3)).getD 0 (.Pass ⟨0, 0, 0, 0⟩))) X G e1_0 e2_0 e3_0 e4_0 e5_0 e6_0 e7_0 e8_0 e9_0 ea_0 eb_0 ec_0 ed_0 ee_0 ef_0 ⟨_, _, _, _, rfl⟩ (fun _ _ => rfl) rfl rfl rfl (by decide) (by decide) rfl rfl⟩, List.forall_mem_cons.mpr ⟨⟨fI1, xc_mk (st := ((cbody (top 2)).getD 0 (.Pass ⟨0, 0, 0, 0⟩))) X G e1_1 e2_1 e3_1 e4_1 e5_1 e6_1 e7_1 e8_1 e9_1 ea_1 eb_1 ec_1 ed_1 ee_1 ef_1 ⟨_, _, _, _, rfl⟩ (fun _ _ => rfl) rfl rfl rfl (by decide) (by decide) rfl rfl⟩, List.forall_mem_nil _⟩⟩, List.forall_mem_cons.mpr ⟨PySem.W.mg_none_of X G z0, List.forall_mem_cons.mpr ⟨PySem.W.mg_none_of X G z1, List.forall_mem_cons.mpr ⟨PySem.W.mg_none_of X G z2, List.forall_mem_cons.mpr ⟨PySem.W.mg_none_of X G z3, List.forall_mem_cons.mpr ⟨PySem.W.mg_none_of X G z4, List.forall_mem_cons.mpr ⟨PySem.W.mg_none_of X G z5, List.forall_mem_cons.mpr ⟨PySem.W.mg_none_of X G z6, List.forall_mem_cons.mpr ⟨PySem.W.mg_none_of X G z7, List.forall_mem_cons.mpr ⟨PySem.W.mg_none_of X G z8, List.forall_mem_cons.mpr ⟨PySem.W.mg_none_of X G z9, List.forall_mem_cons.mpr ⟨PySem.W.mg_none_of X G z10, List.forall_mem_cons.mpr ⟨PySem.W.mg_none_of X G z11, List.forall_mem_cons.mpr ⟨PySem.W.mg_none_of X G z12, List.forall_mem_cons.mpr ⟨PySem.W.mg_none_of X G z13, List.forall_mem_cons.mpr ⟨PySem.W.mg_none_of X G z14, List.forall_mem_nil _⟩⟩⟩⟩⟩⟩⟩⟩⟩⟩⟩⟩⟩⟩⟩⟩
  exact g_law (fun_mk (st := s_law) l18 c18 k18) (tk_all w 6)

end K03

/-! the law of k03 holds -/
namespace K03
open PySem PySem.Spec PyProof.Rows L2 MP MPB
theorem ok_law_after (G : Sg) (w : List Int) (p : Nat) (h : Mh) (hp : p + 3 ≤ w.length) (hl : w.length ≤ 1000) : runM G 5 b__law_after [ofInts w, .int p] h = .ok (emW (aft w p)) h := by
  obtain ⟨a, b, c, e3⟩ := three hp
  have ec : cutM (w.map Mv.int) (some (p : Int)) (some ((p : Int) + 3)) = [.int a, .int b, .int c] := by
    have := cut_nat (w.map Mv.int) p (p + 3)
    rw [show ((p + 3 : Nat) : Int) = (p : Int) + 3 by omega] at this
    rw [this, ← List.map_drop, ← List.map_take, show p + 3 - p = 3 by omega, e3]; rfl
  have e1 : cutM (w.map Mv.int) none (some (p : Int)) = (w.take p).map .int := by rw [cut_to, List.map_take]
  have e2 : cutM (w.map Mv.int) (some ((p : Int) + 3)) none = (w.drop (p + 3)).map .int := by
    have := cut_from (w.map Mv.int) (p + 3)
    rw [show ((p + 3 : Nat) : Int) = (p : Int) + 3 by omega] at this
    rw [this, List.map_drop]
  have cat : ∀ (x y z : Int), (opB .Add (.tup ((w.take p).map .int)) (.tup [.int x, .int y, .int z]) h).bind (fun u h2 => opB .Add u (.tup ((w.drop (p + 3)).map .int)) h2) = .ok (ofInts (w.take p ++ [x, y, z] ++ w.drop (p + 3))) h := fun x y z => by
    rw [q_catt (by simp only [List.length_map, List.length_take, List.length_cons, List.length_nil]; unfold line; omega), q_bind, q_catt (by simp only [List.length_append, List.length_map, List.length_take, List.length_drop, List.length_cons, List.length_nil]; unfold line; omega)]
    simp [ofInts]
  unfold runM b__law_after ofInts
  unfold aft
  rw [e3]
  simp only [frameM, x_seq, x_skip, x_exp, x_asg, x_asgS, x_ret, x_retn, x_ite, x_whl, x_forr, x_brk, x_cnt, x_rse, n_nx, n_rt, n_bk, n_ct, n_exc, n_ite, loopV_t, loopV_f, ev, asgX, asgM, wipeM, varsOf, List.map_cons, List.map_nil, List.length_cons, List.length_nil, List.replicate, List.cons_append, List.nil_append, List.append_nil, List.getElem?_cons_zero, List.getElem?_cons_succ, List.set_cons_zero, List.set_cons_succ, Option.bind_some, q_bind, q_bindx, q_bool, q_tups, q_toS, q_toSx, q_some, q_and, q_or, q_cm, q_finr, q_finn, q_finx, q_trub, q_trui, q_trun, q_map, q_add, q_sub, q_lt, q_le, q_gt, q_ge, q_eqi, q_nei, q_eqs, q_nes, q_isnn, q_isni, q_isnt, q_isnr, q_notnn, q_notni, q_notnt, q_notnr, q_eqt, q_net, q_isi1, q_isi2, q_isi3, q_isi4, q_isi5, q_isi6, q_isi7, q_isi8, q_isi9, q_lent, q_lenf, q_inti, q_intb, q_abs, q_max, q_min, q_tupt, q_listt, q_sl, q_slf, Bool.not_true, Bool.not_false, Bool.true_and, Bool.and_true, Bool.false_and, Bool.false_or, Bool.or_false, Bool.true_or, if_true, if_false, line, pick, Option.toList, q_alloc, q_itt, q_itf, q_compt, q_compf, q_tupnew, Nat.reduceAdd, Nat.reduceLeDiff, Nat.zero_add, Bool.false_eq_true, ec, e1, e2, cat]
  have c1 : (decide ((if c < b then c else b) < a) && decide (a ≤ if c > b then c else b)) = ((decide (b < a) && decide (a ≤ c)) || (decide (c < a) && decide (a ≤ b))) := by
    rw [Bool.eq_iff_iff]
    simp only [Bool.and_eq_true, Bool.or_eq_true, decide_eq_true_eq]
    split <;> split <;> omega
  have c2 : (decide ((if b < a then b else a) ≤ c) && decide (c < if b > a then b else a)) = ((decide (a ≤ c) && decide (c < b)) || (decide (b ≤ c) && decide (c < a))) := by
    rw [Bool.eq_iff_iff]
    simp only [Bool.and_eq_true, Bool.or_eq_true, decide_eq_true_eq]
    split <;> split <;> omega
  rw [c1, c2]
  split
  · rfl
  · split <;> rfl
def SpLA (G : Sg) : Prop := ∀ (w : List Int) (p : Nat) h, p + 3 ≤ w.length → w.length ≤ 1000 → G.ph "_law_after" [ofInts w, .int p] h = .ok (emW (aft w p)) h
def pr (w : List Int) (p : Nat) : Mv := .tup [.int (p : Int), emW (aft w p)]
theorem ok_law_beside (G : Sg) (ha : SpLA G) (w : List Int) (h : Mh) (hl : w.length ≤ 40) : runM G 4 b__law_beside [ofInts w] h = .ok (.ref h.length) (h ++ [.lst ((placesI w).map (pr w))]) := by
  have hr : rngM [.int ((w.length : Int) - 2)] = some ((List.range (w.length - 2)).map fun (i : Nat) => Mv.int (i : Int)) := by
    rw [q_rng0 (by constructor <;> omega), show ((w.length : Int) - 2).toNat = w.length - 2 by omega]
  unfold runM b__law_beside ofInts
  simp only [frameM, x_seq, x_skip, x_exp, x_asg, x_asgS, x_ret, x_retn, x_ite, x_whl, x_forr, x_brk, x_cnt, x_rse, n_nx, n_rt, n_bk, n_ct, n_exc, n_ite, loopV_t, loopV_f, ev, asgX, asgM, wipeM, varsOf, List.map_cons, List.map_nil, List.length_cons, List.length_nil, List.replicate, List.cons_append, List.nil_append, List.append_nil, List.getElem?_cons_zero, List.getElem?_cons_succ, List.set_cons_zero, List.set_cons_succ, Option.bind_some, q_bind, q_bindx, q_bool, q_tups, q_toS, q_toSx, q_some, q_and, q_or, q_cm, q_finr, q_finn, q_finx, q_trub, q_trui, q_trun, q_map, q_add, q_sub, q_lt, q_le, q_gt, q_ge, q_eqi, q_nei, q_eqs, q_nes, q_isnn, q_isni, q_isnt, q_isnr, q_notnn, q_notni, q_notnt, q_notnr, q_eqt, q_net, q_isi1, q_isi2, q_isi3, q_isi4, q_isi5, q_isi6, q_isi7, q_isi8, q_isi9, q_lent, q_lenf, q_inti, q_intb, q_abs, q_max, q_min, q_tupt, q_listt, q_sl, q_slf, Bool.not_true, Bool.not_false, Bool.true_and, Bool.and_true, Bool.false_and, Bool.false_or, Bool.or_false, Bool.true_or, if_true, if_false, line, pick, Option.toList, q_alloc, q_itt, q_itf, q_compt, q_compf, q_tupnew, Nat.reduceAdd, Nat.reduceLeDiff, Nat.zero_add, Bool.false_eq_true, List.length_map, hr]
  refine eq_of_wp (wp_fin (wp_thn (loopL_wp (fun k fr m => m = h ++ [.lst (((List.range k).filter fun p => (aft w p).isSome).map (pr w))] ∧ ∃ a b, fr = [some (.tup (w.map .int)), some (.ref h.length), a, b]) _ 0 _ _ ?_ ⟨rfl, none, none, rfl⟩ ?_)))
  · rintro i x fr m ei ⟨rfl, a, b, rfl⟩
    obtain ⟨hi, rfl⟩ := rng_get ei
    rw [Nat.zero_add]
    have e2 := ha w i (h ++ [.lst (((List.range i).filter fun p => (aft w p).isSome).map (pr w))]) (by omega) (by omega)
    unfold ofInts at e2
    rw [x_forF rfl]
    simp only [frameM, x_seq, x_skip, x_exp, x_asg, x_asgS, x_ret, x_retn, x_ite, x_whl, x_forr, x_brk, x_cnt, x_rse, n_nx, n_rt, n_bk, n_ct, n_exc, n_ite, loopV_t, loopV_f, ev, asgX, asgM, wipeM, varsOf, List.map_cons, List.map_nil, List.length_cons, List.length_nil, List.replicate, List.cons_append, List.nil_append, List.append_nil, List.getElem?_cons_zero, List.getElem?_cons_succ, List.set_cons_zero, List.set_cons_succ, Option.bind_some, q_bind, q_bindx, q_bool, q_tups, q_toS, q_toSx, q_some, q_and, q_or, q_cm, q_finr, q_finn, q_finx, q_trub, q_trui, q_trun, q_map, q_add, q_sub, q_lt, q_le, q_gt, q_ge, q_eqi, q_nei, q_eqs, q_nes, q_isnn, q_isni, q_isnt, q_isnr, q_notnn, q_notni, q_notnt, q_notnr, q_eqt, q_net, q_isi1, q_isi2, q_isi3, q_isi4, q_isi5, q_isi6, q_isi7, q_isi8, q_isi9, q_lent, q_lenf, q_inti, q_intb, q_abs, q_max, q_min, q_tupt, q_listt, q_sl, q_slf, Bool.not_true, Bool.not_false, Bool.true_and, Bool.and_true, Bool.false_and, Bool.false_or, Bool.or_false, Bool.true_or, if_true, if_false, line, pick, Option.toList, q_alloc, q_itt, q_itf, q_compt, q_compf, q_tupnew, Nat.reduceAdd, Nat.reduceLeDiff, Nat.zero_add, Bool.false_eq_true, e2, emW_not]
    rw [List.range_succ, List.filter_append]
    cases q : aft w i with
    | none =>
      simp [q, Ms.wp]
    | some v =>
      have hlen : (((List.range i).filter fun p => (aft w p).isSome).map (pr w)).length < line := by
        rw [List.length_map]
        have := List.length_filter_le (fun p => (aft w p).isSome) (List.range i)
        rw [List.length_range] at this
        unfold line; omega
      simp only [frameM, x_seq, x_skip, x_exp, x_asg, x_asgS, x_ret, x_retn, x_ite, x_whl, x_forr, x_brk, x_cnt, x_rse, n_nx, n_rt, n_bk, n_ct, n_exc, n_ite, loopV_t, loopV_f, ev, asgX, asgM, wipeM, varsOf, List.map_cons, List.map_nil, List.length_cons, List.length_nil, List.replicate, List.cons_append, List.nil_append, List.append_nil, List.getElem?_cons_zero, List.getElem?_cons_succ, List.set_cons_zero, List.set_cons_succ, Option.bind_some, q_bind, q_bindx, q_bool, q_tups, q_toS, q_toSx, q_some, q_and, q_or, q_cm, q_finr, q_finn, q_finx, q_trub, q_trui, q_trun, q_map, q_add, q_sub, q_lt, q_le, q_gt, q_ge, q_eqi, q_nei, q_eqs, q_nes, q_isnn, q_isni, q_isnt, q_isnr, q_notnn, q_notni, q_notnt, q_notnr, q_eqt, q_net, q_isi1, q_isi2, q_isi3, q_isi4, q_isi5, q_isi6, q_isi7, q_isi8, q_isi9, q_lent, q_lenf, q_inti, q_intb, q_abs, q_max, q_min, q_tupt, q_listt, q_sl, q_slf, Bool.not_true, Bool.not_false, Bool.true_and, Bool.and_true, Bool.false_and, Bool.false_or, Bool.or_false, Bool.true_or, if_true, if_false, line, pick, Option.toList, q_alloc, q_itt, q_itf, q_compt, q_compf, q_tupnew, Nat.reduceAdd, Nat.reduceLeDiff, Nat.zero_add, Bool.false_eq_true, Option.isSome_some, q_at (q_new _ _), q_append (q_new _ _) hlen]
      refine ⟨?_, _, _, rfl⟩
      simp [q, pr, emW]
  · rintro fr m ⟨rfl, a, b, rfl⟩
    rw [Nat.zero_add, List.length_map, List.length_range]
    simp only [frameM, x_seq, x_skip, x_exp, x_asg, x_asgS, x_ret, x_retn, x_ite, x_whl, x_forr, x_brk, x_cnt, x_rse, n_nx, n_rt, n_bk, n_ct, n_exc, n_ite, loopV_t, loopV_f, ev, asgX, asgM, wipeM, varsOf, List.map_cons, List.map_nil, List.length_cons, List.length_nil, List.replicate, List.cons_append, List.nil_append, List.append_nil, List.getElem?_cons_zero, List.getElem?_cons_succ, List.set_cons_zero, List.set_cons_succ, Option.bind_some, q_bind, q_bindx, q_bool, q_tups, q_toS, q_toSx, q_some, q_and, q_or, q_cm, q_finr, q_finn, q_finx, q_trub, q_trui, q_trun, q_map, q_add, q_sub, q_lt, q_le, q_gt, q_ge, q_eqi, q_nei, q_eqs, q_nes, q_isnn, q_isni, q_isnt, q_isnr, q_notnn, q_notni, q_notnt, q_notnr, q_eqt, q_net, q_isi1, q_isi2, q_isi3, q_isi4, q_isi5, q_isi6, q_isi7, q_isi8, q_isi9, q_lent, q_lenf, q_inti, q_intb, q_abs, q_max, q_min, q_tupt, q_listt, q_sl, q_slf, Bool.not_true, Bool.not_false, Bool.true_and, Bool.and_true, Bool.false_and, Bool.false_or, Bool.or_false, Bool.true_or, if_true, if_false, line, pick, Option.toList, q_alloc, q_itt, q_itf, q_compt, q_compf, q_tupnew, Nat.reduceAdd, Nat.reduceLeDiff, Nat.zero_add, Bool.false_eq_true]
    exact ⟨rfl, rfl⟩
def SpLB (G : Sg) : Prop := ∀ (w : List Int) (h : Mh), w.length ≤ 40 → G.ph "_law_beside" [ofInts w] h = .ok (.ref h.length) (h ++ [.lst ((placesI w).map (pr w))])
theorem aft_cut {w : List Int} {p : Nat} {x y z : Int} (hp : p ≤ w.length) : ((w.take p ++ [x, y, z] ++ w.drop (p + 3)).drop p).take 3 = [x, y, z] ∧ (w.take p ++ [x, y, z] ++ w.drop (p + 3)).take p = w.take p ∧ (w.take p ++ [x, y, z] ++ w.drop (p + 3)).drop (p + 3) = w.drop (p + 3) := by
  have hl : (w.take p).length = p := by rw [List.length_take]; omega
  refine ⟨?_, ?_, ?_⟩
  · rw [List.append_assoc, List.drop_append_of_le_length (by omega), List.drop_of_length_le (by omega)]; rfl
  · rw [List.append_assoc, List.take_append_of_le_length (by omega), List.take_of_length_le (by omega)]
  · rw [List.drop_append, List.drop_of_length_le (by simp; omega)]
    simp [hl]
theorem aft_more {w v : List Int} {p : Nat} (h : aft w p = some v) : aft v p = some w ∧ v ≠ w := by
  have hp := (aft_props h).1
  obtain ⟨a, b, c, e3⟩ := three hp
  have hw : w.take p ++ [a, b, c] ++ w.drop (p + 3) = w := by
    rw [← e3, List.append_assoc, ← List.drop_drop, List.take_append_drop, List.take_append_drop]
  unfold aft at h
  rw [e3] at h
  dsimp only at h
  have ne : ∀ {x y z : Int}, ¬ (x = a ∧ y = b ∧ z = c) → w.take p ++ [x, y, z] ++ w.drop (p + 3) ≠ w := fun {x y z} hn e => by
    have e1 := (aft_cut (w := w) (p := p) (x := x) (y := y) (z := z) (by omega)).1
    rw [e, e3] at e1
    simp at e1
    exact hn ⟨e1.1.symm, e1.2.1.symm, e1.2.2.symm⟩
  split at h
  · rename_i hc
    cases h
    obtain ⟨k1, k2, k3⟩ := aft_cut (w := w) (p := p) (x := a) (y := c) (z := b) (by omega)
    simp only [Bool.or_eq_true, Bool.and_eq_true, decide_eq_true_eq] at hc
    refine ⟨?_, ne (by omega)⟩
    unfold aft
    rw [k1]
    dsimp only
    rw [if_pos (by simp only [Bool.or_eq_true, Bool.and_eq_true, decide_eq_true_eq]; omega), k2, k3, hw]
  · rename_i hc
    split at h
    · rename_i hc2
      cases h
      obtain ⟨k1, k2, k3⟩ := aft_cut (w := w) (p := p) (x := b) (y := a) (z := c) (by omega)
      simp only [Bool.or_eq_true, Bool.and_eq_true, decide_eq_true_eq] at hc hc2
      refine ⟨?_, ne (by omega)⟩
      unfold aft
      rw [k1]
      dsimp only
      rw [if_neg (by simp only [Bool.or_eq_true, Bool.and_eq_true, decide_eq_true_eq]; omega), if_pos (by simp only [Bool.or_eq_true, Bool.and_eq_true, decide_eq_true_eq]; omega), k2, k3, hw]
    · cases h
theorem toDs_map {α : Type} {h : Mh} {n : Nat} {f : α → Mv} {g : α → PyData} : ∀ {l : List α}, (∀ x ∈ l, toD h n (f x) = some (g x)) → toDs h (n + 1) (l.map f) = some (l.map g)
  | [], _ => by unfold toDs; rfl
  | x :: l, hx => by
    have ih := toDs_map (l := l) fun y hy => hx y (List.mem_cons_of_mem _ hy)
    rw [List.map_cons]
    unfold toDs
    rw [hx x (List.mem_cons_self ..), ih]
    rfl
theorem toD_words (h : Mh) (ks : List (List Int)) : toD h 10 (.tup (ks.map ofInts)) = some (.tuple (ks.map fun k => .tuple (k.map .int))) := by
  unfold toD
  dsimp only
  rw [toDs_map (n := 8) (g := fun k => .tuple (k.map .int)) fun k _ => toD_ofInts h 5 k]
  rfl
/-- the texts of two things -/
theorem toD_two {h : Mh} {n : Nat} {u v : Mv} {d e : PyData} (eh : h[n]? = some (.lst [u, v])) (hu : toD h 10 u = some d) (hv : toD h 10 v = some e) : toD h deep (.ref n) = some (.list [d, e]) := by
  unfold deep toD
  dsimp only
  rw [eh]
  dsimp only
  have := toDs_map (h := h) (n := 10) (f := fun b => if b = true then u else v) (g := fun b => if b = true then d else e) (l := [true, false]) (by
    intro x hx
    cases x with
    | true => exact hu
    | false => exact hv)
  show (toDs h 11 [u, v]).map PyData.list = _
  have e2 : toDs h 11 [u, v] = some [d, e] := this
  rw [e2]; rfl
theorem smalls_ints {ns : List Int} (h : ∀ x ∈ ns, x.natAbs < 10 ^ 18) : smallDs (ns.map .int) = true ∧ mszs (ns.map .int) = 24 * ns.length := by
  induction ns with
  | nil => exact ⟨rfl, rfl⟩
  | cons x r ih =>
    obtain ⟨h1, h2⟩ := ih fun y hy => h y (List.mem_cons_of_mem _ hy)
    constructor
    · show (decide (x.natAbs < 10 ^ 18) && smallDs (r.map .int)) = true
      rw [h1, decide_eq_true (h x (List.mem_cons_self ..))]; rfl
    · show 22 + 2 + mszs (r.map .int) = _
      rw [h2, List.length_cons]; omega
theorem repr_ints {h : Mh} {n : Nat} {ns : List Int} (eh : h[n]? = some (.lst [ofInts ns, ofInts ns])) (hs : ∀ x ∈ ns, x.natAbs < 10 ^ 18) (hl : ns.length ≤ 10000) : bltM "repr" [.ref n] h = .ok (.str (PyData.list [.tuple (ns.map .int), .tuple (ns.map .int)]).shown) h := by
  obtain ⟨h1, h2⟩ := smalls_ints hs
  refine q_reprr (repr_ok (toD_two eh (toD_ofInts h 7 ns) (toD_ofInts h 7 ns)) ?_ ?_ ?_)
  · show (smallDs (ns.map .int) && (smallDs (ns.map .int) && true)) = true
    rw [h1]; rfl
  · show max (PyData.depthAll (ns.map .int) + 1) (max (PyData.depthAll (ns.map .int) + 1) 0) + 1 ≤ 30
    rw [depth_ints]; decide
  · show 4 + ((4 + mszs (ns.map .int)) + 2 + ((4 + mszs (ns.map .int)) + 2 + 0)) ≤ line
    rw [h2]; unfold line; omega
def wd (k : List Int) : PyData := .tuple (k.map .int)
theorem smalls_words {ks : List (List Int)} {d : Nat} (h : ∀ k ∈ ks, k.length ≤ d ∧ ∀ x ∈ k, x.natAbs < 10 ^ 18) : smallDs (ks.map wd) = true ∧ mszs (ks.map wd) ≤ (24 * d + 6) * ks.length ∧ PyData.depthAll (ks.map wd) ≤ 1 := by
  induction ks with
  | nil => exact ⟨rfl, Nat.zero_le _, Nat.zero_le _⟩
  | cons k r ih =>
    obtain ⟨h1, h2, h3⟩ := ih fun q hq => h q (List.mem_cons_of_mem _ hq)
    obtain ⟨k1, k2⟩ := h k (List.mem_cons_self ..)
    obtain ⟨s1, s2⟩ := smalls_ints k2
    refine ⟨?_, ?_, ?_⟩
    · show (smallDs (k.map .int) && smallDs (r.map wd)) = true
      rw [s1, h1]; rfl
    · show (4 + mszs (k.map .int)) + 2 + mszs (r.map wd) ≤ _
      rw [s2, List.length_cons, Nat.mul_succ]
      omega
    · show max (PyData.depthAll (k.map .int) + 1) (PyData.depthAll (r.map wd)) ≤ 1
      rw [depth_ints]; omega
theorem repr_words {h : Mh} {n : Nat} {ks : List (List Int)} (eh : h[n]? = some (.lst [.tup (ks.map ofInts), .tup (ks.map ofInts)])) (hs : ∀ k ∈ ks, k.length ≤ 100 ∧ ∀ x ∈ k, x.natAbs < 10 ^ 18) (hl : ks.length ≤ 1000) : bltM "repr" [.ref n] h = .ok (.str (PyData.list [.tuple (ks.map wd), .tuple (ks.map wd)]).shown) h := by
  obtain ⟨h1, h2, h3⟩ := smalls_words hs
  refine q_reprr (repr_ok (toD_two eh (toD_words h ks) (toD_words h ks)) ?_ ?_ ?_)
  · show (smallDs (ks.map wd) && (smallDs (ks.map wd) && true)) = true
    rw [h1]; rfl
  · show max (PyData.depthAll (ks.map wd) + 1) (max (PyData.depthAll (ks.map wd) + 1) 0) + 1 ≤ 30
    omega
  · show 4 + ((4 + mszs (ks.map wd)) + 2 + ((4 + mszs (ks.map wd)) + 2 + 0)) ≤ line
    have : (24 * 100 + 6) * ks.length ≤ 2406 * 1000 := Nat.mul_le_mul (by omega) hl
    unfold line; omega
theorem ok_right (G : Sg) (hw : ∀ (n : Nat) (h : Mh), Jar n h → (G.ph "_law_word" [.ref n, .int 40] h).wp fun v m => ∃ w, v = ofInts w ∧ goodW 40 w ∧ Jar n m ∧ Up n h m) (hb : SpLB G) (hp : SpPlaces G) (hx : SpExchanged G) (hn : SpNeigh G) (n : Nat) (h : Mh) (hj : Jar n h) : (runM G 7 b__law_right [.ref n] h).wp fun v m => v = .bl true ∧ Up n h m := by
  unfold runM b__law_right
  simp only [frameM, x_seq, x_skip, x_exp, x_asg, x_asgS, x_ret, x_retn, x_ite, x_whl, x_forr, x_brk, x_cnt, x_rse, n_nx, n_rt, n_bk, n_ct, n_exc, n_ite, loopV_t, loopV_f, ev, asgX, asgM, wipeM, varsOf, List.map_cons, List.map_nil, List.length_cons, List.length_nil, List.replicate, List.cons_append, List.nil_append, List.append_nil, List.getElem?_cons_zero, List.getElem?_cons_succ, List.set_cons_zero, List.set_cons_succ, Option.bind_some, q_bind, q_bindx, q_bool, q_tups, q_toS, q_toSx, q_some, q_and, q_or, q_cm, q_finr, q_finn, q_finx, q_trub, q_trui, q_trun, q_map, q_add, q_sub, q_lt, q_le, q_gt, q_ge, q_eqi, q_nei, q_eqs, q_nes, q_isnn, q_isni, q_isnt, q_isnr, q_notnn, q_notni, q_notnt, q_notnr, q_eqt, q_net, q_isi1, q_isi2, q_isi3, q_isi4, q_isi5, q_isi6, q_isi7, q_isi8, q_isi9, q_lent, q_lenf, q_inti, q_intb, q_abs, q_max, q_min, q_tupt, q_listt, q_sl, q_slf, Bool.not_true, Bool.not_false, Bool.true_and, Bool.and_true, Bool.false_and, Bool.false_or, Bool.or_false, Bool.true_or, if_true, if_false, line, pick, Option.toList, q_alloc, q_itt, q_itf, q_compt, q_compf, q_tupnew, Nat.reduceAdd, Nat.reduceLeDiff, Nat.zero_add, Bool.false_eq_true, q_rng (j := 4) (by decide)]
  refine wp_fin (wp_thn (loopL_wp (fun k fr m => Jar n m ∧ Up n h m ∧ ∃ a b c d e f, fr = [some (.ref n), a, b, c, d, e, f]) _ 0 _ _ ?_ ⟨hj, Up.refl _ _, _, _, _, _, _, _, rfl⟩ ?_))
  · rintro i x fr m ei ⟨jm, um, a, b, c, d, e, f, rfl⟩
    rw [x_forF rfl]
    obtain ⟨v, m1, e1, w, rfl, gw, j1, u1⟩ := ok_of_wp (hw n m jm)
    have hwb : wordB w = true := by unfold wordB; rw [gw.2, Bool.and_true, decide_eq_true_eq]; have := gw.1; omega
    have hl := wordB_len hwb
    have e2 := hb w m1 hl
    unfold ofInts at e1 e2
    have lenp : (placesI w).length ≤ 38 := Nat.le_trans (placesI_len w) (by omega)
    have eL := q_new m1 (.lst ((placesI w).map (pr w)))
    generalize hm2 : m1 ++ [Mo.lst ((placesI w).map (pr w))] = m2 at e2 eL
    have g2 : Gr m1 m2 := by rw [← hm2]; exact Gr.app _ _
    simp only [frameM, x_seq, x_skip, x_exp, x_asg, x_asgS, x_ret, x_retn, x_ite, x_whl, x_forr, x_brk, x_cnt, x_rse, n_nx, n_rt, n_bk, n_ct, n_exc, n_ite, loopV_t, loopV_f, ev, asgX, asgM, wipeM, varsOf, List.map_cons, List.map_nil, List.length_cons, List.length_nil, List.replicate, List.cons_append, List.nil_append, List.append_nil, List.getElem?_cons_zero, List.getElem?_cons_succ, List.set_cons_zero, List.set_cons_succ, Option.bind_some, q_bind, q_bindx, q_bool, q_tups, q_toS, q_toSx, q_some, q_and, q_or, q_cm, q_finr, q_finn, q_finx, q_trub, q_trui, q_trun, q_map, q_add, q_sub, q_lt, q_le, q_gt, q_ge, q_eqi, q_nei, q_eqs, q_nes, q_isnn, q_isni, q_isnt, q_isnr, q_notnn, q_notni, q_notnt, q_notnr, q_eqt, q_net, q_isi1, q_isi2, q_isi3, q_isi4, q_isi5, q_isi6, q_isi7, q_isi8, q_isi9, q_lent, q_lenf, q_inti, q_intb, q_abs, q_max, q_min, q_tupt, q_listt, q_sl, q_slf, Bool.not_true, Bool.not_false, Bool.true_and, Bool.and_true, Bool.false_and, Bool.false_or, Bool.or_false, Bool.true_or, if_true, if_false, line, pick, Option.toList, q_alloc, q_itt, q_itf, q_compt, q_compf, q_tupnew, Nat.reduceAdd, Nat.reduceLeDiff, Nat.zero_add, Bool.false_eq_true, e1, e2, q_itr eL]
    rw [compR_map (e := pr w) (fun p => some (Mv.int (p : Int))) eL (by unfold line; omega) (fun p _ => ⟨_, rfl, by simp only [frameM, x_seq, x_skip, x_exp, x_asg, x_asgS, x_ret, x_retn, x_ite, x_whl, x_forr, x_brk, x_cnt, x_rse, n_nx, n_rt, n_bk, n_ct, n_exc, n_ite, loopV_t, loopV_f, ev, asgX, asgM, wipeM, varsOf, List.map_cons, List.map_nil, List.length_cons, List.length_nil, List.replicate, List.cons_append, List.nil_append, List.append_nil, List.getElem?_cons_zero, List.getElem?_cons_succ, List.set_cons_zero, List.set_cons_succ, Option.bind_some, q_bind, q_bindx, q_bool, q_tups, q_toS, q_toSx, q_some, q_and, q_or, q_cm, q_finr, q_finn, q_finx, q_trub, q_trui, q_trun, q_map, q_add, q_sub, q_lt, q_le, q_gt, q_ge, q_eqi, q_nei, q_eqs, q_nes, q_isnn, q_isni, q_isnt, q_isnr, q_notnn, q_notni, q_notnt, q_notnr, q_eqt, q_net, q_isi1, q_isi2, q_isi3, q_isi4, q_isi5, q_isi6, q_isi7, q_isi8, q_isi9, q_lent, q_lenf, q_inti, q_intb, q_abs, q_max, q_min, q_tupt, q_listt, q_sl, q_slf, Bool.not_true, Bool.not_false, Bool.true_and, Bool.and_true, Bool.false_and, Bool.false_or, Bool.or_false, Bool.true_or, if_true, if_false, line, pick, Option.toList, q_alloc, q_itt, q_itf, q_compt, q_compf, q_tupnew, Nat.reduceAdd, Nat.reduceLeDiff, Nat.zero_add, Bool.false_eq_true]⟩)]
    simp only [frameM, x_seq, x_skip, x_exp, x_asg, x_asgS, x_ret, x_retn, x_ite, x_whl, x_forr, x_brk, x_cnt, x_rse, n_nx, n_rt, n_bk, n_ct, n_exc, n_ite, loopV_t, loopV_f, ev, asgX, asgM, wipeM, varsOf, List.map_cons, List.map_nil, List.length_cons, List.length_nil, List.replicate, List.cons_append, List.nil_append, List.append_nil, List.getElem?_cons_zero, List.getElem?_cons_succ, List.set_cons_zero, List.set_cons_succ, Option.bind_some, q_bind, q_bindx, q_bool, q_tups, q_toS, q_toSx, q_some, q_and, q_or, q_cm, q_finr, q_finn, q_finx, q_trub, q_trui, q_trun, q_map, q_add, q_sub, q_lt, q_le, q_gt, q_ge, q_eqi, q_nei, q_eqs, q_nes, q_isnn, q_isni, q_isnt, q_isnr, q_notnn, q_notni, q_notnt, q_notnr, q_eqt, q_net, q_isi1, q_isi2, q_isi3, q_isi4, q_isi5, q_isi6, q_isi7, q_isi8, q_isi9, q_lent, q_lenf, q_inti, q_intb, q_abs, q_max, q_min, q_tupt, q_listt, q_sl, q_slf, Bool.not_true, Bool.not_false, Bool.true_and, Bool.and_true, Bool.false_and, Bool.false_or, Bool.or_false, Bool.true_or, if_true, if_false, line, pick, Option.toList, q_alloc, q_itt, q_itf, q_compt, q_compf, q_tupnew, Nat.reduceAdd, Nat.reduceLeDiff, Nat.zero_add, Bool.false_eq_true, some_map]
    -- the places' texts
    have eP : (placesI w).map (fun (p : Nat) => Mv.int (p : Int)) = ((placesI w).map fun (p : Nat) => (p : Int)).map Mv.int := by rw [List.map_map]; rfl
    rw [eP]
    generalize hm3 : m2 ++ [Mo.lst (((placesI w).map fun (p : Nat) => (p : Int)).map Mv.int)] = m3
    have g3 : Gr m2 m3 := by rw [← hm3]; exact Gr.app _ _
    obtain ⟨v4, m4, e4, rfl, g4⟩ := ok_of_wp (hp w m3 hwb)
    obtain ⟨v5, m5, e5, rfl, g5⟩ := ok_of_wp (hp w m4 hwb)
    unfold emP at e4 e5
    have hsP : ∀ y ∈ (placesI w).map fun (p : Nat) => (p : Int), y.natAbs < 10 ^ 18 := fun y hy => by
      obtain ⟨p, hp, rfl⟩ := List.mem_map.mp hy
      have := (List.mem_filter.mp hp).1
      rw [List.mem_range] at this
      omega
    have hlP : ((placesI w).map fun (p : Nat) => (p : Int)).length ≤ 10000 := by rw [List.length_map]; omega
    generalize (placesI w).map (fun (p : Nat) => (p : Int)) = P at e4 e5 hsP hlP ⊢
    have r1 := repr_ints (q_new m5 (.lst [ofInts P, ofInts P])) hsP hlP
    have r2 := repr_ints (q_new (m5 ++ [.lst [ofInts P, ofInts P]]) (.lst [ofInts P, ofInts P])) hsP hlP
    unfold ofInts at e4 e5 r1 r2
    simp only [frameM, x_seq, x_skip, x_exp, x_asg, x_asgS, x_ret, x_retn, x_ite, x_whl, x_forr, x_brk, x_cnt, x_rse, n_nx, n_rt, n_bk, n_ct, n_exc, n_ite, loopV_t, loopV_f, ev, asgX, asgM, wipeM, varsOf, List.map_cons, List.map_nil, List.length_cons, List.length_nil, List.replicate, List.cons_append, List.nil_append, List.append_nil, List.getElem?_cons_zero, List.getElem?_cons_succ, List.set_cons_zero, List.set_cons_succ, Option.bind_some, q_bind, q_bindx, q_bool, q_tups, q_toS, q_toSx, q_some, q_and, q_or, q_cm, q_finr, q_finn, q_finx, q_trub, q_trui, q_trun, q_map, q_add, q_sub, q_lt, q_le, q_gt, q_ge, q_eqi, q_nei, q_eqs, q_nes, q_isnn, q_isni, q_isnt, q_isnr, q_notnn, q_notni, q_notnt, q_notnr, q_eqt, q_net, q_isi1, q_isi2, q_isi3, q_isi4, q_isi5, q_isi6, q_isi7, q_isi8, q_isi9, q_lent, q_lenf, q_inti, q_intb, q_abs, q_max, q_min, q_tupt, q_listt, q_sl, q_slf, Bool.not_true, Bool.not_false, Bool.true_and, Bool.and_true, Bool.false_and, Bool.false_or, Bool.or_false, Bool.true_or, if_true, if_false, line, pick, Option.toList, q_alloc, q_itt, q_itf, q_compt, q_compf, q_tupnew, Nat.reduceAdd, Nat.reduceLeDiff, Nat.zero_add, Bool.false_eq_true, e4, e5, r1, r2, decide_true]
    have g5 : Gr m2 (m5 ++ [Mo.lst [Mv.tup (P.map Mv.int), Mv.tup (P.map Mv.int)]] ++ [Mo.lst [Mv.tup (P.map Mv.int), Mv.tup (P.map Mv.int)]]) := (((g3.trans g4).trans g5).trans (Gr.app _ _)).trans (Gr.app _ _)
    generalize m5 ++ [Mo.lst [Mv.tup (P.map Mv.int), Mv.tup (P.map Mv.int)]] ++ [Mo.lst [Mv.tup (P.map Mv.int), Mv.tup (P.map Mv.int)]] = m6 at g5 ⊢
    have eL6 := g5.get eL
    simp only [frameM, x_seq, x_skip, x_exp, x_asg, x_asgS, x_ret, x_retn, x_ite, x_whl, x_forr, x_brk, x_cnt, x_rse, n_nx, n_rt, n_bk, n_ct, n_exc, n_ite, loopV_t, loopV_f, ev, asgX, asgM, wipeM, varsOf, List.map_cons, List.map_nil, List.length_cons, List.length_nil, List.replicate, List.cons_append, List.nil_append, List.append_nil, List.getElem?_cons_zero, List.getElem?_cons_succ, List.set_cons_zero, List.set_cons_succ, Option.bind_some, q_bind, q_bindx, q_bool, q_tups, q_toS, q_toSx, q_some, q_and, q_or, q_cm, q_finr, q_finn, q_finx, q_trub, q_trui, q_trun, q_map, q_add, q_sub, q_lt, q_le, q_gt, q_ge, q_eqi, q_nei, q_eqs, q_nes, q_isnn, q_isni, q_isnt, q_isnr, q_notnn, q_notni, q_notnt, q_notnr, q_eqt, q_net, q_isi1, q_isi2, q_isi3, q_isi4, q_isi5, q_isi6, q_isi7, q_isi8, q_isi9, q_lent, q_lenf, q_inti, q_intb, q_abs, q_max, q_min, q_tupt, q_listt, q_sl, q_slf, Bool.not_true, Bool.not_false, Bool.true_and, Bool.and_true, Bool.false_and, Bool.false_or, Bool.or_false, Bool.true_or, if_true, if_false, line, pick, Option.toList, q_alloc, q_itt, q_itf, q_compt, q_compf, q_tupnew, Nat.reduceAdd, Nat.reduceLeDiff, Nat.zero_add, Bool.false_eq_true, q_itr eL6]
    refine wp_thn (loopR_wp (fun k fr m => m = m6 ∧ ∃ e f, fr = [some (.ref n), some x, some (.tup (w.map .int)), some (.ref m1.length), some (.tup (P.map .int)), e, f]) eL6 (fun k fr m hI => by rw [hI.1]; exact eL6) ?_ ⟨rfl, _, _, rfl⟩ ?_)
    · rintro k y fr m ey ⟨rfl, e, f, rfl⟩
      obtain ⟨p, hp, rfl⟩ := map_get ey
      have hp' : p ∈ placesI w := List.mem_of_getElem? hp
      obtain ⟨v, hv⟩ := placesI_mem hp'
      obtain ⟨hb1, hb2⟩ := aft_more hv
      have hpl := (aft_props hv).1
      have hvl := (aft_props hv).2.1
      have x1 := hx w v p m hwb hpl hv
      have x2 := hx v w p m (aft_word hwb hv) (by omega) hb1
      have c1 : opC .Eq (ofInts v) (ofInts w) m = .ok false m := by rw [q_eqt, decide_eq_false hb2]
      have c2 : opC .NotEq (ofInts v) (ofInts v) m = .ok false m := by rw [q_net]; simp
      have c3 : opC .NotEq (ofInts w) (ofInts w) m = .ok false m := by rw [q_net]; simp
      unfold pr
      rw [hv]
      rw [x_forF (fr' := [some (.ref n), some x, some (.tup (w.map .int)), some (.ref m1.length), some (.tup (P.map .int)), some (.int (p : Int)), some (ofInts v)]) (by simp only [frameM, x_seq, x_skip, x_exp, x_asg, x_asgS, x_ret, x_retn, x_ite, x_whl, x_forr, x_brk, x_cnt, x_rse, n_nx, n_rt, n_bk, n_ct, n_exc, n_ite, loopV_t, loopV_f, ev, asgX, asgM, wipeM, varsOf, List.map_cons, List.map_nil, List.length_cons, List.length_nil, List.replicate, List.cons_append, List.nil_append, List.append_nil, List.getElem?_cons_zero, List.getElem?_cons_succ, List.set_cons_zero, List.set_cons_succ, Option.bind_some, q_bind, q_bindx, q_bool, q_tups, q_toS, q_toSx, q_some, q_and, q_or, q_cm, q_finr, q_finn, q_finx, q_trub, q_trui, q_trun, q_map, q_add, q_sub, q_lt, q_le, q_gt, q_ge, q_eqi, q_nei, q_eqs, q_nes, q_isnn, q_isni, q_isnt, q_isnr, q_notnn, q_notni, q_notnt, q_notnr, q_eqt, q_net, q_isi1, q_isi2, q_isi3, q_isi4, q_isi5, q_isi6, q_isi7, q_isi8, q_isi9, q_lent, q_lenf, q_inti, q_intb, q_abs, q_max, q_min, q_tupt, q_listt, q_sl, q_slf, Bool.not_true, Bool.not_false, Bool.true_and, Bool.and_true, Bool.false_and, Bool.false_or, Bool.or_false, Bool.true_or, if_true, if_false, line, pick, Option.toList, q_alloc, q_itt, q_itf, q_compt, q_compf, q_tupnew, Nat.reduceAdd, Nat.reduceLeDiff, Nat.zero_add, Bool.false_eq_true, emW])]
      have hw' : Mv.tup (w.map .int) = ofInts w := rfl
      simp only [frameM, x_seq, x_skip, x_exp, x_asg, x_asgS, x_ret, x_retn, x_ite, x_whl, x_forr, x_brk, x_cnt, x_rse, n_nx, n_rt, n_bk, n_ct, n_exc, n_ite, loopV_t, loopV_f, ev, asgX, asgM, wipeM, varsOf, List.map_cons, List.map_nil, List.length_cons, List.length_nil, List.replicate, List.cons_append, List.nil_append, List.append_nil, List.getElem?_cons_zero, List.getElem?_cons_succ, List.set_cons_zero, List.set_cons_succ, Option.bind_some, q_bind, q_bindx, q_bool, q_tups, q_toS, q_toSx, q_some, q_and, q_or, q_cm, q_finr, q_finn, q_finx, q_trub, q_trui, q_trun, q_map, q_add, q_sub, q_lt, q_le, q_gt, q_ge, q_eqi, q_nei, q_eqs, q_nes, q_isnn, q_isni, q_isnt, q_isnr, q_notnn, q_notni, q_notnt, q_notnr, q_eqt, q_net, q_isi1, q_isi2, q_isi3, q_isi4, q_isi5, q_isi6, q_isi7, q_isi8, q_isi9, q_lent, q_lenf, q_inti, q_intb, q_abs, q_max, q_min, q_tupt, q_listt, q_sl, q_slf, Bool.not_true, Bool.not_false, Bool.true_and, Bool.and_true, Bool.false_and, Bool.false_or, Bool.or_false, Bool.true_or, if_true, if_false, line, pick, Option.toList, q_alloc, q_itt, q_itf, q_compt, q_compf, q_tupnew, Nat.reduceAdd, Nat.reduceLeDiff, Nat.zero_add, Bool.false_eq_true, hw', x1, x2, c1, c2, c3]
      exact ⟨rfl, _, _, rfl⟩
    · rintro fr m ⟨rfl, e, f, rfl⟩
      simp only [frameM, x_seq, x_skip, x_exp, x_asg, x_asgS, x_ret, x_retn, x_ite, x_whl, x_forr, x_brk, x_cnt, x_rse, n_nx, n_rt, n_bk, n_ct, n_exc, n_ite, loopV_t, loopV_f, ev, asgX, asgM, wipeM, varsOf, List.map_cons, List.map_nil, List.length_cons, List.length_nil, List.replicate, List.cons_append, List.nil_append, List.append_nil, List.getElem?_cons_zero, List.getElem?_cons_succ, List.set_cons_zero, List.set_cons_succ, Option.bind_some, q_bind, q_bindx, q_bool, q_tups, q_toS, q_toSx, q_some, q_and, q_or, q_cm, q_finr, q_finn, q_finx, q_trub, q_trui, q_trun, q_map, q_add, q_sub, q_lt, q_le, q_gt, q_ge, q_eqi, q_nei, q_eqs, q_nes, q_isnn, q_isni, q_isnt, q_isnr, q_notnn, q_notni, q_notnt, q_notnr, q_eqt, q_net, q_isi1, q_isi2, q_isi3, q_isi4, q_isi5, q_isi6, q_isi7, q_isi8, q_isi9, q_lent, q_lenf, q_inti, q_intb, q_abs, q_max, q_min, q_tupt, q_listt, q_sl, q_slf, Bool.not_true, Bool.not_false, Bool.true_and, Bool.and_true, Bool.false_and, Bool.false_or, Bool.or_false, Bool.true_or, if_true, if_false, line, pick, Option.toList, q_alloc, q_itt, q_itf, q_compt, q_compf, q_tupnew, Nat.reduceAdd, Nat.reduceLeDiff, Nat.zero_add, Bool.false_eq_true, q_itr eL6]
      rw [compR_map (e := pr w) (fun p => (aft w p).map ofInts) eL6 (by unfold line; omega) (fun p hp => by
        obtain ⟨v, hv⟩ := placesI_mem hp
        refine ⟨_, rfl, ?_⟩
        simp only [frameM, x_seq, x_skip, x_exp, x_asg, x_asgS, x_ret, x_retn, x_ite, x_whl, x_forr, x_brk, x_cnt, x_rse, n_nx, n_rt, n_bk, n_ct, n_exc, n_ite, loopV_t, loopV_f, ev, asgX, asgM, wipeM, varsOf, List.map_cons, List.map_nil, List.length_cons, List.length_nil, List.replicate, List.cons_append, List.nil_append, List.append_nil, List.getElem?_cons_zero, List.getElem?_cons_succ, List.set_cons_zero, List.set_cons_succ, Option.bind_some, q_bind, q_bindx, q_bool, q_tups, q_toS, q_toSx, q_some, q_and, q_or, q_cm, q_finr, q_finn, q_finx, q_trub, q_trui, q_trun, q_map, q_add, q_sub, q_lt, q_le, q_gt, q_ge, q_eqi, q_nei, q_eqs, q_nes, q_isnn, q_isni, q_isnt, q_isnr, q_notnn, q_notni, q_notnt, q_notnr, q_eqt, q_net, q_isi1, q_isi2, q_isi3, q_isi4, q_isi5, q_isi6, q_isi7, q_isi8, q_isi9, q_lent, q_lenf, q_inti, q_intb, q_abs, q_max, q_min, q_tupt, q_listt, q_sl, q_slf, Bool.not_true, Bool.not_false, Bool.true_and, Bool.and_true, Bool.false_and, Bool.false_or, Bool.or_false, Bool.true_or, if_true, if_false, line, pick, Option.toList, q_alloc, q_itt, q_itf, q_compt, q_compf, q_tupnew, Nat.reduceAdd, Nat.reduceLeDiff, Nat.zero_add, Bool.false_eq_true]
        rw [hv]; rfl)]
      have hk : ∀ k ∈ (placesI w).filterMap (fun p => aft w p), k.length = w.length ∧ k.all letterB = true := fun k hk => by
        obtain ⟨p, hp, e⟩ := List.mem_filterMap.mp hk
        obtain ⟨_, h2, h3⟩ := aft_props e
        exact ⟨h2, all_perm h3 (by unfold wordB at hwb; rw [Bool.and_eq_true] at hwb; exact hwb.2)⟩
      have hev : evenB ((placesI w).filterMap fun p => aft w p) = true := by
        cases q : (placesI w).filterMap (fun p => aft w p) with
        | nil => rfl
        | cons k r =>
          rw [← q]
          have : k ∈ (placesI w).filterMap (fun p => aft w p) := by rw [q]; exact List.mem_cons_self ..
          obtain ⟨p, hp, e⟩ := List.mem_filterMap.mp this
          obtain ⟨h1, _, _⟩ := aft_props e
          exact evenB_of (d := w.length) (by omega) fun k h => ⟨(hk k h).1, bd_of_letters (hk k h).2⟩
      have hl2 : ((placesI w).filterMap fun p => aft w p).length < 64 := Nat.lt_of_le_of_lt (List.length_filterMap_le _ _) (by omega)
      have hfm : (placesI w).filterMap (fun p => (aft w p).map ofInts) = ((placesI w).filterMap fun p => aft w p).map ofInts := by
        rw [List.map_filterMap]
      rw [hfm]
      simp only [frameM, x_seq, x_skip, x_exp, x_asg, x_asgS, x_ret, x_retn, x_ite, x_whl, x_forr, x_brk, x_cnt, x_rse, n_nx, n_rt, n_bk, n_ct, n_exc, n_ite, loopV_t, loopV_f, ev, asgX, asgM, wipeM, varsOf, List.map_cons, List.map_nil, List.length_cons, List.length_nil, List.replicate, List.cons_append, List.nil_append, List.append_nil, List.getElem?_cons_zero, List.getElem?_cons_succ, List.set_cons_zero, List.set_cons_succ, Option.bind_some, q_bind, q_bindx, q_bool, q_tups, q_toS, q_toSx, q_some, q_and, q_or, q_cm, q_finr, q_finn, q_finx, q_trub, q_trui, q_trun, q_map, q_add, q_sub, q_lt, q_le, q_gt, q_ge, q_eqi, q_nei, q_eqs, q_nes, q_isnn, q_isni, q_isnt, q_isnr, q_notnn, q_notni, q_notnt, q_notnr, q_eqt, q_net, q_isi1, q_isi2, q_isi3, q_isi4, q_isi5, q_isi6, q_isi7, q_isi8, q_isi9, q_lent, q_lenf, q_inti, q_intb, q_abs, q_max, q_min, q_tupt, q_listt, q_sl, q_slf, Bool.not_true, Bool.not_false, Bool.true_and, Bool.and_true, Bool.false_and, Bool.false_or, Bool.or_false, Bool.true_or, if_true, if_false, line, pick, Option.toList, q_alloc, q_itt, q_itf, q_compt, q_compf, q_tupnew, Nat.reduceAdd, Nat.reduceLeDiff, Nat.zero_add, Bool.false_eq_true, q_sortSet (q_new _ _) hev hl2]
      have hbs : sortK ((placesI w).filterMap fun p => aft w p) = besideI w := rfl
      rw [hbs]
      have g7 : Gr m (m ++ [Mo.lst (((placesI w).filterMap fun p => aft w p).map ofInts)] ++ [Mo.lst ((besideI w).map ofInts)]) := (Gr.app _ _).trans (Gr.app _ _)
      generalize m ++ [Mo.lst (((placesI w).filterMap fun p => aft w p).map ofInts)] ++ [Mo.lst ((besideI w).map ofInts)] = m7 at g7 ⊢
      obtain ⟨v8, m8, e8, rfl, g8⟩ := ok_of_wp (hn w m7 hwb)
      obtain ⟨v9, m9, e9, rfl, g9⟩ := ok_of_wp (hn w m8 hwb)
      have hs : ∀ k ∈ besideI w, k.length ≤ 100 ∧ ∀ y ∈ k, y.natAbs < 10 ^ 18 := fun k hk2 => by
        have := hk k ((sortK_mem _ k).mp hk2)
        refine ⟨by omega, fun y hy => ?_⟩
        have := List.all_eq_true.mp this.2 y hy
        unfold letterB at this
        simp at this
        omega
      have hlb : (besideI w).length ≤ 1000 := by
        have h1 : ∀ l : List (List Int), (sortK l).length ≤ l.length := fun l => by
          induction l with
          | nil => exact Nat.le_refl _
          | cons a l ih =>
            have h2 : ∀ l : List (List Int), (insK a l).length ≤ l.length + 1 := fun l => by
              induction l with
              | nil => exact Nat.le_refl _
              | cons b l ih =>
                unfold insK
                split
                · simp
                · split <;> simp <;> omega
            exact Nat.le_trans (h2 _) (by simp; omega)
        exact Nat.le_trans (h1 _) (by omega)
      have r3 := repr_words (q_new m9 (.lst [.tup ((besideI w).map ofInts), .tup ((besideI w).map ofInts)])) hs hlb
      have r4 := repr_words (q_new (m9 ++ [.lst [.tup ((besideI w).map ofInts), .tup ((besideI w).map ofInts)]]) (.lst [.tup ((besideI w).map ofInts), .tup ((besideI w).map ofInts)])) hs hlb
      have hw' : Mv.tup (w.map .int) = ofInts w := rfl
      simp only [frameM, x_seq, x_skip, x_exp, x_asg, x_asgS, x_ret, x_retn, x_ite, x_whl, x_forr, x_brk, x_cnt, x_rse, n_nx, n_rt, n_bk, n_ct, n_exc, n_ite, loopV_t, loopV_f, ev, asgX, asgM, wipeM, varsOf, List.map_cons, List.map_nil, List.length_cons, List.length_nil, List.replicate, List.cons_append, List.nil_append, List.append_nil, List.getElem?_cons_zero, List.getElem?_cons_succ, List.set_cons_zero, List.set_cons_succ, Option.bind_some, q_bind, q_bindx, q_bool, q_tups, q_toS, q_toSx, q_some, q_and, q_or, q_cm, q_finr, q_finn, q_finx, q_trub, q_trui, q_trun, q_map, q_add, q_sub, q_lt, q_le, q_gt, q_ge, q_eqi, q_nei, q_eqs, q_nes, q_isnn, q_isni, q_isnt, q_isnr, q_notnn, q_notni, q_notnt, q_notnr, q_eqt, q_net, q_isi1, q_isi2, q_isi3, q_isi4, q_isi5, q_isi6, q_isi7, q_isi8, q_isi9, q_lent, q_lenf, q_inti, q_intb, q_abs, q_max, q_min, q_tupt, q_listt, q_sl, q_slf, Bool.not_true, Bool.not_false, Bool.true_and, Bool.and_true, Bool.false_and, Bool.false_or, Bool.or_false, Bool.true_or, if_true, if_false, line, pick, Option.toList, q_alloc, q_itt, q_itf, q_compt, q_compf, q_tupnew, Nat.reduceAdd, Nat.reduceLeDiff, Nat.zero_add, Bool.false_eq_true, hw', e8, e9, r3, r4, decide_true]
      have gr : Gr m1 (m9 ++ [Mo.lst [Mv.tup ((besideI w).map ofInts), Mv.tup ((besideI w).map ofInts)]] ++ [Mo.lst [Mv.tup ((besideI w).map ofInts), Mv.tup ((besideI w).map ofInts)]]) := ((((((g2.trans g5).trans g7).trans g8).trans g9).trans (Gr.app _ _)).trans (Gr.app _ _))
      exact ⟨j1.gr gr, (um.trans u1).trans (.of_gr gr), _, _, _, _, _, _, rfl⟩
  · rintro fr m ⟨jm, um, a, b, c, d, e, f, rfl⟩
    simp only [frameM, x_seq, x_skip, x_exp, x_asg, x_asgS, x_ret, x_retn, x_ite, x_whl, x_forr, x_brk, x_cnt, x_rse, n_nx, n_rt, n_bk, n_ct, n_exc, n_ite, loopV_t, loopV_f, ev, asgX, asgM, wipeM, varsOf, List.map_cons, List.map_nil, List.length_cons, List.length_nil, List.replicate, List.cons_append, List.nil_append, List.append_nil, List.getElem?_cons_zero, List.getElem?_cons_succ, List.set_cons_zero, List.set_cons_succ, Option.bind_some, q_bind, q_bindx, q_bool, q_tups, q_toS, q_toSx, q_some, q_and, q_or, q_cm, q_finr, q_finn, q_finx, q_trub, q_trui, q_trun, q_map, q_add, q_sub, q_lt, q_le, q_gt, q_ge, q_eqi, q_nei, q_eqs, q_nes, q_isnn, q_isni, q_isnt, q_isnr, q_notnn, q_notni, q_notnt, q_notnr, q_eqt, q_net, q_isi1, q_isi2, q_isi3, q_isi4, q_isi5, q_isi6, q_isi7, q_isi8, q_isi9, q_lent, q_lenf, q_inti, q_intb, q_abs, q_max, q_min, q_tupt, q_listt, q_sl, q_slf, Bool.not_true, Bool.not_false, Bool.true_and, Bool.and_true, Bool.false_and, Bool.false_or, Bool.or_false, Bool.true_or, if_true, if_false, line, pick, Option.toList, q_alloc, q_itt, q_itf, q_compt, q_compf, q_tupnew, Nat.reduceAdd, Nat.reduceLeDiff, Nat.zero_add, Bool.false_eq_true]
    exact ⟨rfl, um⟩
theorem ok_law (G : Sg) (hj : SpJar G) (hr : ∀ (n : Nat) (h : Mh), Jar n h → (G.ph "_law_right" [.ref n] h).wp fun v m => v = .bl true ∧ Up n h m) (ns : List Int) (hl : ns.length ≤ 63) : (runM G 2 b_law [.frl (ns.map .int)] []).wp fun v _ => v = .bl true := by
  unfold runM b_law
  obtain ⟨z, hz, hz1⟩ : ∃ z : Int, (if (if (5 : Int) < (ns.length : Int) then (5 : Int) else (ns.length : Int)) > 2 then (if (5 : Int) < (ns.length : Int) then (5 : Int) else (ns.length : Int)) else 2) = z ∧ (0 ≤ z ∧ z < 100) := ⟨_, rfl, by split <;> split <;> omega⟩
  simp only [frameM, x_seq, x_skip, x_exp, x_asg, x_asgS, x_ret, x_retn, x_ite, x_whl, x_forr, x_brk, x_cnt, x_rse, n_nx, n_rt, n_bk, n_ct, n_exc, n_ite, loopV_t, loopV_f, ev, asgX, asgM, wipeM, varsOf, List.map_cons, List.map_nil, List.length_cons, List.length_nil, List.replicate, List.cons_append, List.nil_append, List.append_nil, List.getElem?_cons_zero, List.getElem?_cons_succ, List.set_cons_zero, List.set_cons_succ, Option.bind_some, q_bind, q_bindx, q_bool, q_tups, q_toS, q_toSx, q_some, q_and, q_or, q_cm, q_finr, q_finn, q_finx, q_trub, q_trui, q_trun, q_map, q_add, q_sub, q_lt, q_le, q_gt, q_ge, q_eqi, q_nei, q_eqs, q_nes, q_isnn, q_isni, q_isnt, q_isnr, q_notnn, q_notni, q_notnt, q_notnr, q_eqt, q_net, q_isi1, q_isi2, q_isi3, q_isi4, q_isi5, q_isi6, q_isi7, q_isi8, q_isi9, q_lent, q_lenf, q_inti, q_intb, q_abs, q_max, q_min, q_tupt, q_listt, q_sl, q_slf, Bool.not_true, Bool.not_false, Bool.true_and, Bool.and_true, Bool.false_and, Bool.false_or, Bool.or_false, Bool.true_or, if_true, if_false, line, pick, Option.toList, q_alloc, q_itt, q_itf, q_compt, q_compf, q_tupnew, Nat.reduceAdd, Nat.reduceLeDiff, Nat.zero_add, Bool.false_eq_true, List.length_map, hz, q_rng (j := z) ⟨hz1.1, by omega⟩, List.length_range]
  rw [if_pos (by omega)]
  generalize hq : compL _ (C.var 1) _ _ _ = q
  have hc : q.wp (fun ys _ => ys = (List.replicate z.toNat true).map Mv.bl) := by
    rw [← hq]
    refine compL_wp (fun k acc m => acc = (List.replicate k true).map Mv.bl) _ 0 [] [] ?_ rfl ?_
    · rintro i x acc m ei rfl
      obtain ⟨hi, rfl⟩ := rng_get ei
      obtain ⟨v1, m1, e1, n, rfl, j1, g1⟩ := ok_of_wp (hj ns i m (by omega))
      obtain ⟨v2, m2, e2, rfl, u2⟩ := ok_of_wp (hr n m1 j1)
      refine ⟨_, rfl, ?_⟩
      simp only [frameM, x_seq, x_skip, x_exp, x_asg, x_asgS, x_ret, x_retn, x_ite, x_whl, x_forr, x_brk, x_cnt, x_rse, n_nx, n_rt, n_bk, n_ct, n_exc, n_ite, loopV_t, loopV_f, ev, asgX, asgM, wipeM, varsOf, List.map_cons, List.map_nil, List.length_cons, List.length_nil, List.replicate, List.cons_append, List.nil_append, List.append_nil, List.getElem?_cons_zero, List.getElem?_cons_succ, List.set_cons_zero, List.set_cons_succ, Option.bind_some, q_bind, q_bindx, q_bool, q_tups, q_toS, q_toSx, q_some, q_and, q_or, q_cm, q_finr, q_finn, q_finx, q_trub, q_trui, q_trun, q_map, q_add, q_sub, q_lt, q_le, q_gt, q_ge, q_eqi, q_nei, q_eqs, q_nes, q_isnn, q_isni, q_isnt, q_isnr, q_notnn, q_notni, q_notnt, q_notnr, q_eqt, q_net, q_isi1, q_isi2, q_isi3, q_isi4, q_isi5, q_isi6, q_isi7, q_isi8, q_isi9, q_lent, q_lenf, q_inti, q_intb, q_abs, q_max, q_min, q_tupt, q_listt, q_sl, q_slf, Bool.not_true, Bool.not_false, Bool.true_and, Bool.and_true, Bool.false_and, Bool.false_or, Bool.or_false, Bool.true_or, if_true, if_false, line, pick, Option.toList, q_alloc, q_itt, q_itf, q_compt, q_compf, q_tupnew, Nat.reduceAdd, Nat.reduceLeDiff, Nat.zero_add, Bool.false_eq_true, e1, e2]
      show (List.replicate i true).map Mv.bl ++ [Mv.bl true] = (List.replicate (i + 1) true).map Mv.bl
      rw [List.replicate_succ', List.map_append]; rfl
    · rintro ys m h
      simp only [List.length_map, List.length_range, List.nil_append, Nat.zero_add] at h
      exact h
  cases q with
  | ok ys m =>
    have hc' : ys = (List.replicate z.toNat true).map Mv.bl := hc
    subst hc'
    simp only [frameM, x_seq, x_skip, x_exp, x_asg, x_asgS, x_ret, x_retn, x_ite, x_whl, x_forr, x_brk, x_cnt, x_rse, n_nx, n_rt, n_bk, n_ct, n_exc, n_ite, loopV_t, loopV_f, ev, asgX, asgM, wipeM, varsOf, List.map_cons, List.map_nil, List.length_cons, List.length_nil, List.replicate, List.cons_append, List.nil_append, List.append_nil, List.getElem?_cons_zero, List.getElem?_cons_succ, List.set_cons_zero, List.set_cons_succ, Option.bind_some, q_bind, q_bindx, q_bool, q_tups, q_toS, q_toSx, q_some, q_and, q_or, q_cm, q_finr, q_finn, q_finx, q_trub, q_trui, q_trun, q_map, q_add, q_sub, q_lt, q_le, q_gt, q_ge, q_eqi, q_nei, q_eqs, q_nes, q_isnn, q_isni, q_isnt, q_isnr, q_notnn, q_notni, q_notnt, q_notnr, q_eqt, q_net, q_isi1, q_isi2, q_isi3, q_isi4, q_isi5, q_isi6, q_isi7, q_isi8, q_isi9, q_lent, q_lenf, q_inti, q_intb, q_abs, q_max, q_min, q_tupt, q_listt, q_sl, q_slf, Bool.not_true, Bool.not_false, Bool.true_and, Bool.and_true, Bool.false_and, Bool.false_or, Bool.or_false, Bool.true_or, if_true, if_false, line, pick, Option.toList, q_alloc, q_itt, q_itf, q_compt, q_compf, q_tupnew, Nat.reduceAdd, Nat.reduceLeDiff, Nat.zero_add, Bool.false_eq_true, q_allnew]
    show Mv.bl ((List.replicate z.toNat true).all id) = .bl true
    rw [List.all_replicate]; simp
  | exc c p m => exact hc.elim
  | err => exact hc.elim
/-! ### the levels -/
theorem l_between (j : Nat) : SpBetween (tx.G (j + 1)) := fun v a b h => ok_is_between (tx.G j) v a b h
theorem l_letter (j : Nat) : SpLetter (tx.G (j + 2)) := fun v h => ok_is_letter (tx.G (j + 1)) (l_between j) rfl v h
theorem l_wrong (j : Nat) : SpWrong (tx.G (j + 3)) := fun w h => ok_wrong_letter (tx.G (j + 2)) (l_letter j) w h
theorem l_check (j : Nat) : SpCheck (tx.G (j + 4)) := fun w h hv => ok_check_word (tx.G (j + 3)) (l_wrong j) rfl w h hv
theorem l_after (j : Nat) : SpAfter (tx.G (j + 1)) := fun w p h h1 h2 => ok_after_exchange (tx.G j) w p h h1 h2
theorem l_has (j : Nat) : SpHas (tx.G (j + 2)) := fun w p h h1 h2 => ok_has_exchange (tx.G (j + 1)) (l_between j) (l_after j) w p h h1 h2
theorem l_exchanged (j : Nat) : SpExchanged (tx.G (j + 5)) := fun w v p h h1 h2 h3 => ok_exchanged (tx.G (j + 4)) (l_check j) (l_has (j + 2)) (l_after (j + 3)) w v p h h1 h2 h3
theorem l_all (j : Nat) : SpAll (tx.G (j + 2)) := fun w h hl => ok_all_places (tx.G (j + 1)) (l_after j) w h hl
theorem l_places (j : Nat) : SpPlaces (tx.G (j + 5)) := fun w h hw => ok_places_of (tx.G (j + 4)) (l_check j) (l_all (j + 2)) w h hw
theorem l_words (j : Nat) : SpBeside (tx.G (j + 3)) := fun w h hw => ok_words_beside (tx.G (j + 2)) (l_after (j + 1)) (l_all j) w h hw
theorem l_neigh (j : Nat) : SpNeigh (tx.G (j + 5)) := fun w h hw => ok_neighbours (tx.G (j + 4)) (l_check j) (l_words (j + 1)) w h hw
theorem l_jar (j : Nat) : SpJar (tx.G (j + 1)) := fun ns k h hk => ok_jar (tx.G j) ns k h hk
theorem l_spoon (j : Nat) : SpSpoon (tx.G (j + 1)) := fun n many h h1 h2 => ok_spoon (tx.G j) n many h h1 h2
theorem l_one (j : Nat) : SpOne (tx.G (j + 2)) := fun n k xs h h1 h2 h3 h4 => ok_one (tx.G (j + 1)) (l_spoon j) n k xs h h1 h2 h3 h4
theorem l_word (j : Nat) (n : Nat) (h : Mh) (hj : Jar n h) : ((tx.G (j + 3)).ph "_law_word" [.ref n, .int 40] h).wp fun v m => ∃ w, v = ofInts w ∧ goodW 40 w ∧ Jar n m ∧ Up n h m :=
  ok_word (tx.G (j + 2)) (l_spoon (j + 1)) (l_one j) n 40 h hj (by omega)
theorem l_la (j : Nat) : SpLA (tx.G (j + 1)) := fun w p h h1 h2 => ok_law_after (tx.G j) w p h h1 h2
theorem l_lb (j : Nat) : SpLB (tx.G (j + 2)) := fun w h h1 => ok_law_beside (tx.G (j + 1)) (l_la j) w h h1
theorem l_right (n : Nat) (h : Mh) (hj : Jar n h) : ((tx.G 6).ph "_law_right" [.ref n] h).wp fun v m => v = .bl true ∧ Up n h m :=
  ok_right (tx.G 5) (l_word 2) (l_lb 3) (l_places 0) (l_exchanged 0) (l_neigh 0) n h hj
theorem law_true (ns : List Int) (hl : ns.length ≤ 63) : ∃ m, (tx.G 7).ph "law" [.frl (ns.map .int)] [] = .ok (.bl true) m := by
  obtain ⟨v, m, e, rfl⟩ := ok_of_wp (show ((tx.G 7).ph "law" [.frl (ns.map .int)] []).wp (fun v _ => v = .bl true) from ok_law (tx.G 6) (l_jar 5) l_right ns hl)
  exact ⟨m, e⟩
end K03

open PySem PySem.W PyProof.Rows in
set_option maxHeartbeats 0 in
theorem PySem.Challenge.cw_plactic_k03_whole_exchanges_holds : PySem.Challenge.rw_plactic_k03_whole_exchanges.Holds := by
  w_on; o_law; k_head; (case hw => w_witness2)
  k_fill
  refine MP.walk_ofG (l := PySem.Challenge.rw_plactic_k03_whole_exchanges) (n := 63) (k := 14) (x := "_law_script") (sp := fun T => MP.spF T 1 ((K03.tx.G 7).ph "law")) rfl (by decide) rfl ⟨rfl, by decide, by decide⟩ (fun w h Y => PySem.W.kIn_of Y) ?F (fun _ _ _ _ _ _ ns hl hO hS => MP.law_end (l := PySem.Challenge.rw_plactic_k03_whole_exchanges) hO hS (K03.law_true ns hl))
  case F =>
    intro w mg fa h KX G hmg
    refine' K03.all_mk KX G hmg ?a0 ?l0 ?c0 ?k0 ?a1 ?l1 ?c1 ?k1 ?a2 ?l2 ?c2 ?k2 ?a3 ?l3 ?c3 ?k3 ?a4 ?l4 ?c4 ?k4 ?a5 ?l5 ?c5 ?k5 ?a6 ?l6 ?c6 ?k6 ?a7 ?l7 ?c7 ?k7 ?a8 ?l8 ?c8 ?k8 ?a9 ?l9 ?c9 ?k9 ?a10 ?l10 ?c10 ?k10 ?a11 ?l11 ?c11 ?k11 ?a12 ?l12 ?c12 ?k12 ?a13 ?l13 ?c13 ?k13 ?a14 ?l14 ?c14 ?k14 ?a15 ?l15 ?c15 ?k15 ?a16 ?l16 ?c16 ?k16 ?a17 ?l17 ?c17 ?k17 ?a18 ?l18 ?c18 ?k18 ?v0 ?v1 ?z0 ?z1 ?z2 ?z3 ?z4 ?z5 ?z6 ?z7 ?z8 ?z9 ?z10 ?z11 ?z12 ?z13 ?z14 ?e1_0 ?e2_0 ?e3_0 ?e4_0 ?e5_0 ?e6_0 ?e7_0 ?e8_0 ?e9_0 ?ea_0 ?eb_0 ?ec_0 ?ed_0 ?ee_0 ?ef_0 ?e1_1 ?e2_1 ?e3_1 ?e4_1 ?e5_1 ?e6_1 ?e7_1 ?e8_1 ?e9_1 ?ea_1 ?eb_1 ?ec_1 ?ed_1 ?ee_1 ?ef_1
    (case a0 => k_is); (case l0 => k_is); (case c0 => k_is); (case k0 => k_is); (case a1 => k_is); (case l1 => k_is); (case c1 => k_is); (case k1 => k_is); (case a2 => k_is); (case l2 => k_is); (case c2 => k_is); (case k2 => k_is); (case a3 => k_is); (case l3 => k_is); (case c3 => k_is); (case k3 => k_is); (case a4 => k_is); (case l4 => k_is); (case c4 => k_is); (case k4 => k_is); (case a5 => k_is); (case l5 => k_is); (case c5 => k_is); (case k5 => k_is); (case a6 => k_is); (case l6 => k_is); (case c6 => k_is); (case k6 => k_is); (case a7 => k_is); (case l7 => k_is); (case c7 => k_is); (case k7 => k_is); (case a8 => k_is); (case l8 => k_is); (case c8 => k_is); (case k8 => k_is); (case a9 => k_is); (case l9 => k_is); (case c9 => k_is); (case k9 => k_is); (case a10 => k_is); (case l10 => k_is); (case c10 => k_is); (case k10 => k_is); (case a11 => k_is); (case l11 => k_is); (case c11 => k_is); (case k11 => k_is); (case a12 => k_is); (case l12 => k_is); (case c12 => k_is); (case k12 => k_is); (case a13 => k_is); (case l13 => k_is); (case c13 => k_is); (case k13 => k_is); (case a14 => k_is); (case l14 => k_is); (case c14 => k_is); (case k14 => k_is); (case a15 => k_is); (case l15 => k_is); (case c15 => k_is); (case k15 => k_is); (case a16 => k_is); (case l16 => k_is); (case c16 => k_is); (case k16 => k_is); (case a17 => k_is); (case l17 => k_is); (case c17 => k_is); (case k17 => k_is); (case a18 => k_is); (case l18 => k_is); (case c18 => k_is); (case k18 => k_is); (case v0 => k_is); (case v1 => k_is); (case z0 => k_is); (case z1 => k_is); (case z2 => k_is); (case z3 => k_is); (case z4 => k_is); (case z5 => k_is); (case z6 => k_is); (case z7 => k_is); (case z8 => k_is); (case z9 => k_is); (case z10 => k_is); (case z11 => k_is); (case z12 => k_is); (case z13 => k_is); (case z14 => k_is); (case e1_0 => k_is); (case e2_0 => k_is); (case e3_0 => rfl); (case e4_0 => k_is); (case e5_0 => k_is); (case e6_0 => k_is); (case e7_0 => k_is); (case e8_0 => k_is); (case e9_0 => k_is); (case ea_0 => k_is); (case eb_0 => k_is); (case ec_0 => k_is); (case ed_0 => k_is); (case ee_0 => k_is); (case ef_0 => k_is); (case e1_1 => k_is); (case e2_1 => k_is); (case e3_1 => rfl); (case e4_1 => k_is); (case e5_1 => k_is); (case e6_1 => k_is); (case e7_1 => k_is); (case e8_1 => k_is); (case e9_1 => k_is); (case ea_1 => k_is); (case eb_1 => k_is); (case ec_1 => k_is); (case ed_1 => k_is); (case ee_1 => k_is); (case ef_1 => k_is)
