import PyProof.Rows.All
import Wide.All
import OpenK.AllK
import Wide.FinOn
import KE.KStateDown
import Lean
import HandS.ForMost
import HandS.ForExc
import HandS.ExcInit
import HandS.HeadHook2
import HandS.Flow
import HandS.FStr
import HandS.CallSlots
import HandS.StrMore
import HandS.TupMul
import HandS.Style
import HandS.Defaults
import HandS.ExcOwn
import HandS.Star
import HandS.Property
import HandS.ClsMeth
import HandS.Comp
import HandS.Iter
import HandS.Zip
import HandS.NoneIn
import HandS.MakeKw
import KE.KExcInit
import PyProof.ReprRoads
import HandS.ExcField
import HandS.TryMany
import HandS.IsInst
import HandS.ExcIs
import HandS.HeadHook1
import HandS.HeadHook4
import HandS.Ends
import HandS.EndBits
import HandS.HeadEnd
import HandS.Head0
import HandS.Head1
import HandS.Head2
import PySem.Challenge.RW_indentholes_k69_errors_by_hand
set_option Elab.async false
set_option linter.all false
set_option maxRecDepth 100000
set_option maxHeartbeats 4000000
/-! Ev1: data by value, a store of objects by reference, and how both stand in the layer's heap. -/
namespace Ev
open PySem PySem.Spec L2
open PyProof.Rows hiding St

/-- room for k calls, nothing being shown -/
structure Rm (k : Nat) (A : Around) : Prop where
  r : Room k A
  g : A.guards = some []
theorem Rm.mono {j k : Nat} {A : Around} (h : Rm k A) (l : j ≤ k) : Rm j A := ⟨h.r.mono l, h.g⟩
theorem Rm.units {k : Nat} {A : Around} (h : Rm k A) : A.units + 64 < cLine := by have := h.r.un; omega
theorem Rm.in1 {k : Nat} {A : Around} (h : Rm (k + 1) A) : Rm k A.in1 := ⟨h.r.in1, h.g⟩
theorem Rm.make {k : Nat} {A : Around} (h : Rm (k + 1) A) (C : Addr) (us : List Value) (kw : List (Str × Value)) : Rm k (A.under (.builtin "type.__call__" ⟨.ref C :: us, kw⟩)) :=
  ⟨h.r.make C us kw, by have e : (A.under (.builtin "type.__call__" ⟨.ref C :: us, kw⟩)).guards = A.guards := by { first | rfl | simp [Around.under, Code.weight, Code.isCreation, Code.isGuard, Code.isCaller, Code.frames, Code.isFrame, guardIds] }
                        rw [e]; exact h.g⟩
/-- the program's classes, by numbers -/
def cnames : List Str := ["Block", "Program", "Outline", "Desk", "BadLine", "BadAmount", "BadName", "BadTag", "BadEach", "Twice", "Shallow", "NoResult", "BadIndent", "NoFrame", "BadFilling", "Unlike", "MayFail", "BadMend", "NotPlain", "OtherNames", "BadProgram", "BadCommand",
  "NoLine", "NoNode", "NoPart", "NoPlace", "NoShift", "NoHole", "Unfilled", "TooMany"]
def cn (n : Nat) : Str := cnames.getD n ""
/-- where a class stands -/
abbrev ca (K : PySem.W.Frag) (n : Nat) : Addr := He.ga K (cn n)
/-- a value of the program, without addresses: lists, tuples, dicts, instances by value; box n: the n-th object of the store -/
inductive D where
  | non | bl (b : Bool) | int (i : Int) | str (x : Str) | ty (n : String) | gl (a : Nat)
  | tup (xs : List D) | lst (xs : List D) | dK (kvs : List (Key × D)) | ins (C : Nat) (fs : List (Str × D)) | fro (xs : List D) | box (n : Nat)
  | exi (C : Nat) (fs : List (Str × D)) | xc (a dd : Nat) (C : Nat) (fs : List (Str × D))

/-- an object of the store -/
inductive SO where
  | lst (xs : List D) | dK (kvs : List (Key × D)) | ins (C : Nat) (fs : List (Str × D))
abbrev Sto := List (Option SO)

/-- where data are read: the written part, the heap, which addresses belong to the store, the store's addresses -/
structure RC where
  K : PySem.W.Frag
  H : Hp
  live : Addr → Prop
  m : List Addr

/-- a list that may be read by value -/
def LR (c : RC) (a : Addr) (xs : List V) : Prop := c.H a = some (.lst xs) ∧ ¬ c.live a
/-- .. frozen, or of the written part -/
def FR (c : RC) (a : Addr) (xs : List V) : Prop :=
  (Rd c.H a (.lst xs) ∧ ¬ c.live a) ∨ ∀ H, SqL c.K H a xs
def TR (c : RC) (a : Addr) (xs : List V) : Prop :=
  (Rd c.H a (.tup xs) ∧ ¬ c.live a) ∨ ∀ H, SqT c.K H a xs

mutual
inductive RV (c : RC) : D → V → Prop
  | non : RV c .non .non
  | bl (b) : RV c (.bl b) (.bl b)
  | int (i) : RV c (.int i) (.int i)
  | str (x) : RV c (.str x) (.str x)
  | ty (n) : RV c (.ty n) (.ty n)
  | gl (a) : RV c (.gl a) (.ref (ca c.K a))
  | tup {a xs ds} : TR c a xs → RVs c ds xs → RV c (.tup ds) (.ref a)
  | lst {a xs ds} : LR c a xs → RVs c ds xs → RV c (.lst ds) (.ref a)
  | fro {a xs ds} : FR c a xs → RVs c ds xs → RV c (.fro ds) (.ref a)
  | dK {a kvs kds} : c.H a = some (.dK kvs) → ¬ c.live a → RVk c kds kvs → RV c (.dK kds) (.ref a)
  | ins {a C dx fs fds} : c.H a = some (.ins (ca c.K C) dx fs) → ¬ c.live a → RVf c fds fs → RV c (.ins C fds) (.ref a)
  | box {n a} : c.m[n]? = some a → RV c (.box n) (.ref a)
  | exi {a C dx fs fds} : c.H a = some (exo a (ca c.K C) (some dx)) → ¬ c.live a → c.H dx = some (exd dx fs) → ¬ c.live dx → RVf c fds fs → RV c (.exi C fds) (.ref a)
  | xc {a dd C fs fds} : c.H dd = some (.xd fs) → ¬ c.live dd → RVf c fds fs → RV c (.xc a dd C fds) (.ref a)
inductive RVs (c : RC) : List D → List V → Prop
  | nil : RVs c [] []
  | cons {d v ds vs} : RV c d v → RVs c ds vs → RVs c (d :: ds) (v :: vs)
inductive RVk (c : RC) : List (Key × D) → List (Key × V) → Prop
  | nil : RVk c [] []
  | cons {k d v ds vs} : RV c d v → RVk c ds vs → RVk c ((k, d) :: ds) ((k, v) :: vs)
inductive RVf (c : RC) : List (Str × D) → List (Str × V) → Prop
  | nil : RVf c [] []
  | cons {k d v ds vs} : RV c d v → RVf c ds vs → RVf c ((k, d) :: ds) ((k, v) :: vs)
end

/-- c' keeps what c tells of data -/
structure RC.Le (c c' : RC) : Prop where
  k : c'.K = c.K
  stay : ∀ a o, c.H a = some o → ¬ c.live a → c'.H a = some o ∧ ¬ c'.live a
  m : ∃ t, c'.m = c.m ++ t
theorem RC.Le.refl (c : RC) : c.Le c := ⟨rfl, fun _ _ h n => ⟨h, n⟩, [], by simp⟩
theorem RC.Le.trans {a b c : RC} (x : a.Le b) (y : b.Le c) : a.Le c := by
  obtain ⟨t, ht⟩ := x.m
  obtain ⟨u, hu⟩ := y.m
  exact ⟨y.k.trans x.k, fun e o h n => let ⟨h', n'⟩ := x.stay e o h n; y.stay e o h' n', t ++ u, by rw [hu, ht, List.append_assoc]⟩
section
variable {c c' : RC}
theorem RC.Le.rd (l : c.Le c') {a : Addr} {u : HO} (h : Rd c.H a u) (n : ¬ c.live a) : Rd c'.H a u ∧ ¬ c'.live a := by
  rcases h with h | ⟨o, h⟩
  · exact ⟨.inl (l.stay a _ h n).1, (l.stay a _ h n).2⟩
  · exact ⟨.inr ⟨o, (l.stay a _ h n).1⟩, (l.stay a _ h n).2⟩
theorem RC.Le.lr (l : c.Le c') {a : Addr} {xs : List V} (h : LR c a xs) : LR c' a xs := l.stay a _ h.1 h.2
theorem RC.Le.fr (l : c.Le c') {a : Addr} {xs : List V} (h : FR c a xs) : FR c' a xs := by
  rcases h with ⟨h, n⟩ | h
  · exact .inl (l.rd h n)
  · exact .inr fun H => by rw [l.k]; exact h H
theorem RC.Le.tr (l : c.Le c') {a : Addr} {xs : List V} (h : TR c a xs) : TR c' a xs := by
  rcases h with ⟨h, n⟩ | h
  · exact .inl (l.rd h n)
  · exact .inr fun H => by rw [l.k]; exact h H
theorem RC.Le.box (l : c.Le c') {n : Nat} {a : Addr} (h : c.m[n]? = some a) : c'.m[n]? = some a := by
  obtain ⟨t, ht⟩ := l.m
  have hn : n < c.m.length := (List.getElem?_eq_some_iff.mp h).1
  rw [ht, List.getElem?_append_left hn]
  exact h
mutual
theorem RV.le (l : c.Le c') : ∀ {d : D} {v : V}, RV c d v → RV c' d v
  | _, _, .non => .non
  | _, _, .bl b => .bl b
  | _, _, .int i => .int i
  | _, _, .str x => .str x
  | _, _, .ty n => .ty n
  | _, _, .gl a => by rw [← l.k]; exact .gl a
  | _, _, .tup h r => .tup (l.tr h) (RVs.le l r)
  | _, _, .lst h r => .lst (l.lr h) (RVs.le l r)
  | _, _, .fro h r => .fro (l.fr h) (RVs.le l r)
  | _, _, .dK h n r => .dK (l.stay _ _ h n).1 (l.stay _ _ h n).2 (RVk.le l r)
  | _, _, .ins h n r => .ins (by rw [l.k]; exact (l.stay _ _ h n).1) (l.stay _ _ h n).2 (RVf.le l r)
  | _, _, .box h => .box (l.box h)
  | _, _, .exi h n h2 n2 r => .exi (by rw [l.k]; exact (l.stay _ _ h n).1) (l.stay _ _ h n).2 (l.stay _ _ h2 n2).1 (l.stay _ _ h2 n2).2 (RVf.le l r)
  | _, _, .xc h n r => .xc (l.stay _ _ h n).1 (l.stay _ _ h n).2 (RVf.le l r)
theorem RVs.le (l : c.Le c') : ∀ {d : List D} {v : List V}, RVs c d v → RVs c' d v
  | _, _, .nil => .nil
  | _, _, .cons a b => .cons (RV.le l a) (RVs.le l b)
theorem RVk.le (l : c.Le c') : ∀ {d : List (Key × D)} {v : List (Key × V)}, RVk c d v → RVk c' d v
  | _, _, .nil => .nil
  | _, _, .cons a b => .cons (RV.le l a) (RVk.le l b)
theorem RVf.le (l : c.Le c') : ∀ {d : List (Str × D)} {v : List (Str × V)}, RVf c d v → RVf c' d v
  | _, _, .nil => .nil
  | _, _, .cons a b => .cons (RV.le l a) (RVf.le l b)
end
end

/-! ### the store in the heap -/
def Live (S : Sto) (m : List Addr) (a : Addr) : Prop := ∃ (n : Nat) (so : SO), S[n]? = some (some so) ∧ m[n]? = some a
/-- F: the addresses that the frames own -/
abbrev rc (K : PySem.W.Frag) (F : Addr → Prop) (S : Sto) (m : List Addr) (H : Hp) : RC := ⟨K, H, fun a => Live S m a ∨ F a, m⟩
def RO (c : RC) (a : Addr) : SO → Prop
  | .lst ds => ∃ xs, c.H a = some (.lst xs) ∧ RVs c ds xs
  | .dK ds => ∃ xs, c.H a = some (.dK xs) ∧ RVk c ds xs
  | .ins C ds => ∃ dx xs, c.H a = some (.ins (ca c.K C) dx xs) ∧ RVf c ds xs
theorem RO.le {c c' : RC} (l : c.Le c') {a : Addr} (g : ∀ o, c.H a = some o → c'.H a = some o) : ∀ {so : SO}, RO c a so → RO c' a so
  | .lst ds, ⟨xs, h, r⟩ => ⟨xs, g _ h, r.le l⟩
  | .dK ds, ⟨xs, h, r⟩ => ⟨xs, g _ h, r.le l⟩
  | .ins C ds, ⟨dx, xs, h, r⟩ => ⟨dx, xs, by rw [l.k]; exact g _ h, r.le l⟩
structure RS (K : PySem.W.Frag) (F : Addr → Prop) (S : Sto) (m : List Addr) (H : Hp) : Prop where
  len : m.length = S.length
  ob : ∀ (n : Nat) so a, S[n]? = some (some so) → m[n]? = some a → RO (rc K F S m H) a so
  inj : ∀ (n n' : Nat) so so' a, S[n]? = some (some so) → S[n']? = some (some so') → m[n]? = some a → m[n']? = some a → n = n'
  ft : ∀ a, F a → ∃ o, H a = some o
  fd : ∀ a, F a → ¬ Live S m a
/-- behind an expression, a call: all but the store's objects stand -/
structure Le (S : Sto) (m : List Addr) (H : Hp) (S' : Sto) (m' : List Addr) (H' : Hp) : Prop where
  stay : ∀ a o, H a = some o → ¬ Live S m a → H' a = some o ∧ ¬ Live S' m' a
  m : ∃ t, m' = m ++ t
theorem Le.refl (S : Sto) (m : List Addr) (H : Hp) : Le S m H S m H := ⟨fun _ _ h n => ⟨h, n⟩, [], by simp⟩
theorem Le.trans {S S1 S2 : Sto} {m m1 m2 : List Addr} {H H1 H2 : Hp} (x : Le S m H S1 m1 H1) (y : Le S1 m1 H1 S2 m2 H2) : Le S m H S2 m2 H2 := by
  obtain ⟨t, ht⟩ := x.m
  obtain ⟨u, hu⟩ := y.m
  exact ⟨fun e o h n => let ⟨h', n'⟩ := x.stay e o h n; y.stay e o h' n', t ++ u, by rw [hu, ht, List.append_assoc]⟩
theorem Le.rc {K : PySem.W.Frag} {F : Addr → Prop} {S S' : Sto} {m m' : List Addr} {H H' : Hp} (x : Le S m H S' m' H') : (rc K F S m H).Le (rc K F S' m' H') :=
  ⟨rfl, fun a o h n => ⟨(x.stay a o h fun z => n (.inl z)).1, fun z => z.elim (x.stay a o h fun z => n (.inl z)).2 fun z => n (.inr z)⟩, x.m⟩
/-- the slots: a datum, or an object that the frame owns -/
inductive Slot where
  | v (d : D)
  | own (so : SO)
abbrev Env := List (Option Slot)
structure RE (c : RC) (F F0 : Addr → Prop) (ρ : Env) (σ : St) : Prop where
  len : ρ.length = σ.length
  at_ : ∀ (i : Nat) d, ρ[i]? = some (some (.v d)) → ∃ v, σ[i]? = some (some v) ∧ RV c d v
  own_ : ∀ (i : Nat) so, ρ[i]? = some (some (.own so)) → ∃ a, σ[i]? = some (some (.ref a)) ∧ F a ∧ ¬ F0 a ∧ RO c a so
  dist : ∀ (i j : Nat) so so' a, ρ[i]? = some (some (.own so)) → ρ[j]? = some (some (.own so')) → σ[i]? = some (some (.ref a)) → σ[j]? = some (some (.ref a)) → i = j
/-- what a body has: the addresses that its callers' frames own, what is wanted of an exception, the object that is being made (slot 0) -/
structure Wi where
  F0 : Addr → Prop
  w : WX
  me : Option Addr
/-- a state: slots, store, the store's addresses, the frames' objects over the slots' values and the heap -/
structure Sta (K : PySem.W.Frag) (W : Wi) (ρ : Env) (S : Sto) (m : List Addr) (F : Addr → Prop) (σ : St) (H : Hp) : Prop where
  s : RS K F S m H
  e : RE (rc K F S m H) F W.F0 ρ σ
  sub : ∀ a, W.F0 a → F a
  me : ∀ x, W.me = some x → σ[0]? = some (some (.ref x))
theorem Sta.le {K : PySem.W.Frag} {W : Wi} {F : Addr → Prop} {ρ : Env} {S S' : Sto} {m m' : List Addr} {σ : St} {H H' : Hp} (h : Sta K W ρ S m F σ H) (l : Le S m H S' m' H') (rs : RS K F S' m' H') : Sta K W ρ S' m' F σ H' :=
  ⟨rs, ⟨h.e.len, fun i d e => let ⟨v, e', r⟩ := h.e.at_ i d e; ⟨v, e', r.le l.rc⟩, fun i so e => let ⟨a, e', f, f0, r⟩ := h.e.own_ i so e; ⟨a, e', f, f0, r.le l.rc fun o q => (l.stay a o q (h.s.fd a f)).1⟩, h.e.dist⟩, h.sub, h.me⟩

/-! ### results -/
structure Exn where
  cls : Nat
  fs : List (Str × D)
inductive Res (α : Type) where
  | ok (a : α) (S : Sto)
  | ex (x : Exn) (S : Sto)
  | bad
def Res.bind {α β : Type} (r : Res α) (k : α → Sto → Res β) : Res β :=
  match r with
  | .ok a S => k a S
  | .ex x S => .ex x S
  | .bad => .bad
@[simp] theorem Res.bind_ok {α β : Type} (a : α) (S : Sto) (k : α → Sto → Res β) : (Res.ok a S).bind k = k a S := rfl
@[simp] theorem Res.bind_ex {α β : Type} (x : Exn) (S : Sto) (k : α → Sto → Res β) : (Res.ex x S : Res α).bind k = .ex x S := rfl
@[simp] theorem Res.bind_bad {α β : Type} (k : α → Sto → Res β) : (Res.bad : Res α).bind k = .bad := rfl

def RX (c : RC) (x : Exn) (d : Option Addr) : Prop := ∃ dd fvs, d = some dd ∧ c.H dd = some (.xd fvs) ∧ ¬ c.live dd ∧ RVf c x.fs fvs
theorem RX.le {c c' : RC} (l : c.Le c') {x : Exn} {d : Option Addr} (h : RX c x d) : RX c' x d := by
  obtain ⟨dd, fvs, e, h1, h2, r⟩ := h
  exact ⟨dd, fvs, e, (l.stay _ _ h1 h2).1, (l.stay _ _ h1 h2).2, r.le l⟩

/-- behind a result: what is wanted -/
def Post {α β : Type} (K : PySem.W.Frag) (F : Addr → Prop) (R : RC → α → β → Prop) (WE : Value → Option Addr → Hp → Prop) (S : Sto) (m : List Addr) (H : Hp) (r : Res α) (Q : β → Hp → Prop) : Prop :=
  match r with
  | .ok a S' => ∀ m' H' v, Le S m H S' m' H' → RS K F S' m' H' → R (rc K F S' m' H') a v → Q v H'
  | .ex x S' => ∀ m' H' d, Le S m H S' m' H' → RS K F S' m' H' → RX (rc K F S' m' H') x d → WE (.ref (ca K x.cls)) d H'
  | .bad => False
section
variable {K : PySem.W.Frag} {F : Addr → Prop} {α β γ δ : Type} {R : RC → α → β → Prop} {R' : RC → γ → δ → Prop} {WE WE' : Value → Option Addr → Hp → Prop} {S : Sto} {m : List Addr} {H : Hp}
theorem Post.from {S1 : Sto} {m1 : List Addr} {H1 : Hp} {r : Res α} {Q : β → Hp → Prop} (h : Post K F R WE S m H r Q) (l : Le S m H S1 m1 H1) : Post K F R WE S1 m1 H1 r Q := by
  cases r with
  | ok a S' => exact fun m' H' v l' rs rv => h m' H' v (l.trans l') rs rv
  | ex x S' => exact fun m' H' v l' rs rv => h m' H' v (l.trans l') rs rv
  | bad => exact h
theorem Post.mono {r : Res α} {Q Q' : β → Hp → Prop} (h : Post K F R WE S m H r Q) (hq : ∀ v H', Q v H' → Q' v H') (hw : ∀ c d H', WE c d H' → WE' c d H') : Post K F R WE' S m H r Q' := by
  cases r with
  | ok a S' => exact fun m' H' v l' rs rv => hq _ _ (h m' H' v l' rs rv)
  | ex x S' => exact fun m' H' v l' rs rv => hw _ _ _ (h m' H' v l' rs rv)
  | bad => exact h
theorem Post.bind {r : Res α} {k : α → Sto → Res γ} {Q : δ → Hp → Prop} (h : Post K F R' WE S m H (r.bind k) Q) :
    Post K F R WE S m H r fun v H1 => ∃ S1 m1 a, Le S m H S1 m1 H1 ∧ RS K F S1 m1 H1 ∧ R (rc K F S1 m1 H1) a v ∧ Post K F R' WE S1 m1 H1 (k a S1) Q := by
  cases r with
  | ok a S' => exact fun m' H' v l' rs rv => ⟨S', m', a, l', rs, rv, Post.from h l'⟩
  | ex x S' => exact fun m' H' v l' rs rv => h m' H' v l' rs rv
  | bad => exact h
theorem Post.ok {a : α} {v : β} {Q : β → Hp → Prop} (h : Post K F R WE S m H (.ok a S) Q) (rs : RS K F S m H) (r : R (rc K F S m H) a v) : Q v H := h m H v (Le.refl ..) rs r
end
def RB (_ : RC) (a : Bool) (b : Bool) : Prop := a = b

/-! ### readings -/
/-- an expression's reading by a function -/
def T {α β : Type} (K : PySem.W.Frag) (R : RC → α → β → Prop) (W : Wi) (f : Env → Sto → Res α) (σ : St) (H : Hp) (Q : β → Hp → Prop) : Prop :=
  ∃ ρ S m F, Sta K W ρ S m F σ H ∧ Post K F R (fun c d H' => W.w c d σ H') S m H (f ρ S) Q
abbrev TD (K : PySem.W.Frag) (W : Wi) (f : Env → Sto → Res D) : TE := T K RV W f
abbrev TBl (K : PySem.W.Frag) (W : Wi) (f : Env → Sto → Res Bool) : TT := T K RB W f
abbrev TL (K : PySem.W.Frag) (W : Wi) (f : Env → Sto → Res (List D)) : TA := T K RVs W f

/-- e is what f tells, in X -/
abbrev PEv (X : Cx) (W : Wi) (e : Expr) (f : Env → Sto → Res D) : Prop := PE X e (TD X.K W f)
abbrev PTv (X : Cx) (W : Wi) (e : Expr) (f : Env → Sto → Res Bool) : Prop := PT X e (TBl X.K W f)
abbrev PAv (X : Cx) (W : Wi) (es : List Expr) (f : Env → Sto → Res (List D)) : Prop := PA X es (TL X.K W f)
section
variable {X : Cx} {W : Wi}
theorem pe_imp {e : Expr} {t t' : TE} (h : PE X e t) (i : ∀ σ H Q, t' σ H Q → t σ H Q) : PE X e t' := ⟨fun pins s σ H Q I q => h.run pins s σ H Q I (i _ _ _ q)⟩
theorem pt_imp {e : Expr} {t t' : TT} (h : PT X e t) (i : ∀ σ H Q, t' σ H Q → t σ H Q) : PT X e t' := ⟨fun pins s σ H Q I q => h.run pins s σ H Q I (i _ _ _ q)⟩
theorem pa_imp {e : List Expr} {t t' : TA} (h : PA X e t) (i : ∀ σ H Q, t' σ H Q → t σ H Q) : PA X e t' := ⟨fun pos pins s σ H Q I q => h.run pos pins s σ H Q I (i _ _ _ q)⟩
theorem ps_imp {e : Stmt} {t t' : TS} (h : PS X e t) (i : ∀ D σ H, t' D σ H → t D σ H) : PS X e t' := ⟨fun pins s σ H D I q => h.run pins s σ H D I (i _ _ _ q)⟩
theorem pss_imp {e : List Stmt} {t t' : TS} (h : PSs X e t) (i : ∀ D σ H, t' D σ H → t D σ H) : PSs X e t' := ⟨fun pins s σ H D I q => h.run pins s σ H D I (i _ _ _ q)⟩
theorem t_mono {α β : Type} {K : PySem.W.Frag} {R : RC → α → β → Prop} {f : Env → Sto → Res α} {σ : St} {H : Hp} {Q Q' : β → Hp → Prop} (h : T K R W f σ H Q) (i : ∀ v H', Q v H' → Q' v H') : T K R W f σ H Q' := by
  obtain ⟨ρ, S, m, F, st, p⟩ := h
  exact ⟨ρ, S, m, F, st, p.mono i fun _ _ _ h => h⟩
/-- reading r := f, then k: f's reading, then the rest -/
theorem T.bind {α β γ δ : Type} {K : PySem.W.Frag} {R : RC → α → β → Prop} {R' : RC → γ → δ → Prop} {f : Env → Sto → Res α} {k : Env → α → Sto → Res γ} {σ : St} {H : Hp} {Q : δ → Hp → Prop} (h : T K R' W (fun ρ S => (f ρ S).bind (k ρ)) σ H Q) :
    T K R W f σ H fun v H1 => ∃ ρ S m F a, Sta K W ρ S m F σ H1 ∧ R (rc K F S m H1) a v ∧ Post K F R' (fun c d H' => W.w c d σ H') S m H1 (k ρ a S) Q := by
  obtain ⟨ρ, S, m, F, st, p⟩ := h
  refine ⟨ρ, S, m, F, st, (p.bind (R := R)).mono (fun v H1 ⟨S1, m1, a, l, rs, r, p1⟩ => ⟨ρ, S1, m1, F, a, st.le l rs, r, p1⟩) fun _ _ _ h => h⟩
/-- the second of two, the first one's value being carried -/
theorem Post.next {α β γ δ ε ζ : Type} {K : PySem.W.Frag} {F : Addr → Prop} {R : RC → α → β → Prop} {R' : RC → γ → δ → Prop} {R2 : RC → ε → ζ → Prop} {ρ : Env} {S : Sto} {m : List Addr} {σ : St} {H : Hp} {f : Env → Sto → Res α} {k : α → Sto → Res γ} {Q : δ → Hp → Prop}
    {b : ε} {u : ζ} (hR2 : ∀ {c c' : RC}, c.Le c' → ∀ {b u}, R2 c b u → R2 c' b u) (st : Sta K W ρ S m F σ H) (r2 : R2 (rc K F S m H) b u) (h : Post K F R' (fun c d H' => W.w c d σ H') S m H ((f ρ S).bind k) Q) :
    T K R W f σ H fun v H1 => ∃ S m a, Sta K W ρ S m F σ H1 ∧ R2 (rc K F S m H1) b u ∧ R (rc K F S m H1) a v ∧ Post K F R' (fun c d H' => W.w c d σ H') S m H1 (k a S) Q :=
  ⟨ρ, S, m, F, st, (h.bind (R := R)).mono (fun v H1 ⟨S1, m1, a, l, rs, r, p1⟩ => ⟨S1, m1, a, st.le l rs, hR2 l.rc r2, r, p1⟩) fun _ _ _ h => h⟩
end
end Ev

set_option Elab.async false
set_option linter.all false
set_option maxRecDepth 100000
set_option maxHeartbeats 4000000
/-! Ev2: expressions: names, constants, operators, tests. -/
namespace Ev
open PySem PySem.Spec L2
open PyProof.Rows hiding St

/-! ### lists of data -/
section
variable {c : RC}
theorem RVs.length : ∀ {ds : List D} {vs : List V}, RVs c ds vs → ds.length = vs.length
  | _, _, .nil => rfl
  | _, _, .cons _ t => by simp [RVs.length t]
theorem RVk.length : ∀ {ds : List (Key × D)} {vs : List (Key × V)}, RVk c ds vs → ds.length = vs.length
  | _, _, .nil => rfl
  | _, _, .cons _ t => by simp [RVk.length t]
theorem RVf.length : ∀ {ds : List (Str × D)} {vs : List (Str × V)}, RVf c ds vs → ds.length = vs.length
  | _, _, .nil => rfl
  | _, _, .cons _ t => by simp [RVf.length t]
theorem RVs.get : ∀ {ds : List D} {vs : List V} {i : Nat} {d : D}, RVs c ds vs → ds[i]? = some d → ∃ v, vs[i]? = some v ∧ RV c d v
  | _, _, _, _, .nil, e => by simp at e
  | _, _, 0, _, .cons r _, e => by simp at e; subst e; exact ⟨_, rfl, r⟩
  | _, _, i + 1, _, .cons _ t, e => by
    obtain ⟨v, h1, h2⟩ := RVs.get (i := i) t (by simpa using e)
    exact ⟨v, by simpa using h1, h2⟩
theorem RVs.get2 : ∀ {ds : List D} {vs : List V} {i : Nat} {v : V}, RVs c ds vs → vs[i]? = some v → ∃ d, ds[i]? = some d ∧ RV c d v
  | _, _, _, _, .nil, e => by simp at e
  | _, _, 0, _, .cons r _, e => by simp at e; subst e; exact ⟨_, rfl, r⟩
  | _, _, i + 1, _, .cons _ t, e => by
    obtain ⟨v, h1, h2⟩ := RVs.get2 (i := i) t (by simpa using e)
    exact ⟨v, by simpa using h1, h2⟩
theorem RVs.append : ∀ {ds es : List D} {vs ws : List V}, RVs c ds vs → RVs c es ws → RVs c (ds ++ es) (vs ++ ws)
  | _, _, _, _, .nil, s => s
  | _, _, _, _, .cons r t, s => .cons r (RVs.append t s)
theorem RVs.take : ∀ {ds : List D} {vs : List V} (n : Nat), RVs c ds vs → RVs c (ds.take n) (vs.take n)
  | _, _, 0, _ => .nil
  | _, _, _ + 1, .nil => .nil
  | _, _, n + 1, .cons r t => .cons r (RVs.take n t)
theorem RVs.drop : ∀ {ds : List D} {vs : List V} (n : Nat), RVs c ds vs → RVs c (ds.drop n) (vs.drop n)
  | _, _, 0, r => r
  | _, _, _ + 1, .nil => .nil
  | _, _, n + 1, .cons _ t => RVs.drop n t
theorem RVs.one {d : D} {v : V} (r : RV c d v) : RVs c [d] [v] := .cons r .nil
theorem RVs.rep {ds : List D} {vs : List V} (r : RVs c ds vs) : ∀ n, RVs c (List.replicate n ds).flatten (List.replicate n vs).flatten
  | 0 => by simpa using RVs.nil
  | n + 1 => by
    simp only [List.replicate_succ, List.flatten_cons]
    exact r.append (RVs.rep r n)
theorem RVs.reverse : ∀ {ds : List D} {vs : List V}, RVs c ds vs → RVs c ds.reverse vs.reverse
  | _, _, .nil => by simpa using RVs.nil
  | _, _, .cons r t => by
    simp only [List.reverse_cons]
    exact (RVs.reverse t).append (.one r)
theorem RVs.set {d : D} {v : V} (r : RV c d v) : ∀ {ds : List D} {vs : List V} (i : Nat), RVs c ds vs → RVs c (ds.set i d) (vs.set i v)
  | _, _, _, .nil => .nil
  | _, _, 0, .cons _ t => .cons r t
  | _, _, i + 1, .cons q t => .cons q (RVs.set r i t)
theorem RVs.erase : ∀ {ds : List D} {vs : List V} (i : Nat), RVs c ds vs → RVs c (ds.eraseIdx i) (vs.eraseIdx i)
  | _, _, _, .nil => by simpa using RVs.nil
  | _, _, 0, .cons _ t => by simpa using t
  | _, _, i + 1, .cons q t => by simpa using RVs.cons q (RVs.erase i t)
theorem RVs.strs : ∀ {xs : List Str}, RVs c (xs.map D.str) (xs.map V.str)
  | [] => .nil
  | x :: r => .cons (.str x) RVs.strs
theorem RVs.ints : ∀ {xs : List Int}, RVs c (xs.map D.int) (xs.map V.int)
  | [] => .nil
  | x :: r => .cons (.int x) RVs.ints
end

/-! ### growing the heap -/
section
variable {K : PySem.W.Frag} {F : Addr → Prop} {S : Sto} {m : List Addr} {H H' : Hp} {WE : Value → Option Addr → Hp → Prop}
theorem RS.tracked (rs : RS K F S m H) {a : Addr} (h : Live S m a) : ∃ o, H a = some o := by
  obtain ⟨n, so, h1, h2⟩ := h
  have := rs.ob n so a h1 h2
  cases so with
  | lst ds => obtain ⟨xs, h, _⟩ := this; exact ⟨_, h⟩
  | dK ds => obtain ⟨xs, h, _⟩ := this; exact ⟨_, h⟩
  | ins C ds => obtain ⟨dx, xs, h, _⟩ := this; exact ⟨_, h⟩
theorem grow (rs : RS K F S m H) (g : ∀ a o, H a = some o → H' a = some o) : Le S m H S m H' ∧ RS K F S m H' := by
  have l : Le S m H S m H' := ⟨fun a o h n => ⟨g a o h, n⟩, [], by simp⟩
  exact ⟨l, rs.len, fun n so a h1 h2 => (rs.ob n so a h1 h2).le l.rc (g a), rs.inj, fun a h => let ⟨o, e⟩ := rs.ft a h; ⟨o, g a o e⟩, rs.fd⟩
theorem upd_keeps {p : Addr} {o : HO} (hp : H p = none) : ∀ a u, H a = some u → upd H p o a = some u := fun a u h => by
  rw [upd_ne (ne_of_none h hp)]; exact h
theorem fresh_dead (rs : RS K F S m H) {p : Addr} (hp : H p = none) : ¬ (Live S m p ∨ F p) := fun h => by
  rcases h with h | h
  · obtain ⟨o, e⟩ := rs.tracked h
    rw [hp] at e; cases e
  · obtain ⟨o, e⟩ := rs.ft p h
    rw [hp] at e; cases e
/-- a new list, tuple -/
theorem new_lst {ds : List D} {vs : List V} {p : Addr} {Q : VK} (rs : RS K F S m H) (r : RVs (rc K F S m H) ds vs) (hp : H p = none) (h : Post K F RV WE S m H (.ok (.lst ds) S) Q) : Q (.ref p) (upd H p (.lst vs)) := by
  obtain ⟨l, rs'⟩ := grow (H' := upd H p (.lst vs)) rs (upd_keeps hp)
  exact h m _ _ l rs' (.lst ⟨upd_same, fresh_dead rs hp⟩ (r.le l.rc))
theorem new_tup {ds : List D} {vs : List V} {p : Addr} {Q : VK} (rs : RS K F S m H) (r : RVs (rc K F S m H) ds vs) (hp : H p = none) (h : Post K F RV WE S m H (.ok (.tup ds) S) Q) : Q (.ref p) (upd H p (.tup vs)) := by
  obtain ⟨l, rs'⟩ := grow (H' := upd H p (.tup vs)) rs (upd_keeps hp)
  exact h m _ _ l rs' (.tup (.inl ⟨.inl upd_same, fresh_dead rs hp⟩) (r.le l.rc))
end

/-! ### views -/
def getL (S : Sto) (n : Nat) : Option (List D) := match S[n]? with
  | some (some (.lst ds)) => some ds
  | _ => none
theorem getL_eq {S : Sto} {n : Nat} {ds : List D} (h : getL S n = some ds) : S[n]? = some (some (.lst ds)) := by
  unfold getL at h
  split at h
  · rename_i e
    cases h
    exact e
  · cases h
def viewL (S : Sto) : D → Option (List D)
  | .lst ds => some ds
  | .fro ds => some ds
  | .box n => getL S n
  | _ => none
def viewX (S : Sto) : D → Option (List D)
  | .lst ds => some ds
  | .box n => getL S n
  | _ => none
def viewT : D → Option (List D)
  | .tup ds => some ds
  | _ => none
/-- a list or a tuple -/
def viewQ (S : Sto) (d : D) : Option (List D) := match viewL S d with
  | some ds => some ds
  | none => viewT d
section
variable {K : PySem.W.Frag} {F : Addr → Prop} {S : Sto} {m : List Addr} {H : Hp} {d : D} {v : V} {ds : List D}
theorem viewX_ok (rs : RS K F S m H) (r : RV (rc K F S m H) d v) (e : viewX S d = some ds) : ∃ a xs, v = .ref a ∧ H a = some (.lst xs) ∧ RVs (rc K F S m H) ds xs := by
  cases r with
  | lst h r =>
    cases e
    exact ⟨_, _, rfl, h.1, r⟩
  | @box n a h =>
    obtain ⟨xs, h1, h2⟩ := rs.ob n _ a (getL_eq e) h
    exact ⟨a, xs, rfl, h1, h2⟩
  | _ => cases e
theorem viewL_ok (rs : RS K F S m H) (r : RV (rc K F S m H) d v) (e : viewL S d = some ds) : ∃ a xs, v = .ref a ∧ SqL K H a xs ∧ RVs (rc K F S m H) ds xs := by
  cases r with
  | lst h r =>
    cases e
    exact ⟨_, _, rfl, SqL.of h.1, r⟩
  | fro h r =>
    cases e
    refine ⟨_, _, rfl, ?_, r⟩
    rcases h with ⟨h, _⟩ | h
    · exact .inl h
    · exact h H
  | @box n a h =>
    obtain ⟨xs, h1, h2⟩ := rs.ob n _ a (getL_eq e) h
    exact ⟨a, xs, rfl, SqL.of h1, h2⟩
  | _ => cases e
theorem viewT_ok (r : RV (rc K F S m H) d v) (e : viewT d = some ds) : ∃ a xs, v = .ref a ∧ SqT K H a xs ∧ RVs (rc K F S m H) ds xs := by
  cases r with
  | tup h r =>
    cases e
    refine ⟨_, _, rfl, ?_, r⟩
    rcases h with ⟨h, _⟩ | h
    · exact .inl h
    · exact h H
  | _ => cases e
theorem viewQ_ok (rs : RS K F S m H) (r : RV (rc K F S m H) d v) (e : viewQ S d = some ds) : ∃ a xs, v = .ref a ∧ (SqL K H a xs ∨ SqT K H a xs) ∧ RVs (rc K F S m H) ds xs := by
  unfold viewQ at e
  split at e
  · rename_i h
    cases e
    obtain ⟨a, xs, h1, h2, h3⟩ := viewL_ok rs r h
    exact ⟨a, xs, h1, .inl h2, h3⟩
  · obtain ⟨a, xs, h1, h2, h3⟩ := viewT_ok r e
    exact ⟨a, xs, h1, .inr h2, h3⟩
end

/-! ### data for == -/
mutual
def D.toPy : D → Option PyData
  | .non => some .none
  | .bl b => some (.bool b)
  | .int i => some (.int i)
  | .str x => some (.str x)
  | .lst ds => (D.toPys ds).map .list
  | .fro ds => (D.toPys ds).map .list
  | .tup ds => (D.toPys ds).map .tuple
  | _ => none
def D.toPys : List D → Option (List PyData)
  | [] => some []
  | d :: ds => (D.toPy d).bind fun p => (D.toPys ds).map fun ps => p :: ps
end
def top (S : Sto) : D → D
  | .box n => match getL S n with
    | some ds => .lst ds
    | none => .box n
  | d => d
section
variable {K : PySem.W.Frag} {F : Addr → Prop} {S : Sto} {m : List Addr} {H : Hp}
theorem SqL.fr {c : RC} {a : Addr} {xs : List V} (h : FR c a xs) : SqL c.K c.H a xs := by
  rcases h with ⟨h, _⟩ | h
  · exact .inl h
  · exact h _
theorem SqT.tr {c : RC} {a : Addr} {xs : List V} (h : TR c a xs) : SqT c.K c.H a xs := by
  rcases h with ⟨h, _⟩ | h
  · exact .inl h
  · exact h _
mutual
theorem toPy_ok {c : RC} : ∀ {d : D} {v : V} {p : PyData}, RV c d v → d.toPy = some p → Dp c.K c.H v p
  | _, _, _, .non, e => by cases e; exact .non
  | _, _, _, .bl b, e => by cases e; exact .bl b
  | _, _, _, .int i, e => by cases e; exact .int i
  | _, _, _, .str x, e => by cases e; exact .str x
  | _, _, _, .ty n, e => by cases e
  | .gl a, _, _, _, e => by cases e
  | .tup ds, _, p, .tup h r, e => by
    have e' : (D.toPys ds).map PyData.tuple = some p := e
    cases q : D.toPys ds with
    | none => rw [q] at e'; cases e'
    | some ps =>
      rw [q] at e'
      cases e'
      exact .tup (SqT.tr h) (toPys_ok r q)
  | .lst ds, _, p, .lst h r, e => by
    have e' : (D.toPys ds).map PyData.list = some p := e
    cases q : D.toPys ds with
    | none => rw [q] at e'; cases e'
    | some ps =>
      rw [q] at e'
      cases e'
      exact .lst (SqL.of h.1) (toPys_ok r q)
  | .fro ds, _, p, .fro h r, e => by
    have e' : (D.toPys ds).map PyData.list = some p := e
    cases q : D.toPys ds with
    | none => rw [q] at e'; cases e'
    | some ps =>
      rw [q] at e'
      cases e'
      exact .lst (SqL.fr h) (toPys_ok r q)
  | _, _, _, .dK h n r, e => by cases e
  | _, _, _, .ins h n r, e => by cases e
  | _, _, _, .box h, e => by cases e
theorem toPys_ok {c : RC} : ∀ {ds : List D} {vs : List V} {ps : List PyData}, RVs c ds vs → D.toPys ds = some ps → DpAll c.K c.H vs ps
  | _, _, _, .nil, e => by cases e; exact .nil
  | d :: ds, _, ps, .cons r t, e => by
    have e' : ((D.toPy d).bind fun p => (D.toPys ds).map fun ps => p :: ps) = some ps := e
    cases q1 : D.toPy d with
    | none => rw [q1] at e'; cases e'
    | some p =>
      cases q2 : D.toPys ds with
      | none => rw [q1, q2] at e'; cases e'
      | some qs =>
        rw [q1, q2] at e'
        cases e'
        exact .cons (toPy_ok r q1) (toPys_ok t q2)
end
theorem top_ok (rs : RS K F S m H) {d : D} {v : V} {p : PyData} (r : RV (rc K F S m H) d v) (e : (top S d).toPy = some p) : Dp K H v p := by
  cases d with
  | box n =>
    cases r with
    | @box n a h =>
      have e2 : (match getL S n with | some ds => D.lst ds | none => .box n).toPy = some p := e
      cases q : getL S n with
      | none => rw [q] at e2; cases e2
      | some ds =>
        rw [q] at e2
        have e' : (D.toPys ds).map PyData.list = some p := e2
        obtain ⟨xs, h1, h2⟩ := rs.ob n _ a (getL_eq q) h
        cases q' : D.toPys ds with
        | none => rw [q'] at e'; cases e'
        | some ps =>
          rw [q'] at e'
          cases e'
          exact .lst (SqL.of h1) (toPys_ok h2 q')
  | _ => exact toPy_ok r e
end
/-- flat data -/
def D.flat : D → Option V
  | .non => some .non
  | .bl b => some (.bl b)
  | .int i => some (.int i)
  | .str x => some (.str x)
  | _ => none
def flats : List D → Option (List V)
  | [] => some []
  | d :: ds => d.flat.bind fun v => (flats ds).map fun vs => v :: vs
theorem flat_ok {c : RC} {d : D} {v w : V} (r : RV c d v) (e : d.flat = some w) : v = w ∧ flatV w = true := by
  cases r <;> first | (cases e; done) | (cases e; exact ⟨rfl, rfl⟩)
theorem flats_ok {c : RC} : ∀ {ds : List D} {vs ws : List V}, RVs c ds vs → flats ds = some ws → vs = ws ∧ ws.all flatV = true
  | _, _, _, .nil, e => by cases e; exact ⟨rfl, rfl⟩
  | d :: ds, _, ws, .cons r t, e => by
    have e' : (d.flat.bind fun v => (flats ds).map fun vs => v :: vs) = some ws := e
    cases q1 : d.flat with
    | none => rw [q1] at e'; cases e'
    | some p =>
      cases q2 : flats ds with
      | none => rw [q1, q2] at e'; cases e'
      | some qs =>
        rw [q1, q2] at e'
        cases e'
        obtain ⟨h1, h2⟩ := flat_ok r q1
        obtain ⟨h3, h4⟩ := flats_ok t q2
        subst h1 h3
        exact ⟨rfl, by simp [h2, h4]⟩

/-! ### names and constants -/
def vName (i : Nat) (ρ : Env) (S : Sto) : Res D := match ρ[i]? with
  | some (some (.v d)) => .ok d S
  | _ => .bad
def vC (d : D) (_ : Env) (S : Sto) : Res D := .ok d S
section
variable {X : Cx} {W : Wi} {e a b : Expr} {pos : Pos} {f g : Env → Sto → Res D}
theorem pev_name {i : Nat} {x : Str} (hN : X.N[i]? = some x) (hv : Vis X.env.scope x) (hd : (x == ("__debug__" : Str)) = false := by decide) (hcd : (x == ("__classdict__" : Str)) = false := by decide) : PEv X W (.Name x pos) (vName i) := by
  refine pe_imp (pe_var hN hv hd hcd) fun σ H Q h => ?_
  obtain ⟨ρ, S, m, F, st, p⟩ := h
  unfold vName at p
  split at p
  · rename_i d e
    obtain ⟨v, e1, r⟩ := st.e.at_ i d e
    exact ⟨v, e1, p.ok st.s r⟩
  · exact p.elim
theorem pev_const {d : D} {v : V} (h : PE X e (tC v)) (r : ∀ c : RC, c.K = X.K → RV c d v) : PEv X W e (vC d) :=
  pe_imp h fun _ _ _ ⟨_, _, _, _, st, p⟩ => Post.ok (R := RV) p st.s (r _ rfl)
theorem pev_int {i : Int} {j : Nat} : PEv X W (.Constant (.int i) j pos) (vC (.int i)) := pev_const pe_int fun _ _ => .int i
theorem pev_bl {i : Bool} {j : Nat} : PEv X W (.Constant (.bool i) j pos) (vC (.bl i)) := pev_const pe_bl fun _ _ => .bl i
theorem pev_str {i : Str} {j : Nat} : PEv X W (.Constant (.str i) j pos) (vC (.str i)) := pev_const pe_str fun _ _ => .str i
theorem pev_non {j : Nat} : PEv X W (.Constant .none j pos) (vC .non) := pev_const pe_non fun _ _ => .non
theorem pev_glob {x : Str} {v : V} {u : Value} {d : D} (hg : Gl X x) (hm : X.mg x = some u) (r : RelV v u) (rv : ∀ c : RC, c.K = X.K → RV c d v) (hd : (x == ("__debug__" : Str)) = false := by decide) : PEv X W (.Name x pos) (vC d) :=
  pev_const (pe_glob hg hm r hd) rv

/-! ### two operands -/
/-- k does what the layer's rule r asks -/
def Imp2 (K : PySem.W.Frag) (k : D → D → Sto → Res D) (r : R2) : Prop :=
  ∀ (F : Addr → Prop) (WE : Value → Option Addr → Hp → Prop) (S : Sto) (m : List Addr) (H : Hp) (x y : D) (v u : V) (Q : VK), RS K F S m H → RV (rc K F S m H) x v → RV (rc K F S m H) y u → Post K F RV WE S m H (k x y S) Q → r v u H Q
def Imp1 (K : PySem.W.Frag) (k : D → Sto → Res D) (r : V → Hp → VK → Prop) : Prop :=
  ∀ (F : Addr → Prop) (WE : Value → Option Addr → Hp → Prop) (S : Sto) (m : List Addr) (H : Hp) (x : D) (v : V) (Q : VK), RS K F S m H → RV (rc K F S m H) x v → Post K F RV WE S m H (k x S) Q → r v H Q
def ImpL (K : PySem.W.Frag) (k : List D → Sto → Res D) (r : List V → Hp → VK → Prop) : Prop :=
  ∀ (F : Addr → Prop) (WE : Value → Option Addr → Hp → Prop) (S : Sto) (m : List Addr) (H : Hp) (x : List D) (v : List V) (Q : VK), RS K F S m H → RVs (rc K F S m H) x v → Post K F RV WE S m H (k x S) Q → r v H Q
def v2 (k : D → D → Sto → Res D) (f g : Env → Sto → Res D) (ρ : Env) (S : Sto) : Res D := (f ρ S).bind fun x S => (g ρ S).bind fun y S => k x y S
def v1 (k : D → Sto → Res D) (f : Env → Sto → Res D) (ρ : Env) (S : Sto) : Res D := (f ρ S).bind k
theorem t_op {K : PySem.W.Frag} {k : D → D → Sto → Res D} {r : R2} (h : Imp2 K k r) {σ : St} {H : Hp} {Q : VK} (t : TD K W (v2 k f g) σ H Q) : tOp r (TD K W f) (TD K W g) σ H Q := by
  refine t_mono (T.bind (R := RV) t) fun x H1 ⟨ρ, S, m, F, d, st, rx, p⟩ => ?_
  refine t_mono (Post.next (R := RV) (R2 := RV) (fun l _ _ r => r.le l) st rx p) fun y H2 ⟨S2, m2, d2, st2, rx2, ry2, p2⟩ => ?_
  exact h _ _ S2 m2 H2 d d2 x y Q st2.s rx2 ry2 p2
end
end Ev

set_option Elab.async false
set_option linter.all false
set_option maxRecDepth 100000
set_option maxHeartbeats 4000000
/-! Ev3: operators, comparisons, tests. -/
namespace Ev
open PySem PySem.Spec L2
open PyProof.Rows hiding St

def D.int? : D → Option Int
  | .int i => some i
  | _ => none
def D.str? : D → Option Str
  | .str i => some i
  | _ => none
def D.bl? : D → Option Bool
  | .bl i => some i
  | _ => none
section
variable {c : RC} {d : D} {v : V}
theorem int_ok {i : Int} (r : RV c d v) (e : d.int? = some i) : v = .int i := by
  cases r <;> first | (cases e; done) | (cases e; rfl)
theorem str_ok {i : Str} (r : RV c d v) (e : d.str? = some i) : v = .str i := by
  cases r <;> first | (cases e; done) | (cases e; rfl)
theorem bl_ok {i : Bool} (r : RV c d v) (e : d.bl? = some i) : v = .bl i := by
  cases r <;> first | (cases e; done) | (cases e; rfl)
end
/-- two ints under a condition -/
def opI (C : Int → Int → Bool) (g : Int → Int → D) (x y : D) (S : Sto) : Res D := match x.int?, y.int? with
  | some i, some j => if C i j = true then .ok (g i j) S else .bad
  | _, _ => .bad
section
variable {K : PySem.W.Frag}
theorem imp_I {C : Int → Int → Prop} [∀ i j, Decidable (C i j)] {g : Int → Int → D} {gv : Int → Int → V} (hg : ∀ c i j, RV c (g i j) (gv i j)) : Imp2 K (opI (fun i j => decide (C i j)) g) (rI C gv) := by
  intro F WE S m H x y v u Q rs rx ry p
  unfold opI at p
  split at p
  · rename_i i j e1 e2
    split at p
    · rename_i hc
      exact ⟨i, j, int_ok rx e1, int_ok ry e2, of_decide_eq_true hc, p.ok rs (hg _ i j)⟩
    · exact p.elim
  · exact p.elim
theorem imp_I0 {g : Int → Int → D} {gv : Int → Int → V} (hg : ∀ c i j, RV c (g i j) (gv i j)) : Imp2 K (opI (fun _ _ => true) g) (rI0 gv) := by
  intro F WE S m H x y v u Q rs rx ry p
  unfold opI at p
  split at p
  · rename_i i j e1 e2
    rw [if_pos rfl] at p
    exact ⟨i, j, int_ok rx e1, int_ok ry e2, p.ok rs (hg _ i j)⟩
  · exact p.elim
theorem Imp2.or1 {k : D → D → Sto → Res D} {r r' : R2} (h : Imp2 K k r) : Imp2 K k fun x y H Q => r x y H Q ∨ r' x y H Q :=
  fun F WE S m H x y v u Q rs rx ry p => .inl (h F WE S m H x y v u Q rs rx ry p)
/-- two ways by the values: k where it holds, else l -/
def alt (t : D → D → Sto → Bool) (k l : D → D → Sto → Res D) (x y : D) (S : Sto) : Res D := if t x y S = true then k x y S else l x y S
theorem Imp2.alt {t : D → D → Sto → Bool} {k l : D → D → Sto → Res D} {r r' : R2} (h : Imp2 K k r) (h' : Imp2 K l r') : Imp2 K (alt t k l) fun x y H Q => r x y H Q ∨ r' x y H Q := by
  intro F WE S m H x y v u Q rs rx ry p
  unfold Ev.alt at p
  split at p
  · exact .inl (h F WE S m H x y v u Q rs rx ry p)
  · exact .inr (h' F WE S m H x y v u Q rs rx ry p)
end
def D.isInt : D → Bool
  | .int _ => true
  | _ => false
def D.isStr : D → Bool
  | .str _ => true
  | _ => false
def D.isTup : D → Bool
  | .tup _ => true
  | _ => false
/-- a + b -/
def addS (x y : D) (S : Sto) : Res D := match x.str?, y.str? with
  | some a, some b => if a.length + b.length ≤ sizeLine then .ok (.str (a ++ b)) S else .bad
  | _, _ => .bad
def addT (x y : D) (S : Sto) : Res D := match viewT x, viewT y with
  | some a, some b => if a.length + b.length ≤ sizeLine ∧ a ≠ [] then (if b.isEmpty = true then .ok x S else .ok (.tup (a ++ b)) S) else .bad
  | _, _ => .bad
def addL (x y : D) (S : Sto) : Res D := match viewX S x, viewX S y with
  | some a, some b => if a.length + b.length ≤ sizeLine then .ok (.lst (a ++ b)) S else .bad
  | _, _ => .bad
def addI : D → D → Sto → Res D := opI (fun _ _ => true) fun i j => .int (i + j)
def addD : D → D → Sto → Res D := alt (fun x _ _ => x.isInt) addI (alt (fun x _ _ => x.isStr) addS (alt (fun x _ _ => x.isTup) addT addL))
def subD : D → D → Sto → Res D := opI (fun _ _ => true) fun i j => .int (i - j)
instance (i j : Int) : Decidable (CMul i j) := by unfold CMul; infer_instance
instance (i j : Int) : Decidable (CDiv i j) := by unfold CDiv; infer_instance
instance (i j : Int) : Decidable (CPow i j) := by unfold CPow; infer_instance
def mulI : D → D → Sto → Res D := opI (fun i j => decide (CMul i j)) fun i j => .int (i * j)
def fdivD : D → D → Sto → Res D := opI (fun i j => decide (CDiv i j)) fun i j => .int (i / j)
def modD : D → D → Sto → Res D := opI (fun _ j => decide (0 < j)) fun i j => .int (i % j)
def powD : D → D → Sto → Res D := opI (fun i j => decide (CPow i j)) fun i j => .int (i ^ j.toNat)
section
variable {X : Cx}
theorem imp_addS : Imp2 X.K addS (fun x y H Q => ∃ i j, x = .str i ∧ y = .str j ∧ i.length + j.length ≤ sizeLine ∧ Q (.str (i ++ j)) H) := by
  intro F WE S m H x y v u Q rs rx ry p
  unfold addS at p
  split at p
  · rename_i i j e1 e2
    split at p
    · rename_i hc
      exact ⟨i, j, str_ok rx e1, str_ok ry e2, hc, p.ok rs (.str _)⟩
    · exact p.elim
  · exact p.elim
theorem imp_addT : Imp2 X.K addT (rCatT X.K) := by
  intro F WE S m H x y v u Q rs rx ry p
  unfold addT at p
  split at p
  · rename_i i j e1 e2
    obtain ⟨a, xs, rfl, hx, r1⟩ := viewT_ok rx e1
    obtain ⟨b, ys, rfl, hy, r2⟩ := viewT_ok ry e2
    split at p
    · rename_i hc
      have l1 := r1.length
      have l2 := r2.length
      refine ⟨a, b, xs, ys, rfl, rfl, hx, hy, fun z => hc.2 ?_, by omega, fun z => ?_, fun z q hq => ?_⟩
      · subst z; cases r1; rfl
      · subst z
        cases r2
        rw [if_pos (show ([] : List D).isEmpty = true from rfl)] at p
        exact p.ok rs rx
      · rw [if_neg ?_] at p
        · exact new_tup rs (r1.append r2) hq p
        · intro e
          have : j = [] := List.isEmpty_iff.mp e
          subst this
          cases r2
          exact z rfl
    · exact p.elim
  · exact p.elim
theorem imp_addL : Imp2 X.K addL rCat := by
  intro F WE S m H x y v u Q rs rx ry p
  unfold addL at p
  split at p
  · rename_i i j e1 e2
    obtain ⟨a, xs, rfl, hx, r1⟩ := viewX_ok rs rx e1
    obtain ⟨b, ys, rfl, hy, r2⟩ := viewX_ok rs ry e2
    split at p
    · rename_i hc
      have l1 := r1.length
      have l2 := r2.length
      exact ⟨a, b, xs, ys, rfl, rfl, hx, hy, by omega, fun q hq => new_lst rs (r1.append r2) hq p⟩
    · exact p.elim
  · exact p.elim
end
/-- a * b: ints, a text n times, a list n times, a tuple n times -/
def mulS (x y : D) (S : Sto) : Res D := match x.str?, y.int? with
  | some a, some n => if -(2 ^ 62) ≤ n ∧ n < 2 ^ 62 ∧ a.length * n.toNat ≤ sizeLine then .ok (.str (Txt.mul a n)) S else .bad
  | _, _ => .bad
def mulL (x y : D) (S : Sto) : Res D := match viewX S x, y.int? with
  | some a, some n => if -(2 ^ 63) ≤ n ∧ n < 2 ^ 63 ∧ a.length * n.toNat ≤ sizeLine then .ok (.lst (List.replicate n.toNat a).flatten) S else .bad
  | _, _ => .bad
def mulT (x y : D) (S : Sto) : Res D := match viewT x, y.int? with
  | some a, some n => if a ≠ [] ∧ 2 ≤ n ∧ n ≤ 1000 ∧ a.length ≤ 1000 then .ok (.tup (List.replicate n.toNat a).flatten) S else .bad
  | _, _ => .bad
def mulD : D → D → Sto → Res D := alt (fun x _ _ => x.isInt) mulI (alt (fun x _ _ => x.isStr) mulS (alt (fun x _ _ => x.isTup) mulT mulL))
theorem mulOk_by {a : Str} {n : Int} (h1 : -(2 ^ 62) ≤ n) (h2 : n < 2 ^ 62) (h3 : a.length * n.toNat ≤ sizeLine) : MulOk a n := by
  have hz : (sizeLine : Nat) = 16777216 := sizeLine_eq
  refine ⟨?_, fun h _ => ?_, fun h _ => ?_⟩
  · have e1 : ¬ n < -(2 ^ 63 : Int) := by omega
    have e2 : ¬ n ≥ (2 ^ 63 : Int) := by omega
    rw [decide_eq_false e1, decide_eq_false e2]
    rfl
  · have hn : (n.toNat : Int) = n := by omega
    have h3' : (a.length : Int) * n ≤ 16777216 := by
      have : ((a.length * n.toNat : Nat) : Int) ≤ ((16777216 : Nat) : Int) := by rw [← hz]; exact_mod_cast h3
      rw [Int.natCast_mul, hn] at this
      exact this
    have : (a.length : Int) ≤ (2 ^ 63 - 1) / n := (Int.le_ediv_iff_mul_le (by omega)).mpr (by omega)
    omega
  · exact decide_eq_false (Nat.not_lt.mpr h3)
section
variable {X : Cx}
theorem op_mul_str : OpR X (binaryOp .Mult) (fun x y H Q => ∃ a n, x = .str a ∧ y = .int n ∧ MulOk a n ∧ Q (.str (Txt.mul a n)) H) := by
  intro pins s σ H x y v u Q I rx ry h
  obtain ⟨a, n, rfl, rfl, hk, q⟩ := h
  obtain ⟨t, rfl⟩ := rx
  obtain ⟨t', rfl⟩ := ry
  exact SB.mul hk fun t2 k => ⟨.str _, H, I.tok k, ⟨_, rfl⟩, q⟩
theorem imp_mulS : Imp2 X.K mulS (fun x y H Q => ∃ a n, x = .str a ∧ y = .int n ∧ MulOk a n ∧ Q (.str (Txt.mul a n)) H) := by
  intro F WE S m H x y v u Q rs rx ry p
  unfold mulS at p
  split at p
  · rename_i i j e1 e2
    split at p
    · rename_i hc
      exact ⟨i, j, str_ok rx e1, int_ok ry e2, mulOk_by hc.1 hc.2.1 hc.2.2, p.ok rs (.str _)⟩
    · exact p.elim
  · exact p.elim
theorem imp_mulL : Imp2 X.K mulL rRep := by
  intro F WE S m H x y v u Q rs rx ry p
  unfold mulL at p
  split at p
  · rename_i i j e1 e2
    obtain ⟨a, xs, rfl, hx, r1⟩ := viewX_ok rs rx e1
    split at p
    · rename_i hc
      have l1 := r1.length
      exact ⟨a, j, xs, rfl, int_ok ry e2, hx, hc.1, hc.2.1, by rw [← l1]; exact hc.2.2, fun q hq => new_lst rs (r1.rep _) hq p⟩
    · exact p.elim
  · exact p.elim
theorem imp_mulT : Imp2 X.K mulT (rRepT X.K) := by
  intro F WE S m H x y v u Q rs rx ry p
  unfold mulT at p
  split at p
  · rename_i i j e1 e2
    obtain ⟨a, xs, rfl, hx, r1⟩ := viewT_ok rx e1
    split at p
    · rename_i hc
      have l1 := r1.length
      refine ⟨a, j, xs, rfl, int_ok ry e2, hx, fun z => hc.1 ?_, hc.2.1, hc.2.2.1, by omega, fun q hq => new_tup rs (r1.rep _) hq p⟩
      subst z
      cases r1
      rfl
    · exact p.elim
  · exact p.elim
end
section
variable {X : Cx} {W : Wi} {a b : Expr} {pos : Pos} {f g : Env → Sto → Res D}
theorem pev_op {op : Operator} {r : R2} {k : D → D → Sto → Res D} (ho : OpR X (binaryOp op) r) (h : Imp2 X.K k r) (ha : PEv X W a f) (hb : PEv X W b g) : PEv X W (.BinOp a op b pos) (v2 k f g) :=
  pe_imp (pe_op ho ha hb) fun _ _ _ t => t_op h t
theorem pev_add (ha : PEv X W a f) (hb : PEv X W b g) : PEv X W (.BinOp a .Add b pos) (v2 addD f g) :=
  pev_op (op_add.or (op_add_str.or (op_catT.or op_cat))) ((imp_I0 fun _ i j => .int _).alt (imp_addS.alt (imp_addT.alt imp_addL))) ha hb
theorem pev_mul (ha : PEv X W a f) (hb : PEv X W b g) : PEv X W (.BinOp a .Mult b pos) (v2 mulD f g) :=
  pev_op (op_mul.or (op_mul_str.or (op_repT.or op_rep))) ((imp_I fun _ i j => .int _).alt (imp_mulS.alt (imp_mulT.alt imp_mulL))) ha hb
theorem pev_sub (ha : PEv X W a f) (hb : PEv X W b g) : PEv X W (.BinOp a .Sub b pos) (v2 subD f g) := pev_op op_sub (imp_I0 fun _ i j => .int _) ha hb
theorem pev_fdiv (ha : PEv X W a f) (hb : PEv X W b g) : PEv X W (.BinOp a .FloorDiv b pos) (v2 fdivD f g) := pev_op op_fdiv (imp_I fun _ i j => .int _) ha hb
theorem pev_mod (ha : PEv X W a f) (hb : PEv X W b g) : PEv X W (.BinOp a .Mod b pos) (v2 modD f g) := pev_op op_mod (imp_I fun _ i j => .int _) ha hb
theorem pev_pow (ha : PEv X W a f) (hb : PEv X W b g) : PEv X W (.BinOp a .Pow b pos) (v2 powD f g) := pev_op op_pow (imp_I fun _ i j => .int _) ha hb
end
end Ev

set_option Elab.async false
set_option linter.all false
set_option maxRecDepth 100000
set_option maxHeartbeats 4000000
/-! Ev4: comparisons, tests, displays, subscripts. -/
namespace Ev
open PySem PySem.Spec L2
open PyProof.Rows hiding St

/-! ### comparisons by values -/
def cmpP (g : PyData → PyData → Bool) (x y : D) (S : Sto) : Res D := match (top S x).toPy, (top S y).toPy with
  | some p, some q => if SeqAt.shaped p = true ∧ SeqAt.shaped q = true then .ok (.bl (g p q)) S else .bad
  | _, _ => .bad
def eqD : D → D → Sto → Res D := cmpP PyData.eqv
def neD : D → D → Sto → Res D := cmpP fun p q => !PyData.eqv p q
def strB (g : Str → Str → Bool) (x y : D) (S : Sto) : Res D := match x.str?, y.str? with
  | some a, some b => .ok (.bl (g a b)) S
  | _, _ => .bad
def intB (g : Int → Int → Bool) : D → D → Sto → Res D := opI (fun _ _ => true) fun i j => .bl (g i j)
def ordD (gi : Int → Int → Bool) (gs : Str → Str → Bool) : D → D → Sto → Res D := alt (fun x _ _ => x.isInt) (intB gi) (strB gs)
def ltD : D → D → Sto → Res D := ordD (fun i j => decide (i < j)) fun a b => decide (a.cps.toList < b.cps.toList)
def leD : D → D → Sto → Res D := ordD (fun i j => decide (i ≤ j)) fun a b => !decide (b.cps.toList < a.cps.toList)
def gtD : D → D → Sto → Res D := ordD (fun i j => decide (j < i)) fun a b => decide (b.cps.toList < a.cps.toList)
def geD : D → D → Sto → Res D := ordD (fun i j => decide (j ≤ i)) fun a b => !decide (a.cps.toList < b.cps.toList)
def D.isNon : D → Bool
  | .non => true
  | _ => false
def isN (x y : D) (S : Sto) : Res D := if y.isNon = true then .ok (.bl x.isNon) S else .bad
def notN (x y : D) (S : Sto) : Res D := if y.isNon = true then .ok (.bl (!x.isNon)) S else .bad
/-- the one sign of a text -/
def sign? (x : D) : Option Nat := match x with
  | .str ⟨⟨[c]⟩⟩ => some c
  | _ => none
def inSig (neg : Bool) (x y : D) (S : Sto) : Res D := match sign? x, y.str? with
  | some c, some z => .ok (.bl (if neg then !decide (c ∈ z.cps.toList) else decide (c ∈ z.cps.toList))) S
  | _, _ => .bad
def inQ (neg : Bool) (x y : D) (S : Sto) : Res D := match x.flat, (viewQ S y).bind flats with
  | some v, some vs => .ok (.bl (if neg then !inV v vs else inV v vs)) S
  | _, _ => .bad
def inD (neg : Bool) : D → D → Sto → Res D := alt (fun _ y _ => y.isStr) (inSig neg) (inQ neg)
section
variable {X : Cx}
theorem imp_cmp {g : PyData → PyData → Bool} : Imp2 X.K (cmpP g) (fun x y H Q => ∃ d e, Dp X.K H x d ∧ Dp X.K H y e ∧ SeqAt.shaped d = true ∧ SeqAt.shaped e = true ∧ Q (.bl (g d e)) H) := by
  intro F WE S m H x y v u Q rs rx ry p
  unfold cmpP at p
  split at p
  · rename_i i j e1 e2
    split at p
    · rename_i hc
      exact ⟨i, j, top_ok rs rx e1, top_ok rs ry e2, hc.1, hc.2, p.ok rs (.bl _)⟩
    · exact p.elim
  · exact p.elim
theorem imp_strB {g : Str → Str → Bool} : Imp2 X.K (strB g) (fun x y H Q => ∃ i j, x = .str i ∧ y = .str j ∧ Q (.bl (g i j)) H) := by
  intro F WE S m H x y v u Q rs rx ry p
  unfold strB at p
  split at p
  · rename_i i j e1 e2
    exact ⟨i, j, str_ok rx e1, str_ok ry e2, p.ok rs (.bl _)⟩
  · exact p.elim
theorem imp_intB {g : Int → Int → Bool} : Imp2 X.K (intB g) (rI0 fun i j => .bl (g i j)) := imp_I0 fun _ i j => .bl _
theorem imp_ord {gi : Int → Int → Bool} {gs : Str → Str → Bool} : Imp2 X.K (ordD gi gs) (fun x y H Q => rI0 (fun i j => .bl (gi i j)) x y H Q ∨ ∃ i j, x = .str i ∧ y = .str j ∧ Q (.bl (gs i j)) H) := imp_intB.alt imp_strB
theorem non_ok {c : RC} {d : D} {v : V} (r : RV c d v) : decide (v = .non) = d.isNon := by
  cases r <;> rfl
theorem imp_isN : Imp2 X.K isN (fun x y H Q => y = .non ∧ Q (.bl (decide (x = .non))) H) := by
  intro F WE S m H x y v u Q rs rx ry p
  unfold isN at p
  split at p
  · rename_i h
    refine ⟨of_decide_eq_true ((non_ok ry).trans h), ?_⟩
    rw [non_ok rx]
    exact p.ok rs (.bl _)
  · exact p.elim
theorem imp_notN : Imp2 X.K notN (fun x y H Q => y = .non ∧ Q (.bl (!decide (x = .non))) H) := by
  intro F WE S m H x y v u Q rs rx ry p
  unfold notN at p
  split at p
  · rename_i h
    refine ⟨of_decide_eq_true ((non_ok ry).trans h), ?_⟩
    rw [non_ok rx]
    exact p.ok rs (.bl _)
  · exact p.elim
theorem sign_ok {c : RC} {d : D} {v : V} {n : Nat} (r : RV c d v) (e : sign? d = some n) : v = .str ⟨#[n]⟩ := by
  unfold sign? at e
  split at e
  · cases e
    cases r
    rfl
  · cases e
theorem imp_inSig {neg : Bool} : Imp2 X.K (inSig neg) (fun x y H Q => ∃ (c : Nat) (z : Str), x = .str ⟨#[c]⟩ ∧ y = .str z ∧ Q (.bl (if neg then !decide (c ∈ z.cps.toList) else decide (c ∈ z.cps.toList))) H) := by
  intro F WE S m H x y v u Q rs rx ry p
  unfold inSig at p
  split at p
  · rename_i i j e1 e2
    exact ⟨i, j, sign_ok rx e1, str_ok ry e2, p.ok rs (.bl _)⟩
  · exact p.elim
theorem imp_inQ {neg : Bool} : Imp2 X.K (inQ neg) (rIn X.K neg) := by
  intro F WE S m H x y v u Q rs rx ry p
  unfold inQ at p
  split at p
  · rename_i i j e1 e2
    cases q : viewQ S y with
    | none => rw [q] at e2; cases e2
    | some ds =>
      rw [q] at e2
      obtain ⟨a, xs, rfl, hx, r1⟩ := viewQ_ok rs ry q
      obtain ⟨f1, f2⟩ := flat_ok rx e1
      obtain ⟨f3, f4⟩ := flats_ok r1 e2
      subst f1 f3
      exact ⟨a, xs, rfl, hx, f2, f4, p.ok rs (.bl _)⟩
  · exact p.elim
theorem op_inS {neg : Bool} : OpR X (compareOp (if neg then .NotIn else .In)) (fun x y H Q => ∃ (c : Nat) (z : Str), x = .str ⟨#[c]⟩ ∧ y = .str z ∧ Q (.bl (if neg then !decide (c ∈ z.cps.toList) else decide (c ∈ z.cps.toList))) H) := by
  cases neg with
  | true => exact op_notIn_sign
  | false => exact op_in_sign
end

/-! ### comparisons -/
section
variable {X : Cx} {W : Wi} {a b c : Expr} {pos : Pos} {f g h : Env → Sto → Res D} {n : Nat}
/-- a bool's test -/
def asB (d : D) (S : Sto) : Res Bool := match d.bl? with
  | some b => .ok b S
  | none => .bad
def vB (f : Env → Sto → Res D) (ρ : Env) (S : Sto) : Res Bool := (f ρ S).bind asB
theorem t_test {σ : St} {H : Hp} {Q : Bool → Hp → Prop} (t : TBl X.K W (vB f) σ H Q) : TD X.K W f σ H fun x H' => ∃ k, x = .bl k ∧ Q k H' := by
  refine t_mono (T.bind (R := RV) t) fun v H1 ⟨ρ, S, m, F, d, st, r, p⟩ => ?_
  unfold asB at p
  split at p
  · rename_i b e
    exact ⟨b, bl_ok r e, Post.ok (R := RB) p st.s rfl⟩
  · exact p.elim
theorem pev_cmp {op : CmpOp} {r : R2} {k : D → D → Sto → Res D} (ho : OpR X (compareOp op) r) (h : Imp2 X.K k r) (ha : PEv X W a f) (hb : PEv X W b g) (hm : behindInMarks op b = false) : PEv X W (.Compare a [op] [b] pos) (v2 k f g) :=
  pe_imp (pe_cmpR ho ha hb hm) fun _ _ _ t => t_op h t
theorem ptv_cmp {op : CmpOp} {r : R2} {k : D → D → Sto → Res D} (ho : OpR X (compareOp op) r) (h : Imp2 X.K k r) (ha : PEv X W a f) (hb : PEv X W b g) (hm : behindInMarks op b = false) : PTv X W (.Compare a [op] [b] pos) (vB (v2 k f g)) :=
  pt_imp (pt_cmpR ho ha hb hm) fun _ _ _ t => t_op h (t_test t)
/-- the rule of an operator: what the layer asks, what k does -/
structure CmpR (X : Cx) (op : CmpOp) (k : D → D → Sto → Res D) : Prop where
  run : ∃ r, OpR X (compareOp op) r ∧ Imp2 X.K k r
theorem cr_eq (hr : Rm n X.A) : CmpR X .Eq eqD := ⟨_, op_eqD hr.units, imp_cmp⟩
theorem cr_ne (hr : Rm n X.A) : CmpR X .NotEq neD := ⟨_, op_neD hr.units, imp_cmp⟩
theorem cr_lt : CmpR X .Lt ltD := ⟨_, op_lt.or op_lt_str, imp_ord⟩
theorem cr_le : CmpR X .LtE leD := ⟨_, op_le.or op_le_str, imp_ord⟩
theorem cr_gt : CmpR X .Gt gtD := ⟨_, op_gt.or op_gt_str, imp_ord⟩
theorem cr_ge : CmpR X .GtE geD := ⟨_, op_ge.or op_ge_str, imp_ord⟩
theorem cr_is : CmpR X .Is isN := ⟨_, op_isN, imp_isN⟩
theorem cr_isnot : CmpR X .IsNot notN := ⟨_, op_notN, imp_notN⟩
theorem cr_in : CmpR X .In (inD false) := ⟨_, (op_inS (neg := false)).or op_in_seq, imp_inSig.alt imp_inQ⟩
theorem cr_notin : CmpR X .NotIn (inD true) := ⟨_, (op_inS (neg := true)).or op_notIn_seq, imp_inSig.alt imp_inQ⟩
theorem pev_c {op : CmpOp} {k : D → D → Sto → Res D} (hk : CmpR X op k) (ha : PEv X W a f) (hb : PEv X W b g) (hm : behindInMarks op b = false := by first | exact nomark _ | rfl) : PEv X W (.Compare a [op] [b] pos) (v2 k f g) := by
  obtain ⟨r, ho, h⟩ := hk.run
  exact pev_cmp ho h ha hb hm
theorem ptv_c {op : CmpOp} {k : D → D → Sto → Res D} (hk : CmpR X op k) (ha : PEv X W a f) (hb : PEv X W b g) (hm : behindInMarks op b = false := by first | exact nomark _ | rfl) : PTv X W (.Compare a [op] [b] pos) (vB (v2 k f g)) := by
  obtain ⟨r, ho, h⟩ := hk.run
  exact ptv_cmp ho h ha hb hm
/-- a op b op' c -/
def v3 (k k' : D → D → Sto → Res D) (f g h : Env → Sto → Res D) (ρ : Env) (S : Sto) : Res D :=
  (f ρ S).bind fun x S => (g ρ S).bind fun y S => (k x y S).bind fun z S => (asB z S).bind fun t S => if t = true then (h ρ S).bind fun w S => k' y w S else .ok (.bl false) S
theorem t_chain {k k' : D → D → Sto → Res D} {r r' : R2} (i1 : Imp2 X.K k r) (i2 : Imp2 X.K k' r') {σ : St} {H : Hp} {Q : VK} (t : TD X.K W (v3 k k' f g h) σ H Q) : tChain r r' (TD X.K W f) (TD X.K W g) (TD X.K W h) σ H Q := by
  refine t_mono (T.bind (R := RV) t) fun x H1 ⟨ρ, S, m, F, d, st, rx, p⟩ => ?_
  refine t_mono (Post.next (R := RV) (R2 := RV) (fun l _ _ r => r.le l) st rx p) fun y H2 ⟨S2, m2, d2, st2, rx2, ry2, p2⟩ => ?_
  refine i1 _ _ S2 m2 H2 d d2 x y _ st2.s rx2 ry2 ((p2.bind (R := RV)).mono (fun z H3 ⟨S3, m3, z', l3, rs3, rz, p3⟩ => ?_) fun _ _ _ h => h)
  unfold asB at p3
  split at p3
  · rename_i tb e
    refine ⟨tb, bl_ok rz e, ?_⟩
    have p4 : Post X.K F RV (fun c d H' => W.w c d σ H') S3 m3 H3 (if tb = true then (h ρ S3).bind fun w S => k' d2 w S else .ok (.bl false) S3) Q := p3
    cases tb with
    | true =>
      rw [if_pos rfl] at p4 ⊢
      refine t_mono (Post.next (R := RV) (R2 := RV) (fun l _ _ r => r.le l) (st2.le l3 rs3) (ry2.le l3.rc) p4) fun w H4 ⟨S4, m4, d4, st4, ry4, rw4, p5⟩ => ?_
      exact i2 _ _ S4 m4 H4 d2 d4 y w Q st4.s ry4 rw4 p5
    | false =>
      rw [if_neg Bool.false_ne_true] at p4 ⊢
      exact p4.ok rs3 (.bl _)
  · exact p3.elim
theorem pev_ch {op op' : CmpOp} {k k' : D → D → Sto → Res D} (h1 : CmpR X op k) (h2 : CmpR X op' k') (ha : PEv X W a f) (hb : PEv X W b g) (hc : PEv X W c h) (hm : lastMarks [op, op'] [b, c] = false := by rfl) : PEv X W (.Compare a [op, op'] [b, c] pos) (v3 k k' f g h) := by
  obtain ⟨r, ho, i1⟩ := h1.run
  obtain ⟨r', ho', i2⟩ := h2.run
  exact pe_imp (pe_chain ho ho' ha hb hc hm) fun _ _ _ t => t_chain i1 i2 t
theorem ptv_ch {op op' : CmpOp} {k k' : D → D → Sto → Res D} (h1 : CmpR X op k) (h2 : CmpR X op' k') (ha : PEv X W a f) (hb : PEv X W b g) (hc : PEv X W c h) (hm : lastMarks [op, op'] [b, c] = false := by rfl) : PTv X W (.Compare a [op, op'] [b, c] pos) (vB (v3 k k' f g h)) := by
  obtain ⟨r, ho, i1⟩ := h1.run
  obtain ⟨r', ho', i2⟩ := h2.run
  exact pt_imp (pt_chain ho ho' ha hb hc hm) fun _ _ _ t => t_chain i1 i2 (t_test t)

/-! ### truth, and, or, not, if -/
def truth (S : Sto) : D → Option Bool
  | .non => some false
  | .bl b => some b
  | .int i => some (i != 0)
  | .str y => if y.length ≤ sizeLine then some ((y.length : Int) != 0) else none
  | .tup ds => some (!ds.isEmpty)
  | .dK kvs => some (!kvs.isEmpty)
  | d => (viewL S d).map fun ds => !ds.isEmpty
def asT (d : D) (S : Sto) : Res Bool := match truth S d with
  | some b => .ok b S
  | none => .bad
def vT (f : Env → Sto → Res D) (ρ : Env) (S : Sto) : Res Bool := (f ρ S).bind asT
theorem RVs.empty {c : RC} {ds : List D} {xs : List V} (r : RVs c ds xs) : xs.isEmpty = ds.isEmpty := by cases r <;> rfl
theorem RVk.empty {c : RC} {ds : List (Key × D)} {xs : List (Key × V)} (r : RVk c ds xs) : xs.isEmpty = ds.isEmpty := by cases r <;> rfl
theorem truth_ok {K : PySem.W.Frag} {F : Addr → Prop} {S : Sto} {m : List Addr} {H : Hp} (rs : RS K F S m H) {d : D} {v : V} {b : Bool} (r : RV (rc K F S m H) d v) (e : truth S d = some b) : TruV K v H b := by
  have vl : ∀ {d : D}, RV (rc K F S m H) d v → (viewL S d).map (fun ds => !ds.isEmpty) = some b → TruV K v H b := fun {d} r e => by
    cases q : viewL S d with
    | none => rw [q] at e; cases e
    | some ds =>
      rw [q] at e
      cases e
      obtain ⟨a, xs, rfl, hx, r1⟩ := viewL_ok rs r q
      exact .inl ⟨xs, hx, by rw [r1.empty]⟩
  cases d with
  | non => cases r; cases e; rfl
  | bl => cases r; cases e; rfl
  | int => cases r; cases e; rfl
  | str y =>
    cases r
    have e' : (if y.length ≤ sizeLine then some ((y.length : Int) != 0) else none) = some b := e
    split at e'
    · rename_i h
      cases e'
      exact ⟨h, rfl⟩
    · cases e'
  | tup ds =>
    cases r with
    | tup h r1 =>
      cases e
      exact .inr (.inl ⟨_, SqT.tr h, by rw [r1.empty]⟩)
  | dK ds =>
    cases r with
    | dK h n r1 =>
      cases e
      exact .inr (.inr ⟨_, h, by rw [r1.empty]⟩)
  | lst ds => exact vl r e
  | fro ds => exact vl r e
  | box n => exact vl r e
  | ty n => cases e
  | gl n => cases e
  | ins C fs => cases e
  | exi C fs => cases e
  | xc a dd C fs => cases e
theorem ptv_truth (ha : PEv X W a f) (he : ∀ whole, PySem.isTrue a X.env whole = (do let v ← whole; standAt a.pos; holding [v] (truthy v)) := by intro _; rfl) : PTv X W a (vT f) := by
  refine pt_imp (pt_truth ha he) fun σ H Q t => ?_
  refine t_mono (T.bind (R := RV) t) fun v H1 ⟨ρ, S, m, F, d, st, r, p⟩ => ?_
  unfold asT at p
  split at p
  · rename_i b e
    exact ⟨b, truth_ok st.s r e, Post.ok (R := RB) p st.s rfl⟩
  · exact p.elim
abbrev PWv (X : Cx) (W : Wi) (e : Expr) (f : Env → Sto → Res Bool) : Prop := PW X e (TBl X.K W f)
theorem pw_imp {e : Expr} {t t' : TT} (h : PW X e t) (i : ∀ σ H Q, t' σ H Q → t σ H Q) : PW X e t' := ⟨fun w pins s σ H Q I q => h.run w pins s σ H Q I (i _ _ _ q)⟩
def bAnd (f g : Env → Sto → Res Bool) (ρ : Env) (S : Sto) : Res Bool := (f ρ S).bind fun t S => if t = true then g ρ S else .ok false S
def bOr (f g : Env → Sto → Res Bool) (ρ : Env) (S : Sto) : Res Bool := (f ρ S).bind fun t S => if t = true then .ok true S else g ρ S
def bNot (f : Env → Sto → Res Bool) (ρ : Env) (S : Sto) : Res Bool := (f ρ S).bind fun t S => .ok (!t) S
variable {ft gt : Env → Sto → Res Bool} {rest : List Expr}
theorem pwv_and1 (ha : PTv X W a ft) : PWv X W (.BoolOp .And [a] pos) ft := pw_and1 ha
theorem pwv_or1 (ha : PTv X W a ft) : PWv X W (.BoolOp .Or [a] pos) ft := pw_or1 ha
theorem pwv_and (ha : PTv X W a ft) (hb : PWv X W (.BoolOp .And (b :: rest) pos) gt) : PWv X W (.BoolOp .And (a :: b :: rest) pos) (bAnd ft gt) := by
  refine pw_imp (pw_and ha hb) fun σ H Q t => ?_
  refine t_mono (T.bind (R := RB) t) fun v H1 ⟨ρ, S, m, F, d, st, r, p⟩ => ?_
  cases r
  cases v with
  | true => rw [if_pos rfl] at p ⊢; exact ⟨ρ, S, m, F, st, p⟩
  | false => rw [if_neg Bool.false_ne_true] at p ⊢; exact Post.ok (R := RB) p st.s rfl
theorem pwv_or (ha : PTv X W a ft) (hb : PWv X W (.BoolOp .Or (b :: rest) pos) gt) : PWv X W (.BoolOp .Or (a :: b :: rest) pos) (bOr ft gt) := by
  refine pw_imp (pw_or ha hb) fun σ H Q t => ?_
  refine t_mono (T.bind (R := RB) t) fun v H1 ⟨ρ, S, m, F, d, st, r, p⟩ => ?_
  cases r
  cases v with
  | true => rw [if_pos rfl] at p ⊢; exact Post.ok (R := RB) p st.s rfl
  | false => rw [if_neg Bool.false_ne_true] at p ⊢; exact ⟨ρ, S, m, F, st, p⟩
theorem ptv_w {e : Expr} (h : PWv X W e ft) : PTv X W e ft := h.pt
theorem ptv_not (ha : PTv X W a ft) : PTv X W (.UnaryOp .Not a pos) (bNot ft) := by
  refine pt_imp (pt_not ha) fun σ H Q t => ?_
  exact t_mono (T.bind (R := RB) t) fun v H1 ⟨ρ, S, m, F, d, st, r, p⟩ => by
    cases r
    exact Post.ok (R := RB) p st.s rfl
/-- as values: by truth -/
def vAnd (f g : Env → Sto → Res D) (ρ : Env) (S : Sto) : Res D := (f ρ S).bind fun d S => (asT d S).bind fun t S => if t = true then g ρ S else .ok d S
def vOr (f g : Env → Sto → Res D) (ρ : Env) (S : Sto) : Res D := (f ρ S).bind fun d S => (asT d S).bind fun t S => if t = true then .ok d S else g ρ S
def vNot (f : Env → Sto → Res D) (ρ : Env) (S : Sto) : Res D := (f ρ S).bind fun d S => (asT d S).bind fun t S => .ok (.bl (!t)) S
theorem asT_ok {d : D} {S : Sto} {v : V} {m : List Addr} {H : Hp} {K : PySem.W.Frag} {α β : Type} {R : RC → α → β → Prop} {WE : Value → Option Addr → Hp → Prop} {k : Bool → Sto → Res α} {Q : β → Hp → Prop} (rs : RS K F S m H) (r : RV (rc K F S m H) d v)
    (p : Post K F R WE S m H ((asT d S).bind k) Q) : ∃ b, TruV K v H b ∧ Post K F R WE S m H (k b S) Q := by
  unfold asT at p
  split at p
  · rename_i b e
    exact ⟨b, truth_ok rs r e, p⟩
  · exact p.elim
theorem pev_one {op : BoolOp} (h : PEv X W a f) : PEv X W (.BoolOp op [a] pos) f := pe_one h
theorem pev_and (ha : PEv X W a f) (hb : PEv X W (.BoolOp .And (b :: rest) pos) g) : PEv X W (.BoolOp .And (a :: b :: rest) pos) (vAnd f g) := by
  refine pe_imp (pe_andT ha hb) fun σ H Q t => ?_
  refine t_mono (T.bind (R := RV) t) fun v H1 ⟨ρ, S, m, F, d, st, r, p⟩ => ?_
  obtain ⟨b, tb, p⟩ := asT_ok st.s r p
  refine ⟨b, tb, ?_⟩
  cases b with
  | true => rw [if_pos rfl] at p ⊢; exact ⟨ρ, S, m, F, st, p⟩
  | false => rw [if_neg Bool.false_ne_true] at p ⊢; exact p.ok st.s r
theorem pev_or (ha : PEv X W a f) (hb : PEv X W (.BoolOp .Or (b :: rest) pos) g) : PEv X W (.BoolOp .Or (a :: b :: rest) pos) (vOr f g) := by
  refine pe_imp (pe_orT ha hb) fun σ H Q t => ?_
  refine t_mono (T.bind (R := RV) t) fun v H1 ⟨ρ, S, m, F, d, st, r, p⟩ => ?_
  obtain ⟨b, tb, p⟩ := asT_ok st.s r p
  refine ⟨b, tb, ?_⟩
  cases b with
  | true => rw [if_pos rfl] at p ⊢; exact p.ok st.s r
  | false => rw [if_neg Bool.false_ne_true] at p ⊢; exact ⟨ρ, S, m, F, st, p⟩
theorem pev_not (ha : PEv X W a f) : PEv X W (.UnaryOp .Not a pos) (vNot f) := by
  refine pe_imp (pe_notT ha) fun σ H Q t => ?_
  refine t_mono (T.bind (R := RV) t) fun v H1 ⟨ρ, S, m, F, d, st, r, p⟩ => ?_
  obtain ⟨b, tb, p⟩ := asT_ok st.s r p
  exact ⟨b, tb, p.ok st.s (.bl _)⟩
def vIf (c : Env → Sto → Res Bool) (f g : Env → Sto → Res D) (ρ : Env) (S : Sto) : Res D := (c ρ S).bind fun t S => if t = true then f ρ S else g ρ S
theorem pev_if (hc : PTv X W c ft) (ha : PEv X W a f) (hb : PEv X W b g) : PEv X W (.IfExp c a b pos) (vIf ft f g) := by
  refine pe_imp (pe_ifExp hc ha hb) fun σ H Q t => ?_
  refine t_mono (T.bind (R := RB) t) fun v H1 ⟨ρ, S, m, F, d, st, r, p⟩ => ?_
  cases r
  cases v with
  | true => rw [if_pos rfl] at p ⊢; exact ⟨ρ, S, m, F, st, p⟩
  | false => rw [if_neg Bool.false_ne_true] at p ⊢; exact ⟨ρ, S, m, F, st, p⟩
theorem un_negate : UnR X (unaryOp .USub) (rU fun i => .int (-i)) := un_neg
def vNeg (f : Env → Sto → Res D) (ρ : Env) (S : Sto) : Res D := (f ρ S).bind fun d S => match d.int? with
  | some i => .ok (.int (-i)) S
  | none => .bad
theorem pev_neg (ha : PEv X W a f) : PEv X W (.UnaryOp .USub a pos) (vNeg f) := by
  refine pe_imp (pe_un un_neg ha) fun σ H Q t => ?_
  refine t_mono (T.bind (R := RV) t) fun v H1 ⟨ρ, S, m, F, d, st, r, p⟩ => ?_
  split at p
  · rename_i i e
    exact ⟨i, int_ok r e, p.ok st.s (.int _)⟩
  · exact p.elim
end
end Ev

set_option Elab.async false
set_option linter.all false
set_option maxRecDepth 100000
set_option maxHeartbeats 4000000
/-! Ev5: arguments, displays, subscripts, slices, calls of the built-in. -/
namespace Ev
open PySem PySem.Spec L2
open PyProof.Rows hiding St

def aNil (_ : Env) (S : Sto) : Res (List D) := .ok [] S
def aCons (f : Env → Sto → Res D) (g : Env → Sto → Res (List D)) (ρ : Env) (S : Sto) : Res (List D) := (f ρ S).bind fun d S => (g ρ S).bind fun ds S => .ok (d :: ds) S
section
variable {X : Cx} {W : Wi} {a b e : Expr} {es : List Expr} {pos : Pos} {f g h : Env → Sto → Res D} {al : Env → Sto → Res (List D)} {n : Nat}
theorem pav_nil : PAv X W [] aNil := pa_imp pa_nil fun _ _ _ ⟨_, _, _, _, st, p⟩ => Post.ok (R := RVs) p st.s .nil
theorem pav_cons (ha : PEv X W e f) (hr : PAv X W es al) (hs : starEach (e :: es) X.env = (false, eval e X.env) :: starEach es X.env := by rfl) : PAv X W (e :: es) (aCons f al) := by
  refine pa_imp (pa_cons ha hr hs) fun σ H Q t => ?_
  refine t_mono (T.bind (R := RV) t) fun x H1 ⟨ρ, S, m, F, d, st, rx, p⟩ => ?_
  refine t_mono (Post.next (R := RVs) (R2 := RV) (fun l _ _ r => r.le l) st rx p) fun y H2 ⟨S2, m2, d2, st2, rx2, ry2, p2⟩ => ?_
  exact Post.ok (R := RVs) p2 st2.s (.cons rx2 ry2)
/-- arguments, then k -/
def vL (k : List D → Sto → Res D) (al : Env → Sto → Res (List D)) (ρ : Env) (S : Sto) : Res D := (al ρ S).bind k
theorem t_args {K : PySem.W.Frag} {k : List D → Sto → Res D} {r : List V → Hp → VK → Prop} (h : ImpL K k r) {σ : St} {H : Hp} {Q : VK} (t : TD K W (vL k al) σ H Q) : TL K W al σ H fun vs H1 => r vs H1 Q :=
  t_mono (T.bind (R := RVs) t) fun vs H1 ⟨ρ, S, m, F, ds, st, rx, p⟩ => h F _ S m H1 ds vs Q st.s rx p
def mkTup (ds : List D) (S : Sto) : Res D := if ds.length ≤ sizeLine then .ok (.tup ds) S else .bad
def mkLst (ds : List D) (S : Sto) : Res D := if ds.length ≤ sizeLine then .ok (.lst ds) S else .bad
theorem pev_tup {z : Nat} (ha : PAv X W es al) : PEv X W (.Tuple es z pos) (vL mkTup al) := by
  refine pe_imp (pe_tup ha) fun σ H Q t => ?_
  refine t_args (r := fun xs H1 Q => xs.length ≤ sizeLine ∧ ∀ p, H1 p = none → Q (.ref p) (upd H1 p (.tup xs))) (fun F WE S m H ds vs Q rs r p => ?_) t
  unfold mkTup at p
  split at p
  · rename_i hc
    exact ⟨by rw [← r.length]; exact hc, fun q hq => new_tup rs r hq p⟩
  · exact p.elim
theorem pev_lst (ha : PAv X W es al) : PEv X W (.List es pos) (vL mkLst al) := by
  refine pe_imp (pe_lst ha) fun σ H Q t => ?_
  refine t_args (r := fun xs H1 Q => xs.length ≤ sizeLine ∧ ∀ p, H1 p = none → Q (.ref p) (upd H1 p (.lst xs))) (fun F WE S m H ds vs Q rs r p => ?_) t
  unfold mkLst at p
  split at p
  · rename_i hc
    exact ⟨by rw [← r.length]; exact hc, fun q hq => new_lst rs r hq p⟩
  · exact p.elim

/-! ### subscripts -/
theorem atI_rv {c : RC} {ds : List D} {vs : List V} {i : Int} {d : D} (r : RVs c ds vs) (e : atI ds i = some d) : ∃ v, atI vs i = some v ∧ RV c d v := by
  unfold atI at e ⊢
  rw [← r.length]
  cases q : ixN ds.length i with
  | none => rw [q] at e; cases e
  | some j =>
    rw [q] at e
    exact r.get e
def ixS (x y : D) (S : Sto) : Res D := match x.str?, y.int? with
  | some z, some i => if z.length ≤ sizeLine then (match atI z.cps.toList i with
    | some c => .ok (.str ⟨#[c]⟩) S
    | none => .bad) else .bad
  | _, _ => .bad
def ixL (x y : D) (S : Sto) : Res D := match viewL S x, y.int? with
  | some ds, some i => (match atI ds i with
    | some d => .ok d S
    | none => .bad)
  | _, _ => .bad
def ixT (x y : D) (S : Sto) : Res D := match viewT x, y.int? with
  | some ds, some i => (match atI ds i with
    | some d => .ok d S
    | none => .bad)
  | _, _ => .bad
def ixD : D → D → Sto → Res D := alt (fun x _ _ => x.isStr) ixS (alt (fun x _ _ => x.isTup) ixT ixL)
theorem imp_ixS {K : PySem.W.Frag} : Imp2 K ixS rIxS := by
  intro F WE S m H x y v u Q rs rx ry p
  unfold ixS at p
  split at p
  · rename_i z i e1 e2
    split at p
    · rename_i hz
      split at p
      · rename_i c e
        exact ⟨z, i, c, str_ok rx e1, int_ok ry e2, hz, e, p.ok rs (.str _)⟩
      · exact p.elim
    · exact p.elim
  · exact p.elim
theorem imp_ixL {K : PySem.W.Frag} : Imp2 K ixL (rIxL K) := by
  intro F WE S m H x y v u Q rs rx ry p
  unfold ixL at p
  split at p
  · rename_i z i e1 e2
    obtain ⟨a, xs, rfl, hx, r1⟩ := viewL_ok rs rx e1
    split at p
    · rename_i c e
      obtain ⟨w, e3, r3⟩ := atI_rv r1 e
      exact ⟨a, xs, i, w, rfl, int_ok ry e2, hx, e3, p.ok rs r3⟩
    · exact p.elim
  · exact p.elim
theorem imp_ixT {K : PySem.W.Frag} : Imp2 K ixT (rIxT K) := by
  intro F WE S m H x y v u Q rs rx ry p
  unfold ixT at p
  split at p
  · rename_i z i e1 e2
    obtain ⟨a, xs, rfl, hx, r1⟩ := viewT_ok rx e1
    split at p
    · rename_i c e
      obtain ⟨w, e3, r3⟩ := atI_rv r1 e
      exact ⟨a, xs, i, w, rfl, int_ok ry e2, hx, e3, p.ok rs r3⟩
    · exact p.elim
  · exact p.elim
theorem pev_ix (ha : PEv X W a f) (hb : PEv X W b g) (hs : PlainIx b := by exact fun _ _ => rfl) : PEv X W (.Subscript a b pos) (v2 ixD f g) :=
  pe_imp (pe_ix (ix_str.or (ix_tup.or ix_list)) ha hb hs) fun _ _ _ t => t_op (imp_ixS.alt (imp_ixT.alt imp_ixL)) t

/-! ### slices -/
def cutL {α : Type} (xs : List α) (lo hi : Option Int) : List α := (xs.drop (HT.sIx xs.length 0 lo)).take (HT.sIx xs.length xs.length hi - HT.sIx xs.length 0 lo)
theorem cut_rv {c : RC} {ds : List D} {vs : List V} (r : RVs c ds vs) (lo hi : Option Int) : RVs c (cutL ds lo hi) (cutV vs lo hi) := by
  unfold cutL cutV
  rw [← r.length]
  exact (r.drop _).take _
/-- a part of a slice -/
def RI (_ : RC) (a : Option Int) (b : Option Int) : Prop := a = b
abbrev POv (X : Cx) (W : Wi) (e : Option Expr) (f : Env → Sto → Res (Option Int)) : Prop := PO X e (T X.K RI W f)
theorem po_imp {e : Option Expr} {t t' : TO} (h : PO X e t) (i : ∀ σ H Q, t' σ H Q → t σ H Q) : PO X e t' := ⟨fun pins s σ H Q I q => h.run pins s σ H Q I (i _ _ _ q)⟩
def oSome (f : Env → Sto → Res D) (ρ : Env) (S : Sto) : Res (Option Int) := (f ρ S).bind fun d S => match d.int? with
  | some i => .ok (some i) S
  | none => .bad
def oNone (_ : Env) (S : Sto) : Res (Option Int) := .ok none S
theorem pov_some (h : PEv X W e f) : POv X W (some e) (oSome f) := by
  refine po_imp (po_some h) fun σ H Q t => ?_
  refine t_mono (T.bind (R := RV) t) fun v H1 ⟨ρ, S, m, F, d, st, r, p⟩ => ?_
  split at p
  · rename_i i e
    exact ⟨i, int_ok r e, Post.ok (R := RI) p st.s rfl⟩
  · exact p.elim
theorem pov_none : POv X W none oNone := po_imp po_none fun _ _ _ ⟨_, _, _, _, st, p⟩ => Post.ok (R := RI) p st.s rfl
def slS (x : D) (lo hi : Option Int) (S : Sto) : Res D := match x.str? with
  | some z => if z.length ≤ sizeLine then .ok (.str (cutS z lo hi)) S else .bad
  | none => .bad
def slL (x : D) (lo hi : Option Int) (S : Sto) : Res D := match viewL S x with
  | some ds => .ok (.lst (cutL ds lo hi)) S
  | none => .bad
def slT (x : D) (lo hi : Option Int) (S : Sto) : Res D := match viewT x with
  | some ds => if ¬ (HT.sIx ds.length 0 lo = 0 ∧ HT.sIx ds.length ds.length hi = ds.length) then .ok (.tup (cutL ds lo hi)) S else .bad
  | none => .bad
def slD (x : D) (lo hi : Option Int) (S : Sto) : Res D := if x.isStr = true then slS x lo hi S else if x.isTup = true then slT x lo hi S else slL x lo hi S
def vSl (f : Env → Sto → Res D) (lo hi : Env → Sto → Res (Option Int)) (ρ : Env) (S : Sto) : Res D := (f ρ S).bind fun x S => (lo ρ S).bind fun l S => (hi ρ S).bind fun u S => slD x l u S
theorem pev_slice {lo hi : Option Expr} {fl fh : Env → Sto → Res (Option Int)} {p2 : Pos} (ha : PEv X W a f) (hl : POv X W lo fl) (hh : POv X W hi fh) : PEv X W (.Subscript a (.Slice lo hi none p2) pos) (vSl f fl fh) := by
  refine pe_imp (pe_slice (sl_str.or (sl_tup.or sl_list)) ha hl hh) fun σ H Q t => ?_
  refine t_mono (T.bind (R := RV) t) fun x H1 ⟨ρ, S, m, F, d, st, rx, p⟩ => ?_
  refine t_mono (Post.next (R := RI) (R2 := RV) (fun l _ _ r => r.le l) st rx p) fun l H2 ⟨S2, m2, d2, st2, rx2, rl, p2⟩ => ?_
  refine t_mono (Post.next (R := RI) (R2 := RV) (fun l _ _ r => r.le l) st2 rx2 p2) fun u H3 ⟨S3, m3, d3, st3, rx3, ru, p3⟩ => ?_
  cases rl
  cases ru
  unfold slD at p3
  split at p3
  · left
    unfold slS at p3
    split at p3
    · rename_i z e
      split at p3
      · rename_i hz
        exact ⟨z, str_ok rx3 e, hz, p3.ok st3.s (.str _)⟩
      · exact p3.elim
    · exact p3.elim
  · right
    split at p3
    · left
      unfold slT at p3
      split at p3
      · rename_i ds e
        obtain ⟨q, xs, rfl, hx, r1⟩ := viewT_ok rx3 e
        split at p3
        · rename_i hc
          rw [r1.length] at hc
          exact ⟨q, xs, rfl, hx, hc, fun z hz => new_tup st3.s (cut_rv r1 _ _) hz p3⟩
        · exact p3.elim
      · exact p3.elim
    · right
      unfold slL at p3
      split at p3
      · rename_i ds e
        obtain ⟨q, xs, rfl, hx, r1⟩ := viewL_ok st3.s rx3 e
        exact ⟨q, xs, rfl, hx, fun z hz => new_lst st3.s (cut_rv r1 _ _) hz p3⟩
      · exact p3.elim
def revD (x : D) (S : Sto) : Res D := match viewL S x with
  | some ds => .ok (.lst ds.reverse) S
  | none => .bad
theorem pev_rev {k : Nat} {p1 p2 p3 : Pos} (ha : PEv X W a f) : PEv X W (.Subscript a (.Slice none none (some (.UnaryOp .USub (.Constant (.int 1) k p1) p2)) p3) pos) (v1 revD f) := by
  refine pe_imp (pe_revL ha) fun σ H Q t => ?_
  refine t_mono (T.bind (R := RV) t) fun x H1 ⟨ρ, S, m, F, d, st, rx, p⟩ => ?_
  unfold revD at p
  split at p
  · rename_i ds e
    obtain ⟨q, xs, rfl, hx, r1⟩ := viewL_ok st.s rx e
    exact ⟨q, xs, rfl, hx, fun z hz => new_lst st.s r1.reverse hz p⟩
  · exact p.elim

/-! ### calls of what is built in -/
/-- the built-in f called, by k -/
structure BltR (X : Cx) (u : Value) (k : List D → Sto → Res D) : Prop where
  run : ∃ r, CallR X u r ∧ ImpL X.K k r
theorem pev_callB {id : String} {x : Str} {p : Pos} {k : List D → Sto → Res D} (hk : BltR X (.builtin id) k) (hg : Gl X x) (hm : X.mg x = none) (hv : bootBuiltins x = some (.builtin id)) (ha : PAv X W (e :: es) al) (hn : x ≠ "__name__" := by decide) (hdb : (x == ("__debug__" : Str)) = false := by decide)
    (he : starEach (e :: es) X.env = (false, eval e X.env) :: starEach es X.env := by rfl) (hpl : (backTo pos (starEach es X.env)).any (·.1) = false := by rfl) : PEv X W (.Call (.Name x p) (e :: es) [] pos) (vL k al) := by
  obtain ⟨r, hc, h⟩ := hk.run
  exact pe_imp (pe_callB hc hg hm hv ha hn hdb he hpl) fun _ _ _ t => t_args h t
theorem pev_callT {id : String} {x : Str} {p : Pos} {k : List D → Sto → Res D} (hk : BltR X (.type id) k) (hg : Gl X x) (hm : X.mg x = none) (hv : bootBuiltins x = some (.type id)) (ha : PAv X W (e :: es) al) (hn : x ≠ "__name__" := by decide) (hdb : (x == ("__debug__" : Str)) = false := by decide)
    (he : starEach (e :: es) X.env = (false, eval e X.env) :: starEach es X.env := by rfl) (hpl : (backTo pos (starEach es X.env)).any (·.1) = false := by rfl) : PEv X W (.Call (.Name x p) (e :: es) [] pos) (vL k al) := by
  obtain ⟨r, hc, h⟩ := hk.run
  exact pe_imp (pe_callTy hc hg hm hv ha hn hdb he hpl) fun _ _ _ t => t_args h t
/-- one argument -/
def arg1 (k : D → Sto → Res D) (ds : List D) (S : Sto) : Res D := match ds with
  | [d] => k d S
  | _ => .bad
def arg2 (k : D → D → Sto → Res D) (ds : List D) (S : Sto) : Res D := match ds with
  | [d, e] => k d e S
  | _ => .bad
theorem impL1 {K : PySem.W.Frag} {k : D → Sto → Res D} {r : V → Hp → VK → Prop} (h : Imp1 K k r) : ImpL K (arg1 k) fun vs H Q => ∃ v, vs = [v] ∧ r v H Q := by
  intro F WE S m H ds vs Q rs r p
  unfold arg1 at p
  split at p
  · cases r with
    | cons r t =>
      cases t
      exact ⟨_, rfl, h F WE S m H _ _ Q rs r p⟩
  · exact p.elim
theorem impL2 {K : PySem.W.Frag} {k : D → D → Sto → Res D} {r : V → V → Hp → VK → Prop} (h : Imp2 K k r) : ImpL K (arg2 k) fun vs H Q => ∃ v w, vs = [v, w] ∧ r v w H Q := by
  intro F WE S m H ds vs Q rs r p
  unfold arg2 at p
  split at p
  · cases r with
    | cons r t =>
      cases t with
      | cons r' t' =>
        cases t'
        exact ⟨_, _, rfl, h F WE S m H _ _ _ _ Q rs r r' p⟩
  · exact p.elim
theorem ImpL.imp {K : PySem.W.Frag} {k : List D → Sto → Res D} {r r' : List V → Hp → VK → Prop} (h : ImpL K k r) (i : ∀ vs H Q, r vs H Q → r' vs H Q) : ImpL K k r' := fun F WE S m H ds vs Q rs rv p => i _ _ _ (h F WE S m H ds vs Q rs rv p)
def lenD (d : D) (S : Sto) : Res D := match d.str? with
  | some z => if z.length ≤ sizeLine then .ok (.int z.length) S else .bad
  | none => match viewQ S d with
    | some ds => .ok (.int ds.length) S
    | none => .bad
theorem imp_len {K : PySem.W.Frag} : Imp1 K lenD fun v H Q => ∃ n : Nat, LenV K v H n ∧ Q (.int n) H := by
  intro F WE S m H d v Q rs r p
  unfold lenD at p
  split at p
  · rename_i z e
    split at p
    · rename_i hz
      have := str_ok r e
      subst this
      exact ⟨z.length, ⟨hz, rfl⟩, p.ok rs (.int _)⟩
    · exact p.elim
  · split at p
    · rename_i ds e
      obtain ⟨a, xs, rfl, hx, r1⟩ := viewQ_ok rs r e
      refine ⟨ds.length, ?_, p.ok rs (.int _)⟩
      rcases hx with hx | hx
      · exact .inl ⟨xs, hx, r1.length⟩
      · exact .inr ⟨xs, hx, r1.length⟩
    · exact p.elim
theorem br_len : BltR X (.builtin "len") (arg1 lenD) := ⟨_, call_len, (impL1 imp_len).imp fun vs H Q ⟨v, e, n, h, q⟩ => ⟨v, n, e, h, q⟩⟩
def absD (d : D) (S : Sto) : Res D := match d.int? with
  | some i => .ok (.int (if i < 0 then -i else i)) S
  | none => .bad
theorem br_abs : BltR X (.builtin "abs") (arg1 absD) := by
  refine ⟨_, call_abs, (impL1 (r := fun v H Q => ∃ i, v = .int i ∧ Q (.int (if i < 0 then -i else i)) H) fun F WE S m H d v Q rs r p => ?_).imp fun vs H Q ⟨v, e, i, h, q⟩ => ⟨i, by rw [e, h], q⟩⟩
  unfold absD at p
  split at p
  · rename_i i e
    exact ⟨i, int_ok r e, p.ok rs (.int _)⟩
  · exact p.elim
def intD (d : D) (S : Sto) : Res D := match d.int? with
  | some i => .ok (.int i) S
  | none => match d.bl? with
    | some b => .ok (.int (if b = true then 1 else 0)) S
    | none => .bad
theorem br_int : BltR X (.type "int") (arg1 intD) := by
  refine ⟨_, call_int1, (impL1 (r := fun v H Q => (∃ i, v = .int i ∧ Q (.int i) H) ∨ ∃ k, v = .bl k ∧ Q (.int (if k then 1 else 0)) H) fun F WE S m H d v Q rs r p => ?_).imp fun vs H Q ⟨v, e, h⟩ => ?_⟩
  · unfold intD at p
    split at p
    · rename_i i e
      exact .inl ⟨i, int_ok r e, p.ok rs (.int _)⟩
    · split at p
      · rename_i i e
        exact .inr ⟨i, bl_ok r e, p.ok rs (.int _)⟩
      · exact p.elim
  · rcases h with ⟨i, h, q⟩ | ⟨i, h, q⟩
    · exact .inl ⟨i, by rw [e, h], q⟩
    · exact .inr ⟨i, by rw [e, h], q⟩
def int2 (g : Int → Int → Int) (a b : D) (S : Sto) : Res D := match a.int?, b.int? with
  | some i, some j => .ok (.int (g i j)) S
  | _, _ => .bad
theorem imp_int2 {K : PySem.W.Frag} {g : Int → Int → Int} : Imp2 K (int2 g) fun v w H Q => ∃ i j, v = .int i ∧ w = .int j ∧ Q (.int (g i j)) H := by
  intro F WE S m H x y v u Q rs rx ry p
  unfold int2 at p
  split at p
  · rename_i i j e1 e2
    exact ⟨i, j, int_ok rx e1, int_ok ry e2, p.ok rs (.int _)⟩
  · exact p.elim
/-- max, min of two ints | of a list of ints that is not empty -/
def D.ints? : List D → Option (List Int)
  | [] => some []
  | d :: ds => d.int?.bind fun i => (D.ints? ds).map fun is => i :: is
theorem ints_ok {c : RC} : ∀ {ds : List D} {vs : List V} {is : List Int}, RVs c ds vs → D.ints? ds = some is → vs = is.map V.int
  | _, _, _, .nil, e => by cases e; rfl
  | d :: ds, _, ws, .cons r t, e => by
    have e' : (d.int?.bind fun v => (D.ints? ds).map fun vs => v :: vs) = some ws := e
    cases q1 : d.int? with
    | none => rw [q1] at e'; cases e'
    | some p =>
      cases q2 : D.ints? ds with
      | none => rw [q1, q2] at e'; cases e'
      | some qs =>
        rw [q1, q2] at e'
        cases e'
        rw [int_ok r q1, ints_ok t q2]
        rfl
def maxOf : List Int → Int
  | [] => 0
  | [a] => a
  | a :: r => max a (maxOf r)
def minOf : List Int → Int
  | [] => 0
  | [a] => a
  | a :: r => min a (minOf r)
theorem maxOf_eq : ∀ {l : List Int} {m : Int}, m ∈ l → (∀ y ∈ l, y ≤ m) → maxOf l = m
  | [], m, h, _ => by simp at h
  | [a], m, h, _ => by simp at h; subst h; rfl
  | a :: b :: r, m, h, hl => by
    show max a (maxOf (b :: r)) = m
    have ha : a ≤ m := hl a (by simp)
    rcases List.mem_cons.mp h with e | h
    · subst e
      have : maxOf (b :: r) ≤ m := by
        have key : ∀ {l : List Int}, l ≠ [] → maxOf l ∈ l := by
          intro l
          induction l with
          | nil => intro h; exact absurd rfl h
          | cons a l ih =>
            intro _
            cases l with
            | nil => exact List.mem_cons_self
            | cons b l =>
              show max a (maxOf (b :: l)) ∈ _
              have := ih (by simp)
              rcases Int.le_total a (maxOf (b :: l)) with h | h
              · rw [Int.max_eq_right h]; exact List.mem_cons_of_mem _ this
              · rw [Int.max_eq_left h]; exact List.mem_cons_self
        exact hl _ (List.mem_cons_of_mem _ (key (by simp)))
      omega
    · have e := maxOf_eq h fun y hy => hl y (List.mem_cons_of_mem _ hy)
      rw [e]
      omega
theorem minOf_eq : ∀ {l : List Int} {m : Int}, m ∈ l → (∀ y ∈ l, m ≤ y) → minOf l = m
  | [], m, h, _ => by simp at h
  | [a], m, h, _ => by simp at h; subst h; rfl
  | a :: b :: r, m, h, hl => by
    show min a (minOf (b :: r)) = m
    have ha : m ≤ a := hl a (by simp)
    rcases List.mem_cons.mp h with e | h
    · subst e
      have : m ≤ minOf (b :: r) := by
        have key : ∀ {l : List Int}, l ≠ [] → minOf l ∈ l := by
          intro l
          induction l with
          | nil => intro h; exact absurd rfl h
          | cons a l ih =>
            intro _
            cases l with
            | nil => exact List.mem_cons_self
            | cons b l =>
              show min a (minOf (b :: l)) ∈ _
              have := ih (by simp)
              rcases Int.le_total a (minOf (b :: l)) with h | h
              · rw [Int.min_eq_left h]; exact List.mem_cons_self
              · rw [Int.min_eq_right h]; exact List.mem_cons_of_mem _ this
        exact hl _ (List.mem_cons_of_mem _ (key (by simp)))
      omega
    · have e := minOf_eq h fun y hy => hl y (List.mem_cons_of_mem _ hy)
      rw [e]
      omega
def foldD (g : List Int → Int) (d : D) (S : Sto) : Res D := match (viewL S d).bind D.ints? with
  | some is => if is.isEmpty = true then .bad else .ok (.int (g is)) S
  | none => .bad
def maxD (ds : List D) (S : Sto) : Res D := match ds with
  | [d] => foldD maxOf d S
  | [a, b] => int2 (fun i j => if j > i then j else i) a b S
  | _ => .bad
def minD (ds : List D) (S : Sto) : Res D := match ds with
  | [d] => foldD minOf d S
  | [a, b] => int2 (fun i j => if j < i then j else i) a b S
  | _ => .bad
theorem fold_ok {K : PySem.W.Frag} {F : Addr → Prop} {WE : Value → Option Addr → Hp → Prop} {S : Sto} {m : List Addr} {H : Hp} {g : List Int → Int} {d : D} {v : V} {Q : VK} (rs : RS K F S m H) (r : RV (rc K F S m H) d v) (p : Post K F RV WE S m H (foldD g d S) Q) :
    ∃ (a : Addr) (ns : List Int), v = .ref a ∧ SqL K H a (ns.map V.int) ∧ 0 < ns.length ∧ Q (.int (g ns)) H := by
  unfold foldD at p
  split at p
  · rename_i is e
    cases q : viewL S d with
    | none => rw [q] at e; cases e
    | some ds =>
      rw [q] at e
      obtain ⟨a, xs, rfl, hx, r1⟩ := viewL_ok rs r q
      have := ints_ok r1 e
      subst this
      split at p
      · exact p.elim
      · rename_i hn
        refine ⟨a, is, rfl, hx, ?_, p.ok rs (.int _)⟩
        cases is with
        | nil => exact absurd rfl hn
        | cons _ _ => simp
  · exact p.elim
theorem br_max (hc : X.calm = true) : BltR X (.builtin "max") maxD := by
  refine ⟨_, (cr_max hc).or (call_max2 hc), fun F WE S m H ds vs Q rs r p => ?_⟩
  unfold maxD at p
  split at p
  · cases r with
    | cons r t =>
      cases t
      obtain ⟨a, ns, rfl, h1, h2, q⟩ := fold_ok rs r p
      exact .inl ⟨a, ns, rfl, h1, h2, fun m hm hl => by rw [← maxOf_eq hm hl]; exact q⟩
  · cases r with
    | cons r t =>
      cases t with
      | cons r' t' =>
        cases t'
        obtain ⟨i, j, rfl, rfl, q⟩ := imp_int2 F WE S m H _ _ _ _ Q rs r r' p
        exact .inr ⟨i, j, rfl, q⟩
  · exact p.elim
theorem br_min (hc : X.calm = true) : BltR X (.builtin "min") minD := by
  refine ⟨_, (cr_min hc).or (call_min2 hc), fun F WE S m H ds vs Q rs r p => ?_⟩
  unfold minD at p
  split at p
  · cases r with
    | cons r t =>
      cases t
      obtain ⟨a, ns, rfl, h1, h2, q⟩ := fold_ok rs r p
      exact .inl ⟨a, ns, rfl, h1, h2, fun m hm hl => by rw [← minOf_eq hm hl]; exact q⟩
  · cases r with
    | cons r t =>
      cases t with
      | cons r' t' =>
        cases t'
        obtain ⟨i, j, rfl, rfl, q⟩ := imp_int2 F WE S m H _ _ _ _ Q rs r r' p
        exact .inr ⟨i, j, rfl, q⟩
  · exact p.elim
def D.bls? : List D → Option (List Bool)
  | [] => some []
  | d :: ds => d.bl?.bind fun i => (D.bls? ds).map fun is => i :: is
theorem bls_ok {c : RC} : ∀ {ds : List D} {vs : List V} {is : List Bool}, RVs c ds vs → D.bls? ds = some is → vs = is.map V.bl
  | _, _, _, .nil, e => by cases e; rfl
  | d :: ds, _, ws, .cons r t, e => by
    have e' : (d.bl?.bind fun v => (D.bls? ds).map fun vs => v :: vs) = some ws := e
    cases q1 : d.bl? with
    | none => rw [q1] at e'; cases e'
    | some p =>
      cases q2 : D.bls? ds with
      | none => rw [q1, q2] at e'; cases e'
      | some qs =>
        rw [q1, q2] at e'
        cases e'
        rw [bl_ok r q1, bls_ok t q2]
        rfl
def allD (g : List Bool → Bool) (d : D) (S : Sto) : Res D := match (viewL S d).bind D.bls? with
  | some is => .ok (.bl (g is)) S
  | none => .bad
theorem imp_all {K : PySem.W.Frag} {g : List Bool → Bool} : Imp1 K (allD g) fun v H Q => ∃ (a : Addr) (bs : List Bool), v = V.ref a ∧ SqL K H a (bs.map V.bl) ∧ Q (.bl (g bs)) H := by
  intro F WE S m H d v Q rs r p
  unfold allD at p
  split at p
  · rename_i is e
    cases q : viewL S d with
    | none => rw [q] at e; cases e
    | some ds =>
      rw [q] at e
      obtain ⟨a, xs, rfl, hx, r1⟩ := viewL_ok rs r q
      have := bls_ok r1 e
      subst this
      exact ⟨a, is, rfl, hx, p.ok rs (.bl _)⟩
  · exact p.elim
theorem br_all (hc : X.calm = true) : BltR X (.builtin "all") (arg1 (allD fun bs => bs.all id)) := ⟨_, cr_all hc, (impL1 imp_all).imp fun vs H Q ⟨v, e, a, bs, h, q⟩ => ⟨a, bs, by rw [e, h], q⟩⟩
theorem br_any (hc : X.calm = true) : BltR X (.builtin "any") (arg1 (allD fun bs => bs.any id)) := ⟨_, cr_any hc, (impL1 imp_all).imp fun vs H Q ⟨v, e, a, bs, h, q⟩ => ⟨a, bs, by rw [e, h], q⟩⟩
def sumD (d : D) (S : Sto) : Res D := match (viewL S d).bind D.ints? with
  | some is => .ok (.int is.sum) S
  | none => .bad
theorem br_sum (hc : X.calm = true) : BltR X (.builtin "sum") (arg1 sumD) := by
  refine ⟨_, cr_sum hc, (impL1 (r := fun v H Q => ∃ (a : Addr) (ns : List Int), v = V.ref a ∧ SqL X.K H a (ns.map V.int) ∧ Q (.int ns.sum) H) fun F WE S m H d v Q rs r p => ?_).imp fun vs H Q ⟨v, e, a, bs, h, q⟩ => ⟨a, bs, by rw [e, h], q⟩⟩
  unfold sumD at p
  split at p
  · rename_i is e
    cases q : viewL S d with
    | none => rw [q] at e; cases e
    | some ds =>
      rw [q] at e
      obtain ⟨a, xs, rfl, hx, r1⟩ := viewL_ok rs r q
      have := ints_ok r1 e
      subst this
      exact ⟨a, is, rfl, hx, p.ok rs (.int _)⟩
  · exact p.elim
/-- list(x), tuple(x) -/
def listD (d : D) (S : Sto) : Res D := match viewQ S d with
  | some ds => .ok (.lst ds) S
  | none => .bad
def tupleD (d : D) (S : Sto) : Res D := match viewL S d with
  | some ds => .ok (.tup ds) S
  | none => match viewT d with
    | some _ => .ok d S
    | none => .bad
theorem br_list : BltR X (.type "list") (arg1 listD) := by
  refine ⟨_, call_list_of, (impL1 (r := fun v H Q => ∃ p ys, v = .ref p ∧ (SqL X.K H p ys ∨ SqT X.K H p ys) ∧ ∀ l, H l = none → Q (.ref l) (upd H l (.lst ys))) fun F WE S m H d v Q rs r p => ?_).imp fun vs H Q ⟨v, e, p, ys, h, q⟩ => ⟨p, ys, by rw [e, h], q⟩⟩
  unfold listD at p
  split at p
  · rename_i ds e
    obtain ⟨a, xs, rfl, hx, r1⟩ := viewQ_ok rs r e
    exact ⟨a, xs, rfl, hx, fun q hq => new_lst rs r1 hq p⟩
  · exact p.elim
theorem br_tuple : BltR X (.type "tuple") (arg1 tupleD) := by
  refine ⟨_, call_tuple_of, (impL1 (r := fun v H Q => ∃ p ys, v = .ref p ∧ ((SqL X.K H p ys ∧ ∀ l, H l = none → Q (.ref l) (upd H l (.tup ys))) ∨ (SqT X.K H p ys ∧ Q (.ref p) H))) fun F WE S m H d v Q rs r p => ?_).imp fun vs H Q ⟨v, e, p, ys, h, q⟩ => ⟨p, ys, by rw [e, h], q⟩⟩
  unfold tupleD at p
  split at p
  · rename_i ds e
    obtain ⟨a, xs, rfl, hx, r1⟩ := viewL_ok rs r e
    exact ⟨a, xs, rfl, .inl ⟨hx, fun q hq => new_tup rs r1 hq p⟩⟩
  · split at p
    · rename_i ds e
      obtain ⟨a, xs, rfl, hx, r1⟩ := viewT_ok r e
      exact ⟨a, xs, rfl, .inr ⟨hx, p.ok rs r⟩⟩
    · exact p.elim
end
end Ev

set_option Elab.async false
set_option linter.all false
set_option maxRecDepth 100000
set_option maxHeartbeats 4000000
/-! Ev6: statements, owned lists, the promise of a def. -/
namespace Ev
open PySem PySem.Spec L2
open PyProof.Rows hiding St

/-! ### results of statements -/
inductive SRes where
  | nx (ρ : Env) (S : Sto)
  | brk (ρ : Env) (S : Sto)
  | ct (ρ : Env) (S : Sto)
  | ret (d : D) (S : Sto)
  | ex (x : Exn) (ρ : Env) (S : Sto)
  | bad
/-- an expression's result, then the rest -/
def Res.toS {α : Type} (r : Res α) (ρ : Env) (k : α → Sto → SRes) : SRes := match r with
  | .ok a S => k a S
  | .ex x S => .ex x ρ S
  | .bad => .bad
@[simp] theorem Res.toS_ok {α : Type} (a : α) (S : Sto) (ρ : Env) (k : α → Sto → SRes) : (Res.ok a S).toS ρ k = k a S := rfl
@[simp] theorem Res.toS_ex {α : Type} (x : Exn) (S : Sto) (ρ : Env) (k : α → Sto → SRes) : (Res.ex x S : Res α).toS ρ k = .ex x ρ S := rfl
@[simp] theorem Res.toS_bad {α : Type} (ρ : Env) (k : α → Sto → SRes) : (Res.bad : Res α).toS ρ k = .bad := rfl
def SRes.seq (r : SRes) (k : Env → Sto → SRes) : SRes := match r with
  | .nx ρ S => k ρ S
  | r => r
@[simp] theorem SRes.seq_nx (ρ : Env) (S : Sto) (k : Env → Sto → SRes) : (SRes.nx ρ S).seq k = k ρ S := rfl
@[simp] theorem SRes.seq_brk (ρ : Env) (S : Sto) (k : Env → Sto → SRes) : (SRes.brk ρ S).seq k = .brk ρ S := rfl
@[simp] theorem SRes.seq_ct (ρ : Env) (S : Sto) (k : Env → Sto → SRes) : (SRes.ct ρ S).seq k = .ct ρ S := rfl
@[simp] theorem SRes.seq_ret (d : D) (S : Sto) (k : Env → Sto → SRes) : (SRes.ret d S).seq k = .ret d S := rfl
@[simp] theorem SRes.seq_ex (x : Exn) (ρ : Env) (S : Sto) (k : Env → Sto → SRes) : (SRes.ex x ρ S).seq k = .ex x ρ S := rfl
@[simp] theorem SRes.seq_bad (k : Env → Sto → SRes) : (SRes.bad).seq k = .bad := rfl

/-- behind a statement: all but the store's objects and the frame's own stand -/
structure LeS (F0 : Addr → Prop) (S : Sto) (m : List Addr) (F : Addr → Prop) (H : Hp) (S' : Sto) (m' : List Addr) (F' : Addr → Prop) (H' : Hp) : Prop where
  stay : ∀ a o, H a = some o → ¬ Live S m a → (F a → F0 a) → H' a = some o ∧ ¬ Live S' m' a ∧ (F' a → F0 a)
  m : ∃ t, m' = m ++ t
section
variable {K : PySem.W.Frag} {F0 F F' F2 : Addr → Prop} {S S' S2 : Sto} {m m' m2 : List Addr} {H H' H2 : Hp}
theorem LeS.refl : LeS F0 S m F H S m F H := ⟨fun _ _ h n f => ⟨h, n, f⟩, [], by simp⟩
theorem LeS.trans (x : LeS F0 S m F H S' m' F' H') (y : LeS F0 S' m' F' H' S2 m2 F2 H2) : LeS F0 S m F H S2 m2 F2 H2 := by
  obtain ⟨t, ht⟩ := x.m
  obtain ⟨u, hu⟩ := y.m
  exact ⟨fun e o h n f => let ⟨h', n', f'⟩ := x.stay e o h n f; y.stay e o h' n' f', t ++ u, by rw [hu, ht, List.append_assoc]⟩
theorem Le.toS (x : Le S m H S' m' H') : LeS F0 S m F H S' m' F H' := ⟨fun e o h n f => let ⟨h', n'⟩ := x.stay e o h n; ⟨h', n', f⟩, x.m⟩
theorem LeS.rc (x : LeS F0 S m F H S' m' F' H') (sub : ∀ a, F0 a → F a) : (rc K F S m H).Le (rc K F' S' m' H') :=
  ⟨rfl, fun a o h n => let z := x.stay a o h (fun q => n (.inl q)) fun q => absurd (.inr q) n; ⟨z.1, fun q => q.elim z.2.1 fun q => n (.inr (sub a (z.2.2 q)))⟩, x.m⟩
theorem LeS.toLe (x : LeS F0 S m F0 H S' m' F' H') : Le S m H S' m' H' := ⟨fun e o h n => let ⟨h', n', _⟩ := x.stay e o h n fun q => q; ⟨h', n'⟩, x.m⟩
end
def SPost (K : PySem.W.Frag) (W : Wi) (S : Sto) (m : List Addr) (F : Addr → Prop) (H : Hp) (r : SRes) (Dn : Ends) : Prop := match r with
  | .nx ρ S' => ∀ σ' m' F' H', LeS W.F0 S m F H S' m' F' H' → Sta K W ρ S' m' F' σ' H' → Dn.nx σ' H'
  | .brk ρ S' => ∀ σ' m' F' H', LeS W.F0 S m F H S' m' F' H' → Sta K W ρ S' m' F' σ' H' → Dn.bk σ' H'
  | .ct ρ S' => ∀ σ' m' F' H', LeS W.F0 S m F H S' m' F' H' → Sta K W ρ S' m' F' σ' H' → Dn.ct σ' H'
  | .ret d S' => ∀ m' F' H' v, LeS W.F0 S m F H S' m' F' H' → RS K F' S' m' H' → (∀ a, W.F0 a → F' a) → RV (rc K F' S' m' H') d v → Dn.rt v H'
  | .ex x ρ S' => ∀ σ' m' F' H' dd, LeS W.F0 S m F H S' m' F' H' → Sta K W ρ S' m' F' σ' H' → RX (rc K F' S' m' H') x dd → W.w (.ref (ca K x.cls)) dd σ' H'
  | .bad => False
def TSv (K : PySem.W.Frag) (W : Wi) (g : Env → Sto → SRes) : TS := fun Dn σ H => ∃ ρ S m F, Sta K W ρ S m F σ H ∧ SPost K W S m F H (g ρ S) Dn
abbrev PSv (X : Cx) (W : Wi) (st : Stmt) (g : Env → Sto → SRes) : Prop := PS X st (TSv X.K W g)
abbrev PSsv (X : Cx) (W : Wi) (st : List Stmt) (g : Env → Sto → SRes) : Prop := PSs X st (TSv X.K W g)
section
variable {K : PySem.W.Frag} {W : Wi} {F F1 : Addr → Prop} {S S1 : Sto} {m m1 : List Addr} {H H1 : Hp} {Dn : Ends} {ρ : Env} {σ : St}
theorem SPost.from {r : SRes} (h : SPost K W S m F H r Dn) (l : LeS W.F0 S m F H S1 m1 F1 H1) : SPost K W S1 m1 F1 H1 r Dn := by
  cases r with
  | nx ρ S' => exact fun σ' m' F' H' l' => h σ' m' F' H' (l.trans l')
  | brk ρ S' => exact fun σ' m' F' H' l' => h σ' m' F' H' (l.trans l')
  | ct ρ S' => exact fun σ' m' F' H' l' => h σ' m' F' H' (l.trans l')
  | ret d S' => exact fun m' F' H' v l' => h m' F' H' v (l.trans l')
  | ex x ρ S' => exact fun σ' m' F' H' dd l' => h σ' m' F' H' dd (l.trans l')
  | bad => exact h
/-- an expression in a statement -/
theorem SPost.toS {α β : Type} {R : RC → α → β → Prop} {r : Res α} {k : α → Sto → SRes} (st : Sta K W ρ S m F σ H) (h : SPost K W S m F H (r.toS ρ k) Dn) :
    Post K F R (fun c d H' => W.w c d σ H') S m H r fun v H1 => ∃ S1 m1 a, Le S m H S1 m1 H1 ∧ Sta K W ρ S1 m1 F σ H1 ∧ R (rc K F S1 m1 H1) a v ∧ SPost K W S1 m1 F H1 (k a S1) Dn := by
  cases r with
  | ok a S' => exact fun m' H' v l rs rv => ⟨S', m', a, l, st.le l rs, rv, SPost.from h l.toS⟩
  | ex x S' => exact fun m' H' dd l rs rx => h σ m' F H' dd l.toS (st.le l rs) rx
  | bad => exact h
theorem SPost.nx (h : SPost K W S m F H (.nx ρ S) Dn) (st : Sta K W ρ S m F σ H) : Dn.nx σ H := h σ m F H .refl st
theorem T.toS {α β : Type} {R : RC → α → β → Prop} {f : Env → Sto → Res α} {k : Env → α → Sto → SRes} (h : TSv K W (fun ρ S => (f ρ S).toS ρ (k ρ)) Dn σ H) :
    T K R W f σ H fun v H1 => ∃ ρ S m F a, Sta K W ρ S m F σ H1 ∧ R (rc K F S m H1) a v ∧ SPost K W S m F H1 (k ρ a S) Dn := by
  obtain ⟨ρ, S, m, F, st, p⟩ := h
  exact ⟨ρ, S, m, F, st, (p.toS (R := R) st).mono (fun v H1 ⟨S1, m1, a, l, st1, r, p1⟩ => ⟨ρ, S1, m1, F, a, st1, r, p1⟩) fun _ _ _ h => h⟩
end
section
variable {K : PySem.W.Frag} {F : Addr → Prop} {W : Wi} {S : Sto} {m : List Addr} {H : Hp} {ρ : Env} {σ : St}
theorem Sta.setv (st : Sta K W ρ S m F σ H) {d : D} {v : V} (r : RV (rc K F S m H) d v) (i : Nat) (h0 : i ≠ 0 ∨ W.me = none) : Sta K W (ρ.set i (some (.v d))) S m F (σ.set i (some v)) H := by
  have hown : ∀ {j : Nat} {so : SO}, (ρ.set i (some (.v d)))[j]? = some (some (.own so)) → i ≠ j ∧ ρ[j]? = some (some (.own so)) := fun {j so} e => by
    by_cases hj : i = j
    · subst hj
      have hi : i < ρ.length := by simpa using (List.getElem?_eq_some_iff.mp e).1
      rw [List.getElem?_set_self hi] at e
      cases e
    · rw [List.getElem?_set_ne hj] at e
      exact ⟨hj, e⟩
  refine ⟨st.s, ⟨by simp [st.e.len], fun j e he => ?_, fun j so he => ?_, fun j j' so so' a h1 h2 h3 h4 => ?_⟩, st.sub, fun x hx => h0.elim (fun q => (List.getElem?_set_ne q).trans (st.me x hx)) fun q => nomatch (q.symm.trans hx)⟩
  · by_cases hj : i = j
    · subst hj
      have hi : i < ρ.length := by simpa using (List.getElem?_eq_some_iff.mp he).1
      rw [List.getElem?_set_self hi] at he
      cases he
      exact ⟨v, by rw [List.getElem?_set_self (by rw [← st.e.len]; exact hi)], r⟩
    · rw [List.getElem?_set_ne hj] at he
      rw [List.getElem?_set_ne hj]
      exact st.e.at_ j e he
  · obtain ⟨hj, e⟩ := hown he
    rw [List.getElem?_set_ne hj]
    exact st.e.own_ j so e
  · obtain ⟨n1, e1⟩ := hown h1
    obtain ⟨n2, e2⟩ := hown h2
    rw [List.getElem?_set_ne n1] at h3
    rw [List.getElem?_set_ne n2] at h4
    exact st.e.dist j j' so so' a e1 e2 h3 h4
theorem Sta.wipe (st : Sta K W ρ S m F σ H) (i : Nat) (x : Option V) (h0 : i ≠ 0 ∨ W.me = none) : Sta K W (ρ.set i none) S m F (σ.set i x) H := by
  have hx : ∀ {j : Nat} {s : Slot}, (ρ.set i none)[j]? = some (some s) → i ≠ j ∧ ρ[j]? = some (some s) := fun {j s} e => by
    by_cases hj : i = j
    · subst hj
      have hi : i < ρ.length := by simpa using (List.getElem?_eq_some_iff.mp e).1
      rw [List.getElem?_set_self hi] at e
      cases e
    · rw [List.getElem?_set_ne hj] at e
      exact ⟨hj, e⟩
  refine ⟨st.s, ⟨by simp [st.e.len], fun j e he => ?_, fun j so he => ?_, fun j j' so so' a h1 h2 h3 h4 => ?_⟩, st.sub, fun x hx => h0.elim (fun q => (List.getElem?_set_ne q).trans (st.me x hx)) fun q => nomatch (q.symm.trans hx)⟩
  · obtain ⟨n1, e1⟩ := hx he
    rw [List.getElem?_set_ne n1]
    exact st.e.at_ j e e1
  · obtain ⟨n1, e1⟩ := hx he
    rw [List.getElem?_set_ne n1]
    exact st.e.own_ j so e1
  · obtain ⟨n1, e1⟩ := hx h1
    obtain ⟨n2, e2⟩ := hx h2
    rw [List.getElem?_set_ne n1] at h3
    rw [List.getElem?_set_ne n2] at h4
    exact st.e.dist j j' so so' a e1 e2 h3 h4
/-- more data may be read: some of F is given up -/
theorem rc_less {F' : Addr → Prop} (h : ∀ a, F' a → F a) : (rc K F S m H).Le (rc K F' S m H) := ⟨rfl, fun a o e n => ⟨e, fun z => n (z.imp id (h a))⟩, [], by simp⟩
/-- less may be read: p, which nothing tells of, becomes the frame's own -/
theorem rc_own {p : Addr} {o : HO} (hp : H p = none) : (rc K F S m H).Le (rc K (fun a => F a ∨ a = p) S m (upd H p o)) :=
  ⟨rfl, fun a u e n => ⟨upd_keeps hp a u e, fun z => z.elim (fun z => n (.inl z)) fun z => z.elim (fun z => n (.inr z)) fun z => by
    have e' : H a = some u := e
    rw [z, hp] at e'
    cases e'⟩, [], by simp⟩
/-- x = a new object, which the frame owns -/
theorem Sta.newown (st : Sta K W ρ S m F σ H) {p : Addr} {o : HO} {so : SO} (hp : H p = none) (ro : RO (rc K (fun a => F a ∨ a = p) S m (upd H p o)) p so) (i : Nat) (h0 : i ≠ 0 ∨ W.me = none) :
    LeS W.F0 S m F H S m (fun a => F a ∨ a = p) (upd H p o) ∧ Sta K W (ρ.set i (some (.own so))) S m (fun a => F a ∨ a = p) (σ.set i (some (.ref p))) (upd H p o) := by
  have nF : ¬ F p := fun h => by obtain ⟨o, e⟩ := st.s.ft p h; rw [hp] at e; cases e
  have nL : ¬ Live S m p := fun h => by obtain ⟨o, e⟩ := st.s.tracked h; rw [hp] at e; cases e
  have up := rc_own (K := K) (F := F) (S := S) (m := m) (o := o) hp
  have rs : RS K (fun a => F a ∨ a = p) S m (upd H p o) := ⟨st.s.len, fun n so a h1 h2 => (st.s.ob n so a h1 h2).le up (upd_keeps hp a), st.s.inj,
    fun a h => h.elim (fun h => let ⟨o, e⟩ := st.s.ft a h; ⟨o, upd_keeps hp a o e⟩) fun h => ⟨o, by subst h; exact upd_same⟩, fun a h z => h.elim (fun h => st.s.fd a h z) fun h => nL (h ▸ z)⟩
  refine ⟨⟨fun a u e n f => ⟨upd_keeps hp a u e, n, fun z => z.elim f fun z => ?_⟩, [], by simp⟩, rs, ⟨by simp [st.e.len], fun j e he => ?_, fun j so' he => ?_, fun j j' s1 s2 a h1 h2 h3 h4 => ?_⟩, fun a h => .inl (st.sub a h), fun x hx => h0.elim (fun q => (List.getElem?_set_ne q).trans (st.me x hx)) fun q => nomatch (q.symm.trans hx)⟩
  · rw [z, hp] at e
    cases e
  · by_cases hj : i = j
    · subst hj
      have hi : i < ρ.length := by simpa using (List.getElem?_eq_some_iff.mp he).1
      rw [List.getElem?_set_self hi] at he
      cases he
    · rw [List.getElem?_set_ne hj] at he
      rw [List.getElem?_set_ne hj]
      obtain ⟨v, e1, r⟩ := st.e.at_ j e he
      exact ⟨v, e1, r.le up⟩
  · by_cases hj : i = j
    · subst hj
      have hi : i < ρ.length := by simpa using (List.getElem?_eq_some_iff.mp he).1
      rw [List.getElem?_set_self hi] at he
      cases he
      exact ⟨p, by rw [List.getElem?_set_self (by rw [← st.e.len]; exact hi)], .inr rfl, fun h => nF (st.sub p h), ro⟩
    · rw [List.getElem?_set_ne hj] at he
      rw [List.getElem?_set_ne hj]
      obtain ⟨a, e1, f, f0, r⟩ := st.e.own_ j so' he
      exact ⟨a, e1, .inl f, f0, r.le up (upd_keeps hp a)⟩
  · have hnew : ∀ {j : Nat} {s : SO} {b : Addr}, (ρ.set i (some (.own so)))[j]? = some (some (.own s)) → (σ.set i (some (V.ref p)))[j]? = some (some (.ref b)) → (j = i ∧ b = p) ∨ (i ≠ j ∧ ρ[j]? = some (some (.own s)) ∧ σ[j]? = some (some (.ref b)) ∧ b ≠ p) := fun {j s b} e1 e2 => by
      by_cases hj : i = j
      · subst hj
        have hi : i < σ.length := by simpa using (List.getElem?_eq_some_iff.mp e2).1
        rw [List.getElem?_set_self hi] at e2
        cases e2
        exact .inl ⟨rfl, rfl⟩
      · rw [List.getElem?_set_ne hj] at e1 e2
        refine .inr ⟨hj, e1, e2, fun z => ?_⟩
        obtain ⟨b', e3, f, _, _⟩ := st.e.own_ j s e1
        rw [e2] at e3
        cases e3
        exact nF (z ▸ f)
    rcases hnew h1 h3 with ⟨q1, q2⟩ | ⟨q1, q2, q3, q4⟩
    · rcases hnew h2 h4 with ⟨q5, q6⟩ | ⟨q5, q6, q7, q8⟩
      · rw [q1, q5]
      · exact absurd q2 q8
    · rcases hnew h2 h4 with ⟨q5, q6⟩ | ⟨q5, q6, q7, q8⟩
      · exact absurd q6 q4
      · exact st.e.dist j j' s1 s2 a q2 q6 q3 q7
/-- an own object is written -/
theorem Sta.writeown (st : Sta K W ρ S m F σ H) {i : Nat} {so so' : SO} {a : Addr} {o : HO} (h : ρ[i]? = some (some (.own so))) (ha : σ[i]? = some (some (.ref a)))
    (ro : ∀ c : RC, (rc K F S m H).Le c → c.H = upd H a o → RO c a so') : LeS W.F0 S m F H S m F (upd H a o) ∧ Sta K W (ρ.set i (some (.own so'))) S m F σ (upd H a o) := by
  obtain ⟨a', e1, f, f0, _⟩ := st.e.own_ i so h
  rw [ha] at e1
  cases e1
  have nL := st.s.fd a f
  have keep : ∀ b u, b ≠ a → H b = some u → upd H a o b = some u := fun b u n e => by rw [upd_ne n]; exact e
  have up : (rc K F S m H).Le (rc K F S m (upd H a o)) := ⟨rfl, fun b u e n => ⟨keep b u (fun z => n (.inr (z ▸ f))) e, n⟩, [], by simp⟩
  have hi : i < ρ.length := (List.getElem?_eq_some_iff.mp h).1
  refine ⟨⟨fun b u e n q => ⟨keep b u (fun z => f0 (z ▸ q (z ▸ f))) e, n, q⟩, [], by simp⟩, ⟨st.s.len, fun n so a2 h1 h2 => (st.s.ob n so a2 h1 h2).le up fun u => keep a2 u fun z => nL (z ▸ ⟨n, so, h1, h2⟩), st.s.inj, fun b hb => ?_, st.s.fd⟩, ⟨by simp [st.e.len], fun j e he => ?_, fun j s he => ?_, fun j j' s1 s2 b h1 h2 h3 h4 => ?_⟩, st.sub, st.me⟩
  · by_cases q : b = a
    · exact ⟨o, by rw [q]; exact upd_same⟩
    · obtain ⟨u, e⟩ := st.s.ft b hb
      exact ⟨u, keep b u q e⟩
  · by_cases hj : i = j
    · subst hj
      rw [List.getElem?_set_self hi] at he
      cases he
    · rw [List.getElem?_set_ne hj] at he
      obtain ⟨v, e1, r⟩ := st.e.at_ j e he
      exact ⟨v, e1, r.le up⟩
  · by_cases hj : i = j
    · subst hj
      rw [List.getElem?_set_self hi] at he
      cases he
      exact ⟨a, ha, f, f0, ro _ up rfl⟩
    · rw [List.getElem?_set_ne hj] at he
      obtain ⟨b, e1, g, g0, r⟩ := st.e.own_ j s he
      exact ⟨b, e1, g, g0, r.le up fun u => keep b u fun z => hj (st.e.dist i j so s a h he ha (z ▸ e1))⟩
  · have old : ∀ {j : Nat} {s : SO}, (ρ.set i (some (.own so')))[j]? = some (some (.own s)) → ∃ s', ρ[j]? = some (some (.own s')) := fun {j s} e => by
      by_cases hj : i = j
      · exact ⟨so, hj ▸ h⟩
      · rw [List.getElem?_set_ne hj] at e
        exact ⟨s, e⟩
    obtain ⟨s1', e1⟩ := old h1
    obtain ⟨s2', e2⟩ := old h2
    exact st.e.dist j j' s1' s2' b e1 e2 h3 h4
/-- an own object becomes a datum -/
def SO.d : SO → D
  | .lst ds => .lst ds
  | .dK ds => .dK ds
  | .ins C ds => .ins C ds
def fz (i : Nat) (ρ : Env) : Env := match ρ[i]? with
  | some (some (.own so)) => ρ.set i (some (.v so.d))
  | _ => ρ
theorem Sta.freeze (st : Sta K W ρ S m F σ H) (i : Nat) : ∃ F', LeS W.F0 S m F H S m F' H ∧ Sta K W (fz i ρ) S m F' σ H := by
  unfold fz
  split
  · rename_i so h
    obtain ⟨a, ha, f, f0, ro⟩ := st.e.own_ i so h
    have less : ∀ b, (F b ∧ b ≠ a) → F b := fun _ h => h.1
    have up := rc_less (K := K) (S := S) (m := m) (H := H) less
    have hi : i < ρ.length := (List.getElem?_eq_some_iff.mp h).1
    have nl : ¬ (Live S m a ∨ (F a ∧ a ≠ a)) := fun z => z.elim (st.s.fd a f) fun z => z.2 rfl
    refine ⟨fun b => F b ∧ b ≠ a, ⟨fun b u e n q => ⟨e, n, fun z => q z.1⟩, [], by simp⟩, ⟨st.s.len, fun n so a2 h1 h2 => (st.s.ob n so a2 h1 h2).le up fun _ e => e, st.s.inj, fun b hb => st.s.ft b hb.1, fun b hb => st.s.fd b hb.1⟩, ⟨by simp [st.e.len], fun j e he => ?_, fun j s he => ?_, fun j j' s1 s2 b h1 h2 h3 h4 => ?_⟩, fun b hb => ⟨st.sub b hb, fun z => f0 (z ▸ hb)⟩, st.me⟩
    · by_cases hj : i = j
      · subst hj
        rw [List.getElem?_set_self hi] at he
        cases he
        refine ⟨_, ha, ?_⟩
        have ro' := ro.le up fun _ e => e
        cases so with
        | lst ds => obtain ⟨xs, h1, h2⟩ := ro'; exact .lst ⟨h1, nl⟩ h2
        | dK ds => obtain ⟨xs, h1, h2⟩ := ro'; exact .dK h1 nl h2
        | ins C ds => obtain ⟨dx, xs, h1, h2⟩ := ro'; exact .ins h1 nl h2
      · rw [List.getElem?_set_ne hj] at he
        obtain ⟨v, e1, r⟩ := st.e.at_ j e he
        exact ⟨v, e1, r.le up⟩
    · by_cases hj : i = j
      · subst hj
        rw [List.getElem?_set_self hi] at he
        cases he
      · rw [List.getElem?_set_ne hj] at he
        obtain ⟨b, e1, g, g0, r⟩ := st.e.own_ j s he
        refine ⟨b, e1, ⟨g, fun z => ?_⟩, g0, r.le up fun _ e => e⟩
        exact hj (st.e.dist i j so s a h he ha (z ▸ e1))
    · have old : ∀ {j : Nat} {s : SO}, (ρ.set i (some (.v so.d)))[j]? = some (some (.own s)) → ρ[j]? = some (some (.own s)) := fun {j s} e => by
        by_cases hj : i = j
        · subst hj
          rw [List.getElem?_set_self hi] at e
          cases e
        · rw [List.getElem?_set_ne hj] at e
          exact e
      exact st.e.dist j j' s1 s2 b (old h1) (old h2) h3 h4
  · exact ⟨F, .refl, st⟩
end

/-! ### plain statements -/
section
variable {X : Cx} {W : Wi} {e : Expr} {f : Env → Sto → Res D} {ft : Env → Sto → Res Bool} {g h : Env → Sto → SRes} {st : Stmt} {sts : List Stmt} {pos pos' : Pos} {i : Nat} {x : Str} {al : Env → Sto → Res (List D)} {es : List Expr}
def sNil (ρ : Env) (S : Sto) : SRes := .nx ρ S
def sSeq (g h : Env → Sto → SRes) (ρ : Env) (S : Sto) : SRes := (g ρ S).seq h
theorem pssv_nil : PSsv X W [] sNil := pss_imp pss_nil fun _ _ _ ⟨_, _, _, _, st, p⟩ => p.nx st
theorem SPost.seq {K : PySem.W.Frag} {S : Sto} {m : List Addr} {F : Addr → Prop} {H : Hp} {r : SRes} {k : Env → Sto → SRes} {Dn : Ends} (p : SPost K W S m F H (r.seq k) Dn) : SPost K W S m F H r { Dn with nx := TSv K W k Dn } := by
  cases r with
  | nx ρ S' => exact fun σ' m' F' H' l st => ⟨ρ, S', m', F', st, SPost.from p l⟩
  | brk ρ S' => exact p
  | ct ρ S' => exact p
  | ret d S' => exact p
  | ex x ρ S' => exact p
  | bad => exact p
theorem pssv_cons (h1 : PSv X W st g) (h2 : PSsv X W sts h) : PSsv X W (st :: sts) (sSeq g h) :=
  pss_imp (pss_cons h1 h2) fun Dn σ H ⟨ρ, S, m, F, s, p⟩ => ⟨ρ, S, m, F, s, p.seq⟩
theorem pssv_one (h1 : PSv X W st g) : PSsv X W [st] g := pss_one h1
theorem psv_pass : PSv X W (.Pass pos) sNil := ps_imp ps_pass fun _ _ _ ⟨_, _, _, _, st, p⟩ => p.nx st
def sBrk (ρ : Env) (S : Sto) : SRes := .brk ρ S
def sCt (ρ : Env) (S : Sto) : SRes := .ct ρ S
theorem psv_break : PSv X W (.Break pos) sBrk := ps_imp ps_break fun _ _ _ ⟨_, _, _, _, st, p⟩ => p _ _ _ _ .refl st
theorem psv_cont : PSv X W (.Continue pos) sCt := ps_imp ps_continue fun _ _ _ ⟨_, _, _, _, st, p⟩ => p _ _ _ _ .refl st
def sExpr (f : Env → Sto → Res D) (ρ : Env) (S : Sto) : SRes := (f ρ S).toS ρ fun _ S => .nx ρ S
theorem psv_expr (he : PEv X W e f) (hs : swapsWith e none pos.line X.env = pure false := by rfl) : PSv X W (.Expr e pos) (sExpr f) :=
  ps_imp (ps_expr he hs) fun Dn σ H t => t_mono (T.toS (R := RV) t) fun v H1 ⟨ρ, S, m, F, d, st, r, p⟩ => p.nx st
def sRet (f : Env → Sto → Res D) (ρ : Env) (S : Sto) : SRes := (f ρ S).toS ρ fun d S => .ret d S
theorem psv_ret (he : PEv X W e f) : PSv X W (.Return (some e) pos) (sRet f) :=
  ps_imp (ps_ret he) fun Dn σ H t => t_mono (T.toS (R := RV) t) fun v H1 ⟨ρ, S, m, F, d, st, r, p⟩ => p _ _ _ _ .refl st.s st.sub r
def sRetN (_ : Env) (S : Sto) : SRes := .ret .non S
theorem psv_retN : PSv X W (.Return none pos) sRetN := ps_imp ps_retN fun _ _ _ ⟨_, _, _, _, st, p⟩ => p _ _ _ _ .refl st.s st.sub .non
def sIf (c : Env → Sto → Res Bool) (g h : Env → Sto → SRes) (ρ : Env) (S : Sto) : SRes := (c ρ S).toS ρ fun b S => if b = true then g ρ S else h ρ S
theorem psv_if {c : Expr} {a b : List Stmt} (hc : PTv X W c ft) (ha : PSsv X W a g) (hb : PSsv X W b h) : PSv X W (.If c a b pos) (sIf ft g h) := by
  refine ps_imp (ps_if hc ha hb) fun Dn σ H t => ?_
  refine t_mono (T.toS (R := RB) t) fun v H1 ⟨ρ, S, m, F, d, st, r, p⟩ => ?_
  cases r
  cases v with
  | true => rw [if_pos rfl] at p ⊢; exact ⟨ρ, S, m, F, st, p⟩
  | false => rw [if_neg Bool.false_ne_true] at p ⊢; exact ⟨ρ, S, m, F, st, p⟩
/-- x = e -/
def sSet (i : Nat) (f : Env → Sto → Res D) (ρ : Env) (S : Sto) : SRes := (f ρ S).toS ρ fun d S => .nx (ρ.set i (some (.v d))) S
theorem psv_set (hN : X.N.Nodup) (hi : X.N[i]? = some x) (hx : L2.Loc X.env.scope x) (he : PEv X W e f) (hs : swapsWith e (some (.Name x pos')) pos.line X.env = pure false := by rfl) (hf : X.fn x = true ∨ X.env.scope.names.lookup x = some .local := by first | exact .inl rfl | exact .inr rfl | assumption) (h0 : i ≠ 0 ∨ W.me = none := by first | exact .inl (by decide) | exact .inr (by assumption)) :
    PSv X W (.Assign [.Name x pos'] e pos) (sSet i f) :=
  ps_imp (ps_set hN hi hx he hs hf) fun Dn σ H t => t_mono (T.toS (R := RV) t) fun v H1 ⟨ρ, S, m, F, d, st, r, p⟩ => p.nx (st.setv r i h0)
/-- x = [..], x = {}: the frame's own -/
def sOwnL (i : Nat) (al : Env → Sto → Res (List D)) (ρ : Env) (S : Sto) : SRes := (al ρ S).toS ρ fun ds S => if ds.length ≤ sizeLine then .nx (ρ.set i (some (.own (.lst ds)))) S else .bad
theorem psv_ownL (hN : X.N.Nodup) (hi : X.N[i]? = some x) (hx : L2.Loc X.env.scope x) (ha : PAv X W es al) (hs : swapsWith (.List es pos) (some (.Name x pos')) pos2.line X.env = pure false := by rfl) (hf : X.fn x = true ∨ X.env.scope.names.lookup x = some .local := by first | exact .inl rfl | exact .inr rfl | assumption) (h0 : i ≠ 0 ∨ W.me = none := by first | exact .inl (by decide) | exact .inr (by assumption)) :
    PSv X W (.Assign [.Name x pos'] (.List es pos) pos2) (sOwnL i al) := by
  refine ps_imp (ps_set hN hi hx (pe_lst ha) hs hf) fun Dn σ H t => ?_
  refine t_mono (T.toS (R := RVs) t) fun vs H1 ⟨ρ, S, m, F, ds, st, r, p⟩ => ?_
  split at p
  · rename_i hc
    refine ⟨by rw [← r.length]; exact hc, fun q hq => ?_⟩
    obtain ⟨l, st'⟩ := st.newown (o := .lst vs) (so := .lst ds) hq ⟨vs, upd_same, r.le (rc_own hq)⟩ i h0
    exact p _ _ _ _ l st'
  · exact p.elim
def sOwnD (i : Nat) (ρ : Env) (S : Sto) : SRes := .nx (ρ.set i (some (.own (.dK [])))) S
theorem psv_ownD (hN : X.N.Nodup) (hi : X.N[i]? = some x) (hx : L2.Loc X.env.scope x) (hs : swapsWith (.Dict [] [] pos) (some (.Name x pos')) pos2.line X.env = pure false := by rfl) (hf : X.fn x = true ∨ X.env.scope.names.lookup x = some .local := by first | exact .inl rfl | exact .inr rfl | assumption) (h0 : i ≠ 0 ∨ W.me = none := by first | exact .inl (by decide) | exact .inr (by assumption)) :
    PSv X W (.Assign [.Name x pos'] (.Dict [] [] pos) pos2) (sOwnD i) := by
  refine ps_imp (ps_set hN hi hx pe_dnewK hs hf) fun Dn σ H ⟨ρ, S, m, F, st, p⟩ => fun q hq => ?_
  obtain ⟨l, st'⟩ := st.newown (o := .dK []) (so := .dK []) hq ⟨[], upd_same, .nil⟩ i h0
  exact p _ _ _ _ l st'
/-- ahead of a statement an own object may become a datum -/
def sFz (i : Nat) (g : Env → Sto → SRes) (ρ : Env) (S : Sto) : SRes := g (fz i ρ) S
theorem psv_fz (i : Nat) (h : PSv X W st g) : PSv X W st (sFz i g) := ps_imp h fun Dn σ H ⟨ρ, S, m, F, s, p⟩ =>
  let ⟨F', l, s'⟩ := s.freeze i
  ⟨fz i ρ, S, m, F', s', SPost.from p l⟩
theorem pssv_fz (i : Nat) (h : PSsv X W sts g) : PSsv X W sts (sFz i g) := pss_imp h fun Dn σ H ⟨ρ, S, m, F, s, p⟩ =>
  let ⟨F', l, s'⟩ := s.freeze i
  ⟨fz i ρ, S, m, F', s', SPost.from p l⟩
/-- code that is never come to -/
theorem psv_never : PSv X W st fun _ _ => .bad := ps_imp ps_never fun _ _ _ ⟨_, _, _, _, _, p⟩ => p
theorem pssv_never : PSsv X W sts fun _ _ => .bad := pss_imp pss_never fun _ _ _ ⟨_, _, _, _, _, p⟩ => p
end

/-! ### the promise of a def -/
/-- a def's promise: sp at every call that binds -/
structure FnE (P : Program) (w : World) (K : PySem.W.Frag) (mg : Str → Option Value) (base : Heap) (CX : CXT) (k : Nat) (f : Addr) (fd : FuncData) (ps : List Str) (sp : Sp) : Prop where
  run : ∀ (A : Around) (outer : List PySem.Env) (s : Shared) (H : Hp) (args : Args) (us : List Value) (vs : List V) (Q : VK) (E : XK), Rm k A → Env0 P w K mg base A outer s H → BindsTo s fd args (ps.zip us) → Vals vs us → us.length = ps.length → sp vs H Q E →
    codeAny (model P w) A (.call (.ref f) args) (CR CX outer P w H s Q E) s
/-- .. at every positional call -/
structure FrE (P : Program) (w : World) (K : PySem.W.Frag) (mg : Str → Option Value) (base : Heap) (CX : CXT) (k : Nat) (f : Addr) (sp : Sp) : Prop where
  run : ∀ (A : Around) (outer : List PySem.Env) (s : Shared) (H : Hp) (us : List Value) (vs : List V) (Q : VK) (E : XK), Rm k A → Env0 P w K mg base A outer s H → Vals vs us → sp vs H Q E →
    codeAny (model P w) A (.call (.ref f) ⟨us, []⟩) (CR CX outer P w H s Q E) s
section
variable {P : Program} {w : World} {K : PySem.W.Frag} {mg : Str → Option Value} {base : Heap} {CX : CXT} {k : Nat} {f : Addr} {fd : FuncData} {ps : List Str} {sp sp' : Sp}
theorem FnE.imp (h : FnE P w K mg base CX k f fd ps sp) (i : ∀ vs H Q E, sp' vs H Q E → sp vs H Q E) : FnE P w K mg base CX k f fd ps sp' := ⟨fun A outer s H args us vs Q E hr e0 bt r hl q => h.run A outer s H args us vs Q E hr e0 bt r hl (i _ _ _ _ q)⟩
theorem FrE.imp (h : FrE P w K mg base CX k f sp) (i : ∀ vs H Q E, sp' vs H Q E → sp vs H Q E) : FrE P w K mg base CX k f sp' := ⟨fun A outer s H us vs Q E hr e0 r q => h.run A outer s H us vs Q E hr e0 r (i _ _ _ _ q)⟩
/-- all parameters by position -/
theorem FnE.pos (h : FnE P w K mg base CX k f fd ps sp) (hb : Binds K fd ps []) (hl : ∀ vs H Q E, sp vs H Q E → vs.length = ps.length) : FrE P w K mg base CX k f sp := ⟨fun A outer s H us vs Q E hr e0 r q => by
  have l : us.length = ps.length := by rw [← r.length]; exact hl _ _ _ _ q
  have bt := hb s us (e0.mod.kin.keeps fun b o e => (e0.bs b o e).1) (by rw [List.append_nil]; exact l)
  rw [List.append_nil] at bt
  exact h.run A outer s H ⟨us, []⟩ us vs Q E hr e0 bt r l q⟩
theorem fnE_ok {x qual : Str} {params : Arguments} {body : List Stmt} {scope : Scope} {dvs : List V} {kws : List (Str × V)} {N : List Str} (Fd : FunD K x qual params body scope dvs kws f fd) (sc : FnScope N ps scope)
    (hbody : ∀ (cdv : Value) (A : Around) (outer : List PySem.Env) (s : Shared) (H : Hp) (vs : List V) (Q : VK) (E : XK), Rm k (A.deeper (envOfC qual scope s.heap.objs.size f cdv)) → sp vs H Q E →
      ∃ t, PSs (cxOf CX P w K mg base N qual scope f cdv A outer s H E) body t ∧ t { nx := fun _ H' => Q .non H', rt := Q } (L2.start N vs) H) : FnE P w K mg base CX (k + 1) f fd ps sp := by
  obtain ⟨oc, od, dV, kV, doc, pm, an, cdv, ct, osl, rfl, lk, hcd, _, _⟩ := Fd.ex
  refine ⟨fun A outer s H args us vs Q E hr e0 bt r hl hsp => StX.run_bnd lk hcd sc hr.r e0 (G := fun xs H2 => xs = vs ∧ H2 = H) (fun A' Ex Q' h => bt _ _ _ _ (h s H vs us e0 Un.refl rfl (fun e s' z => z) r (r.length.trans hl) ⟨rfl, rfl⟩)) fun s2 H2 xs ⟨e1, e2⟩ hr' => ?_⟩
  subst e1 e2
  exact hbody cdv A outer s2 _ _ Q E ⟨hr', hr.g⟩ hsp
end
def startE (N : List Str) (ds : List D) : Env := ds.map (fun d => some (.v d)) ++ List.replicate (N.length - ds.length) none
def fnRes : SRes → Res D
  | .nx _ S => .ok .non S
  | .ret d S => .ok d S
  | .ex x _ S => .ex x S
  | _ => .bad
def spEv (K : PySem.W.Frag) (n : Nat) (k : List D → Sto → Res D) : Sp := fun vs H Q E => ∃ S m F ds, RS K F S m H ∧ RVs (rc K F S m H) ds vs ∧ ds.length = n ∧ Post K F RV E S m H (k ds S) Q
theorem startE_rv {c : RC} {F F0 : Addr → Prop} {N : List Str} {ds : List D} {vs : List V} (r : RVs c ds vs) : RE c F F0 (startE N ds) (L2.start N vs) := by
  have hl := r.length
  have noown : ∀ {i : Nat} {so : SO}, (startE N ds)[i]? ≠ some (some (.own so)) := fun {i so} h => by
    unfold startE at h
    rw [List.getElem?_append] at h
    split at h
    · rw [List.getElem?_map] at h
      cases q : ds[i]? with
      | none => rw [q] at h; cases h
      | some d => rw [q] at h; cases h
    · rw [List.getElem?_replicate] at h
      split at h <;> cases h
  refine ⟨by simp [startE, L2.start, hl], fun i d e => ?_, fun i so e => absurd e noown, fun i j so so' a e => absurd e noown⟩
  unfold startE at e
  unfold L2.start
  by_cases hi : i < ds.length
  · rw [List.getElem?_append_left (by simpa using hi), List.getElem?_map] at e
    cases q : ds[i]? with
    | none => rw [q] at e; cases e
    | some d' =>
      rw [q] at e
      cases e
      obtain ⟨v, hv, rv⟩ := r.get q
      refine ⟨v, ?_, rv⟩
      rw [List.getElem?_append_left (by simpa [← hl] using hi), List.getElem?_map, hv]
      rfl
  · rw [List.getElem?_append_right (by simpa using hi), List.getElem?_replicate] at e
    split at e <;> cases e
/-- a def keeps its promise by its body -/
theorem def_ok {P : Program} {w : World} {K : PySem.W.Frag} {mg : Str → Option Value} {base : Heap} {x qual : Str} {params : Arguments} {body : List Stmt} {scope : Scope} {dvs : List V} {kws : List (Str × V)} {f : Addr} {fd : FuncData} {N ps : List Str} {k : Nat} {g : Env → Sto → SRes}
    (Fd : FunD K x qual params body scope dvs kws f fd) (sc : FnScope N ps scope)
    (hb : ∀ (cdv : Value) (A : Around) (outer : List PySem.Env) (s : Shared) (H : Hp) (E : XK) (W : Wi), W.me = none → Rm k (A.deeper (envOfC qual scope s.heap.objs.size f cdv)) → Takes (cxOf (CX P w) P w K mg base N qual scope f cdv A outer s H E) W.w →
      PSsv (cxOf (CX P w) P w K mg base N qual scope f cdv A outer s H E) W body g) :
    FnE P w K mg base (CX P w) (k + 1) f fd ps (spEv K ps.length fun ds S => fnRes (g (startE N ds) S)) := by
  refine fnE_ok Fd sc fun cdv A outer s H vs Q E hr ⟨S, m, F, ds, rs, r, hl, p⟩ => ?_
  refine ⟨_, hb cdv A outer s H E ⟨F, fun c d _ H => E c d H, none⟩ rfl hr (takes_of rfl rfl rfl rfl), startE N ds, S, m, F, ⟨rs, startE_rv r, fun _ h => h, fun _ h => nomatch h⟩, ?_⟩
  have p' : Post K F RV E S m H (fnRes (g (startE N ds) S)) Q := p
  show SPost K _ S m F H (g (startE N ds) S) _
  cases q : g (startE N ds) S with
  | nx ρ S' =>
    rw [q] at p'
    intro σ' m' F' H' l st
    exact p' m' H' .non l.toLe ⟨st.s.len, fun n so a h1 h2 => (st.s.ob n so a h1 h2).le (rc_less st.sub) fun _ e => e, st.s.inj, fun a h => st.s.ft a (st.sub a h), fun a h => st.s.fd a (st.sub a h)⟩ .non
  | ret d S' =>
    rw [q] at p'
    intro m' F' H' v l rs' sub rv
    exact p' m' H' v l.toLe ⟨rs'.len, fun n so a h1 h2 => (rs'.ob n so a h1 h2).le (rc_less sub) fun _ e => e, rs'.inj, fun a h => rs'.ft a (sub a h), fun a h => rs'.fd a (sub a h)⟩ (rv.le (rc_less sub))
  | ex x ρ S' =>
    rw [q] at p'
    intro σ' m' F' H' dd l st rx
    exact p' m' H' dd l.toLe ⟨st.s.len, fun n so a h1 h2 => (st.s.ob n so a h1 h2).le (rc_less st.sub) fun _ e => e, st.s.inj, fun a h => st.s.ft a (st.sub a h), fun a h => st.s.fd a (st.sub a h)⟩ (rx.le (rc_less st.sub))
  | brk ρ S' => rw [q] at p'; exact p'.elim
  | ct ρ S' => rw [q] at p'; exact p'.elim
  | bad => rw [q] at p'; exact p'.elim
end Ev

set_option Elab.async false
set_option linter.all false
set_option maxRecDepth 100000
set_option maxHeartbeats 4000000
/-! Ev7: calls of the text's own defs, methods, properties; instances. -/
namespace Ev
open PySem PySem.Spec L2
open PyProof.Rows hiding St

section
variable {X : Cx} {W : Wi} {k lv n : Nat} {f : Addr} {fd : FuncData} {ps : List Str} {kf : List D → Sto → Res D} {x m : Str} {p pos apos : Pos} {e o : Expr} {es : List Expr} {al : Env → Sto → Res (List D)} {fo : Env → Sto → Res D}

/-- what is known of a def at f: its promise at level k -/
abbrev Prom (X : Cx) (k : Nat) (f : Addr) (fd : FuncData) (ps : List Str) (kf : List D → Sto → Res D) : Prop := FnE X.prog X.w X.K X.mg X.base (CX X.prog X.w) k f fd ps (spEv X.K ps.length kf)
/-- the callee runs -/
theorem run_ev {pins : List (Addr × Obj)} {σ : St} {H : Hp} {s : Shared} {Q : VK} {us uss : List Value} {kw : List (Str × Value)} {vs : List V} {ds : List D} {ρ : Env} {S : Sto} {mm : List Addr} {F : Addr → Prop} (Pr : Prom X k f fd ps kf) (hr : Rm k X.A) (tk : Takes X W.w)
    (I : Inv X pins σ H s) (bt : BindsTo s fd ⟨us, kw⟩ (ps.zip uss)) (r : Vals vs uss) (st : Sta X.K W ρ S mm F σ H) (rv : RVs (rc X.K F S mm H) ds vs) (hl : ds.length = ps.length)
    (q : Post X.K F RV (fun c d H' => W.w c d σ H') S mm H (kf ds S) Q) : wpAny (model X.prog X.w) X.A (call (.ref f) us kw) (EP X pins σ Q) X.xe s := by
  have h : spEv X.K ps.length kf vs H Q (WE W.w σ) := ⟨S, mm, F, ds, st.s, rv, hl, q⟩
  have run := Pr.run X.A X.stack s H ⟨us, kw⟩ uss vs Q (WE W.w σ) hr I.env0 bt r (by rw [← r.length, ← rv.length]; exact hl) h
  refine wpAny_call (codeAny_mono run fun rr s' hq => ?_)
  match rr, hq with
  | .error er, hq => exact passAt tk σ pins H s er s' I hq
  | .ok (.ret u), hq => exact I.after hq
  | .ok .next, hq => exact hq.elim
  | .ok .brk, hq => exact hq.elim
  | .ok .cont, hq => exact hq.elim

/-- a def of the module, called with all its arguments -/
structure FnG (X : Cx) (k : Nat) (x : Str) (n : Nat) (kf : List D → Sto → Res D) : Prop where
  ex : ∃ f fd ps, X.mg x = some (.ref f) ∧ PySem.W.keepIn X.K (.ref f) = true ∧ ps.length = n ∧ Binds X.K fd ps [] ∧ Prom X k f fd ps kf
def vCall (n : Nat) (kf : List D → Sto → Res D) (al : Env → Sto → Res (List D)) (ρ : Env) (S : Sto) : Res D := (al ρ S).bind fun ds S => if ds.length = n then kf ds S else .bad
theorem pev_call (G : FnG X k x n kf) (hr : Rm lv X.A) (hk : k ≤ lv) (tk : Takes X W.w) (hg : Gl X x) (ha : PAv X W (e :: es) al) (hdb : (x == ("__debug__" : Str)) = false := by decide)
    (he : starEach (e :: es) X.env = (false, eval e X.env) :: starEach es X.env := by rfl) (hpl : (backTo pos (starEach es X.env)).any (·.1) = false := by rfl) : PEv X W (.Call (.Name x p) (e :: es) [] pos) (vCall n kf al) := by
  obtain ⟨f, fd, ps, hm, hkp, hn, hb, Pr⟩ := G.ex
  refine ⟨fun pins s σ H Q I h => wpAny_Call_Name_kw (ld_glob I hg hm ?_ hdb)⟩
  have hA := ha.run pos pins s σ H _ I (T.bind (R := RVs) h)
  refine PySem.W.callWith_K (h₀ := X.base) I.ok.mod.kin hkp (thn hA fun us s1 ⟨vs, H1, I1, r, ρ, S, mm, F, ds, st, rv, q⟩ => ⟨I1.kIn, ?_⟩) he hpl
  split at q
  · rename_i hl
    have hz : (us ++ []).length = ps.length := by
      rw [List.append_nil, ← r.length, ← rv.length, hl, hn]
    have bt := hb s1 us I1.kIn hz
    rw [List.append_nil] at bt
    exact run_ev Pr (hr.mono hk) tk I1 bt r st rv (hl.trans hn.symm) q
  · exact q.elim
theorem pev_call0 (G : FnG X k x 0 kf) (hr : Rm lv X.A) (hk : k ≤ lv) (tk : Takes X W.w) (hg : Gl X x) (hdb : (x == ("__debug__" : Str)) = false := by decide) : PEv X W (.Call (.Name x p) [] [] pos) (fun _ S => kf [] S) := by
  obtain ⟨f, fd, ps, hm, hkp, hn, hb, Pr⟩ := G.ex
  refine ⟨fun pins s σ H Q I h => wpAny_Call_Name_kw (ld_glob I hg hm ?_ hdb)⟩
  obtain ⟨ρ, S, mm, F, st, q⟩ := h
  refine PySem.W.callWith_K0 I.kIn hkp ?_
  have bt := hb s [] I.kIn (by rw [hn]; rfl)
  exact run_ev Pr (hr.mono hk) tk I bt .nil st .nil hn.symm q

/-! ### keywords, defaults -/
abbrev PKv (X : Cx) (W : Wi) (kws : List Keyword) (f : Env → Sto → Res (List D)) : Prop := PK X kws (TL X.K W f)
theorem pk_imp {kws : List Keyword} {t t' : TA} (h : PK X kws t) (i : ∀ σ H Q, t' σ H Q → t σ H Q) : PK X kws t' := ⟨fun pos pins s σ H Q I q => h.run pos pins s σ H Q I (i _ _ _ q)⟩
theorem pkv_nil : PKv X W [] aNil := pk_imp pk_nil fun _ _ _ ⟨_, _, _, _, st, p⟩ => Post.ok (R := RVs) p st.s .nil
theorem pkv_cons {nm : Option Str} {kp : Pos} {kws : List Keyword} (ha : PEv X W e fo) (hr : PKv X W kws al) : PKv X W (⟨nm, e, kp⟩ :: kws) (aCons fo al) := by
  refine pk_imp (pk_cons ha hr) fun σ H Q t => ?_
  refine t_mono (T.bind (R := RV) t) fun x H1 ⟨ρ, S, m, F, d, st, rx, p⟩ => ?_
  refine t_mono (Post.next (R := RVs) (R2 := RV) (fun l _ _ r => r.le l) st rx p) fun y H2 ⟨S2, m2, d2, st2, rx2, ry2, p2⟩ => ?_
  exact Post.ok (R := RVs) p2 st2.s (.cons rx2 ry2)
/-- how n values by position and the keywords ks come to the parameters: gD on data -/
structure Kb (K : PySem.W.Frag) (fd : FuncData) (ps : List Str) (n : Nat) (ks : List Str) (gD : List D → List D → List D) : Prop where
  ex : ∃ g gV, KBn K fd ps n ks g gV ∧ ∀ (c : RC) (ds zs : List D) (vs ws : List V), c.K = K → RVs c ds vs → RVs c zs ws → RVs c (gD ds zs) (gV vs ws)
def vCallK (n j q : Nat) (gD : List D → List D → List D) (kf : List D → Sto → Res D) (al kl : Env → Sto → Res (List D)) (ρ : Env) (S : Sto) : Res D :=
  (al ρ S).bind fun ds S => (kl ρ S).bind fun zs S => if ds.length = n ∧ zs.length = j ∧ (gD ds zs).length = q then kf (gD ds zs) S else .bad
structure FnK (X : Cx) (k : Nat) (x : Str) (n : Nat) (ks : List Str) (q : Nat) (gD : List D → List D → List D) (kf : List D → Sto → Res D) : Prop where
  ex : ∃ f fd ps, X.mg x = some (.ref f) ∧ PySem.W.keepIn X.K (.ref f) = true ∧ ps.length = q ∧ Kb X.K fd ps n ks gD ∧ Prom X k f fd ps kf
theorem pev_callK {ks : List Str} {q : Nat} {gD : List D → List D → List D} {kws : List Keyword} {kl : Env → Sto → Res (List D)} (G : FnK X k x n ks q gD kf) (hr : Rm lv X.A) (hk : k ≤ lv) (tk : Takes X W.w) (hg : Gl X x) (ha : PAv X W (e :: es) al) (hkw : PKv X W kws kl)
    (hall : (backToKw pos (keywordEach kws X.env)).all (·.1.isSome) = true := by rfl) (hks : (backToKw pos (keywordEach kws X.env)).filterMap (·.1) = ks := by rfl) (hdb : (x == ("__debug__" : Str)) = false := by decide)
    (he : starEach (e :: es) X.env = (false, eval e X.env) :: starEach es X.env := by rfl) (hpl : ((backTo pos (starEach (e :: es) X.env)).any (·.1) || (backToKw pos (keywordEach kws X.env)).any (·.1.isNone)) = false := by rfl) :
    PEv X W (.Call (.Name x p) (e :: es) kws pos) (vCallK n ks.length q gD kf al kl) := by
  obtain ⟨f, fd, ps, hm, hkp, hn, ⟨g, gV, hb, hg2⟩, Pr⟩ := G.ex
  refine ⟨fun pins s σ H Q I h => wpAny_Call_Name_kw (ld_glob I hg hm ?_ hdb)⟩
  have hA := ha.run pos pins s σ H _ I (T.bind (R := RVs) h)
  refine PySem.W.callWith_KW (h₀ := X.base) I.ok.mod.kin hkp hall (thn hA fun us s1 ⟨vs, H1, I1, r, ρ, S, mm, F, ds, st, rv, q1⟩ => ?_) hpl he
  have hB := hkw.run pos pins s1 σ H1 _ I1 (Post.next (R := RVs) (R2 := RVs) (fun l _ _ r => r.le l) st rv q1)
  refine thn hB fun ws s2 ⟨zs, H2, I2, rz, S2, m2, dz, st2, rv2, rz2, q2⟩ => ⟨I2.kIn, ?_⟩
  rw [hks]
  split at q2
  · rename_i hc
    obtain ⟨h1, h2, h3⟩ := hc
    have bt := hb.to s2 us ws I2.kIn (by rw [← r.length, ← rv2.length, h1]) (by rw [← rz.length, ← rz2.length, h2])
    exact run_ev Pr (hr.mono hk) tk I2 bt (hb.rel r rz) st2 (hg2 _ ds dz vs zs rfl rv2 rz2) (h3.trans hn.symm) q2
  · exact q2.elim

/-! ### instances: fields, methods, properties -/
def getIn (S : Sto) (n : Nat) : Option (Nat × List (Str × D)) := match S[n]? with
  | some (some (.ins C fs)) => some (C, fs)
  | _ => none
theorem getIn_eq {S : Sto} {n C : Nat} {fs : List (Str × D)} (h : getIn S n = some (C, fs)) : S[n]? = some (some (.ins C fs)) := by
  unfold getIn at h
  split at h
  · rename_i e
    cases h
    exact e
  · cases h
def viewI (S : Sto) : D → Option (Nat × List (Str × D))
  | .ins C fs => some (C, fs)
  | .box n => getIn S n
  | _ => none
theorem viewI_ok {K : PySem.W.Frag} {F : Addr → Prop} {S : Sto} {m : List Addr} {H : Hp} {d : D} {v : V} {C : Nat} {fs : List (Str × D)} (rs : RS K F S m H) (r : RV (rc K F S m H) d v) (e : viewI S d = some (C, fs)) :
    ∃ a dx fvs, v = .ref a ∧ H a = some (.ins (ca K C) dx fvs) ∧ RVf (rc K F S m H) fs fvs := by
  cases r with
  | ins h n r =>
    cases e
    exact ⟨_, _, _, rfl, h, r⟩
  | @box n a h =>
    obtain ⟨dx, xs, h1, h2⟩ := rs.ob n _ a (getIn_eq e) h
    exact ⟨a, dx, xs, rfl, h1, h2⟩
  | _ => cases e
theorem RVf.lookup {c : RC} {f : Str} : ∀ {fs : List (Str × D)} {fvs : List (Str × V)} {d : D}, RVf c fs fvs → fs.lookup f = some d → ∃ v, fvs.lookup f = some v ∧ RV c d v
  | _, _, _, .nil, e => by cases e
  | (g, d') :: fs, (_, v') :: fvs, d, .cons r t, e => by
    rw [List.lookup_cons] at e ⊢
    cases q : f == g with
    | true =>
      rw [q] at e
      cases e
      exact ⟨v', rfl, r⟩
    | false =>
      rw [q] at e
      exact RVf.lookup t e
theorem RVf.lookup_none {c : RC} {f : Str} : ∀ {fs : List (Str × D)} {fvs : List (Str × V)}, RVf c fs fvs → fs.lookup f = none → fvs.lookup f = none
  | _, _, .nil, _ => rfl
  | (g, d') :: fs, (_, v') :: fvs, .cons r t, e => by
    rw [List.lookup_cons] at e ⊢
    cases q : f == g with
    | true => rw [q] at e; cases e
    | false =>
      rw [q] at e
      exact RVf.lookup_none t e
/-- o.f, a field of the class number C -/
def fldD (C : Nat) (f : Str) (d : D) (S : Sto) : Res D := match viewI S d with
  | some (C', fs) => if C' = C then (match fs.lookup f with
    | some d => .ok d S
    | none => .bad) else .bad
  | none => .bad
structure ClsK (K : PySem.W.Frag) (C : Nat) : Prop where
  c : Cls K (ca K C)
theorem pev_fld {C : Nat} {f : Str} (hc : ClsK X.K C) (hn : NoAttr X.K (ca X.K C) f) (ho : PEv X W o fo) (hb : attributeBase o f X.env (eval o X.env) = eval o X.env := by rfl) : PEv X W (.Attribute o f pos) (v1 (fldD C f) fo) := by
  refine pe_imp (pe_fld ho hb) fun σ H Q t => ?_
  refine t_mono (T.bind (R := RV) t) fun v H1 ⟨ρ, S, m, F, d, st, r, p⟩ => ?_
  unfold fldD at p
  split at p
  · rename_i C' fs e
    split at p
    · rename_i ec
      subst ec
      split at p
      · rename_i d' el
        obtain ⟨a, dx, fvs, rfl, h1, h2⟩ := viewI_ok st.s r e
        obtain ⟨v', hl, rv⟩ := h2.lookup el
        exact ⟨a, _, dx, fvs, v', rfl, h1, hc.c, hn, hl, p.ok st.s rv⟩
      · exact p.elim
    · exact p.elim
  · exact p.elim
/-- a method of the class number C -/
structure MtG (X : Cx) (k : Nat) (C : Nat) (m : Str) (n : Nat) (kf : List D → Sto → Res D) : Prop where
  ex : ∃ f fd ps, Meth X.K (ca X.K C) m f ∧ ps.length = n ∧ Binds X.K fd ps [] ∧ Prom X k f fd ps kf
def vMeth (C : Nat) (m : Str) (n : Nat) (kf : List D → Sto → Res D) (fo : Env → Sto → Res D) (al : Env → Sto → Res (List D)) (ρ : Env) (S : Sto) : Res D := (fo ρ S).bind fun x S => match viewI S x with
  | some (C', fs) => if C' = C ∧ fs.lookup m = none then (al ρ S).bind fun ds S => if (x :: ds).length = n then kf (x :: ds) S else .bad else .bad
  | none => .bad
theorem pev_meth {C : Nat} {pl : Sem Bool} (hc : ClsK X.K C) (G : MtG X k C m n kf) (hr : Rm lv X.A) (hk : k ≤ lv) (tk : Takes X W.w) (ho : PEv X W o fo) (ha : PAv X W (e :: es) al)
    (he : starEach (e :: es) X.env = (false, eval e X.env) :: starEach es X.env := by rfl) (hpl : (backTo pos (starEach es X.env)).any (·.1) = false := by rfl)
    (ht : eval (.Call (.Attribute o m apos) (e :: es) [] pos) X.env = (do
      let ov ← eval o X.env
      standAt apos.atName
      let (f, first) ← holding [ov] (getMethod ov m pl)
      callWith pos f first (backTo pos (starEach (e :: es) X.env)) (backToKw pos (keywordEach [] X.env))) := by rfl) : PEv X W (.Call (.Attribute o m apos) (e :: es) [] pos) (vMeth C m n kf fo al) := by
  obtain ⟨f, fd, ps, hm, hn, hb, Pr⟩ := G.ex
  refine ⟨fun pins s σ H Q I h => ?_⟩
  have hO := ho.run pins s σ H _ I (T.bind (R := RV) h)
  refine PySem.W.methodCall_KW (pl := pl) (thn hO fun u s1 ⟨x, H1, I1, rx, ρ, S, mm, F, d, st, r, q⟩ => ?_) ht
  split at q
  · rename_i C' fs e1
    split at q
    · rename_i hcc
      obtain ⟨ec, el⟩ := hcc
      subst ec
      obtain ⟨a, dx, fvs, ex, h1, h2⟩ := viewI_ok st.s r e1
      subst ex
      obtain rfl : u = Value.ref a := rx
      refine getmeth_ok I1 h1 hc.c hm (h2.lookup_none el) ?_
      have hA := ha.run pos pins s1 σ H1 _ I1 (Post.next (R := RVs) (R2 := RV) (fun l _ _ r => r.le l) st r q)
      refine PySem.W.callWith_K (first := [.ref a]) (h₀ := X.base) I.ok.mod.kin hm.kp (thn hA fun us s2 ⟨vs, H2, I2, r2, S2, m2, ds, st2, rx2, rv2, q2⟩ => ⟨I2.kIn, ?_⟩) he hpl
      split at q2
      · rename_i hl
        have rr : Vals (V.ref a :: vs) (Value.ref a :: us) := .cons rfl r2
        have rd : RVs (rc X.K F S2 m2 H2) (d :: ds) (V.ref a :: vs) := .cons rx2 rv2
        have bt := hb s2 (.ref a :: us) I2.kIn (by rw [List.append_nil, ← rr.length, ← rd.length, hl, hn])
        rw [List.append_nil] at bt
        exact run_ev Pr (hr.mono hk) tk I2 bt rr st2 rd (hl.trans hn.symm) q2
      · exact q2.elim
    · exact q.elim
  · exact q.elim
def vMeth0 (C : Nat) (m : Str) (kf : List D → Sto → Res D) (fo : Env → Sto → Res D) (ρ : Env) (S : Sto) : Res D := (fo ρ S).bind fun x S => match viewI S x with
  | some (C', fs) => if C' = C ∧ fs.lookup m = none then kf [x] S else .bad
  | none => .bad
theorem pev_meth0 {C : Nat} {pl : Sem Bool} (hc : ClsK X.K C) (G : MtG X k C m 1 kf) (hr : Rm lv X.A) (hk : k ≤ lv) (tk : Takes X W.w) (ho : PEv X W o fo)
    (ht : eval (.Call (.Attribute o m apos) [] [] pos) X.env = (do
      let ov ← eval o X.env
      standAt apos.atName
      let (f, first) ← holding [ov] (getMethod ov m pl)
      callWith pos f first (backTo pos (starEach [] X.env)) (backToKw pos (keywordEach [] X.env))) := by rfl) : PEv X W (.Call (.Attribute o m apos) [] [] pos) (vMeth0 C m kf fo) := by
  obtain ⟨f, fd, ps, hm, hn, hb, Pr⟩ := G.ex
  refine ⟨fun pins s σ H Q I h => ?_⟩
  have hO := ho.run pins s σ H _ I (T.bind (R := RV) h)
  refine PySem.W.methodCall_KW (pl := pl) (thn hO fun u s1 ⟨x, H1, I1, rx, ρ, S, mm, F, d, st, r, q⟩ => ?_) ht
  split at q
  · rename_i C' fs e1
    split at q
    · rename_i hcc
      obtain ⟨ec, el⟩ := hcc
      subst ec
      obtain ⟨a, dx, fvs, ex, h1, h2⟩ := viewI_ok st.s r e1
      subst ex
      obtain rfl : u = Value.ref a := rx
      refine getmeth_ok I1 h1 hc.c hm (h2.lookup_none el) (PySem.W.callWith_K0 (first := [.ref a]) I1.kIn hm.kp ?_)
      have bt := hb s1 [.ref a] I1.kIn (by rw [hn]; rfl)
      exact run_ev Pr (hr.mono hk) tk I1 bt (.cons (show RelV (V.ref a) (Value.ref a) from rfl) .nil) st (.one r) hn.symm q
    · exact q.elim
  · exact q.elim
/-- what raises nothing -/
def noEx : Res D → Res D
  | .ex _ _ => .bad
  | r => r
theorem Post.noEx {K : PySem.W.Frag} {F : Addr → Prop} {WE WE' : Value → Option Addr → Hp → Prop} {S : Sto} {m : List Addr} {H : Hp} {r : Res D} {Q : VK} (h : Post K F RV WE S m H (noEx r) Q) : Post K F RV WE' S m H r Q := by
  cases r with
  | ok a S' => exact h
  | ex x S' => exact h.elim
  | bad => exact h
theorem pass_false {E' : Value → Shared → Prop} : Passes (CX X.prog X.w) (X.wish E') fun _ _ _ => False := fun _ _ _ _ _ _ _ ⟨_, _, _, _, _, _, _, _, _, _, _, _, h⟩ => h.elim
/-- a property of the class number C -/
structure PrG (X : Cx) (k : Nat) (C : Nat) (f : Str) (kf : List D → Sto → Res D) : Prop where
  ex : ∃ p g fd ps, PropOf X.K (ca X.K C) f p g ∧ ps.length = 1 ∧ Binds X.K fd ps [] ∧ Prom X k g fd ps kf
def propD (C : Nat) (kf : List D → Sto → Res D) (d : D) (S : Sto) : Res D := match viewI S d with
  | some (C', _) => if C' = C then noEx (kf [d] S) else .bad
  | none => .bad
theorem getprop_ev {pins : List (Addr × Obj)} {σ : St} {H : Hp} {s : Shared} {Q : VK} {b : Bool} {C p g a dx : Addr} {fs : List (Str × V)} {f : Str} {E' : Value → Shared → Prop} {sp : Sp} (I : Inv X pins σ H s) (ea : H a = some (.ins C dx fs)) (c : Cls X.K C) (hp : PropOf X.K C f p g)
    (Pr : FrE X.prog X.w X.K X.mg X.base (CX X.prog X.w) k g sp) (hr : Rm (k + 1) X.A) (h : sp [.ref a] H Q fun _ _ _ => False) : wpAny (model X.prog X.w) X.A (getAttr (.ref a) f b) (EP X pins σ Q) E' s := by
  obtain ⟨mA, O, _, _, _, _⟩ := ins_get I.hok ea
  obtain ⟨od, J, _⟩ := O.look
  obtain ⟨rest, hrec⟩ := hp.rec_
  have I1 := I.tok (s.toks + 1)
  have hc : (PySem.W.clsIn X.K C).isSome = true := by
    obtain ⟨cd, hc, _⟩ := PySem.W.any_some c.hd
    rw [hc]
    rfl
  have run := Pr.run X.A.in1 X.stack { s with toks := s.toks + 1 } H [.ref a] [.ref a] Q (fun _ _ _ => False) hr.in1 I1.env0.in1 (.cons rfl .nil) h
  refine PySem.W.get_bind I.kIn J (PySem.W.plainGet_of (c.get f)).1 (PySem.W.findObj_data hc hp.at_ hp.get hp.tak) (PySem.W.plainGet_of (c.get f)).2 (wpAny_call (PySem.W.prop_get (s := { s with toks := s.toks + 1 }) I.kIn hrec (codeAny_mono run fun r s' hq => ?_)))
  match r, hq with
  | .error er, hq => exact (pass_false (E' := fun _ _ => False) pins σ H { s with toks := s.toks + 1 } er s' (I1.wish _) hq).elim
  | .ok (.ret u), hq =>
    obtain ⟨v, H', I3, rv, q3⟩ := I1.after hq
    show wpAny _ _ (handedOut u) _ _ _
    rw [PySem.W.handedOut_of (handed_of rv)]
    exact wpAny_pure ⟨v, H', I3, rv, q3⟩
  | .ok .next, hq => exact hq.elim
  | .ok .brk, hq => exact hq.elim
  | .ok .cont, hq => exact hq.elim
theorem pev_prop {C : Nat} {f : Str} (hc : ClsK X.K C) (G : PrG X k C f kf) (hr : Rm lv X.A) (hk : k + 1 ≤ lv) (ho : PEv X W o fo) (hb : attributeBase o f X.env (eval o X.env) = eval o X.env := by rfl) : PEv X W (.Attribute o f pos) (v1 (propD C kf) fo) := by
  obtain ⟨p, g, fd, ps, hp, hn, hbi, Pr⟩ := G.ex
  refine ⟨fun pins s σ H Q I h => ?_⟩
  have hO := ho.run pins s σ H _ I (T.bind (R := RV) h)
  refine attr_of hb (thn hO fun u s1 ⟨x, H1, I1, rx, ρ, S, m, F, d, st, r, q⟩ => ?_)
  unfold propD at q
  split at q
  · rename_i C' fs e1
    split at q
    · rename_i ec
      subst ec
      obtain ⟨a, dx, fvs, rfl, h1, h2⟩ := viewI_ok st.s r e1
      obtain rfl : u = Value.ref a := rx
      exact getprop_ev I1 h1 hc.c hp (Pr.pos hbi fun vs H Q E ⟨_, _, _, ds, _, r, l, _⟩ => r.length.symm.trans l) (hr.mono hk) ⟨S, m, F, [d], st.s, .one r, hn.symm, q.noEx⟩
    · exact q.elim
  · exact q.elim
end
end Ev

set_option Elab.async false
set_option linter.all false
set_option maxRecDepth 100000
set_option maxHeartbeats 4000000
/-! Ev8: data without boxes, pure defs; the frame's own lists. -/
namespace Ev
open PySem PySem.Spec L2
open PyProof.Rows hiding St

/-! ### data without boxes -/
mutual
def D.bf : D → Bool
  | .box _ => false
  | .tup ds => D.bfs ds
  | .lst ds => D.bfs ds
  | .fro ds => D.bfs ds
  | .dK kvs => D.bfk kvs
  | .ins _ fs => D.bff fs
  | .exi _ fs => D.bff fs
  | .xc _ _ _ _ => false
  | _ => true
def D.bfs : List D → Bool
  | [] => true
  | d :: ds => d.bf && D.bfs ds
def D.bfk : List (Key × D) → Bool
  | [] => true
  | (_, d) :: ds => d.bf && D.bfk ds
def D.bff : List (Str × D) → Bool
  | [] => true
  | (_, d) :: ds => d.bf && D.bff ds
end
section
variable {c c' : RC}
theorem andT {a b : Bool} (h : (a && b) = true) : a = true ∧ b = true := Bool.and_eq_true_iff.mp h
mutual
theorem RV.tobf (hk : c'.K = c.K) (hh : ∀ a o, c.H a = some o → c'.H a = some o) (hl : ∀ a o, c.H a = some o → c'.live a → c.live a) : ∀ {d : D} {v : V}, d.bf = true → RV c d v → RV c' d v
  | _, _, _, .non => .non
  | _, _, _, .bl b => .bl b
  | _, _, _, .int i => .int i
  | _, _, _, .str x => .str x
  | _, _, _, .ty n => .ty n
  | _, _, _, .gl a => by rw [← hk]; exact .gl a
  | .tup ds, _, b, .tup h r => by
    refine .tup ?_ (RVs.tobf hk hh hl (show D.bfs ds = true from b) r)
    rcases h with ⟨h, n⟩ | h
    · rcases h with h | ⟨o, h⟩
      · exact .inl ⟨.inl (hh _ _ h), fun z => n (hl _ _ h z)⟩
      · exact .inl ⟨.inr ⟨o, hh _ _ h⟩, fun z => n (hl _ _ h z)⟩
    · exact .inr fun H => by rw [hk]; exact h H
  | .lst ds, _, b, .lst h r => .lst ⟨hh _ _ h.1, fun z => h.2 (hl _ _ h.1 z)⟩ (RVs.tobf hk hh hl (show D.bfs ds = true from b) r)
  | .fro ds, _, b, .fro h r => by
    refine .fro ?_ (RVs.tobf hk hh hl (show D.bfs ds = true from b) r)
    rcases h with ⟨h, n⟩ | h
    · rcases h with h | ⟨o, h⟩
      · exact .inl ⟨.inl (hh _ _ h), fun z => n (hl _ _ h z)⟩
      · exact .inl ⟨.inr ⟨o, hh _ _ h⟩, fun z => n (hl _ _ h z)⟩
    · exact .inr fun H => by rw [hk]; exact h H
  | .dK ds, _, b, .dK h n r => .dK (hh _ _ h) (fun z => n (hl _ _ h z)) (RVk.tobf hk hh hl (show D.bfk ds = true from b) r)
  | .ins C ds, _, b, .ins h n r => .ins (by rw [hk]; exact hh _ _ h) (fun z => n (hl _ _ h z)) (RVf.tobf hk hh hl (show D.bff ds = true from b) r)
  | .box n, _, b, .box h => nomatch (show false = true from b)
  | .exi C ds, _, b, .exi h n h2 n2 r => .exi (by rw [hk]; exact hh _ _ h) (fun z => n (hl _ _ h z)) (hh _ _ h2) (fun z => n2 (hl _ _ h2 z)) (RVf.tobf hk hh hl (show D.bff ds = true from b) r)
  | .xc _ _ _ _, _, b, .xc h n r => nomatch (show false = true from b)
theorem RVs.tobf (hk : c'.K = c.K) (hh : ∀ a o, c.H a = some o → c'.H a = some o) (hl : ∀ a o, c.H a = some o → c'.live a → c.live a) : ∀ {d : List D} {v : List V}, D.bfs d = true → RVs c d v → RVs c' d v
  | _, _, _, .nil => .nil
  | d :: ds, _, b, .cons r t =>
    have q := andT (show (d.bf && D.bfs ds) = true from b)
    .cons (RV.tobf hk hh hl q.1 r) (RVs.tobf hk hh hl q.2 t)
theorem RVk.tobf (hk : c'.K = c.K) (hh : ∀ a o, c.H a = some o → c'.H a = some o) (hl : ∀ a o, c.H a = some o → c'.live a → c.live a) : ∀ {d : List (Key × D)} {v : List (Key × V)}, D.bfk d = true → RVk c d v → RVk c' d v
  | _, _, _, .nil => .nil
  | (k, d) :: ds, _, b, .cons r t =>
    have q := andT (show (d.bf && D.bfk ds) = true from b)
    .cons (RV.tobf hk hh hl q.1 r) (RVk.tobf hk hh hl q.2 t)
theorem RVf.tobf (hk : c'.K = c.K) (hh : ∀ a o, c.H a = some o → c'.H a = some o) (hl : ∀ a o, c.H a = some o → c'.live a → c.live a) : ∀ {d : List (Str × D)} {v : List (Str × V)}, D.bff d = true → RVf c d v → RVf c' d v
  | _, _, _, .nil => .nil
  | (k, d) :: ds, _, b, .cons r t =>
    have q := andT (show (d.bf && D.bff ds) = true from b)
    .cons (RV.tobf hk hh hl q.1 r) (RVf.tobf hk hh hl q.2 t)
end
end
/-- k over an empty store: what a def without effects on the store does -/
def pureK (kf : List D → Sto → Res D) (ds : List D) (S : Sto) : Res D := if D.bfs ds = true then (match kf ds [] with
  | .ok d _ => if d.bf = true then .ok d S else .bad
  | .ex x _ => if D.bff x.fs = true then .ex x S else .bad
  | .bad => .bad) else .bad
theorem rs_nil {K : PySem.W.Frag} {F : Addr → Prop} {S : Sto} {m : List Addr} {H : Hp} (rs : RS K F S m H) : RS K (fun a => Live S m a ∨ F a) [] [] H :=
  ⟨rfl, fun n so a h => by simp at h, fun n n' so so' a h => by simp at h, fun a h => h.elim (fun h => rs.tracked h) fun h => rs.ft a h, fun a _ ⟨n, so, h, _⟩ => by simp at h⟩
theorem prom_pure {P : Program} {w : World} {K : PySem.W.Frag} {mg : Str → Option Value} {base : Heap} {CX : CXT} {k n : Nat} {f : Addr} {fd : FuncData} {ps : List Str} {kf : List D → Sto → Res D} (Pr : FnE P w K mg base CX k f fd ps (spEv K n kf)) :
    FnE P w K mg base CX k f fd ps (spEv K n (pureK kf)) := by
  refine Pr.imp fun vs H Q E ⟨S, m, F, ds, rs, r, hl, p⟩ => ?_
  unfold pureK at p
  split at p
  · rename_i hb
    refine ⟨[], [], fun a => Live S m a ∨ F a, ds, rs_nil rs, RVs.tobf (c := rc K F S m H) (c' := rc K (fun a => Live S m a ∨ F a) [] [] H) rfl (fun _ _ h => h) (fun a o _ z => Or.elim z (fun ⟨n, so, h, _⟩ => by simp at h) id) hb r, hl, ?_⟩
    have back : ∀ {S1 : Sto} {m' : List Addr} {H' : Hp}, Le [] [] H S1 m' H' → (∀ a o, H a = some o → H' a = some o) := fun {S1 m' H'} l a o e => (l.stay a o e fun ⟨n, so, h, _⟩ => by simp at h).1
    cases q : kf ds [] with
    | ok d S1 =>
      rw [q] at p
      dsimp only at p
      split at p
      · rename_i hd
        intro m' H' v l rs' rv
        obtain ⟨l2, rs2⟩ := grow rs (back l)
        exact p m H' v l2 rs2 (RV.tobf (c := rc K (fun a => Live S m a ∨ F a) S1 m' H') (c' := rc K F S m H') rfl (fun _ _ h => h) (fun a o _ z => .inr z) hd rv)
      · exact p.elim
    | ex x S1 =>
      rw [q] at p
      dsimp only at p
      split at p
      · rename_i hd
        intro m' H' dd l rs' ⟨d1, fvs, e1, h1, n1, r1⟩
        obtain ⟨l2, rs2⟩ := grow rs (back l)
        exact p m H' dd l2 rs2 ⟨d1, fvs, e1, h1, fun z => n1 (.inr z), RVf.tobf (c := rc K (fun a => Live S m a ∨ F a) S1 m' H') (c' := rc K F S m H') rfl (fun _ _ h => h) (fun a o _ z => .inr z) hd r1⟩
      · exact p.elim
    | bad => rw [q] at p; exact p.elim
  · exact p.elim

/-! ### the frame's own lists -/
def ownL (ρ : Env) (i : Nat) : Option (List D) := match ρ[i]? with
  | some (some (.own (.lst ds))) => some ds
  | _ => none
theorem ownL_eq {ρ : Env} {i : Nat} {ds : List D} (h : ownL ρ i = some ds) : ρ[i]? = some (some (.own (.lst ds))) := by
  unfold ownL at h
  split at h
  · rename_i e
    cases h
    exact e
  · cases h
def ownK (ρ : Env) (i : Nat) : Option (List (Key × D)) := match ρ[i]? with
  | some (some (.own (.dK ds))) => some ds
  | _ => none
theorem ownK_eq {ρ : Env} {i : Nat} {ds : List (Key × D)} (h : ownK ρ i = some ds) : ρ[i]? = some (some (.own (.dK ds))) := by
  unfold ownK at h
  split at h
  · rename_i e
    cases h
    exact e
  · cases h
section
variable {K : PySem.W.Frag} {W : Wi} {F : Addr → Prop} {S : Sto} {m : List Addr} {H : Hp} {ρ : Env} {σ : St} {i : Nat}
theorem Sta.ownL (st : Sta K W ρ S m F σ H) {ds : List D} (h : ownL ρ i = some ds) : ∃ a xs, σ[i]? = some (some (.ref a)) ∧ H a = some (.lst xs) ∧ RVs (rc K F S m H) ds xs := by
  obtain ⟨a, e, _, _, xs, h1, h2⟩ := st.e.own_ i _ (ownL_eq h)
  exact ⟨a, xs, e, h1, h2⟩
theorem Sta.ownK (st : Sta K W ρ S m F σ H) {ds : List (Key × D)} (h : ownK ρ i = some ds) : ∃ a xs, σ[i]? = some (some (.ref a)) ∧ H a = some (.dK xs) ∧ RVk (rc K F S m H) ds xs := by
  obtain ⟨a, e, _, _, xs, h1, h2⟩ := st.e.own_ i _ (ownK_eq h)
  exact ⟨a, xs, e, h1, h2⟩
end
section
variable {X : Cx} {W : Wi} {x : Str} {p1 p2 p3 p4 pos : Pos} {e : Expr} {f : Env → Sto → Res D} {i : Nat} {n : Nat}
/-- x.append(e) -/
def sApp (i : Nat) (f : Env → Sto → Res D) (ρ : Env) (S : Sto) : SRes := match ownL ρ i with
  | some ds => (f ρ S).toS ρ fun d S => if ds.length < sizeLine then .nx (ρ.set i (some (.own (.lst (ds ++ [d]))))) S else .bad
  | none => .bad
theorem tyL {K : PySem.W.Frag} {a : Addr} {xs : List V} {H : Hp} (h : H a = some (.lst xs)) : tyV K "list" (.ref a) H := .inl ⟨rfl, xs, SqL.of h⟩
theorem psv_app (hN : X.N[i]? = some x) (hv : Vis X.env.scope x) (he : PEv X W e f) (hd : (x == ("__debug__" : Str)) = false := by decide) (hcd : (x == ("__classdict__" : Str)) = false := by decide) (hab : attributeBase (.Name x p1) "append" X.env (eval (.Name x p1) X.env) = eval (.Name x p1) X.env := by rfl)
    (h1 : ((((backTo p3 (starEach [e] X.env)).all fun x => !x.1) && (backToKw p3 (keywordEach [] X.env)).all fun x => x.1.isSome) && decide (([e].length + ([] : List Keyword).length + if ([] : List Keyword).isEmpty = true then 0 else 1) < 30)) = true := by rfl) (h2 : (p2.endLine == p3.line) = true := by rfl)
    (h3 : starEach [e] X.env = (false, eval e X.env) :: starEach [] X.env := by rfl) (h4 : ((backTo p3 (starEach [] X.env)).any fun x => x.1) = false := by rfl) (hs : swapsWith (.Call (.Attribute (.Name x p1) "append" p2) [e] [] p3) none p4.line X.env = pure false := by rfl) :
    PSv X W (.Expr (.Call (.Attribute (.Name x p1) "append" p2) [e] [] p3) p4) (sApp i f) := by
  refine ps_imp (ps_expr (pe_bm PySem.F.plainAttrs_list PySem.F.slot_list_append PySem.F.type_list_append mt_append (pe_var hN hv hd hcd) (pa_cons he pa_nil h3) hab h1 h2 h3 h4) hs) fun Dn σ H ⟨ρ, S, m, F, st, p⟩ => ?_
  unfold sApp at p
  split at p
  · rename_i ds e1
    obtain ⟨a, xs, ha, hx, r⟩ := st.ownL e1
    refine ⟨_, ha, tyL hx, ρ, S, m, F, st, (p.toS (R := RV) st).mono (fun v H1 ⟨S1, m1, d, l, st1, rd, p1⟩ => ?_) fun _ _ _ h => h⟩
    obtain ⟨a', xs1, ha', hx1, r1⟩ := st1.ownL e1
    rw [ha] at ha'
    cases ha'
    split at p1
    · rename_i hz
      refine ⟨a, xs1, v, rfl, rfl, hx1, by rw [← r1.length]; exact hz, ?_⟩
      obtain ⟨l2, st2⟩ := st1.writeown (o := .lst (xs1 ++ [v])) (so' := .lst (ds ++ [d])) (ownL_eq e1) ha fun c lc hc => ⟨_, by rw [hc]; exact upd_same, (r1.le lc).append (.one (rd.le lc))⟩
      exact p1 _ _ _ _ l2 st2
    · exact p1.elim
  · exact p.elim
/-- y = x.pop(); x.pop() -/
def sPop (i : Nat) (j : Option Nat) (ρ : Env) (S : Sto) : SRes := match ownL ρ i with
  | some ds => (match ds[ds.length - 1]? with
    | some d => .nx (match j with
      | some j => (ρ.set i (some (.own (.lst ds.dropLast)))).set j (some (.v d))
      | none => ρ.set i (some (.own (.lst ds.dropLast)))) S
    | none => .bad)
  | none => .bad
theorem RVs.dropLast {c : RC} {ds : List D} {vs : List V} (r : RVs c ds vs) : RVs c ds.dropLast vs.dropLast := by
  rw [List.dropLast_eq_take, List.dropLast_eq_take, r.length]
  exact r.take _
theorem psv_pop (hN : X.N[i]? = some x) (hv : Vis X.env.scope x) (hd : (x == ("__debug__" : Str)) = false := by decide) (hcd : (x == ("__classdict__" : Str)) = false := by decide) (hab : attributeBase (.Name x p1) "pop" X.env (eval (.Name x p1) X.env) = eval (.Name x p1) X.env := by rfl)
    (h2 : (p2.endLine == p3.line) = true := by rfl) (hs : swapsWith (.Call (.Attribute (.Name x p1) "pop" p2) [] [] p3) none p4.line X.env = pure false := by rfl) :
    PSv X W (.Expr (.Call (.Attribute (.Name x p1) "pop" p2) [] [] p3) p4) (sPop i none) := by
  refine ps_imp (ps_expr (pe_bm0 PySem.F.plainAttrs_list PySem.F.slot_list_pop PySem.F.type_list_pop mt_pop (pe_var hN hv hd hcd) hab h2) hs) fun Dn σ H ⟨ρ, S, m, F, st, p⟩ => ?_
  unfold sPop at p
  split at p
  · rename_i ds e1
    obtain ⟨a, xs, ha, hx, r⟩ := st.ownL e1
    split at p
    · rename_i d e2
      obtain ⟨v, hv, rv⟩ := r.get e2
      rw [r.length] at hv
      refine ⟨_, ha, tyL hx, a, xs, v, rfl, rfl, hx, hv, ?_⟩
      obtain ⟨l2, st2⟩ := st.writeown (o := .lst xs.dropLast) (so' := .lst ds.dropLast) (ownL_eq e1) ha fun c lc hc => ⟨_, by rw [hc]; exact upd_same, (r.le lc).dropLast⟩
      exact p _ _ _ _ l2 st2
    · exact p.elim
  · exact p.elim
theorem psv_setpop {y : Str} {j : Nat} (hN : X.N[i]? = some x) (hv : Vis X.env.scope x) (hNd : X.N.Nodup) (hj : X.N[j]? = some y) (hy : L2.Loc X.env.scope y) (hd : (x == ("__debug__" : Str)) = false := by decide) (hcd : (x == ("__classdict__" : Str)) = false := by decide) (hab : attributeBase (.Name x p1) "pop" X.env (eval (.Name x p1) X.env) = eval (.Name x p1) X.env := by rfl)
    (h2 : (p2.endLine == p3.line) = true := by rfl) (hs : swapsWith (.Call (.Attribute (.Name x p1) "pop" p2) [] [] p3) (some (.Name y p4)) pos.line X.env = pure false := by rfl) (hf : X.fn y = true ∨ X.env.scope.names.lookup y = some .local := by first | exact .inl rfl | exact .inr rfl | assumption)
    (h0 : j ≠ 0 ∨ W.me = none := by first | exact .inl (by decide) | exact .inr (by assumption)) :
    PSv X W (.Assign [.Name y p4] (.Call (.Attribute (.Name x p1) "pop" p2) [] [] p3) pos) (sPop i (some j)) := by
  refine ps_imp (ps_set hNd hj hy (pe_bm0 PySem.F.plainAttrs_list PySem.F.slot_list_pop PySem.F.type_list_pop mt_pop (pe_var hN hv hd hcd) hab h2) hs hf) fun Dn σ H ⟨ρ, S, m, F, st, p⟩ => ?_
  unfold sPop at p
  split at p
  · rename_i ds e1
    obtain ⟨a, xs, ha, hx, r⟩ := st.ownL e1
    split at p
    · rename_i d e2
      obtain ⟨v, hv, rv⟩ := r.get e2
      rw [r.length] at hv
      refine ⟨_, ha, tyL hx, a, xs, v, rfl, rfl, hx, hv, ?_⟩
      have e3 := ownL_eq e1
      obtain ⟨a', e4, fa, f0, _⟩ := st.e.own_ i _ e3
      rw [ha] at e4
      cases e4
      obtain ⟨l2, st2⟩ := st.writeown (o := .lst xs.dropLast) (so' := .lst ds.dropLast) e3 ha fun c lc hc => ⟨_, by rw [hc]; exact upd_same, (r.le lc).dropLast⟩
      have up : (rc X.K F S m H).Le (rc X.K F S m (upd H a (.lst xs.dropLast))) := by
        refine ⟨rfl, fun b u e n => ?_, [], by simp⟩
        have hne : b ≠ a := fun z => n (.inr (by rw [z]; exact fa))
        refine ⟨?_, n⟩
        show upd H a (.lst xs.dropLast) b = some u
        rw [upd_ne hne]
        exact e
      exact p _ _ _ _ l2 (st2.setv (rv.le up) j h0)
    · exact p.elim
  · exact p.elim
/-- x[e] of an own list -/
def vOwnIx (i : Nat) (g : Env → Sto → Res D) (ρ : Env) (S : Sto) : Res D := match ownL ρ i with
  | some ds => (g ρ S).bind fun y S => (match y.int? with
    | some j => (match atI ds j with
      | some d => .ok d S
      | none => .bad)
    | none => .bad)
  | none => .bad
theorem pev_ownIx (hN : X.N[i]? = some x) (hv : Vis X.env.scope x) (he : PEv X W e f) (hd : (x == ("__debug__" : Str)) = false := by decide) (hcd : (x == ("__classdict__" : Str)) = false := by decide) (hs : PlainIx e := by exact fun _ _ => rfl) : PEv X W (.Subscript (.Name x p1) e pos) (vOwnIx i f) := by
  refine pe_imp (pe_ix ix_list (pe_var hN hv hd hcd) he hs) fun σ H Q ⟨ρ, S, m, F, st, p⟩ => ?_
  unfold vOwnIx at p
  split at p
  · rename_i ds e1
    obtain ⟨a, xs, ha, hx, r⟩ := st.ownL e1
    refine ⟨_, ha, ρ, S, m, F, st, (p.bind (R := RV)).mono (fun v H1 ⟨S1, m1, d, l, rs1, rd, p1⟩ => ?_) fun _ _ _ h => h⟩
    have st1 := st.le l rs1
    obtain ⟨a', xs1, ha', hx1, r1⟩ := st1.ownL e1
    rw [ha] at ha'
    cases ha'
    split at p1
    · rename_i j e2
      split at p1
      · rename_i d' e3
        obtain ⟨v', h1, h2⟩ := atI_rv r1 e3
        exact ⟨a, xs1, j, v', rfl, int_ok rd e2, SqL.of hx1, h1, p1.ok rs1 h2⟩
      · exact p1.elim
    · exact p1.elim
  · exact p.elim
/-- x of an own list, as a test; len(x) -/
def bOwn (i : Nat) (ρ : Env) (S : Sto) : Res Bool := match ownL ρ i with
  | some ds => .ok (!ds.isEmpty) S
  | none => .bad
theorem ptv_own (hN : X.N[i]? = some x) (hv : Vis X.env.scope x) (hd : (x == ("__debug__" : Str)) = false := by decide) (hcd : (x == ("__classdict__" : Str)) = false := by decide) (he : ∀ whole, PySem.isTrue (.Name x p1) X.env whole = (do let v ← whole; standAt (Expr.Name x p1).pos; holding [v] (truthy v)) := by intro _; rfl) : PTv X W (.Name x p1) (bOwn i) := by
  refine pt_imp (pt_truth (pe_var hN hv hd hcd) he) fun σ H Q ⟨ρ, S, m, F, st, p⟩ => ?_
  unfold bOwn at p
  split at p
  · rename_i ds e1
    obtain ⟨a, xs, ha, hx, r⟩ := st.ownL e1
    exact ⟨_, ha, !ds.isEmpty, .inl ⟨xs, SqL.of hx, by rw [r.empty]⟩, Post.ok (R := RB) p st.s rfl⟩
  · exact p.elim
def vOwnLen (i : Nat) (ρ : Env) (S : Sto) : Res D := match ownL ρ i with
  | some ds => .ok (.int ds.length) S
  | none => .bad
theorem pev_ownLen (hN : X.N[i]? = some x) (hv : Vis X.env.scope x) (hg : Gl X "len") (hm : X.mg "len" = none) (hd : (x == ("__debug__" : Str)) = false := by decide) (hcd : (x == ("__classdict__" : Str)) = false := by decide)
    (h3 : starEach [.Name x p1] X.env = (false, eval (.Name x p1) X.env) :: starEach [] X.env := by rfl) (h4 : (backTo pos (starEach [] X.env)).any (·.1) = false := by rfl) : PEv X W (.Call (.Name "len" p2) [.Name x p1] [] pos) (vOwnLen i) := by
  refine pe_imp (pe_callB call_len hg hm PySem.boot_len (pa_cons (pe_var hN hv hd hcd) pa_nil h3) (by decide) (by decide) h3 h4) fun σ H Q ⟨ρ, S, m, F, st, p⟩ => ?_
  unfold vOwnLen at p
  split at p
  · rename_i ds e1
    obtain ⟨a, xs, ha, hx, r⟩ := st.ownL e1
    exact ⟨_, ha, _, ds.length, rfl, .inl ⟨xs, SqL.of hx, r.length⟩, p.ok st.s (.int _)⟩
  · exact p.elim
/-- x += e, x an own list -/
def sExt (i : Nat) (f : Env → Sto → Res D) (ρ : Env) (S : Sto) : SRes := match ownL ρ i with
  | some ds => (f ρ S).toS ρ fun d S => (match viewX S d with
    | some es => if ds.length + es.length ≤ sizeLine then .nx (ρ.set i (some (.own (.lst (ds ++ es))))) S else .bad
    | none => .bad)
  | none => .bad
theorem pip_of {op : Operator} {r : R2} (h : OpR X (inplaceOp op) r) : PIp X op r := fun pins s σ H x y v u Q I rx ry q => h pins s σ H x y v u Q I rx ry q
theorem set_same {l : List (Option V)} {i : Nat} {v : V} (h : l[i]? = some (some v)) : l.set i (some v) = l := by
  refine List.ext_getElem? fun j => ?_
  by_cases hj : i = j
  · subst hj
    rw [List.getElem?_set_self (List.getElem?_eq_some_iff.mp h).1, h]
  · rw [List.getElem?_set_ne hj]
theorem psv_ext (hN : X.N.Nodup) (hi : X.N[i]? = some x) (hx : L2.Loc X.env.scope x) (he : PEv X W e f) (hf : X.fn x = true ∨ X.env.scope.names.lookup x = some .local := by first | exact .inl rfl | exact .inr rfl | assumption) :
    PSv X W (.AugAssign (.Name x p1) .Add e pos) (sExt i f) := by
  refine ps_imp (ps_aug hN hi hx he (pip_of iop_ext) hf) fun Dn σ H ⟨ρ, S, m, F, st, p⟩ => ?_
  unfold sExt at p
  split at p
  · rename_i ds e1
    obtain ⟨a, xs, ha, hx, r⟩ := st.ownL e1
    refine ⟨_, ha, ρ, S, m, F, st, (p.toS (R := RV) st).mono (fun v H1 ⟨S1, m1, d, l, st1, rd, p1⟩ => ?_) fun _ _ _ h => h⟩
    obtain ⟨a', xs1, ha', hx1, r1⟩ := st1.ownL e1
    rw [ha] at ha'
    cases ha'
    split at p1
    · rename_i es e2
      obtain ⟨b, ys, rfl, hy, r2⟩ := viewX_ok st1.s rd e2
      split at p1
      · rename_i hz
        refine ⟨a, b, xs1, ys, rfl, rfl, hx1, hy, by rw [← r1.length, ← r2.length]; exact hz, ?_⟩
        obtain ⟨l2, st2⟩ := st1.writeown (o := .lst (xs1 ++ ys)) (so' := .lst (ds ++ es)) (ownL_eq e1) ha fun c lc hc => ⟨_, by rw [hc]; exact upd_same, (r1.le lc).append (r2.le lc)⟩
        rw [set_same ha]
        exact p1 _ _ _ _ l2 st2
      · exact p1.elim
    · exact p1.elim
  · exact p.elim
end
end Ev

set_option Elab.async false
set_option linter.all false
set_option maxRecDepth 100000
set_option maxHeartbeats 4000000
/-! Ev9: targets, loops, comprehensions. -/
namespace Ev
open PySem PySem.Spec L2
open PyProof.Rows hiding St

/-! ### targets -/
/-- nothing but the slots of is changes -/
def Agree (is : List Nat) (σ σ' : St) : Prop := σ'.length = σ.length ∧ ∀ j, j ∉ is → σ'[j]? = σ[j]?
theorem Agree.refl (is : List Nat) (σ : St) : Agree is σ σ := ⟨rfl, fun _ _ => rfl⟩
theorem Agree.trans {is js : List Nat} {a b c : St} (h : Agree is a b) (g : Agree js b c) : Agree (is ++ js) a c :=
  ⟨g.1.trans h.1, fun j hj => (g.2 j fun z => hj (List.mem_append_right _ z)).trans (h.2 j fun z => hj (List.mem_append_left _ z))⟩
theorem Agree.wipe {is vs : List Nat} {a b : St} (h : Agree is a b) (hv : ∀ i ∈ is, i ∈ vs) : L2.wipe b vs = L2.wipe a vs := by
  refine List.ext_getElem? fun j => ?_
  by_cases hj : j ∈ vs
  · have gone : ∀ {σ : St} {vs : List Nat}, j ∈ vs → (L2.wipe σ vs)[j]? = if j < σ.length then some none else none := fun {σ vs} hm => by
      induction vs with
      | nil => cases hm
      | cons v r ih =>
        show ((L2.wipe σ r).set v none)[j]? = _
        by_cases e : v = j
        · subst e
          rw [List.getElem?_set, if_pos rfl, wipe_length]
        · rw [List.getElem?_set_ne e]
          exact ih ((List.mem_cons.mp hm).resolve_left fun z => e z.symm)
    rw [gone hj, gone hj, h.1]
  · rw [wipe_out hj, wipe_out hj]
    exact h.2 j fun z => hj (hv j z)
/-- a datum comes to a target -/
def tGv (K : PySem.W.Frag) (W : Wi) (is : List Nat) (g : D → Env → Option Env) : TG := fun v σ H Q => ∃ ρ S m F d ρ', Sta K W ρ S m F σ H ∧ RV (rc K F S m H) d v ∧ g d ρ = some ρ' ∧ ∀ σ', Agree is σ σ' → Sta K W ρ' S m F σ' H → Q σ' H
def tGvs (K : PySem.W.Frag) (W : Wi) (is : List Nat) (g : List D → Env → Option Env) : TGs := fun v σ H Q => ∃ ρ S m F d ρ', Sta K W ρ S m F σ H ∧ RVs (rc K F S m H) d v ∧ g d ρ = some ρ' ∧ ∀ σ', Agree is σ σ' → Sta K W ρ' S m F σ' H → Q σ' H
abbrev PGv (X : Cx) (W : Wi) (tg : Expr) (is : List Nat) (g : D → Env → Option Env) : Prop := PG X tg (tGv X.K W is g)
abbrev PGvs (X : Cx) (W : Wi) (tg : List Expr) (is : List Nat) (g : List D → Env → Option Env) : Prop := PGs X tg (tGvs X.K W is g)
def tgN (i : Nat) (d : D) (ρ : Env) : Option Env := some (ρ.set i (some (.v d)))
def tgNil (ds : List D) (ρ : Env) : Option Env := match ds with
  | [] => some ρ
  | _ => none
def tgCons (g : D → Env → Option Env) (h : List D → Env → Option Env) (ds : List D) (ρ : Env) : Option Env := match ds with
  | d :: ds => (g d ρ).bind (h ds)
  | _ => none
/-- a tuple's (a list's) members to n targets -/
def tgT (n : Nat) (h : List D → Env → Option Env) (d : D) (ρ : Env) : Option Env := match d with
  | .tup ds => if ds.length = n then h ds ρ else none
  | .lst ds => if ds.length = n then h ds ρ else none
  | _ => none
section
variable {X : Cx} {W : Wi} {pos : Pos}
theorem pg_imp {e : Expr} {t t' : TG} (h : PG X e t) (i : ∀ v σ H Q, t' v σ H Q → t v σ H Q) : PG X e t' := ⟨fun pins s σ H v u Q I r q => h.run pins s σ H v u Q I r (i _ _ _ _ q)⟩
theorem pgs_imp {e : List Expr} {t t' : TGs} (h : PGs X e t) (i : ∀ v σ H Q, t' v σ H Q → t v σ H Q) : PGs X e t' := ⟨fun pins s σ H v u Q I r q => h.run pins s σ H v u Q I r (i _ _ _ _ q)⟩
theorem set_agree (σ : St) (i : Nat) (x : Option V) : Agree [i] σ (σ.set i x) := ⟨by simp, fun j hj => List.getElem?_set_ne fun e => hj (by simp [e])⟩
theorem pgv_name {i : Nat} {x : Str} (hN : X.N.Nodup) (hi : X.N[i]? = some x) (hx : L2.Loc X.env.scope x) (hf : X.fn x = true ∨ X.env.scope.names.lookup x = some .local := by first | exact .inl rfl | exact .inr rfl | assumption) (h0 : i ≠ 0 ∨ W.me = none := by first | exact .inl (by decide) | exact .inr (by first | rfl | assumption)) :
    PGv X W (.Name x pos) [i] (tgN i) :=
  pg_imp (pg_name hN hi hx hf) fun v σ H Q ⟨ρ, S, m, F, d, ρ', st, r, e, q⟩ => by
    cases e
    exact q _ (set_agree σ i _) (st.setv r i h0)
theorem pgvs_nil : PGvs X W [] [] tgNil := pgs_imp pgs_nil fun v σ H Q ⟨ρ, S, m, F, d, ρ', st, r, e, q⟩ => by
  cases r with
  | nil => cases e; exact ⟨rfl, q σ (.refl _ σ) st⟩
  | cons _ _ => cases e
theorem pgvs_cons {e : Expr} {es : List Expr} {is js : List Nat} {g : D → Env → Option Env} {h : List D → Env → Option Env} (h1 : PGv X W e is g) (h2 : PGvs X W es js h)
    (hs : (assignEach (e :: es) X.env).map (·.2) = assign e X.env :: (assignEach es X.env).map (·.2) := by rfl) : PGvs X W (e :: es) (is ++ js) (tgCons g h) := by
  refine pgs_imp (pgs_cons h1 h2 hs) fun v σ H Q ⟨ρ, S, m, F, d, ρ', st, r, e, q⟩ => ?_
  cases r with
  | nil => cases e
  | @cons d v ds vs r t =>
    have e' : (g d ρ).bind (h ds) = some ρ' := e
    cases q1 : g d ρ with
    | none => rw [q1] at e'; cases e'
    | some ρ1 =>
      rw [q1] at e'
      exact ⟨v, vs, rfl, ρ, S, m, F, d, ρ1, st, r, q1, fun σ1 a1 st1 => ⟨ρ1, S, m, F, ds, ρ', st1, t, e', fun σ2 a2 st2 => q σ2 (a1.trans a2) st2⟩⟩
theorem pgv_tup {es : List Expr} {k n : Nat} {is : List Nat} {h : List D → Env → Option Env} (hc : X.calm = true) (hs : PGvs X W es is h) (hn : (assignEach es X.env).length = n := by rfl) (hst : (assignEach es X.env).findIdx? (·.1) = none := by rfl) :
    PGv X W (.Tuple es k pos) is (tgT n h) := by
  refine ⟨fun pins s σ H v u Q I r ⟨ρ, S, m, F, d, ρ', st, rd, e, q⟩ => ?_⟩
  cases d with
  | tup ds =>
    have e' : (if ds.length = n then h ds ρ else none) = some ρ' := e
    split at e'
    · rename_i hl
      obtain ⟨a, xs, rfl, h1, h2⟩ := viewT_ok (d := .tup ds) rd rfl
      exact (pg_tup (pos := pos) (k := k) hc hs hn hst).run pins s σ H _ u Q I r ⟨a, xs, rfl, h1, h2.length.symm.trans hl, ρ, S, m, F, ds, ρ', st, h2, e', q⟩
    · cases e'
  | lst ds =>
    have e' : (if ds.length = n then h ds ρ else none) = some ρ' := e
    split at e'
    · rename_i hl
      obtain ⟨a, xs, rfl, h1, h2⟩ := viewL_ok (d := .lst ds) st.s rd rfl
      exact (pg_unl (pos := pos) (k := k) hc hs hn hst).run pins s σ H _ u Q I r ⟨a, xs, rfl, h1, h2.length.symm.trans hl, ρ, S, m, F, ds, ρ', st, h2, e', q⟩
    · cases e'
  | _ => cases e
end
/-- tg = e -/
def sAsg (g : D → Env → Option Env) (f : Env → Sto → Res D) (ρ : Env) (S : Sto) : SRes := (f ρ S).toS ρ fun d S => match g d ρ with
  | some ρ' => .nx ρ' S
  | none => .bad
/-- a, b = (x, y) -/
def sPar (i j : Nat) (al : Env → Sto → Res (List D)) (ρ : Env) (S : Sto) : SRes := (al ρ S).toS ρ fun ds S => match ds with
  | [a, b] => .nx ((ρ.set i (some (.v a))).set j (some (.v b))) S
  | _ => .bad
end Ev
namespace Ev
open PySem PySem.Spec L2
open PyProof.Rows hiding St
section
variable {X : Cx} {W : Wi} {pos : Pos}
theorem psv_asg {tg e : Expr} {f : Env → Sto → Res D} {is : List Nat} {g : D → Env → Option Env} (he : PEv X W e f) (hg : PGv X W tg is g) (hs : swapsWithSole [tg] e pos.line X.env = pure false := by rfl) (hw : swappedStores [tg] e X.env = pure none := by rfl)
    (h1 : (assignEach [tg] X.env).map (·.2) = [assign tg X.env] := by rfl) : PSv X W (.Assign [tg] e pos) (sAsg g f) :=
  ps_imp (ps_asg he hg hs hw h1) fun Dn σ H t => t_mono (T.toS (R := RV) t) fun v H1 ⟨ρ, S, m, F, d, st, r, p⟩ => by
    split at p
    · rename_i ρ' e1
      exact ⟨ρ, S, m, F, d, ρ', st, r, e1, fun σ' _ st' => p _ _ _ _ .refl st'⟩
    · exact p.elim
theorem psv_par {i j : Nat} {x y : Str} {a b : Expr} {al : Env → Sto → Res (List D)} {px py pt : Pos} {kt k2 pt2} (hc : X.calm = true) (hN : X.N.Nodup) (hi : X.N[i]? = some x) (hj : X.N[j]? = some y) (hij : i ≠ j)
    (hx : X.env.scope.names.lookup x = some .local) (hy : X.env.scope.names.lookup y = some .local) (ha : PAv X W [a, b] al)
    (hw : swappedStores [.Tuple [.Name x px, .Name y py] kt pt] (.Tuple [a, b] k2 pt2) X.env = pure (some [x, y]))
    (hs : swapsWithSole [.Tuple [.Name x px, .Name y py] kt pt] (.Tuple [a, b] k2 pt2) pos.line X.env = pure false := by rfl) (h0 : (i ≠ 0 ∧ j ≠ 0) ∨ W.me = none := by first | exact .inl (by decide) | exact .inr (by first | rfl | assumption)) :
    PSv X W (.Assign [.Tuple [.Name x px, .Name y py] kt pt] (.Tuple [a, b] k2 pt2) pos) (sPar i j al) :=
  ps_imp (ps_par hc hN hi hj hij hx hy ha hw hs) fun Dn σ H t => t_mono (T.toS (R := RVs) t) fun v H1 ⟨ρ, S, m, F, ds, st, r, p⟩ => by
    split at p
    · cases r with
      | cons r1 t =>
        cases t with
        | cons r2 t =>
          cases t
          exact ⟨_, _, rfl, p _ _ _ _ .refl ((st.setv r1 i (h0.imp And.left id)).setv r2 j (h0.imp And.right id))⟩
    · exact p.elim
end

/-! ### what is walked -/
structure Walk (c0 : RC) (ds : List D) (J : It) : Prop where
  go : ∀ (i : Nat) d F S m H, ds[i]? = some d → c0.Le (rc c0.K F S m H) → RS c0.K F S m H → J.go i H
  yld : ∀ (i : Nat) d F S m H x H', ds[i]? = some d → c0.Le (rc c0.K F S m H) → RS c0.K F S m H → J.yld i H x H' → (∀ a o, H a = some o → H' a = some o) ∧ RV (rc c0.K F S m H') d x
  stop : ∀ F S m H, c0.Le (rc c0.K F S m H) → RS c0.K F S m H → J.stop ds.length H
abbrev PIv (X : Cx) (W : Wi) (tg iter : Expr) (f : Env → Sto → Res (List D)) : Prop := PI X tg iter (T X.K Walk W f)
theorem pi_imp {X : Cx} {tg iter : Expr} {t t' : TI} (h : PI X tg iter t) (i : ∀ σ H R, t' σ H R → t σ H R) : PI X tg iter t' := ⟨fun pins s σ H R I q => h.run pins s σ H R I (i _ _ _ q)⟩
theorem Walk.lst {c0 : RC} {a : Addr} {xs : List V} {ds : List D} (q : ∀ F S m H, c0.Le (rc c0.K F S m H) → RS c0.K F S m H → SqL c0.K H a xs ∧ RVs (rc c0.K F S m H) ds xs) : Walk c0 ds (Itl c0.K a) := by
  refine ⟨fun i d F S m H e l rs => ?_, fun i d F S m H x H' e l rs y => ?_, fun F S m H l rs => ?_⟩
  · obtain ⟨h1, h2⟩ := q F S m H l rs
    obtain ⟨v, e1, _⟩ := h2.get e
    exact ⟨xs, v, h1, e1⟩
  · obtain ⟨h1, h2⟩ := q F S m H l rs
    obtain ⟨rfl, y⟩ := y
    obtain ⟨v, e1, r⟩ := h2.get e
    have := y xs h1
    rw [e1] at this
    cases this
    exact ⟨fun _ _ e => e, r⟩
  · obtain ⟨h1, h2⟩ := q F S m H l rs
    exact ⟨xs, h1, Nat.le_of_eq h2.length.symm⟩
theorem Walk.tup {c0 : RC} {a : Addr} {xs : List V} {ds : List D} (q : ∀ F S m H, c0.Le (rc c0.K F S m H) → RS c0.K F S m H → SqT c0.K H a xs ∧ RVs (rc c0.K F S m H) ds xs) : Walk c0 ds (Itt c0.K a) := by
  refine ⟨fun i d F S m H e l rs => ?_, fun i d F S m H x H' e l rs y => ?_, fun F S m H l rs => ?_⟩
  · obtain ⟨h1, h2⟩ := q F S m H l rs
    obtain ⟨v, e1, _⟩ := h2.get e
    exact ⟨xs, v, h1, e1⟩
  · obtain ⟨h1, h2⟩ := q F S m H l rs
    obtain ⟨rfl, y⟩ := y
    obtain ⟨v, e1, r⟩ := h2.get e
    have := y xs h1
    rw [e1] at this
    cases this
    exact ⟨fun _ _ e => e, r⟩
  · obtain ⟨h1, h2⟩ := q F S m H l rs
    exact ⟨xs, h1, Nat.le_of_eq h2.length.symm⟩
/-- an unchanging list -/
def stillL : D → Option (List D)
  | .lst ds => some ds
  | .fro ds => some ds
  | _ => none
theorem still_ok {c : RC} {d : D} {v : V} {ds : List D} (r : RV c d v) (e : stillL d = some ds) : ∃ a xs, v = .ref a ∧ (∀ c' : RC, c.Le c' → SqL c'.K c'.H a xs) ∧ RVs c ds xs := by
  cases r with
  | lst h r =>
    cases e
    exact ⟨_, _, rfl, fun c' l => SqL.of (l.lr h).1, r⟩
  | fro h r =>
    cases e
    exact ⟨_, _, rfl, fun c' l => SqL.fr (l.fr h), r⟩
  | _ => cases e
theorem stillT_ok {c : RC} {d : D} {v : V} {ds : List D} (r : RV c d v) (e : viewT d = some ds) : ∃ a xs, v = .ref a ∧ (∀ c' : RC, c.Le c' → SqT c'.K c'.H a xs) ∧ RVs c ds xs := by
  cases r with
  | tup h r =>
    cases e
    exact ⟨_, _, rfl, fun c' l => SqT.tr (l.tr h), r⟩
  | _ => cases e
/-- the signs of a str -/
def signs (x : Str) : List D := x.cps.toList.map fun c => .str ⟨#[c]⟩
def itD (d : D) (S : Sto) : Res (List D) := match stillL d with
  | some ds => .ok ds S
  | none => (match viewT d with
    | some ds => .ok ds S
    | none => (match d with
      | .str x => .ok (signs x) S
      | _ => .bad))
section
variable {X : Cx} {W : Wi} {tg e : Expr} {f : Env → Sto → Res D} {al : Env → Sto → Res (List D)}
/-- over a list, a tuple, a str -/
def iAny (K : PySem.W.Frag) (tl : TE) : TI := fun σ H R => tl σ H fun x H1 => (∃ a, x = .ref a ∧ (∃ xs, SqL K H1 a xs) ∧ R (Itl K a) H1) ∨ (∃ a, x = .ref a ∧ (∃ xs, SqT K H1 a xs) ∧ R (Itt K a) H1) ∨ ∃ z, x = .str z ∧ R (Its z) H1
theorem pi_any {tl : TE} (hl : PE X e tl) : PI X tg e (iAny X.K tl) := by
  refine ⟨fun pins s σ H R I h => thn (hl.run pins s σ H _ I h) fun v s1 ⟨x, H1, I1, r1, q1⟩ => ?_⟩
  rcases q1 with ⟨a, rfl, ⟨xs, hq⟩, q⟩ | ⟨a, rfl, ⟨xs, hq⟩, q⟩ | ⟨z, rfl, q⟩
  · cases r1
    obtain ⟨its, rv, p, hz⟩ := I1.list hq
    exact wpAny_pyIter_list p.isList (pi_one (tk := s1.toks) I1 _ (turn_list a _) ⟨_, Heap.get?_push_size _ rfl, rfl, rfl⟩ q)
  · cases r1
    obtain ⟨its, rv, p, hz⟩ := I1.tuple hq
    exact wpAny_pyIter_tuple (show s1.heap.IsTuple a its.toArray from p) (pi_one (tk := s1.toks) I1 _ (turn_tuple a _) ⟨_, Heap.get?_push_size _ rfl, rfl, rfl⟩ q)
  · obtain ⟨t, rfl⟩ := r1
    cases ha : z.cps.all (· < 128)
    · exact wpAny_pyIter_wide ha (pi_one (tk := s1.toks) I1 _ (turn_str _ z t "str_iterator" (.inr rfl)) ⟨_, Heap.get?_push_size _ rfl, rfl, rfl⟩ q)
    · exact wpAny_pyIter_ascii ha (pi_one (tk := s1.toks) I1 _ (turn_str _ z t "str_ascii_iterator" (.inl rfl)) ⟨_, Heap.get?_push_size _ rfl, rfl, rfl⟩ q)
def vIt (f : Env → Sto → Res D) (ρ : Env) (S : Sto) : Res (List D) := (f ρ S).bind itD
theorem piv_any (he : PEv X W e f) : PIv X W tg e (vIt f) := by
  refine pi_imp (pi_any he) fun σ H R t => ?_
  refine t_mono (T.bind (R := RV) t) fun v H1 ⟨ρ, S, m, F, d, st, r, p⟩ => ?_
  unfold itD at p
  split at p
  · rename_i ds e1
    obtain ⟨a, xs, rfl, h1, h2⟩ := still_ok r e1
    exact .inl ⟨a, rfl, ⟨xs, h1 _ (.refl _)⟩, Post.ok (R := Walk) p st.s (Walk.lst fun F S m H l rs => ⟨h1 _ l, h2.le l⟩)⟩
  · split at p
    · rename_i ds e1
      obtain ⟨a, xs, rfl, h1, h2⟩ := stillT_ok r e1
      exact .inr (.inl ⟨a, rfl, ⟨xs, h1 _ (.refl _)⟩, Post.ok (R := Walk) p st.s (Walk.tup fun F S m H l rs => ⟨h1 _ l, h2.le l⟩)⟩)
    · split at p
      · rename_i z _ _
        cases r
        refine .inr (.inr ⟨_, rfl, Post.ok (R := Walk) p st.s ⟨fun i d F S m H e l rs => ?_, fun i d F S m H x H' e l rs y => ?_, fun F S m H l rs => ?_⟩⟩)
        · have := (List.getElem?_eq_some_iff.mp e).1
          show i < _
          simpa [signs] using this
        · obtain ⟨rfl, c, e1, rfl⟩ := y
          have e' : ((z.cps.toList)[i]?).map (fun c => D.str ⟨#[c]⟩) = some d := by rw [← List.getElem?_map]; exact e
          rw [Array.getElem?_toList, e1] at e'
          cases e'
          exact ⟨fun _ _ e => e, .str _⟩
        · show _ ≤ (signs _).length
          simp [signs]
      · exact p.elim
/-- range -/
def rngL (lo : Int) (n : Nat) : List D := (List.range n).map fun (k : Nat) => .int (lo + k)
theorem Walk.rng {c0 : RC} {lo : Int} {n : Nat} : Walk c0 (rngL lo n) (Itr lo n) := by
  refine ⟨fun i d F S m H e l rs => ?_, fun i d F S m H x H' e l rs y => ?_, fun F S m H l rs => ?_⟩
  · have := (List.getElem?_eq_some_iff.mp e).1
    show i < _
    simpa [rngL] using this
  · obtain ⟨rfl, rfl⟩ := y
    have hi := (List.getElem?_eq_some_iff.mp e).1
    have hi' : i < n := by simpa [rngL] using hi
    have : (rngL lo n)[i]? = some (.int (lo + i)) := by
      unfold rngL
      rw [List.getElem?_map, List.getElem?_range hi']
      rfl
    rw [this] at e
    cases e
    exact ⟨fun _ _ e => e, .int _⟩
  · show _ ≤ (rngL lo n).length
    simp [rngL]
def smallI (i : Int) : Bool := decide (-(2 ^ 62) ≤ i ∧ i < 2 ^ 62)
def rng1 (ds : List D) (S : Sto) : Res (List D) := match ds with
  | [a] => (match a.int? with
    | some j => if smallI j = true then .ok (rngL 0 j.toNat) S else .bad
    | none => .bad)
  | _ => .bad
def rng2 (ds : List D) (S : Sto) : Res (List D) := match ds with
  | [a, b] => (match a.int?, b.int? with
    | some i, some j => if (smallI i && smallI j) = true then .ok (rngL i (j - i).toNat) S else .bad
    | _, _ => .bad)
  | _ => .bad
def vLI (k : List D → Sto → Res (List D)) (al : Env → Sto → Res (List D)) (ρ : Env) (S : Sto) : Res (List D) := (al ρ S).bind k
theorem piv_range1 {a : Expr} {p pos : Pos} (hg : Gl X "range") (hm : X.mg "range" = none) (ha : PAv X W [a] al) (hs : starEach [a] X.env = [(false, eval a X.env)] := by rfl) : PIv X W tg (.Call (.Name "range" p) [a] [] pos) (vLI rng1 al) := by
  refine pi_imp (pi_range1 hg hm ha hs) fun σ H R t => ?_
  refine t_mono (T.bind (R := RVs) t) fun v H1 ⟨ρ, S, m, F, ds, st, r, p⟩ => ?_
  unfold rng1 at p
  split at p
  · cases r with
    | cons r t =>
      cases t
      split at p
      · rename_i j e1
        split at p
        · rename_i hs
          have := int_ok r e1
          subst this
          exact ⟨j, rfl, (of_decide_eq_true hs).1, (of_decide_eq_true hs).2, Post.ok (R := Walk) p st.s Walk.rng⟩
        · exact p.elim
      · exact p.elim
  · exact p.elim
theorem piv_range2 {a b : Expr} {p pos : Pos} (hg : Gl X "range") (hm : X.mg "range" = none) (ha : PAv X W [a, b] al) (hs : starEach [a, b] X.env = [(false, eval a X.env), (false, eval b X.env)] := by rfl) (hs2 : starEach [b] X.env = [(false, eval b X.env)] := by rfl) :
    PIv X W tg (.Call (.Name "range" p) [a, b] [] pos) (vLI rng2 al) := by
  refine pi_imp (pi_range2 hg hm ha hs hs2) fun σ H R t => ?_
  refine t_mono (T.bind (R := RVs) t) fun v H1 ⟨ρ, S, m, F, ds, st, r, p⟩ => ?_
  unfold rng2 at p
  split at p
  · cases r with
    | cons r t =>
      cases t with
      | cons r2 t =>
        cases t
        split at p
        · rename_i i j e1 e2
          split at p
          · rename_i hs
            have := int_ok r e1
            subst this
            have := int_ok r2 e2
            subst this
            rw [Bool.and_eq_true] at hs
            exact ⟨i, j, rfl, ⟨(of_decide_eq_true hs.1).1, (of_decide_eq_true hs.1).2, (of_decide_eq_true hs.2).1, (of_decide_eq_true hs.2).2⟩, Post.ok (R := Walk) p st.s Walk.rng⟩
          · exact p.elim
        · exact p.elim
  · exact p.elim
/-- enumerate of a list -/
def enumL (k : Nat) : List D → List D
  | [] => []
  | d :: ds => .tup [.int k, d] :: enumL (k + 1) ds
theorem enumL_len : ∀ (k : Nat) (ds : List D), (enumL k ds).length = ds.length
  | _, [] => rfl
  | k, d :: ds => by show (enumL (k + 1) ds).length + 1 = ds.length + 1; rw [enumL_len]
theorem enumL_get : ∀ (k : Nat) (ds : List D) (i : Nat), (enumL k ds)[i]? = (ds[i]?).map fun d => .tup [.int (k + i : Nat), d]
  | _, [], _ => rfl
  | k, d :: ds, 0 => rfl
  | k, d :: ds, i + 1 => by
    show (enumL (k + 1) ds)[i]? = _
    rw [enumL_get (k + 1) ds i, show k + 1 + i = k + (i + 1) by omega]
    rfl
def enumD (ds : List D) (S : Sto) : Res (List D) := match ds with
  | [d] => (match stillL d with
    | some ds => .ok (enumL 0 ds) S
    | none => .bad)
  | _ => .bad
theorem new_pair {K : PySem.W.Frag} {F : Addr → Prop} {S : Sto} {m : List Addr} {H : Hp} {T : Addr} {ds : List D} {vs : List V} (rs : RS K F S m H) (hn : H T = none) (r : RVs (rc K F S m H) ds vs) :
    (∀ a o, H a = some o → upd H T (.tup vs) a = some o) ∧ RV (rc K F S m (upd H T (.tup vs))) (.tup ds) (.ref T) :=
  ⟨upd_keeps hn, .tup (.inl ⟨.inl upd_same, fresh_dead rs hn⟩) (r.le (grow rs (upd_keeps hn)).1.rc)⟩
theorem piv_enum {p pos tpos : Pos} {elts : List Expr} {kk : Nat} (hg : Gl X "enumerate") (hm : X.mg "enumerate" = none) (ha : PAv X W [e] al) (hs : starEach [e] X.env = [(false, eval e X.env)] := by rfl) :
    PIv X W (.Tuple elts kk tpos) (.Call (.Name "enumerate" p) [e] [] pos) (vLI enumD al) := by
  refine pi_imp (pi_enum hg hm ha hs) fun σ H R t => ?_
  refine t_mono (T.bind (R := RVs) t) fun v H1 ⟨ρ, S, m, F, ds, st, r, p⟩ => ?_
  unfold enumD at p
  split at p
  · cases r with
    | cons r t =>
      cases t
      split at p
      · rename_i ds e1
        obtain ⟨a, xs, rfl, h1, h2⟩ := still_ok r e1
        refine ⟨a, xs, rfl, h1 _ (.refl _), Post.ok (R := Walk) p st.s ⟨fun i d F S m H e l rs => ?_, fun i d F S m H x H' e l rs y => ?_, fun F S m H l rs => ?_⟩⟩
        · rw [enumL_get] at e
          cases q : ds[i]? with
          | none => rw [q] at e; cases e
          | some d' =>
            obtain ⟨v, e2, _⟩ := h2.get q
            exact ⟨xs, v, h1 _ l, e2⟩
        · rw [enumL_get] at e
          cases q : ds[i]? with
          | none => rw [q] at e; cases e
          | some d' =>
            rw [q] at e
            cases e
            obtain ⟨T, x', rfl, hn, rfl, y⟩ := y
            obtain ⟨v, e2, r2⟩ := (h2.le l).get q
            have := y xs (h1 _ l)
            rw [e2] at this
            cases this
            rw [Nat.zero_add]
            exact new_pair rs hn (.cons (.int _) (.one r2))
        · rw [enumL_len]
          exact ⟨xs, h1 _ l, Nat.le_of_eq h2.length.symm⟩
      · exact p.elim
  · exact p.elim
/-- zip of two lists, of two tuples -/
def zipL : List D → List D → List D
  | a :: as, b :: bs => .tup [a, b] :: zipL as bs
  | _, _ => []
theorem zipL_len : ∀ (as bs : List D), (zipL as bs).length = min as.length bs.length
  | [], _ => by simp [zipL]
  | _ :: _, [] => by simp [zipL]
  | a :: as, b :: bs => by
    show (zipL as bs).length + 1 = _
    rw [zipL_len, List.length_cons, List.length_cons]
    omega
theorem zipL_get : ∀ (as bs : List D) (i : Nat) (d : D), (zipL as bs)[i]? = some d → ∃ a b, as[i]? = some a ∧ bs[i]? = some b ∧ d = .tup [a, b]
  | [], _, _, _, e => by simp [zipL] at e
  | _ :: _, [], _, _, e => by simp [zipL] at e
  | a :: as, b :: bs, 0, d, e => by cases e; exact ⟨a, b, rfl, rfl, rfl⟩
  | a :: as, b :: bs, i + 1, d, e => zipL_get as bs i d e
def zipD (ds : List D) (S : Sto) : Res (List D) := match ds with
  | [d, e] => (match stillL d, stillL e with
    | some ds, some es => .ok (zipL ds es) S
    | _, _ => (match viewT d, viewT e with
      | some ds, some es => .ok (zipL ds es) S
      | _, _ => .bad))
  | _ => .bad
theorem zip_stop {as bs : List D} {xs ys : List V} {c c' : RC} (r1 : RVs c as xs) (r2 : RVs c' bs ys) : xs.length ≤ (zipL as bs).length ∨ ys.length ≤ (zipL as bs).length := by
  rw [zipL_len, ← r1.length, ← r2.length]
  omega
theorem piv_zip {e2 : Expr} {p pos tpos : Pos} {elts : List Expr} {kk : Nat} (hg : Gl X "zip") (hm : X.mg "zip" = none) (ha : PAv X W [e, e2] al)
    (hs : starEach [e, e2] X.env = (false, eval e X.env) :: starEach [e2] X.env := by rfl) (hpl : (backTo pos (starEach [e2] X.env)).any (·.1) = false := by rfl) :
    PIv X W (.Tuple elts kk tpos) (.Call (.Name "zip" p) [e, e2] [] pos) (vLI zipD al) := by
  refine pi_imp (RZ.pi_zipA hg hm ha hs hpl) fun σ H R t => ?_
  refine t_mono (T.bind (R := RVs) t) fun v H1 ⟨ρ, S, m, F, ds, st, r, p⟩ => ?_
  unfold zipD at p
  split at p
  · cases r with
    | cons r t =>
      cases t with
      | cons r' t =>
        cases t
        split at p
        · rename_i as bs e1 e2
          obtain ⟨a, xs, rfl, h1, h2⟩ := still_ok r e1
          obtain ⟨b, ys, rfl, h1', h2'⟩ := still_ok r' e2
          refine ⟨a, b, xs, ys, rfl, .inl ⟨h1 _ (.refl _), h1' _ (.refl _), Post.ok (R := Walk) p st.s ⟨fun i d F S m H e l rs => ?_, fun i d F S m H x H' e l rs y => ?_, fun F S m H l rs => ⟨xs, ys, h1 _ l, h1' _ l, zip_stop h2 h2'⟩⟩⟩⟩
          · obtain ⟨u, w, q1, q2, _⟩ := zipL_get _ _ _ _ e
            obtain ⟨v, g1, _⟩ := h2.get q1
            obtain ⟨z, g2, _⟩ := h2'.get q2
            exact ⟨xs, ys, v, z, h1 _ l, h1' _ l, g1, g2⟩
          · obtain ⟨u, w, q1, q2, rfl⟩ := zipL_get _ _ _ _ e
            obtain ⟨v, g1, r1⟩ := (h2.le l).get q1
            obtain ⟨z, g2, r2⟩ := (h2'.le l).get q2
            obtain ⟨T, x', y', rfl, hn, rfl, y1, y2⟩ := y
            have := y1 xs (h1 _ l)
            rw [g1] at this
            cases this
            have := y2 ys (h1' _ l)
            rw [g2] at this
            cases this
            exact new_pair rs hn (.cons r1 (.one r2))
        · split at p
          · rename_i as bs e1 e2
            obtain ⟨a, xs, rfl, h1, h2⟩ := stillT_ok r e1
            obtain ⟨b, ys, rfl, h1', h2'⟩ := stillT_ok r' e2
            refine ⟨a, b, xs, ys, rfl, .inr ⟨h1 _ (.refl _), h1' _ (.refl _), Post.ok (R := Walk) p st.s ⟨fun i d F S m H e l rs => ?_, fun i d F S m H x H' e l rs y => ?_, fun F S m H l rs => ⟨xs, ys, h1 _ l, h1' _ l, zip_stop h2 h2'⟩⟩⟩⟩
            · obtain ⟨u, w, q1, q2, _⟩ := zipL_get _ _ _ _ e
              obtain ⟨v, g1, _⟩ := h2.get q1
              obtain ⟨z, g2, _⟩ := h2'.get q2
              exact ⟨xs, ys, v, z, h1 _ l, h1' _ l, g1, g2⟩
            · obtain ⟨u, w, q1, q2, rfl⟩ := zipL_get _ _ _ _ e
              obtain ⟨v, g1, r1⟩ := (h2.le l).get q1
              obtain ⟨z, g2, r2⟩ := (h2'.le l).get q2
              obtain ⟨T, x', y', rfl, hn, rfl, y1, y2⟩ := y
              have := y1 xs (h1 _ l)
              rw [g1] at this
              cases this
              have := y2 ys (h1' _ l)
              rw [g2] at this
              cases this
              exact new_pair rs hn (.cons r1 (.one r2))
          · exact p.elim
  · exact p.elim
end

/-! ### for -/
def forM (g : D → Env → Option Env) (b : Env → Sto → SRes) : List D → Env → Sto → SRes
  | [], ρ, S => .nx ρ S
  | d :: ds, ρ, S => match g d ρ with
    | none => .bad
    | some ρ' => match b ρ' S with
      | .nx ρ S => forM g b ds ρ S
      | .ct ρ S => forM g b ds ρ S
      | .brk ρ S => .nx ρ S
      | .ret d S => .ret d S
      | .ex x ρ S => .ex x ρ S
      | .bad => .bad
def sFor (it : Env → Sto → Res (List D)) (g : D → Env → Option Env) (b : Env → Sto → SRes) (ρ : Env) (S : Sto) : SRes := (it ρ S).toS ρ fun ds S => forM g b ds ρ S
section
variable {X : Cx} {W : Wi} {tg iter : Expr} {body : List Stmt} {it : Env → Sto → Res (List D)} {is : List Nat} {g : D → Env → Option Env} {b : Env → Sto → SRes} {pos : Pos}
theorem drop_get {α : Type} {l : List α} {i : Nat} {d : α} {ds : List α} (h : l.drop i = d :: ds) : l[i]? = some d ∧ l.drop (i + 1) = ds := by
  refine ⟨?_, ?_⟩
  · have : (l.drop i)[0]? = some d := by rw [h]; rfl
    rw [List.getElem?_drop] at this
    simpa using this
  · rw [← List.drop_drop, h]
    rfl
theorem psv_for (hp : PassesOwn (model X.prog X.w) X.A X.env X.xe) (hc : X.calm = true) (hi : PIv X W tg iter it) (hg : PGv X W tg is g) (hb : PSsv X W body b)
    (hs : ∀ x, foldedSetIterable iter X.env x = pure x := by intro _; rfl) : PSv X W (.For tg iter body [] pos) (sFor it g b) := by
  refine ps_imp (ps_for hp hc hi hg hb hs) fun Dn σ0 H0 t => ?_
  refine t_mono (T.toS (R := Walk) t) fun J H1 ⟨ρ, S, m, F, ds, st, wk, p⟩ => ?_
  refine ⟨fun i k σ H => ∃ ρ' S' m' F', k = ds.length - i ∧ i ≤ ds.length ∧ Sta X.K W ρ' S' m' F' σ H ∧ (rc X.K F S m H1).Le (rc X.K F' S' m' H) ∧ SPost X.K W S' m' F' H (forM g b (ds.drop i) ρ' S') Dn,
    ⟨ds.length, ρ, S, m, F, rfl, Nat.zero_le _, st, .refl _, p⟩, ?_⟩
  rintro i k σ H ⟨ρ', S', m', F', rfl, hi, st', l, p'⟩
  cases q : ds.drop i with
  | nil =>
    rw [q] at p'
    have hl : ds.length = i := by
      have : (ds.drop i).length = 0 := by rw [q]; rfl
      rw [List.length_drop] at this
      omega
    subst hl
    exact .inl ⟨wk.stop _ _ _ _ l st'.s, p'.nx st'⟩
  | cons d r =>
    obtain ⟨hd, hr⟩ := drop_get q
    have hlt := (List.getElem?_eq_some_iff.mp hd).1
    rw [q] at p'
    have p2 : SPost X.K W S' m' F' H (match g d ρ' with
      | none => .bad
      | some ρ' => match b ρ' S' with
        | .nx ρ S => forM g b r ρ S
        | .ct ρ S => forM g b r ρ S
        | .brk ρ S => .nx ρ S
        | .ret d S => .ret d S
        | .ex x ρ S => .ex x ρ S
        | .bad => .bad) Dn := p'
    refine .inr ⟨wk.go i d _ _ _ _ hd l st'.s, fun σ2 H2 => ∃ m2, m2 < ds.length - i ∧ ∃ ρ' S' m' F', m2 = ds.length - (i + 1) ∧ i + 1 ≤ ds.length ∧ Sta X.K W ρ' S' m' F' σ2 H2 ∧ (rc X.K F S m H1).Le (rc X.K F' S' m' H2) ∧ SPost X.K W S' m' F' H2 (forM g b (ds.drop (i + 1)) ρ' S') Dn, fun σ2 H2 h => h, fun x H' y => ?_⟩
    obtain ⟨gr, rx⟩ := wk.yld i d _ _ _ _ x H' hd l st'.s y
    obtain ⟨l1, rs1⟩ := grow st'.s gr
    have st1 := st'.le l1 rs1
    cases e1 : g d ρ' with
    | none => rw [e1] at p2; exact p2.elim
    | some ρ1 =>
      rw [e1] at p2
      dsimp only at p2
      refine ⟨ρ', S', m', F', d, ρ1, st1, rx, e1, fun σ' _ st2 => ⟨ρ1, S', m', F', st2, ?_⟩⟩
      have again : ∀ {ρ2 : Env} {S2 : Sto}, SPost X.K W S' m' F' H (forM g b r ρ2 S2) Dn → ∀ σ2 m2 F2 H2, LeS W.F0 S' m' F' H' S2 m2 F2 H2 → Sta X.K W ρ2 S2 m2 F2 σ2 H2 →
          ∃ k, k < ds.length - i ∧ ∃ ρ' S' m' F', k = ds.length - (i + 1) ∧ i + 1 ≤ ds.length ∧ Sta X.K W ρ' S' m' F' σ2 H2 ∧ (rc X.K F S m H1).Le (rc X.K F' S' m' H2) ∧ SPost X.K W S' m' F' H2 (forM g b (ds.drop (i + 1)) ρ' S') Dn :=
        fun {ρ2 S2} pp σ2 m2 F2 H2 l2 st3 => ⟨ds.length - (i + 1), by omega, ρ2, S2, m2, F2, rfl, hlt, st3, (l.trans l1.rc).trans (l2.rc st'.sub), by rw [hr]; exact SPost.from pp (l1.toS.trans l2)⟩
      cases e2 : b ρ1 S' with
      | nx ρ2 S2 => rw [e2] at p2; dsimp only at p2; exact again p2
      | ct ρ2 S2 => rw [e2] at p2; dsimp only at p2; exact again p2
      | brk ρ2 S2 => rw [e2] at p2; dsimp only at p2; exact SPost.from p2 l1.toS
      | ret d2 S2 => rw [e2] at p2; dsimp only at p2; exact SPost.from p2 l1.toS
      | ex x2 ρ2 S2 => rw [e2] at p2; dsimp only at p2; exact SPost.from p2 l1.toS
      | bad => rw [e2] at p2; dsimp only at p2; exact p2.elim
/-- while, with at most n turns -/
def whileM (c : Env → Sto → Res Bool) (b : Env → Sto → SRes) : Nat → Env → Sto → SRes
  | 0, _, _ => .bad
  | n + 1, ρ, S => (c ρ S).toS ρ fun t S => if t = true then (match b ρ S with
    | .nx ρ S => whileM c b n ρ S
    | .ct ρ S => whileM c b n ρ S
    | .brk ρ S => .nx ρ S
    | .ret d S => .ret d S
    | .ex x ρ S => .ex x ρ S
    | .bad => .bad) else .nx ρ S
def sWhile (fuel : Env → Sto → Nat) (c : Env → Sto → Res Bool) (b : Env → Sto → SRes) (ρ : Env) (S : Sto) : SRes := whileM c b (fuel ρ S) ρ S
theorem psv_while {c : Expr} {ft : Env → Sto → Res Bool} (fuel : Env → Sto → Nat) (hp : PassesOwn (model X.prog X.w) X.A X.env X.xe) (hc : PTv X W c ft) (hb : PSsv X W body b) : PSv X W (.While c body [] pos) (sWhile fuel ft b) := by
  refine ps_imp (ps_while hp hc hb) fun Dn σ0 H0 ⟨ρ, S, m, F, st, p⟩ => ?_
  refine ⟨fun n σ H => ∃ ρ S m F, Sta X.K W ρ S m F σ H ∧ SPost X.K W S m F H (whileM ft b n ρ S) Dn, ⟨fuel ρ S, ρ, S, m, F, st, p⟩, ?_⟩
  rintro n σ H ⟨ρ, S, m, F, st, p⟩
  cases n with
  | zero => exact p.elim
  | succ n =>
    have p' : SPost X.K W S m F H ((ft ρ S).toS ρ fun t S => if t = true then (match b ρ S with
      | .nx ρ S => whileM ft b n ρ S
      | .ct ρ S => whileM ft b n ρ S
      | .brk ρ S => .nx ρ S
      | .ret d S => .ret d S
      | .ex x ρ S => .ex x ρ S
      | .bad => .bad) else .nx ρ S) Dn := p
    refine ⟨ρ, S, m, F, st, (p'.toS (R := RB) st).mono (fun v H1 ⟨S1, m1, t, l, st1, r, p1⟩ => ?_) fun _ _ _ h => h⟩
    cases r
    cases v with
    | false =>
      rw [if_neg Bool.false_ne_true] at p1 ⊢
      exact p1.nx st1
    | true =>
      rw [if_pos rfl] at p1 ⊢
      refine ⟨fun σ2 H2 => ∃ ρ S m F, Sta X.K W ρ S m F σ2 H2 ∧ SPost X.K W S m F H2 (whileM ft b n ρ S) Dn, fun σ2 H2 h => ⟨n, Nat.lt_succ_self n, h⟩, ρ, S1, m1, F, st1, ?_⟩
      cases e2 : b ρ S1 with
      | nx ρ2 S2 => rw [e2] at p1; dsimp only at p1; exact fun σ2 m2 F2 H2 l2 st3 => ⟨ρ2, S2, m2, F2, st3, SPost.from p1 l2⟩
      | ct ρ2 S2 => rw [e2] at p1; dsimp only at p1; exact fun σ2 m2 F2 H2 l2 st3 => ⟨ρ2, S2, m2, F2, st3, SPost.from p1 l2⟩
      | brk ρ2 S2 => rw [e2] at p1; dsimp only at p1; exact p1
      | ret d2 S2 => rw [e2] at p1; dsimp only at p1; exact p1
      | ex x2 ρ2 S2 => rw [e2] at p1; dsimp only at p1; exact p1
      | bad => rw [e2] at p1; dsimp only at p1; exact p1
end
end Ev

set_option Elab.async false
set_option linter.all false
set_option maxRecDepth 100000
set_option maxHeartbeats 4000000
/-! Ev10: list comprehensions. -/
namespace Ev
open PySem PySem.Spec L2
open PyProof.Rows hiding St

section
variable {K : PySem.W.Frag} {W : Wi} {F : Addr → Prop} {S : Sto} {m : List Addr} {H : Hp} {ρ : Env} {σ : St}
/-- p, new, becomes the frames' own -/
theorem RS.own (rs : RS K F S m H) {p : Addr} {o : HO} (hp : H p = none) : RS K (fun a => F a ∨ a = p) S m (upd H p o) := by
  have nL : ¬ Live S m p := fun h => by obtain ⟨o, e⟩ := rs.tracked h; rw [hp] at e; cases e
  exact ⟨rs.len, fun n so a h1 h2 => (rs.ob n so a h1 h2).le (rc_own hp) (upd_keeps hp a), rs.inj,
    fun a h => h.elim (fun h => let ⟨o, e⟩ := rs.ft a h; ⟨o, upd_keeps hp a o e⟩) fun h => ⟨o, by subst h; exact upd_same⟩, fun a h z => h.elim (fun h => rs.fd a h z) fun h => nL (h ▸ z)⟩
/-- what a block of a comprehension wants: the new list is nobody's -/
def Wc (W : Wi) (p : Addr) : Wi := ⟨fun a => W.F0 a ∨ a = p, fun _ _ _ _ => False, none⟩
theorem Sta.block (st : Sta K W ρ S m F σ H) {p : Addr} {o : HO} (hp : H p = none) : Sta K (Wc W p) ρ S m (fun a => F a ∨ a = p) σ (upd H p o) := by
  have nF : ¬ F p := fun h => by obtain ⟨o, e⟩ := st.s.ft p h; rw [hp] at e; cases e
  refine ⟨st.s.own hp, ⟨st.e.len, fun i d e => let ⟨v, e', r⟩ := st.e.at_ i d e; ⟨v, e', r.le (rc_own hp)⟩, fun i so e => ?_, st.e.dist⟩, fun a h => h.imp (st.sub a) id, fun x h => nomatch h⟩
  obtain ⟨a, e', f, f0, r⟩ := st.e.own_ i so e
  exact ⟨a, e', .inl f, fun z => z.elim f0 fun z => nF (z ▸ f), r.le (rc_own hp) (upd_keeps hp a)⟩
/-- an object of F0 is written -/
theorem wr_le {p : Addr} {o : HO} (hf : F p) : (rc K F S m H).Le (rc K F S m (upd H p o)) :=
  ⟨rfl, fun b u e n => ⟨(upd_ne (a := p) (b := b) fun z => n (.inr (by rw [z]; exact hf))).trans e, n⟩, [], by simp⟩
theorem RS.wr (rs : RS K F S m H) {p : Addr} {o : HO} (hf : F p) : RS K F S m (upd H p o) := by
  refine ⟨rs.len, fun n so a h1 h2 => (rs.ob n so a h1 h2).le (wr_le hf) fun u e => (upd_ne fun z => ?_).trans e, rs.inj, fun b hb => ?_, rs.fd⟩
  · exact rs.fd p hf ⟨n, so, h1, z ▸ h2⟩
  · by_cases q : b = p
    · exact ⟨o, by rw [q]; exact upd_same⟩
    · obtain ⟨u, e⟩ := rs.ft b hb
      exact ⟨u, (upd_ne q).trans e⟩
theorem Sta.wr (st : Sta K W ρ S m F σ H) {p : Addr} {o : HO} (hf : W.F0 p) : Sta K W ρ S m F σ (upd H p o) := by
  have l := wr_le (K := K) (S := S) (m := m) (H := H) (o := o) (st.sub p hf)
  refine ⟨st.s.wr (st.sub p hf), ⟨st.e.len, fun i d e => let ⟨v, e', r⟩ := st.e.at_ i d e; ⟨v, e', r.le l⟩, fun i so e => ?_, st.e.dist⟩, st.sub, st.me⟩
  obtain ⟨a, e', f, f0, r⟩ := st.e.own_ i so e
  exact ⟨a, e', f, f0, r.le l fun u e => (upd_ne fun z => f0 (by rw [z]; exact hf)).trans e⟩
theorem Sta.sets (st : Sta K W ρ S m F σ H) (σ' : St) (e : σ' = σ) : Sta K W ρ S m F σ' H := e ▸ st
def wipeE (ρ : Env) : List Nat → Env
  | [] => ρ
  | v :: vs => (wipeE ρ vs).set v none
theorem Sta.wipes (st : Sta K W ρ S m F σ H) (h0 : W.me = none) : ∀ vs : List Nat, Sta K W (wipeE ρ vs) S m F (L2.wipe σ vs) H
  | [] => st
  | v :: vs => (st.wipes h0 vs).wipe v none (.inr h0)
/-- less is owned: p may be read -/
theorem RS.less {p : Addr} (rs : RS K (fun a => F a ∨ a = p) S m H) : RS K F S m H :=
  ⟨rs.len, fun n so a h1 h2 => (rs.ob n so a h1 h2).le (rc_less (F := fun a => F a ∨ a = p) (F' := F) fun a h => .inl h) fun _ e => e, rs.inj, fun a h => rs.ft a (.inl h), fun a h => rs.fd a (.inl h)⟩
theorem Le.block {S' : Sto} {m' : List Addr} {H' : Hp} (l : Le S m H S' m' H') {p : Addr} (hp : H p = none) : (Ev.rc K F S m H).Le (Ev.rc K (fun a => F a ∨ a = p) S' m' H') :=
  ⟨rfl, fun a o h n => ⟨(l.stay a o h fun z => n (.inl z)).1, fun z => z.elim (l.stay a o h fun z => n (.inl z)).2 fun z => z.elim (fun z => n (.inr z)) fun z => by
    have h' : H a = some o := h
    rw [z, hp] at h'
    cases h'⟩, l.m⟩
end

/-- one source -/
def compM (g : D → Env → Option Env) (ft : Env → Sto → Res Bool) (fe : Env → Sto → Res D) (ρ : Env) : List D → Sto → Res (List D)
  | [], S => .ok [] S
  | d :: ds, S => match g d ρ with
    | none => .bad
    | some ρ' => match ft ρ' S with
      | .ok true S => (match fe ρ' S with
        | .ok y S => (match compM g ft fe ρ ds S with
          | .ok ys S => .ok (y :: ys) S
          | _ => .bad)
        | _ => .bad)
      | .ok false S => compM g ft fe ρ ds S
      | _ => .bad
def bYes (_ : Env) (S : Sto) : Res Bool := .ok true S
def vLc (vs : List Nat) (it : Env → Sto → Res (List D)) (g : D → Env → Option Env) (ft : Env → Sto → Res Bool) (fe : Env → Sto → Res D) (ρ : Env) (S : Sto) : Res D :=
  (it ρ S).bind fun ds S => (compM g ft fe (wipeE ρ vs) ds S).bind mkLst
/-- a block's own readings, for any W -/
def tGc (K : PySem.W.Frag) (is : List Nat) (g : D → Env → Option Env) : TG := fun v σ H Q => ∃ W : Wi, W.me = none ∧ (∀ c d σ H, W.w c d σ H ↔ False) ∧ tGv K W is g v σ H Q
def tTc (K : PySem.W.Frag) (f : Env → Sto → Res Bool) : TT := fun σ H Q => ∃ W : Wi, W.me = none ∧ (∀ c d σ H, W.w c d σ H ↔ False) ∧ TBl K W f σ H Q
def tEc (K : PySem.W.Frag) (f : Env → Sto → Res D) : TE := fun σ H Q => ∃ W : Wi, W.me = none ∧ (∀ c d σ H, W.w c d σ H ↔ False) ∧ TD K W f σ H Q
def tIc (K : PySem.W.Frag) (f : Env → Sto → Res (List D)) : TI := fun σ H Q => ∃ W : Wi, W.me = none ∧ (∀ c d σ H, W.w c d σ H ↔ False) ∧ T K Walk W f σ H Q
abbrev PTsv (X : Cx) (W : Wi) (es : List Expr) (f : Env → Sto → Res Bool) : Prop := PTs X es (TBl X.K W f)
theorem pts_imp {X : Cx} {es : List Expr} {t t' : TT} (h : PTs X es t) (i : ∀ σ H Q, t' σ H Q → t σ H Q) : PTs X es t' := ⟨fun pins s σ H Q I q => h.run pins s σ H Q I (i _ _ _ q)⟩
theorem ptsv_nil {X : Cx} {W : Wi} : PTsv X W [] bYes := pts_imp pts_nil fun _ _ _ ⟨_, _, _, _, st, p⟩ => Post.ok (R := RB) p st.s rfl
theorem ptsv_one {X : Cx} {W : Wi} {c : Expr} {f : Env → Sto → Res Bool} (h : PTv X W c f) : PTsv X W [c] f := pts_one h
/-- what is wanted in a block -/
structure BlkW (W : Wi) : Prop where
  me : W.me = none
  no : ∀ c d σ H, W.w c d σ H ↔ False
section
variable {X : Cx} {W : Wi} {elt tg iter : Expr} {ifs : List Expr} {scope : Scope} {own : List (Str × Nat)} {pos : Pos} {it : Env → Sto → Res (List D)} {is : List Nat} {g : D → Env → Option Env} {ft : Env → Sto → Res Bool} {fe : Env → Sto → Res D}
theorem blkW_c (W : Wi) (p : Addr) : (Wc W p).me = none ∧ ∀ c d σ H, (Wc W p).w c d σ H ↔ False := ⟨rfl, fun _ _ _ _ => Iff.rfl⟩
theorem takes_block {Y : Cx} {W : Wi} (h : BlkW W) : Takes Y W.w := fun u s' ⟨_, _, _, _, _, _, _, _, _, _, _, _, _, _, _, _, w⟩ => ((h.no _ _ _ _).mp w).elim
theorem wipe_wipe (σ : St) (vs : List Nat) : L2.wipe (L2.wipe σ vs) vs = L2.wipe σ vs := by
  refine List.ext_getElem? fun j => ?_
  by_cases hj : j ∈ vs
  · have gone : ∀ {σ : St} {vs : List Nat}, j ∈ vs → (L2.wipe σ vs)[j]? = if j < σ.length then some none else none := fun {σ vs} hm => by
      induction vs with
      | nil => cases hm
      | cons v r ih =>
        show ((L2.wipe σ r).set v none)[j]? = _
        by_cases e : v = j
        · subst e
          rw [List.getElem?_set, if_pos rfl, wipe_length]
        · rw [List.getElem?_set_ne e]
          exact ih ((List.mem_cons.mp hm).resolve_left fun z => e z.symm)
    rw [gone hj, gone hj, wipe_length]
  · rw [wipe_out hj]
/-- a comprehension's loop: ad what the new list at p0 holds, k the rest -/
theorem comp_loop {vs : List Nat} {F : Addr → Prop} {S : Sto} {m : List Addr} {H1 : Hp} {WE : Value → Option Addr → Hp → Prop} {p0 : Addr} {Q : VK} {K : PySem.W.Frag} {kf : List D → Sto → Res D} (hv : ∀ i ∈ is, i ∈ vs) (hn : H1 p0 = none) (hk : ∀ ds S', Post K F RV WE S m H1 (kf ds S') Q → ds.length ≤ sizeLine)
    {c0 : RC} {J : It} {ds ad0 : List D} {av0 : List V} {ρ : Env} {S0 : Sto} {m0 : List Addr} {σ : St} {H0 : Hp} {End : Hp → Prop} (ck : c0.K = K) (wk : Walk c0 ds J) (lc : c0.Le (rc K (fun a => F a ∨ a = p0) S0 m0 H0)) (st0 : Sta K (Wc W p0) (wipeE ρ vs) S0 m0 (fun a => F a ∨ a = p0) (L2.wipe σ vs) H0) (l0 : Le S m H1 S0 m0 H0) (e0 : H0 p0 = some (.lst av0)) (r0 : RVs (rc K (fun a => F a ∨ a = p0) S0 m0 H0) ad0 av0)
    (p : Post K F RV WE S m H1 ((compM g ft fe (wipeE ρ vs) ds S0).bind fun ys S => kf (ad0 ++ ys) S) Q)
    (fin : ∀ S' m' H' ad av, Sta K (Wc W p0) (wipeE ρ vs) S' m' (fun a => F a ∨ a = p0) (L2.wipe σ vs) H' → (rc K (fun a => F a ∨ a = p0) S0 m0 H0).Le (rc K (fun a => F a ∨ a = p0) S' m' H') → Le S m H1 S' m' H' → H' p0 = some (.lst av) → RVs (rc K (fun a => F a ∨ a = p0) S' m' H') ad av → Post K F RV WE S m H1 (kf ad S') Q → End H') :
    ∃ W1 : Nat → Nat → Hp → Prop, (∃ k, W1 0 k H0) ∧ ∀ i k H, W1 i k H → (J.stop i H ∧ End H) ∨ (J.go i H ∧ ∃ Nx : Hp → Prop, (∀ H', Nx H' → ∃ m', m' < k ∧ W1 (i + 1) m' H') ∧ ∀ x H', J.yld i H x H' → tGc K is g x (L2.wipe σ vs) H' fun σ2 H2 => L2.wipe σ2 vs = L2.wipe σ vs ∧ tTc K ft σ2 H2 fun b H3 =>
      if b = true then tEc K fe σ2 H3 fun y H4 => ∃ acc, H4 p0 = some (.lst acc) ∧ acc.length < sizeLine ∧ Nx (upd H4 p0 (.lst (acc ++ [y]))) else Nx H3) := by
  subst ck
  let Iv : Nat → Nat → Hp → Prop := fun i k H => ∃ S' m' ad av, k = ds.length - i ∧ i ≤ ds.length ∧ Sta c0.K (Wc W p0) (wipeE ρ vs) S' m' (fun a => F a ∨ a = p0) (L2.wipe σ vs) H ∧ (rc c0.K (fun a => F a ∨ a = p0) S0 m0 H0).Le (rc c0.K (fun a => F a ∨ a = p0) S' m' H) ∧ Le S m H1 S' m' H ∧ H p0 = some (.lst av) ∧ RVs (rc c0.K (fun a => F a ∨ a = p0) S' m' H) ad av ∧
      Post c0.K F RV WE S m H1 ((compM g ft fe (wipeE ρ vs) (ds.drop i) S').bind fun ys S => kf (ad ++ ys) S) Q
  refine ⟨Iv, ⟨ds.length, S0, m0, ad0, av0, rfl, Nat.zero_le _, st0, .refl _, l0, e0, r0, p⟩, ?_⟩
  rintro i k H ⟨S', m', ad, av, rfl, hi, st', lz, l, hp0, ra, p'⟩
  have lb := lc.trans lz
  cases q : ds.drop i with
  | nil =>
    rw [q] at p'
    have hl : ds.length = i := by
      have : (ds.drop i).length = 0 := by rw [q]; rfl
      rw [List.length_drop] at this
      omega
    subst hl
    refine .inl ⟨wk.stop _ _ _ _ lb st'.s, fin S' m' H ad av st' lz l hp0 ra ?_⟩
    have p2 : Post c0.K F RV WE S m H1 (kf (ad ++ []) S') Q := p'
    rw [List.append_nil] at p2
    exact p2
  | cons d r =>
    obtain ⟨hd, hr⟩ := drop_get q
    have hlt := (List.getElem?_eq_some_iff.mp hd).1
    rw [q] at p'
    unfold compM at p'
    refine .inr ⟨wk.go i d _ _ _ _ hd lb st'.s, fun H2 => ∃ m2, m2 < ds.length - i ∧ Iv (i + 1) m2 H2, fun H2 h => h, fun x H' y => ?_⟩
    obtain ⟨gr, rx⟩ := wk.yld i d _ _ _ _ x H' hd lb st'.s y
    obtain ⟨l1, rs1⟩ := grow st'.s gr
    have st1 := st'.le l1 rs1
    cases e1 : g d (wipeE ρ vs) with
    | none => rw [e1] at p'; exact p'.elim
    | some ρ1 =>
      rw [e1] at p'
      dsimp only at p'
      refine ⟨Wc W p0, rfl, (blkW_c W p0).2, _, S', m', _, d, ρ1, st1, rx, e1, fun σ' ag st2 => ⟨(ag.wipe hv).trans (wipe_wipe σ vs), ?_⟩⟩
      have hp1 : H' p0 = some (.lst av) := gr _ _ hp0
      have again : ∀ {S2 : Sto} {m2 : List Addr} {H2 : Hp}, Le S' m' H' S2 m2 H2 → Sta c0.K (Wc W p0) ρ1 S2 m2 (fun a => F a ∨ a = p0) σ' H2 →
          Post c0.K F RV WE S m H1 ((compM g ft fe (wipeE ρ vs) r S2).bind fun ys S => kf (ad ++ ys) S) Q → (H2 p0 = some (.lst av)) → RVs (rc c0.K (fun a => F a ∨ a = p0) S2 m2 H2) ad av →
          ∃ k, k < ds.length - i ∧ Iv (i + 1) k H2 := fun {S2 m2 H2} l2 st3 pp hp2 ra2 =>
        ⟨ds.length - (i + 1), by omega, S2, m2, ad, av, rfl, hlt, st'.le (l1.trans l2) st3.s, lz.trans (l1.trans l2).rc, (l.trans l1).trans l2, hp2, ra2, by rw [hr]; exact pp⟩
      cases e2 : ft ρ1 S' with
      | bad => rw [e2] at p'; exact p'.elim
      | ex x2 S2 => rw [e2] at p'; exact p'.elim
      | ok b S2 =>
        rw [e2] at p'
        refine ⟨Wc W p0, rfl, (blkW_c W p0).2, ρ1, S', m', _, st2, ?_⟩
        show Post c0.K _ RB _ S' m' H' (ft ρ1 S') _
        rw [e2]
        intro m2 H2 v l2 rs2 rv
        obtain rfl : b = v := rv
        have st3 := st2.le l2 rs2
        have hp2 : H2 p0 = some (.lst av) := (l2.stay p0 _ hp1 (st1.s.fd p0 (.inr rfl))).1
        have ra2 := (ra.le l1.rc).le l2.rc
        cases b with
        | false => rw [if_neg Bool.false_ne_true]; exact again l2 st3 p' hp2 ra2
        | true =>
          rw [if_pos rfl]
          dsimp only at p'
          cases e3 : fe ρ1 S2 with
          | bad => rw [e3] at p'; exact p'.elim
          | ex x2 S2 => rw [e3] at p'; exact p'.elim
          | ok y S3 =>
            rw [e3] at p'
            dsimp only at p'
            refine ⟨Wc W p0, rfl, (blkW_c W p0).2, ρ1, S2, m2, _, st3, ?_⟩
            show Post c0.K _ RV _ S2 m2 H2 (fe ρ1 S2) _
            rw [e3]
            intro m3 H3 v l3 rs3 rv
            have st4 := st3.le l3 rs3
            have hp3 : H3 p0 = some (.lst av) := (l3.stay p0 _ hp2 (st3.s.fd p0 (.inr rfl))).1
            have ra3 := ra2.le l3.rc
            cases e4 : compM g ft fe (wipeE ρ vs) r S3 with
            | bad => rw [e4] at p'; exact p'.elim
            | ex x2 S2 => rw [e4] at p'; exact p'.elim
            | ok ys S4 =>
              have p4 : Post c0.K F RV WE S m H1 (kf (ad ++ y :: ys) S4) Q := by rw [e4] at p'; exact p'
              have hz : av.length < sizeLine := by
                have hz := hk _ _ p4
                rw [List.length_append, List.length_cons] at hz
                rw [← ra.length]
                omega
              have pF : (fun a => F a ∨ a = p0) p0 := .inr rfl
              have l5 : Le S' m' H S3 m3 H3 := (l1.trans l2).trans l3
              refine ⟨av, hp3, hz, ⟨ds.length - (i + 1), by omega, S3, m3, ad ++ [y], av ++ [v], rfl, hlt, (st'.le l5 st4.s).wr (.inr rfl), (lz.trans l5.rc).trans (wr_le pF), ?_, upd_same, (ra3.append (.one rv)).le (wr_le pF), ?_⟩⟩
              · have l4 := l.trans l5
                refine ⟨fun a o e n => ⟨(upd_ne fun z => ?_).trans (l4.stay a o e n).1, (l4.stay a o e n).2⟩, l4.m⟩
                rw [z, hn] at e
                cases e
              · rw [hr, e4]
                show Post c0.K F RV WE S m H1 (kf ((ad ++ [y]) ++ ys) S4) Q
                rw [List.append_assoc]
                exact p4
theorem mkLst_len {K : PySem.W.Frag} {F : Addr → Prop} {S : Sto} {m : List Addr} {H : Hp} {WE : Value → Option Addr → Hp → Prop} {Q : VK} (ds : List D) (S' : Sto) (p : Post K F RV WE S m H (mkLst ds S') Q) : ds.length ≤ sizeLine := by
  unfold mkLst at p
  split at p
  · assumption
  · exact p.elim
theorem lc_end {p0 : Addr} {K : PySem.W.Frag} {F : Addr → Prop} {S S' : Sto} {m m' : List Addr} {H1 H : Hp} {WE : Value → Option Addr → Hp → Prop} {Q : VK} {ad : List D} {av : List V} (rs : RS K F S m H1) (hn : H1 p0 = none) (rs' : RS K (fun a => F a ∨ a = p0) S' m' H) (l : Le S m H1 S' m' H) (hp0 : H p0 = some (.lst av)) (ra : RVs (rc K (fun a => F a ∨ a = p0) S' m' H) ad av)
    (p : Post K F RV WE S m H1 (mkLst ad S') Q) : Q (.ref p0) H := by
  unfold mkLst at p
  split at p
  · refine p m' H (.ref p0) l rs'.less (.lst ⟨hp0, fun z => z.elim (rs'.fd p0 (.inr rfl)) fun z => ?_⟩ (ra.le (rc_less fun a h => .inl h)))
    obtain ⟨o, e⟩ := rs.ft p0 z
    rw [hn] at e
    cases e
  · exact p.elim
/-- the walk of a comprehension, from its readings -/
theorem t_lc {vs : List Nat} (hv : ∀ i ∈ is, i ∈ vs) {σ0 : St} {H0 : Hp} {Q : VK} (t : TD X.K W (vLc vs it g ft fe) σ0 H0 Q) :
    tLc (T X.K Walk W it) (tGc X.K is g) (tTc X.K ft) (tEc X.K fe) vs σ0 H0 Q := by
  refine t_mono (T.bind (R := Walk) t) fun J H1 ⟨ρ, S, m, F, ds, st, wk, p⟩ => ?_
  intro p0 hn
  have st0 := st.block (o := .lst []) hn
  obtain ⟨lg, _⟩ := grow (H' := upd H1 p0 (.lst [])) st.s (upd_keeps hn)
  exact comp_loop (kf := mkLst) hv hn (fun ds S' => mkLst_len ds S') rfl wk (lg.block hn) (st0.wipes rfl vs) lg upd_same .nil p fun S' m' H' ad av st' _ l hp0 ra p => lc_end st.s hn st'.s l hp0 ra p
abbrev Blks (X : Cx) (scope : Scope) (k : Cx → Prop) : Prop := ∀ (s : Shared) (H : Hp) (C : Addr) (cl : List (Str × Addr)) (fp : List Addr), k (X.blk s H scope (compEnvC scope cl C X.env) fp)
theorem pev_lc (hc : X.calm = true) (hN : X.N.Nodup) (hi : PIv X W tg iter it) (ok : BlkOk X.N X.env.scope scope own) (hv : ∀ i ∈ is, i ∈ own.map (·.2))
    (hg : Blks X scope fun Y => ∀ W, BlkW W → PGv Y W tg is g) (ht : Blks X scope fun Y => ∀ W, BlkW W → PTsv Y W ifs ft) (he : Blks X scope fun Y => ∀ W, BlkW W → PEv Y W elt fe) (hs : ∀ x, foldedSetIterable iter X.env x = pure x := by intro _; rfl) :
    PEv X W (.ListComp elt [⟨tg, iter, ifs, 0⟩] scope pos) (vLc (own.map (·.2)) it g ft fe) :=
  pe_imp (pe_lc hc hN hi ok (fun s H C cl fp => ⟨fun pins s' σ H' v u Q I r ⟨W', h1, h2, t⟩ => (hg s H C cl fp W' ⟨h1, h2⟩).run pins s' σ H' v u Q I r t⟩)
    (fun s H C cl fp => ⟨fun pins s' σ H' Q I ⟨W', h1, h2, t⟩ => (ht s H C cl fp W' ⟨h1, h2⟩).run pins s' σ H' Q I t⟩) (fun s H C cl fp => ⟨fun pins s' σ H' Q I ⟨W', h1, h2, t⟩ => (he s H C cl fp W' ⟨h1, h2⟩).run pins s' σ H' Q I t⟩) hs) fun σ H Q t => t_lc hv t
/-- name = [..] -/
theorem t_setv {f : Env → Sto → Res D} {i : Nat} {Dn : Ends} {σ : St} {H : Hp} (h0 : i ≠ 0 ∨ W.me = none) (t : TSv X.K W (sSet i f) Dn σ H) : TD X.K W f σ H fun x H1 => gName i x σ H1 Dn.nx :=
  t_mono (T.toS (R := RV) t) fun v H1 ⟨ρ, S, m, F, d, st, r, p⟩ => p.nx (st.setv r i h0)
theorem psv_setLc {i : Nat} {y : Str} {py spos : Pos} (hc : X.calm = true) (hN : X.N.Nodup) (hy : X.N[i]? = some y) (hyl : X.env.scope.names.lookup y = some .local)
    (hsw : swapsWith (.ListComp elt [⟨tg, iter, ifs, 0⟩] scope pos) (some (.Name y py)) spos.line X.env = pure true) (hi : PIv X W tg iter it) (ok : BlkOk X.N X.env.scope scope own) (hv : ∀ i ∈ is, i ∈ own.map (·.2))
    (hg : Blks X scope fun Y => ∀ W, BlkW W → PGv Y W tg is g) (ht : Blks X scope fun Y => ∀ W, BlkW W → PTsv Y W ifs ft) (he : Blks X scope fun Y => ∀ W, BlkW W → PEv Y W elt fe) (hs : ∀ x, foldedSetIterable iter X.env x = pure x := by intro _; rfl) (h0 : i ≠ 0 ∨ W.me = none := by first | exact .inl (by decide) | exact .inr (by assumption)) :
    PSv X W (.Assign [.Name y py] (.ListComp elt [⟨tg, iter, ifs, 0⟩] scope pos) spos) (sSet i (vLc (own.map (·.2)) it g ft fe)) :=
  ps_imp (ps_setLc hc hN hy hyl hsw hi ok (fun s H C cl fp => ⟨fun pins s' σ H' v u Q I r ⟨W', h1, h2, t⟩ => (hg s H C cl fp W' ⟨h1, h2⟩).run pins s' σ H' v u Q I r t⟩)
    (fun s H C cl fp => ⟨fun pins s' σ H' Q I ⟨W', h1, h2, t⟩ => (ht s H C cl fp W' ⟨h1, h2⟩).run pins s' σ H' Q I t⟩) (fun s H C cl fp => ⟨fun pins s' σ H' Q I ⟨W', h1, h2, t⟩ => (he s H C cl fp W' ⟨h1, h2⟩).run pins s' σ H' Q I t⟩) hs) fun Dn σ H t => t_lc hv (t_setv h0 t)
end
end Ev

set_option Elab.async false
set_option linter.all false
set_option maxRecDepth 100000
set_option maxHeartbeats 4000000
/-! Ev11: comprehensions with two sources. -/
namespace Ev
open PySem PySem.Spec L2
open PyProof.Rows hiding St

def comp2M (g : D → Env → Option Env) (ft : Env → Sto → Res Bool) (it1 : Env → Sto → Res (List D)) (g1 : D → Env → Option Env) (ft1 : Env → Sto → Res Bool) (fe : Env → Sto → Res D) (vs1 : List Nat) (ρ : Env) : List D → Sto → Res (List D)
  | [], S => .ok [] S
  | d :: ds, S => match g d ρ with
    | none => .bad
    | some ρ' => match ft ρ' S with
      | .ok true S => (match it1 ρ' S with
        | .ok ds1 S => (match compM g1 ft1 fe (wipeE ρ' vs1) ds1 S with
          | .ok ys S => (match comp2M g ft it1 g1 ft1 fe vs1 ρ ds S with
            | .ok zs S => .ok (ys ++ zs) S
            | _ => .bad)
          | _ => .bad)
        | _ => .bad)
      | .ok false S => comp2M g ft it1 g1 ft1 fe vs1 ρ ds S
      | _ => .bad
def vLc2 (vs vs1 : List Nat) (it : Env → Sto → Res (List D)) (g : D → Env → Option Env) (ft : Env → Sto → Res Bool) (it1 : Env → Sto → Res (List D)) (g1 : D → Env → Option Env) (ft1 : Env → Sto → Res Bool) (fe : Env → Sto → Res D) (ρ : Env) (S : Sto) : Res D :=
  (it ρ S).bind fun ds S => (comp2M g ft it1 g1 ft1 fe vs1 (wipeE ρ vs) ds S).bind mkLst
section
variable {X : Cx} {W : Wi} {elt tg iter tg1 iter1 : Expr} {ifs ifs1 : List Expr} {scope : Scope} {own : List (Str × Nat)} {pos : Pos} {it it1 : Env → Sto → Res (List D)} {is is1 vs1 : List Nat} {g g1 : D → Env → Option Env} {ft ft1 : Env → Sto → Res Bool} {fe : Env → Sto → Res D}
theorem t_lc2 {vs : List Nat} (hv : ∀ i ∈ is, i ∈ vs) (hv1 : ∀ i ∈ is1, i ∈ vs1) (hvv : ∀ i ∈ vs1, i ∈ vs) {σ0 : St} {H0 : Hp} {Q : VK} (t : TD X.K W (vLc2 vs vs1 it g ft it1 g1 ft1 fe) σ0 H0 Q) :
    tLc2 (T X.K Walk W it) (tGc X.K is g) (tTc X.K ft) (tIc X.K it1) (tGc X.K is1 g1) (tTc X.K ft1) (tEc X.K fe) vs vs1 σ0 H0 Q := by
  refine t_mono (T.bind (R := Walk) t) fun J H1 ⟨ρ, S, m, F, ds, st, wk, p⟩ => ?_
  intro p0 hn
  have st0 := st.block (o := .lst []) hn
  obtain ⟨lg, _⟩ := grow (H' := upd H1 p0 (.lst [])) st.s (upd_keeps hn)
  let Iv : Nat → Nat → Hp → Prop := fun i k H => ∃ S' m' ad av, k = ds.length - i ∧ i ≤ ds.length ∧ Sta X.K (Wc W p0) (wipeE ρ vs) S' m' (fun a => F a ∨ a = p0) (L2.wipe σ0 vs) H ∧ Le S m H1 S' m' H ∧ H p0 = some (.lst av) ∧ RVs (rc X.K (fun a => F a ∨ a = p0) S' m' H) ad av ∧
      Post X.K F RV (fun c d H' => W.w c d σ0 H') S m H1 ((comp2M g ft it1 g1 ft1 fe vs1 (wipeE ρ vs) (ds.drop i) S').bind fun ys S => mkLst (ad ++ ys) S) Q
  refine ⟨Iv, ⟨ds.length, S, m, [], [], rfl, Nat.zero_le _, st0.wipes rfl vs, lg, upd_same, .nil, p⟩, ?_⟩
  rintro i k H ⟨S', m', ad, av, rfl, hi, st', l, hp0, ra, p'⟩
  have lb := l.block (K := X.K) (F := F) hn
  cases q : ds.drop i with
  | nil =>
    rw [q] at p'
    have hl : ds.length = i := by
      have : (ds.drop i).length = 0 := by rw [q]; rfl
      rw [List.length_drop] at this
      omega
    subst hl
    refine .inl ⟨wk.stop _ _ _ _ lb st'.s, ?_⟩
    have p2 : Post X.K F RV (fun c d H' => W.w c d σ0 H') S m H1 (mkLst (ad ++ []) S') Q := p'
    rw [List.append_nil] at p2
    exact lc_end st.s hn st'.s l hp0 ra p2
  | cons d r =>
    obtain ⟨hd, hr⟩ := drop_get q
    have hlt := (List.getElem?_eq_some_iff.mp hd).1
    rw [q] at p'
    unfold comp2M at p'
    refine .inr ⟨wk.go i d _ _ _ _ hd lb st'.s, fun H2 => ∃ m2, m2 < ds.length - i ∧ Iv (i + 1) m2 H2, fun H2 h => h, fun x H' y => ?_⟩
    obtain ⟨gr, rx⟩ := wk.yld i d _ _ _ _ x H' hd lb st'.s y
    obtain ⟨l1, rs1⟩ := grow st'.s gr
    have st1 := st'.le l1 rs1
    cases e1 : g d (wipeE ρ vs) with
    | none => rw [e1] at p'; exact p'.elim
    | some ρ1 =>
      rw [e1] at p'
      dsimp only at p'
      refine ⟨Wc W p0, rfl, (blkW_c W p0).2, _, S', m', _, d, ρ1, st1, rx, e1, fun σ' ag st2 => ⟨(ag.wipe hv).trans (wipe_wipe σ0 vs), ?_⟩⟩
      have hp1 : H' p0 = some (.lst av) := gr _ _ hp0
      cases e2 : ft ρ1 S' with
      | bad => rw [e2] at p'; exact p'.elim
      | ex x2 S2 => rw [e2] at p'; exact p'.elim
      | ok b S2 =>
        rw [e2] at p'
        refine ⟨Wc W p0, rfl, (blkW_c W p0).2, ρ1, S', m', _, st2, ?_⟩
        show Post X.K _ RB _ S' m' H' (ft ρ1 S') _
        rw [e2]
        intro m2 H2 v l2 rs2 rv
        obtain rfl : b = v := rv
        have st3 := st2.le l2 rs2
        have hp2 : H2 p0 = some (.lst av) := (l2.stay p0 _ hp1 (st1.s.fd p0 (.inr rfl))).1
        have ra2 := (ra.le l1.rc).le l2.rc
        cases b with
        | false =>
          rw [if_neg Bool.false_ne_true]
          exact ⟨ds.length - (i + 1), by omega, S2, m2, ad, av, rfl, hlt, st'.le (l1.trans l2) st3.s, (l.trans l1).trans l2, hp2, ra2, by rw [hr]; exact p'⟩
        | true =>
          rw [if_pos rfl]
          dsimp only at p'
          cases e3 : it1 ρ1 S2 with
          | bad => rw [e3] at p'; exact p'.elim
          | ex x2 S2 => rw [e3] at p'; exact p'.elim
          | ok ds1 S3 =>
            rw [e3] at p'
            dsimp only at p'
            refine ⟨Wc W p0, rfl, (blkW_c W p0).2, ρ1, S2, m2, _, st3, ?_⟩
            show Post X.K _ Walk _ S2 m2 H2 (it1 ρ1 S2) _
            rw [e3]
            intro m3 H3 J1 l3 rs3 wk1
            have st4 := st3.le l3 rs3
            have hp3 : H3 p0 = some (.lst av) := (l3.stay p0 _ hp2 (st3.s.fd p0 (.inr rfl))).1
            have l5 : Le S' m' H S3 m3 H3 := (l1.trans l2).trans l3
            refine comp_loop (ρ := ρ1) (F := F) (S := S) (m := m) (H1 := H1) (Q := Q) (WE := fun c d H' => W.w c d σ0 H') (kf := fun ads S => (comp2M g ft it1 g1 ft1 fe vs1 (wipeE ρ vs) r S).bind fun zs S => mkLst (ads ++ zs) S) hv1 hn (fun ds2 S5 pp => ?_) rfl wk1 (.refl _) (st4.wipes rfl vs1) (l.trans l5) hp3 (ra2.le l3.rc) ?_ fun S6 m6 H6 ad6 av6 st6 lz l6 hp6 ra6 p6 => ?_
            · cases q5 : comp2M g ft it1 g1 ft1 fe vs1 (wipeE ρ vs) r S5 with
              | bad => rw [q5] at pp; exact pp.elim
              | ex x5 S5 =>
                exact (comp2_noex q5).elim
              | ok zs S6 =>
                rw [q5] at pp
                have := mkLst_len _ _ pp
                rw [List.length_append] at this
                omega
            · cases q5 : compM g1 ft1 fe (wipeE ρ1 vs1) ds1 S3 with
              | bad => rw [q5] at p'; exact p'.elim
              | ex x5 S5 => rw [q5] at p'; exact p'.elim
              | ok ys S5 =>
                rw [q5] at p'
                dsimp only at p'
                show Post X.K F RV _ S m H1 ((comp2M g ft it1 g1 ft1 fe vs1 (wipeE ρ vs) r S5).bind fun zs S => mkLst ((ad ++ ys) ++ zs) S) Q
                cases q6 : comp2M g ft it1 g1 ft1 fe vs1 (wipeE ρ vs) r S5 with
                | bad => rw [q6] at p'; exact p'.elim
                | ex x5 S5 => rw [q6] at p'; exact p'.elim
                | ok zs S6 =>
                  rw [q6] at p'
                  show Post X.K F RV _ S m H1 (mkLst ((ad ++ ys) ++ zs) S6) Q
                  rw [List.append_assoc]
                  exact p'
            · refine ⟨ds.length - (i + 1), by omega, S6, m6, ad6, av6, rfl, hlt, ?_, l6, hp6, ra6, by rw [hr]; exact p6⟩
              have lq := l5.rc (K := X.K) (F := fun a => F a ∨ a = p0) |>.trans lz
              refine ⟨st6.s, ⟨?_, fun j d e => ?_, fun j so e => ?_, st'.e.dist⟩, fun a h => st'.sub a h, fun x h => nomatch h⟩
              · exact st'.e.len
              · obtain ⟨v, e', r⟩ := st'.e.at_ j d e
                exact ⟨v, e', r.le lq⟩
              · obtain ⟨a, e', f, f0, ro⟩ := st'.e.own_ j so e
                -- the own object of slot j stands: it is an own object of the inner state, or it was wiped there; by the store it has not changed
                exact ⟨a, e', f, f0, ro.le lq fun o h => by
                  have hne : a ≠ p0 := fun z => f0 (.inr z)
                  have fa : F a := f.resolve_right hne
                  obtain ⟨o1, h1⟩ := st.s.ft a fa
                  have nl := st.s.fd a fa
                  have k1 := (l.stay a o1 h1 nl).1
                  have h' : H a = some o := h
                  rw [h'] at k1
                  cases k1
                  exact (l6.stay a o h1 nl).1⟩
  where
  comp2_noex : ∀ {g : D → Env → Option Env} {ft : Env → Sto → Res Bool} {it1 : Env → Sto → Res (List D)} {g1 : D → Env → Option Env} {ft1 : Env → Sto → Res Bool} {fe : Env → Sto → Res D} {vs1 : List Nat} {ρ : Env} {ds : List D} {S S' : Sto} {x : Exn}, comp2M g ft it1 g1 ft1 fe vs1 ρ ds S = .ex x S' → False := by
    intro g ft it1 g1 ft1 fe vs1 ρ ds
    induction ds with
    | nil => intro S S' x h; cases h
    | cons d ds ih =>
      intro S S' x h
      unfold comp2M at h
      split at h
      · cases h
      · split at h
        · split at h
          · split at h
            · split at h
              · cases h
              · cases h
            · cases h
          · cases h
        · exact ih h
        · cases h
theorem pev_lc2 (hc : X.calm = true) (hN : X.N.Nodup) (hi : PIv X W tg iter it) (ok : BlkOk X.N X.env.scope scope own) (hv : ∀ i ∈ is, i ∈ own.map (·.2)) (hv1 : ∀ i ∈ is1, i ∈ vs1) (hvv : ∀ i ∈ vs1, i ∈ own.map (·.2))
    (hg : Blks X scope fun Y => ∀ W, BlkW W → PGv Y W tg is g) (ht : Blks X scope fun Y => ∀ W, BlkW W → PTsv Y W ifs ft) (hi1 : Blks X scope fun Y => ∀ W, BlkW W → PIv Y W tg1 iter1 it1)
    (hg1 : Blks X scope fun Y => ∀ W, BlkW W → PGv Y W tg1 is1 g1) (ht1 : Blks X scope fun Y => ∀ W, BlkW W → PTsv Y W ifs1 ft1) (he : Blks X scope fun Y => ∀ W, BlkW W → PEv Y W elt fe)
    (hs : ∀ x, foldedSetIterable iter X.env x = pure x := by intro _; rfl) (hs1 : ∀ env x, foldedSetIterable iter1 env x = pure x := by intro _ _; rfl) :
    PEv X W (.ListComp elt [⟨tg, iter, ifs, 0⟩, ⟨tg1, iter1, ifs1, 0⟩] scope pos) (vLc2 (own.map (·.2)) vs1 it g ft it1 g1 ft1 fe) :=
  pe_imp (pe_lc2 hc hN hi ok hvv (fun s H C cl fp => ⟨fun pins s' σ H' v u Q I r ⟨W', h1, h2, t⟩ => (hg s H C cl fp W' ⟨h1, h2⟩).run pins s' σ H' v u Q I r t⟩)
    (fun s H C cl fp => ⟨fun pins s' σ H' Q I ⟨W', h1, h2, t⟩ => (ht s H C cl fp W' ⟨h1, h2⟩).run pins s' σ H' Q I t⟩) (fun s H C cl fp => ⟨fun pins s' σ H' R I ⟨W', h1, h2, t⟩ => (hi1 s H C cl fp W' ⟨h1, h2⟩).run pins s' σ H' R I t⟩)
    (fun s H C cl fp => ⟨fun pins s' σ H' v u Q I r ⟨W', h1, h2, t⟩ => (hg1 s H C cl fp W' ⟨h1, h2⟩).run pins s' σ H' v u Q I r t⟩) (fun s H C cl fp => ⟨fun pins s' σ H' Q I ⟨W', h1, h2, t⟩ => (ht1 s H C cl fp W' ⟨h1, h2⟩).run pins s' σ H' Q I t⟩)
    (fun s H C cl fp => ⟨fun pins s' σ H' Q I ⟨W', h1, h2, t⟩ => (he s H C cl fp W' ⟨h1, h2⟩).run pins s' σ H' Q I t⟩) hs hs1) fun σ H Q t => t_lc2 hv hv1 hvv t
theorem psv_setLc2 {i : Nat} {y : Str} {py spos : Pos} (hc : X.calm = true) (hN : X.N.Nodup) (hy : X.N[i]? = some y) (hyl : X.env.scope.names.lookup y = some .local)
    (hsw : swapsWith (.ListComp elt [⟨tg, iter, ifs, 0⟩, ⟨tg1, iter1, ifs1, 0⟩] scope pos) (some (.Name y py)) spos.line X.env = pure true) (hi : PIv X W tg iter it) (ok : BlkOk X.N X.env.scope scope own) (hv : ∀ i ∈ is, i ∈ own.map (·.2)) (hv1 : ∀ i ∈ is1, i ∈ vs1) (hvv : ∀ i ∈ vs1, i ∈ own.map (·.2))
    (hg : Blks X scope fun Y => ∀ W, BlkW W → PGv Y W tg is g) (ht : Blks X scope fun Y => ∀ W, BlkW W → PTsv Y W ifs ft) (hi1 : Blks X scope fun Y => ∀ W, BlkW W → PIv Y W tg1 iter1 it1)
    (hg1 : Blks X scope fun Y => ∀ W, BlkW W → PGv Y W tg1 is1 g1) (ht1 : Blks X scope fun Y => ∀ W, BlkW W → PTsv Y W ifs1 ft1) (he : Blks X scope fun Y => ∀ W, BlkW W → PEv Y W elt fe)
    (hs : ∀ x, foldedSetIterable iter X.env x = pure x := by intro _; rfl) (hs1 : ∀ env x, foldedSetIterable iter1 env x = pure x := by intro _ _; rfl) (h0 : i ≠ 0 ∨ W.me = none := by first | exact .inl (by decide) | exact .inr (by assumption)) :
    PSv X W (.Assign [.Name y py] (.ListComp elt [⟨tg, iter, ifs, 0⟩, ⟨tg1, iter1, ifs1, 0⟩] scope pos) spos) (sSet i (vLc2 (own.map (·.2)) vs1 it g ft it1 g1 ft1 fe)) :=
  ps_imp (ps_setLc2 hc hN hy hyl hsw hi ok hvv (fun s H C cl fp => ⟨fun pins s' σ H' v u Q I r ⟨W', h1, h2, t⟩ => (hg s H C cl fp W' ⟨h1, h2⟩).run pins s' σ H' v u Q I r t⟩)
    (fun s H C cl fp => ⟨fun pins s' σ H' Q I ⟨W', h1, h2, t⟩ => (ht s H C cl fp W' ⟨h1, h2⟩).run pins s' σ H' Q I t⟩) (fun s H C cl fp => ⟨fun pins s' σ H' R I ⟨W', h1, h2, t⟩ => (hi1 s H C cl fp W' ⟨h1, h2⟩).run pins s' σ H' R I t⟩)
    (fun s H C cl fp => ⟨fun pins s' σ H' v u Q I r ⟨W', h1, h2, t⟩ => (hg1 s H C cl fp W' ⟨h1, h2⟩).run pins s' σ H' v u Q I r t⟩) (fun s H C cl fp => ⟨fun pins s' σ H' Q I ⟨W', h1, h2, t⟩ => (ht1 s H C cl fp W' ⟨h1, h2⟩).run pins s' σ H' Q I t⟩)
    (fun s H C cl fp => ⟨fun pins s' σ H' Q I ⟨W', h1, h2, t⟩ => (he s H C cl fp W' ⟨h1, h2⟩).run pins s' σ H' Q I t⟩) hs hs1) fun Dn σ H t => t_lc2 hv hv1 hvv (t_setv h0 t)
end
end Ev

set_option Elab.async false
set_option linter.all false
set_option maxRecDepth 100000
set_option maxHeartbeats 4000000
/-! Ev12: instances being made: their __init__, their fields. -/
namespace Ev
open PySem PySem.Spec L2
open PyProof.Rows hiding St

/-! ### the fields of the instance that the frame owns -/
def ownI (ρ : Env) (i : Nat) : Option (Nat × List (Str × D)) := match ρ[i]? with
  | some (some (.own (.ins C fs))) => some (C, fs)
  | _ => none
theorem ownI_eq {ρ : Env} {i C : Nat} {fs : List (Str × D)} (h : ownI ρ i = some (C, fs)) : ρ[i]? = some (some (.own (.ins C fs))) := by
  unfold ownI at h
  split at h
  · rename_i e
    cases h
    exact e
  · cases h
theorem Sta.ownI {K : PySem.W.Frag} {W : Wi} {F : Addr → Prop} {S : Sto} {m : List Addr} {H : Hp} {ρ : Env} {σ : St} {i C : Nat} {fs : List (Str × D)} (st : Sta K W ρ S m F σ H) (h : Ev.ownI ρ i = some (C, fs)) :
    ∃ a dx xs, σ[i]? = some (some (.ref a)) ∧ H a = some (.ins (ca K C) dx xs) ∧ RVf (rc K F S m H) fs xs := by
  obtain ⟨a, e, _, _, dx, xs, h1, h2⟩ := st.e.own_ i _ (ownI_eq h)
  exact ⟨a, dx, xs, e, h1, h2⟩
def putFD (f : Str) (d : D) : List (Str × D) → List (Str × D)
  | [] => [(f, d)]
  | (g, x) :: r => if g = f then (g, d) :: r else (g, x) :: putFD f d r
theorem RVf.put {c : RC} {f : Str} {d : D} {v : V} (r : RV c d v) : ∀ {fs : List (Str × D)} {xs : List (Str × V)}, RVf c fs xs → RVf c (putFD f d fs) (putF f v xs)
  | _, _, .nil => .cons r .nil
  | (g, d') :: fs, (_, v') :: xs, .cons h t => by
    unfold putFD putF
    split
    · exact .cons r t
    · exact .cons h (RVf.put r t)
section
variable {X : Cx} {W : Wi} {x f : Str} {p1 p2 pos : Pos} {e : Expr} {fe : Env → Sto → Res D} {i : Nat} {C : Nat}
/-- x.f, x the frame's own -/
def vFldO (i C : Nat) (f : Str) (ρ : Env) (S : Sto) : Res D := match ownI ρ i with
  | some (C', fs) => if C' = C then (match fs.lookup f with
    | some d => .ok d S
    | none => .bad) else .bad
  | none => .bad
theorem pev_fldOwn (hc : ClsK X.K C) (hn : NoAttr X.K (ca X.K C) f) (hN : X.N[i]? = some x) (hv : Vis X.env.scope x) (hd : (x == ("__debug__" : Str)) = false := by decide) (hcd : (x == ("__classdict__" : Str)) = false := by decide)
    (hb : attributeBase (.Name x p1) f X.env (eval (.Name x p1) X.env) = eval (.Name x p1) X.env := by rfl) : PEv X W (.Attribute (.Name x p1) f pos) (vFldO i C f) := by
  refine pe_imp (pe_fld (pe_var hN hv hd hcd) hb) fun σ H Q ⟨ρ, S, m, F, st, p⟩ => ?_
  unfold vFldO at p
  split at p
  · rename_i C' fs e1
    split at p
    · rename_i ec
      subst ec
      split at p
      · rename_i d el
        obtain ⟨a, dx, xs, ha, hx, r⟩ := st.ownI e1
        obtain ⟨v, hl, rv⟩ := r.lookup el
        exact ⟨_, ha, a, _, dx, xs, v, rfl, hx, hc.c, hn, hl, p.ok st.s rv⟩
      · exact p.elim
    · exact p.elim
  · exact p.elim
/-- x.f = e, x the frame's own -/
def sSetF (i C : Nat) (f : Str) (fe : Env → Sto → Res D) (ρ : Env) (S : Sto) : SRes := (fe ρ S).toS ρ fun d S => match ownI ρ i with
  | some (C', fs) => if C' = C ∧ fs.length < 1000 then .nx (ρ.set i (some (.own (.ins C (putFD f d fs))))) S else .bad
  | none => .bad
theorem psv_fldOwn (hc : ClsK X.K C) (hn : NoAttr X.K (ca X.K C) f) (hN : X.N[i]? = some x) (hv : Vis X.env.scope x) (he : PEv X W e fe) (hs : swapsWith e (some (.Attribute (.Name x p1) f p2)) pos.line X.env = pure false := by rfl)
    (hd : (x == ("__debug__" : Str)) = false := by decide) (hcd : (x == ("__classdict__" : Str)) = false := by decide) : PSv X W (.Assign [.Attribute (.Name x p1) f p2] e pos) (sSetF i C f fe) := by
  refine ps_imp (ps_fld (pe_var hN hv hd hcd) he hs) fun Dn σ H t => ?_
  refine t_mono (T.toS (R := RV) t) fun v H1 ⟨ρ, S, m, F, d, st, r, p⟩ => ?_
  split at p
  · rename_i C' fs e1
    split at p
    · rename_i ec
      obtain ⟨rfl, hl⟩ := ec
      obtain ⟨a, dx, xs, ha, hx, rf⟩ := st.ownI e1
      refine ⟨_, ha, a, _, dx, xs, rfl, hx, hc.c, hn, by rw [← rf.length]; exact hl, ?_⟩
      obtain ⟨l2, st2⟩ := st.writeown (o := .ins (ca X.K C') dx (putF f v xs)) (so' := .ins C' (putFD f d fs)) (ownI_eq e1) ha fun c lc hcH => ⟨dx, _, by rw [hcH, lc.k]; exact upd_same, (rf.le lc).put (r.le lc)⟩
      exact p _ _ _ _ l2 st2
    · exact p.elim
  · exact p.elim
end

/-! ### __init__ -/
/-- what __init__ leaves -/
def initRes : SRes → Res D
  | .nx ρ S => (match ownI ρ 0 with
    | some (C, fs) => .ok (.ins C fs) S
    | none => .bad)
  | .ex x _ S => .ex x S
  | _ => .bad
def startI (N : List Str) (C : Nat) (ds : List D) : Env := some (.own (.ins C [])) :: (ds.map (fun d => some (.v d)) ++ List.replicate (N.length - (ds.length + 1)) none)
def spIn (K : PySem.W.Frag) (C : Nat) (kf : List D → Sto → Res D) : Sp := fun vs H Q E => ∃ S m F ds a dx ws H1, vs = .ref a :: ws ∧ H1 a = none ∧ (∀ b o, H1 b = some o → H b = some o) ∧ H a = some (.ins (ca K C) dx []) ∧ RS K F S m H1 ∧ RVs (rc K F S m H1) ds ws ∧
  Post K F RV E S m H1 (kf ds S) fun v H' => v = .ref a → Q .non H'
section
variable {K : PySem.W.Frag} {F : Addr → Prop} {S : Sto} {m : List Addr} {H H1 : Hp} {a : Addr}
theorem RS.take (rs : RS K F S m H1) (g : ∀ b o, H1 b = some o → H b = some o) {o : HO} (hn : H1 a = none) (ha : H a = some o) : RS K (fun b => F b ∨ b = a) S m H ∧ (rc K F S m H1).Le (rc K (fun b => F b ∨ b = a) S m H) := by
  obtain ⟨l, rs'⟩ := grow rs g
  have nL : ¬ Live S m a := fun h => by obtain ⟨o, e⟩ := rs.tracked h; rw [hn] at e; cases e
  have le : (rc K F S m H1).Le (rc K (fun b => F b ∨ b = a) S m H) := ⟨rfl, fun b o e n => ⟨g b o e, fun z => z.elim (fun z => n (.inl z)) fun z => z.elim (fun z => n (.inr z)) fun z => by
    have e' : H1 b = some o := e
    rw [z, hn] at e'
    cases e'⟩, [], by simp⟩
  exact ⟨⟨rs.len, fun n so b h1 h2 => (rs.ob n so b h1 h2).le le (g b), rs.inj, fun b h => h.elim (fun h => rs'.ft b h) fun h => ⟨o, h ▸ ha⟩, fun b h z => h.elim (fun h => rs'.fd b h z) fun h => nL (h ▸ z)⟩, le⟩
theorem startI_re {c : RC} {F F0 : Addr → Prop} {N : List Str} {C : Nat} {dx : Addr} {ds : List D} {vs : List V} (r : RVs c ds vs) (fa : F a) (nf : ¬ F0 a) (ha : c.H a = some (.ins (ca c.K C) dx [])) : RE c F F0 (startI N C ds) (L2.start N (.ref a :: vs)) := by
  have hl := r.length
  have only : ∀ {i : Nat} {so : SO}, (startI N C ds)[i]? = some (some (.own so)) → i = 0 := fun {i so} h => by
    cases i with
    | zero => rfl
    | succ i =>
      unfold startI at h
      rw [List.getElem?_cons_succ, List.getElem?_append] at h
      split at h
      · rw [List.getElem?_map] at h
        cases q : ds[i]? with
        | none => rw [q] at h; cases h
        | some d => rw [q] at h; cases h
      · rw [List.getElem?_replicate] at h
        split at h <;> cases h
  refine ⟨by simp [startI, L2.start, hl], fun i d e => ?_, fun i so e => ?_, fun i j so so' b h1 h2 _ _ => (only h1).trans (only h2).symm⟩
  · cases i with
    | zero => cases e
    | succ i =>
      unfold startI at e
      unfold L2.start
      rw [List.getElem?_cons_succ] at e
      rw [List.map_cons, List.cons_append, List.getElem?_cons_succ]
      by_cases hi : i < ds.length
      · rw [List.getElem?_append_left (by simpa using hi), List.getElem?_map] at e
        cases q : ds[i]? with
        | none => rw [q] at e; cases e
        | some d' =>
          rw [q] at e
          cases e
          obtain ⟨v, hv, rv⟩ := r.get q
          refine ⟨v, ?_, rv⟩
          rw [List.getElem?_append_left (by simpa [← hl] using hi), List.getElem?_map, hv]
          rfl
      · rw [List.getElem?_append_right (by simpa using hi), List.getElem?_replicate] at e
        split at e <;> cases e
  · have := only e
    subst this
    cases e
    exact ⟨a, rfl, fa, nf, dx, [], ha, .nil⟩
theorem RS.lessOf {F F' : Addr → Prop} (rs : RS K F' S m H) (sub : ∀ a, F a → F' a) : RS K F S m H :=
  ⟨rs.len, fun n so a h1 h2 => (rs.ob n so a h1 h2).le (rc_less sub) fun _ e => e, rs.inj, fun a h => rs.ft a (sub a h), fun a h => rs.fd a (sub a h)⟩
/-- from the walk of the body to what is wanted of __init__ -/
theorem init_end {W : Wi} {ρ : Env} {σ : St} {g : Env → Sto → SRes} {E : XK} {Q : VK} {N : List Str} {C : Nat} {dx : Addr} {ds : List D} {ws : List V} (hn : H1 a = none) (gr : ∀ b o, H1 b = some o → H b = some o) (ha : H a = some (.ins (ca K C) dx [])) (rs : RS K F S m H1) (rv : RVs (rc K F S m H1) ds ws)
    (p : Post K F RV E S m H1 (initRes (g (startI N C ds) S)) fun v H' => v = .ref a → Q .non H') :
    TSv K ⟨F, fun c d _ H => E c d H, some a⟩ g { nx := fun _ H' => Q .non H', rt := Q } (L2.start N (.ref a :: ws)) H := by
  obtain ⟨rs', le⟩ := rs.take gr hn ha
  have nF : ¬ F a := fun h => by obtain ⟨o, e⟩ := rs.ft a h; rw [hn] at e; cases e
  refine ⟨startI N C ds, S, m, fun b => F b ∨ b = a, ⟨rs', startI_re (rv.le le) (.inr rfl) nF ha, fun b h => .inl h, fun x h => by cases h; rfl⟩, ?_⟩
  have back : ∀ {S' : Sto} {m' : List Addr} {F' : Addr → Prop} {H' : Hp}, LeS F S m (fun b => F b ∨ b = a) H S' m' F' H' → Le S m H1 S' m' H' := fun {S' m' F' H'} l =>
    ⟨fun b o e n => by
      have z := l.stay b o (gr b o e) n fun q => q.resolve_right fun z => by
        rw [z, hn] at e
        cases e
      exact ⟨z.1, z.2.1⟩, l.m⟩
  cases q : g (startI N C ds) S with
  | nx ρ S' =>
    rw [q] at p
    intro σ' m' F' H' l st
    unfold initRes at p
    dsimp only at p
    split at p
    · rename_i C' fs e1
      obtain ⟨b, eb, f, f0, dx', xs, h1, h2⟩ := st.e.own_ 0 _ (ownI_eq e1)
      have hb : b = a := by
        have := st.me a rfl
        rw [eb] at this
        cases this
        rfl
      subst hb
      have nl : ¬ (Live S' m' b ∨ F b) := fun z => z.elim (st.s.fd b f) nF
      exact p m' H' (.ref b) (back l) (st.s.lessOf st.sub) (.ins h1 nl (h2.le (rc_less st.sub))) rfl
    · exact p.elim
  | ret d S' => rw [q] at p; exact p.elim
  | ex x ρ S' =>
    rw [q] at p
    intro σ' m' F' H' dd l st rx
    exact p m' H' dd (back l) (st.s.lessOf st.sub) (rx.le (rc_less st.sub))
  | brk ρ S' => rw [q] at p; exact p.elim
  | ct ρ S' => rw [q] at p; exact p.elim
  | bad => rw [q] at p; exact p.elim
end
/-- an __init__ keeps its promise by its body -/
theorem init_ok {P : Program} {w : World} {K : PySem.W.Frag} {mg : Str → Option Value} {base : Heap} {x qual : Str} {params : Arguments} {body : List Stmt} {scope : Scope} {dvs : List V} {kws : List (Str × V)} {f : Addr} {fd : FuncData} {N ps : List Str} {k C : Nat} {g : Env → Sto → SRes}
    (Fd : FunD K x qual params body scope dvs kws f fd) (sc : FnScope N ps scope)
    (hb : ∀ (cdv : Value) (A : Around) (outer : List PySem.Env) (s : Shared) (H : Hp) (E : XK) (W : Wi), Rm k (A.deeper (envOfC qual scope s.heap.objs.size f cdv)) → Takes (cxOf (CX P w) P w K mg base N qual scope f cdv A outer s H E) W.w →
      PSsv (cxOf (CX P w) P w K mg base N qual scope f cdv A outer s H E) W body g) :
    FnE P w K mg base (CX P w) (k + 1) f fd ps (spIn K C fun ds S => if ds.length + 1 = ps.length then initRes (g (startI N C ds) S) else .bad) := by
  refine fnE_ok Fd sc fun cdv A outer s H vs Q E hr ⟨S, m, F, ds, a, dx, ws, H1, ev, hn, gr, ha, rs, r, p⟩ => ?_
  subst ev
  dsimp only at p
  split at p
  · exact ⟨_, hb cdv A outer s H E ⟨F, fun c d _ H => E c d H, some a⟩ hr (takes_of rfl rfl rfl rfl), init_end (W := ⟨F, fun c d _ H => E c d H, some a⟩) (ρ := []) (σ := []) hn gr ha rs r p⟩
  · exact p.elim
/-- def __init__(self, *x) -/
theorem init_star {P : Program} {w : World} {K : PySem.W.Frag} {mg : Str → Option Value} {base : Heap} {x qual sf pv : Str} {params : Arguments} {body : List Stmt} {scope : Scope} {dvs : List V} {kws : List (Str × V)} {f : Addr} {fd : FuncData} {N : List Str} {k C : Nat} {g : Env → Sto → SRes}
    (Fd : FunD K x qual params body scope dvs kws f fd) (sc : FnScope N [sf, pv] scope)
    (h0 : ∀ (dV kV doc pm cdv ct : Value) (an : Option Addr) a, bindArgs (PySem.W.fnOf x qual params body scope dV kV doc pm an cdv ct) ⟨[a], []⟩ = (newTuple [] >>= fun t => pure [(sf, a), (pv, t)]))
    (h1 : ∀ (dV kV doc pm cdv ct : Value) (an : Option Addr) a r rs, bindArgs (PySem.W.fnOf x qual params body scope dV kV doc pm an cdv ct) ⟨a :: r :: rs, []⟩ = (newTuple (r :: rs) >>= fun t => pure [(sf, a), (pv, t)]))
    (hb : ∀ (cdv : Value) (A : Around) (outer : List PySem.Env) (s : Shared) (H : Hp) (E : XK) (W : Wi), Rm k (A.deeper (envOfC qual scope s.heap.objs.size f cdv)) → Takes (cxOf (CX P w) P w K mg base N qual scope f cdv A outer s H E) W.w →
      PSsv (cxOf (CX P w) P w K mg base N qual scope f cdv A outer s H E) W body g) :
    FrE P w K mg base (CX P w) (k + 1) f (spIn K C fun ds S => if ds.length ≤ sizeLine then initRes (g (startI N C [.tup ds]) S) else .bad) := by
  obtain ⟨oc, od, dV, kV, doc, pm, an, cdv, ct, osl, rfl, lk, hcd, _, _⟩ := Fd.ex
  refine ⟨fun A outer s H us vs Q E hr e0 rr ⟨S, m, F, ds, a, dx, ws, H1, ev, hn, gr, ha, rs, r, p⟩ => ?_⟩
  subst ev
  dsimp only at p
  split at p
  · rename_i hz
    obtain ⟨u0, ur, rfl, ru, rw'⟩ : ∃ u0 ur, us = u0 :: ur ∧ RelV (.ref a) u0 ∧ Vals ws ur := by cases rr with | cons x y => exact ⟨_, _, rfl, x, y⟩
    have hz2 : ws.length ≤ sizeLine := by rw [← r.length]; exact hz
    have hz3 : ur.length ≤ sizeLine := by rw [← rw'.length]; exact hz2
    have hp : H s.heap.objs.size = none := e0.hok.fresh (Nat.le_refl _)
    refine StX.run_bnd lk hcd sc hr.r e0 (G := fun xs H2 => ∃ p, H p = none ∧ xs = [.ref a, .ref p] ∧ H2 = upd H p (.tup ws)) (fun A' Ex Q' h => ?_) fun s2 H2 xs ⟨q, hq, ex, eH⟩ hr' => ?_
    · have hb := StX.bind_star1 (B := fun us => bindArgs (PySem.W.fnOf x qual params body scope dV kV doc pm an cdv ct) ⟨us, []⟩) (h0 dV kV doc pm cdv ct an) (h1 dV kV doc pm cdv ct an) [u0] ur rfl
      rw [show u0 :: ur = [u0] ++ ur from rfl, hb]
      refine wpAny_bind (wpAny_newTuple (wpAny_pure ?_) hz3)
      have new : ObjOk P w (upd H s.heap.objs.size (.tup ws)) (s.heap.push ({ cls := .type "tuple", data := .seq ur.toArray } : Obj)) s.heap.objs.size (.tup ws) := ⟨hz2, ur, rw', ⟨_, Heap.get?_push_size _ rfl, rfl, _, rfl⟩⟩
      have un := StX.un_laid (fs := frs outer) (s := s) (o := ({ cls := .type "tuple", data := .seq ur.toArray } : Obj)) (u := .tup ws) hp
      exact h _ _ [.ref a, .ref s.heap.objs.size] [u0, .ref s.heap.objs.size] (StX.env0_laid e0 new) un rfl (fun e s' => StX.cxUp outer s H _ _ E e s' un (fun b o q => Heap.get?_push_of_some _ q) rfl) (.cons ru (.cons rfl .nil)) rfl ⟨_, hp, rfl, rfl⟩
    · subst ex eH
      have hq1 : H1 q = none := by
        cases e : H1 q with
        | none => rfl
        | some o => rw [gr q o e] at hq; cases hq
      have hqa : a ≠ q := fun z => by rw [z, hq] at ha; cases ha
      obtain ⟨lg, rsg⟩ := grow (H' := upd H1 q (.tup ws)) rs (upd_keeps hq1)
      exact ⟨_, hb cdv A outer s2 _ E ⟨F, fun c d _ H => E c d H, some a⟩ ⟨hr', hr.g⟩ (takes_of rfl rfl rfl rfl), init_end (W := ⟨F, fun c d _ H => E c d H, some a⟩) (ρ := []) (σ := []) (H1 := upd H1 q (.tup ws)) (by rw [upd_ne hqa]; exact hn) (fun b o e => by
        by_cases hb : b = q
        · rw [hb, upd_same] at e ⊢
          exact e
        · rw [upd_ne hb] at e ⊢
          exact gr b o e) (by rw [upd_ne hqa]; exact ha) rsg (.one (new_pair rs hq1 r).2) (p.from lg)⟩
  · exact p.elim

/-! ### C(..) -/
section
variable {X : Cx} {W : Wi} {k lv : Nat} {C : Nat} {x : Str} {kf : List D → Sto → Res D} {p p2 pos : Pos} {e : Expr} {es : List Expr} {al : Env → Sto → Res (List D)} {fe : Env → Sto → Res D}
theorem run_mk {pins : List (Addr × Obj)} {σ : St} {H : Hp} {s : Shared} {Q : VK} {f : Addr} {us : List Value} {vs : List V} {ds : List D} {ρ : Env} {S : Sto} {m : List Addr} {F : Addr → Prop} (M : Mk X.K (ca X.K C) f) (Pr : FrE X.prog X.w X.K X.mg X.base (CX X.prog X.w) k f (spIn X.K C kf)) (hr : Rm (k + 1) X.A) (tk : Takes X W.w)
    (I : Inv X pins σ H s) (r : Vals vs us) (st : Sta X.K W ρ S m F σ H) (rv : RVs (rc X.K F S m H) ds vs) (q : Post X.K F RV (fun c d H' => W.w c d σ H') S m H (kf ds S) Q) : wpAny (model X.prog X.w) X.A (call (.ref (ca X.K C)) us) (EP X pins σ Q) X.xe s := by
  have nx : H (s.heap.objs.size + 1) = none := I.hok.fresh (Nat.le_succ _)
  have nd : H s.heap.objs.size = none := I.hok.fresh (Nat.le_refl _)
  have ne : s.heap.objs.size ≠ s.heap.objs.size + 1 := Nat.ne_of_lt (Nat.lt_succ_self _)
  have I2 := Inv.made (C := ca X.K C) I
  have r2 : Vals (V.ref (s.heap.objs.size + 1) :: vs) (Value.ref (s.heap.objs.size + 1) :: us) := .cons rfl r
  have sp : spIn X.K C kf (V.ref (s.heap.objs.size + 1) :: vs) (upd (upd H s.heap.objs.size (.own (s.heap.objs.size + 1))) (s.heap.objs.size + 1) (.ins (ca X.K C) s.heap.objs.size [])) (fun v H' => v = .non ∧ Q (.ref (s.heap.objs.size + 1)) H') (WE W.w σ) :=
    ⟨S, m, F, ds, _, _, vs, H, rfl, nx, fun b o e => by rw [upd_ne (fun z => by rw [z, nx] at e; cases e), upd_ne (fun z => by rw [z, nd] at e; cases e)]; exact e, upd_same, st.s, rv, q.mono (fun v H' h e => ⟨rfl, e ▸ h⟩) fun _ _ _ h => h⟩
  refine wpAny_call (make_map (f := f) I.kIn M.makes M.init (beq_iff_eq.mp M.fn) (codeAny_mono (Pr.run _ X.stack _ _ (Value.ref (s.heap.objs.size + 1) :: us) _ _ (WE W.w σ) (hr.make _ us []) (I2.env0.make _ us []) r2 sp) fun r s' hq => ?_))
  match r, hq with
  | .error er, hq => exact passAt tk σ pins _ _ er s' I2 hq
  | .ok (.ret u), hq =>
    obtain ⟨v, H', I3, rv, ev, q3⟩ := I2.after hq
    subst ev
    exact ⟨rv, ⟨V.ref (s.heap.objs.size + 1), H', I3, rfl, q3⟩⟩
  | .ok .next, hq => exact hq.elim
  | .ok .brk, hq => exact hq.elim
  | .ok .cont, hq => exact hq.elim
/-- a class of the module and its __init__, positional -/
structure MkG (X : Cx) (k : Nat) (C : Nat) (kf : List D → Sto → Res D) : Prop where
  ex : ∃ f, Mk X.K (ca X.K C) f ∧ FrE X.prog X.w X.K X.mg X.base (CX X.prog X.w) k f (spIn X.K C kf)
theorem MkG.of {f : Addr} {fd : FuncData} {ps : List Str} (M : Mk X.K (ca X.K C) f) (hb : Binds X.K fd ps []) (Pr : FnE X.prog X.w X.K X.mg X.base (CX X.prog X.w) k f fd ps (spIn X.K C kf)) (hl : ∀ ds S, ds.length + 1 = ps.length ∨ kf ds S = .bad) : MkG X k C kf :=
  ⟨f, M, Pr.pos hb fun vs H Q E ⟨S, m, F, ds, a, dx, ws, H1, ev, _, _, _, _, r, p⟩ => by
    rcases hl ds S with h | h
    · rw [ev, List.length_cons, ← r.length]
      exact h
    · rw [h] at p
      exact p.elim⟩
theorem pev_mk (G : MkG X k C kf) (hr : Rm lv X.A) (hk : k + 1 ≤ lv) (tk : Takes X W.w) (hg : Gl X x) (hm : X.mg x = some (.ref (ca X.K C))) (ha : PAv X W (e :: es) al) (hdb : (x == ("__debug__" : Str)) = false := by decide)
    (he : starEach (e :: es) X.env = (false, eval e X.env) :: starEach es X.env := by rfl) (hpl : (backTo pos (starEach es X.env)).any (·.1) = false := by rfl) : PEv X W (.Call (.Name x p) (e :: es) [] pos) (vL kf al) := by
  obtain ⟨f, M, Pr⟩ := G.ex
  refine ⟨fun pins s σ H Q I h => wpAny_Call_Name_kw (ld_glob I hg hm ?_ hdb)⟩
  have hA := ha.run pos pins s σ H _ I (T.bind (R := RVs) h)
  exact PySem.W.callWith_K (h₀ := X.base) I.ok.mod.kin M.kp (thn hA fun us s1 ⟨vs, H1, I1, r, ρ, S, mm, F, ds, st, rv, q⟩ => ⟨I1.kIn, run_mk M Pr (hr.mono hk) tk I1 r st rv q⟩) he hpl
/-- the items of a list, a tuple -/
def vStar (kf : List D → Sto → Res D) (fe : Env → Sto → Res D) (ρ : Env) (S : Sto) : Res D := (fe ρ S).bind fun d S => match viewQ S d with
  | some ds => kf ds S
  | none => .bad
theorem t_star {σ : St} {H : Hp} {Q : VK} (t : TD X.K W (vStar kf fe) σ H Q) :
    TD X.K W fe σ H fun v H1 => ∃ a xs, v = V.ref a ∧ (SqT X.K H1 a xs ∨ SqL X.K H1 a xs) ∧ ∃ ρ S m F ds, Sta X.K W ρ S m F σ H1 ∧ RVs (rc X.K F S m H1) ds xs ∧ Post X.K F RV (fun c d H' => W.w c d σ H') S m H1 (kf ds S) Q := by
  refine t_mono (T.bind (R := RV) t) fun v H1 ⟨ρ, S, m, F, d, st, r, p⟩ => ?_
  split at p
  · rename_i ds e1
    obtain ⟨a, xs, rfl, h1, h2⟩ := viewQ_ok st.s r e1
    exact ⟨a, xs, rfl, h1.symm, ρ, S, m, F, ds, st, h2, p⟩
  · exact p.elim
theorem pev_mkS (G : MkG X k C kf) (hr : Rm lv X.A) (hk : k + 1 ≤ lv) (tk : Takes X W.w) (hg : Gl X x) (hm : X.mg x = some (.ref (ca X.K C))) (he : PEv X W e fe) (hdb : (x == ("__debug__" : Str)) = false := by decide)
    (hst : starEach [.Starred e p2] X.env = [(true, eval e X.env)] := by rfl) : PEv X W (.Call (.Name x p) [.Starred e p2] [] pos) (vStar kf fe) := by
  obtain ⟨f, M, Pr⟩ := G.ex
  refine ⟨fun pins s σ H Q I h => wpAny_Call_Name_kw (ld_glob I hg hm ?_ hdb)⟩
  have hE := he.run pins s σ H _ I (t_star h)
  refine PySem.W.callWith_S (h₀ := X.base) I.ok.mod.kin M.kp (thn hE fun v s1 ⟨y, H1, I1, ry, a, xs, ey, hxs, ρ, S, m, F, ds, st, rv, q⟩ => ?_) hst
  subst ey
  obtain rfl : v = Value.ref a := ry
  exact StX.star_any I1 hxs fun us s2 I2 r => ⟨I2.kIn, run_mk M Pr (hr.mono hk) tk I2 r st rv q⟩
/-- cls(*e), cls a parameter that is the class number C -/
def vStarC (i C : Nat) (kf : List D → Sto → Res D) (fe : Env → Sto → Res D) (ρ : Env) (S : Sto) : Res D := match ρ[i]? with
  | some (some (.v (.gl a))) => if a = C then vStar kf fe ρ S else .bad
  | _ => .bad
theorem pev_mkSC {i : Nat} (G : MkG X k C kf) (hr : Rm lv X.A) (hk : k + 1 ≤ lv) (tk : Takes X W.w) (hN : X.N[i]? = some x) (hv : Vis X.env.scope x) (he : PEv X W e fe) (hdb : (x == ("__debug__" : Str)) = false := by decide) (hcd : (x == ("__classdict__" : Str)) = false := by decide)
    (hst : starEach [.Starred e p2] X.env = [(true, eval e X.env)] := by rfl) : PEv X W (.Call (.Name x p) [.Starred e p2] [] pos) (vStarC i C kf fe) := by
  obtain ⟨f, M, Pr⟩ := G.ex
  refine ⟨fun pins s σ H Q I h => wpAny_Call_Name_kw ?_⟩
  obtain ⟨ρ, S, m, F, st, p'⟩ := h
  unfold vStarC at p'
  split at p'
  · rename_i a e1
    split at p'
    · rename_i ea
      subst ea
      obtain ⟨v, e2, rv⟩ := st.e.at_ i _ e1
      cases rv
      refine thn ((pe_var (pos := p) hN hv hdb hcd).run pins s σ H (fun v H1 => v = .ref (ca X.K a) ∧ H1 = H) I ⟨_, e2, rfl, rfl⟩) fun u s1 ⟨y, H1, I1, ry, ey, eH⟩ => ?_
      subst ey eH
      obtain rfl : u = Value.ref (ca X.K a) := ry
      have hE := he.run pins s1 σ H1 _ I1 (t_star ⟨ρ, S, m, F, st, p'⟩)
      refine PySem.W.callWith_S (h₀ := X.base) I.ok.mod.kin M.kp (thn hE fun v s1 ⟨y, H1, I1, ry, a, xs, ey, hxs, ρ, S, m, F, ds, st, rv, q⟩ => ?_) hst
      subst ey
      obtain rfl : v = Value.ref a := ry
      exact StX.star_any I1 hxs fun us s2 I2 r => ⟨I2.kIn, run_mk M Pr (hr.mono hk) tk I2 r st rv q⟩
    · exact p'.elim
  · exact p'.elim
/-- how n values by position and the keywords ks come to the parameters behind self -/
structure KbI (K : PySem.W.Frag) (fd : FuncData) (ps : List Str) (n : Nat) (ks : List Str) (gD : List D → List D → List D) : Prop where
  ex : ∃ (g : List Value → List Value → List Value) (gV gW : List V → List V → List V), KBn K fd ps (n + 1) ks g gV ∧ (∀ v vs zs, vs.length = n → zs.length = ks.length → gV (v :: vs) zs = v :: gW vs zs) ∧ ∀ (c : RC) (ds zs : List D) (vs ws : List V), c.K = K → RVs c ds vs → RVs c zs ws → RVs c (gD ds zs) (gW vs ws)
structure MkK (X : Cx) (k : Nat) (C : Nat) (n : Nat) (ks : List Str) (q : Nat) (gD : List D → List D → List D) (kf : List D → Sto → Res D) : Prop where
  ex : ∃ f fd ps, Mk X.K (ca X.K C) f ∧ ps.length = q + 1 ∧ KbI X.K fd ps n ks gD ∧ FnE X.prog X.w X.K X.mg X.base (CX X.prog X.w) k f fd ps (spIn X.K C kf)
def vMkK (n j q : Nat) (gD : List D → List D → List D) (kf : List D → Sto → Res D) (al kl : Env → Sto → Res (List D)) (ρ : Env) (S : Sto) : Res D :=
  (al ρ S).bind fun ds S => (kl ρ S).bind fun zs S => if ds.length = n ∧ zs.length = j ∧ (gD ds zs).length = q then kf (gD ds zs) S else .bad
theorem pev_mkK {n q : Nat} {ks : List Str} {gD : List D → List D → List D} {kws : List Keyword} {kl : Env → Sto → Res (List D)} (G : MkK X k C n ks q gD kf) (hr : Rm lv X.A) (hk : k + 1 ≤ lv) (tk : Takes X W.w) (hg : Gl X x) (hm : X.mg x = some (.ref (ca X.K C))) (ha : PAv X W (e :: es) al) (hkw : PKv X W kws kl)
    (hall : (backToKw pos (keywordEach kws X.env)).all (·.1.isSome) = true := by rfl) (hks : (backToKw pos (keywordEach kws X.env)).filterMap (·.1) = ks := by rfl) (hdb : (x == ("__debug__" : Str)) = false := by decide)
    (he : starEach (e :: es) X.env = (false, eval e X.env) :: starEach es X.env := by rfl) (hpl : ((backTo pos (starEach (e :: es) X.env)).any (·.1) || (backToKw pos (keywordEach kws X.env)).any (·.1.isNone)) = false := by rfl) :
    PEv X W (.Call (.Name x p) (e :: es) kws pos) (vMkK n ks.length q gD kf al kl) := by
  obtain ⟨f, fd, ps, M, hq, ⟨g, gV, gW, hb, hcons, hg2⟩, Pr⟩ := G.ex
  refine ⟨fun pins s σ H Q I h => wpAny_Call_Name_kw (ld_glob I hg hm ?_ hdb)⟩
  have hA := ha.run pos pins s σ H _ I (T.bind (R := RVs) h)
  refine PySem.W.callWith_KW (h₀ := X.base) I.ok.mod.kin M.kp hall (thn hA fun us s1 ⟨vs, H1, I1, r, ρ, S, mm, F, ds, st, rv, q1⟩ => ?_) hpl he
  have hB := hkw.run pos pins s1 σ H1 _ I1 (Post.next (R := RVs) (R2 := RVs) (fun l _ _ r => r.le l) st rv q1)
  refine thn hB fun ws s2 ⟨zs, H2, I2, rz, S2, m2, dz, st2, rv2, rz2, q2⟩ => ⟨I2.kIn, ?_⟩
  rw [hks]
  split at q2
  · rename_i hc
    obtain ⟨h1, h2, h3⟩ := hc
    have l1 : vs.length = n := by rw [← rv2.length, h1]
    have l2 : zs.length = ks.length := by rw [← rz2.length, h2]
    have nx : H2 (s2.heap.objs.size + 1) = none := I2.hok.fresh (Nat.le_succ _)
    have nd : H2 s2.heap.objs.size = none := I2.hok.fresh (Nat.le_refl _)
    have I3 := Inv.made (C := ca X.K C) I2
    have r1 : Vals (V.ref (s2.heap.objs.size + 1) :: vs) (Value.ref (s2.heap.objs.size + 1) :: us) := .cons rfl r
    have r2 := hb.rel r1 rz
    rw [hcons _ _ _ l1 l2] at r2
    have sp : spIn X.K C kf (V.ref (s2.heap.objs.size + 1) :: gW vs zs) (upd (upd H2 s2.heap.objs.size (.own (s2.heap.objs.size + 1))) (s2.heap.objs.size + 1) (.ins (ca X.K C) s2.heap.objs.size [])) (fun v H' => v = .non ∧ Q (.ref (s2.heap.objs.size + 1)) H') (WE W.w σ) :=
      ⟨S2, m2, F, _, _, _, _, H2, rfl, nx, fun b o e => by rw [upd_ne (fun z => by rw [z, nx] at e; cases e), upd_ne (fun z => by rw [z, nd] at e; cases e)]; exact e, upd_same, st2.s, hg2 _ ds dz vs zs rfl rv2 rz2, q2.mono (fun v H' h e => ⟨rfl, e ▸ h⟩) fun _ _ _ h => h⟩
    refine wpAny_call (make_map (f := f) I2.kIn M.makes M.init (beq_iff_eq.mp M.fn) (codeAny_mono (Pr.run _ X.stack _ _ ⟨Value.ref (s2.heap.objs.size + 1) :: us, ks.zip ws⟩ (g (Value.ref (s2.heap.objs.size + 1) :: us) ws) _ _ (WE W.w σ) ((hr.mono hk).make _ us (ks.zip ws))
      (I3.env0.make _ us (ks.zip ws)) (hb.to _ (Value.ref (s2.heap.objs.size + 1) :: us) ws I3.kIn (r1.length.symm.trans (congrArg Nat.succ l1)) (rz.length.symm.trans l2)) r2 (by rw [← r2.length, List.length_cons, ← (hg2 _ ds dz vs zs rfl rv2 rz2).length, h3, hq]) sp) fun r s' hq => ?_))
    match r, hq with
    | .error er, hq => exact passAt tk σ pins _ _ er s' I3 hq
    | .ok (.ret u), hq =>
      obtain ⟨v, H', I4, rv, ev, q3⟩ := I3.after hq
      subst ev
      exact ⟨rv, ⟨V.ref (s2.heap.objs.size + 1), H', I4, rfl, q3⟩⟩
    | .ok .next, hq => exact hq.elim
    | .ok .brk, hq => exact hq.elim
    | .ok .cont, hq => exact hq.elim
  · exact q2.elim
end
end Ev

set_option Elab.async false
set_option linter.all false
set_option maxRecDepth 100000
set_option maxHeartbeats 4000000
/-! Ev13: what is shown; exceptions of the program's own classes, made and raised. -/
namespace PySem
namespace EvX
open PySem.W PySem.Calls PyProof.Rows PySem.HandSPX
open Builtin Builtin.ObjectAttr
section
variable {prog : Program} {w : World} {A : Around} {E : Value → Shared → Prop} {R : Result → Shared → Prop} {hp : Heap} {g : Array GenState} {d : Drawn} {t : Nat} {os : OsState}
/-- the first field of an exception, over any base -/
theorem first_field {K : W.Frag} {name : Str} {tk : Tok} {v : Value} {x C : Addr} {fv : Array Value} {cd : ClassData} (X : K.In hp) (hx : hp.get? x = some { cls := .ref C, data := .fields fv }) (hcd : W.clsIn K C = some cd)
    (ne : cd.mro.isEmpty = false) (hob : cd.mro.contains (.type "object") = true) (hpass : refuseLoop (.ref x) "__setattr__" cd.mro = pure ()) (hh : cd.hasDict = true) (ha : W.findIn K (.ref C) name = some none)
    (hq : ∀ h' tk' dx, (∀ b o, b ≠ x → hp.get? b = some o → h'.get? b = some o) → hp.objs.size ≤ dx → dx ≠ x → h'.get? x = some { cls := .ref C, dict := some dx, data := .fields fv } → h'.Ns1 dx (fun y => if y = name then some v else none) → R (.ok (.ret .none)) ⟨h', g, d, tk', os⟩) :
    codeAny (model prog w) A (.call (.builtin "object.__setattr__") ⟨[.ref x, .str name tk, v], []⟩) R ⟨hp, g, d, t, os⟩ := by
  have I : W.InstAt hp x { cls := .ref C, data := .fields fv } C none := ⟨hx, rfl, rfl, trivial⟩
  have SF := F.store_object
  have far : x ≠ hp.objs.size := Nat.ne_of_lt (Heap.lt_size hx)
  have sub : W.Looks (model prog w) hp (isInstance (.ref x) (.type "object")) true := I.type.andThen (W.looks_mroIn X (by unfold W.mroIn; rw [hcd, Option.bind_some, if_neg (by rw [ne]; decide), hob]))
  refine codeAny_call_builtin SF.slot.plain SF.entry (@W.check_slot (model prog w) _ _ ⟨hp, g, d, t, os⟩ "object.__setattr__" "object" "__setattr__" (.ref x) [.str name tk, v] [] _ SF.kind SF.split sub (SF.args (.ref x) (.str name tk) v) ?_)
  have mroL : W.Looks (model prog w) hp (mroOf (.ref C)) cd.mro := (W.looks_clsIn X hcd).andThen .now
  have tkL : W.Looks (model prog w) hp (storeTaker? none) none := .now
  have clsL : W.Looks (model prog w) hp (classData C) cd := W.looks_clsIn X hcd
  rw [W.osa_eq, refuse_eq]
  refine wpAny_bind (wpAny_bind (I.type.at (wpAny_bind (mroL.at ?_))))
  rw [hpass]
  refine wpAny_pure (wpAny_bind (I.type.at (wpAny_bind ((W.looks_findIn X ha).at (wpAny_bind (tkL.at ?_))))))
  show wpAny _ _ (storeInOwnDict (.ref x) (.ref C) (.str name tk) name v false) _ _ _
  obtain ⟨nm, bs, mro, ns, qn, hd, sn, sb, ab, col, del⟩ := cd
  dsimp only at hh
  subst hh
  unfold storeInOwnDict ownDictForStores
  repeat (first | with_reducible refine store_in_new ?_ ?_ | with_reducible refine wpAny_loadPart_at hx ?_ | with_reducible refine clsL.at ?_ | wp_step)
  · exact ⟨_, #[], _, (Heap.get?_update_ne _ _ _ _ far.symm).trans (Heap.get?_push_at rfl rfl), rfl, fun e he => absurd he (by simp), fun _ => rfl⟩
  · intro h' tk' hn' hs
    have hx1 : (hp.push { cls := .type "dict", data := .dict #[] }).get? x = some { cls := .ref C, data := .fields fv } := Heap.get?_push_of_some _ hx
    exact hq h' tk' hp.objs.size (fun b o hb ho => (hs.2 b (Nat.ne_of_lt (Heap.lt_size ho))).trans ((Heap.get?_update_ne _ _ _ _ hb).trans (Heap.get?_push_of_some _ ho))) (Nat.le_refl _) far.symm ((hs.2 x far).trans (Heap.get?_update_self _ hx1 rfl)) hn'
end
end EvX
end PySem

namespace Ev
open PySem PySem.Spec L2
open PyProof.Rows hiding St

/-! ### what is shown -/
/-- v is shown as t -/
def Shows (K : PySem.W.Frag) (v : V) (H : Hp) (t : Str) : Prop := ∃ d : PyData, Dp K H v d ∧ d.showable = true ∧ d.hasDict = false ∧ d.depth ≤ 100 ∧ d.shown.length ≤ sizeLine ∧ t = d.shown
def tShow (K : PySem.W.Frag) (te : TE) : TE := fun σ H Q => te σ H fun x H1 => ∃ t, Shows K x H1 t ∧ Q (.str t) H1
section
variable {X : Cx} {W : Wi} {e : Expr} {te : TE} {pos : Pos} {k : Nat}
theorem repr_ok {E : Value → Shared → Prop} {pins : List (Addr × Obj)} {σ : St} {H : Hp} {s : Shared} {v : V} {u : Value} {t : Str} {Q : Value → Shared → Prop} (hr : Rm k X.A) (I : Inv X pins σ H s) (r : RelV v u) (h : Shows X.K v H t)
    (hQ : ∀ tk s', Inv X pins σ H s' → Q (.str t tk) s') : wpAny (model X.prog X.w) X.A (pyReprObj u) Q E s := by
  obtain ⟨d, dp, h1, h2, h3, h4, rfl⟩ := h
  have hun := hr.r.un
  obtain ⟨as, rd⟩ := Dp.reads I d v u dp r
  cases rd with
  | none => exact pyReprObj_none (hQ _ _ (I.tok _))
  | bool b => exact pyReprObj_bool (hQ _ _ (I.tok _))
  | int i t => exact pyReprObj_int (of_decide_eq_true h1) (hQ _ _ (I.tok _))
  | str x t => exact pyReprObj_str (hQ _ _ (I.tok _)) h4
  | list a b c f => exact pyReprObj_of_reads (.list a b c f) h1 (fun z => by rw [h2] at z; cases z) hr.g (by omega) (fun _ _ z => z) (fun h' u' tk hk => hQ _ _ (I.kept hk)) h4
  | tuple a b c f => exact pyReprObj_of_reads (.tuple a b c f) h1 (fun z => by rw [h2] at z; cases z) hr.g (by omega) (fun _ _ z => z) (fun h' u' tk hk => hQ _ _ (I.kept hk)) h4
  | dict a b c f g => cases h2
theorem pe_show (hr : Rm k X.A) (he : PE X e te) : PE X (.FormattedValue e 114 none pos) (tShow X.K te) := by
  refine ⟨fun pins s σ H Q I h => ?_⟩
  refine wpAny_FormattedValue_repr (thn (he.run pins s σ H _ I h) fun v s1 ⟨x, H1, I1, r1, t, sh, q⟩ => ?_)
  have hz : t.length ≤ sizeLine := by obtain ⟨d, _, _, _, _, h, rfl⟩ := sh; exact h
  exact repr_ok hr I1 r1 sh fun tk s' I2 => wpAny_formatField_str ⟨.str t, H1, I2, ⟨tk, rfl⟩, q⟩ ⟨.str t, H1, I2.tok _, ⟨_, rfl⟩, q⟩ hz
/-- what is shown of a datum -/
def shown? (S : Sto) (d : D) : Option Str := ((top S d).toPy).bind fun p => if p.showable = true ∧ p.hasDict = false ∧ p.depth ≤ 100 ∧ p.shown.length ≤ sizeLine then some p.shown else none
theorem shown_ok {K : PySem.W.Frag} {F : Addr → Prop} {S : Sto} {m : List Addr} {H : Hp} {d : D} {v : V} {t : Str} (rs : RS K F S m H) (r : RV (rc K F S m H) d v) (e : shown? S d = some t) : Shows K v H t := by
  unfold shown? at e
  cases q : (top S d).toPy with
  | none => rw [q] at e; cases e
  | some p =>
    rw [q] at e
    have e' : (if p.showable = true ∧ p.hasDict = false ∧ p.depth ≤ 100 ∧ p.shown.length ≤ sizeLine then some p.shown else none) = some t := e
    split at e'
    · rename_i hc
      cases e'
      exact ⟨p, top_ok rs r q, hc.1, hc.2.1, hc.2.2.1, hc.2.2.2, rfl⟩
    · cases e'
/-- repr(e) -/
def reprD (d : D) (S : Sto) : Res D := match shown? S d with
  | some t => .ok (.str t) S
  | none => .bad
end

/-! ### own exceptions over a built-in base -/
structure ExB (B newId initId : String) (bmB : List Value) : Prop where
  F : ExcBaseFacts B newId initId bmB
  SF : StoreFacts B bmB "object.__setattr__" "object"
  ty : typeOf (.type B) = pure (.type "type")
  stub : Manifest.isStub B = false
  boot : bootBuiltins B = some (.type B)
  hi : PySem.W.handedIn (.builtin initId) = true
theorem exb_VE : ExB "ValueError" "ValueError.__new__" "ValueError.__init__" [.type "ValueError", .type "Exception", .type "BaseException", .type "object"] := ⟨F.excBase_ValueError, F.store_ValueError, by kernel_rfl, by decide +kernel, by decide +kernel, by decide +kernel⟩
theorem exb_LE : ExB "LookupError" "LookupError.__new__" "LookupError.__init__" [.type "LookupError", .type "Exception", .type "BaseException", .type "object"] := ⟨F.excBase_LookupError, F.store_LookupError, by kernel_rfl, by decide +kernel, by decide +kernel, by decide +kernel⟩
theorem exb_OE : ExB "OverflowError" "OverflowError.__new__" "OverflowError.__init__" [.type "OverflowError", .type "ArithmeticError", .type "Exception", .type "BaseException", .type "object"] := ⟨F.excBase_OverflowError, F.store_OverflowError, by kernel_rfl, by decide +kernel, by decide +kernel, by decide +kernel⟩
/-- what the written part says of such a class -/
structure OexG (newId : String) (bmB : List Value) (K : PySem.W.Frag) (C : Addr) : Prop where
  cls : ∃ nm q N bs sn sub ab col dd k0 k1 k2 k3 k5, K.lookup C = some (excClassObj nm q C N bs bmB true sn sub ab col dd k0 k1 k2 k3 k5 newId)
  sa : PySem.W.findIn K (.ref C) "__setattr__" = some (some (.builtin "object.__setattr__"))
  exC : PySem.W.subIn K (.ref C) (.type "BaseException") = some true
  tyC : PySem.W.typeIn K (.ref C) = some (.type "type")
  kC : PySem.W.keepIn K (.ref C) = true
section
variable {X : Cx} {pins : List (Addr × Obj)} {σ : St} {H : Hp} {s : Shared} {a C : Addr} {f : Str} {y : V} {u : Value} {A : Around} {B newId initId : String} {bmB : List Value}
theorem first_ok {Q : Unit → Shared → Prop} {E : Value → Shared → Prop} (eb : ExB B newId initId bmB) (T : OexG newId bmB X.K C) (I : Inv X pins σ H s) (e : H a = some (exo a C none)) (hno : PySem.W.findIn X.K (.ref C) f = some none) (ry : RelV y u)
    (h : ∀ dx s', H dx = none → dx ≠ a → Inv X pins σ (upd (upd H dx (exd dx [(f, y)])) a (exo a C (some dx))) s' → Q () s') : wpAny (model X.prog X.w) A (setAttr (.ref a) f u) Q E s := by
  obtain ⟨nm, q, N, bs, sn, sub, ab, col, dd, k0, k1, k2, k3, k5, hC⟩ := T.cls
  have hcl : PySem.W.clsIn X.K C = some { name := nm, bases := bs, mro := .ref C :: bmB, ns := N, qualname := q, hasDict := true, slotNames := sn, subclasses := sub, abstract := ab, collection := col, hasDel := false } := by unfold PySem.W.clsIn; rw [hC] <;> rfl
  obtain ⟨t1, ho⟩ := exo_at I.hok e
  obtain ⟨hp, g, d, t, os⟩ := s
  refine PySem.W.set_plain I.kIn (ox := { cls := .ref C, dict := none, data := .fields #[.ref t1, .none, .none, .none, .bool false, .none] }) (od := none) ⟨ho, rfl, rfl, trivial⟩ T.sa ?_
  refine PySem.EvX.first_field I.kIn ho hcl rfl (by show (Value.ref C :: bmB).contains (.type "object") = true; rw [List.contains_cons, eb.SF.hasOwner, Bool.or_true]) (by show refuseLoop _ _ (Value.ref C :: bmB) = _; rw [refuseLoop_ref]; exact eb.SF.passes _) rfl hno (fun h' tk' dx k dn dne hx hn => ?_)
  have hnd : H dx = none := I.hok.fresh dn
  have nd : ∀ {b : Addr} {o : Obj}, hp.get? b = some o → b ≠ dx := fun {b o} q => Nat.ne_of_lt (Nat.lt_of_lt_of_le (Heap.lt_size q) dn)
  have na : ∀ {b : Addr}, H b = none → b ≠ a := fun {b} n z => by
    rw [z, e] at n
    cases n
  have un : Un X.fs [] H (upd (upd H dx (exd dx [(f, y)])) a (exo a C (some dx))) hp h' := {
    keep := fun b o q n _ _ => k b o (na n) q
    slot := fun b o q n _ _ => ⟨o.slots, k b o (na n) q⟩
    free := fun b o q n _ => by rw [upd_ne (na n), upd_ne (nd q)]; exact n
    there := fun b o q _ => by
      by_cases hb : b = a
      · exact ⟨_, by rw [hb]; exact hx⟩
      · exact ⟨o, k b o hb q⟩
    tups := fun b xs q => by rw [upd_ne (at_ne e q exo_tup), upd_ne (ne_of_none q hnd)]; exact q
    frzs := fun b o v q => by rw [upd_ne (at_ne e q exo_frz), upd_ne (ne_of_none q hnd)]; exact q
    tbls := fun b ps q => ⟨#[], by rw [upd_ne (at_ne e q exo_tbl), upd_ne (ne_of_none q hnd), q]; simp⟩ }
  refine h dx _ hnd dne (I.un (t' := tk') un fun b o q => ?_)
  by_cases hb : b = a
  · subst hb
    rw [upd_same] at q
    cases q
    exact exo_ok hx
  · rw [upd_ne hb] at q
    by_cases hd : b = dx
    · subst hd
      rw [upd_same] at q
      cases q
      exact exd_ok hn (relO_put (fs := []) ry fun g => True.intro)
    · rw [upd_ne hd] at q
      exact (I.hok b o q).stay (fun c v hc z => k c v (by
          rcases hc with hc | hc
          · rw [hc]
            exact hb
          · exact at_ne e hc exo_own) z)
        (fun c hc => by rw [upd_ne (at_ne e hc exo_own), upd_ne (ne_of_none hc hnd)]; exact hc) (fun c xs hc => by rw [upd_ne (at_ne e hc exo_tup), upd_ne (ne_of_none hc hnd)]; exact hc)
theorem binit_ok {us : List Value} {Q : Value → Shared → Prop} {E : Value → Shared → Prop} (eb : ExB B newId initId bmB) (T : OexG newId bmB X.K C) (I : Inv X pins σ H s) (e : H a = some (exo a C none)) (hl : us.length ≤ sizeLine) (h : ∀ s', Inv X pins σ H s' → Q .none s') :
    wpAny (model X.prog X.w) A (call (.builtin initId) (.ref a :: us)) Q E s := by
  obtain ⟨nm, q, N, bs, sn, sub, ab, col, dd, k0, k1, k2, k3, k5, hC⟩ := T.cls
  obtain ⟨t1, ho⟩ := exo_at I.hok e
  obtain ⟨hp, g, d, t, os⟩ := s
  refine wpAny_call (PySem.HandSPX.init_base eb.F (fun Y => rfl) (I.kIn _ _ hC) ho hl fun h' t2 k hx => ?_)
  have J := I.write (t' := t) (x := a) (e := a) (o := exo a C none) (by rw [e]; exact True.intro) (.inl rfl) k ⟨_, hx⟩ (exo_ok hx)
  have eu : upd H a (exo a C none) = H := by
    funext b
    by_cases hb : b = a
    · rw [hb, upd_same, e]
    · rw [upd_ne hb]
  rw [eu] at J
  exact h _ J
end
/-- B.__init__(self, ..) -/
def tBInit (newId : String) (bmB : List Value) (K : PySem.W.Frag) (ta : TA) : TE := fun σ H Q => ta σ H fun vs H1 => ∃ (a C : Addr) (ws : List V), vs = .ref a :: ws ∧ ws.length ≤ 1000 ∧ OexG newId bmB K C ∧ H1 a = some (exo a C none) ∧ Q .non H1
/-- self.f = e, the first field -/
def tFirst (newId : String) (bmB : List Value) (K : PySem.W.Frag) (f : Str) (to te : TE) : TS := fun D σ H => te σ H fun y H1 => to σ H1 fun x H2 => ∃ a C : Addr, x = .ref a ∧ OexG newId bmB K C ∧ PySem.W.findIn K (.ref C) f = some none ∧
  H2 a = some (exo a C none) ∧ ∀ dx, H2 dx = none → dx ≠ a → D.nx σ (upd (upd H2 dx (exd dx [(f, y)])) a (exo a C (some dx)))
section
variable {X : Cx} {o e : Expr} {es : List Expr} {to te : TE} {ta : TA} {f B' : Str} {p p' p1 p2 pos : Pos} {B newId initId : String} {bmB : List Value}
theorem pe_binit {pl : Sem Bool} (eb : ExB B newId initId bmB) (hB : B' = Str.ofString B) (hg : Gl X B') (hm : X.mg B' = none) (hv : bootBuiltins B' = some (.type B)) (vV : PySem.W.findCls X.K (.type B) (.type "type") "__init__" = some (.val (.builtin initId))) (ha : PA X (e :: es) ta) (hn : B' ≠ "__name__" := by decide) (hd : (B' == ("__debug__" : Str)) = false := by decide)
    (hc : eval (.Call (.Attribute (.Name B' p1) "__init__" p2) (e :: es) [] pos) X.env = (do
      let ov ← eval (.Name B' p1) X.env
      standAt p2.atName
      let (f, first) ← holding [ov] (getMethod ov "__init__" pl)
      callWith pos f first (backTo pos (starEach (e :: es) X.env)) (backToKw pos (keywordEach [] X.env))) := by rfl)
    (he : starEach (e :: es) X.env = (false, eval e X.env) :: starEach es X.env := by rfl) (hpl : (backTo pos (starEach es X.env)).any (·.1) = false := by rfl) :
    PE X (.Call (.Attribute (.Name B' p1) "__init__" p2) (e :: es) [] pos) (tBInit newId bmB X.K ta) := by
  refine ⟨fun pins s σ H Q I h => ?_⟩
  refine PySem.W.methodCall_KW (ld_blt I hg hm hv ?_ hn hd) hc
  obtain ⟨m, fr⟩ := I.fr
  refine PySem.W.method_type fr I.ok.mod.kin eb.ty eb.stub vV eb.hi ?_
  show wpAny _ _ (callWith pos (Value.builtin initId) [] (backTo pos (starEach (e :: es) X.env)) []) _ _ _
  refine PyProof.Rows.callWith_method1 (thn (ha.run pos pins _ σ H _ (I.tok _) h) fun us s1 ⟨vs, H1, I1, r1, a, C, ws, ev, hl, T, ea, q⟩ => ?_) he hpl
  subst ev
  cases r1 with
  | @cons _ u0 _ ur ra rw' =>
    obtain rfl : u0 = Value.ref a := ra
    exact binit_ok eb T I1 ea (by rw [← Paired.length rw', sizeLine_eq]; omega) fun s' J => ⟨.non, H1, J, rfl, q⟩
theorem ps_first (eb : ExB B newId initId bmB) (ho : PE X o to) (he : PE X e te) (hs : swapsWith e (some (.Attribute o f p')) pos.line X.env = pure false := by rfl) : PS X (.Assign [.Attribute o f p'] e pos) (tFirst newId bmB X.K f to te) := by
  refine ⟨fun pins s σ H D I h => ?_⟩
  refine plainObj_wpAny_Assign_Attribute (thn (he.run pins s σ H _ I h) fun v s1 ⟨y, H1, I1, r1, q1⟩ => thn (ho.run pins s1 σ H1 _ I1 q1) fun u s2 ⟨x, H2, I2, r2, a, C, ex, T, hno, ea, q⟩ => ?_) hs
  subst ex
  obtain rfl : u = Value.ref a := r2
  exact first_ok eb T I2 ea hno r1 fun dx s' n ne J => ⟨σ, _, J, q dx n ne⟩
end
end Ev

set_option Elab.async false
set_option linter.all false
set_option maxRecDepth 100000
set_option maxHeartbeats 4000000
/-! Ev14: the __init__ of own exceptions; making, raising. -/
namespace Ev
open PySem PySem.Spec L2
open PyProof.Rows hiding St

section
variable {K : PySem.W.Frag} {H H' : Hp}
theorem Rd.grow (g : ∀ a o, H a = some o → H' a = some o) {a : Addr} {u : HO} (h : Rd H a u) : Rd H' a u := h.imp (g _ _) fun ⟨o, e⟩ => ⟨o, g _ _ e⟩
mutual
theorem dp_grow (g : ∀ a o, H a = some o → H' a = some o) : ∀ {v : V} {d : PyData}, Dp K H v d → Dp K H' v d
  | _, _, .non => .non
  | _, _, .bl b => .bl b
  | _, _, .int i => .int i
  | _, _, .str x => .str x
  | _, _, .lst h r => .lst (h.imp (Rd.grow g) id) (dps_grow g r)
  | _, _, .tup h r => .tup (h.imp (Rd.grow g) id) (dps_grow g r)
theorem dps_grow (g : ∀ a o, H a = some o → H' a = some o) : ∀ {v : List V} {d : List PyData}, DpAll K H v d → DpAll K H' v d
  | _, _, .nil => .nil
  | _, _, .cons h r => .cons (dp_grow g h) (dps_grow g r)
end
end
/-- what an own exception's __init__ keeps -/
def spX (K : PySem.W.Frag) (C : Addr) (fld : Str) : Sp := fun vs H Q _ => ∃ a v t, vs = [.ref a, v] ∧ H a = some (exo a C none) ∧ Shows K v H t ∧ t.length + 200 ≤ sizeLine ∧ ∀ dx, H dx = none → dx ≠ a → Q .non (upd (upd H dx (exd dx [(fld, v)])) a (exo a C (some dx)))
section
variable {P : Program} {w : World} {K : PySem.W.Frag} {mg : Str → Option Value} {base : Heap} {x qual fld pv msg B' : Str} {params : Arguments} {scope : Scope} {f C : Addr} {fd : FuncData} {k : Nat} {B newId initId : String} {bmB : List Value} {N : List Str} {dvs : List V} {kws : List (Str × V)}
    {j : Nat} {p1 p2 p3 p4 p5 p6 p7 p8 p9 p10 p11 p12 p13 : Pos}
theorem exc_init_ok (eb : ExB B newId initId bmB) (hB : B' = Str.ofString B) (hv : bootBuiltins B' = some (.type B)) (hm : mg B' = none) (T : OexG newId bmB K C) (hno : PySem.W.findIn K (.ref C) fld = some none) (vV : PySem.W.findCls K (.type B) (.type "type") "__init__" = some (.val (.builtin initId)))
    (Fd : FunD K x qual params [.Expr (.Call (.Attribute (.Name B' p1) "__init__" p2) [.Name "self" p3, .JoinedStr [.Constant (.str msg) j p4, .FormattedValue (.Name pv p5) 114 none p6] p7] [] p8) p9, .Assign [.Attribute (.Name "self" p10) fld p11] (.Name pv p12) p13] scope dvs kws f fd) (sc : FnScope N ["self", pv] scope)
    (h0 : N[0]? = some ("self" : Str)) (h1 : N[1]? = some pv) (l0 : scope.names.lookup ("self" : Str) = some .local) (l1 : scope.names.lookup pv = some .local) (lB : scope.names.lookup B' = some .globalImplicit) (hmsg : msg.length ≤ 200) (hn : B' ≠ "__name__" := by decide) (hd : (B' == ("__debug__" : Str)) = false := by decide)
    (hd1 : (pv == ("__debug__" : Str)) = false := by decide) (hcd : (pv == ("__classdict__" : Str)) = false := by decide)
    (hat : ∀ env : PySem.Env, swapsWith (.Name pv p12) (some (.Attribute (.Name "self" p10) fld p11)) p13.line env = pure false := by intro _; rfl)
    (hc : ∀ (env : PySem.Env), ∃ pl : Sem Bool, eval (.Call (.Attribute (.Name B' p1) "__init__" p2) [.Name "self" p3, .JoinedStr [.Constant (.str msg) j p4, .FormattedValue (.Name pv p5) 114 none p6] p7] [] p8) env = (do
      let ov ← eval (.Name B' p1) env
      standAt p2.atName
      let (f, first) ← holding [ov] (getMethod ov "__init__" pl)
      callWith p8 f first (backTo p8 (starEach [.Name "self" p3, .JoinedStr [.Constant (.str msg) j p4, .FormattedValue (.Name pv p5) 114 none p6] p7] env)) (backToKw p8 (keywordEach [] env))) := by intro _; exact ⟨_, rfl⟩)
    (hs : ∀ (env : PySem.Env), swapsWith (.Call (.Attribute (.Name B' p1) "__init__" p2) [.Name "self" p3, .JoinedStr [.Constant (.str msg) j p4, .FormattedValue (.Name pv p5) 114 none p6] p7] [] p8) none p9.line env = pure false := by intro _; rfl) :
    FnE P w K mg base (CX P w) (k + 1) f fd ["self", pv] (spX K C fld) := by
  refine fnE_ok Fd sc fun cdv A outer s H vs Q E hr ⟨a, v, t, ev, ha, sh, hz, q⟩ => ?_
  subst ev
  have v0 : Vis scope ("self" : Str) := .inl l0
  have v1 : Vis scope pv := .inl l1
  obtain ⟨pl, hpl⟩ := hc (cxOf (CX P w) P w K mg base N qual scope f cdv A outer s H E).env
  refine ⟨_, pss_cons (ps_expr (pe_binit (X := cxOf (CX P w) P w K mg base N qual scope f cdv A outer s H E) (pl := pl) eb hB lB hm hv vV (pa_cons (pe_var h0 v0) (pa_cons (pe_joined (.cons pe_str (.cons (pe_show hr (pe_var h1 v1 hd1 hcd)) .nil))) pa_nil)) hn hd hpl) (hs _))
    (pss_one (ps_first eb (pe_var h0 v0) (pe_var h1 v1 hd1 hcd) (hat _))), ?_⟩
  have e0 : (L2.start N [.ref a, v])[0]? = some (some (.ref a)) := rfl
  have e1 : (L2.start N [.ref a, v])[1]? = some (some v) := rfl
  refine ⟨_, e0, _, rfl, ?_, ?_⟩
  · show ((Str.empty ++ msg) : Str).length ≤ sizeLine
    rw [Str.length_append]
    show 0 + msg.length ≤ sizeLine
    rw [sizeLine_eq]; omega
  · refine ⟨v, e1, t, sh, t, rfl, ?_, ?_⟩
    · rw [Str.length_append, Str.length_append]
      show 0 + msg.length + t.length ≤ sizeLine
      omega
    · refine ⟨a, C, [.str ((Str.empty ++ msg) ++ t)], rfl, by show 1 ≤ 1000; decide, T, ha, v, e1, _, e0, a, C, rfl, T, hno, ha, fun dx hn hne => q dx hn hne⟩
end
/-- the exception class number C, with its __init__ at level k and its field -/
structure XcG (X : Cx) (k C : Nat) (fld : Str) : Prop where
  ex : ∃ (B newId initId : String) (bmB : List Value) (f : Addr) (fd : FuncData), ExB B newId initId bmB ∧ OexG newId bmB X.K (ca X.K C) ∧ PySem.W.findIn X.K (.ref (ca X.K C)) "__init__" = some (some (.ref f)) ∧ PySem.W.typeIn X.K (.ref f) = some (.type "function") ∧
    Binds X.K fd ["self", fld] [] ∧ (∀ (s : Shared) (a u : Value), BindsTo s fd ⟨[a], [(fld, u)]⟩ [("self", a), (fld, u)]) ∧ FnE X.prog X.w X.K X.mg X.base (CX X.prog X.w) k f fd ["self", fld] (spX X.K (ca X.K C) fld)
section
variable {X : Cx} {W : Wi} {k lv C : Nat} {fld x : Str} {p p2 pos : Pos} {e : Expr} {te : TE} {fe : Env → Sto → Res D}
/-- the class, called with one value: the exception stands, made -/
theorem run_exc {pins : List (Addr × Obj)} {σ : St} {H : Hp} {s : Shared} {u : Value} {v : V} {t : Str} {Qf : Value → Shared → Prop} (G : XcG X k C fld) (hr : Rm (k + 1) X.A) (I : Inv X pins σ H s) (r : RelV v u) (sh : Shows X.K v H t) (hz : t.length + 200 ≤ sizeLine)
    (h : ∀ (hp2 h2 : Heap) (g2 : Array GenState) (d2 : Drawn) (t2 : Nat) (os2 : OsState) (a dx : Addr) (H2 : Hp), s.heap.objs.size ≤ a → H a = none → H dx = none → dx ≠ a → (∀ b o, s.heap.get? b = some o → hp2.get? b = some o) → Un (frs X.stack) [] (upd H a (exo a (ca X.K C) none)) H2 hp2 h2 → HOk X.prog X.w H2 h2 → os2 = s.os → AllBare g2 →
      H2 = upd (upd (upd H a (exo a (ca X.K C) none)) dx (exd dx [(fld, v)])) a (exo a (ca X.K C) (some dx)) → Inv X pins σ H2 ⟨h2, g2, d2, t2, os2⟩ → Qf (.ref a) ⟨h2, g2, d2, t2, os2⟩) :
    wpAny (model X.prog X.w) X.A (call (.ref (ca X.K C)) [u]) Qf X.xe s := by
  obtain ⟨B, newId, initId, bmB, f, fd, eb, T, iC, tI, hb, _, Pr⟩ := G.ex
  obtain ⟨nm, q, N, bs, sn, sub, ab, col, dd, k0, k1, k2, k3, k5, hC⟩ := T.cls
  obtain ⟨hp, g, dr, tk, os⟩ := s
  have hsz : hp.objs.size ≤ hp.objs.size + 1 := Nat.le_succ _
  have hn : H (hp.objs.size + 1) = none := I.hok.fresh hsz
  have kk : ∀ b o, hp.get? b = some o → ((hp.push (PySem.W.kdv_tup [u])).push (PySem.HandSPX.excO (ca X.K C) hp.objs.size)).get? b = some o := fun b o e => Heap.get?_push_of_some _ (Heap.get?_push_of_some _ e)
  have hget : ((hp.push (PySem.W.kdv_tup [u])).push (PySem.HandSPX.excO (ca X.K C) hp.objs.size)).get? (hp.objs.size + 1) = some (PySem.HandSPX.excO (ca X.K C) hp.objs.size) := by heap_get
  have I2 : Inv X pins σ (upd H (hp.objs.size + 1) (exo (hp.objs.size + 1) (ca X.K C) none)) ⟨(hp.push (PySem.W.kdv_tup [u])).push (PySem.HandSPX.excO (ca X.K C) hp.objs.size), g, dr, tk, os⟩ :=
    I.laid (t' := tk) (a := hp.objs.size + 1) (o := exo (hp.objs.size + 1) (ca X.K C) none) (h' := (hp.push (PySem.W.kdv_tup [u])).push (PySem.HandSPX.excO (ca X.K C) hp.objs.size)) kk hsz (exo_ok hget)
  have sh2 : Shows X.K v (upd H (hp.objs.size + 1) (exo (hp.objs.size + 1) (ca X.K C) none)) t := by
    obtain ⟨d, dp, r⟩ := sh
    exact ⟨d, dp_grow (upd_keeps hn) dp, r⟩
  have bt := hb _ [.ref (hp.objs.size + 1), u] I2.kIn rfl
  rw [List.append_nil] at bt
  have run := Pr.run _ X.stack _ _ ⟨[.ref (hp.objs.size + 1), u], []⟩ [.ref (hp.objs.size + 1), u] [.ref (hp.objs.size + 1), v] (fun r H2 => r = .non ∧ ∃ dx, H dx = none ∧ dx ≠ hp.objs.size + 1 ∧ H2 = upd (upd (upd H (hp.objs.size + 1) (exo (hp.objs.size + 1) (ca X.K C) none)) dx (exd dx [(fld, v)])) (hp.objs.size + 1) (exo (hp.objs.size + 1) (ca X.K C) (some dx)))
    (fun _ _ _ => False) (hr.make (ca X.K C) [u] []) (I2.env0.make (ca X.K C) [u] []) bt (.cons rfl (.cons r .nil)) rfl ⟨_, v, t, rfl, upd_same, sh2, hz, fun dx hdx hne => ⟨rfl, dx, by rw [← hdx, upd_ne hne], hne, rfl⟩⟩
  refine wpAny_call (PySem.HandSPX.call_own eb.F (fun Y => rfl) (I.kIn _ _ hC) (PySem.W.looks_findIn I.kIn iC) (fun self => PySem.W.bind_fn I.kIn self tI) (by show 1 ≤ sizeLine; decide) (codeAny_mono run fun r s' hq => ?_))
  match r, hq with
  | .error er, hq => exact (pass_false (E' := fun _ _ => False) pins σ _ _ er s' (I2.wish _) hq).elim
  | .ok (.ret u2), hq =>
    have I3 := I2.after (Q := fun r H2 => r = .non ∧ ∃ dx, H dx = none ∧ dx ≠ hp.objs.size + 1 ∧ H2 = upd (upd (upd H (hp.objs.size + 1) (exo (hp.objs.size + 1) (ca X.K C) none)) dx (exd dx [(fld, v)])) (hp.objs.size + 1) (exo (hp.objs.size + 1) (ca X.K C) (some dx))) hq
    obtain ⟨v2, H2, os2, bare2, un2, hok2, rv, ev, dx, hdx, hne, eH⟩ := hq
    subst ev
    obtain ⟨v3, H3, I4, rv3, ev3, dx3, hdx3, hne3, eH3⟩ := I3
    obtain ⟨h2, g2, d2, t2, os'⟩ := s'
    refine ⟨rv, ?_⟩
    have un3 : Un (frs X.stack) [] (upd H (hp.objs.size + 1) (exo (hp.objs.size + 1) (ca X.K C) none)) H2 ((hp.push (PySem.W.kdv_tup [u])).push (PySem.HandSPX.excO (ca X.K C) hp.objs.size)) h2 := un2
    have e0 := os2
    subst eH
    have I5 : Inv X pins σ (upd (upd (upd H (hp.objs.size + 1) (exo (hp.objs.size + 1) (ca X.K C) none)) dx (exd dx [(fld, v)])) (hp.objs.size + 1) (exo (hp.objs.size + 1) (ca X.K C) (some dx))) ⟨h2, g2, d2, t2, os'⟩ := by
      have e5 : os' = os := os2
      subst e5
      exact I2.call (h' := h2) (g' := g2) (d' := d2) (t' := t2) (ch := []) un2 hok2 bare2 (fun b z => absurd z (by simp))
    exact h _ h2 g2 d2 t2 os' (hp.objs.size + 1) dx _ hsz hn hdx hne kk un3 hok2 os2 bare2 rfl I5
  | .ok .next, hq => exact hq.elim
  | .ok .brk, hq => exact hq.elim
  | .ok .cont, hq => exact hq.elim
/-- the value of the field fits -/
def xcFit (S : Sto) (d : D) : Bool := match shown? S d with
  | some t => decide (t.length + 200 ≤ sizeLine)
  | none => false
theorem xcFit_ok {K : PySem.W.Frag} {F : Addr → Prop} {S : Sto} {m : List Addr} {H : Hp} {d : D} {v : V} (rs : RS K F S m H) (r : RV (rc K F S m H) d v) (e : xcFit S d = true) : ∃ t, Shows K v H t ∧ t.length + 200 ≤ sizeLine := by
  unfold xcFit at e
  split at e
  · rename_i t q
    exact ⟨t, shown_ok rs r q, of_decide_eq_true e⟩
  · cases e
/-- raise C(e) -/
def sRaise (C : Nat) (fld : Str) (fe : Env → Sto → Res D) (ρ : Env) (S : Sto) : SRes := (fe ρ S).toS ρ fun d S => if xcFit S d = true then .ex ⟨C, [(fld, d)]⟩ ρ S else .bad
theorem raises_exc (G : XcG X k C fld) : Raises X (.ref (ca X.K C)) := by
  obtain ⟨_, _, _, _, _, _, _, T, _⟩ := G.ex
  exact raises_own T.exC T.tyC
theorem pmk_exc (G : XcG X k C fld) (hr : Rm lv X.A) (hk : k + 1 ≤ lv) (hg : Gl X x) (hm : X.mg x = some (.ref (ca X.K C))) (he : PE X e te) (hdb : (x == ("__debug__" : Str)) = false := by decide)
    (hst : starEach [e] X.env = (false, eval e X.env) :: starEach [] X.env := by rfl) (hpl : (backTo pos (starEach [] X.env)).any (·.1) = false := by rfl) :
    PMk X (.Call (.Name x p) [e] [] pos) (fun σ H Q => te σ H fun w H1 => ∃ v, [w] = [v] ∧ ∃ t, Shows X.K v H1 t ∧ t.length + 200 ≤ sizeLine ∧ ∀ dx, H1 dx = none → Q (.ref (ca X.K C)) (some dx) (upd H1 dx (.xd [(fld, v)]))) := by
  intro pins s σ H Q I h
  have kC : PySem.W.keepIn X.K (.ref (ca X.K C)) = true := by
    obtain ⟨_, _, _, _, _, _, _, T, _⟩ := G.ex
    exact T.kC
  refine wpAny_Call_Name_kw (ld_glob I hg hm ?_ hdb)
  have ha : PA X [e] (tCons te tNil) := pa_cons he pa_nil hst
  refine PySem.W.callWith_K (h₀ := X.base) I.ok.mod.kin kC (thn (ha.run pos pins s σ H (fun vs H1 => ∃ v, vs = [v] ∧ ∃ t, Shows X.K v H1 t ∧ t.length + 200 ≤ sizeLine ∧ ∀ dx, H1 dx = none → Q (.ref (ca X.K C)) (some dx) (upd H1 dx (.xd [(fld, v)]))) I h) fun us s1 hh => ?_) hst hpl
  obtain ⟨vs, H1, I1, r1, v, rfl, t, sh, hz, q⟩ := hh
  refine ⟨I1.kIn, ?_⟩
  cases r1 with
  | cons ru rn =>
    cases rn
    refine run_exc G (hr.mono hk) I1 ru sh hz fun hp2 h2 g2 d2 t2 os2 a dx H2 hsz ha hdx hne kk un hok ho hb eH I2 => ?_
    subst eH
    have e2 : upd (del (upd (upd (upd H1 a (exo a (ca X.K C) none)) dx (exd dx [(fld, v)])) a (exo a (ca X.K C) (some dx))) a) dx (.xd [(fld, v)]) = upd H1 dx (.xd [(fld, v)]) := by
      funext b
      by_cases h1 : b = dx
      · rw [h1, upd_same, upd_same]
      · rw [upd_ne h1, upd_ne h1]
        by_cases h2 : b = a
        · rw [h2, del_same, ha]
        · rw [del_ne h2, upd_ne h2, upd_ne h1, upd_ne h2]
    have q2 := q dx hdx
    rw [← e2] at q2
    obtain ⟨hp, g, dr, tk, os⟩ := s1
    exact mk_end (raises_exc G) I1 hsz kk un hok ho hb upd_same (by rw [upd_ne hne, upd_same]) hdx q2
theorem psv_raise (hc : X.calm = true) (G : XcG X k C fld) (hr : Rm lv X.A) (hk : k + 1 ≤ lv) (tk : Takes X W.w) (hg : Gl X x) (hm : X.mg x = some (.ref (ca X.K C))) (he : PEv X W e fe) (hdb : (x == ("__debug__" : Str)) = false := by decide)
    (hst : starEach [e] X.env = (false, eval e X.env) :: starEach [] X.env := by rfl) (hpl : (backTo p2 (starEach [] X.env)).any (·.1) = false := by rfl) : PSv X W (.Raise (some (.Call (.Name x p) [e] [] p2)) none pos) (sRaise C fld fe) := by
  refine ps_imp (ps_raise hc tk (pmk_exc G hr hk hg hm he hdb hst hpl)) fun Dn σ H t => ?_
  refine t_mono (T.toS (R := RV) t) fun v H1 ⟨ρ, S, m, F, d, st, r, q⟩ => ?_
  split at q
  · rename_i hf
    obtain ⟨t, sh, hz⟩ := xcFit_ok st.s r hf
    refine ⟨v, rfl, t, sh, hz, fun dx hdx => ?_⟩
    obtain ⟨l, rs⟩ := grow (H' := upd H1 dx (.xd [(fld, v)])) st.s (upd_keeps hdx)
    exact q σ m F _ (some dx) l.toS (st.le l rs) ⟨dx, _, rfl, upd_same, fresh_dead st.s hdx, .cons (r.le l.rc) .nil⟩
  · exact q.elim
/-- C(e), as a value -/
def excD (C : Nat) (fld : Str) (d : D) (S : Sto) : Res D := if xcFit S d = true then .ok (.exi C [(fld, d)]) S else .bad
theorem exc_value {pins : List (Addr × Obj)} {σ : St} {H : Hp} {s : Shared} {Q : VK} {F : Addr → Prop} {S : Sto} {m : List Addr} {d : D} {v : V} {u : Value} {WE : Value → Option Addr → Hp → Prop} (G : XcG X k C fld) (hr : Rm (k + 1) X.A) (I : Inv X pins σ H s) (ru : RelV v u) (rs : RS X.K F S m H) (r : RV (rc X.K F S m H) d v)
    (q : Post X.K F RV WE S m H (excD C fld d S) Q) : wpAny (model X.prog X.w) X.A (call (.ref (ca X.K C)) [u]) (EP X pins σ Q) X.xe s := by
  unfold excD at q
  split at q
  · rename_i hf
    obtain ⟨t, sh, hz⟩ := xcFit_ok rs r hf
    refine run_exc G hr I ru sh hz fun hp2 h2 g2 d2 t2 os2 a dx H2 hsz ha hdx hne kk un hok ho hb eH I2 => ?_
    subst eH
    have keep : ∀ b o, H b = some o → upd (upd (upd H a (exo a (ca X.K C) none)) dx (exd dx [(fld, v)])) a (exo a (ca X.K C) (some dx)) b = some o := fun b o e => by
      have h1 : b ≠ a := fun z => by rw [z, ha] at e; cases e
      have h2 : b ≠ dx := fun z => by rw [z, hdx] at e; cases e
      rw [upd_ne h1, upd_ne h2, upd_ne h1]
      exact e
    obtain ⟨l, rs'⟩ := grow rs keep
    have nl : ∀ {b : Addr}, H b = none → ¬ (Live S m b ∨ F b) := fun h => fresh_dead rs h
    refine ⟨.ref a, _, I2, rfl, q m _ _ l rs' (.exi upd_same (nl ha) (dx := dx) (by show upd _ a _ dx = _; rw [upd_ne hne, upd_same]) (nl hdx) (.cons (r.le l.rc) .nil))⟩
  · exact q.elim
theorem pev_exc (G : XcG X k C fld) (hr : Rm lv X.A) (hk : k + 1 ≤ lv) (hg : Gl X x) (hm : X.mg x = some (.ref (ca X.K C))) (he : PEv X W e fe) (hdb : (x == ("__debug__" : Str)) = false := by decide)
    (hst : starEach [e] X.env = (false, eval e X.env) :: starEach [] X.env := by rfl) (hpl : (backTo pos (starEach [] X.env)).any (·.1) = false := by rfl) : PEv X W (.Call (.Name x p) [e] [] pos) (v1 (excD C fld) fe) := by
  have kC : PySem.W.keepIn X.K (.ref (ca X.K C)) = true := by
    obtain ⟨_, _, _, _, _, _, _, T, _⟩ := G.ex
    exact T.kC
  refine ⟨fun pins s σ H Q I h => wpAny_Call_Name_kw (ld_glob I hg hm ?_ hdb)⟩
  have ha := (pav_cons (W := W) he pav_nil hst).run pos pins s σ H (fun vs H1 => ∃ v, vs = [v] ∧ ∃ ρ S m F d, Sta X.K W ρ S m F σ H1 ∧ RV (rc X.K F S m H1) d v ∧ Post X.K F RV (fun c d H' => W.w c d σ H') S m H1 (excD C fld d S) Q) I (by
    obtain ⟨ρ, S, m, F, st, p⟩ := h
    refine ⟨ρ, S, m, F, st, ?_⟩
    unfold aCons
    unfold v1 at p
    cases q : fe ρ S with
    | bad => rw [q] at p; exact p.elim
    | ex x S' => rw [q] at p; exact p
    | ok d S' =>
      rw [q] at p
      intro m' H' vs l rs rv
      cases rv with
      | cons r1 t =>
        cases t
        exact ⟨_, rfl, ρ, S', m', F, d, st.le l rs, r1, Post.from p l⟩)
  refine PySem.W.callWith_K (h₀ := X.base) I.ok.mod.kin kC (thn ha fun us s1 ⟨vs, H1, I1, r1, v, ev, ρ, S, m, F, d, st, rd, q⟩ => ⟨I1.kIn, ?_⟩) hst hpl
  subst ev
  cases r1 with
  | cons ru rn =>
    cases rn
    exact exc_value G (hr.mono hk) I1 ru st.s rd q
end
end Ev

set_option Elab.async false
set_option linter.all false
set_option maxRecDepth 100000
set_option maxHeartbeats 4000000
/-! Ev15: try with several clauses, named or not; the caught exception's fields. -/
namespace Ev
open PySem PySem.Spec L2
open PyProof.Rows hiding St

/-- a clause: its class, its name's slot, its suite -/
structure Cl where
  c : Value
  i : Option Nat
  ts : Addr → Value → Option Addr → TS
def goneI (i : Option Nat) (σ : St) : St := match i with
  | some i => σ.set i none
  | none => σ
def hereI (i : Option Nat) (a : Addr) (σ : St) : St := match i with
  | some i => σ.set i (some (.ref a))
  | none => σ
def endsI (i : Option Nat) (D : Ends) : Ends := { nx := fun σ H => D.nx (goneI i σ) H, rt := D.rt, bk := fun σ H => D.bk (goneI i σ) H, ct := fun σ H => D.ct (goneI i σ) H }
def wG (K : PySem.W.Frag) (Wout : WX) (D : Ends) : List Cl → WX
  | [] => Wout
  | cl :: r => fun cls d σ H => ∃ b, PySem.W.exmOne K cls cl.c = some b ∧ (b = true → ∀ a, H a = none → cl.ts a cls d (endsI cl.i D) (hereI cl.i a σ) H) ∧ (b = false → wG K Wout D r cls d σ H)
/-- the clause's name and its slot -/
def NmI (X : Cx) (n : Option Str) (i : Option Nat) : Prop := match n, i with
  | none, none => True
  | some n, some i => X.N[i]? = some n ∧ X.env.kindOf n = some .local
  | _, _ => False
inductive HdsG (X : Cx) : List ExceptHandler → List Cl → Prop
  | nil : HdsG X [] []
  | cons {x : Str} {c : Value} {n : Option Str} {i : Option Nat} {ts : Addr → Value → Option Addr → TS} {b0 : Stmt} {suite : List Stmt} {np pos' : Pos} {hds : List ExceptHandler} {l : List Cl} (hc : Names X x c) (hn : NmI X n i)
      (hsu : ∀ (a : Addr) (oe : Obj) (cls : Value) (d : Option Addr) (pn : List (Addr × Obj)), Zc cls d oe → (∃ vs, oe.data = .fields vs) → PSs (X.suite a ((a, oe) :: pn)) (b0 :: suite) (ts a cls d)) (r : HdsG X hds l) :
      HdsG X (.ExceptHandler (some (.Name x np)) n (b0 :: suite) pos' :: hds) (⟨c, i, ts⟩ :: l)
section
variable {X : Cx} {body : List Stmt} {h0 : ExceptHandler} {hds : List ExceptHandler} {l : List Cl} {pos : Pos} {tb : WX → TS} {Wout : WX}
theorem ps_try_gen (hs : X.stack = X.env :: X.outer) (hf : X.env.frame = some X.env.locals) (hN : X.N.Nodup) (tk : Takes X Wout)
    (hb : ∀ (W : WX) (pn : List (Addr × Obj)) (xe : Value → Shared → Prop), Takes (X.tr pn xe) W → PassesOwn (model X.prog X.w) X.A X.env xe → PSs (X.tr pn xe) body (tb W))
    (hh : HdsG X (h0 :: hds) l) : PS X (.Try body (h0 :: hds) [] [] pos) (fun D σ H => tb (wG X.K Wout D l) D σ H) := by
  refine ⟨fun pins s σ H D I h => ?_⟩
  have ok := I.ok
  have hfr : X.A.frames = some (X.env :: X.outer) := by rw [ok.frames, hs]
  refine wpAny_Try_except ?_
  refine wpAny_mono ((hb (wG X.K Wout D l) (X.pn ++ pins) (fun e s₁ => wpAny (model X.prog X.w) X.A (noteFrame e X.env) (fun _ s₂ => wpAny (model X.prog X.w) X.A (setFlight e none) (fun _ s₃ =>
    wpAny (model X.prog X.w) X.A (handleBy e X.env (h0 :: hds)) (SP X pins D) X.xe s₃) X.xe s₂) X.xe s₁) (fun u s' xx => ?_) PassesOwn.looking).run [] s σ H D (I.toTry _) h) (fun f s1 hsp => ?_) (fun e s1 he => he)
  · obtain ⟨a, B, sI, pins', σ', H', cls, d, rfl, J', nb, up, sky, na, os, ag, w⟩ := xx
    have J : Inv X pins σ' H' sI := J'.ofTry ok
    have sky' : Sky B (X.env :: X.outer) a (Zc cls d) X.env.locals s'.heap := by rw [← hs]; exact sky
    show wpAny (model X.prog X.w) X.A (noteFrame (.ref a) X.env) _ _ _
    refine Sky.land Zc.steady hfr hf sky' fun h3 fl3 up3 => ?_
    have J3 : Inv X pins σ' H' { s' with heap := h3 } := J.landed nb fl3.1 (up.trans up3) os ag
    obtain ⟨oe3, vs3, he3, hz3, hd3⟩ := fl3.there
    have nfr : a ∉ frs (X.env :: X.outer) := fun hm => by
      obtain ⟨_, o', e', hnf⟩ := fl3.2.2.1.mem hm
      rw [he3] at e'; cases e'
      exact hnf _ hd3
    have nL : a ≠ X.env.locals := fun z => nfr (List.mem_filterMap.mpr ⟨X.env, List.mem_cons_self, by rw [hf, z]⟩)
    have nF : a ∉ X.fs := fun hm => by
      obtain ⟨e, he, q⟩ := List.mem_filterMap.mp hm
      exact nfr (List.mem_filterMap.mpr ⟨e, List.mem_cons_of_mem _ he, q⟩)
    have S3 := J3.suite he3 hd3 na nL nF
    have LT : PySem.W.Looks (model X.prog X.w) h3 (typeOf (.ref a)) cls := fun A Q E s k q => wpAny_typeOf_ref (k _ _ he3) (by rw [hz3.1]; exact q)
    have go : ∀ {hds' : List ExceptHandler} {l' : List Cl}, HdsG X hds' l' → wG X.K Wout D l' cls d σ' H' → wpAny (model X.prog X.w) X.A (handleBy (.ref a) X.env hds') (SP X pins D) X.xe { s' with heap := h3 } := by
      intro hds' l' hk
      induction hk with
      | nil =>
        intro w
        refine wpAny_handleBy_nil ?_
        obtain ⟨k1, k2, k3, oe, vs, T, oT, ts', he, hz, hd, h1, hr⟩ := id fl3
        unfold PySem.passOn
        refine wpAny_bind (wpAny_field he hd h1 ?_)
        rw [if_neg (show ¬ ((Value.ref T == Value.none) = true) from by simp)]
        have fin : wpAny (model X.prog X.w) X.A (setFlight (.ref a) X.env.frame) (fun _ s4 => wpAny (model X.prog X.w) X.A (throw (.ref a) : Sem Flow) (SP X pins D) X.xe s4) X.xe { s' with heap := h3 } := by
          rw [hf]
          refine HandSPX.setFlight_upZ fl3 fun h4 hh4 up4 => wpAny_throw (tk _ _ ?_)
          exact ⟨a, B, sI, pins, σ', H', cls, d, rfl, J, nb, (up.trans up3).trans up4, .inr (.inr (by rw [hs]; exact hh4)), na, os, ag, w⟩
        first
          | exact wpAny_bind (wpAny_pure (wpAny_bind fin))
          | exact wpAny_bind fin
      | @cons x c n i ts b0 suite np pos' hds2 l2 hc hn hsu r ih =>
        intro w
        obtain ⟨b, hb1, hyes, hno⟩ := w
        refine wpAny_handleBy_cons (codeAny_handlers_test ?_) (by intro q; cases q)
        have LM := PySem.W.exm_one (M := model X.prog X.w) (J3.kIn) LT hb1
        have test : ∀ {Q : Value → Shared → Prop} {E : Value → Shared → Prop}, Q c { s' with heap := h3 } → wpAny (model X.prog X.w) (X.A.mark (some (.ref a))) (eval (.Name x np) X.env) Q E { s' with heap := h3 } := fun {Q E} q => by
          obtain ⟨hg, hdbg, hm | ⟨hm, hv, hnn⟩⟩ := hc
          · exact ld_glob (X := X.suite a ((a, oe3) :: (X.pn ++ pins))) S3 hg hm q hdbg
          · exact ld_blt (X := X.suite a ((a, oe3) :: (X.pn ++ pins))) S3 hg hm hv q hnn hdbg
        refine test (LM.here ?_)
        cases b with
        | false =>
          show wpAny _ X.A (handleBy (.ref a) X.env hds2) _ _ _
          exact ih (hno rfl)
        | true =>
          have hy := hyes rfl a na
          match n, i, hn, hy with
          | none, none, _, hy =>
            refine codeAny_handlers_suite ?_
            refine HandSPX.lands_againZ fl3 fun h4 fl4 up4 => ?_
            have J4 : Inv X pins σ' H' { s' with heap := h4 } := J.landed nb fl4.1 ((up.trans up3).trans up4) os ag
            obtain ⟨oe4, vs4, he4, hz4, hd4⟩ := fl4.there
            have S4 := J4.suite he4 hd4 na nL nF
            refine wpAny_mono ((hsu a oe4 cls d (X.pn ++ pins) hz4 ⟨_, hd4⟩).run [] _ _ H' _ S4 hy) (fun f s6 hsp => ?_) (fun _ _ z => False.elim z)
            cases f with
            | next => obtain ⟨σ6, H6, S6, q6⟩ := hsp; exact ⟨_, _, S6.unsuite ok, q6⟩
            | brk => obtain ⟨σ6, H6, S6, q6⟩ := hsp; exact ⟨_, _, S6.unsuite ok, q6⟩
            | cont => obtain ⟨σ6, H6, S6, q6⟩ := hsp; exact ⟨_, _, S6.unsuite ok, q6⟩
            | ret u => obtain ⟨v6, σ6, H6, S6, r6, q6⟩ := hsp; exact ⟨_, _, _, S6.unsuite ok, r6, q6⟩
          | some n, some i, ⟨hi, hln⟩, hy =>
            have hloc : L2.Loc X.env.scope n := .inl hln
            refine codeAny_handlers_suite_as ?_
            refine HandSPX.lands_againZ fl3 fun h4 fl4 up4 => ?_
            have J4 : Inv X pins σ' H' { s' with heap := h4 } := J.landed nb fl4.1 ((up.trans up3).trans up4) os ag
            obtain ⟨oe4, vs4, he4, hz4, hd4⟩ := fl4.there
            have S4 := J4.suite he4 hd4 na nL nF
            refine store_ok (X := X.suite a ((a, oe4) :: (X.pn ++ pins))) (v := .ref a) S4 hN hi hloc rfl (fun s5 S5 => ?_) (.inr hln)
            refine wpAny_mono ((hsu a oe4 cls d (X.pn ++ pins) hz4 ⟨_, hd4⟩).run [] s5 _ H' _ S5 hy) (fun f s6 hsp => ?_) (fun _ _ z => False.elim z)
            have end_ : ∀ {σ6 : St} {H6 : Hp} {Q : Shared → Prop}, Inv (X.suite a ((a, oe4) :: (X.pn ++ pins))) [] σ6 H6 s6 → (∀ s7, Inv X pins (σ6.set i none) H6 s7 → Q s7) →
                wpAny (model X.prog X.w) X.A (do bindName X.env n .none; unbindBehindTheSuite X.env n pos') (fun _ s7 => Q s7) X.xe s6 := fun {σ6 H6 Q} S6 hq => gone_ok (S6.unsuite ok) hN hi hln hq
            cases f with
            | next => obtain ⟨σ6, H6, S6, q6⟩ := hsp; exact end_ S6 fun s7 J7 => ⟨_, _, J7, q6⟩
            | brk => obtain ⟨σ6, H6, S6, q6⟩ := hsp; exact end_ S6 fun s7 J7 => ⟨_, _, J7, q6⟩
            | cont => obtain ⟨σ6, H6, S6, q6⟩ := hsp; exact end_ S6 fun s7 J7 => ⟨_, _, J7, q6⟩
            | ret u => obtain ⟨v6, σ6, H6, S6, r6, q6⟩ := hsp; exact end_ S6 fun s7 J7 => ⟨_, _, _, J7, r6, q6⟩
    exact go hh w
  · cases f with
    | next =>
      obtain ⟨σ', H', J', q⟩ := hsp
      exact wpAny_execs_nil ⟨σ', H', J'.ofTry ok, q⟩
    | brk => obtain ⟨σ', H', J', q⟩ := hsp; exact ⟨σ', H', J'.ofTry ok, q⟩
    | cont => obtain ⟨σ', H', J', q⟩ := hsp; exact ⟨σ', H', J'.ofTry ok, q⟩
    | ret u => obtain ⟨v, σ', H', J', r, q⟩ := hsp; exact ⟨v, σ', H', J'.ofTry ok, r, q⟩
end

/-! ### on data -/
/-- a suite's end: its name goes -/
def SRes.gone (i : Option Nat) (r : SRes) : SRes := match r with
  | .nx ρ S => .nx (match i with | some i => ρ.set i none | none => ρ) S
  | .brk ρ S => .brk (match i with | some i => ρ.set i none | none => ρ) S
  | .ct ρ S => .ct (match i with | some i => ρ.set i none | none => ρ) S
  | .ret d S => .ret d S
  | _ => .bad
/-- which classes a clause takes; its name's slot; its suite -/
structure ClD where
  cm : Nat → Option Bool
  i : Option Nat
  g : Exn → Env → Sto → SRes
def goneE (i : Option Nat) (ρ : Env) : Env := match i with
  | some i => ρ.set i none
  | none => ρ
def clsD (x : Exn) (ρ : Env) (S : Sto) : List ClD → SRes
  | [] => .ex x ρ S
  | cl :: r => match cl.cm x.cls with
    | some true => (cl.g x (goneE cl.i ρ) S).gone cl.i
    | some false => clsD x ρ S r
    | none => .bad
def sTry (b : Env → Sto → SRes) (l : List ClD) (ρ : Env) (S : Sto) : SRes := match b ρ S with
  | .ex x ρ S => clsD x ρ S l
  | r => r
/-- the name stands for the caught exception at a, its dict at dd -/
def hereE (i : Option Nat) (a dd : Addr) (x : Exn) (ρ : Env) : Env := match i with
  | some i => ρ.set i (some (.v (.xc a dd x.cls x.fs)))
  | none => ρ
section
variable {X : Cx} {W : Wi}
/-- a suite's reading -/
def tSu (K : PySem.W.Frag) (cm : Nat → Option Bool) (i : Option Nat) (g : Exn → Env → Sto → SRes) (a : Addr) (cls : Value) (d : Option Addr) : TS := fun D σ H => ∃ F0 x ρ S m F dd, cm x.cls = some true ∧ d = some dd ∧ cls = .ref (ca K x.cls) ∧ Sta K ⟨F0, fun _ _ _ _ => False, none⟩ (hereE i a dd x ρ) S m F σ H ∧
  SPost K ⟨F0, fun _ _ _ _ => False, none⟩ S m F H (g x (goneE i ρ) S) D
/-- the clauses and what they are on data -/
inductive ClsG (X : Cx) : List ExceptHandler → List ClD → List Cl → Prop
  | nil : ClsG X [] [] []
  | cons {x : Str} {c : Value} {n : Option Str} {i : Option Nat} {cm : Nat → Option Bool} {g : Exn → Env → Sto → SRes} {gg : Addr → Addr → Nat → Env → Sto → SRes} {b0 : Stmt} {suite : List Stmt} {np pos' : Pos} {hds : List ExceptHandler} {l : List ClD} {l' : List Cl} (hc : Names X x c) (hn : NmI X n i)
      (hcm : ∀ k b, cm k = some b → PySem.W.exmOne X.K (.ref (ca X.K k)) c = some b)
      (hsu : ∀ (a : Addr) (oe : Obj) (dd : Addr) (C : Nat) (pn : List (Addr × Obj)) (W : Wi), cm C = some true → Zc (.ref (ca X.K C)) (some dd) oe → (∃ vs, oe.data = .fields vs) → BlkW W → PSsv (X.suite a ((a, oe) :: pn)) W (b0 :: suite) (gg a dd C))
      (hg : ∀ (a dd : Addr) (x : Exn) (ρ : Env) (S : Sto), gg a dd x.cls (hereE i a dd x ρ) S = g x (goneE i ρ) S ∨ g x (goneE i ρ) S = .bad) (r : ClsG X hds l l') :
      ClsG X (.ExceptHandler (some (.Name x np)) n (b0 :: suite) pos' :: hds) (⟨cm, i, g⟩ :: l) (⟨c, i, tSu X.K cm i g⟩ :: l')
theorem ClsG.hds {hds : List ExceptHandler} {l : List ClD} {l' : List Cl} (h : ClsG X hds l l') : HdsG X hds l' := by
  induction h with
  | nil => exact .nil
  | @cons x c n i cm g gg b0 suite np pos' hds l l' hc hn hcm hsu hg r ih =>
    refine .cons hc hn (fun a oe cls d pn hz hf => ⟨fun pins s σ H D I ⟨F0, ex, ρ, S, m, F, dd, hC, ed, ec, st, p⟩ => ?_⟩) ih
    subst ed ec
    rcases hg a dd ex ρ S with e | e
    · rw [← e] at p
      exact (hsu a oe dd ex.cls pn ⟨F0, fun _ _ _ _ => False, none⟩ hC hz hf ⟨rfl, fun _ _ _ _ => Iff.rfl⟩).run pins s σ H D I ⟨_, S, m, F, st, p⟩
    · rw [e] at p
      exact p.elim
/-- the slots where the exception comes -/
theorem Sta.here {K : PySem.W.Frag} {F0 : Addr → Prop} {w : WX} {w' : WX} {ρ : Env} {S : Sto} {m : List Addr} {F : Addr → Prop} {σ : St} {H : Hp} {x : Exn} {dd a : Addr} (st : Sta K ⟨F0, w, none⟩ ρ S m F σ H) (rx : RX (rc K F S m H) x (some dd)) (i : Option Nat) :
    Sta K ⟨F0, w', none⟩ (hereE i a dd x ρ) S m F (hereI i a σ) H := by
  have st' : Sta K ⟨F0, w', none⟩ ρ S m F σ H := ⟨st.s, st.e, st.sub, fun x h => nomatch h⟩
  cases i with
  | none => exact st'
  | some i =>
    obtain ⟨dd', fvs, e, h1, h2, r⟩ := rx
    cases e
    exact st'.setv (.xc h1 h2 r) i (.inr rfl)
theorem Sta.goneE {K : PySem.W.Frag} {W : Wi} {ρ : Env} {S : Sto} {m : List Addr} {F : Addr → Prop} {σ : St} {H : Hp} (st : Sta K W ρ S m F σ H) (i : Option Nat) (h0 : W.me = none) : Sta K W (Ev.goneE i ρ) S m F (goneI i σ) H := by
  cases i with
  | none => exact st
  | some i => exact st.wipe i none (.inr h0)
theorem SRes.gone_eq (i : Option Nat) (r : SRes) : r.gone i = match r with
    | .nx ρ S => .nx (Ev.goneE i ρ) S
    | .brk ρ S => .brk (Ev.goneE i ρ) S
    | .ct ρ S => .ct (Ev.goneE i ρ) S
    | .ret d S => .ret d S
    | _ => .bad := by cases r <;> cases i <;> rfl
/-- an exception meets the clauses -/
theorem ClsG.wish {hds : List ExceptHandler} {l : List ClD} {l' : List Cl} (h : ClsG X hds l l') {F0 : Addr → Prop} {w wb : WX} {Dn : Ends} {x : Exn} {ρ : Env} {S : Sto} {m : List Addr} {F : Addr → Prop} {σ : St} {H : Hp} {d : Option Addr} (st : Sta X.K ⟨F0, wb, none⟩ ρ S m F σ H) (rx : RX (rc X.K F S m H) x d)
    (p : SPost X.K ⟨F0, w, none⟩ S m F H (clsD x ρ S l) Dn) : wG X.K w Dn l' (.ref (ca X.K x.cls)) d σ H := by
  induction h with
  | nil => exact p σ m F H d .refl ⟨st.s, st.e, st.sub, fun x h => nomatch h⟩ rx
  | @cons y c n i cm g gg b0 suite np pos' hds l l' hc hn hcm hsu hg r ih =>
    unfold clsD at p
    dsimp only at p
    split at p
    · rename_i e1
      refine ⟨true, hcm _ _ e1, fun _ a ha => ?_, fun z => absurd z (by decide)⟩
      obtain ⟨dd, rx1⟩ : ∃ dd, d = some dd := by obtain ⟨dd, _, e, _⟩ := rx; exact ⟨dd, e⟩
      subst rx1
      refine ⟨F0, x, ρ, S, m, F, dd, e1, rfl, rfl, st.here rx i, ?_⟩
      rw [SRes.gone_eq] at p
      cases q : g x (Ev.goneE i ρ) S with
      | nx ρ' S' => rw [q] at p; exact fun σ' m' F' H' l' st' => p _ m' F' H' l' (Sta.goneE (W := ⟨F0, w, none⟩) ⟨st'.s, st'.e, st'.sub, fun x h => nomatch h⟩ i rfl)
      | brk ρ' S' => rw [q] at p; exact fun σ' m' F' H' l' st' => p _ m' F' H' l' (Sta.goneE (W := ⟨F0, w, none⟩) ⟨st'.s, st'.e, st'.sub, fun x h => nomatch h⟩ i rfl)
      | ct ρ' S' => rw [q] at p; exact fun σ' m' F' H' l' st' => p _ m' F' H' l' (Sta.goneE (W := ⟨F0, w, none⟩) ⟨st'.s, st'.e, st'.sub, fun x h => nomatch h⟩ i rfl)
      | ret d' S' => rw [q] at p; exact p
      | ex x' ρ' S' => rw [q] at p; exact p.elim
      | bad => rw [q] at p; exact p.elim
    · rename_i e1
      exact ⟨false, hcm _ _ e1, fun z => absurd z Bool.false_ne_true, fun _ => ih p⟩
    · exact p.elim
theorem psv_try {body : List Stmt} {h0 : ExceptHandler} {hds : List ExceptHandler} {l : List ClD} {l' : List Cl} {pos : Pos} {b : Env → Sto → SRes} (hs : X.stack = X.env :: X.outer) (hf : X.env.frame = some X.env.locals) (hN : X.N.Nodup) (tk : Takes X W.w) (hme : W.me = none)
    (hb : ∀ (W' : Wi) (pn : List (Addr × Obj)) (xe : Value → Shared → Prop), W'.me = none → Takes (X.tr pn xe) W'.w → PassesOwn (model X.prog X.w) X.A X.env xe → PSsv (X.tr pn xe) W' body b)
    (hh : ClsG X (h0 :: hds) l l') : PSv X W (.Try body (h0 :: hds) [] [] pos) (sTry b l) := by
  refine ps_imp (ps_try_gen (Wout := W.w) (tb := fun w D σ H => ∃ F0, TSv X.K ⟨F0, w, none⟩ b D σ H) hs hf hN tk (fun w pn xe tk' hp => ⟨fun pins s σ H D I ⟨F0, t⟩ => (hb ⟨F0, w, none⟩ pn xe rfl tk' hp).run pins s σ H D I t⟩) hh.hds) fun Dn σ H ⟨ρ, S, m, F, st, p⟩ => ?_
  obtain ⟨F0, w, me⟩ := W
  have hme' : me = none := hme
  subst hme'
  refine ⟨F0, ρ, S, m, F, ⟨st.s, st.e, st.sub, fun x h => nomatch h⟩, ?_⟩
  unfold sTry at p
  have cast : ∀ {r : SRes}, (∀ x ρ S, r ≠ .ex x ρ S) → SPost X.K ⟨F0, w, none⟩ S m F H r Dn → SPost X.K ⟨F0, wG X.K w Dn l', none⟩ S m F H r Dn := fun {r} hr p => by
    cases r with
    | nx ρ' S' => exact fun σ' m' F' H' l st => p σ' m' F' H' l ⟨st.s, st.e, st.sub, fun x h => nomatch h⟩
    | brk ρ' S' => exact fun σ' m' F' H' l st => p σ' m' F' H' l ⟨st.s, st.e, st.sub, fun x h => nomatch h⟩
    | ct ρ' S' => exact fun σ' m' F' H' l st => p σ' m' F' H' l ⟨st.s, st.e, st.sub, fun x h => nomatch h⟩
    | ret d S' => exact p
    | ex x ρ' S' => exact (hr x ρ' S' rfl).elim
    | bad => exact p
  cases q : b ρ S with
  | ex x ρ' S' =>
    rw [q] at p
    dsimp only at p
    intro σ' m' F' H' dd l st' rx
    exact hh.wish st' rx (SPost.from p l)
  | nx ρ' S' => rw [q] at p; exact cast (fun _ _ _ z => nomatch z) p
  | brk ρ' S' => rw [q] at p; exact cast (fun _ _ _ z => nomatch z) p
  | ct ρ' S' => rw [q] at p; exact cast (fun _ _ _ z => nomatch z) p
  | ret d S' => rw [q] at p; exact cast (fun _ _ _ z => nomatch z) p
  | bad => rw [q] at p; exact p.elim
/-- e.f in a suite, e its name -/
def vXf (i : Nat) (a dd : Addr) (C : Nat) (f : Str) (ρ : Env) (S : Sto) : Res D := match ρ[i]? with
  | some (some (.v (.xc a' dd' C' fs))) => if a' = a ∧ dd' = dd ∧ C' = C then (match fs.lookup f with
    | some d => .ok d S
    | none => .bad) else .bad
  | _ => .bad
theorem pev_xf {a dd : Addr} {oe : Obj} {C i : Nat} {n f : Str} {pn : List (Addr × Obj)} {p1 pos : Pos} (T : XfC X.K (ca X.K C)) (hno : PySem.W.findIn X.K (.ref (ca X.K C)) f = some none) (hz : Zc (.ref (ca X.K C)) (some dd) oe) (hf : ∃ vs, oe.data = .fields vs) (hN : X.N[i]? = some n) (hv : Vis X.env.scope n)
    (hd : (n == ("__debug__" : Str)) = false := by decide) (hcd : (n == ("__classdict__" : Str)) = false := by decide) (hb : attributeBase (.Name n p1) f X.env (eval (.Name n p1) X.env) = eval (.Name n p1) X.env := by rfl) :
    PEv (X.suite a ((a, oe) :: pn)) W (.Attribute (.Name n p1) f pos) (vXf i a dd C f) := by
  refine pe_imp (pe_xf (X := X) T hno hz hf (pe_var (X := X.suite a ((a, oe) :: pn)) hN hv hd hcd) hb) fun σ H Q ⟨ρ, S, m, F, st, p⟩ => ?_
  unfold vXf at p
  split at p
  · rename_i a' dd' C' fs e1
    split at p
    · rename_i hc
      obtain ⟨rfl, rfl, rfl⟩ := hc
      split at p
      · rename_i d el
        obtain ⟨v, e2, rv⟩ := st.e.at_ i _ e1
        cases rv with
        | xc h1 h2 r =>
          obtain ⟨v', hl, rv'⟩ := r.lookup el
          exact ⟨_, e2, rfl, rfl, _, _, v', rfl, h1, hl, p.ok st.s rv'⟩
      · exact p.elim
    · exact p.elim
  · exact p.elim
/-- .. on data -/
def vXg (i : Nat) (x : Exn) (f : Str) (ρ : Env) (S : Sto) : Res D := if i < ρ.length then (match x.fs.lookup f with
  | some d => .ok d S
  | none => .bad) else .bad
theorem vXf_here (i : Nat) (a dd : Addr) (x : Exn) (f : Str) (ρ : Env) (S : Sto) : vXf i a dd x.cls f (hereE (some i) a dd x ρ) S = vXg i x f (goneE (some i) ρ) S := by
  unfold vXf vXg hereE goneE
  dsimp only
  by_cases h : i < ρ.length
  · rw [List.getElem?_set_self h, if_pos (by rw [List.length_set]; exact h)]
    dsimp only
    rw [if_pos ⟨rfl, rfl, rfl⟩]
  · rw [if_neg (by rw [List.length_set]; exact h), List.getElem?_eq_none (by rw [List.length_set]; omega)]
theorem vName_here {i j : Nat} (h : i ≠ j) (a dd : Addr) (x : Exn) (ρ : Env) (S : Sto) : vName j (hereE (some i) a dd x ρ) S = vName j (goneE (some i) ρ) S := by
  unfold vName hereE goneE
  dsimp only
  rw [List.getElem?_set_ne h, List.getElem?_set_ne h]
end
end Ev

set_option Elab.async false
set_option linter.all false
set_option maxRecDepth 100000
set_option maxHeartbeats 4000000
/-! Ev16: isinstance; the fields of exceptions as values. -/
namespace PySem.W
open PySem PySem.Spec PySem.Calls PyProof.Rows
section
variable {prog : Program} {w : World} {A : Around} {E : Value → Shared → Prop} {s : Shared} {K : Frag} {x D : Addr} {ox od : Obj}
/-- an exception's class, asked of the exception; it has a dict -/
theorem evx_class {Q : Option Value → Shared → Prop} (hga : findIn K (.ref D) "__getattribute__" = some (some (.builtin "BaseException.__getattribute__"))) (hgt : findIn K (.ref D) "__getattr__" = some none) (hsub : subIn K (.ref D) (.type "BaseException") = some true)
    (hdct : hasDictIn K D = true) (ha : findIn K (.ref D) "__class__" = some (some (.builtin "object.__class__")))
    (hn : specialIn K (.builtin "object.__class__") "__get__" = some (some (.builtin "getset_descriptor.__get__"))) (htk : takesIn K (.builtin "object.__class__") = some true) (hm : mroIn K D (.type "object") = some true)
    (X : K.In s.heap) (I : InstAt s.heap x ox D (some od)) (h : Q (some (.ref D)) { s with toks := s.toks + 1 }) : wpAny (model prog w) A (getAttr? (.ref x) "__class__") Q E s := by
  have hf : findObj K D (some od) "__class__" = some (.bind (.builtin "getset_descriptor.__get__") (.builtin "object.__class__")) := findObj_data (by obtain ⟨cd, hc, _⟩ := any_some hdct; rw [hc]; rfl) ha hn htk
  obtain ⟨hp, g, d, t, os⟩ := s
  have t0 := I.type (M := model prog w)
  have t1 := looks_findIn (M := model prog w) X hga
  have t2 := looks_findIn (M := model prog w) X hgt
  have t3 := looks_find (M := model prog w) X I hf
  have sub : Looks (model prog w) hp (isInstance (.ref x) (.type "BaseException")) true := t0.andThen (looks_subIn X hsub)
  have x0 : (false && onTheHeap (Value.builtin "BaseException.__getattribute__")) = false := rfl
  have x2 : (Value.builtin "BaseException.__getattribute__" == Value.builtin "object.__getattribute__") = false := by decide +kernel
  have x1 : (onTheHeap (Value.ref D) && Value.builtin "BaseException.__getattribute__" == Value.builtin "object.__getattribute__") = false := by rw [x2]; rfl
  unfold getAttr? getAttrBy? getAttrBy
  refine wpAny_bind (wpAny_mkText (wpAny_bind (wpAny_attempt (wpAny_holding (wpAny_bind (t0.at (wpAny_bind (t1.at ?_))))))))
  show wpAny _ _ (if (onTheHeap (Value.ref D) && Value.builtin "BaseException.__getattribute__" == Value.builtin "object.__getattribute__") = true then _ else _) _ _ _
  rw [x1, if_neg Bool.false_ne_true]
  unfold getAttrByItsOwn hookBefore
  refine wpAny_bind ?_
  rw [if_pos (show onTheHeap (Value.ref D) = true from rfl)]
  refine t2.at ?_
  refine wpAny_bind (wpAny_attempt (wpAny_holding ?_))
  unfold callGetattribute
  rw [x0, if_neg Bool.false_ne_true]
  unfold boundAndCalled
  rw [PySem.F.excAttr_ValueError.ga.bind (.ref x)]
  refine wpAny_bind (wpAny_pure ?_)
  show wpAny _ _ (call (.builtin "BaseException.__getattribute__") [.ref x, .str "__class__" t]) _ _ _
  refine wpAny_call (codeAny_call_builtin PySem.F.excAttr_ValueError.ga.plain PySem.F.entry_bexc_ga ?_)
  refine @check_slot (model prog w) _ _ ⟨hp, g, d, t + 1, os⟩ "BaseException.__getattribute__" "BaseException" "__getattribute__" (.ref x) [.str "__class__" t] [] _ (by decide +kernel) (by decide +kernel) sub (PySem.F.args_bexc_ga (.ref x) (.str "__class__" t)) ?_
  unfold Builtin.«object.__getattribute__»
  refine wpAny_bind (wpAny_of_eq (a := ((Value.ref x : Value), [Value.str "__class__" t])) (by first | rfl | (simp only [slotArgs]; rfl)) ?_)
  refine wpAny_bind (wpAny_pure (wpAny_bind (t0.at (wpAny_bind (t3.at ?_)))))
  show wpAny _ _ (holding [Value.builtin "object.__class__"] (call (.builtin "getset_descriptor.__get__") [.builtin "object.__class__", .ref x, .ref D]) >>= ret) _ _ _
  refine wpAny_bind (wpAny_holding (wpAny_call (class_get (s := ⟨hp, g, d, t + 1, os⟩) (ox := ox) (od := some od) X I hm ?_)))
  refine wpAny_pure ?_
  show wpAny _ _ (handedOut (.ref D)) _ _ _
  rw [handedOut_of (v := .ref D) rfl]
  first
    | exact wpAny_pure (wpAny_pure h)
    | exact wpAny_pure h
    | exact wpAny_pure (wpAny_bind (wpAny_pure (wpAny_pure h)))
theorem evx_kit (hga : findIn K (.ref D) "__getattribute__" = some (some (.builtin "BaseException.__getattribute__"))) (hgt : findIn K (.ref D) "__getattr__" = some none) (hsub : subIn K (.ref D) (.type "BaseException") = some true) (hdct : hasDictIn K D = true) (ha : findIn K (.ref D) "__class__" = some (some (.builtin "object.__class__")))
    (hn : specialIn K (.builtin "object.__class__") "__get__" = some (some (.builtin "getset_descriptor.__get__"))) (htk : takesIn K (.builtin "object.__class__") = some true) (hm : mroIn K D (.type "object") = some true) :
    KitX K (.ref x) (.ref D) (fun h => InstAt h x ox D (some od)) where
  ty := fun _ _ _ I => I.type
  it := fun _ _ X _ => by
    obtain ⟨cdD, hcD, _⟩ := any_some hdct
    unfold clsIn at hcD
    split at hcD
    · rename_i c' d' cd' sl' ho
      intro A' Q' E' s' k q
      unfold isType loadHead
      exact wpAny_bind (wpAny_loadPart (k _ _ (X _ _ ho)) (wpAny_pure q))
    · cases hcD
  ne := (handS_kitx_exc (x := x) (ox := ox) hga hgt hsub hdct ha hn htk hm).ne
  ca := fun X I k => evx_class hga hgt hsub hdct ha hn htk hm X I k
end
end PySem.W

namespace Ev
open PySem PySem.Spec L2
open PyProof.Rows hiding St

/-- the types of data: a built-in one, an own class, an own exception class -/
inductive Ty where
  | non | bl | int | str | tup | lst | dct
  | c (C : Nat)
  | x (C : Nat)
  deriving DecidableEq
def Ty.v (K : PySem.W.Frag) : Ty → Value
  | .non => .type "NoneType"
  | .bl => .type "bool"
  | .int => .type "int"
  | .str => .type "str"
  | .tup => .type "tuple"
  | .lst => .type "list"
  | .dct => .type "dict"
  | .c C => .ref (ca K C)
  | .x C => .ref (ca K C)
def tyOf (S : Sto) : D → Option Ty
  | .non => some .non
  | .bl _ => some .bl
  | .int _ => some .int
  | .str _ => some .str
  | .tup _ => some .tup
  | .lst _ => some .lst
  | .fro _ => some .lst
  | .dK _ => some .dct
  | .ins C _ => some (.c C)
  | .exi C _ => some (.x C)
  | .box n => (match S[n]? with
    | some (some (.lst _)) => some .lst
    | some (some (.dK _)) => some .dct
    | some (some (.ins C _)) => some (.c C)
    | _ => none)
  | _ => none
/-- what isinstance asks of the instances of the class number C -/
structure InsF (K : PySem.W.Frag) (C : Nat) : Prop where
  cl : Cls K (ca K C)
  ha : PySem.W.findIn K (.ref (ca K C)) "__class__" = some (some (.builtin "object.__class__"))
  hn : PySem.W.specialIn K (.builtin "object.__class__") "__get__" = some (some (.builtin "getset_descriptor.__get__"))
  htk : PySem.W.takesIn K (.builtin "object.__class__") = some true
  hm : PySem.W.mroIn K (ca K C) (.type "object") = some true
/-- the answers of isinstance(.., us) by type -/
structure IsF (K : PySem.W.Frag) (us : List Value) (tab : Ty → Option Bool) : Prop where
  k : ∀ t b, tab t = some b → PySem.W.kitAny K (t.v K) us = some b
  i : ∀ C b, tab (.c C) = some b → InsF K C
  x : ∀ C b, tab (.x C) = some b → ExcC K (ca K C)
section
variable {X : Cx} {W : Wi} {pins : List (Addr × Obj)} {σ : St} {H : Hp} {s : Shared} {F : Addr → Prop} {S : Sto} {m : List Addr}
theorem kit_any1 {K : PySem.W.Frag} {t c : Value} {b : Bool} (h : PySem.W.kitAny K t [c] = some b) : PySem.W.kitOne K t c = some b := by
  unfold PySem.W.kitAny at h
  cases q : PySem.W.kitOne K t c with
  | none => rw [q] at h; cases h
  | some r =>
    rw [q] at h
    cases r with
    | true => exact h
    | false => exact h
theorem kit_ev {x : V} {u : Value} {d : D} {t : Ty} (I : Inv X pins σ H s) (r : RelV x u) (rs : RS X.K F S m H) (rv : RV (rc X.K F S m H) d x) (e : tyOf S d = some t) (hi : ∀ C, t = .c C → InsF X.K C) (hx : ∀ C, t = .x C → ExcC X.K (ca X.K C)) :
    ∃ P : Heap → Prop, PySem.W.KitX X.K u (t.v X.K) P ∧ P s.heap ∧ u ≠ .builtin "__main__.__loader__#opaque" := by
  have insK : ∀ {a C dx fs}, t = .c C → x = .ref a → H a = some (.ins (ca X.K C) dx fs) → ∃ P : Heap → Prop, PySem.W.KitX X.K u (t.v X.K) P ∧ P s.heap ∧ u ≠ .builtin "__main__.__loader__#opaque" := fun {a C dx fs} et ex hH => by
    subst et ex
    have f := hi C rfl
    exact kit_of I r (.base (.ins hH f.cl f.ha f.hn f.htk f.hm))
  cases rv with
  | non => cases e; exact kit_of I r (.base .non)
  | bl b => cases e; exact kit_of I r (.base (.bl b))
  | int i => cases e; exact kit_of I r (.base (.int i))
  | str y => cases e; exact kit_of I r (.base (.str y))
  | @tup a xs ds h1 h2 =>
    cases e
    rcases SqT.tr h1 with (h | ⟨o, h⟩) | ⟨o, its, n, h, hc, _⟩
    · exact kit_of I r (.base (.tup h))
    · exact kit_of I r (.fTuple h)
    · exact kit_of I r (.kTuple h hc)
  | lst h1 h2 => cases e; exact kit_of I r (.base (.lst h1.1))
  | @fro a xs ds h1 h2 =>
    cases e
    rcases SqL.fr h1 with (h | ⟨o, h⟩) | ⟨o, its, n, h, hc, _⟩
    · exact kit_of I r (.base (.lst h))
    · exact kit_of I r (.base (.frz h))
    · exact kit_of I r (.kList h hc)
  | dK h n r2 => cases e; exact kit_of I r (.base (.dK h))
  | ins h n r2 => cases e; exact insK rfl rfl h
  | @exi a C dx fs fds h n h2 n2 r2 =>
    cases e
    have f := hx C rfl
    obtain ⟨t1, ho⟩ := exo_at I.hok h
    obtain ⟨mA, hns, _⟩ := exd_at I.hok h2
    obtain ⟨od, _, _, hod, _⟩ := hns
    cases (show u = Value.ref a from r)
    exact ⟨_, PySem.W.evx_kit f.hg f.hk f.hs f.hd f.ha f.hn f.ht f.hm, ⟨ho, rfl, rfl, hod⟩, fun z => nomatch z⟩
  | @box n a h =>
    have e' : (match S[n]? with
      | some (some (.lst _)) => some Ty.lst
      | some (some (.dK _)) => some Ty.dct
      | some (some (.ins C _)) => some (Ty.c C)
      | _ => none) = some t := e
    split at e'
    · rename_i q; cases e'
      obtain ⟨xs, h1, _⟩ := rs.ob n _ a q h
      exact kit_of I r (.base (.lst h1))
    · rename_i q; cases e'
      obtain ⟨xs, h1, _⟩ := rs.ob n _ a q h
      exact kit_of I r (.base (.dK h1))
    · rename_i q; cases e'
      obtain ⟨dx, xs, h1, _⟩ := rs.ob n _ a q h
      exact insK rfl rfl h1
    · cases e'
  | _ => cases e
def KitV (X : Cx) (H : Hp) (x : V) (t : Value) : Prop := ∀ (pins : List (Addr × Obj)) (σ : St) (s : Shared) (u : Value), Inv X pins σ H s → RelV x u → ∃ P : Heap → Prop, PySem.W.KitX X.K u t P ∧ P s.heap ∧ u ≠ .builtin "__main__.__loader__#opaque"
def rIs1 (X : Cx) : List V → Hp → VK → Prop := fun xs H Q => ∃ (x c : V) (t u : Value) (b : Bool), xs = [x, c] ∧ ClsV c u ∧ KitV X H x t ∧ PySem.W.kitOne X.K t u = some b ∧ Q (.bl b) H
def rIsN (X : Cx) : List V → Hp → VK → Prop := fun xs H Q => ∃ (x : V) (tp : Addr) (cs : List V) (t : Value) (us : List Value) (b : Bool), xs = [x, .ref tp] ∧ H tp = some (.tup cs) ∧ Paired ClsV cs us ∧ KitV X H x t ∧ PySem.W.kitAny X.K t us = some b ∧ Q (.bl b) H
theorem call_is1 : CallR X (.builtin "isinstance") (rIs1 X) := by
  intro pins s σ H xs us Q I r ⟨x, c, t, u, b, ex, k, ty, e, q⟩
  subst ex
  obtain ⟨u1, u2, rfl, r1, r2⟩ := vals2 r
  have e2 := k.eq r2
  subst e2
  obtain ⟨P, Z, p, hx⟩ := ty pins σ s u1 I r1
  exact PySem.W.kia_one Z I.kIn p e hx fun tk => ⟨.bl b, H, I.tok tk, rfl, q⟩
theorem call_isN : CallR X (.builtin "isinstance") (rIsN X) := by
  intro pins s σ H xs us Q I r ⟨x, tp, cs, t, ws, b, ex, hT, k, ty, e, q⟩
  subst ex
  obtain ⟨u1, u2, rfl, r1, r2⟩ := vals2 r
  cases (show u2 = Value.ref tp from r2)
  obtain ⟨P, Z, p, hx⟩ := ty pins σ s u1 I r1
  obtain ⟨_, its, rv, o, h1, h2, n, h3⟩ := (show ObjOk X.prog X.w H s.heap tp (.tup cs) from I.hok tp _ hT)
  have e3 := ClsV.all k rv
  subst e3
  obtain ⟨oc, od, dt, sl⟩ := o
  simp only at h2 h3
  subst h2 h3
  exact PySem.W.kia_tup Z I.kIn p h1 e hx fun tk => ⟨.bl b, H, I.tok tk, rfl, q⟩
def isD (tab : Ty → Option Bool) (d : D) (S : Sto) : Res D := match (tyOf S d).bind tab with
  | some b => .ok (.bl b) S
  | none => .bad
variable {e c c1 c2 : Expr} {fe : Env → Sto → Res D} {cv cv1 cv2 : V} {u u1 u2 : Value} {tab : Ty → Option Bool} {p p2 pos : Pos} {k : Nat}
theorem kitV_of {d : D} {x : V} {t : Ty} (rs : RS X.K F S m H) (rv : RV (rc X.K F S m H) d x) (e : tyOf S d = some t) (hi : ∀ C, t = .c C → InsF X.K C) (hx : ∀ C, t = .x C → ExcC X.K (ca X.K C)) : KitV X H x (t.v X.K) := fun pins σ s u I r => kit_ev I r rs rv e hi hx
/-- isinstance(e, c) -/
theorem pev_is (hg : Gl X "isinstance") (hm : X.mg "isinstance" = none) (he : PEv X W e fe) (hc : PE X c (tC cv)) (hcv : ClsV cv u) (f : IsF X.K [u] tab)
    (h3 : starEach [e, c] X.env = (false, eval e X.env) :: starEach [c] X.env := by rfl) (h5 : starEach [c] X.env = (false, eval c X.env) :: starEach [] X.env := by rfl) (h4 : (backTo pos (starEach [c] X.env)).any (·.1) = false := by rfl) :
    PEv X W (.Call (.Name "isinstance" p) [e, c] [] pos) (v1 (isD tab) fe) := by
  refine pe_imp (pe_callB call_is1 hg hm PyProof.Rows.boot_isinstance (pa_cons he (pa_cons hc pa_nil h5) h3) (by decide) (by decide) h3 h4) fun σ H Q t => ?_
  refine t_mono (T.bind (R := RV) t) fun v H1 ⟨ρ, S, m, F, d, st, r, q⟩ => ?_
  unfold isD at q
  cases q1 : tyOf S d with
  | none => rw [q1] at q; exact q.elim
  | some ty =>
    rw [q1] at q
    cases q2 : tab ty with
    | none =>
      have q' : Post X.K F RV _ S m H1 (match tab ty with | some b => Res.ok (D.bl b) S | none => .bad) Q := q
      rw [q2] at q'
      exact q'.elim
    | some b =>
      have q' : Post X.K F RV _ S m H1 (match tab ty with | some b => Res.ok (D.bl b) S | none => .bad) Q := q
      rw [q2] at q'
      exact ⟨v, cv, ty.v X.K, u, b, rfl, hcv, kitV_of st.s r q1 (fun C h => f.i C b (h ▸ q2)) (fun C h => f.x C b (h ▸ q2)), kit_any1 (f.k ty b q2), q'.ok st.s (.bl b)⟩
/-- isinstance(e, (c1, c2)) -/
theorem pev_is2 {z : Nat} (hg : Gl X "isinstance") (hm : X.mg "isinstance" = none) (he : PEv X W e fe) (hc1 : PE X c1 (tC cv1)) (hc2 : PE X c2 (tC cv2)) (k1 : ClsV cv1 u1) (k2 : ClsV cv2 u2) (f : IsF X.K [u1, u2] tab)
    (h3 : starEach [e, .Tuple [c1, c2] z p2] X.env = (false, eval e X.env) :: starEach [.Tuple [c1, c2] z p2] X.env := by rfl) (h5 : starEach [.Tuple [c1, c2] z p2] X.env = (false, eval (.Tuple [c1, c2] z p2) X.env) :: starEach [] X.env := by rfl) (h6 : starEach [c1, c2] X.env = (false, eval c1 X.env) :: starEach [c2] X.env := by rfl)
    (h7 : starEach [c2] X.env = (false, eval c2 X.env) :: starEach [] X.env := by rfl) (h4 : (backTo pos (starEach [.Tuple [c1, c2] z p2] X.env)).any (·.1) = false := by rfl) :
    PEv X W (.Call (.Name "isinstance" p) [e, .Tuple [c1, c2] z p2] [] pos) (v1 (isD tab) fe) := by
  refine pe_imp (pe_callB call_isN hg hm PyProof.Rows.boot_isinstance (pa_cons he (pa_cons (pe_tup (pa_cons hc1 (pa_cons hc2 pa_nil h7) h6)) pa_nil h5) h3) (by decide) (by decide) h3 h4) fun σ H Q t => ?_
  refine t_mono (T.bind (R := RV) t) fun v H1 ⟨ρ, S, m, F, d, st, r, q⟩ => ?_
  unfold isD at q
  cases q1 : tyOf S d with
  | none => rw [q1] at q; exact q.elim
  | some ty =>
    rw [q1] at q
    have q' : Post X.K F RV _ S m H1 (match tab ty with | some b => Res.ok (D.bl b) S | none => .bad) Q := q
    cases q2 : tab ty with
    | none => rw [q2] at q'; exact q'.elim
    | some b =>
      rw [q2] at q'
      refine ⟨by show 2 ≤ sizeLine; decide, fun tp hn => ?_⟩
      obtain ⟨l, rs2⟩ := grow (H' := upd H1 tp (.tup [cv1, cv2])) st.s (upd_keeps hn)
      exact ⟨v, tp, [cv1, cv2], ty.v X.K, [u1, u2], b, rfl, upd_same, .cons k1 (.cons k2 .nil), kitV_of rs2 (r.le l.rc) q1 (fun C h => f.i C b (h ▸ q2)) (fun C h => f.x C b (h ▸ q2)), f.k ty b q2, (q'.from l).ok rs2 (.bl b)⟩
/-- e.f, e an exception of one of the classes l -/
def xfldD (l : List Nat) (f : Str) (d : D) (S : Sto) : Res D := match d with
  | .exi C' fs => if l.contains C' = true then (match fs.lookup f with
    | some d => .ok d S
    | none => .bad) else .bad
  | _ => .bad
theorem pev_xfld {l : List Nat} {f : Str} (hx : ∀ C, l.contains C = true → XfC X.K (ca X.K C) ∧ PySem.W.findIn X.K (.ref (ca X.K C)) f = some none) (he : PEv X W e fe) (hb : attributeBase e f X.env (eval e X.env) = eval e X.env := by rfl) : PEv X W (.Attribute e f pos) (v1 (xfldD l f) fe) := by
  refine ⟨fun pins s σ H Q I h => ?_⟩
  have hO := he.run pins s σ H _ I (T.bind (R := RV) h)
  refine attr_of hb (thn hO fun u s1 ⟨x, H1, I1, rx, ρ, S, m, F, d, st, r, q⟩ => ?_)
  unfold xfldD at q
  split at q
  · rename_i C' fs
    split at q
    · rename_i ec
      obtain ⟨xf, hno⟩ := hx C' ec
      split at q
      · rename_i d' el
        cases r with
        | @exi a _ dx fvs _ h n h2 n2 r2 =>
          obtain rfl : u = Value.ref a := rx
          obtain ⟨t1, ho⟩ := exo_at I1.hok h
          obtain ⟨mA, hns, hr⟩ := exd_at I1.hok h2
          obtain ⟨v', l1, rv'⟩ := r2.lookup el
          obtain ⟨od, hod, hl⟩ := lookIn_ns hns
          obtain ⟨u', hu, ru⟩ := RelO.some_of (v := v') (o := mA f) (by rw [← l1]; exact hr f)
          have J : PySem.W.InstAt s1.heap a _ (ca X.K C') (some od) := ⟨ho, rfl, rfl, hod⟩
          exact HandSPX.exc_get I1.kIn J xf.ga xf.gg xf.exC (PySem.W.findObj_own xf.hdC hno rfl (by rw [hl, hu])) (handed_of ru) ⟨v', H1, I1.tok _, ru, q.ok st.s rv'⟩
      · exact q.elim
    · exact q.elim
  · exact q.elim
end
end Ev

set_option Elab.async false
set_option linter.all false
set_option maxRecDepth 100000
set_option maxHeartbeats 4000000
/-! Ev17: boxes (lists by reference), repr. -/
namespace Ev
open PySem PySem.Spec L2
open PyProof.Rows hiding St

section
variable {K : PySem.W.Frag} {F : Addr → Prop} {S : Sto} {m : List Addr} {H : Hp}
/-- a new object of the store -/
theorem RS.newbox (rs : RS K F S m H) {p : Addr} {o : HO} {so : SO} (hp : H p = none) (ro : ∀ c : RC, (rc K F S m H).Le c → c.H = upd H p o → RO c p so) :
    Le S m H (S ++ [some so]) (m ++ [p]) (upd H p o) ∧ RS K F (S ++ [some so]) (m ++ [p]) (upd H p o) := by
  have nL : ¬ Live S m p := fun h => by obtain ⟨u, e⟩ := rs.tracked h; rw [hp] at e; cases e
  have nF : ¬ F p := fun h => by obtain ⟨u, e⟩ := rs.ft p h; rw [hp] at e; cases e
  have live : ∀ a, Live (S ++ [some so]) (m ++ [p]) a → Live S m a ∨ a = p := fun a ⟨n, s, h1, h2⟩ => by
    by_cases hn : n < S.length
    · rw [List.getElem?_append_left hn] at h1
      rw [List.getElem?_append_left (by rw [rs.len]; exact hn)] at h2
      exact .inl ⟨n, s, h1, h2⟩
    · have hn2 : n < (S ++ [some so]).length := (List.getElem?_eq_some_iff.mp h1).1
      have e : n = S.length := by rw [List.length_append] at hn2; simp at hn2; omega
      subst e
      rw [← rs.len, List.getElem?_append_right (Nat.le_refl _)] at h2
      simp at h2
      exact .inr h2.symm
  have l : Le S m H (S ++ [some so]) (m ++ [p]) (upd H p o) := ⟨fun a u e n => ⟨upd_keeps hp a u e, fun z => (live a z).elim n fun z => by rw [z, hp] at e; cases e⟩, [p], rfl⟩
  refine ⟨l, by simp [rs.len], fun n s a h1 h2 => ?_, fun n n' s s' a h1 h2 h3 h4 => ?_, fun a h => let ⟨u, e⟩ := rs.ft a h; ⟨u, upd_keeps hp a u e⟩, fun a h z => (live a z).elim (rs.fd a h) fun z => nF (z ▸ h)⟩
  · by_cases hn : n < S.length
    · rw [List.getElem?_append_left hn] at h1
      rw [List.getElem?_append_left (by rw [rs.len]; exact hn)] at h2
      exact (rs.ob n s a h1 h2).le l.rc (upd_keeps hp a)
    · have hn2 : n < (S ++ [some so]).length := (List.getElem?_eq_some_iff.mp h1).1
      have e : n = S.length := by rw [List.length_append] at hn2; simp at hn2; omega
      subst e
      rw [List.getElem?_append_right (Nat.le_refl _)] at h1
      rw [← rs.len, List.getElem?_append_right (Nat.le_refl _)] at h2
      simp at h1 h2
      subst h1 h2
      exact ro _ l.rc rfl
  · have key : ∀ {k : Nat} {s : SO}, (S ++ [some so])[k]? = some (some s) → (m ++ [p])[k]? = some a → (k < S.length ∧ S[k]? = some (some s) ∧ m[k]? = some a) ∨ (k = S.length ∧ a = p) := fun {k s} g1 g2 => by
      by_cases hn : k < S.length
      · rw [List.getElem?_append_left hn] at g1
        rw [List.getElem?_append_left (by rw [rs.len]; exact hn)] at g2
        exact .inl ⟨hn, g1, g2⟩
      · have hn2 : k < (S ++ [some so]).length := (List.getElem?_eq_some_iff.mp g1).1
        have e : k = S.length := by rw [List.length_append] at hn2; simp at hn2; omega
        refine .inr ⟨e, ?_⟩
        subst e
        rw [← rs.len, List.getElem?_append_right (Nat.le_refl _)] at g2
        simp at g2
        exact g2.symm
    rcases key h1 h3 with ⟨a1, a2, a3⟩ | ⟨a1, a2⟩
    · rcases key h2 h4 with ⟨b1, b2, b3⟩ | ⟨b1, b2⟩
      · exact rs.inj n n' s s' a a2 b2 a3 b3
      · exact absurd ⟨n, s, a2, by rw [← b2]; exact a3⟩ nL
    · rcases key h2 h4 with ⟨b1, b2, b3⟩ | ⟨b1, b2⟩
      · exact absurd ⟨n', s', b2, by rw [← a2]; exact b3⟩ nL
      · rw [a1, b1]
/-- an object of the store is written -/
theorem RS.wrbox (rs : RS K F S m H) {n : Nat} {a : Addr} {o : HO} {so so' : SO} (hn : S[n]? = some (some so)) (ha : m[n]? = some a) (ro : ∀ c : RC, (rc K F S m H).Le c → c.H = upd H a o → RO c a so') :
    Le S m H (S.set n (some so')) m (upd H a o) ∧ RS K F (S.set n (some so')) m (upd H a o) := by
  have hl : n < S.length := (List.getElem?_eq_some_iff.mp hn).1
  have La : Live S m a := ⟨n, so, hn, ha⟩
  have back : ∀ {k : Nat} {s : SO}, (S.set n (some so'))[k]? = some (some s) → ∃ s', S[k]? = some (some s') := fun {k s} h => by
    by_cases e : n = k
    · exact ⟨so, e ▸ hn⟩
    · rw [List.getElem?_set_ne e] at h
      exact ⟨s, h⟩
  have live : ∀ b, Live (S.set n (some so')) m b → Live S m b := fun b ⟨k, s, h1, h2⟩ => let ⟨s', h3⟩ := back h1; ⟨k, s', h3, h2⟩
  have ne : ∀ {b : Addr}, ¬ Live S m b → b ≠ a := fun nb z => nb (z ▸ La)
  have l : Le S m H (S.set n (some so')) m (upd H a o) := ⟨fun b u e nb => ⟨(upd_ne (ne nb)).trans e, fun z => nb (live b z)⟩, [], by simp⟩
  refine ⟨l, by simp [rs.len], fun k s b h1 h2 => ?_, fun k k' s s' b h1 h2 h3 h4 => ?_, fun b h => ?_, fun b h z => rs.fd b h (live b z)⟩
  · by_cases e : n = k
    · subst e
      rw [List.getElem?_set_self hl] at h1
      cases h1
      rw [ha] at h2
      cases h2
      exact ro _ l.rc rfl
    · rw [List.getElem?_set_ne e] at h1
      have hb : b ≠ a := fun z => e (rs.inj n k so s a hn h1 ha (z ▸ h2))
      exact (rs.ob k s b h1 h2).le l.rc fun u hu => (upd_ne hb).trans hu
  · obtain ⟨s1, g1⟩ := back h1
    obtain ⟨s2, g2⟩ := back h2
    exact rs.inj k k' s1 s2 b g1 g2 h3 h4
  · have nb : ¬ Live S m b := rs.fd b h
    obtain ⟨u, e⟩ := rs.ft b h
    exact ⟨u, (upd_ne (ne nb)).trans e⟩
end
section
variable {X : Cx} {W : Wi} {e o i : Expr} {es : List Expr} {fe fo fi : Env → Sto → Res D} {al : Env → Sto → Res (List D)} {p1 p2 pos : Pos} {k : Nat}
/-- [..], by reference -/
def mkBox (ds : List D) (S : Sto) : Res D := if ds.length ≤ sizeLine then .ok (.box S.length) (S ++ [some (.lst ds)]) else .bad
theorem pev_box (ha : PAv X W es al) : PEv X W (.List es pos) (vL mkBox al) := by
  refine pe_imp (pe_lst ha) fun σ H Q t => ?_
  refine t_mono (T.bind (R := RVs) t) fun vs H1 ⟨ρ, S, m, F, ds, st, r, q⟩ => ?_
  unfold mkBox at q
  split at q
  · rename_i hz
    refine ⟨by rw [← r.length]; exact hz, fun p hp => ?_⟩
    obtain ⟨l, rs⟩ := st.s.newbox (o := .lst vs) (so := .lst ds) hp fun c lc hc => ⟨vs, by rw [hc]; exact upd_same, r.le lc⟩
    refine q _ _ _ l rs (.box ?_)
    show (m ++ [p])[S.length]? = some p
    rw [← st.s.len, List.getElem?_append_right (Nat.le_refl _)]
    simp
  · exact q.elim
/-- o[i] = e, o by reference -/
def sSetIx (fo fi fe : Env → Sto → Res D) (ρ : Env) (S : Sto) : SRes := (fe ρ S).toS ρ fun d S => (fo ρ S).toS ρ fun x S => (fi ρ S).toS ρ fun y S => match x, y.int? with
  | .box n, some k => (match getL S n with
    | some ds => (match ixN ds.length k with
      | some j => .nx ρ (S.set n (some (.lst (ds.set j d))))
      | none => .bad)
    | none => .bad)
  | _, _ => .bad
theorem psv_setIx (ho : PEv X W o fo) (hi : PEv X W i fi) (he : PEv X W e fe)
    (hs : swapsWithSole [.Subscript o i p1] e pos.line X.env = pure false := by rfl) (hw : swappedStores [.Subscript o i p1] e X.env = pure none := by rfl)
    (h1 : (assignEach [.Subscript o i p1] X.env).map (·.2) = [assign (.Subscript o i p1) X.env] := by rfl)
    (ha : ∀ v, assign (.Subscript o i p1) X.env v = (do
      let ov ← holding [v] (eval o X.env)
      let iv ← holding [v, ov] (eval i X.env)
      standAt p1
      holding [v, ov, iv] (setItem ov iv v)
      release [v, ov, iv] []) := by intro _; rfl) : PSv X W (.Assign [.Subscript o i p1] e pos) (sSetIx fo fi fe) := by
  refine ps_imp (ps_asg he (pg_sub ho hi set_list ha) hs hw h1) fun Dn σ H t => ?_
  refine t_mono (T.toS (R := RV) t) fun v H1 ⟨ρ, S, m, F, d, st, r, p⟩ => ?_
  refine ⟨ρ, S, m, F, st, (p.toS (R := RV) st).mono (fun ov H2 ⟨S1, m1, x, l1, st1, r1, q1⟩ => ?_) fun _ _ _ h => h⟩
  refine ⟨ρ, S1, m1, F, st1, (q1.toS (R := RV) st1).mono (fun iv H3 ⟨S2, m2, y, l2, st2, r2, q2⟩ => ?_) fun _ _ _ h => h⟩
  cases x with
  | box n =>
    cases e1 : y.int? with
    | none => rw [e1] at q2; exact q2.elim
    | some k =>
      rw [e1] at q2
      dsimp only at q2
      split at q2
      · rename_i ds e2
        split at q2
        · rename_i j e3
          have ri := int_ok r2 e1
          subst ri
          have rb := r1.le l2.rc
          cases rb with
          | @box n' a hb =>
            obtain ⟨xs, hx, rx⟩ := st2.s.ob n _ a (getL_eq e2) hb
            refine ⟨a, xs, k, j, rfl, rfl, hx, by rw [← rx.length]; exact e3, ?_⟩
            have rd := (r.le l1.rc).le l2.rc
            obtain ⟨l3, rs3⟩ := st2.s.wrbox (o := .lst (xs.set j v)) (so' := .lst (ds.set j d)) (getL_eq e2) hb fun c lc hc => ⟨_, by rw [hc]; exact upd_same, (rx.le lc).set (rd.le lc) j⟩
            exact q2 _ _ _ _ l3.toS (st2.le l3 rs3)
        · exact q2.elim
      · exact q2.elim
  | _ => exact q2.elim
/-- repr(e) -/
theorem call_reprG (hr : Rm k X.A) : CallR X (.builtin "repr") (fun xs H Q => ∃ x t, xs = [x] ∧ Shows X.K x H t ∧ Q (.str t) H) := by
  intro pins s σ H xs us Q I r ⟨x, t, ex, ⟨d, dp, h1, h2, h3, h4, et⟩, q⟩
  subst ex et
  obtain ⟨u, rfl, ru⟩ := vals1 r
  have hun := hr.r.un
  obtain ⟨as, rd⟩ := Dp.reads I d x u dp ru
  cases rd with
  | none => exact PySem.P.repr_of_none ⟨.str _, H, I.tok _, ⟨_, rfl⟩, q⟩
  | bool b => exact PySem.P.repr_of_bool ⟨.str _, H, I.tok _, ⟨_, rfl⟩, q⟩
  | int i t => exact PySem.P.repr_of_int (of_decide_eq_true h1) ⟨.str _, H, I.tok _, ⟨_, rfl⟩, q⟩
  | str x t => exact PySem.P.repr_of_str ⟨.str _, H, I.tok _, ⟨_, rfl⟩, q⟩ h4
  | list a b c f => exact repr_of_reads' (.list a b c f) h1 (fun z => by rw [h2] at z; cases z) hr.g (by omega) (fun _ _ z => z) (fun h' u' tk hk => ⟨.str _, H, I.kept hk, ⟨_, rfl⟩, q⟩) h4
  | tuple a b c f => exact repr_of_reads' (.tuple a b c f) h1 (fun z => by rw [h2] at z; cases z) hr.g (by omega) (fun _ _ z => z) (fun h' u' tk hk => ⟨.str _, H, I.kept hk, ⟨_, rfl⟩, q⟩) h4
  | dict a b c f g => cases h2
theorem br_repr (hr : Rm k X.A) : BltR X (.builtin "repr") (arg1 reprD) := by
  refine ⟨_, call_reprG hr, (impL1 (r := fun v H Q => ∃ t, Shows X.K v H t ∧ Q (.str t) H) ?_).imp fun vs H Q ⟨v, e, t, h, q⟩ => ⟨v, t, e, h, q⟩⟩
  intro F WE S m H x v Q rs rv p
  unfold reprD at p
  split at p
  · rename_i t e
    exact ⟨t, shown_ok rs rv e, p.ok rs (.str _)⟩
  · exact p.elim
end
end Ev

set_option Elab.async false
set_option linter.all false
set_option maxRecDepth 100000
set_option maxHeartbeats 4000000
/-! Ev18: own exceptions made with a keyword. -/
namespace PySem
namespace EvX
open PySem.W PySem.Calls PyProof.Rows PySem.HandSPX
section
variable {prog : Program} {w : World} {A : Around} {E : Value → Shared → Prop} {R : Result → Shared → Prop} {h : Heap} {g : Array GenState} {d : Drawn} {t : Nat} {os : OsState}
variable {nm q : Str} {C N : Addr} {bs bm bmB : List Value} {hdct : Bool} {sn : List Str} {sub : List Value} {ab : Bool} {col : Option Bool} {dd : Option Addr} {k0 k1 k2 k3 k5 : Option Value} {B newId initId : String}
theorem new_checkK (F : ExcBaseFacts B newId initId bmB) (hT : ∀ X : String, bm.contains (.type X) = bmB.contains (.type X)) {kw : List (Str × Value)} {M : Model} {Q : Unit → Shared → Prop}
    (hC : h.get? C = some (excClassObj nm q C N bs bm hdct sn sub ab col dd k0 k1 k2 k3 k5 newId)) (hq : Q () ⟨h, g, d, t, os⟩) : wpAny M A (checkBuiltinCall newId ⟨[.ref C], kw⟩) Q E ⟨h, g, d, t, os⟩ := by
  have hcont : (Value.ref C :: bm).contains (.type B) = true := by rw [List.contains_cons, hT, F.hasB, Bool.or_true]
  have hstar := F.noStar
  simp only [checkBuiltinCall, F.newKind, F.newSplit, F.newRow]
  repeat (first | refine wpAny_loadPart_at hC ?_ | (refine wpAny_isSubtype_exc hC ?_; rw [hcont]) | refine wpAny_staticBase_exc hC ?_ | refine wpAny_madeBy_exc hC ?_ | simp only [bne_self_eq_false, Bool.false_eq_true, if_false] | wp_step)
  exact hq
theorem new_ownK (F : ExcBaseFacts B newId initId bmB) (hT : ∀ X : String, bm.contains (.type X) = bmB.contains (.type X)) {kn : Str} {kv : Value}
    (hC : h.get? C = some (excClassObj nm q C N bs bm hdct sn sub ab col dd k0 k1 k2 k3 k5 newId))
    (hq : R (.ok (.ret (.ref (h.objs.size + 1)))) ⟨(h.push { cls := .type "tuple", data := .seq ([] : List Value).toArray }).push
      { cls := .ref C, data := .fields #[.ref h.objs.size, .none, .none, .none, .bool false, .none] }, g, d, t, os⟩) :
    codeAny (model prog w) A (.builtin newId ⟨[.ref C], [(kn, kv)]⟩) R ⟨h, g, d, t, os⟩ := by
  have hends := F.ends
  have hcB : (Value.ref C :: bm).contains (.type B) = true := by rw [List.contains_cons, hT, F.hasB, Bool.or_true]
  have hcA : (Value.ref C :: bm).contains (.type "AttributeError") = false := by rw [List.contains_cons, hT, F.noAttr]; rfl
  have hcN : (Value.ref C :: bm).contains (.type "NameError") = false := by rw [List.contains_cons, hT, F.noName]; rfl
  refine codeAny_builtinAt F.entry ?_
  unfold Builtin.«BaseException.__new__»
  refine wpAt_bind ?_
  show wpAt _ _ _ (stack >>= _) _ _ _
  refine wpAt_bind (wpAt_stack fun p below => wpAt_of_wpAny ?_)
  wp_walk
  refine wpAt_of_wpAny ?_
  rw [F.owner]
  repeat (first | with_reducible refine wpAny_madeHere_exc F.canon hC ?_ | with_reducible refine wpAny_loadPart_at hC ?_ | (with_reducible refine wpAny_isSubtype_exc hC ?_; first | rw [hcB] | rw [hcA] | rw [hcN]) | wp_step)
  show R _ _
  rw [Heap.size_push]
  exact hq
theorem type_call_ownK (F : ExcBaseFacts B newId initId bmB) (hT : ∀ X : String, bm.contains (.type X) = bmB.contains (.type X)) {kn : Str} {kv : Value} {fI : Addr} {Q : Fin → Shared → Prop}
    (hC : h.get? C = some (excClassObj nm q C N bs bm hdct sn sub ab col dd k0 k1 k2 k3 k5 newId))
    (hi : W.Looks (model prog w) h (typeLookup (.ref C) "__init__") (some (.ref fI))) (hb : ∀ self, W.Looks (model prog w) h (bindSpecial (.ref fI) self) (.ref fI, [self]))
    (hq : codeAny (model prog w) A (.call (.ref fI) ⟨[.ref (h.objs.size + 1)], [(kn, kv)]⟩)
      (fun r s' => match r with | .ok (.ret v) => v = .none ∧ Q (.done (.ret (.ref (h.objs.size + 1)))) s' | .ok _ => False | .error e => E e s')
      ⟨(h.push (W.kdv_tup [])).push (excO C h.objs.size), g, d, t, os⟩) :
    wpAny (model prog w) A (Builtin.«type.__call__» ⟨[.ref C], [(kn, kv)]⟩) Q E ⟨h, g, d, t, os⟩ := by
  repeat (first | with_reducible refine wpAny_loadPart_at hC ?_ | with_reducible refine wpAny_madeBy_exc hC ?_ | wp_step)
  refine codeAny_call_builtin_code (Code.quiet_builtin _ F.quiet) (new_checkK F hT hC ?_)
  refine new_ownK F hT hC ?_
  show wpAny _ _ _ _ _ _
  have k : ∀ b o, h.get? b = some o → ((h.push (W.kdv_tup [])).push (excO C h.objs.size)).get? b = some o := fun b o e => Heap.get?_push_of_some _ (Heap.get?_push_of_some _ e)
  have hC1 := k _ _ hC
  have hget : ((h.push (W.kdv_tup [])).push (excO C h.objs.size)).get? (h.objs.size + 1) = some (excO C h.objs.size) := by heap_get
  have hcC : (Value.ref C :: bm).contains (.ref C) = true := by simp
  have i1 := hi.keeps k
  have b1 := (hb (.ref (h.objs.size + 1))).keeps k
  unfold isInstance
  repeat (first | with_reducible refine wpAny_loadPart_at hget ?_ | (with_reducible refine wpAny_isSubtype_exc hC1 ?_; rw [hcC]) | wp_step)
  show wpAny _ _ (typeLookup (.ref C) _) _ _ _
  refine i1.at ?_
  refine wpAny_holding (wpAny_bind (b1.at ?_))
  refine wpAny_bind (wpAny_call (codeAny_mono hq fun r s' z => ?_))
  rcases r with e | (v | _ | _ | _) <;> first | exact z | exact z.elim | skip
  obtain ⟨rfl, z⟩ := z
  first
    | exact wpAny_pure (wpAny_pure z)
    | (wp_walk; exact z)
theorem call_ownK (F : ExcBaseFacts B newId initId bmB) (hT : ∀ X : String, bm.contains (.type X) = bmB.contains (.type X)) {kn : Str} {kv : Value} {fI : Addr}
    (hC : h.get? C = some (excClassObj nm q C N bs bm hdct sn sub ab col dd k0 k1 k2 k3 k5 newId))
    (hi : W.Looks (model prog w) h (typeLookup (.ref C) "__init__") (some (.ref fI))) (hb : ∀ self, W.Looks (model prog w) h (bindSpecial (.ref fI) self) (.ref fI, [self]))
    (hq : codeAny (model prog w) (A.under (.builtin "type.__call__" ⟨[.ref C], [(kn, kv)]⟩)) (.call (.ref fI) ⟨[.ref (h.objs.size + 1)], [(kn, kv)]⟩) (W.InitBack (h.objs.size + 1) R)
      ⟨(h.push (W.kdv_tup [])).push (excO C h.objs.size), g, d, t, os⟩) :
    codeAny (model prog w) A (.call (.ref C) ⟨[], [(kn, kv)]⟩) R ⟨h, g, d, t, os⟩ := by
  have f1 := tc_lookup
  have f2 := tc_bind (.ref C)
  have hTy : (⟨h, g, d, t, os⟩ : Shared).TypeIs (.ref C) "type" := ⟨_, hC, rfl⟩
  refine codeAny_of_tree ?_
  show wpAny _ _ (callAny (.ref C) _) _ _ _
  repeat (any_goals (first | assumption | with_reducible refine wpAny_loadPart_at hC ?_ | wp_step))
  refine ⟨rfl, ?_⟩
  refine codeAny_call_builtin_at (Code.quiet_builtin _ (by decide +kernel)) entry_typeCall (wpAny_check_type_call_sub hC (type_call_ownK F hT hC hi hb ?_))
  refine codeAny_mono hq fun r s' z => ?_
  rcases r with e | (v | _ | _ | _) <;> exact z
end
end EvX
end PySem

namespace Ev
open PySem PySem.Spec L2
open PyProof.Rows hiding St
section
variable {X : Cx} {W : Wi} {k lv C : Nat} {fld x : Str} {p pos kp : Pos} {e : Expr} {fe : Env → Sto → Res D}
/-- the class, called with one keyword: the exception stands, made -/
theorem run_excK {pins : List (Addr × Obj)} {σ : St} {H : Hp} {s : Shared} {u : Value} {v : V} {t : Str} {Qf : Value → Shared → Prop} (G : XcG X k C fld) (hr : Rm (k + 1) X.A) (I : Inv X pins σ H s) (r : RelV v u) (sh : Shows X.K v H t) (hz : t.length + 200 ≤ sizeLine)
    (h : ∀ (hp2 h2 : Heap) (g2 : Array GenState) (d2 : Drawn) (t2 : Nat) (os2 : OsState) (a dx : Addr) (H2 : Hp), s.heap.objs.size ≤ a → H a = none → H dx = none → dx ≠ a → (∀ b o, s.heap.get? b = some o → hp2.get? b = some o) → Un (frs X.stack) [] (upd H a (exo a (ca X.K C) none)) H2 hp2 h2 → HOk X.prog X.w H2 h2 → os2 = s.os → AllBare g2 →
      H2 = upd (upd (upd H a (exo a (ca X.K C) none)) dx (exd dx [(fld, v)])) a (exo a (ca X.K C) (some dx)) → Inv X pins σ H2 ⟨h2, g2, d2, t2, os2⟩ → Qf (.ref a) ⟨h2, g2, d2, t2, os2⟩) :
    wpAny (model X.prog X.w) X.A (call (.ref (ca X.K C)) [] [(fld, u)]) Qf X.xe s := by
  obtain ⟨B, newId, initId, bmB, f, fd, eb, T, iC, tI, _, hb, Pr⟩ := G.ex
  obtain ⟨nm, q, N, bs, sn, sub, ab, col, dd, k0, k1, k2, k3, k5, hC⟩ := T.cls
  obtain ⟨hp, g, dr, tk, os⟩ := s
  have hsz : hp.objs.size ≤ hp.objs.size + 1 := Nat.le_succ _
  have hn : H (hp.objs.size + 1) = none := I.hok.fresh hsz
  have kk : ∀ b o, hp.get? b = some o → ((hp.push (PySem.W.kdv_tup [])).push (PySem.HandSPX.excO (ca X.K C) hp.objs.size)).get? b = some o := fun b o e => Heap.get?_push_of_some _ (Heap.get?_push_of_some _ e)
  have hget : ((hp.push (PySem.W.kdv_tup [])).push (PySem.HandSPX.excO (ca X.K C) hp.objs.size)).get? (hp.objs.size + 1) = some (PySem.HandSPX.excO (ca X.K C) hp.objs.size) := by heap_get
  have I2 : Inv X pins σ (upd H (hp.objs.size + 1) (exo (hp.objs.size + 1) (ca X.K C) none)) ⟨(hp.push (PySem.W.kdv_tup [])).push (PySem.HandSPX.excO (ca X.K C) hp.objs.size), g, dr, tk, os⟩ :=
    I.laid (t' := tk) (a := hp.objs.size + 1) (o := exo (hp.objs.size + 1) (ca X.K C) none) (h' := (hp.push (PySem.W.kdv_tup [])).push (PySem.HandSPX.excO (ca X.K C) hp.objs.size)) kk hsz (exo_ok hget)
  have sh2 : Shows X.K v (upd H (hp.objs.size + 1) (exo (hp.objs.size + 1) (ca X.K C) none)) t := by
    obtain ⟨d, dp, r⟩ := sh
    exact ⟨d, dp_grow (upd_keeps hn) dp, r⟩
  have bt := hb ⟨(hp.push (PySem.W.kdv_tup [])).push (PySem.HandSPX.excO (ca X.K C) hp.objs.size), g, dr, tk, os⟩ (.ref (hp.objs.size + 1)) u
  have run := Pr.run _ X.stack _ _ ⟨[.ref (hp.objs.size + 1)], [(fld, u)]⟩ [.ref (hp.objs.size + 1), u] [.ref (hp.objs.size + 1), v] (fun r H2 => r = .non ∧ ∃ dx, H dx = none ∧ dx ≠ hp.objs.size + 1 ∧ H2 = upd (upd (upd H (hp.objs.size + 1) (exo (hp.objs.size + 1) (ca X.K C) none)) dx (exd dx [(fld, v)])) (hp.objs.size + 1) (exo (hp.objs.size + 1) (ca X.K C) (some dx)))
    (fun _ _ _ => False) (hr.make (ca X.K C) [] [(fld, u)]) (I2.env0.make (ca X.K C) [] [(fld, u)]) bt (.cons rfl (.cons r .nil)) rfl ⟨_, v, t, rfl, upd_same, sh2, hz, fun dx hdx hne => ⟨rfl, dx, by rw [← hdx, upd_ne hne], hne, rfl⟩⟩
  refine wpAny_call (PySem.EvX.call_ownK eb.F (fun Y => rfl) (I.kIn _ _ hC) (PySem.W.looks_findIn I.kIn iC) (fun self => PySem.W.bind_fn I.kIn self tI) (codeAny_mono run fun r s' hq => ?_))
  match r, hq with
  | .error er, hq => exact (pass_false (E' := fun _ _ => False) pins σ _ _ er s' (I2.wish _) hq).elim
  | .ok (.ret u2), hq =>
    have I3 := I2.after (Q := fun r H2 => r = .non ∧ ∃ dx, H dx = none ∧ dx ≠ hp.objs.size + 1 ∧ H2 = upd (upd (upd H (hp.objs.size + 1) (exo (hp.objs.size + 1) (ca X.K C) none)) dx (exd dx [(fld, v)])) (hp.objs.size + 1) (exo (hp.objs.size + 1) (ca X.K C) (some dx))) hq
    obtain ⟨v2, H2, os2, bare2, un2, hok2, rv, ev, dx, hdx, hne, eH⟩ := hq
    subst ev
    obtain ⟨v3, H3, I4, rv3, ev3, dx3, hdx3, hne3, eH3⟩ := I3
    obtain ⟨h2, g2, d2, t2, os'⟩ := s'
    refine ⟨rv, ?_⟩
    have un3 : Un (frs X.stack) [] (upd H (hp.objs.size + 1) (exo (hp.objs.size + 1) (ca X.K C) none)) H2 ((hp.push (PySem.W.kdv_tup [])).push (PySem.HandSPX.excO (ca X.K C) hp.objs.size)) h2 := un2
    have e0 := os2
    subst eH
    have I5 : Inv X pins σ (upd (upd (upd H (hp.objs.size + 1) (exo (hp.objs.size + 1) (ca X.K C) none)) dx (exd dx [(fld, v)])) (hp.objs.size + 1) (exo (hp.objs.size + 1) (ca X.K C) (some dx))) ⟨h2, g2, d2, t2, os'⟩ := by
      have e5 : os' = os := os2
      subst e5
      exact I2.call (h' := h2) (g' := g2) (d' := d2) (t' := t2) (ch := []) un2 hok2 bare2 (fun b z => absurd z (by simp))
    exact h _ h2 g2 d2 t2 os' (hp.objs.size + 1) dx _ hsz hn hdx hne kk un3 hok2 os2 bare2 rfl I5
  | .ok .next, hq => exact hq.elim
  | .ok .brk, hq => exact hq.elim
  | .ok .cont, hq => exact hq.elim
theorem exc_valueK {pins : List (Addr × Obj)} {σ : St} {H : Hp} {s : Shared} {Q : VK} {F : Addr → Prop} {S : Sto} {m : List Addr} {d : D} {v : V} {u : Value} {WE : Value → Option Addr → Hp → Prop} (G : XcG X k C fld) (hr : Rm (k + 1) X.A) (I : Inv X pins σ H s) (ru : RelV v u) (rs : RS X.K F S m H) (r : RV (rc X.K F S m H) d v)
    (q : Post X.K F RV WE S m H (excD C fld d S) Q) : wpAny (model X.prog X.w) X.A (call (.ref (ca X.K C)) [] [(fld, u)]) (EP X pins σ Q) X.xe s := by
  unfold excD at q
  split at q
  · rename_i hf
    obtain ⟨t, sh, hz⟩ := xcFit_ok rs r hf
    refine run_excK G hr I ru sh hz fun hp2 h2 g2 d2 t2 os2 a dx H2 hsz ha hdx hne kk un hok ho hb eH I2 => ?_
    subst eH
    have keep : ∀ b o, H b = some o → upd (upd (upd H a (exo a (ca X.K C) none)) dx (exd dx [(fld, v)])) a (exo a (ca X.K C) (some dx)) b = some o := fun b o e => by
      have h1 : b ≠ a := fun z => by rw [z, ha] at e; cases e
      have h2 : b ≠ dx := fun z => by rw [z, hdx] at e; cases e
      rw [upd_ne h1, upd_ne h2, upd_ne h1]
      exact e
    obtain ⟨l, rs'⟩ := grow rs keep
    have nl : ∀ {b : Addr}, H b = none → ¬ (Live S m b ∨ F b) := fun h => fresh_dead rs h
    refine ⟨.ref a, _, I2, rfl, q m _ _ l rs' (.exi upd_same (nl ha) (dx := dx) (by show upd _ a _ dx = _; rw [upd_ne hne, upd_same]) (nl hdx) (.cons (r.le l.rc) .nil))⟩
  · exact q.elim
/-- C(f = e) -/
theorem pev_excK (G : XcG X k C fld) (hr : Rm lv X.A) (hk : k + 1 ≤ lv) (hg : Gl X x) (hm : X.mg x = some (.ref (ca X.K C))) (he : PEv X W e fe) (hall : (backToKw pos (keywordEach [⟨some fld, e, kp⟩] X.env)).all (·.1.isSome) = true := by rfl) (hks : (backToKw pos (keywordEach [⟨some fld, e, kp⟩] X.env)).filterMap (·.1) = [fld] := by rfl)
    (hdb : (x == ("__debug__" : Str)) = false := by decide) (hpl : ((backTo pos (starEach [] X.env)).any (·.1) || (backToKw pos (keywordEach [⟨some fld, e, kp⟩] X.env)).any (·.1.isNone)) = false := by rfl) : PEv X W (.Call (.Name x p) [] [⟨some fld, e, kp⟩] pos) (v1 (excD C fld) fe) := by
  have kC : PySem.W.keepIn X.K (.ref (ca X.K C)) = true := by
    obtain ⟨_, _, _, _, _, _, _, T, _⟩ := G.ex
    exact T.kC
  refine ⟨fun pins s σ H Q I h => wpAny_Call_Name_kw (ld_glob I hg hm ?_ hdb)⟩
  have ha := (pkv_cons (W := W) (nm := some fld) (kp := kp) he pkv_nil).run pos pins s σ H (fun vs H1 => ∃ v, vs = [v] ∧ ∃ ρ S m F d, Sta X.K W ρ S m F σ H1 ∧ RV (rc X.K F S m H1) d v ∧ Post X.K F RV (fun c d H' => W.w c d σ H') S m H1 (excD C fld d S) Q) I (by
    obtain ⟨ρ, S, m, F, st, p⟩ := h
    refine ⟨ρ, S, m, F, st, ?_⟩
    unfold aCons
    unfold v1 at p
    cases q : fe ρ S with
    | bad => rw [q] at p; exact p.elim
    | ex x S' => rw [q] at p; exact p
    | ok d S' =>
      rw [q] at p
      intro m' H' vs l rs rv
      cases rv with
      | cons r1 t =>
        cases t
        exact ⟨_, rfl, ρ, S', m', F, d, st.le l rs, r1, Post.from p l⟩)
  refine PySem.W.callWith_KW0 (h₀ := X.base) I.ok.mod.kin kC hall ?_ hpl
  refine thn ha fun us s1 ⟨vs, H1, I1, r1, v, ev, ρ, S, m, F, d, st, rd, q⟩ => ⟨I1.kIn, ?_⟩
  rw [hks]
  subst ev
  cases r1 with
  | cons ru rn =>
    cases rn
    exact exc_valueK G (hr.mono hk) I1 ru st.s rd q
end
end Ev

set_option Elab.async false
set_option linter.all false
set_option maxRecDepth 100000
set_option maxHeartbeats 4000000
/-! Ev19: facts of the written part, decided. -/
namespace Ev
open PySem PySem.Spec L2
open PyProof.Rows hiding St

def oexB (newId : String) (bmB : List Value) (K : PySem.W.Frag) (C : Addr) : Bool := match K.lookup C with
  | some ⟨.type "type", _, .cls cd, sl⟩ => (match cd.mro, sl.toList with
    | .ref C' :: bm, [_, _, _, _, some (.builtin n), _] => decide (C' = C) && (decide (bm = bmB) && (decide (n = newId) && (cd.hasDict && !cd.hasDel)))
    | _, _ => false)
  | _ => false
theorem oexB_ok {newId : String} {bmB : List Value} {K : PySem.W.Frag} {C : Addr} (h : oexB newId bmB K C = true) : ∃ nm q N bs sn sub ab col dd k0 k1 k2 k3 k5, K.lookup C = some (excClassObj nm q C N bs bmB true sn sub ab col dd k0 k1 k2 k3 k5 newId) := by
  unfold oexB at h
  split at h
  · rename_i dd cd sl ho
    split at h
    · rename_i C' bm k0 k1 k2 k3 n k5 hm hs
      simp only [Bool.and_eq_true, decide_eq_true_eq, Bool.not_eq_true'] at h
      obtain ⟨rfl, rfl, rfl, hd, hdel⟩ := h
      obtain ⟨nm, bs, mro, ns, qn, hd', sn, sub, ab, col, del⟩ := cd
      dsimp only at hm hd hdel
      subst hm hd hdel
      have hsl : sl = #[k0, k1, k2, k3, some (.builtin n), k5] := by
        obtain ⟨l⟩ := sl
        simp only at hs
        rw [hs]
      subst hsl
      exact ⟨nm, qn, ns, bs, sn, sub, ab, col, dd, k0, k1, k2, k3, k5, ho⟩
    · cases h
  · cases h
/-- an own exception class: over the base B, its one field -/
def xcB (B newId initId : String) (bmB : List Value) (fld : Str) (K : PySem.W.Frag) (C : Addr) : Bool :=
  oexB newId bmB K C && (decide (PySem.W.findIn K (.ref C) "__setattr__" = some (some (.builtin "object.__setattr__"))) && (decide (PySem.W.subIn K (.ref C) (.type "BaseException") = some true) && (decide (PySem.W.typeIn K (.ref C) = some (.type "type")) && (PySem.W.keepIn K (.ref C) &&
    (decide (PySem.W.findIn K (.ref C) fld = some none) && (decide (PySem.W.findIn K (.ref C) "__init__" = some (some (.ref (He.ma K C "__init__")))) && (decide (PySem.W.typeIn K (.ref (He.ma K C "__init__")) = some (.type "function")) && xfB K C)))))))
structure XcK (B newId initId : String) (bmB : List Value) (fld : Str) (K : PySem.W.Frag) (C : Addr) : Prop where
  o : OexG newId bmB K C
  no : PySem.W.findIn K (.ref C) fld = some none
  i : PySem.W.findIn K (.ref C) "__init__" = some (some (.ref (He.ma K C "__init__")))
  ti : PySem.W.typeIn K (.ref (He.ma K C "__init__")) = some (.type "function")
  xf : XfC K C
theorem xcB_ok {B newId initId : String} {bmB : List Value} {fld : Str} {K : PySem.W.Frag} {C : Addr} (h : xcB B newId initId bmB fld K C = true) : XcK B newId initId bmB fld K C := by
  unfold xcB at h
  simp only [Bool.and_eq_true, decide_eq_true_eq] at h
  obtain ⟨h1, h2, h3, h4, h5, h6, h7, h8, h9⟩ := h
  exact ⟨⟨oexB_ok h1, h2, h3, h4, h5⟩, h6, h7, h8, xfB_ok h9⟩
def initB (B initId : String) (K : PySem.W.Frag) : Bool := match PySem.W.findCls K (.type B) (.type "type") "__init__" with
  | some (.val (.builtin n)) => decide (n = initId)
  | _ => false
theorem initB_ok {B initId : String} {K : PySem.W.Frag} (h : initB B initId K = true) : PySem.W.findCls K (.type B) (.type "type") "__init__" = some (.val (.builtin initId)) := by
  unfold initB at h
  split at h
  · rename_i n e
    rw [e, of_decide_eq_true h]
  · cases h
/-- isinstance's questions -/
def excB (K : PySem.W.Frag) (D : Addr) : Bool := decide (PySem.W.findIn K (.ref D) "__getattribute__" = some (some (.builtin "BaseException.__getattribute__"))) && (decide (PySem.W.findIn K (.ref D) "__getattr__" = some none) && (decide (PySem.W.subIn K (.ref D) (.type "BaseException") = some true) && (PySem.W.hasDictIn K D &&
  (decide (PySem.W.findIn K (.ref D) "__class__" = some (some (.builtin "object.__class__"))) && (decide (PySem.W.specialIn K (.builtin "object.__class__") "__get__" = some (some (.builtin "getset_descriptor.__get__"))) && (decide (PySem.W.takesIn K (.builtin "object.__class__") = some true) && decide (PySem.W.mroIn K D (.type "object") = some true)))))))
theorem excB_ok {K : PySem.W.Frag} {D : Addr} (h : excB K D = true) : ExcC K D := by
  unfold excB at h
  simp only [Bool.and_eq_true, decide_eq_true_eq] at h
  obtain ⟨h1, h2, h3, h4, h5, h6, h7, h8⟩ := h
  exact ⟨h1, h2, h3, h4, h5, h6, h7, h8⟩
def insB (K : PySem.W.Frag) (D : Addr) : Bool := decide (PySem.W.findIn K (.ref D) "__class__" = some (some (.builtin "object.__class__"))) && (decide (PySem.W.specialIn K (.builtin "object.__class__") "__get__" = some (some (.builtin "getset_descriptor.__get__"))) && (decide (PySem.W.takesIn K (.builtin "object.__class__") = some true) && decide (PySem.W.mroIn K D (.type "object") = some true)))
/-- a class: its facts for isinstance; a table of answers -/
inductive Cv where
  | t (n : String)
  | c (C : Nat)
def Cv.u (K : PySem.W.Frag) : Cv → Value
  | .t n => .type n
  | .c C => .ref (ca K C)
def Cv.v (K : PySem.W.Frag) : Cv → V
  | .t n => .ty n
  | .c C => .ref (ca K C)
theorem Cv.cls (K : PySem.W.Frag) : ∀ c : Cv, ClsV (c.v K) (c.u K)
  | .t n => .ty n
  | .c C => .own _
def tabL (l : List (Ty × Bool)) (t : Ty) : Option Bool := l.lookup t
def isB (cs : List Cv) (l : List (Ty × Bool)) (K : PySem.W.Frag) : Bool := l.all fun q => decide (PySem.W.kitAny K (q.1.v K) (cs.map (Cv.u K)) = some q.2) && (match q.1 with
  | .c C => (He.Fa.cls (cn C)).ok K && insB K (ca K C)
  | .x C => excB K (ca K C)
  | _ => true)
theorem lookup_mem {α β : Type} [BEq α] [LawfulBEq α] {a : α} {b : β} : ∀ {l : List (α × β)}, l.lookup a = some b → (a, b) ∈ l
  | [], e => by cases e
  | (x, y) :: l, e => by
    rw [List.lookup_cons] at e
    cases q : a == x with
    | true =>
      rw [q] at e
      cases e
      rw [beq_iff_eq.mp q]
      exact List.mem_cons_self
    | false =>
      rw [q] at e
      exact List.mem_cons_of_mem _ (lookup_mem e)
theorem isB_ok {cs : List Cv} {l : List (Ty × Bool)} {K : PySem.W.Frag} (h : isB cs l K = true) : IsF K (cs.map (Cv.u K)) (tabL l) := by
  have key : ∀ {t : Ty} {b : Bool}, tabL l t = some b → (decide (PySem.W.kitAny K (t.v K) (cs.map (Cv.u K)) = some b) && (match t with
    | .c C => (He.Fa.cls (cn C)).ok K && insB K (ca K C)
    | .x C => excB K (ca K C)
    | _ => true)) = true := fun {t b} e => List.all_eq_true.mp h _ (lookup_mem e)
  refine ⟨fun t b e => of_decide_eq_true (Bool.and_eq_true_iff.mp (key e)).1, fun C b e => ?_, fun C b e => ?_⟩
  · have q := (Bool.and_eq_true_iff.mp (key e)).2
    dsimp only at q
    obtain ⟨q1, q2⟩ := Bool.and_eq_true_iff.mp q
    unfold insB at q2
    simp only [Bool.and_eq_true, decide_eq_true_eq] at q2
    obtain ⟨h1, h2, h3, h4⟩ := q2
    exact ⟨He.cls_ok q1, h1, h2, h3, h4⟩
  · exact excB_ok (Bool.and_eq_true_iff.mp (key e)).2
/-- which classes an except clause takes -/
def cmL (l : List (Nat × Bool)) (k : Nat) : Option Bool := l.lookup k
def cmB (c : Cv) (l : List (Nat × Bool)) (K : PySem.W.Frag) : Bool := l.all fun q => decide (PySem.W.exmOne K (.ref (ca K q.1)) (c.u K) = some q.2)
theorem cmB_ok {c : Cv} {l : List (Nat × Bool)} {K : PySem.W.Frag} (h : cmB c l K = true) : ∀ k b, cmL l k = some b → PySem.W.exmOne K (.ref (ca K k)) (c.u K) = some b := fun k b e => of_decide_eq_true (List.all_eq_true.mp h _ (lookup_mem e))
/-- the classes of l have the field -/
def xfL (l : List Nat) (f : Str) (K : PySem.W.Frag) : Bool := l.all fun C => xfB K (ca K C) && decide (PySem.W.findIn K (.ref (ca K C)) f = some none)
theorem xfL_ok {l : List Nat} {f : Str} {K : PySem.W.Frag} (h : xfL l f K = true) (C : Nat) (hC : l.contains C = true) : XfC K (ca K C) ∧ PySem.W.findIn K (.ref (ca K C)) f = some none := by
  have q := List.all_eq_true.mp h C (List.contains_iff_mem.mp hC)
  obtain ⟨h1, h2⟩ := Bool.and_eq_true_iff.mp q
  exact ⟨xfB_ok h1, of_decide_eq_true h2⟩
/-- what holds in every context of the program's module -/
abbrev Fam (P : Program) (w : World) (K : PySem.W.Frag) (mg : Str → Option Value) (base : Heap) (p : Cx → Prop) : Prop := ∀ X : Cx, X.prog = P → X.w = w → X.K = K → X.mg = mg → X.base = base → p X
section
variable {P : Program} {w : World} {K : PySem.W.Frag} {mg : Str → Option Value} {base : Heap} {k : Nat} {x qual : Str} {params : Arguments} {body : List Stmt} {scope : Scope} {f : Addr} {fd : FuncData} {ps : List Str} {kf : List D → Sto → Res D}
/-- a def of the module, by its promise -/
theorem fnG_of {kws : List (Str × V)} (Fd : FunD K x qual params body scope [] kws f fd) (hm : mg x = some (.ref f)) (Pr : FnE P w K mg base (CX P w) k f fd ps (spEv K ps.length kf))
    (h : ∀ (kV doc pm : Value) (an : Option Addr) (cdv ct : Value) (us : List Value), us.length = ps.length → bindArgs (PySem.W.fnOf x qual params body scope .none kV doc pm an cdv ct) ⟨us, []⟩ = pure (ps.zip us)) : Fam P w K mg base fun X => FnG X k x ps.length kf := fun X h1 h2 h3 h4 h5 => by
  subst h1 h2 h3 h4 h5
  exact ⟨f, fd, ps, hm, Fd.kp, rfl, Fd.bindsN h, Pr⟩
/-- an own exception class -/
theorem xcG_of {B newId initId : String} {bmB : List Value} {fld : Str} {C : Nat} {kws : List (Str × V)} (eb : ExB B newId initId bmB) (T : XcK B newId initId bmB fld K (ca K C)) (Fd : FunD K x qual params body scope [] kws (He.ma K (ca K C) "__init__") fd) (Pr : FnE P w K mg base (CX P w) k (He.ma K (ca K C) "__init__") fd ["self", fld] (spX K (ca K C) fld))
    (h : ∀ (kV doc pm : Value) (an : Option Addr) (cdv ct : Value) (us : List Value), us.length = 2 → bindArgs (PySem.W.fnOf x qual params body scope .none kV doc pm an cdv ct) ⟨us, []⟩ = pure ((["self", fld] : List Str).zip us))
    (h2 : ∀ (kV doc pm : Value) (an : Option Addr) (cdv ct : Value) (a u : Value), bindArgs (PySem.W.fnOf x qual params body scope .none kV doc pm an cdv ct) ⟨[a], [(fld, u)]⟩ = pure [(("self" : Str), a), (fld, u)]) : Fam P w K mg base fun X => XcG X k C fld := fun X h1 h2' h3 h4 h5 => by
  subst h1 h2' h3 h4 h5
  refine ⟨B, newId, initId, bmB, _, fd, eb, T.o, T.i, T.ti, Fd.bindsN h, fun s a u => ?_, Pr⟩
  obtain ⟨oc, od, dV, kV, doc, pm, an, cdv, ct, osl, rfl, lk, hcd, hD, hK⟩ := Fd.ex
  rcases hD with ⟨_, rfl⟩ | ⟨e, _⟩
  · exact .of_eq (h2 kV doc pm an cdv ct a u)
  · exact absurd rfl e
end
end Ev

set_option Elab.async false
set_option linter.all false
set_option maxRecDepth 100000
set_option maxHeartbeats 4000000
/-! Ev20: small things for the printed derivations. -/
namespace Ev
open PySem PySem.Spec L2
open PyProof.Rows hiding St
def clsBody (s : Stmt) : List Stmt := match s with
  | .ClassDef _ _ _ b _ _ _ _ _ _ _ => b
  | _ => []
theorem pev_gint {X : Cx} {W : Wi} {x : Str} {i : Int} {pos : Pos} (hg : Gl X x) (h : ∃ t, X.mg x = some (.int i t)) (hd : (x == ("__debug__" : Str)) = false := by decide) : PEv X W (.Name x pos) (vC (.int i)) := by
  obtain ⟨t, hm⟩ := h
  exact pev_glob (v := .int i) hg hm ⟨t, rfl⟩ (fun _ _ => .int i) hd
/-- one class alone is taken -/
theorem cmIn {l : List (Nat × Bool)} {C : Nat} (h : cmL l C = some true) {k : Nat} (e : l = [(k, true)] := by rfl) : C = k := by
  subst e
  have := lookup_mem h
  simp at this
  exact this
/-- return e, where no exception may leave -/
def sRetX (f : Env → Sto → Res D) (ρ : Env) (S : Sto) : SRes := match f ρ S with
  | .ok d S => .ret d S
  | _ => .bad
theorem retX_hg {f f' : Env → Sto → Res D} {ρ ρ' : Env} {S : Sto} (e : f ρ S = f' ρ' S) : sRet f ρ S = sRetX f' ρ' S ∨ sRetX f' ρ' S = .bad := by
  unfold sRet sRetX
  rw [e]
  cases f' ρ' S with
  | ok d S => exact .inl rfl
  | ex x S => exact .inr rfl
  | bad => exact .inr rfl
end Ev

set_option Elab.async false
set_option linter.all false
set_option maxRecDepth 100000
set_option maxHeartbeats 4000000
/-! Ev21: the end: the law's promise, at the claim's caller. -/
namespace Ev
open PySem PySem.Spec L2
open PyProof.Rows hiding St

section
variable {P : Program} {w : World} {K : PySem.W.Frag} {mg mb : Str → Option Value} {k : Nat} {fa a : Addr} {sp : Sp} {s₁ : Shared} {vs : List Value} {ns : List Int}
theorem law_callE (KX : K.In s₁.heap) (hns : s₁.heap.Ns mainGlobals mg) (hb : s₁.heap.Ns builtinsNs mb) (hbb : ∀ x : Str, x ≠ "__name__" → mb x = bootBuiltins x) (hlim : s₁.heap.NoLimit) (hg : s₁.gens = #[])
    (ha : s₁.heap.get? a = some { cls := .type "list", data := .seq vs.toArray }) (hi : IntsAre vs ns) (hl : ns.length ≤ sizeLine) (hr : Rm k callerA) (F : ∀ base : Heap, K.In base → base.Ns mainGlobals mg → FrE P w K mg base (CX P w) k fa sp)
    (hsp : ∀ H : Hp, SqL K H a (ns.map V.int) → sp [.ref a] H (fun v _ => v = .bl true) fun _ _ _ => False) :
    codeAny (model P w) callerA (.call (.ref fa) ⟨[.ref a], []⟩) (fun r s' => r = .ok (.ret (.bool true)) ∧ OldK s₁.heap s'.heap ∧ s'.os = s₁.os ∧ AllBare s'.gens) s₁ := by
  have rv := vals_ints hi
  have lenV := hi.length
  have core : ∀ H : Hp, Only H → SqL K H a (ns.map V.int) → HOk P w H s₁.heap → (∀ b, H b ≠ none → b = a) → (H a ≠ none → K.lookup a = none) →
      codeAny (model P w) callerA (.call (.ref fa) ⟨[.ref a], []⟩) (fun r s' => r = .ok (.ret (.bool true)) ∧ OldK s₁.heap s'.heap ∧ s'.os = s₁.os ∧ AllBare s'.gens) s₁ := by
    intro H hO hS hok hA hK
    have only : ∀ {b : Addr} {u : HO}, H b = some u → b = a := fun {b u} e => hA b (by rw [e]; simp)
    have kept : ∀ {b : Addr} {o : Obj}, s₁.heap.get? b = some o → H b = none → (hidT s₁.heap H).get? b = some o := fun e n => hidT_get e n
    have nsK : ∀ {b : Addr} {m : Str → Option Value}, s₁.heap.Ns b m → (hidT s₁.heap H).Ns b m := fun {b m} ⟨o, es, ep, e, d, r⟩ => ⟨o, es, ep, kept e (by
      cases q : H b with
      | none => rfl
      | some u =>
        have z := only q
        subst z
        rw [ha] at e
        cases e
        have d' : Data.seq vs.toArray _ = Data.dict es ep := d
        cases d'), d, r⟩
    have hKb : K.In (hidT s₁.heap H) := fun b o e => kept (KX b o e) (by
      cases q : H b with
      | none => rfl
      | some u =>
        have z := only q
        subst z
        rw [hK (by rw [q]; simp)] at e
        cases e)
    have hM : Mod K mg (hidT s₁.heap H) := ⟨hKb, nsK hns, ⟨mb, nsK hb, hbb⟩, let ⟨mc, h1, h2⟩ := hlim; ⟨mc, nsK h1, h2⟩⟩
    have e0 : Env0 P w K mg (hidT s₁.heap H) callerA [] s₁ H := ⟨rfl, hM, fun b o e => of_hidT e, Nat.le_of_eq (hidT_size _ _), trivial, fun b hb => absurd (show b ∈ ([] : List Addr) from hb) (by simp), hok, .of_eq hg⟩
    refine codeAny_mono ((F _ hKb (nsK hns)).run callerA [] s₁ H [.ref a] [.ref a] _ _ hr e0 (.cons rfl .nil) (hsp H hS)) fun r s' h => ?_
    match r, h with
    | .error e, ⟨_, _, _, _, _, _, _, _, _, _, _, _, z⟩ => exact z.elim
    | .ok (.ret u), ⟨v, H', os, bare, un, hok', r', q⟩ =>
      have q' : v = .bl true := q
      subst q'
      obtain rfl : u = Value.bool true := r'
      refine ⟨rfl, OldK.of_keep fun b o e => ?_, os, bare⟩
      cases q : H b with
      | none => exact un.keep b o e q (by intro z; exact absurd (show b ∈ ([] : List Addr) from z) (by simp)) (by simp)
      | some u =>
        rcases hO b with z | ⟨ob, xs, z⟩
        · rw [q] at z; cases z
        · obtain ⟨e1, _⟩ := hok b _ z
          obtain ⟨e2, _⟩ := hok' b _ (un.frzs b ob _ z)
          rw [e] at e1; cases e1
          exact e2
    | .ok .next, h => exact False.elim h
    | .ok .brk, h => exact False.elim h
    | .ok .cont, h => exact False.elim h
  cases hk : K.lookup a with
  | some o =>
    have e := KX a o hk
    rw [ha] at e
    cases e
    refine core (fun _ => none) (fun _ => .inl rfl) (.inr ⟨_, vs.toArray, _, hk, rfl, rfl, rfl, by rw [List.size_toArray, lenV]; exact hl, by simpa using rv⟩) (fun b u z => by have z' : (none : Option HO) = some u := z; cases z') (fun b z => absurd rfl z) fun z => absurd rfl z
  | none =>
    refine core (fun b => if b = a then some (.frz { cls := .type "list", data := .seq vs.toArray } (.lst (ns.map V.int))) else none) (fun b => ?_) (.inl (.inr ⟨{ cls := .type "list", data := .seq vs.toArray }, if_pos rfl⟩)) (fun b u z => ?_) (fun b z => ?_) fun _ => hk
    · by_cases hb : b = a
      · exact .inr ⟨_, _, if_pos hb⟩
      · exact .inl (if_neg hb)
    · by_cases hb : b = a
      · have z' := (if_pos hb).symm.trans z
        cases z'
        subst hb
        exact ⟨ha, by rw [List.length_map]; exact hl, vs, _, rv, ha⟩
      · have z' := (if_neg hb).symm.trans z
        cases z'
    · by_cases hb : b = a
      · exact hb
      · exact absurd (if_neg hb) z
end
/-- the law, from its promise on data -/
theorem walk_ev {l : PySem.W.OpenLaw} {n k : Nat} {q : Program} {loose : List Str} {XP : (Str → Option Value) → Heap → Prop} {YP : World → Heap → Prop} {d : DefRec} {kf : List D → Sto → Res D}
    (hn : l.most = some n) (hn2 : n ≤ sizeLine) (hdf : d.params.defaults = []) (hr : Room k callerA)
    (F : ∀ (w : World) (mg : Str → Option Value) (fa : Addr) (h : Heap), YP w h → h.Ns mainGlobals mg → mg d.name = some (.ref fa) →
      ∃ K : PySem.W.Frag, K.In h ∧ ∀ base : Heap, FrE l.prog w K mg base (CX l.prog w) k fa (spEv K 1 kf))
    (hk : ∀ ns : List Int, ns.length ≤ n → (∀ z ∈ ns, Builtin.Int.intBits z ≤ 1048576) → ∃ S, kf [.fro (ns.map D.int)] [] = .ok (.bl true) S) :
    PySem.W.WalkO q loose XP YP l.row.toRowW d [] (fun f vs => PySem.call f vs) := by
  refine Att.attach_callB hn hdf fun w s₀ s₁ mg mb fa o pm cd doc a vs ns G Y ho hd hcd hmg hobj hints hlen hbits hg => ?_
  obtain ⟨K, KX, hF⟩ := F w mg fa _ Y G.T.g hmg
  refine law_callE KX G.T.g G.T.b G.T.builtins G.T.nolimit hg hobj hints (Nat.le_trans hlen hn2) ⟨hr, rfl⟩ (fun base _ _ => hF base) fun H hS => ?_
  obtain ⟨S', e⟩ := hk ns hlen hbits
  have nl : ∀ b : Addr, ¬ Live ([] : Sto) [] b := fun b ⟨n, so, h, _⟩ => by simp at h
  refine ⟨[], [], fun _ => False, [.fro (ns.map D.int)], ⟨rfl, fun n so a h => by simp at h, fun n n' so so' a h => by simp at h, fun a h => h.elim, fun a h => h.elim⟩, .one (.fro ?_ RVs.ints), rfl, ?_⟩
  · rcases hS with h | h
    · exact .inl ⟨h, fun z => z.elim (nl _) id⟩
    · exact .inr fun H => .inr h
  · show Post K _ RV _ [] [] H (kf [.fro (ns.map D.int)] []) _
    rw [e]
    intro m' H' v _ _ rv
    cases rv
    rfl
end Ev

set_option Elab.async false
set_option linter.all false
set_option maxRecDepth 100000
set_option maxHeartbeats 4000000
/-! Ev22: how the functions on data compute (for simp). -/
namespace Ev
open PySem PySem.Spec L2
open PyProof.Rows hiding St

section
variable (ρ : Env) (S : Sto) (i j : Int) (a b : Str) (ds es : List D) (n : Nat) (d e : D)
@[simp] theorem addD_int : addD (.int i) (.int j) S = .ok (.int (i + j)) S := rfl
@[simp] theorem subD_int : subD (.int i) (.int j) S = .ok (.int (i - j)) S := rfl
@[simp] theorem mulD_int : mulD (.int i) (.int j) S = if CMul i j then .ok (.int (i * j)) S else .bad := by
  show (if decide (CMul i j) = true then _ else _) = _
  simp only [decide_eq_true_eq]
@[simp] theorem fdivD_int : fdivD (.int i) (.int j) S = if 0 < j ∧ j < 1073741824 then .ok (.int (i / j)) S else .bad := by
  show (if decide (CDiv i j) = true then _ else _) = _
  simp only [decide_eq_true_eq]
  rfl
@[simp] theorem modD_int : modD (.int i) (.int j) S = if 0 < j then .ok (.int (i % j)) S else .bad := by
  show (if decide (0 < j) = true then _ else _) = _
  simp only [decide_eq_true_eq]
@[simp] theorem powD_int : powD (.int i) (.int j) S = if CPow i j then .ok (.int (i ^ j.toNat)) S else .bad := by
  show (if decide (CPow i j) = true then _ else _) = _
  simp only [decide_eq_true_eq]
@[simp] theorem addD_str : addD (.str a) (.str b) S = if a.length + b.length ≤ sizeLine then .ok (.str (a ++ b)) S else .bad := rfl
@[simp] theorem addD_lst : addD (.lst ds) (.lst es) S = if ds.length + es.length ≤ sizeLine then .ok (.lst (ds ++ es)) S else .bad := rfl
@[simp] theorem mulD_str : mulD (.str a) (.int j) S = if -(2 ^ 62) ≤ j ∧ j < 2 ^ 62 ∧ a.length * j.toNat ≤ sizeLine then .ok (.str (Txt.mul a j)) S else .bad := rfl
@[simp] theorem ltD_int : ltD (.int i) (.int j) S = .ok (.bl (decide (i < j))) S := rfl
@[simp] theorem leD_int : leD (.int i) (.int j) S = .ok (.bl (decide (i ≤ j))) S := rfl
@[simp] theorem gtD_int : gtD (.int i) (.int j) S = .ok (.bl (decide (j < i))) S := rfl
@[simp] theorem geD_int : geD (.int i) (.int j) S = .ok (.bl (decide (j ≤ i))) S := rfl
@[simp] theorem eqD_int : eqD (.int i) (.int j) S = .ok (.bl (decide (i = j))) S := by
  unfold eqD cmpP
  simp [top, D.toPy, SeqAt.shaped, PyData.eqv, PyData.canLay0, PyData.depth, Bool.beq_eq_decide_eq]
@[simp] theorem neD_int : neD (.int i) (.int j) S = .ok (.bl (!decide (i = j))) S := by
  unfold neD cmpP
  simp [top, D.toPy, SeqAt.shaped, PyData.eqv, PyData.canLay0, PyData.depth, Bool.beq_eq_decide_eq]
@[simp] theorem eqD_str : eqD (.str a) (.str b) S = if PyData.strOk a = true ∧ PyData.strOk b = true then .ok (.bl (decide (a = b))) S else .bad := by
  unfold eqD cmpP
  simp [top, D.toPy, SeqAt.shaped, PyData.eqv, PyData.canLay0, PyData.depth, Bool.beq_eq_decide_eq]
@[simp] theorem neD_str : neD (.str a) (.str b) S = if PyData.strOk a = true ∧ PyData.strOk b = true then .ok (.bl (!decide (a = b))) S else .bad := by
  unfold neD cmpP
  simp [top, D.toPy, SeqAt.shaped, PyData.eqv, PyData.canLay0, PyData.depth, Bool.beq_eq_decide_eq]
@[simp] theorem ixD_box : ixD (.box n) (.int i) S = (match getL S n with
    | some ds => (match atI ds i with
      | some d => .ok d S
      | none => .bad)
    | none => .bad) := by
  show (match getL S n, some i with
    | some ds, some i => (match atI ds i with
      | some d => Res.ok d S
      | none => .bad)
    | _, _ => .bad) = _
  cases getL S n <;> rfl
@[simp] theorem ixD_lst : ixD (.lst ds) (.int i) S = (match atI ds i with
    | some d => .ok d S
    | none => .bad) := rfl
@[simp] theorem ixD_fro : ixD (.fro ds) (.int i) S = (match atI ds i with
    | some d => .ok d S
    | none => .bad) := rfl
@[simp] theorem ixD_tup : ixD (.tup ds) (.int i) S = (match atI ds i with
    | some d => .ok d S
    | none => .bad) := rfl
@[simp] theorem ixD_str : ixD (.str a) (.int i) S = if a.length ≤ sizeLine then (match atI a.cps.toList i with
    | some c => .ok (.str ⟨#[c]⟩) S
    | none => .bad) else .bad := rfl
@[simp] theorem atI_0 {α : Type} (x : α) (l : List α) : atI (x :: l) 0 = some x := by
  unfold atI ixN
  simp
@[simp] theorem atI_1 {α : Type} (x y : α) (l : List α) : atI (x :: y :: l) 1 = some y := by
  have h : (1 : Int) < ((x :: y :: l).length : Nat) := by simp; omega
  unfold atI ixN
  rw [if_pos (by decide), if_pos h]
  rfl
@[simp] theorem atI_2 {α : Type} (x y z : α) (l : List α) : atI (x :: y :: z :: l) 2 = some z := by
  have h : (2 : Int) < ((x :: y :: z :: l).length : Nat) := by simp; omega
  unfold atI ixN
  rw [if_pos (by decide), if_pos h]
  rfl
@[simp] theorem atI_3 {α : Type} (x y z w : α) (l : List α) : atI (x :: y :: z :: w :: l) 3 = some w := by
  have h : (3 : Int) < ((x :: y :: z :: w :: l).length : Nat) := by simp; omega
  unfold atI ixN
  rw [if_pos (by decide), if_pos h]
  rfl
theorem atI_in {α : Type} {l : List α} {i : Int} (h0 : 0 ≤ i) (h1 : i < l.length) : ∃ x, atI l i = some x ∧ x ∈ l := by
  have h : i.toNat < l.length := by omega
  refine ⟨l[i.toNat], ?_, List.getElem_mem h⟩
  unfold atI ixN
  rw [if_pos h0, if_pos h1]
  show l[i.toNat]? = _
  exact List.getElem?_eq_getElem h
@[simp] theorem ixN_0 : ixN (n + 1) 0 = some 0 := by
  unfold ixN
  rw [if_pos (by decide), if_pos (by omega)]
  rfl
theorem ixN_nat {n k : Nat} (h : k < n) : ixN n (k : Int) = some k := by
  unfold ixN
  rw [if_pos (by omega), if_pos (by omega)]
  simp
@[simp] theorem absD_int : absD (.int i) S = .ok (.int (if i < 0 then -i else i)) S := rfl
@[simp] theorem intD_int : Ev.intD (.int i) S = .ok (.int i) S := rfl
@[simp] theorem lenD_lst : lenD (.lst ds) S = .ok (.int ds.length) S := rfl
@[simp] theorem lenD_fro : lenD (.fro ds) S = .ok (.int ds.length) S := rfl
@[simp] theorem arg1_one (k : D → Sto → Res D) : arg1 k [d] S = k d S := rfl
@[simp] theorem arg2_two (k : D → D → Sto → Res D) : arg2 k [d, e] S = k d e S := rfl
@[simp] theorem asB_bl (t : Bool) : asB (.bl t) S = .ok t S := rfl
@[simp] theorem asT_bl (t : Bool) : asT (.bl t) S = .ok t S := rfl
@[simp] theorem asT_int : asT (.int i) S = .ok (i != 0) S := rfl
@[simp] theorem asT_lst : asT (.lst ds) S = .ok (!ds.isEmpty) S := rfl
@[simp] theorem fnRes_ret : fnRes (.ret d S) = .ok d S := rfl
@[simp] theorem fnRes_nx : fnRes (.nx ρ S) = .ok .non S := rfl
@[simp] theorem fnRes_ex (x : Exn) : fnRes (.ex x ρ S) = .ex x S := rfl
@[simp] theorem fnRes_bad : fnRes .bad = .bad := rfl
@[simp] theorem isN_non : isN .non .non S = .ok (.bl true) S := rfl
@[simp] theorem isN_int : isN (.int i) .non S = .ok (.bl false) S := rfl
@[simp] theorem int2_int (g : Int → Int → Int) : int2 g (.int i) (.int j) S = .ok (.int (g i j)) S := rfl
@[simp] theorem forM_nil (g : D → Env → Option Env) (b : Env → Sto → SRes) : forM g b [] ρ S = .nx ρ S := rfl
/-- the statements, the expressions -/
theorem sz : sizeLine = 16777216 := sizeLine_eq
end
theorem getL_set {S : Sto} {n : Nat} {ds : List D} (h : n < S.length) : getL (S.set n (some (.lst ds))) n = some ds := by
  unfold getL
  rw [List.getElem?_set_self h]
theorem getL_lt {S : Sto} {n : Nat} {ds : List D} (h : getL S n = some ds) : n < S.length := (List.getElem?_eq_some_iff.mp (getL_eq h)).1
theorem getL_push (S : Sto) (ds : List D) : getL (S ++ [some (.lst ds)]) S.length = some ds := by
  unfold getL
  rw [List.getElem?_append_right (Nat.le_refl _)]
  simp
end Ev

set_option Elab.async false
set_option linter.all false
set_option maxRecDepth 100000
set_option maxHeartbeats 4000000
namespace K69
open PySem PySem.Spec L2 Ev
open PyProof.Rows hiding St
abbrev top (i : Nat) : Stmt := PySem.Challenge.pw_indentholes_k69_errors_by_hand.main.body.getD i (.Pass ⟨0, 0, 0, 0⟩)
abbrev meth (i j : Nat) : Stmt := (clsBody (top i)).getD j (.Pass ⟨0, 0, 0, 0⟩)
abbrev s__law_source : Stmt := (top 28)
abbrev s__law_draw : Stmt := (top 29)
abbrev s__law_sign : Stmt := (top 30)
abbrev s__law_word : Stmt := (top 31)
abbrev s__law_odd : Stmt := (top 32)
abbrev s__law_same : Stmt := (top 33)
abbrev s__law_values : Stmt := (top 34)
abbrev s__law_words : Stmt := (top 35)
abbrev s__law_numbers : Stmt := (top 36)
abbrev s__law_classes : Stmt := (top 37)
abbrev s__law_raised : Stmt := (top 38)
abbrev s__law_case : Stmt := (top 39)
abbrev s_law : Stmt := (top 40)
abbrev s_BadLine_i : Stmt := meth 1 0
abbrev s_BadAmount_i : Stmt := meth 2 0
abbrev s_BadName_i : Stmt := meth 3 0
abbrev s_BadTag_i : Stmt := meth 4 0
abbrev s_BadEach_i : Stmt := meth 5 0
abbrev s_Twice_i : Stmt := meth 6 0
abbrev s_Shallow_i : Stmt := meth 7 0
abbrev s_NoResult_i : Stmt := meth 8 0
abbrev s_BadIndent_i : Stmt := meth 9 0
abbrev s_NoFrame_i : Stmt := meth 10 0
abbrev s_BadFilling_i : Stmt := meth 11 0
abbrev s_Unlike_i : Stmt := meth 12 0
abbrev s_MayFail_i : Stmt := meth 13 0
abbrev s_BadMend_i : Stmt := meth 14 0
abbrev s_NotPlain_i : Stmt := meth 15 0
abbrev s_OtherNames_i : Stmt := meth 16 0
abbrev s_BadProgram_i : Stmt := meth 17 0
abbrev s_BadCommand_i : Stmt := meth 18 0
abbrev s_NoLine_i : Stmt := meth 19 0
abbrev s_NoNode_i : Stmt := meth 20 0
abbrev s_NoPart_i : Stmt := meth 21 0
abbrev s_NoPlace_i : Stmt := meth 22 0
abbrev s_NoShift_i : Stmt := meth 23 0
abbrev s_NoHole_i : Stmt := meth 24 0
abbrev s_Unfilled_i : Stmt := meth 25 0
abbrev s_TooMany_i : Stmt := meth 26 0
def t_is_BadLine : List (Ty × Bool) := [(.x 4, true), (.x 5, false), (.x 6, false), (.x 7, false), (.x 8, false), (.x 9, false), (.x 10, false), (.x 11, false), (.x 12, false), (.x 13, false), (.x 14, false), (.x 15, false), (.x 16, false), (.x 17, false), (.x 18, false), (.x 19, false), (.x 20, false), (.x 21, false), (.x 22, false), (.x 23, false), (.x 24, false), (.x 25, false), (.x 26, false), (.x 27, false), (.x 28, false), (.x 29, false)]
def t_is_BadAmount : List (Ty × Bool) := [(.x 4, false), (.x 5, true), (.x 6, false), (.x 7, false), (.x 8, false), (.x 9, false), (.x 10, false), (.x 11, false), (.x 12, false), (.x 13, false), (.x 14, false), (.x 15, false), (.x 16, false), (.x 17, false), (.x 18, false), (.x 19, false), (.x 20, false), (.x 21, false), (.x 22, false), (.x 23, false), (.x 24, false), (.x 25, false), (.x 26, false), (.x 27, false), (.x 28, false), (.x 29, false)]
def t_is_BadName : List (Ty × Bool) := [(.x 4, false), (.x 5, false), (.x 6, true), (.x 7, false), (.x 8, false), (.x 9, false), (.x 10, false), (.x 11, false), (.x 12, false), (.x 13, false), (.x 14, false), (.x 15, false), (.x 16, false), (.x 17, false), (.x 18, false), (.x 19, false), (.x 20, false), (.x 21, false), (.x 22, false), (.x 23, false), (.x 24, false), (.x 25, false), (.x 26, false), (.x 27, false), (.x 28, false), (.x 29, false)]
def t_is_BadTag : List (Ty × Bool) := [(.x 4, false), (.x 5, false), (.x 6, false), (.x 7, true), (.x 8, false), (.x 9, false), (.x 10, false), (.x 11, false), (.x 12, false), (.x 13, false), (.x 14, false), (.x 15, false), (.x 16, false), (.x 17, false), (.x 18, false), (.x 19, false), (.x 20, false), (.x 21, false), (.x 22, false), (.x 23, false), (.x 24, false), (.x 25, false), (.x 26, false), (.x 27, false), (.x 28, false), (.x 29, false)]
def t_is_BadEach : List (Ty × Bool) := [(.x 4, false), (.x 5, false), (.x 6, false), (.x 7, false), (.x 8, true), (.x 9, false), (.x 10, false), (.x 11, false), (.x 12, false), (.x 13, false), (.x 14, false), (.x 15, false), (.x 16, false), (.x 17, false), (.x 18, false), (.x 19, false), (.x 20, false), (.x 21, false), (.x 22, false), (.x 23, false), (.x 24, false), (.x 25, false), (.x 26, false), (.x 27, false), (.x 28, false), (.x 29, false)]
def t_is_Twice : List (Ty × Bool) := [(.x 4, false), (.x 5, false), (.x 6, false), (.x 7, false), (.x 8, false), (.x 9, true), (.x 10, false), (.x 11, false), (.x 12, false), (.x 13, false), (.x 14, false), (.x 15, false), (.x 16, false), (.x 17, false), (.x 18, false), (.x 19, false), (.x 20, false), (.x 21, false), (.x 22, false), (.x 23, false), (.x 24, false), (.x 25, false), (.x 26, false), (.x 27, false), (.x 28, false), (.x 29, false)]
def t_is_Shallow : List (Ty × Bool) := [(.x 4, false), (.x 5, false), (.x 6, false), (.x 7, false), (.x 8, false), (.x 9, false), (.x 10, true), (.x 11, false), (.x 12, false), (.x 13, false), (.x 14, false), (.x 15, false), (.x 16, false), (.x 17, false), (.x 18, false), (.x 19, false), (.x 20, false), (.x 21, false), (.x 22, false), (.x 23, false), (.x 24, false), (.x 25, false), (.x 26, false), (.x 27, false), (.x 28, false), (.x 29, false)]
def t_is_NoResult : List (Ty × Bool) := [(.x 4, false), (.x 5, false), (.x 6, false), (.x 7, false), (.x 8, false), (.x 9, false), (.x 10, false), (.x 11, true), (.x 12, false), (.x 13, false), (.x 14, false), (.x 15, false), (.x 16, false), (.x 17, false), (.x 18, false), (.x 19, false), (.x 20, false), (.x 21, false), (.x 22, false), (.x 23, false), (.x 24, false), (.x 25, false), (.x 26, false), (.x 27, false), (.x 28, false), (.x 29, false)]
def t_is_BadIndent : List (Ty × Bool) := [(.x 4, false), (.x 5, false), (.x 6, false), (.x 7, false), (.x 8, false), (.x 9, false), (.x 10, false), (.x 11, false), (.x 12, true), (.x 13, false), (.x 14, false), (.x 15, false), (.x 16, false), (.x 17, false), (.x 18, false), (.x 19, false), (.x 20, false), (.x 21, false), (.x 22, false), (.x 23, false), (.x 24, false), (.x 25, false), (.x 26, false), (.x 27, false), (.x 28, false), (.x 29, false)]
def t_is_NoFrame : List (Ty × Bool) := [(.x 4, false), (.x 5, false), (.x 6, false), (.x 7, false), (.x 8, false), (.x 9, false), (.x 10, false), (.x 11, false), (.x 12, false), (.x 13, true), (.x 14, false), (.x 15, false), (.x 16, false), (.x 17, false), (.x 18, false), (.x 19, false), (.x 20, false), (.x 21, false), (.x 22, false), (.x 23, false), (.x 24, false), (.x 25, false), (.x 26, false), (.x 27, false), (.x 28, false), (.x 29, false)]
def t_is_BadFilling : List (Ty × Bool) := [(.x 4, false), (.x 5, false), (.x 6, false), (.x 7, false), (.x 8, false), (.x 9, false), (.x 10, false), (.x 11, false), (.x 12, false), (.x 13, false), (.x 14, true), (.x 15, false), (.x 16, false), (.x 17, false), (.x 18, false), (.x 19, false), (.x 20, false), (.x 21, false), (.x 22, false), (.x 23, false), (.x 24, false), (.x 25, false), (.x 26, false), (.x 27, false), (.x 28, false), (.x 29, false)]
def t_is_Unlike : List (Ty × Bool) := [(.x 4, false), (.x 5, false), (.x 6, false), (.x 7, false), (.x 8, false), (.x 9, false), (.x 10, false), (.x 11, false), (.x 12, false), (.x 13, false), (.x 14, false), (.x 15, true), (.x 16, false), (.x 17, false), (.x 18, false), (.x 19, false), (.x 20, false), (.x 21, false), (.x 22, false), (.x 23, false), (.x 24, false), (.x 25, false), (.x 26, false), (.x 27, false), (.x 28, false), (.x 29, false)]
def t_is_MayFail : List (Ty × Bool) := [(.x 4, false), (.x 5, false), (.x 6, false), (.x 7, false), (.x 8, false), (.x 9, false), (.x 10, false), (.x 11, false), (.x 12, false), (.x 13, false), (.x 14, false), (.x 15, false), (.x 16, true), (.x 17, false), (.x 18, false), (.x 19, false), (.x 20, false), (.x 21, false), (.x 22, false), (.x 23, false), (.x 24, false), (.x 25, false), (.x 26, false), (.x 27, false), (.x 28, false), (.x 29, false)]
def t_is_BadMend : List (Ty × Bool) := [(.x 4, false), (.x 5, false), (.x 6, false), (.x 7, false), (.x 8, false), (.x 9, false), (.x 10, false), (.x 11, false), (.x 12, false), (.x 13, false), (.x 14, false), (.x 15, false), (.x 16, false), (.x 17, true), (.x 18, false), (.x 19, false), (.x 20, false), (.x 21, false), (.x 22, false), (.x 23, false), (.x 24, false), (.x 25, false), (.x 26, false), (.x 27, false), (.x 28, false), (.x 29, false)]
def t_is_NotPlain : List (Ty × Bool) := [(.x 4, false), (.x 5, false), (.x 6, false), (.x 7, false), (.x 8, false), (.x 9, false), (.x 10, false), (.x 11, false), (.x 12, false), (.x 13, false), (.x 14, false), (.x 15, false), (.x 16, false), (.x 17, false), (.x 18, true), (.x 19, false), (.x 20, false), (.x 21, false), (.x 22, false), (.x 23, false), (.x 24, false), (.x 25, false), (.x 26, false), (.x 27, false), (.x 28, false), (.x 29, false)]
def t_is_OtherNames : List (Ty × Bool) := [(.x 4, false), (.x 5, false), (.x 6, false), (.x 7, false), (.x 8, false), (.x 9, false), (.x 10, false), (.x 11, false), (.x 12, false), (.x 13, false), (.x 14, false), (.x 15, false), (.x 16, false), (.x 17, false), (.x 18, false), (.x 19, true), (.x 20, false), (.x 21, false), (.x 22, false), (.x 23, false), (.x 24, false), (.x 25, false), (.x 26, false), (.x 27, false), (.x 28, false), (.x 29, false)]
def t_is_BadProgram : List (Ty × Bool) := [(.x 4, false), (.x 5, false), (.x 6, false), (.x 7, false), (.x 8, false), (.x 9, false), (.x 10, false), (.x 11, false), (.x 12, false), (.x 13, false), (.x 14, false), (.x 15, false), (.x 16, false), (.x 17, false), (.x 18, false), (.x 19, false), (.x 20, true), (.x 21, false), (.x 22, false), (.x 23, false), (.x 24, false), (.x 25, false), (.x 26, false), (.x 27, false), (.x 28, false), (.x 29, false)]
def t_is_BadCommand : List (Ty × Bool) := [(.x 4, false), (.x 5, false), (.x 6, false), (.x 7, false), (.x 8, false), (.x 9, false), (.x 10, false), (.x 11, false), (.x 12, false), (.x 13, false), (.x 14, false), (.x 15, false), (.x 16, false), (.x 17, false), (.x 18, false), (.x 19, false), (.x 20, false), (.x 21, true), (.x 22, false), (.x 23, false), (.x 24, false), (.x 25, false), (.x 26, false), (.x 27, false), (.x 28, false), (.x 29, false)]
def t_is_NoLine : List (Ty × Bool) := [(.x 4, false), (.x 5, false), (.x 6, false), (.x 7, false), (.x 8, false), (.x 9, false), (.x 10, false), (.x 11, false), (.x 12, false), (.x 13, false), (.x 14, false), (.x 15, false), (.x 16, false), (.x 17, false), (.x 18, false), (.x 19, false), (.x 20, false), (.x 21, false), (.x 22, true), (.x 23, false), (.x 24, false), (.x 25, false), (.x 26, false), (.x 27, false), (.x 28, false), (.x 29, false)]
def t_is_NoNode : List (Ty × Bool) := [(.x 4, false), (.x 5, false), (.x 6, false), (.x 7, false), (.x 8, false), (.x 9, false), (.x 10, false), (.x 11, false), (.x 12, false), (.x 13, false), (.x 14, false), (.x 15, false), (.x 16, false), (.x 17, false), (.x 18, false), (.x 19, false), (.x 20, false), (.x 21, false), (.x 22, false), (.x 23, true), (.x 24, false), (.x 25, false), (.x 26, false), (.x 27, false), (.x 28, false), (.x 29, false)]
def t_is_NoPart : List (Ty × Bool) := [(.x 4, false), (.x 5, false), (.x 6, false), (.x 7, false), (.x 8, false), (.x 9, false), (.x 10, false), (.x 11, false), (.x 12, false), (.x 13, false), (.x 14, false), (.x 15, false), (.x 16, false), (.x 17, false), (.x 18, false), (.x 19, false), (.x 20, false), (.x 21, false), (.x 22, false), (.x 23, false), (.x 24, true), (.x 25, false), (.x 26, false), (.x 27, false), (.x 28, false), (.x 29, false)]
def t_is_NoPlace : List (Ty × Bool) := [(.x 4, false), (.x 5, false), (.x 6, false), (.x 7, false), (.x 8, false), (.x 9, false), (.x 10, false), (.x 11, false), (.x 12, false), (.x 13, false), (.x 14, false), (.x 15, false), (.x 16, false), (.x 17, false), (.x 18, false), (.x 19, false), (.x 20, false), (.x 21, false), (.x 22, false), (.x 23, false), (.x 24, false), (.x 25, true), (.x 26, false), (.x 27, false), (.x 28, false), (.x 29, false)]
def t_is_NoShift : List (Ty × Bool) := [(.x 4, false), (.x 5, false), (.x 6, false), (.x 7, false), (.x 8, false), (.x 9, false), (.x 10, false), (.x 11, false), (.x 12, false), (.x 13, false), (.x 14, false), (.x 15, false), (.x 16, false), (.x 17, false), (.x 18, false), (.x 19, false), (.x 20, false), (.x 21, false), (.x 22, false), (.x 23, false), (.x 24, false), (.x 25, false), (.x 26, true), (.x 27, false), (.x 28, false), (.x 29, false)]
def t_is_NoHole : List (Ty × Bool) := [(.x 4, false), (.x 5, false), (.x 6, false), (.x 7, false), (.x 8, false), (.x 9, false), (.x 10, false), (.x 11, false), (.x 12, false), (.x 13, false), (.x 14, false), (.x 15, false), (.x 16, false), (.x 17, false), (.x 18, false), (.x 19, false), (.x 20, false), (.x 21, false), (.x 22, false), (.x 23, false), (.x 24, false), (.x 25, false), (.x 26, false), (.x 27, true), (.x 28, false), (.x 29, false)]
def t_is_Unfilled : List (Ty × Bool) := [(.x 4, false), (.x 5, false), (.x 6, false), (.x 7, false), (.x 8, false), (.x 9, false), (.x 10, false), (.x 11, false), (.x 12, false), (.x 13, false), (.x 14, false), (.x 15, false), (.x 16, false), (.x 17, false), (.x 18, false), (.x 19, false), (.x 20, false), (.x 21, false), (.x 22, false), (.x 23, false), (.x 24, false), (.x 25, false), (.x 26, false), (.x 27, false), (.x 28, true), (.x 29, false)]
def t_is_TooMany : List (Ty × Bool) := [(.x 4, false), (.x 5, false), (.x 6, false), (.x 7, false), (.x 8, false), (.x 9, false), (.x 10, false), (.x 11, false), (.x 12, false), (.x 13, false), (.x 14, false), (.x 15, false), (.x 16, false), (.x 17, false), (.x 18, false), (.x 19, false), (.x 20, false), (.x 21, false), (.x 22, false), (.x 23, false), (.x 24, false), (.x 25, false), (.x 26, false), (.x 27, false), (.x 28, false), (.x 29, true)]
def t_is_bool : List (Ty × Bool) := [(.int, false), (.bl, true), (.non, false), (.str, false)]
def t_is_ValueError : List (Ty × Bool) := [(.x 4, true), (.x 5, true), (.x 6, true), (.x 7, true), (.x 8, true), (.x 9, true), (.x 10, true), (.x 11, true), (.x 12, true), (.x 13, true), (.x 14, true), (.x 15, true), (.x 16, true), (.x 17, true), (.x 18, true), (.x 19, true), (.x 20, true), (.x 21, true), (.x 22, false), (.x 23, false), (.x 24, false), (.x 25, false), (.x 26, false), (.x 27, false), (.x 28, false), (.x 29, false)]
def t_is_LookupError : List (Ty × Bool) := [(.x 4, false), (.x 5, false), (.x 6, false), (.x 7, false), (.x 8, false), (.x 9, false), (.x 10, false), (.x 11, false), (.x 12, false), (.x 13, false), (.x 14, false), (.x 15, false), (.x 16, false), (.x 17, false), (.x 18, false), (.x 19, false), (.x 20, false), (.x 21, false), (.x 22, true), (.x 23, true), (.x 24, true), (.x 25, true), (.x 26, true), (.x 27, true), (.x 28, true), (.x 29, false)]
def t_is_OverflowError : List (Ty × Bool) := [(.x 4, false), (.x 5, false), (.x 6, false), (.x 7, false), (.x 8, false), (.x 9, false), (.x 10, false), (.x 11, false), (.x 12, false), (.x 13, false), (.x 14, false), (.x 15, false), (.x 16, false), (.x 17, false), (.x 18, false), (.x 19, false), (.x 20, false), (.x 21, false), (.x 22, false), (.x 23, false), (.x 24, false), (.x 25, false), (.x 26, false), (.x 27, false), (.x 28, false), (.x 29, true)]
def t_is_ValueError_LookupError : List (Ty × Bool) := [(.x 4, true), (.x 5, true), (.x 6, true), (.x 7, true), (.x 8, true), (.x 9, true), (.x 10, true), (.x 11, true), (.x 12, true), (.x 13, true), (.x 14, true), (.x 15, true), (.x 16, true), (.x 17, true), (.x 18, true), (.x 19, true), (.x 20, true), (.x 21, true), (.x 22, true), (.x 23, true), (.x 24, true), (.x 25, true), (.x 26, true), (.x 27, true), (.x 28, true), (.x 29, false)]
def cm_BadCommand : List (Nat × Bool) := [(20, false)]
def cm_BadProgram : List (Nat × Bool) := [(20, true)]
/-- what the written part says -/
structure Zs (K : PySem.W.Frag) (mg : Str → Option Value) : Prop where
  b_len : mg "len" = none
  b_abs : mg "abs" = none
  b_int : mg "int" = none
  d__law_source : ∃ fd, FunD K "_law_source" "_law_source" (defArgs s__law_source) (defBody s__law_source) (defScope s__law_source) [] [] (He.fAd K ("_law_source", none)) fd
  g__law_source : mg "_law_source" = some (.ref (He.ga K "_law_source"))
  d__law_draw : ∃ fd, FunD K "_law_draw" "_law_draw" (defArgs s__law_draw) (defBody s__law_draw) (defScope s__law_draw) [] [] (He.fAd K ("_law_draw", none)) fd
  g__law_draw : mg "_law_draw" = some (.ref (He.ga K "_law_draw"))
  d__law_sign : ∃ fd, FunD K "_law_sign" "_law_sign" (defArgs s__law_sign) (defBody s__law_sign) (defScope s__law_sign) [] [] (He.fAd K ("_law_sign", none)) fd
  g__law_sign : mg "_law_sign" = some (.ref (He.ga K "_law_sign"))
  b_range : mg "range" = none
  d__law_word : ∃ fd, FunD K "_law_word" "_law_word" (defArgs s__law_word) (defBody s__law_word) (defScope s__law_word) [] [] (He.fAd K ("_law_word", none)) fd
  g__law_word : mg "_law_word" = some (.ref (He.ga K "_law_word"))
  d__law_odd : ∃ fd, FunD K "_law_odd" "_law_odd" (defArgs s__law_odd) (defBody s__law_odd) (defScope s__law_odd) [] [] (He.fAd K ("_law_odd", none)) fd
  g__law_odd : mg "_law_odd" = some (.ref (He.ga K "_law_odd"))
  b_repr : mg "repr" = none
  d__law_same : ∃ fd, FunD K "_law_same" "_law_same" (defArgs s__law_same) (defBody s__law_same) (defScope s__law_same) [] [] (He.fAd K ("_law_same", none)) fd
  g__law_same : mg "_law_same" = some (.ref (He.ga K "_law_same"))
  g_BadLine : mg "BadLine" = some (.ref (He.ga K "BadLine"))
  g_BadAmount : mg "BadAmount" = some (.ref (He.ga K "BadAmount"))
  g_BadName : mg "BadName" = some (.ref (He.ga K "BadName"))
  g_BadTag : mg "BadTag" = some (.ref (He.ga K "BadTag"))
  g_NoLine : mg "NoLine" = some (.ref (He.ga K "NoLine"))
  g_NoNode : mg "NoNode" = some (.ref (He.ga K "NoNode"))
  g_NoPart : mg "NoPart" = some (.ref (He.ga K "NoPart"))
  g_NoPlace : mg "NoPlace" = some (.ref (He.ga K "NoPlace"))
  g_NoShift : mg "NoShift" = some (.ref (He.ga K "NoShift"))
  xf_value : ∀ C, List.contains [4, 5, 6, 7, 22, 23, 24, 25, 26] C = true → XfC K (ca K C) ∧ PySem.W.findIn K (.ref (ca K C)) "value" = some none
  d__law_values : ∃ fd, FunD K "_law_values" "_law_values" (defArgs s__law_values) (defBody s__law_values) (defScope s__law_values) [] [] (He.fAd K ("_law_values", none)) fd
  g__law_values : mg "_law_values" = some (.ref (He.ga K "_law_values"))
  g_BadEach : mg "BadEach" = some (.ref (He.ga K "BadEach"))
  g_Twice : mg "Twice" = some (.ref (He.ga K "Twice"))
  g_BadFilling : mg "BadFilling" = some (.ref (He.ga K "BadFilling"))
  g_OtherNames : mg "OtherNames" = some (.ref (He.ga K "OtherNames"))
  g_NoHole : mg "NoHole" = some (.ref (He.ga K "NoHole"))
  g_Unfilled : mg "Unfilled" = some (.ref (He.ga K "Unfilled"))
  xf_name : ∀ C, List.contains [8, 9, 14, 19, 27, 28] C = true → XfC K (ca K C) ∧ PySem.W.findIn K (.ref (ca K C)) "name" = some none
  d__law_words : ∃ fd, FunD K "_law_words" "_law_words" (defArgs s__law_words) (defBody s__law_words) (defScope s__law_words) [] [] (He.fAd K ("_law_words", none)) fd
  g__law_words : mg "_law_words" = some (.ref (He.ga K "_law_words"))
  g_Shallow : mg "Shallow" = some (.ref (He.ga K "Shallow"))
  g_BadIndent : mg "BadIndent" = some (.ref (He.ga K "BadIndent"))
  g_NoFrame : mg "NoFrame" = some (.ref (He.ga K "NoFrame"))
  g_NoResult : mg "NoResult" = some (.ref (He.ga K "NoResult"))
  g_MayFail : mg "MayFail" = some (.ref (He.ga K "MayFail"))
  g_NotPlain : mg "NotPlain" = some (.ref (He.ga K "NotPlain"))
  xf_line : ∀ C, List.contains [10, 12, 13] C = true → XfC K (ca K C) ∧ PySem.W.findIn K (.ref (ca K C)) "line" = some none
  xf_part : ∀ C, List.contains [11, 16, 18] C = true → XfC K (ca K C) ∧ PySem.W.findIn K (.ref (ca K C)) "part" = some none
  d__law_numbers : ∃ fd, FunD K "_law_numbers" "_law_numbers" (defArgs s__law_numbers) (defBody s__law_numbers) (defScope s__law_numbers) [] [] (He.fAd K ("_law_numbers", none)) fd
  g__law_numbers : mg "_law_numbers" = some (.ref (He.ga K "_law_numbers"))
  is_BadLine : IsF K ([.c 4].map (Cv.u K)) (tabL t_is_BadLine)
  b_isinstance : mg "isinstance" = none
  is_BadAmount : IsF K ([.c 5].map (Cv.u K)) (tabL t_is_BadAmount)
  is_BadName : IsF K ([.c 6].map (Cv.u K)) (tabL t_is_BadName)
  is_BadTag : IsF K ([.c 7].map (Cv.u K)) (tabL t_is_BadTag)
  is_BadEach : IsF K ([.c 8].map (Cv.u K)) (tabL t_is_BadEach)
  is_Twice : IsF K ([.c 9].map (Cv.u K)) (tabL t_is_Twice)
  is_Shallow : IsF K ([.c 10].map (Cv.u K)) (tabL t_is_Shallow)
  is_NoResult : IsF K ([.c 11].map (Cv.u K)) (tabL t_is_NoResult)
  is_BadIndent : IsF K ([.c 12].map (Cv.u K)) (tabL t_is_BadIndent)
  is_NoFrame : IsF K ([.c 13].map (Cv.u K)) (tabL t_is_NoFrame)
  is_BadFilling : IsF K ([.c 14].map (Cv.u K)) (tabL t_is_BadFilling)
  g_Unlike : mg "Unlike" = some (.ref (He.ga K "Unlike"))
  is_Unlike : IsF K ([.c 15].map (Cv.u K)) (tabL t_is_Unlike)
  is_MayFail : IsF K ([.c 16].map (Cv.u K)) (tabL t_is_MayFail)
  g_BadMend : mg "BadMend" = some (.ref (He.ga K "BadMend"))
  is_BadMend : IsF K ([.c 17].map (Cv.u K)) (tabL t_is_BadMend)
  is_NotPlain : IsF K ([.c 18].map (Cv.u K)) (tabL t_is_NotPlain)
  is_OtherNames : IsF K ([.c 19].map (Cv.u K)) (tabL t_is_OtherNames)
  g_BadProgram : mg "BadProgram" = some (.ref (He.ga K "BadProgram"))
  is_BadProgram : IsF K ([.c 20].map (Cv.u K)) (tabL t_is_BadProgram)
  g_BadCommand : mg "BadCommand" = some (.ref (He.ga K "BadCommand"))
  is_BadCommand : IsF K ([.c 21].map (Cv.u K)) (tabL t_is_BadCommand)
  is_NoLine : IsF K ([.c 22].map (Cv.u K)) (tabL t_is_NoLine)
  is_NoNode : IsF K ([.c 23].map (Cv.u K)) (tabL t_is_NoNode)
  is_NoPart : IsF K ([.c 24].map (Cv.u K)) (tabL t_is_NoPart)
  is_NoPlace : IsF K ([.c 25].map (Cv.u K)) (tabL t_is_NoPlace)
  is_NoShift : IsF K ([.c 26].map (Cv.u K)) (tabL t_is_NoShift)
  is_NoHole : IsF K ([.c 27].map (Cv.u K)) (tabL t_is_NoHole)
  is_Unfilled : IsF K ([.c 28].map (Cv.u K)) (tabL t_is_Unfilled)
  g_TooMany : mg "TooMany" = some (.ref (He.ga K "TooMany"))
  is_TooMany : IsF K ([.c 29].map (Cv.u K)) (tabL t_is_TooMany)
  d__law_classes : ∃ fd, FunD K "_law_classes" "_law_classes" (defArgs s__law_classes) (defBody s__law_classes) (defScope s__law_classes) [] [] (He.fAd K ("_law_classes", none)) fd
  g__law_classes : mg "_law_classes" = some (.ref (He.ga K "_law_classes"))
  cm_BadCommand : ∀ k b, cmL cm_BadCommand k = some b → PySem.W.exmOne K (.ref (ca K k)) (Cv.u K (.c 21)) = some b
  cm_BadProgram : ∀ k b, cmL cm_BadProgram k = some b → PySem.W.exmOne K (.ref (ca K k)) (Cv.u K (.c 20)) = some b
  w__law_raised_BadProgram_text : ∀ C, List.contains [20] C = true → XfC K (ca K C) ∧ PySem.W.findIn K (.ref (ca K C)) "text" = some none
  d__law_raised : ∃ fd, FunD K "_law_raised" "_law_raised" (defArgs s__law_raised) (defBody s__law_raised) (defScope s__law_raised) [] [] (He.fAd K ("_law_raised", none)) fd
  g__law_raised : mg "_law_raised" = some (.ref (He.ga K "_law_raised"))
  xf_text : ∀ C, List.contains [20] C = true → XfC K (ca K C) ∧ PySem.W.findIn K (.ref (ca K C)) "text" = some none
  xf_command : ∀ C, List.contains [21] C = true → XfC K (ca K C) ∧ PySem.W.findIn K (.ref (ca K C)) "command" = some none
  xf_mend : ∀ C, List.contains [17] C = true → XfC K (ca K C) ∧ PySem.W.findIn K (.ref (ca K C)) "mend" = some none
  xf_place : ∀ C, List.contains [15] C = true → XfC K (ca K C) ∧ PySem.W.findIn K (.ref (ca K C)) "place" = some none
  b_bool : mg "bool" = none
  is_bool : IsF K ([.t "bool"].map (Cv.u K)) (tabL t_is_bool)
  b_ValueError : mg "ValueError" = none
  is_ValueError : IsF K ([.t "ValueError"].map (Cv.u K)) (tabL t_is_ValueError)
  b_LookupError : mg "LookupError" = none
  is_LookupError : IsF K ([.t "LookupError"].map (Cv.u K)) (tabL t_is_LookupError)
  b_OverflowError : mg "OverflowError" = none
  is_OverflowError : IsF K ([.t "OverflowError"].map (Cv.u K)) (tabL t_is_OverflowError)
  is_ValueError_LookupError : IsF K ([.t "ValueError", .t "LookupError"].map (Cv.u K)) (tabL t_is_ValueError_LookupError)
  xf_limit : ∀ C, List.contains [29] C = true → XfC K (ca K C) ∧ PySem.W.findIn K (.ref (ca K C)) "limit" = some none
  d__law_case : ∃ fd, FunD K "_law_case" "_law_case" (defArgs s__law_case) (defBody s__law_case) (defScope s__law_case) [] [] (He.fAd K ("_law_case", none)) fd
  g__law_case : mg "_law_case" = some (.ref (He.ga K "_law_case"))
  b_min : mg "min" = none
  b_max : mg "max" = none
  d_law : ∃ fd, FunD K "law" "law" (defArgs s_law) (defBody s_law) (defScope s_law) [] [] (He.fAd K ("law", none)) fd
  g_law : mg "law" = some (.ref (He.ga K "law"))
  x_BadLine : XcK "ValueError" "ValueError.__new__" "ValueError.__init__" [.type "ValueError", .type "Exception", .type "BaseException", .type "object"] "value" K (ca K 4)
  vi_VE : PySem.W.findCls K (.type "ValueError") (.type "type") "__init__" = some (.val (.builtin "ValueError.__init__"))
  d_BadLine_i : ∃ fd, FunD K "__init__" "BadLine.__init__" (defArgs s_BadLine_i) (defBody s_BadLine_i) (defScope s_BadLine_i) [] [] (He.fAd K ("BadLine", some "__init__")) fd
  x_BadAmount : XcK "ValueError" "ValueError.__new__" "ValueError.__init__" [.type "ValueError", .type "Exception", .type "BaseException", .type "object"] "value" K (ca K 5)
  d_BadAmount_i : ∃ fd, FunD K "__init__" "BadAmount.__init__" (defArgs s_BadAmount_i) (defBody s_BadAmount_i) (defScope s_BadAmount_i) [] [] (He.fAd K ("BadAmount", some "__init__")) fd
  x_BadName : XcK "ValueError" "ValueError.__new__" "ValueError.__init__" [.type "ValueError", .type "Exception", .type "BaseException", .type "object"] "value" K (ca K 6)
  d_BadName_i : ∃ fd, FunD K "__init__" "BadName.__init__" (defArgs s_BadName_i) (defBody s_BadName_i) (defScope s_BadName_i) [] [] (He.fAd K ("BadName", some "__init__")) fd
  x_BadTag : XcK "ValueError" "ValueError.__new__" "ValueError.__init__" [.type "ValueError", .type "Exception", .type "BaseException", .type "object"] "value" K (ca K 7)
  d_BadTag_i : ∃ fd, FunD K "__init__" "BadTag.__init__" (defArgs s_BadTag_i) (defBody s_BadTag_i) (defScope s_BadTag_i) [] [] (He.fAd K ("BadTag", some "__init__")) fd
  x_BadEach : XcK "ValueError" "ValueError.__new__" "ValueError.__init__" [.type "ValueError", .type "Exception", .type "BaseException", .type "object"] "name" K (ca K 8)
  d_BadEach_i : ∃ fd, FunD K "__init__" "BadEach.__init__" (defArgs s_BadEach_i) (defBody s_BadEach_i) (defScope s_BadEach_i) [] [] (He.fAd K ("BadEach", some "__init__")) fd
  x_Twice : XcK "ValueError" "ValueError.__new__" "ValueError.__init__" [.type "ValueError", .type "Exception", .type "BaseException", .type "object"] "name" K (ca K 9)
  d_Twice_i : ∃ fd, FunD K "__init__" "Twice.__init__" (defArgs s_Twice_i) (defBody s_Twice_i) (defScope s_Twice_i) [] [] (He.fAd K ("Twice", some "__init__")) fd
  x_Shallow : XcK "ValueError" "ValueError.__new__" "ValueError.__init__" [.type "ValueError", .type "Exception", .type "BaseException", .type "object"] "line" K (ca K 10)
  d_Shallow_i : ∃ fd, FunD K "__init__" "Shallow.__init__" (defArgs s_Shallow_i) (defBody s_Shallow_i) (defScope s_Shallow_i) [] [] (He.fAd K ("Shallow", some "__init__")) fd
  x_NoResult : XcK "ValueError" "ValueError.__new__" "ValueError.__init__" [.type "ValueError", .type "Exception", .type "BaseException", .type "object"] "part" K (ca K 11)
  d_NoResult_i : ∃ fd, FunD K "__init__" "NoResult.__init__" (defArgs s_NoResult_i) (defBody s_NoResult_i) (defScope s_NoResult_i) [] [] (He.fAd K ("NoResult", some "__init__")) fd
  x_BadIndent : XcK "ValueError" "ValueError.__new__" "ValueError.__init__" [.type "ValueError", .type "Exception", .type "BaseException", .type "object"] "line" K (ca K 12)
  d_BadIndent_i : ∃ fd, FunD K "__init__" "BadIndent.__init__" (defArgs s_BadIndent_i) (defBody s_BadIndent_i) (defScope s_BadIndent_i) [] [] (He.fAd K ("BadIndent", some "__init__")) fd
  x_NoFrame : XcK "ValueError" "ValueError.__new__" "ValueError.__init__" [.type "ValueError", .type "Exception", .type "BaseException", .type "object"] "line" K (ca K 13)
  d_NoFrame_i : ∃ fd, FunD K "__init__" "NoFrame.__init__" (defArgs s_NoFrame_i) (defBody s_NoFrame_i) (defScope s_NoFrame_i) [] [] (He.fAd K ("NoFrame", some "__init__")) fd
  x_BadFilling : XcK "ValueError" "ValueError.__new__" "ValueError.__init__" [.type "ValueError", .type "Exception", .type "BaseException", .type "object"] "name" K (ca K 14)
  d_BadFilling_i : ∃ fd, FunD K "__init__" "BadFilling.__init__" (defArgs s_BadFilling_i) (defBody s_BadFilling_i) (defScope s_BadFilling_i) [] [] (He.fAd K ("BadFilling", some "__init__")) fd
  x_Unlike : XcK "ValueError" "ValueError.__new__" "ValueError.__init__" [.type "ValueError", .type "Exception", .type "BaseException", .type "object"] "place" K (ca K 15)
  d_Unlike_i : ∃ fd, FunD K "__init__" "Unlike.__init__" (defArgs s_Unlike_i) (defBody s_Unlike_i) (defScope s_Unlike_i) [] [] (He.fAd K ("Unlike", some "__init__")) fd
  x_MayFail : XcK "ValueError" "ValueError.__new__" "ValueError.__init__" [.type "ValueError", .type "Exception", .type "BaseException", .type "object"] "part" K (ca K 16)
  d_MayFail_i : ∃ fd, FunD K "__init__" "MayFail.__init__" (defArgs s_MayFail_i) (defBody s_MayFail_i) (defScope s_MayFail_i) [] [] (He.fAd K ("MayFail", some "__init__")) fd
  x_BadMend : XcK "ValueError" "ValueError.__new__" "ValueError.__init__" [.type "ValueError", .type "Exception", .type "BaseException", .type "object"] "mend" K (ca K 17)
  d_BadMend_i : ∃ fd, FunD K "__init__" "BadMend.__init__" (defArgs s_BadMend_i) (defBody s_BadMend_i) (defScope s_BadMend_i) [] [] (He.fAd K ("BadMend", some "__init__")) fd
  x_NotPlain : XcK "ValueError" "ValueError.__new__" "ValueError.__init__" [.type "ValueError", .type "Exception", .type "BaseException", .type "object"] "part" K (ca K 18)
  d_NotPlain_i : ∃ fd, FunD K "__init__" "NotPlain.__init__" (defArgs s_NotPlain_i) (defBody s_NotPlain_i) (defScope s_NotPlain_i) [] [] (He.fAd K ("NotPlain", some "__init__")) fd
  x_OtherNames : XcK "ValueError" "ValueError.__new__" "ValueError.__init__" [.type "ValueError", .type "Exception", .type "BaseException", .type "object"] "name" K (ca K 19)
  d_OtherNames_i : ∃ fd, FunD K "__init__" "OtherNames.__init__" (defArgs s_OtherNames_i) (defBody s_OtherNames_i) (defScope s_OtherNames_i) [] [] (He.fAd K ("OtherNames", some "__init__")) fd
  x_BadProgram : XcK "ValueError" "ValueError.__new__" "ValueError.__init__" [.type "ValueError", .type "Exception", .type "BaseException", .type "object"] "text" K (ca K 20)
  d_BadProgram_i : ∃ fd, FunD K "__init__" "BadProgram.__init__" (defArgs s_BadProgram_i) (defBody s_BadProgram_i) (defScope s_BadProgram_i) [] [] (He.fAd K ("BadProgram", some "__init__")) fd
  x_BadCommand : XcK "ValueError" "ValueError.__new__" "ValueError.__init__" [.type "ValueError", .type "Exception", .type "BaseException", .type "object"] "command" K (ca K 21)
  d_BadCommand_i : ∃ fd, FunD K "__init__" "BadCommand.__init__" (defArgs s_BadCommand_i) (defBody s_BadCommand_i) (defScope s_BadCommand_i) [] [] (He.fAd K ("BadCommand", some "__init__")) fd
  x_NoLine : XcK "LookupError" "LookupError.__new__" "LookupError.__init__" [.type "LookupError", .type "Exception", .type "BaseException", .type "object"] "value" K (ca K 22)
  vi_LE : PySem.W.findCls K (.type "LookupError") (.type "type") "__init__" = some (.val (.builtin "LookupError.__init__"))
  d_NoLine_i : ∃ fd, FunD K "__init__" "NoLine.__init__" (defArgs s_NoLine_i) (defBody s_NoLine_i) (defScope s_NoLine_i) [] [] (He.fAd K ("NoLine", some "__init__")) fd
  x_NoNode : XcK "LookupError" "LookupError.__new__" "LookupError.__init__" [.type "LookupError", .type "Exception", .type "BaseException", .type "object"] "value" K (ca K 23)
  d_NoNode_i : ∃ fd, FunD K "__init__" "NoNode.__init__" (defArgs s_NoNode_i) (defBody s_NoNode_i) (defScope s_NoNode_i) [] [] (He.fAd K ("NoNode", some "__init__")) fd
  x_NoPart : XcK "LookupError" "LookupError.__new__" "LookupError.__init__" [.type "LookupError", .type "Exception", .type "BaseException", .type "object"] "value" K (ca K 24)
  d_NoPart_i : ∃ fd, FunD K "__init__" "NoPart.__init__" (defArgs s_NoPart_i) (defBody s_NoPart_i) (defScope s_NoPart_i) [] [] (He.fAd K ("NoPart", some "__init__")) fd
  x_NoPlace : XcK "LookupError" "LookupError.__new__" "LookupError.__init__" [.type "LookupError", .type "Exception", .type "BaseException", .type "object"] "value" K (ca K 25)
  d_NoPlace_i : ∃ fd, FunD K "__init__" "NoPlace.__init__" (defArgs s_NoPlace_i) (defBody s_NoPlace_i) (defScope s_NoPlace_i) [] [] (He.fAd K ("NoPlace", some "__init__")) fd
  x_NoShift : XcK "LookupError" "LookupError.__new__" "LookupError.__init__" [.type "LookupError", .type "Exception", .type "BaseException", .type "object"] "value" K (ca K 26)
  d_NoShift_i : ∃ fd, FunD K "__init__" "NoShift.__init__" (defArgs s_NoShift_i) (defBody s_NoShift_i) (defScope s_NoShift_i) [] [] (He.fAd K ("NoShift", some "__init__")) fd
  x_NoHole : XcK "LookupError" "LookupError.__new__" "LookupError.__init__" [.type "LookupError", .type "Exception", .type "BaseException", .type "object"] "name" K (ca K 27)
  d_NoHole_i : ∃ fd, FunD K "__init__" "NoHole.__init__" (defArgs s_NoHole_i) (defBody s_NoHole_i) (defScope s_NoHole_i) [] [] (He.fAd K ("NoHole", some "__init__")) fd
  x_Unfilled : XcK "LookupError" "LookupError.__new__" "LookupError.__init__" [.type "LookupError", .type "Exception", .type "BaseException", .type "object"] "name" K (ca K 28)
  d_Unfilled_i : ∃ fd, FunD K "__init__" "Unfilled.__init__" (defArgs s_Unfilled_i) (defBody s_Unfilled_i) (defScope s_Unfilled_i) [] [] (He.fAd K ("Unfilled", some "__init__")) fd
  x_TooMany : XcK "OverflowError" "OverflowError.__new__" "OverflowError.__init__" [.type "OverflowError", .type "ArithmeticError", .type "Exception", .type "BaseException", .type "object"] "limit" K (ca K 29)
  vi_OE : PySem.W.findCls K (.type "OverflowError") (.type "type") "__init__" = some (.val (.builtin "OverflowError.__init__"))
  d_TooMany_i : ∃ fd, FunD K "__init__" "TooMany.__init__" (defArgs s_TooMany_i) (defBody s_TooMany_i) (defScope s_TooMany_i) [] [] (He.fAd K ("TooMany", some "__init__")) fd
section
variable {P : Program} {w : World} {K : PySem.W.Frag} {mg : Str → Option Value} {base : Heap}
theorem sc_BadLine_i : FnScope ["self", "value"] ["self", "value"] (defScope s_BadLine_i) := ⟨rfl, rfl, rfl, by decide +kernel, rfl, by decide +kernel, by decide +kernel⟩
theorem X_BadLine (Z : Zs K mg) : Fam P w K mg base fun X => XcG X 1 4 "value" := by
  obtain ⟨fd, F⟩ := Z.d_BadLine_i
  exact xcG_of exb_VE Z.x_BadLine F (exc_init_ok (k := 0) exb_VE rfl (by decide +kernel) Z.b_ValueError Z.x_BadLine.o Z.x_BadLine.no Z.vi_VE F sc_BadLine_i rfl rfl rfl rfl rfl (by decide +kernel)) (fun _ _ _ _ _ _ us hl => match us, hl with | [_, _], _ => rfl) fun _ _ _ _ _ _ _ _ => rfl
theorem sc_BadAmount_i : FnScope ["self", "value"] ["self", "value"] (defScope s_BadAmount_i) := ⟨rfl, rfl, rfl, by decide +kernel, rfl, by decide +kernel, by decide +kernel⟩
theorem X_BadAmount (Z : Zs K mg) : Fam P w K mg base fun X => XcG X 1 5 "value" := by
  obtain ⟨fd, F⟩ := Z.d_BadAmount_i
  exact xcG_of exb_VE Z.x_BadAmount F (exc_init_ok (k := 0) exb_VE rfl (by decide +kernel) Z.b_ValueError Z.x_BadAmount.o Z.x_BadAmount.no Z.vi_VE F sc_BadAmount_i rfl rfl rfl rfl rfl (by decide +kernel)) (fun _ _ _ _ _ _ us hl => match us, hl with | [_, _], _ => rfl) fun _ _ _ _ _ _ _ _ => rfl
theorem sc_BadName_i : FnScope ["self", "value"] ["self", "value"] (defScope s_BadName_i) := ⟨rfl, rfl, rfl, by decide +kernel, rfl, by decide +kernel, by decide +kernel⟩
theorem X_BadName (Z : Zs K mg) : Fam P w K mg base fun X => XcG X 1 6 "value" := by
  obtain ⟨fd, F⟩ := Z.d_BadName_i
  exact xcG_of exb_VE Z.x_BadName F (exc_init_ok (k := 0) exb_VE rfl (by decide +kernel) Z.b_ValueError Z.x_BadName.o Z.x_BadName.no Z.vi_VE F sc_BadName_i rfl rfl rfl rfl rfl (by decide +kernel)) (fun _ _ _ _ _ _ us hl => match us, hl with | [_, _], _ => rfl) fun _ _ _ _ _ _ _ _ => rfl
theorem sc_BadTag_i : FnScope ["self", "value"] ["self", "value"] (defScope s_BadTag_i) := ⟨rfl, rfl, rfl, by decide +kernel, rfl, by decide +kernel, by decide +kernel⟩
theorem X_BadTag (Z : Zs K mg) : Fam P w K mg base fun X => XcG X 1 7 "value" := by
  obtain ⟨fd, F⟩ := Z.d_BadTag_i
  exact xcG_of exb_VE Z.x_BadTag F (exc_init_ok (k := 0) exb_VE rfl (by decide +kernel) Z.b_ValueError Z.x_BadTag.o Z.x_BadTag.no Z.vi_VE F sc_BadTag_i rfl rfl rfl rfl rfl (by decide +kernel)) (fun _ _ _ _ _ _ us hl => match us, hl with | [_, _], _ => rfl) fun _ _ _ _ _ _ _ _ => rfl
theorem sc_BadEach_i : FnScope ["self", "name"] ["self", "name"] (defScope s_BadEach_i) := ⟨rfl, rfl, rfl, by decide +kernel, rfl, by decide +kernel, by decide +kernel⟩
theorem X_BadEach (Z : Zs K mg) : Fam P w K mg base fun X => XcG X 1 8 "name" := by
  obtain ⟨fd, F⟩ := Z.d_BadEach_i
  exact xcG_of exb_VE Z.x_BadEach F (exc_init_ok (k := 0) exb_VE rfl (by decide +kernel) Z.b_ValueError Z.x_BadEach.o Z.x_BadEach.no Z.vi_VE F sc_BadEach_i rfl rfl rfl rfl rfl (by decide +kernel)) (fun _ _ _ _ _ _ us hl => match us, hl with | [_, _], _ => rfl) fun _ _ _ _ _ _ _ _ => rfl
theorem sc_Twice_i : FnScope ["self", "name"] ["self", "name"] (defScope s_Twice_i) := ⟨rfl, rfl, rfl, by decide +kernel, rfl, by decide +kernel, by decide +kernel⟩
theorem X_Twice (Z : Zs K mg) : Fam P w K mg base fun X => XcG X 1 9 "name" := by
  obtain ⟨fd, F⟩ := Z.d_Twice_i
  exact xcG_of exb_VE Z.x_Twice F (exc_init_ok (k := 0) exb_VE rfl (by decide +kernel) Z.b_ValueError Z.x_Twice.o Z.x_Twice.no Z.vi_VE F sc_Twice_i rfl rfl rfl rfl rfl (by decide +kernel)) (fun _ _ _ _ _ _ us hl => match us, hl with | [_, _], _ => rfl) fun _ _ _ _ _ _ _ _ => rfl
theorem sc_Shallow_i : FnScope ["self", "line"] ["self", "line"] (defScope s_Shallow_i) := ⟨rfl, rfl, rfl, by decide +kernel, rfl, by decide +kernel, by decide +kernel⟩
theorem X_Shallow (Z : Zs K mg) : Fam P w K mg base fun X => XcG X 1 10 "line" := by
  obtain ⟨fd, F⟩ := Z.d_Shallow_i
  exact xcG_of exb_VE Z.x_Shallow F (exc_init_ok (k := 0) exb_VE rfl (by decide +kernel) Z.b_ValueError Z.x_Shallow.o Z.x_Shallow.no Z.vi_VE F sc_Shallow_i rfl rfl rfl rfl rfl (by decide +kernel)) (fun _ _ _ _ _ _ us hl => match us, hl with | [_, _], _ => rfl) fun _ _ _ _ _ _ _ _ => rfl
theorem sc_NoResult_i : FnScope ["self", "part"] ["self", "part"] (defScope s_NoResult_i) := ⟨rfl, rfl, rfl, by decide +kernel, rfl, by decide +kernel, by decide +kernel⟩
theorem X_NoResult (Z : Zs K mg) : Fam P w K mg base fun X => XcG X 1 11 "part" := by
  obtain ⟨fd, F⟩ := Z.d_NoResult_i
  exact xcG_of exb_VE Z.x_NoResult F (exc_init_ok (k := 0) exb_VE rfl (by decide +kernel) Z.b_ValueError Z.x_NoResult.o Z.x_NoResult.no Z.vi_VE F sc_NoResult_i rfl rfl rfl rfl rfl (by decide +kernel)) (fun _ _ _ _ _ _ us hl => match us, hl with | [_, _], _ => rfl) fun _ _ _ _ _ _ _ _ => rfl
theorem sc_BadIndent_i : FnScope ["self", "line"] ["self", "line"] (defScope s_BadIndent_i) := ⟨rfl, rfl, rfl, by decide +kernel, rfl, by decide +kernel, by decide +kernel⟩
theorem X_BadIndent (Z : Zs K mg) : Fam P w K mg base fun X => XcG X 1 12 "line" := by
  obtain ⟨fd, F⟩ := Z.d_BadIndent_i
  exact xcG_of exb_VE Z.x_BadIndent F (exc_init_ok (k := 0) exb_VE rfl (by decide +kernel) Z.b_ValueError Z.x_BadIndent.o Z.x_BadIndent.no Z.vi_VE F sc_BadIndent_i rfl rfl rfl rfl rfl (by decide +kernel)) (fun _ _ _ _ _ _ us hl => match us, hl with | [_, _], _ => rfl) fun _ _ _ _ _ _ _ _ => rfl
theorem sc_NoFrame_i : FnScope ["self", "line"] ["self", "line"] (defScope s_NoFrame_i) := ⟨rfl, rfl, rfl, by decide +kernel, rfl, by decide +kernel, by decide +kernel⟩
theorem X_NoFrame (Z : Zs K mg) : Fam P w K mg base fun X => XcG X 1 13 "line" := by
  obtain ⟨fd, F⟩ := Z.d_NoFrame_i
  exact xcG_of exb_VE Z.x_NoFrame F (exc_init_ok (k := 0) exb_VE rfl (by decide +kernel) Z.b_ValueError Z.x_NoFrame.o Z.x_NoFrame.no Z.vi_VE F sc_NoFrame_i rfl rfl rfl rfl rfl (by decide +kernel)) (fun _ _ _ _ _ _ us hl => match us, hl with | [_, _], _ => rfl) fun _ _ _ _ _ _ _ _ => rfl
theorem sc_BadFilling_i : FnScope ["self", "name"] ["self", "name"] (defScope s_BadFilling_i) := ⟨rfl, rfl, rfl, by decide +kernel, rfl, by decide +kernel, by decide +kernel⟩
theorem X_BadFilling (Z : Zs K mg) : Fam P w K mg base fun X => XcG X 1 14 "name" := by
  obtain ⟨fd, F⟩ := Z.d_BadFilling_i
  exact xcG_of exb_VE Z.x_BadFilling F (exc_init_ok (k := 0) exb_VE rfl (by decide +kernel) Z.b_ValueError Z.x_BadFilling.o Z.x_BadFilling.no Z.vi_VE F sc_BadFilling_i rfl rfl rfl rfl rfl (by decide +kernel)) (fun _ _ _ _ _ _ us hl => match us, hl with | [_, _], _ => rfl) fun _ _ _ _ _ _ _ _ => rfl
theorem sc_Unlike_i : FnScope ["self", "place"] ["self", "place"] (defScope s_Unlike_i) := ⟨rfl, rfl, rfl, by decide +kernel, rfl, by decide +kernel, by decide +kernel⟩
theorem X_Unlike (Z : Zs K mg) : Fam P w K mg base fun X => XcG X 1 15 "place" := by
  obtain ⟨fd, F⟩ := Z.d_Unlike_i
  exact xcG_of exb_VE Z.x_Unlike F (exc_init_ok (k := 0) exb_VE rfl (by decide +kernel) Z.b_ValueError Z.x_Unlike.o Z.x_Unlike.no Z.vi_VE F sc_Unlike_i rfl rfl rfl rfl rfl (by decide +kernel)) (fun _ _ _ _ _ _ us hl => match us, hl with | [_, _], _ => rfl) fun _ _ _ _ _ _ _ _ => rfl
theorem sc_MayFail_i : FnScope ["self", "part"] ["self", "part"] (defScope s_MayFail_i) := ⟨rfl, rfl, rfl, by decide +kernel, rfl, by decide +kernel, by decide +kernel⟩
theorem X_MayFail (Z : Zs K mg) : Fam P w K mg base fun X => XcG X 1 16 "part" := by
  obtain ⟨fd, F⟩ := Z.d_MayFail_i
  exact xcG_of exb_VE Z.x_MayFail F (exc_init_ok (k := 0) exb_VE rfl (by decide +kernel) Z.b_ValueError Z.x_MayFail.o Z.x_MayFail.no Z.vi_VE F sc_MayFail_i rfl rfl rfl rfl rfl (by decide +kernel)) (fun _ _ _ _ _ _ us hl => match us, hl with | [_, _], _ => rfl) fun _ _ _ _ _ _ _ _ => rfl
theorem sc_BadMend_i : FnScope ["self", "mend"] ["self", "mend"] (defScope s_BadMend_i) := ⟨rfl, rfl, rfl, by decide +kernel, rfl, by decide +kernel, by decide +kernel⟩
theorem X_BadMend (Z : Zs K mg) : Fam P w K mg base fun X => XcG X 1 17 "mend" := by
  obtain ⟨fd, F⟩ := Z.d_BadMend_i
  exact xcG_of exb_VE Z.x_BadMend F (exc_init_ok (k := 0) exb_VE rfl (by decide +kernel) Z.b_ValueError Z.x_BadMend.o Z.x_BadMend.no Z.vi_VE F sc_BadMend_i rfl rfl rfl rfl rfl (by decide +kernel)) (fun _ _ _ _ _ _ us hl => match us, hl with | [_, _], _ => rfl) fun _ _ _ _ _ _ _ _ => rfl
theorem sc_NotPlain_i : FnScope ["self", "part"] ["self", "part"] (defScope s_NotPlain_i) := ⟨rfl, rfl, rfl, by decide +kernel, rfl, by decide +kernel, by decide +kernel⟩
theorem X_NotPlain (Z : Zs K mg) : Fam P w K mg base fun X => XcG X 1 18 "part" := by
  obtain ⟨fd, F⟩ := Z.d_NotPlain_i
  exact xcG_of exb_VE Z.x_NotPlain F (exc_init_ok (k := 0) exb_VE rfl (by decide +kernel) Z.b_ValueError Z.x_NotPlain.o Z.x_NotPlain.no Z.vi_VE F sc_NotPlain_i rfl rfl rfl rfl rfl (by decide +kernel)) (fun _ _ _ _ _ _ us hl => match us, hl with | [_, _], _ => rfl) fun _ _ _ _ _ _ _ _ => rfl
theorem sc_OtherNames_i : FnScope ["self", "name"] ["self", "name"] (defScope s_OtherNames_i) := ⟨rfl, rfl, rfl, by decide +kernel, rfl, by decide +kernel, by decide +kernel⟩
theorem X_OtherNames (Z : Zs K mg) : Fam P w K mg base fun X => XcG X 1 19 "name" := by
  obtain ⟨fd, F⟩ := Z.d_OtherNames_i
  exact xcG_of exb_VE Z.x_OtherNames F (exc_init_ok (k := 0) exb_VE rfl (by decide +kernel) Z.b_ValueError Z.x_OtherNames.o Z.x_OtherNames.no Z.vi_VE F sc_OtherNames_i rfl rfl rfl rfl rfl (by decide +kernel)) (fun _ _ _ _ _ _ us hl => match us, hl with | [_, _], _ => rfl) fun _ _ _ _ _ _ _ _ => rfl
theorem sc_BadProgram_i : FnScope ["self", "text"] ["self", "text"] (defScope s_BadProgram_i) := ⟨rfl, rfl, rfl, by decide +kernel, rfl, by decide +kernel, by decide +kernel⟩
theorem X_BadProgram (Z : Zs K mg) : Fam P w K mg base fun X => XcG X 1 20 "text" := by
  obtain ⟨fd, F⟩ := Z.d_BadProgram_i
  exact xcG_of exb_VE Z.x_BadProgram F (exc_init_ok (k := 0) exb_VE rfl (by decide +kernel) Z.b_ValueError Z.x_BadProgram.o Z.x_BadProgram.no Z.vi_VE F sc_BadProgram_i rfl rfl rfl rfl rfl (by decide +kernel)) (fun _ _ _ _ _ _ us hl => match us, hl with | [_, _], _ => rfl) fun _ _ _ _ _ _ _ _ => rfl
theorem sc_BadCommand_i : FnScope ["self", "command"] ["self", "command"] (defScope s_BadCommand_i) := ⟨rfl, rfl, rfl, by decide +kernel, rfl, by decide +kernel, by decide +kernel⟩
theorem X_BadCommand (Z : Zs K mg) : Fam P w K mg base fun X => XcG X 1 21 "command" := by
  obtain ⟨fd, F⟩ := Z.d_BadCommand_i
  exact xcG_of exb_VE Z.x_BadCommand F (exc_init_ok (k := 0) exb_VE rfl (by decide +kernel) Z.b_ValueError Z.x_BadCommand.o Z.x_BadCommand.no Z.vi_VE F sc_BadCommand_i rfl rfl rfl rfl rfl (by decide +kernel)) (fun _ _ _ _ _ _ us hl => match us, hl with | [_, _], _ => rfl) fun _ _ _ _ _ _ _ _ => rfl
theorem sc_NoLine_i : FnScope ["self", "value"] ["self", "value"] (defScope s_NoLine_i) := ⟨rfl, rfl, rfl, by decide +kernel, rfl, by decide +kernel, by decide +kernel⟩
theorem X_NoLine (Z : Zs K mg) : Fam P w K mg base fun X => XcG X 1 22 "value" := by
  obtain ⟨fd, F⟩ := Z.d_NoLine_i
  exact xcG_of exb_LE Z.x_NoLine F (exc_init_ok (k := 0) exb_LE rfl (by decide +kernel) Z.b_LookupError Z.x_NoLine.o Z.x_NoLine.no Z.vi_LE F sc_NoLine_i rfl rfl rfl rfl rfl (by decide +kernel)) (fun _ _ _ _ _ _ us hl => match us, hl with | [_, _], _ => rfl) fun _ _ _ _ _ _ _ _ => rfl
theorem sc_NoNode_i : FnScope ["self", "value"] ["self", "value"] (defScope s_NoNode_i) := ⟨rfl, rfl, rfl, by decide +kernel, rfl, by decide +kernel, by decide +kernel⟩
theorem X_NoNode (Z : Zs K mg) : Fam P w K mg base fun X => XcG X 1 23 "value" := by
  obtain ⟨fd, F⟩ := Z.d_NoNode_i
  exact xcG_of exb_LE Z.x_NoNode F (exc_init_ok (k := 0) exb_LE rfl (by decide +kernel) Z.b_LookupError Z.x_NoNode.o Z.x_NoNode.no Z.vi_LE F sc_NoNode_i rfl rfl rfl rfl rfl (by decide +kernel)) (fun _ _ _ _ _ _ us hl => match us, hl with | [_, _], _ => rfl) fun _ _ _ _ _ _ _ _ => rfl
theorem sc_NoPart_i : FnScope ["self", "value"] ["self", "value"] (defScope s_NoPart_i) := ⟨rfl, rfl, rfl, by decide +kernel, rfl, by decide +kernel, by decide +kernel⟩
theorem X_NoPart (Z : Zs K mg) : Fam P w K mg base fun X => XcG X 1 24 "value" := by
  obtain ⟨fd, F⟩ := Z.d_NoPart_i
  exact xcG_of exb_LE Z.x_NoPart F (exc_init_ok (k := 0) exb_LE rfl (by decide +kernel) Z.b_LookupError Z.x_NoPart.o Z.x_NoPart.no Z.vi_LE F sc_NoPart_i rfl rfl rfl rfl rfl (by decide +kernel)) (fun _ _ _ _ _ _ us hl => match us, hl with | [_, _], _ => rfl) fun _ _ _ _ _ _ _ _ => rfl
theorem sc_NoPlace_i : FnScope ["self", "value"] ["self", "value"] (defScope s_NoPlace_i) := ⟨rfl, rfl, rfl, by decide +kernel, rfl, by decide +kernel, by decide +kernel⟩
theorem X_NoPlace (Z : Zs K mg) : Fam P w K mg base fun X => XcG X 1 25 "value" := by
  obtain ⟨fd, F⟩ := Z.d_NoPlace_i
  exact xcG_of exb_LE Z.x_NoPlace F (exc_init_ok (k := 0) exb_LE rfl (by decide +kernel) Z.b_LookupError Z.x_NoPlace.o Z.x_NoPlace.no Z.vi_LE F sc_NoPlace_i rfl rfl rfl rfl rfl (by decide +kernel)) (fun _ _ _ _ _ _ us hl => match us, hl with | [_, _], _ => rfl) fun _ _ _ _ _ _ _ _ => rfl
theorem sc_NoShift_i : FnScope ["self", "value"] ["self", "value"] (defScope s_NoShift_i) := ⟨rfl, rfl, rfl, by decide +kernel, rfl, by decide +kernel, by decide +kernel⟩
theorem X_NoShift (Z : Zs K mg) : Fam P w K mg base fun X => XcG X 1 26 "value" := by
  obtain ⟨fd, F⟩ := Z.d_NoShift_i
  exact xcG_of exb_LE Z.x_NoShift F (exc_init_ok (k := 0) exb_LE rfl (by decide +kernel) Z.b_LookupError Z.x_NoShift.o Z.x_NoShift.no Z.vi_LE F sc_NoShift_i rfl rfl rfl rfl rfl (by decide +kernel)) (fun _ _ _ _ _ _ us hl => match us, hl with | [_, _], _ => rfl) fun _ _ _ _ _ _ _ _ => rfl
theorem sc_NoHole_i : FnScope ["self", "name"] ["self", "name"] (defScope s_NoHole_i) := ⟨rfl, rfl, rfl, by decide +kernel, rfl, by decide +kernel, by decide +kernel⟩
theorem X_NoHole (Z : Zs K mg) : Fam P w K mg base fun X => XcG X 1 27 "name" := by
  obtain ⟨fd, F⟩ := Z.d_NoHole_i
  exact xcG_of exb_LE Z.x_NoHole F (exc_init_ok (k := 0) exb_LE rfl (by decide +kernel) Z.b_LookupError Z.x_NoHole.o Z.x_NoHole.no Z.vi_LE F sc_NoHole_i rfl rfl rfl rfl rfl (by decide +kernel)) (fun _ _ _ _ _ _ us hl => match us, hl with | [_, _], _ => rfl) fun _ _ _ _ _ _ _ _ => rfl
theorem sc_Unfilled_i : FnScope ["self", "name"] ["self", "name"] (defScope s_Unfilled_i) := ⟨rfl, rfl, rfl, by decide +kernel, rfl, by decide +kernel, by decide +kernel⟩
theorem X_Unfilled (Z : Zs K mg) : Fam P w K mg base fun X => XcG X 1 28 "name" := by
  obtain ⟨fd, F⟩ := Z.d_Unfilled_i
  exact xcG_of exb_LE Z.x_Unfilled F (exc_init_ok (k := 0) exb_LE rfl (by decide +kernel) Z.b_LookupError Z.x_Unfilled.o Z.x_Unfilled.no Z.vi_LE F sc_Unfilled_i rfl rfl rfl rfl rfl (by decide +kernel)) (fun _ _ _ _ _ _ us hl => match us, hl with | [_, _], _ => rfl) fun _ _ _ _ _ _ _ _ => rfl
theorem sc_TooMany_i : FnScope ["self", "limit"] ["self", "limit"] (defScope s_TooMany_i) := ⟨rfl, rfl, rfl, by decide +kernel, rfl, by decide +kernel, by decide +kernel⟩
theorem X_TooMany (Z : Zs K mg) : Fam P w K mg base fun X => XcG X 1 29 "limit" := by
  obtain ⟨fd, F⟩ := Z.d_TooMany_i
  exact xcG_of exb_OE Z.x_TooMany F (exc_init_ok (k := 0) exb_OE rfl (by decide +kernel) Z.b_OverflowError Z.x_TooMany.o Z.x_TooMany.no Z.vi_OE F sc_TooMany_i rfl rfl rfl rfl rfl (by decide +kernel)) (fun _ _ _ _ _ _ us hl => match us, hl with | [_, _], _ => rfl) fun _ _ _ _ _ _ _ _ => rfl
abbrev N__law_source : List Str := ["_law_script", "_law_spot", "_law_cell", "_law_large"]
theorem nd__law_source : N__law_source.Nodup := by decide +kernel
theorem sc__law_source : FnScope N__law_source ["_law_script", "_law_spot"] (defScope s__law_source) := ⟨rfl, rfl, rfl, nd__law_source, rfl, by decide +kernel, by decide +kernel⟩
def g__law_source : Ev.Env → Sto → SRes := sSeq (sSet 2 (vIf (vB (v2 ltD (vName 1) (vL (arg1 lenD) (aCons (vName 0) (aNil))))) (v2 ixD (vName 0) (vName 1)) (vC (.int 0)))) (sSeq (sSet 3 (vIf (vB (v2 geD (vL (arg1 absD) (aCons (vName 2) (aNil))) (v2 powD (vC (.int 10)) (vC (.int 18))))) (vL (arg1 absD) (aCons (vName 2) (aNil))) (vC (.int 0)))) (sRet (vL mkBox (aCons (vName 3) (aCons (v2 addD (v2 addD (v2 modD (vL (arg1 intD) (aCons (vName 2) (aNil))) (vC (.int 2147483587))) (v2 mulD (vC (.int 6367)) (vName 1))) (vC (.int 811))) (aCons (vC (.int 0)) (aNil)))))))
def k__law_source (ds : List D) (S : Sto) : Res D := fnRes (g__law_source (startE N__law_source ds) S)
abbrev L__law_source : Nat := 1
theorem b__law_source (Z : Zs K mg) (cdv : Value) (A : Around) (outer : List PySem.Env) (s : Shared) (H : Hp) (E : XK) (W : Wi) (hme : W.me = none) (hr : Rm 0 (A.deeper (envOfC "_law_source" (defScope s__law_source) s.heap.objs.size (He.fAd K ("_law_source", none)) cdv)))
    (tk : Takes (cxOf (CX P w) P w K mg base N__law_source "_law_source" (defScope s__law_source) (He.fAd K ("_law_source", none)) cdv A outer s H E) W.w) :
    PSsv (cxOf (CX P w) P w K mg base N__law_source "_law_source" (defScope s__law_source) (He.fAd K ("_law_source", none)) cdv A outer s H E) W (defBody s__law_source) g__law_source :=
  pssv_cons (psv_set (i := 2) nd__law_source rfl (by first | exact .inl rfl | exact .inr rfl) (pev_if (ptv_c cr_lt (pev_name (i := 1) rfl (by first | exact .inl rfl | exact .inr (.inl rfl) | exact .inr (.inr rfl))) (pev_callB (br_len) rfl Z.b_len (by decide +kernel) (pav_cons (pev_name (i := 0) rfl (by first | exact .inl rfl | exact .inr (.inl rfl) | exact .inr (.inr rfl))) (pav_nil)))) (pev_ix (pev_name (i := 0) rfl (by first | exact .inl rfl | exact .inr (.inl rfl) | exact .inr (.inr rfl))) (pev_name (i := 1) rfl (by first | exact .inl rfl | exact .inr (.inl rfl) | exact .inr (.inr rfl)))) (pev_int))) (pssv_cons (psv_set (i := 3) nd__law_source rfl (by first | exact .inl rfl | exact .inr rfl) (pev_if (ptv_c cr_ge (pev_callB (br_abs) rfl Z.b_abs (by decide +kernel) (pav_cons (pev_name (i := 2) rfl (by first | exact .inl rfl | exact .inr (.inl rfl) | exact .inr (.inr rfl))) (pav_nil))) (pev_pow (pev_int) (pev_int))) (pev_callB (br_abs) rfl Z.b_abs (by decide +kernel) (pav_cons (pev_name (i := 2) rfl (by first | exact .inl rfl | exact .inr (.inl rfl) | exact .inr (.inr rfl))) (pav_nil))) (pev_int))) (pssv_one (psv_ret (pev_box (pav_cons (pev_name (i := 3) rfl (by first | exact .inl rfl | exact .inr (.inl rfl) | exact .inr (.inr rfl))) (pav_cons (pev_add (pev_add (pev_mod (pev_callT (br_int) rfl Z.b_int (by decide +kernel) (pav_cons (pev_name (i := 2) rfl (by first | exact .inl rfl | exact .inr (.inl rfl) | exact .inr (.inr rfl))) (pav_nil))) (pev_int)) (pev_mul (pev_int) (pev_name (i := 1) rfl (by first | exact .inl rfl | exact .inr (.inl rfl) | exact .inr (.inr rfl))))) (pev_int)) (pav_cons (pev_int) (pav_nil))))))))
theorem G__law_source (Z : Zs K mg) : Fam P w K mg base fun X => FnG X L__law_source "_law_source" 2 k__law_source := by
  obtain ⟨fd, F⟩ := Z.d__law_source
  exact fnG_of (ps := ["_law_script", "_law_spot"]) F Z.g__law_source (def_ok F sc__law_source (b__law_source Z)) fun _ _ _ _ _ _ us hl => match us, hl with | [_, _], _ => rfl
abbrev N__law_draw : List Str := ["_law_source_here", "_law_many", "_law_digit", "_law_turn"]
theorem nd__law_draw : N__law_draw.Nodup := by decide +kernel
theorem sc__law_draw : FnScope N__law_draw ["_law_source_here", "_law_many"] (defScope s__law_draw) := ⟨rfl, rfl, rfl, nd__law_draw, rfl, by decide +kernel, by decide +kernel⟩
def g__law_draw : Ev.Env → Sto → SRes := sSeq (sIf (vB (v2 gtD (v2 ixD (vName 0) (vC (.int 0))) (vC (.int 0)))) (sSeq (sSet 2 (v2 modD (vL (arg1 intD) (aCons (v2 ixD (vName 0) (vC (.int 0))) (aNil))) (vName 1))) (sSeq (sSetIx (vName 0) (vC (.int 0)) (v2 fdivD (v2 ixD (vName 0) (vC (.int 0))) (vName 1))) (sRet (vName 2)))) (sNil)) (sSeq (sSetIx (vName 0) (vC (.int 2)) (v2 addD (v2 ixD (vName 0) (vC (.int 2))) (vC (.int 1)))) (sSeq (sSet 3 (v2 ixD (vName 0) (vC (.int 2)))) (sSeq (sSetIx (vName 0) (vC (.int 1)) (v2 modD (vL (arg1 intD) (aCons (v2 addD (v2 addD (v2 mulD (v2 ixD (vName 0) (vC (.int 1))) (vC (.int 50021))) (v2 mulD (v2 mulD (vC (.int 30011)) (vName 3)) (vName 3))) (vC (.int 409))) (aNil))) (vC (.int 2147483549)))) (sRet (v2 modD (v2 modD (vL (arg1 intD) (aCons (v2 addD (v2 powD (v2 fdivD (v2 ixD (vName 0) (vC (.int 1))) (vC (.int 32))) (vC (.int 2))) (v2 fdivD (v2 ixD (vName 0) (vC (.int 1))) (vC (.int 7)))) (aNil))) (vC (.int 2147483489))) (vName 1))))))
def k__law_draw (ds : List D) (S : Sto) : Res D := fnRes (g__law_draw (startE N__law_draw ds) S)
abbrev L__law_draw : Nat := 1
theorem b__law_draw (Z : Zs K mg) (cdv : Value) (A : Around) (outer : List PySem.Env) (s : Shared) (H : Hp) (E : XK) (W : Wi) (hme : W.me = none) (hr : Rm 0 (A.deeper (envOfC "_law_draw" (defScope s__law_draw) s.heap.objs.size (He.fAd K ("_law_draw", none)) cdv)))
    (tk : Takes (cxOf (CX P w) P w K mg base N__law_draw "_law_draw" (defScope s__law_draw) (He.fAd K ("_law_draw", none)) cdv A outer s H E) W.w) :
    PSsv (cxOf (CX P w) P w K mg base N__law_draw "_law_draw" (defScope s__law_draw) (He.fAd K ("_law_draw", none)) cdv A outer s H E) W (defBody s__law_draw) g__law_draw :=
  pssv_cons (psv_if (ptv_c cr_gt (pev_ix (pev_name (i := 0) rfl (by first | exact .inl rfl | exact .inr (.inl rfl) | exact .inr (.inr rfl))) (pev_int)) (pev_int)) (pssv_cons (psv_set (i := 2) nd__law_draw rfl (by first | exact .inl rfl | exact .inr rfl) (pev_mod (pev_callT (br_int) rfl Z.b_int (by decide +kernel) (pav_cons (pev_ix (pev_name (i := 0) rfl (by first | exact .inl rfl | exact .inr (.inl rfl) | exact .inr (.inr rfl))) (pev_int)) (pav_nil))) (pev_name (i := 1) rfl (by first | exact .inl rfl | exact .inr (.inl rfl) | exact .inr (.inr rfl))))) (pssv_cons (psv_setIx (pev_name (i := 0) rfl (by first | exact .inl rfl | exact .inr (.inl rfl) | exact .inr (.inr rfl))) (pev_int) (pev_fdiv (pev_ix (pev_name (i := 0) rfl (by first | exact .inl rfl | exact .inr (.inl rfl) | exact .inr (.inr rfl))) (pev_int)) (pev_name (i := 1) rfl (by first | exact .inl rfl | exact .inr (.inl rfl) | exact .inr (.inr rfl))))) (pssv_one (psv_ret (pev_name (i := 2) rfl (by first | exact .inl rfl | exact .inr (.inl rfl) | exact .inr (.inr rfl))))))) (pssv_nil)) (pssv_cons (psv_setIx (pev_name (i := 0) rfl (by first | exact .inl rfl | exact .inr (.inl rfl) | exact .inr (.inr rfl))) (pev_int) (pev_add (pev_ix (pev_name (i := 0) rfl (by first | exact .inl rfl | exact .inr (.inl rfl) | exact .inr (.inr rfl))) (pev_int)) (pev_int))) (pssv_cons (psv_set (i := 3) nd__law_draw rfl (by first | exact .inl rfl | exact .inr rfl) (pev_ix (pev_name (i := 0) rfl (by first | exact .inl rfl | exact .inr (.inl rfl) | exact .inr (.inr rfl))) (pev_int))) (pssv_cons (psv_setIx (pev_name (i := 0) rfl (by first | exact .inl rfl | exact .inr (.inl rfl) | exact .inr (.inr rfl))) (pev_int) (pev_mod (pev_callT (br_int) rfl Z.b_int (by decide +kernel) (pav_cons (pev_add (pev_add (pev_mul (pev_ix (pev_name (i := 0) rfl (by first | exact .inl rfl | exact .inr (.inl rfl) | exact .inr (.inr rfl))) (pev_int)) (pev_int)) (pev_mul (pev_mul (pev_int) (pev_name (i := 3) rfl (by first | exact .inl rfl | exact .inr (.inl rfl) | exact .inr (.inr rfl)))) (pev_name (i := 3) rfl (by first | exact .inl rfl | exact .inr (.inl rfl) | exact .inr (.inr rfl))))) (pev_int)) (pav_nil))) (pev_int))) (pssv_one (psv_ret (pev_mod (pev_mod (pev_callT (br_int) rfl Z.b_int (by decide +kernel) (pav_cons (pev_add (pev_pow (pev_fdiv (pev_ix (pev_name (i := 0) rfl (by first | exact .inl rfl | exact .inr (.inl rfl) | exact .inr (.inr rfl))) (pev_int)) (pev_int)) (pev_int)) (pev_fdiv (pev_ix (pev_name (i := 0) rfl (by first | exact .inl rfl | exact .inr (.inl rfl) | exact .inr (.inr rfl))) (pev_int)) (pev_int))) (pav_nil))) (pev_int)) (pev_name (i := 1) rfl (by first | exact .inl rfl | exact .inr (.inl rfl) | exact .inr (.inr rfl)))))))))
theorem G__law_draw (Z : Zs K mg) : Fam P w K mg base fun X => FnG X L__law_draw "_law_draw" 2 k__law_draw := by
  obtain ⟨fd, F⟩ := Z.d__law_draw
  exact fnG_of (ps := ["_law_source_here", "_law_many"]) F Z.g__law_draw (def_ok F sc__law_draw (b__law_draw Z)) fun _ _ _ _ _ _ us hl => match us, hl with | [_, _], _ => rfl
abbrev N__law_sign : List Str := ["_law_source_here", "_law_signs"]
theorem nd__law_sign : N__law_sign.Nodup := by decide +kernel
theorem sc__law_sign : FnScope N__law_sign ["_law_source_here"] (defScope s__law_sign) := ⟨rfl, rfl, rfl, nd__law_sign, rfl, by decide +kernel, by decide +kernel⟩
def g__law_sign : Ev.Env → Sto → SRes := sSeq (sSet 1 (vC (.str "!\"#$&'()*+,-./0123456789:;<=>?@ABCDEFGHIJKLMNOPQRSTUVWXYZ[\\]^_`abcdefghijklmnopqrstuvwxyz{|}~"))) (sRet (v2 ixD (vName 1) (vCall 2 k__law_draw (aCons (vName 0) (aCons (vL (arg1 lenD) (aCons (vName 1) (aNil))) (aNil))))))
def k__law_sign (ds : List D) (S : Sto) : Res D := fnRes (g__law_sign (startE N__law_sign ds) S)
abbrev L__law_sign : Nat := 2
theorem b__law_sign (Z : Zs K mg) (cdv : Value) (A : Around) (outer : List PySem.Env) (s : Shared) (H : Hp) (E : XK) (W : Wi) (hme : W.me = none) (hr : Rm 1 (A.deeper (envOfC "_law_sign" (defScope s__law_sign) s.heap.objs.size (He.fAd K ("_law_sign", none)) cdv)))
    (tk : Takes (cxOf (CX P w) P w K mg base N__law_sign "_law_sign" (defScope s__law_sign) (He.fAd K ("_law_sign", none)) cdv A outer s H E) W.w) :
    PSsv (cxOf (CX P w) P w K mg base N__law_sign "_law_sign" (defScope s__law_sign) (He.fAd K ("_law_sign", none)) cdv A outer s H E) W (defBody s__law_sign) g__law_sign :=
  pssv_cons (psv_set (i := 1) nd__law_sign rfl (by first | exact .inl rfl | exact .inr rfl) (pev_str)) (pssv_one (psv_ret (pev_ix (pev_name (i := 1) rfl (by first | exact .inl rfl | exact .inr (.inl rfl) | exact .inr (.inr rfl))) (pev_call (G__law_draw Z _ rfl rfl rfl rfl rfl) hr (by decide) tk rfl (pav_cons (pev_name (i := 0) rfl (by first | exact .inl rfl | exact .inr (.inl rfl) | exact .inr (.inr rfl))) (pav_cons (pev_callB (br_len) rfl Z.b_len (by decide +kernel) (pav_cons (pev_name (i := 1) rfl (by first | exact .inl rfl | exact .inr (.inl rfl) | exact .inr (.inr rfl))) (pav_nil))) (pav_nil)))))))
theorem G__law_sign (Z : Zs K mg) : Fam P w K mg base fun X => FnG X L__law_sign "_law_sign" 1 k__law_sign := by
  obtain ⟨fd, F⟩ := Z.d__law_sign
  exact fnG_of (ps := ["_law_source_here"]) F Z.g__law_sign (def_ok F sc__law_sign (b__law_sign Z)) fun _ _ _ _ _ _ us hl => match us, hl with | [_], _ => rfl
abbrev N__law_word : List Str := ["_law_source_here", "_law_word_here", "_law_turn"]
theorem nd__law_word : N__law_word.Nodup := by decide +kernel
theorem sc__law_word : FnScope N__law_word ["_law_source_here"] (defScope s__law_word) := ⟨rfl, rfl, rfl, nd__law_word, rfl, by decide +kernel, by decide +kernel⟩
def g__law_word : Ev.Env → Sto → SRes := sSeq (sSet 1 (vCall 1 k__law_sign (aCons (vName 0) (aNil)))) (sSeq (sFor (vLI rng1 (aCons (vCall 2 k__law_draw (aCons (vName 0) (aCons (vC (.int 5)) (aNil)))) (aNil))) (tgN 2) (sSet 1 (v2 addD (v2 addD (vName 1) (v2 mulD (vC (.str " ")) (v2 fdivD (vCall 2 k__law_draw (aCons (vName 0) (aCons (vC (.int 4)) (aNil)))) (vC (.int 3))))) (vCall 1 k__law_sign (aCons (vName 0) (aNil)))))) (sRet (vIf (vB (v2 eqD (vCall 2 k__law_draw (aCons (vName 0) (aCons (vC (.int 16)) (aNil)))) (vC (.int 0)))) (v2 mulD (vName 1) (vC (.int 40))) (vName 1))))
def k__law_word (ds : List D) (S : Sto) : Res D := fnRes (g__law_word (startE N__law_word ds) S)
abbrev L__law_word : Nat := 3
theorem b__law_word (Z : Zs K mg) (cdv : Value) (A : Around) (outer : List PySem.Env) (s : Shared) (H : Hp) (E : XK) (W : Wi) (hme : W.me = none) (hr : Rm 2 (A.deeper (envOfC "_law_word" (defScope s__law_word) s.heap.objs.size (He.fAd K ("_law_word", none)) cdv)))
    (tk : Takes (cxOf (CX P w) P w K mg base N__law_word "_law_word" (defScope s__law_word) (He.fAd K ("_law_word", none)) cdv A outer s H E) W.w) :
    PSsv (cxOf (CX P w) P w K mg base N__law_word "_law_word" (defScope s__law_word) (He.fAd K ("_law_word", none)) cdv A outer s H E) W (defBody s__law_word) g__law_word :=
  pssv_cons (psv_set (i := 1) nd__law_word rfl (by first | exact .inl rfl | exact .inr rfl) (pev_call (G__law_sign Z _ rfl rfl rfl rfl rfl) hr (by decide) tk rfl (pav_cons (pev_name (i := 0) rfl (by first | exact .inl rfl | exact .inr (.inl rfl) | exact .inr (.inr rfl))) (pav_nil)))) (pssv_cons (psv_for (passes_of rfl) rfl (piv_range1 rfl Z.b_range (pav_cons (pev_call (G__law_draw Z _ rfl rfl rfl rfl rfl) hr (by decide) tk rfl (pav_cons (pev_name (i := 0) rfl (by first | exact .inl rfl | exact .inr (.inl rfl) | exact .inr (.inr rfl))) (pav_cons (pev_int) (pav_nil)))) (pav_nil))) (pgv_name (i := 2) nd__law_word rfl (by first | exact .inl rfl | exact .inr rfl) (h0 := .inr hme)) (pssv_one (psv_set (i := 1) nd__law_word rfl (by first | exact .inl rfl | exact .inr rfl) (pev_add (pev_add (pev_name (i := 1) rfl (by first | exact .inl rfl | exact .inr (.inl rfl) | exact .inr (.inr rfl))) (pev_mul (pev_str) (pev_fdiv (pev_call (G__law_draw Z _ rfl rfl rfl rfl rfl) hr (by decide) tk rfl (pav_cons (pev_name (i := 0) rfl (by first | exact .inl rfl | exact .inr (.inl rfl) | exact .inr (.inr rfl))) (pav_cons (pev_int) (pav_nil)))) (pev_int)))) (pev_call (G__law_sign Z _ rfl rfl rfl rfl rfl) hr (by decide) tk rfl (pav_cons (pev_name (i := 0) rfl (by first | exact .inl rfl | exact .inr (.inl rfl) | exact .inr (.inr rfl))) (pav_nil))))))) (pssv_one (psv_ret (pev_if (ptv_c (cr_eq hr) (pev_call (G__law_draw Z _ rfl rfl rfl rfl rfl) hr (by decide) tk rfl (pav_cons (pev_name (i := 0) rfl (by first | exact .inl rfl | exact .inr (.inl rfl) | exact .inr (.inr rfl))) (pav_cons (pev_int) (pav_nil)))) (pev_int)) (pev_mul (pev_name (i := 1) rfl (by first | exact .inl rfl | exact .inr (.inl rfl) | exact .inr (.inr rfl))) (pev_int)) (pev_name (i := 1) rfl (by first | exact .inl rfl | exact .inr (.inl rfl) | exact .inr (.inr rfl)))))))
theorem G__law_word (Z : Zs K mg) : Fam P w K mg base fun X => FnG X L__law_word "_law_word" 1 k__law_word := by
  obtain ⟨fd, F⟩ := Z.d__law_word
  exact fnG_of (ps := ["_law_source_here"]) F Z.g__law_word (def_ok F sc__law_word (b__law_word Z)) fun _ _ _ _ _ _ us hl => match us, hl with | [_], _ => rfl
abbrev N__law_odd : List Str := ["_law_source_here", "_law_word_here", "_law_odd_here"]
theorem nd__law_odd : N__law_odd.Nodup := by decide +kernel
theorem sc__law_odd : FnScope N__law_odd ["_law_source_here"] (defScope s__law_odd) := ⟨rfl, rfl, rfl, nd__law_odd, rfl, by decide +kernel, by decide +kernel⟩
def g__law_odd : Ev.Env → Sto → SRes := sSeq (sSet 1 (vCall 1 k__law_word (aCons (vName 0) (aNil)))) (sSeq (sSet 2 (vL mkLst (aCons (vC (.bl true)) (aCons (vC (.bl false)) (aCons (vC .non) (aCons (vL mkTup (aCons (vName 1) (aNil))) (aCons (vL mkLst (aCons (vName 1) (aNil))) (aCons (vL mkTup (aNil)) (aCons (vL mkLst (aNil)) (aCons (vL mkLst (aCons (vL mkLst (aCons (vC (.int 1)) (aCons (vName 1) (aNil)))) (aCons (vC .non) (aNil)))) (aCons (vL mkTup (aCons (vC (.bl true)) (aCons (vNeg (vC (.int 3))) (aNil)))) (aCons (vL mkLst (aCons (vName 1) (aCons (vName 1) (aNil)))) (aNil))))))))))))) (sRet (v2 ixD (vName 2) (vCall 2 k__law_draw (aCons (vName 0) (aCons (vL (arg1 lenD) (aCons (vName 2) (aNil))) (aNil)))))))
def k__law_odd (ds : List D) (S : Sto) : Res D := fnRes (g__law_odd (startE N__law_odd ds) S)
abbrev L__law_odd : Nat := 4
theorem b__law_odd (Z : Zs K mg) (cdv : Value) (A : Around) (outer : List PySem.Env) (s : Shared) (H : Hp) (E : XK) (W : Wi) (hme : W.me = none) (hr : Rm 3 (A.deeper (envOfC "_law_odd" (defScope s__law_odd) s.heap.objs.size (He.fAd K ("_law_odd", none)) cdv)))
    (tk : Takes (cxOf (CX P w) P w K mg base N__law_odd "_law_odd" (defScope s__law_odd) (He.fAd K ("_law_odd", none)) cdv A outer s H E) W.w) :
    PSsv (cxOf (CX P w) P w K mg base N__law_odd "_law_odd" (defScope s__law_odd) (He.fAd K ("_law_odd", none)) cdv A outer s H E) W (defBody s__law_odd) g__law_odd :=
  pssv_cons (psv_set (i := 1) nd__law_odd rfl (by first | exact .inl rfl | exact .inr rfl) (pev_call (G__law_word Z _ rfl rfl rfl rfl rfl) hr (by decide) tk rfl (pav_cons (pev_name (i := 0) rfl (by first | exact .inl rfl | exact .inr (.inl rfl) | exact .inr (.inr rfl))) (pav_nil)))) (pssv_cons (psv_set (i := 2) nd__law_odd rfl (by first | exact .inl rfl | exact .inr rfl) (pev_lst (pav_cons (pev_bl) (pav_cons (pev_bl) (pav_cons (pev_non) (pav_cons (pev_tup (pav_cons (pev_name (i := 1) rfl (by first | exact .inl rfl | exact .inr (.inl rfl) | exact .inr (.inr rfl))) (pav_nil))) (pav_cons (pev_lst (pav_cons (pev_name (i := 1) rfl (by first | exact .inl rfl | exact .inr (.inl rfl) | exact .inr (.inr rfl))) (pav_nil))) (pav_cons (pev_tup (pav_nil)) (pav_cons (pev_lst (pav_nil)) (pav_cons (pev_lst (pav_cons (pev_lst (pav_cons (pev_int) (pav_cons (pev_name (i := 1) rfl (by first | exact .inl rfl | exact .inr (.inl rfl) | exact .inr (.inr rfl))) (pav_nil)))) (pav_cons (pev_non) (pav_nil)))) (pav_cons (pev_tup (pav_cons (pev_bl) (pav_cons (pev_neg (pev_int)) (pav_nil)))) (pav_cons (pev_lst (pav_cons (pev_name (i := 1) rfl (by first | exact .inl rfl | exact .inr (.inl rfl) | exact .inr (.inr rfl))) (pav_cons (pev_name (i := 1) rfl (by first | exact .inl rfl | exact .inr (.inl rfl) | exact .inr (.inr rfl))) (pav_nil)))) (pav_nil))))))))))))) (pssv_one (psv_ret (pev_ix (pev_name (i := 2) rfl (by first | exact .inl rfl | exact .inr (.inl rfl) | exact .inr (.inr rfl))) (pev_call (G__law_draw Z _ rfl rfl rfl rfl rfl) hr (by decide) tk rfl (pav_cons (pev_name (i := 0) rfl (by first | exact .inl rfl | exact .inr (.inl rfl) | exact .inr (.inr rfl))) (pav_cons (pev_callB (br_len) rfl Z.b_len (by decide +kernel) (pav_cons (pev_name (i := 2) rfl (by first | exact .inl rfl | exact .inr (.inl rfl) | exact .inr (.inr rfl))) (pav_nil))) (pav_nil))))))))
theorem G__law_odd (Z : Zs K mg) : Fam P w K mg base fun X => FnG X L__law_odd "_law_odd" 1 k__law_odd := by
  obtain ⟨fd, F⟩ := Z.d__law_odd
  exact fnG_of (ps := ["_law_source_here"]) F Z.g__law_odd (def_ok F sc__law_odd (b__law_odd Z)) fun _ _ _ _ _ _ us hl => match us, hl with | [_], _ => rfl
abbrev N__law_same : List Str := ["_law_one", "_law_other"]
theorem nd__law_same : N__law_same.Nodup := by decide +kernel
theorem sc__law_same : FnScope N__law_same ["_law_one", "_law_other"] (defScope s__law_same) := ⟨rfl, rfl, rfl, nd__law_same, rfl, by decide +kernel, by decide +kernel⟩
def g__law_same : Ev.Env → Sto → SRes := sRet (v2 eqD (vL (arg1 reprD) (aCons (vName 0) (aNil))) (vL (arg1 reprD) (aCons (vName 1) (aNil))))
def k__law_same (ds : List D) (S : Sto) : Res D := fnRes (g__law_same (startE N__law_same ds) S)
abbrev L__law_same : Nat := 1
theorem b__law_same (Z : Zs K mg) (cdv : Value) (A : Around) (outer : List PySem.Env) (s : Shared) (H : Hp) (E : XK) (W : Wi) (hme : W.me = none) (hr : Rm 0 (A.deeper (envOfC "_law_same" (defScope s__law_same) s.heap.objs.size (He.fAd K ("_law_same", none)) cdv)))
    (tk : Takes (cxOf (CX P w) P w K mg base N__law_same "_law_same" (defScope s__law_same) (He.fAd K ("_law_same", none)) cdv A outer s H E) W.w) :
    PSsv (cxOf (CX P w) P w K mg base N__law_same "_law_same" (defScope s__law_same) (He.fAd K ("_law_same", none)) cdv A outer s H E) W (defBody s__law_same) g__law_same :=
  pssv_one (psv_ret (pev_c (cr_eq hr) (pev_callB (br_repr hr) rfl Z.b_repr (by decide +kernel) (pav_cons (pev_name (i := 0) rfl (by first | exact .inl rfl | exact .inr (.inl rfl) | exact .inr (.inr rfl))) (pav_nil))) (pev_callB (br_repr hr) rfl Z.b_repr (by decide +kernel) (pav_cons (pev_name (i := 1) rfl (by first | exact .inl rfl | exact .inr (.inl rfl) | exact .inr (.inr rfl))) (pav_nil)))))
theorem G__law_same (Z : Zs K mg) : Fam P w K mg base fun X => FnG X L__law_same "_law_same" 2 k__law_same := by
  obtain ⟨fd, F⟩ := Z.d__law_same
  exact fnG_of (ps := ["_law_one", "_law_other"]) F Z.g__law_same (def_ok F sc__law_same (b__law_same Z)) fun _ _ _ _ _ _ us hl => match us, hl with | [_, _], _ => rfl
abbrev N__law_values : List Str := ["_law_thing", "_law_one", "_law_other", "_law_wrong"]
theorem nd__law_values : N__law_values.Nodup := by decide +kernel
theorem sc__law_values : FnScope N__law_values ["_law_thing"] (defScope s__law_values) := ⟨rfl, rfl, rfl, nd__law_values, rfl, by decide +kernel, by decide +kernel⟩
def g__law_values : Ev.Env → Sto → SRes := sSeq (sSet 1 (vL mkLst (aCons (v1 (excD 4 "value") (vName 0)) (aCons (v1 (excD 5 "value") (vName 0)) (aCons (v1 (excD 6 "value") (vName 0)) (aCons (v1 (excD 7 "value") (vName 0)) (aNil))))))) (sSeq (sSet 1 (v2 addD (vName 1) (vL mkLst (aCons (v1 (excD 4 "value") (vName 0)) (aCons (v1 (excD 5 "value") (vName 0)) (aCons (v1 (excD 6 "value") (vName 0)) (aCons (v1 (excD 7 "value") (vName 0)) (aNil)))))))) (sSeq (sSet 2 (vL mkLst (aCons (v1 (excD 22 "value") (vName 0)) (aCons (v1 (excD 23 "value") (vName 0)) (aCons (v1 (excD 24 "value") (vName 0)) (aCons (v1 (excD 25 "value") (vName 0)) (aNil))))))) (sSeq (sSet 2 (v2 addD (vName 2) (vL mkLst (aCons (v1 (excD 22 "value") (vName 0)) (aCons (v1 (excD 23 "value") (vName 0)) (aCons (v1 (excD 24 "value") (vName 0)) (aCons (v1 (excD 25 "value") (vName 0)) (aNil)))))))) (sSeq (sSet 2 (v2 addD (vName 2) (vL mkLst (aCons (v1 (excD 26 "value") (vName 0)) (aCons (v1 (excD 26 "value") (vName 0)) (aNil)))))) (sRet (vL mkTup (aCons (vLc [3] (vIt (vName 1)) (tgN 3) (bYes) (vL mkLst (aCons (vName 3) (aCons (v1 (xfldD [4, 5, 6, 7, 22, 23, 24, 25, 26] "value") (vName 3)) (aNil))))) (aCons (vLc [3] (vIt (vName 2)) (tgN 3) (bYes) (vL mkLst (aCons (vName 3) (aCons (v1 (xfldD [4, 5, 6, 7, 22, 23, 24, 25, 26] "value") (vName 3)) (aNil))))) (aNil)))))))))
def k__law_values (ds : List D) (S : Sto) : Res D := fnRes (g__law_values (startE N__law_values ds) S)
abbrev L__law_values : Nat := 3
theorem b__law_values (Z : Zs K mg) (cdv : Value) (A : Around) (outer : List PySem.Env) (s : Shared) (H : Hp) (E : XK) (W : Wi) (hme : W.me = none) (hr : Rm 2 (A.deeper (envOfC "_law_values" (defScope s__law_values) s.heap.objs.size (He.fAd K ("_law_values", none)) cdv)))
    (tk : Takes (cxOf (CX P w) P w K mg base N__law_values "_law_values" (defScope s__law_values) (He.fAd K ("_law_values", none)) cdv A outer s H E) W.w) :
    PSsv (cxOf (CX P w) P w K mg base N__law_values "_law_values" (defScope s__law_values) (He.fAd K ("_law_values", none)) cdv A outer s H E) W (defBody s__law_values) g__law_values :=
  pssv_cons (psv_set (i := 1) nd__law_values rfl (by first | exact .inl rfl | exact .inr rfl) (pev_lst (pav_cons (pev_excK (X_BadLine Z _ rfl rfl rfl rfl rfl) hr (by decide) rfl Z.g_BadLine (pev_name (i := 0) rfl (by first | exact .inl rfl | exact .inr (.inl rfl) | exact .inr (.inr rfl)))) (pav_cons (pev_excK (X_BadAmount Z _ rfl rfl rfl rfl rfl) hr (by decide) rfl Z.g_BadAmount (pev_name (i := 0) rfl (by first | exact .inl rfl | exact .inr (.inl rfl) | exact .inr (.inr rfl)))) (pav_cons (pev_excK (X_BadName Z _ rfl rfl rfl rfl rfl) hr (by decide) rfl Z.g_BadName (pev_name (i := 0) rfl (by first | exact .inl rfl | exact .inr (.inl rfl) | exact .inr (.inr rfl)))) (pav_cons (pev_excK (X_BadTag Z _ rfl rfl rfl rfl rfl) hr (by decide) rfl Z.g_BadTag (pev_name (i := 0) rfl (by first | exact .inl rfl | exact .inr (.inl rfl) | exact .inr (.inr rfl)))) (pav_nil))))))) (pssv_cons (psv_set (i := 1) nd__law_values rfl (by first | exact .inl rfl | exact .inr rfl) (pev_add (pev_name (i := 1) rfl (by first | exact .inl rfl | exact .inr (.inl rfl) | exact .inr (.inr rfl))) (pev_lst (pav_cons (pev_exc (X_BadLine Z _ rfl rfl rfl rfl rfl) hr (by decide) rfl Z.g_BadLine (pev_name (i := 0) rfl (by first | exact .inl rfl | exact .inr (.inl rfl) | exact .inr (.inr rfl)))) (pav_cons (pev_exc (X_BadAmount Z _ rfl rfl rfl rfl rfl) hr (by decide) rfl Z.g_BadAmount (pev_name (i := 0) rfl (by first | exact .inl rfl | exact .inr (.inl rfl) | exact .inr (.inr rfl)))) (pav_cons (pev_exc (X_BadName Z _ rfl rfl rfl rfl rfl) hr (by decide) rfl Z.g_BadName (pev_name (i := 0) rfl (by first | exact .inl rfl | exact .inr (.inl rfl) | exact .inr (.inr rfl)))) (pav_cons (pev_exc (X_BadTag Z _ rfl rfl rfl rfl rfl) hr (by decide) rfl Z.g_BadTag (pev_name (i := 0) rfl (by first | exact .inl rfl | exact .inr (.inl rfl) | exact .inr (.inr rfl)))) (pav_nil)))))))) (pssv_cons (psv_set (i := 2) nd__law_values rfl (by first | exact .inl rfl | exact .inr rfl) (pev_lst (pav_cons (pev_excK (X_NoLine Z _ rfl rfl rfl rfl rfl) hr (by decide) rfl Z.g_NoLine (pev_name (i := 0) rfl (by first | exact .inl rfl | exact .inr (.inl rfl) | exact .inr (.inr rfl)))) (pav_cons (pev_excK (X_NoNode Z _ rfl rfl rfl rfl rfl) hr (by decide) rfl Z.g_NoNode (pev_name (i := 0) rfl (by first | exact .inl rfl | exact .inr (.inl rfl) | exact .inr (.inr rfl)))) (pav_cons (pev_excK (X_NoPart Z _ rfl rfl rfl rfl rfl) hr (by decide) rfl Z.g_NoPart (pev_name (i := 0) rfl (by first | exact .inl rfl | exact .inr (.inl rfl) | exact .inr (.inr rfl)))) (pav_cons (pev_excK (X_NoPlace Z _ rfl rfl rfl rfl rfl) hr (by decide) rfl Z.g_NoPlace (pev_name (i := 0) rfl (by first | exact .inl rfl | exact .inr (.inl rfl) | exact .inr (.inr rfl)))) (pav_nil))))))) (pssv_cons (psv_set (i := 2) nd__law_values rfl (by first | exact .inl rfl | exact .inr rfl) (pev_add (pev_name (i := 2) rfl (by first | exact .inl rfl | exact .inr (.inl rfl) | exact .inr (.inr rfl))) (pev_lst (pav_cons (pev_exc (X_NoLine Z _ rfl rfl rfl rfl rfl) hr (by decide) rfl Z.g_NoLine (pev_name (i := 0) rfl (by first | exact .inl rfl | exact .inr (.inl rfl) | exact .inr (.inr rfl)))) (pav_cons (pev_exc (X_NoNode Z _ rfl rfl rfl rfl rfl) hr (by decide) rfl Z.g_NoNode (pev_name (i := 0) rfl (by first | exact .inl rfl | exact .inr (.inl rfl) | exact .inr (.inr rfl)))) (pav_cons (pev_exc (X_NoPart Z _ rfl rfl rfl rfl rfl) hr (by decide) rfl Z.g_NoPart (pev_name (i := 0) rfl (by first | exact .inl rfl | exact .inr (.inl rfl) | exact .inr (.inr rfl)))) (pav_cons (pev_exc (X_NoPlace Z _ rfl rfl rfl rfl rfl) hr (by decide) rfl Z.g_NoPlace (pev_name (i := 0) rfl (by first | exact .inl rfl | exact .inr (.inl rfl) | exact .inr (.inr rfl)))) (pav_nil)))))))) (pssv_cons (psv_set (i := 2) nd__law_values rfl (by first | exact .inl rfl | exact .inr rfl) (pev_add (pev_name (i := 2) rfl (by first | exact .inl rfl | exact .inr (.inl rfl) | exact .inr (.inr rfl))) (pev_lst (pav_cons (pev_exc (X_NoShift Z _ rfl rfl rfl rfl rfl) hr (by decide) rfl Z.g_NoShift (pev_name (i := 0) rfl (by first | exact .inl rfl | exact .inr (.inl rfl) | exact .inr (.inr rfl)))) (pav_cons (pev_excK (X_NoShift Z _ rfl rfl rfl rfl rfl) hr (by decide) rfl Z.g_NoShift (pev_name (i := 0) rfl (by first | exact .inl rfl | exact .inr (.inl rfl) | exact .inr (.inr rfl)))) (pav_nil)))))) (pssv_one (psv_ret (pev_tup (pav_cons (pev_lc (own := [("_law_wrong", 3)]) rfl nd__law_values (piv_any (pev_name (i := 1) rfl (by first | exact .inl rfl | exact .inr (.inl rfl) | exact .inr (.inr rfl)))) (blkOk_by (by show blkC N__law_values (defScope s__law_values) _ _ = true; decide +kernel)) (by decide) (fun s H C cl fp W hW => pgv_name (i := 3) nd__law_values rfl (by first | exact .inl rfl | exact .inr rfl) (h0 := .inr hW.me)) (fun s H C cl fp W hW => ptsv_nil) (fun s H C cl fp W hW => pev_lst (pav_cons (pev_name (i := 3) rfl (by first | exact .inl rfl | exact .inr (.inl rfl) | exact .inr (.inr rfl))) (pav_cons (pev_xfld Z.xf_value (pev_name (i := 3) rfl (by first | exact .inl rfl | exact .inr (.inl rfl) | exact .inr (.inr rfl)))) (pav_nil))))) (pav_cons (pev_lc (own := [("_law_wrong", 3)]) rfl nd__law_values (piv_any (pev_name (i := 2) rfl (by first | exact .inl rfl | exact .inr (.inl rfl) | exact .inr (.inr rfl)))) (blkOk_by (by show blkC N__law_values (defScope s__law_values) _ _ = true; decide +kernel)) (by decide) (fun s H C cl fp W hW => pgv_name (i := 3) nd__law_values rfl (by first | exact .inl rfl | exact .inr rfl) (h0 := .inr hW.me)) (fun s H C cl fp W hW => ptsv_nil) (fun s H C cl fp W hW => pev_lst (pav_cons (pev_name (i := 3) rfl (by first | exact .inl rfl | exact .inr (.inl rfl) | exact .inr (.inr rfl))) (pav_cons (pev_xfld Z.xf_value (pev_name (i := 3) rfl (by first | exact .inl rfl | exact .inr (.inl rfl) | exact .inr (.inr rfl)))) (pav_nil))))) (pav_nil))))))))))
theorem G__law_values (Z : Zs K mg) : Fam P w K mg base fun X => FnG X L__law_values "_law_values" 1 k__law_values := by
  obtain ⟨fd, F⟩ := Z.d__law_values
  exact fnG_of (ps := ["_law_thing"]) F Z.g__law_values (def_ok F sc__law_values (b__law_values Z)) fun _ _ _ _ _ _ us hl => match us, hl with | [_], _ => rfl
abbrev N__law_words : List Str := ["_law_word_here", "_law_one", "_law_other", "_law_wrong"]
theorem nd__law_words : N__law_words.Nodup := by decide +kernel
theorem sc__law_words : FnScope N__law_words ["_law_word_here"] (defScope s__law_words) := ⟨rfl, rfl, rfl, nd__law_words, rfl, by decide +kernel, by decide +kernel⟩
def g__law_words : Ev.Env → Sto → SRes := sSeq (sSet 1 (vL mkLst (aCons (v1 (excD 8 "name") (vName 0)) (aCons (v1 (excD 9 "name") (vName 0)) (aCons (v1 (excD 14 "name") (vName 0)) (aCons (v1 (excD 19 "name") (vName 0)) (aNil))))))) (sSeq (sSet 1 (v2 addD (vName 1) (vL mkLst (aCons (v1 (excD 8 "name") (vName 0)) (aCons (v1 (excD 9 "name") (vName 0)) (aCons (v1 (excD 14 "name") (vName 0)) (aCons (v1 (excD 19 "name") (vName 0)) (aNil)))))))) (sSeq (sSet 2 (vL mkLst (aCons (v1 (excD 27 "name") (vName 0)) (aCons (v1 (excD 28 "name") (vName 0)) (aCons (v1 (excD 27 "name") (vName 0)) (aCons (v1 (excD 28 "name") (vName 0)) (aNil))))))) (sRet (vL mkTup (aCons (vLc [3] (vIt (vName 1)) (tgN 3) (bYes) (vL mkLst (aCons (vName 3) (aCons (v1 (xfldD [8, 9, 14, 19, 27, 28] "name") (vName 3)) (aNil))))) (aCons (vLc [3] (vIt (vName 2)) (tgN 3) (bYes) (vL mkLst (aCons (vName 3) (aCons (v1 (xfldD [8, 9, 14, 19, 27, 28] "name") (vName 3)) (aNil))))) (aNil)))))))
def k__law_words (ds : List D) (S : Sto) : Res D := fnRes (g__law_words (startE N__law_words ds) S)
abbrev L__law_words : Nat := 3
theorem b__law_words (Z : Zs K mg) (cdv : Value) (A : Around) (outer : List PySem.Env) (s : Shared) (H : Hp) (E : XK) (W : Wi) (hme : W.me = none) (hr : Rm 2 (A.deeper (envOfC "_law_words" (defScope s__law_words) s.heap.objs.size (He.fAd K ("_law_words", none)) cdv)))
    (tk : Takes (cxOf (CX P w) P w K mg base N__law_words "_law_words" (defScope s__law_words) (He.fAd K ("_law_words", none)) cdv A outer s H E) W.w) :
    PSsv (cxOf (CX P w) P w K mg base N__law_words "_law_words" (defScope s__law_words) (He.fAd K ("_law_words", none)) cdv A outer s H E) W (defBody s__law_words) g__law_words :=
  pssv_cons (psv_set (i := 1) nd__law_words rfl (by first | exact .inl rfl | exact .inr rfl) (pev_lst (pav_cons (pev_excK (X_BadEach Z _ rfl rfl rfl rfl rfl) hr (by decide) rfl Z.g_BadEach (pev_name (i := 0) rfl (by first | exact .inl rfl | exact .inr (.inl rfl) | exact .inr (.inr rfl)))) (pav_cons (pev_excK (X_Twice Z _ rfl rfl rfl rfl rfl) hr (by decide) rfl Z.g_Twice (pev_name (i := 0) rfl (by first | exact .inl rfl | exact .inr (.inl rfl) | exact .inr (.inr rfl)))) (pav_cons (pev_excK (X_BadFilling Z _ rfl rfl rfl rfl rfl) hr (by decide) rfl Z.g_BadFilling (pev_name (i := 0) rfl (by first | exact .inl rfl | exact .inr (.inl rfl) | exact .inr (.inr rfl)))) (pav_cons (pev_excK (X_OtherNames Z _ rfl rfl rfl rfl rfl) hr (by decide) rfl Z.g_OtherNames (pev_name (i := 0) rfl (by first | exact .inl rfl | exact .inr (.inl rfl) | exact .inr (.inr rfl)))) (pav_nil))))))) (pssv_cons (psv_set (i := 1) nd__law_words rfl (by first | exact .inl rfl | exact .inr rfl) (pev_add (pev_name (i := 1) rfl (by first | exact .inl rfl | exact .inr (.inl rfl) | exact .inr (.inr rfl))) (pev_lst (pav_cons (pev_exc (X_BadEach Z _ rfl rfl rfl rfl rfl) hr (by decide) rfl Z.g_BadEach (pev_name (i := 0) rfl (by first | exact .inl rfl | exact .inr (.inl rfl) | exact .inr (.inr rfl)))) (pav_cons (pev_exc (X_Twice Z _ rfl rfl rfl rfl rfl) hr (by decide) rfl Z.g_Twice (pev_name (i := 0) rfl (by first | exact .inl rfl | exact .inr (.inl rfl) | exact .inr (.inr rfl)))) (pav_cons (pev_exc (X_BadFilling Z _ rfl rfl rfl rfl rfl) hr (by decide) rfl Z.g_BadFilling (pev_name (i := 0) rfl (by first | exact .inl rfl | exact .inr (.inl rfl) | exact .inr (.inr rfl)))) (pav_cons (pev_exc (X_OtherNames Z _ rfl rfl rfl rfl rfl) hr (by decide) rfl Z.g_OtherNames (pev_name (i := 0) rfl (by first | exact .inl rfl | exact .inr (.inl rfl) | exact .inr (.inr rfl)))) (pav_nil)))))))) (pssv_cons (psv_set (i := 2) nd__law_words rfl (by first | exact .inl rfl | exact .inr rfl) (pev_lst (pav_cons (pev_excK (X_NoHole Z _ rfl rfl rfl rfl rfl) hr (by decide) rfl Z.g_NoHole (pev_name (i := 0) rfl (by first | exact .inl rfl | exact .inr (.inl rfl) | exact .inr (.inr rfl)))) (pav_cons (pev_excK (X_Unfilled Z _ rfl rfl rfl rfl rfl) hr (by decide) rfl Z.g_Unfilled (pev_name (i := 0) rfl (by first | exact .inl rfl | exact .inr (.inl rfl) | exact .inr (.inr rfl)))) (pav_cons (pev_exc (X_NoHole Z _ rfl rfl rfl rfl rfl) hr (by decide) rfl Z.g_NoHole (pev_name (i := 0) rfl (by first | exact .inl rfl | exact .inr (.inl rfl) | exact .inr (.inr rfl)))) (pav_cons (pev_exc (X_Unfilled Z _ rfl rfl rfl rfl rfl) hr (by decide) rfl Z.g_Unfilled (pev_name (i := 0) rfl (by first | exact .inl rfl | exact .inr (.inl rfl) | exact .inr (.inr rfl)))) (pav_nil))))))) (pssv_one (psv_ret (pev_tup (pav_cons (pev_lc (own := [("_law_wrong", 3)]) rfl nd__law_words (piv_any (pev_name (i := 1) rfl (by first | exact .inl rfl | exact .inr (.inl rfl) | exact .inr (.inr rfl)))) (blkOk_by (by show blkC N__law_words (defScope s__law_words) _ _ = true; decide +kernel)) (by decide) (fun s H C cl fp W hW => pgv_name (i := 3) nd__law_words rfl (by first | exact .inl rfl | exact .inr rfl) (h0 := .inr hW.me)) (fun s H C cl fp W hW => ptsv_nil) (fun s H C cl fp W hW => pev_lst (pav_cons (pev_name (i := 3) rfl (by first | exact .inl rfl | exact .inr (.inl rfl) | exact .inr (.inr rfl))) (pav_cons (pev_xfld Z.xf_name (pev_name (i := 3) rfl (by first | exact .inl rfl | exact .inr (.inl rfl) | exact .inr (.inr rfl)))) (pav_nil))))) (pav_cons (pev_lc (own := [("_law_wrong", 3)]) rfl nd__law_words (piv_any (pev_name (i := 2) rfl (by first | exact .inl rfl | exact .inr (.inl rfl) | exact .inr (.inr rfl)))) (blkOk_by (by show blkC N__law_words (defScope s__law_words) _ _ = true; decide +kernel)) (by decide) (fun s H C cl fp W hW => pgv_name (i := 3) nd__law_words rfl (by first | exact .inl rfl | exact .inr rfl) (h0 := .inr hW.me)) (fun s H C cl fp W hW => ptsv_nil) (fun s H C cl fp W hW => pev_lst (pav_cons (pev_name (i := 3) rfl (by first | exact .inl rfl | exact .inr (.inl rfl) | exact .inr (.inr rfl))) (pav_cons (pev_xfld Z.xf_name (pev_name (i := 3) rfl (by first | exact .inl rfl | exact .inr (.inl rfl) | exact .inr (.inr rfl)))) (pav_nil))))) (pav_nil))))))))
theorem G__law_words (Z : Zs K mg) : Fam P w K mg base fun X => FnG X L__law_words "_law_words" 1 k__law_words := by
  obtain ⟨fd, F⟩ := Z.d__law_words
  exact fnG_of (ps := ["_law_word_here"]) F Z.g__law_words (def_ok F sc__law_words (b__law_words Z)) fun _ _ _ _ _ _ us hl => match us, hl with | [_], _ => rfl
abbrev N__law_numbers : List Str := ["_law_number", "_law_lines", "_law_parts", "_law_wrong"]
theorem nd__law_numbers : N__law_numbers.Nodup := by decide +kernel
theorem sc__law_numbers : FnScope N__law_numbers ["_law_number"] (defScope s__law_numbers) := ⟨rfl, rfl, rfl, nd__law_numbers, rfl, by decide +kernel, by decide +kernel⟩
def g__law_numbers : Ev.Env → Sto → SRes := sSeq (sSet 1 (vL mkLst (aCons (v1 (excD 10 "line") (vName 0)) (aCons (v1 (excD 12 "line") (vName 0)) (aCons (v1 (excD 13 "line") (vName 0)) (aNil)))))) (sSeq (sSet 1 (v2 addD (vName 1) (vL mkLst (aCons (v1 (excD 10 "line") (vName 0)) (aCons (v1 (excD 12 "line") (vName 0)) (aCons (v1 (excD 13 "line") (vName 0)) (aNil))))))) (sSeq (sSet 2 (vL mkLst (aCons (v1 (excD 11 "part") (vName 0)) (aCons (v1 (excD 16 "part") (vName 0)) (aCons (v1 (excD 18 "part") (vName 0)) (aNil)))))) (sSeq (sSet 2 (v2 addD (vName 2) (vL mkLst (aCons (v1 (excD 11 "part") (vName 0)) (aCons (v1 (excD 16 "part") (vName 0)) (aCons (v1 (excD 18 "part") (vName 0)) (aNil))))))) (sRet (v2 addD (vLc [3] (vIt (vName 1)) (tgN 3) (bYes) (vL mkLst (aCons (vName 3) (aCons (v1 (xfldD [10, 12, 13] "line") (vName 3)) (aNil))))) (vLc [3] (vIt (vName 2)) (tgN 3) (bYes) (vL mkLst (aCons (vName 3) (aCons (v1 (xfldD [11, 16, 18] "part") (vName 3)) (aNil))))))))))
def k__law_numbers (ds : List D) (S : Sto) : Res D := fnRes (g__law_numbers (startE N__law_numbers ds) S)
abbrev L__law_numbers : Nat := 3
theorem b__law_numbers (Z : Zs K mg) (cdv : Value) (A : Around) (outer : List PySem.Env) (s : Shared) (H : Hp) (E : XK) (W : Wi) (hme : W.me = none) (hr : Rm 2 (A.deeper (envOfC "_law_numbers" (defScope s__law_numbers) s.heap.objs.size (He.fAd K ("_law_numbers", none)) cdv)))
    (tk : Takes (cxOf (CX P w) P w K mg base N__law_numbers "_law_numbers" (defScope s__law_numbers) (He.fAd K ("_law_numbers", none)) cdv A outer s H E) W.w) :
    PSsv (cxOf (CX P w) P w K mg base N__law_numbers "_law_numbers" (defScope s__law_numbers) (He.fAd K ("_law_numbers", none)) cdv A outer s H E) W (defBody s__law_numbers) g__law_numbers :=
  pssv_cons (psv_set (i := 1) nd__law_numbers rfl (by first | exact .inl rfl | exact .inr rfl) (pev_lst (pav_cons (pev_excK (X_Shallow Z _ rfl rfl rfl rfl rfl) hr (by decide) rfl Z.g_Shallow (pev_name (i := 0) rfl (by first | exact .inl rfl | exact .inr (.inl rfl) | exact .inr (.inr rfl)))) (pav_cons (pev_excK (X_BadIndent Z _ rfl rfl rfl rfl rfl) hr (by decide) rfl Z.g_BadIndent (pev_name (i := 0) rfl (by first | exact .inl rfl | exact .inr (.inl rfl) | exact .inr (.inr rfl)))) (pav_cons (pev_excK (X_NoFrame Z _ rfl rfl rfl rfl rfl) hr (by decide) rfl Z.g_NoFrame (pev_name (i := 0) rfl (by first | exact .inl rfl | exact .inr (.inl rfl) | exact .inr (.inr rfl)))) (pav_nil)))))) (pssv_cons (psv_set (i := 1) nd__law_numbers rfl (by first | exact .inl rfl | exact .inr rfl) (pev_add (pev_name (i := 1) rfl (by first | exact .inl rfl | exact .inr (.inl rfl) | exact .inr (.inr rfl))) (pev_lst (pav_cons (pev_exc (X_Shallow Z _ rfl rfl rfl rfl rfl) hr (by decide) rfl Z.g_Shallow (pev_name (i := 0) rfl (by first | exact .inl rfl | exact .inr (.inl rfl) | exact .inr (.inr rfl)))) (pav_cons (pev_exc (X_BadIndent Z _ rfl rfl rfl rfl rfl) hr (by decide) rfl Z.g_BadIndent (pev_name (i := 0) rfl (by first | exact .inl rfl | exact .inr (.inl rfl) | exact .inr (.inr rfl)))) (pav_cons (pev_exc (X_NoFrame Z _ rfl rfl rfl rfl rfl) hr (by decide) rfl Z.g_NoFrame (pev_name (i := 0) rfl (by first | exact .inl rfl | exact .inr (.inl rfl) | exact .inr (.inr rfl)))) (pav_nil))))))) (pssv_cons (psv_set (i := 2) nd__law_numbers rfl (by first | exact .inl rfl | exact .inr rfl) (pev_lst (pav_cons (pev_excK (X_NoResult Z _ rfl rfl rfl rfl rfl) hr (by decide) rfl Z.g_NoResult (pev_name (i := 0) rfl (by first | exact .inl rfl | exact .inr (.inl rfl) | exact .inr (.inr rfl)))) (pav_cons (pev_excK (X_MayFail Z _ rfl rfl rfl rfl rfl) hr (by decide) rfl Z.g_MayFail (pev_name (i := 0) rfl (by first | exact .inl rfl | exact .inr (.inl rfl) | exact .inr (.inr rfl)))) (pav_cons (pev_excK (X_NotPlain Z _ rfl rfl rfl rfl rfl) hr (by decide) rfl Z.g_NotPlain (pev_name (i := 0) rfl (by first | exact .inl rfl | exact .inr (.inl rfl) | exact .inr (.inr rfl)))) (pav_nil)))))) (pssv_cons (psv_set (i := 2) nd__law_numbers rfl (by first | exact .inl rfl | exact .inr rfl) (pev_add (pev_name (i := 2) rfl (by first | exact .inl rfl | exact .inr (.inl rfl) | exact .inr (.inr rfl))) (pev_lst (pav_cons (pev_exc (X_NoResult Z _ rfl rfl rfl rfl rfl) hr (by decide) rfl Z.g_NoResult (pev_name (i := 0) rfl (by first | exact .inl rfl | exact .inr (.inl rfl) | exact .inr (.inr rfl)))) (pav_cons (pev_exc (X_MayFail Z _ rfl rfl rfl rfl rfl) hr (by decide) rfl Z.g_MayFail (pev_name (i := 0) rfl (by first | exact .inl rfl | exact .inr (.inl rfl) | exact .inr (.inr rfl)))) (pav_cons (pev_exc (X_NotPlain Z _ rfl rfl rfl rfl rfl) hr (by decide) rfl Z.g_NotPlain (pev_name (i := 0) rfl (by first | exact .inl rfl | exact .inr (.inl rfl) | exact .inr (.inr rfl)))) (pav_nil))))))) (pssv_one (psv_ret (pev_add (pev_lc (own := [("_law_wrong", 3)]) rfl nd__law_numbers (piv_any (pev_name (i := 1) rfl (by first | exact .inl rfl | exact .inr (.inl rfl) | exact .inr (.inr rfl)))) (blkOk_by (by show blkC N__law_numbers (defScope s__law_numbers) _ _ = true; decide +kernel)) (by decide) (fun s H C cl fp W hW => pgv_name (i := 3) nd__law_numbers rfl (by first | exact .inl rfl | exact .inr rfl) (h0 := .inr hW.me)) (fun s H C cl fp W hW => ptsv_nil) (fun s H C cl fp W hW => pev_lst (pav_cons (pev_name (i := 3) rfl (by first | exact .inl rfl | exact .inr (.inl rfl) | exact .inr (.inr rfl))) (pav_cons (pev_xfld Z.xf_line (pev_name (i := 3) rfl (by first | exact .inl rfl | exact .inr (.inl rfl) | exact .inr (.inr rfl)))) (pav_nil))))) (pev_lc (own := [("_law_wrong", 3)]) rfl nd__law_numbers (piv_any (pev_name (i := 2) rfl (by first | exact .inl rfl | exact .inr (.inl rfl) | exact .inr (.inr rfl)))) (blkOk_by (by show blkC N__law_numbers (defScope s__law_numbers) _ _ = true; decide +kernel)) (by decide) (fun s H C cl fp W hW => pgv_name (i := 3) nd__law_numbers rfl (by first | exact .inl rfl | exact .inr rfl) (h0 := .inr hW.me)) (fun s H C cl fp W hW => ptsv_nil) (fun s H C cl fp W hW => pev_lst (pav_cons (pev_name (i := 3) rfl (by first | exact .inl rfl | exact .inr (.inl rfl) | exact .inr (.inr rfl))) (pav_cons (pev_xfld Z.xf_part (pev_name (i := 3) rfl (by first | exact .inl rfl | exact .inr (.inl rfl) | exact .inr (.inr rfl)))) (pav_nil)))))))))))
theorem G__law_numbers (Z : Zs K mg) : Fam P w K mg base fun X => FnG X L__law_numbers "_law_numbers" 1 k__law_numbers := by
  obtain ⟨fd, F⟩ := Z.d__law_numbers
  exact fnG_of (ps := ["_law_number"]) F Z.g__law_numbers (def_ok F sc__law_numbers (b__law_numbers Z)) fun _ _ _ _ _ _ us hl => match us, hl with | [_], _ => rfl
abbrev N__law_classes : List Str := ["_law_wrong", "_law_found"]
theorem nd__law_classes : N__law_classes.Nodup := by decide +kernel
theorem sc__law_classes : FnScope N__law_classes ["_law_wrong"] (defScope s__law_classes) := ⟨rfl, rfl, rfl, nd__law_classes, rfl, by decide +kernel, by decide +kernel⟩
def g__law_classes : Ev.Env → Sto → SRes := sSeq (sSet 1 (vL mkLst (aCons (v1 (isD (tabL t_is_BadLine)) (vName 0)) (aCons (v1 (isD (tabL t_is_BadAmount)) (vName 0)) (aCons (v1 (isD (tabL t_is_BadName)) (vName 0)) (aNil)))))) (sSeq (sSet 1 (v2 addD (vName 1) (vL mkLst (aCons (v1 (isD (tabL t_is_BadTag)) (vName 0)) (aCons (v1 (isD (tabL t_is_BadEach)) (vName 0)) (aCons (v1 (isD (tabL t_is_Twice)) (vName 0)) (aNil))))))) (sSeq (sSet 1 (v2 addD (vName 1) (vL mkLst (aCons (v1 (isD (tabL t_is_Shallow)) (vName 0)) (aCons (v1 (isD (tabL t_is_NoResult)) (vName 0)) (aCons (v1 (isD (tabL t_is_BadIndent)) (vName 0)) (aNil))))))) (sSeq (sSet 1 (v2 addD (vName 1) (vL mkLst (aCons (v1 (isD (tabL t_is_NoFrame)) (vName 0)) (aCons (v1 (isD (tabL t_is_BadFilling)) (vName 0)) (aCons (v1 (isD (tabL t_is_Unlike)) (vName 0)) (aNil))))))) (sSeq (sSet 1 (v2 addD (vName 1) (vL mkLst (aCons (v1 (isD (tabL t_is_MayFail)) (vName 0)) (aCons (v1 (isD (tabL t_is_BadMend)) (vName 0)) (aCons (v1 (isD (tabL t_is_NotPlain)) (vName 0)) (aNil))))))) (sSeq (sSet 1 (v2 addD (vName 1) (vL mkLst (aCons (v1 (isD (tabL t_is_OtherNames)) (vName 0)) (aCons (v1 (isD (tabL t_is_BadProgram)) (vName 0)) (aCons (v1 (isD (tabL t_is_BadCommand)) (vName 0)) (aNil))))))) (sSeq (sSet 1 (v2 addD (vName 1) (vL mkLst (aCons (v1 (isD (tabL t_is_NoLine)) (vName 0)) (aCons (v1 (isD (tabL t_is_NoNode)) (vName 0)) (aCons (v1 (isD (tabL t_is_NoPart)) (vName 0)) (aNil))))))) (sSeq (sSet 1 (v2 addD (vName 1) (vL mkLst (aCons (v1 (isD (tabL t_is_NoPlace)) (vName 0)) (aCons (v1 (isD (tabL t_is_NoShift)) (vName 0)) (aCons (v1 (isD (tabL t_is_NoHole)) (vName 0)) (aNil))))))) (sRet (v2 addD (vName 1) (vL mkLst (aCons (v1 (isD (tabL t_is_Unfilled)) (vName 0)) (aCons (v1 (isD (tabL t_is_TooMany)) (vName 0)) (aNil)))))))))))))
def k__law_classes (ds : List D) (S : Sto) : Res D := fnRes (g__law_classes (startE N__law_classes ds) S)
abbrev L__law_classes : Nat := 1
theorem b__law_classes (Z : Zs K mg) (cdv : Value) (A : Around) (outer : List PySem.Env) (s : Shared) (H : Hp) (E : XK) (W : Wi) (hme : W.me = none) (hr : Rm 0 (A.deeper (envOfC "_law_classes" (defScope s__law_classes) s.heap.objs.size (He.fAd K ("_law_classes", none)) cdv)))
    (tk : Takes (cxOf (CX P w) P w K mg base N__law_classes "_law_classes" (defScope s__law_classes) (He.fAd K ("_law_classes", none)) cdv A outer s H E) W.w) :
    PSsv (cxOf (CX P w) P w K mg base N__law_classes "_law_classes" (defScope s__law_classes) (He.fAd K ("_law_classes", none)) cdv A outer s H E) W (defBody s__law_classes) g__law_classes :=
  pssv_cons (psv_set (i := 1) nd__law_classes rfl (by first | exact .inl rfl | exact .inr rfl) (pev_lst (pav_cons (pev_is rfl Z.b_isinstance (pev_name (i := 0) rfl (by first | exact .inl rfl | exact .inr (.inl rfl) | exact .inr (.inr rfl))) (pe_glob (v := Cv.v K (.c 4)) rfl Z.g_BadLine rfl) (Cv.cls K (.c 4)) Z.is_BadLine) (pav_cons (pev_is rfl Z.b_isinstance (pev_name (i := 0) rfl (by first | exact .inl rfl | exact .inr (.inl rfl) | exact .inr (.inr rfl))) (pe_glob (v := Cv.v K (.c 5)) rfl Z.g_BadAmount rfl) (Cv.cls K (.c 5)) Z.is_BadAmount) (pav_cons (pev_is rfl Z.b_isinstance (pev_name (i := 0) rfl (by first | exact .inl rfl | exact .inr (.inl rfl) | exact .inr (.inr rfl))) (pe_glob (v := Cv.v K (.c 6)) rfl Z.g_BadName rfl) (Cv.cls K (.c 6)) Z.is_BadName) (pav_nil)))))) (pssv_cons (psv_set (i := 1) nd__law_classes rfl (by first | exact .inl rfl | exact .inr rfl) (pev_add (pev_name (i := 1) rfl (by first | exact .inl rfl | exact .inr (.inl rfl) | exact .inr (.inr rfl))) (pev_lst (pav_cons (pev_is rfl Z.b_isinstance (pev_name (i := 0) rfl (by first | exact .inl rfl | exact .inr (.inl rfl) | exact .inr (.inr rfl))) (pe_glob (v := Cv.v K (.c 7)) rfl Z.g_BadTag rfl) (Cv.cls K (.c 7)) Z.is_BadTag) (pav_cons (pev_is rfl Z.b_isinstance (pev_name (i := 0) rfl (by first | exact .inl rfl | exact .inr (.inl rfl) | exact .inr (.inr rfl))) (pe_glob (v := Cv.v K (.c 8)) rfl Z.g_BadEach rfl) (Cv.cls K (.c 8)) Z.is_BadEach) (pav_cons (pev_is rfl Z.b_isinstance (pev_name (i := 0) rfl (by first | exact .inl rfl | exact .inr (.inl rfl) | exact .inr (.inr rfl))) (pe_glob (v := Cv.v K (.c 9)) rfl Z.g_Twice rfl) (Cv.cls K (.c 9)) Z.is_Twice) (pav_nil))))))) (pssv_cons (psv_set (i := 1) nd__law_classes rfl (by first | exact .inl rfl | exact .inr rfl) (pev_add (pev_name (i := 1) rfl (by first | exact .inl rfl | exact .inr (.inl rfl) | exact .inr (.inr rfl))) (pev_lst (pav_cons (pev_is rfl Z.b_isinstance (pev_name (i := 0) rfl (by first | exact .inl rfl | exact .inr (.inl rfl) | exact .inr (.inr rfl))) (pe_glob (v := Cv.v K (.c 10)) rfl Z.g_Shallow rfl) (Cv.cls K (.c 10)) Z.is_Shallow) (pav_cons (pev_is rfl Z.b_isinstance (pev_name (i := 0) rfl (by first | exact .inl rfl | exact .inr (.inl rfl) | exact .inr (.inr rfl))) (pe_glob (v := Cv.v K (.c 11)) rfl Z.g_NoResult rfl) (Cv.cls K (.c 11)) Z.is_NoResult) (pav_cons (pev_is rfl Z.b_isinstance (pev_name (i := 0) rfl (by first | exact .inl rfl | exact .inr (.inl rfl) | exact .inr (.inr rfl))) (pe_glob (v := Cv.v K (.c 12)) rfl Z.g_BadIndent rfl) (Cv.cls K (.c 12)) Z.is_BadIndent) (pav_nil))))))) (pssv_cons (psv_set (i := 1) nd__law_classes rfl (by first | exact .inl rfl | exact .inr rfl) (pev_add (pev_name (i := 1) rfl (by first | exact .inl rfl | exact .inr (.inl rfl) | exact .inr (.inr rfl))) (pev_lst (pav_cons (pev_is rfl Z.b_isinstance (pev_name (i := 0) rfl (by first | exact .inl rfl | exact .inr (.inl rfl) | exact .inr (.inr rfl))) (pe_glob (v := Cv.v K (.c 13)) rfl Z.g_NoFrame rfl) (Cv.cls K (.c 13)) Z.is_NoFrame) (pav_cons (pev_is rfl Z.b_isinstance (pev_name (i := 0) rfl (by first | exact .inl rfl | exact .inr (.inl rfl) | exact .inr (.inr rfl))) (pe_glob (v := Cv.v K (.c 14)) rfl Z.g_BadFilling rfl) (Cv.cls K (.c 14)) Z.is_BadFilling) (pav_cons (pev_is rfl Z.b_isinstance (pev_name (i := 0) rfl (by first | exact .inl rfl | exact .inr (.inl rfl) | exact .inr (.inr rfl))) (pe_glob (v := Cv.v K (.c 15)) rfl Z.g_Unlike rfl) (Cv.cls K (.c 15)) Z.is_Unlike) (pav_nil))))))) (pssv_cons (psv_set (i := 1) nd__law_classes rfl (by first | exact .inl rfl | exact .inr rfl) (pev_add (pev_name (i := 1) rfl (by first | exact .inl rfl | exact .inr (.inl rfl) | exact .inr (.inr rfl))) (pev_lst (pav_cons (pev_is rfl Z.b_isinstance (pev_name (i := 0) rfl (by first | exact .inl rfl | exact .inr (.inl rfl) | exact .inr (.inr rfl))) (pe_glob (v := Cv.v K (.c 16)) rfl Z.g_MayFail rfl) (Cv.cls K (.c 16)) Z.is_MayFail) (pav_cons (pev_is rfl Z.b_isinstance (pev_name (i := 0) rfl (by first | exact .inl rfl | exact .inr (.inl rfl) | exact .inr (.inr rfl))) (pe_glob (v := Cv.v K (.c 17)) rfl Z.g_BadMend rfl) (Cv.cls K (.c 17)) Z.is_BadMend) (pav_cons (pev_is rfl Z.b_isinstance (pev_name (i := 0) rfl (by first | exact .inl rfl | exact .inr (.inl rfl) | exact .inr (.inr rfl))) (pe_glob (v := Cv.v K (.c 18)) rfl Z.g_NotPlain rfl) (Cv.cls K (.c 18)) Z.is_NotPlain) (pav_nil))))))) (pssv_cons (psv_set (i := 1) nd__law_classes rfl (by first | exact .inl rfl | exact .inr rfl) (pev_add (pev_name (i := 1) rfl (by first | exact .inl rfl | exact .inr (.inl rfl) | exact .inr (.inr rfl))) (pev_lst (pav_cons (pev_is rfl Z.b_isinstance (pev_name (i := 0) rfl (by first | exact .inl rfl | exact .inr (.inl rfl) | exact .inr (.inr rfl))) (pe_glob (v := Cv.v K (.c 19)) rfl Z.g_OtherNames rfl) (Cv.cls K (.c 19)) Z.is_OtherNames) (pav_cons (pev_is rfl Z.b_isinstance (pev_name (i := 0) rfl (by first | exact .inl rfl | exact .inr (.inl rfl) | exact .inr (.inr rfl))) (pe_glob (v := Cv.v K (.c 20)) rfl Z.g_BadProgram rfl) (Cv.cls K (.c 20)) Z.is_BadProgram) (pav_cons (pev_is rfl Z.b_isinstance (pev_name (i := 0) rfl (by first | exact .inl rfl | exact .inr (.inl rfl) | exact .inr (.inr rfl))) (pe_glob (v := Cv.v K (.c 21)) rfl Z.g_BadCommand rfl) (Cv.cls K (.c 21)) Z.is_BadCommand) (pav_nil))))))) (pssv_cons (psv_set (i := 1) nd__law_classes rfl (by first | exact .inl rfl | exact .inr rfl) (pev_add (pev_name (i := 1) rfl (by first | exact .inl rfl | exact .inr (.inl rfl) | exact .inr (.inr rfl))) (pev_lst (pav_cons (pev_is rfl Z.b_isinstance (pev_name (i := 0) rfl (by first | exact .inl rfl | exact .inr (.inl rfl) | exact .inr (.inr rfl))) (pe_glob (v := Cv.v K (.c 22)) rfl Z.g_NoLine rfl) (Cv.cls K (.c 22)) Z.is_NoLine) (pav_cons (pev_is rfl Z.b_isinstance (pev_name (i := 0) rfl (by first | exact .inl rfl | exact .inr (.inl rfl) | exact .inr (.inr rfl))) (pe_glob (v := Cv.v K (.c 23)) rfl Z.g_NoNode rfl) (Cv.cls K (.c 23)) Z.is_NoNode) (pav_cons (pev_is rfl Z.b_isinstance (pev_name (i := 0) rfl (by first | exact .inl rfl | exact .inr (.inl rfl) | exact .inr (.inr rfl))) (pe_glob (v := Cv.v K (.c 24)) rfl Z.g_NoPart rfl) (Cv.cls K (.c 24)) Z.is_NoPart) (pav_nil))))))) (pssv_cons (psv_set (i := 1) nd__law_classes rfl (by first | exact .inl rfl | exact .inr rfl) (pev_add (pev_name (i := 1) rfl (by first | exact .inl rfl | exact .inr (.inl rfl) | exact .inr (.inr rfl))) (pev_lst (pav_cons (pev_is rfl Z.b_isinstance (pev_name (i := 0) rfl (by first | exact .inl rfl | exact .inr (.inl rfl) | exact .inr (.inr rfl))) (pe_glob (v := Cv.v K (.c 25)) rfl Z.g_NoPlace rfl) (Cv.cls K (.c 25)) Z.is_NoPlace) (pav_cons (pev_is rfl Z.b_isinstance (pev_name (i := 0) rfl (by first | exact .inl rfl | exact .inr (.inl rfl) | exact .inr (.inr rfl))) (pe_glob (v := Cv.v K (.c 26)) rfl Z.g_NoShift rfl) (Cv.cls K (.c 26)) Z.is_NoShift) (pav_cons (pev_is rfl Z.b_isinstance (pev_name (i := 0) rfl (by first | exact .inl rfl | exact .inr (.inl rfl) | exact .inr (.inr rfl))) (pe_glob (v := Cv.v K (.c 27)) rfl Z.g_NoHole rfl) (Cv.cls K (.c 27)) Z.is_NoHole) (pav_nil))))))) (pssv_one (psv_ret (pev_add (pev_name (i := 1) rfl (by first | exact .inl rfl | exact .inr (.inl rfl) | exact .inr (.inr rfl))) (pev_lst (pav_cons (pev_is rfl Z.b_isinstance (pev_name (i := 0) rfl (by first | exact .inl rfl | exact .inr (.inl rfl) | exact .inr (.inr rfl))) (pe_glob (v := Cv.v K (.c 28)) rfl Z.g_Unfilled rfl) (Cv.cls K (.c 28)) Z.is_Unfilled) (pav_cons (pev_is rfl Z.b_isinstance (pev_name (i := 0) rfl (by first | exact .inl rfl | exact .inr (.inl rfl) | exact .inr (.inr rfl))) (pe_glob (v := Cv.v K (.c 29)) rfl Z.g_TooMany rfl) (Cv.cls K (.c 29)) Z.is_TooMany) (pav_nil))))))))))))))
theorem G__law_classes (Z : Zs K mg) : Fam P w K mg base fun X => FnG X L__law_classes "_law_classes" 1 k__law_classes := by
  obtain ⟨fd, F⟩ := Z.d__law_classes
  exact fnG_of (ps := ["_law_wrong"]) F Z.g__law_classes (def_ok F sc__law_classes (b__law_classes Z)) fun _ _ _ _ _ _ us hl => match us, hl with | [_], _ => rfl
abbrev N__law_raised : List Str := ["_law_word_here", "_law_wrong"]
theorem nd__law_raised : N__law_raised.Nodup := by decide +kernel
theorem sc__law_raised : FnScope N__law_raised ["_law_word_here"] (defScope s__law_raised) := ⟨rfl, rfl, rfl, nd__law_raised, rfl, by decide +kernel, by decide +kernel⟩
def g__law_raised : Ev.Env → Sto → SRes := sTry (sRaise 20 "text" (vName 0)) [⟨cmL cm_BadCommand, none, fun x => sRet (vC .non)⟩, ⟨cmL cm_BadProgram, (some 1), fun x => sRetX (vXg 1 x "text")⟩]
def k__law_raised (ds : List D) (S : Sto) : Res D := fnRes (g__law_raised (startE N__law_raised ds) S)
abbrev L__law_raised : Nat := 3
theorem b__law_raised (Z : Zs K mg) (cdv : Value) (A : Around) (outer : List PySem.Env) (s : Shared) (H : Hp) (E : XK) (W : Wi) (hme : W.me = none) (hr : Rm 2 (A.deeper (envOfC "_law_raised" (defScope s__law_raised) s.heap.objs.size (He.fAd K ("_law_raised", none)) cdv)))
    (tk : Takes (cxOf (CX P w) P w K mg base N__law_raised "_law_raised" (defScope s__law_raised) (He.fAd K ("_law_raised", none)) cdv A outer s H E) W.w) :
    PSsv (cxOf (CX P w) P w K mg base N__law_raised "_law_raised" (defScope s__law_raised) (He.fAd K ("_law_raised", none)) cdv A outer s H E) W (defBody s__law_raised) g__law_raised :=
  pssv_one (psv_try rfl rfl nd__law_raised tk hme (fun W' pn xe hme' tk' hp' => pssv_one (psv_raise rfl (X_BadProgram Z _ rfl rfl rfl rfl rfl) hr (by decide) tk' rfl Z.g_BadProgram (pev_name (i := 0) rfl (by first | exact .inl rfl | exact .inr (.inl rfl) | exact .inr (.inr rfl))))) (.cons (gg := (fun (a dd : Addr) (C : Nat) => sRet (vC .non))) ⟨rfl, by decide, .inl Z.g_BadCommand⟩ trivial Z.cm_BadCommand (fun a oe dd C pn W hC hz hf hW => pssv_one (psv_ret (pev_non))) (fun a dd x ρ S => .inl rfl) (.cons (gg := (fun (a dd : Addr) (C : Nat) => sRet (vXf 1 a dd C "text"))) ⟨rfl, by decide, .inl Z.g_BadProgram⟩ ⟨rfl, rfl⟩ Z.cm_BadProgram (fun a oe dd C pn W hC hz hf hW => pssv_one (psv_ret (pev_xf (i := 1) (Z.w__law_raised_BadProgram_text C (by rw [cmIn hC] <;> rfl)).1 (Z.w__law_raised_BadProgram_text C (by rw [cmIn hC] <;> rfl)).2 hz hf rfl (.inl rfl)))) (fun a dd x ρ S => retX_hg (by simp only [v1, v2, vL, aCons, aNil, vC, vXf_here])) (.nil))))
theorem G__law_raised (Z : Zs K mg) : Fam P w K mg base fun X => FnG X L__law_raised "_law_raised" 1 k__law_raised := by
  obtain ⟨fd, F⟩ := Z.d__law_raised
  exact fnG_of (ps := ["_law_word_here"]) F Z.g__law_raised (def_ok F sc__law_raised (b__law_raised Z)) fun _ _ _ _ _ _ us hl => match us, hl with | [_], _ => rfl
abbrev N__law_case : List Str := ["_law_source_here", "_law_thing", "_law_word_here", "_law_number", "_law_values_here", "_law_wants", "_law_names", "_law_lacks", "_law_told", "_law_attributes", "_law_many", "_law_at", "_law_kinds", "_law_due", "_law_wrong", "_law_kept", "_law_firm", "_law_is_in"]
theorem nd__law_case : N__law_case.Nodup := by decide +kernel
theorem sc__law_case : FnScope N__law_case ["_law_source_here"] (defScope s__law_case) := ⟨rfl, rfl, rfl, nd__law_case, rfl, by decide +kernel, by decide +kernel⟩
def g__law_case : Ev.Env → Sto → SRes := sSeq (sPar 1 2 (aCons (vCall 1 k__law_odd (aCons (vName 0) (aNil))) (aCons (vCall 1 k__law_word (aCons (vName 0) (aNil))) (aNil)))) (sSeq (sSet 3 (v2 subD (vCall 2 k__law_draw (aCons (vName 0) (aCons (v2 powD (vC (.int 10)) (vC (.int 9))) (aNil)))) (vC (.int 1)))) (sSeq (sAsg (tgT 2 (tgCons (tgN 4) (tgCons (tgN 5) (tgNil)))) (vCall 1 k__law_values (aCons (vName 1) (aNil)))) (sSeq (sAsg (tgT 2 (tgCons (tgN 6) (tgCons (tgN 7) (tgNil)))) (vCall 1 k__law_words (aCons (vName 2) (aNil)))) (sSeq (sSet 8 (vL mkLst (aCons (vL mkLst (aCons (v1 (excD 20 "text") (vName 1)) (aCons (vName 1) (aNil)))) (aCons (vL mkLst (aCons (v1 (excD 21 "command") (vName 1)) (aCons (vName 1) (aNil)))) (aNil))))) (sSeq (sSet 8 (v2 addD (vName 8) (vL mkLst (aCons (vL mkLst (aCons (v1 (excD 17 "mend") (vName 1)) (aCons (vName 1) (aNil)))) (aCons (vL mkLst (aCons (v1 (excD 15 "place") (vName 3)) (aCons (vName 3) (aNil)))) (aNil)))))) (sSeq (sSet 9 (vL mkLst (aCons (v1 (xfldD [20] "text") (v2 ixD (v2 ixD (vName 8) (vC (.int 0))) (vC (.int 0)))) (aCons (v1 (xfldD [21] "command") (v2 ixD (v2 ixD (vName 8) (vC (.int 1))) (vC (.int 0)))) (aCons (v1 (xfldD [17] "mend") (v2 ixD (v2 ixD (vName 8) (vC (.int 2))) (vC (.int 0)))) (aCons (v1 (xfldD [15] "place") (v2 ixD (v2 ixD (vName 8) (vC (.int 3))) (vC (.int 0)))) (aNil))))))) (sSeq (sSet 10 (v1 (excD 29 "limit") (vName 3))) (sSeq (sFor (vLI rng1 (aCons (vC (.int 4)) (aNil))) (tgN 11) (sIf (bNot (vT (vCall 2 k__law_same (aCons (v2 ixD (vName 9) (vName 11)) (aCons (v2 ixD (v2 ixD (vName 8) (vName 11)) (vC (.int 1))) (aNil)))))) (sRet (vC (.bl false))) (sNil))) (sSeq (sFor (vIt (vL mkLst (aCons (vL mkLst (aCons (vName 4) (aCons (vName 1) (aNil)))) (aCons (vL mkLst (aCons (vName 5) (aCons (vName 1) (aNil)))) (aCons (vL mkLst (aCons (vName 6) (aCons (vName 2) (aNil)))) (aCons (vL mkLst (aCons (vName 7) (aCons (vName 2) (aNil)))) (aNil))))))) (tgT 2 (tgCons (tgN 12) (tgCons (tgN 13) (tgNil)))) (sFor (vIt (vName 12)) (tgT 2 (tgCons (tgN 14) (tgCons (tgN 15) (tgNil)))) (sIf (bNot (vT (vCall 2 k__law_same (aCons (vName 15) (aCons (vName 13) (aNil)))))) (sRet (vC (.bl false))) (sNil)))) (sSeq (sFor (vIt (vCall 1 k__law_numbers (aCons (vName 3) (aNil)))) (tgT 2 (tgCons (tgN 14) (tgCons (tgN 15) (tgNil)))) (sIf (bOr (vT (v1 (isD (tabL t_is_bool)) (vName 15))) (vB (v2 neD (vName 15) (vName 3)))) (sRet (vC (.bl false))) (sNil))) (sSeq (sSet 16 (v2 addD (v2 addD (v2 addD (vName 4) (vName 6)) (vCall 1 k__law_numbers (aCons (vName 3) (aNil)))) (vName 8))) (sSeq (sFor (vIt (v2 addD (v2 addD (v2 addD (vName 16) (vName 5)) (vName 7)) (vL mkLst (aCons (vL mkLst (aCons (vName 10) (aCons (vName 3) (aNil)))) (aNil))))) (tgT 2 (tgCons (tgN 14) (tgCons (tgN 15) (tgNil)))) (sIf (vB (v2 neD (vL (arg1 lenD) (aCons (vLc [17] (vIt (vCall 1 k__law_classes (aCons (vName 14) (aNil)))) (tgN 17) (vT (vName 17)) (vC (.bl true))) (aNil))) (vC (.int 1)))) (sRet (vC (.bl false))) (sNil))) (sSeq (sFor (vIt (vName 16)) (tgT 2 (tgCons (tgN 14) (tgCons (tgN 15) (tgNil)))) (sIf (bOr (bNot (vT (v1 (isD (tabL t_is_ValueError)) (vName 14)))) (vT (v1 (isD (tabL t_is_LookupError)) (vName 14)))) (sRet (vC (.bl false))) (sNil))) (sSeq (sFor (vIt (v2 addD (vName 5) (vName 7))) (tgT 2 (tgCons (tgN 14) (tgCons (tgN 15) (tgNil)))) (sIf (bOr (bNot (vT (v1 (isD (tabL t_is_LookupError)) (vName 14)))) (vT (v1 (isD (tabL t_is_ValueError)) (vName 14)))) (sRet (vC (.bl false))) (sNil))) (sSeq (sIf (bOr (bNot (vT (v1 (isD (tabL t_is_OverflowError)) (vName 10)))) (vT (v1 (isD (tabL t_is_ValueError_LookupError)) (vName 10)))) (sRet (vC (.bl false))) (sNil)) (sSeq (sIf (vB (v2 neD (v1 (xfldD [29] "limit") (vName 10)) (vName 3))) (sRet (vC (.bl false))) (sNil)) (sRet (v2 eqD (vCall 1 k__law_raised (aCons (vName 2) (aNil))) (vName 2)))))))))))))))))))
def k__law_case (ds : List D) (S : Sto) : Res D := fnRes (g__law_case (startE N__law_case ds) S)
abbrev L__law_case : Nat := 5
theorem b__law_case (Z : Zs K mg) (cdv : Value) (A : Around) (outer : List PySem.Env) (s : Shared) (H : Hp) (E : XK) (W : Wi) (hme : W.me = none) (hr : Rm 4 (A.deeper (envOfC "_law_case" (defScope s__law_case) s.heap.objs.size (He.fAd K ("_law_case", none)) cdv)))
    (tk : Takes (cxOf (CX P w) P w K mg base N__law_case "_law_case" (defScope s__law_case) (He.fAd K ("_law_case", none)) cdv A outer s H E) W.w) :
    PSsv (cxOf (CX P w) P w K mg base N__law_case "_law_case" (defScope s__law_case) (He.fAd K ("_law_case", none)) cdv A outer s H E) W (defBody s__law_case) g__law_case :=
  pssv_cons (psv_par (i := 1) (j := 2) rfl nd__law_case rfl rfl (by decide) rfl rfl (pav_cons (pev_call (G__law_odd Z _ rfl rfl rfl rfl rfl) hr (by decide) tk rfl (pav_cons (pev_name (i := 0) rfl (by first | exact .inl rfl | exact .inr (.inl rfl) | exact .inr (.inr rfl))) (pav_nil))) (pav_cons (pev_call (G__law_word Z _ rfl rfl rfl rfl rfl) hr (by decide) tk rfl (pav_cons (pev_name (i := 0) rfl (by first | exact .inl rfl | exact .inr (.inl rfl) | exact .inr (.inr rfl))) (pav_nil))) (pav_nil))) rfl) (pssv_cons (psv_set (i := 3) nd__law_case rfl (by first | exact .inl rfl | exact .inr rfl) (pev_sub (pev_call (G__law_draw Z _ rfl rfl rfl rfl rfl) hr (by decide) tk rfl (pav_cons (pev_name (i := 0) rfl (by first | exact .inl rfl | exact .inr (.inl rfl) | exact .inr (.inr rfl))) (pav_cons (pev_pow (pev_int) (pev_int)) (pav_nil)))) (pev_int))) (pssv_cons (psv_asg (pev_call (G__law_values Z _ rfl rfl rfl rfl rfl) hr (by decide) tk rfl (pav_cons (pev_name (i := 1) rfl (by first | exact .inl rfl | exact .inr (.inl rfl) | exact .inr (.inr rfl))) (pav_nil))) (pgv_tup rfl (pgvs_cons (pgv_name (i := 4) nd__law_case rfl (by first | exact .inl rfl | exact .inr rfl) (h0 := .inr hme)) (pgvs_cons (pgv_name (i := 5) nd__law_case rfl (by first | exact .inl rfl | exact .inr rfl) (h0 := .inr hme)) (pgvs_nil))))) (pssv_cons (psv_asg (pev_call (G__law_words Z _ rfl rfl rfl rfl rfl) hr (by decide) tk rfl (pav_cons (pev_name (i := 2) rfl (by first | exact .inl rfl | exact .inr (.inl rfl) | exact .inr (.inr rfl))) (pav_nil))) (pgv_tup rfl (pgvs_cons (pgv_name (i := 6) nd__law_case rfl (by first | exact .inl rfl | exact .inr rfl) (h0 := .inr hme)) (pgvs_cons (pgv_name (i := 7) nd__law_case rfl (by first | exact .inl rfl | exact .inr rfl) (h0 := .inr hme)) (pgvs_nil))))) (pssv_cons (psv_set (i := 8) nd__law_case rfl (by first | exact .inl rfl | exact .inr rfl) (pev_lst (pav_cons (pev_lst (pav_cons (pev_excK (X_BadProgram Z _ rfl rfl rfl rfl rfl) hr (by decide) rfl Z.g_BadProgram (pev_name (i := 1) rfl (by first | exact .inl rfl | exact .inr (.inl rfl) | exact .inr (.inr rfl)))) (pav_cons (pev_name (i := 1) rfl (by first | exact .inl rfl | exact .inr (.inl rfl) | exact .inr (.inr rfl))) (pav_nil)))) (pav_cons (pev_lst (pav_cons (pev_excK (X_BadCommand Z _ rfl rfl rfl rfl rfl) hr (by decide) rfl Z.g_BadCommand (pev_name (i := 1) rfl (by first | exact .inl rfl | exact .inr (.inl rfl) | exact .inr (.inr rfl)))) (pav_cons (pev_name (i := 1) rfl (by first | exact .inl rfl | exact .inr (.inl rfl) | exact .inr (.inr rfl))) (pav_nil)))) (pav_nil))))) (pssv_cons (psv_set (i := 8) nd__law_case rfl (by first | exact .inl rfl | exact .inr rfl) (pev_add (pev_name (i := 8) rfl (by first | exact .inl rfl | exact .inr (.inl rfl) | exact .inr (.inr rfl))) (pev_lst (pav_cons (pev_lst (pav_cons (pev_excK (X_BadMend Z _ rfl rfl rfl rfl rfl) hr (by decide) rfl Z.g_BadMend (pev_name (i := 1) rfl (by first | exact .inl rfl | exact .inr (.inl rfl) | exact .inr (.inr rfl)))) (pav_cons (pev_name (i := 1) rfl (by first | exact .inl rfl | exact .inr (.inl rfl) | exact .inr (.inr rfl))) (pav_nil)))) (pav_cons (pev_lst (pav_cons (pev_excK (X_Unlike Z _ rfl rfl rfl rfl rfl) hr (by decide) rfl Z.g_Unlike (pev_name (i := 3) rfl (by first | exact .inl rfl | exact .inr (.inl rfl) | exact .inr (.inr rfl)))) (pav_cons (pev_name (i := 3) rfl (by first | exact .inl rfl | exact .inr (.inl rfl) | exact .inr (.inr rfl))) (pav_nil)))) (pav_nil)))))) (pssv_cons (psv_set (i := 9) nd__law_case rfl (by first | exact .inl rfl | exact .inr rfl) (pev_lst (pav_cons (pev_xfld Z.xf_text (pev_ix (pev_ix (pev_name (i := 8) rfl (by first | exact .inl rfl | exact .inr (.inl rfl) | exact .inr (.inr rfl))) (pev_int)) (pev_int))) (pav_cons (pev_xfld Z.xf_command (pev_ix (pev_ix (pev_name (i := 8) rfl (by first | exact .inl rfl | exact .inr (.inl rfl) | exact .inr (.inr rfl))) (pev_int)) (pev_int))) (pav_cons (pev_xfld Z.xf_mend (pev_ix (pev_ix (pev_name (i := 8) rfl (by first | exact .inl rfl | exact .inr (.inl rfl) | exact .inr (.inr rfl))) (pev_int)) (pev_int))) (pav_cons (pev_xfld Z.xf_place (pev_ix (pev_ix (pev_name (i := 8) rfl (by first | exact .inl rfl | exact .inr (.inl rfl) | exact .inr (.inr rfl))) (pev_int)) (pev_int))) (pav_nil))))))) (pssv_cons (psv_set (i := 10) nd__law_case rfl (by first | exact .inl rfl | exact .inr rfl) (pev_excK (X_TooMany Z _ rfl rfl rfl rfl rfl) hr (by decide) rfl Z.g_TooMany (pev_name (i := 3) rfl (by first | exact .inl rfl | exact .inr (.inl rfl) | exact .inr (.inr rfl))))) (pssv_cons (psv_for (passes_of rfl) rfl (piv_range1 rfl Z.b_range (pav_cons (pev_int) (pav_nil))) (pgv_name (i := 11) nd__law_case rfl (by first | exact .inl rfl | exact .inr rfl) (h0 := .inr hme)) (pssv_one (psv_if (ptv_not (ptv_truth (pev_call (G__law_same Z _ rfl rfl rfl rfl rfl) hr (by decide) tk rfl (pav_cons (pev_ix (pev_name (i := 9) rfl (by first | exact .inl rfl | exact .inr (.inl rfl) | exact .inr (.inr rfl))) (pev_name (i := 11) rfl (by first | exact .inl rfl | exact .inr (.inl rfl) | exact .inr (.inr rfl)))) (pav_cons (pev_ix (pev_ix (pev_name (i := 8) rfl (by first | exact .inl rfl | exact .inr (.inl rfl) | exact .inr (.inr rfl))) (pev_name (i := 11) rfl (by first | exact .inl rfl | exact .inr (.inl rfl) | exact .inr (.inr rfl)))) (pev_int)) (pav_nil)))))) (pssv_one (psv_ret (pev_bl))) (pssv_nil)))) (pssv_cons (psv_for (passes_of rfl) rfl (piv_any (pev_lst (pav_cons (pev_lst (pav_cons (pev_name (i := 4) rfl (by first | exact .inl rfl | exact .inr (.inl rfl) | exact .inr (.inr rfl))) (pav_cons (pev_name (i := 1) rfl (by first | exact .inl rfl | exact .inr (.inl rfl) | exact .inr (.inr rfl))) (pav_nil)))) (pav_cons (pev_lst (pav_cons (pev_name (i := 5) rfl (by first | exact .inl rfl | exact .inr (.inl rfl) | exact .inr (.inr rfl))) (pav_cons (pev_name (i := 1) rfl (by first | exact .inl rfl | exact .inr (.inl rfl) | exact .inr (.inr rfl))) (pav_nil)))) (pav_cons (pev_lst (pav_cons (pev_name (i := 6) rfl (by first | exact .inl rfl | exact .inr (.inl rfl) | exact .inr (.inr rfl))) (pav_cons (pev_name (i := 2) rfl (by first | exact .inl rfl | exact .inr (.inl rfl) | exact .inr (.inr rfl))) (pav_nil)))) (pav_cons (pev_lst (pav_cons (pev_name (i := 7) rfl (by first | exact .inl rfl | exact .inr (.inl rfl) | exact .inr (.inr rfl))) (pav_cons (pev_name (i := 2) rfl (by first | exact .inl rfl | exact .inr (.inl rfl) | exact .inr (.inr rfl))) (pav_nil)))) (pav_nil))))))) (pgv_tup rfl (pgvs_cons (pgv_name (i := 12) nd__law_case rfl (by first | exact .inl rfl | exact .inr rfl) (h0 := .inr hme)) (pgvs_cons (pgv_name (i := 13) nd__law_case rfl (by first | exact .inl rfl | exact .inr rfl) (h0 := .inr hme)) (pgvs_nil)))) (pssv_one (psv_for (passes_of rfl) rfl (piv_any (pev_name (i := 12) rfl (by first | exact .inl rfl | exact .inr (.inl rfl) | exact .inr (.inr rfl)))) (pgv_tup rfl (pgvs_cons (pgv_name (i := 14) nd__law_case rfl (by first | exact .inl rfl | exact .inr rfl) (h0 := .inr hme)) (pgvs_cons (pgv_name (i := 15) nd__law_case rfl (by first | exact .inl rfl | exact .inr rfl) (h0 := .inr hme)) (pgvs_nil)))) (pssv_one (psv_if (ptv_not (ptv_truth (pev_call (G__law_same Z _ rfl rfl rfl rfl rfl) hr (by decide) tk rfl (pav_cons (pev_name (i := 15) rfl (by first | exact .inl rfl | exact .inr (.inl rfl) | exact .inr (.inr rfl))) (pav_cons (pev_name (i := 13) rfl (by first | exact .inl rfl | exact .inr (.inl rfl) | exact .inr (.inr rfl))) (pav_nil)))))) (pssv_one (psv_ret (pev_bl))) (pssv_nil)))))) (pssv_cons (psv_for (passes_of rfl) rfl (piv_any (pev_call (G__law_numbers Z _ rfl rfl rfl rfl rfl) hr (by decide) tk rfl (pav_cons (pev_name (i := 3) rfl (by first | exact .inl rfl | exact .inr (.inl rfl) | exact .inr (.inr rfl))) (pav_nil)))) (pgv_tup rfl (pgvs_cons (pgv_name (i := 14) nd__law_case rfl (by first | exact .inl rfl | exact .inr rfl) (h0 := .inr hme)) (pgvs_cons (pgv_name (i := 15) nd__law_case rfl (by first | exact .inl rfl | exact .inr rfl) (h0 := .inr hme)) (pgvs_nil)))) (pssv_one (psv_if (ptv_w (pwv_or (ptv_truth (pev_is rfl Z.b_isinstance (pev_name (i := 15) rfl (by first | exact .inl rfl | exact .inr (.inl rfl) | exact .inr (.inr rfl))) (pe_bltn (v := Cv.v K (.t "bool")) rfl Z.b_bool (by decide +kernel) rfl) (Cv.cls K (.t "bool")) Z.is_bool)) (pwv_or1 (ptv_c (cr_ne hr) (pev_name (i := 15) rfl (by first | exact .inl rfl | exact .inr (.inl rfl) | exact .inr (.inr rfl))) (pev_name (i := 3) rfl (by first | exact .inl rfl | exact .inr (.inl rfl) | exact .inr (.inr rfl))))))) (pssv_one (psv_ret (pev_bl))) (pssv_nil)))) (pssv_cons (psv_set (i := 16) nd__law_case rfl (by first | exact .inl rfl | exact .inr rfl) (pev_add (pev_add (pev_add (pev_name (i := 4) rfl (by first | exact .inl rfl | exact .inr (.inl rfl) | exact .inr (.inr rfl))) (pev_name (i := 6) rfl (by first | exact .inl rfl | exact .inr (.inl rfl) | exact .inr (.inr rfl)))) (pev_call (G__law_numbers Z _ rfl rfl rfl rfl rfl) hr (by decide) tk rfl (pav_cons (pev_name (i := 3) rfl (by first | exact .inl rfl | exact .inr (.inl rfl) | exact .inr (.inr rfl))) (pav_nil)))) (pev_name (i := 8) rfl (by first | exact .inl rfl | exact .inr (.inl rfl) | exact .inr (.inr rfl))))) (pssv_cons (psv_for (passes_of rfl) rfl (piv_any (pev_add (pev_add (pev_add (pev_name (i := 16) rfl (by first | exact .inl rfl | exact .inr (.inl rfl) | exact .inr (.inr rfl))) (pev_name (i := 5) rfl (by first | exact .inl rfl | exact .inr (.inl rfl) | exact .inr (.inr rfl)))) (pev_name (i := 7) rfl (by first | exact .inl rfl | exact .inr (.inl rfl) | exact .inr (.inr rfl)))) (pev_lst (pav_cons (pev_lst (pav_cons (pev_name (i := 10) rfl (by first | exact .inl rfl | exact .inr (.inl rfl) | exact .inr (.inr rfl))) (pav_cons (pev_name (i := 3) rfl (by first | exact .inl rfl | exact .inr (.inl rfl) | exact .inr (.inr rfl))) (pav_nil)))) (pav_nil))))) (pgv_tup rfl (pgvs_cons (pgv_name (i := 14) nd__law_case rfl (by first | exact .inl rfl | exact .inr rfl) (h0 := .inr hme)) (pgvs_cons (pgv_name (i := 15) nd__law_case rfl (by first | exact .inl rfl | exact .inr rfl) (h0 := .inr hme)) (pgvs_nil)))) (pssv_one (psv_if (ptv_c (cr_ne hr) (pev_callB (br_len) rfl Z.b_len (by decide +kernel) (pav_cons (pev_lc (own := [("_law_is_in", 17)]) rfl nd__law_case (piv_any (pev_call (G__law_classes Z _ rfl rfl rfl rfl rfl) hr (by decide) tk rfl (pav_cons (pev_name (i := 14) rfl (by first | exact .inl rfl | exact .inr (.inl rfl) | exact .inr (.inr rfl))) (pav_nil)))) (blkOk_by (by show blkC N__law_case (defScope s__law_case) _ _ = true; decide +kernel)) (by decide) (fun s H C cl fp W hW => pgv_name (i := 17) nd__law_case rfl (by first | exact .inl rfl | exact .inr rfl) (h0 := .inr hW.me)) (fun s H C cl fp W hW => ptsv_one (ptv_truth (pev_name (i := 17) rfl (by first | exact .inl rfl | exact .inr (.inl rfl) | exact .inr (.inr rfl))))) (fun s H C cl fp W hW => pev_bl)) (pav_nil))) (pev_int)) (pssv_one (psv_ret (pev_bl))) (pssv_nil)))) (pssv_cons (psv_for (passes_of rfl) rfl (piv_any (pev_name (i := 16) rfl (by first | exact .inl rfl | exact .inr (.inl rfl) | exact .inr (.inr rfl)))) (pgv_tup rfl (pgvs_cons (pgv_name (i := 14) nd__law_case rfl (by first | exact .inl rfl | exact .inr rfl) (h0 := .inr hme)) (pgvs_cons (pgv_name (i := 15) nd__law_case rfl (by first | exact .inl rfl | exact .inr rfl) (h0 := .inr hme)) (pgvs_nil)))) (pssv_one (psv_if (ptv_w (pwv_or (ptv_not (ptv_truth (pev_is rfl Z.b_isinstance (pev_name (i := 14) rfl (by first | exact .inl rfl | exact .inr (.inl rfl) | exact .inr (.inr rfl))) (pe_bltn (v := Cv.v K (.t "ValueError")) rfl Z.b_ValueError (by decide +kernel) rfl) (Cv.cls K (.t "ValueError")) Z.is_ValueError))) (pwv_or1 (ptv_truth (pev_is rfl Z.b_isinstance (pev_name (i := 14) rfl (by first | exact .inl rfl | exact .inr (.inl rfl) | exact .inr (.inr rfl))) (pe_bltn (v := Cv.v K (.t "LookupError")) rfl Z.b_LookupError (by decide +kernel) rfl) (Cv.cls K (.t "LookupError")) Z.is_LookupError))))) (pssv_one (psv_ret (pev_bl))) (pssv_nil)))) (pssv_cons (psv_for (passes_of rfl) rfl (piv_any (pev_add (pev_name (i := 5) rfl (by first | exact .inl rfl | exact .inr (.inl rfl) | exact .inr (.inr rfl))) (pev_name (i := 7) rfl (by first | exact .inl rfl | exact .inr (.inl rfl) | exact .inr (.inr rfl))))) (pgv_tup rfl (pgvs_cons (pgv_name (i := 14) nd__law_case rfl (by first | exact .inl rfl | exact .inr rfl) (h0 := .inr hme)) (pgvs_cons (pgv_name (i := 15) nd__law_case rfl (by first | exact .inl rfl | exact .inr rfl) (h0 := .inr hme)) (pgvs_nil)))) (pssv_one (psv_if (ptv_w (pwv_or (ptv_not (ptv_truth (pev_is rfl Z.b_isinstance (pev_name (i := 14) rfl (by first | exact .inl rfl | exact .inr (.inl rfl) | exact .inr (.inr rfl))) (pe_bltn (v := Cv.v K (.t "LookupError")) rfl Z.b_LookupError (by decide +kernel) rfl) (Cv.cls K (.t "LookupError")) Z.is_LookupError))) (pwv_or1 (ptv_truth (pev_is rfl Z.b_isinstance (pev_name (i := 14) rfl (by first | exact .inl rfl | exact .inr (.inl rfl) | exact .inr (.inr rfl))) (pe_bltn (v := Cv.v K (.t "ValueError")) rfl Z.b_ValueError (by decide +kernel) rfl) (Cv.cls K (.t "ValueError")) Z.is_ValueError))))) (pssv_one (psv_ret (pev_bl))) (pssv_nil)))) (pssv_cons (psv_if (ptv_w (pwv_or (ptv_not (ptv_truth (pev_is rfl Z.b_isinstance (pev_name (i := 10) rfl (by first | exact .inl rfl | exact .inr (.inl rfl) | exact .inr (.inr rfl))) (pe_bltn (v := Cv.v K (.t "OverflowError")) rfl Z.b_OverflowError (by decide +kernel) rfl) (Cv.cls K (.t "OverflowError")) Z.is_OverflowError))) (pwv_or1 (ptv_truth (pev_is2 rfl Z.b_isinstance (pev_name (i := 10) rfl (by first | exact .inl rfl | exact .inr (.inl rfl) | exact .inr (.inr rfl))) (pe_bltn (v := Cv.v K (.t "ValueError")) rfl Z.b_ValueError (by decide +kernel) rfl) (pe_bltn (v := Cv.v K (.t "LookupError")) rfl Z.b_LookupError (by decide +kernel) rfl) (Cv.cls K (.t "ValueError")) (Cv.cls K (.t "LookupError")) Z.is_ValueError_LookupError))))) (pssv_one (psv_ret (pev_bl))) (pssv_nil)) (pssv_cons (psv_if (ptv_c (cr_ne hr) (pev_xfld Z.xf_limit (pev_name (i := 10) rfl (by first | exact .inl rfl | exact .inr (.inl rfl) | exact .inr (.inr rfl)))) (pev_name (i := 3) rfl (by first | exact .inl rfl | exact .inr (.inl rfl) | exact .inr (.inr rfl)))) (pssv_one (psv_ret (pev_bl))) (pssv_nil)) (pssv_one (psv_ret (pev_c (cr_eq hr) (pev_call (G__law_raised Z _ rfl rfl rfl rfl rfl) hr (by decide) tk rfl (pav_cons (pev_name (i := 2) rfl (by first | exact .inl rfl | exact .inr (.inl rfl) | exact .inr (.inr rfl))) (pav_nil))) (pev_name (i := 2) rfl (by first | exact .inl rfl | exact .inr (.inl rfl) | exact .inr (.inr rfl))))))))))))))))))))))
theorem G__law_case (Z : Zs K mg) : Fam P w K mg base fun X => FnG X L__law_case "_law_case" 1 k__law_case := by
  obtain ⟨fd, F⟩ := Z.d__law_case
  exact fnG_of (ps := ["_law_source_here"]) F Z.g__law_case (def_ok F sc__law_case (b__law_case Z)) fun _ _ _ _ _ _ us hl => match us, hl with | [_], _ => rfl
abbrev N_law : List Str := ["_law_script", "_law_spot"]
theorem nd_law : N_law.Nodup := by decide +kernel
theorem sc_law : FnScope N_law ["_law_script"] (defScope s_law) := ⟨rfl, rfl, rfl, nd_law, rfl, by decide +kernel, by decide +kernel⟩
def g_law : Ev.Env → Sto → SRes := sSeq (sFor (vLI rng1 (aCons (vL (maxD) (aCons (vC (.int 1)) (aCons (vL (minD) (aCons (vC (.int 16)) (aCons (vL (arg1 lenD) (aCons (vName 0) (aNil))) (aNil)))) (aNil)))) (aNil))) (tgN 1) (sIf (bNot (vT (vCall 1 k__law_case (aCons (vCall 2 k__law_source (aCons (vName 0) (aCons (vName 1) (aNil)))) (aNil))))) (sRet (vC (.bl false))) (sNil))) (sRet (vC (.bl true)))
def k_law (ds : List D) (S : Sto) : Res D := fnRes (g_law (startE N_law ds) S)
abbrev L_law : Nat := 6
theorem b_law (Z : Zs K mg) (cdv : Value) (A : Around) (outer : List PySem.Env) (s : Shared) (H : Hp) (E : XK) (W : Wi) (hme : W.me = none) (hr : Rm 5 (A.deeper (envOfC "law" (defScope s_law) s.heap.objs.size (He.fAd K ("law", none)) cdv)))
    (tk : Takes (cxOf (CX P w) P w K mg base N_law "law" (defScope s_law) (He.fAd K ("law", none)) cdv A outer s H E) W.w) :
    PSsv (cxOf (CX P w) P w K mg base N_law "law" (defScope s_law) (He.fAd K ("law", none)) cdv A outer s H E) W (defBody s_law) g_law :=
  pssv_cons (psv_for (passes_of rfl) rfl (piv_range1 rfl Z.b_range (pav_cons (pev_callB (br_max rfl) rfl Z.b_max (by decide +kernel) (pav_cons (pev_int) (pav_cons (pev_callB (br_min rfl) rfl Z.b_min (by decide +kernel) (pav_cons (pev_int) (pav_cons (pev_callB (br_len) rfl Z.b_len (by decide +kernel) (pav_cons (pev_name (i := 0) rfl (by first | exact .inl rfl | exact .inr (.inl rfl) | exact .inr (.inr rfl))) (pav_nil))) (pav_nil)))) (pav_nil)))) (pav_nil))) (pgv_name (i := 1) nd_law rfl (by first | exact .inl rfl | exact .inr rfl) (h0 := .inr hme)) (pssv_one (psv_if (ptv_not (ptv_truth (pev_call (G__law_case Z _ rfl rfl rfl rfl rfl) hr (by decide) tk rfl (pav_cons (pev_call (G__law_source Z _ rfl rfl rfl rfl rfl) hr (by decide) tk rfl (pav_cons (pev_name (i := 0) rfl (by first | exact .inl rfl | exact .inr (.inl rfl) | exact .inr (.inr rfl))) (pav_cons (pev_name (i := 1) rfl (by first | exact .inl rfl | exact .inr (.inl rfl) | exact .inr (.inr rfl))) (pav_nil)))) (pav_nil))))) (pssv_one (psv_ret (pev_bl))) (pssv_nil)))) (pssv_one (psv_ret (pev_bl)))
theorem G_law (Z : Zs K mg) : Fam P w K mg base fun X => FnG X L_law "law" 1 k_law := by
  obtain ⟨fd, F⟩ := Z.d_law
  exact fnG_of (ps := ["_law_script"]) F Z.g_law (def_ok F sc_law (b_law Z)) fun _ _ _ _ _ _ us hl => match us, hl with | [_], _ => rfl
end
def fa : List He.Fa := [.free "len", .free "abs", .free "int", .glo "_law_source", .glo "_law_draw", .glo "_law_sign", .free "range", .glo "_law_word", .glo "_law_odd", .free "repr", .glo "_law_same", .glo "BadLine", .glo "BadAmount", .glo "BadName", .glo "BadTag", .glo "NoLine", .glo "NoNode", .glo "NoPart", .glo "NoPlace", .glo "NoShift", .glo "_law_values", .glo "BadEach", .glo "Twice", .glo "BadFilling", .glo "OtherNames", .glo "NoHole", .glo "Unfilled", .glo "_law_words", .glo "Shallow", .glo "BadIndent", .glo "NoFrame", .glo "NoResult", .glo "MayFail", .glo "NotPlain", .glo "_law_numbers", .free "isinstance", .glo "Unlike", .glo "BadMend", .glo "BadProgram", .glo "BadCommand", .glo "TooMany", .glo "_law_classes", .glo "_law_raised", .free "bool", .free "ValueError", .free "LookupError", .free "OverflowError", .glo "_law_case", .free "min", .free "max", .glo "law"]
def fn : List He.DefD := [⟨("_law_source", none), "_law_source", "_law_source", defArgs s__law_source, defBody s__law_source, defScope s__law_source, [], []⟩, ⟨("_law_draw", none), "_law_draw", "_law_draw", defArgs s__law_draw, defBody s__law_draw, defScope s__law_draw, [], []⟩, ⟨("_law_sign", none), "_law_sign", "_law_sign", defArgs s__law_sign, defBody s__law_sign, defScope s__law_sign, [], []⟩, ⟨("_law_word", none), "_law_word", "_law_word", defArgs s__law_word, defBody s__law_word, defScope s__law_word, [], []⟩, ⟨("_law_odd", none), "_law_odd", "_law_odd", defArgs s__law_odd, defBody s__law_odd, defScope s__law_odd, [], []⟩, ⟨("_law_same", none), "_law_same", "_law_same", defArgs s__law_same, defBody s__law_same, defScope s__law_same, [], []⟩, ⟨("_law_values", none), "_law_values", "_law_values", defArgs s__law_values, defBody s__law_values, defScope s__law_values, [], []⟩, ⟨("_law_words", none), "_law_words", "_law_words", defArgs s__law_words, defBody s__law_words, defScope s__law_words, [], []⟩, ⟨("_law_numbers", none), "_law_numbers", "_law_numbers", defArgs s__law_numbers, defBody s__law_numbers, defScope s__law_numbers, [], []⟩, ⟨("_law_classes", none), "_law_classes", "_law_classes", defArgs s__law_classes, defBody s__law_classes, defScope s__law_classes, [], []⟩, ⟨("_law_raised", none), "_law_raised", "_law_raised", defArgs s__law_raised, defBody s__law_raised, defScope s__law_raised, [], []⟩, ⟨("_law_case", none), "_law_case", "_law_case", defArgs s__law_case, defBody s__law_case, defScope s__law_case, [], []⟩, ⟨("law", none), "law", "law", defArgs s_law, defBody s_law, defScope s_law, [], []⟩, ⟨("BadLine", some "__init__"), "__init__", "BadLine.__init__", defArgs s_BadLine_i, defBody s_BadLine_i, defScope s_BadLine_i, [], []⟩, ⟨("BadAmount", some "__init__"), "__init__", "BadAmount.__init__", defArgs s_BadAmount_i, defBody s_BadAmount_i, defScope s_BadAmount_i, [], []⟩, ⟨("BadName", some "__init__"), "__init__", "BadName.__init__", defArgs s_BadName_i, defBody s_BadName_i, defScope s_BadName_i, [], []⟩, ⟨("BadTag", some "__init__"), "__init__", "BadTag.__init__", defArgs s_BadTag_i, defBody s_BadTag_i, defScope s_BadTag_i, [], []⟩, ⟨("BadEach", some "__init__"), "__init__", "BadEach.__init__", defArgs s_BadEach_i, defBody s_BadEach_i, defScope s_BadEach_i, [], []⟩, ⟨("Twice", some "__init__"), "__init__", "Twice.__init__", defArgs s_Twice_i, defBody s_Twice_i, defScope s_Twice_i, [], []⟩, ⟨("Shallow", some "__init__"), "__init__", "Shallow.__init__", defArgs s_Shallow_i, defBody s_Shallow_i, defScope s_Shallow_i, [], []⟩, ⟨("NoResult", some "__init__"), "__init__", "NoResult.__init__", defArgs s_NoResult_i, defBody s_NoResult_i, defScope s_NoResult_i, [], []⟩, ⟨("BadIndent", some "__init__"), "__init__", "BadIndent.__init__", defArgs s_BadIndent_i, defBody s_BadIndent_i, defScope s_BadIndent_i, [], []⟩, ⟨("NoFrame", some "__init__"), "__init__", "NoFrame.__init__", defArgs s_NoFrame_i, defBody s_NoFrame_i, defScope s_NoFrame_i, [], []⟩, ⟨("BadFilling", some "__init__"), "__init__", "BadFilling.__init__", defArgs s_BadFilling_i, defBody s_BadFilling_i, defScope s_BadFilling_i, [], []⟩, ⟨("Unlike", some "__init__"), "__init__", "Unlike.__init__", defArgs s_Unlike_i, defBody s_Unlike_i, defScope s_Unlike_i, [], []⟩, ⟨("MayFail", some "__init__"), "__init__", "MayFail.__init__", defArgs s_MayFail_i, defBody s_MayFail_i, defScope s_MayFail_i, [], []⟩, ⟨("BadMend", some "__init__"), "__init__", "BadMend.__init__", defArgs s_BadMend_i, defBody s_BadMend_i, defScope s_BadMend_i, [], []⟩, ⟨("NotPlain", some "__init__"), "__init__", "NotPlain.__init__", defArgs s_NotPlain_i, defBody s_NotPlain_i, defScope s_NotPlain_i, [], []⟩, ⟨("OtherNames", some "__init__"), "__init__", "OtherNames.__init__", defArgs s_OtherNames_i, defBody s_OtherNames_i, defScope s_OtherNames_i, [], []⟩, ⟨("BadProgram", some "__init__"), "__init__", "BadProgram.__init__", defArgs s_BadProgram_i, defBody s_BadProgram_i, defScope s_BadProgram_i, [], []⟩, ⟨("BadCommand", some "__init__"), "__init__", "BadCommand.__init__", defArgs s_BadCommand_i, defBody s_BadCommand_i, defScope s_BadCommand_i, [], []⟩, ⟨("NoLine", some "__init__"), "__init__", "NoLine.__init__", defArgs s_NoLine_i, defBody s_NoLine_i, defScope s_NoLine_i, [], []⟩, ⟨("NoNode", some "__init__"), "__init__", "NoNode.__init__", defArgs s_NoNode_i, defBody s_NoNode_i, defScope s_NoNode_i, [], []⟩, ⟨("NoPart", some "__init__"), "__init__", "NoPart.__init__", defArgs s_NoPart_i, defBody s_NoPart_i, defScope s_NoPart_i, [], []⟩, ⟨("NoPlace", some "__init__"), "__init__", "NoPlace.__init__", defArgs s_NoPlace_i, defBody s_NoPlace_i, defScope s_NoPlace_i, [], []⟩, ⟨("NoShift", some "__init__"), "__init__", "NoShift.__init__", defArgs s_NoShift_i, defBody s_NoShift_i, defScope s_NoShift_i, [], []⟩, ⟨("NoHole", some "__init__"), "__init__", "NoHole.__init__", defArgs s_NoHole_i, defBody s_NoHole_i, defScope s_NoHole_i, [], []⟩, ⟨("Unfilled", some "__init__"), "__init__", "Unfilled.__init__", defArgs s_Unfilled_i, defBody s_Unfilled_i, defScope s_Unfilled_i, [], []⟩, ⟨("TooMany", some "__init__"), "__init__", "TooMany.__init__", defArgs s_TooMany_i, defBody s_TooMany_i, defScope s_TooMany_i, [], []⟩]
def ex (K : PySem.W.Frag) : Bool := xfL [4, 5, 6, 7, 22, 23, 24, 25, 26] "value" K && (xfL [8, 9, 14, 19, 27, 28] "name" K && (xfL [10, 12, 13] "line" K && (xfL [11, 16, 18] "part" K && (isB [.c 4] t_is_BadLine K && (isB [.c 5] t_is_BadAmount K && (isB [.c 6] t_is_BadName K && (isB [.c 7] t_is_BadTag K && (isB [.c 8] t_is_BadEach K && (isB [.c 9] t_is_Twice K && (isB [.c 10] t_is_Shallow K && (isB [.c 11] t_is_NoResult K && (isB [.c 12] t_is_BadIndent K && (isB [.c 13] t_is_NoFrame K && (isB [.c 14] t_is_BadFilling K && (isB [.c 15] t_is_Unlike K && (isB [.c 16] t_is_MayFail K && (isB [.c 17] t_is_BadMend K && (isB [.c 18] t_is_NotPlain K && (isB [.c 19] t_is_OtherNames K && (isB [.c 20] t_is_BadProgram K && (isB [.c 21] t_is_BadCommand K && (isB [.c 22] t_is_NoLine K && (isB [.c 23] t_is_NoNode K && (isB [.c 24] t_is_NoPart K && (isB [.c 25] t_is_NoPlace K && (isB [.c 26] t_is_NoShift K && (isB [.c 27] t_is_NoHole K && (isB [.c 28] t_is_Unfilled K && (isB [.c 29] t_is_TooMany K && (cmB (.c 21) cm_BadCommand K && (cmB (.c 20) cm_BadProgram K && (xfL [20] "text" K && (xfL [20] "text" K && (xfL [21] "command" K && (xfL [17] "mend" K && (xfL [15] "place" K && (isB [.t "bool"] t_is_bool K && (isB [.t "ValueError"] t_is_ValueError K && (isB [.t "LookupError"] t_is_LookupError K && (isB [.t "OverflowError"] t_is_OverflowError K && (isB [.t "ValueError", .t "LookupError"] t_is_ValueError_LookupError K && (xfL [29] "limit" K && (xcB "ValueError" "ValueError.__new__" "ValueError.__init__" [.type "ValueError", .type "Exception", .type "BaseException", .type "object"] "value" K (ca K 4) && (initB "ValueError" "ValueError.__init__" K && (xcB "ValueError" "ValueError.__new__" "ValueError.__init__" [.type "ValueError", .type "Exception", .type "BaseException", .type "object"] "value" K (ca K 5) && (xcB "ValueError" "ValueError.__new__" "ValueError.__init__" [.type "ValueError", .type "Exception", .type "BaseException", .type "object"] "value" K (ca K 6) && (xcB "ValueError" "ValueError.__new__" "ValueError.__init__" [.type "ValueError", .type "Exception", .type "BaseException", .type "object"] "value" K (ca K 7) && (xcB "ValueError" "ValueError.__new__" "ValueError.__init__" [.type "ValueError", .type "Exception", .type "BaseException", .type "object"] "name" K (ca K 8) && (xcB "ValueError" "ValueError.__new__" "ValueError.__init__" [.type "ValueError", .type "Exception", .type "BaseException", .type "object"] "name" K (ca K 9) && (xcB "ValueError" "ValueError.__new__" "ValueError.__init__" [.type "ValueError", .type "Exception", .type "BaseException", .type "object"] "line" K (ca K 10) && (xcB "ValueError" "ValueError.__new__" "ValueError.__init__" [.type "ValueError", .type "Exception", .type "BaseException", .type "object"] "part" K (ca K 11) && (xcB "ValueError" "ValueError.__new__" "ValueError.__init__" [.type "ValueError", .type "Exception", .type "BaseException", .type "object"] "line" K (ca K 12) && (xcB "ValueError" "ValueError.__new__" "ValueError.__init__" [.type "ValueError", .type "Exception", .type "BaseException", .type "object"] "line" K (ca K 13) && (xcB "ValueError" "ValueError.__new__" "ValueError.__init__" [.type "ValueError", .type "Exception", .type "BaseException", .type "object"] "name" K (ca K 14) && (xcB "ValueError" "ValueError.__new__" "ValueError.__init__" [.type "ValueError", .type "Exception", .type "BaseException", .type "object"] "place" K (ca K 15) && (xcB "ValueError" "ValueError.__new__" "ValueError.__init__" [.type "ValueError", .type "Exception", .type "BaseException", .type "object"] "part" K (ca K 16) && (xcB "ValueError" "ValueError.__new__" "ValueError.__init__" [.type "ValueError", .type "Exception", .type "BaseException", .type "object"] "mend" K (ca K 17) && (xcB "ValueError" "ValueError.__new__" "ValueError.__init__" [.type "ValueError", .type "Exception", .type "BaseException", .type "object"] "part" K (ca K 18) && (xcB "ValueError" "ValueError.__new__" "ValueError.__init__" [.type "ValueError", .type "Exception", .type "BaseException", .type "object"] "name" K (ca K 19) && (xcB "ValueError" "ValueError.__new__" "ValueError.__init__" [.type "ValueError", .type "Exception", .type "BaseException", .type "object"] "text" K (ca K 20) && (xcB "ValueError" "ValueError.__new__" "ValueError.__init__" [.type "ValueError", .type "Exception", .type "BaseException", .type "object"] "command" K (ca K 21) && (xcB "LookupError" "LookupError.__new__" "LookupError.__init__" [.type "LookupError", .type "Exception", .type "BaseException", .type "object"] "value" K (ca K 22) && (initB "LookupError" "LookupError.__init__" K && (xcB "LookupError" "LookupError.__new__" "LookupError.__init__" [.type "LookupError", .type "Exception", .type "BaseException", .type "object"] "value" K (ca K 23) && (xcB "LookupError" "LookupError.__new__" "LookupError.__init__" [.type "LookupError", .type "Exception", .type "BaseException", .type "object"] "value" K (ca K 24) && (xcB "LookupError" "LookupError.__new__" "LookupError.__init__" [.type "LookupError", .type "Exception", .type "BaseException", .type "object"] "value" K (ca K 25) && (xcB "LookupError" "LookupError.__new__" "LookupError.__init__" [.type "LookupError", .type "Exception", .type "BaseException", .type "object"] "value" K (ca K 26) && (xcB "LookupError" "LookupError.__new__" "LookupError.__init__" [.type "LookupError", .type "Exception", .type "BaseException", .type "object"] "name" K (ca K 27) && (xcB "LookupError" "LookupError.__new__" "LookupError.__init__" [.type "LookupError", .type "Exception", .type "BaseException", .type "object"] "name" K (ca K 28) && (xcB "OverflowError" "OverflowError.__new__" "OverflowError.__init__" [.type "OverflowError", .type "ArithmeticError", .type "Exception", .type "BaseException", .type "object"] "limit" K (ca K 29) && (initB "OverflowError" "OverflowError.__init__" K)))))))))))))))))))))))))))))))))))))))))))))))))))))))))))))))))))))))
theorem zs_of {w : World} {K : PySem.W.Frag} {h : Heap} {mg : Str → Option Value} (X : K.In h) (G : h.Ns mainGlobals mg) (c : He.SaysX fa fn [] [] ex w h K) : Zs K mg := by
  have m := c.more
  unfold ex at m
  simp only [Bool.and_eq_true] at m
  obtain ⟨m0, m1, m2, m3, m4, m5, m6, m7, m8, m9, m10, m11, m12, m13, m14, m15, m16, m17, m18, m19, m20, m21, m22, m23, m24, m25, m26, m27, m28, m29, m30, m31, m32, m33, m34, m35, m36, m37, m38, m39, m40, m41, m42, m43, m44, m45, m46, m47, m48, m49, m50, m51, m52, m53, m54, m55, m56, m57, m58, m59, m60, m61, m62, m63, m64, m65, m66, m67, m68, m69, m70, m71⟩ := m
  exact {
    b_len := He.free_ok X G (c.t.d.facts (f := .free "len") (by simp [fa]))
    b_abs := He.free_ok X G (c.t.d.facts (f := .free "abs") (by simp [fa]))
    b_int := He.free_ok X G (c.t.d.facts (f := .free "int") (by simp [fa]))
    d__law_source := c.t.d.def_ 0 rfl
    g__law_source := He.glo_ok X G (c.t.d.facts (f := .glo "_law_source") (by simp [fa]))
    d__law_draw := c.t.d.def_ 1 rfl
    g__law_draw := He.glo_ok X G (c.t.d.facts (f := .glo "_law_draw") (by simp [fa]))
    d__law_sign := c.t.d.def_ 2 rfl
    g__law_sign := He.glo_ok X G (c.t.d.facts (f := .glo "_law_sign") (by simp [fa]))
    b_range := He.free_ok X G (c.t.d.facts (f := .free "range") (by simp [fa]))
    d__law_word := c.t.d.def_ 3 rfl
    g__law_word := He.glo_ok X G (c.t.d.facts (f := .glo "_law_word") (by simp [fa]))
    d__law_odd := c.t.d.def_ 4 rfl
    g__law_odd := He.glo_ok X G (c.t.d.facts (f := .glo "_law_odd") (by simp [fa]))
    b_repr := He.free_ok X G (c.t.d.facts (f := .free "repr") (by simp [fa]))
    d__law_same := c.t.d.def_ 5 rfl
    g__law_same := He.glo_ok X G (c.t.d.facts (f := .glo "_law_same") (by simp [fa]))
    g_BadLine := He.glo_ok X G (c.t.d.facts (f := .glo "BadLine") (by simp [fa]))
    g_BadAmount := He.glo_ok X G (c.t.d.facts (f := .glo "BadAmount") (by simp [fa]))
    g_BadName := He.glo_ok X G (c.t.d.facts (f := .glo "BadName") (by simp [fa]))
    g_BadTag := He.glo_ok X G (c.t.d.facts (f := .glo "BadTag") (by simp [fa]))
    g_NoLine := He.glo_ok X G (c.t.d.facts (f := .glo "NoLine") (by simp [fa]))
    g_NoNode := He.glo_ok X G (c.t.d.facts (f := .glo "NoNode") (by simp [fa]))
    g_NoPart := He.glo_ok X G (c.t.d.facts (f := .glo "NoPart") (by simp [fa]))
    g_NoPlace := He.glo_ok X G (c.t.d.facts (f := .glo "NoPlace") (by simp [fa]))
    g_NoShift := He.glo_ok X G (c.t.d.facts (f := .glo "NoShift") (by simp [fa]))
    d__law_values := c.t.d.def_ 6 rfl
    g__law_values := He.glo_ok X G (c.t.d.facts (f := .glo "_law_values") (by simp [fa]))
    g_BadEach := He.glo_ok X G (c.t.d.facts (f := .glo "BadEach") (by simp [fa]))
    g_Twice := He.glo_ok X G (c.t.d.facts (f := .glo "Twice") (by simp [fa]))
    g_BadFilling := He.glo_ok X G (c.t.d.facts (f := .glo "BadFilling") (by simp [fa]))
    g_OtherNames := He.glo_ok X G (c.t.d.facts (f := .glo "OtherNames") (by simp [fa]))
    g_NoHole := He.glo_ok X G (c.t.d.facts (f := .glo "NoHole") (by simp [fa]))
    g_Unfilled := He.glo_ok X G (c.t.d.facts (f := .glo "Unfilled") (by simp [fa]))
    d__law_words := c.t.d.def_ 7 rfl
    g__law_words := He.glo_ok X G (c.t.d.facts (f := .glo "_law_words") (by simp [fa]))
    g_Shallow := He.glo_ok X G (c.t.d.facts (f := .glo "Shallow") (by simp [fa]))
    g_BadIndent := He.glo_ok X G (c.t.d.facts (f := .glo "BadIndent") (by simp [fa]))
    g_NoFrame := He.glo_ok X G (c.t.d.facts (f := .glo "NoFrame") (by simp [fa]))
    g_NoResult := He.glo_ok X G (c.t.d.facts (f := .glo "NoResult") (by simp [fa]))
    g_MayFail := He.glo_ok X G (c.t.d.facts (f := .glo "MayFail") (by simp [fa]))
    g_NotPlain := He.glo_ok X G (c.t.d.facts (f := .glo "NotPlain") (by simp [fa]))
    d__law_numbers := c.t.d.def_ 8 rfl
    g__law_numbers := He.glo_ok X G (c.t.d.facts (f := .glo "_law_numbers") (by simp [fa]))
    b_isinstance := He.free_ok X G (c.t.d.facts (f := .free "isinstance") (by simp [fa]))
    g_Unlike := He.glo_ok X G (c.t.d.facts (f := .glo "Unlike") (by simp [fa]))
    g_BadMend := He.glo_ok X G (c.t.d.facts (f := .glo "BadMend") (by simp [fa]))
    g_BadProgram := He.glo_ok X G (c.t.d.facts (f := .glo "BadProgram") (by simp [fa]))
    g_BadCommand := He.glo_ok X G (c.t.d.facts (f := .glo "BadCommand") (by simp [fa]))
    g_TooMany := He.glo_ok X G (c.t.d.facts (f := .glo "TooMany") (by simp [fa]))
    d__law_classes := c.t.d.def_ 9 rfl
    g__law_classes := He.glo_ok X G (c.t.d.facts (f := .glo "_law_classes") (by simp [fa]))
    d__law_raised := c.t.d.def_ 10 rfl
    g__law_raised := He.glo_ok X G (c.t.d.facts (f := .glo "_law_raised") (by simp [fa]))
    b_bool := He.free_ok X G (c.t.d.facts (f := .free "bool") (by simp [fa]))
    b_ValueError := He.free_ok X G (c.t.d.facts (f := .free "ValueError") (by simp [fa]))
    b_LookupError := He.free_ok X G (c.t.d.facts (f := .free "LookupError") (by simp [fa]))
    b_OverflowError := He.free_ok X G (c.t.d.facts (f := .free "OverflowError") (by simp [fa]))
    d__law_case := c.t.d.def_ 11 rfl
    g__law_case := He.glo_ok X G (c.t.d.facts (f := .glo "_law_case") (by simp [fa]))
    b_min := He.free_ok X G (c.t.d.facts (f := .free "min") (by simp [fa]))
    b_max := He.free_ok X G (c.t.d.facts (f := .free "max") (by simp [fa]))
    d_law := c.t.d.def_ 12 rfl
    g_law := He.glo_ok X G (c.t.d.facts (f := .glo "law") (by simp [fa]))
    d_BadLine_i := c.t.d.def_ 13 rfl
    d_BadAmount_i := c.t.d.def_ 14 rfl
    d_BadName_i := c.t.d.def_ 15 rfl
    d_BadTag_i := c.t.d.def_ 16 rfl
    d_BadEach_i := c.t.d.def_ 17 rfl
    d_Twice_i := c.t.d.def_ 18 rfl
    d_Shallow_i := c.t.d.def_ 19 rfl
    d_NoResult_i := c.t.d.def_ 20 rfl
    d_BadIndent_i := c.t.d.def_ 21 rfl
    d_NoFrame_i := c.t.d.def_ 22 rfl
    d_BadFilling_i := c.t.d.def_ 23 rfl
    d_Unlike_i := c.t.d.def_ 24 rfl
    d_MayFail_i := c.t.d.def_ 25 rfl
    d_BadMend_i := c.t.d.def_ 26 rfl
    d_NotPlain_i := c.t.d.def_ 27 rfl
    d_OtherNames_i := c.t.d.def_ 28 rfl
    d_BadProgram_i := c.t.d.def_ 29 rfl
    d_BadCommand_i := c.t.d.def_ 30 rfl
    d_NoLine_i := c.t.d.def_ 31 rfl
    d_NoNode_i := c.t.d.def_ 32 rfl
    d_NoPart_i := c.t.d.def_ 33 rfl
    d_NoPlace_i := c.t.d.def_ 34 rfl
    d_NoShift_i := c.t.d.def_ 35 rfl
    d_NoHole_i := c.t.d.def_ 36 rfl
    d_Unfilled_i := c.t.d.def_ 37 rfl
    d_TooMany_i := c.t.d.def_ 38 rfl
    xf_value := xfL_ok m0
    xf_name := xfL_ok m1
    xf_line := xfL_ok m2
    xf_part := xfL_ok m3
    is_BadLine := isB_ok m4
    is_BadAmount := isB_ok m5
    is_BadName := isB_ok m6
    is_BadTag := isB_ok m7
    is_BadEach := isB_ok m8
    is_Twice := isB_ok m9
    is_Shallow := isB_ok m10
    is_NoResult := isB_ok m11
    is_BadIndent := isB_ok m12
    is_NoFrame := isB_ok m13
    is_BadFilling := isB_ok m14
    is_Unlike := isB_ok m15
    is_MayFail := isB_ok m16
    is_BadMend := isB_ok m17
    is_NotPlain := isB_ok m18
    is_OtherNames := isB_ok m19
    is_BadProgram := isB_ok m20
    is_BadCommand := isB_ok m21
    is_NoLine := isB_ok m22
    is_NoNode := isB_ok m23
    is_NoPart := isB_ok m24
    is_NoPlace := isB_ok m25
    is_NoShift := isB_ok m26
    is_NoHole := isB_ok m27
    is_Unfilled := isB_ok m28
    is_TooMany := isB_ok m29
    cm_BadCommand := cmB_ok m30
    cm_BadProgram := cmB_ok m31
    w__law_raised_BadProgram_text := xfL_ok m32
    xf_text := xfL_ok m33
    xf_command := xfL_ok m34
    xf_mend := xfL_ok m35
    xf_place := xfL_ok m36
    is_bool := isB_ok m37
    is_ValueError := isB_ok m38
    is_LookupError := isB_ok m39
    is_OverflowError := isB_ok m40
    is_ValueError_LookupError := isB_ok m41
    xf_limit := xfL_ok m42
    x_BadLine := xcB_ok m43
    vi_VE := initB_ok m44
    x_BadAmount := xcB_ok m45
    x_BadName := xcB_ok m46
    x_BadTag := xcB_ok m47
    x_BadEach := xcB_ok m48
    x_Twice := xcB_ok m49
    x_Shallow := xcB_ok m50
    x_NoResult := xcB_ok m51
    x_BadIndent := xcB_ok m52
    x_NoFrame := xcB_ok m53
    x_BadFilling := xcB_ok m54
    x_Unlike := xcB_ok m55
    x_MayFail := xcB_ok m56
    x_BadMend := xcB_ok m57
    x_NotPlain := xcB_ok m58
    x_OtherNames := xcB_ok m59
    x_BadProgram := xcB_ok m60
    x_BadCommand := xcB_ok m61
    x_NoLine := xcB_ok m62
    vi_LE := initB_ok m63
    x_NoNode := xcB_ok m64
    x_NoPart := xcB_ok m65
    x_NoPlace := xcB_ok m66
    x_NoShift := xcB_ok m67
    x_NoHole := xcB_ok m68
    x_Unfilled := xcB_ok m69
    x_TooMany := xcB_ok m70
    vi_OE := initB_ok m71 }
end K69

set_option Elab.async false
set_option linter.all false
set_option maxRecDepth 100000
set_option maxHeartbeats 0
namespace K69
open PySem PySem.W PySem.Calls PyProof.Rows
abbrev R : OpenRow := OpenLaw.row PySem.Challenge.rw_indentholes_k69_errors_by_hand
abbrev qv : PySem.Program := view R.prog [40]
def nm0 : List PySem.Str := ["BadLine", "BadAmount", "BadName", "BadTag", "BadEach", "Twice", "Shallow", "NoResult", "BadIndent", "NoFrame", "BadFilling", "Unlike", "MayFail", "BadMend", "NotPlain", "OtherNames", "BadProgram", "BadCommand", "NoLine", "NoNode", "NoPart", "NoPlace", "NoShift", "NoHole", "Unfilled", "TooMany", "_law_source", "_law_draw", "_law_sign", "_law_word"]
def nm1 : List PySem.Str := ["_law_odd", "_law_same", "_law_values", "_law_words", "_law_numbers", "_law_classes", "_law_raised", "_law_case"]
def names : List PySem.Str := nm0 ++ nm1
abbrev hk : PySem.W.Hook := He.hookX 6 fa fn [] [] ex
def ob (s : PySem.W.SharedT) : He.AlX := He.obsX 6 fa fn [] [] ex (HandSHeadRun.getT s)
theorem ob_eq (s : PySem.W.SharedT) : ob s = hk.obs s.abs := He.obsX_eq (HandSHeadRun.getT_eq s)
theorem run (w : World) : HandSHeadRun.RunEq R qv hk ob 20000 names w := by
  intro os
  kernel_rfl
end K69

set_option Elab.async false
set_option linter.all false
set_option maxRecDepth 100000
set_option maxHeartbeats 4000000
namespace K69
open PySem PySem.Spec L2 Ev
open PyProof.Rows hiding St

/-- the source at n: it has been asked at most T times -/
def Src (S : Sto) (n : Nat) (T : Int) : Prop := ∃ a b c : Int, getL S n = some [.int a, .int b, .int c] ∧ 0 ≤ b ∧ b < 2 ^ 40 ∧ 0 ≤ c ∧ c ≤ T
theorem Src.mono {S : Sto} {n : Nat} {T T' : Int} (h : Src S n T) (l : T ≤ T') : Src S n T' := by
  obtain ⟨a, b, c, hg, hb0, hb, hc0, hc⟩ := h
  exact ⟨a, b, c, hg, hb0, hb, hc0, by omega⟩
theorem ixN_c {n : Nat} {i : Int} {k : Nat} (h : k < n) (e : (k : Int) = i) : ixN n i = some k := e ▸ ixN_nat h
theorem draw {S : Sto} {n : Nat} {T m : Int} (h : Src S n T) (hT : T < 100000) (h0 : 0 < m) (hm : m < 1073741824) : ∃ r S', k__law_draw [.box n, .int m] S = .ok (.int r) S' ∧ 0 ≤ r ∧ r < m ∧ Src S' n (T + 1) := by
  obtain ⟨a, b, c, hg, hb0, hb, hc0, hc⟩ := h
  have hl := getL_lt hg
  by_cases ha : 0 < a
  · refine ⟨a % m, S.set n (some (.lst [.int (a / m), .int b, .int c])), ?_, Int.emod_nonneg _ (by omega), Int.emod_lt_of_pos _ h0, a / m, b, c, getL_set hl, hb0, hb, hc0, by omega⟩
    simp [k__law_draw, g__law_draw, startE, sSeq, sIf, vB, v2, vName, vC, hg, ha, sSet, vL, aCons, aNil, h0, sSetIx, D.int?, hm, sRet]
  · have e1 : ixN 3 1 = some 1 := by decide
    have e2 : ixN 3 2 = some 2 := by decide
    have m1 : CMul b 50021 := .inr ⟨by omega, by omega⟩
    have m2 : CMul 30011 (c + 1) := .inl ⟨by omega, by omega⟩
    have m3 : CMul (30011 * (c + 1)) (c + 1) := .inr ⟨by omega, by omega⟩
    generalize hB : (b * 50021 + 30011 * (c + 1) * (c + 1) + 409) % 2147483549 = B
    have hB0 : 0 ≤ B := by rw [← hB]; exact Int.emod_nonneg _ (by decide)
    have hB1 : B < 2147483549 := by rw [← hB]; exact Int.emod_lt_of_pos _ (by decide)
    have m4 : CPow (B / 32) 2 := ⟨by omega, by omega, by omega⟩
    refine ⟨((B / 32) ^ 2 + B / 7) % 2147483489 % m, (S.set n (some (.lst [.int a, .int b, .int (c + 1)]))).set n (some (.lst [.int a, .int B, .int (c + 1)])), ?_, Int.emod_nonneg _ (by omega), Int.emod_lt_of_pos _ h0, a, B, c + 1, getL_set (by simp; exact hl), hB0, by omega, by omega, by omega⟩
    simp [k__law_draw, g__law_draw, startE, sSeq, sIf, vB, v2, vName, vC, hg, ha, sSet, vL, aCons, aNil, h0, sSetIx, D.int?, hm, sRet, e1, e2, sNil, getL_set hl, m1, m2, m3, m4, hB]

/-! ### texts -/
theorem strOk_app (a b : Str) : PyData.strOk (a ++ b) = (PyData.strOk a && PyData.strOk b) := by
  show (a.cps ++ b.cps).all _ = _
  rw [Array.all_append]
  rfl
theorem ch_lt (ch : Char) : ch.toNat < 1114112 := by
  have := ch.valid
  show ch.val.toNat < _
  rcases this with h | h
  · have : ch.val.toNat < 0xd800 := h
    omega
  · exact h.2
theorem rc_lt (q c : Nat) (hc : c < 1114112) : ∀ d ∈ Builtin.Str.reprChar q c, d < 1114112 := by
  have hd : ∀ d ∈ (Nat.toDigits 16 c).map Char.toNat, d < 1114112 := by
    intro d hd
    obtain ⟨ch, _, rfl⟩ := List.mem_map.mp hd
    exact ch_lt ch
  intro d
  unfold Builtin.Str.reprChar
  dsimp only
  repeat' split
  all_goals simp only [List.mem_append, List.mem_cons, List.mem_replicate, List.not_mem_nil, or_false]
  all_goals intro h
  all_goals first | omega | (rcases h with h | h | h <;> first | omega | exact hd d h)
theorem fold_lt (q : Nat) : ∀ (l : List Nat) (acc : Array Nat), (∀ c ∈ l, c < 1114112) → (∀ c ∈ acc, c < 1114112) → ∀ c ∈ l.foldl (fun out c => out ++ (Builtin.Str.reprChar q c).toArray) acc, c < 1114112
  | [], _, _, h => h
  | c :: r, acc, hl, h => fold_lt q r _ (fun d hd => hl d (List.mem_cons_of_mem _ hd)) fun d hd => by
    rcases Array.mem_append.mp hd with z | z
    · exact h d z
    · exact rc_lt q c (hl c (List.mem_cons_self ..)) d (by simpa using z)
theorem ok_all {x : Str} (h : ∀ c ∈ x.cps, c < 1114112) : PyData.strOk x = true := by
  unfold PyData.strOk
  rw [Array.all_eq_true_iff_forall_mem]
  intro c hc
  simpa using h c hc
theorem repr_ok {x : Str} (h : ∀ c ∈ x.cps.toList, c < 128) : PyData.strOk (reprText x) = true ∧ (reprText x).length ≤ 10 * x.length + 2 := by
  refine ⟨ok_all fun c hc => ?_, StrLaws.reprText_len x fun c hc => by have := h c hc; omega⟩
  have hq : reprQuote x < 1114112 := by
    unfold reprQuote
    split <;> decide
  unfold reprText at hc
  rw [← Array.foldl_toList] at hc
  rcases Array.mem_push.mp hc with z | z
  · exact fold_lt _ _ _ (fun c hc => by have := h c hc; omega) (fun c hc => by
      have : c = reprQuote x := by simpa using hc
      omega) c z
  · omega
/-- a short text of plain signs -/
structure Word (x : Str) : Prop where
  asc : ∀ c ∈ x.cps.toList, c < 128
  len : x.length ≤ 400
/-- a datum whose text is the same in every store, and fits -/
def Pl (d : D) : Prop := ∃ t, (∀ S, shown? S d = some t) ∧ t.length ≤ 100000 ∧ PyData.strOk t = true
theorem Pl.of {d : D} {p : PyData} (ht : ∀ S, Ev.top S d = d) (e : d.toPy = some p) (h1 : p.showable = true) (h2 : p.hasDict = false) (h3 : p.depth ≤ 100) (h5 : PyData.strOk p.shown = true) (h4 : p.shown.length ≤ 100000) : Pl d := by
  refine ⟨p.shown, fun S => ?_, h4, h5⟩
  unfold shown?
  rw [ht, e]
  show (if _ then _ else _) = _
  rw [if_pos ⟨h1, h2, h3, by rw [sz]; omega⟩]
theorem Pl.fit {d : D} (h : Pl d) (S : Sto) : xcFit S d = true := by
  obtain ⟨t, e, l, _⟩ := h
  unfold xcFit
  rw [e, sz]
  show decide _ = true
  exact decide_eq_true (by omega)
theorem Pl.same {d : D} (h : Pl d) (S : Sto) : k__law_same [d, d] S = .ok (.bl true) S := by
  obtain ⟨t, e, l, ok⟩ := h
  simp [k__law_same, g__law_same, startE, sRet, v2, vL, aCons, aNil, vName, reprD, e, ok]
theorem str_ok (s : String) : PyData.strOk (s : Str) = true := ok_all fun c hc => by
  rw [Str.ofString_eq_toList] at hc
  have hc' : c ∈ (s.toList.map Char.toNat) := by simpa using hc
  obtain ⟨ch, _, rfl⟩ := List.mem_map.mp hc'
  exact ch_lt ch
theorem pl_int (i : Int) (h : i.natAbs < 10 ^ 12) : Pl (.int i) := by
  refine .of (fun _ => rfl) rfl ?_ rfl (by show (0:Nat) ≤ _; omega) ?_ ?_
  · show decide _ = true
    refine decide_eq_true ?_
    have : i.natAbs.log2 < 40 := by
      by_cases z : i.natAbs = 0
      · rw [z]; decide
      · rw [Nat.log2_lt z]; omega
    omega
  · rw [PyData.shown_int]; exact str_ok _
  · have := PyData.shown_int_le h
    omega
theorem tx (s : Str) (n : Nat) (h : (PyData.strOk s && decide (s.length ≤ n)) = true) : PyData.strOk s = true ∧ s.length ≤ n := by simpa using h
section
variable {x : Str} (w : Word x)
include w
theorem Word.rp : PyData.strOk (reprText x) = true ∧ (reprText x).length ≤ 4002 := by
  have := repr_ok w.asc
  have := w.len
  refine ⟨(repr_ok w.asc).1, ?_⟩
  omega
theorem Word.pl : Pl (.str x) := .of (fun _ => rfl) rfl rfl rfl (by show (0:Nat) ≤ _; omega) (by rw [PyData.shown_str]; exact w.rp.1) (by rw [PyData.shown_str]; have := w.rp.2; omega)
theorem Word.ok : PyData.strOk x = true := ok_all fun c hc => by
  have := w.asc c (by simpa using hc)
  omega
end
theorem pl_bl (b : Bool) : Pl (.bl b) := by
  cases b
  · exact .of (fun _ => rfl) rfl rfl rfl (by decide) (by decide +kernel) (by decide +kernel)
  · exact .of (fun _ => rfl) rfl rfl rfl (by decide) (by decide +kernel) (by decide +kernel)
theorem pl_non : Pl .non := .of (fun _ => rfl) rfl rfl rfl (by decide) (by decide +kernel) (by decide +kernel)
theorem pl_t0 : Pl (.tup []) := .of (fun _ => rfl) rfl rfl rfl (by decide) (by decide +kernel) (by decide +kernel)
theorem pl_l0 : Pl (.lst []) := .of (fun _ => rfl) rfl rfl rfl (by decide) (by decide +kernel) (by decide +kernel)
theorem pl_t3 : Pl (.tup [.bl true, .int (-3)]) := .of (fun _ => rfl) rfl (by decide +kernel) rfl (by decide) (by decide +kernel) (by decide +kernel)
section
variable {x : Str} (w : Word x)
include w
theorem pl_t1 : Pl (.tup [.str x]) := by
  have h := w.rp
  refine .of (fun _ => rfl) rfl rfl rfl (Nat.le_of_ble_eq_true rfl) ?_ ?_
  · rw [PyData.shown_tuple, PyData.shownAll_cons, PyData.shown_str, PyData.shownAll_nil]
    show PyData.strOk (("(" : Str) ++ reprText x ++ ",)") = true
    rw [strOk_app, strOk_app, h.1]; decide +kernel
  · rw [PyData.shown_tuple, PyData.shownAll_cons, PyData.shown_str, PyData.shownAll_nil]
    show (("(" : Str) ++ reprText x ++ ",)").length ≤ _
    rw [strLen_append, strLen_append]
    have e1 : ("(" : Str).length = 1 := by decide +kernel
    have e2 : (",)" : Str).length = 2 := by decide +kernel
    omega
theorem pl_l1 : Pl (.lst [.str x]) := by
  have h := w.rp
  refine .of (fun _ => rfl) rfl rfl rfl (Nat.le_of_ble_eq_true rfl) ?_ ?_
  · rw [PyData.shown_list, PyData.shownAll_cons, PyData.shown_str, PyData.shownAll_nil]
    show PyData.strOk (("[" : Str) ++ reprText x ++ "]") = true
    rw [strOk_app, strOk_app, h.1]; decide +kernel
  · rw [PyData.shown_list, PyData.shownAll_cons, PyData.shown_str, PyData.shownAll_nil]
    show (("[" : Str) ++ reprText x ++ "]").length ≤ _
    rw [strLen_append, strLen_append]
    have e1 : ("[" : Str).length = 1 := by decide +kernel
    have e2 : ("]" : Str).length = 1 := by decide +kernel
    omega
theorem pl_l2 : Pl (.lst [.str x, .str x]) := by
  have h := w.rp
  refine .of (fun _ => rfl) rfl rfl rfl (Nat.le_of_ble_eq_true rfl) ?_ ?_
  · rw [PyData.shown_list, PyData.shownAll_cons, PyData.shownAll_cons, PyData.shown_str, PyData.shownAll_nil]
    show PyData.strOk (("[" : Str) ++ (reprText x ++ ", " ++ reprText x) ++ "]") = true
    rw [strOk_app, strOk_app, strOk_app, strOk_app, h.1]; decide +kernel
  · rw [PyData.shown_list, PyData.shownAll_cons, PyData.shownAll_cons, PyData.shown_str, PyData.shownAll_nil]
    show (("[" : Str) ++ (reprText x ++ ", " ++ reprText x) ++ "]").length ≤ _
    rw [strLen_append, strLen_append, strLen_append, strLen_append]
    have e1 : ("[" : Str).length = 1 := by decide +kernel
    have e2 : ("]" : Str).length = 1 := by decide +kernel
    have e3 : (", " : Str).length = 2 := by decide +kernel
    omega
theorem pl_l3 : Pl (.lst [.lst [.int 1, .str x], .non]) := by
  have h := w.rp
  have e : (PyData.list [.list [.int 1, .str x], .none]).shown = ("[" : Str) ++ (("[" : Str) ++ ((PyData.int 1).shown ++ ", " ++ reprText x) ++ "]" ++ ", " ++ PyData.none.shown) ++ "]" := by
    simp only [PyData.shown_list, PyData.shownAll_cons, PyData.shown_str, PyData.shownAll_nil]
    rfl
  refine .of (fun _ => rfl) rfl (by simp [PyData.showable, PyData.showableAll]; decide) rfl (Nat.le_of_ble_eq_true rfl) ?_ ?_
  · rw [e]
    simp only [strOk_app, h.1]; decide +kernel
  · rw [e]
    simp only [strLen_append]
    have e1 : ("[" : Str).length = 1 := by decide +kernel
    have e2 : ("]" : Str).length = 1 := by decide +kernel
    have e3 : (", " : Str).length = 2 := by decide +kernel
    have e4 : (PyData.int 1).shown.length = 1 := by decide +kernel
    have e5 : PyData.none.shown.length = 4 := by decide +kernel
    omega
end
/-! ### the draws -/
theorem forM_ind {g : D → Ev.Env → Option Ev.Env} {b : Ev.Env → Sto → SRes} (I : Nat → Ev.Env → Sto → Prop) (N : Nat) : ∀ (ds : List D), (∀ j d ρ S, d ∈ ds → j < N → I j ρ S → ∃ ρ1 ρ2 S2, g d ρ = some ρ1 ∧ b ρ1 S = .nx ρ2 S2 ∧ I (j + 1) ρ2 S2) → ∀ j ρ S, j + ds.length ≤ N → I j ρ S → ∃ ρ' S', Ev.forM g b ds ρ S = .nx ρ' S' ∧ I (j + ds.length) ρ' S'
  | [], _, j, ρ, S, _, h => ⟨ρ, S, rfl, h⟩
  | d :: ds, st, j, ρ, S, hN, h => by
    rw [List.length_cons] at hN
    obtain ⟨ρ1, ρ2, S2, e1, e2, h2⟩ := st j d ρ S (List.mem_cons_self ..) (by omega) h
    obtain ⟨ρ', S', e3, h3⟩ := forM_ind I N ds (fun j d ρ S hd => st j d ρ S (List.mem_cons_of_mem _ hd)) (j + 1) ρ2 S2 (by omega) h2
    refine ⟨ρ', S', ?_, by rw [List.length_cons, Nat.add_comm ds.length 1, ← Nat.add_assoc]; exact h3⟩
    rw [Ev.forM, e1]
    dsimp only
    rw [e2]
    exact e3
theorem sign {S : Sto} {n : Nat} {T : Int} (h : Src S n T) (hT : T < 100000) : ∃ c S', k__law_sign [.box n] S = .ok (.str ⟨#[c]⟩) S' ∧ c < 128 ∧ Src S' n (T + 1) := by
  generalize hL : ("!\"#$&'()*+,-./0123456789:;<=>?@ABCDEFGHIJKLMNOPQRSTUVWXYZ[\\]^_`abcdefghijklmnopqrstuvwxyz{|}~" : Str) = L
  have h1 : L.length = 93 := by rw [← hL]; decide +kernel
  have h2 : ∀ c ∈ L.cps.toList, c < 128 := by rw [← hL]; decide +kernel
  obtain ⟨r, S', e, r0, r1, s⟩ := draw (m := 93) h hT (by omega) (by omega)
  obtain ⟨c, e2, hc⟩ := atI_in (l := L.cps.toList) r0 (by
    have : L.cps.toList.length = L.length := by simp [Str.length]
    omega)
  refine ⟨c, S', ?_, h2 c hc, s⟩
  have hl : ∀ S, lenD (.str L) S = .ok (.int 93) S := fun S => by
    show (if L.length ≤ sizeLine then _ else _) = _
    rw [if_pos (by rw [sz]; omega), h1]
    rfl
  simp [k__law_sign, g__law_sign, startE, sSeq, sSet, vC, sRet, v2, vName, vCall, aCons, aNil, vL, hL, hl, e, e2, sz, h1]

theorem cps_app (a b : Str) : (a ++ b).cps.toList = a.cps.toList ++ b.cps.toList := by
  show (a.cps ++ b.cps).toList = _
  simp
theorem mul_nil (x : Str) : Txt.mul x 0 = ("" : Str) := by
  unfold Txt.mul
  rw [if_pos (by decide)]
  decide +kernel
theorem mul_one (x : Str) : Txt.mul x 1 = x := by
  unfold Txt.mul
  simp
theorem fold_all (P : Nat → Prop) (l : List Nat) (h : ∀ c ∈ l, P c) : ∀ (k : Nat) (acc : Array Nat), (∀ c ∈ acc.toList, P c) → ∀ c ∈ ((List.replicate k l.toArray).foldl (fun a b => a ++ b) acc).toList, P c
  | 0, _, ha => ha
  | k + 1, acc, ha => fold_all P l h k _ fun c hc => by
    have hc : c ∈ acc.toList ∨ c ∈ l := by simpa using hc
    exact hc.elim (ha c) (h c)
theorem fold_len (l : Array Nat) : ∀ (k : Nat) (acc : Array Nat), ((List.replicate k l).foldl (fun a b => a ++ b) acc).size = acc.size + k * l.size
  | 0, acc => by simp
  | k + 1, acc => by
    rw [List.replicate_succ, List.foldl_cons, fold_len l k, Array.size_append, Nat.add_mul]
    omega
theorem mul_word {x : Str} (h : ∀ c ∈ x.cps.toList, c < 128) (hl : x.length ≤ 9) : Word (Txt.mul x 40) := by
  unfold Txt.mul
  rw [if_neg (by decide)]
  split
  · exact ⟨h, by omega⟩
  · refine ⟨?_, ?_⟩
    · exact fold_all (· < 128) x.cps.toList h 40 #[] (by simp)
    · show Array.size _ ≤ _
      rw [fold_len]
      have : x.cps.size ≤ 9 := hl
      have : (40 : Int).toNat = 40 := rfl
      simp
      omega
theorem word {S : Sto} {n : Nat} {T : Int} (h : Src S n T) (hT : T < 90000) : ∃ x S', k__law_word [.box n] S = .ok (.str x) S' ∧ Word x ∧ Src S' n (T + 11) := by
  obtain ⟨c, S1, e1, hc, s1⟩ := sign h (by omega)
  obtain ⟨r, S2, e2, r0, r1, s2⟩ := draw (m := 5) s1 (by omega) (by omega) (by omega)
  let I : Nat → Ev.Env → Sto → Prop := fun j ρ S => ∃ x u, ρ = [some (.v (.box n)), some (.v (.str x)), u] ∧ (∀ c ∈ x.cps.toList, c < 128) ∧ x.length ≤ 1 + 2 * j ∧ Src S n (T + 1 + 1 + 2 * j)
  have hlen : (rngL 0 r.toNat).length = r.toNat := by simp [rngL]
  obtain ⟨ρ', S', e3, x, u, rfl, hx, hxl, s3⟩ := forM_ind (g := tgN 2) (b := sSet 1 (v2 addD (v2 addD (vName 1) (v2 mulD (vC (.str " ")) (v2 fdivD (vCall 2 k__law_draw (aCons (vName 0) (aCons (vC (.int 4)) (aNil)))) (vC (.int 3))))) (vCall 1 k__law_sign (aCons (vName 0) (aNil))))) I 5 (rngL 0 r.toNat) (fun j d ρ S hd hj hI => by
    obtain ⟨x, u, rfl, hx, hxl, s⟩ := hI
    obtain ⟨q, S3, e3, q0, q1, s3⟩ := draw (m := 4) s (by omega) (by omega) (by omega)
    obtain ⟨c', S4, e4, hc', s4⟩ := sign s3 (by omega)
    have hq : q / 3 = 0 ∨ q / 3 = 1 := by omega
    have hsp : (Txt.mul (" " : Str) (q / 3)).length ≤ 1 ∧ ∀ c ∈ (Txt.mul (" " : Str) (q / 3)).cps.toList, c < 128 := by
      rcases hq with z | z <;> rw [z]
      · rw [mul_nil]; decide +kernel
      · rw [mul_one]; decide +kernel
    have hs1 : (" " : Str).length = 1 := by decide +kernel
    have hsc : (⟨#[c']⟩ : Str).length = 1 := rfl
    refine ⟨[some (.v (.box n)), some (.v (.str x)), some (.v d)], [some (.v (.box n)), some (.v (.str (x ++ Txt.mul (" " : Str) (q / 3) ++ ⟨#[c']⟩))), some (.v d)], S4, rfl, ?_, _, some (.v d), rfl, ?_, ?_, s4.mono (by omega)⟩
    · have c1 : -(2 ^ 62) ≤ q / 3 ∧ q / 3 < 2 ^ 62 ∧ (" " : Str).length * (q / 3).toNat ≤ sizeLine := by rw [sz, hs1]; omega
      have c2 : x.length + (Txt.mul (" " : Str) (q / 3)).length ≤ sizeLine := by rw [sz]; omega
      have c3 : (x ++ Txt.mul (" " : Str) (q / 3)).length + (⟨#[c']⟩ : Str).length ≤ sizeLine := by rw [sz, strLen_append, hsc]; omega
      have m1 : ∀ S, mulD (.str (" " : Str)) (.int (q / 3)) S = .ok (.str (Txt.mul (" " : Str) (q / 3))) S := fun S => by rw [mulD_str, if_pos c1]
      have m2 : ∀ S, addD (.str x) (.str (Txt.mul (" " : Str) (q / 3))) S = .ok (.str (x ++ Txt.mul (" " : Str) (q / 3))) S := fun S => by rw [addD_str, if_pos c2]
      have m3 : ∀ S, addD (.str (x ++ Txt.mul (" " : Str) (q / 3))) (.str ⟨#[c']⟩) S = .ok (.str (x ++ Txt.mul (" " : Str) (q / 3) ++ ⟨#[c']⟩)) S := fun S => by rw [addD_str, if_pos c3]
      simp [-mulD_str, -addD_str, sSet, v2, vName, vC, vCall, aCons, aNil, Ev.Res.bind, e3, m1, m2, e4, m3, Ev.Res.toS]
    · intro d hd
      rw [cps_app, cps_app] at hd
      rcases List.mem_append.mp hd with hd | hd
      · rcases List.mem_append.mp hd with hd | hd
        · exact hx d hd
        · exact hsp.2 d hd
      · have : d = c' := by simpa using hd
        omega
    · rw [strLen_append, strLen_append, hsc]
      omega) 0 [some (.v (.box n)), some (.v (.str ⟨#[c]⟩)), none] S2 (by omega) ⟨⟨#[c]⟩, none, rfl, by simpa using hc, by show 1 ≤ _; omega, by simpa using s2⟩
  rw [Nat.zero_add, hlen] at hxl s3
  obtain ⟨q, S4, e4, q0, q1, s4⟩ := draw (m := 16) s3 (by omega) (by omega) (by omega)
  have hsm : smallI r = true := decide_eq_true ⟨by omega, by omega⟩
  by_cases hq : q = 0
  · refine ⟨Txt.mul x 40, S4, ?_, mul_word hx (by omega), s4.mono (by omega)⟩
    subst hq
    have m1 : ∀ S, mulD (.str x) (.int 40) S = .ok (.str (Txt.mul x 40)) S := fun S => by
      have : x.length * (40 : Int).toNat ≤ sizeLine := by rw [sz]; have : (40 : Int).toNat = 40 := rfl; rw [this]; omega
      rw [mulD_str, if_pos ⟨by decide, by decide, this⟩]
    show fnRes (g__law_word [some (.v (.box n)), none, none] S) = _
    unfold g__law_word
    simp [-mulD_str, -addD_str, sSeq, sFor, vLI, rng1, hsm, D.int?, sSet, v2, vB, vIf, sRet, vName, vC, vCall, aCons, aNil, Ev.Res.bind, e1, e2, e3, Ev.Res.toS, e4, m1]
  · refine ⟨x, S4, ?_, ⟨hx, by omega⟩, s4.mono (by omega)⟩
    show fnRes (g__law_word [some (.v (.box n)), none, none] S) = _
    unfold g__law_word
    simp [-mulD_str, -addD_str, sSeq, sFor, vLI, rng1, hsm, D.int?, sSet, v2, vB, vIf, sRet, vName, vC, vCall, aCons, aNil, Ev.Res.bind, e1, e2, e3, Ev.Res.toS, e4, hq]
/-- any of the odd forms -/
theorem odd {S : Sto} {n : Nat} {T : Int} (h : Src S n T) (hT : T < 80000) : ∃ d S', k__law_odd [.box n] S = .ok d S' ∧ Pl d ∧ Src S' n (T + 12) := by
  obtain ⟨x, S1, e1, hx, s1⟩ := word h (by omega)
  obtain ⟨r, S2, e2, r0, r1, s2⟩ := draw (m := 10) s1 (by omega) (by omega) (by omega)
  let L : List D := [.bl true, .bl false, .non, .tup [.str x], .lst [.str x], .tup [], .lst [], .lst [.lst [.int 1, .str x], .non], .tup [.bl true, .int (-3)], .lst [.str x, .str x]]
  have hL : ∀ d ∈ L, Pl d := by
    intro d hd
    simp only [L, List.mem_cons, List.not_mem_nil, or_false] at hd
    rcases hd with rfl | rfl | rfl | rfl | rfl | rfl | rfl | rfl | rfl | rfl
    · exact pl_bl _
    · exact pl_bl _
    · exact pl_non
    · exact pl_t1 hx
    · exact pl_l1 hx
    · exact pl_t0
    · exact pl_l0
    · exact pl_l3 hx
    · exact pl_t3
    · exact pl_l2 hx
  obtain ⟨d, e3, hd⟩ := atI_in (l := L) r0 (by show r < 10; omega)
  refine ⟨d, S2, ?_, hL d hd, s2.mono (by omega)⟩
  show fnRes (g__law_odd [some (.v (.box n)), none, none] S) = _
  unfold g__law_odd
  simp only [L] at e3
  simp [sSeq, sSet, v2, vNeg, D.int?, vL, mkTup, mkLst, sz, sRet, vName, vC, vCall, aCons, aNil, Ev.Res.bind, e1, e2, e3, Ev.Res.toS]
/-! ### the exceptions and what they tell -/
theorem excD_fit {S : Sto} {d : D} (h : xcFit S d = true) (C : Nat) (f : Str) : excD C f d S = .ok (.exi C [(f, d)]) S := by
  unfold excD
  rw [if_pos h]
def pr (f : Str) (d : D) (C : Nat) : D := .lst [.exi C [(f, d)], d]
def prs (f : Str) (d : D) (l : List Nat) : D := .lst (l.map (pr f d))
theorem mkLst_le {ds : List D} (S : Sto) (h : ds.length ≤ 1000) : mkLst ds S = .ok (.lst ds) S := by
  unfold mkLst
  rw [if_pos (by rw [sz]; omega)]
theorem lookup1 (f : Str) (d : D) : List.lookup f [(f, d)] = some d := by simp
theorem itD_lst (ds : List D) (S : Sto) : itD (.lst ds) S = .ok ds S := rfl
theorem values {d : D} (h : Pl d) (S : Sto) : k__law_values [d] S = .ok (.tup [prs "value" d [4, 5, 6, 7, 4, 5, 6, 7], prs "value" d [22, 23, 24, 25, 22, 23, 24, 25, 26, 26]]) S := by
  have he : ∀ C f, excD C f d S = .ok (.exi C [(f, d)]) S := excD_fit (h.fit S)
  show fnRes (g__law_values [some (.v d), none, none, none] S) = _
  unfold g__law_values
  simp [sSeq, sSet, v1, v2, vL, vC, vName, sRet, aCons, aNil, Ev.Res.bind, Ev.Res.toS, he, mkLst, mkTup, sz, vLc, vIt, itD_lst, wipeE, compM, tgN, bYes, xfldD, prs, pr]

theorem words {d : D} (h : Pl d) (S : Sto) : k__law_words [d] S = .ok (.tup [prs "name" d [8, 9, 14, 19, 8, 9, 14, 19], prs "name" d [27, 28, 27, 28]]) S := by
  have he : ∀ C f, excD C f d S = .ok (.exi C [(f, d)]) S := excD_fit (h.fit S)
  show fnRes (g__law_words [some (.v d), none, none, none] S) = _
  unfold g__law_words
  simp [sSeq, sSet, v1, v2, vL, vC, vName, sRet, aCons, aNil, Ev.Res.bind, Ev.Res.toS, he, mkLst, mkTup, sz, vLc, vIt, itD_lst, wipeE, compM, tgN, bYes, xfldD, prs, pr]
def nums (d : D) : List D := [10, 12, 13, 10, 12, 13].map (pr "line" d) ++ [11, 16, 18, 11, 16, 18].map (pr "part" d)
theorem numbers {d : D} (h : Pl d) (S : Sto) : k__law_numbers [d] S = .ok (.lst (nums d)) S := by
  have he : ∀ C f, excD C f d S = .ok (.exi C [(f, d)]) S := excD_fit (h.fit S)
  show fnRes (g__law_numbers [some (.v d), none, none, none] S) = _
  unfold g__law_numbers
  simp [sSeq, sSet, v1, v2, vL, vC, vName, sRet, aCons, aNil, Ev.Res.bind, Ev.Res.toS, he, mkLst, mkTup, sz, vLc, vIt, itD_lst, wipeE, compM, tgN, bYes, xfldD, nums, pr]
theorem raised {x : Str} (w : Word x) (S : Sto) : k__law_raised [.str x] S = .ok (.str x) S := by
  have := w.pl.fit S
  show fnRes (g__law_raised [some (.v (.str x)), none] S) = _
  unfold g__law_raised
  simp [sTry, sRaise, vName, this, Ev.Res.toS, clsD, cmL, cm_BadCommand, cm_BadProgram, goneE, vXg, sRetX, SRes.gone]
def flags (C : Nat) : List D := [4, 5, 6, 7, 8, 9, 10, 11, 12, 13, 14, 15, 16, 17, 18, 19, 20, 21, 22, 23, 24, 25, 26, 27, 28, 29].map fun k => .bl (decide (C = k))
theorem classes {C : Nat} (h : C ∈ [4, 5, 6, 7, 8, 9, 10, 11, 12, 13, 14, 15, 16, 17, 18, 19, 20, 21, 22, 23, 24, 25, 26, 27, 28, 29]) (fs : List (Str × D)) (S : Sto) : k__law_classes [.exi C fs] S = .ok (.lst (flags C)) S := by
  simp only [List.mem_cons, List.not_mem_nil, or_false] at h
  rcases h with rfl | rfl | rfl | rfl | rfl | rfl | rfl | rfl | rfl | rfl | rfl | rfl | rfl | rfl | rfl | rfl | rfl | rfl | rfl | rfl | rfl | rfl | rfl | rfl | rfl | rfl <;> kernel_rfl
/-! ### one case -/
theorem seq_nx {f g : Ev.Env → Sto → SRes} {ρ ρ1 : Ev.Env} {S S1 : Sto} {R : SRes} (h : f ρ S = .nx ρ1 S1) (h2 : g ρ1 S1 = R) : sSeq f g ρ S = R := by
  unfold sSeq
  rw [h]
  exact h2
def Cl : List Nat := [4, 5, 6, 7, 8, 9, 10, 11, 12, 13, 14, 15, 16, 17, 18, 19, 20, 21, 22, 23, 24, 25, 26, 27, 28, 29]
def g2 : D → Ev.Env → Option Ev.Env := tgT 2 (tgCons (tgN 14) (tgCons (tgN 15) (tgNil)))
def b9 : Ev.Env → Sto → SRes := sIf (bNot (vT (vCall 2 k__law_same (aCons (vName 15) (aCons (vName 13) (aNil)))))) (sRet (vC (.bl false))) (sNil)
def b10 : Ev.Env → Sto → SRes := sIf (bOr (vT (v1 (isD (tabL t_is_bool)) (vName 15))) (vB (v2 neD (vName 15) (vName 3)))) (sRet (vC (.bl false))) (sNil)
def b12 : Ev.Env → Sto → SRes := sIf (vB (v2 neD (vL (arg1 lenD) (aCons (vLc [17] (vIt (vCall 1 k__law_classes (aCons (vName 14) (aNil)))) (tgN 17) (vT (vName 17)) (vC (.bl true))) (aNil))) (vC (.int 1)))) (sRet (vC (.bl false))) (sNil)
def b13 : Ev.Env → Sto → SRes := sIf (bOr (bNot (vT (v1 (isD (tabL t_is_ValueError)) (vName 14)))) (vT (v1 (isD (tabL t_is_LookupError)) (vName 14)))) (sRet (vC (.bl false))) (sNil)
def b14 : Ev.Env → Sto → SRes := sIf (bOr (bNot (vT (v1 (isD (tabL t_is_LookupError)) (vName 14)))) (vT (v1 (isD (tabL t_is_ValueError)) (vName 14)))) (sRet (vC (.bl false))) (sNil)
section
variable {b0 b1 b2 b3 b4 b5 b6 b7 b8 b9' b10' s11 s12 s13 s16 s17 : Option Ev.Slot} {S : Sto}
theorem loop9 {d : D} (hd : Pl d) : ∀ (ds : List D), (∀ e ∈ ds, ∃ y, e = .lst [y, d]) → ∀ s14 s15, ∃ s14' s15', Ev.forM g2 b9 ds [b0, b1, b2, b3, b4, b5, b6, b7, b8, b9', b10', s11, s12, some (.v d), s14, s15, s16, s17] S = .nx [b0, b1, b2, b3, b4, b5, b6, b7, b8, b9', b10', s11, s12, some (.v d), s14', s15', s16, s17] S
  | [], _, a, b => ⟨a, b, rfl⟩
  | e :: ds, h, a, b => by
    obtain ⟨y, rfl⟩ := h e (List.mem_cons_self ..)
    obtain ⟨a', b', ih⟩ := loop9 hd ds (fun e he => h e (List.mem_cons_of_mem _ he)) (some (.v y)) (some (.v d))
    refine ⟨a', b', ?_⟩
    rw [← ih]
    simp [Ev.forM, g2, tgT, tgCons, tgN, tgNil, b9, sIf, bNot, vT, vCall, vName, aCons, aNil, hd.same S, sNil, Ev.Res.bind, Ev.Res.toS]
theorem loop10 {k : Int} : ∀ (ds : List D), (∀ e ∈ ds, ∃ y, e = .lst [y, .int k]) → ∀ s14 s15, ∃ s14' s15', Ev.forM g2 b10 ds [b0, b1, b2, some (.v (.int k)), b4, b5, b6, b7, b8, b9', b10', s11, s12, s13, s14, s15, s16, s17] S = .nx [b0, b1, b2, some (.v (.int k)), b4, b5, b6, b7, b8, b9', b10', s11, s12, s13, s14', s15', s16, s17] S
  | [], _, a, b => ⟨a, b, rfl⟩
  | e :: ds, h, a, b => by
    obtain ⟨y, rfl⟩ := h e (List.mem_cons_self ..)
    obtain ⟨a', b', ih⟩ := loop10 ds (fun e he => h e (List.mem_cons_of_mem _ he)) (some (.v y)) (some (.v (.int k)))
    refine ⟨a', b', ?_⟩
    rw [← ih]
    have hb : isD (tabL t_is_bool) (.int k) S = .ok (.bl false) S := rfl
    simp [Ev.forM, g2, tgT, tgCons, tgN, tgNil, b10, sIf, bOr, vT, vB, v1, v2, vName, hb, sNil, Ev.Res.bind, Ev.Res.toS]
theorem one {C : Nat} (h : C ∈ Cl) (ρ : Ev.Env) (S : Sto) (hl : ρ.length = 18) : ∃ ys, compM (tgN 17) (vT (vName 17)) (vC (.bl true)) ρ (flags C) S = .ok ys S ∧ ys.length = 1 := by
  have e : ∀ (b : Bool) (l : List D), compM (tgN 17) (vT (vName 17)) (vC (.bl true)) ρ (.bl b :: l) S = if b = true then (match compM (tgN 17) (vT (vName 17)) (vC (.bl true)) ρ l S with
          | .ok ys S => .ok (.bl true :: ys) S
          | _ => .bad) else compM (tgN 17) (vT (vName 17)) (vC (.bl true)) ρ l S := fun b l => by
    have h17 : (ρ.set 17 (some (Slot.v (.bl b))))[17]? = some (some (Slot.v (.bl b))) := List.getElem?_set_self (by omega)
    rw [compM]
    cases b
    · simp [tgN, vT, vName, vC, h17, Ev.Res.bind]
    · simp [tgN, vT, vName, vC, h17, Ev.Res.bind] <;> (generalize compM _ _ _ ρ l S = z; cases z <;> rfl)
  have e0 : compM (tgN 17) (vT (vName 17)) (vC (.bl true)) ρ [] S = .ok [] S := rfl
  simp only [Cl, List.mem_cons, List.not_mem_nil, or_false] at h
  refine ⟨[.bl true], ?_, rfl⟩
  rcases h with rfl | rfl | rfl | rfl | rfl | rfl | rfl | rfl | rfl | rfl | rfl | rfl | rfl | rfl | rfl | rfl | rfl | rfl | rfl | rfl | rfl | rfl | rfl | rfl | rfl | rfl <;> simp [flags, e, e0]
theorem loop12 : ∀ (ds : List D), (∀ e ∈ ds, ∃ C fs y, e = .lst [.exi C fs, y] ∧ C ∈ Cl) → ∀ s14 s15, ∃ s14' s15', Ev.forM g2 b12 ds [b0, b1, b2, b3, b4, b5, b6, b7, b8, b9', b10', s11, s12, s13, s14, s15, s16, s17] S = .nx [b0, b1, b2, b3, b4, b5, b6, b7, b8, b9', b10', s11, s12, s13, s14', s15', s16, s17] S
  | [], _, a, b => ⟨a, b, rfl⟩
  | e :: ds, h, a, b => by
    obtain ⟨C, fs, y, rfl, hC⟩ := h e (List.mem_cons_self ..)
    obtain ⟨a', b', ih⟩ := loop12 ds (fun e he => h e (List.mem_cons_of_mem _ he)) (some (.v (.exi C fs))) (some (.v y))
    refine ⟨a', b', ?_⟩
    rw [← ih]
    obtain ⟨ys, e1, e2⟩ := one hC [b0, b1, b2, b3, b4, b5, b6, b7, b8, b9', b10', s11, s12, s13, some (.v (.exi C fs)), some (.v y), s16, none] S rfl
    have hc := classes hC fs S
    have hm : mkLst ys S = .ok (.lst ys) S := mkLst_le S (by omega)
    simp [Ev.forM, g2, tgT, tgCons, tgNil, b12, sIf, vB, v2, vL, vC, vLc, vIt, vCall, vName, aCons, aNil, hc, itD_lst, wipeE, e1, hm, e2, sNil, Ev.Res.bind, Ev.Res.toS, show ∀ i d ρ, tgN i d ρ = some (ρ.set i (some (.v d))) from fun _ _ _ => rfl]
theorem loop13 : ∀ (ds : List D), (∀ e ∈ ds, ∃ C fs y, e = .lst [.exi C fs, y] ∧ C ∈ [4, 5, 6, 7, 8, 9, 10, 11, 12, 13, 14, 15, 16, 17, 18, 19, 20, 21]) → ∀ s14 s15, ∃ s14' s15', Ev.forM g2 b13 ds [b0, b1, b2, b3, b4, b5, b6, b7, b8, b9', b10', s11, s12, s13, s14, s15, s16, s17] S = .nx [b0, b1, b2, b3, b4, b5, b6, b7, b8, b9', b10', s11, s12, s13, s14', s15', s16, s17] S
  | [], _, a, b => ⟨a, b, rfl⟩
  | e :: ds, h, a, b => by
    obtain ⟨C, fs, y, rfl, hC⟩ := h e (List.mem_cons_self ..)
    obtain ⟨a', b', ih⟩ := loop13 ds (fun e he => h e (List.mem_cons_of_mem _ he)) (some (.v (.exi C fs))) (some (.v y))
    refine ⟨a', b', ?_⟩
    rw [← ih]
    have h1 : isD (tabL t_is_ValueError) (.exi C fs) S = .ok (.bl true) S ∧ isD (tabL t_is_LookupError) (.exi C fs) S = .ok (.bl false) S := by
      simp only [List.mem_cons, List.not_mem_nil, or_false] at hC
      rcases hC with rfl | rfl | rfl | rfl | rfl | rfl | rfl | rfl | rfl | rfl | rfl | rfl | rfl | rfl | rfl | rfl | rfl | rfl <;> exact ⟨rfl, rfl⟩
    simp [Ev.forM, g2, tgT, tgCons, tgN, tgNil, b13, sIf, bOr, bNot, vT, v1, vName, h1.1, h1.2, sNil, Ev.Res.bind, Ev.Res.toS]
theorem loop14 : ∀ (ds : List D), (∀ e ∈ ds, ∃ C fs y, e = .lst [.exi C fs, y] ∧ C ∈ [22, 23, 24, 25, 26, 27, 28]) → ∀ s14 s15, ∃ s14' s15', Ev.forM g2 b14 ds [b0, b1, b2, b3, b4, b5, b6, b7, b8, b9', b10', s11, s12, s13, s14, s15, s16, s17] S = .nx [b0, b1, b2, b3, b4, b5, b6, b7, b8, b9', b10', s11, s12, s13, s14', s15', s16, s17] S
  | [], _, a, b => ⟨a, b, rfl⟩
  | e :: ds, h, a, b => by
    obtain ⟨C, fs, y, rfl, hC⟩ := h e (List.mem_cons_self ..)
    obtain ⟨a', b', ih⟩ := loop14 ds (fun e he => h e (List.mem_cons_of_mem _ he)) (some (.v (.exi C fs))) (some (.v y))
    refine ⟨a', b', ?_⟩
    rw [← ih]
    have h1 : isD (tabL t_is_ValueError) (.exi C fs) S = .ok (.bl false) S ∧ isD (tabL t_is_LookupError) (.exi C fs) S = .ok (.bl true) S := by
      simp only [List.mem_cons, List.not_mem_nil, or_false] at hC
      rcases hC with rfl | rfl | rfl | rfl | rfl | rfl | rfl <;> exact ⟨rfl, rfl⟩
    simp [Ev.forM, g2, tgT, tgCons, tgN, tgNil, b14, sIf, bOr, bNot, vT, v1, vName, h1.1, h1.2, sNil, Ev.Res.bind, Ev.Res.toS]
end
theorem mem_of {l m : List Nat} (h : (l.all fun c => m.contains c) = true) {C : Nat} (hC : C ∈ l) : C ∈ m := by
  have := List.all_eq_true.mp h C hC
  simpa using this
theorem mem_pr {f : Str} {d : D} {l : List Nat} {e : D} (h : e ∈ l.map (pr f d)) : ∃ C ∈ l, e = .lst [.exi C [(f, d)], d] := by
  obtain ⟨C, hC, rfl⟩ := List.mem_map.mp h
  exact ⟨C, hC, rfl⟩
theorem neD_same (k : Int) (S : Sto) : neD (.int k) (.int k) S = .ok (.bl false) S := by simp
theorem case_ {S : Sto} {n : Nat} {T : Int} (h : Src S n T) (hT : T < 50000) : ∃ S', k__law_case [.box n] S = .ok (.bl true) S' := by
  obtain ⟨d, S1, e1, hd, s1⟩ := odd h (by omega)
  obtain ⟨x, S2, e2, hx, s2⟩ := word s1 (by omega)
  obtain ⟨r, S3, e3, r0, r1, s3⟩ := draw (m := 1000000000) s2 (by omega) (by omega) (by omega)
  have hk : Pl (.int (r - 1)) := pl_int _ (by omega)
  have hp : CPow 10 9 := ⟨by decide, by decide, by decide⟩
  refine ⟨S3, ?_⟩
  have ed : ∀ C f, excD C f d S3 = .ok (.exi C [(f, d)]) S3 := excD_fit (hd.fit S3)
  have ek : ∀ C f, excD C f (.int (r - 1)) S3 = .ok (.exi C [(f, .int (r - 1))]) S3 := excD_fit (hk.fit S3)
  obtain ⟨v1, hV1, m1, l1⟩ : ∃ v, prs "value" d [4, 5, 6, 7, 4, 5, 6, 7] = .lst v ∧ (∀ e ∈ v, ∃ C ∈ [4, 5, 6, 7, 4, 5, 6, 7], e = .lst [.exi C [("value", d)], d]) ∧ v.length = 8 := ⟨_, rfl, fun e he => mem_pr he, rfl⟩
  obtain ⟨v2, hV2, m2, l2⟩ : ∃ v, prs "value" d [22, 23, 24, 25, 22, 23, 24, 25, 26, 26] = .lst v ∧ (∀ e ∈ v, ∃ C ∈ [22, 23, 24, 25, 22, 23, 24, 25, 26, 26], e = .lst [.exi C [("value", d)], d]) ∧ v.length = 10 := ⟨_, rfl, fun e he => mem_pr he, rfl⟩
  obtain ⟨w1, hW1, m3, l3⟩ : ∃ v, prs "name" (.str x) [8, 9, 14, 19, 8, 9, 14, 19] = .lst v ∧ (∀ e ∈ v, ∃ C ∈ [8, 9, 14, 19, 8, 9, 14, 19], e = .lst [.exi C [("name", .str x)], .str x]) ∧ v.length = 8 := ⟨_, rfl, fun e he => mem_pr he, rfl⟩
  obtain ⟨w2, hW2, m4, l4⟩ : ∃ v, prs "name" (.str x) [27, 28, 27, 28] = .lst v ∧ (∀ e ∈ v, ∃ C ∈ [27, 28, 27, 28], e = .lst [.exi C [("name", .str x)], .str x]) ∧ v.length = 4 := ⟨_, rfl, fun e he => mem_pr he, rfl⟩
  have q0 : sPar 1 2 (aCons (vCall 1 k__law_odd (aCons (vName 0) (aNil))) (aCons (vCall 1 k__law_word (aCons (vName 0) (aNil))) (aNil))) [some (.v (.box n)), none, none, none, none, none, none, none, none, none, none, none, none, none, none, none, none, none] S = .nx [some (.v (.box n)), some (.v d), some (.v (.str x)), none, none, none, none, none, none, none, none, none, none, none, none, none, none, none] S2 := by
    simp [sPar, vCall, vName, aCons, aNil, e1, e2, Ev.Res.bind, Ev.Res.toS]
  have q1 : sSet 3 (Ev.v2 subD (vCall 2 k__law_draw (aCons (vName 0) (aCons (Ev.v2 powD (vC (.int 10)) (vC (.int 9))) (aNil)))) (vC (.int 1))) [some (.v (.box n)), some (.v d), some (.v (.str x)), none, none, none, none, none, none, none, none, none, none, none, none, none, none, none] S2 = .nx [some (.v (.box n)), some (.v d), some (.v (.str x)), some (.v (.int (r - 1))), none, none, none, none, none, none, none, none, none, none, none, none, none, none] S3 := by
    simp [sSet, Ev.v2, vC, vCall, vName, aCons, aNil, hp, e3, Ev.Res.bind, Ev.Res.toS]
  generalize r - 1 = k at *
  have q2 : sAsg (tgT 2 (tgCons (tgN 4) (tgCons (tgN 5) (tgNil)))) (vCall 1 k__law_values (aCons (vName 1) (aNil))) [some (.v (.box n)), some (.v d), some (.v (.str x)), some (.v (.int k)), none, none, none, none, none, none, none, none, none, none, none, none, none, none] S3 = .nx [some (.v (.box n)), some (.v d), some (.v (.str x)), some (.v (.int k)), some (.v (.lst v1)), some (.v (.lst v2)), none, none, none, none, none, none, none, none, none, none, none, none] S3 := by
    have := values hd S3
    rw [hV1, hV2] at this
    simp [sAsg, tgT, tgCons, tgN, tgNil, vCall, vName, aCons, aNil, this, Ev.Res.bind, Ev.Res.toS]
  have q3 : sAsg (tgT 2 (tgCons (tgN 6) (tgCons (tgN 7) (tgNil)))) (vCall 1 k__law_words (aCons (vName 2) (aNil))) [some (.v (.box n)), some (.v d), some (.v (.str x)), some (.v (.int k)), some (.v (.lst v1)), some (.v (.lst v2)), none, none, none, none, none, none, none, none, none, none, none, none] S3 = .nx [some (.v (.box n)), some (.v d), some (.v (.str x)), some (.v (.int k)), some (.v (.lst v1)), some (.v (.lst v2)), some (.v (.lst w1)), some (.v (.lst w2)), none, none, none, none, none, none, none, none, none, none] S3 := by
    have := words hx.pl S3
    rw [hW1, hW2] at this
    simp [sAsg, tgT, tgCons, tgN, tgNil, vCall, vName, aCons, aNil, this, Ev.Res.bind, Ev.Res.toS]
  have q45 : ∀ g, sSeq (sSet 8 (vL mkLst (aCons (vL mkLst (aCons (Ev.v1 (excD 20 "text") (vName 1)) (aCons (vName 1) (aNil)))) (aCons (vL mkLst (aCons (Ev.v1 (excD 21 "command") (vName 1)) (aCons (vName 1) (aNil)))) (aNil))))) (sSeq (sSet 8 (Ev.v2 addD (vName 8) (vL mkLst (aCons (vL mkLst (aCons (Ev.v1 (excD 17 "mend") (vName 1)) (aCons (vName 1) (aNil)))) (aCons (vL mkLst (aCons (Ev.v1 (excD 15 "place") (vName 3)) (aCons (vName 3) (aNil)))) (aNil)))))) g) [some (.v (.box n)), some (.v d), some (.v (.str x)), some (.v (.int k)), some (.v (.lst v1)), some (.v (.lst v2)), some (.v (.lst w1)), some (.v (.lst w2)), none, none, none, none, none, none, none, none, none, none] S3
      = g [some (.v (.box n)), some (.v d), some (.v (.str x)), some (.v (.int k)), some (.v (.lst v1)), some (.v (.lst v2)), some (.v (.lst w1)), some (.v (.lst w2)), some (.v (.lst [pr "text" d 20, pr "command" d 21, pr "mend" d 17, pr "place" (.int k) 15])), none, none, none, none, none, none, none, none, none] S3 := fun g => by
    simp [sSeq, sSet, Ev.v1, Ev.v2, vL, vName, aCons, aNil, mkLst, sz, ed, ek, pr, Ev.Res.bind, Ev.Res.toS]
  have q67 : ∀ g, sSeq (sSet 9 (vL mkLst (aCons (Ev.v1 (xfldD [20] "text") (Ev.v2 ixD (Ev.v2 ixD (vName 8) (vC (.int 0))) (vC (.int 0)))) (aCons (Ev.v1 (xfldD [21] "command") (Ev.v2 ixD (Ev.v2 ixD (vName 8) (vC (.int 1))) (vC (.int 0)))) (aCons (Ev.v1 (xfldD [17] "mend") (Ev.v2 ixD (Ev.v2 ixD (vName 8) (vC (.int 2))) (vC (.int 0)))) (aCons (Ev.v1 (xfldD [15] "place") (Ev.v2 ixD (Ev.v2 ixD (vName 8) (vC (.int 3))) (vC (.int 0)))) (aNil))))))) (sSeq (sSet 10 (Ev.v1 (excD 29 "limit") (vName 3))) g) [some (.v (.box n)), some (.v d), some (.v (.str x)), some (.v (.int k)), some (.v (.lst v1)), some (.v (.lst v2)), some (.v (.lst w1)), some (.v (.lst w2)), some (.v (.lst [pr "text" d 20, pr "command" d 21, pr "mend" d 17, pr "place" (.int k) 15])), none, none, none, none, none, none, none, none, none] S3
      = g [some (.v (.box n)), some (.v d), some (.v (.str x)), some (.v (.int k)), some (.v (.lst v1)), some (.v (.lst v2)), some (.v (.lst w1)), some (.v (.lst w2)), some (.v (.lst [pr "text" d 20, pr "command" d 21, pr "mend" d 17, pr "place" (.int k) 15])), some (.v (.lst [d, d, d, .int k])), some (.v (.exi 29 [("limit", .int k)])), none, none, none, none, none, none, none] S3 := fun g => by
    simp [sSeq, sSet, Ev.v1, Ev.v2, vL, vC, vName, aCons, aNil, mkLst, sz, ed, ek, pr, xfldD, Ev.Res.bind, Ev.Res.toS]
  have q8 : sFor (vLI rng1 (aCons (vC (.int 4)) (aNil))) (tgN 11) (sIf (bNot (vT (vCall 2 k__law_same (aCons (Ev.v2 ixD (vName 9) (vName 11)) (aCons (Ev.v2 ixD (Ev.v2 ixD (vName 8) (vName 11)) (vC (.int 1))) (aNil)))))) (sRet (vC (.bl false))) (sNil)) [some (.v (.box n)), some (.v d), some (.v (.str x)), some (.v (.int k)), some (.v (.lst v1)), some (.v (.lst v2)), some (.v (.lst w1)), some (.v (.lst w2)), some (.v (.lst [pr "text" d 20, pr "command" d 21, pr "mend" d 17, pr "place" (.int k) 15])), some (.v (.lst [d, d, d, .int k])), some (.v (.exi 29 [("limit", .int k)])), none, none, none, none, none, none, none] S3
      = .nx [some (.v (.box n)), some (.v d), some (.v (.str x)), some (.v (.int k)), some (.v (.lst v1)), some (.v (.lst v2)), some (.v (.lst w1)), some (.v (.lst w2)), some (.v (.lst [pr "text" d 20, pr "command" d 21, pr "mend" d 17, pr "place" (.int k) 15])), some (.v (.lst [d, d, d, .int k])), some (.v (.exi 29 [("limit", .int k)])), some (.v (.int 3)), none, none, none, none, none, none] S3 := by
    have h4 : rng1 [.int 4] S3 = .ok [.int 0, .int 1, .int 2, .int 3] S3 := rfl
    simp [sFor, vLI, h4, Ev.forM, tgN, sIf, bNot, vT, Ev.v2, vL, vC, vCall, vName, aCons, aNil, sNil, pr, hd.same S3, hk.same S3, Ev.Res.bind, Ev.Res.toS]
  have inner : ∀ (l : List D) (d' : D) (s14 s15 : Option Ev.Slot), Pl d' → (∀ e ∈ l, ∃ y, e = .lst [y, d']) → ∃ s14' s15', sFor (vIt (vName 12)) g2 b9 [some (.v (.box n)), some (.v d), some (.v (.str x)), some (.v (.int k)), some (.v (.lst v1)), some (.v (.lst v2)), some (.v (.lst w1)), some (.v (.lst w2)), some (.v (.lst [pr "text" d 20, pr "command" d 21, pr "mend" d 17, pr "place" (.int k) 15])), some (.v (.lst [d, d, d, .int k])), some (.v (.exi 29 [("limit", .int k)])), some (.v (.int 3)), some (.v (.lst l)), some (.v d'), s14, s15, none, none] S3 = .nx [some (.v (.box n)), some (.v d), some (.v (.str x)), some (.v (.int k)), some (.v (.lst v1)), some (.v (.lst v2)), some (.v (.lst w1)), some (.v (.lst w2)), some (.v (.lst [pr "text" d 20, pr "command" d 21, pr "mend" d 17, pr "place" (.int k) 15])), some (.v (.lst [d, d, d, .int k])), some (.v (.exi 29 [("limit", .int k)])), some (.v (.int 3)), some (.v (.lst l)), some (.v d'), s14', s15', none, none] S3 := fun l d' s14 s15 hp hl => by
    obtain ⟨a, c, e⟩ := loop9 (S := S3) hp l hl s14 s15
    refine ⟨a, c, ?_⟩
    have hi : ∀ ρ : Ev.Env, ρ[12]? = some (some (.v (.lst l))) → vIt (vName 12) ρ S3 = .ok l S3 := fun ρ h => by
      simp [vIt, vName, h, itD_lst, Ev.Res.bind]
    unfold sFor
    rw [hi _ rfl]
    exact e
  obtain ⟨a1, c1, i1⟩ := inner v1 d none none hd fun e he => by
    obtain ⟨C, _, rfl⟩ := m1 e he
    exact ⟨_, rfl⟩
  obtain ⟨a2, c2, i2⟩ := inner v2 d a1 c1 hd fun e he => by
    obtain ⟨C, _, rfl⟩ := m2 e he
    exact ⟨_, rfl⟩
  obtain ⟨a3, c3, i3⟩ := inner w1 (.str x) a2 c2 hx.pl fun e he => by
    obtain ⟨C, _, rfl⟩ := m3 e he
    exact ⟨_, rfl⟩
  obtain ⟨a4, c4, i4⟩ := inner w2 (.str x) a3 c3 hx.pl fun e he => by
    obtain ⟨C, _, rfl⟩ := m4 e he
    exact ⟨_, rfl⟩
  have q9 : sFor (vIt (vL mkLst (aCons (vL mkLst (aCons (vName 4) (aCons (vName 1) (aNil)))) (aCons (vL mkLst (aCons (vName 5) (aCons (vName 1) (aNil)))) (aCons (vL mkLst (aCons (vName 6) (aCons (vName 2) (aNil)))) (aCons (vL mkLst (aCons (vName 7) (aCons (vName 2) (aNil)))) (aNil))))))) (tgT 2 (tgCons (tgN 12) (tgCons (tgN 13) (tgNil)))) (sFor (vIt (vName 12)) g2 b9) [some (.v (.box n)), some (.v d), some (.v (.str x)), some (.v (.int k)), some (.v (.lst v1)), some (.v (.lst v2)), some (.v (.lst w1)), some (.v (.lst w2)), some (.v (.lst [pr "text" d 20, pr "command" d 21, pr "mend" d 17, pr "place" (.int k) 15])), some (.v (.lst [d, d, d, .int k])), some (.v (.exi 29 [("limit", .int k)])), some (.v (.int 3)), none, none, none, none, none, none] S3 = .nx [some (.v (.box n)), some (.v d), some (.v (.str x)), some (.v (.int k)), some (.v (.lst v1)), some (.v (.lst v2)), some (.v (.lst w1)), some (.v (.lst w2)), some (.v (.lst [pr "text" d 20, pr "command" d 21, pr "mend" d 17, pr "place" (.int k) 15])), some (.v (.lst [d, d, d, .int k])), some (.v (.exi 29 [("limit", .int k)])), some (.v (.int 3)), some (.v (.lst w2)), some (.v (.str x)), a4, c4, none, none] S3 := by
    have hv : vIt (vL mkLst (aCons (vL mkLst (aCons (vName 4) (aCons (vName 1) (aNil)))) (aCons (vL mkLst (aCons (vName 5) (aCons (vName 1) (aNil)))) (aCons (vL mkLst (aCons (vName 6) (aCons (vName 2) (aNil)))) (aCons (vL mkLst (aCons (vName 7) (aCons (vName 2) (aNil)))) (aNil)))))) [some (.v (.box n)), some (.v d), some (.v (.str x)), some (.v (.int k)), some (.v (.lst v1)), some (.v (.lst v2)), some (.v (.lst w1)), some (.v (.lst w2)), some (.v (.lst [pr "text" d 20, pr "command" d 21, pr "mend" d 17, pr "place" (.int k) 15])), some (.v (.lst [d, d, d, .int k])), some (.v (.exi 29 [("limit", .int k)])), some (.v (.int 3)), none, none, none, none, none, none] S3 = .ok [.lst [.lst v1, d], .lst [.lst v2, d], .lst [.lst w1, .str x], .lst [.lst w2, .str x]] S3 := by
      simp [vIt, vL, vName, aCons, aNil, mkLst, sz, itD_lst, Ev.Res.bind]
    unfold sFor at i1 i2 i3 i4 ⊢
    rw [hv]
    simp [Ev.forM, tgT, tgCons, tgN, tgNil, Ev.Res.toS] at i1 i2 i3 i4 ⊢
    simp [i1, i2, i3, i4]
  obtain ⟨a5, c5, i5⟩ := loop10 (b0 := some (.v (.box n))) (b1 := some (.v d)) (b2 := some (.v (.str x))) (b4 := some (.v (.lst v1))) (b5 := some (.v (.lst v2))) (b6 := some (.v (.lst w1))) (b7 := some (.v (.lst w2))) (b8 := some (.v (.lst [pr "text" d 20, pr "command" d 21, pr "mend" d 17, pr "place" (.int k) 15]))) (b9' := some (.v (.lst [d, d, d, .int k]))) (b10' := some (.v (.exi 29 [("limit", .int k)]))) (s11 := some (.v (.int 3))) (s12 := some (.v (.lst w2))) (s13 := some (.v (.str x))) (s16 := none) (s17 := none) (S := S3) (k := k) (nums (.int k)) (fun e he => by
    rcases List.mem_append.mp he with he | he <;> obtain ⟨C, _, rfl⟩ := mem_pr he <;> exact ⟨_, rfl⟩) a4 c4
  have q10 : sFor (vIt (vCall 1 k__law_numbers (aCons (vName 3) (aNil)))) g2 b10 [some (.v (.box n)), some (.v d), some (.v (.str x)), some (.v (.int k)), some (.v (.lst v1)), some (.v (.lst v2)), some (.v (.lst w1)), some (.v (.lst w2)), some (.v (.lst [pr "text" d 20, pr "command" d 21, pr "mend" d 17, pr "place" (.int k) 15])), some (.v (.lst [d, d, d, .int k])), some (.v (.exi 29 [("limit", .int k)])), some (.v (.int 3)), some (.v (.lst w2)), some (.v (.str x)), a4, c4, none, none] S3 = .nx [some (.v (.box n)), some (.v d), some (.v (.str x)), some (.v (.int k)), some (.v (.lst v1)), some (.v (.lst v2)), some (.v (.lst w1)), some (.v (.lst w2)), some (.v (.lst [pr "text" d 20, pr "command" d 21, pr "mend" d 17, pr "place" (.int k) 15])), some (.v (.lst [d, d, d, .int k])), some (.v (.exi 29 [("limit", .int k)])), some (.v (.int 3)), some (.v (.lst w2)), some (.v (.str x)), a5, c5, none, none] S3 := by
    have hv : vIt (vCall 1 k__law_numbers (aCons (vName 3) (aNil))) [some (.v (.box n)), some (.v d), some (.v (.str x)), some (.v (.int k)), some (.v (.lst v1)), some (.v (.lst v2)), some (.v (.lst w1)), some (.v (.lst w2)), some (.v (.lst [pr "text" d 20, pr "command" d 21, pr "mend" d 17, pr "place" (.int k) 15])), some (.v (.lst [d, d, d, .int k])), some (.v (.exi 29 [("limit", .int k)])), some (.v (.int 3)), some (.v (.lst w2)), some (.v (.str x)), a4, c4, none, none] S3 = .ok (nums (.int k)) S3 := by
      simp [vIt, vCall, vName, aCons, aNil, numbers hk S3, itD_lst, Ev.Res.bind]
    unfold sFor
    rw [hv]
    exact i5
  have ln : (nums (.int k)).length = 12 := rfl
  obtain ⟨al, hal⟩ : ∃ al, al = v1 ++ w1 ++ nums (.int k) ++ [pr "text" d 20, pr "command" d 21, pr "mend" d 17, pr "place" (.int k) 15] := ⟨_, rfl⟩
  have lal : al.length = 32 := by rw [hal]; simp [l1, l3, ln]
  have mal : ∀ e ∈ al, ∃ C fs y, e = .lst [.exi C fs, y] ∧ C ∈ [4, 5, 6, 7, 8, 9, 10, 11, 12, 13, 14, 15, 16, 17, 18, 19, 20, 21] := by
    intro e he
    rw [hal] at he
    rcases List.mem_append.mp he with he | he
    · rcases List.mem_append.mp he with he | he
      · rcases List.mem_append.mp he with he | he
        · obtain ⟨C, hC, rfl⟩ := m1 e he
          exact ⟨_, _, _, rfl, mem_of (by decide) hC⟩
        · obtain ⟨C, hC, rfl⟩ := m3 e he
          exact ⟨_, _, _, rfl, mem_of (by decide) hC⟩
      · rcases List.mem_append.mp he with he | he
        · obtain ⟨C, hC, rfl⟩ := mem_pr he
          exact ⟨_, _, _, rfl, mem_of (by decide) hC⟩
        · obtain ⟨C, hC, rfl⟩ := mem_pr he
          exact ⟨_, _, _, rfl, mem_of (by decide) hC⟩
    · simp only [List.mem_cons, List.not_mem_nil, or_false] at he
      rcases he with rfl | rfl | rfl | rfl <;> exact ⟨_, _, _, rfl, by decide⟩
  have m22 : ∀ e ∈ v2 ++ w2, ∃ C fs y, e = .lst [.exi C fs, y] ∧ C ∈ [22, 23, 24, 25, 26, 27, 28] := by
    intro e he
    rcases List.mem_append.mp he with he | he
    · obtain ⟨C, hC, rfl⟩ := m2 e he
      exact ⟨_, _, _, rfl, mem_of (by decide) hC⟩
    · obtain ⟨C, hC, rfl⟩ := m4 e he
      exact ⟨_, _, _, rfl, mem_of (by decide) hC⟩
  have q11 : sSet 16 (Ev.v2 addD (Ev.v2 addD (Ev.v2 addD (vName 4) (vName 6)) (vCall 1 k__law_numbers (aCons (vName 3) (aNil)))) (vName 8)) [some (.v (.box n)), some (.v d), some (.v (.str x)), some (.v (.int k)), some (.v (.lst v1)), some (.v (.lst v2)), some (.v (.lst w1)), some (.v (.lst w2)), some (.v (.lst [pr "text" d 20, pr "command" d 21, pr "mend" d 17, pr "place" (.int k) 15])), some (.v (.lst [d, d, d, .int k])), some (.v (.exi 29 [("limit", .int k)])), some (.v (.int 3)), some (.v (.lst w2)), some (.v (.str x)), a5, c5, none, none] S3 = .nx [some (.v (.box n)), some (.v d), some (.v (.str x)), some (.v (.int k)), some (.v (.lst v1)), some (.v (.lst v2)), some (.v (.lst w1)), some (.v (.lst w2)), some (.v (.lst [pr "text" d 20, pr "command" d 21, pr "mend" d 17, pr "place" (.int k) 15])), some (.v (.lst [d, d, d, .int k])), some (.v (.exi 29 [("limit", .int k)])), some (.v (.int 3)), some (.v (.lst w2)), some (.v (.str x)), a5, c5, some (.v (.lst al)), none] S3 := by
    simp [sSet, Ev.v2, vCall, vName, aCons, aNil, numbers hk S3, Ev.Res.bind, Ev.Res.toS, l1, l3, ln, sz]
    simp [hal]
  have mall : ∀ e ∈ al ++ v2 ++ w2 ++ [.lst [.exi 29 [("limit", .int k)], .int k]], ∃ C fs y, e = .lst [.exi C fs, y] ∧ C ∈ Cl := by
    intro e he
    rcases List.mem_append.mp he with he | he
    · rw [List.append_assoc] at he
      rcases List.mem_append.mp he with he | he
      · obtain ⟨C, fs, y, rfl, hC⟩ := mal e he
        exact ⟨_, _, _, rfl, mem_of (by decide) hC⟩
      · obtain ⟨C, fs, y, rfl, hC⟩ := m22 e he
        exact ⟨_, _, _, rfl, mem_of (by decide) hC⟩
    · obtain rfl := List.mem_singleton.mp he
      exact ⟨_, _, _, rfl, by decide⟩
  obtain ⟨a6, c6, i6⟩ := loop12 (b0 := some (.v (.box n))) (b1 := some (.v d)) (b2 := some (.v (.str x))) (b3 := some (.v (.int k))) (b4 := some (.v (.lst v1))) (b5 := some (.v (.lst v2))) (b6 := some (.v (.lst w1))) (b7 := some (.v (.lst w2))) (b8 := some (.v (.lst [pr "text" d 20, pr "command" d 21, pr "mend" d 17, pr "place" (.int k) 15]))) (b9' := some (.v (.lst [d, d, d, .int k]))) (b10' := some (.v (.exi 29 [("limit", .int k)]))) (s11 := some (.v (.int 3))) (s12 := some (.v (.lst w2))) (s13 := some (.v (.str x))) (s16 := some (.v (.lst al))) (s17 := none) (S := S3) _ mall a5 c5
  have q12 : sFor (vIt (Ev.v2 addD (Ev.v2 addD (Ev.v2 addD (vName 16) (vName 5)) (vName 7)) (vL mkLst (aCons (vL mkLst (aCons (vName 10) (aCons (vName 3) (aNil)))) (aNil))))) g2 b12 [some (.v (.box n)), some (.v d), some (.v (.str x)), some (.v (.int k)), some (.v (.lst v1)), some (.v (.lst v2)), some (.v (.lst w1)), some (.v (.lst w2)), some (.v (.lst [pr "text" d 20, pr "command" d 21, pr "mend" d 17, pr "place" (.int k) 15])), some (.v (.lst [d, d, d, .int k])), some (.v (.exi 29 [("limit", .int k)])), some (.v (.int 3)), some (.v (.lst w2)), some (.v (.str x)), a5, c5, some (.v (.lst al)), none] S3 = .nx [some (.v (.box n)), some (.v d), some (.v (.str x)), some (.v (.int k)), some (.v (.lst v1)), some (.v (.lst v2)), some (.v (.lst w1)), some (.v (.lst w2)), some (.v (.lst [pr "text" d 20, pr "command" d 21, pr "mend" d 17, pr "place" (.int k) 15])), some (.v (.lst [d, d, d, .int k])), some (.v (.exi 29 [("limit", .int k)])), some (.v (.int 3)), some (.v (.lst w2)), some (.v (.str x)), a6, c6, some (.v (.lst al)), none] S3 := by
    have hv : vIt (Ev.v2 addD (Ev.v2 addD (Ev.v2 addD (vName 16) (vName 5)) (vName 7)) (vL mkLst (aCons (vL mkLst (aCons (vName 10) (aCons (vName 3) (aNil)))) (aNil)))) [some (.v (.box n)), some (.v d), some (.v (.str x)), some (.v (.int k)), some (.v (.lst v1)), some (.v (.lst v2)), some (.v (.lst w1)), some (.v (.lst w2)), some (.v (.lst [pr "text" d 20, pr "command" d 21, pr "mend" d 17, pr "place" (.int k) 15])), some (.v (.lst [d, d, d, .int k])), some (.v (.exi 29 [("limit", .int k)])), some (.v (.int 3)), some (.v (.lst w2)), some (.v (.str x)), a5, c5, some (.v (.lst al)), none] S3 = .ok (al ++ v2 ++ w2 ++ [.lst [.exi 29 [("limit", .int k)], .int k]]) S3 := by
      simp [vIt, Ev.v2, vL, vName, aCons, aNil, mkLst, sz, itD_lst, Ev.Res.bind, lal, l2, l4]
    unfold sFor
    rw [hv]
    exact i6
  obtain ⟨a7, c7, i7⟩ := loop13 (b0 := some (.v (.box n))) (b1 := some (.v d)) (b2 := some (.v (.str x))) (b3 := some (.v (.int k))) (b4 := some (.v (.lst v1))) (b5 := some (.v (.lst v2))) (b6 := some (.v (.lst w1))) (b7 := some (.v (.lst w2))) (b8 := some (.v (.lst [pr "text" d 20, pr "command" d 21, pr "mend" d 17, pr "place" (.int k) 15]))) (b9' := some (.v (.lst [d, d, d, .int k]))) (b10' := some (.v (.exi 29 [("limit", .int k)]))) (s11 := some (.v (.int 3))) (s12 := some (.v (.lst w2))) (s13 := some (.v (.str x))) (s16 := some (.v (.lst al))) (s17 := none) (S := S3) _ mal a6 c6
  have q13 : sFor (vIt (vName 16)) g2 b13 [some (.v (.box n)), some (.v d), some (.v (.str x)), some (.v (.int k)), some (.v (.lst v1)), some (.v (.lst v2)), some (.v (.lst w1)), some (.v (.lst w2)), some (.v (.lst [pr "text" d 20, pr "command" d 21, pr "mend" d 17, pr "place" (.int k) 15])), some (.v (.lst [d, d, d, .int k])), some (.v (.exi 29 [("limit", .int k)])), some (.v (.int 3)), some (.v (.lst w2)), some (.v (.str x)), a6, c6, some (.v (.lst al)), none] S3 = .nx [some (.v (.box n)), some (.v d), some (.v (.str x)), some (.v (.int k)), some (.v (.lst v1)), some (.v (.lst v2)), some (.v (.lst w1)), some (.v (.lst w2)), some (.v (.lst [pr "text" d 20, pr "command" d 21, pr "mend" d 17, pr "place" (.int k) 15])), some (.v (.lst [d, d, d, .int k])), some (.v (.exi 29 [("limit", .int k)])), some (.v (.int 3)), some (.v (.lst w2)), some (.v (.str x)), a7, c7, some (.v (.lst al)), none] S3 := by
    have hv : vIt (vName 16) [some (.v (.box n)), some (.v d), some (.v (.str x)), some (.v (.int k)), some (.v (.lst v1)), some (.v (.lst v2)), some (.v (.lst w1)), some (.v (.lst w2)), some (.v (.lst [pr "text" d 20, pr "command" d 21, pr "mend" d 17, pr "place" (.int k) 15])), some (.v (.lst [d, d, d, .int k])), some (.v (.exi 29 [("limit", .int k)])), some (.v (.int 3)), some (.v (.lst w2)), some (.v (.str x)), a6, c6, some (.v (.lst al)), none] S3 = .ok al S3 := by simp [vIt, vName, itD_lst, Ev.Res.bind]
    unfold sFor
    rw [hv]
    exact i7
  obtain ⟨a8, c8, i8⟩ := loop14 (b0 := some (.v (.box n))) (b1 := some (.v d)) (b2 := some (.v (.str x))) (b3 := some (.v (.int k))) (b4 := some (.v (.lst v1))) (b5 := some (.v (.lst v2))) (b6 := some (.v (.lst w1))) (b7 := some (.v (.lst w2))) (b8 := some (.v (.lst [pr "text" d 20, pr "command" d 21, pr "mend" d 17, pr "place" (.int k) 15]))) (b9' := some (.v (.lst [d, d, d, .int k]))) (b10' := some (.v (.exi 29 [("limit", .int k)]))) (s11 := some (.v (.int 3))) (s12 := some (.v (.lst w2))) (s13 := some (.v (.str x))) (s16 := some (.v (.lst al))) (s17 := none) (S := S3) _ m22 a7 c7
  have q14 : sFor (vIt (Ev.v2 addD (vName 5) (vName 7))) g2 b14 [some (.v (.box n)), some (.v d), some (.v (.str x)), some (.v (.int k)), some (.v (.lst v1)), some (.v (.lst v2)), some (.v (.lst w1)), some (.v (.lst w2)), some (.v (.lst [pr "text" d 20, pr "command" d 21, pr "mend" d 17, pr "place" (.int k) 15])), some (.v (.lst [d, d, d, .int k])), some (.v (.exi 29 [("limit", .int k)])), some (.v (.int 3)), some (.v (.lst w2)), some (.v (.str x)), a7, c7, some (.v (.lst al)), none] S3 = .nx [some (.v (.box n)), some (.v d), some (.v (.str x)), some (.v (.int k)), some (.v (.lst v1)), some (.v (.lst v2)), some (.v (.lst w1)), some (.v (.lst w2)), some (.v (.lst [pr "text" d 20, pr "command" d 21, pr "mend" d 17, pr "place" (.int k) 15])), some (.v (.lst [d, d, d, .int k])), some (.v (.exi 29 [("limit", .int k)])), some (.v (.int 3)), some (.v (.lst w2)), some (.v (.str x)), a8, c8, some (.v (.lst al)), none] S3 := by
    have hv : vIt (Ev.v2 addD (vName 5) (vName 7)) [some (.v (.box n)), some (.v d), some (.v (.str x)), some (.v (.int k)), some (.v (.lst v1)), some (.v (.lst v2)), some (.v (.lst w1)), some (.v (.lst w2)), some (.v (.lst [pr "text" d 20, pr "command" d 21, pr "mend" d 17, pr "place" (.int k) 15])), some (.v (.lst [d, d, d, .int k])), some (.v (.exi 29 [("limit", .int k)])), some (.v (.int 3)), some (.v (.lst w2)), some (.v (.str x)), a7, c7, some (.v (.lst al)), none] S3 = .ok (v2 ++ w2) S3 := by simp [vIt, Ev.v2, vName, itD_lst, Ev.Res.bind, l2, l4, sz]
    unfold sFor
    rw [hv]
    exact i8
  have q15 : sIf (bOr (bNot (vT (Ev.v1 (isD (tabL t_is_OverflowError)) (vName 10)))) (vT (Ev.v1 (isD (tabL t_is_ValueError_LookupError)) (vName 10)))) (sRet (vC (.bl false))) (sNil) [some (.v (.box n)), some (.v d), some (.v (.str x)), some (.v (.int k)), some (.v (.lst v1)), some (.v (.lst v2)), some (.v (.lst w1)), some (.v (.lst w2)), some (.v (.lst [pr "text" d 20, pr "command" d 21, pr "mend" d 17, pr "place" (.int k) 15])), some (.v (.lst [d, d, d, .int k])), some (.v (.exi 29 [("limit", .int k)])), some (.v (.int 3)), some (.v (.lst w2)), some (.v (.str x)), a8, c8, some (.v (.lst al)), none] S3 = .nx [some (.v (.box n)), some (.v d), some (.v (.str x)), some (.v (.int k)), some (.v (.lst v1)), some (.v (.lst v2)), some (.v (.lst w1)), some (.v (.lst w2)), some (.v (.lst [pr "text" d 20, pr "command" d 21, pr "mend" d 17, pr "place" (.int k) 15])), some (.v (.lst [d, d, d, .int k])), some (.v (.exi 29 [("limit", .int k)])), some (.v (.int 3)), some (.v (.lst w2)), some (.v (.str x)), a8, c8, some (.v (.lst al)), none] S3 := by
    have h1 : isD (tabL t_is_OverflowError) (.exi 29 [("limit", .int k)]) S3 = .ok (.bl true) S3 := rfl
    have h2 : isD (tabL t_is_ValueError_LookupError) (.exi 29 [("limit", .int k)]) S3 = .ok (.bl false) S3 := rfl
    simp [sIf, bOr, bNot, vT, Ev.v1, vName, h1, h2, sNil, Ev.Res.bind, Ev.Res.toS]
  have q16 : sIf (vB (Ev.v2 neD (Ev.v1 (xfldD [29] "limit") (vName 10)) (vName 3))) (sRet (vC (.bl false))) (sNil) [some (.v (.box n)), some (.v d), some (.v (.str x)), some (.v (.int k)), some (.v (.lst v1)), some (.v (.lst v2)), some (.v (.lst w1)), some (.v (.lst w2)), some (.v (.lst [pr "text" d 20, pr "command" d 21, pr "mend" d 17, pr "place" (.int k) 15])), some (.v (.lst [d, d, d, .int k])), some (.v (.exi 29 [("limit", .int k)])), some (.v (.int 3)), some (.v (.lst w2)), some (.v (.str x)), a8, c8, some (.v (.lst al)), none] S3 = .nx [some (.v (.box n)), some (.v d), some (.v (.str x)), some (.v (.int k)), some (.v (.lst v1)), some (.v (.lst v2)), some (.v (.lst w1)), some (.v (.lst w2)), some (.v (.lst [pr "text" d 20, pr "command" d 21, pr "mend" d 17, pr "place" (.int k) 15])), some (.v (.lst [d, d, d, .int k])), some (.v (.exi 29 [("limit", .int k)])), some (.v (.int 3)), some (.v (.lst w2)), some (.v (.str x)), a8, c8, some (.v (.lst al)), none] S3 := by
    simp [sIf, vB, Ev.v2, Ev.v1, vName, xfldD, sNil, Ev.Res.bind, Ev.Res.toS]
  have q17 : sRet (Ev.v2 eqD (vCall 1 k__law_raised (aCons (vName 2) (aNil))) (vName 2)) [some (.v (.box n)), some (.v d), some (.v (.str x)), some (.v (.int k)), some (.v (.lst v1)), some (.v (.lst v2)), some (.v (.lst w1)), some (.v (.lst w2)), some (.v (.lst [pr "text" d 20, pr "command" d 21, pr "mend" d 17, pr "place" (.int k) 15])), some (.v (.lst [d, d, d, .int k])), some (.v (.exi 29 [("limit", .int k)])), some (.v (.int 3)), some (.v (.lst w2)), some (.v (.str x)), a8, c8, some (.v (.lst al)), none] S3 = .ret (.bl true) S3 := by
    simp [sRet, Ev.v2, vCall, vName, aCons, aNil, raised hx S3, hx.ok, Ev.Res.bind, Ev.Res.toS]
  have z : g__law_case (startE N__law_case [.box n]) S = .ret (.bl true) S3 :=
    seq_nx q0 (seq_nx q1 (seq_nx q2 (seq_nx q3 ((q45 _).trans ((q67 _).trans (seq_nx q8 (seq_nx q9 (seq_nx q10 (seq_nx q11 (seq_nx q12 (seq_nx q13 (seq_nx q14 (seq_nx q15 (seq_nx q16 q17))))))))))))))
  unfold k__law_case
  rw [z]
  rfl
theorem source {ns : List Int} {i : Int} {S : Sto} (h0 : 0 ≤ i) (h1 : i < 16) : ∃ S', k__law_source [.fro (ns.map D.int), .int i] S = .ok (.box S.length) S' ∧ Src S' S.length 0 := by
  have hp : CPow 10 18 := ⟨by decide, by decide, by decide⟩
  have hm : CMul 6367 i := .inl ⟨by decide, by decide⟩
  have hpc : ∀ c : Int, ∃ a : Int, (vIf (vB (v2 geD (vL (arg1 absD) (aCons (vName 2) (aNil))) (v2 powD (vC (.int 10)) (vC (.int 18))))) (vL (arg1 absD) (aCons (vName 2) (aNil))) (vC (.int 0))) [some (.v (.fro (ns.map D.int))), some (.v (.int i)), some (.v (.int c)), none] S = .ok (.int a) S := fun c => by
    by_cases hc : (10 : Int) ^ (18 : Int).toNat ≤ (if c < 0 then -c else c)
    · exact ⟨(if c < 0 then -c else c), by simp [vIf, vB, v2, vL, vName, vC, aCons, aNil, hp, hc, Ev.Res.bind, -Int.reducePow, -Int.reduceToNat]⟩
    · exact ⟨0, by simp [vIf, vB, v2, vL, vName, vC, aCons, aNil, hp, hc, Ev.Res.bind, -Int.reducePow, -Int.reduceToNat]⟩
  have key : ∀ c : Int, (vIf (vB (v2 ltD (vName 1) (vL (arg1 lenD) (aCons (vName 0) (aNil))))) (v2 ixD (vName 0) (vName 1)) (vC (.int 0))) [some (.v (.fro (ns.map D.int))), some (.v (.int i)), none, none] S = .ok (.int c) S → ∃ S', k__law_source [.fro (ns.map D.int), .int i] S = .ok (.box S.length) S' ∧ Src S' S.length 0 := fun c hc => by
    obtain ⟨a, ha⟩ := hpc c
    have b0 := Int.emod_nonneg c (b := 2147483587) (by decide)
    have b1 := Int.emod_lt_of_pos c (b := 2147483587) (by decide)
    refine ⟨S ++ [some (.lst [.int a, .int (c % 2147483587 + 6367 * i + 811), .int 0])], ?_, a, _, 0, getL_push _ _, by omega, by omega, by omega, by omega⟩
    show fnRes (g__law_source [some (.v (.fro (ns.map D.int))), some (.v (.int i)), none, none] S) = _
    unfold g__law_source
    have q1 : sSet 2 (vIf (vB (v2 ltD (vName 1) (vL (arg1 lenD) (aCons (vName 0) (aNil))))) (v2 ixD (vName 0) (vName 1)) (vC (.int 0))) [some (.v (.fro (ns.map D.int))), some (.v (.int i)), none, none] S = .nx [some (.v (.fro (ns.map D.int))), some (.v (.int i)), some (.v (.int c)), none] S := by
      unfold sSet
      rw [hc]
      rfl
    have q2 : sSet 3 (vIf (vB (v2 geD (vL (arg1 absD) (aCons (vName 2) (aNil))) (v2 powD (vC (.int 10)) (vC (.int 18))))) (vL (arg1 absD) (aCons (vName 2) (aNil))) (vC (.int 0))) [some (.v (.fro (ns.map D.int))), some (.v (.int i)), some (.v (.int c)), none] S = .nx [some (.v (.fro (ns.map D.int))), some (.v (.int i)), some (.v (.int c)), some (.v (.int a))] S := by
      unfold sSet
      rw [ha]
      rfl
    rw [seq_nx q1 (seq_nx q2 rfl)]
    simp [sRet, vL, v2, vName, vC, aCons, aNil, mkBox, hm, sz, Ev.Res.bind, Ev.Res.toS]
  by_cases hi : i < ns.length
  · obtain ⟨e, he, hm⟩ := atI_in (l := ns.map D.int) h0 (by simpa using hi)
    obtain ⟨c, _, rfl⟩ := List.mem_map.mp hm
    refine key c ?_
    simp [vIf, vB, v2, vL, vName, vC, aCons, aNil, hi, he, Ev.Res.bind]
  · refine key 0 ?_
    simp [vIf, vB, v2, vL, vName, vC, aCons, aNil, hi, Ev.Res.bind]
theorem law {ns : List Int} (hn : ns.length ≤ 1000000) : ∃ S', k_law [.fro (ns.map D.int)] [] = .ok (.bl true) S' := by
  let I : Nat → Ev.Env → Sto → Prop := fun j ρ S => ∃ u, ρ = [some (.v (.fro (ns.map D.int))), u]
  let N : Int := if (1 : Int) < (if (ns.length : Int) < 16 then (ns.length : Int) else 16) then (if (ns.length : Int) < 16 then (ns.length : Int) else 16) else 1
  have hN0 : 0 ≤ N ∧ N ≤ 16 := by simp only [N]; split <;> split <;> omega
  obtain ⟨ρ', S', e3, u, rfl⟩ := forM_ind (g := tgN 1) (b := sIf (bNot (vT (vCall 1 k__law_case (aCons (vCall 2 k__law_source (aCons (vName 0) (aCons (vName 1) (aNil)))) (aNil))))) (sRet (vC (.bl false))) (sNil)) I 16 (rngL 0 N.toNat) (fun j d ρ S hd hj hI => by
    obtain ⟨u, rfl⟩ := hI
    obtain ⟨i, hi, rfl⟩ := List.mem_map.mp hd
    have hi := List.mem_range.mp hi
    obtain ⟨S1, e1, s1⟩ := source (ns := ns) (i := 0 + (i : Int)) (S := S) (by omega) (by omega)
    obtain ⟨S2, e2⟩ := case_ s1 (by omega)
    refine ⟨_, [some (.v (.fro (ns.map D.int))), some (.v (.int (0 + (i : Int))))], S2, rfl, ?_, _, rfl⟩
    simp only [Int.zero_add] at e1
    simp [sIf, bNot, vT, vCall, vName, aCons, aNil, e1, e2, sNil, Ev.Res.bind, Ev.Res.toS]) 0 [some (.v (.fro (ns.map D.int))), none] [] (by simp [rngL]; omega) ⟨none, rfl⟩
  refine ⟨S', ?_⟩
  show fnRes (g_law [some (.v (.fro (ns.map D.int))), none] []) = _
  unfold g_law
  have hN : vL maxD (aCons (vC (.int 1)) (aCons (vL minD (aCons (vC (.int 16)) (aCons (vL (arg1 lenD) (aCons (vName 0) aNil)) aNil))) aNil)) [some (.v (.fro (ns.map D.int))), none] [] = .ok (.int N) [] := by
    simp [vL, vC, vName, aCons, aNil, maxD, minD, Ev.Res.bind, N]
  have hr : vLI rng1 (aCons (vL maxD (aCons (vC (.int 1)) (aCons (vL minD (aCons (vC (.int 16)) (aCons (vL (arg1 lenD) (aCons (vName 0) aNil)) aNil))) aNil))) aNil) [some (.v (.fro (ns.map D.int))), none] [] = .ok (rngL 0 N.toNat) [] := by
    have hs : smallI N = true := decide_eq_true ⟨by omega, by omega⟩
    have oa : ∀ {f : Ev.Env → Sto → Res D} {ρ : Ev.Env} {S : Sto} {d : D}, f ρ S = .ok d S → aCons f aNil ρ S = .ok [d] S := fun h => by simp [aCons, aNil, h, Ev.Res.bind]
    unfold vLI
    rw [oa hN]
    simp [rng1, D.int?, hs, Ev.Res.bind]
  refine (congrArg fnRes (seq_nx (R := .ret (.bl true) S') (ρ1 := [some (.v (.fro (ns.map D.int))), u]) (S1 := S') ?_ rfl)).trans rfl
  unfold sFor
  rw [hr]
  exact e3
theorem plain (ns : List Int) (h : ns.length ≤ 63) (_ : ∀ z ∈ ns, Builtin.Int.intBits z ≤ 1048576) : ∃ S, k_law [.fro (ns.map D.int)] [] = .ok (.bl true) S := law (by omega)
end K69

set_option Elab.async false
set_option linter.all false
set_option maxRecDepth 100000
set_option maxHeartbeats 0
namespace K69
section
open PySem PySem.Spec L2 Ev
open PyProof.Rows hiding St
variable {P : Program} {w : World} {K : PySem.W.Frag} {mg : Str → Option Value} {base : Heap}
theorem R_law (Z : Zs K mg) : FrE P w K mg base (CX P w) L_law (He.ga K "law") (spEv K 1 k_law) := by
  obtain ⟨fd, F⟩ := Z.d_law
  have b : Binds K fd ["_law_script"] [] := F.bindsN fun _ _ _ _ _ _ us hl => match us, hl with | [_], _ => rfl
  exact (def_ok F sc_law (b_law Z)).pos b fun vs H Q E ⟨S, m, F, ds, rs, r, hl, p⟩ => r.length.symm.trans hl
end
end K69
open PySem PySem.W PySem.Calls PyProof.Rows
theorem PySem.Challenge.cw_indentholes_k69_errors_by_hand_holds : PySem.Challenge.rw_indentholes_k69_errors_by_hand.Holds := by
  w_on; o_law
  refine HandSHeadRun.head_any (r := OpenLaw.row PySem.Challenge.rw_indentholes_k69_errors_by_hand) (q := K69.qv) (H := K69.hk) (ob := K69.ob) (M := 20000) (loose := K69.names) (d := HandSHeadRun.topDef (OpenLaw.row PySem.Challenge.rw_indentholes_k69_errors_by_hand).prog 40) (kwd := []) K69.ob_eq
    (by kernel_rfl) (fun s => by kernel_rfl) K69.run (by kernel_rfl) (by kernel_rfl) (by kernel_rfl) (by rfl) (by first | assumption | decide +kernel) (by decide +kernel) ⟨rfl, rfl, rfl, rfl, rfl, by decide +kernel⟩ ?hw ?hc
  case hw => w_witness2
  case hc =>
    refine Ev.walk_ev (l := PySem.Challenge.rw_indentholes_k69_errors_by_hand) (n := 63) (k := K69.L_law) (kf := K69.k_law) rfl (by decide) (by kernel_rfl) ⟨rfl, by decide, by decide⟩ ?F ?P
    case F =>
      intro w mg fa h Y G hmg0
      obtain ⟨K, KX, c⟩ := Y
      have hmg : mg ("law" : PySem.Str) = some (.ref fa) := by
        have e : (HandSHeadRun.topDef (OpenLaw.row PySem.Challenge.rw_indentholes_k69_errors_by_hand).prog 40).name = ("law" : PySem.Str) := by kernel_rfl
        rw [← e]
        exact hmg0
      have Z := K69.zs_of KX G c
      have e := hmg.symm.trans Z.g_law
      cases e
      exact ⟨K, KX, fun base => K69.R_law Z⟩
    case P => exact K69.plain
