import PyProof.Rows.All
import Wide.All
import OpenK.AllK
import Wide.FinOn
import KE.LcTurns
import PySem.Challenge.RW_xm0599_01
set_option Elab.async false
set_option linter.all false
set_option maxRecDepth 100000
set_option maxHeartbeats 4000000
set_option backward.match.sparseCases false
open PySem PySem.W PySem.Calls PyProof.Rows
namespace Xm

/-! Partial heaps: F frozen, O owned by the callers, led what this frame owns. -/
noncomputable abbrev PH := Addr → Option Obj
noncomputable abbrev Led := List (Addr × Obj)
noncomputable def Le (F F' : PH) : Prop := ∀ a o, F a = some o → F' a = some o
noncomputable def put (F : PH) (a : Addr) (o : Obj) : PH := fun b => if b = a then some o else F b
theorem Le.refl (F : PH) : Le F F := fun _ _ e => e
theorem Le.trans {F G H : PH} (x : Le F G) (y : Le G H) : Le F H := fun a o e => y a o (x a o e)
theorem Le.put {F : PH} {a : Addr} {o : Obj} (h : F a = none) : Le F (put F a o) := fun b o' e => by
  unfold Xm.put
  by_cases hb : b = a
  · subst hb; rw [h] at e; cases e
  · rw [if_neg hb]; exact e
theorem put_self {F : PH} {a : Addr} {o : Obj} : put F a o a = some o := if_pos rfl
theorem put_ne {F : PH} {a b : Addr} {o : Obj} (h : b ≠ a) : put F a o b = F b := if_neg h

structure LSt (F O : PH) (led : Led) (h : Heap) : Prop where
  fz : ∀ a o, F a = some o → h.get? a = some o
  ow : ∀ a o, O a = some o → h.get? a = some o ∧ F a = none
  ld : ∀ p ∈ led, h.get? p.1 = some p.2 ∧ F p.1 = none ∧ O p.1 = none

noncomputable def setAt (a : Addr) (o : Obj) (led : Led) : Led := led.map fun p => if p.1 = a then (a, o) else p
theorem mem_setAt_self {a : Addr} {o o' : Obj} {led : Led} (h : (a, o') ∈ led) : (a, o) ∈ setAt a o led :=
  List.mem_map.mpr ⟨_, h, if_pos rfl⟩
theorem mem_setAt_ne {a : Addr} {o : Obj} {p : Addr × Obj} {led : Led} (h : p ∈ led) (n : p.1 ≠ a) : p ∈ setAt a o led :=
  List.mem_map.mpr ⟨_, h, if_neg n⟩
theorem of_mem_setAt {a : Addr} {o : Obj} {p : Addr × Obj} {led : Led} (h : p ∈ setAt a o led) : p = (a, o) ∨ (p ∈ led ∧ p.1 ≠ a) := by
  obtain ⟨q, hq, e⟩ := List.mem_map.mp h
  by_cases c : q.1 = a
  · rw [if_pos c] at e; exact .inl e.symm
  · rw [if_neg c] at e; subst e; exact .inr ⟨hq, c⟩

section
variable {F O : PH} {led : Led} {h h' : Heap} {a : Addr} {o : Obj}
theorem LSt.freshF (S : LSt F O led h) : F h.objs.size = none := by
  cases e : F h.objs.size with
  | none => rfl
  | some o => exact absurd (Heap.lt_size (S.fz _ _ e)) (Nat.lt_irrefl _)
theorem LSt.freshO (S : LSt F O led h) : O h.objs.size = none := by
  cases e : O h.objs.size with
  | none => rfl
  | some o => exact absurd (Heap.lt_size (S.ow _ _ e).1) (Nat.lt_irrefl _)
theorem LSt.freshL (S : LSt F O led h) : ∀ p ∈ led, p.1 ≠ h.objs.size := fun p hp e => by
  have := Heap.lt_size (S.ld p hp).1
  rw [e] at this; exact Nat.lt_irrefl _ this
theorem LSt.pushF (S : LSt F O led h) (o : Obj) (hf : o.isFreed = false := by rfl) : LSt (put F h.objs.size o) O led (h.push o) := by
  have f := S.freshF
  refine ⟨fun b o' e => ?_, fun b o' e => ?_, fun p hp => ?_⟩
  · by_cases hb : b = h.objs.size
    · subst hb; rw [put_self] at e; cases e; exact Heap.get?_push_size _ hf
    · rw [put_ne hb] at e; exact Heap.get?_push_of_some _ (S.fz _ _ e)
  · have q := S.ow b o' e
    refine ⟨Heap.get?_push_of_some _ q.1, ?_⟩
    rw [put_ne (Nat.ne_of_lt (Heap.lt_size q.1))]; exact q.2
  · have q := S.ld p hp
    refine ⟨Heap.get?_push_of_some _ q.1, ?_, q.2.2⟩
    rw [put_ne (S.freshL p hp)]; exact q.2.1
theorem LSt.pushL (S : LSt F O led h) (o : Obj) (hf : o.isFreed = false := by rfl) : LSt F O ((h.objs.size, o) :: led) (h.push o) := by
  refine ⟨fun b o' e => Heap.get?_push_of_some _ (S.fz _ _ e), fun b o' e => ⟨Heap.get?_push_of_some _ (S.ow b o' e).1, (S.ow b o' e).2⟩, fun p hp => ?_⟩
  rcases List.mem_cons.mp hp with rfl | hp
  · exact ⟨Heap.get?_push_size _ hf, S.freshF, S.freshO⟩
  · exact ⟨Heap.get?_push_of_some _ (S.ld p hp).1, (S.ld p hp).2⟩
theorem LSt.push (S : LSt F O led h) (o : Obj) : LSt F O led (h.push o) :=
  ⟨fun b o' e => Heap.get?_push_of_some _ (S.fz _ _ e), fun b o' e => ⟨Heap.get?_push_of_some _ (S.ow b o' e).1, (S.ow b o' e).2⟩,
   fun p hp => ⟨Heap.get?_push_of_some _ (S.ld p hp).1, (S.ld p hp).2⟩⟩
theorem LSt.sub {led' : Led} (S : LSt F O led h) (hs : ∀ p ∈ led', p ∈ led) : LSt F O led' h := ⟨S.fz, S.ow, fun p hp => S.ld p (hs p hp)⟩
/-- the heap grew -/
theorem LSt.keeps (S : LSt F O led h) (k : ∀ b o, h.get? b = some o → h'.get? b = some o) : LSt F O led h' :=
  ⟨fun b o e => k _ _ (S.fz _ _ e), fun b o e => ⟨k _ _ (S.ow b o e).1, (S.ow b o e).2⟩, fun p hp => ⟨k _ _ (S.ld p hp).1, (S.ld p hp).2⟩⟩
/-- one owned object has changed, all else is kept -/
theorem LSt.updBut (S : LSt F O led h) {o' : Obj} (hm : (a, o) ∈ led) (k : ∀ b x, b ≠ a → h.get? b = some x → h'.get? b = some x) (e : h'.get? a = some o') : LSt F O (setAt a o' led) h' := by
  have q := S.ld _ hm
  refine ⟨fun b x ex => k b x (fun hb => ?_) (S.fz _ _ ex), fun b x ex => ⟨k b x (fun hb => ?_) (S.ow b x ex).1, (S.ow b x ex).2⟩, fun p hp => ?_⟩
  · subst hb; rw [q.2.1] at ex; cases ex
  · subst hb; rw [q.2.2] at ex; cases ex
  · rcases of_mem_setAt hp with rfl | ⟨hp, hn⟩
    · exact ⟨e, q.2⟩
    · exact ⟨k _ _ hn (S.ld p hp).1, (S.ld p hp).2⟩
theorem LSt.upd (S : LSt F O led h) {f : Obj → Obj} (hm : (a, o) ∈ led) (hf : (f o).isFreed = false) : LSt F O (setAt a (f o) led) (h.update a f) :=
  S.updBut hm (fun _ _ hb e => (Heap.get?_update_ne _ _ _ _ hb).trans e) (Heap.get?_update_self _ (S.ld _ hm).1 hf)
theorem LSt.setAt (S : LSt F O led h) {o' : Obj} (hm : (a, o) ∈ led) (hs : Heap.SameBut a h h') (e : h'.get? a = some o') : LSt F O (setAt a o' led) h' :=
  S.updBut hm (fun b _ hb x => (hs.2 b hb).trans x) e
/-- freezing: what the frame owned stands from now on -/
theorem LSt.freeze (S : LSt F O led h) (hm : (a, o) ∈ led) {led' : Led} (hs : ∀ p ∈ led', p ∈ led ∧ p.1 ≠ a) : LSt (put F a o) O led' h := by
  have q := S.ld _ hm
  refine ⟨fun b x e => ?_, fun b x e => ⟨(S.ow b x e).1, ?_⟩, fun p hp => ?_⟩
  · by_cases hb : b = a
    · subst hb; rw [put_self] at e; cases e; exact q.1
    · rw [put_ne hb] at e; exact S.fz _ _ e
  · rw [put_ne (fun hb => by subst hb; rw [q.2.2] at e; cases e)]; exact (S.ow b x e).2
  · have z := S.ld p (hs p hp).1
    exact ⟨z.1, by rw [put_ne (hs p hp).2]; exact z.2.1, z.2.2⟩
/-- handing part of the ledger over to the outer owned part -/
noncomputable def ovr (O : PH) (fr : Led) : PH := fun b => match fr.find? (fun p => p.1 == b) with | some p => some p.2 | none => O b
theorem ovr_mem {O : PH} {fr : Led} {b : Addr} {o : Obj} (e : ovr O fr b = some o) : (b, o) ∈ fr ∨ O b = some o := by
  unfold ovr at e
  cases q : fr.find? (fun p => p.1 == b) with
  | none => rw [q] at e; exact .inr e
  | some p =>
    rw [q] at e
    cases e
    have h1 := List.mem_of_find?_eq_some q
    have h2 := List.find?_some q
    have h3 : p.1 = b := by simpa using h2
    subst h3; exact .inl h1
theorem ovr_in {O : PH} {fr : Led} {p : Addr × Obj} (h : p ∈ fr) : ∃ o, ovr O fr p.1 = some o ∧ (p.1, o) ∈ fr := by
  unfold ovr
  cases q : fr.find? (fun x => x.1 == p.1) with
  | none => exact absurd (List.find?_eq_none.mp q p h) (by simp)
  | some x =>
    have h2 := List.find?_some q
    have h3 : x.1 = p.1 := by simpa using h2
    exact ⟨x.2, rfl, by rw [← h3]; exact List.mem_of_find?_eq_some q⟩
theorem ovr_old {O : PH} {fr : Led} {b : Addr} (h : ∀ p ∈ fr, p.1 ≠ b) : ovr O fr b = O b := by
  unfold ovr
  rw [List.find?_eq_none.mpr fun p hp => by simpa using h p hp]
theorem LSt.toO {fr : Led} (S : LSt F O led h) (hs : ∀ p ∈ fr, p ∈ led) {led' : Led} (hs' : ∀ p ∈ led', p ∈ led ∧ ∀ q ∈ fr, q.1 ≠ p.1) : LSt F (ovr O fr) led' h := by
  refine ⟨S.fz, fun b o e => ?_, fun p hp => ?_⟩
  · rcases ovr_mem e with hm | e
    · have z := S.ld _ (hs _ hm); exact ⟨z.1, z.2.1⟩
    · exact S.ow _ _ e
  · have z := S.ld p (hs' p hp).1
    exact ⟨z.1, z.2.1, by rw [ovr_old fun q hq => (hs' p hp).2 q hq]; exact z.2.2⟩
theorem LSt.fromO {fr : Led} (S : LSt F (ovr O fr) led h) (hO : ∀ p ∈ fr, O p.1 = none) (hf : ∀ p ∈ fr, ∀ q ∈ fr, p.1 = q.1 → p = q) : LSt F O (fr ++ led) h := by
  have keyO : ∀ b o, O b = some o → ovr O fr b = some o := fun b o e => by
    rw [ovr_old fun p hp hb => ?_]; · exact e
    have := hO p hp; rw [hb, e] at this; cases this
  refine ⟨S.fz, fun b o e => S.ow b o (keyO b o e), fun p hp => ?_⟩
  rcases List.mem_append.mp hp with hp | hp
  · obtain ⟨o, e, hm⟩ := ovr_in (O := O) hp
    have z := S.ow _ _ e
    have : (p.1, o) = p := hf _ hm _ hp rfl
    have e2 : o = p.2 := congrArg Prod.snd this
    exact ⟨e2 ▸ z.1, z.2, hO p hp⟩
  · have z := S.ld p hp
    refine ⟨z.1, z.2.1, ?_⟩
    cases q : O p.1 with
    | none => rfl
    | some o => have := keyO _ _ q; rw [z.2.2] at this; cases this
end

/-! The judgement: a tree comes to an end, never by an exception. -/
section
variable {prog : Program} {w : World}
noncomputable def Ev {α : Type} (prog : Program) (w : World) (A : Around) (O : PH) (t : Sem α) (F : PH) (led : Led) (P : α → PH → Led → Prop) : Prop :=
  ∀ (s : Shared) (Q : α → Shared → Prop) (E : Value → Shared → Prop), LSt F O led s.heap →
    (∀ a F' led' h' tk', P a F' led' → LSt F' O led' h' → Q a { s with heap := h', toks := tk' }) → wpAny (model prog w) A t Q E s

variable {α β : Type} {A : Around} {O F : PH} {led : Led} {P : α → PH → Led → Prop}
theorem Ev.pure {a : α} (h : P a F led) : Ev prog w A O (Pure.pure a) F led P := fun s Q E S k => wpAny_pure (k a F led s.heap s.toks h S)
theorem Ev.mono {t : Sem α} {P' : α → PH → Led → Prop} (x : Ev prog w A O t F led P) (h : ∀ a F' led', P a F' led' → P' a F' led') : Ev prog w A O t F led P' :=
  fun s Q E S k => x s Q E S fun a F' led' h' tk' p S' => k a F' led' h' tk' (h _ _ _ p) S'
theorem Ev.bind {m : Sem α} {f : α → Sem β} {R : β → PH → Led → Prop} (x : Ev prog w A O m F led P) (y : ∀ a F' led', P a F' led' → Ev prog w A O (f a) F' led' R) : Ev prog w A O (m >>= f) F led R :=
  fun s Q E S k => wpAny_bind (x s _ E S fun a F' led' h' tk' p S' => y a F' led' p { s with heap := h', toks := tk' } Q E S' fun b F2 led2 h2 tk2 r S2 => k b F2 led2 h2 tk2 r S2)
theorem Ev.holding {vs : List Value} {t : Sem α} (x : Ev prog w A O t F led P) : Ev prog w A O (holding vs t) F led P := fun s Q E S k => wpAny_holding (x s Q E S k)
theorem Ev.onRaise {t : Sem α} {r : Value → Sem Unit} (x : Ev prog w A O t F led P) : Ev prog w A O (t.onRaise r) F led P := fun s Q E S k => wpAny_onRaise (x s Q _ S k)
theorem Ev.standAt {pos : Pos} {P : Unit → PH → Led → Prop} (h : P () F led) : Ev prog w A O (standAt pos) F led P := fun s Q E S k => wpAny_standAt (k () F led s.heap s.toks h S)
theorem Ev.point {P : Unit → PH → Led → Prop} (h : P () F led) : Ev prog w A O point F led P := fun s Q E S k => wpAny_point (k () F led s.heap s.toks h S)
theorem Ev.rule {tag : String} {P : Unit → PH → Led → Prop} (h : P () F led) : Ev prog w A O (rule tag) F led P := fun s Q E S k => wpAny_rule (k () F led s.heap s.toks h S)
theorem Ev.eq {t t' : Sem α} (e : t = t') (x : Ev prog w A O t' F led P) : Ev prog w A O t F led P := e ▸ x
theorem Ev.looks {t : Sem α} {r : α} (h : ∀ hh, LSt F O led hh → Looks (model prog w) hh t r) (p : P r F led) : Ev prog w A O t F led P := fun s Q E S k => (h _ S).here (k r F led s.heap s.toks p S)
/-- then-step: the next tree runs where the first has left the heap -/
theorem Ev.then {m : Sem α} {f : α → Sem β} {R : β → PH → Led → Prop} (x : Ev prog w A O m F led fun a F' led' => Ev prog w A O (f a) F' led' R) : Ev prog w A O (m >>= f) F led R :=
  Ev.bind x fun _ _ _ y => y
theorem Ev.mkInt {i : Int} {P : Value → PH → Led → Prop} (h : ∀ t, P (.int i t) F led) : Ev prog w A O (mkInt i) F led P := fun s Q E S k => wpAny_mkInt (k _ F led s.heap _ (h _) S)
theorem Ev.mkText {x : Str} {P : Value → PH → Led → Prop} (h : ∀ t, P (.str x t) F led) : Ev prog w A O (mkText x) F led P := fun s Q E S k => wpAny_mkText (k _ F led s.heap _ (h _) S)
end
end Xm

open PySem PySem.W PySem.Calls PyProof.Rows
namespace Xm

/-- frozen values: trees -/
inductive FV
  | none | bool (b : Bool) | int (i : Int) | str (s : Str)
  | tup (xs : List FV) | lst (xs : List FV) | dic (es : List (Str × FV)) | inst (c : Addr) (es : List (Str × FV))
/-- values: frozen, or with places of owned objects in them -/
inductive AV
  | fz (t : FV) | tup (xs : List AV) | inst (c : Addr) (es : List (Str × AV)) | loc (i : Nat)
/-- places -/
inductive AO
  | lst (xs : List FV) | dic (es : List (Str × FV)) | kno (es : List (FV × FV)) | fz (t : FV) | obj
structure AS where
  sc : List (Str × NameKind)
  vars : List (Str × AV)
  ow : List AO
inductive Fl | next | brk | cont | ret (v : AV)
noncomputable def bnd {α β : Type} (x : Option α) (f : α → Option β) : Option β := match x with | some a => f a | none => none

mutual
noncomputable def toPy : FV → Option PyData
  | .none => some .none | .bool b => some (.bool b) | .int i => some (.int i) | .str s => some (.str s)
  | .tup xs => (toPys xs).map .tuple
  | .lst xs => (toPys xs).map .list
  | _ => none
noncomputable def toPys : List FV → Option (List PyData)
  | [] => some []
  | x :: r => bnd (toPy x) fun d => (toPys r).map (d :: ·)
end
/-- what is read of a place -/
noncomputable def rdO : AO → Option FV
  | .lst xs => some (.lst xs) | .dic es => some (.dic es) | .fz t => some t | .kno _ => none | .obj => none
mutual
noncomputable def rd (ow : List AO) : AV → Option FV
  | .fz t => some t
  | .loc i => bnd ow[i]? rdO
  | .tup xs => (rds ow xs).map .tup
  | .inst .. => none
noncomputable def rds (ow : List AO) : List AV → Option (List FV)
  | [] => some []
  | x :: r => bnd (rd ow x) fun t => (rds ow r).map (t :: ·)
end
noncomputable def asF : AV → Option FV
  | .fz t => some t
  | _ => none
noncomputable def fzs : List AV → Option (List FV)
  | [] => some []
  | x :: r => bnd (asF x) fun t => (fzs r).map (t :: ·)
noncomputable def fzd : List (Str × AV) → Option (List (Str × FV))
  | [] => some []
  | x :: r => bnd (asF x.2) fun t => (fzd r).map ((x.1, t) :: ·)
noncomputable def mkTup (xs : List AV) : AV := match fzs xs with | some ts => .fz (.tup ts) | none => .tup xs
noncomputable def mkInst (c : Addr) (es : List (Str × AV)) : AV := match fzd es with | some ts => .fz (.inst c ts) | none => .inst c es
/-- freezing: what is reached stands from now on -/
noncomputable def frzO : AO → Option FV
  | .lst xs => some (.lst xs) | .dic es => some (.dic es) | .fz t => some t | .kno _ => none | .obj => none
mutual
noncomputable def frz (ow : List AO) : AV → Option (FV × List AO)
  | .fz t => some (t, ow)
  | .loc i => bnd ow[i]? fun o => bnd (frzO o) fun t => some (t, ow.set i (.fz t))
  | .tup xs => bnd (frzs ow xs) fun p => some (.tup p.1, p.2)
  | .inst .. => none
noncomputable def frzs (ow : List AO) : List AV → Option (List FV × List AO)
  | [] => some ([], ow)
  | x :: r => bnd (frz ow x) fun p => bnd (frzs p.2 r) fun q => some (p.1 :: q.1, q.2)
end
noncomputable def frzd (ow : List AO) : List (Str × AV) → Option (List (Str × FV) × List AO)
  | [] => some ([], ow)
  | x :: r => bnd (frz ow x.2) fun p => bnd (frzd p.2 r) fun q => some ((x.1, p.1) :: q.1, q.2)
/-- an object is frozen with its attributes -/
noncomputable def frzI (ow : List AO) (v : AV) : Option (FV × List AO) := match v with
  | .inst c es => bnd (frzd ow es) fun p => some (.inst c p.1, p.2)
  | v => frz ow v

inductive GV
  | fn (a : Addr) | cls (a : Addr) | bi (id : String) | ty (n : String) | cst (t : FV)
structure FnI where
  args : List Str
  dfl : List FV
  body : List Stmt
  sc : List (Str × NameKind)
structure Tb where
  G : Str → Option GV
  F : Addr → Option FnI
  /-- a class's own __init__ -/
  I : Addr → Option Addr
  /-- methods: class, name -/
  M : Addr → Str → Option Addr
  /-- attributes that an object's own dict answers: class, name -/
  A : Addr → Str → Bool
  /-- functions whose result stays owned -/
  K : Addr → Bool

structure Ih where
  ev : Expr → AS → Option (AV × AS)
  ex : List Stmt → AS → Option (Fl × AS)
  wh : Expr → List Stmt → AS → Option (Fl × AS)
  cl : Addr → List AV → List AO → Option (AV × List AO)

noncomputable def store (es : List (Str × α)) (k : Str) (v : α) : List (Str × α) := if es.any (fun p => p.1 == k) then es.map (fun p => if p.1 == k then (p.1, v) else p) else es ++ [(k, v)]
noncomputable def setVar (σ : AS) (x : Str) (v : AV) : AS := { σ with vars := store σ.vars x v }
noncomputable def setOw (σ : AS) (i : Nat) (o : AO) : AS := { σ with ow := σ.ow.set i o }
noncomputable def push (σ : AS) (o : AO) : AV × AS := (.loc σ.ow.length, { σ with ow := σ.ow ++ [o] })

noncomputable def plainE : Expr → Bool
  | .Starred .. => false
  | _ => true
noncomputable def isSliceE : Expr → Bool
  | .Slice .. => true
  | _ => false
noncomputable def isCompE : Expr → Bool
  | .ListComp .. => true
  | .SetComp .. => true
  | .DictComp .. => true
  | _ => false
/-- an expression whose truth is asked for of its value -/
noncomputable def plainT : Expr → Bool
  | .UnaryOp .. => false
  | .BoolOp .. => false
  | .Compare .. => false
  | .IfExp .. => false
  | _ => true
section
variable (tb : Tb) (ih : Ih)
noncomputable def evs : List Expr → AS → Option (List AV × AS)
  | [], σ => some ([], σ)
  | e :: r, σ => if plainE e then bnd (ih.ev e σ) fun p => bnd (evs r p.2) fun q => some (p.1 :: q.1, q.2) else none

noncomputable def intF : FV → Option Int
  | .int x => some x
  | _ => none
noncomputable def strF : FV → Option Str
  | .str x => some x
  | _ => none
noncomputable def boolF : FV → Option Bool
  | .bool x => some x
  | _ => none
noncomputable def tupF : FV → Option (List FV)
  | .tup xs => some xs
  | _ => none
noncomputable def lstF : FV → Option (List FV)
  | .lst xs => some xs
  | _ => none
noncomputable def dicF : FV → Option (List (Str × FV))
  | .dic xs => some xs
  | _ => none
noncomputable def asI (a : AV) : Option Int := bnd (asF a) intF
noncomputable def oneL {α : Type} : List α → Option α
  | [] => none
  | x :: r => match r with
    | [] => some x
    | _ => none
noncomputable def twoL {α : Type} : List α → Option (α × α)
  | [] => none
  | x :: r => (oneL r).map fun y => (x, y)
noncomputable def truthF (v : FV) : Option Bool := match v with
  | .bool b => some b
  | .none => some false
  | .lst xs => if xs.length ≤ 1000 then some (!xs.isEmpty) else none
  | _ => none
noncomputable def dicPy : List (Str × FV) → Option (List (Str × PyData))
  | [] => some []
  | x :: r => bnd (toPy x.2) fun d => if SeqAt.shaped d then (dicPy r).map ((x.1, d) :: ·) else none
noncomputable def eqD (xs ys : List (Str × PyData)) : Bool := xs.length == ys.length && xs.all fun p => match ys.lookup p.1 with | some y => PyData.eqv p.2 y | none => false
noncomputable def eqF (a b : FV) : Option Bool := match dicF a with
  | some xs => bnd (dicF b) fun ys => bnd (dicPy xs) fun ps => bnd (dicPy ys) fun qs => some (eqD ps qs)
  | none => bnd (toPy a) fun x => bnd (toPy b) fun y => if SeqAt.shaped x && SeqAt.shaped y then some (PyData.eqv x y) else none
noncomputable def isNil (b : FV) : Bool := match b with | .lst [] => true | _ => false
noncomputable def isCons (b : FV) : Bool := match b with | .lst (_ :: _) => true | _ => false
noncomputable def eqE (a b : FV) : Option Bool := if isCons a && isNil b then some false else eqF a b
noncomputable def inSeq (cs : List FV) (x : FV) : Option Bool := bnd (toPys cs) fun ds => bnd (toPy x) fun d => if PyData.canLayAll0 ds && PyData.canLay0 d && decide (PyData.depthAll ds ≤ 60) then some (ds.any fun y => PyData.eqv y d) else none
noncomputable def inF (x c : FV) : Option Bool := match c with
  | .tup cs => inSeq cs x
  | .lst cs => inSeq cs x
  | .dic es => bnd (strF x) fun s => some (es.lookup s).isSome
  | _ => none
/-- keys of the table that keeps the answers: (str, (), tree) -/
noncomputable def isKey (k : FV) : Bool := match k with
  | .tup [.str _, .tup [], .tup ts] => ts.all fun | .str _ => true | .int _ => true | _ => false
  | _ => false
mutual
noncomputable def sameF : FV → FV → Bool
  | .none, .none => true
  | .bool a, .bool b => a == b
  | .int a, .int b => a == b
  | .str a, .str b => a == b
  | .tup xs, .tup ys => sameFs xs ys
  | _, _ => false
noncomputable def sameFs : List FV → List FV → Bool
  | [], [] => true
  | x :: r, y :: t => sameF x y && sameFs r t
  | _, _ => false
end
noncomputable def lookK : List (FV × FV) → FV → Option FV
  | [], _ => none
  | (k, v) :: r, x => if sameF k x then some v else lookK r x
/-- a table with such keys at a place; the empty dict is one -/
noncomputable def knoAt (ow : List AO) (v : AV) : Option (Nat × List (FV × FV)) := match v with
  | .loc i => match ow[i]? with
    | some (.kno es) => some (i, es)
    | some (.dic []) => some (i, [])
    | _ => none
  | _ => none
noncomputable def isNoneA (a : AV) : Option Bool := match a with
  | .fz .none => some true
  | .fz (.tup _) => some false
  | .fz (.lst _) => some false
  | .loc _ => some false
  | _ => none
noncomputable def knoIf (ow : List AO) (x : FV) (b : AV) : Option (Nat × List (FV × FV)) := if isKey x then knoAt ow b else none
noncomputable def inA (ow : List AO) (a b : AV) : Option Bool := bnd (rd ow a) fun x => match knoIf ow x b with
  | some q => some (lookK q.2 x).isSome
  | none => bnd (rd ow b) (inF x)
noncomputable def isNo : AV → Bool
  | .fz .none => true
  | _ => false
noncomputable def cmpI (op : CmpOp) (x y : Int) : Option Bool := match op with
  | .Lt => some (decide (x < y)) | .Gt => some (decide (y < x)) | .GtE => some (decide (y ≤ x)) | .LtE => some (decide (x ≤ y))
  | _ => none
noncomputable def cmpA (ow : List AO) (op : CmpOp) (a b : AV) : Option Bool := match op with
  | .Eq => bnd (rd ow a) fun x => bnd (rd ow b) fun y => eqE x y
  | .NotEq => bnd (rd ow a) fun x => bnd (rd ow b) fun y => (eqF x y).map (!·)
  | .In => inA ow a b
  | .NotIn => (inA ow a b).map (!·)
  | .Is => if isNo b then isNoneA a else none
  | .IsNot => if isNo b then (isNoneA a).map (!·) else none
  | op => bnd (asI a) fun x => bnd (asI b) fun y => cmpI op x y
noncomputable def itemI (xs : List α) (i : FV) : Option α := bnd (intF i) fun k => if 0 ≤ k ∧ k < 100 then xs[k.toNat]? else none
noncomputable def itemF (o i : FV) : Option FV := match o with
  | .tup xs => itemI xs i
  | .lst xs => itemI xs i
  | .dic es => bnd (strF i) fun s => es.lookup s
  | _ => none
noncomputable def itemO (k : FV) : AO → Option FV
  | .kno es => if isKey k then lookK es k else none
  | .lst xs => itemI xs k
  | .dic es => bnd (strF k) fun s => es.lookup s
  | .fz t => itemF t k
  | .obj => none
noncomputable def itemA (ow : List AO) (o i : AV) : Option AV := bnd (asF i) fun k => match o with
  | .fz t => (itemF t k).map .fz
  | .tup xs => itemI xs k
  | .loc j => bnd ow[j]? fun o => (itemO k o).map .fz
  | .inst .. => none
noncomputable def powOk (x y : Int) : Bool := decide (x = 10) && decide (y = 18)
noncomputable def binI (op : Operator) (x y : Int) : Option Int := match op with
  | .Add => some (x + y)
  | .Sub => some (x - y)
  | .Mult => if Builtin.Int.intBits y ≤ 64 ∨ Builtin.Int.intBits x ≤ 64 then some (x * y) else none
  | .Mod => if y ≠ 0 then some (x.fmod y) else none
  | .FloorDiv => if y ≠ 0 ∧ Builtin.divisionGoesByPylong x y = false then some (x.fdiv y) else none
  | .Pow => if powOk x y then some (x ^ y.toNat) else none
  | _ => none
/-- a list with frozen items, at a place or frozen -/
noncomputable def lstO : AO → Option (List FV)
  | .lst xs => some xs
  | .fz t => lstF t
  | _ => none
noncomputable def lstOf (ow : List AO) (v : AV) : Option (List FV) := match v with
  | .fz t => lstF t
  | .loc i => bnd ow[i]? lstO
  | _ => none
noncomputable def isAdd : Operator → Bool
  | .Add => true
  | _ => false
noncomputable def isNilT : AV → Bool
  | .fz (.tup []) => true
  | _ => false
noncomputable def addA (a b : AV) (σ : AS) : Option (AV × AS) := if isNilT a then bnd (asF b) fun t => bnd (tupF t) fun _ => some (b, σ)
  else bnd (lstOf σ.ow a) fun xs => bnd (lstOf σ.ow b) fun ys => if xs.length + ys.length ≤ 1000 then some (push σ (.lst (xs ++ ys))) else none
noncomputable def binA (op : Operator) (a b : AV) (σ : AS) : Option (AV × AS) := match asI a with
  | some x => bnd (asI b) fun y => (binI op x y).map fun z => (.fz (.int z), σ)
  | none => if isAdd op then addA a b σ else none

/-- the keys of a written dict -/
noncomputable def strOf : Option Expr → Option Str
  | some (.Constant (.str s) _ _) => some s
  | _ => none
noncomputable def keysOf : List (Option Expr) → Option (List Str)
  | [] => some []
  | k :: r => bnd (strOf k) fun s => (keysOf r).map (s :: ·)

noncomputable def isLocalK (k : Option NameKind) : Bool := match k with | some .local | some .cell => true | _ => false
noncomputable def nameA (σ : AS) (x : Str) : Option AV := if x == ("__debug__" : Str) then none else if x == ("__classdict__" : Str) then none else match σ.sc.lookup x with
  | some .local | some .cell | some .free => σ.vars.lookup x
  | some .globalImplicit => match tb.G x with
    | some (.cst v) => some (.fz v)
    | _ => none
  | _ => none
noncomputable def globA (σ : AS) (x : Str) : Option GV := if x == ("__debug__" : Str) then none else match σ.sc.lookup x with
  | some .globalImplicit => tb.G x
  | _ => none

noncomputable def zipF : List FV → List FV → List FV
  | x :: r, y :: t => .tup [x, y] :: zipF r t
  | _, _ => []
noncomputable def enumF : Nat → List FV → List FV
  | _, [] => []
  | n, x :: r => .tup [.int n, x] :: enumF (n + 1) r
noncomputable def intsF : List FV → Option (List Int)
  | [] => some []
  | x :: r => bnd (intF x) fun i => (intsF r).map (i :: ·)
noncomputable def maxI : Int → List Int → Int
  | m, [] => m
  | m, x :: r => maxI (if x > m then x else m) r
noncomputable def minI : Int → List Int → Int
  | m, [] => m
  | m, x :: r => minI (if x < m then x else m) r
/-- built-in functions -/
noncomputable def lenF : FV → Option FV
  | .tup xs => if xs.length ≤ 1000 then some (.int xs.length) else none
  | .lst xs => if xs.length ≤ 1000 then some (.int xs.length) else none
  | _ => none
noncomputable def maxF : FV → Option FV
  | .lst xs => bnd (intsF xs) fun l => match l with
    | m :: r => some (.int (maxI m r))
    | [] => none
  | _ => none
noncomputable def biA (id : String) (args : List FV) : Option FV := match args with
  | [] => none
  | x :: r => match r with
    | [] => if id == "len" then lenF x else if id == "max" then maxF x else none
    | y :: r => match r with
      | [] => bnd (intF x) fun a => bnd (intF y) fun b => if id == "max" then some (.int (maxI a [b])) else if id == "min" then some (.int (minI a [b])) else none
      | _ => none

noncomputable def lstAt (ow : List AO) (i : Nat) : Option (List FV) := match ow[i]? with | some (.lst xs) => some xs | _ => none
noncomputable def itemsF (t : FV) : Option (List FV) := match t with | .lst xs => some xs | .tup xs => some xs | _ => none
/-- which method: settled before the arguments -/
inductive MK | app (i : Nat) | pop (i : Nat) | ext (i : Nat) | get (es : List (Str × FV)) | fn (f : Addr)
noncomputable def getD (es : List (Str × FV)) (args : List AV) : Option AV := bnd (twoL args) fun p => bnd (asF p.1) fun k => bnd (strF k) fun s => some (match es.lookup s with | some v => .fz v | none => p.2)
noncomputable def mkI (m : Str) (c : Addr) (has : Bool) : Option MK := if has then none else (tb.M c m).map .fn
noncomputable def mkF (m : Str) : FV → Option MK
  | .dic es => if m == ("get" : Str) then some (.get es) else none
  | .inst c es => mkI tb m c (es.lookup m).isSome
  | _ => none
noncomputable def mkL (i : Nat) (m : Str) : Option MK := if m == ("append" : Str) then some (.app i) else if m == ("pop" : Str) then some (.pop i) else if m == ("extend" : Str) then some (.ext i) else none
noncomputable def mkO (i : Nat) (m : Str) : AO → Option MK
  | .lst _ => mkL i m
  | .fz t => mkF tb m t
  | _ => none
noncomputable def mkA (ow : List AO) (o : AV) (m : Str) : Option MK := match o with
  | .loc i => bnd ow[i]? (mkO tb i m)
  | .fz t => mkF tb m t
  | .inst c es => mkI tb m c (es.lookup m).isSome
  | _ => none
noncomputable def methA (k : MK) (o : AV) (args : List AV) (σ : AS) : Option (AV × AS) := match k with
  | .app i => bnd (oneL args) fun v => bnd (frz σ.ow v) fun p => bnd (lstAt p.2 i) fun xs => if xs.length ≤ 1000 then some (.fz .none, { σ with ow := p.2.set i (.lst (xs ++ [p.1])) }) else none
  | .pop i => if args.isEmpty then bnd (lstAt σ.ow i) fun xs => if xs.length ≤ 1000 then bnd xs.getLast? fun v => some (.fz v, { σ with ow := σ.ow.set i (.lst xs.dropLast) }) else none else none
  | .ext i => bnd (oneL args) fun v => bnd (lstAt σ.ow i) fun xs => bnd (lstOf σ.ow v) fun ys => if xs.length + ys.length ≤ 1000 then some (.fz .none, { σ with ow := σ.ow.set i (.lst (xs ++ ys)) }) else none
  | .get es => (getD es args).map fun v => (v, σ)
  | .fn f => bnd (ih.cl f (o :: args) σ.ow) fun q => some (q.1, { σ with ow := q.2 })

/-- a test -/
noncomputable def tr : Nat → Expr → AS → Option (Bool × AS)
  | 0, _, _ => none
  | n + 1, e, σ => match e with
    | .UnaryOp .Not x _ => bnd (tr n x σ) fun p => some (!p.1, p.2)
    | .BoolOp op xs _ => trs n op xs σ
    | .Compare l [op] [r] _ => if behindInMarks op r then none else bnd (ih.ev l σ) fun p => bnd (ih.ev r p.2) fun q => bnd (cmpA q.2.ow op p.1 q.1) fun b => some (b, q.2)
    | e => if plainT e then bnd (ih.ev e σ) fun p => bnd (rd p.2.ow p.1) fun t => bnd (truthF t) fun b => some (b, p.2) else none
where
  trs : Nat → BoolOp → List Expr → AS → Option (Bool × AS)
  | 0, _, _, _ => none
  | n + 1, op, [], σ => some (op == .And, σ)
  | n + 1, op, x :: r, σ => bnd (tr n x σ) fun p => match op, p.1 with
    | .And, false => some (false, p.2)
    | .Or, true => some (true, p.2)
    | _, _ => trs n op r p.2
noncomputable def test (e : Expr) (σ : AS) : Option (Bool × AS) := tr ih 40 e σ

noncomputable def boolA (op : BoolOp) : List Expr → AS → Option (AV × AS)
  | [], _ => none
  | [x], σ => ih.ev x σ
  | x :: r, σ => bnd (ih.ev x σ) fun p => bnd (rd p.2.ow p.1) fun t => bnd (truthF t) fun b => match op, b with
    | .And, false => some p
    | .Or, true => some p
    | _, _ => boolA op r p.2

noncomputable def plainBase : Expr → Bool
  | .Name .. => true
  | .Attribute .. => true
  | _ => false
/-- list(zip(a, b)) -/
noncomputable def zipOf : Expr → Option (Expr × Expr)
  | .Call f args kws _ => (match f with
    | .Name z _ => (match kws with
      | [] => (match args with
        | [] => none
        | a :: r => match r with
          | [] => none
          | b :: r => match r with
            | [] => if z == ("zip" : Str) then some (a, b) else none
            | _ => none)
      | _ => none)
    | _ => none)
  | _ => none
noncomputable def listZip : List Expr → Option (Expr × Expr)
  | [] => none
  | e :: r => match r with
    | [] => zipOf e
    | _ => none
/-- the body of an __init__: attributes of self, one by one; which of them stay owned -/
noncomputable def keepA (a : Str) : Bool := a == ("known" : Str) || a == ("impls" : Str)
noncomputable def isObj (ow : List AO) (k : Nat) : Bool := match ow[k]? with | some .obj => true | _ => false
noncomputable def isSelf (ow : List AO) (k : Nat) (v : AV) : Bool := match v with | .loc k' => k' == k && isObj ow k | _ => false
/-- self.name = value: the name, what stands for self, the value -/
noncomputable def selfTgt (t : Expr) : Option (Str × Expr) := match t with
  | .Attribute e a _ => (match e with
    | .Name .. => some (a, e)
    | _ => none)
  | _ => none
noncomputable def initA (k : Nat) : List Stmt → AS → List (Str × AV) → Option (List (Str × AV) × AS)
  | [], σ, es => some (es, σ)
  | st :: r, σ, es => match st with
    | .Assign ts v _ => bnd (oneL ts) fun t => bnd (selfTgt t) fun ae => if isCompE v then none else if !(es.any fun p => p.1 == ae.1) && decide (es.length ≤ 100) then bnd (ih.ev v σ) fun p => bnd (ih.ev ae.2 p.2) fun q =>
        if isSelf q.2.ow k q.1 then (if keepA ae.1 then initA k r q.2 (es ++ [(ae.1, p.1)]) else bnd (frz q.2.ow p.1) fun z => initA k r { q.2 with ow := z.2 } (es ++ [(ae.1, .fz z.1)])) else none
      else none
    | _ => none
/-- the values of the parameters: what was handed in, then the written defaults -/
noncomputable def bindV (f : FnI) (vs : List AV) : Option (List (Str × AV)) :=
  if vs.length ≤ f.args.length ∧ f.args.length ≤ vs.length + f.dfl.length then some (f.args.zip (vs ++ (f.dfl.drop (vs.length + f.dfl.length - f.args.length)).map .fz)) else none
noncomputable def newA (c : Addr) (vs : List AV) (σ : AS) : Option (AV × AS) := bnd (tb.I c) fun f => bnd (tb.F f) fun fi => bnd (bindV fi (.loc σ.ow.length :: vs)) fun bs =>
  bnd (initA ih σ.ow.length fi.body { sc := fi.sc, vars := bs, ow := σ.ow ++ [.obj] } []) fun p => some (mkInst c p.1, { σ with ow := p.2.ow })
/-- list(zip(a, b)) of two tuples -/
noncomputable def callZ (ab : Expr × Expr) (σ : AS) : Option (AV × AS) := bnd (globA tb σ ("zip" : Str)) fun z => match z with
  | .ty t' => if t' == "zip" && plainE ab.1 && plainE ab.2 then bnd (evs ih [ab.1, ab.2] σ) fun p => bnd (twoL p.1) fun q => bnd (asF q.1) fun x => bnd (tupF x) fun xs => bnd (asF q.2) fun y => bnd (tupF y) fun ys =>
      if xs.length ≤ 1000 ∧ xs.length = ys.length then some (push p.2 (.lst (zipF xs ys))) else none
    else none
  | _ => none
noncomputable def callT (t : String) (args : List Expr) (σ : AS) : Option (AV × AS) :=
  if t == "list" then (match listZip args with
    | some ab => callZ tb ih ab σ
    | none => bnd (evs ih args σ) fun p => bnd (oneL p.1) fun v => bnd (lstOf p.2.ow v) fun xs => if xs.length ≤ 1000 then some (push p.2 (.lst xs)) else none)
  else if t == "tuple" then bnd (evs ih args σ) fun p => bnd (oneL p.1) fun v => bnd (asF v) fun x => bnd (tupF x) fun _ => some (v, p.2)
  else if t == "int" then bnd (evs ih args σ) fun p => bnd (oneL p.1) fun v => bnd (asF v) fun x => bnd (boolF x) fun b => some (.fz (.int (if b then 1 else 0)), p.2)
  else none
noncomputable def callN (g : GV) (args : List Expr) (σ : AS) : Option (AV × AS) := match g with
  | .ty t => callT tb ih t args σ
  | .fn a => bnd (evs ih args σ) fun p => bnd (ih.cl a p.1 p.2.ow) fun q => some (q.1, { p.2 with ow := q.2 })
  | .cls a => bnd (evs ih args σ) fun p => newA tb ih a p.1 p.2
  | .bi id => bnd (evs ih args σ) fun p => bnd (rds p.2.ow p.1) fun ts => bnd (biA id ts) fun t => some (.fz t, p.2)
  | _ => none
noncomputable def callE (f : Expr) (args : List Expr) (pos : Pos) (σ : AS) : Option (AV × AS) := match f with
  | .Name x _ => bnd (globA tb σ x) fun g => callN tb ih g args σ
  | .Attribute o m apos => if plainBase o && apos.endLine == pos.line && decide (args.length < 20) then bnd (ih.ev o σ) fun p => bnd (mkA tb p.2.ow p.1 m) fun k => bnd (evs ih args p.2) fun q => methA ih k p.1 q.1 q.2 else none
  | _ => none

/-! targets -/
noncomputable def itemsA (v : AV) : Option (List AV) := match v with
  | .fz t => (tupF t).map fun xs => xs.map .fz
  | .tup xs => some xs
  | _ => none
noncomputable def bindQ (f : Expr → AV → AS → Option AS) : List Expr → List AV → AS → Option AS
  | [], vs, σ => if vs.isEmpty then some σ else none
  | t :: r, vs, σ => if plainE t then (match vs with
    | [] => none
    | v :: w => bnd (f t v σ) fun σ' => bindQ f r w σ') else none
noncomputable def bindN : Nat → Expr → AV → AS → Option AS
  | 0, _, _, _ => none
  | n + 1, t, v, σ => match t with
    | .Name x _ => if isLocalK (σ.sc.lookup x) then some (setVar σ x v) else none
    | .Tuple ts _ _ => bnd (itemsA v) fun vs => bindQ (bindN n) ts vs σ
    | _ => none
noncomputable def bindT (t : Expr) (v : AV) (σ : AS) : Option AS := bindN 4 t v σ
/-- what is walked over: frozen first -/
noncomputable def iterV (σ : AS) (v : AV) : Option (List FV × AS) := bnd (frz σ.ow v) fun p => bnd (itemsF p.1) fun xs => if xs.length ≤ 1000 then some (xs, { σ with ow := p.2 }) else none
noncomputable def isTupT : Expr → Bool
  | .Tuple .. => true
  | _ => false
noncomputable def iterZ2 (x y : FV) (σ : AS) : Option (List FV × AS) := match tupF x with
  | some us => bnd (tupF y) fun vs => if us.length ≤ 1000 ∧ us.length = vs.length then some (zipF us vs, σ) else none
  | none => bnd (lstF x) fun us => bnd (lstF y) fun vs => if us.length ≤ 1000 ∧ vs.length ≤ 1000 then some (zipF us vs, σ) else none
noncomputable def iterZ (args : List Expr) (σ : AS) : Option (List FV × AS) := bnd (twoL args) fun ab => if plainE ab.1 && plainE ab.2 then bnd (ih.ev ab.1 σ) fun p => bnd (ih.ev ab.2 p.2) fun q => bnd (frz q.2.ow p.1) fun x => bnd (frz x.2 q.1) fun y => iterZ2 x.1 y.1 { q.2 with ow := y.2 } else none
noncomputable def iterN (args : List Expr) (σ : AS) : Option (List FV × AS) := bnd (oneL args) fun a => if plainE a then bnd (ih.ev a σ) fun p => bnd (frz p.2.ow p.1) fun x => bnd (lstF x.1) fun us => if us.length ≤ 1000 then some (enumF 0 us, { p.2 with ow := x.2 }) else none else none
noncomputable def iterR (args : List Expr) (σ : AS) : Option (List FV × AS) := bnd (oneL args) fun a => if plainE a then bnd (ih.ev a σ) fun p => bnd (asI p.1) fun n => if 0 ≤ n ∧ n ≤ 1000 then some ((List.range n.toNat).map fun (i : Nat) => FV.int (i : Int), p.2) else none else none
noncomputable def isSetE : Expr → Bool
  | .Set .. => true
  | _ => false
noncomputable def iterB (t : Expr) (t' : String) (args : List Expr) (σ : AS) : Option (List FV × AS) :=
  if t' == "zip" then (if isTupT t then iterZ ih args σ else none)
  else if t' == "enumerate" then (if isTupT t then iterN ih args σ else none)
  else if t' == "range" then iterR ih args σ
  else none
/-- the name of a built-in class that is called with plain arguments -/
noncomputable def tyOf (σ : AS) : Expr → Option (String × List Expr)
  | .Call (.Name z _) args [] _ => match globA tb σ z with
    | some (.ty t) => some (t, args)
    | _ => none
  | _ => none
noncomputable def iterE (t : Expr) (e : Expr) (σ : AS) : Option (List FV × AS) := match tyOf tb σ e with
  | some p => iterB ih t p.1 p.2 σ
  | none => if isSetE e then none else bnd (ih.ev e σ) fun p => iterV p.2 p.1

/-! comprehensions -/
noncomputable def heldIn (k : Option NameKind) : Bool := match k with
  | some .cell => true
  | some .free => true
  | _ => false
noncomputable def captured (names : List (Str × NameKind)) (σ : AS) : Option (List (Str × AV)) := match names with
  | [] => some []
  | p :: r => if p.2 == .free then (if heldIn (σ.sc.lookup p.1) then bnd (σ.vars.lookup p.1) fun v => (captured r σ).map ((p.1, v) :: ·) else none)
    else captured r σ
mutual
noncomputable def smallV (k : Nat) : AV → Bool
  | .fz _ => true
  | .loc i => decide (i < k)
  | .tup xs => smallVs k xs
  | .inst _ es => smallVd k es
noncomputable def smallVs (k : Nat) : List AV → Bool
  | [] => true
  | x :: r => smallV k x && smallVs k r
noncomputable def smallVd (k : Nat) : List (Str × AV) → Bool
  | [] => true
  | (_, x) :: r => smallV k x && smallVd k r
end
noncomputable def tests : List Expr → AS → Option (Bool × AS)
  | [], σ => some (true, σ)
  | [c], σ => test ih c σ
  | _, _ => none
/-- the end of a turn: names and places made in it go -/
noncomputable def cut (m k : Nat) (σ : AS) : Option AS := if (σ.vars.take m).all fun p => smallV k p.2 then some { σ with vars := σ.vars.take m, ow := σ.ow.take k } else none
noncomputable def loopC (inner : List FV → AS → Option (List FV × AS)) (t : Expr) (ifs : List Expr) (m k : Nat) : List FV → List FV → AS → Option (List FV × AS)
  | [], acc, σ => some (acc, σ)
  | v :: r, acc, σ => bnd (bindT t (.fz v) σ) fun σ1 => bnd (tests ih ifs σ1) fun p => if p.1
    then bnd (inner acc p.2) fun q => bnd (cut m k q.2) fun σ2 => loopC inner t ifs m k r q.1 σ2
    else bnd (cut m k p.2) fun σ2 => loopC inner t ifs m k r acc σ2
noncomputable def compI (elt : Expr) : List Comprehension → List FV → AS → Option (List FV × AS)
  | [], acc, σ => bnd (ih.ev elt σ) fun p => bnd (frzI p.2.ow p.1) fun q => if acc.length ≤ 1000 then some (acc ++ [q.1], { p.2 with ow := q.2 }) else none
  | ⟨t, it, ifs, 0⟩ :: gs, acc, σ => if isSetE it then none else bnd (ih.ev it σ) fun p => bnd (iterV p.2 p.1) fun x => loopC ih (compI elt gs) t ifs x.2.vars.length x.2.ow.length x.1 acc x.2
  | _ :: _, _, _ => none
noncomputable def isC0 (g : Comprehension) : Bool := match g with
  | ⟨_, _, _, a⟩ => decide (a = 0)
noncomputable def shortG : List Comprehension → Bool
  | [] => true
  | g :: r => isC0 g && r.isEmpty
noncomputable def scopeOk (scope : Scope) : Bool := scope.kind == .function && (scope.names.all fun p => p.2 != .cell) && decide ((scope.names.map (·.1)).Nodup)
noncomputable def compA (elt : Expr) (gens : List Comprehension) (scope : Scope) (σ : AS) : Option (AV × AS) := match gens with
  | [] => none
  | ⟨t, it, ifs, a⟩ :: gs => if a = 0 then (if shortG gs && scopeOk scope then bnd (captured scope.names σ) fun _ => bnd (iterE tb ih t it σ) fun x => bnd (captured scope.names x.2) fun vs =>
      bnd (loopC ih (compI ih elt gs) t ifs vs.length x.2.ow.length x.1 [] { sc := scope.names, vars := vs, ow := x.2.ow }) fun y => if y.1.length ≤ 10000 then some (push { x.2 with ow := y.2.ow } (.lst y.1)) else none else none) else none

noncomputable def attrF (a : Str) : FV → Option AV
  | .inst c es => if tb.A c a then (es.lookup a).map .fz else none
  | _ => none
noncomputable def attrA (a : Str) : AV → Option AV
  | .inst c es => if tb.A c a then es.lookup a else none
  | .fz t => attrF tb a t
  | _ => none
noncomputable def evStep (e : Expr) (σ : AS) : Option (AV × AS) := match e with
  | .Constant c _ _ => match c with
    | .none => some (.fz .none, σ) | .bool b => some (.fz (.bool b), σ) | .int i => some (.fz (.int i), σ) | .str s => some (.fz (.str s), σ)
    | _ => none
  | .Name x _ => bnd (nameA tb σ x) fun v => some (v, σ)
  | .Tuple es _ _ => bnd (evs ih es σ) fun p => if p.1.length ≤ 1000 then some (mkTup p.1, p.2) else none
  | .List es _ => bnd (evs ih es σ) fun p => if p.1.length ≤ 1000 then bnd (frzs p.2.ow p.1) fun q => some (push { p.2 with ow := q.2 } (.lst q.1)) else none
  | .Dict ks vs _ => bnd (keysOf ks) fun ns => if ns.length == vs.length && decide (ns.Nodup) && decide (ns.length ≤ 15) then bnd (evs ih vs σ) fun p => bnd (frzs p.2.ow p.1) fun q => some (push { p.2 with ow := q.2 } (.dic (ns.zip q.1))) else none
  | .Attribute e a _ => if plainBase e then bnd (ih.ev e σ) fun p => bnd (attrA tb a p.1) fun v => some (v, p.2) else none
  | .Subscript o i _ => if isSliceE i then none else bnd (ih.ev o σ) fun p => bnd (ih.ev i p.2) fun q => bnd (itemA q.2.ow p.1 q.1) fun v => some (v, q.2)
  | .Compare l [op] [r] _ => if behindInMarks op r then none else bnd (ih.ev l σ) fun p => bnd (ih.ev r p.2) fun q => bnd (cmpA q.2.ow op p.1 q.1) fun b => some (.fz (.bool b), q.2)
  | .BoolOp op xs _ => boolA ih op xs σ
  | .IfExp t a b _ => bnd (test ih t σ) fun p => if p.1 then ih.ev a p.2 else ih.ev b p.2
  | .BinOp l op r _ => bnd (ih.ev l σ) fun p => bnd (ih.ev r p.2) fun q => binA op p.1 q.1 q.2
  | .UnaryOp .USub (.Constant (.int i) _ _) _ => some (.fz (.int (-i)), σ)
  | .Call f args [] pos => if args.all plainE then callE tb ih f args pos σ else none
  | .ListComp elt gens scope _ => compA tb ih elt gens scope σ
  | _ => none

noncomputable def nameT : Expr → Option Str
  | .Name x _ => some x
  | _ => none
noncomputable def namesOfT : List Expr → Option (List Str)
  | [] => some []
  | t :: r => bnd (nameT t) fun x => (namesOfT r).map (x :: ·)
noncomputable def bindAll : List Str → List AV → AS → Option AS
  | [], vs, σ => if vs.isEmpty then some σ else none
  | x :: r, vs, σ => match vs with
    | [] => none
    | v :: t => if isLocalK (σ.sc.lookup x) then bindAll r t (setVar σ x v) else none
set_option backward.match.sparseCases true in
/-- are the stores of a tuple's assignment exchanged, and of which names? -/
noncomputable def swapN (loc : Str → Bool) (ts : List Expr) (v : Expr) : Option (Option (List Str)) := match v with
  | .Tuple vs _ _ =>
    if !(ts.length == 2 || ts.length == 3) || vs.length != ts.length then some none
    else if vs.any fun | .Starred .. => true | _ => false then some none
    else
      let line := (ts.head?.map (·.pos.line)).getD 0
      let names := ts.filterMap fun
        | .Name id pos => if loc id && pos.line == line then some id else none
        | _ => none
      if names.length != ts.length || names.eraseDups.length != names.length then some none
      else if vs.all (foldedForSure 8) then some none
      else if vs.all (constantsAlone 8) then none
      else some (some names)
  | _ => some none
noncomputable def storeO (j : Nat) (k : FV) (p : FV × List AO) (σ : AS) : AO → Option AS
  | .lst xs => bnd (intF k) fun n => if 0 ≤ n ∧ n.toNat < xs.length ∧ xs.length ≤ 1000 then some { σ with ow := p.2.set j (.lst (xs.set n.toNat p.1)) } else none
  | .dic es => (match strF k with
    | some s => if es.length ≤ 1000 then some { σ with ow := p.2.set j (.dic (store es s p.1)) } else none
    | none => if isKey k && es.isEmpty then some { σ with ow := p.2.set j (.kno [(k, p.1)]) } else none)
  | .kno es => if isKey k && (lookK es k).isNone && decide (es.length ≤ 1000) then some { σ with ow := p.2.set j (.kno (es ++ [(k, p.1)])) } else none
  | _ => none
noncomputable def storeAt (o i v : AV) (σ : AS) : Option AS := match o with
  | .loc j => bnd (asF i) fun k => bnd (frz σ.ow v) fun p => bnd p.2[j]? (storeO j k p σ)
  | _ => none
noncomputable def asgN (x : Str) (p : AV × AS) : Option (Fl × AS) := if isLocalK (p.2.sc.lookup x) then some (.next, setVar p.2 x p.1) else none
noncomputable def asgB (sw : Option (List Str)) (xs : List Str) (vs : List AV) (σ : AS) : Option AS := match sw with | some ns => bindAll ns.reverse vs.reverse σ | none => bindAll xs vs σ
noncomputable def asgT (ts : List Expr) (v : Expr) (σ : AS) : Option (Fl × AS) := if isCompE v then none else bnd (swapN (fun x => σ.sc.lookup x == some .local) ts v) fun sw => bnd (namesOfT ts) fun xs => bnd (ih.ev v σ) fun p => bnd (itemsA p.1) fun vs =>
  bnd (asgB sw xs vs p.2) fun σ' => some (.next, σ')
noncomputable def asgI (o i v : Expr) (σ : AS) : Option (Fl × AS) := if isCompE v || isSliceE i then none else bnd (ih.ev v σ) fun p => bnd (ih.ev o p.2) fun q => bnd (ih.ev i q.2) fun r => bnd (storeAt q.1 r.1 p.1 r.2) fun σ' => some (.next, σ')
noncomputable def isCallA : Expr → Bool
  | .Call (.Attribute ..) _ _ _ => true
  | _ => false
noncomputable def exStep (st : Stmt) (σ : AS) : Option (Fl × AS) := match st with
  | .Assign [t] v _ => match t with
    | .Name x np => match v with
      | .ListComp elt gens scope vp => if σ.sc.lookup x == some .local && np.line == vp.line && !(scope.names.any fun p => p.1 == x && (p.2 == .local || p.2 == .cell)) then bnd (compA tb ih elt gens scope σ) (asgN x) else none
      | v => if isCompE v then none else bnd (ih.ev v σ) (asgN x)
    | .Tuple ts _ _ => asgT ih ts v σ
    | .Subscript o i _ => asgI ih o i v σ
    | _ => none
  | .Expr e _ => if isCallA e then bnd (ih.ev e σ) fun p => if isNo p.1 then some (.next, p.2) else none else none
  | .If t a b _ => bnd (test ih t σ) fun p => if p.1 then ih.ex a p.2 else ih.ex b p.2
  | .While t b [] _ => ih.wh t b σ
  | .For t it body [] _ => bnd (iterE tb ih t it σ) fun x => forL t body x.2.vars.length x.2.ow.length x.1 x.2
  | .Return (some e) _ => bnd (ih.ev e σ) fun p => some (.ret p.1, p.2)
  | .Break _ => some (.brk, σ)
  | .Continue _ => some (.cont, σ)
  | .Pass _ => some (.next, σ)
  | _ => none
where
  forL (t : Expr) (body : List Stmt) (m k : Nat) : List FV → AS → Option (Fl × AS)
    | [], σ => some (.next, σ)
    | v :: r, σ => bnd (bindT t (.fz v) σ) fun σ1 => bnd (ih.ex body σ1) fun p => match p.1 with
      | .next => bnd (cut m k p.2) fun σ2 => forL t body m k r σ2
      | .cont => bnd (cut m k p.2) fun σ2 => forL t body m k r σ2
      | .brk => bnd (cut m k p.2) fun σ2 => some (.next, σ2)
      | .ret v => some (.ret v, p.2)
noncomputable def exsStep : List Stmt → AS → Option (Fl × AS)
  | [], σ => some (.next, σ)
  | s :: r, σ => bnd (exStep tb ih s σ) fun p => match p.1 with
    | .next => exsStep r p.2
    | f => some (f, p.2)
noncomputable def whStep (t : Expr) (b : List Stmt) (σ : AS) : Option (Fl × AS) := bnd (test ih t σ) fun p =>
  if p.1 then bnd (ih.ex b p.2) fun q => match q.1 with
    | .next => ih.wh t b q.2
    | .cont => ih.wh t b q.2
    | .brk => some (.next, q.2)
    | .ret v => some (.ret v, q.2)
  else some (.next, p.2)
/-- a function's end: its value is frozen, its places go -/
noncomputable def leaveA (a : Addr) (k : Nat) (v : AV) (ow : List AO) : Option (AV × List AO) :=
  if tb.K a then (match v with
    | .loc i => if k ≤ i then (bnd ow[i]? fun o => some (.loc k, ow.take k ++ [o])) else none
    | _ => none)
  else bnd (frzI ow v) fun p => some (.fz p.1, p.2.take k)
noncomputable def clStep (a : Addr) (args : List AV) (ow : List AO) : Option (AV × List AO) :=
  bnd (tb.F a) fun f => bnd (bindV f args) fun bs => bnd (ih.ex f.body { sc := f.sc, vars := bs, ow }) fun p => match p.1 with
    | .ret v => leaveA tb a ow.length v p.2.ow
    | .next => leaveA tb a ow.length (.fz .none) p.2.ow
    | _ => none
/-! a call runs on the places that its arguments name, renumbered -/
mutual
noncomputable def locsV : AV → List Nat
  | .fz _ => []
  | .loc i => [i]
  | .tup xs => locsVs xs
  | .inst _ es => locsVd es
noncomputable def locsVs : List AV → List Nat
  | [] => []
  | x :: r => locsV x ++ locsVs r
noncomputable def locsVd : List (Str × AV) → List Nat
  | [] => []
  | (_, x) :: r => locsV x ++ locsVd r
end
mutual
noncomputable def renV (is : List Nat) : AV → AV
  | .fz t => .fz t
  | .loc i => .loc (is.idxOf i)
  | .tup xs => .tup (renVs is xs)
  | .inst c es => .inst c (renVd is es)
noncomputable def renVs (is : List Nat) : List AV → List AV
  | [] => []
  | x :: r => renV is x :: renVs is r
noncomputable def renVd (is : List Nat) : List (Str × AV) → List (Str × AV)
  | [] => []
  | (k, x) :: r => (k, renV is x) :: renVd is r
end
noncomputable def pick {α : Type} (l : List α) : List Nat → Option (List α)
  | [] => some []
  | i :: r => bnd l[i]? fun o => bnd (pick l r) fun t => some (o :: t)
noncomputable def putBack : List Nat → List AO → List AO → List AO
  | i :: r, o :: t, ow => putBack r t (ow.set i o)
  | _, _, ow => ow
noncomputable def dedup : List Nat → List Nat
  | [] => []
  | i :: r => if (dedup r).contains i then dedup r else i :: dedup r
noncomputable def clF (a : Addr) (args : List AV) (ow : List AO) : Option (AV × List AO) :=
  if tb.K a then clStep tb ih a args ow
  else bnd (pick ow (dedup (locsVs args))) fun os => bnd (clStep tb ih a (renVs (dedup (locsVs args)) args) os) fun q => match q.1 with
    | .fz t => if q.2.length == os.length then some (.fz t, putBack (dedup (locsVs args)) q.2 ow) else none
    | _ => none
end
noncomputable def run (tb : Tb) : Nat → Ih
  | 0 => ⟨fun _ _ => none, fun _ _ => none, fun _ _ _ => none, fun _ _ _ => none⟩
  | n + 1 => ⟨evStep tb (run tb n), exsStep tb (run tb n), whStep (run tb n), clF tb (run tb n)⟩

/-! the text's own defs -/
noncomputable def findFn (x : Str) : List Stmt → Option (List Str × List Stmt × List (Str × NameKind))
  | [] => none
  | .FunctionDef name args body _ _ _ scope _ _ _ :: r => if name == x then some (args.args.map (·.arg), body, scope.names) else findFn x r
  | _ :: r => findFn x r
noncomputable def findCls (x : Str) : List Stmt → List Stmt
  | [] => []
  | .ClassDef name _ _ body _ _ _ _ _ _ _ :: r => if name == x then body else findCls x r
  | _ :: r => findCls x r
noncomputable abbrev top : List Stmt := PySem.Challenge.pw_xm0599_01.main.body
end Xm

open PySem PySem.W PySem.Calls PyProof.Rows
namespace Xm
/-! inversion of the interpreter's answers, without copies of the goal -/
noncomputable def Okay {γ : Type} (o : Option γ) (T : γ → Prop) : Prop := ∀ a, o = some a → T a
section
variable {α β γ ε : Type} {G : Prop} {T : γ → Prop}
theorem okN : Okay none T := fun _ e => nomatch e
theorem okS {a : γ} (h : T a) : Okay (some a) T := fun _ e => Option.some.inj e ▸ h
theorem okB {x : Option α} {f : α → Option γ} (h : ∀ a, x = some a → Okay (f a) T) : Okay (bnd x f) T := by
  cases x with
  | none => exact okN
  | some a => exact h a rfl
theorem okM {x : Option α} {f : α → γ} (h : ∀ a, x = some a → T (f a)) : Okay (x.map f) T := by
  cases x with
  | none => exact okN
  | some a => exact okS (h a rfl)
theorem okI {c : Prop} [Decidable c] {x : Option γ} (h : c → Okay x T) : Okay (if c then x else none) T := by
  by_cases q : c
  · rw [if_pos q]; exact h q
  · rw [if_neg q]; exact okN
theorem okE {c : Prop} [Decidable c] {x : Option γ} (h : ¬c → Okay x T) : Okay (if c then none else x) T := by
  by_cases q : c
  · rw [if_pos q]; exact okN
  · rw [if_neg q]; exact h q
theorem okIE {c : Prop} [Decidable c] {x y : Option γ} (h : c → Okay x T) (k : ¬c → Okay y T) : Okay (if c then x else y) T := by
  by_cases q : c
  · rw [if_pos q]; exact h q
  · rw [if_neg q]; exact k q
theorem okIf {δ : Type} {c : Prop} [Decidable c] {x y : Option γ} {a b : δ} {R : γ → δ} (h : c → Okay x fun r => a = R r) (k : ¬c → Okay y fun r => b = R r) : Okay (if c then x else y) fun r => (if c then a else b) = R r := by
  by_cases q : c
  · rw [if_pos q, if_pos q]; exact h q
  · rw [if_neg q, if_neg q]; exact k q
theorem hideO {P : ε → γ → Prop} {f : ε → Option γ} (h : ∀ T : ε → γ → Prop, (∀ e out, P e out → T e out) → ∀ e, Okay (f e) (T e)) (e : ε) (out : γ) (he : f e = some out) : P e out :=
  h P (fun _ _ x => x) e out he
theorem hideO2 {δ : Type} {P : ε → δ → γ → Prop} {f : ε → δ → Option γ} (h : ∀ T : ε → δ → γ → Prop, (∀ e x out, P e x out → T e x out) → ∀ e x, Okay (f e x) (T e x)) (e : ε) (x : δ) (out : γ) (he : f e x = some out) : P e x out :=
  h P (fun _ _ _ x => x) e x out he
theorem hideG (h : ∀ T : Prop, (G → T) → T) : G := h G fun x => x
/-- the same for an equation in the context -/
theorem bndE {x : Option α} {f : α → Option γ} {b : γ} (e : bnd x f = some b) (k : ∀ a, x = some a → f a = some b → G) : G := okB (T := fun b' => b' = b → G) (fun a h b' e2 q => k a h (q ▸ e2)) b e rfl
theorem outE {o : Option γ} {b : γ} {T : γ → Prop} (e : o = some b) (h : Okay o T) : T b := h b e
@[elab_as_elim] theorem mapE {x : Option α} {f : α → γ} {P : γ → Prop} {b : γ} (e : x.map f = some b) (h : ∀ a, x = some a → P (f a)) : P b := okM h b e
theorem hideT {P : γ → Prop} {o : Option γ} (h : ∀ T : γ → Prop, (∀ a, P a → T a) → Okay o T) : Okay o P := h P fun _ x => x
theorem noS {b : γ} (e : none = some b) : G := nomatch e
theorem ifE {c : Prop} [Decidable c] {x y : Option γ} {b : γ} (e : (if c then x else y) = some b) (h : c → x = some b → G) (k : ¬c → y = some b → G) : G := by
  by_cases q : c
  · exact h q ((if_pos q).symm.trans e)
  · exact k q ((if_neg q).symm.trans e)
theorem iteE {c : Prop} [Decidable c] {x : Option γ} {b : γ} (e : (if c then x else none) = some b) (h : c → x = some b → G) : G := ifE e h fun _ e => noS e
@[elab_as_elim] theorem someE {P : γ → Prop} {a b : γ} (e : some a = some b) (h : P a) : P b := Option.some.inj e ▸ h
end
end Xm

open PySem PySem.W PySem.Calls PyProof.Rows PySem.Spec
namespace Xm

mutual
inductive VF (prog : Program) (w : World) (F : PH) : Value → FV → Prop
  | none : VF prog w F .none .none
  | bool (b : Bool) : VF prog w F (.bool b) (.bool b)
  | int (i : Int) (t : Tok) : VF prog w F (.int i t) (.int i)
  | str (s : Str) (t : Tok) : VF prog w F (.str s t) (.str s)
  | tup {a : Addr} {o : Obj} {vs : Array Value} {n : Nat} {xs : List FV} : F a = some o → o.cls = .type "tuple" → o.data = .seq vs n → VFs prog w F vs.toList xs → VF prog w F (.ref a) (.tup xs)
  | lst {a : Addr} {vs : Array Value} {n : Nat} {xs : List FV} : F a = some { cls := .type "list", data := .seq vs n } → VFs prog w F vs.toList xs → VF prog w F (.ref a) (.lst xs)
  | dic {a : Addr} {o : Obj} {kvs : List (Str × Value)} {es : List (Str × FV)} : F a = some o → (a == sysModules) = false → o.IsDictOf (strKind prog w) kvs → VFd prog w F kvs es → VF prog w F (.ref a) (.dic es)
  | inst {a c dx : Addr} {o : Obj} {kvs : List (Str × Value)} {es : List (Str × FV)} : F a = some (instObj c dx) → F dx = some o → o.IsDictOf (strKind prog w) kvs → VFd prog w F kvs es → VF prog w F (.ref a) (.inst c es)
inductive VFs (prog : Program) (w : World) (F : PH) : List Value → List FV → Prop
  | nil : VFs prog w F [] []
  | cons {v : Value} {vs : List Value} {x : FV} {xs : List FV} : VF prog w F v x → VFs prog w F vs xs → VFs prog w F (v :: vs) (x :: xs)
inductive VFd (prog : Program) (w : World) (F : PH) : List (Str × Value) → List (Str × FV) → Prop
  | nil : VFd prog w F [] []
  | cons {k : Str} {v : Value} {kvs : List (Str × Value)} {x : FV} {es : List (Str × FV)} : VF prog w F v x → VFd prog w F kvs es → VFd prog w F ((k, v) :: kvs) ((k, x) :: es)
end
mutual
inductive VR (prog : Program) (w : World) (ρ : List Addr) (F : PH) : Value → AV → Prop
  | fz {v : Value} {t : FV} : VF prog w F v t → VR prog w ρ F v (.fz t)
  | tup {a : Addr} {o : Obj} {vs : Array Value} {n : Nat} {xs : List AV} : F a = some o → o.cls = .type "tuple" → o.data = .seq vs n → VRs prog w ρ F vs.toList xs → VR prog w ρ F (.ref a) (.tup xs)
  | inst {a c dx : Addr} {o : Obj} {kvs : List (Str × Value)} {es : List (Str × AV)} : F a = some (instObj c dx) → F dx = some o → o.IsDictOf (strKind prog w) kvs → VRd prog w ρ F kvs es → VR prog w ρ F (.ref a) (.inst c es)
  | loc {a : Addr} {i : Nat} : ρ[i]? = some a → VR prog w ρ F (.ref a) (.loc i)
inductive VRs (prog : Program) (w : World) (ρ : List Addr) (F : PH) : List Value → List AV → Prop
  | nil : VRs prog w ρ F [] []
  | cons {v : Value} {vs : List Value} {x : AV} {xs : List AV} : VR prog w ρ F v x → VRs prog w ρ F vs xs → VRs prog w ρ F (v :: vs) (x :: xs)
inductive VRd (prog : Program) (w : World) (ρ : List Addr) (F : PH) : List (Str × Value) → List (Str × AV) → Prop
  | nil : VRd prog w ρ F [] []
  | cons {k : Str} {v : Value} {kvs : List (Str × Value)} {x : AV} {es : List (Str × AV)} : VR prog w ρ F v x → VRd prog w ρ F kvs es → VRd prog w ρ F ((k, v) :: kvs) ((k, x) :: es)
end

noncomputable def Ext (ρ ρ' : List Addr) : Prop := ∀ (i : Nat) (a : Addr), ρ[i]? = some a → ρ'[i]? = some a
theorem Ext.refl (ρ : List Addr) : Ext ρ ρ := fun _ _ e => e
theorem Ext.trans {ρ ρ' ρ'' : List Addr} (x : Ext ρ ρ') (y : Ext ρ' ρ'') : Ext ρ ρ'' := fun i a e => y i a (x i a e)
theorem Ext.snoc (ρ : List Addr) (a : Addr) : Ext ρ (ρ ++ [a]) := fun i b e => by
  obtain ⟨h, _⟩ := List.getElem?_eq_some_iff.mp e
  rw [List.getElem?_append_left h]; exact e
theorem Ext.mem {ρ ρ' : List Addr} (x : Ext ρ ρ') {a : Addr} (h : a ∈ ρ) : a ∈ ρ' := by
  obtain ⟨i, hi⟩ := List.mem_iff_getElem?.mp h
  exact List.mem_iff_getElem?.mpr ⟨i, x i a hi⟩
theorem Ext.take {ρ ρ' : List Addr} (x : Ext ρ ρ') : ρ'.take ρ.length = ρ := by
  apply List.ext_getElem?
  intro i
  by_cases h : i < ρ.length
  · rw [List.getElem?_take_of_lt h]
    have e : ρ[i]? = some ρ[i] := by simp [h]
    rw [e]; exact x i _ e
  · rw [List.getElem?_take_eq_none (by omega), List.getElem?_eq_none (by omega)]

section
variable {prog : Program} {w : World} {ρ ρ' : List Addr} {F F' : PH}
theorem VF.ind {m1 : Value → FV → Prop} {m2 : List Value → List FV → Prop} {m3 : List (Str × Value) → List (Str × FV) → Prop} (h0 : m1 .none .none) (hb : ∀ b, m1 (.bool b) (.bool b)) (hi : ∀ i t, m1 (.int i t) (.int i)) (hs : ∀ s t, m1 (.str s t) (.str s))
    (ht : ∀ {a : Addr} {o : Obj} {vs : Array Value} {n : Nat} {xs : List FV}, F a = some o → o.cls = .type "tuple" → o.data = .seq vs n → m2 vs.toList xs → m1 (.ref a) (.tup xs))
    (hl : ∀ {a : Addr} {vs : Array Value} {n : Nat} {xs : List FV}, F a = some { cls := .type "list", data := .seq vs n } → m2 vs.toList xs → m1 (.ref a) (.lst xs))
    (hd : ∀ {a : Addr} {o : Obj} {kvs : List (Str × Value)} {es : List (Str × FV)}, F a = some o → (a == sysModules) = false → o.IsDictOf (strKind prog w) kvs → m3 kvs es → m1 (.ref a) (.dic es))
    (hn : ∀ {a c dx : Addr} {o : Obj} {kvs : List (Str × Value)} {es : List (Str × FV)}, F a = some (instObj c dx) → F dx = some o → o.IsDictOf (strKind prog w) kvs → m3 kvs es → m1 (.ref a) (.inst c es))
    (n2 : m2 [] []) (c2 : ∀ {v : Value} {vs : List Value} {x : FV} {xs : List FV}, m1 v x → m2 vs xs → m2 (v :: vs) (x :: xs)) (n3 : m3 [] []) (c3 : ∀ {k : Str} {v : Value} {kvs : List (Str × Value)} {x : FV} {es : List (Str × FV)}, m1 v x → m3 kvs es → m3 ((k, v) :: kvs) ((k, x) :: es)) :
    (∀ {v x}, VF prog w F v x → m1 v x) ∧ (∀ {vs xs}, VFs prog w F vs xs → m2 vs xs) ∧ (∀ {vs xs}, VFd prog w F vs xs → m3 vs xs) :=
  ⟨fun h => VF.rec (motive_1 := fun v x _ => m1 v x) (motive_2 := fun v x _ => m2 v x) (motive_3 := fun v x _ => m3 v x) h0 hb hi hs (fun a b c _ => ht a b c) (fun a _ => hl a) (fun a b c _ => hd a b c) (fun a b c _ => hn a b c) n2 (fun _ _ => c2) n3 (fun _ _ => c3) h,
   fun h => VFs.rec (motive_1 := fun v x _ => m1 v x) (motive_2 := fun v x _ => m2 v x) (motive_3 := fun v x _ => m3 v x) h0 hb hi hs (fun a b c _ => ht a b c) (fun a _ => hl a) (fun a b c _ => hd a b c) (fun a b c _ => hn a b c) n2 (fun _ _ => c2) n3 (fun _ _ => c3) h,
   fun h => VFd.rec (motive_1 := fun v x _ => m1 v x) (motive_2 := fun v x _ => m2 v x) (motive_3 := fun v x _ => m3 v x) h0 hb hi hs (fun a b c _ => ht a b c) (fun a _ => hl a) (fun a b c _ => hd a b c) (fun a b c _ => hn a b c) n2 (fun _ _ => c2) n3 (fun _ _ => c3) h⟩
theorem VF.monos (hF : Le F F') : (∀ {v x}, VF prog w F v x → VF prog w F' v x) ∧ (∀ {vs xs}, VFs prog w F vs xs → VFs prog w F' vs xs) ∧ (∀ {vs xs}, VFd prog w F vs xs → VFd prog w F' vs xs) :=
  VF.ind .none .bool .int .str (fun h => .tup (hF _ _ h)) (fun h => .lst (hF _ _ h)) (fun h => .dic (hF _ _ h)) (fun h h' => .inst (hF _ _ h) (hF _ _ h')) .nil .cons .nil .cons
theorem VF.mono (hF : Le F F') {v : Value} {x : FV} (h : VF prog w F v x) : VF prog w F' v x := (VF.monos hF).1 h
theorem VFs.mono (hF : Le F F') {vs : List Value} {xs : List FV} (h : VFs prog w F vs xs) : VFs prog w F' vs xs := (VF.monos hF).2.1 h
theorem VFd.mono (hF : Le F F') {vs : List (Str × Value)} {xs : List (Str × FV)} (h : VFd prog w F vs xs) : VFd prog w F' vs xs := (VF.monos hF).2.2 h
theorem VR.ind {m1 : Value → AV → Prop} {m2 : List Value → List AV → Prop} {m3 : List (Str × Value) → List (Str × AV) → Prop} (h0 : ∀ {v x}, VF prog w F v x → m1 v (.fz x))
    (ht : ∀ {a : Addr} {o : Obj} {vs : Array Value} {n : Nat} {xs : List AV}, F a = some o → o.cls = .type "tuple" → o.data = .seq vs n → m2 vs.toList xs → m1 (.ref a) (.tup xs))
    (hn : ∀ {a c dx : Addr} {o : Obj} {kvs : List (Str × Value)} {es : List (Str × AV)}, F a = some (instObj c dx) → F dx = some o → o.IsDictOf (strKind prog w) kvs → m3 kvs es → m1 (.ref a) (.inst c es))
    (hl : ∀ {a : Addr} {i : Nat}, ρ[i]? = some a → m1 (.ref a) (.loc i))
    (n2 : m2 [] []) (c2 : ∀ {v : Value} {vs : List Value} {x : AV} {xs : List AV}, m1 v x → m2 vs xs → m2 (v :: vs) (x :: xs)) (n3 : m3 [] []) (c3 : ∀ {k : Str} {v : Value} {kvs : List (Str × Value)} {x : AV} {es : List (Str × AV)}, m1 v x → m3 kvs es → m3 ((k, v) :: kvs) ((k, x) :: es)) :
    (∀ {v x}, VR prog w ρ F v x → m1 v x) ∧ (∀ {vs xs}, VRs prog w ρ F vs xs → m2 vs xs) ∧ (∀ {vs xs}, VRd prog w ρ F vs xs → m3 vs xs) :=
  ⟨fun h => VR.rec (motive_1 := fun v x _ => m1 v x) (motive_2 := fun v x _ => m2 v x) (motive_3 := fun v x _ => m3 v x) h0 (fun a b c _ => ht a b c) (fun a b c _ => hn a b c) hl n2 (fun _ _ => c2) n3 (fun _ _ => c3) h,
   fun h => VRs.rec (motive_1 := fun v x _ => m1 v x) (motive_2 := fun v x _ => m2 v x) (motive_3 := fun v x _ => m3 v x) h0 (fun a b c _ => ht a b c) (fun a b c _ => hn a b c) hl n2 (fun _ _ => c2) n3 (fun _ _ => c3) h,
   fun h => VRd.rec (motive_1 := fun v x _ => m1 v x) (motive_2 := fun v x _ => m2 v x) (motive_3 := fun v x _ => m3 v x) h0 (fun a b c _ => ht a b c) (fun a b c _ => hn a b c) hl n2 (fun _ _ => c2) n3 (fun _ _ => c3) h⟩
theorem VR.monos (hρ : Ext ρ ρ') (hF : Le F F') : (∀ {v x}, VR prog w ρ F v x → VR prog w ρ' F' v x) ∧ (∀ {vs xs}, VRs prog w ρ F vs xs → VRs prog w ρ' F' vs xs) ∧ (∀ {vs xs}, VRd prog w ρ F vs xs → VRd prog w ρ' F' vs xs) :=
  VR.ind (fun h => .fz (h.mono hF)) (fun h => .tup (hF _ _ h)) (fun h h' => .inst (hF _ _ h) (hF _ _ h')) (fun h => .loc (hρ _ _ h)) .nil .cons .nil .cons
theorem VR.mono (hρ : Ext ρ ρ') (hF : Le F F') {v : Value} {x : AV} (h : VR prog w ρ F v x) : VR prog w ρ' F' v x := (VR.monos hρ hF).1 h
theorem VRs.mono (hρ : Ext ρ ρ') (hF : Le F F') {vs : List Value} {xs : List AV} (h : VRs prog w ρ F vs xs) : VRs prog w ρ' F' vs xs := (VR.monos hρ hF).2.1 h
theorem VRd.mono (hρ : Ext ρ ρ') (hF : Le F F') {vs : List (Str × Value)} {xs : List (Str × AV)} (h : VRd prog w ρ F vs xs) : VRd prog w ρ' F' vs xs := (VR.monos hρ hF).2.2 h
/-! values that know only the first places -/
theorem VR.smalls {k : Nat} (e : ρ'.take k = ρ.take k) : (∀ {v x}, VR prog w ρ F v x → smallV k x = true → VR prog w ρ' F v x) ∧ (∀ {vs xs}, VRs prog w ρ F vs xs → smallVs k xs = true → VRs prog w ρ' F vs xs) ∧ (∀ {vs xs}, VRd prog w ρ F vs xs → smallVd k xs = true → VRd prog w ρ' F vs xs) :=
  VR.ind (m1 := fun v x => smallV k x = true → VR prog w ρ' F v x) (m2 := fun vs xs => smallVs k xs = true → VRs prog w ρ' F vs xs) (m3 := fun vs xs => smallVd k xs = true → VRd prog w ρ' F vs xs) (fun h _ => .fz h) (fun h c d r hs => .tup h c d (r (by rw [smallV] at hs; exact hs))) (fun h h' d r hs => .inst h h' d (r (by rw [smallV] at hs; exact hs)))
    (fun h hs => .loc (by
      rw [smallV] at hs
      have hi := of_decide_eq_true hs
      rw [← List.getElem?_take_of_lt hi, e, List.getElem?_take_of_lt hi]; exact h))
    (fun _ => .nil) (fun h r hs => by
      rw [smallVs, Bool.and_eq_true] at hs
      exact .cons (h hs.1) (r hs.2)) (fun _ => .nil) (fun h r hs => by
      rw [smallVd, Bool.and_eq_true] at hs
      exact .cons (h hs.1) (r hs.2))
theorem VR.small {k : Nat} (e : ρ'.take k = ρ.take k) {v : Value} {x : AV} (h : VR prog w ρ F v x) (hs : smallV k x = true) : VR prog w ρ' F v x := (VR.smalls e).1 h hs
theorem VRs.small {k : Nat} (e : ρ'.take k = ρ.take k) {vs : List Value} {xs : List AV} (h : VRs prog w ρ F vs xs) (hs : smallVs k xs = true) : VRs prog w ρ' F vs xs := (VR.smalls e).2.1 h hs
theorem VRd.small {k : Nat} (e : ρ'.take k = ρ.take k) {vs : List (Str × Value)} {xs : List (Str × AV)} (h : VRd prog w ρ F vs xs) (hs : smallVd k xs = true) : VRd prog w ρ' F vs xs := (VR.smalls e).2.2 h hs
@[elab_as_elim] theorem VFs.nilE {P : List Value → Prop} {vs : List Value} (h : VFs prog w F vs []) (k : P []) : P vs := by cases h; exact k
@[elab_as_elim] theorem VFs.consE {P : List Value → Prop} {vs : List Value} {x : FV} {xs : List FV} (h : VFs prog w F vs (x :: xs)) (k : ∀ v us, VF prog w F v x → VFs prog w F us xs → P (v :: us)) : P vs := by cases h with | cons h r => exact k _ _ h r
@[elab_as_elim] theorem VRs.nilE {P : List Value → Prop} {vs : List Value} (h : VRs prog w ρ F vs []) (k : P []) : P vs := by cases h; exact k
@[elab_as_elim] theorem VRs.consE {P : List Value → Prop} {vs : List Value} {x : AV} {xs : List AV} (h : VRs prog w ρ F vs (x :: xs)) (k : ∀ v us, VR prog w ρ F v x → VRs prog w ρ F us xs → P (v :: us)) : P vs := by cases h with | cons h r => exact k _ _ h r
@[elab_as_elim] theorem VRs.one {P : List Value → Prop} {vs : List Value} {x : AV} (h : VRs prog w ρ F vs [x]) (k : ∀ v, VR prog w ρ F v x → P [v]) : P vs := VRs.consE h fun v us h r => VRs.nilE r (k v h)
@[elab_as_elim] theorem VRs.two {P : List Value → Prop} {vs : List Value} {x y : AV} (h : VRs prog w ρ F vs [x, y]) (k : ∀ v u, VR prog w ρ F v x → VR prog w ρ F u y → P [v, u]) : P vs := VRs.consE h fun v us h r => VRs.one r fun u h2 => k v u h h2
@[elab_as_elim] theorem VFs.one {P : List Value → Prop} {vs : List Value} {x : FV} (h : VFs prog w F vs [x]) (k : ∀ v, VF prog w F v x → P [v]) : P vs := VFs.consE h fun v us h r => VFs.nilE r (k v h)
@[elab_as_elim] theorem VFs.two {P : List Value → Prop} {vs : List Value} {x y : FV} (h : VFs prog w F vs [x, y]) (k : ∀ v u, VF prog w F v x → VF prog w F u y → P [v, u]) : P vs := VFs.consE h fun v us h r => VFs.one r fun u h2 => k v u h h2
@[elab_as_elim] theorem VFd.nilE {P : List (Str × Value) → Prop} {vs : List (Str × Value)} (h : VFd prog w F vs []) (k : P []) : P vs := by cases h; exact k
@[elab_as_elim] theorem VFd.consE {P : List (Str × Value) → Prop} {vs : List (Str × Value)} {x : Str × FV} {xs : List (Str × FV)} (h : VFd prog w F vs (x :: xs)) (k : ∀ v us, VF prog w F v x.2 → VFd prog w F us xs → P ((x.1, v) :: us)) : P vs := by cases h with | cons h r => exact k _ _ h r
@[elab_as_elim] theorem VRd.nilE {P : List (Str × Value) → Prop} {vs : List (Str × Value)} (h : VRd prog w ρ F vs []) (k : P []) : P vs := by cases h; exact k
@[elab_as_elim] theorem VRd.consE {P : List (Str × Value) → Prop} {vs : List (Str × Value)} {x : Str × AV} {xs : List (Str × AV)} (h : VRd prog w ρ F vs (x :: xs)) (k : ∀ v us, VR prog w ρ F v x.2 → VRd prog w ρ F us xs → P ((x.1, v) :: us)) : P vs := by cases h with | cons h r => exact k _ _ h r
theorem VR.ofF {v : Value} {x : AV} {t : FV} (h : VR prog w ρ F v x) : asF x = some t → VF prog w F v t := by
  induction h using VR.casesOn with
  | fz h => exact fun e => Option.some.inj e ▸ h
  | _ => exact noS
section
variable {v : Value} {t : FV} {P : Value → Prop}
@[elab_as_elim] theorem VF.asI {i : Int} (h : VF prog w F v t) (e : intF t = some i) (k : ∀ tk, P (.int i tk)) : P v := by
  induction h using VF.casesOn with
  | int j t => exact Option.some.inj e ▸ k t
  | _ => exact noS e
@[elab_as_elim] theorem VF.asS {i : Str} (h : VF prog w F v t) (e : strF t = some i) (k : ∀ tk, P (.str i tk)) : P v := by
  induction h using VF.casesOn with
  | str j t => exact Option.some.inj e ▸ k t
  | _ => exact noS e
@[elab_as_elim] theorem VF.asB {b : Bool} (h : VF prog w F v t) (e : boolF t = some b) (k : P (.bool b)) : P v := by
  induction h using VF.casesOn with
  | bool j => exact Option.some.inj e ▸ k
  | _ => exact noS e
@[elab_as_elim] theorem VF.asT {xs : List FV} (h : VF prog w F v t) (e : tupF t = some xs) (k : ∀ a o vs n, F a = some o → o.cls = .type "tuple" → o.data = .seq vs n → VFs prog w F vs.toList xs → P (.ref a)) : P v := by
  induction h using VF.casesOn with
  | tup h c d r => exact k _ _ _ _ h c d (Option.some.inj e ▸ r)
  | _ => exact noS e
@[elab_as_elim] theorem VF.asL {xs : List FV} (h : VF prog w F v t) (e : lstF t = some xs) (k : ∀ a vs n, F a = some { cls := .type "list", data := .seq vs n } → VFs prog w F vs.toList xs → P (.ref a)) : P v := by
  induction h using VF.casesOn with
  | lst h r => exact k _ _ _ h (Option.some.inj e ▸ r)
  | _ => exact noS e
@[elab_as_elim] theorem VF.asD {xs : List (Str × FV)} (h : VF prog w F v t) (e : dicF t = some xs) (k : ∀ a o kvs, F a = some o → (a == sysModules) = false → o.IsDictOf (strKind prog w) kvs → VFd prog w F kvs xs → P (.ref a)) : P v := by
  induction h using VF.casesOn with
  | dic h c d r => exact k _ _ _ h c d (Option.some.inj e ▸ r)
  | _ => exact noS e
@[elab_as_elim] theorem VF.tupE {xs : List FV} (h : VF prog w F v (.tup xs)) (k : ∀ a o vs n, F a = some o → o.cls = .type "tuple" → o.data = .seq vs n → VFs prog w F vs.toList xs → P (.ref a)) : P v := h.asT rfl k
theorem VF.instE {G : Prop} {c : Addr} {es : List (Str × FV)} (h : VF prog w F v (.inst c es)) (k : ∀ a dx o kvs, v = .ref a → F a = some (instObj c dx) → F dx = some o → o.IsDictOf (strKind prog w) kvs → VFd prog w F kvs es → G) : G := by
  cases h with | inst h1 h2 h3 h4 => exact k _ _ _ _ rfl h1 h2 h3 h4
theorem VR.instE {G : Prop} {c : Addr} {es : List (Str × AV)} (h : VR prog w ρ F v (.inst c es)) (k : ∀ a dx o kvs, v = .ref a → F a = some (instObj c dx) → F dx = some o → o.IsDictOf (strKind prog w) kvs → VRd prog w ρ F kvs es → G) : G := by
  cases h with | inst h1 h2 h3 h4 => exact k _ _ _ _ rfl h1 h2 h3 h4
@[elab_as_elim] theorem VR.locE {i : Nat} (h : VR prog w ρ F v (.loc i)) (k : ∀ a, ρ[i]? = some a → P (.ref a)) : P v := by
  cases h with | loc h => exact k _ h
end
theorem tupF_is {t : FV} {xs : List FV} (e : tupF t = some xs) : t = .tup xs := by
  induction t using FV.casesOn with
  | tup => exact congrArg _ (Option.some.inj e)
  | _ => exact noS e
theorem lstF_is {t : FV} {xs : List FV} (e : lstF t = some xs) : t = .lst xs := by
  induction t using FV.casesOn with
  | lst => exact congrArg _ (Option.some.inj e)
  | _ => exact noS e
theorem one_is {α : Type} {l : List α} {x : α} (e : oneL l = some x) : l = [x] := by
  induction l using List.casesOn with
  | nil => exact noS e
  | cons y r => induction r using List.casesOn with
    | nil => exact congrArg (fun z => [z]) (Option.some.inj e)
    | cons => exact noS e
theorem two_is {α : Type} {l : List α} {x : α × α} (e : twoL l = some x) : l = [x.1, x.2] := by
  induction l using List.casesOn with
  | nil => exact noS e
  | cons y r => exact mapE e fun z e2 => congrArg (y :: ·) (one_is e2)
@[elab_as_elim] theorem VRs.ofOne {P : List Value → Prop} {vs : List Value} {xs : List AV} {x : AV} (h : VRs prog w ρ F vs xs) (e : oneL xs = some x) (k : ∀ v, VR prog w ρ F v x → P [v]) : P vs := by cases one_is e; exact VRs.one h k
@[elab_as_elim] theorem VRs.ofTwo {P : List Value → Prop} {vs : List Value} {xs : List AV} {x : AV × AV} (h : VRs prog w ρ F vs xs) (e : twoL xs = some x) (k : ∀ v u, VR prog w ρ F v x.1 → VR prog w ρ F u x.2 → P [v, u]) : P vs := by cases two_is e; exact VRs.two h k
theorem VFs.length {vs : List Value} {xs : List FV} (h : VFs prog w F vs xs) : vs.length = xs.length := by
  induction xs generalizing vs with
  | nil => exact VFs.nilE h rfl
  | cons x xs ih => exact VFs.consE h fun _ _ _ r => congrArg Nat.succ (ih r)
theorem VRs.length {vs : List Value} {xs : List AV} (h : VRs prog w ρ F vs xs) : vs.length = xs.length := by
  induction xs generalizing vs with
  | nil => exact VRs.nilE h rfl
  | cons x xs ih => exact VRs.consE h fun _ _ _ r => congrArg Nat.succ (ih r)
theorem VFs.get {xs : List FV} : ∀ {vs : List Value}, VFs prog w F vs xs → ∀ {i : Nat} {x : FV}, xs[i]? = some x → ∃ v, vs[i]? = some v ∧ VF prog w F v x := by
  induction xs with
  | nil => exact fun _ i x e => noS e
  | cons y xs ih =>
    intro vs h i x
    refine VFs.consE h fun v us h r => ?_
    induction i using Nat.casesOn with
    | zero => exact fun e => ⟨v, rfl, Option.some.inj e ▸ h⟩
    | succ i => exact ih r
theorem VRs.get {xs : List AV} : ∀ {vs : List Value}, VRs prog w ρ F vs xs → ∀ {i : Nat} {x : AV}, xs[i]? = some x → ∃ v, vs[i]? = some v ∧ VR prog w ρ F v x := by
  induction xs with
  | nil => exact fun _ i x e => noS e
  | cons y xs ih =>
    intro vs h i x
    refine VRs.consE h fun v us h r => ?_
    induction i using Nat.casesOn with
    | zero => exact fun e => ⟨v, rfl, Option.some.inj e ▸ h⟩
    | succ i => exact ih r
theorem VFs.append {vs ws : List Value} {xs ys : List FV} (h : VFs prog w F vs xs) (k : VFs prog w F ws ys) : VFs prog w F (vs ++ ws) (xs ++ ys) := by
  induction xs generalizing vs with
  | nil => exact VFs.nilE h k
  | cons x xs ih => exact VFs.consE h fun _ _ h r => .cons h (ih r)
theorem VRs.append {vs ws : List Value} {xs ys : List AV} (h : VRs prog w ρ F vs xs) (k : VRs prog w ρ F ws ys) : VRs prog w ρ F (vs ++ ws) (xs ++ ys) := by
  induction xs generalizing vs with
  | nil => exact VRs.nilE h k
  | cons x xs ih => exact VRs.consE h fun _ _ h r => .cons h (ih r)
theorem VRs.reverse {vs : List Value} {xs : List AV} (h : VRs prog w ρ F vs xs) : VRs prog w ρ F vs.reverse xs.reverse := by
  induction xs generalizing vs with
  | nil => exact VRs.nilE h .nil
  | cons x xs ih => exact VRs.consE h fun v us h r => List.reverse_cons (a := v) (as := us) ▸ List.reverse_cons (a := x) (as := xs) ▸ (ih r).append (.cons h .nil)
theorem VFs.snoc_inv {vs : List Value} {x : FV} {xs : List FV} (h : VFs prog w F vs (xs ++ [x])) : ∃ us u, vs = us ++ [u] ∧ VFs prog w F us xs ∧ VF prog w F u x := by
  induction xs generalizing vs with
  | nil => exact VFs.one h fun v h => ⟨[], v, rfl, .nil, h⟩
  | cons y ys ih => exact VFs.consE h fun v _ h r => (ih r).elim fun us q => q.elim fun u q => ⟨v :: us, u, congrArg (v :: ·) q.1, .cons h q.2.1, q.2.2⟩
theorem VFs.set {vs : List Value} {v : Value} {x : FV} (hv : VF prog w F v x) {xs : List FV} {i : Nat} (h : VFs prog w F vs xs) : VFs prog w F (vs.set i v) (xs.set i x) := by
  induction xs generalizing vs i with
  | nil => exact VFs.nilE h .nil
  | cons y xs ih =>
    refine VFs.consE h fun u us h r => ?_
    induction i using Nat.casesOn with
    | zero => exact .cons hv r
    | succ i => exact .cons h (ih r)
theorem VFs.toR {vs : List Value} {xs : List FV} (h : VFs prog w F vs xs) : VRs prog w ρ F vs (xs.map .fz) := by
  induction xs generalizing vs with
  | nil => exact VFs.nilE h .nil
  | cons x xs ih => exact VFs.consE h fun _ _ h r => .cons (.fz h) (ih r)
theorem VFd.keys {kvs : List (Str × Value)} {es : List (Str × FV)} (h : VFd prog w F kvs es) : kvs.map (·.1) = es.map (·.1) := by
  induction es generalizing kvs with
  | nil => exact VFd.nilE h rfl
  | cons x es ih => exact VFd.consE h fun _ _ _ r => congrArg (x.1 :: ·) (ih r)
theorem VRd.keys {kvs : List (Str × Value)} {es : List (Str × AV)} (h : VRd prog w ρ F kvs es) : kvs.map (·.1) = es.map (·.1) := by
  induction es generalizing kvs with
  | nil => exact VRd.nilE h rfl
  | cons x es ih => exact VRd.consE h fun _ _ _ r => congrArg (x.1 :: ·) (ih r)
theorem lookup_eqE {α : Type} {k : Str} {p : Str × α} {es : List (Str × α)} {x : α} {G : Prop} (e : (p :: es).lookup k = some x) (h : k = p.1 → p.2 = x → G) (h' : k ≠ p.1 → es.lookup k = some x → G) : G := by
  rw [List.lookup_cons] at e
  by_cases q : k = p.1
  · rw [show (k == p.1) = true from beq_iff_eq.mpr q] at e; exact h q (Option.some.inj e)
  · rw [show (k == p.1) = false from beq_eq_false_iff_ne.mpr q] at e; exact h' q e
theorem valueAt_here {k : Str} {v : Value} {kvs : List (Str × Value)} : valueAt ((k, v) :: kvs) k = some v := by simp [valueAt]
theorem valueAt_next {k k' : Str} {v : Value} {kvs : List (Str × Value)} (h : k ≠ k') : valueAt ((k', v) :: kvs) k = valueAt kvs k := by
  unfold valueAt
  rw [List.find?_cons, show decide (k' = k) = false from decide_eq_false fun q => h q.symm]
theorem VFd.find {kvs : List (Str × Value)} {es : List (Str × FV)} {k : Str} {x : FV} (h : VFd prog w F kvs es) (e : es.lookup k = some x) : ∃ v, valueAt kvs k = some v ∧ VF prog w F v x := by
  induction es generalizing kvs with
  | nil => exact noS e
  | cons p es ih => exact VFd.consE h fun v us h r => lookup_eqE e (fun q q2 => ⟨v, q ▸ valueAt_here, q2 ▸ h⟩) fun q e => (ih r e).imp fun v q2 => ⟨(valueAt_next q).trans q2.1, q2.2⟩
theorem VRd.find {kvs : List (Str × Value)} {es : List (Str × AV)} {k : Str} {x : AV} (h : VRd prog w ρ F kvs es) (e : es.lookup k = some x) : ∃ v, valueAt kvs k = some v ∧ VR prog w ρ F v x := by
  induction es generalizing kvs with
  | nil => exact noS e
  | cons p es ih => exact VRd.consE h fun v us h r => lookup_eqE e (fun q q2 => ⟨v, q ▸ valueAt_here, q2 ▸ h⟩) fun q e => (ih r e).imp fun v q2 => ⟨(valueAt_next q).trans q2.1, q2.2⟩
theorem valueAt_none {α : Type} {kvs : List (Str × Value)} {es : List (Str × α)} (e : kvs.map (·.1) = es.map (·.1)) {k : Str} (h : es.lookup k = none) : valueAt kvs k = none := by
  unfold valueAt
  rw [Option.map_eq_none_iff, List.find?_eq_none]
  intro p hp hd
  obtain ⟨q, hq, hq2⟩ := List.mem_map.mp (e ▸ List.mem_map_of_mem hp : p.1 ∈ es.map (·.1))
  exact bne_iff_ne.mp (List.lookup_eq_none_iff.mp h q hq) ((of_decide_eq_true hd).symm.trans hq2.symm)
theorem VFd.isSome {kvs : List (Str × Value)} {es : List (Str × FV)} (h : VFd prog w F kvs es) (k : Str) : (valueAt kvs k).isSome = (es.lookup k).isSome := by
  cases e : es.lookup k with
  | none => rw [valueAt_none h.keys e]; rfl
  | some x => obtain ⟨v, e', _⟩ := h.find e; rw [e']; rfl
theorem any_keys {α : Type} (es : List (Str × α)) (k : Str) : (es.map (·.1)).any (· == k) = es.any (fun p => p.1 == k) := List.any_map
theorem stored_any {α : Type} {kvs : List (Str × Value)} {es : List (Str × α)} (e : kvs.map (·.1) = es.map (·.1)) (k : Str) : kvs.any (fun kv => decide (kv.1 = k)) = es.any (fun p => p.1 == k) :=
  (any_keys kvs k).symm.trans ((congrArg (List.any · (· == k)) e).trans (any_keys es k))
theorem VFd.snoc {kvs : List (Str × Value)} {es : List (Str × FV)} (h : VFd prog w F kvs es) {k : Str} {v : Value} {x : FV} (hv : VF prog w F v x) : VFd prog w F (kvs ++ [(k, v)]) (es ++ [(k, x)]) := by
  induction es generalizing kvs with
  | nil => exact VFd.nilE h (.cons hv .nil)
  | cons p es ih => exact VFd.consE h fun _ _ h r => .cons h (ih r)
theorem VFd.over {kvs : List (Str × Value)} {es : List (Str × FV)} (h : VFd prog w F kvs es) {k : Str} {v : Value} {x : FV} (hv : VF prog w F v x) : VFd prog w F (kvs.map fun p => if p.1 = k then (p.1, v) else p) (es.map fun p => if p.1 == k then (p.1, x) else p) := by
  induction es generalizing kvs with
  | nil => exact VFd.nilE h .nil
  | cons p es ih =>
    refine VFd.consE h fun u us h r => ?_
    rw [List.map_cons, List.map_cons]
    by_cases hk : p.1 = k
    · rw [if_pos hk, if_pos (beq_iff_eq.mpr hk)]; exact .cons hv (ih r)
    · rw [if_neg hk, if_neg (fun q => hk (beq_iff_eq.mp q))]; exact .cons h (ih r)
theorem VFd.stored {kvs : List (Str × Value)} {es : List (Str × FV)} (h : VFd prog w F kvs es) (k : Str) {v : Value} {x : FV} (hv : VF prog w F v x) : VFd prog w F (PySem.stored kvs k v) (store es k x) := by
  unfold PySem.stored store
  rw [stored_any h.keys]
  by_cases hc : es.any (fun p => p.1 == k) = true
  · rw [if_pos hc, if_pos hc]; exact h.over hv
  · rw [if_neg hc, if_neg hc]; exact h.snoc hv
theorem VRd.snoc {kvs : List (Str × Value)} {es : List (Str × AV)} (h : VRd prog w ρ F kvs es) {k : Str} {v : Value} {x : AV} (hv : VR prog w ρ F v x) : VRd prog w ρ F (kvs ++ [(k, v)]) (es ++ [(k, x)]) := by
  induction es generalizing kvs with
  | nil => exact VRd.nilE h (.cons hv .nil)
  | cons p es ih => exact VRd.consE h fun _ _ h r => .cons h (ih r)

/-- all frozen -/
theorem fzs_sound {xs : List AV} {ts : List FV} {vs : List Value} (e : fzs xs = some ts) (h : VRs prog w ρ F vs xs) : VFs prog w F vs ts := by
  induction xs generalizing ts vs with
  | nil => exact someE e (VRs.nilE h .nil)
  | cons x r ih => exact bndE e fun t e1 e => mapE e fun us e2 => VRs.consE h fun _ _ h r => .cons (h.ofF e1) (ih e2 r)
theorem fzd_sound {xs : List (Str × AV)} {ts : List (Str × FV)} {vs : List (Str × Value)} (e : fzd xs = some ts) (h : VRd prog w ρ F vs xs) : VFd prog w F vs ts := by
  induction xs generalizing ts vs with
  | nil => exact someE e (VRd.nilE h .nil)
  | cons x r ih => exact bndE e fun t e1 e => mapE e fun us e2 => VRd.consE h fun _ _ h r => .cons (h.ofF e1) (ih e2 r)
theorem mkTup_sound {a : Addr} {o : Obj} {vs : Array Value} {n : Nat} {xs : List AV} (h : F a = some o) (c : o.cls = .type "tuple") (d : o.data = .seq vs n) (r : VRs prog w ρ F vs.toList xs) : VR prog w ρ F (.ref a) (mkTup xs) := by
  unfold mkTup
  split
  · rename_i ts e; exact .fz (.tup h c d (fzs_sound e r))
  · exact .tup h c d r
theorem mkInst_sound {a c dx : Addr} {o : Obj} {kvs : List (Str × Value)} {es : List (Str × AV)} (h : F a = some (instObj c dx)) (h' : F dx = some o) (d : o.IsDictOf (strKind prog w) kvs) (r : VRd prog w ρ F kvs es) : VR prog w ρ F (.ref a) (mkInst c es) := by
  unfold mkInst
  split
  · rename_i ts e; exact .fz (.inst h h' d (fzd_sound e r))
  · exact .inst h h' d r
end

section
variable {prog : Program} {w : World} {F : PH} {h : Heap}
theorem VF.readss (hF : ∀ a o, F a = some o → h.get? a = some o) : (∀ {v x}, VF prog w F v x → Okay (toPy x) fun d => ∃ as, Reads h v d as) ∧ (∀ {vs xs}, VFs prog w F vs xs → Okay (toPys xs) fun ds => ∃ as, ReadsAll h vs ds as) ∧ (∀ {vs xs}, VFd prog w F vs xs → True) :=
  VF.ind (m1 := fun v x => Okay (toPy x) fun d => ∃ as, Reads h v d as) (m2 := fun vs xs => Okay (toPys xs) fun ds => ∃ as, ReadsAll h vs ds as) (m3 := fun _ _ => True) (okS ⟨_, .none⟩) (fun b => okS ⟨_, .bool b⟩) (fun i t => okS ⟨_, .int i t⟩) (fun s t => okS ⟨_, .str s t⟩)
    (fun hf c dd r => okM fun _ e => (r _ e).elim fun _ q => ⟨_, .tuple (hF _ _ hf) c dd q⟩) (fun hf r => okM fun _ e => (r _ e).elim fun _ q => ⟨_, .list (hF _ _ hf) rfl rfl q⟩) (fun _ _ _ _ => okN) (fun _ _ _ _ => okN)
    (okS ⟨_, .nil⟩) (fun hv r => okB fun _ e1 => okM fun _ e2 => (hv _ e1).elim fun _ q => (r _ e2).elim fun _ q' => ⟨_, .cons q q'⟩) trivial (fun _ _ => trivial)
theorem VF.reads (hF : ∀ a o, F a = some o → h.get? a = some o) {v : Value} {x : FV} {d : PyData} (q : VF prog w F v x) (e : toPy x = some d) : ∃ as, Reads h v d as := (VF.readss hF).1 q d e
theorem VFs.reads (hF : ∀ a o, F a = some o → h.get? a = some o) {vs : List Value} {xs : List FV} {ds : List PyData} (q : VFs prog w F vs xs) (e : toPys xs = some ds) : ∃ as, ReadsAll h vs ds as := (VF.readss hF).2.1 q ds e
end
theorem bnd_some {α β : Type} {x : Option α} {f : α → Option β} {b : β} (e : bnd x f = some b) : ∃ a, x = some a ∧ f a = some b := by
  cases x with
  | none => cases e
  | some a => exact ⟨a, rfl, e⟩
theorem lookup_map {α : Type} {es : List (Str × α)} {x y : Str} {v : α} (h : y ≠ x) : (es.map (fun p => if p.1 == x then (p.1, v) else p)).lookup y = es.lookup y := by
  induction es with
  | nil => rfl
  | cons p r ih =>
    rw [List.map_cons, List.lookup_cons, List.lookup_cons, ih]
    by_cases hk : p.1 = x
    · rw [if_pos (beq_iff_eq.mpr hk), show (y == p.1) = false from beq_eq_false_iff_ne.mpr (hk ▸ h)]
    · rw [if_neg (fun q => hk (beq_iff_eq.mp q))]
theorem lookup_over {α : Type} {es : List (Str × α)} {x : Str} {v : α} (h : es.any (fun p => p.1 == x) = true) : (es.map (fun p => if p.1 == x then (p.1, v) else p)).lookup x = some v := by
  induction es with
  | nil => exact Bool.noConfusion h
  | cons p r ih =>
    rw [List.map_cons, List.lookup_cons]
    by_cases hk : p.1 = x
    · rw [if_pos (beq_iff_eq.mpr hk), show (x == p.1) = true from beq_iff_eq.mpr hk.symm]
    · rw [if_neg (fun q => hk (beq_iff_eq.mp q)), show (x == p.1) = false from beq_eq_false_iff_ne.mpr fun q => hk q.symm]
      refine ih ?_
      rw [List.any_cons, show (p.1 == x) = false from beq_eq_false_iff_ne.mpr hk] at h
      exact h
theorem lookup_store {α : Type} {es : List (Str × α)} {x y : Str} {v : α} : (store es x v).lookup y = if y = x then some v else es.lookup y := by
  unfold store
  by_cases hy : y = x
  · rw [if_pos hy, hy]
    by_cases hc : es.any (fun p => p.1 == x) = true
    · rw [if_pos hc]; exact lookup_over hc
    · rw [if_neg hc, List.lookup_append, show es.lookup x = none from List.lookup_eq_none_iff.mpr fun p hp => bne_iff_ne.mpr fun q => hc (List.any_eq_true.mpr ⟨p, hp, beq_iff_eq.mpr q.symm⟩)]
      exact (List.lookup_cons_self : List.lookup x [(x, v)] = some v)
  · rw [if_neg hy]
    by_cases hc : es.any (fun p => p.1 == x) = true
    · rw [if_pos hc]; exact lookup_map hy
    · rw [if_neg hc, List.lookup_append, show List.lookup y [(x, v)] = none by rw [List.lookup_cons, show (y == x) = false from beq_eq_false_iff_ne.mpr hy]; rfl]
      exact Option.or_none
end Xm

open PySem PySem.W PySem.Calls PyProof.Rows PySem.Spec
namespace Xm
open PyProof.Rows.LCg (NsObj)

structure D0 where
  prog : Program
  w : World
  K : Frag
  h₀ : Heap
  kn : PH → Obj → List (FV × FV) → Prop
  tb : Tb
  dm : Nat
  um : Nat

inductive AOR (d : D0) (F : PH) : Obj → AO → Prop
  | lst {vs : Array Value} {n : Nat} {xs : List FV} : VFs d.prog d.w F vs.toList xs → AOR d F { cls := .type "list", data := .seq vs n } (.lst xs)
  | dic {o : Obj} {kvs : List (Str × Value)} {es : List (Str × FV)} : o.IsDictOf (strKind d.prog d.w) kvs → VFd d.prog d.w F kvs es → AOR d F o (.dic es)
  | kno {o : Obj} {es : List (FV × FV)} : d.kn F o es → AOR d F o (.kno es)
inductive PlR (d : D0) (F : PH) (led : Led) (a : Addr) : AO → Prop
  | own {o : Obj} {ao : AO} : (a, o) ∈ led → AOR d F o ao → PlR d F led a ao
  | fz {t : FV} : VF d.prog d.w F (.ref a) t → PlR d F led a (.fz t)
  | obj {c dx : Addr} : F a = some (instObj c dx) → PlR d F led a .obj

structure OwnR (d : D0) (ρ : List Addr) (ow : List AO) (F : PH) (led : Led) : Prop where
  own : ∀ (i : Nat) (ao : AO), ow[i]? = some ao → ∃ a, ρ[i]? = some a ∧ PlR d F led a ao
  len : ρ.length = ow.length
  nd : ρ.Nodup
  fz : ∀ p ∈ led, ∀ q ∈ led, p.1 = q.1 → p = q

noncomputable def VarAt (env : Env) (led : Led) (m : Str → Option Value) (x : Str) (v : Value) : Prop :=
  (env.kindOf x = some .local ∧ m x = some v) ∨ ((env.kindOf x = some .cell ∨ env.kindOf x = some .free) ∧ ∃ c o, env.cells.lookup x = some c ∧ (c, o) ∈ led ∧ o.data = .cell (some v))

structure IRel (d : D0) (env : Env) (wr : List Addr) (ρ : List Addr) (σ : AS) (F : PH) (led : Led) : Prop where
  sc : ∀ x, env.kindOf x = σ.sc.lookup x ∨ (σ.sc.lookup x = some .free ∧ env.kindOf x = some .cell)
  fr : ∃ oL m, (env.locals, oL) ∈ led ∧ NsObj oL m ∧ ∀ x av, σ.vars.lookup x = some av → ∃ v, VarAt env led m x v ∧ VR d.prog d.w ρ F v av
  cel : ∀ c ∈ env.cells, (∃ o v, (c.2, o) ∈ led ∧ o.data = .cell v) ∧ c.2 ≠ env.locals
  off : ∀ a ∈ ρ, a ≠ env.locals ∧ ∀ c ∈ env.cells, c.2 ≠ a
  inj : ∀ x y c, env.cells.lookup x = some c → env.cells.lookup y = some c → x = y
  wrL : env.locals ∈ wr
  wrC : ∀ x c, σ.sc.lookup x = some .cell → env.cells.lookup x = some c → c ∈ wr
  celX : ∀ x, σ.sc.lookup x = some .cell → ∃ c, env.cells.lookup x = some c
  wrI : ∀ a ∈ wr, a = env.locals ∨ ∃ c ∈ env.cells, c.2 = a
  own : OwnR d ρ σ.ow F led

structure Stp (wr : List Addr) (ρ : List Addr) (F : PH) (led : Led) (ρ' : List Addr) (F' : PH) (led' : Led) : Prop where
  ext : Ext ρ ρ'
  le : Le F F'
  keep : ∀ p ∈ led, p.1 ∉ ρ → p.1 ∉ wr → p ∈ led'
  here : ∀ p ∈ led, p.1 ∉ ρ → ∃ q ∈ led', q.1 = p.1
  fresh : ∀ a ∈ ρ', a ∉ ρ → ∀ p ∈ led, p.1 ≠ a

noncomputable def Base (d : D0) (F : PH) : Prop := ∀ a o, d.h₀.get? a = some o → F a = some o
theorem Base.le {d : D0} {F F' : PH} (B : Base d F) (l : Le F F') : Base d F' := fun a o e => l _ _ (B a o e)
theorem Base.keeps {d : D0} {F O : PH} {led : Led} {h : Heap} (B : Base d F) (S : LSt F O led h) : ∀ b o, d.h₀.get? b = some o → h.get? b = some o := fun b o e => S.fz _ _ (B b o e)

theorem LSt.uq {F O : PH} {led : Led} {h : Heap} (S : LSt F O led h) : ∀ p ∈ led, ∀ q ∈ led, p.1 = q.1 → p = q := fun p hp q hq e => by
  have h1 := (S.ld p hp).1
  have h2 := (S.ld q hq).1
  rw [e, h2] at h1
  cases p; cases q; cases e; cases h1; rfl
theorem lookup_mem {α : Type} {l : List (Str × α)} {x : Str} {c : α} (e : l.lookup x = some c) : ∃ p ∈ l, p.2 = c := by
  induction l with
  | nil => exact noS e
  | cons p r ih => exact lookup_eqE e (fun _ h => ⟨p, .head _, h⟩) fun _ e => (ih e).imp fun q h => ⟨.tail _ h.1, h.2⟩

section
variable {d : D0} {wr wr' : List Addr} {ρ ρ' : List Addr} {F F' : PH} {led led' : Led} {ow ow' : List AO}
theorem Stp.refl : Stp wr ρ F led ρ F led := ⟨Ext.refl _, Le.refl _, fun _ h _ _ => h, fun p h _ => ⟨p, h, rfl⟩, fun a h n => absurd h n⟩
theorem Stp.wk (s : Stp wr ρ F led ρ' F' led') (h : ∀ a ∈ wr, a ∈ wr') : Stp wr' ρ F led ρ' F' led' := ⟨s.ext, s.le, fun p hp n m => s.keep p hp n fun q => m (h _ q), s.here, s.fresh⟩
theorem Stp.nil (s : Stp [] ρ F led ρ' F' led') : Stp wr ρ F led ρ' F' led' := s.wk fun _ h => nomatch h
theorem Stp.trans {ρ'' : List Addr} {F'' : PH} {led'' : Led} (x : Stp wr ρ F led ρ' F' led') (y : Stp wr ρ' F' led' ρ'' F'' led'') : Stp wr ρ F led ρ'' F'' led'' :=
  ⟨x.ext.trans y.ext, x.le.trans y.le, fun p hp n m => by
      have h1 := x.keep p hp n m
      by_cases hn : p.1 ∈ ρ'
      · exact absurd rfl (x.fresh _ hn n p hp)
      · exact y.keep p h1 hn m,
   fun p hp n => by
      obtain ⟨q, hq, e⟩ := x.here p hp n
      have hn : q.1 ∉ ρ' := fun h => by rw [e] at h; exact absurd rfl (x.fresh _ h n p hp)
      obtain ⟨r, hr, e'⟩ := y.here q hq hn
      exact ⟨r, hr, e'.trans e⟩,
   fun a ha n p hp => by
      by_cases hn : a ∈ ρ'
      · exact x.fresh a hn n p hp
      · by_cases hq : p.1 ∈ ρ
        · intro e; exact hn (e ▸ x.ext.mem hq)
        · obtain ⟨q, hq', e⟩ := x.here p hp hq
          intro e'
          exact y.fresh a ha hn q hq' (e.trans e')⟩
noncomputable def KnM (d : D0) : Prop := ∀ F F' o es, Le F F' → d.kn F o es → d.kn F' o es
theorem AOR.mono (hI : KnM d) (hF : Le F F') {o : Obj} {ao : AO} (h : AOR d F o ao) : AOR d F' o ao := by
  induction h using AOR.casesOn with
  | lst h => exact .lst (h.mono hF)
  | dic h r => exact .dic h (r.mono hF)
  | kno h => exact .kno (hI _ _ _ _ hF h)
theorem PlR.mono (hI : KnM d) (hF : Le F F') {a : Addr} {ao : AO} (h : PlR d F led a ao) : PlR d F' led a ao := by
  induction h using PlR.casesOn with
  | own hm h => exact .own hm (h.mono hI hF)
  | fz h => exact .fz (h.mono hF)
  | obj h => exact .obj (hF _ _ h)
theorem PlR.ofLed {a : Addr} {ao : AO} (h : PlR d F led a ao) (k : ∀ o, (a, o) ∈ led → (a, o) ∈ led') : PlR d F led' a ao := by
  induction h using PlR.casesOn with
  | own hm h => exact .own (k _ hm) h
  | fz h => exact .fz h
  | obj h => exact .obj h
theorem VF.some_at {v : Value} {t : FV} (h : VF d.prog d.w F v t) : ∀ a, v = .ref a → ∃ o, F a = some o := by
  induction h using VF.casesOn with
  | tup h => exact fun a e => Value.ref.inj e ▸ ⟨_, h⟩
  | lst h => exact fun a e => Value.ref.inj e ▸ ⟨_, h⟩
  | dic h => exact fun a e => Value.ref.inj e ▸ ⟨_, h⟩
  | inst h => exact fun a e => Value.ref.inj e ▸ ⟨_, h⟩
  | _ => exact fun a e => nomatch e
theorem VF.ref_some {a : Addr} {t : FV} (h : VF d.prog d.w F (.ref a) t) : ∃ o, F a = some o := h.some_at a rfl
theorem OwnR.mono (hI : KnM d) (x : OwnR d ρ ow F led) (hF : Le F F') : OwnR d ρ ow F' led :=
  ⟨fun i ao e => let ⟨a, h1, h2⟩ := x.own i ao e; ⟨a, h1, h2.mono hI hF⟩, x.len, x.nd, x.fz⟩
theorem OwnR.at (x : OwnR d ρ ow F led) {i : Nat} {ao : AO} {a : Addr} (e : ow[i]? = some ao) (ha : ρ[i]? = some a) : PlR d F led a ao := by
  obtain ⟨b, h1, h2⟩ := x.own i ao e
  rw [ha] at h1; cases h1
  exact h2
theorem OwnR.memρ (R : OwnR d ρ ow F led) {a : Addr} (h : a ∈ ρ) : (∃ o, (a, o) ∈ led) ∨ ∃ o, F a = some o := by
  obtain ⟨i, hi⟩ := List.mem_iff_getElem?.mp h
  obtain ⟨hlt, _⟩ := List.getElem?_eq_some_iff.mp hi
  have h2 : i < ow.length := by rw [← R.len]; exact hlt
  have h3 := R.at (ao := ow[i]) (by simp [h2]) hi
  generalize ow[i] = ao at h3
  induction h3 using PlR.casesOn with
  | own hm _ => exact .inl ⟨_, hm⟩
  | fz h => exact .inr h.ref_some
  | obj h => exact .inr ⟨_, h⟩
theorem OwnR.notMem (R : OwnR d ρ ow F led) {a : Addr} (h : ∀ p ∈ led, p.1 ≠ a) (hf : F a = none) : a ∉ ρ := fun q => by
  rcases R.memρ q with ⟨o, ho⟩ | ⟨o, ho⟩
  · exact h _ ho rfl
  · rw [hf] at ho; cases ho
/-- one more place -/
theorem OwnR.snoc (x : OwnR d ρ ow F led) {b : Addr} {ao : AO} (hb : b ∉ ρ) (p : PlR d F led b ao) : OwnR d (ρ ++ [b]) (ow ++ [ao]) F led := by
  refine ⟨fun i ao' e => ?_, by rw [List.length_append, List.length_append, x.len]; rfl, List.nodup_append.mpr ⟨x.nd, List.nodup_cons.mpr ⟨List.not_mem_nil, List.nodup_nil⟩, fun c hc c' hc' e => hb (List.mem_singleton.mp hc' ▸ e ▸ hc)⟩, x.fz⟩
  by_cases hi : i < ow.length
  · rw [List.getElem?_append_left hi] at e
    exact (x.own i ao' e).imp fun c g => ⟨Ext.snoc _ _ _ _ g.1, g.2⟩
  · have hi' : ow.length ≤ i := Nat.le_of_not_lt hi
    rw [List.getElem?_append_right hi', List.getElem?_singleton] at e
    by_cases h0 : i - ow.length = 0
    · rw [if_pos h0] at e
      have hi2 : i = ρ.length := (Nat.le_antisymm (Nat.le_of_sub_eq_zero h0) hi').trans x.len.symm
      exact ⟨b, by rw [hi2]; exact List.getElem?_concat_length, Option.some.inj e ▸ p⟩
    · rw [if_neg h0] at e; exact noS e
theorem OwnR.ofLed (x : OwnR d ρ ow F led) (k : ∀ p ∈ led, p.1 ∈ ρ → p ∈ led') (u : ∀ p ∈ led', ∀ q ∈ led', p.1 = q.1 → p = q) : OwnR d ρ ow F led' :=
  ⟨fun i ao e => (x.own i ao e).imp fun b g => ⟨g.1, g.2.ofLed fun o h => k _ h (List.mem_iff_getElem?.mpr ⟨i, g.1⟩)⟩, x.len, x.nd, u⟩
/-- a new owned object -/
theorem OwnR.push (x : OwnR d ρ ow F led) {a : Addr} {o : Obj} {ao : AO} (hf : ∀ p ∈ led, p.1 ≠ a) (ha : a ∉ ρ) (r : AOR d F o ao) : OwnR d (ρ ++ [a]) (ow ++ [ao]) F ((a, o) :: led) ∧ Stp [] ρ F led (ρ ++ [a]) F ((a, o) :: led) := by
  refine ⟨(x.ofLed (led' := (a, o) :: led) (fun p hp _ => .tail _ hp) fun p hp q hq e => ?_).snoc ha (.own (.head _) r), ⟨Ext.snoc _ _, Le.refl _, fun p hp _ _ => .tail _ hp, fun p hp _ => ⟨p, .tail _ hp, rfl⟩, fun b hb n p hp => (List.mem_append.mp hb).elim (fun h => absurd h n) fun h => List.mem_singleton.mp h ▸ hf p hp⟩⟩
  rcases List.mem_cons.mp hp with rfl | hp
  · rcases List.mem_cons.mp hq with rfl | hq
    · rfl
    · exact absurd e.symm (hf q hq)
  · rcases List.mem_cons.mp hq with rfl | hq
    · exact absurd e (hf p hp)
    · exact x.fz p hp q hq e
theorem setAt_uq {a : Addr} {o : Obj} (h : ∀ p ∈ led, ∀ q ∈ led, p.1 = q.1 → p = q) : ∀ p ∈ setAt a o led, ∀ q ∈ setAt a o led, p.1 = q.1 → p = q := by
  intro p hp q hq e
  rcases of_mem_setAt hp with rfl | ⟨hp, np⟩
  · rcases of_mem_setAt hq with rfl | ⟨hq, nq⟩
    · rfl
    · exact absurd e.symm nq
  · rcases of_mem_setAt hq with rfl | ⟨hq, nq⟩
    · exact absurd e np
    · exact h p hp q hq e
theorem setAt_here {a : Addr} {o : Obj} {p : Addr × Obj} (h : p ∈ led) : ∃ q ∈ setAt a o led, q.1 = p.1 := by
  by_cases e : p.1 = a
  · exact ⟨(a, o), mem_setAt_self (o' := p.2) (by rw [← e]; exact h), e.symm⟩
  · exact ⟨p, mem_setAt_ne h e, rfl⟩
theorem nodup_ne (x : ρ.Nodup) {i j : Nat} {a b : Addr} (hi : ρ[i]? = some a) (hj : ρ[j]? = some b) (n : i ≠ j) : b ≠ a := fun e => by
  subst e
  obtain ⟨hi, e1⟩ := List.getElem?_eq_some_iff.mp hi
  obtain ⟨hj', e2⟩ := List.getElem?_eq_some_iff.mp hj
  have hp := List.pairwise_iff_getElem.mp x
  rcases Nat.lt_or_gt_of_ne n with q | q
  · exact hp i j hi hj' q (e1.trans e2.symm)
  · exact hp j i hj' hi q (e2.trans e1.symm)
theorem OwnR.setPl (x : OwnR d ρ ow F led) {i : Nat} {a : Addr} {ao : AO} (ha : ρ[i]? = some a) (u : ∀ p ∈ led', ∀ q ∈ led', p.1 = q.1 → p = q) (p : PlR d F' led' a ao) (k : ∀ b, b ≠ a → ∀ ao, PlR d F led b ao → PlR d F' led' b ao) : OwnR d ρ (ow.set i ao) F' led' := by
  refine ⟨fun j ao' e => ?_, x.len.trans List.length_set.symm, x.nd, u⟩
  by_cases hj : i = j
  · rw [← hj, List.getElem?_set_self (x.len ▸ (List.getElem?_eq_some_iff.mp ha).1)] at e
    exact ⟨a, hj ▸ ha, Option.some.inj e ▸ p⟩
  · rw [List.getElem?_set_ne hj] at e
    exact (x.own j ao' e).imp fun b g => ⟨g.1, k b (nodup_ne x.nd ha g.1 hj) _ g.2⟩
/-- an owned object is changed -/
theorem OwnR.set (x : OwnR d ρ ow F led) {i : Nat} {a : Addr} {o : Obj} {ao : AO} (ha : ρ[i]? = some a) (r : AOR d F o ao) {o₀ : Obj} (hm : (a, o₀) ∈ led) : OwnR d ρ (ow.set i ao) F (setAt a o led) ∧ Stp [] ρ F led ρ F (setAt a o led) :=
  ⟨x.setPl ha (setAt_uq x.fz) (.own (mem_setAt_self hm) r) fun b hb ao p => p.ofLed fun o h => mem_setAt_ne h hb,
    ⟨Ext.refl _, Le.refl _, fun p hp n _ => mem_setAt_ne hp fun e => n (e ▸ List.mem_iff_getElem?.mpr ⟨i, ha⟩), fun p hp _ => setAt_here hp, fun b hb n => absurd hb n⟩⟩
/-- an owned object is frozen -/
theorem OwnR.frz (hI : KnM d) (x : OwnR d ρ ow F led) {i : Nat} {a : Addr} {o₀ : Obj} {t : FV} (ha : ρ[i]? = some a) (hm : (a, o₀) ∈ led) (hle : Le F (put F a o₀)) (r : VF d.prog d.w (put F a o₀) (.ref a) t) :
    OwnR d ρ (ow.set i (.fz t)) (put F a o₀) (led.filter fun p => !(p.1 == a)) ∧ Stp [] ρ F led ρ (put F a o₀) (led.filter fun p => !(p.1 == a)) := by
  have hmem : a ∈ ρ := List.mem_iff_getElem?.mpr ⟨i, ha⟩
  have hin : ∀ p ∈ led, p.1 ≠ a → p ∈ led.filter fun p => !(p.1 == a) := fun p hp n => List.mem_filter.mpr ⟨hp, congrArg (!·) (beq_eq_false_iff_ne.mpr n)⟩
  exact ⟨x.setPl ha (fun p hp q hq => x.fz p (List.mem_filter.mp hp).1 q (List.mem_filter.mp hq).1) (.fz r) fun b hb ao p => (p.mono hI hle).ofLed fun o h => hin _ h hb,
    ⟨Ext.refl _, hle, fun p hp n _ => hin p hp fun e => n (e ▸ hmem), fun p hp n => ⟨p, hin p hp fun e => n (e ▸ hmem), rfl⟩, fun b hb n => absurd hb n⟩⟩
theorem LSt.frz {O : PH} {h : Heap} {a : Addr} {o₀ : Obj} (S : LSt F O led h) (hm : (a, o₀) ∈ led) : LSt (put F a o₀) O (led.filter fun p => !(p.1 == a)) h :=
  S.freeze hm fun p hp => ⟨(List.mem_filter.mp hp).1, by simpa using (List.mem_filter.mp hp).2⟩
theorem OwnR.frz' (hI : KnM d) (x : OwnR d ρ ow F led) (hF : Le F F') : OwnR d ρ ow F' led ∧ Stp [] ρ F led ρ F' led := ⟨x.mono hI hF, ⟨Ext.refl _, hF, fun _ h _ _ => h, fun p h _ => ⟨p, h, rfl⟩, fun a h n => absurd h n⟩⟩
/-- the last places go -/
theorem OwnR.take (x : OwnR d ρ ow F led) (k : Nat) : OwnR d (ρ.take k) (ow.take k) F led := by
  refine ⟨fun i ao e => ?_, by simp [x.len], x.nd.sublist (List.take_sublist _ _), x.fz⟩
  by_cases hi : i < k
  · rw [List.getElem?_take_of_lt hi] at e ⊢
    exact x.own i ao e
  · rw [List.getElem?_take_eq_none (by omega)] at e; cases e

variable {env : Env} {σ : AS}
theorem VarAt.keep {m : Str → Option Value} {x : Str} {v : Value} (h : VarAt env led m x v) (k : ∀ c ∈ env.cells, ∀ o, (c.2, o) ∈ led → (c.2, o) ∈ led') : VarAt env led' m x v := by
  rcases h with h | ⟨hk, c, o, h1, h2, h3⟩
  · exact .inl h
  · refine .inr ⟨hk, c, o, h1, ?_, h3⟩
    obtain ⟨p, hp, rfl⟩ := lookup_mem h1
    exact k p hp o h2
theorem IRel.step (R : IRel d env wr ρ σ F led) (s : Stp [] ρ F led ρ' F' led') (y : OwnR d ρ' ow' F' led') : IRel d env wr ρ' { σ with ow := ow' } F' led' := by
  have nL : env.locals ∉ ρ := fun h => (R.off _ h).1 rfl
  have nC : ∀ c ∈ env.cells, c.2 ∉ ρ := fun c hc h => (R.off _ h).2 c hc rfl
  have kp : ∀ p ∈ led, p.1 ∉ ρ → p ∈ led' := fun p hp n => s.keep p hp n (by simp)
  obtain ⟨oL, m, hL, hn, hv⟩ := R.fr
  refine ⟨R.sc, ⟨oL, m, kp _ hL nL, hn, fun x av e => ?_⟩, fun c hc => ?_, fun a ha => ?_, R.inj, R.wrL, R.wrC, R.celX, R.wrI, y⟩
  · obtain ⟨v, h1, h2⟩ := hv x av e
    exact ⟨v, h1.keep fun c hc o ho => kp _ ho (nC c hc), h2.mono s.ext s.le⟩
  · obtain ⟨⟨o, v, ho, hd⟩, hne⟩ := R.cel c hc
    exact ⟨⟨o, v, kp _ ho (nC c hc), hd⟩, hne⟩
  · by_cases hr : a ∈ ρ
    · exact R.off a hr
    · refine ⟨fun e => s.fresh a ha hr _ hL e.symm, fun c hc e => ?_⟩
      obtain ⟨⟨o, v, ho, _⟩, _⟩ := R.cel c hc
      exact s.fresh a ha hr _ ho e
/-- fewer names -/
theorem IRel.fewer (R : IRel d env wr ρ σ F led) {vars : List (Str × AV)} (h : ∀ x av, vars.lookup x = some av → σ.vars.lookup x = some av) : IRel d env wr ρ { σ with vars := vars } F led := by
  obtain ⟨oL, m, hL, hn, hv⟩ := R.fr
  exact ⟨R.sc, ⟨oL, m, hL, hn, fun x av e => hv x av (h x av e)⟩, R.cel, R.off, R.inj, R.wrL, R.wrC, R.celX, R.wrI, R.own⟩
theorem lookup_take {α : Type} {es : List (Str × α)} {n : Nat} {x : Str} {v : α} (h : (es.take n).lookup x = some v) : es.lookup x = some v := by
  induction es generalizing n with
  | nil => simp at h
  | cons p r ih =>
    cases n with
    | zero => cases h
    | succ n =>
      rw [List.take_succ_cons, List.lookup_cons] at h
      rw [List.lookup_cons]
      split at h
      · exact h
      · exact ih h
/-- the end of a turn -/
theorem all_lookup {P : AV → Bool} {es : List (Str × AV)} (h : es.all (fun p => P p.2) = true) {x : Str} {v : AV} (e : es.lookup x = some v) : P v = true := by
  obtain ⟨p, hp, rfl⟩ := lookup_mem e
  exact List.all_eq_true.mp h p hp
theorem IRel.cut (R : IRel d env wr ρ σ F led) {m k : Nat} {σ' : AS} (e : cut m k σ = some σ') : IRel d env wr (ρ.take k) σ' F led := by
  unfold Xm.cut at e
  split at e
  · rename_i hs
    cases e
    obtain ⟨oL, mm, hL, hn, hv⟩ := R.fr
    refine ⟨R.sc, ⟨oL, mm, hL, hn, fun x av e => ?_⟩, R.cel, fun a ha => R.off a (List.mem_of_mem_take ha), R.inj, R.wrL, R.wrC, R.celX, R.wrI, R.own.take k⟩
    obtain ⟨v, h1, h2⟩ := hv x av (lookup_take e)
    exact ⟨v, h1, h2.small (by rw [List.take_take, Nat.min_self]) (all_lookup hs e)⟩
  · cases e
theorem IRel.lt (R : IRel d env wr ρ σ F led) : ρ.length = σ.ow.length := R.own.len

theorem IRel.vars (R : IRel d env wr ρ σ F led) {x : Str} {v : Value} {av : AV} {oL : Obj} {m m' : Str → Option Value} (hvs : ∀ y av, σ.vars.lookup y = some av → ∃ v, VarAt env led m y v ∧ VR d.prog d.w ρ F v av) (hL : (env.locals, oL) ∈ led') (hn : NsObj oL m') (hv : VR d.prog d.w ρ F v av) (hx : VarAt env led' m' x v)
    (old : ∀ y u, y ≠ x → VarAt env led m y u → VarAt env led' m' y u) (hc : ∀ c ∈ env.cells, ∃ o v, (c.2, o) ∈ led' ∧ o.data = .cell v) (ho : OwnR d ρ σ.ow F led') : IRel d env wr ρ (setVar σ x av) F led' := by
  refine ⟨R.sc, ⟨oL, m', hL, hn, fun y av' e => ?_⟩, fun c h => ⟨hc c h, (R.cel c h).2⟩, R.off, R.inj, R.wrL, R.wrC, R.celX, R.wrI, ho⟩
  replace e : (store σ.vars x av).lookup y = some av' := e
  rw [lookup_store] at e
  by_cases hy : y = x
  · rw [if_pos hy] at e
    exact ⟨v, hy ▸ hx, Option.some.inj e ▸ hv⟩
  · rw [if_neg hy] at e
    exact (hvs y av' e).imp fun u g => ⟨old y u hy g.1, g.2⟩
/-- a local name is stored -/
theorem IRel.setL (R : IRel d env wr ρ σ F led) {x : Str} {v : Value} {av : AV} {o' : Obj} (hk : env.kindOf x = some .local) (hv : VR d.prog d.w ρ F v av)
    (hn : ∀ m oL, (env.locals, oL) ∈ led → NsObj oL m → NsObj o' fun y => if y = x then some v else m y) : IRel d env wr ρ (setVar σ x av) F (setAt env.locals o' led) ∧ Stp wr ρ F led ρ F (setAt env.locals o' led) := by
  obtain ⟨oL, m, hL, hns, hvs⟩ := R.fr
  exact ⟨R.vars hvs (mem_setAt_self hL) (hn m oL hL hns) hv (.inl ⟨hk, if_pos rfl⟩) (fun y u hy h => h.elim (fun h => .inl ⟨h.1, (if_neg hy).trans h.2⟩) fun h =>
      VarAt.keep (led := led) (.inr h) fun c hc o ho => mem_setAt_ne ho (R.cel c hc).2) (fun c hc => (R.cel c hc).1.imp fun o q => q.imp fun v q => ⟨mem_setAt_ne q.1 (R.cel c hc).2, q.2⟩) (R.own.ofLed (fun p hp h => mem_setAt_ne hp (R.off _ h).1) (setAt_uq R.own.fz)),
    ⟨Ext.refl _, Le.refl _, fun p hp n m => mem_setAt_ne hp fun e => m (e ▸ R.wrL), fun p hp _ => setAt_here hp, fun a h n => absurd h n⟩⟩
/-- a name in a cell is stored -/
theorem IRel.setC (R : IRel d env wr ρ σ F led) {x : Str} {v : Value} {av : AV} {o' : Obj} {c : Addr} (hk : env.kindOf x = some .cell) (hs : σ.sc.lookup x = some .cell) (hc : env.cells.lookup x = some c) (hv : VR d.prog d.w ρ F v av)
    (ho : o'.data = .cell (some v)) : IRel d env wr ρ (setVar σ x av) F (setAt c o' led) ∧ Stp wr ρ F led ρ F (setAt c o' led) := by
  obtain ⟨cm, hcm, hca⟩ := lookup_mem hc
  obtain ⟨oL, m, hL, hns, hvs⟩ := R.fr
  obtain ⟨⟨oc, vc, hoc, hdc⟩, hcne⟩ := R.cel _ hcm
  have hoff := fun a h => (R.off a h).2 _ hcm
  rw [hca] at hoc hcne hoff
  refine ⟨R.vars hvs (mem_setAt_ne hL (Ne.symm hcne)) hns hv (.inr ⟨.inl hk, c, o', hc, mem_setAt_self hoc, ho⟩) (fun y u hy h => h.imp id fun h => ⟨h.1, h.2.imp fun c2 q => q.imp fun o q => ⟨q.1, mem_setAt_ne q.2.1 fun (e : c2 = c) => hy (R.inj _ _ c (e ▸ q.1) hc), q.2.2⟩⟩) (fun c2 hc2 => ?_) (R.own.ofLed (fun p hp h => mem_setAt_ne hp fun e => hoff _ h e.symm) (setAt_uq R.own.fz)),
    ⟨Ext.refl _, Le.refl _, fun p hp n m => mem_setAt_ne hp fun e => m (e ▸ R.wrC _ _ hs hc), fun p hp _ => setAt_here hp, fun a h n => absurd h n⟩⟩
  by_cases e : c2.2 = c
  · rw [e]; exact ⟨o', some v, mem_setAt_self hoc, ho⟩
  · exact (R.cel c2 hc2).1.imp fun o q => q.imp fun v q => ⟨mem_setAt_ne q.1 e, q.2⟩
end
end Xm

open PySem PySem.W PySem.Calls PyProof.Rows PySem.Spec
namespace Xm
open PyProof.Rows.LCg (NsObj)

noncomputable def GlobIs (d : D0) (x : Str) (v : Value) : Prop := nsIn d.K mainGlobals x = some (some v) ∨ (nsIn d.K mainGlobals x = some none ∧ bootBuiltins x = some v ∧ x ≠ "__name__")
noncomputable def GOk (d : D0) (x : Str) : GV → Prop
  | .fn a => GlobIs d x (.ref a) ∧ keepIn d.K (.ref a) = true
  | .cls a => GlobIs d x (.ref a) ∧ keepIn d.K (.ref a) = true
  | .bi id => GlobIs d x (.builtin id)
  | .ty t => GlobIs d x (.type t)
  | .cst t => ∃ v, GlobIs d x v ∧ ∀ F, Base d F → VF d.prog d.w F v t
noncomputable def CallP (d : D0) (ρ : List Addr) (F : PH) (led : Led) (out : AV × List AO) : Value → PH → Led → Prop :=
  fun v F' led' => ∃ ρ', Stp [] ρ F led ρ' F' led' ∧ VR d.prog d.w ρ' F' v out.1 ∧ OwnR d ρ' out.2 F' led'
noncomputable def CallOk (d : D0) (n : Nat) (a : Addr) (args : List AV) (ow : List AO) (out : AV × List AO) : Prop :=
  ∀ (A : Around) (O F : PH) (led : Led) (ρ : List Addr) (vs : List Value), A.handled = none → A.depth + 2 * n ≤ d.dm → A.units + 4 * n ≤ d.um → Base d F → VRs d.prog d.w ρ F vs args → OwnR d ρ ow F led →
    Ev d.prog d.w A O (call (.ref a) vs) F led (CallP d ρ F led out)
inductive FOk (d : D0) (a : Addr) (f : FnI) : Prop
  | mk (oc : Value) (od : Option Addr) (name qual : Str) (params : Arguments) (scope : Scope) (dV kV doc pm : Value) (an : Option Addr) (cdv ct : Value) (osl : Array (Option Value)) : d.K.lookup a = some ⟨oc, od, .func (fnOf name qual params f.body scope dV kV doc pm an cdv ct), osl⟩ → codeIn d.K cdv qual = true → scope.names = f.sc →
    scope.kind = .function → scope.isCoroutine = false → scope.isGenerator = false → ((cellsFrom 0 scope.names []).map (·.1)).Nodup → (∀ x ∈ f.args, f.sc.lookup x = some .local ∨ f.sc.lookup x = some .cell) → f.args.Nodup →
    (dv : List Value) → dv.length = f.dfl.length → (∀ F, Base d F → VFs d.prog d.w F dv f.dfl) → (∀ s : Shared, d.K.In s.heap → ∀ vs : List Value, vs.length ≤ f.args.length → f.args.length ≤ vs.length + dv.length →
      BindsTo s (fnOf name qual params f.body scope dV kV doc pm an cdv ct) ⟨vs, []⟩ (f.args.zip (vs ++ dv.drop (vs.length + dv.length - f.args.length)))) → FOk d a f
noncomputable def MOk (d : D0) (c : Addr) (m : Str) (f : Addr) : Prop :=
  findIn d.K (.ref c) "__getattribute__" = some (some (.builtin "object.__getattribute__")) ∧ findIn d.K (.ref c) "__getattr__" = some none ∧ findIn d.K (.ref c) m = some (some (.ref f)) ∧
    typeIn d.K (.ref f) = some (.type "function") ∧ keepIn d.K (.ref f) = true
/-- a class whose objects answer from their own dict -/
noncomputable def AOk (d : D0) (c : Addr) (a : Str) : Prop :=
  findIn d.K (.ref c) "__getattribute__" = some (some (.builtin "object.__getattribute__")) ∧ (∃ cd, clsIn d.K c = some cd ∧ cd.hasDict = true) ∧ findIn d.K (.ref c) a = some none
/-- what a class's objects need for `self.name = value` -/
noncomputable def SetOk (d : D0) (C : Addr) (names : List Str) : Prop := findIn d.K (.ref C) "__setattr__" = some (some (.builtin "object.__setattr__")) ∧ plainOver d.K C = true ∧ hasDictIn d.K C = true ∧ ∀ a ∈ names, takerIn d.K C a = some none
noncomputable def attrNames : List Stmt → List Str
  | .Assign [.Attribute _ a _] _ _ :: r => a :: attrNames r
  | _ :: r => attrNames r
  | [] => []
/-- a class that is made by its own __init__ -/
noncomputable def IOk (d : D0) (c f : Addr) : Prop :=
  makesIn d.K c = true ∧ findIn d.K (.ref c) "__init__" = some (some (.ref f)) ∧ isFn d.K (.ref f) = true ∧ keepIn d.K (.ref c) = true ∧ ∀ fi, d.tb.F f = some fi → SetOk d c (attrNames fi.body)
structure Ok (d : D0) : Prop where
  X : d.K.In d.h₀
  T : ∃ p loose mg mb, TopRead p loose mg mb d.h₀
  nl : d.h₀.NoLimit
  kn : KnM d
  dm : d.dm + 50 < recursionLimit
  um : d.um + 300 < cLine
  sm : ∃ o, d.h₀.get? sysModules = some o
  G : ∀ x g, d.tb.G x = some g → GOk d x g
  F : ∀ a f, d.tb.F a = some f → FOk d a f
  M : ∀ c m f, d.tb.M c m = some f → MOk d c m f
  A : ∀ c a, d.tb.A c a = true → AOk d c a
  I : ∀ c f, d.tb.I c = some f → IOk d c f

structure Cx (d : D0) (A : Around) (n : Nat) (env : Env) : Prop where
  hd : A.handled = none
  dep : A.depth + 2 * n ≤ d.dm
  un : A.units + 4 * n ≤ d.um
  kind : env.scope.kind = .function
  glb : env.globals = mainGlobals
  bi : env.builtins = builtinsNs
theorem Cx.down {d : D0} {A : Around} {n k : Nat} {env : Env} (c : Cx d A n env) (h : k ≤ n) : Cx d A k env := ⟨c.hd, by have := c.dep; omega, by have := c.un; omega, c.kind, c.glb, c.bi⟩

section
variable {d : D0} {A : Around} {n : Nat} {env : Env} {wr ρ : List Addr} {σ : AS} {ow : List AO} {F O : PH} {led : Led} {s : Shared} {E : Value → Shared → Prop}


theorem ns_atL {oL : Obj} {m : Str → Option Value} {L : Addr} (x : NsObj oL m) (S : LSt F O led s.heap) (hm : (L, oL) ∈ led) : s.heap.Ns L m := x.ns (S.ld _ hm).1

theorem name_glob {x : Str} {v : Value} {pos : Pos} {Q : Value → Shared → Prop} (ok : Ok d) (c : Cx d A n env) (hd : (x == ("__debug__" : Str)) = false) (hk : env.kindOf x = some .globalImplicit)
    (g : GlobIs d x v) (B : Base d F) (S : LSt F O led s.heap) (k : Q v s) : wpAny (model d.prog d.w) A (eval (.Name x pos) env) Q E s := by
  obtain ⟨p, loose, mg, mb, T⟩ := ok.T
  have kp := B.keeps S
  have e1 : env.globals = mainGlobals := c.glb
  have e2 : env.builtins = builtinsNs := c.bi
  rcases g with g | ⟨g, hb, hn⟩
  · exact Name_function_global c.kind hk (loadGlobal_global (by rw [e1]; exact T.g.keeps kp) (mg_of ok.X T.g g) k) hd
  · exact Name_function_global c.kind hk (loadGlobal_builtin (by rw [e1]; exact T.g.keeps kp) (mg_none_of ok.X T.g g) (by rw [e2]; exact T.b.keeps kp) ((T.builtins x hn).trans hb) k) hd

theorem notModules (ok : Ok d) (B : Base d F) {a : Addr} (h : F a = none) : (a == sysModules) = false := by
  obtain ⟨o, ho⟩ := ok.sm
  have := B _ _ ho
  cases e : (a == sysModules) with
  | false => rfl
  | true => rw [beq_iff_eq.mp e, this] at h; cases h

noncomputable abbrev GH (h : Heap) : PH := fun a => h.get? a
theorem LSt.leH (S : LSt F O led s.heap) : Le F (GH s.heap) := fun a o e => S.fz a o e

/-- what is read, seen in the heap -/
theorem rdO_sound (ok : Ok d) (B : Base d F) (S : LSt F O led s.heap) {a : Addr} {ao : AO} {t : FV} (h : PlR d F led a ao) : rdO ao = some t → VF d.prog d.w (GH s.heap) (.ref a) t := by
  induction h using PlR.casesOn with
  | fz h => exact fun e => Option.some.inj e ▸ h.mono S.leH
  | obj _ => exact noS
  | own hm r =>
    induction r using AOR.casesOn with
    | lst r => exact fun e => Option.some.inj e ▸ .lst (S.ld _ hm).1 (r.mono S.leH)
    | dic dd r => exact fun e => Option.some.inj e ▸ .dic (S.ld _ hm).1 (notModules ok B (S.ld _ hm).2.1) dd (r.mono S.leH)
    | kno _ => exact noS
theorem rd_sounds (ok : Ok d) (B : Base d F) (R : OwnR d ρ ow F led) (S : LSt F O led s.heap) : (∀ {v x}, VR d.prog d.w ρ F v x → Okay (rd ow x) fun t => VF d.prog d.w (GH s.heap) v t) ∧ (∀ {vs xs}, VRs d.prog d.w ρ F vs xs → Okay (rds ow xs) fun ts => VFs d.prog d.w (GH s.heap) vs ts) ∧ (∀ {vs xs}, VRd d.prog d.w ρ F vs xs → True) :=
  VR.ind (m1 := fun v x => Okay (rd ow x) fun t => VF d.prog d.w (GH s.heap) v t) (m2 := fun vs xs => Okay (rds ow xs) fun ts => VFs d.prog d.w (GH s.heap) vs ts) (m3 := fun _ _ => True)
    (fun h => okS (h.mono S.leH)) (fun h c dd r => okM fun ts e1 => .tup (S.fz _ _ h) c dd (r _ e1)) (fun _ _ _ _ => okN) (fun h => okB fun _ e1 _ e2 => rdO_sound ok B S (R.at e1 h) e2)
    (okS .nil) (fun h r => okB fun _ e1 => okM fun _ e2 => .cons (h _ e1) (r _ e2)) trivial (fun _ _ => trivial)
theorem rd_sound (ok : Ok d) (B : Base d F) (R : OwnR d ρ ow F led) (S : LSt F O led s.heap) {v : Value} {x : AV} {t : FV} (h : VR d.prog d.w ρ F v x) (e : rd ow x = some t) : VF d.prog d.w (GH s.heap) v t := (rd_sounds ok B R S).1 h t e
theorem rds_sound (ok : Ok d) (B : Base d F) (R : OwnR d ρ ow F led) (S : LSt F O led s.heap) {vs : List Value} {xs : List AV} {ts : List FV} (h : VRs d.prog d.w ρ F vs xs) (e : rds ow xs = some ts) : VFs d.prog d.w (GH s.heap) vs ts := (rd_sounds ok B R S).2.1 h ts e

theorem VF.str_inv {v : Value} {x : Str} (h : VF d.prog d.w F v (.str x)) : ∃ t, v = .str x t := h.asS rfl fun t => ⟨t, rfl⟩
theorem VF.int_inv {v : Value} {x : Int} (h : VF d.prog d.w F v (.int x)) : ∃ t, v = .int x t := h.asI rfl fun t => ⟨t, rfl⟩
theorem VF.bool_inv {v : Value} {x : Bool} (h : VF d.prog d.w F v (.bool x)) : v = .bool x := h.asB rfl rfl
theorem VF.none_inv {v : Value} (h : VF d.prog d.w F v .none) : v = .none := by cases h; rfl
theorem VF.tup_inv {v : Value} {xs : List FV} (h : VF d.prog d.w F v (.tup xs)) : ∃ a o vs n, v = .ref a ∧ F a = some o ∧ o.cls = .type "tuple" ∧ o.data = .seq vs n ∧ VFs d.prog d.w F vs.toList xs := h.asT rfl fun a o vs n h1 h2 h3 h4 => ⟨a, o, vs, n, rfl, h1, h2, h3, h4⟩
theorem VF.lst_inv {v : Value} {xs : List FV} (h : VF d.prog d.w F v (.lst xs)) : ∃ a vs n, v = .ref a ∧ F a = some { cls := .type "list", data := .seq vs n } ∧ VFs d.prog d.w F vs.toList xs := h.asL rfl fun a vs n h1 h2 => ⟨a, vs, n, rfl, h1, h2⟩
theorem VF.dic_inv {v : Value} {es : List (Str × FV)} (h : VF d.prog d.w F v (.dic es)) : ∃ a o kvs, v = .ref a ∧ F a = some o ∧ (a == sysModules) = false ∧ o.IsDictOf (strKind d.prog d.w) kvs ∧ VFd d.prog d.w F kvs es := h.asD rfl fun a o kvs h1 h2 h3 h4 => ⟨a, o, kvs, rfl, h1, h2, h3, h4⟩
theorem VR.fz_inv {v : Value} {t : FV} (h : VR d.prog d.w ρ F v (.fz t)) : VF d.prog d.w F v t := h.ofF rfl
theorem VR.loc_inv {v : Value} {i : Nat} (h : VR d.prog d.w ρ F v (.loc i)) : ∃ a, v = .ref a ∧ ρ[i]? = some a := by cases h with | loc e => exact ⟨_, rfl, e⟩
theorem IsTup.ofF {a : Addr} {o : Obj} {vs : Array Value} {n : Nat} (h : s.heap.get? a = some o) (c : o.cls = .type "tuple") (dd : o.data = .seq vs n) : IsTup s.heap a vs := ⟨o, h, c, n, dd⟩

/-! comparisons: on the heap -/
theorem shp_and {x y : PyData} (h : (SeqAt.shaped x && SeqAt.shaped y) = true) : SeqAt.shaped x = true ∧ SeqAt.shaped y = true := Bool.and_eq_true_iff.mp h
theorem dicPy_keys {r : List (Str × FV)} : Okay (dicPy r) fun ps => ps.map (·.1) = r.map (·.1) := by
  induction r with
  | nil => exact okS rfl
  | cons p r ih => exact okB fun _ _ => okI fun _ => okM fun _ e => congrArg (p.1 :: ·) (ih _ e)
theorem dicPy_len {r : List (Str × FV)} {kvs : List (Str × Value)} {G : PH} {ps : List (Str × PyData)} (e : dicPy r = some ps) (h : VFd d.prog d.w G kvs r) : kvs.length = ps.length := by
  rw [← List.length_map (f := (·.1)), h.keys, ← dicPy_keys _ e, List.length_map]
theorem dicPy_lookup {r : List (Str × FV)} (k : Str) : Okay (dicPy r) fun ps => (r.lookup k = none ∧ ps.lookup k = none) ∨ ∃ v p, r.lookup k = some v ∧ ps.lookup k = some p ∧ toPy v = some p ∧ SeqAt.shaped p = true := by
  induction r with
  | nil => exact okS (.inl ⟨rfl, rfl⟩)
  | cons q r ih =>
    refine okB fun p e1 => okI fun hs => okM fun ps e2 => ?_
    rw [List.lookup_cons, List.lookup_cons]
    induction k == q.1 using Bool.casesOn with
    | true => exact .inr ⟨q.2, p, rfl, rfl, e1, hs⟩
    | false => exact ih _ e2
theorem eqD_hits {G : PH} {h : Heap} (hG : ∀ a o, G a = some o → s.heap.get? a = some o) (hu : A.in1.units + 64 < cLine) {kb : List (Str × Value)} {yb : List (Str × FV)} {qs : List (Str × PyData)} (rb : VFd d.prog d.w G kb yb) (eb : dicPy yb = some qs)
    {ka : List (Str × Value)} {xa : List (Str × FV)} {ps : List (Str × PyData)} (ra : VFd d.prog d.w G ka xa) (ea : dicPy xa = some ps) :
      PySem.W.KeqHits A.in1 s kb ka (ps.all fun p => match qs.lookup p.1 with | some y => PyData.eqv p.2 y | none => false) := by
  induction xa generalizing ka ps with
  | nil => exact someE ea (VFd.nilE ra .nil)
  | cons x xr ih =>
    refine VFd.consE ra fun v us hv rr => bndE ea fun p e1 ea => iteE ea fun hs ea => mapE ea fun ps e2 => ?_
    rw [List.all_cons]
    refine (dicPy_lookup x.1 _ eb).elim (fun q => ?_) fun ⟨y, py, hy, hq, hpy, hsh⟩ => ?_
    · rw [q.2]; exact .miss (valueAt_none rb.keys q.1)
    · rw [hq]
      exact (rb.find hy).elim fun u ⟨hu', hvu⟩ => (hv.reads hG e1).elim fun as rx => (hvu.reads hG hpy).elim fun bs ry => .hit hu' (PySem.W.keq_at rx ry hs hsh hu) (ih rr e2)
/-- both comparisons -/
theorem eqF_both {a b : Value} {x y : FV} {r : Bool} {Q : Value → Shared → Prop} (hu : A.units + 65 < cLine)
    (ha : VF d.prog d.w (GH s.heap) a x) (hb : VF d.prog d.w (GH s.heap) b y) (e : eqF x y = some r) : (Q (.bool r) s → wpAny (model d.prog d.w) A (compareOp .Eq a b) Q E s) ∧ (Q (.bool (!r)) s → wpAny (model d.prog d.w) A (compareOp .NotEq a b) Q E s) := by
  unfold eqF at e
  have hu' : A.units < cLine := Nat.lt_of_le_of_lt (Nat.le_add_right _ _) hu
  induction hx : dicF x using Option.casesOn with
  | some xs =>
    rw [hx] at e
    refine bndE e fun ys hy e => bndE e fun ps e1 e => bndE e fun qs e2 e => someE e ?_
    refine ha.asD hx fun a oa ka ga la da ra => hb.asD hy fun b ob kb gb lb db rb => ?_
    have hits := fun (_ : ka.length = kb.length) => eqD_hits (h := s.heap) (A := A) (s := s) (fun _ _ e => e) hu rb e2 ra e1
    have m1 : s.heap.DictOf (strKind d.prog d.w) a ka := Heap.dictOf_iff.mpr ⟨oa, ga, da⟩
    have m2 : s.heap.DictOf (strKind d.prog d.w) b kb := Heap.dictOf_iff.mpr ⟨ob, gb, db⟩
    rw [show eqD ps qs = (ka.length == kb.length && ps.all fun p => match qs.lookup p.1 with | some y => PyData.eqv p.2 y | none => false) by rw [dicPy_len e1 ra, dicPy_len e2 rb]; rfl]
    exact ⟨fun k => PySem.W.keq_eq la lb m1 m2 hu' hits k, fun k => PySem.W.keq_ne la lb m1 m2 hu' hits k⟩
  | none =>
    rw [hx] at e
    refine bndE e fun p e1 e => bndE e fun q e2 e => iteE e fun hs e => someE e ?_
    exact (ha.reads (fun _ _ e => e) e1).elim fun _ ra => (hb.reads (fun _ _ e => e) e2).elim fun _ rb =>
      ⟨fun k => SeqAt.compareEq_shaped ra rb (shp_and hs).1 (shp_and hs).2 (Nat.lt_of_succ_lt hu) k, fun k => SeqAt.compareNe_shaped ra rb (shp_and hs).1 (shp_and hs).2 (Nat.lt_of_succ_lt hu) k⟩
theorem neF_sound {a b : Value} {x y : FV} {r : Bool} {Q : Value → Shared → Prop} (hu : A.units + 65 < cLine)
    (ha : VF d.prog d.w (GH s.heap) a x) (hb : VF d.prog d.w (GH s.heap) b y) (e : eqF x y = some r) (k : Q (.bool (!r)) s) : wpAny (model d.prog d.w) A (compareOp .NotEq a b) Q E s := (eqF_both hu ha hb e).2 k
theorem isL {a : Addr} {vs : Array Value} {n : Nat} (h : s.heap.get? a = some { cls := .type "list", data := .seq vs n }) : s.heap.IsList a vs := ⟨_, h, rfl, n, rfl⟩
theorem VFs.size {F : PH} {vs : Array Value} {xs : List FV} (r : VFs d.prog d.w F vs.toList xs) : vs.size = xs.length := Array.length_toList.symm.trans r.length
theorem lst_both {x y : FV} (h : (isCons x && isNil y) = true) : ∃ xs, lstF x = some xs ∧ lstF y = some [] ∧ xs ≠ [] := by
  induction x using FV.casesOn with
  | lst xs => induction y using FV.casesOn with
    | lst ys => induction xs using List.casesOn with
      | nil => exact Bool.noConfusion h
      | cons u us => induction ys using List.casesOn with
        | nil => exact ⟨_, rfl, rfl, List.cons_ne_nil _ _⟩
        | cons => exact Bool.noConfusion h
    | _ => exact absurd h (by rw [Bool.and_comm]; exact Bool.noConfusion)
  | _ => exact Bool.noConfusion h
theorem eqE_sound {a b : Value} {x y : FV} {r : Bool} {Q : Value → Shared → Prop} (hu : A.units + 65 < cLine)
    (ha : VF d.prog d.w (GH s.heap) a x) (hb : VF d.prog d.w (GH s.heap) b y) (e : eqE x y = some r) (k : Q (.bool r) s) : wpAny (model d.prog d.w) A (compareOp .Eq a b) Q E s := by
  refine ifE e (fun h e => ?_) fun _ e => (eqF_both hu ha hb e).1 k
  obtain ⟨xs, hx, hy, hn⟩ := lst_both h
  have hr : r = false := (Option.some.inj e).symm
  refine ha.asL hx fun a vs n hf rv => hb.asL hy fun b us m hf2 rv2 => SeqAt.eq_list_lengthsAt (isL hf) (isL hf2) ?_ (Nat.lt_of_le_of_lt (Nat.le_add_right _ _) hu) (hr ▸ k)
  rw [rv.size, rv2.size]
  exact bne_iff_ne.mpr fun e => hn (List.eq_nil_of_length_eq_zero e)
theorem min_units {a b : Nat} (hu : A.units + 64 < cLine) (h : a ≤ 60) : A.units + 1 + min a b < cLine := Nat.lt_of_le_of_lt (Nat.le_trans (Nat.add_le_add_left (Nat.le_trans (Nat.min_le_left a b) h) (A.units + 1)) (Nat.le_trans (Nat.le_of_eq (Nat.add_assoc A.units 1 60)) (Nat.add_le_add_left (by decide) A.units))) hu
theorem inSeq_ok {cs : List FV} {x : Value} {ax : FV} {T : Bool → Prop} (hx : VF d.prog d.w (GH s.heap) x ax)
    (h : ∀ ds dx as, toPys cs = some ds → Reads s.heap x dx as → PyData.canLayAll0 ds = true → PyData.canLay0 dx = true → PyData.depthAll ds ≤ 60 → T (ds.any fun y => PyData.eqv y dx)) : Okay (inSeq cs ax) T :=
  okB fun ds e1 => okB fun dx e2 => okI fun hs => okS ((hx.reads (fun _ _ e => e) e2).elim fun as rx =>
    h ds dx as e1 rx (Bool.and_eq_true_iff.mp (Bool.and_eq_true_iff.mp hs).1).1 (Bool.and_eq_true_iff.mp (Bool.and_eq_true_iff.mp hs).1).2 (of_decide_eq_true (Bool.and_eq_true_iff.mp hs).2))
theorem inF_sound {x c : Value} {ax ac : FV} {r : Bool} {Q : Value → Shared → Prop} (hu : A.units + 64 < cLine)
    (hx : VF d.prog d.w (GH s.heap) x ax) (hc : VF d.prog d.w (GH s.heap) c ac) (e : inF ax ac = some r) (k : ∀ tk, Q (.bool r) { s with toks := tk }) : wpAny (model d.prog d.w) A (compareOp .In x c) Q E s := by
  refine (?_ : Okay (inF ax ac) fun r => (∀ tk, Q (.bool r) { s with toks := tk }) → wpAny (model d.prog d.w) A (compareOp .In x c) Q E s) r e k
  refine hideT fun T hT => ?_
  clear k e
  induction ac using FV.casesOn with
  | tup cs => exact inSeq_ok hx fun ds dx as e rx h1 h2 h3 => hT _ fun k => (hc.reads (d := .tuple ds) (fun _ _ e => e) (congrArg (Option.map PyData.tuple) e)).elim fun bs rc => SeqAt.in_tuple_reads rc rx h1 h2 (min_units hu h3) (k _)
  | lst cs => exact inSeq_ok hx fun ds dx as e rx h1 h2 h3 => hT _ fun k => (hc.reads (d := .list ds) (fun _ _ e => e) (congrArg (Option.map PyData.list) e)).elim fun bs rc => SeqAt.in_list_reads rc rx h1 h2 (min_units hu h3) (k _)
  | dic es =>
    exact okB fun x' ex => okS (hT _ fun k => by
      refine hx.asS ex fun t => hc.asD rfl fun a o kvs hg hm hd r => wpAny_in_of (strKind_is _ _ x' t) hm (Heap.DictOf.mapOf (Heap.dictOf_iff.mpr ⟨o, hg, hd⟩)) ?_
      rw [r.isSome]; exact k _)
  | _ => exact okN
theorem notIn_of_in {x c : Value} {r : Bool} {Q : Value → Shared → Prop} (h : wpAny (model d.prog d.w) A (compareOp .In x c) (fun v s' => v = .bool r ∧ Q (.bool (!r)) s') E s) : wpAny (model d.prog d.w) A (compareOp .NotIn x c) Q E s := by
  have h' : wpAny (model d.prog d.w) A (contains c x >>= fun b => pure (Value.bool b)) (fun v s' => v = .bool r ∧ Q (.bool (!r)) s') E s := h
  show wpAny _ _ (contains c x >>= fun b => pure (Value.bool (!b))) _ _ _
  intro Γ p hΓ
  have := h' Γ p hΓ
  rw [Sem.wp_bind'] at this ⊢
  refine Sem.wp_mono _ Γ _ (fun b p' s' q => ?_) (fun _ _ _ q => q) p s this
  obtain ⟨e, q⟩ : Value.bool b = .bool r ∧ Q (.bool (!r)) s' := q
  cases e
  exact q
theorem truthF_sound {v : Value} {x : FV} {b : Bool} {Q : Bool → Shared → Prop} (h : VF d.prog d.w (GH s.heap) v x) (e : truthF x = some b) (k : ∀ tk, Q b { s with toks := tk }) : wpAny (model d.prog d.w) A (truthy v) Q E s := by
  refine (?_ : Okay (truthF x) fun b => (∀ tk, Q b { s with toks := tk }) → wpAny (model d.prog d.w) A (truthy v) Q E s) b e k
  clear k e
  induction h using VF.casesOn with
  | bool => exact okS fun k => wpAny_truthy_bool (k _)
  | none => exact okS fun k => PyProof.Rows.truthy_none (k _)
  | @lst a vs n xs hf r =>
    refine okI fun hz => okS fun k => wpAny_truthy_list (isL hf) (by have := r.size; omega) ?_
    have : vs.isEmpty = xs.isEmpty := by
      induction xs using List.casesOn with
      | nil => exact Array.isEmpty_iff_size_eq_zero.mpr r.size
      | cons y ys => exact Bool.eq_false_iff.mpr fun q => Nat.succ_ne_zero _ (r.size.symm.trans (Array.isEmpty_iff_size_eq_zero.mp q))
    exact this ▸ k _
  | _ => exact okN
theorem seqIx {k : Int} {n : Nat} (h0 : 0 ≤ k) (h1 : k.toNat < n) : seqIndex? k n = some k.toNat := by
  have h3 : k < (n : Int) := (Int.toNat_lt h0).mp h1
  simp [seqIndex?, Int.not_lt.mpr h0, h3, h0]
/-- what an item is taken of, as it lies in the heap -/
inductive Held (d : D0) (G : PH) (h : Heap) (a : Addr) : FV → Prop
  | tup {vs : Array Value} {xs : List FV} : IsTup h a vs → VFs d.prog d.w G vs.toList xs → Held d G h a (.tup xs)
  | lst {vs : Array Value} {xs : List FV} : h.IsList a vs → VFs d.prog d.w G vs.toList xs → Held d G h a (.lst xs)
  | dic {kvs : List (Str × Value)} {es : List (Str × FV)} : h.DictOf (strKind d.prog d.w) a kvs → VFd d.prog d.w G kvs es → Held d G h a (.dic es)
theorem itemF_held {G : PH} (hG : Le G (GH s.heap)) {o : Value} {x k v : FV} (ho : VF d.prog d.w G o x) : itemF x k = some v → ∃ a, o = .ref a ∧ Held d G s.heap a x := by
  induction ho using VF.casesOn with
  | tup h c dd r => exact fun _ => ⟨_, rfl, .tup ⟨_, hG _ _ h, c, _, dd⟩ r⟩
  | lst h r => exact fun _ => ⟨_, rfl, .lst (isL (hG _ _ h)) r⟩
  | dic h _ dd r => exact fun _ => ⟨_, rfl, .dic (Heap.dictOf_iff.mpr ⟨_, hG _ _ h, dd⟩) r⟩
  | _ => exact noS
theorem VFs.at {G : PH} {vs : Array Value} {xs : List FV} (r : VFs d.prog d.w G vs.toList xs) {k : Nat} {v : FV} (e : xs[k]? = some v) : ∃ u, vs[k]? = some u ∧ k < vs.size ∧ VF d.prog d.w G u v :=
  (r.get e).elim fun u q => ⟨u, Array.getElem?_toList.symm.trans q.1, Array.length_toList ▸ (List.getElem?_eq_some_iff.mp q.1).1, q.2⟩
theorem VRs.at {G : PH} {vs : Array Value} {xs : List AV} (r : VRs d.prog d.w ρ G vs.toList xs) {k : Nat} {v : AV} (e : xs[k]? = some v) : ∃ u, vs[k]? = some u ∧ k < vs.size ∧ VR d.prog d.w ρ G u v :=
  (r.get e).elim fun u q => ⟨u, Array.getElem?_toList.symm.trans q.1, Array.length_toList ▸ (List.getElem?_eq_some_iff.mp q.1).1, q.2⟩
theorem big100 {k : Int} (h : k < 100) : k.toNat < 2 ^ 62 := by omega
/-- an item of a tuple -/
theorem item_tup {a : Addr} {vs : Array Value} {k : Int} {t : Tok} {u : Value} {value slice : Expr} {Q : Value → Shared → Prop} (ht : IsTup s.heap a vs) (hk : 0 ≤ k ∧ k < 100) (hu : vs[k.toNat]? = some u) (hl : k.toNat < vs.size)
    (hs : subscripted slice false (.ref a) (.int k t) = operate [.ref a, .int k t] (getItem (.ref a) (.int k t))) (q : Q u s) : wpAny (model d.prog d.w) A (subscriptTail value slice (.ref a) (.int k t)) Q E s :=
  tail_any ht.typeIs slot_tuple_getitem.lookup (getItem_tuple ht (by omega) (by omega) (seqIx hk.1 hl) hu q) hs
theorem itemF_sound {G : PH} {a : Addr} {i : Value} {x k v : FV} {value slice : Expr} {Q : Value → Shared → Prop} (ho : Held d G s.heap a x)
    (hi : VF d.prog d.w G i k) (e : itemF x k = some v) (hs : subscripted slice false (.ref a) i = operate [.ref a, i] (getItem (.ref a) i))
    (kk : ∀ u tk, VF d.prog d.w G u v → Q u { s with toks := tk }) : wpAny (model d.prog d.w) A (subscriptTail value slice (.ref a) i) Q E s := by
  induction ho using Held.casesOn with
  | tup ht rv =>
    refine bndE e fun m em e => iteE e fun hk e => ?_
    revert hs
    exact hi.asI em fun t hs => (rv.at e).elim fun u q => item_tup ht hk q.1 q.2.1 hs (kk u _ q.2.2)
  | lst hl rv =>
    refine bndE e fun m em e => iteE e fun hk e => ?_
    revert hs
    exact hi.asI em fun t hs => (rv.at e).elim fun u q => tail_any hl.typeIs slot_list_getitem.lookup (wpAny_getItem_list hl hk.1 (by omega) q.1 (kk u _ q.2.2)) hs
  | dic hd r =>
    refine bndE e fun m em e => ?_
    revert hs
    exact hi.asS em fun t hs => (r.find e).elim fun u q => tail_any hd.typeIs slot_dict_getitem.lookup (wpAny_getItem_of (strKind_is _ _ m t) hd.mapOf q.1 (kk u _ q.2)) hs
theorem binI_sound {op : Operator} {x y z : Int} {t u : Tok} {Q : Value → Shared → Prop} (e : binI op x y = some z) (k : ∀ t' tk, Q (.int z t') { s with toks := tk }) : wpAny (model d.prog d.w) A (binaryOp op (.int x t) (.int y u)) Q E s := by
  refine (?_ : Okay (binI op x y) fun z => (∀ t' tk, Q (.int z t') { s with toks := tk }) → wpAny (model d.prog d.w) A (binaryOp op (.int x t) (.int y u)) Q E s) z e k
  clear k e
  induction op using PySem.Operator.casesOn with
  | Add => exact okS fun k => PyProof.Rows.add_int (k _ _)
  | Sub => exact okS fun k => PyProof.Rows.sub_int (k _ _)
  | Mult => exact okI fun h => okS fun k => PyProof.Rows.mul_int (k _ _) (h.elim IntMulOk.of_right IntMulOk.of_left)
  | Mod => exact okI fun h => okS fun k => PyProof.Rows.mod_int h (k _ _)
  | FloorDiv => exact okI fun h => okS fun k => PyProof.Rows.floordiv_int h.1 (k _ _) (.inl h.2)
  | Pow =>
    exact okI fun h => okS fun k => by
      have h1 : x = 10 := of_decide_eq_true (Bool.and_eq_true_iff.mp h).1
      have h2 : y = 18 := of_decide_eq_true (Bool.and_eq_true_iff.mp h).2
      subst h1 h2
      exact PyProof.Rows.pow_int (by decide) (by decide) (k _ _)
  | _ => exact okN
end
end Xm

open PySem PySem.W PySem.Calls PyProof.Rows PySem.Spec
namespace Xm
open PyProof.Rows.LCg (NsObj)

theorem LSt.pushO {F O : PH} {led : Led} {h : Heap} (S : LSt F O led h) (o : Obj) (hf : o.isFreed = false := by rfl) : LSt F (put O h.objs.size o) led (h.push o) := by
  refine ⟨fun b o' e => Heap.get?_push_of_some _ (S.fz _ _ e), fun b o' e => ?_, fun p hp => ⟨Heap.get?_push_of_some _ (S.ld p hp).1, (S.ld p hp).2.1, ?_⟩⟩
  · by_cases hb : b = h.objs.size
    · subst hb; rw [put_self] at e; cases e; exact ⟨Heap.get?_push_size _ hf, S.freshF⟩
    · rw [put_ne hb] at e; exact ⟨Heap.get?_push_of_some _ (S.ow b o' e).1, (S.ow b o' e).2⟩
  · rw [put_ne (S.freshL p hp)]; exact (S.ld p hp).2.2
theorem LSt.popO {F O : PH} {led : Led} {h : Heap} {a : Addr} {o : Obj} (S : LSt F (put O a o) led h) (ha : O a = none) : LSt F O ((a, o) :: led) h := by
  have z := S.ow a o put_self
  refine ⟨S.fz, fun b x e => S.ow b x ((put_ne fun q => nomatch (q ▸ ha).symm.trans e).trans e), List.forall_mem_cons.mpr ⟨⟨z.1, z.2, ha⟩, fun p hp => ?_⟩⟩
  have y := S.ld p hp
  have ne : p.1 ≠ a := fun q => nomatch (q ▸ y.2.2 : put O a o a = none).symm.trans put_self
  exact ⟨y.1, y.2.1, (put_ne ne).symm.trans y.2.2⟩

section
variable {d : D0} {A : Around} {n : Nat} {env : Env} {wr ρ : List Addr} {σ : AS} {ow ow' : List AO} {F O : PH} {led : Led} {s : Shared} {E : Value → Shared → Prop} {h : Heap}

theorem szLine {k : Nat} (h : k ≤ 1000000) : k ≤ sizeLine := by rw [sizeLine_eq]; omega
theorem szOf {k n : Nat} (e : k = n) (h : n ≤ 10000) : k ≤ sizeLine := szLine (Nat.le_trans (Nat.le_of_eq e) (Nat.le_trans h (by decide)))

/-! freezing -/
theorem set_self {α : Type} {l : List α} {i : Nat} {x : α} (e : l[i]? = some x) : l.set i x = l := by
  apply List.ext_getElem?
  intro j
  by_cases h : i = j
  · subst h
    obtain ⟨hl, _⟩ := List.getElem?_eq_some_iff.mp e
    rw [List.getElem?_set_self hl, e]
  · rw [List.getElem?_set_ne h]
noncomputable def FrzP (d : D0) (O : PH) (ρ : List Addr) (F : PH) (led : Led) (h : Heap) (ow' : List AO) (P : PH → Prop) : Prop :=
  ∃ F' led', LSt F' O led' h ∧ Stp [] ρ F led ρ F' led' ∧ OwnR d ρ ow' F' led' ∧ P F'
theorem FrzP.go {ρ : List Addr} {P : PH → Prop} {G : Prop} (x : FrzP d O ρ F led h ow' P) (k : ∀ F' led', LSt F' O led' h → Stp [] ρ F led ρ F' led' → OwnR d ρ ow' F' led' → P F' → G) : G :=
  x.elim fun F' q => q.elim fun led' q => k F' led' q.1 q.2.1 q.2.2.1 q.2.2.2
theorem frz_own (ok : Ok d) (R : OwnR d ρ ow F led) (S : LSt F O led h) {a : Addr} {i : Nat} {o : Obj} {t : FV} (ha : ρ[i]? = some a) (hm : (a, o) ∈ led) (q : Le F (put F a o) → VF d.prog d.w (put F a o) (.ref a) t) : FrzP d O ρ F led h (ow.set i (.fz t)) fun F' => VF d.prog d.w F' (.ref a) t := by
  have hle : Le F (put F a o) := Le.put (S.ld _ hm).2.1
  have y := R.frz ok.kn ha hm hle (q hle)
  exact ⟨_, _, S.frz hm, y.2, y.1, q hle⟩
theorem frz_loc (ok : Ok d) (B : Base d F) (R : OwnR d ρ ow F led) (S : LSt F O led h) {a : Addr} {i : Nat} {ao : AO} (ha : ρ[i]? = some a) (e : ow[i]? = some ao) :
    Okay (frzO ao) fun t => FrzP d O ρ F led h (ow.set i (.fz t)) fun F' => VF d.prog d.w F' (.ref a) t := by
  have p := R.at e ha
  induction p using PlR.casesOn with
  | obj _ => exact okN
  | fz r => exact okS ⟨F, led, S, Stp.refl, (set_self e).symm ▸ R, r⟩
  | own hm r =>
    induction r using AOR.casesOn with
    | lst r => exact okS (frz_own ok R S ha hm fun hle => .lst put_self (r.mono hle))
    | dic dd r => exact okS (frz_own ok R S ha hm fun hle => .dic put_self (notModules ok B (S.ld _ hm).2.1) dd (r.mono hle))
    | kno _ => exact okN
theorem frz_sounds (ok : Ok d) {ρ : List Addr} {F : PH} :
    (∀ {v x}, VR d.prog d.w ρ F v x → ∀ {ow : List AO} {F₁ : PH} {led₁ : Led}, Le F F₁ → Base d F₁ → OwnR d ρ ow F₁ led₁ → LSt F₁ O led₁ h → Okay (frz ow x) fun p => FrzP d O ρ F₁ led₁ h p.2 fun F' => VF d.prog d.w F' v p.1) ∧
    (∀ {vs xs}, VRs d.prog d.w ρ F vs xs → ∀ {ow : List AO} {F₁ : PH} {led₁ : Led}, Le F F₁ → Base d F₁ → OwnR d ρ ow F₁ led₁ → LSt F₁ O led₁ h → Okay (frzs ow xs) fun p => FrzP d O ρ F₁ led₁ h p.2 fun F' => VFs d.prog d.w F' vs p.1) ∧
    (∀ {vs xs}, VRd d.prog d.w ρ F vs xs → ∀ {ow : List AO} {F₁ : PH} {led₁ : Led}, Le F F₁ → Base d F₁ → OwnR d ρ ow F₁ led₁ → LSt F₁ O led₁ h → Okay (frzd ow xs) fun p => FrzP d O ρ F₁ led₁ h p.2 fun F' => VFd d.prog d.w F' vs p.1) :=
  VR.ind (m1 := fun v x => ∀ {ow : List AO} {F₁ : PH} {led₁ : Led}, Le F F₁ → Base d F₁ → OwnR d ρ ow F₁ led₁ → LSt F₁ O led₁ h → Okay (frz ow x) fun p => FrzP d O ρ F₁ led₁ h p.2 fun F' => VF d.prog d.w F' v p.1)
    (m2 := fun vs xs => ∀ {ow : List AO} {F₁ : PH} {led₁ : Led}, Le F F₁ → Base d F₁ → OwnR d ρ ow F₁ led₁ → LSt F₁ O led₁ h → Okay (frzs ow xs) fun p => FrzP d O ρ F₁ led₁ h p.2 fun F' => VFs d.prog d.w F' vs p.1)
    (m3 := fun vs xs => ∀ {ow : List AO} {F₁ : PH} {led₁ : Led}, Le F F₁ → Base d F₁ → OwnR d ρ ow F₁ led₁ → LSt F₁ O led₁ h → Okay (frzd ow xs) fun p => FrzP d O ρ F₁ led₁ h p.2 fun F' => VFd d.prog d.w F' vs p.1)
    (fun r _ F₁ led₁ le B R S => okS ⟨F₁, led₁, S, Stp.refl, R, r.mono le⟩)
    (fun hf c dd r _ _ _ le B R S => okB fun _ e => okS ((r le B R S _ e).go fun F' led' S' st R' q => ⟨F', led', S', st, R', .tup (st.le _ _ (le _ _ hf)) c dd q⟩))
    (fun _ _ _ _ _ _ _ _ _ _ _ => okN)
    (fun ha _ _ _ le B R S => okB fun _ e => okB fun t e2 => okS (frz_loc ok B R S ha e _ e2))
    (fun _ B R S => okS ⟨_, _, S, Stp.refl, R, .nil⟩)
    (fun hv r _ _ _ le B R S => okB fun _ e => okB fun _ e2 => okS ((hv le B R S _ e).go fun F' led' S' st R' q => (r (le.trans st.le) (B.le st.le) R' S' _ e2).go fun F2 led2 S2 st2 R2 q2 => ⟨F2, led2, S2, st.trans st2, R2, .cons (q.mono st2.le) q2⟩))
    (fun _ B R S => okS ⟨_, _, S, Stp.refl, R, .nil⟩)
    (fun hv r _ _ _ le B R S => okB fun _ e => okB fun _ e2 => okS ((hv le B R S _ e).go fun F' led' S' st R' q => (r (le.trans st.le) (B.le st.le) R' S' _ e2).go fun F2 led2 S2 st2 R2 q2 => ⟨F2, led2, S2, st.trans st2, R2, .cons (q.mono st2.le) q2⟩))
theorem frz_sound (ok : Ok d) {ρ : List Addr} {F : PH} {ow ow' : List AO} {v : Value} {x : AV} {t : FV} {F₁ : PH} (r : VR d.prog d.w ρ F v x) (le : Le F F₁) (e : frz ow x = some (t, ow')) {led₁ : Led} (B : Base d F₁) (R : OwnR d ρ ow F₁ led₁) (S : LSt F₁ O led₁ h) :
    FrzP d O ρ F₁ led₁ h ow' fun F' => VF d.prog d.w F' v t := (frz_sounds ok).1 r le B R S _ e
theorem frzs_sound (ok : Ok d) {ρ : List Addr} {F : PH} {ow ow' : List AO} {vs : List Value} {xs : List AV} {ts : List FV} {F₁ : PH} (r : VRs d.prog d.w ρ F vs xs) (le : Le F F₁) (e : frzs ow xs = some (ts, ow')) {led₁ : Led} (B : Base d F₁) (R : OwnR d ρ ow F₁ led₁) (S : LSt F₁ O led₁ h) :
    FrzP d O ρ F₁ led₁ h ow' fun F' => VFs d.prog d.w F' vs ts := (frz_sounds ok).2.1 r le B R S _ e
theorem frzI_sound (ok : Ok d) {v : Value} {x : AV} {t : FV} (hv : VR d.prog d.w ρ F v x) (e : frzI ow x = some (t, ow')) (B : Base d F) (R : OwnR d ρ ow F led) (S : LSt F O led h) : FrzP d O ρ F led h ow' fun F' => VF d.prog d.w F' v t := by
  have live := (frz_sounds ok (O := O) (h := h)).1 hv (Le.refl _) B R S
  refine (?_ : Okay (frzI ow x) fun p => FrzP d O ρ F led h p.2 fun F' => VF d.prog d.w F' v p.1) _ e
  induction hv using VR.casesOn with
  | inst h1 h2 dd r => exact okB fun p e1 => okS (((frz_sounds ok).2.2 r (Le.refl _) B R S _ e1).go fun F' led' S' st R' q => ⟨F', led', S', st, R', .inst (st.le _ _ h1) (st.le _ _ h2) dd q⟩)
  | _ => exact live

/-! new objects -/
theorem tup_new {vs : List Value} {xs : List AV} (ok : Ok d) (R : OwnR d ρ ow F led) (hv : VRs d.prog d.w ρ F vs xs) (hl : xs.length ≤ 1000) : Ev d.prog d.w A O (newTuple vs) F led (CallP d ρ F led (mkTup xs, ow)) := by
  intro s Q E S k
  have hsz : vs.length ≤ sizeLine := szOf hv.length (Nat.le_trans hl (by decide))
  have le : Le F (put F s.heap.objs.size { cls := .type "tuple", data := .seq vs.toArray }) := Le.put S.freshF
  obtain ⟨y, st⟩ := R.frz' ok.kn le
  refine wpAny_newObj_type (k _ _ _ _ s.toks ⟨ρ, st, mkTup_sound put_self rfl rfl (hv.mono (Ext.refl _) le), y⟩ (S.pushF _)) (by show vs.toArray.size ≤ sizeLine; rw [List.size_toArray]; exact hsz)
theorem lst_new {vs : List Value} {xs : List FV} (ok : Ok d) (R : OwnR d ρ ow F led) (hv : VFs d.prog d.w F vs xs) (hl : xs.length ≤ 10000) : Ev d.prog d.w A O (newList vs) F led (CallP d ρ F led (.loc ow.length, ow ++ [.lst xs])) := by
  intro s Q E S k
  have hsz : vs.length ≤ sizeLine := szOf hv.length hl
  have hf := S.freshL
  obtain ⟨y, st⟩ := R.push (o := { cls := .type "list", data := .seq vs.toArray }) (ao := .lst xs) hf (R.notMem hf S.freshF) (.lst hv)
  refine wpAny_newObj_type (k _ _ _ _ s.toks ⟨_, st, .loc ?_, y⟩ (S.pushL _)) (by show vs.toArray.size ≤ sizeLine; rw [List.size_toArray]; exact hsz)
  rw [← R.len]; simp

/-! owned lists -/
theorem PlR.list {a : Addr} {ao : AO} (p : PlR d F led a ao) : ∀ {xs : List FV}, ao = .lst xs → ∃ vs n, (a, ({ cls := .type "list", data := .seq vs n } : Obj)) ∈ led ∧ VFs d.prog d.w F vs.toList xs := by
  induction p using PlR.casesOn with
  | own hm r => induction r using AOR.casesOn with
    | lst r => exact fun e => ⟨_, _, hm, AO.lst.inj e ▸ r⟩
    | _ => exact fun e => nomatch e
  | _ => exact fun e => nomatch e
theorem PlR.dict {a : Addr} {ao : AO} (p : PlR d F led a ao) : ∀ {es : List (Str × FV)}, ao = .dic es → ∃ o kvs, (a, o) ∈ led ∧ o.IsDictOf (strKind d.prog d.w) kvs ∧ VFd d.prog d.w F kvs es := by
  induction p using PlR.casesOn with
  | own hm r => induction r using AOR.casesOn with
    | dic dd r => exact fun e => ⟨_, _, hm, dd, AO.dic.inj e ▸ r⟩
    | _ => exact fun e => nomatch e
  | _ => exact fun e => nomatch e
theorem PlR.fzE {a : Addr} {ao : AO} (p : PlR d F led a ao) : ∀ {t : FV}, ao = .fz t → VF d.prog d.w F (.ref a) t := by
  induction p using PlR.casesOn with
  | fz h => exact fun e => AO.fz.inj e ▸ h
  | own hm r => induction r using AOR.casesOn <;> exact fun e => nomatch e
  | obj => exact fun e => nomatch e
/-- a list, owned or frozen -/
noncomputable def LstP (d : D0) (O F : PH) (led : Led) (a : Addr) (xs : List FV) : Prop := ∃ vs n, (∀ h, LSt F O led h → h.get? a = some { cls := .type "list", data := .seq vs n }) ∧ VFs d.prog d.w F vs.toList xs
theorem PlR.lstO {a : Addr} {ao : AO} (p : PlR d F led a ao) : Okay (lstO ao) (LstP d O F led a) := by
  induction p using PlR.casesOn with
  | own hm r => induction r using AOR.casesOn with
    | lst r => exact okS ⟨_, _, fun h S => (S.ld _ hm).1, r⟩
    | _ => exact okN
  | fz q =>
    refine fun xs e => ?_
    have key : ∀ {v : Value} {t : FV}, VF d.prog d.w F v t → lstF t = some xs → v = .ref a → LstP d O F led a xs := fun q e => q.asL e fun a' vs n hf r hv => Value.ref.inj hv ▸ ⟨vs, n, fun h S => S.fz _ _ hf, r⟩
    exact key q e rfl
  | obj => exact okN
theorem lstOf_sound {v : Value} {x : AV} {xs : List FV} (R : OwnR d ρ ow F led) (hv : VR d.prog d.w ρ F v x) (e : lstOf ow x = some xs) :
    ∃ a vs n, v = .ref a ∧ (∀ h, LSt F O led h → h.get? a = some { cls := .type "list", data := .seq vs n }) ∧ VFs d.prog d.w F vs.toList xs := by
  refine (?_ : Okay (lstOf ow x) fun xs => ∃ a vs n, v = .ref a ∧ (∀ h, LSt F O led h → h.get? a = some { cls := .type "list", data := .seq vs n }) ∧ VFs d.prog d.w F vs.toList xs) _ e
  induction hv using VR.casesOn with
  | fz h => exact fun xs e => h.asL e fun a vs n hf r => ⟨a, vs, n, rfl, fun h S => S.fz _ _ hf, r⟩
  | loc ha => exact okB fun ao e1 xs e2 => ((R.at e1 ha).lstO _ e2).elim fun vs q => q.elim fun n q => ⟨_, vs, n, rfl, q⟩
  | _ => exact okN
/-- a new owned list stands in the heap -/
theorem lst_at {vs : Array Value} {c : Nat} {xs : List FV} {h' : Heap} (R : OwnR d ρ ow F led) (S : LSt F O led s.heap) (hv : VFs d.prog d.w F vs.toList xs) (kp : ∀ b o, s.heap.get? b = some o → h'.get? b = some o)
    (e : h'.get? s.heap.objs.size = some { cls := .type "list", data := .seq vs c }) : ∃ led', LSt F O led' h' ∧ CallP d ρ F led (.loc ow.length, ow ++ [.lst xs]) (.ref s.heap.objs.size) F led' := by
  have hf := S.freshL
  obtain ⟨y, st⟩ := R.push (o := { cls := .type "list", data := .seq vs c }) (ao := .lst xs) hf (R.notMem hf S.freshF) (.lst hv)
  exact ⟨_, ⟨fun b o e' => kp _ _ (S.fz _ _ e'), fun b o e' => ⟨kp _ _ (S.ow b o e').1, (S.ow b o e').2⟩, List.forall_mem_cons.mpr ⟨⟨e, S.freshF, S.freshO⟩, fun p hp => ⟨kp _ _ (S.ld p hp).1, (S.ld p hp).2⟩⟩⟩, _, st, .loc (by rw [← R.len]; simp), y⟩
theorem append_sound {i : Nat} {a : Addr} {v : Value} {t : FV} {xs : List FV} (R : OwnR d ρ ow F led) (ha : ρ[i]? = some a) (e : ow[i]? = some (.lst xs)) (hv : VF d.prog d.w F v t) (hl : xs.length ≤ 10000) :
    Ev d.prog d.w A O (call (.builtin "list.append") [.ref a, v]) F led (CallP d ρ F led (.fz .none, ow.set i (.lst (xs ++ [t])))) := by
  intro s Q E S k
  obtain ⟨vs, m, hm, r⟩ := (R.at e ha).list rfl
  have z := S.ld _ hm
  have hsz := VFs.size r
  refine append_at z.1 (fun h' hs' e' => ?_) (szOf hsz hl)
  obtain ⟨y, st⟩ := R.set (i := i) (a := a) (o := { cls := .type "list", data := .seq (vs.push v) (m + 1) }) (ao := .lst (xs ++ [t])) ha (.lst (by rw [Array.toList_push]; exact r.append (.cons hv .nil))) hm
  exact k _ _ _ _ s.toks ⟨ρ, st, .fz .none, y⟩ (S.setAt hm hs' e')
theorem popAt_ {D : Addr} {its : Array Value} {n : Nat} {y : Value} {Q : Value → Shared → Prop} (ho : s.heap.get? D = some { cls := .type "list", data := .seq its n })
    (hy : its[its.size - 1]? = some y)
    (h : ∀ h', Heap.SameBut D s.heap h' → h'.get? D = some { cls := .type "list", data := .seq its.pop (n + 1) } → Q y { s with heap := h' })
    (hsz : its.size ≤ sizeLine) :
    wpAny (model d.prog d.w) A (call (.builtin "list.pop") [.ref D]) Q E s := by
  have hne : its.size ≠ 0 := by
    intro h0
    simp [h0] at hy
  have mp : Obj.mapSeq (fun xs => xs.eraseIdxIfInBounds (its.size - 1)) { cls := .type "list", data := .seq its n } = { cls := .type "list", data := .seq its.pop (n + 1) } := by
    have e : its.eraseIdxIfInBounds (its.size - 1) = its.pop := by
      rw [Array.eraseIdxIfInBounds, dif_pos (by omega)]
      apply Array.ext'
      simp [List.eraseIdx_eq_dropLast, Array.toList_eraseIdx]
      rw [List.eraseIdx_eq_dropLast]
      simp; omega
    show ({ cls := .type "list", data := .seq _ _ } : Obj) = _
    simp only [e]
    have : (its.pop.size == its.size) = false := by simp; omega
    rw [this]; rfl
  refine call_meets PySem.F.slot_list_pop ⟨_, ho, rfl⟩ PySem.F.entry_list_pop (PySem.F.args_list_pop_1 _) (PySem.MeetsSeq.list_pop_last D its n y hy hsz) ⟨ho, ?_⟩
  refine h _ (Heap.SameBut.update ..) ?_
  rw [Heap.get?_update_self _ ho (by rw [mp]; rfl), mp]
theorem pop_sound {i : Nat} {a : Addr} {t : FV} {xs : List FV} (R : OwnR d ρ ow F led) (ha : ρ[i]? = some a) (e : ow[i]? = some (.lst xs)) (hl : xs.length ≤ 10000) (hx : xs.getLast? = some t) :
    Ev d.prog d.w A O (call (.builtin "list.pop") [.ref a]) F led (CallP d ρ F led (.fz t, ow.set i (.lst xs.dropLast))) := by
  intro s Q E S k
  obtain ⟨vs, m, hm, r⟩ := (R.at e ha).list rfl
  have z := S.ld _ hm
  have hsz := VFs.size r
  have hxs : xs = xs.dropLast ++ [t] := by
    obtain ⟨ys, rfl⟩ := List.getLast?_eq_some_iff.mp hx
    simp
  rw [hxs] at r
  obtain ⟨us, u, hus, ru, hu⟩ := r.snoc_inv
  have hvs : vs = (us ++ [u]).toArray := by apply Array.ext'; simpa using hus
  subst hvs
  refine popAt_ z.1 (y := u) (by simp) (fun h' hs' e' => ?_) (szLine (by omega))
  obtain ⟨y, st⟩ := R.set (i := i) (a := a) (o := { cls := .type "list", data := .seq ((us ++ [u]).toArray.pop) (m + 1) }) (ao := .lst xs.dropLast) ha (.lst (by simpa using ru)) hm
  exact k _ _ _ _ s.toks ⟨ρ, st, .fz hu, y⟩ (S.setAt hm hs' e')
/-- a list, owned or frozen, with frozen items -/
theorem extend_sound {i : Nat} {a b : Addr} {xs ys : List FV} {ws : Array Value} {m2 : Nat} (R : OwnR d ρ ow F led) (ha : ρ[i]? = some a) (e : ow[i]? = some (.lst xs)) (hl : xs.length + ys.length ≤ 10000)
    (hb : ∀ h, LSt F O led h → h.get? b = some { cls := .type "list", data := .seq ws m2 }) (r2 : VFs d.prog d.w F ws.toList ys) :
    Ev d.prog d.w A O (call (.builtin "list.extend") [.ref a, .ref b]) F led (CallP d ρ F led (.fz .none, ow.set i (.lst (xs ++ ys)))) := by
  intro s Q E S k
  obtain ⟨vs, m, hm, r⟩ := (R.at e ha).list rfl
  have z := S.ld _ hm
  have h1 := VFs.size r
  have h2 := VFs.size r2
  have hsz : vs.size + ws.size ≤ sizeLine := szLine (by omega)
  refine call_meets PySem.F.slot_list_extend ⟨_, z.1, rfl⟩ PySem.F.entry_list_extend (PySem.F.args_list_extend_2 _ _) (AutoSeq1.list_extend_list_list_0 a vs m b ws m2 (extend_door hsz) (Nat.le_trans (Nat.le_add_right _ _) hsz) (by omega)) ⟨z.1, hb _ S, ?_⟩
  have e' : (s.heap.update a (Obj.mapSeq fun x => x ++ ws)).get? a = some { cls := .type "list", data := .seq (vs ++ ws) (if (vs ++ ws).size == vs.size then m else m + 1) } := by
    rw [Heap.get?_update_self _ z.1 (by rw [mapSeq_app]; rfl), mapSeq_app]
  obtain ⟨y, st⟩ := R.set (i := i) (a := a) (o := { cls := .type "list", data := .seq (vs ++ ws) (if (vs ++ ws).size == vs.size then m else m + 1) }) (ao := .lst (xs ++ ys)) ha (.lst (by rw [Array.toList_append]; exact r.append r2)) hm
  exact k _ _ _ _ s.toks ⟨ρ, st, .fz .none, y⟩ (S.setAt hm (Heap.SameBut.update ..) e')
/-- stores -/
theorem setStr_sound {i : Nat} {a : Addr} {v : Value} {x : FV} {ks : Str} {t : Tok} {es : List (Str × FV)} (R : OwnR d ρ ow F led) (ha : ρ[i]? = some a) (e : ow[i]? = some (.dic es)) (hv : VF d.prog d.w F v x) (hl : es.length ≤ 10000) :
    Ev d.prog d.w A O (setItem (.ref a) (.str ks t) v) F led (fun _ F' led' => CallP d ρ F led (.fz .none, ow.set i (.dic (store es ks x))) .none F' led') := by
  intro s Q E S k
  obtain ⟨ob, kvs, hm, hd, r⟩ := (R.at e ha).dict rfl
  have z := S.ld _ hm
  have hD : s.heap.DictOf (strKind d.prog d.w) a kvs := Heap.dictOf_iff.mpr ⟨ob, z.1, hd⟩
  have hlen : kvs.length = es.length := by have := congrArg List.length r.keys; simpa using this
  unfold setItem
  try with_reducible refine wpAny_holding ?_
  refine wpAny_bind (wpAny_sequenceKey hD.typeIs (by decide) ?_)
  refine wpAny_bind (wpAny_callSpecial?_slot (name := Str.ofString "__setitem__") hD.typeIs slot_dict_setitem
    (wpAny_call_entry slot_dict_setitem hD.typeIs entry_dict_setitem ?_ (args_dict_setitem _ _ _)))
  show wpAny _ _ (Builtin.Dict.notOrdered "__setitem__" ⟨[.ref a, .str ks t, v], []⟩ >>= _) _ _ s
  refine wpAny_bind (wpAny_notOrdered_dict hD.typeIs ?_)
  show wpAny _ _ (dictSet a (.str ks t) v >>= _) _ _ s
  refine wpAny_bind (wpAny_dictSet_pairs (hsz := szOf hlen hl) (strKind_is _ _ ks t) hD fun h' hm' hs' => wpAny_pure ⟨.none, rfl, wpAny_pure ?_⟩)
  obtain ⟨o', ho', hd'⟩ := Heap.dictOf_iff.mp hm'
  obtain ⟨y, st⟩ := R.set (i := i) (a := a) (o := o') (ao := .dic (store es ks x)) ha (.dic hd' (r.stored ks hv)) hm
  exact k () _ _ _ _ ⟨ρ, st, .fz .none, y⟩ (S.setAt hm hs' ho')
theorem setIdx_sound {i : Nat} {a : Addr} {v : Value} {x : FV} {k : Int} {t : Tok} {xs : List FV} (R : OwnR d ρ ow F led) (ha : ρ[i]? = some a) (e : ow[i]? = some (.lst xs)) (hv : VF d.prog d.w F v x) (h0 : 0 ≤ k) (hk : k.toNat < xs.length) (hl : xs.length ≤ 10000) :
    Ev d.prog d.w A O (setItem (.ref a) (.int k t) v) F led (fun _ F' led' => CallP d ρ F led (.fz .none, ow.set i (.lst (xs.set k.toNat x))) .none F' led') := by
  intro s Q E S kk
  obtain ⟨vs, m, hm, r⟩ := (R.at e ha).list rfl
  have z := S.ld _ hm
  have hsz := VFs.size r
  have ho := z.1
  have hl' : s.heap.IsList a vs := ⟨_, ho, rfl, m, rfl⟩
  unfold setItem
  try with_reducible refine wpAny_holding ?_
  first | refine wpAny_bind (wpAny_pure ?_) | skip
  refine wpAny_bind (wpAny_sequenceKey hl'.typeIs (by decide) ?_)
  refine wpAny_bind (wpAny_callSpecial?_slot (name := Str.ofString "__setitem__") hl'.typeIs slot_list_setitem
    (wpAny_call_entry slot_list_setitem hl'.typeIs entry_list_setitem ?_ (args_list_setitem _ _ _)))
  show wpAny _ _ (Builtin.List.listSubscript? (.int k t) >>= _) _ _ s
  refine wpAny_bind (wpAny_listSubscript_int (fitsIndex_of h0 (by omega)) ?_)
  obtain ⟨j, rfl⟩ := Int.eq_ofNat_of_zero_le h0
  have hj : j < vs.size := by simp at hk; omega
  have hx' : vs[j]? = some vs[j] := Array.getElem?_eq_getElem hj
  show wpAny _ _ ((seqItemAt a j >>= fun r => pure (r.map (j, ·))) >>= _) _ _ s
  refine wpAny_bind (wpAny_bind (wpAny_seqItemAt ho rfl (wpAny_pure ?_)))
  rw [hx']
  show wpAny _ _ (setSeqItemAt a j v >>= _) _ _ s
  have mp : Obj.mapSeq (·.setIfInBounds j v) { cls := .type "list", data := .seq vs m } = { cls := .type "list", data := .seq (vs.setIfInBounds j v) m } := by
    show ({ cls := .type "list", data := .seq _ _ } : Obj) = _
    have : ((vs.setIfInBounds j v).size == vs.size) = true := by simp
    rw [this]; rfl
  refine wpAny_bind (wpAny_setSeqItemAt ho rfl ?_)
  have e' : (s.heap.update a (Obj.mapSeq (·.setIfInBounds j v))).get? a = some { cls := .type "list", data := .seq (vs.setIfInBounds j v) m } := by
    rw [Heap.get?_update_self _ ho (by rw [mp]; rfl), mp]
  obtain ⟨y, st⟩ := R.set (i := i) (a := a) (o := { cls := .type "list", data := .seq (vs.setIfInBounds j v) m }) (ao := .lst (xs.set j x)) ha (.lst (by rw [Array.toList_setIfInBounds]; exact r.set hv)) hm
  have fin := kk () _ _ _ s.toks ⟨ρ, st, .fz .none, y⟩ (S.setAt hm (Heap.SameBut.update ..) e')
  first
    | exact wpAny_bind (wpAny_pure (wpAny_pure ⟨.none, rfl, wpAny_pure fin⟩))
    | exact wpAny_pure ⟨.none, rfl, wpAny_pure fin⟩
end
end Xm

open PySem PySem.W PySem.Calls PyProof.Rows PySem.Spec
namespace Xm
open PyProof.Rows.LCg (NsObj)

noncomputable def Pg {α β : Type} (d : D0) (env : Env) (wr ρ : List Addr) (F : PH) (led : Led) (Rl : List Addr → PH → α → β → Prop) (out : β × AS) : α → PH → Led → Prop :=
  fun a F' led' => ∃ ρ', Stp wr ρ F led ρ' F' led' ∧ Rl ρ' F' a out.1 ∧ IRel d env wr ρ' out.2 F' led'
noncomputable abbrev VRl (d : D0) : List Addr → PH → Value → AV → Prop := fun ρ F v x => VR d.prog d.w ρ F v x
noncomputable abbrev VRsl (d : D0) : List Addr → PH → List Value → List AV → Prop := fun ρ F v x => VRs d.prog d.w ρ F v x
noncomputable abbrev Bl : List Addr → PH → Bool → Bool → Prop := fun _ _ a b => a = b
inductive FlR (d : D0) (ρ : List Addr) (F : PH) : Flow → Fl → Prop
  | next : FlR d ρ F .next .next
  | brk : FlR d ρ F .brk .brk
  | cont : FlR d ρ F .cont .cont
  | ret {v : Value} {x : AV} : VR d.prog d.w ρ F v x → FlR d ρ F (.ret v) (.ret x)
noncomputable def SndE (d : D0) (f : Expr → AS → Option (AV × AS)) (n : Nat) : Prop :=
  ∀ e σ out, f e σ = some out → ∀ (A : Around) (O F : PH) (led : Led) (wr ρ : List Addr) (env : Env), Cx d A n env → Base d F → IRel d env wr ρ σ F led → Ev d.prog d.w A O (eval e env) F led (Pg d env wr ρ F led (VRl d) out)
noncomputable def SndX (d : D0) (f : List Stmt → AS → Option (Fl × AS)) (n : Nat) : Prop :=
  ∀ e σ out, f e σ = some out → ∀ (A : Around) (O F : PH) (led : Led) (wr ρ : List Addr) (env : Env), Cx d A n env → Base d F → IRel d env wr ρ σ F led → Ev d.prog d.w A O (execs e env) F led (Pg d env wr ρ F led (FlR d) out)
noncomputable def EvC (d : D0) (A : Around) (O : PH) (c : Code) (F : PH) (led : Led) (P : Flow → PH → Led → Prop) : Prop :=
  ∀ (s : Shared) (R : Result → Shared → Prop), LSt F O led s.heap → (∀ f F' led' h' tk', P f F' led' → LSt F' O led' h' → R (.ok f) { s with heap := h', toks := tk' }) → codeAny (model d.prog d.w) A c R s
noncomputable def SndW (d : D0) (f : Expr → List Stmt → AS → Option (Fl × AS)) (n : Nat) : Prop :=
  ∀ t b σ out, f t b σ = some out → ∀ (A : Around) (O F : PH) (led : Led) (wr ρ : List Addr) (env : Env), Cx d A n env → Base d F → IRel d env wr ρ σ F led → EvC d A O (.whileLoop t b [] env) F led (Pg d env wr ρ F led (FlR d) out)
noncomputable def SndC (d : D0) (f : Addr → List AV → List AO → Option (AV × List AO)) (n : Nat) : Prop :=
  ∀ a args ow out, f a args ow = some out → CallOk d n a args ow out
structure Snd (d : D0) (ih : Ih) (n : Nat) : Prop where
  ev : SndE d ih.ev n
  ex : SndX d ih.ex n
  wh : SndW d ih.wh n
  cl : SndC d ih.cl n

section
variable {d : D0} {ih : Ih} {n : Nat}
theorem Pg.lift {α β : Type} {env : Env} {wr ρ ρ₁ : List Addr} {F F₁ : PH} {led led₁ : Led} {Rl : List Addr → PH → α → β → Prop} {out : β × AS} {a : α} {F' : PH} {led' : Led} (h : Pg d env wr ρ₁ F₁ led₁ Rl out a F' led') (st : Stp wr ρ F led ρ₁ F₁ led₁) :
    Pg d env wr ρ F led Rl out a F' led' := h.imp fun _ r => ⟨st.trans r.1, r.2⟩
theorem Pg.here {α β : Type} {env : Env} {wr ρ : List Addr} {F : PH} {led : Led} {Rl : List Addr → PH → α → β → Prop} {b : β} {σ : AS} {a : α} (r : Rl ρ F a b) (R : IRel d env wr ρ σ F led) : Pg d env wr ρ F led Rl (b, σ) a F led := ⟨ρ, Stp.refl, r, R⟩
theorem Pg.ofCall {env : Env} {wr ρ : List Addr} {F : PH} {led : Led} {x : AV} {ow' : List AO} {σ : AS} {v : Value} {F' : PH} {led' : Led} (h : CallP d ρ F led (x, ow') v F' led') (R : IRel d env wr ρ σ F led) :
    Pg d env wr ρ F led (VRl d) (x, { σ with ow := ow' }) v F' led' := h.imp fun _ r => ⟨r.1.nil, r.2.1, R.step r.1 r.2.2⟩

theorem starEach_cons {e : Expr} {r : List Expr} {env : Env} {pos : Pos} (h : plainE e = true) : backTo pos (starEach (e :: r) env) = (false, eval e env) :: backTo pos (starEach r env) := by
  induction e using PySem.Expr.casesOn <;> first | rfl | exact Bool.noConfusion h

theorem evs_sound (H : SndE d ih.ev n) : ∀ es σ out, evs ih es σ = some out → ∀ (A : Around) (O F : PH) (led : Led) (wr ρ : List Addr) (env : Env) (pos : Pos), Cx d A n env → Base d F → IRel d env wr ρ σ F led →
    Ev d.prog d.w A O (spliced (backTo pos (starEach es env))) F led (Pg d env wr ρ F led (VRsl d) out) := by
  intro es
  induction es with
  | nil => exact fun σ => (okS fun A O F led wr ρ env pos cx B R s Q E S k => spliced_nil (k _ _ _ s.heap s.toks (Pg.here .nil R) S) : Okay (some ([], σ)) _)
  | cons e r IH =>
    refine fun σ => (okI fun hp => okB fun p e1 => okB fun q e3 => okS fun A O F led wr ρ env pos cx B R s Q E S k => ?_ : Okay (if plainE e then bnd (ih.ev e σ) fun p => bnd (evs ih r p.2) fun q => some (p.1 :: q.1, q.2) else none) _)
    rw [starEach_cons hp]
    exact spliced_cons (H _ _ _ e1 _ _ _ _ _ _ _ cx B R s _ _ S fun v F' led' h' tk' pg S' => pg.elim fun ρ' q1 => IH _ _ e3 _ _ _ _ _ _ _ _ cx (B.le q1.1.le) q1.2.2 _ _ _ S' fun vs F2 led2 h2 tk2 p2 S2 => p2.elim fun ρ2 q2 =>
      k _ _ _ _ _ ⟨ρ2, q1.1.trans q2.1, .cons (q1.2.1.mono q2.1.ext q2.1.le) q2.2.1, q2.2.2⟩ S2)

theorem IRel.kindG {env : Env} {wr ρ : List Addr} {σ : AS} {F : PH} {led : Led} (R : IRel d env wr ρ σ F led) {x : Str} {k : NameKind} (h : σ.sc.lookup x = some k) (hk : k ≠ .free) : env.kindOf x = some k := by
  rcases R.sc x with e | ⟨e, _⟩
  · exact e.trans h
  · rw [h] at e; cases e; exact absurd rfl hk

/-! comparisons of values with places -/
section
variable {A : Around} {O F : PH} {led : Led} {wr ρ : List Addr} {env : Env} {σ : AS} {ow : List AO} {s : Shared} {E : Value → Shared → Prop}
theorem isNone_both {a : Value} {x : AV} {r : Bool} {Q : Value → Shared → Prop} (h : VR d.prog d.w ρ F a x) (e : isNoneA x = some r) : (Q (.bool r) s → wpAny (model d.prog d.w) A (compareOp .Is a .none) Q E s) ∧ (Q (.bool (!r)) s → wpAny (model d.prog d.w) A (compareOp .IsNot a .none) Q E s) := by
  refine (?_ : Okay (isNoneA x) fun r => (Q (.bool r) s → wpAny (model d.prog d.w) A (compareOp .Is a .none) Q E s) ∧ (Q (.bool (!r)) s → wpAny (model d.prog d.w) A (compareOp .IsNot a .none) Q E s)) r e
  have ref : ∀ ad : Addr, (Q (.bool false) s → wpAny (model d.prog d.w) A (compareOp .Is (.ref ad) .none) Q E s) ∧ (Q (.bool true) s → wpAny (model d.prog d.w) A (compareOp .IsNot (.ref ad) .none) Q E s) := fun ad => ⟨is_none_ne (fun q => nomatch q), isnot_none_ne (fun q => nomatch q)⟩
  clear e
  induction h using VR.casesOn with
  | fz h => induction h using VF.casesOn with
    | none => exact okS ⟨is_none_none, isnot_none_none⟩
    | tup => exact okS (ref _)
    | lst => exact okS (ref _)
    | _ => exact okN
  | loc => exact okS (ref _)
  | _ => exact okN
/-- the table of answers: what is assumed of it here, shown where it is built -/
structure KnoIn (d : D0) : Prop where
  isIn : ∀ (A : Around) (O F : PH) (led : Led) (ρ : List Addr) (ow : List AO) (s : Shared) (E : Value → Shared → Prop) (Q : Value → Shared → Prop) (a b : Value) (x y : AV) (i : Nat) (t : FV) (es : List (FV × FV)), A.units + 64 < cLine → Base d F → OwnR d ρ ow F led → LSt F O led s.heap →
    VR d.prog d.w ρ F a x → VR d.prog d.w ρ F b y → rd ow x = some t → isKey t = true → knoAt ow y = some (i, es) → (∀ tk, Q (.bool (lookK es t).isSome) { s with toks := tk }) → wpAny (model d.prog d.w) A (compareOp .In a b) Q E s
  item : ∀ (A : Around) (O F : PH) (led : Led) (ρ : List Addr) (ow : List AO) (s : Shared) (E : Value → Shared → Prop) (Q : Value → Shared → Prop) (a b : Value) (j : Nat) (t v : FV) (es : List (FV × FV)) (value slice : Expr), A.units + 64 < cLine → Base d F → OwnR d ρ ow F led → LSt F O led s.heap →
    VR d.prog d.w ρ F a (.loc j) → VF d.prog d.w F b t → isKey t = true → ow[j]? = some (.kno es) → lookK es t = some v → subscripted slice false a b = operate [a, b] (getItem a b) → (∀ u tk, VF d.prog d.w F u v → Q u { s with toks := tk }) → wpAny (model d.prog d.w) A (subscriptTail value slice a b) Q E s
  set : ∀ (A : Around) (O F : PH) (led : Led) (ρ : List Addr) (ow : List AO) (a : Addr) (b v : Value) (j : Nat) (t u : FV) (es : List (FV × FV)) (ao : AO), A.units + 64 < cLine → Base d F → OwnR d ρ ow F led →
    ρ[j]? = some a → VF d.prog d.w F b t → VF d.prog d.w F v u → isKey t = true → ow[j]? = some ao → (ao = .kno es ∨ (ao = .dic [] ∧ es = [])) → lookK es t = none → es.length ≤ 1000 →
    Ev d.prog d.w A O (setItem (.ref a) b v) F led (fun _ F' led' => CallP d ρ F led (.fz .none, ow.set j (.kno (es ++ [(t, u)]))) .none F' led')

theorem inA_sound (ok : Ok d) (kno : KnoIn d) (B : Base d F) (R : OwnR d ρ ow F led) (S : LSt F O led s.heap) (hu : A.units + 64 < cLine) {a b : Value} {x y : AV} {r : Bool} {Q : Value → Shared → Prop}
    (ha : VR d.prog d.w ρ F a x) (hb : VR d.prog d.w ρ F b y) (e : inA ow x y = some r) (k : ∀ tk, Q (.bool r) { s with toks := tk }) : wpAny (model d.prog d.w) A (compareOp .In a b) Q E s := by
  refine bndE e fun t e1 e => ?_
  generalize hk : knoIf ow t y = z at e
  induction z using Option.casesOn with
  | some q => exact iteE hk fun h1 h2 => kno.isIn A O F led ρ ow s E Q a b x y q.1 t q.2 hu B R S ha hb e1 h1 h2 (Option.some.inj e ▸ k)
  | none => exact bndE e fun u e2 e => inF_sound hu (rd_sound ok B R S ha e1) (rd_sound ok B R S hb e2) e k
theorem isNo_is {b : Value} {y : AV} (hb : VR d.prog d.w ρ F b y) : isNo y = true → b = .none := by
  induction hb using VR.casesOn with
  | fz h => induction h using VF.casesOn with
    | none => exact fun _ => rfl
    | _ => exact fun e => Bool.noConfusion e
  | _ => exact fun e => Bool.noConfusion e
theorem cmpI_sound {op : CmpOp} {a b : Value} {x y : AV} {Q : Value → Shared → Prop} (ha : VR d.prog d.w ρ F a x) (hb : VR d.prog d.w ρ F b y) {T : Bool → Prop} (hT : ∀ r, (Q (.bool r) s → wpAny (model d.prog d.w) A (compareOp op a b) Q E s) → T r) :
    Okay (bnd (asI x) fun x => bnd (asI y) fun y => cmpI op x y) T := okB fun i e1 => okB fun j e2 => by
  revert hT
  refine bndE e1 fun t e1 e3 => bndE e2 fun u e2 e4 => (ha.ofF e1).asI e3 fun tk => (hb.ofF e2).asI e4 fun tk2 => ?_
  induction op using PySem.CmpOp.casesOn with
  | Lt => exact fun hT => okS (hT _ PyProof.Rows.lt_int)
  | Gt => exact fun hT => okS (hT _ PyProof.Rows.gt_int)
  | GtE => exact fun hT => okS (hT _ PyProof.Rows.ge_int)
  | LtE => exact fun hT => okS (hT _ PyProof.Rows.le_int)
  | _ => exact fun _ => okN
theorem cmpA_sound (ok : Ok d) (kno : KnoIn d) (B : Base d F) (R : OwnR d ρ ow F led) (S : LSt F O led s.heap) (hu : A.units + 65 < cLine) {op : CmpOp} {a b : Value} {x y : AV} {r : Bool} {Q : Value → Shared → Prop}
    (ha : VR d.prog d.w ρ F a x) (hb : VR d.prog d.w ρ F b y) (e : cmpA ow op x y = some r) (k : ∀ tk, Q (.bool r) { s with toks := tk }) : wpAny (model d.prog d.w) A (compareOp op a b) Q E s := by
  refine (?_ : Okay (cmpA ow op x y) fun r => (∀ tk, Q (.bool r) { s with toks := tk }) → wpAny (model d.prog d.w) A (compareOp op a b) Q E s) r e k
  clear k e
  have hints := @cmpI_sound d A F ρ s E op a b x y Q ha hb
  have hu' := Nat.lt_of_succ_lt hu
  induction op using PySem.CmpOp.casesOn with
  | Eq => exact okB fun t e1 => okB fun u e2 r e k => eqE_sound hu (rd_sound ok B R S ha e1) (rd_sound ok B R S hb e2) e (k s.toks)
  | NotEq => exact okB fun t e1 => okB fun u e2 => okM fun r e k => neF_sound hu (rd_sound ok B R S ha e1) (rd_sound ok B R S hb e2) e (k s.toks)
  | In => exact fun r e k => inA_sound ok kno B R S hu' ha hb e k
  | NotIn => exact okM fun r e k => notIn_of_in (inA_sound ok kno B R S hu' ha hb e fun tk => ⟨rfl, k tk⟩)
  | Is => exact okI fun h r e k => by rw [isNo_is hb h]; exact (isNone_both ha e).1 (k s.toks)
  | IsNot => exact okI fun h => okM fun r e k => by rw [isNo_is hb h]; exact (isNone_both ha e).2 (k s.toks)
  | _ => exact hints fun r h k => h (k s.toks)
theorem itemA_sound (ok : Ok d) (kno : KnoIn d) (B : Base d F) (R : OwnR d ρ ow F led) (S : LSt F O led s.heap) (hu : A.units + 64 < cLine) {o i : Value} {x y v : AV} {value slice : Expr} {Q : Value → Shared → Prop}
    (ho : VR d.prog d.w ρ F o x) (hi : VR d.prog d.w ρ F i y) (e : itemA ow x y = some v) (hs : subscripted slice false o i = operate [o, i] (getItem o i))
    (k : ∀ u tk, VR d.prog d.w ρ F u v → Q u { s with toks := tk }) : wpAny (model d.prog d.w) A (subscriptTail value slice o i) Q E s := by
  refine bndE e fun kk ey e => ?_
  have hi := hi.ofF ey
  have frozen : ∀ {t : FV} {u : FV} {o : Value}, VF d.prog d.w F o t → itemF t kk = some u → v = .fz u → subscripted slice false o i = operate [o, i] (getItem o i) → wpAny (model d.prog d.w) A (subscriptTail value slice o i) Q E s := fun h e1 ev hs =>
    (itemF_held S.leH h e1).elim fun a q => by rw [q.1] at hs ⊢; exact itemF_sound q.2 hi e1 hs fun u tk hv => k u tk (ev ▸ .fz hv)
  have held : ∀ {t : FV} {u : FV} {a : Addr}, Held d F s.heap a t → itemF t kk = some u → v = .fz u → subscripted slice false (.ref a) i = operate [.ref a, i] (getItem (.ref a) i) → wpAny (model d.prog d.w) A (subscriptTail value slice (.ref a) i) Q E s := fun h e1 ev hs =>
    itemF_sound h hi e1 hs fun u tk hv => k u tk (ev ▸ .fz hv)
  have ho' := ho
  induction ho using VR.casesOn with
  | fz h => exact mapE (P := fun v' => v = v' → _) (e : (itemF _ kk).map AV.fz = some v) (fun u e1 ev => frozen h e1 ev hs) rfl
  | @tup a o vs m xs hf hc hd rv =>
    refine bndE e fun m em e => iteE e fun hk e => ?_
    revert hs
    exact hi.asI em fun t hs => (rv.at e).elim fun u q => item_tup ⟨_, S.fz _ _ hf, hc, _, hd⟩ hk q.1 q.2.1 hs (k u _ q.2.2)
  | inst => exact noS e
  | @loc a j ha =>
    refine bndE (e : bnd ow[j]? (fun o => (itemO kk o).map AV.fz) = some v) fun ao e1 e => ?_
    have p := R.at e1 ha
    have fin : ∀ u, itemO kk ao = some u → v = .fz u := fun u q => Option.some.inj (e.symm.trans (congrArg (Option.map AV.fz) q))
    refine (mapE (P := fun _ => ∃ u, itemO kk ao = some u) e fun u q => ⟨u, q⟩).elim fun u q => ?_
    have ev := fin u q
    clear fin e
    induction p using PlR.casesOn with
    | fz h => exact frozen h q ev hs
    | obj => exact noS q
    | own hm r => induction r using AOR.casesOn with
      | lst r => exact held (.lst (isL (S.ld _ hm).1) r) q ev hs
      | dic dd r => exact held (.dic (Heap.dictOf_iff.mpr ⟨_, (S.ld _ hm).1, dd⟩) r) q ev hs
      | kno => exact iteE q fun hk q => kno.item A O F led ρ ow s E Q _ i j kk u _ value slice hu B R S ho' hi hk e1 q hs fun w tk hw => k w tk (ev ▸ .fz hw)
theorem nilT_is {a : Value} {x : AV} (h : VR d.prog d.w ρ F a x) : isNilT x = true → ∃ ad o m, a = .ref ad ∧ F ad = some o ∧ o.cls = .type "tuple" ∧ o.data = .seq #[] m := by
  induction h using VR.casesOn with
  | fz h => induction h using VF.casesOn with
    | @tup a o vs m xs hf hc hd r => induction xs using List.casesOn with
      | nil => exact fun _ => ⟨a, o, m, rfl, hf, hc, hd.trans (by rw [Array.size_eq_zero_iff.mp r.size])⟩
      | cons => exact fun e => Bool.noConfusion e
    | _ => exact fun e => Bool.noConfusion e
  | _ => exact fun e => Bool.noConfusion e
theorem addA_sound (ok : Ok d) (B : Base d F) (R : IRel d env wr ρ σ F led) {a b : Value} {x y : AV}
    (ha : VR d.prog d.w ρ F a x) (hb : VR d.prog d.w ρ F b y) : Okay (addA x y σ) fun out => Ev d.prog d.w A O (binaryOp .Add a b) F led (Pg d env wr ρ F led (VRl d) out) := by
  refine okIE (fun hn => okB fun t e1 => okB fun ys e2 => okS ?_) fun _ => okB fun xs e1 => okB fun ys e2 => okI fun hlen => okS ?_
  · intro s Q E S k
    obtain ⟨a, ob, n, rfl, hf, hc, hd⟩ := nilT_is ha hn
    have hbf := hb.ofF e1
    revert hb
    refine hbf.asT e2 fun b ob2 vs2 n2 hf2 hc2 hd2 _ hb => ?_
    have ho := S.fz _ _ hf
    have ho2 := S.fz _ _ hf2
    obtain ⟨c1, dd1, da1, sl1⟩ := ob
    obtain ⟨c2, dd2, da2, sl2⟩ := ob2
    dsimp only at hc hd hc2 hd2
    subst hc hd hc2 hd2
    exact concat_meets ⟨_, ho, rfl⟩ ⟨_, ho2, rfl⟩ noFill_tuple_add seq_tuple_add PySem.F.slot_tuple_add PySem.F.entry_tuple_add (PySem.F.args_tuple_add_2 _ _)
      (tuple_addW0 a b #[] vs2 n n2 dd1 dd2 sl1 sl2 rfl) ⟨ho, ho2, k _ _ _ _ s.toks (Pg.here hb R) S⟩
  · intro s Q E S k
    obtain ⟨a, vs, n1, rfl, g1, r1⟩ := lstOf_sound (O := O) R.own ha e1
    obtain ⟨b, us, n2, rfl, g2, r2⟩ := lstOf_sound (O := O) R.own hb e2
    obtain ⟨led', S', cp⟩ := lst_at (vs := vs ++ us) (c := 0) (xs := xs ++ ys) (h' := s.heap.push { cls := .type "list", data := .seq (vs ++ us) }) R.own S (by rw [Array.toList_append]; exact r1.append r2) (fun b o e => Heap.get?_push_of_some _ e) (Heap.get?_push_size _ rfl)
    exact concat_meets ⟨_, g1 _ S, rfl⟩ ⟨_, g2 _ S, rfl⟩ noFill_list_add seq_list_add PySem.F.slot_list_add PySem.F.entry_list_add (PySem.F.args_list_add_2 _ _) (list_addW a b vs us n1 n2 none none #[] #[] (szOf (congr (congrArg HAdd.hAdd r1.size) r2.size) (Nat.le_trans hlen (by decide))))
      ⟨g1 _ S, g2 _ S, k _ _ _ _ s.toks (Pg.ofCall cp R) S'⟩
theorem isAdd_is {op : Operator} (h : isAdd op = true) : op = .Add := by
  induction op using PySem.Operator.casesOn <;> first | rfl | exact Bool.noConfusion h
theorem binA_sound (ok : Ok d) (B : Base d F) (R : IRel d env wr ρ σ F led) {op : Operator} {a b : Value} {x y : AV} {out : AV × AS}
    (ha : VR d.prog d.w ρ F a x) (hb : VR d.prog d.w ρ F b y) (e : binA op x y σ = some out) : Ev d.prog d.w A O (binaryOp op a b) F led (Pg d env wr ρ F led (VRl d) out) := by
  unfold binA at e
  generalize hx : asI x = z at e
  induction z using Option.casesOn with
  | some i =>
    refine bndE e fun j hy e => mapE e fun z e => bndE hx fun t e1 e3 => bndE hy fun u e2 e4 => ?_
    exact fun s Q E S k => (ha.ofF e1).asI e3 fun t => (hb.ofF e2).asI e4 fun u => binI_sound e fun t' tk => k _ _ _ _ tk (Pg.here (.fz (.int z t')) R) S
  | none => exact iteE e fun h e => by rw [isAdd_is h]; exact addA_sound ok B R ha hb _ e
end
end
end Xm

open PySem PySem.W PySem.Calls PyProof.Rows PySem.Spec
namespace Xm
section
variable {d : D0} {ih : Ih} {n : Nat} {A : Around} {O F : PH} {led : Led} {wr ρ : List Addr} {env : Env} {σ : AS} {s : Shared} {E : Value → Shared → Prop}
/-- what is asked of the answer -/
noncomputable def Kn {α β : Type} (d : D0) (O : PH) (env : Env) (wr ρ : List Addr) (F : PH) (led : Led) (Rl : List Addr → PH → α → β → Prop) (s : Shared) (Q : α → Shared → Prop) (out : β × AS) : Prop :=
  ∀ a F' led' h' tk', Pg d env wr ρ F led Rl out a F' led' → LSt F' O led' h' → Q a { s with heap := h', toks := tk' }
noncomputable def AskE {α β : Type} (d : D0) (n : Nat) (t : Env → Sem α) (Rl : List Addr → PH → α → β → Prop) (σ : AS) (out : β × AS) : Prop :=
  ∀ (A : Around) (O F : PH) (led : Led) (wr ρ : List Addr) (env : Env), Cx d A n env → Base d F → IRel d env wr ρ σ F led → ∀ (s : Shared) (Q : α → Shared → Prop) (E : Value → Shared → Prop), LSt F O led s.heap → Kn d O env wr ρ F led Rl s Q out → wpAny (model d.prog d.w) A (t env) Q E s
theorem Pg.op {α β : Type} {Rl : List Addr → PH → α → β → Prop} {out : β × AS} {Q : α → Shared → Prop} (B : Base d F) (k : ∀ a F' led' h' tk' ρ', Stp wr ρ F led ρ' F' led' → Rl ρ' F' a out.1 → IRel d env wr ρ' out.2 F' led' → LSt F' O led' h' → Base d F' → Q a { s with heap := h', toks := tk' }) :
    ∀ a F' led' h' tk', Pg d env wr ρ F led Rl out a F' led' → LSt F' O led' h' → Q a { s with heap := h', toks := tk' } :=
  fun a F' led' h' tk' ⟨ρ', st, r, R⟩ S => k a F' led' h' tk' ρ' st r R S (B.le st.le)
theorem goE {ev : Expr → AS → Option (AV × AS)} {e : Expr} {p : AV × AS} {Q : Value → Shared → Prop} (H : SndE d ev n) (e1 : ev e σ = some p) (cx : Cx d A n env) (B : Base d F) (R : IRel d env wr ρ σ F led) (S : LSt F O led s.heap)
    (k : ∀ a F' led' h' tk' ρ', Stp wr ρ F led ρ' F' led' → VR d.prog d.w ρ' F' a p.1 → IRel d env wr ρ' p.2 F' led' → LSt F' O led' h' → Base d F' → Q a { s with heap := h', toks := tk' }) : wpAny (model d.prog d.w) A (eval e env) Q E s :=
  H _ _ _ e1 _ _ _ _ _ _ _ cx B R s Q E S (Pg.op B k)
theorem goEs {ev : Ih} {es : List Expr} {p : List AV × AS} {pos : Pos} {Q : List Value → Shared → Prop} (H : SndE d ev.ev n) (e1 : evs ev es σ = some p) (cx : Cx d A n env) (B : Base d F) (R : IRel d env wr ρ σ F led) (S : LSt F O led s.heap)
    (k : ∀ a F' led' h' tk' ρ', Stp wr ρ F led ρ' F' led' → VRs d.prog d.w ρ' F' a p.1 → IRel d env wr ρ' p.2 F' led' → LSt F' O led' h' → Base d F' → Q a { s with heap := h', toks := tk' }) : wpAny (model d.prog d.w) A (spliced (backTo pos (starEach es env))) Q E s :=
  evs_sound H _ _ _ e1 _ _ _ _ _ _ _ _ cx B R s Q E S (Pg.op B k)
theorem un64 (ok : Ok d) (cx : Cx d A n env) : A.units + 65 < cLine := by have := cx.un; have := ok.um; omega
theorem un65 (ok : Ok d) (cx : Cx d A n env) : A.units + 64 < cLine := Nat.lt_of_succ_lt (un64 ok cx)
/-- going on after a step -/
theorem Pg.next {α β : Type} {Rl : List Addr → PH → α → β → Prop} {out : β × AS} {Q : α → Shared → Prop} {ρ₁ : List Addr} {F₁ : PH} {led₁ : Led} {h : Heap} {tk : Nat} (st : Stp wr ρ F led ρ₁ F₁ led₁) (k : Kn d O env wr ρ F led Rl s Q out) :
    ∀ a F' led' h' tk', Pg d env wr ρ₁ F₁ led₁ Rl out a F' led' → LSt F' O led' h' → Q a { ({ s with heap := h, toks := tk } : Shared) with heap := h', toks := tk' } :=
  fun a F' led' h' tk' pg S => k a F' led' h' tk' (pg.lift st) S
theorem Pg.call {x : AV} {ow' : List AO} {σ : AS} {Q : Value → Shared → Prop} {ρ₁ : List Addr} {F₁ : PH} {led₁ : Led} {h : Heap} {tk : Nat} (R : IRel d env wr ρ₁ σ F₁ led₁) (st : Stp wr ρ F led ρ₁ F₁ led₁) (k : Kn d O env wr ρ F led (VRl d) s Q (x, { σ with ow := ow' })) :
    ∀ a F' led' h' tk', CallP d ρ₁ F₁ led₁ (x, ow') a F' led' → LSt F' O led' h' → Q a { ({ s with heap := h, toks := tk } : Shared) with heap := h', toks := tk' } :=
  fun a F' led' h' tk' cp S => k a F' led' h' tk' ((Pg.ofCall cp R).lift st) S
/-- answers that make nothing -/
theorem Pg.to {α β : Type} {Rl : List Addr → PH → α → β → Prop} {b : β} {σ : AS} {Q : α → Shared → Prop} {ρ₁ : List Addr} {F₁ : PH} {led₁ : Led} {h : Heap} {a : α} (tk : Nat) (k : Kn d O env wr ρ F led Rl s Q (b, σ))
    (r : Rl ρ₁ F₁ a b) (R : IRel d env wr ρ₁ σ F₁ led₁) (st : Stp wr ρ F led ρ₁ F₁ led₁) (S : LSt F₁ O led₁ h) : Q a { s with heap := h, toks := tk } :=
  k a F₁ led₁ h tk ((Pg.here r R).lift st) S
theorem Pg.same {α β : Type} {Rl : List Addr → PH → α → β → Prop} {b : β} {σ : AS} {Q : α → Shared → Prop} {a : α} (tk : Nat) (k : Kn d O env wr ρ F led Rl s Q (b, σ))
    (r : Rl ρ F a b) (R : IRel d env wr ρ σ F led) (S : LSt F O led s.heap) : Q a { s with toks := tk } :=
  k a F led s.heap tk (Pg.here r R) S
end
end Xm

open PySem PySem.W PySem.Calls PyProof.Rows PySem.Spec
namespace Xm
open PyProof.Rows.LCg (NsObj)

section
variable {d : D0} {ih : Ih} {n : Nat} {A : Around} {O F : PH} {led : Led} {wr ρ : List Addr} {env : Env} {σ : AS} {s : Shared} {E : Value → Shared → Prop}

theorem truth_sound (ok : Ok d) (B : Base d F) (R : IRel d env wr ρ σ F led) {v : Value} {x : AV} {t : FV} {b : Bool} (hv : VR d.prog d.w ρ F v x) (e1 : rd σ.ow x = some t) (e2 : truthF t = some b) :
    Ev d.prog d.w A O (truthy v) F led (Pg d env wr ρ F led Bl (b, σ)) := fun s Q E S k =>
  truthF_sound (rd_sound ok B R.own S hv e1) e2 fun tk => k _ _ _ s.heap tk (Pg.here rfl R) S

theorem plain_test {e : Expr} (h : plainT e = true) : isTrue e env (eval e env) = (do let v ← eval e env; standAt e.pos; holding [v] (truthy v)) := by
  induction e using PySem.Expr.casesOn <;> first | rfl | exact Bool.noConfusion h
theorem tr_plain (ok : Ok d) (H : SndE d ih.ev n) {e : Expr} {T : Bool × AS → Prop} (hp : plainT e = true) (hT : ∀ out, AskE d n (fun env => isTrue e env (eval e env)) Bl σ out → T out) :
    Okay (bnd (ih.ev e σ) fun p => bnd (rd p.2.ow p.1) fun t => bnd (truthF t) fun b => some (b, p.2)) T :=
  okB fun p e1 => okB fun t e2 => okB fun b e3 => okS (hT _ fun A O F led wr ρ env cx B R s Q E S k =>
    isTrue_plain (goE H e1 cx B R S fun v F1 led1 h1 tk1 ρ1 st1 hv R1 S1 B1 => truth_sound ok B1 R1 hv e2 e3 _ _ _ S1 (Pg.next st1 k)) (plain_test hp))
theorem tr_sound (ok : Ok d) (kno : KnoIn d) (H : SndE d ih.ev n) : ∀ m,
    (∀ e σ out, tr ih m e σ = some out → AskE d n (fun env => isTrue e env (eval e env)) Bl σ out) ∧
    (∀ op es σ out, tr.trs ih m op es σ = some out → ∀ (pos : Pos) (whole : Sem Value), AskE d n (fun env => isTrue (.BoolOp op es pos) env whole) Bl σ out) := by
  intro m
  induction m with
  | zero => exact ⟨fun e σ out he => (nomatch he), fun op es σ out he => (nomatch he)⟩
  | succ m IH =>
    refine ⟨hideO2 fun T hT e σ => ?_, fun op => hideO2 fun T hT es σ => ?_⟩
    · induction e using PySem.Expr.casesOn with
      | UnaryOp op x p => induction op using PySem.UnaryOp.casesOn with
        | Not => exact okB fun l e1 => okS (hT _ _ _ fun A O F led wr ρ env cx B R s Q E S k => isTrue_not (IH.1 _ _ _ e1 _ _ _ _ _ _ _ cx B R s _ _ S (Pg.op B fun c F1 led1 h1 tk1 ρ1 st1 hc R1 S1 B1 => Pg.to (Rl := Bl) tk1 k (congrArg (!·) hc) R1 st1 S1)))
        | _ => exact okN
      | BoolOp op xs p => exact fun out he => hT _ _ _ fun A O F led wr ρ env => IH.2 op xs σ out he p _ A O F led wr ρ env
      | Compare l ops rs p => induction ops using List.casesOn with
        | nil => exact okN
        | cons op ops => induction ops using List.casesOn with
          | cons => exact okN
          | nil => induction rs using List.casesOn with
            | nil => exact okN
            | cons r rs => induction rs using List.casesOn with
              | cons => exact okN
              | nil =>
                exact okE fun hm => okB fun l1 e1 => okB fun l2 e2 => okB fun rb e3 => okS (hT _ _ _ fun A O F led wr ρ env cx B R s Q E S k =>
                  wpAny_isTrue_Compare1 (goE H e1 cx B R S fun u F1 led1 h1 tk1 ρ1 st1 hv R1 S1 B1 => goE H e2 cx B1 R1 S1 fun u2 F2 led2 h2 tk2 ρ2 st2 hv2 R2 S2 B2 =>
                    cmpA_sound ok kno B2 R2.own S2 (un64 ok cx) (hv.mono st2.ext st2.le) hv2 e3 fun tk => wpAny_truthy_bool (Pg.to (Rl := Bl) tk k rfl R2 (st1.trans st2) S2)) (Bool.eq_false_iff.mpr hm))
      | IfExp => exact okN
      | _ => exact tr_plain ok H rfl (hT _ _)
    · induction es using List.casesOn with
      | nil => induction op using PySem.BoolOp.casesOn with
        | And => exact okS (hT _ _ _ fun pos whole A O F led wr ρ env cx B R s Q E S k => isTrue_and_nil (Pg.same s.toks k rfl R S))
        | Or => exact okS (hT _ _ _ fun pos whole A O F led wr ρ env cx B R s Q E S k => isTrue_or_nil (Pg.same s.toks k rfl R S))
      | cons x r =>
        refine okB fun l e1 => ?_
        obtain ⟨b, σ1⟩ := l
        have first : ∀ {A O F led wr ρ env} {s : Shared} {Q E}, Cx d A n env → Base d F → IRel d env wr ρ σ F led → LSt F O led s.heap →
            (∀ F' led' h' tk' ρ', Stp wr ρ F led ρ' F' led' → IRel d env wr ρ' σ1 F' led' → LSt F' O led' h' → Base d F' → Q b { s with heap := h', toks := tk' }) → wpAny (model d.prog d.w) A (isTrue x env (eval x env)) Q E s :=
          fun cx B R S k => IH.1 _ _ _ e1 _ _ _ _ _ _ _ cx B R _ _ _ S (Pg.op B fun c F1 led1 h1 tk1 ρ1 st1 (hc : c = b) R1 S1 B1 => hc ▸ k F1 led1 h1 tk1 ρ1 st1 R1 S1 B1)
        induction op using PySem.BoolOp.casesOn with
        | And => induction b using Bool.casesOn with
          | false => exact okS (hT _ _ _ fun pos whole A O F led wr ρ env cx B R s Q E S k => isTrue_and (first cx B R S fun F1 led1 h1 tk1 ρ1 st1 R1 S1 B1 => Pg.to (Rl := Bl) tk1 k rfl R1 st1 S1))
          | true => exact fun out he => hT _ _ _ fun pos whole A O F led wr ρ env cx B R s Q E S k => isTrue_and (first cx B R S fun F1 led1 h1 tk1 ρ1 st1 R1 S1 B1 => IH.2 _ _ _ _ he _ _ _ _ _ _ _ _ _ cx B1 R1 _ _ _ S1 (Pg.next st1 k))
        | Or => induction b using Bool.casesOn with
          | true => exact okS (hT _ _ _ fun pos whole A O F led wr ρ env cx B R s Q E S k => isTrue_or (first cx B R S fun F1 led1 h1 tk1 ρ1 st1 R1 S1 B1 => Pg.to (Rl := Bl) tk1 k rfl R1 st1 S1))
          | false => exact fun out he => hT _ _ _ fun pos whole A O F led wr ρ env cx B R s Q E S k => isTrue_or (first cx B R S fun F1 led1 h1 tk1 ρ1 st1 R1 S1 B1 => IH.2 _ _ _ _ he _ _ _ _ _ _ _ _ _ cx B1 R1 _ _ _ S1 (Pg.next st1 k))
theorem test_sound (ok : Ok d) (kno : KnoIn d) (H : SndE d ih.ev n) {e : Expr} {σ : AS} {out : Bool × AS} (he : test ih e σ = some out) {A : Around} {O F : PH} {led : Led} {wr ρ : List Addr} {env : Env} (cx : Cx d A n env) (B : Base d F) (R : IRel d env wr ρ σ F led) :
    Ev d.prog d.w A O (isTrue e env (eval e env)) F led (Pg d env wr ρ F led Bl out) := (tr_sound ok kno H 40).1 _ _ _ he _ _ _ _ _ _ _ cx B R

theorem goT (ok : Ok d) (kno : KnoIn d) {e : Expr} {p : Bool × AS} {Q : Bool → Shared → Prop} (H : SndE d ih.ev n) (e1 : test ih e σ = some p) (cx : Cx d A n env) (B : Base d F) (R : IRel d env wr ρ σ F led) (S : LSt F O led s.heap)
    (k : ∀ F' led' h' tk' ρ', Stp wr ρ F led ρ' F' led' → IRel d env wr ρ' p.2 F' led' → LSt F' O led' h' → Base d F' → Q p.1 { s with heap := h', toks := tk' }) : wpAny (model d.prog d.w) A (isTrue e env (eval e env)) Q E s :=
  test_sound ok kno H e1 cx B R s Q E S (Pg.op B fun a F' led' h' tk' ρ' st (r : a = p.1) R S B => r ▸ k F' led' h' tk' ρ' st R S B)
theorem nameA_sound (ok : Ok d) {x : Str} {pos : Pos} {v : AV} (e : nameA d.tb σ x = some v) (cx : Cx d A n env) (B : Base d F) (R : IRel d env wr ρ σ F led) {s : Shared} {Q : Value → Shared → Prop} {E : Value → Shared → Prop} (S : LSt F O led s.heap)
    (k : ∀ u, VR d.prog d.w ρ F u v → Q u s) : wpAny (model d.prog d.w) A (eval (.Name x pos) env) Q E s := by
  refine ifE e (fun _ e => noS e) fun hd e => ifE e (fun _ e => noS e) fun hcd e => ?_
  have hd : (x == ("__debug__" : Str)) = false := Bool.eq_false_iff.mpr hd
  have hcd : (x == ("__classdict__" : Str)) = false := Bool.eq_false_iff.mpr hcd
  refine hideG fun G hG => ?_
  have loc : σ.vars.lookup x = some v → G := fun e => by
    obtain ⟨oL, m, hL, hn, hv⟩ := R.fr
    obtain ⟨u, h1, h2⟩ := hv x v e
    refine hG (h1.elim (fun q => wpAny_Name (wpAny_loadName_local cx.kind q.1 (ns_atL hn S hL) q.2 (k u h2)) hd) fun q => ?_)
    obtain ⟨hk, cc, o, h3, h4, h5⟩ := q
    exact hk.elim (fun hk => wpAny_Name (wpAny_loadName_cell cx.kind hk h3 ⟨o, (S.ld _ h4).1, h5⟩ (k u h2)) hd) fun hk => wpAny_Name (wpAny_loadName_free cx.kind hk h3 ⟨o, (S.ld _ h4).1, h5⟩ (k u h2) hcd) hd
  generalize hl : σ.sc.lookup x = z at e
  induction z using Option.casesOn with
  | none => exact noS e
  | some kd => induction kd using PySem.NameKind.casesOn with
    | «local» => exact loc e
    | cell => exact loc e
    | free => exact loc e
    | globalImplicit =>
      generalize hg : d.tb.G x = g at e
      induction g using Option.casesOn with
      | none => exact noS e
      | some g => induction g using GV.casesOn with
        | cst v' =>
          obtain ⟨u, h1, h2⟩ := ok.G _ _ hg
          exact hG (name_glob ok cx hd (R.kindG hl (fun q => nomatch q)) h1 B S (k u (Option.some.inj e ▸ .fz (h2 F B))))
        | _ => exact noS e
    | _ => exact noS e

theorem stars {es : List Expr} (h : es.all plainE = true) {env : Env} {pos : Pos} : ∀ x ∈ backTo pos (starEach es env), x.1 = false := by
  induction es with
  | nil => exact fun _ h => nomatch h
  | cons e r ih =>
    have h := Bool.and_eq_true_iff.mp (List.all_cons.symm.trans h)
    rw [starEach_cons h.1]
    exact List.forall_mem_cons.mpr ⟨rfl, ih h.2⟩
theorem noStar {es : List Expr} (h : es.all plainE = true) (env : Env) (pos : Pos) : (backTo pos (starEach es env)).any (·.1) = false := List.any_eq_false.mpr fun x hx => Bool.eq_false_iff.mp (stars h x hx)
theorem noStar_all {es : List Expr} (h : es.all plainE = true) (env : Env) (pos : Pos) : (backTo pos (starEach es env)).all (fun x => !x.1) = true := List.all_eq_true.mpr fun x hx => congrArg (!·) (stars h x hx)

/-- the arguments of a call -/
theorem args_sound (H : SndE d ih.ev n) {f : Value} {es : List Expr} {out : List AV × AS} (he : evs ih es σ = some out) (hp : es.all plainE = true) (cx : Cx d A n env) (B : Base d F) (R : IRel d env wr ρ σ F led) {s : Shared} {pos : Pos}
    {Q : Args → Shared → Prop} {E : Value → Shared → Prop} (S : LSt F O led s.heap)
    (k : ∀ vs F' led' h' tk', Pg d env wr ρ F led (VRsl d) out vs F' led' → LSt F' O led' h' → Q ⟨vs, []⟩ { s with heap := h', toks := tk' }) : wpAny (model d.prog d.w) A (evalArgs f true (backTo pos (starEach es env)) []) Q E s := by
  induction es using List.casesOn with
  | nil => exact evalArgs_nil3 (k _ _ _ s.heap s.toks (Option.some.inj he ▸ Pg.here .nil R) S)
  | cons e r =>
    have hs := evs_sound H _ _ _ he A O F led wr ρ env pos cx B R s _ E S k
    rw [starEach_cons (Bool.and_eq_true_iff.mp (List.all_cons.symm.trans hp)).1] at hs ⊢
    exact evalArgs_plain hs
/-- the arguments, with the places opened -/
theorem goArgs (H : SndE d ih.ev n) {f : Value} {es : List Expr} {out : List AV × AS} (he : evs ih es σ = some out) (hp : es.all plainE = true) (cx : Cx d A n env) (B : Base d F) (R : IRel d env wr ρ σ F led) {s : Shared} {pos : Pos}
    {Q : Args → Shared → Prop} {E : Value → Shared → Prop} (S : LSt F O led s.heap)
    (k : ∀ a F' led' h' tk' ρ', Stp wr ρ F led ρ' F' led' → VRs d.prog d.w ρ' F' a out.1 → IRel d env wr ρ' out.2 F' led' → LSt F' O led' h' → Base d F' → Q ⟨a, []⟩ { s with heap := h', toks := tk' }) : wpAny (model d.prog d.w) A (evalArgs f true (backTo pos (starEach es env)) []) Q E s :=
  args_sound H he hp cx B R S (Pg.op (Q := fun a s' => Q ⟨a, []⟩ s') B k)

theorem lookIn_found {o : Obj} {kvs : List (Str × Value)} {k : Str} {v : Value} (h : o.IsDictOf (strKind d.prog d.w) kvs) (e : valueAt kvs k = some v) : lookIn k o = some (some v) := by
  obtain ⟨es, ep, _, hd, _, hp, _⟩ := h
  unfold lookIn
  rw [hd]
  have := hp.find k
  rw [e] at this
  obtain ⟨en, h1, h2⟩ := Option.map_eq_some_iff.mp this
  have q : (fun e : DictEntry => (strKind d.prog d.w).is k e.key) = fun e => e.key.isStr k := funext fun e => (isStr_of k e.key).symm
  rw [q] at h1
  dsimp only
  rw [h1]
  dsimp only
  rw [h2]
theorem lookIn_none {o : Obj} {kvs : List (Str × Value)} {k : Str} (h : o.IsDictOf (strKind d.prog d.w) kvs) (e : valueAt kvs k = none) : lookIn k o = some none := by
  obtain ⟨es, ep, _, hd, hk, hp, _⟩ := h
  unfold lookIn
  rw [hd]
  have := hp.find k
  rw [e, Option.map_eq_none_iff] at this
  have q : (fun e : DictEntry => (strKind d.prog d.w).is k e.key) = fun e => e.key.isStr k := funext fun e => (isStr_of k e.key).symm
  rw [q] at this
  dsimp only
  rw [this]
  dsimp only
  rw [if_neg]
  simp only [List.any_eq_true, not_exists, not_and, Bool.not_eq_true]
  intro e he
  obtain ⟨k', hk', _⟩ := hk e (by simpa using he)
  obtain ⟨t, ht⟩ := Value.isStrOf_shape hk'
  unfold DictEntry.refKey
  rw [ht]

theorem VF.handed {F : PH} {v : Value} {t : FV} (h : VF d.prog d.w F v t) : handedIn v = true := by induction h using VF.casesOn <;> rfl
theorem VR.handed {F : PH} {v : Value} {x : AV} (h : VR d.prog d.w ρ F v x) : handedIn v = true := by
  induction h using VR.casesOn with
  | fz h => exact h.handed
  | _ => rfl
/-- an attribute of an object's own dict -/
theorem attr_own (ok : Ok d) {c ad dx : Addr} {ob : Obj} {kvs : List (Str × Value)} {a : Str} {v : Value} (ha : d.tb.A c a = true) (h1 : F ad = some (instObj c dx)) (h2 : F dx = some ob) (h3 : ob.IsDictOf (strKind d.prog d.w) kvs) (hv : valueAt kvs a = some v) (hh : handedIn v = true) (B : Base d F) {s : Shared} {ex : Bool}
    {Q : Value → Shared → Prop} {E : Value → Shared → Prop} (S : LSt F O led s.heap) (k : ∀ tk, Q v { s with toks := tk }) : wpAny (model d.prog d.w) A (getAttr (.ref ad) a ex) Q E s := by
  obtain ⟨g1, ⟨cd, g2, g3⟩, g4⟩ := ok.A _ _ ha
  have I : InstAt s.heap ad (instObj c dx) c (some ob) := ⟨S.fz _ _ h1, rfl, rfl, S.fz _ _ h2⟩
  refine get_value (ok.X.keeps (B.keeps S)) I g1 (v := v) ?_ hh (k _)
  unfold findObj
  rw [g2, Option.bind_some, g4]
  simp only [Option.bind_some]
  unfold PySem.W.ownOf
  rw [g3, if_pos rfl]
  show (lookIn a ob).bind _ = _
  rw [lookIn_found h3 hv]
  rfl
theorem attrF_sound (ok : Ok d) {o : Value} {t : FV} {a : Str} (ho : VF d.prog d.w F o t) (B : Base d F) {s : Shared} {ex : Bool}
    {Q : Value → Shared → Prop} {E : Value → Shared → Prop} (S : LSt F O led s.heap) : Okay (attrF d.tb a t) fun x => (∀ u tk, VR d.prog d.w ρ F u x → Q u { s with toks := tk }) → wpAny (model d.prog d.w) A (getAttr o a ex) Q E s := by
  induction ho using VF.casesOn with
  | inst h1 h2 h3 h4 => exact okI fun ha => okM fun x e k => (h4.find e).elim fun v q => attr_own ok ha h1 h2 h3 q.1 q.2.handed B S fun tk => k v tk (.fz q.2)
  | _ => exact okN
theorem attrA_sound (ok : Ok d) {o : Value} {y : AV} {a : Str} (ho : VR d.prog d.w ρ F o y) (B : Base d F) {s : Shared} {ex : Bool}
    {Q : Value → Shared → Prop} {E : Value → Shared → Prop} (S : LSt F O led s.heap) : Okay (attrA d.tb a y) fun x => (∀ u tk, VR d.prog d.w ρ F u x → Q u { s with toks := tk }) → wpAny (model d.prog d.w) A (getAttr o a ex) Q E s := by
  induction ho using VR.casesOn with
  | inst h1 h2 h3 h4 => exact okI fun ha x e k => (h4.find e).elim fun v q => attr_own ok ha h1 h2 h3 q.1 q.2.handed B S fun tk => k v tk q.2
  | fz h => exact attrF_sound ok h B S
  | _ => exact okN

theorem attr_base {e : Expr} {a : Str} (h : plainBase e = true) : attributeBase e a env (eval e env) = eval e env := by
  induction e using PySem.Expr.casesOn <;> first | rfl | exact Bool.noConfusion h
theorem Attr_eq {e : Expr} {a : Str} {pos : Pos} (h : plainBase e = true) : eval (.Attribute e a pos) env = (do
      let o ← eval e env
      standAt pos.atName
      let r ← holding [o] (getAttr o a true)
      letTemporaryGo e o r
      pure r) := by
  induction e using PySem.Expr.casesOn <;> first | rfl | exact Bool.noConfusion h

theorem zipVFd {ns : List Str} {vs : List Value} {xs : List FV} (h : VFs d.prog d.w F vs xs) : VFd d.prog d.w F (ns.zip vs) (ns.zip xs) := by
  induction ns generalizing vs xs with
  | nil => exact .nil
  | cons n ns ih => induction xs using List.casesOn with
    | nil => exact VFs.nilE h .nil
    | cons => exact VFs.consE h fun v us h r => .cons h (ih r)
theorem zip_fst_sub {α β : Type} (xs : List α) (ys : List β) : List.Sublist ((xs.zip ys).map (·.1)) xs := by
  induction xs generalizing ys with
  | nil => exact .slnil
  | cons x xs ih => induction ys using List.casesOn with
    | nil => exact List.nil_sublist _
    | cons y ys => exact (ih ys).cons_cons x
theorem strOf_is {k : Option Expr} : Okay (strOf k) fun s => ∃ i p, k = some (.Constant (.str s) i p) := by
  induction k using Option.casesOn with
  | none => exact okN
  | some e => induction e using PySem.Expr.casesOn with
    | Constant c i p => induction c using PySem.Const.casesOn with
      | str => exact okS ⟨i, p, rfl⟩
      | _ => exact okN
    | _ => exact okN
theorem keysOf_all {ks : List (Option Expr)} : Okay (keysOf ks) fun ns => ks.all (·.isSome) = true ∧ ks.length = ns.length := by
  induction ks with
  | nil => exact okS ⟨rfl, rfl⟩
  | cons k r ih => exact okB fun s e1 => okM fun ns e2 => ⟨List.all_cons.trans (Bool.and_eq_true_iff.mpr ⟨(strOf_is s e1).elim fun _ q => q.elim fun _ q => congrArg Option.isSome q, (ih _ e2).1⟩), congrArg Nat.succ (ih _ e2).2⟩

noncomputable def PrR (d : D0) (ns : List Str) : List Addr → PH → List (Value × Value) → List AV → Prop := fun ρ F prs xs => VRs d.prog d.w ρ F (prs.map (·.2)) xs ∧ strPairs prs = ns.zip (prs.map (·.2)) ∧ allStrKeys prs = true
theorem pairs_sound (H : SndE d ih.ev n) : ∀ ks vs ns σ out, keysOf ks = some ns → ns.length = vs.length → evs ih vs σ = some out → ∀ (A : Around) (O F : PH) (led : Led) (wr ρ : List Addr) (env : Env) (pos : Pos), Cx d A n env → Base d F → IRel d env wr ρ σ F led →
    Ev d.prog d.w A O (evalPairs (pairTrees ks vs env pos)) F led (Pg d env wr ρ F led (PrR d ns) out) := by
  intro ks
  induction ks with
  | nil =>
    intro vs ns σ out hk hl he A O F led wr ρ env pos cx B R s Q E S k
    have hn : ns = [] := (Option.some.inj hk).symm
    induction vs using List.casesOn with
    | cons => rw [hn] at hl; exact nomatch hl
    | nil => exact pairTrees_nil_walk (k _ _ _ s.heap s.toks (Option.some.inj he ▸ Pg.here ⟨.nil, hn ▸ rfl, rfl⟩ R) S)
  | cons kk r IH =>
    intro vs ns σ out hk hl he A O F led wr ρ env pos cx B R s Q E S k
    refine bndE hk fun st e0 hk => ?_
    obtain ⟨i, p, hkk⟩ := strOf_is _ e0
    obtain ⟨t, h1, hns⟩ := Option.map_eq_some_iff.mp hk
    induction vs using List.casesOn with
    | nil => rw [← hns] at hl; exact nomatch hl
    | cons v vs =>
      rw [hkk]
      refine iteE he fun hp he => bndE he fun l e1 he => bndE he fun l2 e3 he => pairTrees_cons_walk (Constant_str (goE (s := { s with toks := s.toks + 1 }) H e1 cx B R S fun u F1 led1 h1' tk1 ρ1 st1 hv R1 S1 B1 =>
        IH _ _ _ _ h1 (Nat.succ.inj ((congrArg List.length hns).trans hl)) e3 _ _ _ _ _ _ _ _ cx B1 R1 _ _ _ S1 (Pg.op B1 fun prs F2 led2 h2 tk2 ρ2 st2 hr R2 S2 B2 => k _ _ _ _ _ ?_ S2)))
      exact Option.some.inj he ▸ ⟨ρ2, st1.trans st2, ⟨.cons (hv.mono st2.ext st2.le) hr.1, hns ▸ congrArg ((st, u) :: ·) hr.2.1, hr.2.2⟩, R2⟩
theorem empty_dict : (dictOf [] 0 : Obj).IsDictOf (strKind d.prog d.w) [] := ⟨#[], 0, ⟨rfl, rfl, rfl⟩, rfl, fun _ he => (by simp at he), Pairs.nil, List.nodup_nil⟩
theorem dict_key {F' : PH} {led' : Led} {h' h'' : Heap} {tk : Nat} {ρ' : List Addr} {σ' : AS} {o' : Obj} {kvs : List (Str × Value)} {es : List (Str × FV)} {a : Addr} {Q : Value → Shared → Prop} (sp : Stp wr ρ F led ρ' F' led') (S' : LSt F' O ((a, dictOf [] 0) :: led') h') (R' : IRel d env wr ρ' σ' F' led')
    (hfr : ∀ p ∈ led', p.1 ≠ a) (hfa : F' a = none) (hs : Heap.SameBut a h' h'') (ho' : h''.get? a = some o') (hd : o'.IsDictOf (strKind d.prog d.w) kvs) (hv : VFd d.prog d.w F' kvs es) (k : Kn d O env wr ρ F led (VRl d) s Q (push σ' (.dic es))) : Q (.ref a) { s with heap := h'', toks := tk } := by
  obtain ⟨y, st⟩ := R'.own.push (o := dictOf [] 0) (ao := .dic []) hfr (R'.own.notMem hfr hfa) (.dic empty_dict .nil)
  have hi : (ρ' ++ [a])[σ'.ow.length]? = some a := R'.own.len ▸ List.getElem?_concat_length
  obtain ⟨y2, st2⟩ := y.set (i := σ'.ow.length) (a := a) (o := o') (ao := .dic es) hi (.dic hd hv) (.head _)
  have R3 := (R'.step st y).step st2 y2
  rw [show (σ'.ow ++ [AO.dic []]).set σ'.ow.length (.dic es) = σ'.ow ++ [.dic es] by rw [List.set_append_right _ _ (Nat.le_refl _), Nat.sub_self]; rfl] at R3
  exact k _ _ _ _ _ ⟨_, sp.trans (st.nil.trans st2.nil), .loc hi, R3⟩ (S'.setAt (.head _) hs ho')
theorem dict_sound (ok : Ok d) (H : SndE d ih.ev n) {ks : List (Option Expr)} {vs : List Expr} {ns : List Str} {out : List AV × AS} {q : List FV × List AO} {pos : Pos} (hk : keysOf ks = some ns) (hl : ns.length = vs.length) (hnd : ns.Nodup) (h15 : ns.length ≤ 15)
    (he : evs ih vs σ = some out) (hq : frzs out.2.ow out.1 = some q) (cx : Cx d A n env) (B : Base d F) (R : IRel d env wr ρ σ F led) {Q : Value → Shared → Prop} (S : LSt F O led s.heap) (k : Kn d O env wr ρ F led (VRl d) s Q (push { out.2 with ow := q.2 } (.dic (ns.zip q.1)))) :
    wpAny (model d.prog d.w) A (eval (.Dict ks vs pos) env) Q E s := by
  induction ks using List.casesOn with
  | nil =>
    have hn : ns = [] := (Option.some.inj hk).symm
    subst hn
    induction vs using List.casesOn with
    | cons => exact nomatch hl
    | nil =>
      have ho : out = ([], σ) := (Option.some.inj he).symm
      subst ho
      have hq : q = ([], σ.ow) := (Option.some.inj hq).symm
      subst hq
      exact wpAny_Dict_empty (dict_key Stp.refl (S.pushL (dictOf [] 0)) R S.freshL S.freshF ⟨rfl, fun _ _ => rfl⟩ (Heap.get?_push_size _ rfl) empty_dict .nil k)
  | cons kk ks =>
    obtain ⟨hall, hlen⟩ := keysOf_all _ hk
    refine wpAny_Dict_walk (knd := strKind d.prog d.w) hall (hlen.trans hl) (List.cons_ne_nil _ _) (hlen ▸ h15) (pairs_sound H _ _ _ _ _ hk hl he _ _ _ _ _ _ _ _ cx B R _ _ _ (S.pushO (dictOf [] 0)) fun prs F' led' h' tk' pg S' => ?_)
    obtain ⟨ρ', sp, ⟨r1, r2, r3⟩, R'⟩ := pg
    have B' := B.le sp.le
    refine (frzs_sound ok r1 (Le.refl _) hq B' R'.own S').go fun F2 led2 S2 st2 R2 q2 => ?_
    refine display_done_str r3 (r2 ▸ hnd.sublist (zip_fst_sub _ _)) (Heap.dictOf_iff.mpr ⟨_, (S'.ow _ _ put_self).1, empty_dict⟩) fun h'' hm hs => ?_
    obtain ⟨o', ho', hd'⟩ := Heap.dictOf_iff.mp hm
    exact dict_key (sp.trans st2.nil) (S2.popO S.freshO) (R'.step st2 R2) (fun p hp e => nomatch (e ▸ (S2.ld p hp).2.2 : put O _ _ _ = none).symm.trans put_self) (S2.ow _ _ put_self).2 hs ho' hd' (r2 ▸ zipVFd q2) k
end
end Xm

open PySem PySem.W PySem.Calls PyProof.Rows PySem.Spec
namespace Xm
open PyProof.Rows.LCg (NsObj)

section
variable {d : D0} {ih : Ih} {n : Nat} {A : Around} {O F : PH} {led : Led} {wr ρ : List Addr} {env : Env} {σ : AS} {s : Shared} {E : Value → Shared → Prop}

/-! built-in functions -/
theorem intsF_are {G : PH} {vs : List Value} {xs : List FV} (h : VFs d.prog d.w G vs xs) : Okay (intsF xs) (IntsAre vs) := by
  induction xs generalizing vs with
  | nil => exact okS (VFs.nilE h .nil)
  | cons x r ih => exact okB fun i e1 => okM fun is e2 => VFs.consE h fun v us h r => h.asI e1 fun t => .cons i t (ih r _ e2)
theorem maxI_ge (l : List Int) (m : Int) : m ≤ maxI m l ∧ (∀ a ∈ l, a ≤ maxI m l) ∧ (maxI m l = m ∨ maxI m l ∈ l) := by
  induction l generalizing m with
  | nil => exact ⟨Int.le_refl _, (fun _ h => nomatch h), .inl rfl⟩
  | cons x r ih =>
    rw [show maxI m (x :: r) = maxI (if x > m then x else m) r from rfl]
    by_cases hx : x > m
    · rw [if_pos hx]
      exact ⟨Int.le_trans (Int.le_of_lt hx) (ih x).1, List.forall_mem_cons.mpr ⟨(ih x).1, (ih x).2.1⟩, .inr ((ih x).2.2.elim (fun h => List.mem_cons.mpr (.inl h)) fun h => .tail _ h)⟩
    · rw [if_neg hx]
      exact ⟨(ih m).1, List.forall_mem_cons.mpr ⟨Int.le_trans (Int.not_lt.mp hx) (ih m).1, (ih m).2.1⟩, (ih m).2.2.imp id fun h => .tail _ h⟩
theorem max_is {m v : Int} {r : List Int} (hm : v ∈ m :: r) (hM : ∀ x ∈ m :: r, x ≤ v) : v = maxI m r :=
  have g := maxI_ge r m
  Int.le_antisymm ((List.mem_cons.mp hm).elim (fun h => h ▸ g.1) (g.2.1 v)) (g.2.2.elim (fun h => h.symm ▸ hM _ (.head _)) fun h => hM _ (.tail _ h))
theorem LSt.grown {h' : Heap} (S : LSt F O led s.heap) (k : ∀ b o, s.heap.get? b = some o → h'.get? b = some o) : LSt F O led h' := S.keeps k
theorem fits63 {k m : Nat} (e : k = m) (h : m ≤ 1000) : (k : Int) < 2 ^ 63 := by omega
theorem len_sound {v : Value} {x : FV} {Q : Value → Shared → Prop} (h : VF d.prog d.w (GH s.heap) v x) : Okay (lenF x) fun t => (∀ (v : Value) (h' : Heap) (tk : Nat), VF d.prog d.w F v t → (∀ b o, s.heap.get? b = some o → h'.get? b = some o) → Q v { s with heap := h', toks := tk }) →
    wpAny (model d.prog d.w) A (call (.builtin "len") [v]) Q E s := by
  induction h using VF.casesOn with
  | tup hg hc hd r =>
    refine okI fun hz => okS fun fin => len_tuple ⟨_, hg, hc, _, hd⟩ (fits63 r.size hz) ?_
    rw [r.size]
    exact fin _ s.heap _ (.int _ _) fun _ _ e => e
  | lst hg r =>
    refine okI fun hz => okS fun fin => len_list (isL hg) (fits63 r.size hz) ?_
    rw [r.size]
    exact fin _ s.heap _ (.int _ _) fun _ _ e => e
  | _ => exact okN
theorem max_sound (cx : Cx d A n env) {v : Value} {x : FV} {Q : Value → Shared → Prop} (h : VF d.prog d.w (GH s.heap) v x) : Okay (maxF x) fun t => (∀ (v : Value) (h' : Heap) (tk : Nat), VF d.prog d.w F v t → (∀ b o, s.heap.get? b = some o → h'.get? b = some o) → Q v { s with heap := h', toks := tk }) →
    wpAny (model d.prog d.w) A (call (.builtin "max") [v]) Q E s := by
  induction h using VF.casesOn with
  | lst hg rv =>
    refine okB fun l e2 => ?_
    induction l using List.casesOn with
    | nil => exact okN
    | cons m r =>
      refine okS fun fin => ?_
      have hi := intsF_are rv _ e2
      obtain ⟨ps, ep⟩ := hi.allInts.items
      have hns : ps.toList.map (·.1) = m :: r := (nums_intItems ps).symm.trans (ep ▸ hi.numsOf)
      have hlen : ps.size = r.length + 1 := Array.length_toList.symm.trans ((List.length_map (·.1)).symm.trans (congrArg List.length hns))
      refine max_intList cx.hd (by rw [← ep]; exact isL hg) (Nat.lt_of_lt_of_eq (Nat.succ_pos _) hlen.symm) fun v h' tk hv kp => ?_
      obtain ⟨t, rfl⟩ := intItems_at hv
      refine fin _ h' tk ?_ kp
      obtain ⟨h1, h2⟩ := argBest_gt (numAt ps) (ps.size - 1)
      rw [max_is (v := numAt ps (argBest (fun i j => decide (numAt ps i > numAt ps j)) (ps.size - 1))) (m := m) (r := r) ?_ fun x hx => ?_]
      · exact .int _ _
      · rw [← hns, numAt_eq]; exact getD_mem (by rw [List.length_map, Array.length_toList]; omega)
      · rw [← hns] at hx
        obtain ⟨j, hj, rfl⟩ := mem_getD hx
        rw [List.length_map, Array.length_toList] at hj
        rw [← numAt_eq]; exact h2 j (by omega)
  | _ => exact okN
theorem ifInt {c : Prop} [Decidable c] {v u : Value} {x y : Int} (h : VF d.prog d.w F v (.int x)) (k : VF d.prog d.w F u (.int y)) : VF d.prog d.w F (if c then v else u) (.int (if c then x else y)) := by
  by_cases q : c
  · rw [if_pos q, if_pos q]; exact h
  · rw [if_neg q, if_neg q]; exact k
theorem biA_sound (ok : Ok d) (cx : Cx d A n env) (B : Base d F) (R : IRel d env wr ρ σ F led) {id : String} {vs : List Value} {xs : List AV} {ts : List FV} {t : FV} (hv : VRs d.prog d.w ρ F vs xs) (e1 : rds σ.ow xs = some ts) (e : biA id ts = some t) :
    Ev d.prog d.w A O (call (.builtin id) vs) F led (Pg d env wr ρ F led (VRl d) (.fz t, σ)) := by
  intro s Q E S k
  have hr := rds_sound ok B R.own S hv e1
  have fin : ∀ (v : Value) (h' : Heap) (tk : Nat), VF d.prog d.w F v t → (∀ b o, s.heap.get? b = some o → h'.get? b = some o) → Q v { s with heap := h', toks := tk } := fun v h' tk hv kp =>
    k v F led h' tk (Pg.here (.fz hv) R) (S.keeps kp)
  clear k R hv e1
  induction ts using List.casesOn with
  | nil => exact noS e
  | cons x r => induction r using List.casesOn with
    | nil => exact VFs.one hr fun v h => ifE e (fun hi e => eq_of_beq hi ▸ len_sound h _ e fin) fun _ e => iteE e fun hi e => eq_of_beq hi ▸ max_sound cx h _ e fin
    | cons y r => induction r using List.casesOn with
      | nil =>
        refine bndE e fun a ea e => bndE e fun b eb e => VFs.two hr fun v u hv hu => hv.asI ea fun t1 => hu.asI eb fun t2 => ifE e (fun hi e => ?_) fun _ e => iteE e fun hi e => ?_
        · exact eq_of_beq hi ▸ max_two_ints cx.hd fun h' tk kp => fin _ h' tk (Option.some.inj e ▸ ifInt (.int _ _) (.int _ _)) kp
        · exact eq_of_beq hi ▸ min_two_ints cx.hd fun h' tk kp => fin _ h' tk (Option.some.inj e ▸ ifInt (.int _ _) (.int _ _)) kp
      | cons => exact noS e

/-! methods -/
theorem callee_fn (ok : Ok d) (B : Base d F) (S : LSt F O led s.heap) {c ad dx : Addr} {ob : Obj} {kvs : List (Str × Value)} {m : Str} {f : Addr} {pl : Sem Bool} {Q : Value × List Value → Shared → Prop} (h1 : F ad = some (instObj c dx)) (h2 : F dx = some ob) (h3 : ob.IsDictOf (strKind d.prog d.w) kvs)
    (hn : valueAt kvs m = none) (hm : d.tb.M c m = some f) (k : Q (.ref f, [.ref ad]) s) : wpAny (model d.prog d.w) A (getMethod (.ref ad) m pl) Q E s := by
  obtain ⟨g1, g2, g3, g4, g5⟩ := ok.M _ _ _ hm
  have I : InstAt s.heap ad (instObj c dx) c (some ob) := ⟨S.fz _ _ h1, rfl, rfl, S.fz _ _ h2⟩
  refine method_fn (ok.X.keeps (B.keeps S)) I g1 g2 g3 g4 ?_ k
  show (lookIn m ob).map (·.isSome) = some false
  rw [lookIn_none h3 hn]; rfl
theorem few_of {es : List Expr} (hp : es.all plainE = true) (hl : es.length < 20) (pos : Pos) : ((backTo pos (starEach es env)).all (fun x => !x.1) && (backToKw pos (keywordEach [] env)).all (fun x => x.1.isSome)
      && decide (es.length + ([] : List Keyword).length + (if ([] : List Keyword).isEmpty then 0 else 1) < 30)) = true := by
  rw [noStar_all hp env pos, decide_eq_true (show es.length + ([] : List Keyword).length + (if ([] : List Keyword).isEmpty then 0 else 1) < 30 from Nat.lt_trans hl (by decide))]; rfl
theorem getD_sound {es : List (Str × FV)} {args : List AV} {x : AV} {a : Addr} {kvs : List (Str × Value)} {ob : Obj} {vs : List Value} (e : getD es args = some x) (hv : VRs d.prog d.w ρ F vs args) (hm : (a == sysModules) = false) (hg : s.heap.get? a = some ob) (dd : ob.IsDictOf (strKind d.prog d.w) kvs) (r : VFd d.prog d.w F kvs es)
    {Q : Value → Shared → Prop} (k : ∀ v tk, VR d.prog d.w ρ F v x → Q v { s with toks := tk }) : wpAny (model d.prog d.w) A (call (.builtin "dict.get") (.ref a :: vs)) Q E s := by
  refine bndE e fun p e1 e => bndE e fun kk e2 e => bndE e fun str e3 e => VRs.ofTwo hv e1 fun v1 v h h2 => (h.ofF e2).asS e3 fun t => ?_
  have hD : s.heap.DictOf (strKind d.prog d.w) a kvs := Heap.dictOf_iff.mpr ⟨ob, hg, dd⟩
  refine call_meetsIn PySem.F.slot_dict_get hD.typeIs PySem.F.entry_dict_get (PySem.F.args_dict_get_3 _ _ _) (meets_dict_get_default (strKind d.prog d.w) a (strKind_is _ _ str t) hm v) ⟨_, hD.mapOf, ?_⟩
  refine k _ _ (Option.some.inj e ▸ ?_)
  generalize e2 : es.lookup str = z
  induction z using Option.casesOn with
  | none => rw [valueAt_none r.keys e2]; exact h2
  | some u => exact (r.find e2).elim fun w q => by rw [q.1]; exact .fz q.2

section
variable {o : Expr} {m : Str} {apos pos : Pos} {es : List Expr} {p : AV × AS} {q : List AV × AS} {out : AV × AS}
/-- a built-in method -/
theorem meth_bi {T : String} {id : String} (J : PH → Value → Prop) (hJ : ∀ {F F' v}, Le F F' → J F v → J F' v) (H : Snd d ih n) (hb : plainBase o = true) (hline : (apos.endLine == pos.line) = true) (hlen : es.length < 20) (hp : es.all plainE = true) (e1 : ih.ev o σ = some p) (e3 : evs ih es p.2 = some q)
    (pa : PlainAttrs T) (sl : Slot T m id) (ty : typeOf (.builtin id) = pure (.type "method_descriptor"))
    (hty : ∀ {O F led ρ} {s : Shared} {ov : Value}, Base d F → VR d.prog d.w ρ F ov p.1 → OwnR d ρ p.2.ow F led → LSt F O led s.heap → s.TypeIs ov T ∧ (∀ a, ov = .ref a → ∃ ob, s.heap.get? a = some ob ∧ ob.dict = none) ∧ J F ov)
    (hcall : ∀ {A O F led wr ρ env} {s : Shared} {ov : Value} {vs : List Value} {Q E}, Cx d A n env → Base d F → VR d.prog d.w ρ F ov p.1 → VRs d.prog d.w ρ F vs q.1 → IRel d env wr ρ q.2 F led → J F ov → LSt F O led s.heap → (∀ a F' led' h' tk', Pg d env wr ρ F led (VRl d) out a F' led' → LSt F' O led' h' → Q a { s with heap := h', toks := tk' }) → wpAny (model d.prog d.w) A (call (.builtin id) (ov :: vs)) Q E s) :
    AskE d n (eval (.Call (.Attribute o m apos) es [] pos)) (VRl d) σ out := fun A O F led wr ρ env cx B R s Q E S k =>
  wpAny_Call_method_late (attr_base hb) (few_of hp hlen pos) hline rfl (goE H.ev e1 cx B R S fun ov F1 led1 h1 tk1 ρ1 st1 hv1 R1 S1 B1 =>
    have t := hty (s := { s with heap := h1, toks := tk1 }) B1 hv1 R1.own S1
    (⟨T, id, pa, sl, ty, t.1, t.2.1, callWith_builtin (noStar hp env pos) (goArgs H.ev e3 hp cx B1 R1 S1 fun vs F2 led2 h2 tk2 ρ2 st2 hv2 R2 S2 B2 => hcall cx B2 (hv1.mono st2.ext st2.le) hv2 R2 (hJ st2.le t.2.2) S2 (Pg.next (st1.trans st2) k))⟩ : MethodOn d.prog d.w A m pos ov (backTo pos (starEach es env)) Q E { s with heap := h1, toks := tk1 }))
/-- a method of a class of the program -/
theorem meth_fn (ok : Ok d) (H : Snd d ih n) (hb : plainBase o = true) (hline : (apos.endLine == pos.line) = true) (hlen : es.length < 20) (hp : es.all plainE = true) (e1 : ih.ev o σ = some p) (e3 : evs ih es p.2 = some q) {c : Addr} {has : Bool}
    (hi : ∀ {F led ρ} {ov : Value}, VR d.prog d.w ρ F ov p.1 → OwnR d ρ p.2.ow F led → ∃ ad dx ob kvs, ov = .ref ad ∧ F ad = some (instObj c dx) ∧ F dx = some ob ∧ ob.IsDictOf (strKind d.prog d.w) kvs ∧ (has = false → valueAt kvs m = none)) {T : AV × AS → Prop}
    (hT : ∀ out, AskE d n (eval (.Call (.Attribute o m apos) es [] pos)) (VRl d) σ out → T out) : Okay (mkI d.tb m c has) fun mk => Okay (methA ih mk p.1 q.1 q.2) T := by
  refine fun mk e => ifE e (fun _ e => noS e) fun hn e => mapE e fun f ef => okB fun c e5 => okS (hT _ fun A O F led wr ρ env cx B R s Q E S k => ?_)
  rw [arm_eval_Call, attr_base hb]
  refine wpAny_bind (goE H.ev e1 cx B R S fun ov F1 led1 h1 tk1 ρ1 st1 hv1 R1 S1 B1 => wpAny_bind (wpAny_standAt ?_))
  obtain ⟨ad, dx, ob, kvs, rfl, i1, i2, i3, i4⟩ := hi hv1 R1.own
  have hform : methodCallForm (es.length + ([] : List Keyword).length) (backTo pos (starEach es env)) (backToKw pos (keywordEach [] env)) = true := few_of hp hlen pos
  have hpos : methodCallPos true o env apos pos = pure pos := by unfold methodCallPos; simp [hline]
  unfold methodCall
  rw [hform]
  refine wpAny_bind (wpAny_holding (callee_fn ok B1 (s := { s with heap := h1, toks := tk1 }) S1 i1 i2 i3 (i4 (Bool.eq_false_iff.mpr hn)) ef (wpAny_bind (wpAny_of_eq hpos ?_))))
  refine callWith_of (P := d.K.In) (by rw [noStar hp env pos]; rfl) (fun h X => keeps_K (ok.M _ _ _ ef).2.2.2.2 h X) (goArgs H.ev e3 hp cx B1 R1 S1 fun vs F2 led2 h2 tk2 ρ2 st2 hv2 R2 S2 B2 => ⟨ok.X.keeps (B2.keeps S2), ?_⟩)
  exact H.cl _ _ _ _ e5 A O F2 led2 ρ2 (.ref ad :: vs) cx.hd cx.dep cx.un B2 (.cons (hv1.mono st2.ext st2.le) hv2) R2.own _ _ _ S2 (Pg.call R2 (st1.trans st2) k)
theorem lstAt_is {ow : List AO} {i : Nat} : Okay (lstAt ow i) fun xs => ow[i]? = some (.lst xs) := by
  unfold lstAt
  generalize ow[i]? = z
  induction z using Option.casesOn with
  | none => exact okN
  | some ao => induction ao using AO.casesOn with
    | lst => exact okS rfl
    | _ => exact okN
theorem meth_lst (ok : Ok d) (H : Snd d ih n) (hb : plainBase o = true) (hline : (apos.endLine == pos.line) = true) (hlen : es.length < 20) (hp : es.all plainE = true) {i : Nat} {xs0 : List FV} {pσ : AS} (e1 : ih.ev o σ = some (.loc i, pσ)) (e5 : pσ.ow[i]? = some (.lst xs0)) (e3 : evs ih es pσ = some q) {T : AV × AS → Prop}
    (hT : ∀ out, AskE d n (eval (.Call (.Attribute o m apos) es [] pos)) (VRl d) σ out → T out) : Okay (mkL i m) fun mk => Okay (methA ih mk (.loc i) q.1 q.2) T := by
  have ty : ∀ {O F led ρ} {s : Shared} {ov : Value}, Base d F → VR d.prog d.w ρ F ov (.loc i) → OwnR d ρ pσ.ow F led → LSt F O led s.heap → s.TypeIs ov "list" ∧ (∀ a, ov = .ref a → ∃ ob, s.heap.get? a = some ob ∧ ob.dict = none) ∧ True := fun _ hv R S =>
    hv.locE fun a ha => ((R.at e5 ha).list rfl).elim fun vs x => x.elim fun mm x => have z := (S.ld _ x.1).1; ⟨⟨_, z, rfl⟩, fun b e => Value.ref.inj e ▸ ⟨_, z, rfl⟩, trivial⟩
  refine okIE (fun hm => okS (okB fun v ev => okB fun p1 g1 => okB fun xs g2 => okI fun hz => okS (hT _ ?_))) fun _ => okIE (fun hm => okS (okI fun hn => okB fun xs g2 => okI fun hz => okB fun t g4 => okS (hT _ ?_))) fun _ => okI fun hm => okS (okB fun v ev => okB fun xs g2 => okB fun ys g5 => okI fun hz => okS (hT _ ?_))
  · rw [eq_of_beq hm]
    refine meth_bi (fun _ _ => True) (fun _ h => h) H hb hline hlen hp e1 e3 PySem.F.plainAttrs_list PySem.F.slot_list_append PySem.F.type_list_append ty fun cx B hv hvs R _ S k => hv.locE fun a ha => VRs.ofOne hvs ev fun u hu => ?_
    exact (frz_sound ok hu (Le.refl _) (show frz q.2.ow v = some (p1.1, p1.2) from g1) B R.own S).go fun F3 led3 S3 st3 R3 hv3 =>
      append_sound R3 (st3.ext _ _ ha) (lstAt_is _ g2) hv3 (Nat.le_trans hz (by decide)) _ _ _ S3 fun v4 F4 led4 h4 tk4 cp S4 => k _ _ _ _ _ ((Pg.ofCall (σ := { q.2 with ow := p1.2 }) cp (R.step st3 R3)).lift st3.nil) S4
  · rw [eq_of_beq hm]
    refine meth_bi (fun _ _ => True) (fun _ h => h) H hb hline hlen hp e1 e3 PySem.F.plainAttrs_list PySem.F.slot_list_pop PySem.F.type_list_pop ty fun cx B hv hvs R _ S k => hv.locE fun a ha => ?_
    rw [List.isEmpty_iff.mp hn] at hvs
    exact VRs.nilE hvs (pop_sound R.own ha (lstAt_is _ g2) (Nat.le_trans hz (by decide)) g4 _ _ _ S fun v4 F4 led4 h4 tk4 cp S4 => k _ _ _ _ _ (Pg.ofCall cp R) S4)
  · rw [eq_of_beq hm]
    refine meth_bi (fun _ _ => True) (fun _ h => h) H hb hline hlen hp e1 e3 PySem.F.plainAttrs_list PySem.F.slot_list_extend PySem.F.type_list_extend ty @fun A O F led wr ρ env s ov vs Q E cx B hv hvs R _ S k => hv.locE fun a ha => VRs.ofOne hvs ev fun u hu => ?_
    obtain ⟨b, us, n2, rfl, gg, rr⟩ := lstOf_sound (O := O) R.own hu g5
    exact extend_sound R.own ha (lstAt_is _ g2) (Nat.le_trans hz (by decide)) gg rr _ _ _ S fun v4 F4 led4 h4 tk4 cp S4 => k _ _ _ _ _ (Pg.ofCall cp R) S4
/-- what stands frozen: a dict, an object -/
theorem meth_fz (ok : Ok d) (H : Snd d ih n) (hb : plainBase o = true) (hline : (apos.endLine == pos.line) = true) (hlen : es.length < 20) (hp : es.all plainE = true) {t : FV} (e1 : ih.ev o σ = some p) (e3 : evs ih es p.2 = some q)
    (hf : ∀ {F led ρ} {ov : Value}, VR d.prog d.w ρ F ov p.1 → OwnR d ρ p.2.ow F led → VF d.prog d.w F ov t) {T : AV × AS → Prop}
    (hT : ∀ out, AskE d n (eval (.Call (.Attribute o m apos) es [] pos)) (VRl d) σ out → T out) : Okay (mkF d.tb m t) fun mk => Okay (methA ih mk p.1 q.1 q.2) T := by
  induction t using FV.casesOn with
  | dic es0 =>
    refine okI fun hm => okS (okM fun x e6 => hT _ ?_)
    rw [eq_of_beq hm]
    refine meth_bi (fun F v => VF d.prog d.w F v (.dic es0)) (fun le h => h.mono le) H hb hline hlen hp e1 e3 PySem.F.plainAttrs_dict PySem.F.slot_dict_get PySem.F.type_dict_get (fun B hv R S => ?_) fun cx B hv hvs R J S k => J.asD rfl fun a ob kvs hg hmm dd rr =>
      getD_sound e6 hvs hmm (S.fz _ _ hg) dd rr fun v tk hv => k v _ _ _ tk (Pg.here hv R) S
    have J := hf hv R
    refine ⟨?_, ?_, J⟩
    · exact J.asD rfl fun a ob kvs hg _ dd _ => (Heap.dictOf_iff.mpr ⟨ob, S.fz _ _ hg, dd⟩ : Heap.DictOf _ _ _ _).typeIs
    · exact J.asD rfl fun a ob kvs hg _ dd _ b e => Value.ref.inj e ▸ ⟨ob, S.fz _ _ hg, dd.elim fun _ x => x.elim fun _ x => x.1.2.1⟩
  | inst c es0 =>
    exact meth_fn ok H hb hline hlen hp e1 e3 (fun hv R => (hf hv R).instE fun a dx ob kvs e h1 h2 h3 h4 => ⟨a, dx, ob, kvs, e, h1, h2, h3, fun hn => valueAt_none h4.keys (Option.not_isSome_iff_eq_none.mp (Bool.eq_false_iff.mp hn))⟩) hT
  | _ => exact okN
theorem meth_sound (ok : Ok d) (H : Snd d ih n) (hb : plainBase o = true) (hline : (apos.endLine == pos.line) = true) (hlen : es.length < 20) (hp : es.all plainE = true) (e1 : ih.ev o σ = some p) (e3 : evs ih es p.2 = some q) {T : AV × AS → Prop}
    (hT : ∀ out, AskE d n (eval (.Call (.Attribute o m apos) es [] pos)) (VRl d) σ out → T out) : Okay (mkA d.tb p.2.ow p.1 m) fun mk => Okay (methA ih mk p.1 q.1 q.2) T := by
  obtain ⟨po, pσ⟩ := p
  induction po using AV.casesOn with
  | loc i =>
    refine okB fun ao e5 => ?_
    induction ao using AO.casesOn with
    | lst xs => exact meth_lst ok H hb hline hlen hp e1 e5 e3 hT
    | fz t => exact meth_fz ok H hb hline hlen hp e1 e3 (fun hv R => hv.locE fun a ha => (R.at e5 ha).fzE rfl) hT
    | _ => exact okN
  | fz t => exact meth_fz ok H hb hline hlen hp e1 e3 (fun hv R => hv.fz_inv) hT
  | inst c es0 =>
    exact meth_fn ok H hb hline hlen hp e1 e3 (fun hv R => hv.instE fun a dx ob kvs e h1 h2 h3 h4 => ⟨a, dx, ob, kvs, e, h1, h2, h3, fun hn => valueAt_none h4.keys (Option.not_isSome_iff_eq_none.mp (Bool.eq_false_iff.mp hn))⟩) hT
  | _ => exact okN
end
end
end Xm

open PySem PySem.W PySem.Calls PyProof.Rows PySem.Spec
namespace Xm

/-- an iterator that has yet to give these values, each frozen as it comes -/
noncomputable def It (d : D0) (A : Around) (tt : Bool) (it : Value) : List FV → PH → PH → Led → Heap → Prop
  | [], F, O, led, h => ∀ (s : Shared) (Q : Option Value → Shared → Prop) (E : Value → Shared → Prop), s.heap = h → LSt F O led h → (∀ h' tk', LSt F O led h' → Q none { s with heap := h', toks := tk' }) → wpAny (model d.prog d.w) A (pyNext it) Q E s
  | x :: r, F, O, led, h => ∀ (tgt : Expr), (tt = true → isTupT tgt = true) → ∀ (s : Shared) (E : Value → Shared → Prop) (E2 : Value → Shared → Prop) (Q2 : Value → Unit → Shared → Prop), s.heap = h → LSt F O led h →
      (∀ v F₁ O₁ h' tk', Le F F₁ → LSt F₁ O₁ led h' → VF d.prog d.w F₁ v x → (∀ F₂ led₂ h₂, Le F₁ F₂ → LSt F₂ O₁ led₂ h₂ → LSt F₂ O led₂ h₂ ∧ It d A tt it r F₂ O led₂ h₂) → Q2 v () { s with heap := h', toks := tk' }) →
      wpAny (model d.prog d.w) A (pyNext it) (fun rv s₁ => ∃ v, rv = some v ∧ wpAny (model d.prog d.w) A (letOwnedTupleGo tgt it v) (Q2 v) E2 s₁) E s

section
variable {d : D0} {A : Around} {F O : PH} {led : Led} {h : Heap}

/-- the walk's own objects, kept by the callee's side while a body runs -/
noncomputable def ovw (O : PH) (wr : List Addr) (h : Heap) : PH := fun b => if b ∈ wr then h.get? b else O b
theorem ovw_in {wr : List Addr} {b : Addr} (hb : b ∈ wr) : ovw O wr h b = h.get? b := if_pos hb
theorem ovw_out {wr : List Addr} {b : Addr} (hb : b ∉ wr) : ovw O wr h b = O b := if_neg hb
theorem LSt.lend {wr : List Addr} (S : LSt F O led h) (hF : ∀ b ∈ wr, F b = none) (hL : ∀ b ∈ wr, ∀ p ∈ led, p.1 ≠ b) : LSt F (ovw O wr h) led h := by
  refine ⟨S.fz, fun b o e => ?_, fun p hp => ⟨(S.ld p hp).1, (S.ld p hp).2.1, (ovw_out fun hb => hL _ hb p hp rfl).trans (S.ld p hp).2.2⟩⟩
  by_cases hb : b ∈ wr
  · exact ⟨(ovw_in hb).symm.trans e, hF b hb⟩
  · exact S.ow b o ((ovw_out hb).symm.trans e)
theorem LSt.back {wr : List Addr} {h' : Heap} (S : LSt F (ovw O wr h') led h) (hO : ∀ b ∈ wr, O b = none) : LSt F O led h := by
  have key : ∀ b o, O b = some o → ovw O wr h' b = some o := fun b o e => (ovw_out fun hb => nomatch (hO b hb).symm.trans e).trans e
  exact ⟨S.fz, fun b o e => S.ow b o (key b o e), fun p hp => ⟨(S.ld p hp).1, (S.ld p hp).2.1, Option.eq_none_iff_forall_not_mem.mpr fun o e => nomatch (S.ld p hp).2.2.symm.trans (key _ _ e)⟩⟩
/-- the parts of the heap that a step of the walk keeps -/
theorem LSt.moved {wr : List Addr} {h' : Heap} (S : LSt F O led h) (hF : ∀ b ∈ wr, F b = none) (hO : ∀ b ∈ wr, O b = none) (hL : ∀ b ∈ wr, ∀ p ∈ led, p.1 ≠ b) (k : ∀ b o, b ∉ wr → h.get? b = some o → h'.get? b = some o) : LSt F O led h' :=
  ⟨fun b o e => k b o (fun hb => nomatch (hF b hb).symm.trans e) (S.fz b o e), fun b o e => ⟨k b o (fun hb => nomatch (hO b hb).symm.trans e) (S.ow b o e).1, (S.ow b o e).2⟩, fun p hp => ⟨k _ _ (fun hb => hL _ hb p hp rfl) (S.ld p hp).1, (S.ld p hp).2⟩⟩
theorem LSt.fresh {b : Addr} (S : LSt F O led h) (hb : h.objs.size ≤ b) : F b = none ∧ O b = none ∧ ∀ p ∈ led, p.1 ≠ b :=
  ⟨Option.eq_none_iff_forall_not_mem.mpr fun o e => Nat.not_lt.mpr hb (Heap.lt_size (S.fz _ _ e)), Option.eq_none_iff_forall_not_mem.mpr fun o e => Nat.not_lt.mpr hb (Heap.lt_size (S.ow _ _ e).1), fun p hp e => Nat.not_lt.mpr hb (e ▸ Heap.lt_size (S.ld p hp).1)⟩
theorem LSt.addF {T : Addr} {o : Obj} (S : LSt F O led h) (e : h.get? T = some o) (hO : O T = none) (hL : ∀ p ∈ led, p.1 ≠ T) : LSt (put F T o) O led h := by
  refine ⟨fun b x q => ?_, fun b x q => ⟨(S.ow b x q).1, (put_ne fun (hb : b = T) => nomatch (hb ▸ hO).symm.trans q).trans (S.ow b x q).2⟩, fun p hp => ⟨(S.ld p hp).1, (put_ne (hL p hp)).trans (S.ld p hp).2.1, (S.ld p hp).2.2⟩⟩
  by_cases hb : b = T
  · exact hb ▸ e.trans (put_self.symm.trans (hb ▸ q))
  · exact S.fz _ _ ((put_ne hb).symm.trans q)

structure Apx (wr fp : List Addr) (F O : PH) (led : Led) (h : Heap) : Prop where
  fF : ∀ b ∈ wr, F b = none
  fO : ∀ b ∈ wr, O b = none
  fL : ∀ b ∈ wr, ∀ p ∈ led, p.1 ≠ b
  fp : ∀ b ∈ fp, b ∈ wr ∨ ∃ o, F b = some o
  live : ∀ b ∈ wr, ∃ o, h.get? b = some o
theorem Apx.made {wr fp : List Addr} {h' : Heap} (S : LSt F O led h) (hw : ∀ b ∈ wr, h.objs.size ≤ b) (hfp : ∀ b ∈ fp, b ∈ wr ∨ ∃ o, F b = some o) (live : ∀ b ∈ wr, ∃ o, h'.get? b = some o) : Apx wr fp F O led h' :=
  ⟨fun b hb => (S.fresh (hw b hb)).1, fun b hb => (S.fresh (hw b hb)).2.1, fun b hb => (S.fresh (hw b hb)).2.2, hfp, live⟩
theorem Apx.next {wr fp : List Addr} {F' : PH} {led' : Led} {h₁ h₂ : Heap} (x : Apx wr fp F O led h) (le : Le F F') (live : ∀ b ∈ wr, ∃ o, h₁.get? b = some o) (S : LSt F' (ovw O wr h₁) led' h₂) : Apx wr fp F' O led' h₂ := by
  have own : ∀ b ∈ wr, ∃ o, ovw O wr h₁ b = some o := fun b hb => (live b hb).imp fun o ho => (ovw_in hb).trans ho
  exact ⟨fun b hb => (own b hb).elim fun o ho => (S.ow b o ho).2, x.fO, fun b hb p hp e => (own b hb).elim fun o ho => (nomatch (e ▸ (S.ld p hp).2.2 : ovw O wr h₁ b = none).symm.trans ho),
    fun b hb => (x.fp b hb).imp id fun q => q.imp fun o h => le _ _ h, fun b hb => (own b hb).imp fun o ho => (S.ow b o ho).1⟩
/-- what the walk reads stands while a body runs -/
theorem Apx.stays {wr fp : List Addr} {F₁ F₂ : PH} {led₁ led₂ : Led} {h₁ h₂ : Heap} (hfp : ∀ b ∈ fp, b ∈ wr ∨ ∃ o, F₁ b = some o) (S₁ : LSt F₁ (ovw O wr h₁) led₁ h₁) (le : Le F₁ F₂) (S₂ : LSt F₂ (ovw O wr h₁) led₂ h₂) : ∀ b ∈ fp, ∀ o, h₁.get? b = some o → h₂.get? b = some o := fun b hb o e =>
  (hfp b hb).elim (fun hw => (S₂.ow b o ((ovw_in hw).trans e)).1) fun q => q.elim fun o' ho' => (S₂.fz _ _ (le _ _ ho')).trans ((S₁.fz _ _ ho').symm.trans e)

theorem letGo_plain {tgt : Expr} {I : Addr} {n : String} {vs : Array Value} {o : Obj} {v : Value} {s : Shared} {Q : Unit → Shared → Prop} {E : Value → Shared → Prop} (ho : s.heap.get? I = some o) (hc : o.cls = .type n) (hd : o.data = .fields vs)
    (hn : ["enumerate", "zip", "dict_itemiterator", "dict_reverseitemiterator", "odict_iterator", "itertools.zip_longest", "itertools.pairwise"].contains n = false) (k : Q () s) : wpAny (model d.prog d.w) A (letOwnedTupleGo tgt (.ref I) v) Q E s := by
  have hot : ∀ es kk p, wpAny (model d.prog d.w) A (letOwnedTupleGo (.Tuple es kk p) (.ref I) v) Q E s := fun es kk p => by
    induction v using Value.casesOn with
    | ref a =>
      refine wpAny_bind (wpAny_load ho ?_)
      rw [hc, hd]
      refine (?_ : wpAny (model d.prog d.w) A (if (List.contains _ n && _) = true then _ else pure ()) Q E s)
      rw [hn, Bool.false_and, if_neg Bool.false_ne_true]
      exact wpAny_pure k
    | _ => exact wpAny_pure k
  induction tgt using PySem.Expr.casesOn <;> first | exact wpAny_pure k | exact hot [] 0 ⟨0, 0, 0, 0⟩ | exact hot _ _ _

theorem ix_shift {α : Type} {x : α} {r : List α} {i j : Nat} (h : i + 1 ≤ j) : (x :: r)[j - i]? = r[j - (i + 1)]? := by
  obtain ⟨k, rfl⟩ := Nat.exists_eq_add_of_le h
  rw [Nat.add_sub_cancel_left, Nat.add_assoc, Nat.add_sub_cancel_left, Nat.add_comm 1 k]; rfl
theorem It.ofWalks {I : Addr} {fp wr : List Addr} {n : Nat} {P : Nat → Value → Prop} {St : Nat → Heap → Prop} (W : Walks d.prog d.w A I fp wr n P St) (live : ∀ i h, St i h → ∀ b ∈ wr, ∃ o, h.get? b = some o)
    (name : ∀ i h, St i h → ∃ o nm vs, h.get? I = some o ∧ o.cls = .type nm ∧ o.data = .fields vs ∧ ["enumerate", "zip", "dict_itemiterator", "dict_reverseitemiterator", "odict_iterator", "itertools.zip_longest", "itertools.pairwise"].contains nm = false) :
    ∀ (rem : List FV) (i : Nat) (F O : PH) (led : Led) (h : Heap), i + rem.length = n → (∀ j v, P j v → i ≤ j → j < n → ∃ t, rem[j - i]? = some t ∧ VF d.prog d.w F v t) → St i h → Apx wr fp F O led h → It d A false (.ref I) rem F O led h := by
  intro rem
  induction rem with
  | nil =>
    intro i F O led h hn hP st ap s Q E hs S k
    subst hs
    exact W.done s Q E ((Nat.add_zero i).symm.trans hn ▸ st) fun h' tk hk => k h' tk (S.moved ap.fF ap.fO ap.fL hk)
  | cons x r ih =>
    intro i F O led h hn hP st ap tgt htg s E E2 Q2 hs S k
    subst hs
    have hi : i < n := Nat.lt_of_lt_of_eq (Nat.lt_add_of_pos_right (Nat.succ_pos _)) hn
    refine W.item i s _ E hi st fun v h' tk hv st' hk => ⟨v, rfl, ?_⟩
    obtain ⟨t, e, hvt⟩ := hP i v hv (Nat.le_refl _) hi
    rw [Nat.sub_self] at e
    have S1 := (S.moved ap.fF ap.fO ap.fL hk).lend ap.fF ap.fL
    obtain ⟨o, nm, vs, g1, g2, g3, g4⟩ := name _ _ st'
    exact letGo_plain (s := { s with heap := h', toks := tk }) g1 g2 g3 g4 (k v F (ovw O wr h') h' tk (Le.refl _) S1 (Option.some.inj e ▸ hvt) fun F₂ led₂ h₂ le S₂ => ⟨S₂.back ap.fO, ih (i + 1) F₂ O led₂ h₂ ((Nat.succ_add_eq_add_succ i r.length).trans hn) (fun j v hj hij hjn =>
      (hP j v hj (Nat.le_of_succ_le hij) hjn).imp fun t q => ⟨(ix_shift hij).symm.trans q.1, q.2.mono le⟩) (W.frame _ _ _ st' (Apx.stays ap.fp S1 le S₂)) (ap.next le (live _ _ st') S₂)⟩)
theorem isTupT_is {t : Expr} (h : isTupT t = true) : ∃ elts kk pos, t = .Tuple elts kk pos := by
  induction t using PySem.Expr.casesOn <;> first | exact ⟨_, _, _, rfl⟩ | exact Bool.noConfusion h
theorem It.ofWalksT {I : Addr} {fp wr : List Addr} {n : Nat} {Pt : Nat → Array Value → Prop} {St : Nat → Heap → Prop} {Mid : Nat → Addr → Heap → Prop} (W : WalksT d.prog d.w A I fp wr n Pt St Mid) (live : ∀ i h, St i h → ∀ b ∈ wr, ∃ o, h.get? b = some o) :
    ∀ (rem : List FV) (i : Nat) (F O : PH) (led : Led) (h : Heap), i + rem.length = n → (∀ j vals, Pt j vals → i ≤ j → j < n → ∃ ts, rem[j - i]? = some (.tup ts) ∧ VFs d.prog d.w F vals.toList ts) → St i h → Apx wr fp F O led h → It d A true (.ref I) rem F O led h := by
  intro rem
  induction rem with
  | nil =>
    intro i F O led h hn hP st ap s Q E hs S k
    subst hs
    exact W.done s Q E ((Nat.add_zero i).symm.trans hn ▸ st) fun h' tk hk => k h' tk (S.moved ap.fF ap.fO ap.fL hk)
  | cons x r ih =>
    intro i F O led h hn hP st ap tgt htg s E E2 Q2 hs S k
    subst hs
    obtain ⟨elts, kk, pos, rfl⟩ := isTupT_is (htg rfl)
    have hi : i < n := Nat.lt_of_lt_of_eq (Nat.lt_add_of_pos_right (Nat.succ_pos _)) hn
    refine W.item i s _ E hi st fun T vals h' tk hv hT htup mid hk => ⟨.ref T, rfl, ?_⟩
    obtain ⟨ts, e, hvt⟩ := hP i vals hv (Nat.le_refl _) hi
    rw [Nat.sub_self] at e
    have hTwr := W.apart _ _ _ mid
    obtain ⟨oT, hoT, hcT, nT, hdT⟩ := htup
    have fr := S.fresh hT
    have leT : Le F (put F T oT) := Le.put fr.1
    refine W.go elts kk pos i T { s with heap := h', toks := tk } _ E2 mid fun h'' st'' hk'' => ?_
    have S1 := (((S.moved ap.fF ap.fO ap.fL hk).moved ap.fF ap.fO ap.fL hk'').addF (hk'' T oT hTwr hoT) fr.2.1 fr.2.2).lend (fun b hb => (put_ne (fun (e : b = T) => hTwr (e ▸ hb))).trans (ap.fF b hb)) ap.fL
    exact k (.ref T) (put F T oT) (ovw O wr h'') h'' tk leT S1 (Option.some.inj e ▸ .tup put_self hcT hdT (hvt.mono leT)) fun F₂ led₂ h₂ le S₂ => ⟨S₂.back ap.fO, ih (i + 1) F₂ O led₂ h₂ ((Nat.succ_add_eq_add_succ i r.length).trans hn) (fun j v hj hij hjn =>
      (hP j v hj (Nat.le_of_succ_le hij) hjn).imp fun t q => ⟨(ix_shift hij).symm.trans q.1, q.2.mono (leT.trans le)⟩) (W.frame _ _ _ st'' (Apx.stays (fun b hb => (ap.fp b hb).imp id fun q => q.imp fun o ho => leT _ _ ho) S1 le S₂)) (ap.next (leT.trans le) (live _ _ st'') S₂)⟩

/-- an iterator at hand, its own objects lent away until it is called for -/
noncomputable def Slf (d : D0) (A : Around) (it : Value) (h : Heap) : Prop := ∀ (s : Shared) (Q : Value → Shared → Prop) (E : Value → Shared → Prop), s.heap = h → Q it s → wpAny (model d.prog d.w) A (pyIter it) Q E s
noncomputable def Lent (d : D0) (A : Around) (tt : Bool) (it : Value) (xs : List FV) (F O O₁ : PH) (led : Led) (h : Heap) : Prop :=
  LSt F O₁ led h ∧ ∀ F₂ led₂ h₂, Le F F₂ → LSt F₂ O₁ led₂ h₂ → LSt F₂ O led₂ h₂ ∧ It d A tt it xs F₂ O led₂ h₂ ∧ Slf d A it h₂
theorem Lent.ofWalks {I : Addr} {fp wr : List Addr} {n : Nat} {P : Nat → Value → Prop} {St : Nat → Heap → Prop} (W : Walks d.prog d.w A I fp wr n P St) (live : ∀ i h, St i h → ∀ b ∈ wr, ∃ o, h.get? b = some o)
    (name : ∀ i h, St i h → ∃ o nm vs, h.get? I = some o ∧ o.cls = .type nm ∧ o.data = .fields vs ∧ ["enumerate", "zip", "dict_itemiterator", "dict_reverseitemiterator", "odict_iterator", "itertools.zip_longest", "itertools.pairwise"].contains nm = false)
    (S : LSt F O led h) (rem : List FV) (hn : rem.length = n) (hP : ∀ j v, P j v → j < n → ∃ t, rem[j]? = some t ∧ VF d.prog d.w F v t) (st : St 0 h) (ap : Apx wr fp F O led h) : Lent d A false (.ref I) rem F O (ovw O wr h) led h := by
  have S1 := S.lend ap.fF ap.fL
  refine ⟨S1, fun F₂ led₂ h₂ le S₂ => ?_⟩
  have st2 := W.frame _ _ _ st (Apx.stays ap.fp S1 le S₂)
  exact ⟨S₂.back ap.fO, It.ofWalks W live name rem 0 F₂ O led₂ h₂ ((Nat.zero_add _).trans hn) (fun j v hj _ hjn => (hP j v hj hjn).imp fun t q => ⟨q.1, q.2.mono le⟩) st2 (ap.next le ap.live S₂), fun s Q E hs hq => by subst hs; exact W.self 0 s Q E st2 hq⟩
theorem Lent.ofWalksT {I : Addr} {fp wr : List Addr} {n : Nat} {Pt : Nat → Array Value → Prop} {St : Nat → Heap → Prop} {Mid : Nat → Addr → Heap → Prop} (W : WalksT d.prog d.w A I fp wr n Pt St Mid) (live : ∀ i h, St i h → ∀ b ∈ wr, ∃ o, h.get? b = some o)
    (S : LSt F O led h) (rem : List FV) (hn : rem.length = n) (hP : ∀ j vals, Pt j vals → j < n → ∃ ts, rem[j]? = some (.tup ts) ∧ VFs d.prog d.w F vals.toList ts) (st : St 0 h) (ap : Apx wr fp F O led h) : Lent d A true (.ref I) rem F O (ovw O wr h) led h := by
  have S1 := S.lend ap.fF ap.fL
  refine ⟨S1, fun F₂ led₂ h₂ le S₂ => ?_⟩
  have st2 := W.frame _ _ _ st (Apx.stays ap.fp S1 le S₂)
  exact ⟨S₂.back ap.fO, It.ofWalksT W live rem 0 F₂ O led₂ h₂ ((Nat.zero_add _).trans hn) (fun j v hj _ hjn => (hP j v hj hjn).imp fun t q => ⟨q.1, q.2.mono le⟩) st2 (ap.next le ap.live S₂), fun s Q E hs hq => by subst hs; exact W.self 0 s Q E st2 hq⟩

/-! where iterators come from -/
section
variable {s : Shared} {E : Value → Shared → Prop} {Q : Value → Shared → Prop}
theorem fresh_none {G : PH} (hG : Le G (GH h)) : G h.objs.size = none := Option.eq_none_iff_forall_not_mem.mpr fun o e => Nat.lt_irrefl _ (Heap.lt_size (hG _ _ e))
theorem VFs.nth {vs : Array Value} {xs : List FV} (r : VFs d.prog d.w F vs.toList xs) {j : Nat} {v : Value} (e : vs[j]? = some v) : ∃ t, xs[j]? = some t ∧ VF d.prog d.w F v t := by
  replace e : vs.toList[j]? = some v := Array.getElem?_toList.trans e
  generalize vs.toList = l at r e
  induction xs generalizing l j with
  | nil => revert e; exact VFs.nilE r fun e => noS e
  | cons x xs ih =>
    revert e
    refine VFs.consE r fun u us hu r e => ?_
    induction j using Nat.casesOn with
    | zero => exact ⟨x, rfl, Option.some.inj e ▸ hu⟩
    | succ j => exact ih us r e
theorem LSt.ne {a : Addr} {o : Obj} (S : LSt F O led h) (hf : F a = some o) : a ≠ h.objs.size := fun e => by subst e; exact noS (S.freshF.symm.trans hf)
theorem one_mem {P : Addr → Prop} {a : Addr} (h : P a) : ∀ b ∈ [a], P b := List.forall_mem_cons.mpr ⟨h, fun _ h => nomatch h⟩
theorem iter_list (hh : A.handled = none) {v : Value} {xs : List FV} (hv : VF d.prog d.w F v (.lst xs)) (S : LSt F O led s.heap)
    (k : ∀ it O₁ h', Lent d A false it xs F O O₁ led h' → Q it { s with heap := h' }) : wpAny (model d.prog d.w) A (pyIter v) Q E s := hv.asL rfl fun a vs n hf r => by
  have hl : s.heap.IsList a vs := isL (S.fz _ _ hf)
  have hne := S.ne hf
  refine wpAny_pyIter_list hl (k _ _ _ (Lent.ofWalks (Walks.list hh s.heap.objs.size a hne vs) (fun i h st => one_mem (st.1.imp fun o ho => ho.1)) (fun i h st => st.1.elim fun o ho => ⟨o, _, _, ho.1, ho.2.1, ho.2.2, by decide⟩) (S.push _) xs r.size.symm (fun j v hj _ => r.nth hj) ⟨⟨_, Heap.get?_push_size _ rfl, rfl, rfl⟩, hl.push _⟩
    (Apx.made S (one_mem (Nat.le_refl _)) (List.forall_mem_cons.mpr ⟨.inl (.head _), one_mem (.inr ⟨_, hf⟩)⟩) (one_mem ⟨_, Heap.get?_push_size _ rfl⟩))))
theorem iter_tup (hh : A.handled = none) {v : Value} {xs : List FV} (hv : VF d.prog d.w F v (.tup xs)) (S : LSt F O led s.heap)
    (k : ∀ it O₁ h', Lent d A false it xs F O O₁ led h' → Q it { s with heap := h' }) : wpAny (model d.prog d.w) A (pyIter v) Q E s := hv.asT rfl fun a o vs n hf hc hd r => by
  have hl : s.heap.IsTuple a vs := ⟨o, S.fz _ _ hf, hc, n, hd⟩
  have hne := S.ne hf
  refine wpAny_pyIter_tuple hl (k _ _ _ (Lent.ofWalks (Walks.tuple hh s.heap.objs.size a hne vs) (fun i h st => one_mem (st.1.imp fun o ho => ho.1)) (fun i h st => st.1.elim fun o ho => ⟨o, _, _, ho.1, ho.2.1, ho.2.2, by decide⟩) (S.push _) xs r.size.symm (fun j v hj _ => r.nth hj) ⟨⟨_, Heap.get?_push_size _ rfl, rfl, rfl⟩, hl.push _⟩
    (Apx.made S (one_mem (Nat.le_refl _)) (List.forall_mem_cons.mpr ⟨.inl (.head _), one_mem (.inr ⟨_, hf⟩)⟩) (one_mem ⟨_, Heap.get?_push_size _ rfl⟩))))
end
end
end Xm

open PySem PySem.W PySem.Calls PyProof.Rows PySem.Spec
namespace Xm
section
variable {d : D0} {A : Around} {F O : PH} {led : Led} {h : Heap} {s : Shared} {E : Value → Shared → Prop} {Q : Value → Shared → Prop}

theorem range_small : ∀ m : Fin 1001, Builtin.Range.small 0 (m.val : Int) 1 = true ∧ Builtin.Range.rangeSize 0 (m.val : Int) 1 = (m.val : Int) := by decide +kernel
theorem range_sound (hh : A.handled = none) {n : Int} {t : Tok} (h0 : 0 ≤ n) (h1 : n ≤ 1000) (S : LSt F O led s.heap)
    (k : ∀ it O₁ h' tk', Lent d A false it ((List.range n.toNat).map fun (i : Nat) => FV.int (i : Int)) F O O₁ led h' → Q it { s with heap := h', toks := tk' }) :
    wpAny (model d.prog d.w) A (call (.type "range") [.int n t]) (fun x s₁ => wpAny (model d.prog d.w) A (pyIter x) Q E s₁) E s := by
  obtain ⟨m, rfl⟩ := Int.eq_ofNat_of_zero_le h0
  have hm := range_small ⟨m, Nat.lt_succ_of_le (Int.ofNat_le.mp h1)⟩
  refine call_range_1 (wpAny_pyIter_range (Heap.get?_push_size _ rfl : IsRange (s.heap.push { cls := .type "range", data := .fields #[.int 0 s.toks, .int m t, .int 1 (s.toks + 1)] }) s.heap.objs.size 0 m 1 s.toks t (s.toks + 1)) hm.1 ?_)
  rw [show Builtin.Range.rangeSize 0 (m : Int) 1 = m from hm.2]
  have S1 := S.push { cls := .type "range", data := .fields #[.int 0 s.toks, .int m t, .int 1 (s.toks + 1)] }
  refine k _ _ _ _ (Lent.ofWalks (Walks.range hh _ 0 1 m) (fun i h st => one_mem ⟨_, st⟩) (fun i h st => ⟨_, _, _, st, rfl, rfl, by decide⟩) (S1.push { cls := .type "range_iterator", data := .fields #[rawInt 0, rawInt m, rawInt 1] }) _ (by rw [List.length_map, List.length_range]; rfl) (fun j v hj hjn => hj.elim fun t e => ⟨.int j, ?_, ?_⟩) ?_
    (Apx.made S1 (one_mem (Nat.le_refl _)) (fun b hb => .inl hb) (one_mem ⟨_, Heap.get?_push_size _ rfl⟩)))
  · rw [List.getElem?_map, show (List.range (m : Int).toNat)[j]? = some j from List.getElem?_range hjn]; rfl
  · rw [e, Int.mul_one, Int.zero_add]; exact .int _ _
  · refine (?_ : IsRangeIter _ _ (0 + ((0 : Nat) : Int) * 1) ((m : Int) - ((0 : Nat) : Int)) 1)
    rw [Int.mul_one, Int.zero_add, show (m : Int) - ((0 : Nat) : Int) = m from Int.sub_zero _]
    exact Heap.get?_push_size _ rfl

theorem enumF_get (xs : List FV) (n i : Nat) (t : FV) (e : xs[i]? = some t) : (enumF n xs)[i]? = some (.tup [.int ((n + i : Nat) : Int), t]) := by
  induction xs generalizing n i with
  | nil => exact noS e
  | cons x r ih => induction i using Nat.casesOn with
    | zero => exact Option.some.inj e ▸ rfl
    | succ i => exact (ih (n + 1) i e).trans (by rw [Nat.succ_add_eq_add_succ])
theorem enumF_length (xs : List FV) (n : Nat) : (enumF n xs).length = xs.length := by
  induction xs generalizing n with
  | nil => rfl
  | cons x r ih => exact congrArg Nat.succ (ih _)
theorem enum_sound (hh : A.handled = none) {v : Value} {xs : List FV} (hv : VF d.prog d.w F v (.lst xs)) (S : LSt F O led s.heap)
    (k : ∀ it O₁ h', Lent d A true it (enumF 0 xs) F O O₁ led h' → Q it { s with heap := h' }) :
    wpAny (model d.prog d.w) A (call (.type "enumerate") [v]) (fun x s₁ => wpAny (model d.prog d.w) A (pyIter x) Q E s₁) E s := hv.asL rfl fun a vs n hf r => by
  refine call_enumerate_1 (S.fz _ _ hf) fun h' he hit hsz kp => ?_
  have S' := S.keeps kp
  have hlt : @LT.lt Nat _ a s.heap.objs.size := Heap.lt_size (S.fz _ _ hf)
  refine wpAny_pyIter_enum he (k _ _ _ (Lent.ofWalksT (WalksT.enumerate hh _ _ a (neN (by omega)) (neN (by omega)) (neN (by omega)) vs) (fun i h st => List.forall_mem_cons.mpr ⟨st.1.elim fun _ x => ⟨_, x⟩, one_mem (st.2.1.imp fun _ x => x.1)⟩) S' _ ((enumF_length xs 0).trans r.size.symm) (fun j vals hj _ => ?_) ⟨⟨_, he⟩, hit, ⟨_, S'.fz _ _ hf, rfl, n, rfl⟩⟩
    (Apx.made S (List.forall_mem_cons.mpr ⟨by omega, one_mem (by omega)⟩) (List.forall_mem_cons.mpr ⟨.inl (.head _), List.forall_mem_cons.mpr ⟨.inl (.tail _ (.head _)), one_mem (.inr ⟨_, hf⟩)⟩⟩) (List.forall_mem_cons.mpr ⟨⟨_, he⟩, one_mem (hit.imp fun _ x => x.1)⟩))))
  obtain ⟨t, x, hx, rfl⟩ := hj
  exact (r.nth hx).elim fun u q => ⟨[.int j, u], (enumF_get xs 0 j u q.1).trans (by rw [Nat.zero_add]), .cons (.int _ _) (.cons q.2 .nil)⟩

theorem zipF_get (xs ys : List FV) (i : Nat) (t u : FV) (e : xs[i]? = some t) (e2 : ys[i]? = some u) : (zipF xs ys)[i]? = some (.tup [t, u]) := by
  induction xs generalizing ys i with
  | nil => exact noS e
  | cons x r ih => induction ys using List.casesOn with
    | nil => exact noS e2
    | cons y w => induction i using Nat.casesOn with
      | zero => exact Option.some.inj e ▸ Option.some.inj e2 ▸ rfl
      | succ i => exact ih w i e e2
theorem zipF_length (xs ys : List FV) : (zipF xs ys).length = min xs.length ys.length := by
  induction xs generalizing ys with
  | nil => exact (Nat.zero_min _).symm
  | cons x r ih => induction ys using List.casesOn with
    | nil => exact (Nat.min_zero _).symm
    | cons y w => exact (congrArg Nat.succ (ih w)).trans (Nat.add_min_add_right r.length w.length 1).symm
theorem zip_lists (hh : A.handled = none) {v u : Value} {xs ys : List FV} (hv : VF d.prog d.w F v (.lst xs)) (hu : VF d.prog d.w F u (.lst ys)) (S : LSt F O led s.heap)
    (k : ∀ it F' O₁ h', Le F F' → Lent d A true it (zipF xs ys) F' O O₁ led h' → Q it { s with heap := h' }) :
    wpAny (model d.prog d.w) A (call (.type "zip") [v, u]) (fun x s₁ => wpAny (model d.prog d.w) A (pyIter x) Q E s₁) E s := hv.asL rfl fun a vs n hf r => hu.asL rfl fun b us m hg r2 => by
  have hl1 := isL (S.fz _ _ hf)
  have hl2 := isL (S.fz _ _ hg)
  refine call_zip_2 hl1 hl2 fun h' hz hTI hTO hi1 hi2 hsz kp => ?_
  have hlt : @LT.lt Nat _ a s.heap.objs.size := Heap.lt_size (S.fz _ _ hf)
  have hlt2 : @LT.lt Nat _ b s.heap.objs.size := Heap.lt_size (S.fz _ _ hg)
  have fr := S.fresh (b := s.heap.objs.size + 2) (Nat.le_add_right _ _)
  have le : Le F (put F (s.heap.objs.size + 2) { cls := .type "tuple", data := .seq #[.ref s.heap.objs.size, .ref (s.heap.objs.size + 1)] }) := Le.put fr.1
  have S' := (S.keeps kp).addF hTI fr.2.1 fr.2.2
  have D : ZipApart (s.heap.objs.size + 4) (s.heap.objs.size + 2) (s.heap.objs.size + 3) s.heap.objs.size (s.heap.objs.size + 1) a b := by
    generalize s.heap.objs.size = z at hlt hlt2
    constructor <;> exact neN (by omega)
  have four : ∀ {P : Addr → Prop}, P (s.heap.objs.size + 4) → P (s.heap.objs.size + 3) → P s.heap.objs.size → P (s.heap.objs.size + 1) → ∀ c ∈ [s.heap.objs.size + 4, s.heap.objs.size + 3, s.heap.objs.size, s.heap.objs.size + 1], P c := fun h1 h2 h3 h4 =>
    List.forall_mem_cons.mpr ⟨h1, List.forall_mem_cons.mpr ⟨h2, List.forall_mem_cons.mpr ⟨h3, one_mem h4⟩⟩⟩
  have ge : ∀ c ∈ [s.heap.objs.size + 4, s.heap.objs.size + 3, s.heap.objs.size, s.heap.objs.size + 1], s.heap.objs.size ≤ c := four (Nat.le_add_right _ _) (Nat.le_add_right _ _) (Nat.le_refl _) (Nat.le_add_right _ _)
  have ne : ∀ c ∈ [s.heap.objs.size + 4, s.heap.objs.size + 3, s.heap.objs.size, s.heap.objs.size + 1], c ≠ s.heap.objs.size + 2 := four (neN (by omega)) (neN (by omega)) (neN (by omega)) (neN (by omega))
  refine wpAny_pyIter_zip hz (k _ _ _ _ le (Lent.ofWalksT (WalksT.zip2 hh _ _ _ _ _ a b D vs us) (fun i h st => ?_) S' _ ?_ (fun j vals hj _ => ?_) ⟨hz, hTI, ⟨_, _, hTO⟩, hi1, hi2, hl1.at fun o e => kp _ o e, hl2.at fun o e => kp _ o e⟩
    ⟨fun c hc => (put_ne (ne c hc)).trans (S.fresh (ge c hc)).1, fun c hc => (S.fresh (ge c hc)).2.1, fun c hc => (S.fresh (ge c hc)).2.2, ?_, four ⟨_, hz⟩ ⟨_, hTO⟩ (hi1.imp fun _ x => x.1) (hi2.imp fun _ x => x.1)⟩))
  · obtain ⟨h1, _, ⟨x, y, h3⟩, h4, h5, _⟩ := st
    exact four ⟨_, h1⟩ ⟨_, h3⟩ (h4.imp fun _ x => x.1) (h5.imp fun _ x => x.1)
  · rw [zipF_length, r.size, r2.size]
  · obtain ⟨x, y, hx, hy, rfl⟩ := hj
    exact (r.nth hx).elim fun t q => (r2.nth hy).elim fun u q2 => ⟨[t, u], zipF_get xs ys j t u q.1 q2.1, .cons (q.2.mono le) (.cons (q2.2.mono le) .nil)⟩
  · exact List.forall_mem_cons.mpr ⟨.inl (.head _), List.forall_mem_cons.mpr ⟨.inr ⟨_, put_self⟩, List.forall_mem_cons.mpr ⟨.inl (.tail _ (.head _)), List.forall_mem_cons.mpr ⟨.inl (.tail _ (.tail _ (.head _))), List.forall_mem_cons.mpr ⟨.inl (.tail _ (.tail _ (.tail _ (.head _)))),
      List.forall_mem_cons.mpr ⟨.inr ⟨_, le _ _ hf⟩, one_mem (.inr ⟨_, le _ _ hg⟩)⟩⟩⟩⟩⟩⟩
end
end Xm

open PySem PySem.W PySem.Calls PyProof.Rows PySem.Spec
namespace Xm
open PyProof.Rows.LCg (NsObj ns_obj)
section
variable {d : D0} {ih : Ih} {n : Nat} {A : Around} {O F : PH} {led : Led} {wr ρ : List Addr} {env : Env} {σ : AS} {s : Shared} {E : Value → Shared → Prop}

noncomputable abbrev Un : List Addr → PH → Unit → Unit → Prop := fun _ _ _ _ => True
/-- a store to one of the frame's own names -/
theorem ns_same {oL : Obj} {m m' : Str → Option Value} (h : NsObj oL m) (h' : NsObj oL m') : m = m' := by
  obtain ⟨es, ep, h1, h2, h3⟩ := h
  obtain ⟨es', ep', g1, g2, g3⟩ := h'
  rw [h1] at g1
  obtain ⟨rfl, rfl⟩ := Data.dict.inj g1
  exact funext fun y => (h3 y).symm.trans (g3 y)
theorem setVar_sound (cx : Cx d A n env) (R : IRel d env wr ρ σ F led) {x : Str} {v : Value} {av : AV} (hk : isLocalK (σ.sc.lookup x) = true) (hv : VR d.prog d.w ρ F v av) :
    Ev d.prog d.w A O (storeName env x v) F led (Pg d env wr ρ F led Un ((), setVar σ x av)) := by
  intro s Q E S k
  refine hideG fun G hG => ?_
  generalize e : σ.sc.lookup x = z at hk
  induction z using Option.casesOn with
  | none => exact Bool.noConfusion hk
  | some kd => induction kd using PySem.NameKind.casesOn with
    | «local» =>
      have ek := R.kindG e (fun q => nomatch q)
      obtain ⟨oL, m, hL, hns, hvs⟩ := R.fr
      refine hG (wpAny_storeName_local ek (hns.ns (S.ld _ hL).1) (fun h' hn hs => ?_) (by rw [cx.kind]; rfl))
      obtain ⟨o', ho', hn'⟩ := ns_obj hn
      obtain ⟨R', st⟩ := R.setL (o' := o') ek hv fun m' oL' hL' hns' => by
        have q : oL = oL' := congrArg Prod.snd (R.own.fz _ hL _ hL' rfl)
        subst q
        exact ns_same hns hns' ▸ hn'
      exact k () _ _ _ _ ⟨ρ, st, trivial, R'⟩ (S.setAt hL hs ho')
    | cell =>
      have ek := R.kindG e (fun q => nomatch q)
      obtain ⟨c, hc⟩ := R.celX x e
      obtain ⟨cm, hcm, hca⟩ := lookup_mem hc
      obtain ⟨⟨oc, vc, hoc, hdc⟩, hcne⟩ := R.cel _ hcm
      rw [hca] at hoc
      refine hG (wpAny_storeName_cell cx.kind ek hc ⟨oc, (S.ld _ hoc).1, hdc⟩ fun h' hv' hs => ?_)
      obtain ⟨o', ho', hd'⟩ := hv'
      obtain ⟨R', st⟩ := R.setC (o' := o') ek e hc hv hd'
      exact k () _ _ _ s.toks ⟨ρ, st, trivial, R'⟩ (S.setAt hoc hs ho')
    | _ => exact Bool.noConfusion hk

theorem itemsA_sound {v : Value} {x : AV} {xs : List AV} (hv : VR d.prog d.w ρ F v x) (e : itemsA x = some xs) : ∃ a o vs m, v = .ref a ∧ F a = some o ∧ o.cls = .type "tuple" ∧ o.data = .seq vs m ∧ VRs d.prog d.w ρ F vs.toList xs := by
  refine (?_ : Okay (itemsA x) fun xs => ∃ a o vs m, v = .ref a ∧ F a = some o ∧ o.cls = .type "tuple" ∧ o.data = .seq vs m ∧ VRs d.prog d.w ρ F vs.toList xs) xs e
  induction hv using VR.casesOn with
  | fz h => exact okM fun xs e => h.asT e fun a o vs m hf hc hd r => ⟨a, o, vs, m, rfl, hf, hc, hd, r.toR⟩
  | tup hf hc hd r => exact okS ⟨_, _, _, _, rfl, hf, hc, hd, r⟩
  | _ => exact okN
theorem assignEach_cons {t : Expr} {r : List Expr} (h : plainE t = true) : assignEach (t :: r) env = (false, assign t env) :: assignEach r env := by
  induction t using PySem.Expr.casesOn <;> first | rfl | exact Bool.noConfusion h
theorem bindQ_noStar {f : Expr → AV → AS → Option AS} {ts : List Expr} {vs : List AV} {σ : AS} : Okay (bindQ f ts vs σ) fun _ => (assignEach ts env).findIdx? (·.1) = none ∧ (assignEach ts env).length = vs.length := by
  induction ts generalizing vs σ with
  | nil => exact okI fun h => okS ⟨rfl, (congrArg List.length (List.isEmpty_iff.mp h)).symm⟩
  | cons t r ih =>
    refine okI fun hp => ?_
    induction vs using List.casesOn with
    | nil => exact okN
    | cons v w =>
      rw [assignEach_cons hp]
      exact okB fun σ1 _ σ2 e => ⟨by rw [List.findIdx?_cons, (ih σ2 e).1]; rfl, congrArg Nat.succ (ih σ2 e).2⟩
theorem fresh_kept {h' : Heap} (S : LSt F O led s.heap) (kp : ∀ b o, b ≠ s.heap.objs.size → s.heap.get? b = some o → h'.get? b = some o) : LSt F O led h' :=
  S.moved (wr := [s.heap.objs.size]) (one_mem S.freshF) (one_mem S.freshO) (one_mem S.freshL) fun b o hb e => kp b o (fun q => hb (q ▸ .head _)) e
noncomputable def BindOk (d : D0) (A : Around) (O : PH) (wr : List Addr) (env : Env) (f : Expr → AV → AS → Option AS) : Prop :=
  ∀ t x σ, Okay (f t x σ) fun σ' => ∀ {v : Value} {F : PH} {led : Led} {ρ : List Addr}, VR d.prog d.w ρ F v x → IRel d env wr ρ σ F led → Ev d.prog d.w A O (assign t env v) F led (Pg d env wr ρ F led Un ((), σ'))
theorem bindQ_sound {f : Expr → AV → AS → Option AS} (hf : BindOk d A O wr env f) {ts : List Expr} {xs : List AV} {σ : AS} : Okay (bindQ f ts xs σ) fun σ' => ∀ {vs : List Value} {F : PH} {led : Led} {ρ : List Addr}, VRs d.prog d.w ρ F vs xs → IRel d env wr ρ σ F led →
    Ev d.prog d.w A O (assignInOrder ((assignEach ts env).map (·.2)) vs) F led (Pg d env wr ρ F led Un ((), σ')) := by
  induction ts generalizing xs σ with
  | nil => exact okI fun h => okS fun hv R => VRs.nilE (List.isEmpty_iff.mp h ▸ hv) (Ev.pure (Pg.here trivial R))
  | cons t r ih =>
    refine okI fun hp => ?_
    induction xs using List.casesOn with
    | nil => exact okN
    | cons x w =>
      rw [assignEach_cons hp]
      exact okB fun σ1 e1 σ2 e2 vs F led ρ hv R => VRs.consE hv fun v us hv rv => Ev.bind (Ev.holding (hf t x σ σ1 e1 hv R)) fun _ F' led' p => p.elim fun ρ' q => (ih σ2 e2 (rv.mono q.1.ext q.1.le) q.2.2).mono fun _ _ _ p => p.lift q.1
theorem bindN_sound (cx : Cx d A n env) (m : Nat) : BindOk d A O wr env (bindN m) := by
  induction m with
  | zero => exact fun _ _ _ => okN
  | succ m ih =>
    intro t x σ
    induction t using PySem.Expr.casesOn with
    | Name y pos => exact okI fun hk => okS fun hv R s Q E S k => wpAny_assign_Name (setVar_sound cx R hk hv s Q E S k)
    | Tuple ts kk pos =>
      refine okB fun vs e1 σ' e v F led ρ hv R s Q E S k => ?_
      obtain ⟨a, o, ws, m, rfl, hf, hc, hd, r⟩ := itemsA_sound hv e1
      have g := bindQ_noStar (env := env) σ' e
      exact wpAny_assign_Tuple cx.hd ⟨o, S.fz _ _ hf, hc, m, hd⟩ (g.2.trans (r.length.symm.trans Array.length_toList)) g.1 fun h' he => bindQ_sound ih _ e r R { s with heap := h' } Q E (fresh_kept S fun b o hb e => he b o hb e) k
    | _ => exact okN
theorem bindT_sound (cx : Cx d A n env) (t : Expr) {v : Value} {x : AV} {σ σ' : AS} {F : PH} {led : Led} {ρ : List Addr} (e : bindT t x σ = some σ') (hv : VR d.prog d.w ρ F v x) (R : IRel d env wr ρ σ F led) :
    Ev d.prog d.w A O (assign t env v) F led (Pg d env wr ρ F led Un ((), σ')) := bindN_sound cx 4 t x σ σ' e hv R
end
end Xm

open PySem PySem.W PySem.Calls PyProof.Rows PySem.Spec
namespace Xm
section
variable {d : D0} {ih : Ih} {n : Nat} {A : Around} {O F : PH} {led : Led} {wr ρ : List Addr} {env : Env} {σ : AS} {s : Shared} {E : Value → Shared → Prop}

theorem Stp.cut {wr ρ ρ' : List Addr} {F F' : PH} {led led' : Led} (st : Stp wr ρ F led ρ' F' led') : Stp wr ρ F led ρ F' led' :=
  ⟨Ext.refl _, st.le, st.keep, st.here, fun a h n => absurd h n⟩
theorem IRel.cut' {F' : PH} {led' : Led} {ρ' : List Addr} {m k : Nat} {σ1 σ2 : AS} (R : IRel d env wr ρ' σ1 F' led') (e : Xm.cut m k σ1 = some σ2) (hx : Ext ρ ρ') (hk : k = ρ.length) : IRel d env wr ρ σ2 F' led' := by
  have := R.cut e
  rw [hk, hx.take] at this
  exact this

theorem Stp.wide {F F' : PH} {led : Led} (le : Le F F') : Stp wr ρ F led ρ F' led := ⟨Ext.refl _, le, fun _ h _ _ => h, fun p h _ => ⟨p, h, rfl⟩, fun a h n => absurd h n⟩
/-- where a turn of the loop begins -/
inductive LoopI (d : D0) (ih : Ih) (A : Around) (O : PH) (wr ρ : List Addr) (env : Env) (F : PH) (led : Led) (t : Expr) (body : List Stmt) (m k : Nat) (tt : Bool) (it : Value) (out : Fl × AS) (s : Shared) : Nat → Shared → Prop
  | mk {rem : List FV} {σ : AS} {F1 : PH} {led1 : Led} {h : Heap} {tk : Nat} : exStep.forL ih t body m k rem σ = some out → IRel d env wr ρ σ F1 led1 → LSt F1 O led1 h → It d A tt it rem F1 O led1 h → Stp wr ρ F led ρ F1 led1 → LoopI d ih A O wr ρ env F led t body m k tt it out s rem.length { s with heap := h, toks := tk }
theorem for_loop (ok : Ok d) (H : SndX d ih.ex n) {t : Expr} {body : List Stmt} {m k : Nat} {tt : Bool} {it : Value} (cx : Cx d A n env) (htt : tt = true → isTupT t = true) (hk : k = ρ.length) :
    ∀ (rem : List FV) (σ : AS) (out : Fl × AS) (s : Shared) (R : Result → Shared → Prop), exStep.forL ih t body m k rem σ = some out → Base d F → IRel d env wr ρ σ F led → LSt F O led s.heap → It d A tt it rem F O led s.heap →
      (∀ f F' led' h' tk', Pg d env wr ρ F led (FlR d) out f F' led' → LSt F' O led' h' → R (.ok f) { s with heap := h', toks := tk' }) → codeAny (model d.prog d.w) A (.forLoop t it body [] env) R s := by
  intro rem σ out s R he B R0 S I0 kk
  refine codeAny_forLoop_any (LoopI d ih A O wr ρ env F led t body m k tt it out s) (fun j s' hI => ?_) rem.length (.mk (tk := s.toks) he R0 S I0 Stp.refl)
  induction hI using LoopI.casesOn with
  | @mk rem σ F1 led1 h tk he R1 S1 I1 st1 =>
  induction rem using List.casesOn with
  | nil => exact I1 { s with heap := h, toks := tk } _ _ rfl S1 fun h' tk' S' => wpAny_pure (kk .next F1 led1 h' tk' (Option.some.inj he ▸ ⟨ρ, st1, .next, R1⟩) S')
  | cons x r =>
    refine bndE he fun σ1 e1 he => bndE he fun p e2 he => ?_
    refine wpAny_mono (I1 t htt { s with heap := h, toks := tk } (notedBy (model d.prog d.w) A env fun e s' => R (.error e) s') (notedBy (model d.prog d.w) A env fun e s' => R (.error e) s') (fun v _ s2 => wpAny (model d.prog d.w) A (assign t env v) (fun _ s₂ => wpAny (model d.prog d.w) A (execs body env) (fun f s₃ => match f with
            | .next | .cont => ∃ m', m' < r.length + 1 ∧ LoopI d ih A O wr ρ env F led t body m k tt it out s m' s₃
            | .brk => R (.ok .next) s₃
            | .ret v => R (.ok (.ret v)) s₃) (notedBy (model d.prog d.w) A env fun e s' => R (.error e) s') s₂) (notedBy (model d.prog d.w) A env fun e s' => R (.error e) s') s2) rfl S1 fun v F2 O2 h2 tk2 le2 S2 hv back => ?_) (fun rv s1 hq => hq.elim fun v hq => hq.1 ▸ hq.2) fun _ _ q => q
    have B2 : Base d F2 := (B.le st1.le).le le2
    have R2 : IRel d env wr ρ σ F2 led1 := R1.step (.wide le2) (R1.own.mono ok.kn le2)
    refine bindT_sound cx t e1 (.fz hv) R2 { s with heap := h2, toks := tk2 } _ _ S2 fun _ F3 led3 h3 tk3 p3 S3 => p3.elim fun ρ3 q3 =>
      H _ _ _ e2 A O2 F3 led3 wr ρ3 env cx (B2.le q3.1.le) q3.2.2 { s with heap := h3, toks := tk3 } _ _ S3 fun f F4 led4 h4 tk4 p4 S4 => p4.elim fun ρ4 q4 => ?_
    obtain ⟨st4, hf, R4⟩ := q4
    have stA : Stp wr ρ F2 led1 ρ4 F4 led4 := q3.1.trans st4
    have stW : Stp wr ρ F led ρ4 F4 led4 := st1.trans ((Stp.wide le2).trans stA)
    have back := back F4 led4 h4 stA.le S4
    obtain ⟨fl, σp⟩ := p
    have again : ∀ σ2, cut m k σp = some σ2 → exStep.forL ih t body m k r σ2 = some out → ∃ m', m' < r.length + 1 ∧ LoopI d ih A O wr ρ env F led t body m k tt it out s m' { s with heap := h4, toks := tk4 } := fun σ2 e3 he =>
      ⟨r.length, Nat.lt_succ_self _, .mk he (R4.cut' e3 stA.ext hk) back.1 back.2 stW.cut⟩
    clear e2 S4 I1 S1
    replace hf : FlR d ρ4 F4 f fl := hf
    induction hf using FlR.casesOn with
    | next => exact bndE he again
    | cont => exact bndE he again
    | brk => exact bndE he fun σ2 e3 he => kk .next F4 led4 h4 tk4 (Option.some.inj he ▸ ⟨ρ, stW.cut, .next, R4.cut' e3 stA.ext hk⟩) back.1
    | ret hv => exact kk _ F4 led4 h4 tk4 (Option.some.inj he ▸ ⟨ρ4, stW, .ret hv, R4⟩) back.1
end
end Xm

open PySem PySem.W PySem.Calls PyProof.Rows PySem.Spec
namespace Xm
open PyProof.Rows.LCg (NsObj ns_obj)
section
variable {d : D0} {ih : Ih} {n : Nat} {A : Around} {O F : PH} {led : Led} {wr ρ : List Addr} {env : Env} {σ : AS} {s : Shared} {E : Value → Shared → Prop}

/-! the names that a comprehension's frame takes along -/
noncomputable def closL (cells : List (Str × Addr)) : List (Str × NameKind) → List (Str × Addr) → List (Str × Addr)
  | [], acc => acc
  | (n, k) :: r, acc => closL cells r (if k == .free then (match cells.lookup n with | some c => (n, c) :: acc | none => acc) else acc)
theorem closL_mem {cells : List (Str × Addr)} : ∀ {names : List (Str × NameKind)} {acc : List (Str × Addr)}, (∀ p ∈ acc, cells.lookup p.1 = some p.2) → ∀ p ∈ closL cells names acc, cells.lookup p.1 = some p.2
  | [], _, h => h
  | (n, k) :: r, acc, h => by
    rw [closL]
    refine closL_mem (names := r) fun p hp => ?_
    split at hp
    · split at hp
      · rename_i c hc
        rcases List.mem_cons.mp hp with rfl | hp
        · exact hc
        · exact h p hp
      · exact h p hp
    · exact h p hp
theorem closL_keep {cells : List (Str × Addr)} : ∀ {names : List (Str × NameKind)} {acc : List (Str × Addr)} {x : Str}, (acc.lookup x).isSome = true → ((closL cells names acc).lookup x).isSome = true
  | [], _, _, h => h
  | (n, k) :: r, acc, x, h => by
    rw [closL]
    refine closL_keep (names := r) ?_
    split
    · split
      · rw [List.lookup_cons]
        split
        · rfl
        · exact h
      · exact h
    · exact h
theorem closL_has {cells : List (Str × Addr)} : ∀ {names : List (Str × NameKind)} {acc : List (Str × Addr)} {x : Str} {c : Addr}, (x, NameKind.free) ∈ names → cells.lookup x = some c → ((closL cells names acc).lookup x).isSome = true
  | [], _, _, _, h, _ => nomatch h
  | (n, k) :: r, acc, x, c, h, hc => by
    rw [closL]
    rcases List.mem_cons.mp h with e | h
    · cases e
      refine closL_keep ?_
      rw [if_pos (by rfl), hc]
      simp
    · exact closL_has h hc
theorem lookup_pair {α : Type} {l : List (Str × α)} {x : Str} {c : α} (e : l.lookup x = some c) : (x, c) ∈ l := by
  induction l with
  | nil => cases e
  | cons p r ih =>
    obtain ⟨k, v⟩ := p
    rw [List.lookup_cons] at e
    split at e
    · rename_i h; cases e; rw [eq_of_beq h]; exact .head _
    · exact .tail _ (ih e)
theorem closureFor_is {scope : Scope} (h : ∀ x ∈ scope.names, x.2 = .free → ∃ c, env.cells.lookup x.1 = some c) : closureFor scope env = pure (closL env.cells scope.names []) := by
  have key : ∀ (names : List (Str × NameKind)) (acc : List (Str × Addr)), (∀ x ∈ names, x.2 = .free → ∃ c, env.cells.lookup x.1 = some c) →
      (forIn names acc fun x r => (match x with | (name, kind) => (do
        let mut cs := r
        if (kind == NameKind.free) = true then cs := (name, ← cellOf env name) :: cs
        pure (ForInStep.yield cs)) : Sem (ForInStep (List (Str × Addr))))) = pure (closL env.cells names acc) := by
    intro names
    induction names with
    | nil => intro acc h; rfl
    | cons p r ih =>
      intro acc h
      obtain ⟨n, k⟩ := p
      rw [List.forIn_cons]
      by_cases hk : k = .free
      · subst hk
        obtain ⟨c, hc⟩ := h _ (.head _) rfl
        have e1 : cellOf env n = pure c := by unfold cellOf; rw [hc]
        have := ih ((n, c) :: acc) fun x hx => h x (.tail _ hx)
        rw [closL, if_pos (by rfl), hc]
        rw [← this]
        simp [e1]
      · have hb : (k == NameKind.free) = false := by simpa using hk
        have := ih acc fun x hx => h x (.tail _ hx)
        rw [closL, if_neg (by rw [hb]; decide)]
        rw [← this]
        simp [hb]
  have := key scope.names [] h
  refine Eq.trans (b := ((pure (closL env.cells scope.names []) : Sem (List (Str × Addr))) >>= fun cs => pure cs)) ?_ rfl
  rw [← this]; rfl
end
end Xm

open PySem PySem.W PySem.Calls PyProof.Rows PySem.Spec
namespace Xm
open PyProof.Rows.LCg (NsObj ns_obj)

noncomputable def turnTree (t iter : Expr) (ifs : List Expr) (inner : Sem Unit) (self : Code) (it : Value) (env : Env) : Sem Fin := do
  standAt iter.pos
  match ← pyNext it with
  | none => pure (.done .next)
  | some v =>
    letOwnedTupleGo t it v
    assign t env v
    let mut ok := true
    for c in ifs do
      if ok then ok ← isTrue c env (eval c env)
    if ok then inner
    again self
noncomputable abbrev emitT (elt : Expr) (acc : Value) (env : Env) : Sem Unit := do let _ ← call (.builtin "list.append") [acc, ← eval elt env]
noncomputable abbrev nestT (e : Expr) (iter : Expr) (dep : Nat) (acc : Value) (env : Env) : Sem Unit := do
  let x ← eval iter env
  standAt iter.pos
  let x ← foldedSetIterable iter env x
  let _ ← runOwn (.compStart e dep (← holding [x] (pyIter x)) acc env) env
theorem turn_one (elt t iter : Expr) (ifs : List Expr) (scope : Scope) (pos : Pos) (it acc : Value) (env : Env) :
    compTurn (.ListComp elt [⟨t, iter, ifs, 0⟩] scope pos) 0 it acc env = turnTree t iter ifs (emitT elt acc env) (.compLoop (.ListComp elt [⟨t, iter, ifs, 0⟩] scope pos) 0 it acc env) it env := rfl
theorem turn_two0 (elt t iter t1 iter1 : Expr) (ifs ifs1 : List Expr) (scope : Scope) (pos : Pos) (it acc : Value) (env : Env) :
    compTurn (.ListComp elt [⟨t, iter, ifs, 0⟩, ⟨t1, iter1, ifs1, 0⟩] scope pos) 0 it acc env = turnTree t iter ifs (nestT (.ListComp elt [⟨t, iter, ifs, 0⟩, ⟨t1, iter1, ifs1, 0⟩] scope pos) iter1 1 acc env) (.compLoop (.ListComp elt [⟨t, iter, ifs, 0⟩, ⟨t1, iter1, ifs1, 0⟩] scope pos) 0 it acc env) it env := by
  unfold turnTree nestT
  simp only [bind_assoc]
  rfl
theorem turn_two1 (elt t iter t1 iter1 : Expr) (ifs ifs1 : List Expr) (scope : Scope) (pos : Pos) (it acc : Value) (env : Env) :
    compTurn (.ListComp elt [⟨t, iter, ifs, 0⟩, ⟨t1, iter1, ifs1, 0⟩] scope pos) 1 it acc env = turnTree t1 iter1 ifs1 (emitT elt acc env) (.compLoop (.ListComp elt [⟨t, iter, ifs, 0⟩, ⟨t1, iter1, ifs1, 0⟩] scope pos) 1 it acc env) it env := rfl

section
variable {d : D0} {ih : Ih} {n : Nat} {A : Around} {O F : PH} {led : Led} {wr ρ : List Addr} {env : Env} {σ : AS} {s : Shared} {E : Value → Shared → Prop}

theorem IRel.other (R : IRel d env wr ρ σ F led) {a : Addr} {o : Obj} (h1 : a ∉ ρ) (h2 : a ≠ env.locals) (h3 : ∀ c ∈ env.cells, c.2 ≠ a) : IRel d env wr ρ σ F (setAt a o led) := by
  obtain ⟨oL, m, hL, hn, hv⟩ := R.fr
  exact ⟨R.sc, ⟨oL, m, mem_setAt_ne hL (Ne.symm h2), hn, fun x av e => (hv x av e).imp fun v g => ⟨g.1.keep fun c hc o ho => mem_setAt_ne ho (h3 c hc), g.2⟩⟩, fun c hc => ⟨(R.cel c hc).1.imp fun o q => q.imp fun v q => ⟨mem_setAt_ne q.1 (h3 c hc), q.2⟩, (R.cel c hc).2⟩, R.off, R.inj, R.wrL, R.wrC, R.celX, R.wrI,
    ⟨fun i ao e => (R.own.own i ao e).imp fun b g => ⟨g.1, g.2.ofLed fun o h => mem_setAt_ne h fun (e : b = a) => h1 (e ▸ List.mem_iff_getElem?.mpr ⟨i, g.1⟩)⟩, R.own.len, R.own.nd, setAt_uq R.own.fz⟩⟩
theorem Stp.other {ρ : List Addr} {F : PH} {led : Led} {a : Addr} {o : Obj} : Stp [a] ρ F led ρ F (setAt a o led) :=
  ⟨Ext.refl _, Le.refl _, fun p hp _ m => mem_setAt_ne hp fun e => m (e ▸ .head _), fun p hp _ => setAt_here hp, fun a h n => absurd h n⟩

/-- the list that grows -/
noncomputable def HasD (d : D0) (D : Addr) (acc : List FV) (F : PH) (led : Led) : Prop := ∃ vs c, (D, ({ cls := .type "list", data := .seq vs c } : Obj)) ∈ led ∧ VFs d.prog d.w F vs.toList acc
theorem HasD.step {D : Addr} {acc : List FV} {F' : PH} {led' : Led} {ρ' : List Addr} (h : HasD d D acc F led) (st : Stp wr ρ F led ρ' F' led') (h1 : D ∉ ρ) (h2 : D ∉ wr) : HasD d D acc F' led' ∧ D ∉ ρ' := by
  obtain ⟨vs, c, hm, r⟩ := h
  refine ⟨⟨vs, c, st.keep _ hm h1 h2, r.mono st.le⟩, fun hD => ?_⟩
  exact st.fresh D hD h1 _ hm rfl
structure AtD (cenv : Env) (D : Addr) : Prop where
  L : D ≠ cenv.locals
  C : ∀ c ∈ cenv.cells, c.2 ≠ D
/-- what one turn's inner part does -/
noncomputable def InnerS (d : D0) (A : Around) (n : Nat) (cenv : Env) (D : Addr) (inner : List FV → AS → Option (List FV × AS)) (tr : Sem Unit) : Prop :=
  ∀ acc σ out F led ρ O, inner acc σ = some out → Base d F → IRel d cenv [cenv.locals] ρ σ F led → HasD d D acc F led → D ∉ ρ →
    Ev d.prog d.w A O tr F led fun _ F' led' => ∃ ρ', Stp [cenv.locals, D] ρ F led ρ' F' led' ∧ IRel d cenv [cenv.locals] ρ' out.2 F' led' ∧ HasD d D out.1 F' led' ∧ D ∉ ρ'

theorem AtD.nL {cenv : Env} {D : Addr} (h : AtD cenv D) : D ∉ [cenv.locals] := fun q => h.L (List.mem_singleton.mp q)
theorem one_sub {a b : Addr} : ∀ x ∈ [a], x ∈ [a, b] := one_mem (.head _)
theorem two_sub {a b : Addr} : ∀ x ∈ [b], x ∈ [a, b] := one_mem (.tail _ (.head _))
theorem Stp.one {ρ ρ' : List Addr} {F F' : PH} {led led' : Led} {a b : Addr} (s : Stp [a] ρ F led ρ' F' led') : Stp [a, b] ρ F led ρ' F' led' := s.wk one_sub
theorem emit_sound (ok : Ok d) (H : SndE d ih.ev n) {cenv : Env} {D : Addr} {elt : Expr} (cx : Cx d A n cenv) (at_ : AtD cenv D) : InnerS d A n cenv D (compI ih elt []) (emitT elt (.ref D) cenv) := by
  intro acc σ out F led ρ O he B R hD hDρ
  refine bndE he fun p e1 he => bndE he fun q e2 he => iteE he fun hz he => someE he ?_
  refine Ev.bind (H _ _ _ e1 A O F led _ _ cenv cx B R) fun v F1 led1 pg => pg.elim fun ρ1 q1 => ?_
  obtain ⟨st1, hv, R1⟩ := q1
  have hD1 := hD.step st1 hDρ at_.nL
  intro s Q E S k
  refine (frzI_sound ok hv e2 (B.le st1.le) R1.own S).go fun F2 led2 S2 st2 R2 hq => ?_
  obtain ⟨⟨vs, c, hm, r⟩, hDρ2⟩ := hD1.1.step st2 hD1.2 (fun h => nomatch h)
  have R3 := (R1.step st2 R2).other (a := D) (o := { cls := .type "list", data := .seq (vs.push v) (c + 1) }) hDρ2 at_.L at_.C
  refine wpAny_bind (append_at (S2.ld _ hm).1 (fun h' hs' e' => ?_) (szOf r.size (Nat.le_trans hz (by decide))))
  refine wpAny_pure (k () F2 _ h' s.toks ⟨ρ1, st1.one.trans (st2.nil.trans (Stp.other.wk two_sub)), R3, ⟨_, _, mem_setAt_self hm, ?_⟩, hDρ2⟩ (S2.setAt hm hs' e'))
  rw [Array.toList_push]; exact r.append (.cons hq .nil)

theorem tests_sound (ok : Ok d) (kno : KnoIn d) (H : SndE d ih.ev n) {ifs : List Expr} {σ : AS} {out : Bool × AS} (he : tests ih ifs σ = some out) (cx : Cx d A n env) (B : Base d F) (R : IRel d env wr ρ σ F led) :
    Ev d.prog d.w A O (forIn ifs true fun c r => if r = true then do let ok ← isTrue c env (eval c env); pure (ForInStep.yield ok) else pure (ForInStep.yield r)) F led (Pg d env wr ρ F led Bl out) := by
  intro s Q E S k
  induction ifs using List.casesOn with
  | nil => exact wpAny_tests_nil (k _ _ _ s.heap s.toks (Option.some.inj he ▸ Pg.here rfl R) S)
  | cons c r => induction r using List.casesOn with
    | nil => exact wpAny_tests_one (test_sound ok kno H he cx B R s Q E S k)
    | cons => exact noS he

/-- where a turn of a clause begins -/
inductive CompI (d : D0) (ih : Ih) (A : Around) (O : PH) (ρ : List Addr) (cenv : Env) (D : Addr) (F : PH) (led : Led) (inner : List FV → AS → Option (List FV × AS)) (t : Expr) (ifs : List Expr) (m k : Nat) (tt : Bool) (it : Value) (out : List FV × AS) (s : Shared) : Nat → Shared → Prop
  | mk {rem acc : List FV} {σ : AS} {F1 : PH} {led1 : Led} {h : Heap} {tk : Nat} : loopC ih inner t ifs m k rem acc σ = some out → IRel d cenv [cenv.locals] ρ σ F1 led1 → HasD d D acc F1 led1 → LSt F1 O led1 h → It d A tt it rem F1 O led1 h → Stp [cenv.locals, D] ρ F led ρ F1 led1 →
      CompI d ih A O ρ cenv D F led inner t ifs m k tt it out s rem.length { s with heap := h, toks := tk }
/-- all turns of one clause -/
theorem comp_loop (ok : Ok d) (kno : KnoIn d) (H : SndE d ih.ev n) {cenv : Env} {D : Addr} {t iter : Expr} {ifs : List Expr} {inner : List FV → AS → Option (List FV × AS)} {tr : Sem Unit} {e : Expr} {dep : Nat} {it : Value} {tt : Bool} {m k : Nat}
    (cx : Cx d A n cenv) (at_ : AtD cenv D) (hi : InnerS d A n cenv D inner tr) (hq : (Code.compLoop e dep it (.ref D) cenv).quiet = true)
    (hden : ∀ (R : Fin → Shared → Prop) (E : Value → Shared → Prop) (s : Shared), wpAny (model d.prog d.w) A ((turnTree t iter ifs tr (.compLoop e dep it (.ref D) cenv) it cenv).onRaise (fun x => do noteFrame x cenv; theTreesLotGoes x)) R E s → wpAny (model d.prog d.w) (A.under (.compLoop e dep it (.ref D) cenv)) ((model d.prog d.w).den (.compLoop e dep it (.ref D) cenv)) R E s)
    (htt : tt = true → isTupT t = true) (hk : k = ρ.length) (hDρ : D ∉ ρ) :
    ∀ (rem acc : List FV) (σ : AS) (out : List FV × AS) (s : Shared) (R : Result → Shared → Prop), loopC ih inner t ifs m k rem acc σ = some out → Base d F → IRel d cenv [cenv.locals] ρ σ F led → HasD d D acc F led → LSt F O led s.heap → It d A tt it rem F O led s.heap →
      (∀ F' led' h' tk', Stp [cenv.locals, D] ρ F led ρ F' led' → IRel d cenv [cenv.locals] ρ out.2 F' led' → HasD d D out.1 F' led' → LSt F' O led' h' → R (.ok .next) { s with heap := h', toks := tk' }) → codeAny (model d.prog d.w) A (.compLoop e dep it (.ref D) cenv) R s := by
  intro rem acc σ out s R he B R0 hD S I0 kk
  refine codeAny_loop hq (CompI d ih A O ρ cenv D F led inner t ifs m k tt it out s) (fun j s' hI => hden _ _ _ (wpAny_noted (wpAny_bind (wpAny_standAt ?_)))) rem.length (.mk (tk := s.toks) he R0 hD S I0 Stp.refl)
  induction hI using CompI.casesOn with
  | @mk rem acc σ F1 led1 h tk he R1 hD1 S1 I1 st1 =>
  induction rem using List.casesOn with
  | nil => exact wpAny_bind (I1 { s with heap := h, toks := tk } _ _ rfl S1 fun h' tk' S' => wpAny_pure (kk F1 led1 h' tk' st1 (Option.some.inj he ▸ R1) (Option.some.inj he ▸ hD1) S'))
  | cons x r =>
    refine bndE he fun σ1 e1 he => bndE he fun p e2 he => ?_
    refine wpAny_bind (wpAny_mono (I1 t htt { s with heap := h, toks := tk } (notedBy (model d.prog d.w) A cenv fun e s' => R (.error e) s') (notedBy (model d.prog d.w) A cenv fun e s' => R (.error e) s')
      (fun v _ s2 => wpAny (model d.prog d.w) A (do
          assign t cenv v
          let mut ok := true
          for c in ifs do
            if ok then ok ← isTrue c cenv (eval c cenv)
          if ok then tr
          again (.compLoop e dep it (.ref D) cenv)) (fun fin s' => match fin with | .done f => R (.ok f) s' | .again c' => c' = Code.compLoop e dep it (.ref D) cenv ∧ ∃ m', m' < r.length + 1 ∧ CompI d ih A O ρ cenv D F led inner t ifs m k tt it out s m' s') (notedBy (model d.prog d.w) A cenv fun e s' => R (.error e) s') s2) rfl S1
      fun v F2 O2 h2 tk2 le2 S2 hv back => ?_) (fun rv s1 hq => hq.elim fun v hq => hq.1 ▸ wpAny_bind hq.2) fun _ _ q => q)
    have B2 : Base d F2 := (B.le st1.le).le le2
    have stL : Stp [] ρ F1 led1 ρ F2 led1 := Stp.wide le2
    refine wpAny_bind (bindT_sound cx t e1 (.fz hv) (R1.step stL (R1.own.mono ok.kn le2)) { s with heap := h2, toks := tk2 } _ _ S2 fun _ F3 led3 h3 tk3 p3 S3 => p3.elim fun ρ3 q3 => ?_)
    have hD3 := (hD1.step stL hDρ (fun h => nomatch h)).1.step q3.1 hDρ at_.nL
    refine wpAny_bind (tests_sound ok kno H e2 cx (B2.le q3.1.le) q3.2.2 { s with heap := h3, toks := tk3 } _ _ S3 fun b F4 led4 h4 tk4 p4 S4 => p4.elim fun ρ4 q4 => ?_)
    obtain ⟨st4, hb, R4⟩ := q4
    have hD4 := hD3.1.step st4 hD3.2 at_.nL
    have leA := q3.1.le.trans st4.le
    have stA : Stp [cenv.locals, D] ρ F led ρ4 F4 led4 := st1.trans (stL.nil.trans (q3.1.trans st4).one)
    rw [show b = p.1 from hb]
    have B4 := (B2.le q3.1.le).le st4.le
    clear hb e2 e1 S3 S2 S1 I1 hD1 hD3 q3
    refine ifE he (fun hp he => ?_) fun hp he => ?_
    · rw [if_pos hp]
      refine bndE he fun q e3 he => bndE he fun σ2 e4 he => wpAny_bind (hi acc p.2 q F4 led4 ρ4 O2 e3 B4 R4 hD4.1 hD4.2 { s with heap := h4, toks := tk4 } _ _ S4 fun _ F5 led5 h5 tk5 p5 S5 => p5.elim fun ρ5 q5 => ?_)
      have stB := stA.trans q5.1
      have bk := back F5 led5 h5 (leA.trans q5.1.le) S5
      exact wpAny_pure ⟨rfl, r.length, Nat.lt_succ_self _, .mk he (q5.2.1.cut' e4 stB.ext hk) q5.2.2.1 bk.1 bk.2 stB.cut⟩
    · rw [if_neg hp]
      refine bndE he fun σ2 e4 he => ?_
      have bk := back F4 led4 h4 leA S4
      exact wpAny_pure ⟨rfl, r.length, Nat.lt_succ_self _, .mk he (R4.cut' e4 stA.ext hk) hD4.1 bk.1 bk.2 stA.cut⟩
end
end Xm

open PySem PySem.W PySem.Calls PyProof.Rows PySem.Spec
namespace Xm
open PyProof.Rows.LCg (NsObj ns_obj)
section
variable {d : D0} {ih : Ih} {n : Nat} {A : Around} {O F : PH} {led : Led} {wr ρ : List Addr} {env : Env} {σ : AS} {s : Shared} {E : Value → Shared → Prop}

/-- where a loop's list or tuple starts -/
theorem iterV_sound (ok : Ok d) (hh : A.handled = none) (B : Base d F) (R : IRel d env wr ρ σ F led) {v : Value} {x : AV} {out : List FV × AS} (hv : VR d.prog d.w ρ F v x) (e : iterV σ x = some out) (S : LSt F O led s.heap) {Q : Value → Shared → Prop}
    (k : ∀ it F' led' O₁ h', Stp [] ρ F led ρ F' led' → IRel d env wr ρ out.2 F' led' → Lent d A false it out.1 F' O O₁ led' h' → Q it { s with heap := h' }) : wpAny (model d.prog d.w) A (pyIter v) Q E s := by
  refine bndE e fun p e1 e => bndE e fun xs e2 e => iteE e fun _ e => (frz_sound ok hv (Le.refl _) (show frz σ.ow x = some (p.1, p.2) from e1) B R.own S).go fun F' led' S' st R' hq => ?_
  have ho : (xs, { σ with ow := p.2 }) = out := Option.some.inj e
  subst ho
  obtain ⟨t, ow'⟩ := p
  induction t using FV.casesOn with
  | lst ys => exact iter_list hh hq S' fun it O₁ h' L => k it F' led' O₁ h' st (R.step st R') (Option.some.inj e2 ▸ L)
  | tup ys => exact iter_tup hh hq S' fun it O₁ h' L => k it F' led' O₁ h' st (R.step st R') (Option.some.inj e2 ▸ L)
  | _ => exact noS e2
theorem folded_pure {e : Expr} {x : Value} (h : ¬ isSetE e = true) : foldedSetIterable e env x = pure x := by
  induction e using PySem.Expr.casesOn <;> first | rfl | exact absurd rfl h

theorem start_two {elt t iter t1 iter1 : Expr} {ifs ifs1 : List Expr} {scope : Scope} {pos : Pos} {it acc : Value} {R : Result → Shared → Prop}
    (h0 : codeAny (model d.prog d.w) A (.compLoop (.ListComp elt [⟨t, iter, ifs, 0⟩, ⟨t1, iter1, ifs1, 0⟩] scope pos) 1 it acc env) R s)
    (h : wpAny (model d.prog d.w) A (pyIter it) (fun it' s' => codeAny (model d.prog d.w) A (.compLoop (.ListComp elt [⟨t, iter, ifs, 0⟩, ⟨t1, iter1, ifs1, 0⟩] scope pos) 1 it' acc env) R s')
      (notedBy (model d.prog d.w) A env fun x s' => R (.error x) s') s) :
    codeAny (model d.prog d.w) A (.compStart (.ListComp elt [⟨t, iter, ifs, 0⟩, ⟨t1, iter1, ifs1, 0⟩] scope pos) 1 it acc env) R s := by
  refine codeAny_of_tree ?_
  show wpAny _ _ ((compStart (.ListComp elt [⟨t, iter, ifs, 0⟩, ⟨t1, iter1, ifs1, 0⟩] scope pos) 1 it acc env).onRaise (fun x => do noteFrame x env; standAt theWindowsPlace)) _ _ s
  refine wpAny_notedAt ?_
  unfold compStart
  show wpAny _ _ (ask >>= _) _ _ s
  refine wpAny_bind (wpAny_askSetting (wpAny_ite ?_))
  split
  · first
      | exact wpAny_bind (wpAny_pure (wpAny_pure (And.intro rfl h0)))
      | exact wpAny_pure (And.intro rfl h0)
  · first
      | exact wpAny_bind (wpAny_rule (wpAny_bind (wpAny_standAt (wpAny_bind (wpAny_mono h (fun it' s' h' => wpAny_pure (And.intro rfl h')) fun _ _ x => x)))))
      | (refine wpAny_bind (wpAny_rule ?_); show wpAny _ _ (standAt iter1.pos >>= _) _ _ s; exact wpAny_bind (wpAny_standAt (wpAny_bind (wpAny_mono h (fun it' s' h' => wpAny_pure (And.intro rfl h')) fun _ _ x => x))))

theorem nest_sound (ok : Ok d) (kno : KnoIn d) (H : SndE d ih.ev n) {cenv : Env} {D : Addr} {elt t iter t1 iter1 : Expr} {ifs ifs1 : List Expr} {scope : Scope} {pos : Pos} (cx : Cx d A n cenv) (at_ : AtD cenv D) :
    InnerS d A n cenv D (compI ih elt [⟨t1, iter1, ifs1, 0⟩]) (nestT (.ListComp elt [⟨t, iter, ifs, 0⟩, ⟨t1, iter1, ifs1, 0⟩] scope pos) iter1 1 (.ref D) cenv) := by
  intro acc σ out F led ρ O he B R hD hDρ s Q E S k
  refine ifE he (fun _ he => noS he) fun hns he => bndE he fun p e1 he => bndE he fun x e2 he => wpAny_bind (goE H e1 cx B R S fun v F1 led1 h1 tk1 ρ1 st1 hv R1 S1 B1 => wpAny_bind (wpAny_standAt (wpAny_bind (wpAny_of_eq (folded_pure hns)
    (wpAny_bind (wpAny_holding (iterV_sound ok cx.hd B1 R1 hv e2 (s := { s with heap := h1, toks := tk1 }) S1 fun it F2 led2 O₁ h2 st2 R2 L => ?_)))))))
  have hD1 := hD.step st1 hDρ at_.nL
  have hD2 := hD1.1.step st2 hD1.2 (fun h => nomatch h)
  have L2 := L.2 F2 led2 h2 (Le.refl _) L.1
  have loop : codeAny (model d.prog d.w) A (.compLoop (.ListComp elt [⟨t, iter, ifs, 0⟩, ⟨t1, iter1, ifs1, 0⟩] scope pos) 1 it (.ref D) cenv) (fun r s' => match r with | .ok f => wpAny (model d.prog d.w) A (pure ()) (fun a s' => Q a s') E s' | .error e => cameBackBy (model d.prog d.w) A cenv E e s') { s with heap := h2, toks := tk1 } := by
    refine comp_loop ok kno H (iter := iter1) (tr := emitT elt (.ref D) cenv) cx at_ (emit_sound ok H cx at_) rfl (fun R' E' s' hh => ?_) (tt := false) (fun h => Bool.noConfusion h) R2.lt.symm hD2.2 x.1 acc x.2 out _ _ he (B1.le st2.le) R2 hD2.1 L2.1 L2.2.1 fun F3 led3 h3 tk3 st3 R3 hD3 S3 =>
      wpAny_pure (k () F3 led3 h3 tk3 ⟨ρ1, st1.one.trans (st2.nil.trans st3), R3, hD3, hD2.2⟩ S3)
    exact hh
  exact wpAny_bind (wpAny_runOwn (start_two loop (L2.2.2 { s with heap := h2, toks := tk1 } _ _ rfl loop)))
end
end Xm

open PySem PySem.W PySem.Calls PyProof.Rows PySem.Spec
namespace Xm
open PyProof.Rows.LCg (NsObj ns_obj)
/-- zip over two tuples: assumed here, shown where it is walked -/
structure ZipIn (d : D0) : Prop where
  it : ∀ (A : Around) (O F : PH) (led : Led) (s : Shared) (E : Value → Shared → Prop) (Q : Value → Shared → Prop) (v u : Value) (xs ys : List FV), A.handled = none → VF d.prog d.w F v (.tup xs) → VF d.prog d.w F u (.tup ys) → xs.length ≤ 1000 → xs.length = ys.length → LSt F O led s.heap →
    (∀ it F' O₁ h', Le F F' → Lent d A true it (zipF xs ys) F' O O₁ led h' → Q it { s with heap := h' }) →
    wpAny (model d.prog d.w) A (call (.type "zip") [v, u]) (fun x s₁ => wpAny (model d.prog d.w) A (pyIter x) Q E s₁) E s
  lst : ∀ (A : Around) (O F : PH) (led : Led) (ρ : List Addr) (ow : List AO) (s : Shared) (E : Value → Shared → Prop) (Q : Value → Shared → Prop) (v u : Value) (xs ys : List FV), A.handled = none → Base d F → OwnR d ρ ow F led → VF d.prog d.w F v (.tup xs) → VF d.prog d.w F u (.tup ys) → xs.length ≤ 1000 → xs.length = ys.length → LSt F O led s.heap →
    (∀ x F' led' h' tk', CallP d ρ F led (.loc ow.length, ow ++ [.lst (zipF xs ys)]) x F' led' → LSt F' O led' h' → Q x { s with heap := h', toks := tk' }) →
    wpAny (model d.prog d.w) A (call (.type "zip") [v, u]) (fun z s₁ => wpAny (model d.prog d.w) A (call (.type "list") [z]) Q E s₁) E s

section
variable {d : D0} {ih : Ih} {n : Nat} {A : Around} {O F : PH} {led : Led} {wr ρ : List Addr} {env : Env} {σ : AS} {s : Shared} {E : Value → Shared → Prop}
theorem glob_is (R : IRel d env wr ρ σ F led) {x : Str} {g : GV} (e : globA d.tb σ x = some g) : (x == ("__debug__" : Str)) = false ∧ env.kindOf x = some .globalImplicit ∧ d.tb.G x = some g := by
  refine ifE e (fun _ e => noS e) fun hd e => ⟨Bool.eq_false_iff.mpr hd, ?_⟩
  generalize hk : σ.sc.lookup x = z at e
  induction z using Option.casesOn with
  | none => exact noS e
  | some kd => induction kd using PySem.NameKind.casesOn with
    | globalImplicit => exact ⟨R.kindG hk (fun q => nomatch q), e⟩
    | _ => exact noS e
theorem globA_ty (ok : Ok d) {x : Str} {t : String} {pos : Pos} (e : globA d.tb σ x = some (.ty t)) (cx : Cx d A n env) (B : Base d F) (R : IRel d env wr ρ σ F led) (S : LSt F O led s.heap) {Q : Value → Shared → Prop} (k : Q (.type t) s) : wpAny (model d.prog d.w) A (eval (.Name x pos) env) Q E s :=
  have g := glob_is R e
  name_glob ok cx g.1 g.2.1 (ok.G _ _ g.2.2) B S k
/-- a type called with plain arguments -/
theorem call_ty (ok : Ok d) (H : SndE d ih.ev n) {z : Str} {t : String} {zp pos : Pos} {es : List Expr} {out : List AV × AS} (e : globA d.tb σ z = some (.ty t)) (he : evs ih es σ = some out) (hp : es.all plainE = true) (cx : Cx d A n env) (B : Base d F) (R : IRel d env wr ρ σ F led) (S : LSt F O led s.heap) {Q : Value → Shared → Prop}
    (k : ∀ a F' led' h' tk' ρ', Stp wr ρ F led ρ' F' led' → VRs d.prog d.w ρ' F' a out.1 → IRel d env wr ρ' out.2 F' led' → LSt F' O led' h' → Base d F' → wpAny (model d.prog d.w) A (call (.type t) a) Q E { s with heap := h', toks := tk' }) : wpAny (model d.prog d.w) A (eval (.Call (.Name z zp) es [] pos) env) Q E s :=
  Call_Name rfl (globA_ty ok e cx B R S (PyProof.Rows.callWith_type (noStar hp env pos) (goArgs H he hp cx B R S k)))

theorem evs_one {a : Expr} {σ : AS} {p : AV × AS} (ha : plainE a = true) (e1 : ih.ev a σ = some p) : evs ih [a] σ = some ([p.1], p.2) := by
  rw [show evs ih [a] σ = if plainE a then bnd (ih.ev a σ) fun p => some ([p.1], p.2) else none from rfl, if_pos ha, e1]; rfl
theorem evs_two {a b : Expr} {σ : AS} {p q : AV × AS} (ha : plainE a = true) (hb : plainE b = true) (e1 : ih.ev a σ = some p) (e2 : ih.ev b p.2 = some q) : evs ih [a, b] σ = some ([p.1, q.1], q.2) := by
  rw [show evs ih [a, b] σ = if plainE a then bnd (ih.ev a σ) fun p => bnd (evs ih [b] p.2) fun q => some (p.1 :: q.1, q.2) else none from rfl, if_pos ha, e1]
  exact (congrArg (fun z => bnd z fun r => some (p.1 :: r.1, r.2)) (evs_one hb e2) : _)

/-- what an iterator's start gives -/
noncomputable def ItK (d : D0) (A : Around) (O : PH) (env : Env) (wr ρ : List Addr) (F : PH) (led : Led) (s : Shared) (t : Expr) (Q : Value → Shared → Prop) (out : List FV × AS) : Prop :=
  ∀ it tt ρ' F' led' O₁ h' tk', Stp wr ρ F led ρ' F' led' → IRel d env wr ρ' out.2 F' led' → Lent d A tt it out.1 F' O O₁ led' h' → (tt = true → isTupT t = true) → Q it { s with heap := h', toks := tk' }
theorem tyOf_is {e : Expr} : Okay (tyOf d.tb σ e) fun p => ∃ z zp pos, e = .Call (.Name z zp) p.2 [] pos ∧ globA d.tb σ z = some (.ty p.1) := by
  induction e using PySem.Expr.casesOn with
  | Call f args kws pos => induction f using PySem.Expr.casesOn with
    | Name z zp => induction kws using List.casesOn with
      | nil =>
        generalize hg : globA d.tb σ z = g
        refine (?_ : Okay (match globA d.tb σ z with | some (.ty t) => some (t, args) | _ => none) _)
        rw [hg]
        induction g using Option.casesOn with
        | none => exact okN
        | some g => induction g using GV.casesOn with
          | ty t => exact okS ⟨z, zp, pos, rfl, hg⟩
          | _ => exact okN
      | cons => exact okN
    | _ => exact okN
  | _ => exact okN
theorem plain_two {a b : Expr} (h : (plainE a && plainE b) = true) : [a, b].all plainE = true := (Bool.and_assoc (plainE a) (plainE b) true).symm.trans ((Bool.and_true _).trans h)
theorem plain_one {a : Expr} (h : plainE a = true) : [a].all plainE = true := (Bool.and_true _).trans h
section
variable {z : Str} {zp pos : Pos} {args : List Expr} {t : Expr} {Q : Value → Shared → Prop}
theorem iterZ_sound (ok : Ok d) (zi : ZipIn d) (H : SndE d ih.ev n) (hg : globA d.tb σ z = some (.ty "zip")) (cx : Cx d A n env) (B : Base d F) (R : IRel d env wr ρ σ F led) (S : LSt F O led s.heap) (htup : isTupT t = true) :
    Okay (iterZ ih args σ) fun out => ItK d A O env wr ρ F led s t Q out → wpAny (model d.prog d.w) A (eval (.Call (.Name z zp) args [] pos) env) (fun x s₁ => wpAny (model d.prog d.w) A (pyIter x) Q E s₁) E s := by
  refine hideT fun T hT => okB fun ab ea => okI fun hpl => okB fun p e1 => okB fun q e2 => okB fun x e3 => okB fun y e4 => ?_
  rw [two_is ea] at hT
  have go := fun (G : Value → Shared → Prop) => call_ty (zp := zp) (pos := pos) (s := s) (E := E) (Q := G) ok H hg (evs_two (Bool.and_eq_true_iff.mp hpl).1 (Bool.and_eq_true_iff.mp hpl).2 e1 e2) (plain_two hpl) cx B R S
  have body : ∀ {zs : List FV}, (∀ {F3 led3 h1 tk1} {v u : Value}, VF d.prog d.w F3 v x.1 → VF d.prog d.w F3 u y.1 → LSt F3 O led3 h1 → (∀ it F' O₁ h', Le F3 F' → Lent d A true it zs F' O O₁ led3 h' → Q it { s with heap := h', toks := tk1 }) →
      wpAny (model d.prog d.w) A (call (.type "zip") [v, u]) (fun x s₁ => wpAny (model d.prog d.w) A (pyIter x) Q E s₁) E { s with heap := h1, toks := tk1 }) → T (zs, { q.2 with ow := y.2 }) := fun hz => hT _ fun k =>
    go _ fun vs F1 led1 h1 tk1 ρ1 st1 hv R1 S1 B1 => VRs.two hv fun v u hv1 hv2 =>
      (frz_sound ok hv1 (Le.refl _) (show frz q.2.ow p.1 = some (x.1, x.2) from e3) B1 R1.own S1).go fun F2 led2 S2 st2 R2 hq => (frz_sound ok hv2 st2.le (show frz x.2 q.1 = some (y.1, y.2) from e4) (B1.le st2.le) R2 S2).go fun F3 led3 S3 st3 R3 hq2 =>
        hz (hq.mono st3.le) hq2 S3 fun it F4 O₁ h4 le4 L => k it true ρ1 F4 led3 O₁ h4 tk1 (st1.trans (st2.nil.trans (st3.nil.trans (Stp.wide le4)))) (((R1.step st2 R2).step st3 R3).step (Stp.wide le4) (R3.mono ok.kn le4)) L fun _ => htup
  unfold iterZ2
  generalize hx : tupF x.1 = us
  induction us using Option.casesOn with
  | some us =>
    rw [tupF_is hx] at body
    refine okB fun ws hy => ?_
    rw [tupF_is hy] at body
    exact okI fun hz => okS (body fun {F3 led3 h1 tk1 v u} hv hu S3 k => zi.it A O F3 led3 _ E Q _ _ us ws cx.hd hv hu hz.1 hz.2 S3 k)
  | none =>
    refine okB fun us hx => okB fun ws hy => ?_
    rw [lstF_is hx, lstF_is hy] at body
    exact okI fun hz => okS (body fun {F3 led3 h1 tk1 v u} hv hu S3 k => zip_lists (s := { s with heap := h1, toks := tk1 }) cx.hd hv hu S3 k)
theorem iterN_sound (ok : Ok d) (H : SndE d ih.ev n) (hg : globA d.tb σ z = some (.ty "enumerate")) (cx : Cx d A n env) (B : Base d F) (R : IRel d env wr ρ σ F led) (S : LSt F O led s.heap) (htup : isTupT t = true) :
    Okay (iterN ih args σ) fun out => ItK d A O env wr ρ F led s t Q out → wpAny (model d.prog d.w) A (eval (.Call (.Name z zp) args [] pos) env) (fun x s₁ => wpAny (model d.prog d.w) A (pyIter x) Q E s₁) E s := by
  refine okB fun a ea => okI fun hpl => okB fun p e1 => okB fun x e3 => okB fun us hx => okI fun hz => okS fun k => ?_
  rw [one_is ea]
  exact call_ty ok H hg (evs_one hpl e1) (plain_one hpl) cx B R S fun vs F1 led1 h1 tk1 ρ1 st1 hv R1 S1 B1 => VRs.one hv fun v hv1 =>
    (frz_sound ok hv1 (Le.refl _) (show frz p.2.ow p.1 = some (x.1, x.2) from e3) B1 R1.own S1).go fun F2 led2 S2 st2 R2 hq =>
      enum_sound (s := { s with heap := h1, toks := tk1 }) cx.hd (lstF_is hx ▸ hq) S2 fun it O₁ h4 L => k it true ρ1 F2 led2 O₁ h4 tk1 (st1.trans st2.nil) (R1.step st2 R2) L fun _ => htup
theorem iterR_sound (ok : Ok d) (H : SndE d ih.ev n) (hg : globA d.tb σ z = some (.ty "range")) (cx : Cx d A n env) (B : Base d F) (R : IRel d env wr ρ σ F led) (S : LSt F O led s.heap) :
    Okay (iterR ih args σ) fun out => ItK d A O env wr ρ F led s t Q out → wpAny (model d.prog d.w) A (eval (.Call (.Name z zp) args [] pos) env) (fun x s₁ => wpAny (model d.prog d.w) A (pyIter x) Q E s₁) E s := by
  refine okB fun a ea => okI fun hpl => okB fun p e1 => okB fun m em => okI fun hz => okS fun k => ?_
  rw [one_is ea]
  exact call_ty ok H hg (evs_one hpl e1) (plain_one hpl) cx B R S fun vs F1 led1 h1 tk1 ρ1 st1 hv R1 S1 B1 => VRs.one hv fun v hv1 => bndE em fun t e2 e3 => (hv1.ofF e2).asI e3 fun tk =>
    range_sound (s := { s with heap := h1, toks := tk1 }) cx.hd hz.1 hz.2 S1 fun it O₁ h4 tk4 L => k it false ρ1 F1 led1 O₁ h4 tk4 st1 R1 L fun h => Bool.noConfusion h
end
theorem iterE_sound (ok : Ok d) (zi : ZipIn d) (H : SndE d ih.ev n) {t e : Expr} {out : List FV × AS} (he : iterE d.tb ih t e σ = some out) (cx : Cx d A n env) (B : Base d F) (R : IRel d env wr ρ σ F led) (S : LSt F O led s.heap) {Q : Value → Shared → Prop}
    (k : ItK d A O env wr ρ F led s t Q out) :
    (¬ isSetE e = true) ∧ wpAny (model d.prog d.w) A (eval e env) (fun x s₁ => wpAny (model d.prog d.w) A (pyIter x) Q E s₁) E s := by
  unfold iterE at he
  generalize hty : tyOf d.tb σ e = z at he
  induction z using Option.casesOn with
  | none =>
    exact ifE he (fun _ e => noS e) fun hns he => bndE he fun p e1 e2 => ⟨hns, goE H e1 cx B R S fun v F1 led1 h1 tk1 ρ1 st1 hv R1 S1 B1 => iterV_sound ok cx.hd B1 R1 hv e2 (s := { s with heap := h1, toks := tk1 }) S1 fun it F2 led2 O₁ h2 st2 R2 L => k it false ρ1 F2 led2 O₁ h2 tk1 (st1.trans st2.nil) R2 L fun h => Bool.noConfusion h⟩
  | some p =>
    obtain ⟨z, zp, pos, rfl, hg⟩ := tyOf_is _ hty
    refine ⟨fun h => Bool.noConfusion h, ?_⟩
    refine ifE he (fun hz he => iteE he fun ht he => ?_) fun _ he => ifE he (fun hz he => iteE he fun ht he => ?_) fun _ he => iteE he fun hz he => ?_
    · exact iterZ_sound ok zi H (eq_of_beq hz ▸ hg) cx B R S ht _ he k
    · exact iterN_sound ok H (eq_of_beq hz ▸ hg) cx B R S ht _ he k
    · exact iterR_sound ok H (eq_of_beq hz ▸ hg) cx B R S _ he k
end
end Xm

open PySem PySem.W PySem.Calls PyProof.Rows PySem.Spec
namespace Xm
open PyProof.Rows.LCg (NsObj ns_obj)
section
variable {d : D0} {ih : Ih} {n : Nat} {A : Around} {O F : PH} {led : Led} {wr ρ : List Addr} {env : Env} {σ : AS} {s : Shared} {E : Value → Shared → Prop}

theorem closL_in {cells : List (Str × Addr)} {names : List (Str × NameKind)} : ∀ p ∈ closL cells names [], cells.lookup p.1 = some p.2 := closL_mem fun p hp => nomatch hp
theorem heldIn_is {k : Option NameKind} (h : heldIn k = true) : k = some .cell ∨ k = some .free := by
  induction k using Option.casesOn with
  | none => exact Bool.noConfusion h
  | some k => induction k using PySem.NameKind.casesOn with
    | cell => exact .inl rfl
    | free => exact .inr rfl
    | _ => exact Bool.noConfusion h
theorem captured_spec {names : List (Str × NameKind)} {σ : AS} : Okay (captured names σ) fun vs =>
    (∀ x av, vs.lookup x = some av → σ.vars.lookup x = some av ∧ (x, NameKind.free) ∈ names) ∧ (∀ x, (x, NameKind.free) ∈ names → (σ.sc.lookup x = some .cell ∨ σ.sc.lookup x = some .free) ∧ ∃ v, σ.vars.lookup x = some v) := by
  induction names with
  | nil => exact okS ⟨fun x av e => noS e, fun x h => nomatch h⟩
  | cons p r ih =>
    refine okIE (fun hk => okI fun hs => okB fun v hv => okM fun ws e => ?_) fun hk vs e => ?_
    · have hp : (p.1, NameKind.free) = p := Prod.ext rfl (eq_of_beq hk).symm
      exact ⟨fun x av e' => lookup_eqE e' (fun q q2 => by rw [q]; exact ⟨q2 ▸ hv, hp ▸ .head _⟩) fun _ e' => ⟨((ih ws e).1 x av e').1, .tail _ ((ih ws e).1 x av e').2⟩,
        fun x h => (List.mem_cons.mp h).elim (fun q => by rw [show x = p.1 from congrArg Prod.fst q]; exact ⟨heldIn_is hs, v, hv⟩) ((ih ws e).2 x)⟩
    · exact ⟨fun x av e' => ⟨((ih vs e).1 x av e').1, .tail _ ((ih vs e).1 x av e').2⟩, fun x h => (List.mem_cons.mp h).elim (fun q => absurd (q ▸ rfl : (p.2 == NameKind.free) = true) hk) ((ih vs e).2 x)⟩
theorem lookup_map_kind {f : Str × NameKind → Str × NameKind} (hf : ∀ p, f p = p ∨ (p.2 = .free ∧ f p = (p.1, .cell))) (x : Str) (names : List (Str × NameKind)) : (names.map f).lookup x = names.lookup x ∨ (names.lookup x = some .free ∧ (names.map f).lookup x = some .cell) := by
  induction names with
  | nil => exact .inl rfl
  | cons p r ih =>
    rw [List.map_cons, List.lookup_cons]
    refine (hf p).elim (fun e => ?_) fun q => ?_
    · rw [e, List.lookup_cons]
      induction x == p.1 using Bool.casesOn with
      | true => exact .inl rfl
      | false => exact ih
    · rw [q.2, List.lookup_cons]
      induction x == p.1 using Bool.casesOn with
      | true => exact .inr ⟨congrArg some q.1, rfl⟩
      | false => exact ih
theorem relabel_lookup {scope : Scope} (x : Str) : (relabel scope env).names.lookup x = scope.names.lookup x ∨ (scope.names.lookup x = some .free ∧ (relabel scope env).names.lookup x = some .cell) := by
  refine lookup_map_kind (fun p => ?_) x scope.names
  obtain ⟨nm, k⟩ := p
  refine (?_ : (if (k == NameKind.free && env.scope.kind == .function && env.kindOf nm == some .cell) = true then (nm, NameKind.cell) else (nm, k)) = _ ∨ _)
  by_cases hc : (k == NameKind.free && env.scope.kind == .function && env.kindOf nm == some .cell) = true
  · exact .inr ⟨eq_of_beq (Bool.and_eq_true_iff.mp (Bool.and_eq_true_iff.mp hc).1).1, if_pos hc⟩
  · exact .inl (if_neg hc)
theorem nodup_lookup {α : Type} {l : List (Str × α)} (h : (l.map (·.1)).Nodup) {p : Str × α} (hp : p ∈ l) : l.lookup p.1 = some p.2 := by
  induction l with
  | nil => exact nomatch hp
  | cons q r ih =>
    have h := List.nodup_cons.mp (List.map_cons ▸ h)
    rw [List.lookup_cons]
    refine (List.mem_cons.mp hp).elim (fun e => by rw [e, beq_self_eq_true]) fun hp => ?_
    rw [show (p.1 == q.1) = false from beq_eq_false_iff_ne.mpr fun e => h.1 (e ▸ List.mem_map_of_mem hp)]
    exact ih h.2 hp

/-- the frame of a comprehension -/
theorem comp_frame {F' : PH} {σ : AS} {led : Led} {D C : Addr} {oC oD : Obj} {scope : Scope} {vs : List (Str × AV)} (R : IRel d env wr ρ σ F led) (hc : captured scope.names σ = some vs) (hcell : ∀ p ∈ scope.names, p.2 ≠ .cell) (hnd : (scope.names.map (·.1)).Nodup)
    (hC : ∀ p ∈ led, p.1 ≠ C) (hD : ∀ p ∈ led, p.1 ≠ D) (hCF : F C = none) (hDC : D ≠ C) (hns : NsObj oC fun _ => none) :
    IRel d (compEnvC scope (closL env.cells scope.names []) C env) [C] ρ { sc := scope.names, vars := vs, ow := σ.ow } F ((C, oC) :: (D, oD) :: led) := by
  obtain ⟨c1, c2⟩ := captured_spec _ hc
  have clm : ∀ {x c}, (closL env.cells scope.names []).lookup x = some c → env.cells.lookup x = some c := fun h => closL_in _ (lookup_pair h)
  have clr : ∀ c ∈ closL env.cells scope.names [], ∃ q ∈ env.cells, q.2 = c.2 := fun c hc => lookup_mem (closL_in c hc)
  have hCρ : C ∉ ρ := R.own.notMem hC hCF
  have two : ∀ p ∈ (C, oC) :: (D, oD) :: led, (p = (C, oC) ∨ p = (D, oD)) ∨ p ∈ led := fun p hp => (List.mem_cons.mp hp).elim (fun e => .inl (.inl e)) fun hp => (List.mem_cons.mp hp).elim (fun e => .inl (.inr e)) .inr
  refine ⟨fun x => relabel_lookup (env := env) (scope := scope) x, ⟨oC, _, .head _, hns, fun x av e => ?_⟩, fun c hc' => (clr c hc').elim fun q hq => ?_, fun a ha => ⟨fun (e : a = C) => hCρ (e ▸ ha), fun c hc' e => (clr c hc').elim fun q hq => (R.off a ha).2 _ hq.1 (hq.2.trans e)⟩, fun x y c hx hy => R.inj x y c (clm hx) (clm hy), List.mem_singleton.mpr rfl,
    fun x c hx _ => absurd rfl (hcell _ (lookup_pair hx)), fun x hx => absurd rfl (hcell _ (lookup_pair hx)), fun a ha => .inl (List.mem_singleton.mp ha), ⟨fun i ao e => (R.own.own i ao e).imp fun b g => ⟨g.1, g.2.ofLed fun o h => .tail _ (.tail _ h)⟩, R.own.len, R.own.nd, fun p hp q hq e => ?_⟩⟩
  · obtain ⟨g1, g2⟩ := c1 x av e
    obtain ⟨oL, m, hL, hn, hv⟩ := R.fr
    obtain ⟨v, h1, h2⟩ := hv x av g1
    have hk : env.kindOf x = some .cell ∨ env.kindOf x = some .free := (R.sc x).elim (fun q => by rw [q]; exact (c2 x g2).1) fun q => .inl q.2
    refine h1.elim (fun q => by rw [q.1] at hk; exact hk.elim (fun h => nomatch h) fun h => nomatch h) fun q => ?_
    obtain ⟨_, c, o, h3, h4, h5⟩ := q
    have hl : scope.names.lookup x = some .free := nodup_lookup hnd g2
    obtain ⟨c', hc'⟩ := Option.isSome_iff_exists.mp (closL_has (acc := []) g2 h3)
    have ec : c' = c := Option.some.inj ((clm hc').symm.trans h3)
    exact ⟨v, .inr ⟨(relabel_lookup (env := env) (scope := scope) x).elim (fun h => .inr (h.trans hl)) fun h => .inl h.2, c, o, ec ▸ hc', .tail _ (.tail _ h4), h5⟩, h2⟩
  · obtain ⟨⟨o, v, ho, hd⟩, hne⟩ := R.cel _ hq.1
    rw [hq.2] at ho
    exact ⟨⟨o, v, .tail _ (.tail _ ho), hd⟩, fun q => hC _ ho q⟩
  · refine (two p hp).elim (fun hp => ?_) fun hp => (two q hq).elim (fun hq => ?_) fun hq => R.own.fz p hp q hq e
    · refine (two q hq).elim (fun hq => ?_) fun hq => ?_
      · rcases hp with rfl | rfl <;> rcases hq with rfl | rfl
        · rfl
        · exact absurd e.symm hDC
        · exact absurd e hDC
        · rfl
      · rcases hp with rfl | rfl
        · exact absurd e.symm (hC q hq)
        · exact absurd e.symm (hD q hq)
    · rcases hq with rfl | rfl
      · exact absurd e (hC p hp)
      · exact absurd e (hD p hp)
end
end Xm

open PySem PySem.W PySem.Calls PyProof.Rows PySem.Spec
namespace Xm
open PyProof.Rows.LCg (NsObj ns_obj)
section
variable {d : D0} {ih : Ih} {n : Nat} {A : Around} {O F : PH} {led : Led} {wr ρ : List Addr} {env : Env} {σ : AS} {s : Shared} {E : Value → Shared → Prop}

theorem cells_of (R : IRel d env wr ρ σ F led) {names : List (Str × NameKind)} {vs : List (Str × AV)} (hc : captured names σ = some vs) : ∀ x ∈ names, x.2 = .free → ∃ c, env.cells.lookup x.1 = some c := fun x hx hk => by
  have hx : (x.1, NameKind.free) ∈ names := hk ▸ hx
  obtain ⟨hs, v, hv⟩ := (captured_spec _ hc).2 x.1 hx
  obtain ⟨oL, m, hL, hn, hvs⟩ := R.fr
  obtain ⟨u, h1, _⟩ := hvs x.1 v hv
  refine h1.elim (fun q => ?_) fun q => q.2.imp fun c q => q.elim fun o q => q.1
  exact absurd q.1 ((R.sc x.1).elim (fun e => by rw [e]; exact fun h => hs.elim (fun q => nomatch q.symm.trans h) fun q => nomatch q.symm.trans h) fun e => by rw [e.2]; exact fun h => nomatch h)

/-- a comprehension's list becomes a place -/
theorem comp_mid {x : List FV × AS} {ρ1 : List Addr} {F1 F2 : PH} {led1 led2 : Led} {C D : Addr} {y : List FV × AS} {cenv : Env} {oC oD : Obj} (ok : Ok d) (R1 : IRel d env wr ρ1 x.2 F1 led1)
    (hC : ∀ p ∈ led1, p.1 ≠ C) (hD : ∀ p ∈ led1, p.1 ≠ D) (hcl : cenv.locals = C)
    (st : Stp [cenv.locals, D] ρ1 F1 ((C, oC) :: (D, oD) :: led1) ρ1 F2 led2) (Rc : IRel d cenv [cenv.locals] ρ1 y.2 F2 led2) (hH : HasD d D y.1 F2 led2) (hDρ : D ∉ ρ1) :
    Stp wr ρ1 F1 led1 (ρ1 ++ [D]) F2 led2 ∧ VR d.prog d.w (ρ1 ++ [D]) F2 (.ref D) (push { x.2 with ow := y.2.ow } (.lst y.1)).1 ∧ IRel d env wr (ρ1 ++ [D]) (push { x.2 with ow := y.2.ow } (.lst y.1)).2 F2 led2 := by
  obtain ⟨vs, c, hm, r⟩ := hH
  have own4 : OwnR d (ρ1 ++ [D]) (y.2.ow ++ [.lst y.1]) F2 led2 := Rc.own.snoc hDρ (.own hm (.lst r))
  have stp : Stp [] ρ1 F1 led1 (ρ1 ++ [D]) F2 led2 :=
    ⟨Ext.snoc _ _, st.le, fun p hp n _ => st.keep p (.tail _ (.tail _ hp)) n fun h => (List.mem_cons.mp h).elim (fun h => hC p hp (h.trans hcl)) fun h => hD p hp (List.mem_singleton.mp h), fun p hp n => st.here p (.tail _ (.tail _ hp)) n,
      fun a ha n p hp => (List.mem_append.mp ha).elim (fun h => absurd h n) fun h => List.mem_singleton.mp h ▸ hD p hp⟩
  exact ⟨stp.nil, .loc (Rc.own.len ▸ List.getElem?_concat_length), R1.step stp own4⟩
/-- an inner frame goes -/
theorem drop_frame {C : Addr} {F2 : PH} {led2 : Led} {ρ' : List Addr} {σ : AS} {h h' : Heap} {oC : Obj} (st : Stp wr ρ F led ρ' F2 led2) (R : IRel d env wr ρ' σ F2 led2) (S : LSt F2 O led2 h) (hCm : (C, oC) ∈ led2) (hs : Heap.SameBut C h h')
    (hC : ∀ p ∈ led, p.1 ≠ C) (hCρ' : C ∉ ρ') (hL : C ≠ env.locals) (hcs : ∀ c ∈ env.cells, c.2 ≠ C) : ∃ led3, LSt F2 O led3 h' ∧ Stp wr ρ F led ρ' F2 led3 ∧ IRel d env wr ρ' σ F2 led3 := by
  have zC := S.ld _ hCm
  have hin : ∀ p ∈ led2, p.1 ≠ C → p ∈ led2.filter fun p => !(p.1 == C) := fun p hp n => List.mem_filter.mpr ⟨hp, congrArg (!·) (beq_eq_false_iff_ne.mpr n)⟩
  have out : ∀ p ∈ led2.filter (fun p => !(p.1 == C)), p ∈ led2 ∧ p.1 ≠ C := fun p hp => ⟨(List.mem_filter.mp hp).1, fun e => Bool.noConfusion ((congrArg (!·) (beq_iff_eq.mpr e)).symm.trans (List.mem_filter.mp hp).2)⟩
  have S3 : LSt F2 O (led2.filter fun p => !(p.1 == C)) h' :=
    ⟨fun b o e => (hs.2 b fun q => nomatch (q ▸ zC.2.1 : F2 b = none).symm.trans e).trans (S.fz b o e), fun b o e => ⟨(hs.2 b fun q => nomatch (q ▸ zC.2.2 : O b = none).symm.trans e).trans (S.ow b o e).1, (S.ow b o e).2⟩, fun p hp => ⟨(hs.2 _ (out p hp).2).trans (S.ld p (out p hp).1).1, (S.ld p (out p hp).1).2⟩⟩
  obtain ⟨oL, m, hLm, hn, hv⟩ := R.fr
  exact ⟨_, S3, ⟨st.ext, st.le, fun p hp n m => hin p (st.keep p hp n m) (hC p hp), fun p hp n => (st.here p hp n).imp fun q h => ⟨hin q h.1 fun e => hC p hp (h.2.symm.trans e), h.2⟩, st.fresh⟩,
    ⟨R.sc, ⟨oL, m, hin _ hLm (Ne.symm hL), hn, fun x av e => (hv x av e).imp fun v g => ⟨g.1.keep fun c hc o ho => hin _ ho (hcs c hc), g.2⟩⟩, fun c hc => ⟨(R.cel c hc).1.imp fun o q => q.imp fun v q => ⟨hin _ q.1 (hcs c hc), q.2⟩, (R.cel c hc).2⟩, R.off, R.inj, R.wrL, R.wrC, R.celX, R.wrI,
      ⟨fun i ao e => (R.own.own i ao e).imp fun b g => ⟨g.1, g.2.ofLed fun o h => hin _ h fun (e : b = C) => hCρ' (e ▸ List.mem_iff_getElem?.mpr ⟨i, g.1⟩)⟩, R.own.len, R.own.nd, fun p hp q hq => R.own.fz p (out p hp).1 q (out q hq).1⟩⟩⟩

/-- what is asked where the comprehension's frame ends -/
noncomputable def CmpK (d : D0) (A : Around) (O : PH) (env : Env) (wr ρ : List Addr) (F : PH) (led : Led) (s : Shared) (E : Value → Shared → Prop) (use : Option (Value → Sem Unit)) (Q : Value → Shared → Prop) (out : AV × AS) : Prop :=
  ∀ D C F2 led2 h3 tk3 ρ2 oC mC, Stp wr ρ F led ρ2 F2 led2 → VR d.prog d.w ρ2 F2 (.ref D) out.1 → IRel d env wr ρ2 out.2 F2 led2 → C ∉ ρ2 → (C, oC) ∈ led2 → NsObj oC mC → (∀ p ∈ led, p.1 ≠ C) → C ≠ env.locals → (∀ c ∈ env.cells, c.2 ≠ C) → LSt F2 O led2 h3 →
      compPost (model d.prog d.w) A E use Q (.ref D) C (.ok .next) { s with heap := h3, toks := tk3 }
theorem comp_run (ok : Ok d) (kno : KnoIn d) (H : SndE d ih.ev n) {elt t iter : Expr} {ifs : List Expr} {gs : List Comprehension} {scope : Scope} {pos : Pos} {x y : List FV × AS} {vs : List (Str × AV)} {it : Value} {tt : Bool} {D C : Addr} {oC : Obj} {h1 h2 : Heap} {tk : Nat} {O₁ F1 : PH} {led1 : Led} {ρ1 : List Addr} (hg : shortG gs = true)
    (hkind : scope.kind = .function) (hcell : ∀ p ∈ scope.names, p.2 ≠ .cell) (hnd : (scope.names.map (·.1)).Nodup) (e2 : captured scope.names x.2 = some vs) (e3 : loopC ih (compI ih elt gs) t ifs vs.length x.2.ow.length x.1 [] { sc := scope.names, vars := vs, ow := x.2.ow } = some y) (cx : Cx d A n env) (B1 : Base d F1)
    (st1 : Stp wr ρ F led ρ1 F1 led1) (R1 : IRel d env wr ρ1 x.2 F1 led1) (L : Lent d A tt it x.1 F1 O O₁ led1 h1) (htt : tt = true → isTupT t = true) (SC : LSt F1 O₁ ((C, oC) :: (D, { cls := .type "list", data := .seq ([] : List Value).toArray }) :: led1) h2)
    (hCl : ∀ p ∈ led1, p.1 ≠ C) (hDl : ∀ p ∈ led1, p.1 ≠ D) (hFC : F1 C = none) (hFD : F1 D = none) (hDC : D ≠ C) (hnC : NsObj oC fun _ => none) (use : Option (Value → Sem Unit)) {Q : Value → Shared → Prop} (post : CmpK d A O env wr ρ F led s E use Q (push { x.2 with ow := y.2.ow } (.lst y.1))) :
    codeAny (model d.prog d.w) A (.compStart (.ListComp elt (⟨t, iter, ifs, 0⟩ :: gs) scope pos) 0 it (.ref D) (compEnvC scope (closL env.cells scope.names []) C env)) (compPost (model d.prog d.w) A E use Q (.ref D) C) { s with heap := h2, toks := tk } := by
  have Rc := comp_frame (oC := oC) (oD := { cls := .type "list", data := .seq ([] : List Value).toArray }) (F' := F1) R1 e2 hcell hnd hCl hDl hFC hDC hnC
  have L2 := L.2 F1 _ h2 (Le.refl _) SC
  have at_ : AtD (compEnvC scope (closL env.cells scope.names []) C env) D := ⟨hDC, fun c hc e => (lookup_mem (closL_in c hc)).elim fun q hq => (R1.cel _ hq.1).1.elim fun o ho => ho.elim fun v ho => hDl _ ho.1 (hq.2.trans e)⟩
  have cxc : Cx d A n (compEnvC scope (closL env.cells scope.names []) C env) := ⟨cx.hd, cx.dep, cx.un, hkind, cx.glb, cx.bi⟩
  have hDρ : D ∉ ρ1 := R1.own.notMem hDl hFD
  have hCρ : C ∉ ρ1 := R1.own.notMem hCl hFC
  have go : ∀ (tr : Sem Unit), InnerS d A n (compEnvC scope (closL env.cells scope.names []) C env) D (compI ih elt gs) tr →
      (compTurn (.ListComp elt (⟨t, iter, ifs, 0⟩ :: gs) scope pos) 0 it (.ref D) (compEnvC scope (closL env.cells scope.names []) C env) = turnTree t iter ifs tr (.compLoop (.ListComp elt (⟨t, iter, ifs, 0⟩ :: gs) scope pos) 0 it (.ref D) (compEnvC scope (closL env.cells scope.names []) C env)) it (compEnvC scope (closL env.cells scope.names []) C env)) →
      codeAny (model d.prog d.w) A (.compStart (.ListComp elt (⟨t, iter, ifs, 0⟩ :: gs) scope pos) 0 it (.ref D) (compEnvC scope (closL env.cells scope.names []) C env)) (compPost (model d.prog d.w) A E use Q (.ref D) C) { s with heap := h2, toks := tk } := by
    intro tr hi ht
    have fin : codeAny (model d.prog d.w) A (.compLoop (.ListComp elt (⟨t, iter, ifs, 0⟩ :: gs) scope pos) 0 it (.ref D) (compEnvC scope (closL env.cells scope.names []) C env)) (compPost (model d.prog d.w) A E use Q (.ref D) C) { s with heap := h2, toks := tk } := by
      refine comp_loop ok kno H (iter := iter) (tr := tr) cxc at_ hi rfl (fun R' E' s' hh => ?_) htt R1.lt.symm hDρ x.1 [] _ y _ _ e3 B1 Rc ⟨_, _, .tail _ (.head _), .nil⟩ L2.1 L2.2.1 fun F2 led2 h3 tk3 st3 R3 hD3 S4 => ?_
      · refine (?_ : wpAny _ A ((compTurn _ 0 it (.ref D) _).onRaise _) _ _ _)
        rw [ht]; exact hh
      · obtain ⟨oL, m, hL, hn, _⟩ := R3.fr
        obtain ⟨st4, hv4, R4⟩ := comp_mid ok R1 hCl hDl rfl st3 R3 hD3 hDρ
        refine post D C F2 led2 h3 tk3 (ρ1 ++ [D]) oL m (st1.trans st4) hv4 R4 (fun hm => (List.mem_append.mp hm).elim hCρ fun h => hDC (List.mem_singleton.mp h).symm) hL hn (fun p hp e => ?_) (fun e => R1.fr.elim fun o q => q.elim fun _ q => hCl _ q.1 e.symm) (fun c hc e => (R1.cel c hc).1.elim fun o q => q.elim fun _ q => hCl _ q.1 e) S4
        by_cases hpρ : p.1 ∈ ρ
        · exact hCρ (e ▸ st1.ext.mem hpρ)
        · exact (st1.here p hp hpρ).elim fun q hq => hCl q hq.1 (hq.2.trans e)
    exact codeAny_compStart_list fin (L2.2.2 { s with heap := h2, toks := tk } _ _ rfl fin)
  clear Rc L2 SC L e3 post
  induction gs using List.casesOn with
  | nil => exact go _ (emit_sound ok H cxc at_) (turn_one ..)
  | cons g gs =>
    have hg := Bool.and_eq_true_iff.mp hg
    have hgs : gs = [] := List.isEmpty_iff.mp hg.2
    subst hgs
    obtain ⟨t1, iter1, ifs1, as1⟩ := g
    have has : as1 = 0 := of_decide_eq_true hg.1
    subst has
    exact go _ (nest_sound ok kno H cxc at_) (turn_two0 ..)
theorem compG_sound (ok : Ok d) (kno : KnoIn d) (zi : ZipIn d) (H : SndE d ih.ev n) {elt : Expr} {gens : List Comprehension} {scope : Scope} {pos pos' : Pos} {out : AV × AS} (he : compA d.tb ih elt gens scope σ = some out) (cx : Cx d A n env) (B : Base d F) (R : IRel d env wr ρ σ F led) (S : LSt F O led s.heap)
    (use : Option (Value → Sem Unit)) {Q : Value → Shared → Prop} (post : CmpK d A O env wr ρ F led s E use Q out) :
    wpAny (model d.prog d.w) A (comprehension (.ListComp elt gens scope pos) scope env pos' (newList []) (firstAsync gens) (firstIter gens env) use) Q E s := by
  induction gens using List.casesOn with
  | nil => exact noS he
  | cons g gs =>
  obtain ⟨t, iter, ifs, as⟩ := g
  refine iteE he fun ha he => iteE he fun hok he => bndE he fun vs0 e0 he => bndE he fun x e1 he => bndE he fun vs e2 he => bndE he fun y e3 he => iteE he fun hlen he => ?_
  have ho := Option.some.inj he
  subst ho ha
  have hok := Bool.and_eq_true_iff.mp hok
  have hsc := Bool.and_eq_true_iff.mp hok.2
  have hkc := Bool.and_eq_true_iff.mp hsc.1
  have hkind : scope.kind = .function := eq_of_beq hkc.1
  have hcell : ∀ p ∈ scope.names, p.2 ≠ .cell := fun p hp => bne_iff_ne.mp (List.all_eq_true.mp hkc.2 p hp)
  have hnd := of_decide_eq_true hsc.2
  have it := iterE_sound (s := s) (E := E) ok zi H e1 cx B R S (Q := fun it s₂ => wpAny (model d.prog d.w) A (newList []) (fun acc s₃ =>
      wpAny (model d.prog d.w) A (newFunctionEnv scope env.globals (closL env.cells scope.names []) [] env.qual none .none (some env)) (fun cenv s₄ =>
        codeAny (model d.prog d.w) A (.compStart (.ListComp elt (⟨t, iter, ifs, 0⟩ :: gs) scope pos) 0 it acc { cenv with scope := relabel scope env }) (compPost (model d.prog d.w) A E use Q acc cenv.locals) s₄) E s₃) E s₂) fun it tt ρ1 F1 led1 O₁ h1 tk1 st1 R1 L htt => ?_
  · exact wpAny_comprehension_free (cl := closL env.cells scope.names []) rfl (fun x => folded_pure it.1) (closureFor_is (cells_of R e0)) hkind (fun p hp hl => (nodup_lookup hnd hp).trans (congrArg some hl)) it.2
  · have SD := L.1.pushL { cls := .type "list", data := .seq ([] : List Value).toArray }
    refine wpAny_newObj_type (wpAny_newFunctionEnv hcell (by intro y hy; simp at hy) (fun h2 hns2 hsb2 => ?_) hkind)
    obtain ⟨oC, hoC, hnC⟩ := ns_obj hns2
    have up : ∀ b o, (h1.push { cls := .type "list", data := .seq ([] : List Value).toArray }).get? b = some o → h2.get? b = some o := fun b o e => hsb2.extBut b o (Nat.ne_of_lt (Heap.lt_size e)) (Heap.get?_push_of_some _ e)
    have SC : LSt F1 O₁ (((h1.push { cls := .type "list", data := .seq ([] : List Value).toArray }).objs.size, oC) :: (h1.objs.size, { cls := .type "list", data := .seq ([] : List Value).toArray }) :: led1) h2 := LSt.mk (fun b o e => up _ _ (SD.fz b o e)) (fun b o e => ⟨up _ _ (SD.ow b o e).1, (SD.ow b o e).2⟩) (List.forall_mem_cons.mpr ⟨⟨hoC, SD.freshF, SD.freshO⟩, fun p hp => ⟨up _ _ (SD.ld p hp).1, (SD.ld p hp).2⟩⟩)
    exact comp_run ok kno H hok.1 hkind hcell hnd e2 e3 cx (B.le st1.le) st1 R1 L htt SC (fun p hp => SD.freshL p (.tail _ hp)) L.1.freshL SD.freshF L.1.freshF (SD.freshL _ (.head _)) hnC use post
theorem compA_sound (ok : Ok d) (kno : KnoIn d) (zi : ZipIn d) (H : SndE d ih.ev n) {elt : Expr} {gens : List Comprehension} {scope : Scope} {pos : Pos} {out : AV × AS} (he : compA d.tb ih elt gens scope σ = some out) (cx : Cx d A n env) (B : Base d F) (R : IRel d env wr ρ σ F led) :
    Ev d.prog d.w A O (eval (.ListComp elt gens scope pos) env) F led (Pg d env wr ρ F led (VRl d) out) := by
  intro s Q E S k
  rw [eval_ListComp]
  exact compG_sound ok kno zi H he cx B R S none fun D C F2 led2 h3 tk3 ρ2 oC mC st hv R2 h1 h2 h4 h5 h6 h7 S2 => ⟨mC, h4.ns (S2.ld _ h2).1, fun h' hs => (drop_frame st R2 S2 h2 hs h5 h1 h6 h7).elim fun led3 q => k _ _ _ _ _ ⟨ρ2, q.2.1, hv, q.2.2⟩ q.1⟩
end
end Xm

open PySem PySem.W PySem.Calls PyProof.Rows PySem.Spec
namespace Xm
/-- a class called -/
noncomputable def NewS (d : D0) (ih : Ih) (n : Nat) : Prop := ∀ (c : Addr) (avs : List AV) (σ : AS) (out : AV × AS), newA d.tb ih c avs σ = some out → ∀ (A : Around) (O F : PH) (led : Led) (wr ρ : List Addr) (env : Env) (vs : List Value), Cx d A (n + 1) env → Base d F →
  IRel d env wr ρ σ F led → VRs d.prog d.w ρ F vs avs → Ev d.prog d.w A O (call (.ref c) vs) F led (Pg d env wr ρ F led (VRl d) out)
section
variable {d : D0} {ih : Ih} {n : Nat} {A : Around} {O F : PH} {led : Led} {wr ρ : List Addr} {env : Env} {σ : AS} {s : Shared} {E : Value → Shared → Prop}

theorem subscripted_plain {i : Expr} {o v : Value} (h : ¬ isSliceE i = true) : subscripted i false o v = operate [o, v] (getItem o v) := by
  induction i using PySem.Expr.casesOn <;> first | rfl | exact absurd rfl h
theorem zipOf_is {e : Expr} : Okay (zipOf e) fun ab => ∃ zp p, e = .Call (.Name "zip" zp) [ab.1, ab.2] [] p := by
  induction e using PySem.Expr.casesOn with
  | Call f args kws pos => induction f using PySem.Expr.casesOn with
    | Name z zp => induction kws using List.casesOn with
      | nil => induction args using List.casesOn with
        | nil => exact okN
        | cons a r => induction r using List.casesOn with
          | nil => exact okN
          | cons b r => induction r using List.casesOn with
            | nil => exact okI fun hz => okS ⟨zp, pos, by rw [eq_of_beq hz]⟩
            | cons => exact okN
      | cons => exact okN
    | _ => exact okN
  | _ => exact okN
theorem listZip_is {es : List Expr} {ab : Expr × Expr} (e : listZip es = some ab) : ∃ zp p, es = [.Call (.Name "zip" zp) [ab.1, ab.2] [] p] := by
  induction es using List.casesOn with
  | nil => exact noS e
  | cons x r => induction r using List.casesOn with
    | nil => exact (zipOf_is _ e).imp fun _ q => q.imp fun _ q => congrArg (fun z => [z]) q
    | cons => exact noS e
section
variable {x : Str} {xp pos : Pos} {es : List Expr}
theorem callZ_sound (ok : Ok d) (zi : ZipIn d) (H : Snd d ih n) {ab : Expr × Expr} (hg : globA d.tb σ x = some (.ty "list")) (hz : listZip es = some ab) (hp : es.all plainE = true) : Okay (callZ d.tb ih ab σ) (AskE d n (eval (.Call (.Name x xp) es [] pos)) (VRl d) σ) := by
  obtain ⟨zp, zpos, rfl⟩ := listZip_is hz
  refine okB fun z e0 => ?_
  induction z using GV.casesOn with
  | ty t' =>
    refine okI fun ht => okB fun p e1 => okB fun q eq => okB fun x' ex => okB fun xs exs => okB fun y' ey => okB fun ys eys => okI fun hlen => okS fun A O F led wr ρ env cx B R s Q E S k => ?_
    have ht := Bool.and_eq_true_iff.mp ht
    have ht1 := Bool.and_eq_true_iff.mp ht.1
    have hzz := eq_of_beq ht1.1
    subst hzz
    refine Call_Name rfl (globA_ty ok hg cx B R S (PyProof.Rows.callWith_type (noStar hp env pos) ?_))
    rw [starEach_cons rfl]
    refine evalArgs_plain (spliced_cons (call_ty ok H.ev e0 e1 (plain_two (Bool.and_eq_true_iff.mpr ⟨ht1.2, ht.2⟩)) cx B R S fun vs F1 led1 h1 tk1 ρ1 st1 hv R1 S1 B1 => VRs.ofTwo hv eq fun v u hv1 hv2 => ?_))
    exact wpAny_mono (zi.lst A O F1 led1 ρ1 p.2.ow { s with heap := h1, toks := tk1 } E Q _ _ xs ys cx.hd B1 R1.own (tupF_is exs ▸ hv1.ofF ex) (tupF_is eys ▸ hv2.ofF ey) hlen.1 hlen.2 S1 (Pg.call R1 st1 k)) (fun z s1 hz => spliced_nil hz) fun _ _ q => q
  | _ => exact okN
theorem callT_sound (ok : Ok d) (zi : ZipIn d) (H : Snd d ih n) {t : String} (hg : globA d.tb σ x = some (.ty t)) (hp : es.all plainE = true) : Okay (callT d.tb ih t es σ) (AskE d n (eval (.Call (.Name x xp) es [] pos)) (VRl d) σ) := by
  refine hideT fun T hT => okIE (fun ht => ?_) fun _ => okIE (fun ht => ?_) fun _ => okI fun ht => ?_ <;> rw [eq_of_beq ht] at hg
  · generalize hz : listZip es = z
    induction z using Option.casesOn with
    | some ab => exact fun out e => hT out (callZ_sound ok zi H hg hz hp out e)
    | none =>
      refine okB fun p e1 => okB fun v ev => okB fun xs e2 => okI fun hlen => okS (hT _ fun A O F led wr ρ env cx B R s Q E S k => call_ty ok H.ev hg e1 hp cx B R S fun vs F1 led1 h1 tk1 ρ1 st1 hv R1 S1 B1 => VRs.ofOne hv ev fun u hu => ?_)
      obtain ⟨a, ws, m, rfl, gg, rr⟩ := lstOf_sound (O := O) R1.own hu e2
      exact call_list_seq a (.inl rfl) (gg _ S1) rfl rfl (fun h' c' kp e' => (lst_at (s := { s with heap := h1, toks := tk1 }) R1.own S1 rr kp e').elim fun led2 q => k _ _ _ _ tk1 ((Pg.ofCall q.2 R1).lift st1) q.1) (szOf rr.size (Nat.le_trans hlen (by decide)))
  · exact okB fun p e1 => okB fun v ev => okB fun x' ex => okB fun xs exs => okS (hT _ fun A O F led wr ρ env cx B R s Q E S k => call_ty ok H.ev hg e1 hp cx B R S fun vs F1 led1 h1 tk1 ρ1 st1 hv R1 S1 B1 => VRs.ofOne hv ev fun u hu => by
      have hf := hu.ofF ex
      revert hu
      exact hf.asT exs fun a o ws m hf hc hdd rr hu => call_tuple_tup ⟨o, S1.fz _ _ hf, hc, m, hdd⟩ (Pg.to tk1 k hu R1 st1 S1))
  · exact okB fun p e1 => okB fun v ev => okB fun x' ex => okB fun b eb => okS (hT _ fun A O F led wr ρ env cx B R s Q E S k => call_ty ok H.ev hg e1 hp cx B R S fun vs F1 led1 h1 tk1 ρ1 st1 hv R1 S1 B1 => VRs.ofOne hv ev fun u hu => (hu.ofF ex).asB eb
      (call_int_bool (Pg.to _ k (.fz (.int _ _)) R1 st1 S1)))
theorem callN_sound (ok : Ok d) (kno : KnoIn d) (zi : ZipIn d) (H : Snd d ih n) (hN : NewS d ih n) {g : GV} (hp : es.all plainE = true) (hg : globA d.tb σ x = some g) : Okay (callN d.tb ih g es σ) fun out => ∀ (A : Around) (O F : PH) (led : Led) (wr ρ : List Addr) (env : Env), Cx d A (n + 1) env → Cx d A n env → Base d F → IRel d env wr ρ σ F led →
    ∀ (s : Shared) (Q E : Value → Shared → Prop), LSt F O led s.heap → Kn d O env wr ρ F led (VRl d) s Q out → wpAny (model d.prog d.w) A (eval (.Call (.Name x xp) es [] pos) env) Q E s := by
  refine hideT fun T hT => ?_
  have hpl : ∀ env, ((backTo pos (starEach es env)).any (·.1) || ([] : List (Option Str × Sem Value)).any (·.1.isNone)) = false := fun env => by rw [noStar hp env pos]; rfl
  induction g using GV.casesOn with
  | ty t => exact fun out e => hT out fun A O F led wr ρ env _ cx B R => callT_sound ok zi H hg hp out e A O F led wr ρ env cx B R
  | fn a =>
    exact okB fun p e1 => okB fun q e2 => okS (hT _ fun A O F led wr ρ env _ cx B R s Q E S k => by
      have g := glob_is R hg
      have gok := ok.G _ _ g.2.2
      exact Call_Name rfl (name_glob ok cx g.1 g.2.1 gok.1 B S (callWith_of (P := d.K.In) (hpl env) (fun h X => keeps_K gok.2 h X) (goArgs H.ev e1 hp cx B R S fun vs F1 led1 h1 tk1 ρ1 st1 hv R1 S1 B1 => ⟨ok.X.keeps (B1.keeps S1),
        H.cl _ _ _ _ e2 A O F1 led1 ρ1 vs cx.hd cx.dep cx.un B1 hv R1.own _ _ _ S1 (Pg.call R1 st1 k)⟩))))
  | cls a =>
    exact okB fun p e1 out he => hT _ fun A O F led wr ρ env cx1 cx B R s Q E S k => by
      have g := glob_is R hg
      have gok := ok.G _ _ g.2.2
      exact Call_Name rfl (name_glob ok cx g.1 g.2.1 gok.1 B S (callWith_of (P := d.K.In) (hpl env) (fun h X => keeps_K gok.2 h X) (goArgs H.ev e1 hp cx B R S fun vs F1 led1 h1 tk1 ρ1 st1 hv R1 S1 B1 => ⟨ok.X.keeps (B1.keeps S1),
        hN _ _ _ _ he A O F1 led1 wr ρ1 env vs cx1 B1 R1 hv _ _ _ S1 (Pg.next st1 k)⟩)))
  | bi id =>
    exact okB fun p e1 => okB fun ts e2 => okB fun t e3 => okS (hT _ fun A O F led wr ρ env _ cx B R s Q E S k => by
      have g := glob_is R hg
      exact Call_Name rfl (name_glob ok cx g.1 g.2.1 (ok.G _ _ g.2.2) B S (callWith_builtin (noStar hp env pos) (goArgs H.ev e1 hp cx B R S fun vs F1 led1 h1 tk1 ρ1 st1 hv R1 S1 B1 => biA_sound ok cx B1 R1 hv e2 e3 _ _ _ S1 (Pg.next st1 k)))))
  | cst => exact okN
end
end
end Xm

open PySem PySem.W PySem.Calls PyProof.Rows PySem.Spec
namespace Xm
section
variable {d : D0} {ih : Ih} {n : Nat} {A : Around} {O F : PH} {led : Led} {wr ρ : List Addr} {env : Env} {σ : AS} {s : Shared} {E : Value → Shared → Prop}

theorem boolA_sound (ok : Ok d) (H : SndE d ih.ev n) {op : BoolOp} {pos : Pos} : ∀ (xs : List Expr) (σ : AS) (out : AV × AS), boolA ih op xs σ = some out → AskE d n (eval (.BoolOp op xs pos)) (VRl d) σ out := by
  intro xs
  induction xs with
  | nil => exact fun σ => okN
  | cons x r IH =>
    intro σ
    induction r using List.casesOn with
    | nil => exact fun out he A O F led wr ρ env cx B R s Q E S k => BoolOp_one (H _ _ _ he _ _ _ _ _ _ _ cx B R s Q E S k)
    | cons y r =>
      refine okB fun p e1 => okB fun t e2 => okB fun b e3 => ?_
      have first : ∀ {A O F led wr ρ env} {s : Shared} {Q : Value → Bool → Shared → Prop} {E}, Cx d A n env → Base d F → IRel d env wr ρ σ F led → LSt F O led s.heap →
          (∀ a F' led' h' tk' ρ', Stp wr ρ F led ρ' F' led' → VR d.prog d.w ρ' F' a p.1 → IRel d env wr ρ' p.2 F' led' → LSt F' O led' h' → Base d F' → Q a b { s with heap := h', toks := tk' }) → wpAny (model d.prog d.w) A (eval x env) (fun v s₁ => wpAny (model d.prog d.w) A (truthy v) (Q v) E s₁) E s :=
        fun cx B R S k => goE H e1 cx B R S fun v F1 led1 h1 tk1 ρ1 st1 hv R1 S1 B1 => truthF_sound (s := _) (rd_sound ok B1 R1.own S1 hv e2) e3 fun tk => k v F1 led1 h1 tk ρ1 st1 hv R1 S1 B1
      induction op using PySem.BoolOp.casesOn with
      | And => induction b using Bool.casesOn with
        | false => exact okS fun A O F led wr ρ env cx B R s Q E S k => BoolOp_and (first cx B R S fun v F1 led1 h1 tk1 ρ1 st1 hv R1 S1 B1 => Pg.to tk1 k hv R1 st1 S1)
        | true => exact fun out he A O F led wr ρ env cx B R s Q E S k => BoolOp_and (first cx B R S fun v F1 led1 h1 tk1 ρ1 st1 hv R1 S1 B1 => IH _ _ he _ _ _ _ _ _ _ cx B1 R1 _ _ _ S1 (Pg.next st1 k))
      | Or => induction b using Bool.casesOn with
        | true => exact okS fun A O F led wr ρ env cx B R s Q E S k => BoolOp_or (first cx B R S fun v F1 led1 h1 tk1 ρ1 st1 hv R1 S1 B1 => Pg.to tk1 k hv R1 st1 S1)
        | false => exact fun out he A O F led wr ρ env cx B R s Q E S k => BoolOp_or (first cx B R S fun v F1 led1 h1 tk1 ρ1 st1 hv R1 S1 B1 => IH _ _ he _ _ _ _ _ _ _ cx B1 R1 _ _ _ S1 (Pg.next st1 k))

theorem const_sound {c : Const} {i : Nat} {p : Pos} : Okay (evStep d.tb ih (.Constant c i p) σ) (AskE d n (eval (.Constant c i p)) (VRl d) σ) := by
  induction c using PySem.Const.casesOn with
  | none => exact okS fun A O F led wr ρ env cx B R s Q E S k => Constant_none (Pg.same s.toks k (.fz .none) R S)
  | bool b => exact okS fun A O F led wr ρ env cx B R s Q E S k => Constant_bool (Pg.same s.toks k (.fz (.bool _)) R S)
  | int i => exact okS fun A O F led wr ρ env cx B R s Q E S k => wpAny_Constant_int (Pg.same _ k (.fz (.int _ _)) R S)
  | str i => exact okS fun A O F led wr ρ env cx B R s Q E S k => wpAny_Constant_str (Pg.same _ k (.fz (.str _ _)) R S)
  | _ => exact okN
theorem evStep_sound (ok : Ok d) (kno : KnoIn d) (zi : ZipIn d) (H : Snd d ih n) (hN : NewS d ih n) : SndE d (evStep d.tb ih) (n + 1) := by
  refine hideO2 fun T hT => ?_
  have hT2 : ∀ e σ out, (∀ A O F led wr ρ env, Cx d A (n+1) env → Cx d A n env → Base d F → IRel d env wr ρ σ F led → ∀ s (Q : Value → Shared → Prop) E, LSt F O led s.heap → Kn d O env wr ρ F led (VRl d) s Q out → wpAny (model d.prog d.w) A (eval e env) Q E s) → T e σ out :=
    fun e σ out h => hT e σ out fun A O F led wr ρ env cx B R s Q E S k => h A O F led wr ρ env cx (cx.down (Nat.le_succ n)) B R s Q E S k
  replace hT : ∀ e σ out, AskE d n (eval e) (VRl d) σ out → T e σ out := fun e σ out h => hT2 e σ out fun A O F led wr ρ env _ => h A O F led wr ρ env
  intro e σ
  induction e using PySem.Expr.casesOn with
  | Constant c a b => exact fun out e => hT _ _ _ (const_sound (ih := ih) (i := a) (p := b) out e)
  | Name x p =>
    exact okB fun v e1 => okS (hT _ _ _ fun A O F led wr ρ env cx B R s Q E S k => nameA_sound ok e1 cx B R S fun u hu => Pg.same s.toks k hu R S)
  | Tuple es _ _ =>
    exact okB fun p e1 => okI fun hz => okS (hT _ _ _ fun A O F led wr ρ env cx B R s Q E S k => Tuple_ (goEs H.ev e1 cx B R S fun vs F1 led1 h1 tk1 ρ1 st1 hv R1 S1 B1 =>
      tup_new ok R1.own hv hz _ _ _ S1 (Pg.call R1 st1 k)))
  | List es _ =>
    exact okB fun p e1 => okI fun hz => okB fun q e2 => okS (hT _ _ _ fun A O F led wr ρ env cx B R s Q E S k => List_ (goEs H.ev e1 cx B R S fun vs F1 led1 h1 tk1 ρ1 st1 hv R1 S1 B1 =>
      (frzs_sound ok hv (Le.refl _) (show frzs p.2.ow p.1 = some (q.1, q.2) from e2) B1 R1.own S1).go fun F2 led2 S2 st2 R2 hq =>
        lst_new ok R2 hq (Nat.le_trans (Nat.le_of_eq (hq.length.symm.trans hv.length)) (Nat.le_trans hz (by decide))) { s with heap := h1, toks := tk1 } _ _ S2 (Pg.call (σ := { p.2 with ow := q.2 }) (R1.step st2 R2) (st1.trans st2.nil) k)))
  | Dict ks vs _ =>
    exact okB fun ns e1 => okI fun hz => okB fun p e2 => okB fun q e3 => okS (hT _ _ _ fun A O F led wr ρ env cx B R s Q E S k =>
      have h1 := Bool.and_eq_true_iff.mp hz; have h2 := Bool.and_eq_true_iff.mp h1.1
      dict_sound ok H.ev e1 (eq_of_beq h2.1) (of_decide_eq_true h2.2) (of_decide_eq_true h1.2) e2 e3 cx B R S k)
  | Attribute o a _ =>
    exact okI fun hb => okB fun p e1 => okB fun u e2 => okS (hT _ _ _ fun A O F led wr ρ env cx B R s Q E S k => Attribute_any_ (goE H.ev e1 cx B R S fun v F1 led1 h1 tk1 ρ1 st1 hv R1 S1 B1 =>
        attrA_sound (s := { s with heap := h1, toks := tk1 }) ok hv B1 S1 _ e2 fun u tk hu => Pg.to tk k hu R1 st1 S1) (Attr_eq hb))
  | Subscript o i _ =>
    exact okE fun hns => okB fun p e1 => okB fun q e2 => okB fun v e3 => okS (hT _ _ _ fun A O F led wr ρ env cx B R s Q E S k => Subscript_ (goE H.ev e1 cx B R S fun u F1 led1 h1 tk1 ρ1 st1 hv R1 S1 B1 =>
        goE H.ev e2 cx B1 R1 S1 fun u2 F2 led2 h2 tk2 ρ2 st2 hv2 R2 S2 B2 =>
        itemA_sound ok kno B2 R2.own S2 (un65 ok cx) (hv.mono st2.ext st2.le) hv2 e3 (subscripted_plain hns) fun w tk hw => Pg.to tk k hw R2 (st1.trans st2) S2))
  | Compare l ops rs _ => induction ops using List.casesOn with
    | nil => exact okN
    | cons op ops => induction ops using List.casesOn with
      | cons => exact okN
      | nil => induction rs using List.casesOn with
        | nil => exact okN
        | cons r rs => induction rs using List.casesOn with
          | cons => exact okN
          | nil =>
            exact okE fun hm => okB fun p e1 => okB fun q e2 => okB fun b e3 => okS (hT _ _ _ fun A O F led wr ρ env cx B R s Q E S k => wpAny_Compare1 (goE H.ev e1 cx B R S fun u F1 led1 h1 tk1 ρ1 st1 hv R1 S1 B1 =>
              goE H.ev e2 cx B1 R1 S1 fun u2 F2 led2 h2 tk2 ρ2 st2 hv2 R2 S2 B2 =>
              cmpA_sound ok kno B2 R2.own S2 (un64 ok cx) (hv.mono st2.ext st2.le) hv2 e3 fun tk => Pg.to tk k (.fz (.bool b)) R2 (st1.trans st2) S2) (Bool.eq_false_iff.mpr hm))
  | BoolOp op xs _ => exact fun out he => hT _ _ _ (boolA_sound ok H.ev _ _ _ he)
  | IfExp t a b pos =>
    refine okB fun p e1 => ?_
    obtain ⟨pb, pσ⟩ := p
    have fin : ∀ (x : Expr) (hx : ∀ {s₂ : Shared} {A E env} {Q : Value → Shared → Prop}, wpAny (model d.prog d.w) A (eval x env) Q E s₂ → if pb = true then wpAny (model d.prog d.w) A (eval a env) Q E s₂ else wpAny (model d.prog d.w) A (eval b env) Q E s₂), Okay (ih.ev x pσ) (T (.IfExp t a b pos) σ) :=
      fun x hx out he => hT _ _ _ fun A O F led wr ρ env cx B R s Q E S k => IfExp_ (goT ok kno H.ev e1 cx B R S fun F1 led1 h1 tk1 ρ1 st1 R1 S1 B1 =>
        hx (H.ev _ _ _ he _ _ _ _ _ _ _ cx B1 R1 _ _ _ S1 (Pg.next st1 k)))
    induction pb using Bool.casesOn with
    | true => exact fin a fun h => h
    | false => exact fin b fun h => h
  | BinOp l op r _ =>
    exact okB fun p e1 => okB fun q e2 => fun out he => hT _ _ _ fun A O F led wr ρ env cx B R s Q E S k => wpAny_BinOp (goE H.ev e1 cx B R S fun u F1 led1 h1 tk1 ρ1 st1 hv R1 S1 B1 =>
        goE H.ev e2 cx B1 R1 S1 fun u2 F2 led2 h2 tk2 ρ2 st2 hv2 R2 S2 B2 =>
        binA_sound ok B2 R2 (hv.mono st2.ext st2.le) hv2 he _ _ _ S2 (Pg.next (st1.trans st2) k))
  | UnaryOp op x p => induction op using PySem.UnaryOp.casesOn with
    | USub => induction x using PySem.Expr.casesOn with
      | Constant c a b => induction c using PySem.Const.casesOn with
        | int i => exact okS (hT _ _ _ fun A O F led wr ρ env cx B R s Q E S k => UnaryOp_ (wpAny_Constant_int (neg_int (Pg.same _ k (.fz (.int _ _)) R S))))
        | _ => exact okN
      | _ => exact okN
    | _ => exact okN
  | Call f args kws pos => induction kws using List.casesOn with
    | cons => exact okN
    | nil =>
      refine okI fun hp => ?_
      induction f using PySem.Expr.casesOn with
      | Name x xp => exact okB fun g e1 out he => hT2 _ _ _ (callN_sound ok kno zi H hN hp e1 out he)
      | Attribute o m apos =>
        exact okI fun hb => okB fun p e1 => okB fun mk e2 => okB fun q e3 out e4 =>
          have h1 := Bool.and_eq_true_iff.mp hb; have h2 := Bool.and_eq_true_iff.mp h1.1
          meth_sound ok H h2.1 h2.2 (of_decide_eq_true h1.2) hp e1 e3 (hT _ _) mk e2 out e4
      | _ => exact okN
  | ListComp elt gens scope _ => exact fun out he => hT _ _ _ fun A O F led wr ρ env cx B R => compA_sound ok kno zi H.ev he cx B R
  | _ => exact okN
end
end Xm

open PySem PySem.W PySem.Calls PyProof.Rows PySem.Spec
namespace Xm
open PyProof.Rows.LCg (NsObj ns_obj)
section
variable {d : D0} {ih : Ih} {n : Nat} {A : Around} {O F : PH} {led : Led} {wr ρ : List Addr} {env : Env} {σ : AS} {s : Shared} {E : Value → Shared → Prop}

theorem kind_local (R : IRel d env wr ρ σ F led) (x : Str) : (env.kindOf x == some NameKind.local) = (σ.sc.lookup x == some NameKind.local) :=
  (R.sc x).elim (fun e => by rw [e]) fun e => by rw [e.1, e.2]; rfl
theorem block_fn (cx : Cx d A n env) : env.blockKind = .function := by unfold Env.blockKind; rw [cx.kind]; rfl

theorem storeAt_sound (ok : Ok d) (kno : KnoIn d) (cx : Cx d A n env) (B : Base d F) (R : IRel d env wr ρ σ F led) (hu : A.units + 64 < cLine) {o i v : Value} {ao ai av : AV} {σ' : AS} (ho : VR d.prog d.w ρ F o ao) (hi : VR d.prog d.w ρ F i ai) (hv : VR d.prog d.w ρ F v av) (e : storeAt ao ai av σ = some σ') {Q : Unit → Shared → Prop} (S : LSt F O led s.heap)
    (k : ∀ F' led' h' tk' ρ', Stp wr ρ F led ρ' F' led' → IRel d env wr ρ' σ' F' led' → LSt F' O led' h' → Q () { s with heap := h', toks := tk' }) : wpAny (model d.prog d.w) A (setItem o i v) Q E s := by
  induction ao using AV.casesOn with
  | loc j =>
    refine bndE e fun kk ek e => bndE e fun p e1 e => bndE e fun ob e2 e => ?_
    revert e
    refine ho.locE fun a ha => (frz_sound ok hv (Le.refl _) (show frz σ.ow av = some (p.1, p.2) from e1) B R.own S).go fun F1 led1 S1 st1 R1 hq => ?_
    have ha1 := st1.ext _ _ ha
    have hik := (hi.ofF ek).mono st1.le
    refine fun e => (?_ : Okay (storeO j kk p σ ob) fun σ' => (∀ F' led' h' tk' ρ', Stp wr ρ F led ρ' F' led' → IRel d env wr ρ' σ' F' led' → LSt F' O led' h' → Q () { s with heap := h', toks := tk' }) → wpAny (model d.prog d.w) A (setItem (.ref a) i v) Q E s) σ' e k
    refine hideT fun T hT => ?_
    replace hT : ∀ ow', Ev d.prog d.w A O (setItem (.ref a) i v) F1 led1 (fun _ F' led' => CallP d ρ F1 led1 (.fz .none, ow') .none F' led') → T { σ with ow := ow' } := fun ow' x => hT _ fun k => x s Q E S1 fun _ F' led' h' tk' cp S' => cp.elim fun ρ' q =>
      k F' led' h' tk' ρ' (st1.trans q.1).nil (R.step (st1.trans q.1) q.2.2) S'
    have key := fun es hk (hx : ob = .kno es ∨ (ob = .dic [] ∧ es = [])) hn hl => kno.set A O F1 led1 ρ p.2 a i v j kk p.1 es ob hu (B.le st1.le) R1 ha1 hik hq hk e2 hx hn hl
    clear S k st1
    induction ob using AO.casesOn with
    | lst xs => exact okB fun m em => okI fun hz => okS (hT _ (hik.asI em fun t => setIdx_sound R1 ha1 e2 hq hz.1 hz.2.1 (Nat.le_trans hz.2.2 (by decide))))
    | dic es =>
      unfold storeO
      generalize em : strF kk = z
      induction z using Option.casesOn with
      | some m => exact okI fun hz => okS (hT _ (hik.asS em fun t => setStr_sound R1 ha1 e2 hq (Nat.le_trans hz (by decide))))
      | none =>
        refine okI fun hz => okS (hT _ ?_)
        have hz := Bool.and_eq_true_iff.mp hz
        exact key [] hz.1 (.inr ⟨congrArg _ (List.isEmpty_iff.mp hz.2), rfl⟩) rfl (Nat.zero_le _)
    | kno es =>
      refine okI fun hz => okS (hT _ ?_)
      have hz := Bool.and_eq_true_iff.mp hz
      have hz1 := Bool.and_eq_true_iff.mp hz.1
      exact key es hz1.1 (.inl rfl) (Option.isNone_iff_eq_none.mp hz1.2) (of_decide_eq_true hz.2)
    | _ => exact okN
  | _ => exact noS e

/-! tuples of targets -/
theorem nameT_is {t : Expr} : Okay (nameT t) fun x => ∃ p, t = .Name x p := by
  induction t using PySem.Expr.casesOn with
  | Name x p => exact okS ⟨p, rfl⟩
  | _ => exact okN
theorem namesOfT_is {ts : List Expr} : Okay (namesOfT ts) fun xs => xs.length = ts.length ∧ (assignEach ts env).findIdx? (·.1) = none ∧ (assignEach ts env).length = ts.length := by
  induction ts with
  | nil => exact okS ⟨rfl, rfl, rfl⟩
  | cons t r ih =>
    refine okB fun x e1 => okM fun ys e2 => ?_
    obtain ⟨p, rfl⟩ := nameT_is _ e1
    rw [assignEach_cons rfl]
    exact ⟨congrArg Nat.succ (ih _ e2).1, by rw [List.findIdx?_cons, (ih _ e2).2.1]; rfl, congrArg Nat.succ (ih _ e2).2.2⟩
theorem bindAll_len {xs : List Str} {vs : List AV} {σ : AS} : Okay (bindAll xs vs σ) fun _ => xs.length = vs.length := by
  induction xs generalizing vs σ with
  | nil => exact okI fun h => okS (congrArg List.length (List.isEmpty_iff.mp h)).symm
  | cons x r ih => induction vs using List.casesOn with
    | nil => exact okN
    | cons v w => exact okI fun _ σ' e => congrArg Nat.succ (ih _ e)
/-- stores to one's own names, in order -/
theorem bindAll_sound (cx : Cx d A n env) {xs : List Str} {avs : List AV} {σ : AS} : Okay (bindAll xs avs σ) fun σ' => ∀ {vs : List Value} {F : PH} {led : Led} {ρ : List Addr}, VRs d.prog d.w ρ F vs avs → IRel d env wr ρ σ F led →
    Ev d.prog d.w A O (assignInOrder (xs.map fun x => bindName env x) vs) F led (Pg d env wr ρ F led Un ((), σ')) := by
  induction xs generalizing avs σ with
  | nil => exact okI fun h => okS fun hv R => VRs.nilE (List.isEmpty_iff.mp h ▸ hv) (Ev.pure (Pg.here trivial R))
  | cons x r ih => induction avs using List.casesOn with
    | nil => exact okN
    | cons v w => exact okI fun hk σ' e vs F led ρ hv R => VRs.consE hv fun u us hv rv => Ev.bind (Ev.holding fun s Q E S k => wpAny_bindName (setVar_sound cx R hk hv s Q E S k)) fun _ F' led' p => p.elim fun ρ' q =>
        (ih _ e (rv.mono q.1.ext q.1.le) q.2.2).mono fun _ _ _ p => p.lift q.1
theorem assign_names (cx : Cx d A n env) {ts : List Expr} {xs : List Str} {avs : List AV} {σ : AS} (en : namesOfT ts = some xs) : Okay (bindAll xs avs σ) fun σ' => ∀ {vs : List Value} {F : PH} {led : Led} {ρ : List Addr}, VRs d.prog d.w ρ F vs avs → IRel d env wr ρ σ F led →
    Ev d.prog d.w A O (assignInOrder ((assignEach ts env).map (·.2)) vs) F led (Pg d env wr ρ F led Un ((), σ')) := by
  induction ts generalizing xs avs σ with
  | nil => exact someE en (okI fun h => okS fun hv R => VRs.nilE (List.isEmpty_iff.mp h ▸ hv) (Ev.pure (Pg.here trivial R)))
  | cons t r ih =>
    refine bndE en fun x e1 en => mapE en fun ys e2 => ?_
    obtain ⟨p, rfl⟩ := nameT_is _ e1
    rw [assignEach_cons rfl]
    induction avs using List.casesOn with
    | nil => exact okN
    | cons v w => exact okI fun hk σ' e vs F led ρ hv R => VRs.consE hv fun u us hv rv => Ev.bind (Ev.holding fun s Q E S k => wpAny_assign_Name (setVar_sound cx R hk hv s Q E S k)) fun _ F' led' p => p.elim fun ρ' q =>
        (ih e2 _ e (rv.mono q.1.ext q.1.le) q.2.2).mono fun _ _ _ p => p.lift q.1

theorem sole_false {t v : Expr} {ln : Nat} (h : ¬ isCompE v = true) : swapsWith v (some t) ln env = pure false := by
  induction v using PySem.Expr.casesOn <;> first | rfl | exact absurd rfl h
end
end Xm

open PySem PySem.W PySem.Calls PyProof.Rows PySem.Spec
namespace Xm
open PyProof.Rows.LCg (NsObj ns_obj)
section
variable {d : D0} {ih : Ih} {n : Nat} {A : Around} {O F : PH} {led : Led} {wr ρ : List Addr} {env : Env} {σ : AS} {s : Shared} {E : Value → Shared → Prop}

/-- the end of a statement that binds names -/
theorem Pg.fin {α : Type} {Rl : List Addr → PH → α → Unit → Prop} {Q : Flow → Shared → Prop} {σ' : AS} {a : α} {F' : PH} {led' : Led} {h : Heap} {tk : Nat} {ρ₁ : List Addr} {F₁ : PH} {led₁ : Led}
    (st : Stp wr ρ F led ρ₁ F₁ led₁) (k : Kn d O env wr ρ F led (FlR d) s Q (.next, σ')) (pg : Pg d env wr ρ₁ F₁ led₁ Rl ((), σ') a F' led') (S : LSt F' O led' h) : Q .next { s with heap := h, toks := tk } :=
  let ⟨ρ', st', _, R'⟩ := pg; k _ _ _ _ _ ⟨ρ', st.trans st', .next, R'⟩ S
theorem Pg.flow {Q : Flow → Shared → Prop} {σ' : AS} {f : Flow} {x : Fl} {F₁ : PH} {led₁ : Led} {h : Heap} {tk : Nat} {ρ₁ : List Addr} (k : Kn d O env wr ρ F led (FlR d) s Q (x, σ')) (st : Stp wr ρ F led ρ₁ F₁ led₁) (hf : FlR d ρ₁ F₁ f x) (R : IRel d env wr ρ₁ σ' F₁ led₁) (S : LSt F₁ O led₁ h) : Q f { s with heap := h, toks := tk } :=
  k _ _ _ _ _ ⟨ρ₁, st, hf, R⟩ S
set_option backward.match.sparseCases true in
theorem swap_eq (hb : (env.blockKind != .function) = false) {ts : List Expr} {k : Nat} {tp : Pos} {v : Expr} : Okay (swapN (fun x => env.kindOf x == some .local) ts v) fun r => swappedStores [.Tuple ts k tp] v env = pure r := by
  induction v using PySem.Expr.casesOn with
  | Tuple vs k2 p2 =>
    have step : ∀ {c : Bool} {x : Option (Option (List Str))} {y : Sem (Option (List Str))}, (Okay x fun r => y = pure r) → Okay (if c = true then some none else x) fun r => (if (c || (env.blockKind != .function)) = true then pure none else y) = pure r := fun h => by
      rw [hb, Bool.or_false]; exact okIf (fun _ => okS rfl) fun _ => h
    exact step (okIf (fun _ => okS rfl) fun _ => okIf (fun _ => okS rfl) fun _ => okIf (fun _ => okS rfl) fun _ => okE fun h => okS (if_neg h))
  | _ => exact okS rfl
/-- x = [.. for ..], the name taken over by the comprehension's own frame -/
theorem asgComp (ok : Ok d) (kno : KnoIn d) (zi : ZipIn d) (H : SndE d ih.ev n) {x : Str} {np vp pos : Pos} {elt : Expr} {gens : List Comprehension} {scope : Scope} {p : AV × AS} {Q : Flow → Shared → Prop}
    (hsw : ((σ.sc.lookup x == some .local && np.line == vp.line) && !(scope.names.any fun p => p.1 == x && (p.2 == .local || p.2 == .cell))) = true) (e1 : compA d.tb ih elt gens scope σ = some p) (hk : isLocalK (p.2.sc.lookup x) = true) (cx : Cx d A n env) (B : Base d F) (R : IRel d env wr ρ σ F led) (S : LSt F O led s.heap)
    (k : Kn d O env wr ρ F led (FlR d) s Q (.next, setVar p.2 x p.1)) : wpAny (model d.prog d.w) A (exec (.Assign [.Name x np] (.ListComp elt gens scope vp) pos) env) Q E s := by
  have hs : swapsWith (.ListComp elt gens scope vp) (some (.Name x np)) pos.line env = pure true := by
    refine congrArg (pure : Bool → Sem Bool) (Eq.trans ?_ hsw)
    refine (?_ : (env.blockKind == .function && env.kindOf x == some .local && np.line == vp.line && _) = _)
    rw [show (env.blockKind == .function) = true by rw [block_fn cx]; rfl, kind_local R]
    rfl
  rw [exec_Assign_Name_used _ _ _ _ hs]
  refine wpAny_bind (wpAny_standAt (wpAny_bind ?_))
  refine (?_ : wpAny _ A (do let _ ← comprehension (.ListComp elt gens scope vp) scope env (firstIterPos gens vp) (newList []) (firstAsync gens) (firstIter gens env) (some (assign (.Name x np) env))) _ _ s)
  refine wpAny_bind (wpAny_mono (compG_sound (Q := fun _ s' => Q .next s') ok kno zi H e1 cx B R S (some (assign (.Name x np) env)) fun D C F2 led2 h3 tk3 ρ2 oC mC st hv R2 h1 h2 h4 h5 h6 h7 S2 => ?_) (fun _ s' hq => wpAny_pure (wpAny_pure hq)) fun _ _ q => q)
  refine (?_ : wpAny _ A (assign (.Name x np) env (.ref D)) _ _ _)
  refine wpAny_assign_Name (setVar_sound cx R2 hk hv { s with heap := h3, toks := tk3 } _ _ S2 fun _ F4 led4 h8 tk4 p4 S4 => p4.elim fun ρ4 q4 => ?_)
  have hCw : C ∉ wr := fun hm => (R2.wrI C hm).elim h6 fun q => q.elim fun c q => h7 c q.1 q.2
  have hCm := q4.1.keep _ h2 h1 hCw
  exact ⟨mC, h4.ns (S4.ld _ hCm).1, fun h' hs => (drop_frame (st.trans q4.1) q4.2.2 S4 hCm hs h5 (fun hm => q4.1.fresh C hm h1 _ h2 rfl) h6 h7).elim fun led5 q => Pg.flow k q.2.1 .next q.2.2 q.1⟩
theorem asgN_is {x : Str} {p : AV × AS} {T : Fl × AS → Prop} (h : isLocalK (p.2.sc.lookup x) = true → T (.next, setVar p.2 x p.1)) : Okay (asgN x p) T := okI fun hk => okS (h hk)
/-- a, b = .. -/
theorem asgT_sound (ok : Ok d) (H : SndE d ih.ev n) {ts : List Expr} {kk : Nat} {tp pos : Pos} {v : Expr} : Okay (asgT ih ts v σ) (AskE d n (exec (.Assign [.Tuple ts kk tp] v pos)) (FlR d) σ) := by
  refine okE fun hnc => okB fun sw e0 => okB fun xs e1 => okB fun p e2 => okB fun vs e3 => okB fun σ' e4 => okS fun A O F led wr ρ env cx B R s Q E S k => ?_
  have hsole : swapsWithSole [.Tuple ts kk tp] v pos.line env = pure false := by unfold swapsWithSole; exact sole_false hnc
  have hsw := swap_eq (k := kk) (tp := tp) (by rw [block_fn cx]; rfl) sw ((congrArg (fun f => swapN f ts v) (funext fun x => kind_local R x)).trans e0)
  have fin : ∀ {ρ1 F1 led1 a F' led' h' tk}, Stp wr ρ F led ρ1 F1 led1 → Pg d env wr ρ1 F1 led1 Un ((), σ') a F' led' → LSt F' O led' h' → Q .next { s with heap := h', toks := tk } := fun st pg S => Pg.fin st k pg S
  clear k e0
  induction sw using Option.casesOn with
  | none =>
    refine Assign_Tuple (goE H e2 cx B R S fun u F1 led1 h1 tk1 ρ1 st1 hv R1 S1 B1 => ?_) hsole hsw
    obtain ⟨a, o, ws, m, rfl, hf, hc, hd, r⟩ := itemsA_sound hv e3
    have nm := namesOfT_is (env := env) _ e1
    have hlen : ws.size = xs.length := Array.length_toList.symm.trans (r.length.trans (bindAll_len _ e4).symm)
    exact wpAny_assign_Tuple cx.hd ⟨o, S1.fz _ _ hf, hc, m, hd⟩ (nm.2.2.trans (nm.1.symm.trans hlen.symm)) nm.2.1 fun h' he' =>
      assign_names cx e1 _ e4 r R1 { s with heap := h', toks := tk1 } _ _ (fresh_kept (s := { s with heap := h1, toks := tk1 }) S1 fun b o hb e => he' b o hb e) fun _ F3 led3 h3 tk3 p3 S3 => fin st1 p3 S3
  | some ns =>
    refine Assign_Tuple_swapped (goE H e2 cx B R S fun u F1 led1 h1 tk1 ρ1 st1 hv R1 S1 B1 => ?_) hsole hsw
    obtain ⟨a, o, ws, m, rfl, hf, hc, hd, r⟩ := itemsA_sound hv e3
    have hlen : ns.length = ws.size := List.length_reverse.symm.trans ((bindAll_len _ e4).trans (List.length_reverse.trans (r.length.symm.trans Array.length_toList)))
    have ht : ({ s with heap := h1, toks := tk1 } : Shared).heap.IsTuple a ws := ⟨o, S1.fz _ _ hf, hc, m, hd⟩
    rw [hlen]
    exact wpAny_unpackItems_tuple cx.hd ht fun h' he' =>
      bindAll_sound cx _ e4 r.reverse R1 { s with heap := h', toks := tk1 } _ _ (fresh_kept (s := { s with heap := h1, toks := tk1 }) S1 fun b o hb e => he' b o hb e) fun _ F3 led3 h3 tk3 p3 S3 => fin st1 p3 S3
theorem nor2 {a b : Bool} (h : ¬ (a || b) = true) : ¬ a = true ∧ ¬ b = true := ⟨fun q => h (by rw [q]; rfl), fun q => h (by rw [q, Bool.or_true])⟩
/-- a[b] = .. -/
theorem asgI_sound (ok : Ok d) (kno : KnoIn d) (H : SndE d ih.ev n) {o i v : Expr} {sp pos : Pos} : Okay (asgI ih o i v σ) (AskE d n (exec (.Assign [.Subscript o i sp] v pos)) (FlR d) σ) :=
  okE fun hnc => okB fun p e1 => okB fun q e2 => okB fun r e3 => okB fun σ' e4 => okS fun A O F led wr ρ env cx B R s Q E S k =>
    wpAny_Assign_Subscript (goE H e1 cx B R S fun u F1 led1 h1 tk1 ρ1 st1 hv R1 S1 B1 => goE H e2 cx B1 R1 S1 fun u2 F2 led2 h2 tk2 ρ2 st2 hv2 R2 S2 B2 => goE H e3 cx B2 R2 S2 fun u3 F3 led3 h3 tk3 ρ3 st3 hv3 R3 S3 B3 =>
      storeAt_sound (s := { s with heap := h3, toks := tk3 }) ok kno cx B3 R3 (un65 ok cx) (hv2.mono st3.ext st3.le) hv3 (hv.mono (st2.ext.trans st3.ext) (st2.le.trans st3.le)) e4 S3 fun F4 led4 h4 tk4 ρ4 st4 R4 S4 => Pg.flow k (st1.trans (st2.trans (st3.trans st4))) .next R4 S4) (sole_false (nor2 hnc).1)
theorem asg_sound (ok : Ok d) (kno : KnoIn d) (zi : ZipIn d) (H : SndE d ih.ev n) {t v : Expr} {pos : Pos} : Okay (exStep d.tb ih (.Assign [t] v pos) σ) (AskE d n (exec (.Assign [t] v pos)) (FlR d) σ) := by
  induction t using PySem.Expr.casesOn with
  | Name x np =>
    refine hideT fun T hT => ?_
    have plain : ¬ isCompE v = true → Okay (bnd (ih.ev v σ) (asgN x)) T := fun hnc => okB fun p e1 => asgN_is fun hk => hT _ fun A O F led wr ρ env cx B R s Q E S k =>
      wpAny_Assign_Name (goE H e1 cx B R S fun u F1 led1 h1 tk1 ρ1 st1 hv R1 S1 B1 => setVar_sound cx R1 hk hv _ _ _ S1 fun _ F2 led2 h2 tk2 p2 S2 => Pg.fin (s := s) st1 k p2 S2) (sole_false hnc)
    induction v using PySem.Expr.casesOn with
    | ListComp elt gens scope vp => exact okI fun hsw => okB fun p e1 => asgN_is fun hk => hT _ fun A O F led wr ρ env cx B R s Q E S k => asgComp ok kno zi H hsw e1 hk cx B R S k
    | _ => exact okE plain
  | Tuple ts kk tp => exact asgT_sound ok H
  | Subscript o i sp => exact asgI_sound ok kno H
  | _ => exact okN
theorem exStep_sound (ok : Ok d) (kno : KnoIn d) (zi : ZipIn d) (H : Snd d ih n) {st : Stmt} : Okay (exStep d.tb ih st σ) (AskE d n (exec st) (FlR d) σ) := by
  induction st using PySem.Stmt.casesOn with
  | Assign ts v pos => induction ts using List.casesOn with
    | nil => exact okN
    | cons t ts => induction ts using List.casesOn with
      | nil => exact asg_sound ok kno zi H.ev
      | cons => exact okN
  | Expr e pos => induction e using PySem.Expr.casesOn with
    | Call =>
      exact okI fun hc => okB fun p e1 => okI fun hn => okS fun A O F led wr ρ env cx B R s Q E S k =>
        wpAny_Expr_any (goE H.ev e1 cx B R S fun u F1 led1 h1 tk1 ρ1 st1 hv R1 S1 B1 => Pg.to tk1 k .next R1 st1 S1) (by unfold interactive; rw [cx.kind]; rfl)
    | _ => exact okN
  | If t a b pos =>
    refine okB fun p e1 => ?_
    obtain ⟨pb, pσ⟩ := p
    have fin : ∀ (x : List Stmt) (hx : ∀ {s₂ : Shared} {A E env} {Q : Flow → Shared → Prop}, wpAny (model d.prog d.w) A (execs x env) Q E s₂ → if pb = true then wpAny (model d.prog d.w) A (execs a env) Q E s₂ else wpAny (model d.prog d.w) A (execs b env) Q E s₂), Okay (ih.ex x pσ) (AskE d n (exec (.If t a b pos)) (FlR d) σ) :=
      fun x hx out he A O F led wr ρ env cx B R s Q E S k => wpAny_If (goT ok kno H.ev e1 cx B R S fun F1 led1 h1 tk1 ρ1 st1 R1 S1 B1 =>
        hx (H.ex _ _ _ he _ _ _ _ _ _ _ cx B1 R1 _ _ _ S1 (Pg.next st1 k)))
    induction pb using Bool.casesOn with
    | true => exact fin a fun h => h
    | false => exact fin b fun h => h
  | While t b els pos => induction els using List.casesOn with
    | nil => exact fun out he A O F led wr ρ env cx B R s Q E S k => wpAny_While (H.wh _ _ _ _ he _ _ _ _ _ _ _ cx B R s _ S fun f F1 led1 h1 tk1 pg S1 => k f _ _ _ _ pg S1)
    | cons => exact okN
  | For t it body els pos => induction els using List.casesOn with
    | nil =>
      refine okB fun x e1 out he A O F led wr ρ env cx B R s Q E S k => ?_
      have q := iterE_sound (s := s) (E := E) ok zi H.ev e1 cx B R S (Q := fun itv s₂ => codeAny (model d.prog d.w) A (.forLoop t itv body [] env) (fun r s' => match r with | .ok f => Q f s' | .error e => cameBackBy (model d.prog d.w) A env E e s') s₂) fun itv tt ρ1 F1 led1 O₁ h1 tk1 st1 R1 L htt =>
        have L2 := L.2 F1 led1 h1 (Le.refl _) L.1
        for_loop ok H.ex cx htt R1.lt.symm x.1 x.2 out { s with heap := h1, toks := tk1 } _ he (B.le st1.le) R1 L2.1 L2.2.1 fun f F3 led3 h3 tk3 pg S3 => k _ _ _ _ _ (pg.lift st1) S3
      exact wpAny_For q.2 (fun x => folded_pure q.1)
    | cons => exact okN
  | Return e pos => induction e using Option.casesOn with
    | none => exact okN
    | some e => exact okB fun p e1 => okS fun A O F led wr ρ env cx B R s Q E S k => wpAny_Return_some (goE H.ev e1 cx B R S fun u F1 led1 h1 tk1 ρ1 st1 hv R1 S1 B1 => Pg.to tk1 k (.ret hv) R1 st1 S1)
  | Break pos => exact okS fun A O F led wr ρ env cx B R s Q E S k => wpAny_Break (Pg.same s.toks k .brk R S)
  | Continue pos => exact okS fun A O F led wr ρ env cx B R s Q E S k => wpAny_Continue (Pg.same s.toks k .cont R S)
  | Pass pos => exact okS fun A O F led wr ρ env cx B R s Q E S k => wpAny_Pass (Pg.same s.toks k .next R S)
  | _ => exact okN
end
end Xm

open PySem PySem.W PySem.Calls PyProof.Rows PySem.Spec
namespace Xm
section
variable {d : D0} {ih : Ih} {n : Nat} {A : Around} {O F : PH} {led : Led} {wr ρ : List Addr} {env : Env} {σ : AS} {s : Shared} {E : Value → Shared → Prop}

theorem exsStep_sound (ok : Ok d) (kno : KnoIn d) (zi : ZipIn d) (H : Snd d ih n) : SndX d (exsStep d.tb ih) (n + 1) := by
  intro es
  induction es with
  | nil => exact fun σ => (okS fun A O F led wr ρ env cx B R s Q E S k => wpAny_execs_nil (Pg.same s.toks k .next R S) : Okay (some (.next, σ)) (AskE d (n + 1) (execs []) (FlR d) σ))
  | cons st r IH =>
    intro σ
    refine (?_ : Okay (bnd (exStep d.tb ih st σ) _) (AskE d (n + 1) (execs (st :: r)) (FlR d) σ))
    refine okB fun p e1 => ?_
    obtain ⟨fl, σ1⟩ := p
    have first : ∀ {A O F led wr ρ env} {s : Shared} {Q E}, Cx d A (n + 1) env → Base d F → IRel d env wr ρ σ F led → LSt F O led s.heap →
        (∀ f F' led' h' tk' ρ', Stp wr ρ F led ρ' F' led' → FlR d ρ' F' f fl → IRel d env wr ρ' σ1 F' led' → LSt F' O led' h' → Base d F' → Q f { s with heap := h', toks := tk' }) → wpAny (model d.prog d.w) A (exec st env) Q E s :=
      fun cx B R S k => exStep_sound ok kno zi H _ e1 _ _ _ _ _ _ _ (cx.down (Nat.le_succ n)) B R _ _ _ S (Pg.op B k)
    have stop : fl ≠ .next → AskE d (n + 1) (execs (st :: r)) (FlR d) σ (fl, σ1) := fun hn A O F led wr ρ env cx B R s Q E S k => wpAny_execs_cons (first cx B R S fun f F1 led1 h1 tk1 ρ1 st1 hf R1 S1 B1 => by
      have q := Pg.to tk1 k hf R1 st1 S1
      clear k first e1 R1
      induction hf using FlR.casesOn with
      | next => exact absurd rfl hn
      | _ => exact q)
    induction fl using Fl.casesOn with
    | next => exact fun out he A O F led wr ρ env cx B R s Q E S k => wpAny_execs_cons (first cx B R S fun f F1 led1 h1 tk1 ρ1 st1 hf R1 S1 B1 => by
        cases hf
        exact IH _ _ he _ _ _ _ _ _ _ cx B1 R1 _ _ _ S1 (Pg.next st1 k))
    | brk => exact okS (stop fun h => nomatch h)
    | cont => exact okS (stop fun h => nomatch h)
    | ret v => exact okS (stop fun h => nomatch h)
theorem whStep_sound (ok : Ok d) (kno : KnoIn d) (H : Snd d ih n) : SndW d (whStep ih) (n + 1) := by
  intro t b σ out he A O F led wr ρ env cx B R s Rr S k
  have cx := cx.down (Nat.le_succ n)
  refine bndE he fun p e1 he => codeAny_of_tree ?_
  refine (?_ : wpAny _ A ((whileTurn t b [] env).onRaise (fun x => do noteFrame x env; theTreesLotGoes x)) _ _ s)
  refine wpAny_noted (wpAny_bind (goT ok kno H.ev e1 cx B R S fun F1 led1 h1 tk1 ρ1 st1 R1 S1 B1 => ?_))
  refine ifE he (fun hp he => ?_) fun hp he => ?_
  · rw [hp]
    refine bndE he fun q e2 he => wpAny_bind (H.ex _ _ _ e2 _ _ _ _ _ _ _ cx B1 R1 { s with heap := h1, toks := tk1 } _ _ S1 fun f F2 led2 h2 tk2 p2 S2 => p2.elim fun ρ2 q2 => ?_)
    obtain ⟨st2, hf, R2⟩ := q2
    obtain ⟨fl, σ2⟩ := q
    replace hf : FlR d ρ2 F2 f fl := hf
    have again : ih.wh t b σ2 = some out → codeAny (model d.prog d.w) A (.whileLoop t b [] env) Rr { s with heap := h2, toks := tk2 } := fun he => H.wh _ _ _ _ he _ _ _ _ _ _ _ cx (B1.le st2.le) R2 _ _ S2 fun f F3 led3 h3 tk3 p3 S3 => k _ _ _ _ _ (p3.lift (st1.trans st2)) S3
    have stop : ∀ {f x}, FlR d ρ2 F2 f x → out = (x, σ2) → Rr (.ok f) { s with heap := h2, toks := tk2 } := fun hf ho => k _ _ _ _ _ (ho ▸ ⟨ρ2, st1.trans st2, hf, R2⟩) S2
    clear e2 k S1 R1 S2
    induction hf using FlR.casesOn with
    | next => exact wpAny_pure ⟨rfl, again he⟩
    | cont => exact wpAny_pure ⟨rfl, again he⟩
    | brk => exact wpAny_pure (stop .next (Option.some.inj he).symm)
    | ret hv => exact wpAny_pure (stop (.ret hv) (Option.some.inj he).symm)
  · rw [Bool.eq_false_iff.mpr hp]
    exact wpAny_bind (wpAny_execs_nil (wpAny_pure (k _ _ _ _ _ (Option.some.inj he ▸ ⟨ρ1, st1, .next, R1⟩) S1)))
end
end Xm

open PySem PySem.W PySem.Calls PyProof.Rows PySem.Spec
namespace Xm
open PyProof.Rows.LCg (NsObj ns_obj)
section
variable {d : D0} {ih : Ih} {n : Nat} {A : Around} {O F : PH} {led : Led} {wr ρ : List Addr} {env : Env} {σ : AS} {s : Shared} {E : Value → Shared → Prop}

theorem lookup_not {α : Type} {r : List (Str × α)} {x : Str} (h : x ∉ r.map (·.1)) : r.lookup x = none := Option.eq_none_iff_forall_not_mem.mpr fun u e => h (List.mem_map_of_mem (f := (·.1)) (lookup_pair e))
theorem bindL_at (kindOf : Str → Option NameKind) (binds : List (Str × Value)) (m : Str → Option Value) (x : Str) (h : (binds.map (·.1)).Nodup) (hk : kindOf x = some .local) : bindL kindOf binds m x = match binds.lookup x with | some v => some v | none => m x := by
  induction binds generalizing m with
  | nil => rfl
  | cons p r ih =>
    have h := List.nodup_cons.mp h
    show bindL kindOf r (if kindOf p.1 = some .local then fun y => if y = p.1 then some p.2 else m y else m) x = _
    rw [ih _ h.2, List.lookup_cons]
    by_cases hx : x = p.1
    · rw [lookup_not (hx ▸ h.1), show (x == p.1) = true from beq_iff_eq.mpr hx]
      exact (congrFun (if_pos (hx ▸ hk)) x).trans (if_pos hx)
    · rw [show (x == p.1) = false from beq_eq_false_iff_ne.mpr hx]
      induction r.lookup x using Option.casesOn with
      | some u => rfl
      | none =>
        by_cases hp : kindOf p.1 = some .local
        · exact (congrFun (if_pos hp) x).trans (if_neg hx)
        · exact congrFun (if_neg hp) x
theorem bindC_at (kindOf : Str → Option NameKind) (binds : List (Str × Value)) (m : Str → Option Value) (x : Str) (h : (binds.map (·.1)).Nodup) (hk : kindOf x ≠ some .local) : bindC kindOf binds m x = match binds.lookup x with | some v => some v | none => m x := by
  induction binds generalizing m with
  | nil => rfl
  | cons p r ih =>
    have h := List.nodup_cons.mp h
    show bindC kindOf r (if kindOf p.1 = some .local then m else fun y => if y = p.1 then some p.2 else m y) x = _
    rw [ih _ h.2, List.lookup_cons]
    by_cases hx : x = p.1
    · rw [lookup_not (hx ▸ h.1), show (x == p.1) = true from beq_iff_eq.mpr hx]
      exact (congrFun (if_neg (hx ▸ hk)) x).trans (if_pos hx)
    · rw [show (x == p.1) = false from beq_eq_false_iff_ne.mpr hx]
      induction r.lookup x using Option.casesOn with
      | some u => rfl
      | none =>
        by_cases hp : kindOf p.1 = some .local
        · exact congrFun (if_pos hp) x
        · exact (congrFun (if_neg hp) x).trans (if_neg hx)
theorem zip_lookup {xs : List Str} {vs : List Value} {avs : List AV} (hv : VRs d.prog d.w ρ F vs avs) {x : Str} {av : AV} (e : (xs.zip avs).lookup x = some av) : ∃ v, (xs.zip vs).lookup x = some v ∧ VR d.prog d.w ρ F v av := by
  induction xs generalizing vs avs with
  | nil => exact noS e
  | cons y r ih =>
    induction avs using List.casesOn with
    | nil => exact noS e
    | cons w avs =>
      refine VRs.consE hv fun v us h t => ?_
      rw [List.zip_cons_cons, List.lookup_cons] at e ⊢
      generalize (x == y) = c at e ⊢
      induction c using Bool.casesOn with
      | true => exact ⟨_, rfl, Option.some.inj e ▸ h⟩
      | false => exact ih t e
theorem zip_names {xs : List Str} {vs : List Value} (h : xs.length = vs.length) : (xs.zip vs).map (·.1) = xs := by
  induction xs generalizing vs with
  | nil => rfl
  | cons x r ih => induction vs using List.casesOn with
    | nil => exact nomatch h
    | cons v w => exact congrArg (x :: ·) (ih (Nat.succ.inj h))
/-- a function's end -/
theorem leave_sound (ok : Ok d) {a : Addr} {F₀ F' : PH} {led₀ led' : Led} {ρ₀ ρ' : List Addr} {ow ow' : List AO} {v : Value} {x : AV} {out : AV × List AO} {h : Heap} (e : leaveA d.tb a ρ₀.length x ow' = some out) (st : Stp [] ρ₀ F₀ led₀ ρ' F' led') (B : Base d F') (R : OwnR d ρ' ow' F' led') (hv : VR d.prog d.w ρ' F' v x) (S : LSt F' O led' h) :
    ∃ F2 led2, LSt F2 O led2 h ∧ CallP d ρ₀ F₀ led₀ out v F2 led2 := by
  have take : ρ'.take ρ₀.length = ρ₀ := st.ext.take
  refine ifE e (fun _ e => ?_) fun _ e => bndE e fun p e1 e => ?_
  · induction hv using VR.casesOn with
    | @loc b i hb =>
      refine iteE e fun hi e => bndE e fun o e1 e => someE e ?_
      have hbn : b ∉ ρ₀ := fun hm => (List.mem_iff_getElem?.mp hm).elim fun j hj => nodup_ne R.nd (st.ext j b hj) hb (Nat.ne_of_lt (Nat.lt_of_lt_of_le (List.getElem?_eq_some_iff.mp hj).1 hi)) rfl
      have R0 := R.take ρ₀.length
      rw [take] at R0
      have hl : (ow'.take ρ₀.length).length = ρ₀.length := R0.len.symm
      exact ⟨F', led', S, ρ₀ ++ [b], ⟨Ext.snoc _ _, st.le, st.keep, st.here, fun c hc n p hp => (List.mem_append.mp hc).elim (fun h => absurd h n) fun h => by rw [List.mem_singleton.mp h]; exact st.fresh _ (List.mem_iff_getElem?.mpr ⟨i, hb⟩) hbn p hp⟩, .loc List.getElem?_concat_length, R0.snoc hbn (R.at e1 hb)⟩
    | _ => exact noS e
  · refine someE e ((frzI_sound ok hv (show frzI ow' x = some (p.1, p.2) from e1) B R S).go fun F2 led2 S2 st2 R2 hq => ?_)
    have sA := st.trans st2
    have R0 := R2.take ρ₀.length
    rw [take] at R0
    exact ⟨F2, led2, S2, ρ₀, ⟨Ext.refl _, sA.le, sA.keep, sA.here, fun a h n => absurd h n⟩, .fz hq, R0⟩
end
end Xm

open PySem PySem.W PySem.Calls PyProof.Rows PySem.Spec
namespace Xm
open PyProof.Rows.LCg (NsObj ns_obj)
section
variable {d : D0} {ih : Ih} {n : Nat} {A : Around} {O F : PH} {led : Led} {wr ρ : List Addr} {env : Env} {σ : AS} {s : Shared} {E : Value → Shared → Prop}

theorem cells_led {h : Heap} {cm : Str → Option Value} {cs : List (Str × Addr)} (hh : ∀ p ∈ cs, h.IsCell p.2 (cm p.1)) : ∃ cl : Led, (∀ p ∈ cl, h.get? p.1 = some p.2 ∧ ∃ nm, (nm, p.1) ∈ cs) ∧ (∀ p ∈ cs, ∃ o, (p.2, o) ∈ cl ∧ o.data = .cell (cm p.1)) := by
  induction cs with
  | nil => exact ⟨[], (fun _ h => nomatch h), fun _ h => nomatch h⟩
  | cons q r ih =>
    obtain ⟨cl, h1, h2⟩ := ih fun p hp => hh p (.tail _ hp)
    obtain ⟨o, ho, hd⟩ := hh q (.head _)
    exact ⟨(q.2, o) :: cl, List.forall_mem_cons.mpr ⟨⟨ho, q.1, .head _⟩, fun p hp => ⟨(h1 p hp).1, (h1 p hp).2.imp fun _ b => .tail _ b⟩⟩, List.forall_mem_cons.mpr ⟨⟨o, .head _, hd⟩, fun p hp => (h2 p hp).imp fun _ x => ⟨.tail _ x.1, x.2⟩⟩⟩

/-- a function's frame -/
theorem fn_frame (ok : Ok d) {env : Env} {h' : Heap} {names : List (Str × NameKind)} {binds : List (Str × Value)} {bs : List (Str × AV)} {ow : List AO} {L : Addr} (hL : env.locals = L) (hsc : env.scope.names = names) (hLs : L = s.heap.objs.size)
    (x : InCallC s env.locals (bindL env.kindOf binds fun _ => none) env.cells (bindC env.kindOf binds fun _ => none) { s with heap := h' }) (hcn : (env.cells.map (·.1)).Nodup) (hbn : (binds.map (·.1)).Nodup)
    (hcs : ∀ nm, names.lookup nm = some .cell → ∃ c, env.cells.lookup nm = some c) (hkd : ∀ p ∈ binds, names.lookup p.1 = some .local ∨ names.lookup p.1 = some .cell)
    (hb : ∀ nm av, bs.lookup nm = some av → ∃ v, binds.lookup nm = some v ∧ VR d.prog d.w ρ F v av) (R : OwnR d ρ ow F led) (S : LSt F O led s.heap) :
    ∃ cl oL, LSt F O ((L, oL) :: cl ++ led) h' ∧ IRel d env (L :: env.cells.map (·.2)) ρ { sc := names, vars := bs, ow := ow } F ((L, oL) :: cl ++ led) ∧ (∀ p ∈ led, p.1 ≠ L ∧ ∀ q ∈ cl, q.1 ≠ p.1) ∧ (∀ p ∈ led, p.1 ∉ L :: env.cells.map (·.2)) := by
  obtain ⟨oL, hoL, hnL⟩ := ns_obj x.toInCall.ns
  subst hL
  have kp : ∀ b o, s.heap.get? b = some o → h'.get? b = some o := x.toInCall.keep
  obtain ⟨cl, c1, c2⟩ := cells_led (h := h') (cm := bindC env.kindOf binds fun _ => none) (cs := env.cells) fun p hp => x.cell p.1 p.2 (lookup_of_mem_nodup hcn hp)
  have frL := S.fresh (Nat.le_of_eq hLs.symm)
  have cmem : ∀ c ∈ env.cells, @LT.lt Nat _ env.locals c.2 := fun c hc => x.above c.1 c.2 hc
  have cab : ∀ p ∈ cl, @LT.lt Nat _ env.locals p.1 := fun p hp => (c1 p hp).2.elim fun nm hm => cmem _ hm
  have frC : ∀ p ∈ cl, F p.1 = none ∧ O p.1 = none ∧ ∀ q ∈ led, q.1 ≠ p.1 := fun p hp => S.fresh (Nat.le_of_lt (hLs ▸ cab p hp))
  have S' : LSt F O ((env.locals, oL) :: cl ++ led) h' :=
    ⟨fun b o e => kp _ _ (S.fz b o e), fun b o e => ⟨kp _ _ (S.ow b o e).1, (S.ow b o e).2⟩, fun p hp => (List.mem_append.mp hp).elim (fun hp => (List.mem_cons.mp hp).elim (fun e => e ▸ ⟨hoL, frL.1, frL.2.1⟩) fun hp => ⟨(c1 p hp).1, (frC p hp).1, (frC p hp).2.1⟩) fun hp => ⟨kp _ _ (S.ld p hp).1, (S.ld p hp).2⟩⟩
  have fr1 : ∀ p ∈ led, p.1 ≠ env.locals ∧ ∀ q ∈ cl, q.1 ≠ p.1 := fun p hp => ⟨frL.2.2 p hp, fun q hq e => (frC q hq).2.2 p hp e.symm⟩
  have hρ : ∀ a ∈ ρ, @LT.lt Nat _ a env.locals := fun a ha => hLs ▸ (R.memρ ha).elim (fun q => q.elim fun o ho => Heap.lt_size (S.ld _ ho).1) fun q => q.elim fun o ho => Heap.lt_size (S.fz _ _ ho)
  have ek : ∀ y, env.kindOf y = names.lookup y := fun y => by unfold Env.kindOf; rw [hsc]
  refine ⟨cl, oL, S', ⟨fun y => .inl (ek y), ⟨oL, _, .head _, hnL, fun y av e => (hb y av e).imp fun v q => ⟨?_, q.2⟩⟩, fun c hc => ⟨(c2 c hc).imp fun o q => ⟨_, List.mem_append.mpr (.inl (.tail _ q.1)), q.2⟩, fun e => Nat.lt_irrefl _ (e ▸ cmem c hc : @LT.lt Nat _ env.locals env.locals)⟩, fun a ha => ⟨fun e => Nat.lt_irrefl _ (e ▸ hρ a ha : @LT.lt Nat _ env.locals env.locals), fun c hc e => Nat.lt_irrefl a (Nat.lt_trans (hρ a ha) (e ▸ cmem c hc))⟩,
    fun y z c hy hz => ?_, .head _, fun y c _ hc => .tail _ (List.mem_map_of_mem (f := (·.2)) (lookup_pair hc)), hcs, fun a ha => (List.mem_cons.mp ha).imp id fun ha => (List.mem_map.mp ha).imp fun c q => q, ⟨fun i ao e => (R.own i ao e).imp fun b g => ⟨g.1, g.2.ofLed fun o h => List.mem_append.mpr (.inr h)⟩, R.len, R.nd, LSt.uq S'⟩⟩, fr1,
    fun p hp hm => (List.mem_cons.mp hm).elim (fr1 p hp).1 fun hm => (List.mem_map.mp hm).elim fun c q => (c2 c q.1).elim fun o ho => (fr1 p hp).2 _ ho.1 q.2⟩
  · refine (hkd _ (lookup_pair q.1)).elim (fun hk => .inl ⟨(ek y).trans hk, ?_⟩) fun hk => ?_
    · rw [bindL_at _ _ _ _ hbn ((ek y).trans hk), q.1]
    · obtain ⟨c, hc⟩ := hcs y hk
      obtain ⟨o, ho, hd⟩ := c2 _ (lookup_pair hc)
      refine .inr ⟨.inl ((ek y).trans hk), c, o, hc, List.mem_append.mpr (.inl (.tail _ ho)), hd.trans ?_⟩
      refine congrArg Data.cell (?_ : bindC env.kindOf binds (fun _ => none) y = _)
      rw [bindC_at _ _ _ _ hbn (fun h => nomatch ((ek y).trans hk).symm.trans h), q.1]
  · refine Classical.byContradiction fun hyz => ?_
    obtain ⟨i, hi⟩ := List.mem_iff_getElem?.mp (lookup_pair hy)
    obtain ⟨j, hj⟩ := List.mem_iff_getElem?.mp (lookup_pair hz)
    obtain ⟨hi', e1⟩ := List.getElem?_eq_some_iff.mp hi
    obtain ⟨hj', e2⟩ := List.getElem?_eq_some_iff.mp hj
    have ap := List.pairwise_iff_getElem.mp x.apart
    refine (Nat.lt_or_gt_of_ne (fun h => ?_ : i ≠ j)).elim (fun h => ap i j hi' hj' h (by rw [e1, e2])) fun h => ap j i hj' hi' h (by rw [e1, e2])
    exact hyz (congrArg Prod.fst (Option.some.inj (hi.symm.trans (h ▸ hj))))
end
end Xm

open PySem PySem.W PySem.Calls PyProof.Rows PySem.Spec
namespace Xm
open PyProof.Rows.LCg (NsObj ns_obj)
section
variable {d : D0} {ih : Ih} {n : Nat} {A : Around} {O F : PH} {led : Led} {wr ρ : List Addr} {env : Env} {σ : AS} {s : Shared} {E : Value → Shared → Prop}

theorem VFs.drop {G : PH} {vs : List Value} {xs : List FV} (k : Nat) (h : VFs d.prog d.w G vs xs) : VFs d.prog d.w G (vs.drop k) (xs.drop k) := by
  induction xs generalizing vs k with
  | nil => exact VFs.nilE h (by rw [List.drop_nil, List.drop_nil]; exact .nil)
  | cons x xs ih => induction k using Nat.casesOn with
    | zero => exact h
    | succ k => exact VFs.consE h fun v us h t => ih k t
theorem args_fit {a b c dn : Nat} (h1 : a ≤ b) (h2 : b ≤ a + c) (e : dn = c) : b = a + (dn - (a + c - b)) := by
  obtain ⟨k, rfl⟩ := Nat.exists_eq_add_of_le h1
  rw [e, Nat.add_sub_add_left, Nat.sub_sub_self (Nat.le_of_add_le_add_left h2)]
/-- what a function's frame binds -/
theorem bind_args {f : FnI} {args : List AV} {bs : List (Str × AV)} {vs dv : List Value} (e2 : bindV f args = some bs) (hv : VRs d.prog d.w ρ F vs args) (hdv : VFs d.prog d.w F dv f.dfl) (hdl : dv.length = f.dfl.length) :
    vs.length ≤ f.args.length ∧ f.args.length ≤ vs.length + dv.length ∧ (f.args.zip (vs ++ dv.drop (vs.length + dv.length - f.args.length))).map (·.1) = f.args ∧ ∀ nm av, bs.lookup nm = some av → ∃ v, (f.args.zip (vs ++ dv.drop (vs.length + dv.length - f.args.length))).lookup nm = some v ∧ VR d.prog d.w ρ F v av := by
  have hvl := hv.length
  refine iteE e2 fun h e2 => ?_
  rw [hvl, hdl]
  refine ⟨h.1, h.2, zip_names ?_, fun nm av e => zip_lookup (hv.append (hdv.drop _).toR) (Option.some.inj e2 ▸ e)⟩
  rw [List.length_append, List.length_drop, hvl]
  exact args_fit h.1 h.2 hdl
theorem Ok.depth (ok : Ok d) {k : Nat} (h : A.depth + 1 + k ≤ d.dm) : A.depth < recursionLimit := Nat.lt_of_le_of_lt (Nat.le_trans (Nat.le_trans (Nat.le_add_right _ 1) (Nat.le_add_right _ k)) (Nat.le_trans h (Nat.le_add_right _ 50))) ok.dm
/-- a function of the program is entered -/
theorem enter_fn (ok : Ok d) {a : Addr} {f : FnI} {args : List AV} {bs : List (Str × AV)} {vs : List Value} {ow : List AO} (fo : FOk d a f) (e2 : bindV f args = some bs) (hh : A.handled = none) (hdep : A.depth + 1 + 2 * n ≤ d.dm) (hun : A.units + 3 + 4 * n ≤ d.um) (B : Base d F) (hv : VRs d.prog d.w ρ F vs args) (R : OwnR d ρ ow F led) (S : LSt F O led s.heap) {Rr : Result → Shared → Prop}
    (k : ∀ (env' : Env) (led₁ : Led) (h₁ : Heap) (tk : Nat) (Q' : Flow → Shared → Prop) (E' : Value → Shared → Prop), Cx d (A.deeper env') n env' → IRel d env' (env'.locals :: env'.cells.map (·.2)) ρ { sc := f.sc, vars := bs, ow := ow } F led₁ → LSt F O led₁ h₁ → (∀ p ∈ led, p ∈ led₁ ∧ p.1 ∉ env'.locals :: env'.cells.map (·.2)) →
      (∀ v s', Rr (.ok (.ret v)) s' → Q' (.ret v) s') → (∀ s', Rr (.ok (.ret .none)) s' → Q' .next s') → wpAny (model d.prog d.w) (A.deeper env') (execs f.body env') Q' E' { s with heap := h₁, toks := tk }) : codeAny (model d.prog d.w) A (.call (.ref a) ⟨vs, []⟩) Rr s := by
  obtain ⟨oc, od, name, qual, params, scope, dV, kV, doc, pm, an, cdv, ct, osl, hK, hcd, hsn, hkind, hco, hgen, hnd, hargs, hargsnd, dv, hdl, hdv, hbind⟩ := fo
  have kp := B.keeps S
  have X := ok.X.keeps kp
  obtain ⟨g1, g2, hnames, hlook⟩ := bind_args e2 hv (hdv F B) hdl
  have hb := hbind s X vs g1 g2
  generalize f.args.zip (vs ++ dv.drop (vs.length + dv.length - f.args.length)) = binds at hnames hlook hb
  have hkd : ∀ p ∈ binds, f.sc.lookup p.1 = some .local ∨ f.sc.lookup p.1 = some .cell := fun p hp => hargs _ (hnames ▸ List.mem_map_of_mem (f := (·.1)) hp)
  refine codeAny_call_function (fd := fnOf name qual params f.body scope dV kV doc pm an cdv ct) (body := f.body) (ok.depth hdep) (X _ _ hK) rfl hco hgen rfl (codeRec_of X hcd) (hb _ _ _ _ ?_)
  refine wpAny_newFunctionEnv_cells hkind (fun x hx => by rw [hsn]; exact (hkd x hx).imp id fun h => ⟨h, cellsFrom_some _ _ _ (.inl h)⟩) fun env' he' s' x => ?_
  obtain ⟨h₁, tk, rfl, _⟩ := x.done
  refine ⟨(ok.nl.keeps kp).keeps x.toInCall.keep, codeAny_func ?_⟩
  have hEL : env'.locals = s.heap.objs.size := by rw [he']; rfl
  have hEsc : env'.scope = scope := by rw [he']; rfl
  have hEc : env'.cells = cellsFrom (s.heap.objs.size + 1) scope.names [] := by rw [he']; rfl
  obtain ⟨cl, oL, S', R', fr1, fr2⟩ := fn_frame (env := env') (names := f.sc) (bs := bs) ok rfl (by rw [hEsc, hsn]) hEL (x.tok _) (by rw [hEc, cellsFrom_names scope.names (s.heap.objs.size + 1) 0 [] [] rfl]; exact hnd) (by rw [hnames]; exact hargsnd)
    (fun nm h => (Option.isSome_iff_exists.mp (cellsFrom_some (x := nm) scope.names (s.heap.objs.size + 1) [] (.inl (by rw [hsn]; exact h)))).imp fun c hc => hEc ▸ hc) hkd hlook R S
  exact k env' _ h₁ tk _ _ ⟨hh, hdep, hun, by rw [hEsc]; exact hkind, by rw [he']; rfl, by rw [he']; rfl⟩ R' S' (fun p hp => ⟨List.mem_append.mpr (.inr hp), fr2 p hp⟩) (fun v s' h => h) fun s' h => h
theorem Stp.inner {led₁ : Led} {ρ' : List Addr} {F' : PH} {led' : Led} {wr : List Addr} (st : Stp wr ρ F led₁ ρ' F' led') (fr : ∀ p ∈ led, p ∈ led₁ ∧ p.1 ∉ wr) : Stp [] ρ F led ρ' F' led' :=
  ⟨st.ext, st.le, fun p hp n _ => st.keep p (fr p hp).1 n (fr p hp).2, fun p hp n => st.here p (fr p hp).1 n, fun c hc n p hp => st.fresh c hc n p (fr p hp).1⟩
theorem in_depth {k n m : Nat} (h : k + 2 * (n + 1) ≤ m) : k + 1 + 2 * n ≤ m := Nat.le_of_succ_le (Nat.le_trans (Nat.le_of_eq (congrArg Nat.succ (Nat.add_right_comm k 1 (2 * n)))) h)
theorem in_units {k n m : Nat} (h : k + 4 * (n + 1) ≤ m) : k + 3 + 4 * n ≤ m := Nat.le_of_succ_le (Nat.le_trans (Nat.le_of_eq (congrArg Nat.succ (Nat.add_right_comm k 3 (4 * n)))) h)
theorem clStep_sound (ok : Ok d) (H : Snd d ih n) : SndC d (clStep d.tb ih) (n + 1) := by
  intro a args ow out he A O F led ρ vs hh hdep hun B hv R s Q E S k
  refine bndE he fun f e1 he => bndE he fun bs e2 he => bndE he fun p e3 he => wpAny_call (enter_fn ok (ok.F _ _ e1) e2 hh (in_depth hdep) (in_units hun) B hv R S fun env' led₁ h₁ tk Q' E' cx R' S' fr q1 q2 =>
    H.ex _ _ _ e3 (A.deeper env') O F _ _ ρ env' cx B R' { s with heap := h₁, toks := tk } _ _ S' fun fl F' led' h' tk' pg S2 => pg.elim fun ρ' q => ?_)
  obtain ⟨st, hf, R2⟩ := q
  have st0 := st.inner fr
  obtain ⟨fl', σ'⟩ := p
  have fin : ∀ (v : Value) (x : AV), VR d.prog d.w ρ' F' v x → leaveA d.tb a ow.length x σ'.ow = some out → Q v { s with heap := h', toks := tk' } := fun v x hv e =>
    (leave_sound (ow := ow) ok (R.len ▸ e) st0 (B.le st.le) R2.own hv S2).elim fun F3 q => q.elim fun led3 q => k v F3 led3 h' tk' q.2 q.1
  replace hf : FlR d ρ' F' fl fl' := hf
  clear e3 k st0 R2 S2 st cx S' R' fr
  induction hf using FlR.casesOn with
  | next => exact q2 _ (fin .none (.fz .none) (.fz .none) he)
  | ret hv => exact q1 _ _ (fin _ _ hv he)
  | _ => exact noS he
end
end Xm

open PySem PySem.W PySem.Calls PyProof.Rows PySem.Spec
namespace Xm
theorem mem_dedup {i : Nat} {l : List Nat} : i ∈ dedup l ↔ i ∈ l := by
  induction l with
  | nil => exact Iff.rfl
  | cons j r ih =>
    unfold dedup
    by_cases h : (dedup r).contains j = true
    · rw [if_pos h, ih, List.mem_cons]
      exact ⟨.inr, fun q => q.elim (fun e => e ▸ ih.mp (e ▸ List.contains_iff_mem.mp h)) id⟩
    · rw [if_neg h, List.mem_cons, List.mem_cons, ih]
theorem nodup_dedup {l : List Nat} : (dedup l).Nodup := by
  induction l with
  | nil => exact List.nodup_nil
  | cons j r ih =>
    unfold dedup
    by_cases h : (dedup r).contains j = true
    · rw [if_pos h]; exact ih
    · rw [if_neg h]; exact List.nodup_cons.mpr ⟨fun q => h (List.contains_iff_mem.mpr q), ih⟩
theorem pick_some {α : Type} {l : List α} {is : List Nat} : Okay (pick l is) fun os => os.length = is.length ∧ ∀ (j i : Nat), is[j]? = some i → os[j]? = l[i]? ∧ i < l.length := by
  induction is with
  | nil => exact okS ⟨rfl, fun j i h => noS h⟩
  | cons k r ih =>
    refine okB fun o e1 => okB fun t e2 => okS ⟨congrArg Nat.succ (ih _ e2).1, fun j i h => ?_⟩
    induction j using Nat.casesOn with
    | zero => exact Option.some.inj h ▸ ⟨e1.symm, (List.getElem?_eq_some_iff.mp e1).1⟩
    | succ j => exact (ih _ e2).2 j i h
theorem pick_of {α : Type} {l : List α} {is : List Nat} (h : ∀ i ∈ is, i < l.length) : ∃ os, pick l is = some os := by
  induction is with
  | nil => exact ⟨[], rfl⟩
  | cons k r ih =>
    obtain ⟨t, e⟩ := ih fun i hi => h i (.tail _ hi)
    refine ⟨l[k]'(h k (.head _)) :: t, ?_⟩
    unfold pick
    rw [List.getElem?_eq_getElem (h k (.head _)), e]; rfl
theorem putBack_other {i : Nat} {is : List Nat} {os ow : List AO} (h : i ∉ is) : (putBack is os ow)[i]? = ow[i]? := by
  induction is generalizing os ow with
  | nil => rfl
  | cons k r ih => induction os using List.casesOn with
    | nil => rfl
    | cons o t => exact (ih fun q => h (.tail _ q)).trans (List.getElem?_set_ne fun (e : k = i) => h (e ▸ List.Mem.head _))
theorem putBack_length {is : List Nat} {os ow : List AO} : (putBack is os ow).length = ow.length := by
  induction is generalizing os ow with
  | nil => rfl
  | cons k r ih => induction os using List.casesOn with
    | nil => rfl
    | cons o t => exact ih.trans List.length_set
theorem putBack_at {is : List Nat} {os ow : List AO} (hn : is.Nodup) (hl : os.length = is.length) (hr : ∀ i ∈ is, i < ow.length) (j i : Nat) (h : is[j]? = some i) : (putBack is os ow)[i]? = os[j]? := by
  induction is generalizing os ow j with
  | nil => exact noS h
  | cons k r ih => induction os using List.casesOn with
    | nil => exact nomatch hl
    | cons o t =>
      have hn := List.nodup_cons.mp hn
      induction j using Nat.casesOn with
      | zero =>
        have h : k = i := Option.some.inj h
        subst h
        exact (putBack_other hn.1).trans (List.getElem?_set_self (hr _ (.head _)))
      | succ j => exact ih hn.2 (Nat.succ.inj hl) (fun i hi => Nat.lt_of_lt_of_eq (hr i (.tail _ hi)) List.length_set.symm) j h
section
variable {prog : Program} {w : World} {ρ ρs : List Addr} {F : PH} {is : List Nat}
theorem idx_at (hs : ∀ (j i : Nat), is[j]? = some i → ρs[j]? = ρ[i]?) {i : Nat} (h : i ∈ is) : ρs[is.idxOf i]? = ρ[i]? := by
  have hlt := List.idxOf_lt_length_of_mem h
  exact hs _ _ (by rw [List.getElem?_eq_getElem hlt, List.getElem_idxOf hlt])
theorem VR.rens (hs : ∀ (j i : Nat), is[j]? = some i → ρs[j]? = ρ[i]?) : (∀ {v x}, VR prog w ρ F v x → (∀ i ∈ locsV x, i ∈ is) → VR prog w ρs F v (renV is x)) ∧ (∀ {vs xs}, VRs prog w ρ F vs xs → (∀ i ∈ locsVs xs, i ∈ is) → VRs prog w ρs F vs (renVs is xs)) ∧ (∀ {vs xs}, VRd prog w ρ F vs xs → (∀ i ∈ locsVd xs, i ∈ is) → VRd prog w ρs F vs (renVd is xs)) :=
  VR.ind (m1 := fun v x => (∀ i ∈ locsV x, i ∈ is) → VR prog w ρs F v (renV is x)) (m2 := fun vs xs => (∀ i ∈ locsVs xs, i ∈ is) → VRs prog w ρs F vs (renVs is xs)) (m3 := fun vs xs => (∀ i ∈ locsVd xs, i ∈ is) → VRd prog w ρs F vs (renVd is xs))
    (fun h _ => .fz h) (fun h c d r m => .tup h c d (r m)) (fun h h' d r m => .inst h h' d (r m)) (fun h m => .loc ((idx_at hs (m _ (.head _))).trans h)) (fun _ => .nil)
    (fun h r m => .cons (h fun i hi => m i (List.mem_append.mpr (.inl hi))) (r fun i hi => m i (List.mem_append.mpr (.inr hi)))) (fun _ => .nil) (fun h r m => .cons (h fun i hi => m i (List.mem_append.mpr (.inl hi))) (r fun i hi => m i (List.mem_append.mpr (.inr hi))))
end
theorem Ext.same {ρ ρ' : List Addr} (x : Ext ρ ρ') (h : ρ'.length = ρ.length) : ρ' = ρ := by
  have := x.take
  rw [← h, List.take_length] at this
  exact this
/-- the places that a call's arguments name -/
theorem OwnR.pick {d : D0} {ρ ρs : List Addr} {ow os : List AO} {F : PH} {led : Led} {is : List Nat} (R : OwnR d ρ ow F led) (nd : is.Nodup) (l1 : os.length = is.length) (p1 : ∀ (j i : Nat), is[j]? = some i → os[j]? = ow[i]? ∧ i < ow.length) (l2 : ρs.length = is.length) (hs : ∀ (j i : Nat), is[j]? = some i → ρs[j]? = ρ[i]?) : OwnR d ρs os F led := by
  refine ⟨fun j ao e => ?_, l2.trans l1.symm, ?_, R.fz⟩
  · have hi := List.getElem?_eq_getElem (l1 ▸ (List.getElem?_eq_some_iff.mp e).1 : j < is.length)
    exact (R.own _ ao ((p1 j _ hi).1.symm.trans e)).imp fun b g => ⟨(hs j _ hi).trans g.1, g.2⟩
  · rw [List.nodup_iff_pairwise_ne, List.pairwise_iff_getElem]
    intro j k hj hk hjk e
    have i1 := List.getElem?_eq_getElem (l2 ▸ hj : j < is.length)
    have i2 := List.getElem?_eq_getElem (l2 ▸ hk : k < is.length)
    refine nodup_ne R.nd ((hs j _ i1).symm.trans (List.getElem?_eq_getElem hj)) ((hs k _ i2).symm.trans (List.getElem?_eq_getElem hk)) (fun q => ?_) e.symm
    exact Nat.ne_of_lt hjk ((List.getElem?_inj (l2 ▸ hj) nd).mp (i1.trans ((congrArg some q).trans i2.symm)))
theorem clF_sound {d : D0} {ih : Ih} {n : Nat} (ok : Ok d) (H : Snd d ih n) : SndC d (clF d.tb ih) (n + 1) := by
  intro a args ow out he
  refine ifE he (fun _ he => clStep_sound ok H a args ow out he) fun _ he => bndE he fun os e1 he => bndE he fun q e2 he => ?_
  obtain ⟨qv, q2⟩ := q
  induction qv using AV.casesOn with
  | fz t =>
    refine iteE he fun hlen he => someE he ?_
    intro A O F led ρ vs hh hdep hun B hv R
    obtain ⟨l1, p1⟩ := pick_some _ e1
    have nd : (dedup (locsVs args)).Nodup := nodup_dedup
    have mem : ∀ i ∈ locsVs args, i ∈ dedup (locsVs args) := fun i hi => mem_dedup.mpr hi
    clear he
    generalize dedup (locsVs args) = is at *
    have inR : ∀ i ∈ is, i < ow.length := fun i hi => (List.mem_iff_getElem?.mp hi).elim fun j hj => (p1 j i hj).2
    obtain ⟨ρs, e3⟩ := pick_of (l := ρ) (is := is) fun i hi => R.len ▸ inR i hi
    obtain ⟨l2, p2⟩ := pick_some _ e3
    have hs : ∀ (j i : Nat), is[j]? = some i → ρs[j]? = ρ[i]? := fun j i h => (p2 j i h).1
    refine (clStep_sound ok H a _ os _ e2 A O F led ρs vs hh hdep hun B ((VR.rens hs).2.1 hv mem) (R.pick nd l1 p1 l2 hs)).mono fun v F' led' cp => cp.elim fun ρ' q => ?_
    obtain ⟨st, hv', R'⟩ := q
    have hρ : ρ' = ρs := st.ext.same (R'.len.trans ((eq_of_beq hlen).trans (l1.trans l2.symm)))
    subst hρ
    have sub : ∀ b ∈ ρ', ∃ (j i : Nat), is[j]? = some i ∧ ρ[i]? = some b := fun b hb => (List.mem_iff_getElem?.mp hb).elim fun j hj =>
      have hi := List.getElem?_eq_getElem (l2 ▸ (List.getElem?_eq_some_iff.mp hj).1 : j < is.length)
      ⟨j, _, hi, (hs j _ hi).symm.trans hj⟩
    have sub' : ∀ b ∈ ρ', b ∈ ρ := fun b hb => (sub b hb).elim fun j q => q.elim fun i q => List.mem_iff_getElem?.mpr ⟨i, q.2⟩
    refine ⟨ρ, ⟨Ext.refl _, st.le, fun p hp n m => st.keep p hp (fun h => n (sub' _ h)) m, fun p hp n => st.here p hp fun h => n (sub' _ h), fun b h n => absurd h n⟩, .fz hv'.fz_inv, ⟨fun i ao e => ?_, R.len.trans putBack_length.symm, R.nd, R'.fz⟩⟩
    by_cases hi : i ∈ is
    · obtain ⟨j, hj⟩ := List.mem_iff_getElem?.mp hi
      exact (R'.own j ao ((putBack_at nd ((eq_of_beq hlen).trans l1) inR j i hj).symm.trans e)).imp fun b g => ⟨(hs j i hj).symm.trans g.1, g.2⟩
    · refine (R.own i ao ((putBack_other hi).symm.trans e)).imp fun b g => ⟨g.1, (g.2.mono ok.kn st.le).ofLed fun o ho => st.keep _ ho (fun h => ?_) fun h => nomatch h⟩
      exact (sub b h).elim fun j q => q.elim fun k q => hi ((List.getElem?_inj (List.getElem?_eq_some_iff.mp g.1).1 R.nd).mp (g.1.trans q.2.symm) ▸ List.mem_iff_getElem?.mpr ⟨j, q.1⟩)
  | _ => exact noS he
end Xm

open PySem PySem.W PySem.Calls PyProof.Rows PySem.Spec
namespace Xm
/-- the interpreter is sound -/
theorem snd_run {d : D0} (ok : Ok d) (kno : KnoIn d) (zi : ZipIn d) (hN : ∀ n ih, Snd d ih n → NewS d ih n) (n : Nat) : Snd d (run d.tb n) n := by
  induction n with
  | zero => exact ⟨fun e σ out => noS, fun e σ out => noS, fun t b σ out => noS, fun a args ow out => noS⟩
  | succ n H => exact ⟨evStep_sound ok kno zi H (hN n _ H), exsStep_sound ok kno zi H, whStep_sound ok kno H, clF_sound ok H⟩
end Xm

open PySem PySem.W PySem.Calls PyProof.Rows PySem.Spec
namespace Xm
section
variable {prog : Program} {w : World} {A : Around} {E : Value → Shared → Prop} {s : Shared} {K : Frag} {C x dx : Addr}
/-- an attribute stored in an object's own dict -/
theorem osa_attr {name : Str} {v : Value} {tk : Tok} {od : Obj} {es : Array DictEntry} {n : Nat} {R : Result → Shared → Prop} (X : K.In s.heap) (hx : s.heap.get? x = some (instObj C dx)) (hD : s.heap.get? dx = some od) (hod : od.data = .dict es n)
    (hp : plainOver K C = true) (ht : takerIn K C name = some none) (hh : hasDictIn K C = true) (hl : (lookIn name od).isSome = true)
    (hf : ∀ h k, (Obj.putName name h k v od).isFreed = false) (hz : ∀ h k, ∃ es' n', (Obj.putName name h k v od).data = .dict es' n' ∧ es'.size ≤ 1000)
    (h : ∀ h' tk', Heap.SameBut dx s.heap h' → h'.get? dx = some (Obj.putName name (PyData.keyHash w.params name) (.str name s.toks) v od) → R (.ok (.ret .none)) { s with heap := h', toks := tk' }) :
    codeAny (model prog w) A (.call (.builtin "object.__setattr__") ⟨[.ref x, .str name tk, v], []⟩) R s := by
  have I : InstAt s.heap x (instObj C dx) C (some od) := ⟨hx, rfl, rfl, hD⟩
  refine osa_open X I hp ht fun b => ?_
  obtain ⟨cd, hc, hd'⟩ := any_some (show (clsIn K C).any (·.hasDict) = true from hh)
  refine wpAny_bind (wpAny_pure (wpAny_bind (wpAny_bind (wpAny_loadPart hx (wpAny_bind ((looks_clsIn X hc).here ?_))))))
  rw [hd']
  refine wpAny_pure (a := some dx) (wpAny_bind (wpAny_pure (wpAny_bind ?_)))
  unfold nsSet
  refine wpAny_bind (wpAny_bind (wpAny_askSetting (wpAny_pure (wpAny_bind (wpAny_mkText (wpAny_bind (wpAny_loadPart hD ?_)))))))
  unfold lookIn at hl
  rw [hod] at hl ⊢
  dsimp only at hl ⊢
  have c : (!es.any (·.key.isStr name) && es.any (·.refKey)) = false := by
    rw [← Array.any_toList, ← Array.any_toList]
    generalize he : es.toList.find? (fun e => e.key.isStr name) = z at hl
    induction z using Option.casesOn with
    | some en => rw [List.any_eq_true.mpr ⟨en, List.mem_of_find?_eq_some he, List.find?_some he⟩]; rfl
    | none =>
      by_cases z : es.toList.any (·.refKey) = true
      · exact absurd ((congrArg Option.isSome (if_pos z)).symm.trans hl) Bool.noConfusion
      · rw [Bool.eq_false_iff.mpr z, Bool.and_false]
  rw [aRefKeyMayBeTheName_at, c]
  have e' : (s.heap.update dx (Obj.putName name (PyData.keyHash w.params name) (.str name s.toks) v)).get? dx = some (Obj.putName name (PyData.keyHash w.params name) (.str name s.toks) v od) := Heap.get?_update_self _ hD (hf _ _)
  refine wpAny_updatePart hD ?_
  obtain ⟨es', n', h1, h2⟩ := hz (PyData.keyHash w.params name) (.str name s.toks)
  refine wpAny_bind (wpAny_lookBehind e' (by rw [h1]; exact pastItsLine_dict (by rw [sizeLine_eq]; omega)) ?_)
  exact wpAny_pure (h _ _ (Heap.SameBut.update ..) e')
theorem set_attr {name : Str} {v : Value} {od : Obj} {es : Array DictEntry} {n : Nat} {Q : Unit → Shared → Prop} (X : K.In s.heap) (hx : s.heap.get? x = some (instObj C dx)) (hD : s.heap.get? dx = some od) (hod : od.data = .dict es n)
    (hs : findIn K (.ref C) "__setattr__" = some (some (.builtin "object.__setattr__"))) (hp : plainOver K C = true) (ht : takerIn K C name = some none) (hh : hasDictIn K C = true) (hl : (lookIn name od).isSome = true)
    (hf : ∀ h k, (Obj.putName name h k v od).isFreed = false) (hz : ∀ h k, ∃ es' n', (Obj.putName name h k v od).data = .dict es' n' ∧ es'.size ≤ 1000)
    (h : ∀ h' tk, Heap.SameBut dx s.heap h' → h'.get? dx = some (Obj.putName name (PyData.keyHash w.params name) (.str name (s.toks + 1)) v od) → Q () { s with heap := h', toks := tk }) :
    wpAny (model prog w) A (setAttr (.ref x) name v) Q E s := by
  have I : InstAt s.heap x (instObj C dx) C (some od) := ⟨hx, rfl, rfl, hD⟩
  exact set_plain X I hs (osa_attr (s := { s with toks := s.toks + 1 }) X hx hD hod hp ht hh hl hf hz fun h' tk' a b => h h' tk' a b)
theorem pairs_snoc {Ky : Type} [DecidableEq Ky] {knd : KeyKind prog w Ky} {l : List DictEntry} {kvs : List (Ky × Value)} (h : Pairs knd l kvs) {e : DictEntry} {k : Ky} (hk : knd.is k e.key = true) : Pairs knd (l ++ [e]) (kvs ++ [(k, e.val)]) := by
  induction h with
  | nil => exact Pairs.cons (kv := (k, e.val)) hk rfl Pairs.nil
  | cons h1 h2 _ ih => exact Pairs.cons h1 h2 ih
theorem put_new {od : Obj} {kvs : List (Str × Value)} {name : Str} {v : Value} {tk : Tok} (h : od.IsDictOf (strKind prog w) kvs) (hn : valueAt kvs name = none) (hl : kvs.length ≤ 900) :
    (Obj.putName name (PyData.keyHash w.params name) (.str name tk) v od).IsDictOf (strKind prog w) (kvs ++ [(name, v)]) ∧ ∀ hs k, (Obj.putName name hs k v od).isFreed = false ∧ ∃ es' n', (Obj.putName name hs k v od).data = .dict es' n' ∧ es'.size ≤ 1000 := by
  obtain ⟨es, ep, hx, hd, hk, hp, hnd⟩ := h
  obtain ⟨c, dd, data, sl⟩ := od
  dsimp only at hd
  subst hd
  have hf := hp.find name
  rw [hn, Option.map_eq_none_iff] at hf
  have hi : es.findIdx? (fun e => e.key.isStr name) = none :=
    Array.findIdx?_eq_none_iff.mpr fun e he => (isStr_of name e.key).trans (Bool.eq_false_iff.mpr (List.find?_eq_none.mp hf e (Array.mem_toList_iff.mpr he)))
  have e1 : ∀ hs k, Obj.putName name hs k v ⟨c, dd, .dict es ep, sl⟩ = ⟨c, dd, .dict (es.push ⟨hs, k, v⟩) (ep + 1), sl⟩ := fun hs k => by
    rw [Obj.putName_eq]
    unfold Obj.putNameByArray
    dsimp only
    rw [hi]
  have hlen : es.size = kvs.length := Array.length_toList.symm.trans hp.length
  refine ⟨?_, fun hs k => ⟨by rw [e1]; rfl, _, _, by rw [e1], by rw [Array.size_push, hlen]; exact Nat.le_trans (Nat.succ_le_succ hl) (by decide)⟩⟩
  rw [e1]
  refine ⟨_, _, hx, rfl, fun e he => (Array.mem_push.mp he).elim (hk e) fun he => he ▸ ⟨name, strKind_is _ _ name tk, rfl⟩, by rw [Array.toList_push]; exact pairs_snoc hp (strKind_is _ _ name tk), ?_⟩
  rw [List.map_append]
  refine List.nodup_append.mpr ⟨hnd, List.nodup_cons.mpr ⟨List.not_mem_nil, List.nodup_nil⟩, fun a ha b hb e => ?_⟩
  obtain ⟨p, hp', hpa⟩ := List.mem_map.mp ha
  refine List.find?_eq_none.mp (Option.map_eq_none_iff.mp hn) p hp' (decide_eq_true (hpa.trans (e.trans (List.mem_singleton.mp hb))))
end
end Xm

open PySem PySem.W PySem.Calls PyProof.Rows PySem.Spec
namespace Xm
section
variable {d : D0} {ih : Ih} {n : Nat} {A : Around} {O F : PH} {led : Led} {wr ρ : List Addr} {env : Env} {σ : AS} {s : Shared} {E : Value → Shared → Prop}

/-- the new object's dict, while __init__ runs -/
noncomputable def DxAt (d : D0) (dx : Addr) (es : List (Str × AV)) (ρ : List Addr) (F : PH) (led : Led) : Prop := dx ∉ ρ ∧ ∃ od kvs, (dx, od) ∈ led ∧ od.IsDictOf (strKind d.prog d.w) kvs ∧ VRd d.prog d.w ρ F kvs es
theorem DxAt.step {dx : Addr} {es : List (Str × AV)} {ρ' : List Addr} {F' : PH} {led' : Led} (h : DxAt d dx es ρ F led) (st : Stp wr ρ F led ρ' F' led') (hw : dx ∉ wr) : DxAt d dx es ρ' F' led' :=
  h.2.elim fun od q => q.elim fun kvs q => ⟨fun m => st.fresh dx m h.1 _ q.1 rfl, od, kvs, st.keep _ q.1 h.1 hw, q.2.1, q.2.2.mono st.ext st.le⟩
theorem selfTgt_is {t : Expr} : Okay (selfTgt t) fun ae => ∃ p s sp, t = .Attribute ae.2 ae.1 p ∧ ae.2 = .Name s sp := by
  induction t using PySem.Expr.casesOn with
  | Attribute e a p => induction e using PySem.Expr.casesOn with
    | Name s sp => exact okS ⟨p, s, sp, rfl, rfl⟩
    | _ => exact okN
  | _ => exact okN
theorem isSelf_is {ow : List AO} {k : Nat} {y : AV} (h : isSelf ow k y = true) : y = .loc k := by
  induction y using AV.casesOn with
  | loc i => exact congrArg AV.loc (eq_of_beq (Bool.and_eq_true_iff.mp h).1)
  | _ => exact Bool.noConfusion h
theorem any_lookup {es : List (Str × AV)} {a : Str} (h : (!(es.any fun p => p.1 == a)) = true) : es.lookup a = none := Option.eq_none_iff_forall_not_mem.mpr fun y q =>
  Bool.noConfusion ((congrArg (!·) (List.any_eq_true.mpr ⟨(a, y), lookup_pair q, beq_self_eq_true a⟩)).symm.trans h)
/-- one attribute is stored -/
theorem store_attr (ok : Ok d) {C x dx : Addr} {a : Str} {es : List (Str × AV)} {u : Value} {y : AV} {names : List Str} (hs : SetOk d C names) (ha : a ∈ names) (hn : es.lookup a = none) (hl : es.length ≤ 100) (hL : dx ≠ env.locals) (hC : ∀ c ∈ env.cells, c.2 ≠ dx) (B : Base d F) (R : IRel d env wr ρ σ F led)
    (hx : F x = some (instObj C dx)) (hD : DxAt d dx es ρ F led) (S : LSt F O led s.heap) (hv : VR d.prog d.w ρ F u y) {Q : Unit → Shared → Prop}
    (k : ∀ led' h' tk', Stp [dx] ρ F led ρ F led' → IRel d env wr ρ σ F led' → DxAt d dx (es ++ [(a, y)]) ρ F led' → LSt F O led' h' → Q () { s with heap := h', toks := tk' }) : wpAny (model d.prog d.w) A (setAttr (.ref x) a u) Q E s := by
  obtain ⟨hDρ, od, kvs, hm, hd, rr⟩ := hD
  have z := S.ld _ hm
  have hv0 : valueAt kvs a = none := valueAt_none rr.keys hn
  have hlen : kvs.length = es.length := (List.length_map (·.1)).symm.trans ((congrArg List.length rr.keys).trans (List.length_map (fun q : Str × AV => q.1)))
  obtain ⟨pn, pz⟩ := put_new (v := u) (tk := s.toks + 1) hd hv0 (Nat.le_trans (Nat.le_of_eq hlen) (Nat.le_trans hl (by decide)))
  obtain ⟨esd, ep, _, hdd, _⟩ := id hd
  exact set_attr (ok.X.keeps (B.keeps S)) (S.fz _ _ hx) z.1 hdd hs.1 hs.2.1 (hs.2.2.2 a ha) hs.2.2.1 (by rw [lookIn_none hd hv0]; rfl) (fun h k => (pz h k).1) (fun h k => (pz h k).2) fun h' tk' hsb hg =>
    k _ _ _ Stp.other (R.other hDρ hL hC) ⟨hDρ, _, _, mem_setAt_self hm, pn, rr.snoc hv⟩ (S.setAt hm hsb hg)
theorem sub_dx {dx : Addr} : ∀ b ∈ wr, b ∈ dx :: wr := fun _ h => .tail _ h

theorem init_sound (ok : Ok d) (H : SndE d ih.ev n) {C x dx : Addr} {k : Nat} (cx : Cx d A n env) (hw : dx ∉ wr) (hL : dx ≠ env.locals) (hC : ∀ c ∈ env.cells, c.2 ≠ dx) : ∀ (body : List Stmt) (σ : AS) (es : List (Str × AV)) (out : List (Str × AV) × AS) (F : PH) (led : Led) (ρ : List Addr), initA ih k body σ es = some out →
    SetOk d C (attrNames body) → Base d F → IRel d env wr ρ σ F led → ρ[k]? = some x → F x = some (instObj C dx) → DxAt d dx es ρ F led →
    Ev d.prog d.w A O (execs body env) F led fun fl F' led' => fl = .next ∧ ∃ ρ', Stp (dx :: wr) ρ F led ρ' F' led' ∧ IRel d env wr ρ' out.2 F' led' ∧ DxAt d dx out.1 ρ' F' led' := by
  intro body
  induction body with
  | nil => exact fun σ es out F led ρ he hs B R hk hx hD s Q E S kk => wpAny_execs_nil (kk _ _ _ s.heap s.toks ⟨rfl, ρ, Stp.refl, Option.some.inj he ▸ R, Option.some.inj he ▸ hD⟩ S)
  | cons st r IH =>
    intro σ es out F led ρ he hs B R hk hx hD s Q E S kk
    induction st using PySem.Stmt.casesOn with
    | Assign ts v pos =>
      refine bndE he fun t et he => bndE he fun ae ea he => ifE he (fun _ he => noS he) fun hnc he => iteE he fun hc he => bndE he fun p e1 he => bndE he fun q e2 he => iteE he fun hob he9 => ?_
      have hts := one_is et
      subst hts
      obtain ⟨ap, s1, sp, rfl, hn⟩ := selfTgt_is _ ea
      have hc := Bool.and_eq_true_iff.mp hc
      have ha : ae.1 ∈ attrNames (.Assign [.Attribute ae.2 ae.1 ap] v pos :: r) := .head _
      have hs' : SetOk d C (attrNames r) := ⟨hs.1, hs.2.1, hs.2.2.1, fun b hb => hs.2.2.2 b (.tail _ hb)⟩
      refine wpAny_execs_cons (plainObj_wpAny_Assign_Attribute (goE H e1 cx B R S fun u F1 led1 h4 tk1 ρ1 st1 hv R1 S1 B1 => goE H e2 cx B1 R1 S1 fun u2 F2 led2 h5 tk2 ρ2 st2 hv2 R2 S2 B2 => ?_) (sole_false hnc))
      have hD2 := (hD.step st1 hw).step st2 hw
      have hkx := st2.ext _ _ (st1.ext _ _ hk)
      obtain ⟨x', hu2, hx'⟩ := VR.loc_inv (isSelf_is hob ▸ hv2)
      have hxx : x = x' := Option.some.inj (hkx.symm.trans hx')
      rw [hu2, ← hxx]
      have hx2 := st2.le _ _ (st1.le _ _ hx)
      have hv := hv.mono st2.ext st2.le
      have st12 := st1.trans st2
      clear hu2 hv2 hx' hxx hob e1 e2 et ea hD S S1 R1 B1 R
      have go : ∀ (F3 : PH) (led3 : Led) (σ3 : AS) (w : AV), Stp [] ρ2 F2 led2 ρ2 F3 led3 → IRel d env wr ρ2 σ3 F3 led3 → LSt F3 O led3 h5 → VR d.prog d.w ρ2 F3 u w → initA ih k r σ3 (es ++ [(ae.1, w)]) = some out →
          wpAny (model d.prog d.w) A (setAttr (.ref x) ae.1 u) (fun _ s' => wpAny (model d.prog d.w) A (execs r env) Q E s') E { s with heap := h5, toks := tk2 } := fun F3 led3 σ3 w st3 R3 S3 hw3 he3 =>
        store_attr ok hs ha (any_lookup hc.1) (of_decide_eq_true hc.2) hL hC (B2.le st3.le) R3 (st3.le _ _ hx2) (hD2.step st3 fun h => nomatch h) S3 hw3 fun led4 h6 tk4 st4 R4 D4 S4 =>
          IH σ3 _ out F3 _ ρ2 he3 hs' (B2.le st3.le) R4 hkx (st3.le _ _ hx2) D4 { s with heap := h6, toks := tk4 } _ _ S4 fun fl F5 led5 h7 tk6 pf S6 => pf.2.elim fun ρ5 q5 =>
            kk _ _ _ _ _ ⟨pf.1, ρ5, (st12.wk sub_dx).trans (st3.nil.trans ((st4.wk (one_mem (.head _))).trans q5.1)), q5.2⟩ S6
      refine ifE he9 (fun _ he => ?_) fun _ he => bndE he fun z e3 he => ?_
      · exact go F2 led2 q.2 p.1 Stp.refl R2 S2 hv he
      · exact (frz_sound ok hv (Le.refl _) (show frz q.2.ow p.1 = some (z.1, z.2) from e3) B2 R2.own S2).go fun F3 led3 S3 st3 R3 hq => go F3 led3 _ (.fz z.1) st3 (R2.step st3 R3) S3 (.fz hq) he
    | _ => exact noS he
end
end Xm

open PySem PySem.W PySem.Calls PyProof.Rows PySem.Spec
namespace Xm
open PyProof.Rows.LCg (NsObj ns_obj)
section
variable {d : D0} {ih : Ih} {n : Nat} {A : Around} {O F : PH} {led : Led} {wr ρ : List Addr} {env : Env} {σ : AS} {s : Shared} {E : Value → Shared → Prop}

theorem empty_is {prog : Program} {w : World} : emptyDict.IsDictOf (strKind prog w) [] :=
  ⟨#[], 0, ⟨rfl, rfl, rfl⟩, rfl, (fun e he => by simp at he), .nil, by simp⟩

/-- the object is made: its dict stands from now on -/
theorem inst_made (ok : Ok d) {c x dx : Addr} {es : List (Str × AV)} {ρ3 : List Addr} {F1 F3 : PH} {led1 led3 : Led} {wr' : List Addr} {ow' : List AO} {h' : Heap} (le1 : Le F F1) (hx1 : F1 x = some (instObj c dx)) (hLx : ∀ q ∈ led, q.1 ≠ x) (hLd : ∀ q ∈ led, q.1 ≠ dx) (fr : ∀ p ∈ led, p ∈ led1 ∧ p.1 ∉ wr') (R : IRel d env wr ρ σ F led)
    (st : Stp (dx :: wr') (ρ ++ [x]) F1 led1 ρ3 F3 led3) (R3 : OwnR d ρ3 ow' F3 led3) (D3 : DxAt d dx es ρ3 F3 led3) (S3 : LSt F3 O led3 h') : ∃ F' led', Pg d env wr ρ F led (VRl d) (mkInst c es, { σ with ow := ow' }) (.ref x) F' led' ∧ LSt F' O led' h' := by
  obtain ⟨hdρ3, od3, kvs, hm3, hd3, rr⟩ := D3
  have le3 : Le F3 (put F3 dx od3) := Le.put (S3.ld _ hm3).2.1
  have hin : ∀ p ∈ led3, p.1 ≠ dx → p ∈ led3.filter fun p => !(p.1 == dx) := fun p hp n => List.mem_filter.mpr ⟨hp, congrArg (!·) (beq_eq_false_iff_ne.mpr n)⟩
  have mx : ∀ a, a ∉ ρ → a ∈ ρ ++ [x] → a = x := fun a n h => (List.mem_append.mp h).elim (fun h => absurd h n) List.mem_singleton.mp
  have kk : ∀ q ∈ led, q.1 ∉ ρ → q ∈ led3.filter fun p => !(p.1 == dx) := fun q hq n =>
    hin q (st.keep q (fr q hq).1 (fun h => hLx q hq (mx _ n h)) fun h => (List.mem_cons.mp h).elim (hLd q hq) (fr q hq).2) (hLd q hq)
  have st0 : Stp [] ρ F led ρ3 (put F3 dx od3) (led3.filter fun p => !(p.1 == dx)) := by
    refine ⟨(Ext.snoc _ _).trans st.ext, le1.trans (st.le.trans le3), fun q hq n _ => kk q hq n, fun q hq n => ⟨q, kk q hq n, rfl⟩, fun a ha n q hq => ?_⟩
    by_cases h : a ∈ ρ ++ [x]
    · exact mx a n h ▸ hLx q hq
    · exact st.fresh a ha h q (fr q hq).1
  have O3 : OwnR d ρ3 ow' (put F3 dx od3) (led3.filter fun p => !(p.1 == dx)) := (R3.mono ok.kn le3).ofLed (fun p hp h => hin p hp fun e => hdρ3 (e ▸ h)) fun q hq r hr => R3.fz q (List.mem_filter.mp hq).1 r (List.mem_filter.mp hr).1
  exact ⟨_, _, ⟨ρ3, st0.nil, mkInst_sound (le3 _ _ (st.le _ _ hx1)) put_self hd3 (rr.mono (Ext.refl _) le3), R.step st0 O3⟩, S3.frz hm3⟩
theorem newS (ok : Ok d) (H : Snd d ih n) : NewS d ih n := by
  intro c avs σ out he A O F led wr ρ env vs cx B R hv s Q E S k
  refine bndE he fun f e1 he => bndE he fun fi e2 he => bndE he fun bs e3 he => bndE he fun p e4 he => someE (P := fun out => Kn d O env wr ρ F led (VRl d) s Q out → wpAny (model d.prog d.w) A (call (.ref c) vs) Q E s) he ?_ k
  clear k he
  intro k
  obtain ⟨hm, hi, hf, hk, hset⟩ := ok.I _ _ e1
  have X := ok.X.keeps (B.keeps S)
  obtain ⟨hh, g, dd, t, os⟩ := s
  refine wpAny_call (make_core (makes_of X hm) (looks_findIn X hi) (fun self => bind_fn X self (eq_of_beq hf)) (.inl rfl) ?_)
  -- the two new objects
  have S1 := LSt.pushL (h := hh) S emptyDict
  have hz1 : (hh.push emptyDict).objs.size = hh.objs.size + 1 := Heap.size_push ..
  have S2 := S1.pushF (instObj c hh.objs.size)
  rw [hz1] at S2
  have fx := LSt.fresh (h := hh) (b := hh.objs.size + 1) S (Nat.le_succ _)
  have fd := LSt.fresh (h := hh) (b := hh.objs.size) S (Nat.le_refl _)
  generalize (hh.push emptyDict).push (instObj c hh.objs.size) = h2 at S2 ⊢
  have hxd : hh.objs.size ≠ hh.objs.size + 1 := Nat.ne_of_lt (Nat.lt_succ_self _)
  generalize hh.objs.size + 1 = x at S2 fx hxd ⊢
  generalize hh.objs.size = dx at S2 fd hxd ⊢
  clear S1 hz1 S X
  have le1 : Le F (put F x (instObj c dx)) := Le.put fx.1
  have hxρ : x ∉ ρ := R.own.notMem fx.2.2 fx.1
  have hdρ : dx ∉ ρ ++ [x] := fun h => (List.mem_append.mp h).elim (R.own.notMem fd.2.2 fd.1) fun h => hxd (List.mem_singleton.mp h)
  have O1 : OwnR d (ρ ++ [x]) (σ.ow ++ [.obj]) (put F x (instObj c dx)) ((dx, emptyDict) :: led) := ((R.own.mono ok.kn le1).ofLed (led' := (dx, emptyDict) :: led) (fun p hp _ => .tail _ hp) (LSt.uq S2)).snoc hxρ (.obj put_self)
  have hkx : (ρ ++ [x])[σ.ow.length]? = some x := R.own.len ▸ List.getElem?_concat_length
  refine enter_fn (A := A.under _) ok (ok.F _ _ e2) e3 cx.hd (by rw [depth_under_make]; exact Nat.le_trans (Nat.le_of_eq (Nat.add_right_comm A.depth 2 (2 * n))) cx.dep) (Nat.le_trans (Nat.le_of_eq (Nat.add_right_comm A.units 4 (4 * n))) cx.un) (B.le le1) (.cons (.loc hkx) (hv.mono (Ext.snoc _ _) le1)) O1 S2 fun env' led₁ h₁ tk Q' E' cx2 R' S' fr q1 q2 => ?_
  have hdw := (fr (dx, emptyDict) (.head _)).2
  exact init_sound (k := σ.ow.length) ok H.ev cx2 hdw (fun e => hdw (e ▸ .head _)) (fun q hq e => hdw (e ▸ .tail _ (List.mem_map_of_mem (f := (·.2)) hq))) fi.body _ [] p _ _ (ρ ++ [x]) e4 (hset fi e2) (B.le le1) R' hkx put_self ⟨hdρ, emptyDict, [], (fr _ (.head _)).1, empty_is, .nil⟩ ⟨h₁, g, dd, tk, os⟩ _ _ S' fun fl F3 led3 h' tk' pf S3 => pf.2.elim fun ρ3 q3 =>
    (inst_made ok le1 put_self fx.2.2 fd.2.2 (fun p hp => fr p (.tail _ hp)) R q3.1 q3.2.1.own q3.2.2 S3).elim fun F' q => q.elim fun led' q => pf.1 ▸ q2 _ ⟨rfl, k (.ref x) F' led' h' tk' q.1 q.2⟩
end
/-- the interpreter is sound -/
theorem snd_all {d : D0} (ok : Ok d) (kno : KnoIn d) (zi : ZipIn d) (n : Nat) : Snd d (run d.tb n) n := snd_run ok kno zi (fun n ih H => newS ok H) n
end Xm

open PySem PySem.W PySem.Calls PyProof.Rows PySem.Spec
namespace Xm
section
variable {prog : Program} {w : World} {A : Around} {E : Value → Shared → Prop} {s : Shared}

theorem alive_at {M : Model} {a : Addr} {Q : Option Obj → Shared → Prop} (h : Q (s.heap.get? a) s) : wpAny M A (loadIfAlive a) Q E s := fun Γ p _ => by
  unfold loadIfAlive
  rw [Sem.wp_loadIfAlive]
  exact (Sem.wp_pure ..).mpr h

/-- a tuple's iterator asked by zip: an item -/
theorem tupNext_item {it t : Addr} {i : Nat} {items : Array Value} {x : Value} {Q : Value → Shared → Prop} (hit : s.heap.IsTupleIter it t i) (ht : s.heap.IsTuple t items) (hx : items[i]? = some x)
    (hQ : ∀ h', h'.IsTupleIter it t (i + 1) → Heap.SameBut it s.heap h' → Q x { s with heap := h' }) : wpAny (model prog w) A (Builtin.SmallTypes.nextOf (.ref it)) Q E s := by
  have hT := hit.typeIs
  obtain ⟨o, ho, hc, hd⟩ := hit
  obtain ⟨ol, hol, _, nl, hdl⟩ := ht
  unfold Builtin.SmallTypes.nextOf
  refine wpAny_bind (wpAny_callSpecial?_slot (name := Str.ofString "__next__") hT F.slot_tuple_iterator_next (wpAny_call_entry F.slot_tuple_iterator_next hT F.entry_tuple_iterator_next ?_ (F.args_tuple_iterator_next_1 _)))
  show wpAny _ _ (field (.ref it) 0 >>= _) _ _ s
  refine wpAny_bind (wpAny_field ho hd (x := .ref t) rfl ?_)
  show wpAny _ _ (field (.ref it) 1 >>= _) _ _ s
  refine wpAny_bind (wpAny_field ho hd (x := .int i 0) rfl ?_)
  show wpAny _ _ (seqItems? (.ref t) >>= _) _ _ s
  refine wpAny_bind (wpAny_seqItems hol hdl ?_)
  simp only [Int.toNat_natCast, hx]
  have hf : ∀ f, (Obj.mapFields f o).isFreed = false := fun f => Obj.isFreed_of_fields (Obj.data_mapFields hd _)
  refine wpAny_bind (wpAny_setField ho hd (by simp) (wpAny_pure ⟨x, rfl, wpAny_pure (hQ _ ⟨_, Heap.get?_update_self _ ho (hf _), (Obj.cls_mapFields ..).trans hc, ?_⟩ (Heap.SameBut.update ..))⟩))
  rw [Obj.data_mapFields hd]; simp [rawInt]
/-- the end of it -/
theorem tupNext_end {it t : Addr} {i : Nat} {items : Array Value} {Q : Value → Shared → Prop} (hh : A.handled = none) (hit : s.heap.IsTupleIter it t i) (ht : s.heap.IsTuple t items) (hx : items[i]? = none)
    (hE : ∀ h' e, Heap.ExtBut it s.heap h' → (∃ o, h'.get? e = some o ∧ o.cls = .type "StopIteration") → E (.ref e) { s with heap := h' }) : wpAny (model prog w) A (Builtin.SmallTypes.nextOf (.ref it)) Q E s := by
  have hT := hit.typeIs
  obtain ⟨o, ho, hc, hd⟩ := hit
  obtain ⟨ol, hol, _, nl, hdl⟩ := ht
  unfold Builtin.SmallTypes.nextOf
  refine wpAny_bind (wpAny_callSpecial?_slot (name := Str.ofString "__next__") hT F.slot_tuple_iterator_next (wpAny_call_entry F.slot_tuple_iterator_next hT F.entry_tuple_iterator_next ?_ (F.args_tuple_iterator_next_1 _)))
  show wpAny _ _ (field (.ref it) 0 >>= _) _ _ s
  refine wpAny_bind (wpAny_field ho hd (x := .ref t) rfl ?_)
  show wpAny _ _ (field (.ref it) 1 >>= _) _ _ s
  refine wpAny_bind (wpAny_field ho hd (x := .int i 0) rfl ?_)
  show wpAny _ _ (seqItems? (.ref t) >>= _) _ _ s
  refine wpAny_bind (wpAny_seqItems hol hdl ?_)
  simp only [Int.toNat_natCast, hx]
  refine wpAny_bind (wpAny_rule (wpAny_bind (wpAny_setField ho hd (by simp) ?_)))
  refine wpAny_bind (m := newExc (.type "StopIteration") []) ?_
  simp only [newExc, newTuple]
  refine wpAny_bind (wpAny_newObj_type ?_ (by size_fits))
  refine wpAny_bind (m := firstArgMember _ _) (wpAny_of_eq (a := Value.none) (by first | rfl | (simp only [firstArgMember]; rfl)) ?_)
  refine wpAny_newObj_type ?_ (by size_fits)
  simp only [raiseNew]
  refine wpAny_bind (wpAny_handled ?_)
  first | rw [show A.in1.handled = none from hh] | rw [hh]
  refine wpAny_bind (wpAny_pure (wpAny_throw ?_))
  exact hE _ _ (((Heap.SameBut.update ..).extBut.push _).push _) ⟨_, Heap.get?_push_size _ rfl, rfl⟩

/-- zip over two tuples, as far as it has come -/
structure ZT (h : Heap) (z TI TO i1 i2 l1 l2 : Addr) (f0 f1 : Value) (k : Nat) (xs ys : Array Value) : Prop where
  z : h.get? z = some { cls := .type "zip", dict := none, data := .fields #[f0, f1, .bool false, .ref TI, .ref TO], slots := #[] }
  ti : IsPair h TI (.ref i1) (.ref i2)
  to : ∃ a b, IsPair h TO a b
  i1 : h.IsTupleIter i1 l1 k
  i2 : h.IsTupleIter i2 l2 k
  l1 : h.IsTuple l1 xs
  l2 : h.IsTuple l2 ys
theorem IsTupleIter.at {h h' : Heap} {a t : Addr} {i : Nat} (x : h.IsTupleIter a t i) (k : ∀ o, h.get? a = some o → h'.get? a = some o) : h'.IsTupleIter a t i := let ⟨o, ho, r⟩ := x; ⟨o, k _ ho, r⟩
theorem IsTuple.at {h h' : Heap} {a : Addr} {xs : Array Value} (x : h.IsTuple a xs) (k : ∀ o, h.get? a = some o → h'.get? a = some o) : h'.IsTuple a xs := let ⟨o, ho, r⟩ := x; ⟨o, k _ ho, r⟩

variable {z TI TO i1 i2 l1 l2 : Addr} {k : Nat} {xs ys : Array Value} {f1 : Value}
theorem zt_free_item {x y : Value} {Q : Value → Shared → Prop} (D : ZipApart z TI TO i1 i2 l1 l2) (Z : ZT s.heap z TI TO i1 i2 l1 l2 .none f1 k xs ys) (hx : xs[k]? = some x) (hy : ys[k]? = some y)
    (hQ : ∀ h', ZT h' z TI TO i1 i2 l1 l2 (rawInt s.heap.objs.size) (.bool false) (k + 1) xs ys → IsPair h' s.heap.objs.size x y →
      (∀ c o, c ≠ z → c ≠ TO → c ≠ i1 → c ≠ i2 → s.heap.get? c = some o → h'.get? c = some o) → Q (.ref s.heap.objs.size) { s with heap := h' }) :
    wpAny (model prog w) A (Builtin.«zip.__next__» ⟨[.ref z], []⟩) (fun fin s' => ∃ v, fin = .done (.ret v) ∧ Q v s') E s := by
  obtain ⟨hz, hTI, ⟨a, b, hTO⟩, h1, h2, hl1, hl2⟩ := Z
  show wpAny _ _ (field (.ref z) 2 >>= _) _ _ _
  refine wpAny_bind (wpAny_field hz rfl (x := .bool false) rfl ?_)
  show wpAny _ _ (field (.ref z) 3 >>= _) _ _ _
  refine wpAny_bind (wpAny_field hz rfl (x := .ref TI) rfl ?_)
  refine wpAny_bind (wpAny_seqItems hTI rfl ?_)
  refine wpAny_bind (m := Builtin.SmallTypes.ownedTupleIsFree (.ref z)) ?_
  unfold Builtin.SmallTypes.ownedTupleIsFree
  refine wpAny_bind (wpAny_field hz rfl (x := .none) rfl (wpAny_pure ?_))
  simp only [if_true]
  refine wpAny_bind (wpAny_rule (wpAny_bind (wpAny_field hz rfl (x := .ref TO) rfl (wpAny_bind (wpAny_setField_rec hz (by simp) fun h₁ hz₁ s₁ => wpAny_bind ?_)))))
  simp only [List.zipIdx_cons, List.zipIdx_nil, List.forIn_cons, List.forIn_nil]
  refine wpAny_bind (wpAny_bind (wpAny_onRaise (wpAny_bind (m := Builtin.SmallTypes.nextOf (.ref i1)) (tupNext_item (h1.extBut s₁.extBut D.i1z) (hl1.extBut s₁.extBut D.l1z) hx fun h₂ g1 s₂ => wpAny_pure ?_))))
  have t2 : IsPair h₂ TO a b := s₂.extBut _ _ D.TOi1 (s₁.extBut _ _ D.TOz hTO)
  refine wpAny_bind (wpAny_seqItems t2 rfl (wpAny_bind (wpAny_updateSeq_pair t2 fun h₃ t3 s₃ => wpAny_bind (wpAny_letGo (wpAny_pure ?_)))))
  replace t3 : IsPair h₃ TO x b := t3
  refine wpAny_bind (wpAny_bind (wpAny_onRaise (wpAny_bind (m := Builtin.SmallTypes.nextOf (.ref i2)) (tupNext_item (((h2.extBut s₁.extBut D.i2z).extBut s₂.extBut D.i12.symm).extBut s₃.extBut D.TOi2.symm) (((hl2.extBut s₁.extBut D.l2z).extBut s₂.extBut D.l2i1).extBut s₃.extBut D.l2TO) hy fun h₄ g2 s₄ => wpAny_pure ?_))))
  have t4 : IsPair h₄ TO x b := s₄.extBut _ _ D.TOi2 t3
  refine wpAny_bind (wpAny_seqItems t4 rfl (wpAny_bind (wpAny_updateSeq_pair t4 fun h₅ t5 s₅ => wpAny_bind (wpAny_letGo (wpAny_pure (wpAny_pure ?_))))))
  replace t5 : IsPair h₅ TO x y := t5
  refine wpAny_bind (wpAny_seqItems t5 rfl (wpAny_bind (wpAny_newTuple ?_)))
  have hsz : h₅.objs.size = s.heap.objs.size := by rw [s₅.1, s₄.1, s₃.1, s₂.1, s₁.1]
  have z5 : h₅.get? z = some { cls := .type "zip", dict := none, data := .fields #[.ellipsis, f1, .bool false, .ref TI, .ref TO], slots := #[] } := s₅.extBut _ _ D.TOz.symm (s₄.extBut _ _ D.i2z.symm (s₃.extBut _ _ D.TOz.symm (s₂.extBut _ _ D.i1z.symm hz₁)))
  have k5 : ∀ c o, c ≠ z → c ≠ TO → c ≠ i1 → c ≠ i2 → s.heap.get? c = some o → h₅.get? c = some o := fun c o c1 c2 c3 c4 e => s₅.extBut _ _ c2 (s₄.extBut _ _ c4 (s₃.extBut _ _ c2 (s₂.extBut _ _ c3 (s₁.extBut _ _ c1 e))))
  have hzlt : z < h₅.objs.size := Heap.lt_size z5
  have z6 := Heap.get?_push_of_some { cls := .type "tuple", data := .seq #[x, y] } z5
  refine wpAny_bind (m := Builtin.SmallTypes.ownedTupleHandOut (.ref z) (.ref h₅.objs.size)) ?_
  unfold Builtin.SmallTypes.ownedTupleHandOut
  refine wpAny_bind (wpAny_setField_rec z6 (by simp) fun h₇ z7 s₇ => wpAny_setField_rec z7 (by simp) fun h₈ z8 s₈ => wpAny_pure ⟨_, rfl, ?_⟩)
  have up : ∀ c o, c ≠ z → h₅.get? c = some o → h₈.get? c = some o := fun c o c1 e => s₈.extBut _ _ c1 (s₇.extBut _ _ c1 (Heap.get?_push_of_some _ e))
  have hT : IsPair h₈ h₅.objs.size x y := s₈.extBut _ _ (Nat.ne_of_gt hzlt) (s₇.extBut _ _ (Nat.ne_of_gt hzlt) (Heap.get?_push_size _ rfl))
  have z8' : h₈.get? z = some { cls := .type "zip", dict := none, data := .fields #[rawInt h₅.objs.size, .bool false, .bool false, .ref TI, .ref TO], slots := #[] } := z8
  show Q (.ref h₅.objs.size) _
  rw [hsz] at hT z8' ⊢
  refine hQ h₈ ⟨z8', up _ _ D.TIz (k5 _ _ D.TIz D.TITO D.TIi1 D.TIi2 hTI), ⟨_, _, up _ _ D.TOz t5⟩, IsTupleIter.at (((g1.extBut s₃.extBut D.TOi1.symm).extBut s₄.extBut D.i12).extBut s₅.extBut D.TOi1.symm) fun o e => up _ o D.i1z e,
    IsTupleIter.at (g2.extBut s₅.extBut D.TOi2.symm) fun o e => up _ o D.i2z e, IsTuple.at hl1 fun o e => up _ o D.l1z (k5 _ o D.l1z D.l1TO D.l1i1 D.l1i2 e), IsTuple.at hl2 fun o e => up _ o D.l2z (k5 _ o D.l2z D.l2TO D.l2i1 D.l2i2 e)⟩ hT fun c o c1 c2 c3 c4 e => up c o c1 (k5 c o c1 c2 c3 c4 e)
theorem zt_free_end {Q : Fin → Shared → Prop} (hh : A.handled = none) (D : ZipApart z TI TO i1 i2 l1 l2) (Z : ZT s.heap z TI TO i1 i2 l1 l2 .none f1 k xs ys) (hx : xs[k]? = none)
    (hE : ∀ h' e, (∀ c o, c ≠ z → c ≠ TO → c ≠ i1 → c ≠ i2 → s.heap.get? c = some o → h'.get? c = some o) → (∃ o, h'.get? e = some o ∧ o.cls = .type "StopIteration") → E (.ref e) { s with heap := h' }) :
    wpAny (model prog w) A (Builtin.«zip.__next__» ⟨[.ref z], []⟩) Q E s := by
  obtain ⟨hz, hTI, ⟨a, b, hTO⟩, h1, h2, hl1, hl2⟩ := Z
  show wpAny _ _ (field (.ref z) 2 >>= _) _ _ _
  refine wpAny_bind (wpAny_field hz rfl (x := .bool false) rfl ?_)
  show wpAny _ _ (field (.ref z) 3 >>= _) _ _ _
  refine wpAny_bind (wpAny_field hz rfl (x := .ref TI) rfl ?_)
  refine wpAny_bind (wpAny_seqItems hTI rfl ?_)
  refine wpAny_bind (m := Builtin.SmallTypes.ownedTupleIsFree (.ref z)) ?_
  unfold Builtin.SmallTypes.ownedTupleIsFree
  refine wpAny_bind (wpAny_field hz rfl (x := .none) rfl (wpAny_pure ?_))
  simp only [if_true]
  refine wpAny_bind (wpAny_rule (wpAny_bind (wpAny_field hz rfl (x := .ref TO) rfl (wpAny_bind (wpAny_setField_rec hz (by simp) fun h₁ hz₁ s₁ => wpAny_bind ?_)))))
  simp only [List.zipIdx_cons, List.zipIdx_nil, List.forIn_cons, List.forIn_nil]
  refine wpAny_bind (wpAny_bind (wpAny_onRaise (wpAny_bind (m := Builtin.SmallTypes.nextOf (.ref i1)) (tupNext_end hh (h1.extBut s₁.extBut D.i1z) (hl1.extBut s₁.extBut D.l1z) hx fun h₂ e s₂ he => ?_))))
  obtain ⟨oe, hoe, hce⟩ := he
  have hz₂ := s₂ _ _ D.i1z.symm hz₁
  have hez : e ≠ z := fun q => by subst q; rw [hz₂] at hoe; cases hoe; simp at hce
  exact wpAny_setField_rec hz₂ (by simp) fun h₃ _ s₃ => hE h₃ e (fun c o c1 _ c3 _ q => s₃.extBut _ _ c1 (s₂ _ _ c3 (s₁.extBut _ _ c1 q))) ⟨oe, s₃.extBut _ _ hez hoe, hce⟩

/-- the tuple handed out last is held by another: a new one is made -/
theorem held_sound {T : Addr} {oT : Obj} {Q : Bool → Shared → Prop} (hz : s.heap.get? z = some { cls := .type "zip", dict := none, data := .fields #[rawInt T, f1, .bool false, .ref TI, .ref TO], slots := #[] }) (hT : s.heap.get? T = some oT)
    (hQ : ∀ h' f1', h'.get? z = some { cls := .type "zip", dict := none, data := .fields #[rawInt T, f1', .bool false, .ref TI, .ref TO], slots := #[] } → (∀ c o, c ≠ z → s.heap.get? c = some o → h'.get? c = some o) → h'.objs.size = s.heap.objs.size → Q false { s with heap := h' }) :
    wpAny (model prog w) A (Builtin.SmallTypes.ownedTupleIsFree (.ref z)) Q E s := by
  unfold Builtin.SmallTypes.ownedTupleIsFree
  refine wpAny_bind (wpAny_field hz rfl (x := .int T 0) rfl ?_)
  dsimp only
  refine wpAny_bind (alive_at ?_)
  rw [Int.toNat_natCast, hT]
  dsimp only [Option.isNone_some]
  refine wpAny_bind (wpAny_field hz rfl (x := f1) rfl ?_)
  by_cases hf : (f1 != .bool true) = true
  · simp only [hf, if_true]
    exact wpAny_bind (wpAny_setField_rec hz (by simp) fun h₁ z1 s₁ => wpAny_pure (hQ h₁ _ z1 (fun c o hc e => s₁.extBut _ _ hc e) s₁.1))
  · simp only [hf]
    exact wpAny_pure (hQ s.heap f1 hz (fun c o _ e => e) rfl)
theorem zt_held_item {x y : Value} {T : Addr} {oT : Obj} {Q : Value → Shared → Prop} (D : ZipApart z TI TO i1 i2 l1 l2) (Z : ZT s.heap z TI TO i1 i2 l1 l2 (rawInt T) f1 k xs ys) (hT : s.heap.get? T = some oT) (hx : xs[k]? = some x) (hy : ys[k]? = some y)
    (hQ : ∀ h' f1', ZT h' z TI TO i1 i2 l1 l2 (rawInt T) f1' (k + 1) xs ys → IsPair h' s.heap.objs.size x y →
      (∀ c o, c ≠ z → c ≠ TO → c ≠ i1 → c ≠ i2 → s.heap.get? c = some o → h'.get? c = some o) → Q (.ref s.heap.objs.size) { s with heap := h' }) :
    wpAny (model prog w) A (Builtin.«zip.__next__» ⟨[.ref z], []⟩) (fun fin s' => ∃ v, fin = .done (.ret v) ∧ Q v s') E s := by
  obtain ⟨hz, hTI, ⟨a, b, hTO⟩, h1, h2, hl1, hl2⟩ := Z
  show wpAny _ _ (field (.ref z) 2 >>= _) _ _ _
  refine wpAny_bind (wpAny_field hz rfl (x := .bool false) rfl ?_)
  show wpAny _ _ (field (.ref z) 3 >>= _) _ _ _
  refine wpAny_bind (wpAny_field hz rfl (x := .ref TI) rfl ?_)
  refine wpAny_bind (wpAny_seqItems hTI rfl ?_)
  refine wpAny_bind (m := Builtin.SmallTypes.ownedTupleIsFree (.ref z)) (held_sound hz hT fun h₁ f1' z1 s₁ hsz => ?_)
  simp only [Bool.false_eq_true, if_false]
  refine wpAny_bind ?_
  simp only [Array.forIn_toList.symm, List.forIn_cons, List.forIn_nil]
  have g1' := IsTupleIter.at h1 fun o e => s₁ _ o D.i1z e
  have g2' := IsTupleIter.at h2 fun o e => s₁ _ o D.i2z e
  have p1 := IsTuple.at hl1 fun o e => s₁ _ o D.l1z e
  have p2 := IsTuple.at hl2 fun o e => s₁ _ o D.l2z e
  refine wpAny_bind (wpAny_bind (wpAny_holding (wpAny_bind (m := Builtin.SmallTypes.nextOf (.ref i1)) (tupNext_item g1' p1 hx fun h₂ g1 s₂ => wpAny_pure (wpAny_pure ?_)))))
  refine wpAny_bind (wpAny_bind (wpAny_holding (wpAny_bind (m := Builtin.SmallTypes.nextOf (.ref i2)) (tupNext_item (g2'.extBut s₂.extBut D.i12.symm) (p2.extBut s₂.extBut D.l2i1) hy fun h₃ g2 s₃ => wpAny_pure (wpAny_pure (wpAny_pure ?_))))))
  refine wpAny_bind (wpAny_newTuple (wpAny_pure ⟨_, rfl, ?_⟩) (by rw [sizeLine_eq]; show (2 : Nat) ≤ _; omega))
  have hs3 : h₃.objs.size = s.heap.objs.size := by rw [s₃.1, s₂.1, hsz]
  have up : ∀ c o, c ≠ i1 → c ≠ i2 → h₁.get? c = some o → (h₃.push { cls := .type "tuple", data := .seq #[x, y] }).get? c = some o := fun c o c1 c2 e => Heap.get?_push_of_some _ (s₃.extBut _ _ c2 (s₂.extBut _ _ c1 e))
  have hP : IsPair (h₃.push { cls := .type "tuple", data := .seq #[x, y] }) h₃.objs.size x y := Heap.get?_push_size _ rfl
  show Q (.ref h₃.objs.size) _
  rw [hs3] at hP ⊢
  refine hQ (h₃.push { cls := .type "tuple", data := .seq #[x, y] }) f1' ⟨up _ _ D.i1z.symm D.i2z.symm z1, up _ _ D.TIi1 D.TIi2 (s₁ _ _ D.TIz hTI), ⟨a, b, up _ _ D.TOi1 D.TOi2 (s₁ _ _ D.TOz hTO)⟩, IsTupleIter.at (g1.extBut s₃.extBut D.i12) fun o e => Heap.get?_push_of_some _ e, IsTupleIter.at g2 fun o e => Heap.get?_push_of_some _ e, IsTuple.at p1 fun o e => up _ o D.l1i1 D.l1i2 e, IsTuple.at p2 fun o e => up _ o D.l2i1 D.l2i2 e⟩ hP fun c o c1 c2 c3 c4 e => up c o c3 c4 (s₁ c o c1 e)
theorem zt_held_end {T : Addr} {oT : Obj} {Q : Fin → Shared → Prop} (hh : A.handled = none) (D : ZipApart z TI TO i1 i2 l1 l2) (Z : ZT s.heap z TI TO i1 i2 l1 l2 (rawInt T) f1 k xs ys) (hT : s.heap.get? T = some oT) (hx : xs[k]? = none)
    (hE : ∀ h' e, (∀ c o, c ≠ z → c ≠ TO → c ≠ i1 → c ≠ i2 → s.heap.get? c = some o → h'.get? c = some o) → (∃ o, h'.get? e = some o ∧ o.cls = .type "StopIteration") → E (.ref e) { s with heap := h' }) :
    wpAny (model prog w) A (Builtin.«zip.__next__» ⟨[.ref z], []⟩) Q E s := by
  obtain ⟨hz, hTI, ⟨a, b, hTO⟩, h1, h2, hl1, hl2⟩ := Z
  show wpAny _ _ (field (.ref z) 2 >>= _) _ _ _
  refine wpAny_bind (wpAny_field hz rfl (x := .bool false) rfl ?_)
  show wpAny _ _ (field (.ref z) 3 >>= _) _ _ _
  refine wpAny_bind (wpAny_field hz rfl (x := .ref TI) rfl ?_)
  refine wpAny_bind (wpAny_seqItems hTI rfl ?_)
  refine wpAny_bind (m := Builtin.SmallTypes.ownedTupleIsFree (.ref z)) (held_sound hz hT fun h₁ f1' z1 s₁ hsz => ?_)
  simp only [Bool.false_eq_true, if_false]
  refine wpAny_bind ?_
  simp only [Array.forIn_toList.symm, List.forIn_cons, List.forIn_nil]
  have g1' := IsTupleIter.at h1 fun o e => s₁ _ o D.i1z e
  have p1 := IsTuple.at hl1 fun o e => s₁ _ o D.l1z e
  refine wpAny_bind (wpAny_bind (wpAny_holding (wpAny_bind (m := Builtin.SmallTypes.nextOf (.ref i1)) (tupNext_end hh g1' p1 hx fun h₂ e s₂ he => ?_))))
  exact hE h₂ e (fun c o c1 _ c3 _ q => s₂ _ _ c3 (s₁ _ _ c1 q)) he

/-- the step and the end, as a walk asks for them -/
theorem zt_next {Q : Option Value → Shared → Prop} (h : wpAny (model prog w) A.in1 (Builtin.«zip.__next__» ⟨[.ref z], []⟩) (fun fin s' => ∃ v, fin = .done (.ret v) ∧ Q (some v) s') (fun e s' => ∃ a, e = .ref a ∧ (∃ o, s'.heap.get? a = some o ∧ o.cls = .type "StopIteration") ∧ Q none s') s) (hz : ∃ o, s.heap.get? z = some o ∧ o.cls = .type "zip") :
    wpAny (model prog w) A (pyNext (.ref z)) Q E s := by
  have hT : s.TypeIs (.ref z) "zip" := hz
  unfold pyNext
  refine wpAny_bind (wpAny_attempt (wpAny_callSpecial?_slot (name := Str.ofString "__next__") hT F.slot_zip_next (wpAny_call_entry F.slot_zip_next hT F.entry_zip_next ?_ (F.args_zip_next_1 _))))
  refine wpAny_mono h (fun fin s' q => ?_) fun e s' q => ?_
  · obtain ⟨v, e, q⟩ := q
    exact ⟨v, e, wpAny_pure q⟩
  · obtain ⟨a, rfl, ho, q⟩ := q
    exact wpAny_bind (wpAny_isInstance (T := "StopIteration") (b := true) ho isSubtype_stop (wpAny_pure q))
theorem ZT.frame {h h' : Heap} {f0 f1 : Value} (Z : ZT h z TI TO i1 i2 l1 l2 f0 f1 k xs ys) (hk : ∀ b ∈ [z, TI, TO, i1, i2, l1, l2], ∀ o, h.get? b = some o → h'.get? b = some o) : ZT h' z TI TO i1 i2 l1 l2 f0 f1 k xs ys := by
  obtain ⟨hz, hTI, ⟨a, b, hTO⟩, h1, h2, hl1, hl2⟩ := Z
  exact ⟨hk z (.head _) _ hz, hk TI (.tail _ (.head _)) _ hTI, ⟨a, b, hk TO (.tail _ (.tail _ (.head _))) _ hTO⟩, IsTupleIter.at h1 fun o e => hk i1 (.tail _ (.tail _ (.tail _ (.head _)))) o e, IsTupleIter.at h2 fun o e => hk i2 (.tail _ (.tail _ (.tail _ (.tail _ (.head _))))) o e,
    IsTuple.at hl1 fun o e => hk l1 (.tail _ (.tail _ (.tail _ (.tail _ (.tail _ (.head _)))))) o e, IsTuple.at hl2 fun o e => hk l2 (.tail _ (.tail _ (.tail _ (.tail _ (.tail _ (.tail _ (.head _))))))) o e⟩
theorem not4 {c z TO i1 i2 : Addr} (h : c ∉ [z, TO, i1, i2]) : c ≠ z ∧ c ≠ TO ∧ c ≠ i1 ∧ c ≠ i2 := by
  exact ⟨fun e => h (e ▸ .head _), fun e => h (e ▸ .tail _ (.head _)), fun e => h (e ▸ .tail _ (.tail _ (.head _))), fun e => h (e ▸ .tail _ (.tail _ (.tail _ (.head _))))⟩
theorem walksZip (hh : A.handled = none) (D : ZipApart z TI TO i1 i2 l1 l2) (hl : xs.size = ys.size) :
    WalksT prog w A z [z, TI, TO, i1, i2, l1, l2] [z, TO, i1, i2] xs.size (fun i vals => ∃ x y, xs[i]? = some x ∧ ys[i]? = some y ∧ vals = #[x, y]) (fun i h => ZT h z TI TO i1 i2 l1 l2 .none (.bool false) i xs ys)
      (fun i T h => ZT h z TI TO i1 i2 l1 l2 (rawInt T) (.bool false) (i + 1) xs ys ∧ T ∉ [z, TO, i1, i2]) where
  sub := List.forall_mem_cons.mpr ⟨.head _, List.forall_mem_cons.mpr ⟨.tail _ (.tail _ (.head _)), List.forall_mem_cons.mpr ⟨.tail _ (.tail _ (.tail _ (.head _))), one_mem (.tail _ (.tail _ (.tail _ (.tail _ (.head _)))))⟩⟩⟩
  frame := fun i h h' Z hk => Z.frame hk
  item := fun i s Q E hi Z hQ => by
    have hy : i < ys.size := hl ▸ hi
    have lt : ∀ {c o}, s.heap.get? c = some o → s.heap.objs.size ≠ c := fun e => Nat.ne_of_gt (Heap.lt_size e)
    refine zt_next (zt_free_item (Q := fun v => Q (some v)) D Z (Array.getElem?_eq_getElem hi) (Array.getElem?_eq_getElem hy) fun h' Z' hP hk => ?_) ⟨_, Z.z, rfl⟩
    · refine hQ s.heap.objs.size #[xs[i], ys[i]] h' s.toks ⟨_, _, Array.getElem?_eq_getElem hi, Array.getElem?_eq_getElem hy, rfl⟩ (Nat.le_refl _) ⟨_, hP, rfl, _, rfl⟩ ⟨Z', fun hm => ?_⟩ fun c o hc e => let ⟨a, b, d, f⟩ := not4 hc; hk c o a b d f e
      obtain ⟨_, _, ht⟩ := Z.to
      obtain ⟨_, e1, _⟩ := Z.i1
      obtain ⟨_, e2, _⟩ := Z.i2
      exact (List.forall_mem_cons.mpr ⟨lt Z.z, List.forall_mem_cons.mpr ⟨lt ht, List.forall_mem_cons.mpr ⟨lt e1, one_mem (lt e2)⟩⟩⟩ : ∀ b ∈ [z, TO, i1, i2], s.heap.objs.size ≠ b) _ hm rfl
  go := fun elts k pos i T s Q E hm hQ => by
    obtain ⟨Z, hT⟩ := hm
    exact wpAny_letOwnedTupleGo_zip Z.z fun h' hz' hs' => hQ h' ⟨hz', hs'.extBut _ _ D.TIz Z.ti, (let ⟨a, b, t⟩ := Z.to; ⟨a, b, hs'.extBut _ _ D.TOz t⟩), Z.i1.extBut hs'.extBut D.i1z, Z.i2.extBut hs'.extBut D.i2z, Z.l1.extBut hs'.extBut D.l1z, Z.l2.extBut hs'.extBut D.l2z⟩ fun c o hc e => hs'.extBut _ _ (fun q => hc (q ▸ .head _)) e
  apart := fun i T h hm => hm.2
  done := fun s Q E Z hQ => by
    refine zt_next (zt_free_end hh D Z (Array.getElem?_eq_none (Nat.le_refl _)) fun h' e hk he => ⟨e, rfl, he, hQ h' s.toks fun c o hc q => let ⟨a, b, d, f⟩ := not4 hc; hk c o a b d f q⟩) ⟨_, Z.z, rfl⟩
  self := fun i s Q E Z hQ => wpAny_pyIter_zip Z.z hQ

/-! zip called with two tuples -/
noncomputable abbrev zh1 (h : Heap) (l1 : Addr) : Heap := h.push { cls := .type "tuple_iterator", data := .fields #[.ref l1, .int 0 0] }
noncomputable abbrev zh2 (h : Heap) (l1 l2 : Addr) : Heap := (zh1 h l1).push { cls := .type "tuple_iterator", data := .fields #[.ref l2, .int 0 0] }
noncomputable abbrev zh3 (h : Heap) (l1 l2 : Addr) : Heap := (zh2 h l1 l2).push { cls := .type "tuple", data := .seq #[.ref h.objs.size, .ref (zh1 h l1).objs.size] }
noncomputable abbrev zh4 (h : Heap) (l1 l2 : Addr) : Heap := (zh3 h l1 l2).push { cls := .type "tuple", data := .seq #[.none, .none] }
noncomputable abbrev zh5 (h : Heap) (l1 l2 : Addr) : Heap := (zh4 h l1 l2).push { cls := .type "zip", data := .fields #[.none, .bool false, .bool false, .ref (zh2 h l1 l2).objs.size, .ref (zh3 h l1 l2).objs.size] }
theorem zip_made (l1 l2 : Addr) (xs ys : Array Value) :
    Meets (Builtin.«zip.__new__» ⟨[.type "zip", .ref l1, .ref l2], []⟩) (fun _ R s => s.heap.IsTuple l1 xs ∧ s.heap.IsTuple l2 ys ∧ R (.ok (.ret (.ref (zh4 s.heap l1 l2).objs.size))) { s with heap := zh5 s.heap l1 l2 }) :=
  .of_wp fun prog w A R s h => by
    obtain ⟨hp, g, d, tk, os⟩ := s
    obtain ⟨h1, h2, h⟩ := h
    have hsub := sub_zip
    have g1 : Heap.IsTuple (Shared.heap ⟨hp, g, d, tk, os⟩) l1 xs := h1
    have g2 : Heap.IsTuple (Shared.heap ⟨hp.push { cls := .type "tuple_iterator", data := .fields #[.ref l1, .int 0 0] }, g, d, tk, os⟩) l2 ys := Heap.IsTuple.push h2 _
    wp_walk using wpAny_pyIter_tuple g1, wpAny_pyIter_tuple g2
    exact ⟨_, rfl, h⟩
theorem call_zipT {Q : Value → Shared → Prop} (h1 : s.heap.IsTuple l1 xs) (h2 : s.heap.IsTuple l2 ys)
    (h : ∀ h', ZT h' (s.heap.objs.size + 4) (s.heap.objs.size + 2) (s.heap.objs.size + 3) s.heap.objs.size (s.heap.objs.size + 1) l1 l2 .none (.bool false) 0 xs ys → (∀ c o, s.heap.get? c = some o → h'.get? c = some o) → Q (.ref (s.heap.objs.size + 4)) { s with heap := h' }) :
    wpAny (model prog w) A (call (.type "zip") [.ref l1, .ref l2]) Q E s := by
  refine callType_new F.called_zip (by decide) (F.typeCall_zip_2 _ _) (F.newCall_zip_2 _ _) (fun obj => F.args_object_init_3 obj _ _) F.entry_zip_new (zip_made l1 l2 xs ys) ⟨h1, h2, ?_⟩
  have z1 : (zh1 s.heap l1).objs.size = s.heap.objs.size + 1 := Heap.size_push ..
  have z2 : (zh2 s.heap l1 l2).objs.size = s.heap.objs.size + 2 := by rw [Heap.size_push, z1]
  have z3 : (zh3 s.heap l1 l2).objs.size = s.heap.objs.size + 3 := by rw [Heap.size_push, z2]
  have z4 : (zh4 s.heap l1 l2).objs.size = s.heap.objs.size + 4 := by rw [Heap.size_push, z3]
  have g5 : (zh5 s.heap l1 l2).get? (zh4 s.heap l1 l2).objs.size = some _ := Heap.get?_push_size _ rfl
  have g4 : (zh5 s.heap l1 l2).get? (zh3 s.heap l1 l2).objs.size = some _ := Heap.get?_push_of_some _ (Heap.get?_push_size _ rfl)
  have g3 : (zh5 s.heap l1 l2).get? (zh2 s.heap l1 l2).objs.size = some _ := Heap.get?_push_of_some _ (Heap.get?_push_of_some _ (Heap.get?_push_size _ rfl))
  have g2 : (zh5 s.heap l1 l2).get? (zh1 s.heap l1).objs.size = some _ := Heap.get?_push_of_some _ (Heap.get?_push_of_some _ (Heap.get?_push_of_some _ (Heap.get?_push_size _ rfl)))
  have g1 : (zh5 s.heap l1 l2).get? s.heap.objs.size = some _ := Heap.get?_push_of_some _ (Heap.get?_push_of_some _ (Heap.get?_push_of_some _ (Heap.get?_push_of_some _ (Heap.get?_push_size _ rfl))))
  have up : ∀ c o, s.heap.get? c = some o → (zh5 s.heap l1 l2).get? c = some o := fun c o e => Heap.get?_push_of_some _ (Heap.get?_push_of_some _ (Heap.get?_push_of_some _ (Heap.get?_push_of_some _ (Heap.get?_push_of_some _ e))))
  show _ ∧ _
  rw [z2, z3, z4] at g5
  rw [z1, z2] at g3
  rw [z3] at g4
  rw [z1] at g2
  rw [z4]
  exact ⟨⟨_, g5, rfl⟩, h _ ⟨g5, g3, ⟨_, _, g4⟩, ⟨_, g1, rfl, rfl⟩, ⟨_, g2, rfl, rfl⟩, IsTuple.at h1 fun o e => up _ o e, IsTuple.at h2 fun o e => up _ o e⟩ up⟩
end
end Xm

open PySem PySem.W PySem.Calls PyProof.Rows PySem.Spec
namespace Xm
theorem zip_no_len : typeLookup (.type "zip") "__len__" = pure none := by rw [typeLookup_type, builtinLookup_eq_fast]; kernel_rfl
theorem zip_no_hint : typeLookup (.type "zip") "__length_hint__" = pure none := by rw [typeLookup_type, builtinLookup_eq_fast]; kernel_rfl
section
variable {d : D0} {A : Around} {F O : PH} {led : Led} {h : Heap} {s : Shared} {E : Value → Shared → Prop} {Q : Value → Shared → Prop} {ρ : List Addr} {ow : List AO}
variable {z TI TO i1 i2 l1 l2 : Addr} {xs ys : Array Value}

theorem LSt.putAt {h' : Heap} {c : Addr} {o : Obj} (S : LSt F O led h') (f : F c = none ∧ O c = none ∧ ∀ p ∈ led, p.1 ≠ c) (e : h'.get? c = some o) : LSt (put F c o) O led h' := S.addF e f.2.1 f.2.2
theorem four {P : Addr → Prop} {a b c d : Addr} (h1 : P a) (h2 : P b) (h3 : P c) (h4 : P d) : ∀ x ∈ [a, b, c, d], P x := List.forall_mem_cons.mpr ⟨h1, List.forall_mem_cons.mpr ⟨h2, List.forall_mem_cons.mpr ⟨h3, one_mem h4⟩⟩⟩
theorem ZT.live {i : Nat} {f0 f1 : Value} (Z : ZT h z TI TO i1 i2 l1 l2 f0 f1 i xs ys) : ∀ b ∈ [z, TO, i1, i2], ∃ o, h.get? b = some o := four ⟨_, Z.z⟩ (Z.to.elim fun _ q => q.elim fun _ q => ⟨_, q⟩) (Z.i1.imp fun _ q => q.1) (Z.i2.imp fun _ q => q.1)
theorem zip_apart {m a b : Addr} (h1 : @LT.lt Nat _ a m) (h2 : @LT.lt Nat _ b m) : ZipApart (m + 4) (m + 2) (m + 3) m (m + 1) a b := by
  constructor <;> exact neN (by omega)
theorem zip_tups (hh : A.handled = none) {v u : Value} {us vs : List FV} (hv : VF d.prog d.w F v (.tup us)) (hu : VF d.prog d.w F u (.tup vs)) (hlen : us.length = vs.length) (S : LSt F O led s.heap)
    (k : ∀ it F' O₁ h', Le F F' → Lent d A true it (zipF us vs) F' O O₁ led h' → Q it { s with heap := h' }) :
    wpAny (model d.prog d.w) A (call (.type "zip") [v, u]) (fun x s₁ => wpAny (model d.prog d.w) A (pyIter x) Q E s₁) E s := hv.asT rfl fun a oa xs n hf hc hd r => hu.asT rfl fun b ob ys m hg hc2 hd2 r2 => by
  have hsz : xs.size = ys.size := r.size.trans (hlen.trans r2.size.symm)
  refine call_zipT ⟨oa, S.fz _ _ hf, hc, n, hd⟩ ⟨ob, S.fz _ _ hg, hc2, m, hd2⟩ fun h' Z kp => ?_
  have fr := S.fresh (b := s.heap.objs.size + 2) (Nat.le_add_right _ _)
  have le : Le F (put F (s.heap.objs.size + 2) { cls := .type "tuple", data := .seq #[.ref s.heap.objs.size, .ref (s.heap.objs.size + 1)] }) := Le.put fr.1
  have S' := (S.keeps kp).addF Z.ti fr.2.1 fr.2.2
  have ge : ∀ c ∈ [s.heap.objs.size + 4, s.heap.objs.size + 3, s.heap.objs.size, s.heap.objs.size + 1], s.heap.objs.size ≤ c := four (Nat.le_add_right _ _) (Nat.le_add_right _ _) (Nat.le_refl _) (Nat.le_add_right _ _)
  have ne : ∀ c ∈ [s.heap.objs.size + 4, s.heap.objs.size + 3, s.heap.objs.size, s.heap.objs.size + 1], c ≠ s.heap.objs.size + 2 := four (Nat.ne_of_gt (Nat.lt_add_of_pos_right (by decide : 0 < 2))) (Nat.ne_of_gt (Nat.lt_succ_self _)) (Nat.ne_of_lt (Nat.lt_add_of_pos_right (by decide))) (Nat.ne_of_lt (Nat.lt_succ_self _))
  refine wpAny_pyIter_zip Z.z (k _ _ _ _ le (Lent.ofWalksT (walksZip hh (zip_apart (Heap.lt_size (S.fz _ _ hf)) (Heap.lt_size (S.fz _ _ hg))) hsz) (fun i h st => st.live) S' _ ((zipF_length _ _).trans (by rw [← hlen, Nat.min_self, r.size])) (fun j vals hj _ => ?_) Z
    ⟨fun c hc => (put_ne (ne c hc)).trans (S.fresh (ge c hc)).1, fun c hc => (S.fresh (ge c hc)).2.1, fun c hc => (S.fresh (ge c hc)).2.2, ?_, Z.live⟩))
  · obtain ⟨x, y, hx, hy, rfl⟩ := hj
    exact (r.nth hx).elim fun t q => (r2.nth hy).elim fun u q2 => ⟨[t, u], zipF_get us vs j t u q.1 q2.1, .cons (q.2.mono le) (.cons (q2.2.mono le) .nil)⟩
  · exact List.forall_mem_cons.mpr ⟨.inl (.head _), List.forall_mem_cons.mpr ⟨.inr ⟨_, put_self⟩, List.forall_mem_cons.mpr ⟨.inl (.tail _ (.head _)), List.forall_mem_cons.mpr ⟨.inl (.tail _ (.tail _ (.head _))), List.forall_mem_cons.mpr ⟨.inl (.tail _ (.tail _ (.tail _ (.head _)))),
      List.forall_mem_cons.mpr ⟨.inr ⟨_, le _ _ hf⟩, one_mem (.inr ⟨_, le _ _ hg⟩)⟩⟩⟩⟩⟩⟩

noncomputable def Off (F O : PH) (led : Led) (bs : List Addr) : Prop := ∀ b ∈ bs, F b = none ∧ O b = none ∧ ∀ p ∈ led, p.1 ≠ b
theorem Off.moved {bs cs : List Addr} {h' : Heap} (x : Off F O led bs) (S : LSt F O led h) (hs : ∀ c ∈ cs, c ∈ bs) (k : ∀ b o, b ∉ cs → h.get? b = some o → h'.get? b = some o) : LSt F O led h' :=
  S.moved (wr := cs) (fun b hb => (x b (hs b hb)).1) (fun b hb => (x b (hs b hb)).2.1) (fun b hb => (x b (hs b hb)).2.2) k
theorem drop_cons {α : Type} {l : List α} {k : Nat} {x : α} (e : l[k]? = some x) : l.drop k = x :: l.drop (k + 1) := by
  obtain ⟨h, rfl⟩ := List.getElem?_eq_some_iff.mp e
  exact List.drop_eq_getElem_cons h

theorem out4 {Sx : Addr} (h : Sx ∉ [z, TI, TO, i1, i2, l1, l2]) : Sx ≠ z ∧ Sx ≠ TO ∧ Sx ≠ i1 ∧ Sx ≠ i2 := ⟨fun e => h (e ▸ .head _), fun e => h (e ▸ .tail _ (.tail _ (.head _))), fun e => h (e ▸ .tail _ (.tail _ (.tail _ (.head _)))), fun e => h (e ▸ .tail _ (.tail _ (.tail _ (.tail _ (.head _)))))⟩
theorem Off.stays {Sx : Addr} {h' : Heap} (off : Off F O led [Sx, z, TO, i1, i2]) (S : LSt F O led h) (hk : ∀ c o, c ≠ z → c ≠ TO → c ≠ i1 → c ≠ i2 → h.get? c = some o → h'.get? c = some o) : LSt F O led h' :=
  off.moved (cs := [z, TO, i1, i2]) S (fun c hc => .tail _ hc) fun b o hb e => let n := not4 hb; hk b o n.1 n.2.1 n.2.2.1 n.2.2.2 e
theorem seq_room {k n : Nat} (h : k + (n + 1) ≤ 1000) : k + 1 ≤ sizeLine + 1 := Nat.succ_le_succ (szLine (Nat.le_trans (Nat.le_trans (Nat.le_add_right k _) h) (by decide)))
theorem zt_loop {R : Result → Shared → Prop} {Sx : Addr} {res : Value} (hh : A.handled = none) (D : ZipApart z TI TO i1 i2 l1 l2) (hl : xs.size = ys.size) (hz : xs.size ≤ 1000) {us vs : List FV} :
    ∀ (r k : Nat) (s : Shared) (F : PH) (f0 f1 : Value) (acc : Array Value) (c : Nat) (ts : List FV), k + r = xs.size → ZT s.heap z TI TO i1 i2 l1 l2 f0 f1 k xs ys → (f0 = .none ∨ ∃ (T : Addr) (o : Obj), f0 = rawInt T ∧ F T = some o) →
      s.heap.get? Sx = some { cls := .type "list", data := .seq acc c } → VFs d.prog d.w F acc.toList ts → acc.size = k → LSt F O led s.heap → Off F O led [Sx, z, TO, i1, i2] → Sx ∉ [z, TI, TO, i1, i2, l1, l2] → VFs d.prog d.w F xs.toList us → VFs d.prog d.w F ys.toList vs →
      (∀ F' h' acc' c', Le F F' → LSt F' O led h' → Off F' O led [Sx] → h'.get? Sx = some { cls := .type "list", data := .seq acc' c' } → VFs d.prog d.w F' acc'.toList (ts ++ (zipF us vs).drop k) → R (.ok (.ret res)) { s with heap := h' }) →
      codeAny (model d.prog d.w) A (.builtin "list.extend.loop" ⟨[.ref Sx, .ref z, res], []⟩) R s := by
  intro r
  induction r with
  | zero =>
    intro k s F f0 f1 acc c ts hk Z hf hS hts hac S off hSx r1 r2 hR
    refine codeAny_builtin PySem.F.entry_extend_loop ?_
    rw [Around.under_plainId PySem.F.plain_extend_loop _]
    refine (?_ : wpAny _ A.in1 (pyNext (.ref z) >>= _) _ _ s)
    have hx : xs[k]? = none := Array.getElem?_eq_none (Nat.le_of_eq hk.symm)
    have n := out4 hSx
    have hd : (zipF us vs).drop k = [] := List.drop_eq_nil_of_le (by rw [zipF_length, ← r1.size, ← r2.size, ← hl, Nat.min_self]; exact Nat.le_of_eq hk.symm)
    have fin : ∀ h', (∀ c o, c ≠ z → c ≠ TO → c ≠ i1 → c ≠ i2 → s.heap.get? c = some o → h'.get? c = some o) → R (.ok (.ret res)) { s with heap := h' } := fun h' hk =>
      hR F h' acc c (Le.refl _) (off.stays S hk) (one_mem (off _ (.head _))) (hk _ _ n.1 n.2.1 n.2.2.1 n.2.2.2 hS) (by rw [hd, List.append_nil]; exact hts)
    refine wpAny_bind (zt_next ?_ ⟨_, Z.z, rfl⟩)
    rcases hf with rfl | ⟨T, o, rfl, hT⟩
    · exact zt_free_end hh D Z hx fun h' e hk he => ⟨e, rfl, he, wpAny_pure (fin h' hk)⟩
    · exact zt_held_end hh D Z (S.fz _ _ hT) hx fun h' e hk he => ⟨e, rfl, he, wpAny_pure (fin h' hk)⟩
  | succ r ih =>
    intro k s F f0 f1 acc c ts hk Z hf hS hts hac S off hSx r1 r2 hR
    refine codeAny_builtin PySem.F.entry_extend_loop ?_
    rw [Around.under_plainId PySem.F.plain_extend_loop _]
    refine (?_ : wpAny _ A.in1 (pyNext (.ref z) >>= _) _ _ s)
    have hlx : k < xs.size := Nat.lt_of_lt_of_eq (Nat.lt_add_of_pos_right (Nat.succ_pos _)) hk
    have hx : xs[k]? = some xs[k] := Array.getElem?_eq_getElem hlx
    have hly : k < ys.size := hl ▸ hlx
    have hy : ys[k]? = some ys[k] := Array.getElem?_eq_getElem hly
    generalize xs[k] = x at hx
    generalize ys[k] = y at hy
    obtain ⟨t, e1, v1⟩ := r1.nth hx
    obtain ⟨u, e2, v2⟩ := r2.nth hy
    have hz : k + (r + 1) ≤ 1000 := Nat.le_trans (Nat.le_of_eq hk) hz
    have go : ∀ h' f0' f1', (f0' = rawInt s.heap.objs.size ∨ ∃ (T : Addr) (o : Obj), f0' = rawInt T ∧ F T = some o) → ZT h' z TI TO i1 i2 l1 l2 f0' f1' (k + 1) xs ys → IsPair h' s.heap.objs.size x y →
        (∀ c o, c ≠ z → c ≠ TO → c ≠ i1 → c ≠ i2 → s.heap.get? c = some o → h'.get? c = some o) → wpAny (model d.prog d.w) A.in1 (updateSeq Sx (·.push (.ref s.heap.objs.size)) >>= fun _ => again (.builtin "list.extend.loop" ⟨[.ref Sx, .ref z, res], []⟩))
          (fun fin s' => match fin with | .done f => R (.ok f) s' | .again c' => c'.quiet = true ∧ codeAny (model d.prog d.w) A c' R s') (fun e s' => R (.error e) s') { s with heap := h' } := fun h' f0' f1' hf0 Z' hP hk' => by
      have n := out4 hSx
      have hS' := hk' _ _ n.1 n.2.1 n.2.2.1 n.2.2.2 hS
      have S2 := (off.stays S hk').putAt (S.fresh (Nat.le_refl _)) hP
      have le : Le F (put F s.heap.objs.size { cls := .type "tuple", data := .seq #[x, y] }) := Le.put S.freshF
      have hne : ∀ {b}, (∃ o, s.heap.get? b = some o) → b ≠ s.heap.objs.size := fun q e => q.elim fun o q => Nat.ne_of_lt (Heap.lt_size q) e
      have off2 : Off (put F s.heap.objs.size { cls := .type "tuple", data := .seq #[x, y] }) O led [Sx, z, TO, i1, i2] := fun b hb =>
        ⟨(put_ne (hne ((List.forall_mem_cons.mpr ⟨⟨_, hS⟩, Z.live⟩ : ∀ b ∈ Sx :: [z, TO, i1, i2], ∃ o, s.heap.get? b = some o) b hb))).trans (off b hb).1, (off b hb).2⟩
      refine wpAny_bind (wpAny_updateSeq hS' rfl (wpAny_pure ⟨plainId_quiet PySem.F.plain_extend_loop _, ?_⟩) (szLine (Nat.le_trans (Nat.le_of_eq hac) (Nat.le_trans (Nat.le_add_right _ _) (Nat.le_trans hz (by decide))))) (by show (acc.push _).size ≤ sizeLine + 1; rw [Array.size_push, hac]; exact seq_room hz))
      have hU := Heap.get?_update_self (Obj.mapSeq (·.push (.ref s.heap.objs.size))) hS' rfl
      have hO : ∀ b o, b ≠ Sx → h'.get? b = some o → (h'.update Sx (Obj.mapSeq (·.push (.ref s.heap.objs.size)))).get? b = some o := fun b o hb e => (Heap.get?_update_other _ _ (Ne.symm hb)).trans e
      have S3 := off2.moved (cs := [Sx]) S2 (one_mem (.head _)) fun b o hb e => hO b o (fun q => hb (q ▸ .head _)) e
      refine ih (k + 1) { s with heap := h'.update Sx (Obj.mapSeq (·.push (.ref s.heap.objs.size))) } _ f0' f1' (acc.push (.ref s.heap.objs.size)) _ (ts ++ [.tup [t, u]]) ((Nat.succ_add_eq_add_succ k r).trans hk) (Z'.frame fun b hb o e => hO b o (fun q => hSx (q ▸ hb)) e) (.inr (hf0.elim (fun e => ⟨_, _, e, put_self⟩) fun q => q.imp fun T q => q.imp fun o q => ⟨q.1, le _ _ q.2⟩)) hU
        (by rw [Array.toList_push]; exact (hts.mono le).append (.cons (.tup put_self rfl rfl (.cons (v1.mono le) (.cons (v2.mono le) .nil))) .nil)) (by rw [Array.size_push, hac]) S3 off2 hSx (r1.mono le) (r2.mono le) fun F' h'' acc' c' le' S' o' g' rr => hR F' h'' acc' c' (le.trans le') S' o' g' ?_
      rw [drop_cons (zipF_get us vs k t u e1 e2)]
      rw [List.append_assoc] at rr; exact rr
    refine wpAny_bind (zt_next ?_ ⟨_, Z.z, rfl⟩)
    clear ih
    rcases hf with rfl | ⟨T, o, rfl, hT⟩
    · exact zt_free_item D Z hx hy fun h' Z' hP hk' => go h' _ _ (.inl rfl) Z' hP hk'
    · exact zt_held_item D Z (S.fz _ _ hT) hx hy fun h' f1' Z' hP hk' => go h' _ f1' (.inr ⟨T, o, rfl, hT⟩) Z' hP hk'
end
end Xm

open PySem PySem.W PySem.Calls PyProof.Rows PySem.Spec
namespace Xm
section
variable {d : D0} {A : Around} {F O : PH} {led : Led} {h : Heap} {s : Shared} {E : Value → Shared → Prop} {Q : Value → Shared → Prop} {ρ : List Addr} {ow : List AO}

theorem zip_list (ok : Ok d) (hh : A.handled = none) {v u : Value} {us vs : List FV} (R : OwnR d ρ ow F led) (hv : VF d.prog d.w F v (.tup us)) (hu : VF d.prog d.w F u (.tup vs)) (hz : us.length ≤ 1000) (hlen : us.length = vs.length) (S : LSt F O led s.heap)
    (k : ∀ x F' led' h' tk', CallP d ρ F led (.loc ow.length, ow ++ [.lst (zipF us vs)]) x F' led' → LSt F' O led' h' → Q x { s with heap := h', toks := tk' }) :
    wpAny (model d.prog d.w) A (call (.type "zip") [v, u]) (fun z s₁ => wpAny (model d.prog d.w) A (call (.type "list") [z]) Q E s₁) E s := by
  refine hv.asT rfl fun a oa xs n hf hc hd r => hu.asT rfl fun b ob ys m hg hc2 hd2 r2 => ?_
  have t1 : s.heap.IsTuple a xs := ⟨oa, S.fz _ _ hf, hc, n, hd⟩
  have t2 : s.heap.IsTuple b ys := ⟨ob, S.fz _ _ hg, hc2, m, hd2⟩
  have hsz : xs.size = ys.size := r.size.trans (hlen.trans r2.size.symm)
  have hxs : xs.size ≤ 1000 := Nat.le_trans (Nat.le_of_eq r.size) hz
  have hlt : @LT.lt Nat _ a s.heap.objs.size := Heap.lt_size (S.fz _ _ hf)
  have hlt2 : @LT.lt Nat _ b s.heap.objs.size := Heap.lt_size (S.fz _ _ hg)
  refine call_zipT t1 t2 fun h1 Z kp => ?_
  have D : ZipApart (s.heap.objs.size + 4) (s.heap.objs.size + 2) (s.heap.objs.size + 3) s.heap.objs.size (s.heap.objs.size + 1) a b := zip_apart hlt hlt2
  have S1 := S.keeps kp
  have fr : ∀ c, s.heap.objs.size ≤ c → F c = none ∧ O c = none ∧ ∀ p ∈ led, p.1 ≠ c := fun c hc => S.fresh hc
  have hlive : @LT.lt Nat _ (s.heap.objs.size + 4) h1.objs.size := Heap.lt_size Z.z
  generalize hsx : h1.objs.size = Sx at hlive
  have hge : s.heap.objs.size ≤ Sx := Nat.le_trans (Nat.le_add_right _ 4) (Nat.le_of_lt hlive)
  refine callType_codes (Q₁ := fun obj s₁ => obj = .ref Sx ∧ s₁ = { s with heap := h1.push { cls := .type "list", data := .seq #[] } }) PySem.F.called_list (PySem.F.typeCall_list_1 _) PySem.F.entry_list_init (code_list_new _ ⟨by rw [← hsx], rfl⟩) fun obj s₁ e => ?_
  obtain ⟨rfl, rfl⟩ := e
  have hS : (h1.push { cls := .type "list", data := .seq #[] }).get? Sx = some { cls := .type "list", data := .seq #[] } := by rw [← hsx]; exact Heap.get?_push_size _ rfl
  have Z2 := Z.frame (h' := h1.push { cls := .type "list", data := .seq #[] }) fun b _ o e => Heap.get?_push_of_some _ e
  have S2 := S1.push { cls := .type "list", data := .seq #[] }
  refine ⟨⟨_, hS, rfl⟩, PySem.F.args_list_init_2 _ _, ?_⟩
  show wpAny _ A.in1.in1 (do let old ← Builtin.List.listItems (.ref Sx); Builtin.List.listUpdate (.ref Sx) (fun _ => #[]); letGo old.toList.reverse; Builtin.List.listExtendWith (.ref Sx) (.ref (s.heap.objs.size + 4)) .none) _ _ _
  refine wpAny_bind ?_
  unfold Builtin.List.listItems
  refine wpAny_bind (wpAny_seqItems hS rfl (wpAny_pure ?_))
  show wpAny _ _ (updateSeq Sx (fun _ => #[]) >>= fun _ => letGo (#[] : Array Value).toList.reverse >>= fun _ => Builtin.List.listExtendWith (.ref Sx) (.ref (s.heap.objs.size + 4)) .none) _ _ _
  refine wpAny_bind (wpAny_updateSeq hS rfl ?_)
  have hS₂ := Heap.get?_update_self (Obj.mapSeq (fun _ => (#[] : Array Value))) hS rfl
  refine wpAny_bind (wpAny_letGo ?_)
  have oth2 : ∀ b o, b ≠ Sx → (h1.push { cls := .type "list", data := .seq #[] }).get? b = some o → ((h1.push { cls := .type "list", data := .seq #[] }).update Sx (Obj.mapSeq (fun _ => (#[] : Array Value)))).get? b = some o := fun b o hb e => (Heap.get?_update_other _ _ (Ne.symm hb)).trans e
  generalize (h1.push { cls := .type "list", data := .seq #[] }).update Sx (Obj.mapSeq (fun _ => (#[] : Array Value))) = h2 at hS₂ oth2 ⊢
  have hne : ∀ c ∈ [s.heap.objs.size + 4, s.heap.objs.size + 2, s.heap.objs.size + 3, s.heap.objs.size, s.heap.objs.size + 1, a, b], c ≠ Sx := by
    have lt : ∀ {c : Nat}, c ≤ s.heap.objs.size + 4 → c ≠ Sx := fun h => Nat.ne_of_lt (Nat.lt_of_le_of_lt h hlive)
    exact List.forall_mem_cons.mpr ⟨lt (Nat.le_refl _), List.forall_mem_cons.mpr ⟨lt (Nat.add_le_add_left (by decide) _), List.forall_mem_cons.mpr ⟨lt (Nat.add_le_add_left (by decide) _), List.forall_mem_cons.mpr ⟨lt (Nat.le_add_right _ _), List.forall_mem_cons.mpr ⟨lt (Nat.add_le_add_left (by decide) _),
      List.forall_mem_cons.mpr ⟨lt (Nat.le_trans (Nat.le_of_lt hlt) (Nat.le_add_right _ _)), one_mem (lt (Nat.le_trans (Nat.le_of_lt hlt2) (Nat.le_add_right _ _)))⟩⟩⟩⟩⟩⟩
  have Z3 := Z2.frame fun b hb o e => oth2 b o (hne b hb) e
  unfold Builtin.List.listExtendWith
  have hTz : ∀ {hh : Heap}, ZT hh (s.heap.objs.size + 4) (s.heap.objs.size + 2) (s.heap.objs.size + 3) s.heap.objs.size (s.heap.objs.size + 1) a b .none (.bool false) 0 xs ys → ∃ o, hh.get? (s.heap.objs.size + 4) = some o ∧ o.cls = .type "zip" := fun Z => ⟨_, Z.z, rfl⟩
  refine wpAny_bind (wpAny_typeOf (hTz Z3) ?_)
  have e1 : Builtin.List.listSameRef (.ref Sx) (.ref (s.heap.objs.size + 4)) = false := by
    have := hne (s.heap.objs.size + 4) (.head _)
    simp [Builtin.List.listSameRef, Ne.symm this]
  have e2 : (Value.type "zip" == Value.type "list") = false := by decide
  have e3 : (Value.type "zip" == Value.type "tuple") = false := by decide
  simp only [e1, e2, e3, Bool.or_false, Bool.false_eq_true, if_false]
  refine wpAny_bind (wpAny_pyIter_zip Z3.z ?_)
  refine wpAny_bind (wpAny_holding ?_)
  unfold Builtin.List.listLengthHint
  refine wpAny_bind (wpAny_specialOf (hTz Z3) zip_no_len ?_)
  show wpAny _ _ (specialOf (Value.ref (s.heap.objs.size + 4)) (Str.ofString "__length_hint__") >>= _) _ _ _
  refine wpAny_bind (wpAny_specialOf (hTz Z3) zip_no_hint ?_)
  refine wpAny_pure ?_
  show wpAny _ _ (rule "list.extend.makes-room" >>= fun _ => Builtin.List.listTouch (.ref Sx) >>= fun _ =>
    again (.builtin "list.extend.loop" ⟨[.ref Sx, .ref (s.heap.objs.size + 4), .none], []⟩)) _ _ _
  refine wpAny_bind (wpAny_rule ?_)
  refine wpAny_bind ?_
  show wpAny _ _ (updateSeq Sx (·.push .none) >>= fun _ => updateSeq Sx (·.pop)) _ _ _
  refine wpAny_bind (wpAny_updateSeq hS₂ rfl ?_)
  have hS₃ := Heap.get?_update_self (Obj.mapSeq (·.push Value.none)) hS₂ rfl
  refine wpAny_updateSeq (hz := by seq_fits) hS₃ rfl ?_
  have hS₄ := Heap.get?_update_self (Obj.mapSeq (·.pop)) hS₃ rfl
  have oth : ∀ b o, b ≠ Sx → h2.get? b = some o → ((h2.update Sx (Obj.mapSeq (·.push Value.none))).update Sx (Obj.mapSeq (·.pop))).get? b = some o :=
    fun b o hb e => (Heap.get?_update_other _ _ (Ne.symm hb)).trans ((Heap.get?_update_other _ _ (Ne.symm hb)).trans e)
  have Z4 := Z3.frame fun b hb o e => oth b o (hne b hb) e
  have off : Off F O led [Sx, s.heap.objs.size + 4, s.heap.objs.size + 3, s.heap.objs.size, s.heap.objs.size + 1] := List.forall_mem_cons.mpr ⟨fr _ hge, four (fr _ (Nat.le_add_right _ _)) (fr _ (Nat.le_add_right _ _)) (fr _ (Nat.le_refl _)) (fr _ (Nat.le_add_right _ _))⟩
  have S4 : LSt F O led ((h2.update Sx (Obj.mapSeq (·.push Value.none))).update Sx (Obj.mapSeq (·.pop))) := off.moved (cs := [Sx]) S2 (one_mem (.head _)) fun b o hb e => oth b o (fun q => hb (q ▸ .head _)) (oth2 b o (fun q => hb (q ▸ .head _)) e)
  have hSn : Sx ∉ [s.heap.objs.size + 4, s.heap.objs.size + 2, s.heap.objs.size + 3, s.heap.objs.size, s.heap.objs.size + 1, a, b] := fun q => hne Sx q rfl
  refine wpAny_pure ⟨plainId_quiet PySem.F.plain_extend_loop _, zt_loop (s := { s with heap := (h2.update Sx (Obj.mapSeq (·.push Value.none))).update Sx (Obj.mapSeq (·.pop)) }) (F := F) (O := O) (led := led) (ts := []) (us := us) (vs := vs) (by exact hh) D hsz hxs xs.size 0 _ _ #[] _ (Nat.zero_add _) Z4 (.inl rfl) hS₄ .nil rfl S4 off hSn r r2 fun F' h' acc' c' le S' off' g' rr => ?_⟩
  refine ⟨rfl, ?_⟩
  rw [List.drop_zero, List.nil_append] at rr
  have o1 := off' Sx (.head _)
  have R' := R.mono ok.kn le
  obtain ⟨y, st⟩ := R'.push (o := { cls := .type "list", data := .seq acc' c' }) (ao := .lst (zipF us vs)) o1.2.2 (R'.notMem o1.2.2 o1.1) (.lst rr)
  refine k (.ref Sx) F' _ h' s.toks ⟨ρ ++ [Sx], ⟨st.ext, le, st.keep, st.here, st.fresh⟩, .loc (R.len ▸ List.getElem?_concat_length), y⟩ ⟨S'.fz, S'.ow, List.forall_mem_cons.mpr ⟨⟨g', o1.1, o1.2.1⟩, S'.ld⟩⟩

theorem zipIn (ok : Ok d) : ZipIn d :=
  ⟨fun A O F led s E Q v u xs ys hh hv hu _ hlen S k => zip_tups hh hv hu hlen S k, fun A O F led ρ ow s E Q v u xs ys hh B R hv hu hz hlen S k => zip_list ok hh R hv hu hz hlen S k⟩
end
end Xm

open PySem PySem.W PySem.Calls PyProof.Rows PySem.Spec
namespace Xm

/-! leaves of a key: strings and ints -/
noncomputable abbrev LK := Str ⊕ Int
noncomputable def lkIs : LK → Value → Bool
  | .inl x, v => Value.isStrOf x v
  | .inr i, v => Value.isInt i v
theorem lkIs_inv {k : LK} {v : Value} (h : lkIs k v = true) : (∃ x t, k = .inl x ∧ v = .str x t) ∨ ∃ i t, k = .inr i ∧ v = .int i t := by
  cases k with
  | inl x => obtain ⟨t, rfl⟩ := Value.isStrOf_shape h; exact .inl ⟨x, t, rfl, rfl⟩
  | inr i => obtain ⟨t, rfl⟩ := Value.isInt_shape h; exact .inr ⟨i, t, rfl, rfl⟩
noncomputable def leafKind (prog : Program) (w : World) : KeyKind prog w LK where
  is := lkIs
  hash := fun | .inl x => hashStr w x | .inr i => hashInt i
  inj := fun v a b ha hb => by
    rcases lkIs_inv ha with ⟨x, t, rfl, rfl⟩ | ⟨x, t, rfl, rfl⟩ <;> rcases lkIs_inv hb with ⟨y, u, rfl, e⟩ | ⟨y, u, rfl, e⟩ <;> cases e <;> rfl
  byValue := fun k v h => by
    rcases lkIs_inv h with ⟨x, t, rfl, rfl⟩ | ⟨x, t, rfl, rfl⟩ <;> rfl
  pyHash := fun {A E s k v Q} hv h => by
    rcases lkIs_inv hv with ⟨x, t, rfl, rfl⟩ | ⟨x, t, rfl, rfl⟩
    · exact wpAny_pyHash_str h
    · exact wpAny_pyHash_int h
  eqBool := fun {A E s a b u v Q} hu hv h => by
    rcases lkIs_inv hu with ⟨x, t, rfl, rfl⟩ | ⟨x, t, rfl, rfl⟩ <;> rcases lkIs_inv hv with ⟨y, u, rfl, rfl⟩ | ⟨y, u, rfl, rfl⟩
    · exact wpAny_eqBool_str (by simpa using h)
    · exact SeqAt.EqAt.str_int x t y u prog w E Q (by simpa using h)
    · exact SeqAt.EqAt.int_str x t y u prog w E Q (by simpa using h)
    · exact (intKind prog w).eqBool (a := x) (b := y) (by simp [intKind, Value.isInt]) (by simp [intKind, Value.isInt]) (by simpa using h)
  «strs» := fun k x t v h => by
    rcases lkIs_inv h with ⟨y, u, rfl, e⟩ | ⟨y, u, rfl, e⟩ <;> cases e
    cases v <;> rfl
theorem leaf_any {prog prog' : Program} {w w' : World} {ks : List LK} {vs : List Value} (h : ItemsAre (leafKind prog w) ks vs) : ItemsAre (leafKind prog' w') ks vs := by
  induction h with
  | nil => exact .nil
  | cons h _ ih => exact .cons h ih
theorem tupKey_any {prog prog' : Program} {w w' : World} {h : Heap} {ks : List LK} {a : Addr} (x : IsTupleKey (leafKind prog w) h ks a) : IsTupleKey (leafKind prog' w') h ks a :=
  let ⟨o, items, n, ho, hc, hd, hi⟩ := x; ⟨o, items, n, ho, hc, hd, leaf_any hi⟩

/-! keys (str, (), leaves) -/
noncomputable abbrev KK := Str × List LK
noncomputable def IsKK (prog : Program) (w : World) (h : Heap) (k : KK) (a : Addr) : Prop :=
  ∃ o n x t e b, h.get? a = some o ∧ o.cls = .type "tuple" ∧ o.data = .seq #[.str x t, .ref e, .ref b] n ∧ k.1 = x ∧ IsTupleKey (leafKind prog w) h [] e ∧ IsTupleKey (leafKind prog w) h k.2 b
section
variable {prog : Program} {w : World} {A : Around} {E : Value → Shared → Prop} {s : Shared}
theorem IsKK.tup {h : Heap} {k : KK} {a : Addr} (x : IsKK prog w h k a) : ∃ t e b, h.IsTuple a #[.str k.1 t, .ref e, .ref b] ∧ IsTupleKey (leafKind prog w) h [] e ∧ IsTupleKey (leafKind prog w) h k.2 b := by
  obtain ⟨o, n, x, t, e, b, ho, hc, hd, rfl, h1, h2⟩ := x
  exact ⟨t, e, b, ⟨o, ho, hc, n, hd⟩, h1, h2⟩
theorem IsKK.inj {h : Heap} {a : Addr} {x y : KK} (hx : IsKK prog w h x a) (hy : IsKK prog w h y a) : x = y := by
  obtain ⟨o, n, x1, t, e, b, ho, hc, hd, q, h1, h2⟩ := hx
  obtain ⟨o', n', x2, t', e', b', ho', hc', hd', q', h1', h2'⟩ := hy
  rw [ho] at ho'; cases ho'
  rw [hd] at hd'; cases hd'
  exact Prod.ext (q.trans q'.symm) (h2.inj h2')
theorem IsKK.keeps {h h' : Heap} {k : KK} {a d : Addr} {o : Obj} {es ep} (x : IsKK prog w h k a) (ho : h.get? d = some o) (hd : o.data = .dict es ep) (hs : Heap.SameBut d h h') : IsKK prog w h' k a := by
  obtain ⟨o', n, x, t, e, b, ho', hc, hd', q, h1, h2⟩ := x
  have hne : a ≠ d := by
    rintro rfl
    rw [ho] at ho'; cases ho'
    rw [hd] at hd'; cases hd'
  exact ⟨o', n, x, t, e, b, (hs.2 a hne).trans ho', hc, hd', q, h1.keeps ho hd hs, h2.keeps ho hd hs⟩
noncomputable def kkHash (prog : Program) (w : World) (k : KK) : Int := reduceHash (Builtin.Tuple.tupleHashOf [hashStr w k.1, tupleKeyHash (leafKind prog w) [], tupleKeyHash (leafKind prog w) k.2])
theorem kk_pyHash {k : KK} {a : Addr} {Q : Int → Shared → Prop} (hu : A.units + 8 < cLine) (x : IsKK prog w s.heap k a) (h : Q (kkHash prog w k) { s with toks := s.toks + (k.2.length + 4) }) : wpAny (model prog w) A (pyHash (.ref a)) Q E s := by
  obtain ⟨o, n, x, t, e, b, ho, hc, hd, q, h1, h2⟩ := x
  refine pyHash_slot (T := "tuple") ⟨_, ho, hc⟩ F.slot_tuple_hash F.entry_tuple_hash (F.args_tuple_hash_1 _) (beq_builtin_none _) (.inr (by omega)) ?_
  show wpAny _ _ (Builtin.Tuple.tupleItemsOf (.ref a) >>= _) _ _ s
  refine wpAny_bind (wpAny_tupleItemsOf ho hd ?_)
  refine wpAny_bind ?_
  rw [← Array.forIn_toList]
  simp only [List.forIn_cons, List.forIn_nil]
  have u1 : A.in1.units < cLine := by show A.units + 1 < cLine; omega
  refine wpAny_bind (wpAny_bind (wpAny_pyHash_str (wpAny_pure ?_)))
  refine wpAny_bind (wpAny_bind (wpAny_pyHash_tuple (knd := leafKind prog w) u1 h1 (wpAny_pure ?_)))
  refine wpAny_bind (wpAny_bind (wpAny_pyHash_tuple (knd := leafKind prog w) u1 h2 (wpAny_pure (wpAny_pure ?_))))
  refine wpAny_bind (wpAny_mkInt (wpAny_pure ⟨_, _, rfl, ?_⟩))
  subst q
  have e : s.toks + 1 + (([] : List LK).length + 1) + (k.2.length + 1) + 1 = s.toks + (k.2.length + 4) := by simp; omega
  show Q _ { s with toks := s.toks + 1 + (([] : List LK).length + 1) + (k.2.length + 1) + 1 }
  rw [e]
  exact h
theorem tup_eqAt {x y : List LK} {a b : Addr} (hu : A.units < cLine) (hx : IsTupleKey (leafKind prog w) s.heap x a) (hy : IsTupleKey (leafKind prog w) s.heap y b) : SeqAt.EqAt A s (.ref a) (.ref b) (decide (x = y)) :=
  fun prog' w' E Q hq => wpAny_eqBool_tuple (knd := leafKind prog' w') hu (tupKey_any hx) (tupKey_any hy) hq
theorem kk_eqBool {x y : KK} {a b : Addr} {Q : Bool → Shared → Prop} (hu : A.units + 8 < cLine) (hx : IsKK prog w s.heap x a) (hy : IsKK prog w s.heap y b) (h : Q (decide (x = y)) s) : wpAny (model prog w) A (eqBool (.ref a) (.ref b)) Q E s := by
  by_cases hab : a = b
  · subst hab
    obtain rfl := hx.inj hy
    exact SeqAt.EqAt.same _ prog w E Q (by simpa using h)
  · obtain ⟨t, e, c, ht, h1, h2⟩ := hx.tup
    obtain ⟨t', e', c', ht', h1', h2'⟩ := hy.tup
    have u1 : A.in1.units < cLine := by show A.units + 1 < cLine; omega
    refine SeqAt.EqAt.of_refs hab (SeqAt.RcAt.tuples (e := fun j => match j with | 0 => decide (x.1 = y.1) | 1 => true | _ => decide (x.2 = y.2)) ht ht' (by omega) fun j j1 j2 => ?_) prog w E Q ?_
    · match j, j1 with
      | 0, _ =>
        intro prog' w' E Q hq
        exact wpAny_eqBool_str hq
      | 1, _ => exact tup_eqAt u1 h1 h1'
      | 2, _ => exact tup_eqAt u1 h2 h2'
    · have : ((List.range (min (#[Value.str x.1 t, .ref e, .ref c] : Array Value).size (#[Value.str y.1 t', .ref e', .ref c'] : Array Value).size)).all (fun j => match j with | 0 => decide (x.1 = y.1) | 1 => true | _ => decide (x.2 = y.2)) && (#[Value.str x.1 t, .ref e, .ref c] : Array Value).size == (#[Value.str y.1 t', .ref e', .ref c'] : Array Value).size) = decide (x = y) := by
        show ((decide (x.1 = y.1) && (true && (decide (x.2 = y.2) && true))) && true) = _
        rw [Bool.eq_iff_iff]
        simp [Prod.ext_iff]
      rw [this]; exact h
theorem quietN {n : Nat} {ks : List LK} {a : Addr} {Q : Bool → Shared → Prop} (hk : IsTupleKey (leafKind prog w) s.heap ks a) (h : Q true s) : wpAny (model prog w) A (eqIsQuiet (n + 1) (.ref a)) Q E s := by
  have hT := hk.typeIs
  obtain ⟨o, items, m, ho, _, hd, hi⟩ := hk
  unfold eqIsQuiet
  refine wpAny_bind (wpAny_specialOf hT F.slot_tuple_eq.lookup ?_)
  show wpAny _ _ (isInstance (.ref a) (.type "tuple") >>= _) _ _ s
  refine wpAny_bind (wpAny_isInstance hT isSubtype_tuple_tuple ?_)
  simp only [Bool.not_true, Bool.false_eq_true, if_false]
  refine wpAny_bind (wpAny_seqItems ho hd (wpAny_bind ?_))
  show wpAny _ _ (forIn items _ _) _ _ s
  rw [← Array.forIn_toList]
  refine wpAny_forIn_list _ (fun rest r s' => r.1 = none ∧ s' = s ∧ ∀ v ∈ rest, carriedByValue v = true) _ (fun v rest r s' z => ?_) (fun r s' z => ?_) _ _ ⟨rfl, rfl, hi.byValue⟩
  · obtain ⟨hr, rfl, all⟩ := z
    rw [eqIsQuiet_byValue _ (all v (.head _))]
    refine wpAny_bind (wpAny_pure ?_)
    simp only [Bool.not_true, Bool.false_eq_true, if_false]
    exact wpAny_pure ⟨rfl, rfl, fun u hu => all u (.tail _ hu)⟩
  · obtain ⟨r1, r2⟩ := r
    obtain ⟨hr, rfl, _⟩ := z
    dsimp only at hr
    subst hr
    exact wpAny_pure h
theorem kk_quiet {k : KK} {a : Addr} {Q : Bool → Shared → Prop} (x : IsKK prog w s.heap k a) (h : Q true s) : wpAny (model prog w) A (eqIsQuiet 8 (.ref a)) Q E s := by
  obtain ⟨o, n, x, t, e, b, ho, hc, hd, q, h1, h2⟩ := x
  have hT : s.TypeIs (.ref a) "tuple" := ⟨_, ho, hc⟩
  unfold eqIsQuiet
  refine wpAny_bind (wpAny_specialOf hT F.slot_tuple_eq.lookup ?_)
  show wpAny _ _ (isInstance (.ref a) (.type "tuple") >>= _) _ _ s
  refine wpAny_bind (wpAny_isInstance hT isSubtype_tuple_tuple ?_)
  simp only [Bool.not_true, Bool.false_eq_true, if_false]
  refine wpAny_bind (wpAny_seqItems ho hd (wpAny_bind ?_))
  show wpAny _ _ (forIn #[Value.str x t, .ref e, .ref b] _ _) _ _ s
  rw [← Array.forIn_toList]
  simp only [List.forIn_cons, List.forIn_nil]
  rw [eqIsQuiet_byValue _ (show carriedByValue (.str x t) = true from rfl)]
  refine wpAny_bind (wpAny_bind (wpAny_pure ?_))
  simp only [Bool.not_true, Bool.false_eq_true, if_false]
  refine wpAny_pure (wpAny_bind (wpAny_bind (quietN h1 ?_)))
  simp only [Bool.not_true, Bool.false_eq_true, if_false]
  refine wpAny_pure (wpAny_bind (wpAny_bind (quietN h2 ?_)))
  simp only [Bool.not_true, Bool.false_eq_true, if_false]
  exact wpAny_pure (wpAny_pure (wpAny_pure h))
end
noncomputable def kkKind (prog : Program) (w : World) : HeapKind prog w KK where
  is := IsKK prog w
  hash := kkHash prog w
  draws := fun k => k.2.length + 4
  room := fun A => A.units + 8 < cLine
  inj := fun hx hy => hx.inj hy
  keeps := fun x ho hd hs => x.keeps ho hd hs
  pyHash := fun hu hk h => kk_pyHash hu hk h
  eqBool := fun hu hx hy h => kk_eqBool hu hx hy h
  quiet := fun hk h => kk_quiet hk h
end Xm

open PySem PySem.W PySem.Calls PyProof.Rows PySem.Spec
namespace Xm
noncomputable def lk1 : FV → Option LK
  | .str x => some (.inl x)
  | .int i => some (.inr i)
  | _ => none
noncomputable def lks : List FV → Option (List LK)
  | [] => some []
  | x :: r => bnd (lk1 x) fun k => (lks r).map (k :: ·)
noncomputable def kkOf : FV → Option KK
  | .tup [.str x, .tup [], .tup ts] => (lks ts).map fun r => (x, r)
  | _ => none
theorem lks_of {ts : List FV} (h : (ts.all fun | .str _ => true | .int _ => true | _ => false) = true) : ∃ ks, lks ts = some ks := by
  induction ts with
  | nil => exact ⟨[], rfl⟩
  | cons x r ih =>
    rw [List.all_cons, Bool.and_eq_true] at h
    obtain ⟨ks, e⟩ := ih h.2
    cases x <;> first | exact absurd h.1 Bool.false_ne_true | exact ⟨_, by rw [lks, e]; rfl⟩
theorem isKey_inv {t : FV} (h : isKey t = true) : ∃ x ts, t = .tup [.str x, .tup [], .tup ts] ∧ (ts.all fun | .str _ => true | .int _ => true | _ => false) = true := by
  unfold isKey at h
  split at h
  · exact ⟨_, _, rfl, h⟩
  · cases h
theorem isKey_kk {t : FV} (h : isKey t = true) : ∃ k, kkOf t = some k := by
  obtain ⟨x, ts, rfl, h⟩ := isKey_inv h
  obtain ⟨ks, e⟩ := lks_of h
  exact ⟨(x, ks), by show (lks ts).map _ = _; rw [e]; rfl⟩
theorem kkOf_inv {t : FV} {k : KK} (h : kkOf t = some k) : ∃ x ts, t = .tup [.str x, .tup [], .tup ts] ∧ k.1 = x ∧ lks ts = some k.2 := by
  unfold kkOf at h
  split at h
  · obtain ⟨r, e, rfl⟩ := Option.map_eq_some_iff.mp h
    exact ⟨_, _, rfl, rfl, e⟩
  · cases h
theorem lks_cons {x : FV} {r : List FV} {ks : List LK} (h : lks (x :: r) = some ks) : ∃ k q, lk1 x = some k ∧ lks r = some q ∧ ks = k :: q := by
  obtain ⟨k, e1, e⟩ := bnd_some h
  obtain ⟨q, e2, rfl⟩ := Option.map_eq_some_iff.mp e
  exact ⟨k, q, e1, e2, rfl⟩
theorem lk1_inv {x : FV} {k : LK} (h : lk1 x = some k) : (∃ y, x = .str y ∧ k = .inl y) ∨ ∃ i, x = .int i ∧ k = .inr i := by
  unfold lk1 at h
  split at h <;> cases h
  · exact .inl ⟨_, rfl, rfl⟩
  · exact .inr ⟨_, rfl, rfl⟩
theorem sameFs_lks : ∀ {xs ys : List FV} {k q : List LK}, lks xs = some k → lks ys = some q → sameFs xs ys = decide (k = q)
  | [], [], _, _, e1, e2 => by cases e1; cases e2; rfl
  | [], _ :: _, _, _, e1, e2 => by cases e1; obtain ⟨_, _, _, _, rfl⟩ := lks_cons e2; simp [sameFs]
  | _ :: _, [], _, _, e1, e2 => by cases e2; obtain ⟨_, _, _, _, rfl⟩ := lks_cons e1; simp [sameFs]
  | x :: r, y :: t, _, _, e1, e2 => by
    obtain ⟨k, q, a1, a2, rfl⟩ := lks_cons e1
    obtain ⟨k', q', b1, b2, rfl⟩ := lks_cons e2
    rw [sameFs, sameFs_lks a2 b2]
    rcases lk1_inv a1 with ⟨z, rfl, rfl⟩ | ⟨z, rfl, rfl⟩ <;> rcases lk1_inv b1 with ⟨u, rfl, rfl⟩ | ⟨u, rfl, rfl⟩ <;> rw [Bool.eq_iff_iff] <;> simp [sameF]
theorem sameF_kk {x y : FV} {k q : KK} (hx : kkOf x = some k) (hy : kkOf y = some q) : sameF x y = decide (k = q) := by
  obtain ⟨a, ts, rfl, e1, e2⟩ := kkOf_inv hx
  obtain ⟨b, us, rfl, f1, f2⟩ := kkOf_inv hy
  have := sameFs_lks e2 f2
  show (sameF (.str a) (.str b) && (sameF (.tup []) (.tup []) && (sameF (.tup ts) (.tup us) && true))) = _
  simp only [sameF, sameFs, this]
  rw [Bool.eq_iff_iff]
  simp [Prod.ext_iff, e1, f1]

section
variable {prog : Program} {w : World} {F : PH} {h : Heap}
theorem leaves_at : ∀ {vs : List Value} {ts : List FV} {ks : List LK}, VFs prog w F vs ts → lks ts = some ks → ItemsAre (leafKind prog w) ks vs
  | _, _, _, .nil, e => by cases e; exact .nil
  | _, _, _, .cons hv r, e => by
    obtain ⟨k, q, a1, a2, rfl⟩ := lks_cons e
    refine .cons ?_ (leaves_at r a2)
    rcases lk1_inv a1 with ⟨z, rfl, rfl⟩ | ⟨z, rfl, rfl⟩
    · cases hv with | str _ t => simp [leafKind, lkIs, Value.isStrOf]
    · cases hv with | int _ t => simp [leafKind, lkIs, Value.isInt]
theorem kk_at (hF : ∀ a o, F a = some o → h.get? a = some o) {v : Value} {t : FV} {k : KK} (hv : VF prog w F v t) (e : kkOf t = some k) : ∃ a, v = .ref a ∧ IsKK prog w h k a := by
  obtain ⟨x, ts, rfl, e1, e2⟩ := kkOf_inv e
  cases hv with
  | @tup a o vs n _ hf hc hd r =>
    obtain ⟨l⟩ := vs
    cases r with
    | cons r1 r => cases r with
      | cons r2 r => cases r with
        | cons r3 r => cases r with
          | nil =>
            cases r1 with
            | str _ t =>
              cases r2 with
              | @tup b ob us m _ hf2 hc2 hd2 q2 =>
                cases r3 with
                | @tup c oc ws j _ hf3 hc3 hd3 q3 =>
                  exact ⟨a, rfl, o, n, x, t, b, c, hF _ _ hf, hc, hd, e1, ⟨ob, us, m, hF _ _ hf2, hc2, hd2, leaves_at q2 rfl⟩, ⟨oc, ws, j, hF _ _ hf3, hc3, hd3, leaves_at q3 e2⟩⟩
inductive KRel (prog : Program) (w : World) (F : PH) : List (KK × Addr × Value) → List (FV × FV) → Prop
  | nil : KRel prog w F [] []
  | cons {k : KK} {a : Addr} {v : Value} {fk fv : FV} {xs : List (KK × Addr × Value)} {es : List (FV × FV)} : VF prog w F (.ref a) fk → kkOf fk = some k → VF prog w F v fv → KRel prog w F xs es → KRel prog w F ((k, a, v) :: xs) ((fk, fv) :: es)
noncomputable def knOf (prog : Program) (w : World) : PH → Obj → List (FV × FV) → Prop := fun F o es =>
  ∃ en ep xs, o.ExactDict ∧ o.data = .dict en ep ∧ en.toList = xs.map (entryOfKey (kkKind prog w)) ∧ (xs.map (·.1)).Nodup ∧ KRel prog w F xs es
theorem KRel.mono {F' : PH} (le : Le F F') {xs : List (KK × Addr × Value)} {es : List (FV × FV)} (r : KRel prog w F xs es) : KRel prog w F' xs es := by
  induction r with
  | nil => exact .nil
  | cons h1 e h2 _ ih => exact .cons (h1.mono le) e (h2.mono le) ih
theorem KRel.length {xs : List (KK × Addr × Value)} {es : List (FV × FV)} (r : KRel prog w F xs es) : xs.length = es.length := by
  induction r with
  | nil => rfl
  | cons _ _ _ _ ih => simp [ih]
theorem KRel.snoc {xs : List (KK × Addr × Value)} {es : List (FV × FV)} (r : KRel prog w F xs es) {k : KK} {a : Addr} {v : Value} {fk fv : FV} (h1 : VF prog w F (.ref a) fk) (e : kkOf fk = some k) (h2 : VF prog w F v fv) : KRel prog w F (xs ++ [(k, a, v)]) (es ++ [(fk, fv)]) := by
  induction r with
  | nil => exact .cons h1 e h2 .nil
  | cons a1 a2 a3 _ ih => exact .cons a1 a2 a3 ih
theorem KRel.look {xs : List (KK × Addr × Value)} {es : List (FV × FV)} (r : KRel prog w F xs es) {t : FV} {k : KK} (e : kkOf t = some k) :
    (atKey xs k = none ∧ lookK es t = none) ∨ ∃ a v fv, atKey xs k = some (a, v) ∧ lookK es t = some fv ∧ VF prog w F v fv := by
  induction r with
  | nil => exact .inl ⟨rfl, rfl⟩
  | @cons k' a v fk fv xs es h1 e1 h2 _ ih =>
    rw [lookK, sameF_kk e1 e]
    unfold atKey
    rw [List.find?_cons]
    by_cases hk : k' = k
    · subst hk
      simp only [decide_true, if_true]
      exact .inr ⟨a, v, fv, rfl, rfl, h2⟩
    · simp only [hk, decide_false, Bool.false_eq_true, if_false]
      exact ih
theorem KRel.keys (hF : ∀ a o, F a = some o → h.get? a = some o) {xs : List (KK × Addr × Value)} {es : List (FV × FV)} (r : KRel prog w F xs es) : ∀ x ∈ xs, IsKK prog w h x.1 x.2.1 := by
  induction r with
  | nil => intro x hx; cases hx
  | cons h1 e h2 _ ih =>
    intro x hx
    rcases List.mem_cons.mp hx with rfl | hx
    · obtain ⟨a, q, z⟩ := kk_at hF h1 e
      cases q; exact z
    · exact ih x hx
end

section
variable {d : D0} {A : Around} {F O : PH} {led : Led} {ρ : List Addr} {ow : List AO} {s : Shared} {E : Value → Shared → Prop}
theorem knM (hk : d.kn = knOf d.prog d.w) : KnM d := fun F F' o es le h => by
  rw [hk] at h ⊢
  obtain ⟨en, ep, xs, a, b, c, n, r⟩ := h
  exact ⟨en, ep, xs, a, b, c, n, r.mono le⟩
theorem kn_place (hk : d.kn = knOf d.prog d.w) (R : OwnR d ρ ow F led) {i : Nat} {a : Addr} {ao : AO} {es : List (FV × FV)} (ha : ρ[i]? = some a) (e : ow[i]? = some ao) (h : ao = .kno es ∨ (ao = .dic [] ∧ es = [])) : ∃ o, (a, o) ∈ led ∧ knOf d.prog d.w F o es := by
  have p := R.at e ha
  rcases h with rfl | ⟨rfl, rfl⟩
  · cases p with
    | own hm r => cases r with | kno q => rw [hk] at q; exact ⟨_, hm, q⟩
  · cases p with
    | own hm r =>
      cases r with
      | dic dd q =>
        cases q
        obtain ⟨es, ep, hc, hdat, _, hp, _⟩ := dd
        have he : es.toList = [] := List.length_eq_zero_iff.mp hp.length
        exact ⟨_, hm, es, ep, [], hc, hdat, he, List.nodup_nil, .nil⟩
theorem kn_dict (S : LSt F O led s.heap) {a : Addr} {o : Obj} {es : List (FV × FV)} (hm : (a, o) ∈ led) (h : knOf d.prog d.w F o es) : ∃ xs, s.heap.DictOfH (kkKind d.prog d.w) a xs ∧ KRel d.prog d.w F xs es := by
  obtain ⟨en, ep, xs, hc, hd, he, hn, r⟩ := h
  exact ⟨xs, ⟨o, en, ep, (S.ld _ hm).1, hc, hd, he, r.keys S.fz, hn⟩, r⟩
theorem knoAt_inv {v : AV} {i : Nat} {es : List (FV × FV)} (e : knoAt ow v = some (i, es)) : v = .loc i ∧ ∃ ao, ow[i]? = some ao ∧ (ao = .kno es ∨ (ao = .dic [] ∧ es = [])) := by
  unfold knoAt at e
  split at e
  · split at e
    · rename_i q; cases e; exact ⟨rfl, _, q, .inl rfl⟩
    · rename_i q; cases e; exact ⟨rfl, _, q, .inr ⟨rfl, rfl⟩⟩
    · cases e
  · cases e
theorem knoIn (ok : Ok d) (hk : d.kn = knOf d.prog d.w) : KnoIn d where
  isIn := fun A O F led ρ ow s E Q a b x y i t es hu B R S ha hb e1 hkey e2 k => by
    obtain ⟨kk, ek⟩ := isKey_kk hkey
    obtain ⟨rfl, ao, e3, e4⟩ := knoAt_inv e2
    obtain ⟨dd, rfl, hd⟩ := hb.loc_inv
    obtain ⟨o, hm, hkn⟩ := kn_place hk R hd e3 e4
    obtain ⟨xs, D, r⟩ := kn_dict S hm hkn
    obtain ⟨c, rfl, hK⟩ := kk_at (h := s.heap) (fun _ _ e => e) (rd_sound ok B R S ha e1) ek
    refine wpAny_in_heap (knd := kkKind d.prog d.w) (show A.units + 1 + 8 < cLine by omega) hK (notModules ok B (S.ld _ hm).2.1) D ?_
    have : (atKey xs kk).isSome = (lookK es t).isSome := by
      rcases r.look ek with ⟨p, q⟩ | ⟨_, _, _, p, q, _⟩ <;> rw [p, q] <;> rfl
    rw [this]; exact k _
  item := fun A O F led ρ ow s E Q a b j t v es value slice hu B R S ha hb hkey e1 e2 hs k => by
    obtain ⟨kk, ek⟩ := isKey_kk hkey
    obtain ⟨dd, rfl, hd⟩ := ha.loc_inv
    obtain ⟨o, hm, hkn⟩ := kn_place hk R hd e1 (.inl rfl)
    obtain ⟨xs, D, r⟩ := kn_dict S hm hkn
    obtain ⟨c, rfl, hK⟩ := kk_at S.fz hb ek
    rcases r.look ek with ⟨p, q⟩ | ⟨a', v', fv, p, q, hv⟩
    · rw [e2] at q; cases q
    · rw [e2] at q; cases q
      exact tail_any D.typeIs slot_dict_getitem.lookup (wpAny_getItem_heap (knd := kkKind d.prog d.w) (show A.units + 1 + 8 < cLine by omega) hK D p (k v' _ hv)) hs
  set := fun A O F led ρ ow a b v j t u es ao hu B R ha hb hv hkey e1 e2 e3 hl => by
    intro s Q E S k
    obtain ⟨kk, ek⟩ := isKey_kk hkey
    obtain ⟨o, hm, hkn⟩ := kn_place hk R ha e1 e2
    obtain ⟨xs, D, r⟩ := kn_dict S hm hkn
    obtain ⟨c, rfl, hK⟩ := kk_at S.fz hb ek
    have hnone : atKey xs kk = none := by
      rcases r.look ek with ⟨p, q⟩ | ⟨_, _, _, p, q, _⟩
      · exact p
      · rw [e3] at q; cases q
    refine wpAny_setItem_heap (hsz := szLine (by rw [r.length]; omega)) (knd := kkKind d.prog d.w) (show A.units + 1 + 8 < cLine by omega) hK D fun h' hm' hs' => ?_
    rw [storedH_new hnone] at hm'
    obtain ⟨o', en, ep, ho', hc', hd', he', _, hn'⟩ := hm'
    obtain ⟨y, st⟩ := R.set (i := j) (a := a) (o := o') (ao := .kno (es ++ [(t, u)])) ha (.kno (by rw [hk]; exact ⟨en, ep, _, hc', hd', he', hn', r.snoc hb ek hv⟩)) hm
    exact k () _ _ _ _ ⟨ρ, st, .fz .none, y⟩ (S.setAt hm hs' ho')
end
/-- the interpreter is sound -/
theorem sound {d : D0} (ok : Ok d) (hk : d.kn = knOf d.prog d.w) (n : Nat) : Snd d (run d.tb n) n := snd_all ok (knoIn ok hk) (zipIn ok) n
end Xm

open PySem PySem.W PySem.Calls PyProof.Rows PySem.Spec
namespace Xm
/-! the tables of the text -/
noncomputable def fnI (dfl : List FV) (p : Option (List Str × List Stmt × List (Str × NameKind))) : FnI := match p with
  | some q => ⟨q.1, dfl, q.2.1, q.2.2⟩
  | none => ⟨[], [], [], []⟩
noncomputable abbrev gp (x : Str) (v : GV) : Str × GV := (x, v)
noncomputable abbrev fp (a : Addr) (f : FnI) : Addr × FnI := (a, f)
noncomputable def gTab : List (Str × GV) := [gp ("head_pairs" : Str) (.fn 61), gp ("could_be" : Str) (.fn 68), gp ("match_type" : Str) (.fn 75), gp ("match_all" : Str) (.fn 82), gp ("names_of" : Str) (.fn 87), gp ("matches_impl" : Str) (.fn 94), gp ("is_plainly_copy" : Str) (.fn 101),
  gp ("_law_pool" : Str) (.fn 211), gp ("_law_take" : Str) (.fn 218), gp ("_law_one" : Str) (.fn 225), gp ("_law_head" : Str) (.fn 232), gp ("_law_leaf" : Str) (.fn 239), gp ("_law_asked" : Str) (.fn 246), gp ("_law_same" : Str) (.fn 253), gp ("_law_fit" : Str) (.fn 260), gp ("_law_rows" : Str) (.fn 267),
  gp ("_law_answer" : Str) (.fn 272), gp ("_law_book" : Str) (.fn 277), gp ("_law_world" : Str) (.fn 282), gp ("_law_asked_right" : Str) (.fn 287), gp ("Selection" : Str) (.cls 149), gp ("ImplRow" : Str) (.cls 171), gp ("World" : Str) (.cls 200), gp ("zip" : Str) (.ty "zip"), gp ("list" : Str) (.ty "list"),
  gp ("tuple" : Str) (.ty "tuple"), gp ("int" : Str) (.ty "int"), gp ("enumerate" : Str) (.ty "enumerate"), gp ("range" : Str) (.ty "range"), gp ("len" : Str) (.bi "len"), gp ("max" : Str) (.bi "max"), gp ("min" : Str) (.bi "min"), gp ("COPY" : Str) (.cst (.str "Copy")), gp ("MOST_DEEP" : Str) (.cst (.int 60))]
noncomputable def fTab : List (Addr × FnI) := [fp 61 (fnI [] (findFn "head_pairs" top)), fp 68 (fnI [] (findFn "could_be" top)), fp 75 (fnI [] (findFn "match_type" top)), fp 82 (fnI [] (findFn "match_all" top)), fp 87 (fnI [] (findFn "names_of" top)),
  fp 94 (fnI [] (findFn "matches_impl" top)), fp 101 (fnI [] (findFn "is_plainly_copy" top)), fp 211 (fnI [] (findFn "_law_pool" top)), fp 218 (fnI [] (findFn "_law_take" top)), fp 225 (fnI [] (findFn "_law_one" top)),
  fp 232 (fnI [] (findFn "_law_head" top)), fp 239 (fnI [] (findFn "_law_leaf" top)), fp 246 (fnI [] (findFn "_law_asked" top)), fp 253 (fnI [] (findFn "_law_same" top)), fp 260 (fnI [] (findFn "_law_fit" top)),
  fp 267 (fnI [] (findFn "_law_rows" top)), fp 272 (fnI [] (findFn "_law_answer" top)), fp 277 (fnI [] (findFn "_law_book" top)), fp 282 (fnI [] (findFn "_law_world" top)), fp 287 (fnI [] (findFn "_law_asked_right" top)),
  fp 115 (fnI [] (findFn "__init__" (findCls "Selection" top))), fp 122 (fnI [] (findFn "bound_of" (findCls "Selection" top))), fp 127 (fnI [] (findFn "needs_of" (findCls "Selection" top))),
  fp 134 (fnI [] (findFn "candidates" (findCls "Selection" top))), fp 141 (fnI [] (findFn "asked" (findCls "Selection" top))), fp 146 (fnI [] (findFn "answer_of" (findCls "Selection" top))),
  fp 168 (fnI [.int 0] (findFn "__init__" (findCls "ImplRow" top))), fp 190 (fnI [.none] (findFn "__init__" (findCls "World" top)))]
noncomputable def mTab : List (Str × Addr) := [("bound_of", 122), ("needs_of", 127), ("candidates", 134), ("asked", 141), ("answer_of", 146)]
noncomputable def aTab (c : Addr) : List Str := if c == 149 then ["world", "bounds", "known"] else if c == 171 then ["number", "params", "trait", "trait_args", "self_type"] else if c == 200 then ["impls"] else []
noncomputable def iTab : List (Addr × Addr) := [(149, 115), (171, 168), (200, 190)]
noncomputable def tb1 : Tb where
  G := fun x => gTab.lookup x
  F := fun a => fTab.lookup a
  I := fun c => iTab.lookup c
  M := fun c m => if c == 149 then mTab.lookup m else none
  A := fun c a => (aTab c).contains a
  K := fun a => a == 211
noncomputable def lawF : FnI := fnI [] (findFn "law" top)

noncomputable def dOf (prog : Program) (w : World) (K : Frag) (h₀ : Heap) : D0 := { prog := prog, w := w, K := K, h₀ := h₀, kn := knOf prog w, tb := tb1, dm := 900, um := 9000 }

theorem lookupN_pair {α : Type} {l : List (Addr × α)} {x : Addr} {v : α} (e : l.lookup x = some v) : (x, v) ∈ l := by
  induction l with
  | nil => cases e
  | cons p r ih =>
    rw [List.lookup_cons] at e
    split at e
    · rename_i h; cases e; rw [eq_of_beq h]; exact .head _
    · exact .tail _ (ih e)
end Xm

open PySem PySem.W PySem.Calls PyProof.Rows PySem.Spec
namespace Xm
/-! rules of the interpreter -/
theorem bO {α β : Type} {x : Option α} {f : α → Option β} {a : α} {o : Option β} (h : x = some a) (k : f a = o) : bnd x f = o := by rw [h]; exact k
theorem iO {β : Type} {c : Prop} [Decidable c] {x y o : Option β} (h : c) (k : x = o) : (if c then x else y) = o := (if_pos h).trans k
theorem nO {β : Type} {c : Bool} {x y o : Option β} (h : c = false) (k : y = o) : (if c = true then x else y) = o := (if_neg (Bool.eq_false_iff.mp h)).trans k
section
variable {tb : Tb} {n : Nat}
theorem C_call {ih : Ih} {a : Addr} {f : FnI} {args : List AV} {bs : List (Str × AV)} {ow : List AO} {v : AV} {σ' : AS} {r : AV × List AO} (hF : tb.F a = some f) (hb : bindV f args = some bs)
    (hx : ih.ex f.body { sc := f.sc, vars := bs, ow := ow } = some (.ret v, σ')) (hl : leaveA tb a ow.length v σ'.ow = some r) : clStep tb ih a args ow = some r := bO hF (bO hb (bO hx hl))
theorem X_next {s : Stmt} {r : List Stmt} {σ σ1 : AS} {o : Option (Fl × AS)} (h : exStep tb (run tb n) s σ = some (.next, σ1)) (h2 : (run tb (n + 1)).ex r σ1 = o) : (run tb (n + 1)).ex (s :: r) σ = o := bO h h2
theorem X_ret {s : Stmt} {r : List Stmt} {σ σ1 : AS} {v : AV} (h : exStep tb (run tb n) s σ = some (.ret v, σ1)) : (run tb (n + 1)).ex (s :: r) σ = some (.ret v, σ1) := bO h rfl
theorem X_cont {s : Stmt} {r : List Stmt} {σ σ1 : AS} (h : exStep tb (run tb n) s σ = some (.cont, σ1)) : (run tb (n + 1)).ex (s :: r) σ = some (.cont, σ1) := bO h rfl
theorem X_brk {s : Stmt} {r : List Stmt} {σ σ1 : AS} (h : exStep tb (run tb n) s σ = some (.brk, σ1)) : (run tb (n + 1)).ex (s :: r) σ = some (.brk, σ1) := bO h rfl
theorem X_ifT {ih : Ih} {t : Expr} {a b : List Stmt} {p : Pos} {σ σ1 : AS} {o : Option (Fl × AS)} {c : Bool} (ht : test ih t σ = some (c, σ1)) (hc : c = true) (h : ih.ex a σ1 = o) : exStep tb ih (.If t a b p) σ = o := bO ht (iO hc h)
theorem X_ifF {ih : Ih} {t : Expr} {a b : List Stmt} {p : Pos} {σ σ1 : AS} {o : Option (Fl × AS)} {c : Bool} (ht : test ih t σ = some (c, σ1)) (hc : c = false) (h : ih.ex b σ1 = o) : exStep tb ih (.If t a b p) σ = o := bO ht (nO hc h)
theorem X_asg {ih : Ih} {x : Str} {np pos : Pos} {v : Expr} {σ σ1 : AS} {u : AV} (h : ih.ev v σ = some (u, σ1)) (hk : isLocalK (σ1.sc.lookup x) = true) (hv : isCompE v = false) : exStep tb ih (.Assign [.Name x np] v pos) σ = some (.next, setVar σ1 x u) := by
  have e : exStep tb ih (.Assign [.Name x np] v pos) σ = bnd (ih.ev v σ) (asgN x) := by
    induction v using PySem.Expr.casesOn <;> first | rfl | exact Bool.noConfusion hv
  exact e.trans (bO h (iO hk rfl))
theorem X_return {ih : Ih} {e : Expr} {pos : Pos} {σ σ1 : AS} {u : AV} (h : ih.ev e σ = some (u, σ1)) : exStep tb ih (.Return (some e) pos) σ = some (.ret u, σ1) := bO h rfl
theorem X_expr {ih : Ih} {o : Expr} {m : Str} {p1 p2 p3 : Pos} {args : List Expr} {kw : List Keyword} {σ σ1 : AS} (h : ih.ev (.Call (.Attribute o m p1) args kw p2) σ = some (.fz .none, σ1)) : exStep tb ih (.Expr (.Call (.Attribute o m p1) args kw p2) p3) σ = some (.next, σ1) := by
  have e : ∀ e, exStep tb ih (.Expr e p3) σ = if isCallA e then bnd (ih.ev e σ) fun p => if isNo p.1 then some (.next, p.2) else none else none := fun _ => rfl
  rw [e, if_pos (show isCallA (.Call (.Attribute o m p1) args kw p2) = true from rfl), h]; rfl
theorem X_for {ih : Ih} {t it : Expr} {body : List Stmt} {p : Pos} {σ σ1 : AS} {xs : List FV} {o : Option (Fl × AS)} (h : iterE tb ih t it σ = some (xs, σ1)) (h2 : exStep.forL ih t body σ1.vars.length σ1.ow.length xs σ1 = o) : exStep tb ih (.For t it body [] p) σ = o := bO h h2
theorem F_nil {ih : Ih} {t : Expr} {body : List Stmt} {m k : Nat} {σ : AS} : exStep.forL ih t body m k [] σ = some (.next, σ) := rfl
theorem F_cons {ih : Ih} {t : Expr} {body : List Stmt} {m k : Nat} {v : FV} {r : List FV} {σ σ1 σ2 σ3 : AS} {f : Fl} {o : Option (Fl × AS)} (h1 : bindT t (.fz v) σ = some σ1) (h2 : ih.ex body σ1 = some (f, σ2)) (hf : f = .next ∨ f = .cont) (h3 : cut m k σ2 = some σ3)
    (h4 : exStep.forL ih t body m k r σ3 = o) : exStep.forL ih t body m k (v :: r) σ = o := bO h1 (bO h2 (by rcases hf with rfl | rfl <;> exact bO h3 h4))
theorem F_brk {ih : Ih} {t : Expr} {body : List Stmt} {m k : Nat} {v : FV} {r : List FV} {σ σ1 σ2 σ3 : AS} (h1 : bindT t (.fz v) σ = some σ1) (h2 : ih.ex body σ1 = some (.brk, σ2)) (h3 : cut m k σ2 = some σ3) : exStep.forL ih t body m k (v :: r) σ = some (.next, σ3) := bO h1 (bO h2 (bO h3 rfl))
theorem E_bin {l r : Expr} {op : Operator} {p : Pos} {σ σ1 σ2 : AS} {a b : AV} {o : Option (AV × AS)} (h1 : (run tb n).ev l σ = some (a, σ1)) (h2 : (run tb n).ev r σ1 = some (b, σ2)) (h3 : binA op a b σ2 = o) : (run tb (n + 1)).ev (.BinOp l op r p) σ = o := bO h1 (bO h2 h3)
theorem E_fn {x : Str} {xp pos : Pos} {es : List Expr} {a : Addr} {σ σ1 : AS} {vs : List AV} {v : AV} {ow' : List AO} (hg : globA tb σ x = some (.fn a)) (hp : es.all plainE = true) (he : evs (run tb n) es σ = some (vs, σ1)) (hc : (run tb n).cl a vs σ1.ow = some (v, ow')) :
    (run tb (n + 1)).ev (.Call (.Name x xp) es [] pos) σ = some (v, { σ1 with ow := ow' }) := iO hp (bO hg (bO he (bO hc rfl)))
theorem E_bi {x : Str} {xp pos : Pos} {es : List Expr} {id : String} {σ σ1 : AS} {vs : List AV} {ts : List FV} {t : FV} (hg : globA tb σ x = some (.bi id)) (hp : es.all plainE = true) (he : evs (run tb n) es σ = some (vs, σ1)) (hr : rds σ1.ow vs = some ts) (hb : biA id ts = some t) :
    (run tb (n + 1)).ev (.Call (.Name x xp) es [] pos) σ = some (.fz t, σ1) := iO hp (bO hg (bO he (bO hr (bO hb rfl))))
theorem E_meth {o : Expr} {m : Str} {apos pos : Pos} {es : List Expr} {f : Addr} {σ σ1 σ2 : AS} {ov : AV} {vs : List AV} {v : AV} {ow' : List AO} (hb : (plainBase o && apos.endLine == pos.line && decide (es.length < 20)) = true) (hp : es.all plainE = true) (ho : (run tb n).ev o σ = some (ov, σ1)) (hm : mkA tb σ1.ow ov m = some (.fn f))
    (he : evs (run tb n) es σ1 = some (vs, σ2)) (hc : (run tb n).cl f (ov :: vs) σ2.ow = some (v, ow')) : (run tb (n + 1)).ev (.Call (.Attribute o m apos) es [] pos) σ = some (v, { σ2 with ow := ow' }) := iO hp (iO hb (bO ho (bO hm (bO he (bO hc rfl)))))
theorem V_nil {ih : Ih} {σ : AS} : evs ih [] σ = some ([], σ) := rfl
theorem V_cons {ih : Ih} {e : Expr} {r : List Expr} {σ σ1 σ2 : AS} {v : AV} {vs : List AV} (hs : plainE e = true) (h1 : ih.ev e σ = some (v, σ1)) (h2 : evs ih r σ1 = some (vs, σ2)) : evs ih (e :: r) σ = some (v :: vs, σ2) := iO hs (bO h1 (bO h2 rfl))
theorem E_ifT {t a b : Expr} {p : Pos} {σ σ1 : AS} {o : Option (AV × AS)} {c : Bool} (ht : test (run tb n) t σ = some (c, σ1)) (hc : c = true) (h : (run tb n).ev a σ1 = o) : (run tb (n + 1)).ev (.IfExp t a b p) σ = o := bO ht (iO hc h)
theorem E_ifF {t a b : Expr} {p : Pos} {σ σ1 : AS} {o : Option (AV × AS)} {c : Bool} (ht : test (run tb n) t σ = some (c, σ1)) (hc : c = false) (h : (run tb n).ev b σ1 = o) : (run tb (n + 1)).ev (.IfExp t a b p) σ = o := bO ht (nO hc h)
theorem E_sub {o i : Expr} {p : Pos} {σ σ1 σ2 : AS} {a b v : AV} (hi : isSliceE i = false) (h1 : (run tb n).ev o σ = some (a, σ1)) (h2 : (run tb n).ev i σ1 = some (b, σ2)) (h3 : itemA σ2.ow a b = some v) : (run tb (n + 1)).ev (.Subscript o i p) σ = some (v, σ2) := nO hi (bO h1 (bO h2 (bO h3 rfl)))
theorem E_tup {es : List Expr} {k : Nat} {p : Pos} {σ σ1 : AS} {vs : List AV} (h : evs (run tb n) es σ = some (vs, σ1)) (hl : vs.length ≤ 1000) : (run tb (n + 1)).ev (.Tuple es k p) σ = some (mkTup vs, σ1) := bO h (iO hl rfl)
theorem E_comp {elt : Expr} {gens : List Comprehension} {scope : Scope} {p : Pos} {σ : AS} {o : Option (AV × AS)} (h : compA tb (run tb n) elt gens scope σ = o) : (run tb (n + 1)).ev (.ListComp elt gens scope p) σ = o := h
theorem X_asgT {ih : Ih} {ts : List Expr} {k : Nat} {tp pos : Pos} {v : Expr} {σ σ1 σ2 : AS} {u : AV} {vs : List AV} {xs : List Str} {sw : Option (List Str)} (hs : swapN (fun x => σ.sc.lookup x == some .local) ts v = some sw) (hn : namesOfT ts = some xs) (h : ih.ev v σ = some (u, σ1)) (hi : itemsA u = some vs)
    (hb : asgB sw xs vs σ1 = some σ2) (hl : vs.length ≤ 20) (hnc : isCompE v = false := by rfl) : exStep tb ih (.Assign [.Tuple ts k tp] v pos) σ = some (.next, σ2) := nO hnc (bO hs (bO hn (bO h (bO hi (bO hb rfl)))))
theorem X_asgC {ih : Ih} {x : Str} {np pos vp : Pos} {elt : Expr} {gens : List Comprehension} {scope : Scope} {σ σ1 : AS} {u : AV} (hc : (σ.sc.lookup x == some .local && np.line == vp.line && !(scope.names.any fun p => p.1 == x && (p.2 == .local || p.2 == .cell))) = true)
    (h : compA tb ih elt gens scope σ = some (u, σ1)) (hk : isLocalK (σ1.sc.lookup x) = true) : exStep tb ih (.Assign [.Name x np] (.ListComp elt gens scope vp) pos) σ = some (.next, setVar σ1 x u) := iO hc (bO h (iO hk rfl))
theorem K_comp {ih : Ih} {elt t it : Expr} {ifs : List Expr} {gs : List Comprehension} {scope : Scope} {σ σ1 σ2 : AS} {c0 vs : List (Str × AV)} {xs ys : List FV} {o : AV × AS} (h0 : (shortG gs && scopeOk scope) = true) (h1 : captured scope.names σ = some c0) (h2 : iterE tb ih t it σ = some (xs, σ1))
    (h3 : captured scope.names σ1 = some vs) (h4 : loopC ih (compI ih elt gs) t ifs vs.length σ1.ow.length xs [] { sc := scope.names, vars := vs, ow := σ1.ow } = some (ys, σ2)) (hl : ys.length ≤ 10000) (ho : push { σ1 with ow := σ2.ow } (.lst ys) = o) : compA tb ih elt (⟨t, it, ifs, 0⟩ :: gs) scope σ = some o :=
  iO h0 (bO h1 (bO h2 (bO h3 (bO h4 (iO hl (congrArg some ho))))))
theorem K_cons {ih : Ih} {inner : List FV → AS → Option (List FV × AS)} {t : Expr} {ifs : List Expr} {m k : Nat} {v : FV} {r acc acc' : List FV} {σ σ1 σ2 σ3 σ4 : AS} {o : Option (List FV × AS)} (h1 : bindT t (.fz v) σ = some σ1) (h2 : tests ih ifs σ1 = some (true, σ2)) (h3 : inner acc σ2 = some (acc', σ3)) (h4 : cut m k σ3 = some σ4)
    (h5 : loopC ih inner t ifs m k r acc' σ4 = o) : loopC ih inner t ifs m k (v :: r) acc σ = o := bO h1 (bO h2 (iO rfl (bO h3 (bO h4 h5))))
theorem K_skip {ih : Ih} {inner : List FV → AS → Option (List FV × AS)} {t : Expr} {ifs : List Expr} {m k : Nat} {v : FV} {r acc : List FV} {σ σ1 σ2 σ4 : AS} {o : Option (List FV × AS)} (h1 : bindT t (.fz v) σ = some σ1) (h2 : tests ih ifs σ1 = some (false, σ2)) (h4 : cut m k σ2 = some σ4)
    (h5 : loopC ih inner t ifs m k r acc σ4 = o) : loopC ih inner t ifs m k (v :: r) acc σ = o := bO h1 (bO h2 (nO rfl (bO h4 h5)))
theorem K_elt {ih : Ih} {elt : Expr} {acc : List FV} {σ σ1 : AS} {v : AV} {t : FV} {ow' : List AO} (h1 : ih.ev elt σ = some (v, σ1)) (h2 : frzI σ1.ow v = some (t, ow')) (hl : acc.length ≤ 1000) : compI ih elt [] acc σ = some (acc ++ [t], { σ1 with ow := ow' }) := bO h1 (bO h2 (iO hl rfl))
theorem and_true' {a b : Bool} (h : a = true) (k : b = true) : (a && b) = true := by rw [h, k]; rfl
theorem E_append {o e : Expr} {m : Str} {apos pos : Pos} {σ σ1 σ2 : AS} {i : Nat} {xs : List FV} {v : AV} {t : FV} {ow' : List AO} (hb : (plainBase o && apos.endLine == pos.line) = true) (hp : plainE e = true) (ho : (run tb n).ev o σ = some (.loc i, σ1)) (hm : mkA tb σ1.ow (.loc i) m = some (.app i))
    (he : (run tb n).ev e σ1 = some (v, σ2)) (hf : frz σ2.ow v = some (t, ow')) (hx : lstAt ow' i = some xs) (hl : xs.length ≤ 1000) : (run tb (n + 1)).ev (.Call (.Attribute o m apos) [e] [] pos) σ = some (.fz .none, { σ2 with ow := ow'.set i (.lst (xs ++ [t])) }) :=
  iO (plain_one hp) (iO (and_true' hb rfl) (bO ho (bO hm (bO (V_cons hp he V_nil) (bO hf (bO hx (iO hl rfl)))))))
theorem E_extend {o e : Expr} {m : Str} {apos pos : Pos} {σ σ1 σ2 : AS} {i : Nat} {xs ys : List FV} {v : AV} (hb : (plainBase o && apos.endLine == pos.line) = true) (hp : plainE e = true) (ho : (run tb n).ev o σ = some (.loc i, σ1)) (hm : mkA tb σ1.ow (.loc i) m = some (.ext i))
    (he : (run tb n).ev e σ1 = some (v, σ2)) (hx : lstAt σ2.ow i = some xs) (hy : lstOf σ2.ow v = some ys) (hl : xs.length + ys.length ≤ 1000) : (run tb (n + 1)).ev (.Call (.Attribute o m apos) [e] [] pos) σ = some (.fz .none, { σ2 with ow := σ2.ow.set i (.lst (xs ++ ys)) }) :=
  iO (plain_one hp) (iO (and_true' hb rfl) (bO ho (bO hm (bO (V_cons hp he V_nil) (bO hx (bO hy (iO hl rfl)))))))
theorem iterV_list {σ σ1 : AS} {v : AV} {xs : List FV} {ow' : List AO} (h : frz σ.ow v = some (.lst xs, ow')) (hl : xs.length ≤ 1000) (e : σ1 = { σ with ow := ow' }) : iterV σ v = some (xs, σ1) := bO h (bO rfl (iO hl (by rw [e])))
theorem iterV_tup {σ σ1 : AS} {v : AV} {xs : List FV} {ow' : List AO} (h : frz σ.ow v = some (.tup xs, ow')) (hl : xs.length ≤ 1000) (e : σ1 = { σ with ow := ow' }) : iterV σ v = some (xs, σ1) := bO h (bO rfl (iO hl (by rw [e])))
theorem I_ty {ih : Ih} {t : Expr} {z : Str} {zp pos : Pos} {args : List Expr} {σ : AS} {t' : String} {o : Option (List FV × AS)} (hg : globA tb σ z = some (.ty t')) (h : iterB ih t t' args σ = o) : iterE tb ih t (.Call (.Name z zp) args [] pos) σ = o := by
  have e : tyOf tb σ (.Call (.Name z zp) args [] pos) = some (t', args) := by
    show (match globA tb σ z with | some (.ty t) => some (t, args) | _ => none) = _
    rw [hg]
  unfold iterE
  rw [e]; exact h
theorem I_ev {ih : Ih} {t e : Expr} {σ σ1 σ2 : AS} {v : AV} {xs : List FV} (hn : tyOf tb σ e = none) (hs : isSetE e = false) (h : ih.ev e σ = some (v, σ1)) (h2 : iterV σ1 v = some (xs, σ2)) : iterE tb ih t e σ = some (xs, σ2) := by
  unfold iterE
  rw [hn]; exact nO hs (bO h h2)
/-- a framed call -/
theorem L_call {a : Addr} {args : List AV} {ow os os' : List AO} {t : FV} {o : AV × List AO} (hK : tb.K a = false) (hp : pick ow (dedup (locsVs args)) = some os) (hc : clStep tb (run tb n) a (renVs (dedup (locsVs args)) args) os = some (.fz t, os')) (hl : (os'.length == os.length) = true) (ho : (.fz t, putBack (dedup (locsVs args)) os' ow) = o) :
    (run tb (n + 1)).cl a args ow = some o := nO hK (bO hp (bO hc (iO hl (congrArg some ho))))
end

/-! the law's own data -/
noncomputable abbrev A0 (t : FV) : AV := .fz t
noncomputable abbrev src (a b : Int) : AO := .lst [.int a, .int b]
noncomputable def GoodS (a b : Int) : Prop := 0 ≤ a ∧ 0 ≤ b ∧ b < 2147483647

theorem bits_small {b : Int} (h0 : 0 ≤ b) (h : b < 2147483647) : Builtin.Int.intBits b ≤ 64 := by
  unfold Builtin.Int.intBits
  split
  · omega
  · rename_i hb
    have h1 : b.natAbs ≠ 0 := by intro e; exact hb (by simpa using e)
    have : b.natAbs.log2 < 31 := (Nat.log2_lt h1).mpr (by omega)
    omega
noncomputable abbrev fF (x : Str) : FnI := fnI [] (findFn x top)
noncomputable abbrev fM (x : Str) : FnI := fnI [] (findFn x (findCls "Selection" top))
theorem take_pos (n : Nat) {a b t : Int} (ht : t = 1 ∨ t = 2 ∨ t = 3 ∨ t = 4 ∨ t = 5 ∨ t = 6 ∨ t = 8) (ha : 0 < a) :
    clStep tb1 (run tb1 (n + 20)) 218 [.loc 0, .fz (.int t)] [src a b] = some (.fz (.int (a.fmod t)), [src (a.fdiv t) b]) := by
  refine C_call (f := fF "_law_take") (by kernel_rfl) (bs := [("source", .loc 0), ("top", .fz (.int t))]) (by kernel_rfl) (v := .fz (.int (a.fmod t))) (σ' := ⟨(fF "_law_take").sc, [("source", .loc 0), ("top", .fz (.int t)), ("figure", .fz (.int (a.fmod t)))], [src (a.fdiv t) b]⟩) ?_ (by kernel_rfl)
  refine X_ret (X_ifT (c := decide (0 < a)) (σ1 := ⟨(fF "_law_take").sc, [("source", .loc 0), ("top", .fz (.int t))], [src a b]⟩) (by kernel_rfl) (decide_eq_true ha) ?_)
  rcases ht with rfl | rfl | rfl | rfl | rfl | rfl | rfl <;> kernel_rfl
theorem take_neg (n : Nat) {a b t : Int} (ht : t = 1 ∨ t = 2 ∨ t = 3 ∨ t = 4 ∨ t = 5 ∨ t = 6 ∨ t = 8) (ha : ¬ 0 < a) (h0 : 0 ≤ b) (h1 : b < 2147483647) :
    clStep tb1 (run tb1 (n + 20)) 218 [.loc 0, .fz (.int t)] [src a b] = some (.fz (.int ((((((b * 39373 + 7).fmod 2147483647) * ((b * 39373 + 7).fmod 2147483647)).fmod 2147483629).fdiv 32).fmod t)), [src a ((b * 39373 + 7).fmod 2147483647)]) := by
  generalize hc : (b * 39373 + 7).fmod 2147483647 = c
  have c0 : 0 ≤ c := by rw [← hc]; exact Int.fmod_nonneg_of_pos _ (by omega)
  have c1 : c < 2147483647 := by rw [← hc]; exact Int.fmod_lt_of_pos _ (by omega)
  refine C_call (f := fF "_law_take") (by kernel_rfl) (bs := [("source", .loc 0), ("top", .fz (.int t))]) (by kernel_rfl) (v := .fz (.int ((((c * c).fmod 2147483629).fdiv 32).fmod t))) (σ' := ⟨(fF "_law_take").sc, [("source", .loc 0), ("top", .fz (.int t))], [src a c]⟩) ?_ (by kernel_rfl)
  refine X_next (σ1 := ⟨(fF "_law_take").sc, [("source", .loc 0), ("top", .fz (.int t))], [src a b]⟩) (X_ifF (c := decide (0 < a)) (σ1 := ⟨(fF "_law_take").sc, [("source", .loc 0), ("top", .fz (.int t))], [src a b]⟩) (by kernel_rfl) (decide_eq_false ha) (by kernel_rfl)) ?_
  refine X_next (σ1 := ⟨(fF "_law_take").sc, [("source", .loc 0), ("top", .fz (.int t))], [src a c]⟩) (by rw [← hc]; kernel_rfl) ?_
  refine X_ret (X_return ?_)
  have hm : binA .Mult (.fz (.int c)) (.fz (.int c)) ⟨(fF "_law_take").sc, [("source", .loc 0), ("top", .fz (.int t))], [src a c]⟩ = some (.fz (.int (c * c)), ⟨(fF "_law_take").sc, [("source", .loc 0), ("top", .fz (.int t))], [src a c]⟩) := by
    show (if _ ∨ _ then some (c * c) else none).map _ = _
    rw [if_pos (.inl (bits_small c0 c1))]; rfl
  refine E_bin (a := .fz (.int (((c * c).fmod 2147483629).fdiv 32))) (b := .fz (.int t)) (σ1 := ⟨(fF "_law_take").sc, [("source", .loc 0), ("top", .fz (.int t))], [src a c]⟩) (σ2 := ⟨(fF "_law_take").sc, [("source", .loc 0), ("top", .fz (.int t))], [src a c]⟩) ?_ (by kernel_rfl) (by rcases ht with rfl | rfl | rfl | rfl | rfl | rfl | rfl <;> kernel_rfl)
  refine E_bin (a := .fz (.int ((c * c).fmod 2147483629))) (b := .fz (.int 32)) (σ1 := ⟨(fF "_law_take").sc, [("source", .loc 0), ("top", .fz (.int t))], [src a c]⟩) (σ2 := ⟨(fF "_law_take").sc, [("source", .loc 0), ("top", .fz (.int t))], [src a c]⟩) ?_ (by kernel_rfl) (by kernel_rfl)
  refine E_bin (a := .fz (.int (c * c))) (b := .fz (.int 2147483629)) (σ1 := ⟨(fF "_law_take").sc, [("source", .loc 0), ("top", .fz (.int t))], [src a c]⟩) (σ2 := ⟨(fF "_law_take").sc, [("source", .loc 0), ("top", .fz (.int t))], [src a c]⟩) ?_ (by kernel_rfl) (by kernel_rfl)
  exact E_bin (a := .fz (.int c)) (b := .fz (.int c)) (σ1 := ⟨(fF "_law_take").sc, [("source", .loc 0), ("top", .fz (.int t))], [src a c]⟩) (σ2 := ⟨(fF "_law_take").sc, [("source", .loc 0), ("top", .fz (.int t))], [src a c]⟩) (by kernel_rfl) (by kernel_rfl) hm
/-- what is drawn -/
theorem take_any (m : Nat) (hm : 20 ≤ m) {a b t : Int} (ht : t = 1 ∨ t = 2 ∨ t = 3 ∨ t = 4 ∨ t = 5 ∨ t = 6 ∨ t = 8) (g : GoodS a b) :
    ∃ f a' b', clStep tb1 (run tb1 m) 218 [.loc 0, .fz (.int t)] [src a b] = some (.fz (.int f), [src a' b']) ∧ 0 ≤ f ∧ f < t ∧ GoodS a' b' := by
  obtain ⟨n, rfl⟩ : ∃ n, m = n + 20 := ⟨m - 20, by omega⟩
  obtain ⟨h0, h1, h2⟩ := g
  have tp : 0 < t := by omega
  by_cases ha : 0 < a
  · exact ⟨_, _, _, take_pos n ht ha, Int.fmod_nonneg_of_pos _ tp, Int.fmod_lt_of_pos _ tp, Int.fdiv_nonneg h0 (by omega), h1, h2⟩
  · exact ⟨_, _, _, take_neg n ht ha h1 h2, Int.fmod_nonneg_of_pos _ tp, Int.fmod_lt_of_pos _ tp, h0, Int.fmod_nonneg_of_pos _ (by omega), Int.fmod_lt_of_pos _ (by omega)⟩
end Xm

open PySem PySem.W PySem.Calls PyProof.Rows PySem.Spec
namespace Xm
inductive Lf | u | b | x | v
inductive Ty | lf (l : Lf) | box (l : Lf) | pair (l r : Lf)
inductive Mn | m0 | mA | mB | mAB
inductive Wy | w0 | w1 | w2 | w3 (t : Mn) | w4 (t u : Mn) | w5 | w6 | w7
inductive Bd | d0 | dA | dAB
noncomputable def lfV : Lf → FV
  | .u => .tup [.str "int", .str "u8"]
  | .b => .tup [.str "bool"]
  | .x => .tup [.str "param", .str "X"]
  | .v => .tup [.str "var", .int 3]
noncomputable def tyV : Ty → FV
  | .lf l => lfV l
  | .box l => .tup [.str "box", lfV l]
  | .pair l r => .tup [.str "tuple", .tup [lfV l, lfV r]]
noncomputable def trV : Bool → FV
  | false => .str "A"
  | true => .str "B"
noncomputable def mnL : Mn → List Bool
  | .m0 => []
  | .mA => [false]
  | .mB => [true]
  | .mAB => [false, true]
noncomputable def mnV (m : Mn) : FV := .tup ((mnL m).map trV)
noncomputable def bdL : Bd → List Bool
  | .d0 => []
  | .dA => [false]
  | .dAB => [false, true]
noncomputable def bdV (m : Bd) : FV := .tup ((bdL m).map trV)
noncomputable def wyN : Wy → Int
  | .w0 => 0 | .w1 => 1 | .w2 => 2 | .w3 _ => 3 | .w4 _ _ => 4 | .w5 => 5 | .w6 => 6 | .w7 => 7
noncomputable def tT : FV := .tup [.str "param", .str "T"]
noncomputable def tU : FV := .tup [.str "param", .str "U"]
noncomputable def headV : Wy → FV
  | .w0 => lfV .u
  | .w1 => lfV .b
  | .w2 => lfV .x
  | .w3 _ => .tup [.str "box", tT]
  | .w4 _ _ => .tup [.str "tuple", .tup [tT, tU]]
  | .w5 => .tup [.str "tuple", .tup [tT, tT]]
  | .w6 => .tup [.str "box", lfV .u]
  | .w7 => tT
/-- the open names, each with the traits that are asked of it -/
noncomputable def ndL : Wy → List (Str × List Bool)
  | .w3 t => [("T", mnL t)]
  | .w4 t u => [("T", mnL t), ("U", mnL u)]
  | .w5 => [("T", [])]
  | .w7 => [("T", [])]
  | _ => []
noncomputable def ndV (w : Wy) : List FV := (ndL w).map fun p => .tup [.str p.1, .tup (p.2.map trV)]
noncomputable abbrev Rw := Bool × Wy
noncomputable def rowV (r : Rw) : FV := .tup [trV r.1, .int (wyN r.2), .lst (ndV r.2)]
noncomputable def bookV (b : List Rw) : FV := .lst (b.map rowV)
noncomputable def implV (num : Nat) (r : Rw) : FV := .inst 171 [("number", .int num), ("regions", .tup []), ("params", .lst (ndV r.2)), ("trait", trV r.1), ("trait_args", .tup []), ("self_type", headV r.2), ("methods", .dic []), ("spot", .int 0)]
noncomputable def implsV : Nat → List Rw → List FV
  | _, [] => []
  | n, r :: t => implV n r :: implsV (n + 1) t
noncomputable def worldV (b : List Rw) : FV := .inst 200 [("modules", .none), ("adts", .dic []), ("variants", .dic []), ("sigs", .dic []), ("traits", .dic []), ("impls", .lst (implsV 0 b)), ("consts", .dic []), ("bodies", .dic [])]
noncomputable def sameS : Lf → Lf → Nat
  | .u, .u => 2 | .b, .b => 2 | .x, .x => 2 | .v, .v => 2
  | .v, _ => 1 | _, .v => 1
  | _, _ => 0
noncomputable def fitS : Wy → Ty → Nat
  | .w0, .lf l => sameS .u l
  | .w1, .lf l => sameS .b l
  | .w2, .lf l => sameS .x l
  | .w3 _, .lf .v => 1
  | .w3 _, .box _ => 2
  | .w4 _ _, .lf .v => 1
  | .w4 _ _, .pair _ _ => 2
  | .w5, .lf .v => 1
  | .w5, .pair l r => sameS l r
  | .w6, .lf .v => 1
  | .w6, .box l => sameS .u l
  | .w7, _ => 2
  | _, _ => 0
/-- what the open names stand for: as the law writes it, as the code writes it -/
noncomputable def knoS : Wy → Ty → List (Str × Ty)
  | .w3 _, .box l => [("T", .lf l)]
  | .w4 _ _, .pair l r => [("T", .lf l), ("U", .lf r)]
  | .w5, .pair _ r => [("T", .lf r)]
  | .w7, t => [("T", t)]
  | _, _ => []
noncomputable def fndS : Wy → Ty → List (Str × Ty)
  | .w4 _ _, .pair l r => [("U", .lf r), ("T", .lf l)]
  | w, t => knoS w t
noncomputable def dicV (l : List (Str × Ty)) : FV := .dic (l.map fun p => (p.1, tyV p.2))
noncomputable def wordV : Nat → FV
  | 0 => .str "no"
  | 1 => .str "maybe"
  | _ => .str "yes"
section
theorem matchI0 (n num : Nat) (a : Bool) (t : Ty) (ow : List AO) : (run tb1 (n + 60)).cl 94 [.fz (implV num (a, .w0)), .fz (.tup []), .fz (tyV t)] ow = some (.fz (.tup [wordV (fitS (.w0) t), dicV (fndS (.w0) t)]), ow) := by
  rcases t with (_ | _ | _ | _) | (_ | _ | _ | _) | ⟨_ | _ | _ | _, _ | _ | _ | _⟩ <;> kernel_rfl
theorem matchI1 (n num : Nat) (a : Bool) (t : Ty) (ow : List AO) : (run tb1 (n + 60)).cl 94 [.fz (implV num (a, .w1)), .fz (.tup []), .fz (tyV t)] ow = some (.fz (.tup [wordV (fitS (.w1) t), dicV (fndS (.w1) t)]), ow) := by
  rcases t with (_ | _ | _ | _) | (_ | _ | _ | _) | ⟨_ | _ | _ | _, _ | _ | _ | _⟩ <;> kernel_rfl
theorem matchI2 (n num : Nat) (a : Bool) (t : Ty) (ow : List AO) : (run tb1 (n + 60)).cl 94 [.fz (implV num (a, .w2)), .fz (.tup []), .fz (tyV t)] ow = some (.fz (.tup [wordV (fitS (.w2) t), dicV (fndS (.w2) t)]), ow) := by
  rcases t with (_ | _ | _ | _) | (_ | _ | _ | _) | ⟨_ | _ | _ | _, _ | _ | _ | _⟩ <;> kernel_rfl
theorem matchI3 (n num : Nat) (a : Bool) (m : Mn) (t : Ty) (ow : List AO) : (run tb1 (n + 60)).cl 94 [.fz (implV num (a, .w3 m)), .fz (.tup []), .fz (tyV t)] ow = some (.fz (.tup [wordV (fitS (.w3 m) t), dicV (fndS (.w3 m) t)]), ow) := by
  rcases t with (_ | _ | _ | _) | (_ | _ | _ | _) | ⟨_ | _ | _ | _, _ | _ | _ | _⟩ <;> kernel_rfl
theorem matchI4 (n num : Nat) (a : Bool) (m k : Mn) (t : Ty) (ow : List AO) : (run tb1 (n + 60)).cl 94 [.fz (implV num (a, .w4 m k)), .fz (.tup []), .fz (tyV t)] ow = some (.fz (.tup [wordV (fitS (.w4 m k) t), dicV (fndS (.w4 m k) t)]), ow) := by
  rcases t with (_ | _ | _ | _) | (_ | _ | _ | _) | ⟨_ | _ | _ | _, _ | _ | _ | _⟩ <;> kernel_rfl
theorem matchI5 (n num : Nat) (a : Bool) (t : Ty) (ow : List AO) : (run tb1 (n + 60)).cl 94 [.fz (implV num (a, .w5)), .fz (.tup []), .fz (tyV t)] ow = some (.fz (.tup [wordV (fitS (.w5) t), dicV (fndS (.w5) t)]), ow) := by
  rcases t with (_ | _ | _ | _) | (_ | _ | _ | _) | ⟨_ | _ | _ | _, _ | _ | _ | _⟩ <;> kernel_rfl
theorem matchI6 (n num : Nat) (a : Bool) (t : Ty) (ow : List AO) : (run tb1 (n + 60)).cl 94 [.fz (implV num (a, .w6)), .fz (.tup []), .fz (tyV t)] ow = some (.fz (.tup [wordV (fitS (.w6) t), dicV (fndS (.w6) t)]), ow) := by
  rcases t with (_ | _ | _ | _) | (_ | _ | _ | _) | ⟨_ | _ | _ | _, _ | _ | _ | _⟩ <;> kernel_rfl
theorem matchI7 (n num : Nat) (a : Bool) (t : Ty) (ow : List AO) : (run tb1 (n + 60)).cl 94 [.fz (implV num (a, .w7)), .fz (.tup []), .fz (tyV t)] ow = some (.fz (.tup [wordV (fitS (.w7) t), dicV (fndS (.w7) t)]), ow) := by
  rcases t with (_ | _ | _ | _) | (_ | _ | _ | _) | ⟨_ | _ | _ | _, _ | _ | _ | _⟩ <;> kernel_rfl
theorem fitI0 (n : Nat) (t : Ty) (ow : List AO) : (run tb1 (n + 40)).cl 260 [.fz (.int (wyN (.w0))), .fz (tyV t)] ow = some (.fz (.tup [.int (fitS (.w0) t), dicV (knoS (.w0) t)]), ow) := by
  rcases t with (_ | _ | _ | _) | (_ | _ | _ | _) | ⟨_ | _ | _ | _, _ | _ | _ | _⟩ <;> kernel_rfl
theorem fitI1 (n : Nat) (t : Ty) (ow : List AO) : (run tb1 (n + 40)).cl 260 [.fz (.int (wyN (.w1))), .fz (tyV t)] ow = some (.fz (.tup [.int (fitS (.w1) t), dicV (knoS (.w1) t)]), ow) := by
  rcases t with (_ | _ | _ | _) | (_ | _ | _ | _) | ⟨_ | _ | _ | _, _ | _ | _ | _⟩ <;> kernel_rfl
theorem fitI2 (n : Nat) (t : Ty) (ow : List AO) : (run tb1 (n + 40)).cl 260 [.fz (.int (wyN (.w2))), .fz (tyV t)] ow = some (.fz (.tup [.int (fitS (.w2) t), dicV (knoS (.w2) t)]), ow) := by
  rcases t with (_ | _ | _ | _) | (_ | _ | _ | _) | ⟨_ | _ | _ | _, _ | _ | _ | _⟩ <;> kernel_rfl
theorem fitI3 (n : Nat) (m : Mn) (t : Ty) (ow : List AO) : (run tb1 (n + 40)).cl 260 [.fz (.int (wyN (.w3 m))), .fz (tyV t)] ow = some (.fz (.tup [.int (fitS (.w3 m) t), dicV (knoS (.w3 m) t)]), ow) := by
  rcases t with (_ | _ | _ | _) | (_ | _ | _ | _) | ⟨_ | _ | _ | _, _ | _ | _ | _⟩ <;> kernel_rfl
theorem fitI4 (n : Nat) (m k : Mn) (t : Ty) (ow : List AO) : (run tb1 (n + 40)).cl 260 [.fz (.int (wyN (.w4 m k))), .fz (tyV t)] ow = some (.fz (.tup [.int (fitS (.w4 m k) t), dicV (knoS (.w4 m k) t)]), ow) := by
  rcases t with (_ | _ | _ | _) | (_ | _ | _ | _) | ⟨_ | _ | _ | _, _ | _ | _ | _⟩ <;> kernel_rfl
theorem fitI5 (n : Nat) (t : Ty) (ow : List AO) : (run tb1 (n + 40)).cl 260 [.fz (.int (wyN (.w5))), .fz (tyV t)] ow = some (.fz (.tup [.int (fitS (.w5) t), dicV (knoS (.w5) t)]), ow) := by
  rcases t with (_ | _ | _ | _) | (_ | _ | _ | _) | ⟨_ | _ | _ | _, _ | _ | _ | _⟩ <;> kernel_rfl
theorem fitI6 (n : Nat) (t : Ty) (ow : List AO) : (run tb1 (n + 40)).cl 260 [.fz (.int (wyN (.w6))), .fz (tyV t)] ow = some (.fz (.tup [.int (fitS (.w6) t), dicV (knoS (.w6) t)]), ow) := by
  rcases t with (_ | _ | _ | _) | (_ | _ | _ | _) | ⟨_ | _ | _ | _, _ | _ | _ | _⟩ <;> kernel_rfl
theorem fitI7 (n : Nat) (t : Ty) (ow : List AO) : (run tb1 (n + 40)).cl 260 [.fz (.int (wyN (.w7))), .fz (tyV t)] ow = some (.fz (.tup [.int (fitS (.w7) t), dicV (knoS (.w7) t)]), ow) := by
  rcases t with (_ | _ | _ | _) | (_ | _ | _ | _) | ⟨_ | _ | _ | _, _ | _ | _ | _⟩ <;> kernel_rfl
theorem matchI (n num : Nat) (r : Rw) (t : Ty) (ow : List AO) : (run tb1 (n + 60)).cl 94 [.fz (implV num r), .fz (.tup []), .fz (tyV t)] ow = some (.fz (.tup [wordV (fitS r.2 t), dicV (fndS r.2 t)]), ow) := by
  obtain ⟨a, w⟩ := r
  cases w with
  | w0 => exact matchI0 n num a t ow
  | w1 => exact matchI1 n num a t ow
  | w2 => exact matchI2 n num a t ow
  | w3 m => exact matchI3 n num a m t ow
  | w4 m k => exact matchI4 n num a m k t ow
  | w5 => exact matchI5 n num a t ow
  | w6 => exact matchI6 n num a t ow
  | w7 => exact matchI7 n num a t ow
theorem fitI (n : Nat) (w : Wy) (t : Ty) (ow : List AO) : (run tb1 (n + 40)).cl 260 [.fz (.int (wyN w)), .fz (tyV t)] ow = some (.fz (.tup [.int (fitS w t), dicV (knoS w t)]), ow) := by
  cases w with
  | w0 => exact fitI0 n t ow
  | w1 => exact fitI1 n t ow
  | w2 => exact fitI2 n t ow
  | w3 m => exact fitI3 n m t ow
  | w4 m k => exact fitI4 n m k t ow
  | w5 => exact fitI5 n t ow
  | w6 => exact fitI6 n t ow
  | w7 => exact fitI7 n t ow
end
end Xm

open PySem PySem.W PySem.Calls PyProof.Rows PySem.Spec
namespace Xm
noncomputable abbrev S (x : Str) (vars : List (Str × AV)) (ow : List AO) : AS := ⟨(fF x).sc, vars, ow⟩
noncomputable abbrev SM (x : Str) (vars : List (Str × AV)) (ow : List AO) : AS := ⟨(fM x).sc, vars, ow⟩
theorem headI (n : Nat) (w : Wy) (ow : List AO) : (run tb1 (n + 20)).cl 232 [.fz (.int (wyN w))] ow = some (.fz (.tup [headV w, .lst ((ndL w).map fun p => .str p.1)]), ow) := by
  cases w <;> kernel_rfl
/-- one of a list's items -/
theorem one_any (m : Nat) (hm : 30 ≤ m) {a b : Int} (xs : List FV) {k : Nat} (hk : xs.length = k) (h : k = 1 ∨ k = 2 ∨ k = 3 ∨ k = 4) (g : GoodS a b) :
    ∃ x ∈ xs, ∃ a' b', clStep tb1 (run tb1 m) 225 [.loc 0, .loc 1] [src a b, .lst xs] = some (.fz x, [src a' b', .lst xs]) ∧ GoodS a' b' := by
  obtain ⟨n, rfl⟩ : ∃ n, m = n + 30 := ⟨m - 30, by omega⟩
  obtain ⟨f, a', b', e, f0, f1, g'⟩ := take_any (n + 26) (by omega) (t := (k : Int)) (by omega) g
  have hlt : f.toNat < xs.length := by omega
  refine ⟨xs[f.toNat], List.getElem_mem hlt, a', b', ?_, g'⟩
  refine C_call (f := fF "_law_one") (by kernel_rfl) (bs := [("source", .loc 0), ("things", .loc 1)]) (by kernel_rfl) (v := .fz xs[f.toNat]) (σ' := S "_law_one" [("source", .loc 0), ("things", .loc 1)] [src a' b', .lst xs]) ?_ (by kernel_rfl)
  refine X_ret (X_return (E_sub (by rfl) (a := .loc 1) (b := .fz (.int f)) (σ1 := S "_law_one" [("source", .loc 0), ("things", .loc 1)] [src a b, .lst xs]) (σ2 := S "_law_one" [("source", .loc 0), ("things", .loc 1)] [src a' b', .lst xs]) (by kernel_rfl) ?_ ?_))
  · refine E_fn (a := 218) (by kernel_rfl) (by rfl) (vs := [.loc 0, .fz (.int k)]) (σ1 := S "_law_one" [("source", .loc 0), ("things", .loc 1)] [src a b, .lst xs]) (V_cons (σ1 := S "_law_one" [("source", .loc 0), ("things", .loc 1)] [src a b, .lst xs]) (by rfl) (by kernel_rfl) (V_cons (by rfl) (E_bi (id := "len") (by kernel_rfl) (by rfl) (vs := [.loc 1]) (by kernel_rfl) (ts := [.lst xs]) (by kernel_rfl) ?_) V_nil)) ?_
    · show (if xs.length ≤ 1000 then some (FV.int xs.length) else none) = _
      rw [if_pos (by omega), hk]
    · exact L_call (by rfl) (os := [src a b]) (os' := [src a' b']) (t := .int f) (by kernel_rfl) e (by rfl) (by kernel_rfl)
  · show (if 0 ≤ f ∧ f < 100 then xs[f.toNat]? else none).map AV.fz = _
    rw [if_pos (by omega), List.getElem?_eq_getElem hlt]; rfl
theorem leaf_draw (m : Nat) (hm : 40 ≤ m) {a b : Int} (g : GoodS a b) : ∃ l a' b', clStep tb1 (run tb1 m) 239 [.loc 0] [src a b] = some (.fz (lfV l), [src a' b']) ∧ GoodS a' b' := by
  obtain ⟨n, rfl⟩ : ∃ n, m = n + 40 := ⟨m - 40, by omega⟩
  obtain ⟨x, hx, a', b', e, g'⟩ := one_any (n + 37) (by omega) [lfV .u, lfV .b, lfV .x, lfV .v] (k := 4) rfl (by omega) g
  have hl : ∃ l, x = lfV l := by
    simp only [List.mem_cons, List.not_mem_nil, or_false] at hx
    rcases hx with rfl | rfl | rfl | rfl <;> exact ⟨_, rfl⟩
  obtain ⟨l, rfl⟩ := hl
  refine ⟨l, a', b', ?_, g'⟩
  refine C_call (f := fF "_law_leaf") (by kernel_rfl) (bs := [("source", .loc 0)]) (by kernel_rfl) (v := .fz (lfV l)) (σ' := S "_law_leaf" [("source", .loc 0)] [src a' b', .lst [lfV .u, lfV .b, lfV .x, lfV .v]]) ?_ (by kernel_rfl)
  refine X_ret (X_return (E_fn (a := 225) (by kernel_rfl) (by rfl) (vs := [.loc 0, .loc 1]) (σ1 := S "_law_leaf" [("source", .loc 0)] [src a b, .lst [lfV .u, lfV .b, lfV .x, lfV .v]]) (by kernel_rfl) ?_))
  exact L_call (by rfl) (os := [src a b, .lst [lfV .u, lfV .b, lfV .x, lfV .v]]) (os' := [src a' b', .lst [lfV .u, lfV .b, lfV .x, lfV .v]]) (t := lfV l) (by kernel_rfl) e (by rfl) (by kernel_rfl)
theorem leaf_call {m : Nat} {l : Lf} {a2 b2 a3 b3 : Int} {vars : List (Str × AV)} {x : Str} {p2 xp pos : Pos} (h : clStep tb1 (run tb1 m) 239 [.loc 0] [src a2 b2] = some (.fz (lfV l), [src a3 b3])) (hg : globA tb1 (S "_law_asked" vars [src a2 b2]) x = some (.fn 239))
    (he : evs (run tb1 (m + 1)) [.Name "source" xp] (S "_law_asked" vars [src a2 b2]) = some ([.loc 0], S "_law_asked" vars [src a2 b2])) : (run tb1 (m + 2)).ev (.Call (.Name x p2) [.Name "source" xp] [] pos) (S "_law_asked" vars [src a2 b2]) = some (.fz (lfV l), S "_law_asked" vars [src a3 b3]) :=
  E_fn (a := 239) hg (by rfl) (vs := [.loc 0]) (σ1 := S "_law_asked" vars [src a2 b2]) he (L_call (by rfl) (os := [src a2 b2]) (os' := [src a3 b3]) (t := lfV l) (by rfl) h (by rfl) (by rfl))
theorem asked_draw (m : Nat) (hm : 60 ≤ m) {a b : Int} (g : GoodS a b) : ∃ t a' b', clStep tb1 (run tb1 m) 246 [.loc 0] [src a b] = some (.fz (tyV t), [src a' b']) ∧ GoodS a' b' := by
  obtain ⟨n, rfl⟩ : ∃ n, m = n + 60 := ⟨m - 60, by omega⟩
  obtain ⟨f, a1, b1, e, f0, f1, g1⟩ := take_any (n + 57) (by omega) (t := 5) (by omega) g
  have hc : f = 0 ∨ f = 1 ∨ f = 2 ∨ f = 3 ∨ f = 4 := by omega
  have cc : ∀ (v : AV) (σ' : AS), (run tb1 (n + 60)).ex (fF "_law_asked").body (S "_law_asked" [("source", .loc 0)] [src a b]) = some (.ret v, σ') → ∀ t a' b', v = .fz (tyV t) → σ'.ow = [src a' b'] → clStep tb1 (run tb1 (n + 60)) 246 [.loc 0] [src a b] = some (.fz (tyV t), [src a' b']) := fun v σ' hx t a' b' hv ho => by
    subst hv
    refine C_call (f := fF "_law_asked") (by kernel_rfl) (bs := [("source", .loc 0)]) (by kernel_rfl) hx ?_
    rw [ho]; rfl
  have first : ∀ o, (run tb1 (n + 60)).ex ((fF "_law_asked").body.drop 1) (S "_law_asked" [("source", .loc 0), ("way", .fz (.int f))] [src a1 b1]) = o → (run tb1 (n + 60)).ex (fF "_law_asked").body (S "_law_asked" [("source", .loc 0)] [src a b]) = o := fun o ho => by
    refine X_next (σ1 := S "_law_asked" [("source", .loc 0), ("way", .fz (.int f))] [src a1 b1]) (X_asg (u := .fz (.int f)) (σ1 := S "_law_asked" [("source", .loc 0)] [src a1 b1]) (E_fn (a := 218) (by kernel_rfl) (by rfl) (vs := [.loc 0, .fz (.int 5)]) (σ1 := S "_law_asked" [("source", .loc 0)] [src a b]) (by kernel_rfl) ?_) (by kernel_rfl) (by rfl)) ho
    exact L_call (by rfl) (os := [src a b]) (os' := [src a1 b1]) (t := .int f) (by kernel_rfl) e (by rfl) (by kernel_rfl)
  rcases hc with rfl | rfl | rfl | rfl | rfl
  · obtain ⟨l, a2, b2, e2, g2⟩ := leaf_draw (n + 56) (by omega) g1
    exact ⟨.lf l, a2, b2, cc (.fz (lfV l)) (S "_law_asked" [("source", .loc 0), ("way", .fz (.int 0))] [src a2 b2]) (first _ (X_ret (X_ifT (c := true) (σ1 := S "_law_asked" [("source", .loc 0), ("way", .fz (.int 0))] [src a1 b1]) (by kernel_rfl) rfl (X_ret (X_return (leaf_call e2 (by kernel_rfl) (by kernel_rfl))))))) _ _ _ rfl rfl, g2⟩
  · obtain ⟨l, a2, b2, e2, g2⟩ := leaf_draw (n + 56) (by omega) g1
    exact ⟨.lf l, a2, b2, cc (.fz (lfV l)) (S "_law_asked" [("source", .loc 0), ("way", .fz (.int 1))] [src a2 b2]) (first _ (X_ret (X_ifT (c := true) (σ1 := S "_law_asked" [("source", .loc 0), ("way", .fz (.int 1))] [src a1 b1]) (by kernel_rfl) rfl (X_ret (X_return (leaf_call e2 (by kernel_rfl) (by kernel_rfl))))))) _ _ _ rfl rfl, g2⟩
  · obtain ⟨l, a2, b2, e2, g2⟩ := leaf_draw (n + 55) (by omega) g1
    refine ⟨.box l, a2, b2, cc (.fz (tyV (.box l))) (S "_law_asked" [("source", .loc 0), ("way", .fz (.int 2))] [src a2 b2]) (first _ (X_next (σ1 := S "_law_asked" [("source", .loc 0), ("way", .fz (.int 2))] [src a1 b1]) (by kernel_rfl) (X_ret (X_ifT (c := true) (σ1 := S "_law_asked" [("source", .loc 0), ("way", .fz (.int 2))] [src a1 b1]) (by kernel_rfl) rfl (X_ret (X_return ?_)))))) _ _ _ rfl rfl, g2⟩
    exact E_tup (vs := [.fz (.str "box"), .fz (lfV l)]) (V_cons (σ1 := S "_law_asked" [("source", .loc 0), ("way", .fz (.int 2))] [src a1 b1]) (by rfl) (by kernel_rfl) (V_cons (by rfl) (leaf_call e2 (by kernel_rfl) (by kernel_rfl)) V_nil)) (by simp)
  all_goals
    obtain ⟨l, a2, b2, e2, g2⟩ := leaf_draw (n + 55) (by omega) g1
    obtain ⟨r, a3, b3, e3, g3⟩ := leaf_draw (n + 55) (by omega) g2
  · refine ⟨.pair l r, a3, b3, cc (.fz (tyV (.pair l r))) (S "_law_asked" [("source", .loc 0), ("way", .fz (.int 3))] [src a3 b3]) (first _ (X_next (σ1 := S "_law_asked" [("source", .loc 0), ("way", .fz (.int 3))] [src a1 b1]) (by kernel_rfl) (X_next (σ1 := S "_law_asked" [("source", .loc 0), ("way", .fz (.int 3))] [src a1 b1]) (by kernel_rfl) (X_ret (X_return ?_))))) _ _ _ rfl rfl, g3⟩
    refine E_tup (vs := [.fz (.str "tuple"), .fz (.tup [lfV l, lfV r])]) (V_cons (σ1 := S "_law_asked" [("source", .loc 0), ("way", .fz (.int 3))] [src a1 b1]) (by rfl) (by kernel_rfl) (V_cons (by rfl) (E_tup (vs := [.fz (lfV l), .fz (lfV r)]) (V_cons (σ1 := S "_law_asked" [("source", .loc 0), ("way", .fz (.int 3))] [src a2 b2]) (by rfl) (leaf_call e2 (by kernel_rfl) (by kernel_rfl)) (V_cons (by rfl) (leaf_call e3 (by kernel_rfl) (by kernel_rfl)) V_nil)) (by simp)) V_nil)) (by simp)
  · refine ⟨.pair l r, a3, b3, cc (.fz (tyV (.pair l r))) (S "_law_asked" [("source", .loc 0), ("way", .fz (.int 4))] [src a3 b3]) (first _ (X_next (σ1 := S "_law_asked" [("source", .loc 0), ("way", .fz (.int 4))] [src a1 b1]) (by kernel_rfl) (X_next (σ1 := S "_law_asked" [("source", .loc 0), ("way", .fz (.int 4))] [src a1 b1]) (by kernel_rfl) (X_ret (X_return ?_))))) _ _ _ rfl rfl, g3⟩
    refine E_tup (vs := [.fz (.str "tuple"), .fz (.tup [lfV l, lfV r])]) (V_cons (σ1 := S "_law_asked" [("source", .loc 0), ("way", .fz (.int 4))] [src a1 b1]) (by rfl) (by kernel_rfl) (V_cons (by rfl) (E_tup (vs := [.fz (lfV l), .fz (lfV r)]) (V_cons (σ1 := S "_law_asked" [("source", .loc 0), ("way", .fz (.int 4))] [src a2 b2]) (by rfl) (leaf_call e2 (by kernel_rfl) (by kernel_rfl)) (V_cons (by rfl) (leaf_call e3 (by kernel_rfl) (by kernel_rfl)) V_nil)) (by simp)) V_nil)) (by simp)
end Xm

open PySem PySem.W PySem.Calls PyProof.Rows PySem.Spec
namespace Xm
/-! parts of the text -/
noncomputable def inn : Stmt → List Stmt
  | .For _ _ b _ _ => b
  | .If _ a _ _ => a
  | .While _ b _ _ => b
  | _ => []
noncomputable def forT : Stmt → Expr
  | .For t _ _ _ _ => t
  | _ => .Name "" default
noncomputable def forI : Stmt → Expr
  | .For _ i _ _ _ => i
  | _ => .Name "" default
noncomputable abbrev at_ (l : List Stmt) (i : Nat) : Stmt := l.getD i (.Pass default)
noncomputable def valE : Stmt → Expr
  | .Assign _ v _ => v
  | .Return (some v) _ => v
  | .Expr v _ => v
  | .If t _ _ _ => t
  | _ => .Name "" default
noncomputable def cElt : Expr → Expr
  | .ListComp e _ _ _ => e
  | _ => .Name "" default
noncomputable def cSc : Expr → List (Str × NameKind)
  | .ListComp _ _ s _ => s.names
  | _ => []
noncomputable def cTgt : Expr → Expr
  | .ListComp _ (⟨t, _, _, _⟩ :: _) _ _ => t
  | _ => .Name "" default
theorem I_range {ih : Ih} {t a : Expr} {zp pos : Pos} {σ σ1 : AS} {k : Int} {xs : List FV} (hg : globA tb1 σ "range" = some (.ty "range")) (hp : plainE a = true) (h : ih.ev a σ = some (.fz (.int k), σ1)) (hk : 0 ≤ k ∧ k ≤ 1000) (hx : ((List.range k.toNat).map fun (i : Nat) => FV.int (i : Int)) = xs) :
    iterE tb1 ih t (.Call (.Name "range" zp) [a] [] pos) σ = some (xs, σ1) := by
  refine I_ty hg ?_
  show (if plainE a then bnd (ih.ev a σ) _ else none) = _
  rw [if_pos hp, h]
  show (if 0 ≤ k ∧ k ≤ 1000 then some ((List.range k.toNat).map (fun (i : Nat) => FV.int (i : Int)), σ1) else none) = _
  rw [if_pos hk, hx]

/-! _law_book -/
noncomputable def bkFor : Stmt := at_ (fF "_law_book").body 1
noncomputable def bkC : Expr := valE (at_ (inn bkFor) 2)
noncomputable abbrev SB (ow : List AO) : AS := ⟨cSc bkC, [("menu", .loc 3), ("source", .loc 0)], ow⟩
noncomputable abbrev SBn (x : Str) (ow : List AO) : AS := ⟨cSc bkC, [("menu", .loc 3), ("source", .loc 0), ("name", .fz (.str x))], ow⟩
theorem needs_loop (n : Nat) {f tm : AO} {menus : List FV} {k : Nat} (hk : menus.length = k) (h4 : k = 1 ∨ k = 2 ∨ k = 3 ∨ k = 4) : ∀ (ns : List Str) (acc : List FV) (a b : Int), GoodS a b → acc.length + ns.length ≤ 1000 →
    ∃ xs a' b', loopC (run tb1 (n + 39)) (compI (run tb1 (n + 39)) (cElt bkC) []) (cTgt bkC) [] 2 4 (ns.map .str) acc (SB [src a b, f, tm, .lst menus]) = some (acc ++ List.zipWith (fun x y => FV.tup [.str x, y]) ns xs, SB [src a' b', f, tm, .lst menus]) ∧ GoodS a' b' ∧ xs.length = ns.length ∧ ∀ x ∈ xs, x ∈ menus := by
  intro ns
  induction ns with
  | nil => intro acc a b g _; exact ⟨[], a, b, by simp [loopC], g, rfl, by simp⟩
  | cons x r ih =>
    intro acc a b g hl
    have hl' : acc.length + r.length + 1 ≤ 1000 := by simpa [Nat.add_assoc] using hl
    obtain ⟨y, hy, a1, b1, e, g1⟩ := one_any (n + 36) (by omega) menus hk h4 g
    obtain ⟨xs, a2, b2, e2, g2, l2, m2⟩ := ih (acc ++ [.tup [.str x, y]]) a1 b1 g1 (by simp; omega)
    refine ⟨y :: xs, a2, b2, ?_, g2, by simp [l2], fun z hz => (List.mem_cons.mp hz).elim (fun q => q ▸ hy) (m2 z)⟩
    refine K_cons (σ1 := SBn x [src a b, f, tm, .lst menus]) (σ2 := SBn x [src a b, f, tm, .lst menus]) (σ3 := SBn x [src a1 b1, f, tm, .lst menus]) (σ4 := SB [src a1 b1, f, tm, .lst menus]) (by kernel_rfl) (by kernel_rfl) (K_elt (v := .fz (.tup [.str x, y])) (t := .tup [.str x, y]) (σ1 := SBn x [src a1 b1, f, tm, .lst menus]) ?_ (by kernel_rfl) (by omega)) (by kernel_rfl) ?_
    · refine E_tup (vs := [.fz (.str x), .fz y]) (V_cons (σ1 := SBn x [src a b, f, tm, .lst menus]) (by rfl) (by kernel_rfl) (V_cons (by rfl) (E_fn (a := 225) (by kernel_rfl) (by rfl) (vs := [.loc 0, .loc 3]) (σ1 := SBn x [src a b, f, tm, .lst menus]) (by kernel_rfl) ?_) V_nil)) (by simp)
      exact L_call (by rfl) (os := [src a b, .lst menus]) (os' := [src a1 b1, .lst menus]) (t := y) (by kernel_rfl) e (by rfl) (by kernel_rfl)
    · rw [e2]; simp

noncomputable def menus4 : List FV := [mnV .m0, mnV .mA, mnV .mB, mnV .mAB]
theorem menu_of {x : FV} (h : x ∈ menus4) : ∃ m, x = mnV m := by
  simp only [menus4, List.mem_cons, List.not_mem_nil, or_false] at h
  rcases h with rfl | rfl | rfl | rfl <;> exact ⟨_, rfl⟩
theorem menu_one {x : FV} (h : x ∈ [mnV .m0]) : x = mnV .m0 := by simpa using h
/-- the names that a way leaves open, and the menu -/
noncomputable def bkNs : Nat → List Str
  | 3 => ["T"] | 4 => ["T", "U"] | 5 => ["T"] | 7 => ["T"]
  | _ => []
noncomputable def bkMenu (f : Nat) : List FV := if f < 5 then menus4 else [mnV .m0]
theorem row_of {x : FV} (hx : x ∈ [trV false, trV true]) {f : Nat} (hf : f < 8) {xs : List FV} (hl : xs.length = (bkNs f).length) (hm : ∀ y ∈ xs, y ∈ bkMenu f) : ∃ r : Rw, FV.tup [x, .int f, .lst (List.zipWith (fun a y => FV.tup [.str a, y]) (bkNs f) xs)] = rowV r := by
  have ht : ∃ a, x = trV a := by
    simp only [List.mem_cons, List.not_mem_nil, or_false] at hx
    rcases hx with rfl | rfl <;> exact ⟨_, rfl⟩
  obtain ⟨a, rfl⟩ := ht
  have hc : f = 0 ∨ f = 1 ∨ f = 2 ∨ f = 3 ∨ f = 4 ∨ f = 5 ∨ f = 6 ∨ f = 7 := by omega
  rcases hc with rfl | rfl | rfl | rfl | rfl | rfl | rfl | rfl
  · match xs, hl with | [], _ => exact ⟨(a, .w0), rfl⟩
  · match xs, hl with | [], _ => exact ⟨(a, .w1), rfl⟩
  · match xs, hl with | [], _ => exact ⟨(a, .w2), rfl⟩
  · match xs, hl with
    | [y], _ => obtain ⟨m, rfl⟩ := menu_of (hm y (.head _)); exact ⟨(a, .w3 m), rfl⟩
  · match xs, hl with
    | [y, z], _ =>
      obtain ⟨m, rfl⟩ := menu_of (hm y (.head _))
      obtain ⟨k, rfl⟩ := menu_of (hm z (.tail _ (.head _)))
      exact ⟨(a, .w4 m k), rfl⟩
  · match xs, hl with
    | [y], _ => obtain rfl := menu_one (hm y (.head _)); exact ⟨(a, .w5), rfl⟩
  · match xs, hl with | [], _ => exact ⟨(a, .w6), rfl⟩
  · match xs, hl with
    | [y], _ => obtain rfl := menu_one (hm y (.head _)); exact ⟨(a, .w7), rfl⟩
noncomputable abbrev SK (vars : List (Str × AV)) (ow : List AO) : AS := S "_law_book" (("source", .loc 0) :: ("found", .loc 1) :: vars) ow
theorem book_turn (n : Nat) {acc : List Rw} {a b : Int} {t : FV} (g : GoodS a b) (hl : acc.length ≤ 100) :
    ∃ (r : Rw) (a' b' : Int) (σ' : AS), (run tb1 (n + 40)).ex (inn bkFor) (SK [("turn", .fz t)] [src a b, .lst (acc.map rowV)]) = some (.next, σ') ∧ cut 2 2 σ' = some (SK [] [src a' b', .lst ((acc ++ [r]).map rowV)]) ∧ GoodS a' b' := by
  obtain ⟨x, hx, a1, b1, e1, g1⟩ := one_any (n + 36) (by omega) [trV false, trV true] (k := 2) rfl (by omega) g
  obtain ⟨fi, a2, b2, e2, f0, f1, g2⟩ := take_any (n + 36) (by omega) (t := 8) (by omega) g1
  obtain ⟨f, rfl⟩ := Int.eq_ofNat_of_zero_le f0
  have hf : f < 8 := by omega
  have hk : ∃ k, (bkMenu f).length = k ∧ (k = 1 ∨ k = 2 ∨ k = 3 ∨ k = 4) := by
    unfold bkMenu
    split
    · exact ⟨4, rfl, by omega⟩
    · exact ⟨1, rfl, by omega⟩
  obtain ⟨k, hk1, hk2⟩ := hk
  obtain ⟨xs, a3, b3, e3, g3, l3, m3⟩ := needs_loop n (f := .lst (acc.map rowV)) (tm := .lst [trV false, trV true]) hk1 hk2 (bkNs f) [] a2 b2 g2 (by unfold bkNs; split <;> simp)
  obtain ⟨r, er⟩ := row_of hx hf l3 m3
  rw [List.nil_append] at e3
  generalize hys : List.zipWith (fun a y => FV.tup [.str a, y]) (bkNs f) xs = ys at e3 er
  have hyl : ys.length ≤ 1000 := by
    rw [← hys, List.length_zipWith]
    have : (bkNs f).length ≤ 2 := by unfold bkNs; split <;> simp
    omega
  refine ⟨r, a3, b3, SK [("turn", .fz t), ("way", .fz (.int f)), ("trait", .fz x), ("menu", .loc 3), ("needs", .loc 4)] [src a3 b3, .lst ((acc ++ [r]).map rowV), .lst [trV false, trV true], .lst (bkMenu f), .fz (.lst ys)], ?_, by kernel_rfl, g3⟩
  have s0 : exStep tb1 (run tb1 (n + 39)) (at_ (inn bkFor) 0) (SK [("turn", .fz t)] [src a b, .lst (acc.map rowV)]) = some (.next, SK [("turn", .fz t), ("way", .fz (.int f)), ("trait", .fz x)] [src a2 b2, .lst (acc.map rowV), .lst [trV false, trV true]]) := by
    refine X_asgT (sw := some ["trait", "way"]) (xs := ["trait", "way"]) (u := .fz (.tup [x, .int f])) (vs := [.fz x, .fz (.int f)]) (σ1 := SK [("turn", .fz t)] [src a2 b2, .lst (acc.map rowV), .lst [trV false, trV true]]) (by kernel_rfl) (by kernel_rfl) ?_ (by rfl) (by kernel_rfl) (by simp)
    refine E_tup (vs := [.fz x, .fz (.int f)]) (V_cons (σ1 := SK [("turn", .fz t)] [src a1 b1, .lst (acc.map rowV), .lst [trV false, trV true]]) (by rfl) (E_fn (a := 225) (by kernel_rfl) (by rfl) (vs := [.loc 0, .loc 2]) (σ1 := SK [("turn", .fz t)] [src a b, .lst (acc.map rowV), .lst [trV false, trV true]]) (by kernel_rfl) ?_) (V_cons (by rfl) (E_fn (a := 218) (by kernel_rfl) (by rfl) (vs := [.loc 0, .fz (.int 8)]) (σ1 := SK [("turn", .fz t)] [src a1 b1, .lst (acc.map rowV), .lst [trV false, trV true]]) (by kernel_rfl) ?_) V_nil)) (by simp)
    · exact L_call (by rfl) (os := [src a b, .lst [trV false, trV true]]) (os' := [src a1 b1, .lst [trV false, trV true]]) (t := x) (by kernel_rfl) e1 (by rfl) (by kernel_rfl)
    · exact L_call (by rfl) (os := [src a1 b1]) (os' := [src a2 b2]) (t := .int f) (by kernel_rfl) e2 (by rfl) (by kernel_rfl)
  have s1 : exStep tb1 (run tb1 (n + 39)) (at_ (inn bkFor) 1) (SK [("turn", .fz t), ("way", .fz (.int f)), ("trait", .fz x)] [src a2 b2, .lst (acc.map rowV), .lst [trV false, trV true]]) = some (.next, SK [("turn", .fz t), ("way", .fz (.int f)), ("trait", .fz x), ("menu", .loc 3)] [src a2 b2, .lst (acc.map rowV), .lst [trV false, trV true], .lst (bkMenu f)]) := by
    have hc : f = 0 ∨ f = 1 ∨ f = 2 ∨ f = 3 ∨ f = 4 ∨ f = 5 ∨ f = 6 ∨ f = 7 := by omega
    clear e3 hys m3 l3 e2 f0 f1 er hk1
    rcases hc with rfl | rfl | rfl | rfl | rfl | rfl | rfl | rfl <;> kernel_rfl
  have s2 : exStep tb1 (run tb1 (n + 39)) (at_ (inn bkFor) 2) (SK [("turn", .fz t), ("way", .fz (.int f)), ("trait", .fz x), ("menu", .loc 3)] [src a2 b2, .lst (acc.map rowV), .lst [trV false, trV true], .lst (bkMenu f)]) = some (.next, SK [("turn", .fz t), ("way", .fz (.int f)), ("trait", .fz x), ("menu", .loc 3), ("needs", .loc 4)] [src a3 b3, .lst (acc.map rowV), .lst [trV false, trV true], .lst (bkMenu f), .lst ys]) := by
    refine X_asgC (u := .loc 4) (σ1 := SK [("turn", .fz t), ("way", .fz (.int f)), ("trait", .fz x), ("menu", .loc 3)] [src a3 b3, .lst (acc.map rowV), .lst [trV false, trV true], .lst (bkMenu f), .lst ys]) (by kernel_rfl) ?_ (by kernel_rfl)
    refine K_comp (c0 := [("menu", .loc 3), ("source", .loc 0)]) (vs := [("menu", .loc 3), ("source", .loc 0)]) (xs := (bkNs f).map .str) (ys := ys) (σ1 := SK [("turn", .fz t), ("way", .fz (.int f)), ("trait", .fz x), ("menu", .loc 3)] [src a2 b2, .lst (acc.map rowV), .lst [trV false, trV true], .lst (bkMenu f)]) (σ2 := SB [src a3 b3, .lst (acc.map rowV), .lst [trV false, trV true], .lst (bkMenu f)]) (by kernel_rfl) (by kernel_rfl) ?_ (by kernel_rfl) e3 (by omega) (by kernel_rfl)
    have hc : f = 0 ∨ f = 1 ∨ f = 2 ∨ f = 3 ∨ f = 4 ∨ f = 5 ∨ f = 6 ∨ f = 7 := by omega
    clear e3 hys m3 l3 e2 f0 f1 er hk1
    rcases hc with rfl | rfl | rfl | rfl | rfl | rfl | rfl | rfl <;> kernel_rfl
  have s3 : exStep tb1 (run tb1 (n + 39)) (at_ (inn bkFor) 3) (SK [("turn", .fz t), ("way", .fz (.int f)), ("trait", .fz x), ("menu", .loc 3), ("needs", .loc 4)] [src a3 b3, .lst (acc.map rowV), .lst [trV false, trV true], .lst (bkMenu f), .lst ys]) = some (.next, SK [("turn", .fz t), ("way", .fz (.int f)), ("trait", .fz x), ("menu", .loc 3), ("needs", .loc 4)] [src a3 b3, .lst ((acc ++ [r]).map rowV), .lst [trV false, trV true], .lst (bkMenu f), .fz (.lst ys)]) := by
    have hz : (acc ++ [r]).map rowV = acc.map rowV ++ [.tup [x, .int f, .lst ys]] := by rw [List.map_append, er]; rfl
    rw [hz]
    exact X_expr (E_append (i := 1) (xs := acc.map rowV) (v := .tup [.fz x, .fz (.int f), .loc 4]) (t := .tup [x, .int f, .lst ys]) (ow' := [src a3 b3, .lst (acc.map rowV), .lst [trV false, trV true], .lst (bkMenu f), .fz (.lst ys)])
      (σ1 := SK [("turn", .fz t), ("way", .fz (.int f)), ("trait", .fz x), ("menu", .loc 3), ("needs", .loc 4)] [src a3 b3, .lst (acc.map rowV), .lst [trV false, trV true], .lst (bkMenu f), .lst ys])
      (σ2 := SK [("turn", .fz t), ("way", .fz (.int f)), ("trait", .fz x), ("menu", .loc 3), ("needs", .loc 4)] [src a3 b3, .lst (acc.map rowV), .lst [trV false, trV true], .lst (bkMenu f), .lst ys]) (by kernel_rfl) (by rfl) (by kernel_rfl) (by kernel_rfl) (by kernel_rfl) (by kernel_rfl) (by kernel_rfl) (by rw [List.length_map]; omega))
  exact X_next s0 (X_next s1 (X_next s2 (X_next s3 rfl)))
theorem book_loop (n : Nat) : ∀ (xs : List FV) (acc : List Rw) (a b : Int), GoodS a b → acc.length + xs.length ≤ 100 →
    ∃ (bk : List Rw) (a' b' : Int), exStep.forL (run tb1 (n + 40)) (forT bkFor) (inn bkFor) 2 2 xs (SK [] [src a b, .lst (acc.map rowV)]) = some (.next, SK [] [src a' b', .lst (bk.map rowV)]) ∧ GoodS a' b' ∧ bk.length = acc.length + xs.length := by
  intro xs
  induction xs with
  | nil => intro acc a b g _; exact ⟨acc, a, b, rfl, g, rfl⟩
  | cons t r ih =>
    intro acc a b g hl
    rw [List.length_cons] at hl
    obtain ⟨rw', a1, b1, σ', e1, c1, g1⟩ := book_turn n (t := t) g (show acc.length ≤ 100 by omega)
    obtain ⟨bk, a2, b2, e2, g2, l2⟩ := ih (acc ++ [rw']) a1 b1 g1 (by rw [List.length_append]; simp; omega)
    refine ⟨bk, a2, b2, F_cons (σ1 := SK [("turn", .fz t)] [src a b, .lst (acc.map rowV)]) (by kernel_rfl) e1 (.inl rfl) c1 e2, g2, ?_⟩
    rw [l2, List.length_append, List.length_cons]; simp; omega
theorem book_draw (m : Nat) (hm : 60 ≤ m) {a b : Int} (g : GoodS a b) : ∃ (bk : List Rw) (a' b' : Int), clStep tb1 (run tb1 m) 277 [.loc 0] [src a b] = some (.fz (bookV bk), [src a' b']) ∧ GoodS a' b' ∧ bk.length ≤ 5 := by
  obtain ⟨n, rfl⟩ : ∃ n, m = n + 60 := ⟨m - 60, by omega⟩
  obtain ⟨f, a1, b1, e1, f0, f1, g1⟩ := take_any (n + 57) (by omega) (t := 6) (by omega) g
  obtain ⟨bk, a2, b2, e2, g2, l2⟩ := book_loop (n + 19) ((List.range f.toNat).map fun (i : Nat) => FV.int (i : Int)) [] a1 b1 g1 (by simp; omega)
  refine ⟨bk, a2, b2, ?_, g2, by rw [l2]; simp; omega⟩
  refine C_call (f := fF "_law_book") (by kernel_rfl) (bs := [("source", .loc 0)]) (by kernel_rfl) (v := .loc 1) (σ' := SK [] [src a2 b2, .lst (bk.map rowV)]) ?_ (by kernel_rfl)
  refine X_next (σ1 := SK [] [src a b, .lst []]) (by kernel_rfl) (X_next (σ1 := SK [] [src a2 b2, .lst (bk.map rowV)]) (X_for (σ1 := SK [] [src a1 b1, .lst []]) (I_range (k := f) (by kernel_rfl) (by rfl) ?_ (by omega) rfl) e2) (by kernel_rfl))
  exact E_fn (a := 218) (by kernel_rfl) (by rfl) (vs := [.loc 0, .fz (.int 6)]) (σ1 := SK [] [src a b, .lst []]) (by kernel_rfl) (L_call (by rfl) (os := [src a b]) (os' := [src a1 b1]) (t := .int f) (by kernel_rfl) e1 (by rfl) (by kernel_rfl))
end Xm

open PySem PySem.W PySem.Calls PyProof.Rows PySem.Spec
namespace Xm
theorem I_enum {ih : Ih} {t a : Expr} {zp pos : Pos} {σ σ1 : AS} {v : AV} {us xs : List FV} {ow' : List AO} (hg : globA tb1 σ "enumerate" = some (.ty "enumerate")) (ht : isTupT t = true) (hp : plainE a = true) (h : ih.ev a σ = some (v, σ1)) (hf : frz σ1.ow v = some (.lst us, ow')) (hl : us.length ≤ 1000) (hx : enumF 0 us = xs) :
    iterE tb1 ih t (.Call (.Name "enumerate" zp) [a] [] pos) σ = some (xs, { σ1 with ow := ow' }) := by
  refine I_ty hg ?_
  show (if isTupT t then (if plainE a then bnd (ih.ev a σ) _ else none) else none) = _
  rw [if_pos ht, if_pos hp, h]
  show bnd (frz σ1.ow v) _ = _
  rw [hf]
  show (if us.length ≤ 1000 then some (enumF 0 us, { σ1 with ow := ow' }) else none) = _
  rw [if_pos hl, hx]
theorem implsV_length : ∀ (k : Nat) (b : List Rw), (implsV k b).length = b.length
  | _, [] => rfl
  | k, r :: t => by rw [implsV, List.length_cons, List.length_cons, implsV_length (k + 1) t]
noncomputable def wdC : Expr := match valE (at_ (fF "_law_world").body 1) with | .Call _ (e :: _) _ _ => e | _ => .Name "" default
noncomputable def wInst : AV := .inst 200 [("modules", .fz .none), ("adts", .fz (.dic [])), ("variants", .fz (.dic [])), ("sigs", .fz (.dic [])), ("traits", .fz (.dic [])), ("impls", .loc 5), ("consts", .fz (.dic [])), ("bodies", .fz (.dic []))]
noncomputable abbrev wOw (l : List FV) : List AO := [.obj, .fz (.dic []), .fz (.dic []), .fz (.dic []), .fz (.dic []), .lst l, .fz (.dic []), .fz (.dic [])]
noncomputable abbrev SW (vars : List (Str × AV)) (ow : List AO) : AS := ⟨cSc wdC, vars, ow⟩
theorem elt_row (n num : Nat) (r : Rw) : (run tb1 (n + 40)).ev (cElt wdC) (SW [("number", .fz (.int num)), ("trait", .fz (trV r.1)), ("way", .fz (.int (wyN r.2))), ("needs", .fz (.lst (ndV r.2)))] (wOw [])) =
    some (.fz (implV num r), SW [("number", .fz (.int num)), ("trait", .fz (trV r.1)), ("way", .fz (.int (wyN r.2))), ("needs", .fz (.lst (ndV r.2)))] (wOw [] ++ [.fz (.lst (ndV r.2)), .fz (.dic []), .obj])) := by
  obtain ⟨a, w⟩ := r
  cases w <;> kernel_rfl
theorem world_loop (n : Nat) : ∀ (b : List Rw) (k : Nat) (acc : List FV), acc.length + b.length ≤ 1000 → loopC (run tb1 (n + 40)) (compI (run tb1 (n + 40)) (cElt wdC) []) (cTgt wdC) [] 0 8 (enumF k (b.map rowV)) acc (SW [] (wOw [])) = some (acc ++ implsV k b, SW [] (wOw [])) := by
  intro b
  induction b with
  | nil => intro k acc _; simp [implsV, enumF, loopC]
  | cons r t ih =>
    intro k acc hl
    rw [List.length_cons] at hl
    have h2 := ih (k + 1) (acc ++ [implV k r]) (by rw [List.length_append]; simp; omega)
    rw [List.map_cons, enumF, implsV]
    refine K_cons (σ1 := SW [("number", .fz (.int k)), ("trait", .fz (trV r.1)), ("way", .fz (.int (wyN r.2))), ("needs", .fz (.lst (ndV r.2)))] (wOw [])) (σ2 := SW [("number", .fz (.int k)), ("trait", .fz (trV r.1)), ("way", .fz (.int (wyN r.2))), ("needs", .fz (.lst (ndV r.2)))] (wOw []))
      (σ3 := SW [("number", .fz (.int k)), ("trait", .fz (trV r.1)), ("way", .fz (.int (wyN r.2))), ("needs", .fz (.lst (ndV r.2)))] (wOw [] ++ [.fz (.lst (ndV r.2)), .fz (.dic []), .obj])) (σ4 := SW [] (wOw [])) (by kernel_rfl) (by kernel_rfl) (K_elt (t := implV k r) (ow' := wOw [] ++ [.fz (.lst (ndV r.2)), .fz (.dic []), .obj]) (elt_row n k r) (by kernel_rfl) (by omega)) (by kernel_rfl) ?_
    rw [h2, List.append_assoc]; rfl
theorem worldI (m : Nat) (hm : 60 ≤ m) (b : List Rw) (hb : b.length ≤ 5) : clStep tb1 (run tb1 m) 282 [.fz (bookV b)] [] = some (.fz (worldV b), []) := by
  obtain ⟨n, rfl⟩ : ∃ n, m = n + 60 := ⟨m - 60, by omega⟩
  refine C_call (f := fF "_law_world") (by kernel_rfl) (bs := [("book", .fz (bookV b))]) (by kernel_rfl) (v := wInst) (σ' := S "_law_world" [("book", .fz (bookV b)), ("world", wInst)] (wOw (implsV 0 b) ++ [.lst (implsV 0 b)])) ?_ (by kernel_rfl)
  refine X_next (σ1 := S "_law_world" [("book", .fz (bookV b)), ("world", wInst)] (wOw [])) (by kernel_rfl) (X_next (σ1 := S "_law_world" [("book", .fz (bookV b)), ("world", wInst)] (wOw (implsV 0 b) ++ [.lst (implsV 0 b)])) ?_ (by kernel_rfl))
  refine X_expr (E_extend (i := 5) (xs := []) (ys := implsV 0 b) (v := .loc 8) (σ1 := S "_law_world" [("book", .fz (bookV b)), ("world", wInst)] (wOw [])) (σ2 := S "_law_world" [("book", .fz (bookV b)), ("world", wInst)] (wOw [] ++ [.lst (implsV 0 b)])) (by kernel_rfl) (by rfl) (by kernel_rfl) (by kernel_rfl) ?_ (by kernel_rfl) (by kernel_rfl) (by rw [implsV_length]; simp; omega))
  refine E_comp (K_comp (c0 := []) (vs := []) (xs := enumF 0 (b.map rowV)) (ys := implsV 0 b) (σ1 := S "_law_world" [("book", .fz (bookV b)), ("world", wInst)] (wOw [])) (σ2 := SW [] (wOw [])) (by kernel_rfl) (by kernel_rfl) ?_ (by kernel_rfl) ?_ (by rw [implsV_length]; omega) (by kernel_rfl))
  · exact I_enum (v := .fz (bookV b)) (us := b.map rowV) (ow' := wOw []) (σ1 := S "_law_world" [("book", .fz (bookV b)), ("world", wInst)] (wOw [])) (by kernel_rfl) (by rfl) (by rfl) (by kernel_rfl) (by kernel_rfl) (by rw [List.length_map]; omega) rfl
  · exact world_loop (n + 17) b 0 [] (by simp; omega)
end Xm

open PySem PySem.W PySem.Calls PyProof.Rows PySem.Spec
namespace Xm
theorem T_and2 {ih : Ih} {x y : Expr} {p : Pos} {σ : AS} {b1 b2 : Bool} (h1 : tr ih 38 x σ = some (b1, σ)) (h2 : tr ih 37 y σ = some (b2, σ)) : test ih (.BoolOp .And [x, y] p) σ = some (b1 && b2, σ) := by
  show bnd (tr ih 38 x σ) _ = _
  rw [h1]
  cases b1 with
  | false => rfl
  | true =>
    show bnd (tr ih 37 y σ) _ = _
    rw [h2]
    cases b2 <;> rfl
theorem iter_of {ih : Ih} {t c a b : Expr} {p : Pos} {σ σ1 σ2 : AS} {v : AV} {xs : List FV} (h : ih.ev (.IfExp c a b p) σ = some (v, σ1)) (h2 : iterV σ1 v = some (xs, σ2)) : iterE tb1 ih t (.IfExp c a b p) σ = some (xs, σ2) := I_ev rfl rfl h h2
theorem dic_lookup (kn : List (Str × Ty)) (x : Str) : (kn.map fun p => (p.1, tyV p.2)).lookup x = (kn.lookup x).map tyV := by
  induction kn with
  | nil => rfl
  | cons p r ih =>
    obtain ⟨k, t⟩ := p
    rw [List.map_cons, List.lookup_cons, List.lookup_cons]
    cases x == k <;> simp [ih]
theorem minI_nat (f g : Nat) : minI (f : Int) [(g : Int)] = ((min f g : Nat) : Int) := by
  show (if (g : Int) < f then (g : Int) else f) = _
  by_cases h : g < f
  · rw [if_pos (by omega)]; congr 1; omega
  · rw [if_neg (by omega)]; congr 1; omega
noncomputable abbrev vl (l : List (Str × AV)) : List (Str × AV) := l
noncomputable def inBd : Bd → Bool → Bool
  | .d0, _ => false
  | .dA, a => !a
  | .dAB, _ => true
/-- what is left of a row's fit -/
noncomputable def needStep (A : Bool → Lf → Nat) (kn : List (Str × Ty)) (x : Str) (ts : List Bool) (f : Nat) : Nat := match kn.lookup x with
  | some (.lf l) => if 0 < f then ts.foldl (fun g b => min g (A b l)) f else f
  | _ => f
theorem needStep_pos {A : Bool → Lf → Nat} {kn : List (Str × Ty)} {x : Str} {ts : List Bool} {f : Nat} {l : Lf} (e : kn.lookup x = some (.lf l)) (h : 0 < f) : needStep A kn x ts f = ts.foldl (fun g b => min g (A b l)) f := by
  unfold needStep; rw [e]; exact if_pos h
theorem needStep_nil {A : Bool → Lf → Nat} {kn : List (Str × Ty)} {x : Str} {f : Nat} : needStep A kn x [] f = f := by
  unfold needStep
  split
  · split <;> rfl
  · rfl
theorem needStep_neg {A : Bool → Lf → Nat} {kn : List (Str × Ty)} {x : Str} {ts : List Bool} {f : Nat} (h : ¬ ((kn.lookup x).isSome = true ∧ 0 < f)) : needStep A kn x ts f = f := by
  unfold needStep
  split
  · rename_i l e
    exact if_neg fun hf => h ⟨by rw [e]; rfl, hf⟩
  · rfl
noncomputable def needFold (A : Bool → Lf → Nat) (kn : List (Str × Ty)) : List (Str × List Bool) → Nat → Nat
  | [], f => f
  | (x, ts) :: r, f => needFold A kn r (needStep A kn x ts f)
noncomputable def rowFit (A : Bool → Lf → Nat) (w : Wy) (t : Ty) : Nat := needFold A (knoS w t) (ndL w) (fitS w t)
noncomputable abbrev RwS := Nat × Nat × List (Str × Ty)
noncomputable def rowsS (A : Bool → Lf → Nat) (a : Bool) (t : Ty) : Nat → List Rw → List RwS
  | _, [] => []
  | k, r :: rest => if r.1 = a ∧ 0 < rowFit A r.2 t then (rowFit A r.2 t, k, knoS r.2 t) :: rowsS A a t (k + 1) rest else rowsS A a t (k + 1) rest
noncomputable def rwV (r : RwS) : FV := .tup [.int r.1, .int r.2.1, dicV r.2.2]

/-! _law_rows -/
noncomputable def rwFor : Stmt := at_ (fF "_law_rows").body 1
noncomputable def ndFor : Stmt := at_ (inn rwFor) 2
noncomputable def oneFor : Stmt := at_ (inn ndFor) 0
section
variable (bk : List Rw) (bd : Bd) (a : Bool) (t : Ty) (dp : Int)
noncomputable abbrev R0 : List (Str × AV) := [("book", .fz (bookV bk)), ("bounds", .fz (bdV bd)), ("trait", .fz (trV a)), ("T", .fz (tyV t)), ("deep", .fz (.int dp)), ("found", .loc 0)]
noncomputable abbrev R1 (k : Nat) (r : Rw) : List (Str × AV) := R0 bk bd a t dp ++ vl [("number", .fz (.int k)), ("told", .fz (trV r.1)), ("way", .fz (.int (wyN r.2))), ("needs", .fz (.lst (ndV r.2)))]
noncomputable abbrev R2 (k : Nat) (r : Rw) (f : Nat) (kn : List (Str × Ty)) : List (Str × AV) := R0 bk bd a t dp ++ vl [("number", .fz (.int k)), ("told", .fz (trV r.1)), ("way", .fz (.int (wyN r.2))), ("needs", .fz (.lst (ndV r.2))), ("fit", .fz (.int f)), ("known", .fz (dicV kn))]
noncomputable abbrev R3 (k : Nat) (r : Rw) (f : Nat) (kn : List (Str × Ty)) (x : Str) (ts : List Bool) : List (Str × AV) := R0 bk bd a t dp ++ vl [("number", .fz (.int k)), ("told", .fz (trV r.1)), ("way", .fz (.int (wyN r.2))), ("needs", .fz (.lst (ndV r.2))), ("fit", .fz (.int f)), ("known", .fz (dicV kn)), ("name", .fz (.str x)), ("traits", .fz (.tup (ts.map trV)))]
noncomputable abbrev R4 (k : Nat) (r : Rw) (f : Nat) (kn : List (Str × Ty)) (x : Str) (ts : List Bool) (b : Bool) : List (Str × AV) := R0 bk bd a t dp ++ vl [("number", .fz (.int k)), ("told", .fz (trV r.1)), ("way", .fz (.int (wyN r.2))), ("needs", .fz (.lst (ndV r.2))), ("fit", .fz (.int f)), ("known", .fz (dicV kn)), ("name", .fz (.str x)), ("traits", .fz (.tup (ts.map trV))), ("one", .fz (trV b))]
variable {bk bd a t dp}
theorem one_loop (n : Nat) {k : Nat} {r : Rw} {kn : List (Str × Ty)} {x : Str} {ts0 : List Bool} {acc : List FV} {l : Lf} {A : Bool → Nat} (hx : kn.lookup x = some (.lf l))
    (H : ∀ b ow, (run tb1 (n + 37)).cl 272 [.fz (bookV bk), .fz (bdV bd), .fz (trV b), .fz (lfV l), .fz (.int (dp + 1))] ow = some (.fz (.int (A b)), ow)) :
    ∀ (ts : List Bool) (f : Nat), exStep.forL (run tb1 (n + 40)) (forT oneFor) (inn oneFor) 14 1 (ts.map trV) (S "_law_rows" (R3 bk bd a t dp k r f kn x ts0) [.lst acc]) = some (.next, S "_law_rows" (R3 bk bd a t dp k r (ts.foldl (fun g b => min g (A b)) f) kn x ts0) [.lst acc]) := by
  intro ts
  induction ts with
  | nil => intro f; rfl
  | cons b rest ih =>
    intro f
    refine F_cons (σ1 := S "_law_rows" (R4 bk bd a t dp k r f kn x ts0 b) [.lst acc]) (σ2 := S "_law_rows" (R4 bk bd a t dp k r (min f (A b)) kn x ts0 b) [.lst acc]) (by kernel_rfl) (X_next ?_ rfl) (.inl rfl) (by kernel_rfl) (ih (min f (A b)))
    refine X_asg (u := .fz (.int ((min f (A b) : Nat) : Int))) (σ1 := S "_law_rows" (R4 bk bd a t dp k r f kn x ts0 b) [.lst acc]) ?_ (by kernel_rfl) (by rfl)
    refine E_bi (id := "min") (by kernel_rfl) (by rfl) (vs := [.fz (.int f), .fz (.int (A b))]) (ts := [.int f, .int (A b)]) (V_cons (σ1 := S "_law_rows" (R4 bk bd a t dp k r f kn x ts0 b) [.lst acc]) (by rfl) (by kernel_rfl) (V_cons (by rfl) (E_fn (a := 272) (by kernel_rfl) (by rfl) (vs := [.fz (bookV bk), .fz (bdV bd), .fz (trV b), .fz (lfV l), .fz (.int (dp + 1))]) (σ1 := S "_law_rows" (R4 bk bd a t dp k r f kn x ts0 b) [.lst acc]) ?_ (H b _)) V_nil)) (by kernel_rfl) (by rw [← minI_nat]; rfl)
    refine V_cons (σ1 := S "_law_rows" (R4 bk bd a t dp k r f kn x ts0 b) [.lst acc]) (by rfl) (by kernel_rfl) (V_cons (σ1 := S "_law_rows" (R4 bk bd a t dp k r f kn x ts0 b) [.lst acc]) (by rfl) (by kernel_rfl) (V_cons (σ1 := S "_law_rows" (R4 bk bd a t dp k r f kn x ts0 b) [.lst acc]) (by rfl) (by kernel_rfl) (V_cons (σ1 := S "_law_rows" (R4 bk bd a t dp k r f kn x ts0 b) [.lst acc]) (by rfl) ?_ (V_cons (σ1 := S "_law_rows" (R4 bk bd a t dp k r f kn x ts0 b) [.lst acc]) (by rfl) (by kernel_rfl) V_nil))))
    refine E_sub (by rfl) (a := .fz (dicV kn)) (b := .fz (.str x)) (σ1 := S "_law_rows" (R4 bk bd a t dp k r f kn x ts0 b) [.lst acc]) (σ2 := S "_law_rows" (R4 bk bd a t dp k r f kn x ts0 b) [.lst acc]) (by kernel_rfl) (by kernel_rfl) ?_
    show ((kn.map fun p => (p.1, tyV p.2)).lookup x).map AV.fz = _
    rw [dic_lookup, hx]; rfl
end
end Xm

open PySem PySem.W PySem.Calls PyProof.Rows PySem.Spec
namespace Xm
theorem iter_name {ih : Ih} {t : Expr} {x : Str} {p : Pos} {σ σ1 σ2 : AS} {v : AV} {xs : List FV} (h : ih.ev (.Name x p) σ = some (v, σ1)) (h2 : iterV σ1 v = some (xs, σ2)) : iterE tb1 ih t (.Name x p) σ = some (xs, σ2) := I_ev rfl rfl h h2
theorem iter_call {ih : Ih} {t : Expr} {z : Str} {zp pos : Pos} {args : List Expr} {a : Addr} {σ σ1 σ2 : AS} {v : AV} {xs : List FV} (hg : globA tb1 σ z = some (.fn a)) (h : ih.ev (.Call (.Name z zp) args [] pos) σ = some (v, σ1)) (h2 : iterV σ1 v = some (xs, σ2)) : iterE tb1 ih t (.Call (.Name z zp) args [] pos) σ = some (xs, σ2) := I_ev (show (match globA tb1 σ z with | some (.ty t) => some (t, args) | _ => none) = none by rw [hg]) rfl h h2
noncomputable def oneTest : Expr := match forI oneFor with | .IfExp c _ _ _ => c | e => e
noncomputable def ndF (p : Str × List Bool) : FV := .tup [.str p.1, .tup (p.2.map trV)]
section
variable {bk : List Rw} {bd : Bd} {a : Bool} {t : Ty} {dp : Int}
theorem need_loop (n : Nat) {k : Nat} {r : Rw} {kn : List (Str × Ty)} {acc : List FV} {A : Bool → Lf → Nat} : ∀ (nd : List (Str × List Bool)) (f : Nat),
    (∀ p ∈ nd, p.2.length ≤ 1000 ∧ ∀ t', kn.lookup p.1 = some t' → p.2 = [] ∨ ∃ l, t' = .lf l ∧ ∀ b ow, (run tb1 (n + 38)).cl 272 [.fz (bookV bk), .fz (bdV bd), .fz (trV b), .fz (lfV l), .fz (.int (dp + 1))] ow = some (.fz (.int (A b l)), ow)) →
    exStep.forL (run tb1 (n + 42)) (forT ndFor) (inn ndFor) 12 1 (nd.map ndF) (S "_law_rows" (R2 bk bd a t dp k r f kn) [.lst acc]) = some (.next, S "_law_rows" (R2 bk bd a t dp k r (needFold A kn nd f) kn) [.lst acc]) := by
  intro nd
  induction nd with
  | nil => intro f _; rfl
  | cons p rest ih =>
    intro f H
    obtain ⟨x, ts⟩ := p
    obtain ⟨hl, hx⟩ := H _ (.head _)
    dsimp only at hl hx
    have ht : test (run tb1 (n + 40)) oneTest (S "_law_rows" (R3 bk bd a t dp k r f kn x ts) [.lst acc]) = some (((kn.map fun p => (p.1, tyV p.2)).lookup x).isSome && decide (0 < (f : Int)), S "_law_rows" (R3 bk bd a t dp k r f kn x ts) [.lst acc]) := T_and2 (by kernel_rfl) (by kernel_rfl)
    rw [needFold]
    by_cases hc : (((kn.map fun p => (p.1, tyV p.2)).lookup x).isSome && decide (0 < (f : Int))) = true
    · have hc2 := hc
      rw [Bool.and_eq_true, dic_lookup, decide_eq_true_eq] at hc2
      obtain ⟨h1, h2⟩ := hc2
      rw [Option.isSome_map] at h1
      obtain ⟨t', e1⟩ := Option.isSome_iff_exists.mp h1
      have hf : 0 < f := by omega
      have fin : exStep.forL (run tb1 (n + 41)) (forT oneFor) (inn oneFor) 14 1 (ts.map trV) (S "_law_rows" (R3 bk bd a t dp k r f kn x ts) [.lst acc]) = some (.next, S "_law_rows" (R3 bk bd a t dp k r (needStep A kn x ts f) kn x ts) [.lst acc]) := by
        rcases hx t' e1 with rfl | ⟨l, rfl, H2⟩
        · rw [needStep_nil]; rfl
        · rw [needStep_pos e1 hf]
          exact one_loop (n + 1) e1 H2 ts f
      refine F_cons (σ1 := S "_law_rows" (R3 bk bd a t dp k r f kn x ts) [.lst acc]) (by kernel_rfl) (X_next (X_for (σ1 := S "_law_rows" (R3 bk bd a t dp k r f kn x ts) [.lst acc]) (iter_of (v := .fz (.tup (ts.map trV))) (σ1 := S "_law_rows" (R3 bk bd a t dp k r f kn x ts) [.lst acc]) (E_ifT ht hc (by kernel_rfl)) (iterV_tup (xs := ts.map trV) (ow' := [.lst acc]) (by kernel_rfl) (by rw [List.length_map]; exact hl) rfl)) fin) rfl) (.inl rfl) (by kernel_rfl) (ih _ fun p hp => H p (.tail _ hp))
    · have hc' := Bool.eq_false_iff.mpr hc
      have hs : needStep A kn x ts f = f := needStep_neg fun q => hc (by
        rw [dic_lookup, Option.isSome_map, Bool.and_eq_true, decide_eq_true_eq]
        exact ⟨q.1, by omega⟩)
      rw [hs]
      refine F_cons (σ1 := S "_law_rows" (R3 bk bd a t dp k r f kn x ts) [.lst acc]) (by kernel_rfl) (X_next (X_for (σ1 := S "_law_rows" (R3 bk bd a t dp k r f kn x ts) [.lst acc, .fz (.lst [])]) (iter_of (v := .loc 1) (σ1 := S "_law_rows" (R3 bk bd a t dp k r f kn x ts) [.lst acc, .lst []]) (E_ifF ht hc' (by kernel_rfl)) (by kernel_rfl)) F_nil) rfl) (.inl rfl) (by kernel_rfl) (ih _ fun p hp => H p (.tail _ hp))
end
end Xm

open PySem PySem.W PySem.Calls PyProof.Rows PySem.Spec
namespace Xm
section
variable {bk : List Rw} {bd : Bd} {a : Bool} {t : Ty} {dp : Int}
/-- the answers that a row's turn may ask for -/
noncomputable def Asks (m : Nat) (bk : List Rw) (bd : Bd) (dp : Int) (A : Bool → Lf → Nat) : Prop := ∀ b l ow, (run tb1 m).cl 272 [.fz (bookV bk), .fz (bdV bd), .fz (trV b), .fz (lfV l), .fz (.int (dp + 1))] ow = some (.fz (.int (A b l)), ow)
theorem need_ok {w : Wy} {t : Ty} (H : Prop) (hH : (∀ l, t ≠ .lf l) → H) : ∀ p ∈ ndL w, p.2.length ≤ 1000 ∧ ∀ t', (knoS w t).lookup p.1 = some t' → p.2 = [] ∨ ∃ l, t' = .lf l ∧ H := by
  intro p hp
  have hm : ∀ m : Mn, (mnL m).length ≤ 1000 := fun m => by cases m <;> simp [mnL]
  cases w with
  | w3 m =>
    simp only [ndL, List.mem_cons, List.not_mem_nil, or_false] at hp
    subst hp
    refine ⟨hm m, fun t' e => ?_⟩
    cases t with
    | lf l => cases e
    | pair l r => cases e
    | box l =>
      refine .inr ⟨l, ?_, hH fun _ q => by cases q⟩
      have : (some (Ty.lf l) : Option Ty) = some t' := by rw [← e]; rfl
      cases this; rfl
  | w4 m k =>
    simp only [ndL, List.mem_cons, List.not_mem_nil, or_false] at hp
    rcases hp with rfl | rfl
    · refine ⟨hm m, fun t' e => ?_⟩
      cases t with
      | lf l => cases e
      | box l => cases e
      | pair l r =>
        refine .inr ⟨l, ?_, hH fun _ q => by cases q⟩
        have : (some (Ty.lf l) : Option Ty) = some t' := by rw [← e]; rfl
        cases this; rfl
    · refine ⟨hm k, fun t' e => ?_⟩
      cases t with
      | lf l => cases e
      | box l => cases e
      | pair l r =>
        refine .inr ⟨r, ?_, hH fun _ q => by cases q⟩
        have : (some (Ty.lf r) : Option Ty) = some t' := by rw [← e]; rfl
        cases this; rfl
  | w5 =>
    simp only [ndL, List.mem_cons, List.not_mem_nil, or_false] at hp
    subst hp
    exact ⟨by simp, fun _ _ => .inl rfl⟩
  | w7 =>
    simp only [ndL, List.mem_cons, List.not_mem_nil, or_false] at hp
    subst hp
    exact ⟨by simp, fun _ _ => .inl rfl⟩
  | w0 => cases hp
  | w1 => cases hp
  | w2 => cases hp
  | w6 => cases hp
theorem ndV_length (w : Wy) : (ndV w).length ≤ 1000 := by cases w <;> simp [ndV, ndL]
theorem rw_turn (n : Nat) {k : Nat} {r : Rw} {acc : List FV} {A : Bool → Lf → Nat} (hl : acc.length ≤ 1000) (H : (∀ l, t ≠ .lf l) → Asks (n + 39) bk bd dp A) :
    ∃ f σ', (run tb1 (n + 44)).ex (inn rwFor) (S "_law_rows" (R1 bk bd a t dp k r) [.lst acc]) = some (f, σ') ∧ (f = .next ∨ f = .cont) ∧
      cut 6 1 σ' = some (S "_law_rows" (R0 bk bd a t dp) [.lst (if r.1 = a ∧ 0 < rowFit A r.2 t then acc ++ [rwV (rowFit A r.2 t, k, knoS r.2 t)] else acc)]) := by
  by_cases ha : r.1 = a
  · generalize hf : rowFit A r.2 t = f
    have s0 : exStep tb1 (run tb1 (n + 43)) (at_ (inn rwFor) 0) (S "_law_rows" (R1 bk bd a t dp k r) [.lst acc]) = some (.next, S "_law_rows" (R1 bk bd a t dp k r) [.lst acc]) := by
      obtain ⟨ra, rw'⟩ := r
      dsimp only at ha
      subst ha
      cases ra
      · exact X_ifF (c := false) (σ1 := S "_law_rows" (R1 bk bd false t dp k (false, rw')) [.lst acc]) (by kernel_rfl) rfl rfl
      · exact X_ifF (c := false) (σ1 := S "_law_rows" (R1 bk bd true t dp k (true, rw')) [.lst acc]) (by kernel_rfl) rfl rfl
    have s1 : exStep tb1 (run tb1 (n + 43)) (at_ (inn rwFor) 1) (S "_law_rows" (R1 bk bd a t dp k r) [.lst acc]) = some (.next, S "_law_rows" (R2 bk bd a t dp k r (fitS r.2 t) (knoS r.2 t)) [.lst acc]) :=
      X_asgT (sw := none) (xs := ["fit", "known"]) (u := .fz (.tup [.int (fitS r.2 t), dicV (knoS r.2 t)])) (vs := [.fz (.int (fitS r.2 t)), .fz (dicV (knoS r.2 t))]) (σ1 := S "_law_rows" (R1 bk bd a t dp k r) [.lst acc]) (by kernel_rfl) (by kernel_rfl)
        (E_fn (a := 260) (by kernel_rfl) (by rfl) (vs := [.fz (.int (wyN r.2)), .fz (tyV t)]) (σ1 := S "_law_rows" (R1 bk bd a t dp k r) [.lst acc]) (by kernel_rfl) (fitI (n + 2) r.2 t [.lst acc])) (by rfl) (by kernel_rfl) (by simp)
    have s2 : exStep tb1 (run tb1 (n + 43)) (at_ (inn rwFor) 2) (S "_law_rows" (R2 bk bd a t dp k r (fitS r.2 t) (knoS r.2 t)) [.lst acc]) = some (.next, S "_law_rows" (R2 bk bd a t dp k r f (knoS r.2 t)) [.lst acc]) := by
      refine X_for (σ1 := S "_law_rows" (R2 bk bd a t dp k r (fitS r.2 t) (knoS r.2 t)) [.lst acc]) (xs := (ndL r.2).map ndF) (iter_name (v := .fz (.lst (ndV r.2))) (σ1 := S "_law_rows" (R2 bk bd a t dp k r (fitS r.2 t) (knoS r.2 t)) [.lst acc]) (by kernel_rfl) (iterV_list (ow' := [.lst acc]) (by kernel_rfl) (ndV_length r.2) rfl)) ?_
      rw [← hf]
      exact need_loop (n + 1) (ndL r.2) (fitS r.2 t) fun p hp => (by
        obtain ⟨h1, h2⟩ := need_ok (Asks (n + 39) bk bd dp A) H p hp
        refine ⟨h1, fun t' e => ?_⟩
        rcases h2 t' e with h | ⟨l, rfl, h⟩
        · exact .inl h
        · exact .inr ⟨l, rfl, fun b ow => h b l ow⟩)
    by_cases h0 : 0 < f
    · rw [if_pos ⟨ha, h0⟩]
      refine ⟨.next, S "_law_rows" (R2 bk bd a t dp k r f (knoS r.2 t)) [.lst (acc ++ [rwV (f, k, knoS r.2 t)])], X_next s0 (X_next s1 (X_next s2 (X_next (X_ifT (c := decide (0 < (f : Int))) (σ1 := S "_law_rows" (R2 bk bd a t dp k r f (knoS r.2 t)) [.lst acc]) (by kernel_rfl) (decide_eq_true (by omega)) (X_next (X_expr ?_) rfl)) rfl))), .inl rfl, by kernel_rfl⟩
      exact E_append (i := 0) (xs := acc) (v := .fz (rwV (f, k, knoS r.2 t))) (t := rwV (f, k, knoS r.2 t)) (ow' := [.lst acc]) (σ1 := S "_law_rows" (R2 bk bd a t dp k r f (knoS r.2 t)) [.lst acc]) (σ2 := S "_law_rows" (R2 bk bd a t dp k r f (knoS r.2 t)) [.lst acc]) (by kernel_rfl) (by rfl) (by kernel_rfl) (by kernel_rfl) (by kernel_rfl) (by kernel_rfl) (by kernel_rfl) hl
    · rw [if_neg fun q => h0 q.2]
      exact ⟨.next, S "_law_rows" (R2 bk bd a t dp k r f (knoS r.2 t)) [.lst acc], X_next s0 (X_next s1 (X_next s2 (X_next (X_ifF (c := decide (0 < (f : Int))) (σ1 := S "_law_rows" (R2 bk bd a t dp k r f (knoS r.2 t)) [.lst acc]) (by kernel_rfl) (decide_eq_false (by omega)) rfl) rfl))), .inl rfl, by kernel_rfl⟩
  · rw [if_neg fun q => ha q.1]
    refine ⟨.cont, S "_law_rows" (R1 bk bd a t dp k r) [.lst acc], X_cont ?_, .inr rfl, by kernel_rfl⟩
    obtain ⟨ra, rw'⟩ := r
    dsimp only at ha
    cases ra <;> cases a
    · exact absurd rfl ha
    · exact X_ifT (c := true) (σ1 := S "_law_rows" (R1 bk bd true t dp k (false, rw')) [.lst acc]) (by kernel_rfl) rfl (by kernel_rfl)
    · exact X_ifT (c := true) (σ1 := S "_law_rows" (R1 bk bd false t dp k (true, rw')) [.lst acc]) (by kernel_rfl) rfl (by kernel_rfl)
    · exact absurd rfl ha
theorem rw_loop (n : Nat) {A : Bool → Lf → Nat} (H : (∀ l, t ≠ .lf l) → Asks (n + 39) bk bd dp A) : ∀ (b : List Rw) (k : Nat) (acc : List FV), acc.length + b.length ≤ 1000 →
    exStep.forL (run tb1 (n + 44)) (forT rwFor) (inn rwFor) 6 1 (enumF k (b.map rowV)) (S "_law_rows" (R0 bk bd a t dp) [.lst acc]) = some (.next, S "_law_rows" (R0 bk bd a t dp) [.lst (acc ++ (rowsS A a t k b).map rwV)]) := by
  intro b
  induction b with
  | nil => intro k acc _; simp [rowsS, enumF, exStep.forL]
  | cons r rest ih =>
    intro k acc hl
    rw [List.length_cons] at hl
    obtain ⟨f, σ', e1, hf, c1⟩ := rw_turn (a := a) n (k := k) (r := r) (acc := acc) (by omega) H
    rw [List.map_cons, enumF]
    refine F_cons (σ1 := S "_law_rows" (R1 bk bd a t dp k r) [.lst acc]) (by kernel_rfl) e1 hf c1 ?_
    rw [rowsS]
    split
    · rw [ih (k + 1) _ (by rw [List.length_append]; simp; omega), List.map_cons, List.append_assoc]; rfl
    · exact ih (k + 1) acc (by omega)
theorem rowsI (n : Nat) (hb : bk.length ≤ 5) {A : Bool → Lf → Nat} (H : (∀ l, t ≠ .lf l) → Asks (n + 39) bk bd dp A) (ow : List AO) :
    (run tb1 (n + 46)).cl 267 [.fz (bookV bk), .fz (bdV bd), .fz (trV a), .fz (tyV t), .fz (.int dp)] ow = some (.fz (.lst ((rowsS A a t 0 bk).map rwV)), ow) := by
  refine L_call (by rfl) (os := []) (os' := []) (t := .lst ((rowsS A a t 0 bk).map rwV)) (by kernel_rfl) ?_ (by rfl) (by kernel_rfl)
  refine C_call (f := fF "_law_rows") (by kernel_rfl) (bs := [("book", .fz (bookV bk)), ("bounds", .fz (bdV bd)), ("trait", .fz (trV a)), ("T", .fz (tyV t)), ("deep", .fz (.int dp))]) (by kernel_rfl) (v := .loc 0) (σ' := S "_law_rows" (R0 bk bd a t dp) [.lst ((rowsS A a t 0 bk).map rwV)]) ?_ (by kernel_rfl)
  refine X_next (σ1 := S "_law_rows" (R0 bk bd a t dp) [.lst []]) (by kernel_rfl) (X_next (σ1 := S "_law_rows" (R0 bk bd a t dp) [.lst ((rowsS A a t 0 bk).map rwV)]) (X_for (xs := enumF 0 (bk.map rowV)) (σ1 := S "_law_rows" (R0 bk bd a t dp) [.lst []]) ?_ ?_) (by kernel_rfl))
  · exact I_enum (v := .fz (bookV bk)) (us := bk.map rowV) (ow' := [.lst []]) (σ1 := S "_law_rows" (R0 bk bd a t dp) [.lst []]) (by kernel_rfl) (by rfl) (by rfl) (by kernel_rfl) (by kernel_rfl) (by rw [List.length_map]; omega) rfl
  · have := rw_loop (a := a) n H bk 0 [] (by simp; omega)
    rw [List.nil_append] at this
    exact this
end
end Xm

open PySem PySem.W PySem.Calls PyProof.Rows PySem.Spec
namespace Xm
noncomputable def isX : Ty → Bool
  | .lf .x => true
  | _ => false
noncomputable def isP : Ty → Bool := isX
noncomputable def isVr : Ty → Bool
  | .lf .v => true
  | _ => false
noncomputable def maxN (l : List Nat) : Nat := l.foldl max 0
noncomputable def ansS (A : Bool → Lf → Nat) (bk : List Rw) (bd : Bd) (a : Bool) (t : Ty) : Nat := if isX t && inBd bd a then 2 else if isVr t then 1 else maxN ((rowsS A a t 0 bk).map (·.1))
/-- the answers to leaves -/
noncomputable def ansL (bk : List Rw) (bd : Bd) (a : Bool) (l : Lf) : Nat := ansS (fun _ _ => 0) bk bd a (.lf l)

theorem bin_lists {σ : AS} {i j : Nat} {xs ys : List FV} (h1 : lstOf σ.ow (.loc i) = some xs) (h2 : lstOf σ.ow (.loc j) = some ys) (hl : xs.length + ys.length ≤ 1000) : binA .Add (.loc i) (.loc j) σ = some (push σ (.lst (xs ++ ys))) := bO (x := lstOf σ.ow (.loc i)) h1 (bO h2 (iO hl rfl))
theorem maxI_nat : ∀ (l : List Nat) (m : Nat), maxI (m : Int) (l.map fun (x : Nat) => (x : Int)) = ((l.foldl max m : Nat) : Int)
  | [], m => rfl
  | x :: r, m => by
    rw [List.map_cons, List.foldl_cons]
    show maxI (if (x : Int) > m then (x : Int) else m) _ = _
    by_cases h : m < x
    · rw [if_pos (by omega), maxI_nat r x]; congr 2; omega
    · rw [if_neg (by omega), maxI_nat r m]; congr 2; omega
theorem intsF_map : ∀ (l : List Nat), intsF (l.map fun (x : Nat) => FV.int (x : Int)) = some (l.map fun (x : Nat) => (x : Int))
  | [] => rfl
  | x :: r => by rw [List.map_cons, intsF, intsF_map r]; rfl
noncomputable def anC : Expr := match valE (at_ (fF "_law_answer").body 2) with | .Call _ (.BinOp _ _ e _ :: _) _ _ => e | _ => .Name "" default
noncomputable abbrev SA (vars : List (Str × AV)) (ow : List AO) : AS := ⟨cSc anC, vars, ow⟩
theorem fits_loop (n : Nat) {o : AO} : ∀ (rs : List RwS) (acc : List FV), acc.length + rs.length ≤ 1000 →
    loopC (run tb1 (n + 20)) (compI (run tb1 (n + 20)) (cElt anC) []) (cTgt anC) [] 0 1 (rs.map rwV) acc (SA [] [o]) = some (acc ++ rs.map fun r => FV.int (r.1 : Int), SA [] [o]) := by
  intro rs
  induction rs with
  | nil => intro acc _; simp [loopC]
  | cons r rest ih =>
    intro acc hl
    rw [List.length_cons] at hl
    rw [List.map_cons, List.map_cons]
    refine K_cons (σ1 := SA [("row", .fz (rwV r))] [o]) (σ2 := SA [("row", .fz (rwV r))] [o]) (σ3 := SA [("row", .fz (rwV r))] [o]) (σ4 := SA [] [o]) (acc' := acc ++ [.int r.1]) (by kernel_rfl) (by kernel_rfl) (K_elt (t := .int r.1) (v := .fz (.int r.1)) (ow' := [o]) (σ1 := SA [("row", .fz (rwV r))] [o]) (by kernel_rfl) (by kernel_rfl) (by omega)) (by kernel_rfl) ?_
    rw [ih (acc ++ [FV.int (r.1 : Int)]) (by rw [List.length_append]; simp; omega), List.append_assoc]; rfl
theorem rowsS_length (A : Bool → Lf → Nat) (a : Bool) (t : Ty) : ∀ (k : Nat) (b : List Rw), (rowsS A a t k b).length ≤ b.length
  | _, [] => Nat.le_refl _
  | k, r :: rest => by
    have := rowsS_length A a t (k + 1) rest
    rw [rowsS]
    split <;> simp only [List.length_cons] <;> omega
section
variable {bk : List Rw} {bd : Bd} {a : Bool} {t : Ty} {dp : Int}
noncomputable abbrev AV0 (bk : List Rw) (bd : Bd) (a : Bool) (t : Ty) (dp : Int) : List (Str × AV) := [("book", .fz (bookV bk)), ("bounds", .fz (bdV bd)), ("trait", .fz (trV a)), ("T", .fz (tyV t)), ("deep", .fz (.int dp))]
theorem answerI (n : Nat) (hb : bk.length ≤ 5) {A : Bool → Lf → Nat} (H : (∀ l, t ≠ .lf l) → Asks (n + 39) bk bd dp A) (ow : List AO) :
    (run tb1 (n + 52)).cl 272 [.fz (bookV bk), .fz (bdV bd), .fz (trV a), .fz (tyV t), .fz (.int dp)] ow = some (.fz (.int (ansS A bk bd a t)), ow) := by
  refine L_call (by rfl) (os := []) (os' := []) (t := .int (ansS A bk bd a t)) (by kernel_rfl) ?_ (by rfl) (by kernel_rfl)
  have cc : ∀ (v : AV) (σ' : AS), (run tb1 (n + 51)).ex (fF "_law_answer").body (S "_law_answer" (AV0 bk bd a t dp) []) = some (.ret v, σ') → v = .fz (.int (ansS A bk bd a t)) → clStep tb1 (run tb1 (n + 51)) 272 (renVs (dedup (locsVs [.fz (bookV bk), .fz (bdV bd), .fz (trV a), .fz (tyV t), .fz (.int dp)])) [.fz (bookV bk), .fz (bdV bd), .fz (trV a), .fz (tyV t), .fz (.int dp)]) [] = some (.fz (.int (ansS A bk bd a t)), []) := fun v σ' hx hv => by
    subst hv
    exact C_call (f := fF "_law_answer") (by kernel_rfl) (bs := AV0 bk bd a t dp) (by kernel_rfl) hx rfl
  have t0 : test (run tb1 (n + 50)) (valE (at_ (fF "_law_answer").body 0)) (S "_law_answer" (AV0 bk bd a t dp) []) = some (isX t && inBd bd a, S "_law_answer" (AV0 bk bd a t dp) []) :=
    T_and2 (by rcases t with (_ | _ | _ | _) | l | ⟨l, r⟩ <;> kernel_rfl) (by cases a <;> cases bd <;> kernel_rfl)
  have t1 : test (run tb1 (n + 50)) (valE (at_ (fF "_law_answer").body 1)) (S "_law_answer" (AV0 bk bd a t dp) []) = some (isVr t, S "_law_answer" (AV0 bk bd a t dp) []) := by
    rcases t with (_ | _ | _ | _) | l | ⟨l, r⟩ <;> kernel_rfl
  by_cases h0 : (isX t && inBd bd a) = true
  · exact cc (.fz (.int 2)) (S "_law_answer" (AV0 bk bd a t dp) []) (X_ret (X_ifT t0 h0 (X_ret (X_return (by kernel_rfl))))) (by rw [ansS, if_pos h0]; rfl)
  · by_cases h1 : isVr t = true
    · exact cc (.fz (.int 1)) (S "_law_answer" (AV0 bk bd a t dp) []) (X_next (X_ifF t0 (Bool.eq_false_iff.mpr h0) rfl) (X_ret (X_ifT t1 h1 (X_ret (X_return (by kernel_rfl)))))) (by rw [ansS, if_neg h0, if_pos h1]; rfl)
    · have hl := rowsS_length A a t 0 bk
      refine cc (.fz (.int (ansS A bk bd a t))) (S "_law_answer" (AV0 bk bd a t dp) [.lst [.int 0], .lst ((rowsS A a t 0 bk).map fun r => FV.int (r.1 : Int)), .lst (.int 0 :: (rowsS A a t 0 bk).map fun r => FV.int (r.1 : Int))]) (X_next (X_ifF t0 (Bool.eq_false_iff.mpr h0) rfl) (X_next (X_ifF t1 (Bool.eq_false_iff.mpr h1) rfl) (X_ret (X_return ?_)))) rfl
      rw [ansS, if_neg h0, if_neg h1]
      generalize hr : rowsS A a t 0 bk = rs at hl
      refine E_bi (id := "max") (by kernel_rfl) (by rfl) (vs := [.loc 2]) (ts := [.lst (.int 0 :: rs.map fun r => FV.int (r.1 : Int))]) (V_cons (by rfl) (E_bin (a := .loc 0) (b := .loc 1) (σ1 := S "_law_answer" (AV0 bk bd a t dp) [.lst [.int 0]]) (σ2 := S "_law_answer" (AV0 bk bd a t dp) [.lst [.int 0], .lst (rs.map fun r => FV.int (r.1 : Int))]) (by kernel_rfl) (E_comp ?_) ?_) V_nil) (by kernel_rfl) ?_
      · refine K_comp (c0 := []) (vs := []) (xs := rs.map rwV) (ys := rs.map fun r => FV.int (r.1 : Int)) (σ1 := S "_law_answer" (AV0 bk bd a t dp) [.lst [.int 0]]) (σ2 := SA [] [.lst [.int 0]]) (by kernel_rfl) (by kernel_rfl) (iter_call (a := 267) (v := .fz (.lst (rs.map rwV))) (σ1 := S "_law_answer" (AV0 bk bd a t dp) [.lst [.int 0]]) (by kernel_rfl) ?_ (iterV_list (ow' := [.lst [.int 0]]) (by kernel_rfl) (by rw [List.length_map]; omega) rfl)) (by kernel_rfl) ?_ (by rw [List.length_map]; omega) (by kernel_rfl)
        · refine E_fn (a := 267) (by kernel_rfl) (by rfl) (vs := [.fz (bookV bk), .fz (bdV bd), .fz (trV a), .fz (tyV t), .fz (.int dp)]) (σ1 := S "_law_answer" (AV0 bk bd a t dp) [.lst [.int 0]]) (by kernel_rfl) ?_
          rw [← hr]
          exact rowsI n hb H _
        · have := fits_loop (n + 27) (o := .lst [.int 0]) rs [] (by simp; omega)
          rw [List.nil_append] at this
          exact this
      · exact bin_lists (i := 0) (j := 1) (σ := S "_law_answer" (AV0 bk bd a t dp) [.lst [.int 0], .lst (rs.map fun r => FV.int (r.1 : Int))]) (xs := [.int 0]) (ys := rs.map fun r => FV.int (r.1 : Int)) (by rfl) (by rfl) (by rw [List.length_map]; simp; omega)
      · show bnd (intsF (.int 0 :: rs.map fun r => FV.int (r.1 : Int))) _ = _
        have e : (FV.int 0 :: rs.map fun r => FV.int (r.1 : Int)) = (0 :: rs.map (·.1)).map fun (x : Nat) => FV.int (x : Int) := by simp
        rw [e, intsF_map, List.map_cons]
        show some (FV.int (maxI ((0 : Nat) : Int) _)) = _
        rw [maxI_nat]; rfl
theorem asksI (n : Nat) (hb : bk.length ≤ 5) : Asks (n + 52) bk bd dp (ansL bk bd) := fun b l ow => answerI (a := b) (t := .lf l) (dp := dp + 1) n hb (A := fun _ _ => 0) (fun h => absurd rfl (h l)) ow
end
end Xm

open PySem PySem.W PySem.Calls PyProof.Rows PySem.Spec
namespace Xm
noncomputable def selA (bk : List Rw) (bd : Bd) (i : Nat) : AV := .inst 149 [("world", .fz (worldV bk)), ("bounds", .fz (.dic [("X", bdV bd)])), ("known", .loc i)]
noncomputable def bndV (bd : Bd) (a : Bool) (t : Ty) : FV := if isX t && inBd bd a then .tup [.str "bound", .str "X"] else .none
section
variable {bk : List Rw} {bd : Bd} {a : Bool} {t : Ty}
theorem boundC (n : Nat) (o : AO) : clStep tb1 (run tb1 (n + 40)) 122 [selA bk bd 0, .fz (trV a), .fz (tyV t)] [o] = some (.fz (bndV bd a t), [o]) := by
  rcases t with (_ | _ | _ | _) | l | ⟨l, r⟩
  case lf.x => cases a <;> cases bd <;> kernel_rfl
  all_goals kernel_rfl
noncomputable def duesS (fd : List (Str × Ty)) : List (Str × List Bool) → List (Bool × Ty)
  | [] => []
  | (x, ts) :: r => (match fd.lookup x with
    | some t => ts.map fun b => (b, t)
    | none => []) ++ duesS fd r
noncomputable def dueV (p : Bool × Ty) : FV := .tup [trV p.1, tyV p.2]
noncomputable def neFor : Stmt := at_ (fM "needs_of").body 1
noncomputable def neC : Expr := match valE (at_ (inn (at_ (inn neFor) 0)) 0) with | .Call _ (e :: _) _ _ => e | _ => .Name "" default
noncomputable def neT : Expr := valE (at_ (inn neFor) 0)
noncomputable abbrev SN (vars : List (Str × AV)) (ow : List AO) : AS := ⟨cSc neC, vars, ow⟩
noncomputable abbrev N0 (bk : List Rw) (bd : Bd) (num : Nat) (r : Rw) (fd : List (Str × Ty)) : List (Str × AV) := [("self", selA bk bd 0), ("impl", .fz (implV num r)), ("found", .fz (dicV fd)), ("needs", .loc 1)]
noncomputable abbrev N1 (bk : List Rw) (bd : Bd) (num : Nat) (r : Rw) (fd : List (Str × Ty)) (x : Str) (ts : List Bool) : List (Str × AV) := N0 bk bd num r fd ++ vl [("name", .fz (.str x)), ("traits", .fz (.tup (ts.map trV)))]
theorem due_loop (n : Nat) {fd : List (Str × Ty)} {x : Str} {t' : Ty} {o1 o2 : AO} (hx : fd.lookup x = some t') : ∀ (ts : List Bool) (acc : List FV), acc.length + ts.length ≤ 1000 →
    loopC (run tb1 (n + 20)) (compI (run tb1 (n + 20)) (cElt neC) []) (cTgt neC) [] 2 2 (ts.map trV) acc (SN [("found", .fz (dicV fd)), ("name", .fz (.str x))] [o1, o2]) = some (acc ++ ts.map fun b => dueV (b, t'), SN [("found", .fz (dicV fd)), ("name", .fz (.str x))] [o1, o2]) := by
  intro ts
  induction ts with
  | nil => intro acc _; simp [loopC]
  | cons b rest ih =>
    intro acc hl
    rw [List.length_cons] at hl
    rw [List.map_cons, List.map_cons]
    refine K_cons (σ1 := SN [("found", .fz (dicV fd)), ("name", .fz (.str x)), ("trait", .fz (trV b))] [o1, o2]) (σ2 := SN [("found", .fz (dicV fd)), ("name", .fz (.str x)), ("trait", .fz (trV b))] [o1, o2]) (σ3 := SN [("found", .fz (dicV fd)), ("name", .fz (.str x)), ("trait", .fz (trV b))] [o1, o2]) (σ4 := SN [("found", .fz (dicV fd)), ("name", .fz (.str x))] [o1, o2]) (acc' := acc ++ [dueV (b, t')]) (by kernel_rfl) (by kernel_rfl)
      (K_elt (t := dueV (b, t')) (v := .fz (dueV (b, t'))) (ow' := [o1, o2]) (σ1 := SN [("found", .fz (dicV fd)), ("name", .fz (.str x)), ("trait", .fz (trV b))] [o1, o2]) ?_ (by kernel_rfl) (by omega)) (by kernel_rfl) ?_
    · refine E_tup (vs := [.fz (trV b), .fz (tyV t')]) (V_cons (σ1 := SN [("found", .fz (dicV fd)), ("name", .fz (.str x)), ("trait", .fz (trV b))] [o1, o2]) (by rfl) (by kernel_rfl) (V_cons (by rfl) (E_sub (by rfl) (a := .fz (dicV fd)) (b := .fz (.str x)) (σ1 := SN [("found", .fz (dicV fd)), ("name", .fz (.str x)), ("trait", .fz (trV b))] [o1, o2]) (σ2 := SN [("found", .fz (dicV fd)), ("name", .fz (.str x)), ("trait", .fz (trV b))] [o1, o2]) (by kernel_rfl) (by kernel_rfl) ?_) V_nil)) (by simp)
      show ((fd.map fun p => (p.1, tyV p.2)).lookup x).map AV.fz = _
      rw [dic_lookup, hx]; rfl
    · rw [ih (acc ++ [dueV (b, t')]) (by rw [List.length_append]; simp; omega), List.append_assoc]; rfl
theorem ne_loop (n : Nat) {num : Nat} {r : Rw} {fd : List (Str × Ty)} {o : AO} : ∀ (nd : List (Str × List Bool)) (acc : List FV), (∀ p ∈ nd, p.2.length ≤ 100) → acc.length + 100 * nd.length ≤ 1000 →
    exStep.forL (run tb1 (n + 40)) (forT neFor) (inn neFor) 4 2 (nd.map ndF) (SM "needs_of" (N0 bk bd num r fd) [o, .lst acc]) = some (.next, SM "needs_of" (N0 bk bd num r fd) [o, .lst (acc ++ (duesS fd nd).map dueV)]) := by
  intro nd
  induction nd with
  | nil => intro acc _ _; simp [duesS, exStep.forL]
  | cons p rest ih =>
    intro acc hp hl
    obtain ⟨x, ts⟩ := p
    have hts : ts.length ≤ 100 := hp _ (.head _)
    rw [List.length_cons] at hl
    have ht : test (run tb1 (n + 39)) neT (SM "needs_of" (N1 bk bd num r fd x ts) [o, .lst acc]) = some (((fd.map fun p => (p.1, tyV p.2)).lookup x).isSome, SM "needs_of" (N1 bk bd num r fd x ts) [o, .lst acc]) := by kernel_rfl
    rw [List.map_cons, duesS]
    cases hx : fd.lookup x with
    | none =>
      dsimp only
      rw [List.nil_append]
      refine F_cons (σ1 := SM "needs_of" (N1 bk bd num r fd x ts) [o, .lst acc]) (by kernel_rfl) (X_next (X_ifF ht (by rw [dic_lookup, hx]; rfl) rfl) rfl) (.inl rfl) (by kernel_rfl) (ih acc (fun p h => hp p (.tail _ h)) (by omega))
    | some t' =>
      dsimp only
      refine F_cons (σ1 := SM "needs_of" (N1 bk bd num r fd x ts) [o, .lst acc]) (σ2 := SM "needs_of" (N1 bk bd num r fd x ts) [o, .lst (acc ++ ts.map fun b => dueV (b, t')), .lst (ts.map fun b => dueV (b, t'))]) (σ3 := SM "needs_of" (N0 bk bd num r fd) [o, .lst (acc ++ ts.map fun b => dueV (b, t'))]) (by kernel_rfl) (X_next (X_ifT ht (by rw [dic_lookup, hx]; rfl) (X_next (X_expr ?_) rfl)) rfl) (.inl rfl) (by kernel_rfl) ?_
      · refine E_extend (i := 1) (xs := acc) (ys := ts.map fun b => dueV (b, t')) (v := .loc 2) (σ1 := SM "needs_of" (N1 bk bd num r fd x ts) [o, .lst acc]) (σ2 := SM "needs_of" (N1 bk bd num r fd x ts) [o, .lst acc, .lst (ts.map fun b => dueV (b, t'))]) (by kernel_rfl) (by rfl) (by kernel_rfl) (by kernel_rfl) (E_comp ?_) (by kernel_rfl) (by kernel_rfl) (by rw [List.length_map]; omega)
        refine K_comp (c0 := [("found", .fz (dicV fd)), ("name", .fz (.str x))]) (vs := [("found", .fz (dicV fd)), ("name", .fz (.str x))]) (xs := ts.map trV) (ys := ts.map fun b => dueV (b, t')) (σ1 := SM "needs_of" (N1 bk bd num r fd x ts) [o, .lst acc]) (σ2 := SN [("found", .fz (dicV fd)), ("name", .fz (.str x))] [o, .lst acc]) (by kernel_rfl) (by kernel_rfl) (iter_name (v := .fz (.tup (ts.map trV))) (σ1 := SM "needs_of" (N1 bk bd num r fd x ts) [o, .lst acc]) (by kernel_rfl) (iterV_tup (ow' := [o, .lst acc]) (by kernel_rfl) (by rw [List.length_map]; omega) rfl)) (by kernel_rfl) ?_ (by rw [List.length_map]; omega) (by kernel_rfl)
        have := due_loop (n + 16) (o1 := o) (o2 := .lst acc) hx ts [] (by simp; omega)
        rw [List.nil_append] at this
        exact this
      · rw [ih (acc ++ ts.map fun b => dueV (b, t')) (fun p h => hp p (.tail _ h)) (by rw [List.length_append, List.length_map]; omega)]
        rw [List.map_append, List.map_map, List.append_assoc]; rfl
theorem iter_attr {ih : Ih} {t o : Expr} {x : Str} {p : Pos} {σ σ1 σ2 : AS} {v : AV} {xs : List FV} (h : ih.ev (.Attribute o x p) σ = some (v, σ1)) (h2 : iterV σ1 v = some (xs, σ2)) : iterE tb1 ih t (.Attribute o x p) σ = some (xs, σ2) := I_ev rfl rfl h h2
theorem ndL_small (w : Wy) : (ndL w).length ≤ 2 ∧ ∀ p ∈ ndL w, p.2.length ≤ 100 := by
  have hm : ∀ m : Mn, (mnL m).length ≤ 100 := fun m => by cases m <;> simp [mnL]
  cases w <;> simp [ndL, hm]
theorem needsC (n : Nat) (num : Nat) (r : Rw) (fd : List (Str × Ty)) (o : AO) : clStep tb1 (run tb1 (n + 41)) 127 [selA bk bd 0, .fz (implV num r), .fz (dicV fd)] [o] = some (.fz (.lst ((duesS fd (ndL r.2)).map dueV)), [o]) := by
  obtain ⟨h1, h2⟩ := ndL_small r.2
  refine C_call (f := fM "needs_of") (by kernel_rfl) (bs := [("self", selA bk bd 0), ("impl", .fz (implV num r)), ("found", .fz (dicV fd))]) (by kernel_rfl) (v := .loc 1) (σ' := SM "needs_of" (N0 bk bd num r fd) [o, .lst ((duesS fd (ndL r.2)).map dueV)]) ?_ (by kernel_rfl)
  refine X_next (σ1 := SM "needs_of" (N0 bk bd num r fd) [o, .lst []]) (by kernel_rfl) (X_next (σ1 := SM "needs_of" (N0 bk bd num r fd) [o, .lst ((duesS fd (ndL r.2)).map dueV)]) (X_for (xs := (ndL r.2).map ndF) (σ1 := SM "needs_of" (N0 bk bd num r fd) [o, .lst []]) ?_ ?_) (by kernel_rfl))
  · exact iter_attr (v := .fz (.lst (ndV r.2))) (σ1 := SM "needs_of" (N0 bk bd num r fd) [o, .lst []]) (by kernel_rfl) (iterV_list (ow' := [o, .lst []]) (by kernel_rfl) (ndV_length r.2) rfl)
  · have := ne_loop (bk := bk) (bd := bd) n (num := num) (r := r) (fd := fd) (o := o) (ndL r.2) [] h2 (by simp; omega)
    rw [List.nil_append] at this
    exact this
end
end Xm

open PySem PySem.W PySem.Calls PyProof.Rows PySem.Spec
namespace Xm
theorem min_zero (A : Bool → Nat) : ∀ (l : List Bool), l.foldl (fun g b => min g (A b)) 0 = 0
  | [] => rfl
  | b :: r => by rw [List.foldl_cons, Nat.zero_min]; exact min_zero A r
/-- what the asked answers leave of a fit, as the code walks -/
noncomputable def dueFold (A : Bool → Lf → Nat) : List (Bool × Lf) → Nat → Nat
  | [], f => f
  | (b, l) :: r, f => dueFold A r (min f (A b l))
theorem dueFold_zero (A : Bool → Lf → Nat) : ∀ (l : List (Bool × Lf)), dueFold A l 0 = 0
  | [] => rfl
  | (b, l) :: r => by rw [dueFold, Nat.zero_min]; exact dueFold_zero A r
theorem dueFold_map (A : Bool → Lf → Nat) (l : Lf) : ∀ (ts : List Bool) (r : List (Bool × Lf)) (f : Nat), dueFold A (ts.map (fun b => (b, l)) ++ r) f = dueFold A r (ts.foldl (fun g b => min g (A b l)) f)
  | [], r, f => rfl
  | b :: ts, r, f => by rw [List.map_cons, List.cons_append, dueFold, List.foldl_cons, dueFold_map A l ts]
/-- the dues ask of leaves alone -/
noncomputable def dueL : Wy → Ty → List (Bool × Lf)
  | .w3 m, .box l => (mnL m).map fun b => (b, l)
  | .w4 m k, .pair l r => (mnL m).map (fun b => (b, l)) ++ (mnL k).map fun b => (b, r)
  | _, _ => []
theorem dues_eq (w : Wy) (t : Ty) : duesS (fndS w t) (ndL w) = (dueL w t).map fun p => (p.1, .lf p.2) := by
  cases w with
  | w3 m => cases t <;> first | rfl | (cases m <;> rfl)
  | w4 m k => cases t <;> first | rfl | (cases m <;> cases k <;> rfl)
  | w5 => cases t <;> rfl
  | w7 => cases t <;> rfl
  | w0 => cases t <;> rfl
  | w1 => cases t <;> rfl
  | w2 => cases t <;> rfl
  | w6 => cases t <;> rfl
theorem dueL_leaf (w : Wy) (l : Lf) : dueL w (.lf l) = [] := by cases w <;> rfl
theorem fold_eq (A : Bool → Lf → Nat) (w : Wy) (t : Ty) : dueFold A (dueL w t) (fitS w t) = rowFit A w t := by
  unfold rowFit
  cases w with
  | w3 m =>
    cases t with
    | box l =>
      show dueFold A ((mnL m).map fun b => (b, l)) 2 = needStep A [("T", .lf l)] "T" (mnL m) 2
      rw [needStep_pos (l := l) rfl (by omega), ← List.append_nil ((mnL m).map fun b => (b, l)), dueFold_map]; rfl
    | lf l => cases l <;> rfl
    | pair l r => rfl
  | w4 m k =>
    cases t with
    | pair l r =>
      show dueFold A ((mnL m).map (fun b => (b, l)) ++ (mnL k).map fun b => (b, r)) 2 = needStep A [("T", .lf l), ("U", .lf r)] "U" (mnL k) (needStep A [("T", .lf l), ("U", .lf r)] "T" (mnL m) 2)
      have h1 : needStep A [("T", .lf l), ("U", .lf r)] "T" (mnL m) 2 = (mnL m).foldl (fun g b => min g (A b l)) 2 := needStep_pos (l := l) rfl (by omega)
      rw [h1, dueFold_map, ← List.append_nil ((mnL k).map fun b => (b, r)), dueFold_map]
      generalize (mnL m).foldl (fun g b => min g (A b l)) 2 = f
      by_cases h : 0 < f
      · rw [needStep_pos (l := r) rfl h]; rfl
      · have : f = 0 := by omega
        subst this
        rw [needStep_neg (by simp), min_zero]; rfl
    | lf l => cases l <;> rfl
    | box l => rfl
  | w5 =>
    rcases t with (_ | _ | _ | _) | l | ⟨l, r⟩
    case pair =>
      show dueFold A [] (sameS l r) = needStep A [("T", .lf r)] "T" [] (sameS l r)
      rw [needStep_nil]; rfl
    all_goals rfl
  | w7 => cases t <;> rfl
  | w0 => cases t <;> rfl
  | w1 => cases t <;> rfl
  | w2 => cases t <;> rfl
  | w6 => cases t <;> rfl
theorem dueFold_le (A : Bool → Lf → Nat) : ∀ (l : List (Bool × Lf)) (f : Nat), dueFold A l f ≤ f
  | [], f => Nat.le_refl _
  | (b, l) :: r, f => Nat.le_trans (dueFold_le A r _) (Nat.min_le_left _ _)
theorem fitS_le (w : Wy) (t : Ty) : fitS w t ≤ 2 := by
  cases w <;> rcases t with (_ | _ | _ | _) | (_ | _ | _ | _) | ⟨_ | _ | _ | _, _ | _ | _ | _⟩ <;> exact Nat.le_of_ble_eq_true rfl
/-- the rows of the code -/
noncomputable def prV (r : RwS) : FV := .tup [wordV r.1, .int r.2.1, dicV r.2.2]
noncomputable def rowsP (A : Bool → Lf → Nat) (a : Bool) (t : Ty) : Nat → List Rw → List RwS
  | _, [] => []
  | k, r :: rest => if r.1 = a ∧ 0 < rowFit A r.2 t then (rowFit A r.2 t, k, fndS r.2 t) :: rowsP A a t (k + 1) rest else rowsP A a t (k + 1) rest

noncomputable def dueLV (p : Bool × Lf) : FV := dueV (p.1, .lf p.2)
/-! candidates -/
noncomputable def cdFor : Stmt := at_ (fM "candidates").body 1
noncomputable def cdIf : Stmt := at_ (inn cdFor) 0
noncomputable def duFor : Stmt := at_ (inn cdIf) 1
section
variable (bk : List Rw) (bd : Bd) (a : Bool) (t : Ty) (dp : Int)
noncomputable abbrev C0 : List (Str × AV) := [("self", selA bk bd 0), ("trait", .fz (trV a)), ("args", .fz (.tup [])), ("T", .fz (tyV t)), ("deep", .fz (.int dp)), ("rows", .loc 1)]
noncomputable abbrev C1 (k : Nat) (r : Rw) : List (Str × AV) := C0 bk bd a t dp ++ vl [("impl", .fz (implV k r))]
noncomputable abbrev C2 (k : Nat) (r : Rw) (f : Nat) (fd : List (Str × Ty)) : List (Str × AV) := C0 bk bd a t dp ++ vl [("impl", .fz (implV k r)), ("answer", .fz (wordV f)), ("found", .fz (dicV fd))]
noncomputable abbrev C3 (k : Nat) (r : Rw) (f : Nat) (fd : List (Str × Ty)) (b : Bool) (l : Lf) : List (Str × AV) := C0 bk bd a t dp ++ vl [("impl", .fz (implV k r)), ("answer", .fz (wordV f)), ("found", .fz (dicV fd)), ("other", .fz (trV b)), ("part", .fz (lfV l))]
noncomputable abbrev C4 (k : Nat) (r : Rw) (f : Nat) (fd : List (Str × Ty)) (b : Bool) (l : Lf) (g : Nat) : List (Str × AV) := C0 bk bd a t dp ++ vl [("impl", .fz (implV k r)), ("answer", .fz (wordV f)), ("found", .fz (dicV fd)), ("other", .fz (trV b)), ("part", .fz (lfV l)), ("told", .fz (wordV g))]
variable {bk bd a t dp}
/-- the table's answers -/
noncomputable def Table (m : Nat) (bk : List Rw) (bd : Bd) (dp : Int) (A : Bool → Lf → Nat) (P : AO → Prop) : Prop := ∀ o, P o → ∀ b l, ∃ o', P o' ∧ clStep tb1 (run tb1 m) 141 [selA bk bd 0, .fz (trV b), .fz (.tup []), .fz (lfV l), .fz (.int (dp + 1))] [o] = some (.fz (wordV (A b l)), [o'])
theorem du_loop (n : Nat) {k : Nat} {r : Rw} {fd : List (Str × Ty)} {acc : List FV} {A : Bool → Lf → Nat} (hA : ∀ b l, A b l ≤ 2) {P : AO → Prop} (H : Table (n + 37) bk bd dp A P) : ∀ (ds : List (Bool × Lf)) (f : Nat) (o : AO), (f = 1 ∨ f = 2) → P o →
    ∃ o', P o' ∧ exStep.forL (run tb1 (n + 40)) (forT duFor) (inn duFor) 9 2 (ds.map dueLV) (SM "candidates" (C2 bk bd a t dp k r f fd) [o, .lst acc]) = some (.next, SM "candidates" (C2 bk bd a t dp k r (dueFold A ds f) fd) [o', .lst acc]) := by
  intro ds
  induction ds with
  | nil => intro f o _ hP; exact ⟨o, hP, rfl⟩
  | cons p rest ih =>
    intro f o hf hP
    obtain ⟨b, l⟩ := p
    obtain ⟨o1, hP1, e1⟩ := H o hP b l
    have hg := hA b l
    generalize hgg : A b l = g at e1 hg
    have s0 : exStep tb1 (run tb1 (n + 39)) (at_ (inn duFor) 0) (SM "candidates" (C3 bk bd a t dp k r f fd b l) [o, .lst acc]) = some (.next, SM "candidates" (C4 bk bd a t dp k r f fd b l g) [o1, .lst acc]) := by
      refine X_asg (u := .fz (wordV g)) (σ1 := SM "candidates" (C3 bk bd a t dp k r f fd b l) [o1, .lst acc]) (E_meth (f := 141) (ov := selA bk bd 0) (vs := [.fz (trV b), .fz (.tup []), .fz (lfV l), .fz (.int (dp + 1))]) (σ1 := SM "candidates" (C3 bk bd a t dp k r f fd b l) [o, .lst acc]) (σ2 := SM "candidates" (C3 bk bd a t dp k r f fd b l) [o, .lst acc]) (by kernel_rfl) (by rfl) (by kernel_rfl) (by kernel_rfl) (by kernel_rfl) ?_) (by kernel_rfl) (by rfl)
      exact L_call (by rfl) (os := [o]) (os' := [o1]) (t := wordV g) (by kernel_rfl) e1 (by rfl) (by kernel_rfl)
    have s1 : exStep tb1 (run tb1 (n + 39)) (at_ (inn duFor) 1) (SM "candidates" (C4 bk bd a t dp k r f fd b l g) [o1, .lst acc]) = some (.next, SM "candidates" (C4 bk bd a t dp k r (min f g) fd b l g) [o1, .lst acc]) := by
      have hgc : g = 0 ∨ g = 1 ∨ g = 2 := by omega
      clear e1 s0 hgg hg
      rcases hf with rfl | rfl <;> rcases hgc with rfl | rfl | rfl <;> kernel_rfl
    by_cases h0 : min f g = 0
    · refine ⟨o1, hP1, ?_⟩
      rw [List.map_cons, dueFold, hgg, h0, dueFold_zero]
      rw [h0] at s1
      exact F_brk (σ1 := SM "candidates" (C3 bk bd a t dp k r f fd b l) [o, .lst acc]) (σ2 := SM "candidates" (C4 bk bd a t dp k r 0 fd b l g) [o1, .lst acc]) (by kernel_rfl) (X_next s0 (X_next s1 (X_brk (X_ifT (c := true) (σ1 := SM "candidates" (C4 bk bd a t dp k r 0 fd b l g) [o1, .lst acc]) (by kernel_rfl) rfl (X_brk rfl))))) (by kernel_rfl)
    · have hm : min f g = 1 ∨ min f g = 2 := by omega
      obtain ⟨o2, hP2, e2⟩ := ih (min f g) o1 hm hP1
      refine ⟨o2, hP2, ?_⟩
      rw [List.map_cons, dueFold, hgg]
      refine F_cons (σ1 := SM "candidates" (C3 bk bd a t dp k r f fd b l) [o, .lst acc]) (σ2 := SM "candidates" (C4 bk bd a t dp k r (min f g) fd b l g) [o1, .lst acc]) (by kernel_rfl) (X_next s0 (X_next s1 (X_next (X_ifF (c := false) (σ1 := SM "candidates" (C4 bk bd a t dp k r (min f g) fd b l g) [o1, .lst acc]) ?_ rfl rfl) rfl))) (.inl rfl) (by kernel_rfl) e2
      generalize min f g = h at hm
      clear e1 s0 s1 hgg e2
      rcases hm with rfl | rfl <;> kernel_rfl
end
end Xm

open PySem PySem.W PySem.Calls PyProof.Rows PySem.Spec
namespace Xm
noncomputable def cdT1 : Expr := match forI duFor with | .IfExp c _ _ _ => c | e => e
section
variable {bk : List Rw} {bd : Bd} {a : Bool} {t : Ty} {dp : Int}
theorem leafOr (t : Ty) : (∃ l, t = .lf l) ∨ ∀ l, t ≠ .lf l := by
  cases t with
  | lf l => exact .inl ⟨l, rfl⟩
  | box l => exact .inr fun _ q => by cases q
  | pair l r => exact .inr fun _ q => by cases q
theorem cd_turn (n : Nat) {k : Nat} {r : Rw} {acc : List FV} {A : Bool → Lf → Nat} {o : AO} {P : AO → Prop} (hl : acc.length ≤ 1000) (hA : ∀ b l, A b l ≤ 2) (H : (∀ l, t ≠ .lf l) → Table (n + 59) bk bd dp A P) (hP : P o) :
    ∃ o' σ', P o' ∧ (run tb1 (n + 64)).ex (inn cdFor) (SM "candidates" (C1 bk bd a t dp k r) [o, .lst acc]) = some (.next, σ') ∧
      cut 6 2 σ' = some (SM "candidates" (C0 bk bd a t dp) [o', .lst (if r.1 = a ∧ 0 < rowFit A r.2 t then acc ++ [prV (rowFit A r.2 t, k, fndS r.2 t)] else acc)]) := by
  by_cases ha : r.1 = a
  · have t0 : test (run tb1 (n + 63)) (valE cdIf) (SM "candidates" (C1 bk bd a t dp k r) [o, .lst acc]) = some (true, SM "candidates" (C1 bk bd a t dp k r) [o, .lst acc]) := by
      obtain ⟨ra, rw'⟩ := r
      dsimp only at ha
      subst ha
      cases ra <;> kernel_rfl
    have s1 : exStep tb1 (run tb1 (n + 62)) (at_ (inn cdIf) 0) (SM "candidates" (C1 bk bd a t dp k r) [o, .lst acc]) = some (.next, SM "candidates" (C2 bk bd a t dp k r (fitS r.2 t) (fndS r.2 t)) [o, .lst acc]) :=
      X_asgT (sw := none) (xs := ["answer", "found"]) (u := .fz (.tup [wordV (fitS r.2 t), dicV (fndS r.2 t)])) (vs := [.fz (wordV (fitS r.2 t)), .fz (dicV (fndS r.2 t))]) (σ1 := SM "candidates" (C1 bk bd a t dp k r) [o, .lst acc]) (by kernel_rfl) (by kernel_rfl)
        (E_fn (a := 94) (by kernel_rfl) (by rfl) (vs := [.fz (implV k r), .fz (.tup []), .fz (tyV t)]) (σ1 := SM "candidates" (C1 bk bd a t dp k r) [o, .lst acc]) (by kernel_rfl) (matchI (n + 1) k r t [o, .lst acc])) (by rfl) (by kernel_rfl) (by simp)
    have hf2 := fitS_le r.2 t
    have hfe := fold_eq A r.2 t
    generalize hf0 : fitS r.2 t = f0 at s1 hf2 hfe
    generalize hf : rowFit A r.2 t = f at hfe
    by_cases hz : f0 = 0
    · subst hz
      have hf00 : f = 0 := by have := dueFold_le A (dueL r.2 t) 0; omega
      subst hf00
      rw [if_neg (by omega)]
      refine ⟨o, SM "candidates" (C2 bk bd a t dp k r 0 (fndS r.2 t)) [o, .lst acc, .fz (.lst [])], hP, X_next (X_ifT t0 rfl (X_next s1 (X_next (σ1 := SM "candidates" (C2 bk bd a t dp k r 0 (fndS r.2 t)) [o, .lst acc, .fz (.lst [])]) (X_for (σ1 := SM "candidates" (C2 bk bd a t dp k r 0 (fndS r.2 t)) [o, .lst acc, .fz (.lst [])]) (xs := []) (iter_of (v := .loc 2) (σ1 := SM "candidates" (C2 bk bd a t dp k r 0 (fndS r.2 t)) [o, .lst acc, .lst []]) (E_ifF (c := false) (σ1 := SM "candidates" (C2 bk bd a t dp k r 0 (fndS r.2 t)) [o, .lst acc]) (by kernel_rfl) rfl (by kernel_rfl)) (by kernel_rfl)) F_nil) (X_next (X_ifF (c := false) (σ1 := SM "candidates" (C2 bk bd a t dp k r 0 (fndS r.2 t)) [o, .lst acc, .fz (.lst [])]) (by kernel_rfl) rfl rfl) rfl)))) rfl, by kernel_rfl⟩
    · have hf12 : f0 = 1 ∨ f0 = 2 := by omega
      have hdl : (dueL r.2 t).length ≤ 1000 := by
        have hm : ∀ m : Mn, (mnL m).length ≤ 2 := fun m => by cases m <;> simp [mnL]
        cases r.2 with
        | w3 m => cases t <;> simp [dueL]; have := hm m; omega
        | w4 m k => cases t <;> simp [dueL]; have := hm m; have := hm k; omega
        | _ => cases t <;> simp [dueL]
      have loop : ∃ o', P o' ∧ exStep.forL (run tb1 (n + 62)) (forT duFor) (inn duFor) 9 2 ((dueL r.2 t).map dueLV) (SM "candidates" (C2 bk bd a t dp k r f0 (fndS r.2 t)) [o, .lst acc]) = some (.next, SM "candidates" (C2 bk bd a t dp k r f (fndS r.2 t)) [o', .lst acc]) := by
        rcases leafOr t with ⟨l, rfl⟩ | hn
        · rw [dueL_leaf] at hfe ⊢
          have hfe : f0 = f := hfe
          subst hfe
          exact ⟨o, hP, rfl⟩
        · rw [← hfe]
          exact du_loop (n + 22) hA (H hn) (dueL r.2 t) f0 o hf12 hP
      obtain ⟨o', hP', e2⟩ := loop
      have tt : test (run tb1 (n + 61)) cdT1 (SM "candidates" (C2 bk bd a t dp k r f0 (fndS r.2 t)) [o, .lst acc]) = some (true, SM "candidates" (C2 bk bd a t dp k r f0 (fndS r.2 t)) [o, .lst acc]) := by
        clear e2 s1 hf0 hfe
        rcases hf12 with rfl | rfl <;> kernel_rfl
      have s2 : exStep tb1 (run tb1 (n + 62)) duFor (SM "candidates" (C2 bk bd a t dp k r f0 (fndS r.2 t)) [o, .lst acc]) = some (.next, SM "candidates" (C2 bk bd a t dp k r f (fndS r.2 t)) [o', .lst acc]) := by
        refine X_for (σ1 := SM "candidates" (C2 bk bd a t dp k r f0 (fndS r.2 t)) [o, .lst acc]) (xs := (dueL r.2 t).map dueLV) (iter_of (v := .fz (.lst ((dueL r.2 t).map dueLV))) (σ1 := SM "candidates" (C2 bk bd a t dp k r f0 (fndS r.2 t)) [o, .lst acc]) (E_ifT tt rfl ?_) (iterV_list (ow' := [o, .lst acc]) (by kernel_rfl) (by rw [List.length_map]; exact hdl) rfl)) e2
        have hn := needsC (bk := bk) (bd := bd) (n + 18) k r (fndS r.2 t) o
        rw [dues_eq, List.map_map] at hn
        refine E_meth (f := 127) (ov := selA bk bd 0) (vs := [.fz (implV k r), .fz (dicV (fndS r.2 t))]) (σ1 := SM "candidates" (C2 bk bd a t dp k r f0 (fndS r.2 t)) [o, .lst acc]) (σ2 := SM "candidates" (C2 bk bd a t dp k r f0 (fndS r.2 t)) [o, .lst acc]) (by kernel_rfl) (by rfl) (by kernel_rfl) (by kernel_rfl) (by kernel_rfl) ?_
        exact L_call (by rfl) (os := [o]) (os' := [o]) (t := .lst ((dueL r.2 t).map dueLV)) (by kernel_rfl) hn (by rfl) (by kernel_rfl)
      have hfl : f ≤ 2 := by have := dueFold_le A (dueL r.2 t) f0; omega
      by_cases h0 : 0 < f
      · rw [if_pos ⟨ha, h0⟩]
        have hfc : f = 1 ∨ f = 2 := by omega
        refine ⟨o', SM "candidates" (C2 bk bd a t dp k r f (fndS r.2 t)) [o', .lst (acc ++ [prV (f, k, fndS r.2 t)])], hP', X_next (X_ifT t0 rfl (X_next s1 (X_next s2 (X_next (X_ifT (c := true) (σ1 := SM "candidates" (C2 bk bd a t dp k r f (fndS r.2 t)) [o', .lst acc]) ?_ rfl (X_next (X_expr ?_) rfl)) rfl)))) rfl, by kernel_rfl⟩
        · clear e2 s2 hfe hf h0 hfl
          rcases hfc with rfl | rfl <;> kernel_rfl
        · exact E_append (i := 1) (xs := acc) (v := .fz (prV (f, k, fndS r.2 t))) (t := prV (f, k, fndS r.2 t)) (ow' := [o', .lst acc]) (σ1 := SM "candidates" (C2 bk bd a t dp k r f (fndS r.2 t)) [o', .lst acc]) (σ2 := SM "candidates" (C2 bk bd a t dp k r f (fndS r.2 t)) [o', .lst acc]) (by kernel_rfl) (by rfl) (by kernel_rfl) (by kernel_rfl) (by kernel_rfl) (by kernel_rfl) (by kernel_rfl) hl
      · have hf00 : f = 0 := by omega
        subst hf00
        rw [if_neg (by omega)]
        exact ⟨o', SM "candidates" (C2 bk bd a t dp k r 0 (fndS r.2 t)) [o', .lst acc], hP', X_next (X_ifT t0 rfl (X_next s1 (X_next s2 (X_next (X_ifF (c := false) (σ1 := SM "candidates" (C2 bk bd a t dp k r 0 (fndS r.2 t)) [o', .lst acc]) (by kernel_rfl) rfl rfl) rfl)))) rfl, by kernel_rfl⟩
  · rw [if_neg fun q => ha q.1]
    refine ⟨o, SM "candidates" (C1 bk bd a t dp k r) [o, .lst acc], hP, X_next (X_ifF (c := false) (σ1 := SM "candidates" (C1 bk bd a t dp k r) [o, .lst acc]) ?_ rfl rfl) rfl, by kernel_rfl⟩
    obtain ⟨ra, rw'⟩ := r
    dsimp only at ha
    cases ra <;> cases a
    · exact absurd rfl ha
    · kernel_rfl
    · kernel_rfl
    · exact absurd rfl ha
theorem cd_loop (n : Nat) {A : Bool → Lf → Nat} {P : AO → Prop} (hA : ∀ b l, A b l ≤ 2) (H : (∀ l, t ≠ .lf l) → Table (n + 59) bk bd dp A P) : ∀ (b : List Rw) (k : Nat) (acc : List FV) (o : AO), P o → acc.length + b.length ≤ 1000 →
    ∃ o', P o' ∧ exStep.forL (run tb1 (n + 64)) (forT cdFor) (inn cdFor) 6 2 (implsV k b) (SM "candidates" (C0 bk bd a t dp) [o, .lst acc]) = some (.next, SM "candidates" (C0 bk bd a t dp) [o', .lst (acc ++ (rowsP A a t k b).map prV)]) := by
  intro b
  induction b with
  | nil => intro k acc o hP _; exact ⟨o, hP, by simp [rowsP, implsV, exStep.forL]⟩
  | cons r rest ih =>
    intro k acc o hP hl
    rw [List.length_cons] at hl
    obtain ⟨o1, σ', hP1, e1, c1⟩ := cd_turn (a := a) n (k := k) (r := r) (acc := acc) (by omega) hA H hP
    rw [implsV, rowsP]
    split at c1
    · rename_i h
      obtain ⟨o2, hP2, e2⟩ := ih (k + 1) (acc ++ [prV (rowFit A r.2 t, k, fndS r.2 t)]) o1 hP1 (by rw [List.length_append]; simp; omega)
      refine ⟨o2, hP2, ?_⟩
      rw [if_pos h, List.map_cons]
      refine F_cons (σ1 := SM "candidates" (C1 bk bd a t dp k r) [o, .lst acc]) (by kernel_rfl) e1 (.inl rfl) c1 ?_
      rw [e2, List.append_assoc]; rfl
    · rename_i h
      obtain ⟨o2, hP2, e2⟩ := ih (k + 1) acc o1 hP1 (by omega)
      refine ⟨o2, hP2, ?_⟩
      rw [if_neg h]
      exact F_cons (σ1 := SM "candidates" (C1 bk bd a t dp k r) [o, .lst acc]) (by kernel_rfl) e1 (.inl rfl) c1 e2
theorem candC (n : Nat) (hb : bk.length ≤ 5) {A : Bool → Lf → Nat} {P : AO → Prop} (hA : ∀ b l, A b l ≤ 2) (H : (∀ l, t ≠ .lf l) → Table (n + 59) bk bd dp A P) {o : AO} (hP : P o) :
    ∃ o', P o' ∧ clStep tb1 (run tb1 (n + 65)) 134 [selA bk bd 0, .fz (trV a), .fz (.tup []), .fz (tyV t), .fz (.int dp)] [o] = some (.fz (.lst ((rowsP A a t 0 bk).map prV)), [o']) := by
  obtain ⟨o', hP', e⟩ := cd_loop (a := a) n hA H bk 0 [] o hP (by simp; omega)
  rw [List.nil_append] at e
  refine ⟨o', hP', C_call (f := fM "candidates") (by kernel_rfl) (bs := [("self", selA bk bd 0), ("trait", .fz (trV a)), ("args", .fz (.tup [])), ("T", .fz (tyV t)), ("deep", .fz (.int dp))]) (by kernel_rfl) (v := .loc 1) (σ' := SM "candidates" (C0 bk bd a t dp) [o', .lst ((rowsP A a t 0 bk).map prV)]) ?_ (by kernel_rfl)⟩
  refine X_next (σ1 := SM "candidates" (C0 bk bd a t dp) [o, .lst []]) (by kernel_rfl) (X_next (σ1 := SM "candidates" (C0 bk bd a t dp) [o', .lst ((rowsP A a t 0 bk).map prV)]) (X_for (xs := implsV 0 bk) (σ1 := SM "candidates" (C0 bk bd a t dp) [o, .lst []]) ?_ e) (by kernel_rfl))
  exact iter_attr (v := .fz (.lst (implsV 0 bk))) (σ1 := SM "candidates" (C0 bk bd a t dp) [o, .lst []]) (by kernel_rfl) (iterV_list (ow' := [o, .lst []]) (by kernel_rfl) (by rw [implsV_length]; omega) rfl)
end
end Xm

open PySem PySem.W PySem.Calls PyProof.Rows PySem.Spec
namespace Xm
theorem T_cmp {ih : Ih} {l r : Expr} {op : CmpOp} {p : Pos} {σ σ1 σ2 : AS} {a b : AV} {c : Bool} (hm : behindInMarks op r = false) (h1 : ih.ev l σ = some (a, σ1)) (h2 : ih.ev r σ1 = some (b, σ2)) (h3 : cmpA σ2.ow op a b = some c) : test ih (.Compare l [op] [r] p) σ = some (c, σ2) :=
  nO hm (bO h1 (bO h2 (bO h3 rfl)))
theorem rowsP_fst (A : Bool → Lf → Nat) (a : Bool) (t : Ty) : ∀ (k : Nat) (b : List Rw), (rowsP A a t k b).map (·.1) = (rowsS A a t k b).map (·.1)
  | _, [] => rfl
  | k, r :: rest => by
    rw [rowsP, rowsS]
    split
    · rw [List.map_cons, List.map_cons, rowsP_fst A a t (k + 1) rest]
    · exact rowsP_fst A a t (k + 1) rest
theorem rowFit_le (A : Bool → Lf → Nat) (w : Wy) (t : Ty) : rowFit A w t ≤ 2 := by
  rw [← fold_eq]
  exact Nat.le_trans (dueFold_le A _ _) (fitS_le w t)
theorem rowsP_fit (A : Bool → Lf → Nat) (a : Bool) (t : Ty) : ∀ (k : Nat) (b : List Rw), ∀ r ∈ rowsP A a t k b, r.1 = 1 ∨ r.1 = 2
  | _, [], r, h => by cases h
  | k, x :: rest, r, h => by
    rw [rowsP] at h
    split at h
    · rename_i hc
      rcases List.mem_cons.mp h with rfl | h
      · have := rowFit_le A x.2 t
        have := hc.2
        show rowFit A x.2 t = 1 ∨ rowFit A x.2 t = 2
        omega
      · exact rowsP_fit A a t (k + 1) rest r h
    · exact rowsP_fit A a t (k + 1) rest r h
theorem rowsP_length (A : Bool → Lf → Nat) (a : Bool) (t : Ty) (k : Nat) (b : List Rw) : (rowsP A a t k b).length ≤ b.length := by
  have := congrArg List.length (rowsP_fst A a t k b)
  rw [List.length_map, List.length_map] at this
  rw [this]; exact rowsS_length A a t k b
theorem maxN_le {l : List Nat} (h : ∀ x ∈ l, x ≤ 2) : ∀ m, m ≤ 2 → l.foldl max m ≤ 2 := by
  induction l with
  | nil => intro m hm; exact hm
  | cons x r ih => intro m hm; rw [List.foldl_cons]; exact ih (fun y hy => h y (.tail _ hy)) _ (Nat.max_le.mpr ⟨hm, h x (.head _)⟩)
theorem ansS_le (A : Bool → Lf → Nat) (bk : List Rw) (bd : Bd) (a : Bool) (t : Ty) : ansS A bk bd a t ≤ 2 := by
  unfold ansS
  split
  · exact Nat.le_refl _
  · split
    · omega
    · refine maxN_le (fun x hx => ?_) 0 (by omega)
      rw [← rowsP_fst] at hx
      obtain ⟨r, hr, rfl⟩ := List.mem_map.mp hx
      rcases rowsP_fit A a t 0 bk r hr with h | h <;> omega
theorem ansL_le (bk : List Rw) (bd : Bd) (b : Bool) (l : Lf) : ansL bk bd b l ≤ 2 := ansS_le _ bk bd b _
/-- "yes" among the words -/
noncomputable def wordPy : Nat → PyData
  | 0 => .str "no"
  | 1 => .str "maybe"
  | _ => .str "yes"
theorem words_py : ∀ (l : List Nat), toPys (l.map wordV) = some (l.map wordPy) ∧ PyData.canLayAll0 (l.map wordPy) = true ∧ PyData.depthAll (l.map wordPy) = 0 ∧ ((l.map wordPy).any fun y => PyData.eqv y (.str "yes")) = l.any fun f => decide (2 ≤ f)
  | [] => ⟨rfl, rfl, rfl, rfl⟩
  | f :: r => by
    obtain ⟨h1, h2, h3, h4⟩ := words_py r
    have k : toPy (wordV f) = some (wordPy f) ∧ PyData.canLay0 (wordPy f) = true ∧ PyData.depth (wordPy f) = 0 ∧ PyData.eqv (wordPy f) (.str "yes") = decide (2 ≤ f) := by
      match f with
      | 0 => exact ⟨rfl, by kernel_rfl, rfl, by kernel_rfl⟩
      | 1 => exact ⟨rfl, by kernel_rfl, rfl, by kernel_rfl⟩
      | f + 2 => exact ⟨rfl, by kernel_rfl, rfl, by rw [decide_eq_true (by omega)]; kernel_rfl⟩
    obtain ⟨k1, k2, k3, k4⟩ := k
    refine ⟨?_, ?_, ?_, ?_⟩
    · rw [List.map_cons, toPys, k1, h1]; rfl
    · rw [List.map_cons, PyData.canLayAll0, k2, h2]; rfl
    · rw [List.map_cons, PyData.depthAll, k3, h3]; rfl
    · rw [List.map_cons, List.any_cons, List.any_cons, h4, k4]
theorem yes_in (l : List Nat) : inF (.str "yes") (.lst (l.map wordV)) = some (l.any fun f => decide (2 ≤ f)) := by
  obtain ⟨h1, h2, h3, h4⟩ := words_py l
  show bnd (toPys (l.map wordV)) _ = _
  rw [h1]
  show (if PyData.canLayAll0 (l.map wordPy) && PyData.canLay0 (.str "yes") && decide (PyData.depthAll (l.map wordPy) ≤ 60) then some ((l.map wordPy).any fun y => PyData.eqv y (.str "yes")) else none) = _
  rw [h2, h3, h4]
  have : PyData.canLay0 (.str "yes") = true := by kernel_rfl
  rw [this]; rfl
theorem any_max : ∀ (l : List Nat) (m : Nat), (∀ x ∈ l, x = 1 ∨ x = 2) → (m = 1 ∨ m = 2) → l.foldl max m = if (l.any fun f => decide (2 ≤ f)) || decide (2 ≤ m) then 2 else 1
  | [], m, _, hm => by rcases hm with rfl | rfl <;> rfl
  | x :: r, m, h, hm => by
    have hx := h x (.head _)
    rw [List.foldl_cons, any_max r (max m x) (fun y hy => h y (.tail _ hy)) (by omega), List.any_cons]
    rcases hx with rfl | rfl <;> rcases hm with rfl | rfl <;> simp
theorem max_word (l : List Nat) (h : ∀ x ∈ l, x = 1 ∨ x = 2) (hn : l ≠ []) : maxN l = if (l.any fun f => decide (2 ≤ f)) then 2 else 1 := by
  cases l with
  | nil => exact absurd rfl hn
  | cons x r =>
    have hx := h x (.head _)
    show r.foldl max (max 0 x) = _
    rw [Nat.zero_max, any_max r x (fun y hy => h y (.tail _ hy)) hx, List.any_cons, Bool.or_comm]
/-! answer_of -/
noncomputable def aoC : Expr := match valE (at_ (fM "answer_of").body 6) with | .IfExp (.Compare _ _ (e :: _) _) _ _ _ => e | _ => .Name "" default
noncomputable abbrev SAo (vars : List (Str × AV)) (ow : List AO) : AS := ⟨cSc aoC, vars, ow⟩
section
variable {bk : List Rw} {bd : Bd} {a : Bool} {t : Ty} {dp : Int}
noncomputable abbrev Ao0 (bk : List Rw) (bd : Bd) (a : Bool) (t : Ty) (dp : Int) : List (Str × AV) := [("self", selA bk bd 0), ("trait", .fz (trV a)), ("args", .fz (.tup [])), ("T", .fz (tyV t)), ("deep", .fz (.int dp))]
theorem word_loop (n : Nat) {o o2 : AO} : ∀ (rs : List RwS) (acc : List FV), acc.length + rs.length ≤ 1000 →
    loopC (run tb1 (n + 20)) (compI (run tb1 (n + 20)) (cElt aoC) []) (cTgt aoC) [] 0 2 (rs.map prV) acc (SAo [] [o, o2]) = some (acc ++ rs.map fun r => wordV r.1, SAo [] [o, o2]) := by
  intro rs
  induction rs with
  | nil => intro acc _; simp [loopC]
  | cons r rest ih =>
    intro acc hl
    rw [List.length_cons] at hl
    rw [List.map_cons, List.map_cons]
    refine K_cons (σ1 := SAo [("answer", .fz (wordV r.1)), ("number", .fz (.int r.2.1)), ("found", .fz (dicV r.2.2))] [o, o2]) (σ2 := SAo [("answer", .fz (wordV r.1)), ("number", .fz (.int r.2.1)), ("found", .fz (dicV r.2.2))] [o, o2]) (σ3 := SAo [("answer", .fz (wordV r.1)), ("number", .fz (.int r.2.1)), ("found", .fz (dicV r.2.2))] [o, o2]) (σ4 := SAo [] [o, o2]) (acc' := acc ++ [wordV r.1]) (by kernel_rfl) (by kernel_rfl)
      (K_elt (t := wordV r.1) (v := .fz (wordV r.1)) (ow' := [o, o2]) (σ1 := SAo [("answer", .fz (wordV r.1)), ("number", .fz (.int r.2.1)), ("found", .fz (dicV r.2.2))] [o, o2]) (by kernel_rfl) (by kernel_rfl) (by omega)) (by kernel_rfl) ?_
    rw [ih (acc ++ [wordV r.1]) (by rw [List.length_append]; simp; omega), List.append_assoc]; rfl
theorem answerC (n : Nat) (hb : bk.length ≤ 5) {A : Bool → Lf → Nat} {P : AO → Prop} (hA : ∀ b l, A b l ≤ 2) (H : (∀ l, t ≠ .lf l) → Table (n + 59) bk bd dp A P) {o : AO} (hP : P o) :
    ∃ o', P o' ∧ clStep tb1 (run tb1 (n + 68)) 146 [selA bk bd 0, .fz (trV a), .fz (.tup []), .fz (tyV t), .fz (.int dp)] [o] = some (.fz (wordV (ansS A bk bd a t)), [o']) := by
  have cc : ∀ (o' : AO) (v : AV) (σ' : AS), (run tb1 (n + 68)).ex (fM "answer_of").body (SM "answer_of" (Ao0 bk bd a t dp) [o]) = some (.ret v, σ') → v = .fz (wordV (ansS A bk bd a t)) → σ'.ow.take 1 = [o'] → clStep tb1 (run tb1 (n + 68)) 146 [selA bk bd 0, .fz (trV a), .fz (.tup []), .fz (tyV t), .fz (.int dp)] [o] = some (.fz (wordV (ansS A bk bd a t)), [o']) := fun o' v σ' hx hv ho => by
    subst hv
    refine C_call (f := fM "answer_of") (by kernel_rfl) (bs := Ao0 bk bd a t dp) (by kernel_rfl) hx ?_
    show some (AV.fz _, σ'.ow.take 1) = _
    rw [ho]
  have t0 : test (run tb1 (n + 67)) (valE (at_ (fM "answer_of").body 0)) (SM "answer_of" (Ao0 bk bd a t dp) [o]) = some (isX t && inBd bd a, SM "answer_of" (Ao0 bk bd a t dp) [o]) := by
    refine T_cmp (a := .fz (bndV bd a t)) (b := .fz .none) (σ1 := SM "answer_of" (Ao0 bk bd a t dp) [o]) (by rfl) (E_meth (f := 122) (ov := selA bk bd 0) (vs := [.fz (trV a), .fz (tyV t)]) (σ1 := SM "answer_of" (Ao0 bk bd a t dp) [o]) (σ2 := SM "answer_of" (Ao0 bk bd a t dp) [o]) (by kernel_rfl) (by rfl) (by kernel_rfl) (by kernel_rfl) (by kernel_rfl) (L_call (by rfl) (os := [o]) (os' := [o]) (t := bndV bd a t) (by kernel_rfl) (boundC (n + 25) o) (by rfl) (by kernel_rfl))) (by kernel_rfl) ?_
    unfold bndV
    cases isX t && inBd bd a <;> rfl
  have t1 : test (run tb1 (n + 67)) (valE (at_ (fM "answer_of").body 1)) (SM "answer_of" (Ao0 bk bd a t dp) [o]) = some (isVr t, SM "answer_of" (Ao0 bk bd a t dp) [o]) := by
    rcases t with (_ | _ | _ | _) | l | ⟨l, r⟩ <;> kernel_rfl
  by_cases h0 : (isX t && inBd bd a) = true
  · exact ⟨o, hP, cc o (.fz (.str "yes")) (SM "answer_of" (Ao0 bk bd a t dp) [o]) (X_ret (X_ifT t0 h0 (X_ret (X_return (by kernel_rfl))))) (by rw [ansS, if_pos h0]; rfl) rfl⟩
  · by_cases h1 : isVr t = true
    · exact ⟨o, hP, cc o (.fz (.str "maybe")) (SM "answer_of" (Ao0 bk bd a t dp) [o]) (X_next (X_ifF t0 (Bool.eq_false_iff.mpr h0) rfl) (X_ret (X_ifT t1 h1 (X_ret (X_return (by kernel_rfl)))))) (by rw [ansS, if_neg h0, if_pos h1]; rfl) rfl⟩
    · obtain ⟨o', hP', ec⟩ := candC (a := a) n hb hA H hP
      refine ⟨o', hP', ?_⟩
      have hw : ansS A bk bd a t = maxN ((rowsP A a t 0 bk).map (·.1)) := by rw [ansS, if_neg h0, if_neg h1, rowsP_fst]
      have hl := rowsP_length A a t 0 bk
      have hfit := rowsP_fit A a t 0 bk
      rw [hw] at cc ⊢
      generalize rowsP A a t 0 bk = rs at ec cc hl hfit
      have s2 : exStep tb1 (run tb1 (n + 67)) (at_ (fM "answer_of").body 2) (SM "answer_of" (Ao0 bk bd a t dp) [o]) = some (.next, SM "answer_of" (Ao0 bk bd a t dp ++ vl [("parts", .fz .none)]) [o]) := by
        cases a <;> kernel_rfl
      have s3 : exStep tb1 (run tb1 (n + 67)) (at_ (fM "answer_of").body 3) (SM "answer_of" (Ao0 bk bd a t dp ++ vl [("parts", .fz .none)]) [o]) = some (.next, SM "answer_of" (Ao0 bk bd a t dp ++ vl [("parts", .fz .none)]) [o]) := by kernel_rfl
      have s4 : exStep tb1 (run tb1 (n + 67)) (at_ (fM "answer_of").body 4) (SM "answer_of" (Ao0 bk bd a t dp ++ vl [("parts", .fz .none)]) [o]) = some (.next, SM "answer_of" (Ao0 bk bd a t dp ++ vl [("parts", .fz .none), ("rows", .fz (.lst (rs.map prV)))]) [o']) := by
        refine X_asg (u := .fz (.lst (rs.map prV))) (σ1 := SM "answer_of" (Ao0 bk bd a t dp ++ vl [("parts", .fz .none)]) [o']) (E_meth (f := 134) (ov := selA bk bd 0) (vs := [.fz (trV a), .fz (.tup []), .fz (tyV t), .fz (.int dp)]) (σ1 := SM "answer_of" (Ao0 bk bd a t dp ++ vl [("parts", .fz .none)]) [o]) (σ2 := SM "answer_of" (Ao0 bk bd a t dp ++ vl [("parts", .fz .none)]) [o]) (by kernel_rfl) (by rfl) (by kernel_rfl) (by kernel_rfl) (by kernel_rfl) ?_) (by kernel_rfl) (by rfl)
        exact L_call (by rfl) (os := [o]) (os' := [o']) (t := .lst (rs.map prV)) (by kernel_rfl) ec (by rfl) (by kernel_rfl)
      have goOn : ∀ (v : AV) (σ' : AS), (run tb1 (n + 68)).ex ((fM "answer_of").body.drop 5) (SM "answer_of" (Ao0 bk bd a t dp ++ vl [("parts", .fz .none), ("rows", .fz (.lst (rs.map prV)))]) [o']) = some (.ret v, σ') → (run tb1 (n + 68)).ex (fM "answer_of").body (SM "answer_of" (Ao0 bk bd a t dp) [o]) = some (.ret v, σ') := fun v σ' h =>
        X_next (X_ifF t0 (Bool.eq_false_iff.mpr h0) rfl) (X_next (X_ifF t1 (Bool.eq_false_iff.mpr h1) rfl) (X_next s2 (X_next s3 (X_next s4 h))))
      cases hrs : rs with
      | nil =>
        subst hrs
        exact cc o' (.fz (.str "no")) (SM "answer_of" (Ao0 bk bd a t dp ++ vl [("parts", .fz .none), ("rows", .fz (.lst []))]) [o', .lst []]) (goOn _ _ (X_ret (X_ifT (c := true) (σ1 := SM "answer_of" (Ao0 bk bd a t dp ++ vl [("parts", .fz .none), ("rows", .fz (.lst []))]) [o', .lst []]) (by kernel_rfl) rfl (X_ret (X_return (by kernel_rfl)))))) rfl rfl
      | cons r0 rest =>
        have hne : rs.map (·.1) ≠ [] := by rw [hrs]; simp
        have hm := max_word (rs.map (·.1)) (fun x hx => by
          obtain ⟨r, hr, rfl⟩ := List.mem_map.mp hx
          exact hfit r hr) hne
        rw [← hrs]
        have t5 : test (run tb1 (n + 67)) (valE (at_ (fM "answer_of").body 5)) (SM "answer_of" (Ao0 bk bd a t dp ++ vl [("parts", .fz .none), ("rows", .fz (.lst (rs.map prV)))]) [o']) = some (false, SM "answer_of" (Ao0 bk bd a t dp ++ vl [("parts", .fz .none), ("rows", .fz (.lst (rs.map prV)))]) [o', .lst []]) := by
          rw [hrs]; kernel_rfl
        have t6 : test (run tb1 (n + 66)) (match valE (at_ (fM "answer_of").body 6) with | .IfExp c _ _ _ => c | e => e) (SM "answer_of" (Ao0 bk bd a t dp ++ vl [("parts", .fz .none), ("rows", .fz (.lst (rs.map prV)))]) [o', .lst []]) = some ((rs.map (·.1)).any fun f => decide (2 ≤ f), SM "answer_of" (Ao0 bk bd a t dp ++ vl [("parts", .fz .none), ("rows", .fz (.lst (rs.map prV)))]) [o', .lst [], .lst (rs.map fun r => wordV r.1)]) := by
          refine T_cmp (a := .fz (.str "yes")) (b := .loc 2) (σ1 := SM "answer_of" (Ao0 bk bd a t dp ++ vl [("parts", .fz .none), ("rows", .fz (.lst (rs.map prV)))]) [o', .lst []]) (by rfl) (by kernel_rfl) (E_comp (K_comp (c0 := []) (vs := []) (xs := rs.map prV) (ys := rs.map fun r => wordV r.1) (σ1 := SM "answer_of" (Ao0 bk bd a t dp ++ vl [("parts", .fz .none), ("rows", .fz (.lst (rs.map prV)))]) [o', .lst []]) (σ2 := SAo [] [o', .lst []]) (by kernel_rfl) (by kernel_rfl) (iter_name (v := .fz (.lst (rs.map prV))) (σ1 := SM "answer_of" (Ao0 bk bd a t dp ++ vl [("parts", .fz .none), ("rows", .fz (.lst (rs.map prV)))]) [o', .lst []]) (by kernel_rfl) (iterV_list (ow' := [o', .lst []]) (by kernel_rfl) (by rw [List.length_map]; omega) rfl)) (by kernel_rfl) ?_ (by rw [List.length_map]; omega) (by kernel_rfl))) ?_
          · have := word_loop (n + 45) (o := o') (o2 := .lst []) rs [] (by simp; omega)
            rw [List.nil_append] at this
            exact this
          · show inF (.str "yes") (.lst (rs.map fun r => wordV r.1)) = _
            rw [← yes_in, List.map_map]; rfl
        by_cases hy : ((rs.map (·.1)).any fun f => decide (2 ≤ f)) = true
        · rw [hm, if_pos hy] at cc ⊢
          exact cc o' (.fz (.str "yes")) (SM "answer_of" (Ao0 bk bd a t dp ++ vl [("parts", .fz .none), ("rows", .fz (.lst (rs.map prV)))]) [o', .lst [], .lst (rs.map fun r => wordV r.1)]) (goOn _ _ (X_next (X_ifF t5 rfl rfl) (X_ret (X_return (E_ifT t6 hy (by kernel_rfl)))))) rfl rfl
        · rw [hm, if_neg hy] at cc ⊢
          exact cc o' (.fz (.str "maybe")) (SM "answer_of" (Ao0 bk bd a t dp ++ vl [("parts", .fz .none), ("rows", .fz (.lst (rs.map prV)))]) [o', .lst [], .lst (rs.map fun r => wordV r.1)]) (goOn _ _ (X_next (X_ifF t5 rfl rfl) (X_ret (X_return (E_ifF t6 (Bool.eq_false_iff.mpr hy) (by kernel_rfl)))))) rfl rfl
end
end Xm

open PySem PySem.W PySem.Calls PyProof.Rows PySem.Spec
namespace Xm
noncomputable def keyV (p : Bool × Lf) : FV := .tup [trV p.1, .tup [], lfV p.2]
noncomputable def lfN : Lf → Nat
  | .u => 0 | .b => 1 | .x => 2 | .v => 3
noncomputable def keyEq (p q : Bool × Lf) : Bool := p.1 == q.1 && lfN p.2 == lfN q.2
theorem keyEq_eq {p q : Bool × Lf} (h : keyEq p q = true) : p = q := by
  obtain ⟨a, l⟩ := p
  obtain ⟨b, r⟩ := q
  cases a <;> cases b <;> cases l <;> cases r <;> first | rfl | cases h
theorem keyEq_self (p : Bool × Lf) : keyEq p p = true := by
  obtain ⟨a, l⟩ := p
  cases a <;> cases l <;> rfl
theorem sameF_key (p q : Bool × Lf) : sameF (keyV p) (keyV q) = keyEq p q := by
  obtain ⟨a, l⟩ := p
  obtain ⟨b, r⟩ := q
  cases a <;> cases b <;> cases l <;> cases r <;> kernel_rfl
noncomputable def allK : List (Bool × Lf) := [(false, .u), (false, .b), (false, .x), (false, .v), (true, .u), (true, .b), (true, .x), (true, .v)]
theorem mem_allK (p : Bool × Lf) : p ∈ allK := by
  obtain ⟨a, l⟩ := p
  cases a <;> cases l <;> simp [allK]
theorem filter_le {α : Type} {l : List α} {p q : α → Bool} (h : ∀ x, p x = true → q x = true) : (l.filter p).length ≤ (l.filter q).length := by
  induction l with
  | nil => exact Nat.le_refl _
  | cons x r ih =>
    rw [List.filter_cons, List.filter_cons]
    by_cases hp : p x = true
    · rw [if_pos hp, if_pos (h x hp)]; simpa using ih
    · rw [if_neg hp]
      split
      · rw [List.length_cons]; omega
      · exact ih
theorem filter_lt {α : Type} {l : List α} {p q : α → Bool} (h : ∀ x, p x = true → q x = true) {y : α} (hy : y ∈ l) (hq : q y = true) (hp : p y = false) : (l.filter p).length < (l.filter q).length := by
  induction l with
  | nil => cases hy
  | cons x r ih =>
    rw [List.filter_cons, List.filter_cons]
    rcases List.mem_cons.mp hy with rfl | hy
    · rw [hp, hq]
      have := filter_le (l := r) h
      simp only [Bool.false_eq_true, if_false, if_true, List.length_cons]; omega
    · have := ih hy
      by_cases hpx : p x = true
      · rw [if_pos hpx, if_pos (h x hpx), List.length_cons, List.length_cons]; omega
      · rw [if_neg hpx]
        split
        · rw [List.length_cons]; omega
        · exact this
theorem lookK_snoc (es : List (FV × FV)) (k v x : FV) : lookK (es ++ [(k, v)]) x = match lookK es x with | some y => some y | none => if sameF k x then some v else none := by
  induction es with
  | nil => rfl
  | cons p r ih =>
    obtain ⟨k', v'⟩ := p
    rw [List.cons_append, lookK, lookK, ih]
    by_cases h : sameF k' x = true
    · simp [h]
    · simp [h]
/-- what is known so far -/
structure TabInv (bk : List Rw) (bd : Bd) (es : List (FV × FV)) : Prop where
  ok : ∀ p ∈ es, ∃ q, p = (keyV q, wordV (ansL bk bd q.1 q.2))
  few : es.length + (allK.filter fun q => (lookK es (keyV q)).isNone).length ≤ 8
theorem TabInv.nil (bk : List Rw) (bd : Bd) : TabInv bk bd [] := ⟨fun p h => (by cases h), by simp [lookK, allK]⟩
theorem TabInv.look {bk : List Rw} {bd : Bd} {es : List (FV × FV)} (T : TabInv bk bd es) {q : Bool × Lf} {v : FV} (h : lookK es (keyV q) = some v) : v = wordV (ansL bk bd q.1 q.2) := by
  have ok := T.ok
  clear T
  induction es with
  | nil => cases h
  | cons p r ih =>
    obtain ⟨k, w⟩ := p
    obtain ⟨q', e⟩ := ok (k, w) (.head _)
    cases e
    rw [lookK, sameF_key] at h
    split at h
    · rename_i hk
      cases h
      rw [keyEq_eq hk]
    · exact ih h fun p hp => ok p (.tail _ hp)
theorem TabInv.snoc {bk : List Rw} {bd : Bd} {es : List (FV × FV)} (T : TabInv bk bd es) {q : Bool × Lf} (h : lookK es (keyV q) = none) : TabInv bk bd (es ++ [(keyV q, wordV (ansL bk bd q.1 q.2))]) := by
  refine ⟨fun p hp => ?_, ?_⟩
  · rcases List.mem_append.mp hp with hp | hp
    · exact T.ok p hp
    · rw [List.mem_singleton] at hp; exact ⟨q, hp⟩
  · have := T.few
    have lt := filter_lt (l := allK) (p := fun x => (lookK (es ++ [(keyV q, wordV (ansL bk bd q.1 q.2))]) (keyV x)).isNone) (q := fun x => (lookK es (keyV x)).isNone) (fun x hx => by
      rw [lookK_snoc] at hx
      cases e : lookK es (keyV x) with
      | none => rfl
      | some y => rw [e] at hx; cases hx) (mem_allK q) (by rw [h]; rfl) (by rw [lookK_snoc, h, sameF_key, keyEq_self]; rfl)
    rw [List.length_append, List.length_singleton]; omega
theorem TabInv.length {bk : List Rw} {bd : Bd} {es : List (FV × FV)} (T : TabInv bk bd es) : es.length ≤ 8 := by have := T.few; omega
/-- the place of a table -/
noncomputable def kp : List (FV × FV) → AO
  | [] => .dic []
  | e :: r => .kno (e :: r)
noncomputable def TabP (bk : List Rw) (bd : Bd) (o : AO) : Prop := ∃ es, o = kp es ∧ TabInv bk bd es

theorem X_store {ih : Ih} {f : Expr} {args : List Expr} {kw : List Keyword} {es : List Expr} {kk : Nat} {o : Expr} {p1 p2 p3 p4 : Pos} {σ σ1 σ2 σ3 σ4 : AS} {v ov iv : AV} (h1 : ih.ev (.Call f args kw p1) σ = some (v, σ1)) (h2 : ih.ev o σ1 = some (ov, σ2)) (h3 : ih.ev (.Tuple es kk p2) σ2 = some (iv, σ3)) (h4 : storeAt ov iv v σ3 = some σ4) :
    exStep tb1 ih (.Assign [.Subscript o (.Tuple es kk p2) p3] (.Call f args kw p1) p4) σ = some (.next, σ4) := by
  show bnd (ih.ev (.Call f args kw p1) σ) _ = _
  rw [h1]; show bnd (ih.ev o σ1) _ = _
  rw [h2]; show bnd (ih.ev (.Tuple es kk p2) σ2) _ = _
  rw [h3]; show bnd (storeAt ov iv v σ3) _ = _
  rw [h4]; rfl
section
variable {bk : List Rw} {bd : Bd}
noncomputable abbrev K0 (bk : List Rw) (bd : Bd) (a : Bool) (l : Lf) : List (Str × AV) := [("self", selA bk bd 0), ("trait", .fz (trV a)), ("args", .fz (.tup [])), ("T", .fz (lfV l)), ("deep", .fz (.int 1))]
theorem isKey_key (a : Bool) (l : Lf) : isKey (keyV (a, l)) = true := by cases a <;> cases l <;> rfl
theorem askedC (n : Nat) (hb : bk.length ≤ 5) : Table (n + 72) bk bd 0 (ansL bk bd) (TabP bk bd) := by
  intro o hP a l
  obtain ⟨es, rfl, T⟩ := hP
  have w0 : wordV (ansL bk bd a l) = wordV (ansL bk bd (a, l).1 (a, l).2) := rfl
  obtain ⟨o1, ho1, ea⟩ := answerC (bk := bk) (bd := bd) (a := a) (t := .lf l) (dp := 1) n hb (A := fun _ _ => 0) (P := fun o' => o' = kp es) (fun _ _ => by omega) (fun h => absurd rfl (h l)) (o := kp es) rfl
  subst ho1
  have s0 : exStep tb1 (run tb1 (n + 71)) (at_ (fM "asked").body 0) (SM "asked" (K0 bk bd a l) [kp es]) = some (.next, SM "asked" (K0 bk bd a l) [kp es]) := by kernel_rfl
  have t1 : test (run tb1 (n + 71)) (valE (at_ (fM "asked").body 1)) (SM "asked" (K0 bk bd a l) [kp es]) = some (!(lookK es (keyV (a, l))).isSome, SM "asked" (K0 bk bd a l) [kp es]) := by
    cases es with
    | nil => cases a <;> cases l <;> kernel_rfl
    | cons e r => cases a <;> cases l <;> kernel_rfl
  have fin : ∀ es', (lookK es' (keyV (a, l)) = some (wordV (ansL bk bd a l))) → exStep tb1 (run tb1 (n + 71)) (at_ (fM "asked").body 2) (SM "asked" (K0 bk bd a l) [kp es']) = some (.ret (.fz (wordV (ansL bk bd a l))), SM "asked" (K0 bk bd a l) [kp es']) := fun es' h => by
    cases es' with
    | nil => cases h
    | cons e r =>
      refine X_return (E_sub (by rfl) (a := .loc 0) (b := .fz (keyV (a, l))) (σ1 := SM "asked" (K0 bk bd a l) [kp (e :: r)]) (σ2 := SM "asked" (K0 bk bd a l) [kp (e :: r)]) (by kernel_rfl) (by kernel_rfl) ?_)
      show Option.map AV.fz (if isKey (keyV (a, l)) then lookK (e :: r) (keyV (a, l)) else none) = _
      rw [if_pos (isKey_key a l), h]; rfl
  cases hk : lookK es (keyV (a, l)) with
  | some v =>
    have hv := T.look hk
    refine ⟨kp es, ⟨es, rfl, T⟩, C_call (f := fM "asked") (by kernel_rfl) (bs := K0 bk bd a l) (by kernel_rfl) (v := .fz (wordV (ansL bk bd a l))) (σ' := SM "asked" (K0 bk bd a l) [kp es]) ?_ (by kernel_rfl)⟩
    exact X_next s0 (X_next (X_ifF t1 (by rw [hk]; rfl) rfl) (X_ret (fin es (by rw [hk, hv]))))
  | none =>
    have T' := T.snoc hk
    refine ⟨kp (es ++ [(keyV (a, l), wordV (ansL bk bd a l))]), ⟨_, rfl, T'⟩, C_call (f := fM "asked") (by kernel_rfl) (bs := K0 bk bd a l) (by kernel_rfl) (v := .fz (wordV (ansL bk bd a l))) (σ' := SM "asked" (K0 bk bd a l) [kp (es ++ [(keyV (a, l), wordV (ansL bk bd a l))])]) ?_ (by kernel_rfl)⟩
    refine X_next s0 (X_next (σ1 := SM "asked" (K0 bk bd a l) [kp (es ++ [(keyV (a, l), wordV (ansL bk bd a l))])]) (X_ifT t1 (by rw [hk]; rfl) (X_next (X_store (v := .fz (wordV (ansL bk bd a l))) (ov := .loc 0) (iv := .fz (keyV (a, l))) (σ1 := SM "asked" (K0 bk bd a l) [kp es]) (σ2 := SM "asked" (K0 bk bd a l) [kp es]) (σ3 := SM "asked" (K0 bk bd a l) [kp es]) ?_ (by kernel_rfl) (by kernel_rfl) ?_) rfl)) (X_ret (fin _ (by rw [lookK_snoc, hk, sameF_key, keyEq_self]; rfl))))
    · refine E_meth (f := 146) (ov := selA bk bd 0) (vs := [.fz (trV a), .fz (.tup []), .fz (lfV l), .fz (.int 1)]) (σ1 := SM "asked" (K0 bk bd a l) [kp es]) (σ2 := SM "asked" (K0 bk bd a l) [kp es]) (by kernel_rfl) (by rfl) (by kernel_rfl) (by kernel_rfl) (by kernel_rfl) ?_
      exact L_call (by rfl) (os := [kp es]) (os' := [kp es]) (t := wordV (ansL bk bd a l)) (by kernel_rfl) ea (by rfl) (by kernel_rfl)
    · cases es with
      | nil => cases a <;> cases l <;> rfl
      | cons e r =>
        have hlen := T.length
        show (if isKey (keyV (a, l)) && (lookK (e :: r) (keyV (a, l))).isNone && decide ((e :: r).length ≤ 1000) then _ else none) = _
        rw [isKey_key, hk, decide_eq_true (by omega)]; rfl
end
end Xm

open PySem PySem.W PySem.Calls PyProof.Rows PySem.Spec
namespace Xm
theorem K_inner {ih : Ih} {elt t it : Expr} {ifs : List Expr} {gs : List Comprehension} {acc xs : List FV} {σ σ1 σ2 : AS} {v : AV} {o : Option (List FV × AS)} (hs : isSetE it = false) (h1 : ih.ev it σ = some (v, σ1)) (h2 : iterV σ1 v = some (xs, σ2)) (h3 : loopC ih (compI ih elt gs) t ifs σ2.vars.length σ2.ow.length xs acc σ2 = o) :
    compI ih elt (⟨t, it, ifs, 0⟩ :: gs) acc σ = o := nO hs (bO h1 (bO h2 h3))
theorem E_cmp {n : Nat} {l r : Expr} {op : CmpOp} {p : Pos} {σ σ1 σ2 : AS} {a b : AV} {c : Bool} (hm : behindInMarks op r = false) (h1 : (run tb1 n).ev l σ = some (a, σ1)) (h2 : (run tb1 n).ev r σ1 = some (b, σ2)) (h3 : cmpA σ2.ow op a b = some c) : (run tb1 (n + 1)).ev (.Compare l [op] [r] p) σ = some (.fz (.bool c), σ2) := nO hm (bO h1 (bO h2 (bO h3 rfl)))
/-- the rows, with the way that made each -/
noncomputable abbrev RwW := Nat × Nat × Wy
noncomputable def rowsW (A : Bool → Lf → Nat) (a : Bool) (t : Ty) : Nat → List Rw → List RwW
  | _, [] => []
  | k, r :: rest => if r.1 = a ∧ 0 < rowFit A r.2 t then (rowFit A r.2 t, k, r.2) :: rowsW A a t (k + 1) rest else rowsW A a t (k + 1) rest
noncomputable def wP (t : Ty) (x : RwW) : RwS := (x.1, x.2.1, fndS x.2.2 t)
noncomputable def wS (t : Ty) (x : RwW) : RwS := (x.1, x.2.1, knoS x.2.2 t)
theorem rowsP_W (A : Bool → Lf → Nat) (a : Bool) (t : Ty) : ∀ (k : Nat) (b : List Rw), rowsP A a t k b = (rowsW A a t k b).map (wP t)
  | _, [] => rfl
  | k, r :: rest => by
    rw [rowsP, rowsW, rowsP_W A a t (k + 1) rest]
    split <;> rfl
theorem rowsS_W (A : Bool → Lf → Nat) (a : Bool) (t : Ty) : ∀ (k : Nat) (b : List Rw), rowsS A a t k b = (rowsW A a t k b).map (wS t)
  | _, [] => rfl
  | k, r :: rest => by
    rw [rowsS, rowsW, rowsS_W A a t (k + 1) rest]
    split <;> rfl
noncomputable def RowOk (bk : List Rw) (x : RwW) : Prop := (x.1 = 1 ∨ x.1 = 2) ∧ x.2.1 < 100 ∧ ∃ r, bk[x.2.1]? = some r ∧ r.2 = x.2.2
theorem rowsW_ok (A : Bool → Lf → Nat) (a : Bool) (t : Ty) : ∀ (b : List Rw) (k : Nat) (pre : List Rw), pre.length = k → k + b.length < 100 → ∀ x ∈ rowsW A a t k b, RowOk (pre ++ b) x
  | [], _, _, _, _, x, h => by cases h
  | r :: rest, k, pre, hk, hl, x, h => by
    rw [List.length_cons] at hl
    have next : ∀ x ∈ rowsW A a t (k + 1) rest, RowOk (pre ++ r :: rest) x := fun x hx => by
      have := rowsW_ok A a t rest (k + 1) (pre ++ [r]) (by simp [hk]) (by omega) x hx
      simpa using this
    rw [rowsW] at h
    split at h
    · rename_i hc
      rcases List.mem_cons.mp h with rfl | h
      · have := rowFit_le A r.2 t
        have := hc.2
        refine ⟨?_, ?_, r, ?_, rfl⟩
        · show rowFit A r.2 t = 1 ∨ rowFit A r.2 t = 2
          omega
        · show k < 100; omega
        · show (pre ++ r :: rest)[k]? = some r
          rw [List.getElem?_append_right (by omega), hk, Nat.sub_self]; rfl
      · exact next x h
    · exact next x h
theorem rowsW_length (A : Bool → Lf → Nat) (a : Bool) (t : Ty) (k : Nat) (b : List Rw) : (rowsW A a t k b).length ≤ b.length := by
  have := rowsP_length A a t k b
  rw [rowsP_W, List.length_map] at this
  exact this
theorem zipF_map {α : Type} (f g : α → FV) : ∀ (l : List α), zipF (l.map f) (l.map g) = l.map fun x => FV.tup [f x, g x]
  | [] => rfl
  | x :: r => by rw [List.map_cons, List.map_cons, zipF, zipF_map f g r]; rfl
/-- data that a comparison reads, small enough -/
noncomputable def Plain (x : FV) : Prop := ∃ d, toPy x = some d ∧ PyData.canLay0 d = true ∧ PyData.depth d ≤ 10
theorem plain_list : ∀ {l : List FV}, (∀ x ∈ l, Plain x) → ∃ ds, toPys l = some ds ∧ PyData.canLayAll0 ds = true ∧ PyData.depthAll ds ≤ 10
  | [], _ => ⟨[], rfl, rfl, by simp [PyData.depthAll]⟩
  | x :: r, h => by
    obtain ⟨d, h1, h2, h3⟩ := h x (.head _)
    obtain ⟨ds, k1, k2, k3⟩ := plain_list fun y hy => h y (.tail _ hy)
    refine ⟨d :: ds, by rw [toPys, h1, k1]; rfl, by rw [PyData.canLayAll0, h2, k2]; rfl, ?_⟩
    rw [PyData.depthAll]; omega
theorem eqF_lists {l : List FV} (h : ∀ x ∈ l, Plain x) : eqF (.lst l) (.lst l) = some true := by
  obtain ⟨ds, h1, h2, h3⟩ := plain_list h
  have e1 : toPy (.lst l) = some (.list ds) := by rw [toPy, h1]; rfl
  have e2 : SeqAt.shaped (.list ds) = true := by
    unfold SeqAt.shaped
    rw [PyData.canLay0, h2, PyData.depth, decide_eq_true (by omega)]; rfl
  show bnd (toPy (.lst l)) (fun x => bnd (toPy (.lst l)) _) = _
  rw [e1]
  show (if SeqAt.shaped (.list ds) && SeqAt.shaped (.list ds) then some (PyData.eqv (.list ds) (.list ds)) else none) = _
  rw [e2, SeqAt.eqv_refl (.list ds) (by rw [PyData.canLay0]; exact h2)]; rfl
theorem plain_pair (f k : Nat) : Plain (.tup [wordV f, .int k]) := by
  match f with
  | 0 => exact ⟨_, rfl, by kernel_rfl, by exact Nat.le_of_ble_eq_true rfl⟩
  | 1 => exact ⟨_, rfl, by kernel_rfl, by exact Nat.le_of_ble_eq_true rfl⟩
  | f + 2 => exact ⟨_, rfl, by kernel_rfl, by exact Nat.le_of_ble_eq_true rfl⟩
theorem plain_due (p : Bool × Lf) : Plain (dueLV p) := by
  obtain ⟨a, l⟩ := p
  cases a <;> cases l <;> exact ⟨_, rfl, by kernel_rfl, by exact Nat.le_of_ble_eq_true rfl⟩
theorem dic_eq (w : Wy) (t : Ty) : eqF (dicV (fndS w t)) (dicV (knoS w t)) = some true := by
  cases w with
  | w0 => rfl
  | w1 => rfl
  | w2 => rfl
  | w6 => rfl
  | w3 m => rcases t with l | (_ | _ | _ | _) | ⟨l, r⟩ <;> kernel_rfl
  | w4 m k => rcases t with l | l | ⟨_ | _ | _ | _, _ | _ | _ | _⟩ <;> kernel_rfl
  | w5 => rcases t with l | l | ⟨l, _ | _ | _ | _⟩ <;> kernel_rfl
  | w7 => rcases t with (_ | _ | _ | _) | (_ | _ | _ | _) | ⟨_ | _ | _ | _, _ | _ | _ | _⟩ <;> kernel_rfl
/-! the comprehensions of _law_asked_right -/
noncomputable def arB : List Stmt := (fF "_law_asked_right").body
noncomputable def arL : Expr := match valE (at_ arB 4) with | .Compare l _ _ _ => l | e => e
noncomputable def arR : Expr := match valE (at_ arB 4) with | .Compare _ _ (r :: _) _ => r | e => e
noncomputable def arFor : Stmt := at_ arB 5
noncomputable def arD : Expr := valE (at_ (inn arFor) 1)
noncomputable abbrev SL (vars : List (Str × AV)) (ow : List AO) : AS := ⟨cSc arL, vars, ow⟩
noncomputable abbrev SR (vars : List (Str × AV)) (ow : List AO) : AS := ⟨cSc arR, vars, ow⟩
noncomputable abbrev SD (vars : List (Str × AV)) (ow : List AO) : AS := ⟨cSc arD, vars, ow⟩
noncomputable def words3 : List FV := [.str "no", .str "maybe", .str "yes"]
noncomputable def pairV (f k : Nat) : FV := .tup [wordV f, .int k]
theorem left_loop (n : Nat) {ow : List AO} (hk : ow.length = 4) : ∀ (rs : List RwS) (acc : List FV), acc.length + rs.length ≤ 1000 →
    loopC (run tb1 (n + 20)) (compI (run tb1 (n + 20)) (cElt arL) []) (cTgt arL) [] 0 4 (rs.map prV) acc (SL [] ow) = some (acc ++ rs.map fun r => pairV r.1 r.2.1, SL [] ow) := by
  match ow, hk with
  | [o1, o2, o3, o4], _ =>
    intro rs
    induction rs with
    | nil => intro acc _; simp [loopC]
    | cons r rest ih =>
      intro acc hl
      rw [List.length_cons] at hl
      rw [List.map_cons, List.map_cons]
      refine K_cons (σ1 := SL [("answer", .fz (wordV r.1)), ("number", .fz (.int r.2.1)), ("known", .fz (dicV r.2.2))] [o1, o2, o3, o4]) (σ2 := SL [("answer", .fz (wordV r.1)), ("number", .fz (.int r.2.1)), ("known", .fz (dicV r.2.2))] [o1, o2, o3, o4]) (σ3 := SL [("answer", .fz (wordV r.1)), ("number", .fz (.int r.2.1)), ("known", .fz (dicV r.2.2))] [o1, o2, o3, o4]) (σ4 := SL [] [o1, o2, o3, o4]) (acc' := acc ++ [pairV r.1 r.2.1]) (by kernel_rfl) (by kernel_rfl)
        (K_elt (t := pairV r.1 r.2.1) (v := .fz (pairV r.1 r.2.1)) (ow' := [o1, o2, o3, o4]) (σ1 := SL [("answer", .fz (wordV r.1)), ("number", .fz (.int r.2.1)), ("known", .fz (dicV r.2.2))] [o1, o2, o3, o4]) (by kernel_rfl) (by kernel_rfl) (by omega)) (by kernel_rfl) ?_
      rw [ih (acc ++ [pairV r.1 r.2.1]) (by rw [List.length_append]; simp; omega), List.append_assoc]; rfl
theorem right_loop (n : Nat) {o1 o2 o3 o5 : AO} : ∀ (rs : List RwS) (acc : List FV), acc.length + rs.length ≤ 1000 → (∀ r ∈ rs, r.1 = 1 ∨ r.1 = 2) →
    loopC (run tb1 (n + 20)) (compI (run tb1 (n + 20)) (cElt arR) []) (cTgt arR) [] 1 5 (rs.map rwV) acc (SR [("words", .loc 3)] [o1, o2, o3, .lst words3, o5]) = some (acc ++ rs.map fun r => pairV r.1 r.2.1, SR [("words", .loc 3)] [o1, o2, o3, .lst words3, o5]) := by
  intro rs
  induction rs with
  | nil => intro acc _ _; simp [loopC]
  | cons r rest ih =>
    intro acc hl hr
    rw [List.length_cons] at hl
    rw [List.map_cons, List.map_cons]
    refine K_cons (σ1 := SR [("words", .loc 3), ("fit", .fz (.int r.1)), ("number", .fz (.int r.2.1)), ("known", .fz (dicV r.2.2))] [o1, o2, o3, .lst words3, o5]) (σ2 := SR [("words", .loc 3), ("fit", .fz (.int r.1)), ("number", .fz (.int r.2.1)), ("known", .fz (dicV r.2.2))] [o1, o2, o3, .lst words3, o5]) (σ3 := SR [("words", .loc 3), ("fit", .fz (.int r.1)), ("number", .fz (.int r.2.1)), ("known", .fz (dicV r.2.2))] [o1, o2, o3, .lst words3, o5]) (σ4 := SR [("words", .loc 3)] [o1, o2, o3, .lst words3, o5]) (acc' := acc ++ [pairV r.1 r.2.1]) (by kernel_rfl) (by kernel_rfl)
      (K_elt (t := pairV r.1 r.2.1) (v := .fz (pairV r.1 r.2.1)) (ow' := [o1, o2, o3, .lst words3, o5]) (σ1 := SR [("words", .loc 3), ("fit", .fz (.int r.1)), ("number", .fz (.int r.2.1)), ("known", .fz (dicV r.2.2))] [o1, o2, o3, .lst words3, o5]) ?_ (by kernel_rfl) (by omega)) (by kernel_rfl) ?_
    · have := hr r (.head _)
      obtain ⟨f, k, d⟩ := r
      dsimp only at this
      rcases this with rfl | rfl <;> kernel_rfl
    · rw [ih (acc ++ [pairV r.1 r.2.1]) (by rw [List.length_append]; simp; omega) (fun x hx => hr x (.tail _ hx)), List.append_assoc]; rfl
end Xm

open PySem PySem.W PySem.Calls PyProof.Rows PySem.Spec
namespace Xm
noncomputable def gTgt : Comprehension → Expr | ⟨t, _, _, _⟩ => t
noncomputable def gIfs : Comprehension → List Expr | ⟨_, _, i, _⟩ => i
noncomputable def cGs : Expr → List Comprehension
  | .ListComp _ g _ _ => g
  | _ => []
noncomputable def arDt : Expr := ((cGs arD)[1]?.map gTgt).getD arD
noncomputable def arDif : List Expr := ((cGs arD)[0]?.map gIfs).getD []
noncomputable def arDg : List Comprehension := (cGs arD).tail
theorem one_due (n : Nat) {fd : List (Str × Ty)} {x : Str} {t' : Ty} {ts0 : List Bool} {o1 o2 o3 o4 o5 o6 : AO} (hx : fd.lookup x = some t') : ∀ (ts : List Bool) (acc : List FV), acc.length + ts.length ≤ 1000 →
    loopC (run tb1 (n + 20)) (compI (run tb1 (n + 20)) (cElt arD) []) arDt [] 3 6 (ts.map trV) acc (SD [("known", .fz (dicV fd)), ("name", .fz (.str x)), ("traits", .fz (.tup (ts0.map trV)))] [o1, o2, o3, o4, o5, o6]) =
      some (acc ++ ts.map fun b => dueV (b, t'), SD [("known", .fz (dicV fd)), ("name", .fz (.str x)), ("traits", .fz (.tup (ts0.map trV)))] [o1, o2, o3, o4, o5, o6]) := by
  intro ts
  induction ts with
  | nil => intro acc _; simp [loopC]
  | cons b rest ih =>
    intro acc hl
    rw [List.length_cons] at hl
    rw [List.map_cons, List.map_cons]
    refine K_cons (σ1 := SD [("known", .fz (dicV fd)), ("name", .fz (.str x)), ("traits", .fz (.tup (ts0.map trV))), ("one", .fz (trV b))] [o1, o2, o3, o4, o5, o6]) (σ2 := SD [("known", .fz (dicV fd)), ("name", .fz (.str x)), ("traits", .fz (.tup (ts0.map trV))), ("one", .fz (trV b))] [o1, o2, o3, o4, o5, o6]) (σ3 := SD [("known", .fz (dicV fd)), ("name", .fz (.str x)), ("traits", .fz (.tup (ts0.map trV))), ("one", .fz (trV b))] [o1, o2, o3, o4, o5, o6])
      (σ4 := SD [("known", .fz (dicV fd)), ("name", .fz (.str x)), ("traits", .fz (.tup (ts0.map trV)))] [o1, o2, o3, o4, o5, o6]) (acc' := acc ++ [dueV (b, t')]) (by kernel_rfl) (by kernel_rfl)
      (K_elt (t := dueV (b, t')) (v := .fz (dueV (b, t'))) (ow' := [o1, o2, o3, o4, o5, o6]) (σ1 := SD [("known", .fz (dicV fd)), ("name", .fz (.str x)), ("traits", .fz (.tup (ts0.map trV))), ("one", .fz (trV b))] [o1, o2, o3, o4, o5, o6]) ?_ (by kernel_rfl) (by omega)) (by kernel_rfl) ?_
    · refine E_tup (vs := [.fz (trV b), .fz (tyV t')]) (V_cons (σ1 := SD [("known", .fz (dicV fd)), ("name", .fz (.str x)), ("traits", .fz (.tup (ts0.map trV))), ("one", .fz (trV b))] [o1, o2, o3, o4, o5, o6]) (by rfl) (by kernel_rfl) (V_cons (by rfl) (E_sub (by rfl) (a := .fz (dicV fd)) (b := .fz (.str x)) (σ1 := SD [("known", .fz (dicV fd)), ("name", .fz (.str x)), ("traits", .fz (.tup (ts0.map trV))), ("one", .fz (trV b))] [o1, o2, o3, o4, o5, o6]) (σ2 := SD [("known", .fz (dicV fd)), ("name", .fz (.str x)), ("traits", .fz (.tup (ts0.map trV))), ("one", .fz (trV b))] [o1, o2, o3, o4, o5, o6]) (by kernel_rfl) (by kernel_rfl) ?_) V_nil)) (by simp)
      show ((fd.map fun p => (p.1, tyV p.2)).lookup x).map AV.fz = _
      rw [dic_lookup, hx]; rfl
    · rw [ih (acc ++ [dueV (b, t')]) (by rw [List.length_append]; simp; omega), List.append_assoc]; rfl
theorem all_due (n : Nat) {fd : List (Str × Ty)} {o1 o2 o3 o4 o5 o6 : AO} : ∀ (nd : List (Str × List Bool)) (acc : List FV), (∀ p ∈ nd, p.2.length ≤ 100) → acc.length + 100 * nd.length ≤ 1000 →
    loopC (run tb1 (n + 20)) (compI (run tb1 (n + 20)) (cElt arD) arDg) (cTgt arD) arDif 1 6 (nd.map ndF) acc (SD [("known", .fz (dicV fd))] [o1, o2, o3, o4, o5, o6]) = some (acc ++ (duesS fd nd).map dueV, SD [("known", .fz (dicV fd))] [o1, o2, o3, o4, o5, o6]) := by
  intro nd
  induction nd with
  | nil => intro acc _ _; simp [duesS, loopC]
  | cons p rest ih =>
    intro acc hp hl
    obtain ⟨x, ts⟩ := p
    have hts : ts.length ≤ 100 := hp _ (.head _)
    rw [List.length_cons] at hl
    have ht : tests (run tb1 (n + 20)) arDif (SD [("known", .fz (dicV fd)), ("name", .fz (.str x)), ("traits", .fz (.tup (ts.map trV)))] [o1, o2, o3, o4, o5, o6]) = some (((fd.map fun p => (p.1, tyV p.2)).lookup x).isSome, SD [("known", .fz (dicV fd)), ("name", .fz (.str x)), ("traits", .fz (.tup (ts.map trV)))] [o1, o2, o3, o4, o5, o6]) := by kernel_rfl
    rw [List.map_cons, duesS]
    rw [dic_lookup, Option.isSome_map] at ht
    cases hx : fd.lookup x with
    | none =>
      rw [hx] at ht
      dsimp only
      rw [List.nil_append]
      exact K_skip (σ1 := SD [("known", .fz (dicV fd)), ("name", .fz (.str x)), ("traits", .fz (.tup (ts.map trV)))] [o1, o2, o3, o4, o5, o6]) (by kernel_rfl) ht (by kernel_rfl) (ih acc (fun p h => hp p (.tail _ h)) (by omega))
    | some t' =>
      rw [hx] at ht
      dsimp only
      refine K_cons (σ1 := SD [("known", .fz (dicV fd)), ("name", .fz (.str x)), ("traits", .fz (.tup (ts.map trV)))] [o1, o2, o3, o4, o5, o6]) (σ3 := SD [("known", .fz (dicV fd)), ("name", .fz (.str x)), ("traits", .fz (.tup (ts.map trV)))] [o1, o2, o3, o4, o5, o6]) (σ4 := SD [("known", .fz (dicV fd))] [o1, o2, o3, o4, o5, o6]) (acc' := acc ++ ts.map fun b => dueV (b, t')) (by kernel_rfl) ht
        (K_inner (v := .fz (.tup (ts.map trV))) (xs := ts.map trV) (σ1 := SD [("known", .fz (dicV fd)), ("name", .fz (.str x)), ("traits", .fz (.tup (ts.map trV)))] [o1, o2, o3, o4, o5, o6]) (σ2 := SD [("known", .fz (dicV fd)), ("name", .fz (.str x)), ("traits", .fz (.tup (ts.map trV)))] [o1, o2, o3, o4, o5, o6]) (by rfl) (by kernel_rfl) (iterV_tup (ow' := [o1, o2, o3, o4, o5, o6]) (by kernel_rfl) (by rw [List.length_map]; omega) rfl) (one_due n hx ts acc (by omega))) (by kernel_rfl) ?_
      rw [ih (acc ++ ts.map fun b => dueV (b, t')) (fun p h => hp p (.tail _ h)) (by rw [List.length_append, List.length_map]; omega)]
      rw [List.map_append, List.map_map, List.append_assoc]; rfl
theorem iter_sub {ih : Ih} {t o i : Expr} {p : Pos} {σ σ1 σ2 : AS} {v : AV} {xs : List FV} (h : ih.ev (.Subscript o i p) σ = some (v, σ1)) (h2 : iterV σ1 v = some (xs, σ2)) : iterE tb1 ih t (.Subscript o i p) σ = some (xs, σ2) := I_ev rfl rfl h h2
section
variable (bk : List Rw) (bd : Bd) (a : Bool) (t : Ty)
noncomputable abbrev Q0 : List (Str × AV) := [("world", .fz (worldV bk)), ("book", .fz (bookV bk)), ("bounds", .fz (bdV bd)), ("trait", .fz (trV a)), ("T", .fz (tyV t)), ("selection", selA bk bd 2), ("words", .loc 3)]
noncomputable abbrev Qr (ws : List RwW) : List (Str × AV) := Q0 bk bd a t ++ vl [("rows", .fz (.lst (ws.map fun x => rwV (wS t x))))]
noncomputable abbrev Q1 (ws : List RwW) : List (Str × AV) := Q0 bk bd a t ++ vl [("rows", .fz (.lst (ws.map fun x => rwV (wS t x)))), ("told", .fz (.lst (ws.map fun x => prV (wP t x))))]
noncomputable abbrev Q2 (ws : List RwW) (x : RwW) : List (Str × AV) := Q0 bk bd a t ++ vl [("rows", .fz (.lst (ws.map fun x => rwV (wS t x)))), ("told", .fz (.lst (ws.map fun x => prV (wP t x)))), ("answer", .fz (wordV x.1)), ("number", .fz (.int x.2.1)), ("known", .fz (dicV (fndS x.2.2 t))), ("row", .fz (rwV (wS t x)))]
noncomputable abbrev Q3 (ws : List RwW) (x : RwW) : List (Str × AV) := Q0 bk bd a t ++ vl [("rows", .fz (.lst (ws.map fun x => rwV (wS t x)))), ("told", .fz (.lst (ws.map fun x => prV (wP t x)))), ("answer", .fz (wordV x.1)), ("number", .fz (.int x.2.1)), ("known", .fz (dicV (fndS x.2.2 t))), ("row", .fz (rwV (wS t x))), ("due", .loc 6)]
noncomputable abbrev QO (o : AO) (L : List FV) : List AO := [.fz (.dic [("X", bdV bd)]), .obj, o, .lst words3, .lst L, .lst L]
variable {bk bd a t}
theorem ar_turn (n : Nat) {ws : List RwW} {x : RwW} (hx : RowOk bk x) {o : AO} {L : List FV} :
    ∃ σ', (run tb1 (n + 60)).ex (inn arFor) (S "_law_asked_right" (Q2 bk bd a t ws x) (QO bd o L)) = some (.next, σ') ∧ cut 9 6 σ' = some (S "_law_asked_right" (Q1 bk bd a t ws) (QO bd o L)) := by
  obtain ⟨hf, hk, r, hr, hw⟩ := hx
  obtain ⟨f, k, w⟩ := x
  dsimp only at hf hk hr hw
  subst hw
  obtain ⟨h1, h2⟩ := ndL_small r.2
  have hrow : (bk.map rowV)[k]? = some (rowV r) := by rw [List.getElem?_map, hr]; rfl
  have himpl : ∀ (b : List Rw) (j i : Nat) (r : Rw), b[i]? = some r → (implsV j b)[i]? = some (implV (j + i) r) := by
    intro b
    induction b with
    | nil => intro j i r h; cases h
    | cons y ys ih =>
      intro j i r h
      cases i with
      | zero => cases h; rfl
      | succ i =>
        have := ih (j + 1) i r (by simpa using h)
        rw [implsV, List.getElem?_cons_succ, this]
        congr 2; omega
  have himp : (implsV 0 bk)[k]? = some (implV k r) := by have := himpl bk 0 k r hr; rwa [Nat.zero_add] at this
  have hdl := dues_eq r.2 t
  have hn := needsC (bk := bk) (bd := bd) (n + 16) k r (fndS r.2 t) o
  have hd := all_due (n + 39) (fd := fndS r.2 t) (o1 := .fz (.dic [("X", bdV bd)])) (o2 := .obj) (o3 := o) (o4 := .lst words3) (o5 := .lst L) (o6 := .lst L) (ndL r.2) [] h2 (by simp; omega)
  rw [hdl, List.map_map] at hn hd
  rw [List.nil_append] at hd
  have hn : clStep tb1 (run tb1 (n + 57)) 127 [selA bk bd 0, .fz (implV k r), .fz (dicV (fndS r.2 t))] [o] = some (.fz (.lst ((dueL r.2 t).map dueLV)), [o]) := hn
  have hd : loopC (run tb1 (n + 59)) (compI (run tb1 (n + 59)) (cElt arD) arDg) (cTgt arD) arDif 1 6 ((ndL r.2).map ndF) [] (SD [("known", .fz (dicV (fndS r.2 t)))] (QO bd o L)) = some ((dueL r.2 t).map dueLV, SD [("known", .fz (dicV (fndS r.2 t)))] (QO bd o L)) := hd
  have hlen : (dueL r.2 t).length ≤ 1000 := by
    have hm : ∀ m : Mn, (mnL m).length ≤ 2 := fun m => by cases m <;> simp [mnL]
    cases r.2 with
    | w3 m => cases t <;> simp [dueL]; have := hm m; omega
    | w4 m k => cases t <;> simp [dueL]; have := hm m; have := hm k; omega
    | _ => cases t <;> simp [dueL]
  generalize hD : (dueL r.2 t).map dueLV = D at hn hd
  have hDl : D.length ≤ 1000 := by rw [← hD, List.length_map]; exact hlen
  have hDe : eqF (.lst D) (.lst D) = some true := eqF_lists fun y hy => by
    rw [← hD] at hy
    obtain ⟨p, _, rfl⟩ := List.mem_map.mp hy
    exact plain_due p
  have s0 : exStep tb1 (run tb1 (n + 59)) (at_ (inn arFor) 0) (S "_law_asked_right" (Q2 bk bd a t ws (f, k, r.2)) (QO bd o L)) = some (.next, S "_law_asked_right" (Q2 bk bd a t ws (f, k, r.2)) (QO bd o L)) := by
    refine X_ifF (c := false) (σ1 := S "_law_asked_right" (Q2 bk bd a t ws (f, k, r.2)) (QO bd o L)) (T_cmp (a := .fz (dicV (fndS r.2 t))) (b := .fz (dicV (knoS r.2 t))) (σ1 := S "_law_asked_right" (Q2 bk bd a t ws (f, k, r.2)) (QO bd o L)) (by rfl) (by kernel_rfl) (by kernel_rfl) ?_) rfl rfl
    show (eqF (dicV (fndS r.2 t)) (dicV (knoS r.2 t))).map (!·) = _
    rw [dic_eq]; rfl
  have s1 : exStep tb1 (run tb1 (n + 59)) (at_ (inn arFor) 1) (S "_law_asked_right" (Q2 bk bd a t ws (f, k, r.2)) (QO bd o L)) = some (.next, S "_law_asked_right" (Q3 bk bd a t ws (f, k, r.2)) (QO bd o L ++ [.lst D])) := by
    refine X_asgC (u := .loc 6) (σ1 := S "_law_asked_right" (Q2 bk bd a t ws (f, k, r.2)) (QO bd o L ++ [.lst D])) (by kernel_rfl) ?_ (by kernel_rfl)
    refine K_comp (c0 := [("known", .fz (dicV (fndS r.2 t)))]) (vs := [("known", .fz (dicV (fndS r.2 t)))]) (xs := (ndL r.2).map ndF) (ys := D) (σ1 := S "_law_asked_right" (Q2 bk bd a t ws (f, k, r.2)) (QO bd o L)) (σ2 := SD [("known", .fz (dicV (fndS r.2 t)))] (QO bd o L)) (by kernel_rfl) (by kernel_rfl) (iter_sub (v := .fz (.lst (ndV r.2))) (σ1 := S "_law_asked_right" (Q2 bk bd a t ws (f, k, r.2)) (QO bd o L)) ?_ (iterV_list (ow' := QO bd o L) (by kernel_rfl) (ndV_length r.2) rfl)) (by kernel_rfl) hd (by omega) (by kernel_rfl)
    refine E_sub (by rfl) (a := .fz (rowV r)) (b := .fz (.int 2)) (σ1 := S "_law_asked_right" (Q2 bk bd a t ws (f, k, r.2)) (QO bd o L)) (σ2 := S "_law_asked_right" (Q2 bk bd a t ws (f, k, r.2)) (QO bd o L)) (E_sub (by rfl) (a := .fz (bookV bk)) (b := .fz (.int k)) (σ1 := S "_law_asked_right" (Q2 bk bd a t ws (f, k, r.2)) (QO bd o L)) (σ2 := S "_law_asked_right" (Q2 bk bd a t ws (f, k, r.2)) (QO bd o L)) (by kernel_rfl) (by kernel_rfl) ?_) (by kernel_rfl) (by kernel_rfl)
    show (if 0 ≤ (k : Int) ∧ (k : Int) < 100 then (bk.map rowV)[(k : Int).toNat]? else none).map AV.fz = _
    rw [if_pos (by omega), Int.toNat_natCast, hrow]; rfl
  have s2 : exStep tb1 (run tb1 (n + 59)) (at_ (inn arFor) 2) (S "_law_asked_right" (Q3 bk bd a t ws (f, k, r.2)) (QO bd o L ++ [.lst D])) = some (.next, S "_law_asked_right" (Q3 bk bd a t ws (f, k, r.2)) (QO bd o L ++ [.lst D])) := by
    refine X_ifF (c := false) (σ1 := S "_law_asked_right" (Q3 bk bd a t ws (f, k, r.2)) (QO bd o L ++ [.lst D])) (T_cmp (a := .fz (.lst D)) (b := .loc 6) (σ1 := S "_law_asked_right" (Q3 bk bd a t ws (f, k, r.2)) (QO bd o L ++ [.lst D])) (by rfl) ?_ (by kernel_rfl) ?_) rfl rfl
    · refine E_meth (f := 127) (ov := selA bk bd 2) (vs := [.fz (implV k r), .fz (dicV (fndS r.2 t))]) (σ1 := S "_law_asked_right" (Q3 bk bd a t ws (f, k, r.2)) (QO bd o L ++ [.lst D])) (σ2 := S "_law_asked_right" (Q3 bk bd a t ws (f, k, r.2)) (QO bd o L ++ [.lst D])) (by kernel_rfl) (by rfl) (by kernel_rfl) (by kernel_rfl) (V_cons (σ1 := S "_law_asked_right" (Q3 bk bd a t ws (f, k, r.2)) (QO bd o L ++ [.lst D])) (by rfl) (E_sub (by rfl) (a := .fz (.lst (implsV 0 bk))) (b := .fz (.int k)) (σ1 := S "_law_asked_right" (Q3 bk bd a t ws (f, k, r.2)) (QO bd o L ++ [.lst D])) (σ2 := S "_law_asked_right" (Q3 bk bd a t ws (f, k, r.2)) (QO bd o L ++ [.lst D])) (by kernel_rfl) (by kernel_rfl) ?_) (V_cons (σ1 := S "_law_asked_right" (Q3 bk bd a t ws (f, k, r.2)) (QO bd o L ++ [.lst D])) (by rfl) (by kernel_rfl) V_nil)) ?_
      · show (if 0 ≤ (k : Int) ∧ (k : Int) < 100 then (implsV 0 bk)[(k : Int).toNat]? else none).map AV.fz = _
        rw [if_pos (by omega), Int.toNat_natCast, himp]; rfl
      · exact L_call (by rfl) (os := [o]) (os' := [o]) (t := .lst D) (by kernel_rfl) hn (by rfl) (by kernel_rfl)
    · show (eqF (.lst D) (.lst D)).map (!·) = _
      rw [hDe]; rfl
  exact ⟨_, X_next s0 (X_next s1 (X_next s2 rfl)), by kernel_rfl⟩
end
end Xm

open PySem PySem.W PySem.Calls PyProof.Rows PySem.Spec
namespace Xm
theorem I_zip {ih : Ih} {t a b : Expr} {zp pos : Pos} {σ σ1 σ2 : AS} {u v : AV} {us vs xs : List FV} {ow1 ow2 : List AO} (hg : globA tb1 σ "zip" = some (.ty "zip")) (ht : isTupT t = true) (hp : (plainE a && plainE b) = true) (h1 : ih.ev a σ = some (u, σ1)) (h2 : ih.ev b σ1 = some (v, σ2)) (hf1 : frz σ2.ow u = some (.lst us, ow1)) (hf2 : frz ow1 v = some (.lst vs, ow2))
    (hl : us.length ≤ 1000 ∧ vs.length ≤ 1000) (hx : zipF us vs = xs) : iterE tb1 ih t (.Call (.Name "zip" zp) [a, b] [] pos) σ = some (xs, { σ2 with ow := ow2 }) := by
  refine I_ty hg ?_
  show (if isTupT t then (if plainE a && plainE b then bnd (ih.ev a σ) _ else none) else none) = _
  rw [if_pos ht, if_pos hp, h1]
  show bnd (ih.ev b σ1) _ = _
  rw [h2]
  show bnd (frz σ2.ow u) _ = _
  rw [hf1]
  show bnd (frz ow1 v) _ = _
  rw [hf2]
  show (if us.length ≤ 1000 ∧ vs.length ≤ 1000 then some (zipF us vs, { σ2 with ow := ow2 }) else none) = _
  rw [if_pos hl, hx]
section
variable {bk : List Rw} {bd : Bd} {a : Bool} {t : Ty}
theorem ar_loop (n : Nat) {ws : List RwW} {o : AO} {L : List FV} : ∀ (xs : List RwW), (∀ x ∈ xs, RowOk bk x) →
    exStep.forL (run tb1 (n + 60)) (forT arFor) (inn arFor) 9 6 (xs.map fun x => FV.tup [prV (wP t x), rwV (wS t x)]) (S "_law_asked_right" (Q1 bk bd a t ws) (QO bd o L)) = some (.next, S "_law_asked_right" (Q1 bk bd a t ws) (QO bd o L)) := by
  intro xs
  induction xs with
  | nil => intro _; rfl
  | cons x r ih =>
    intro h
    obtain ⟨σ', e1, c1⟩ := ar_turn (bd := bd) (a := a) (t := t) n (ws := ws) (h x (.head _)) (o := o) (L := L)
    exact F_cons (σ1 := S "_law_asked_right" (Q2 bk bd a t ws x) (QO bd o L)) (by kernel_rfl) e1 (.inl rfl) c1 (ih fun y hy => h y (.tail _ hy))
noncomputable abbrev QA (bk : List Rw) (bd : Bd) (a : Bool) (t : Ty) : List (Str × AV) := [("world", .fz (worldV bk)), ("book", .fz (bookV bk)), ("bounds", .fz (bdV bd)), ("trait", .fz (trV a)), ("T", .fz (tyV t))]
noncomputable abbrev Qo0 (bd : Bd) (o : AO) : List AO := [.fz (.dic [("X", bdV bd)]), .obj, o, .lst words3]
theorem arC (n : Nat) (hb : bk.length ≤ 5) : clStep tb1 (run tb1 (n + 91)) 287 [.fz (worldV bk), .fz (bookV bk), .fz (bdV bd), .fz (trV a), .fz (tyV t)] [] = some (.fz (.bool true), []) := by
  have hrows := rowsI (bk := bk) (bd := bd) (a := a) (t := t) (dp := 0) (n + 43) hb (A := ansL bk bd) (fun _ => asksI (n + 30) hb) (Qo0 bd (.dic []))
  obtain ⟨o', hP', hcand⟩ := candC (bk := bk) (bd := bd) (a := a) (t := t) (dp := 0) (n + 23) hb (ansL_le bk bd) (fun _ => askedC (n + 10) hb) (P := TabP bk bd) (o := kp []) ⟨[], rfl, TabInv.nil bk bd⟩
  obtain ⟨o2, hP2, hans⟩ := answerC (bk := bk) (bd := bd) (a := a) (t := t) (dp := 0) (n + 19) hb (ansL_le bk bd) (fun _ => askedC (n + 6) hb) (P := TabP bk bd) hP'
  have hok := rowsW_ok (ansL bk bd) a t bk 0 [] rfl (by omega)
  rw [List.nil_append] at hok
  have hwl := rowsW_length (ansL bk bd) a t 0 bk
  rw [rowsS_W, List.map_map] at hrows
  rw [rowsP_W, List.map_map] at hcand
  generalize hws : rowsW (ansL bk bd) a t 0 bk = ws at hok hwl hrows hcand
  have hrows : (run tb1 (n + 89)).cl 267 [.fz (bookV bk), .fz (bdV bd), .fz (trV a), .fz (tyV t), .fz (.int 0)] (Qo0 bd (.dic [])) = some (.fz (.lst (ws.map fun x => rwV (wS t x))), Qo0 bd (.dic [])) := hrows
  have hcand : clStep tb1 (run tb1 (n + 88)) 134 [selA bk bd 0, .fz (trV a), .fz (.tup []), .fz (tyV t), .fz (.int 0)] [.dic []] = some (.fz (.lst (ws.map fun x => prV (wP t x))), [o']) := hcand
  have hwl1000 : ws.length ≤ 1000 := by omega
  generalize hL : (ws.map fun x => pairV x.1 x.2.1) = L
  have hLl : L.length ≤ 1000 := by rw [← hL, List.length_map]; omega
  have hLe : eqF (.lst L) (.lst L) = some true := eqF_lists fun y hy => by
    rw [← hL] at hy
    obtain ⟨p, _, rfl⟩ := List.mem_map.mp hy
    exact plain_pair p.1 p.2.1
  have s0 : exStep tb1 (run tb1 (n + 90)) (at_ arB 0) (S "_law_asked_right" (QA bk bd a t) []) = some (.next, S "_law_asked_right" (Q0 bk bd a t) (Qo0 bd (.dic []))) := by kernel_rfl
  have s1 : exStep tb1 (run tb1 (n + 90)) (at_ arB 1) (S "_law_asked_right" (Q0 bk bd a t) (Qo0 bd (.dic []))) = some (.next, S "_law_asked_right" (Q0 bk bd a t) (Qo0 bd (.dic []))) := by
    refine X_ifF (c := false) (σ1 := S "_law_asked_right" (Q0 bk bd a t) (Qo0 bd (.dic []))) (T_cmp (a := .fz (bndV bd a t)) (b := .fz (bndV bd a t)) (σ1 := S "_law_asked_right" (Q0 bk bd a t) (Qo0 bd (.dic []))) (by rfl) ?_ ?_ ?_) rfl rfl
    · refine E_meth (f := 122) (ov := selA bk bd 2) (vs := [.fz (trV a), .fz (tyV t)]) (σ1 := S "_law_asked_right" (Q0 bk bd a t) (Qo0 bd (.dic []))) (σ2 := S "_law_asked_right" (Q0 bk bd a t) (Qo0 bd (.dic []))) (by kernel_rfl) (by rfl) (by kernel_rfl) (by kernel_rfl) (by kernel_rfl) ?_
      exact L_call (by rfl) (os := [.dic []]) (os' := [.dic []]) (t := bndV bd a t) (by kernel_rfl) (boundC (n + 48) (.dic [])) (by rfl) (by kernel_rfl)
    · have tt : test (run tb1 (n + 89)) (match valE (at_ arB 1) with | .Compare _ _ (.IfExp c _ _ _ :: _) _ => c | e => e) (S "_law_asked_right" (Q0 bk bd a t) (Qo0 bd (.dic []))) = some (isX t && inBd bd a, S "_law_asked_right" (Q0 bk bd a t) (Qo0 bd (.dic []))) :=
        T_and2 (by rcases t with (_ | _ | _ | _) | (_ | _ | _ | _) | ⟨_ | _ | _ | _, _ | _ | _ | _⟩ <;> kernel_rfl) (by cases a <;> cases bd <;> kernel_rfl)
      unfold bndV
      by_cases h : (isX t && inBd bd a) = true
      · rw [if_pos h]; exact E_ifT tt h (by kernel_rfl)
      · rw [if_neg h]; exact E_ifF tt (Bool.eq_false_iff.mpr h) (by kernel_rfl)
    · show (eqF (bndV bd a t) (bndV bd a t)).map (!·) = _
      unfold bndV
      cases isX t && inBd bd a <;> kernel_rfl
  have s2 : exStep tb1 (run tb1 (n + 90)) (at_ arB 2) (S "_law_asked_right" (Q0 bk bd a t) (Qo0 bd (.dic []))) = some (.next, S "_law_asked_right" (Qr bk bd a t ws) (Qo0 bd (.dic []))) :=
    X_asg (u := .fz (.lst (ws.map fun x => rwV (wS t x)))) (σ1 := S "_law_asked_right" (Q0 bk bd a t) (Qo0 bd (.dic []))) (E_fn (a := 267) (by kernel_rfl) (by rfl) (vs := [.fz (bookV bk), .fz (bdV bd), .fz (trV a), .fz (tyV t), .fz (.int 0)]) (σ1 := S "_law_asked_right" (Q0 bk bd a t) (Qo0 bd (.dic []))) (by kernel_rfl) hrows) (by kernel_rfl) (by rfl)
  have s3 : exStep tb1 (run tb1 (n + 90)) (at_ arB 3) (S "_law_asked_right" (Qr bk bd a t ws) (Qo0 bd (.dic []))) = some (.next, S "_law_asked_right" (Q1 bk bd a t ws) (Qo0 bd o')) := by
    refine X_asg (u := .fz (.lst (ws.map fun x => prV (wP t x)))) (σ1 := S "_law_asked_right" (Qr bk bd a t ws) (Qo0 bd o')) (E_meth (f := 134) (ov := selA bk bd 2) (vs := [.fz (trV a), .fz (.tup []), .fz (tyV t), .fz (.int 0)]) (σ1 := S "_law_asked_right" (Qr bk bd a t ws) (Qo0 bd (.dic []))) (σ2 := S "_law_asked_right" (Qr bk bd a t ws) (Qo0 bd (.dic []))) (by kernel_rfl) (by rfl) (by kernel_rfl) (by kernel_rfl) (by kernel_rfl) ?_) (by kernel_rfl) (by rfl)
    exact L_call (by rfl) (os := [.dic []]) (os' := [o']) (t := .lst (ws.map fun x => prV (wP t x))) (by kernel_rfl) hcand (by rfl) (by kernel_rfl)
  have s4 : exStep tb1 (run tb1 (n + 90)) (at_ arB 4) (S "_law_asked_right" (Q1 bk bd a t ws) (Qo0 bd o')) = some (.next, S "_law_asked_right" (Q1 bk bd a t ws) (QO bd o' L)) := by
    refine X_ifF (c := false) (σ1 := S "_law_asked_right" (Q1 bk bd a t ws) (QO bd o' L)) (T_cmp (a := .loc 4) (b := .loc 5) (σ1 := S "_law_asked_right" (Q1 bk bd a t ws) (Qo0 bd o' ++ [.lst L])) (by rfl) (E_comp ?_) (E_comp ?_) ?_) rfl rfl
    · refine K_comp (c0 := []) (vs := []) (xs := ws.map fun x => prV (wP t x)) (ys := L) (σ1 := S "_law_asked_right" (Q1 bk bd a t ws) (Qo0 bd o')) (σ2 := SL [] (Qo0 bd o')) (by kernel_rfl) (by kernel_rfl) (iter_name (v := .fz (.lst (ws.map fun x => prV (wP t x)))) (σ1 := S "_law_asked_right" (Q1 bk bd a t ws) (Qo0 bd o')) (by kernel_rfl) (iterV_list (ow' := Qo0 bd o') (by kernel_rfl) (by rw [List.length_map]; omega) rfl)) (by kernel_rfl) ?_ (by omega) (by kernel_rfl)
      have := left_loop (n + 69) (ow := Qo0 bd o') rfl (ws.map (wP t)) [] (by simp; omega)
      rw [List.nil_append, List.map_map, List.map_map] at this
      rw [← hL]
      exact this
    · refine K_comp (c0 := [("words", .loc 3)]) (vs := [("words", .loc 3)]) (xs := ws.map fun x => rwV (wS t x)) (ys := L) (σ1 := S "_law_asked_right" (Q1 bk bd a t ws) (Qo0 bd o' ++ [.lst L])) (σ2 := SR [("words", .loc 3)] (Qo0 bd o' ++ [.lst L])) (by kernel_rfl) (by kernel_rfl) (iter_name (v := .fz (.lst (ws.map fun x => rwV (wS t x)))) (σ1 := S "_law_asked_right" (Q1 bk bd a t ws) (Qo0 bd o' ++ [.lst L])) (by kernel_rfl) (iterV_list (ow' := Qo0 bd o' ++ [.lst L]) (by kernel_rfl) (by rw [List.length_map]; omega) rfl)) (by kernel_rfl) ?_ (by omega) (by kernel_rfl)
      have := right_loop (n + 69) (o1 := .fz (.dic [("X", bdV bd)])) (o2 := .obj) (o3 := o') (o5 := .lst L) (ws.map (wS t)) [] (by simp; omega) (fun r hr => by
        obtain ⟨x, hx, rfl⟩ := List.mem_map.mp hr
        exact (hok x hx).1)
      rw [List.nil_append, List.map_map, List.map_map] at this
      have e : (ws.map ((fun r : RwS => pairV r.1 r.2.1) ∘ wS t)) = L := by rw [← hL]; rfl
      rw [e] at this
      exact this
    · show (eqF (.lst L) (.lst L)).map (!·) = _
      rw [hLe]; rfl
  have s5 : exStep tb1 (run tb1 (n + 90)) (at_ arB 5) (S "_law_asked_right" (Q1 bk bd a t ws) (QO bd o' L)) = some (.next, S "_law_asked_right" (Q1 bk bd a t ws) (QO bd o' L)) := by
    refine X_for (xs := ws.map fun x => FV.tup [prV (wP t x), rwV (wS t x)]) (σ1 := S "_law_asked_right" (Q1 bk bd a t ws) (QO bd o' L)) ?_ (ar_loop (n + 30) ws hok)
    exact I_zip (u := .fz (.lst (ws.map fun x => prV (wP t x)))) (v := .fz (.lst (ws.map fun x => rwV (wS t x)))) (us := ws.map fun x => prV (wP t x)) (vs := ws.map fun x => rwV (wS t x)) (ow1 := QO bd o' L) (ow2 := QO bd o' L) (σ1 := S "_law_asked_right" (Q1 bk bd a t ws) (QO bd o' L)) (σ2 := S "_law_asked_right" (Q1 bk bd a t ws) (QO bd o' L)) (by kernel_rfl) (by rfl) (by rfl) (by kernel_rfl) (by kernel_rfl) (by kernel_rfl) (by kernel_rfl) (by rw [List.length_map, List.length_map]; omega) (zipF_map _ _ ws)
  have s6 : exStep tb1 (run tb1 (n + 90)) (at_ arB 6) (S "_law_asked_right" (Q1 bk bd a t ws) (QO bd o' L)) = some (.ret (.fz (.bool true)), S "_law_asked_right" (Q1 bk bd a t ws) (QO bd o2 L)) := by
    have hle := ansS_le (ansL bk bd) bk bd a t
    have hai := answerI (bk := bk) (bd := bd) (a := a) (t := t) (dp := 0) (n + 35) hb (A := ansL bk bd) (fun _ => asksI (n + 22) hb) (QO bd o2 L)
    generalize ansS (ansL bk bd) bk bd a t = g at hans hle hai
    have hg : g = 0 ∨ g = 1 ∨ g = 2 := by omega
    refine X_return (E_cmp (a := .fz (wordV g)) (b := .fz (wordV g)) (σ1 := S "_law_asked_right" (Q1 bk bd a t ws) (QO bd o2 L)) (by rfl) ?_ (E_sub (by rfl) (a := .loc 3) (b := .fz (.int g)) (σ1 := S "_law_asked_right" (Q1 bk bd a t ws) (QO bd o2 L)) (σ2 := S "_law_asked_right" (Q1 bk bd a t ws) (QO bd o2 L)) (by kernel_rfl) ?_ ?_) ?_)
    · refine E_meth (f := 146) (ov := selA bk bd 2) (vs := [.fz (trV a), .fz (.tup []), .fz (tyV t), .fz (.int 0)]) (σ1 := S "_law_asked_right" (Q1 bk bd a t ws) (QO bd o' L)) (σ2 := S "_law_asked_right" (Q1 bk bd a t ws) (QO bd o' L)) (by kernel_rfl) (by rfl) (by kernel_rfl) (by kernel_rfl) (by kernel_rfl) ?_
      exact L_call (by rfl) (os := [o']) (os' := [o2]) (t := wordV g) (by kernel_rfl) hans (by rfl) (by kernel_rfl)
    · exact E_fn (a := 272) (by kernel_rfl) (by rfl) (vs := [.fz (bookV bk), .fz (bdV bd), .fz (trV a), .fz (tyV t), .fz (.int 0)]) (σ1 := S "_law_asked_right" (Q1 bk bd a t ws) (QO bd o2 L)) (by kernel_rfl) hai
    · clear hans hai
      rcases hg with rfl | rfl | rfl <;> rfl
    · clear hans hai
      rcases hg with rfl | rfl | rfl <;> kernel_rfl
  exact C_call (f := fF "_law_asked_right") (by kernel_rfl) (bs := QA bk bd a t) (by kernel_rfl) (v := .fz (.bool true)) (σ' := S "_law_asked_right" (Q1 bk bd a t ws) (QO bd o2 L)) (X_next s0 (X_next s1 (X_next s2 (X_next s3 (X_next s4 (X_next s5 (X_ret s6))))))) (by kernel_rfl)
end
end Xm

open PySem PySem.W PySem.Calls PyProof.Rows PySem.Spec
namespace Xm
theorem E_list {n : Nat} {es : List Expr} {p : Pos} {σ σ1 : AS} {vs : List AV} {ts : List FV} {ow' : List AO} {o : AV × AS} (h : evs (run tb1 n) es σ = some (vs, σ1)) (hl : vs.length ≤ 1000) (hf : frzs σ1.ow vs = some (ts, ow')) (ho : push { σ1 with ow := ow' } (.lst ts) = o) : (run tb1 (n + 1)).ev (.List es p) σ = some o := by
  show bnd (evs (run tb1 n) es σ) _ = _
  rw [h]; show (if vs.length ≤ 1000 then bnd (frzs σ1.ow vs) _ else none) = _
  rw [if_pos hl, hf, ← ho]; rfl
theorem L_callK {n : Nat} {a : Addr} {args : List AV} {ow : List AO} {o : AV × List AO} (hK : tb1.K a = true) (hc : clStep tb1 (run tb1 n) a args ow = some o) : (run tb1 (n + 1)).cl a args ow = some o := by
  show (if tb1.K a then _ else _) = _
  rw [hK]; exact hc
theorem T_not {ih : Ih} {f : Expr} {args : List Expr} {kw : List Keyword} {p1 p2 : Pos} {σ σ1 : AS} {b : Bool} (h : ih.ev (.Call f args kw p1) σ = some (.fz (.bool b), σ1)) : test ih (.UnaryOp .Not (.Call f args kw p1) p2) σ = some (!b, σ1) := by
  show bnd (bnd (ih.ev (.Call f args kw p1) σ) _) _ = _
  rw [h]; rfl
/-! _law_pool -/
noncomputable def cellS : List Int → Int
  | [] => 0
  | c :: _ => c
noncomputable def greatS (c : Int) : Int := maxI c [-1 - c]
noncomputable def stirS (c : Int) : Int := (((greatS c).fmod 2147483629 + 7919 * 0 * 0 + 31 * 0 + 17) * 48271).fmod 2147483647
theorem great_nonneg (c : Int) : 0 ≤ greatS c := by
  show 0 ≤ (if -1 - c > c then -1 - c else c)
  split <;> omega
noncomputable abbrev Pl0 (sc : List Int) : List (Str × AV) := [("script", .fz (.lst (sc.map .int))), ("k", .fz (.int 0))]
theorem poolC (n : Nat) (sc : List Int) (h : sc.length ≤ 63) (p0 p1 p2 : AO) : ∃ a b, GoodS a b ∧ (run tb1 (n + 41)).cl 211 [.fz (.lst (sc.map .int)), .fz (.int 0)] [p0, p1, p2] = some (.loc 3, [p0, p1, p2, src a b]) := by
  refine ⟨greatS (cellS sc) * (if 1000000000000000000 ≤ greatS (cellS sc) then 1 else 0), stirS (cellS sc), ⟨?_, Int.fmod_nonneg_of_pos _ (by omega), Int.fmod_lt_of_pos _ (by omega)⟩, ?_⟩
  · have := great_nonneg (cellS sc)
    split
    · omega
    · simp
  refine L_callK (by rfl) ?_
  generalize hg : greatS (cellS sc) = g
  generalize hs : stirS (cellS sc) = st
  have s0 : exStep tb1 (run tb1 (n + 39)) (at_ (fF "_law_pool").body 0) (S "_law_pool" (Pl0 sc) [p0, p1, p2]) = some (.next, S "_law_pool" (Pl0 sc ++ vl [("cell", .fz (.int (cellS sc)))]) [p0, p1, p2]) := by
    clear hg hs
    cases sc with
    | nil => kernel_rfl
    | cons c r =>
      refine X_asg (u := .fz (.int c)) (σ1 := S "_law_pool" (Pl0 (c :: r)) [p0, p1, p2]) (E_ifT (c := decide ((0 : Int) < ((r.length + 1 : Nat) : Int))) (σ1 := S "_law_pool" (Pl0 (c :: r)) [p0, p1, p2]) (T_cmp (a := .fz (.int 0)) (b := .fz (.int ((r.length + 1 : Nat) : Int))) (σ1 := S "_law_pool" (Pl0 (c :: r)) [p0, p1, p2]) (by rfl) (by kernel_rfl) (E_bi (id := "len") (by kernel_rfl) (by rfl) (vs := [.fz (.lst ((c :: r).map .int))]) (ts := [.lst ((c :: r).map .int)]) (by kernel_rfl) (by kernel_rfl) ?_) (by rfl)) (decide_eq_true (by omega)) (by kernel_rfl)) (by kernel_rfl) (by rfl)
      show (if ((c :: r).map FV.int).length ≤ 1000 then some (FV.int ((c :: r).map FV.int).length) else none) = _
      rw [List.length_map, List.length_cons] at *
      rw [if_pos (by omega)]
  have s1 : exStep tb1 (run tb1 (n + 39)) (at_ (fF "_law_pool").body 1) (S "_law_pool" (Pl0 sc ++ vl [("cell", .fz (.int (cellS sc)))]) [p0, p1, p2]) = some (.next, S "_law_pool" (Pl0 sc ++ vl [("cell", .fz (.int (cellS sc))), ("great", .fz (.int g))]) [p0, p1, p2]) := by
    rw [← hg]; kernel_rfl
  have s2 : exStep tb1 (run tb1 (n + 39)) (at_ (fF "_law_pool").body 2) (S "_law_pool" (Pl0 sc ++ vl [("cell", .fz (.int (cellS sc))), ("great", .fz (.int g))]) [p0, p1, p2]) = some (.next, S "_law_pool" (Pl0 sc ++ vl [("cell", .fz (.int (cellS sc))), ("great", .fz (.int g)), ("stirred", .fz (.int st))]) [p0, p1, p2]) := by
    have e : st = ((g.fmod 2147483629 + 7919 * 0 * 0 + 31 * 0 + 17) * 48271).fmod 2147483647 := by rw [← hs, ← hg]; rfl
    rw [e]; kernel_rfl
  have s3 : exStep tb1 (run tb1 (n + 39)) (at_ (fF "_law_pool").body 3) (S "_law_pool" (Pl0 sc ++ vl [("cell", .fz (.int (cellS sc))), ("great", .fz (.int g)), ("stirred", .fz (.int st))]) [p0, p1, p2]) = some (.ret (.loc 3), S "_law_pool" (Pl0 sc ++ vl [("cell", .fz (.int (cellS sc))), ("great", .fz (.int g)), ("stirred", .fz (.int st))]) [p0, p1, p2, src (g * (if 1000000000000000000 ≤ g then 1 else 0)) st]) := by
    refine X_return (E_list (vs := [.fz (.int (g * (if 1000000000000000000 ≤ g then 1 else 0))), .fz (.int st)]) (ts := [.int (g * (if 1000000000000000000 ≤ g then 1 else 0)), .int st]) (ow' := [p0, p1, p2]) (σ1 := S "_law_pool" (Pl0 sc ++ vl [("cell", .fz (.int (cellS sc))), ("great", .fz (.int g)), ("stirred", .fz (.int st))]) [p0, p1, p2]) (V_cons (σ1 := S "_law_pool" (Pl0 sc ++ vl [("cell", .fz (.int (cellS sc))), ("great", .fz (.int g)), ("stirred", .fz (.int st))]) [p0, p1, p2]) (by rfl) ?_ (V_cons (σ1 := S "_law_pool" (Pl0 sc ++ vl [("cell", .fz (.int (cellS sc))), ("great", .fz (.int g)), ("stirred", .fz (.int st))]) [p0, p1, p2]) (by rfl) (by kernel_rfl) V_nil)) (by simp) (by kernel_rfl) (by kernel_rfl))
    refine E_bin (a := .fz (.int g)) (b := .fz (.int (if decide (1000000000000000000 ≤ g) then 1 else 0))) (σ1 := S "_law_pool" (Pl0 sc ++ vl [("cell", .fz (.int (cellS sc))), ("great", .fz (.int g)), ("stirred", .fz (.int st))]) [p0, p1, p2]) (σ2 := S "_law_pool" (Pl0 sc ++ vl [("cell", .fz (.int (cellS sc))), ("great", .fz (.int g)), ("stirred", .fz (.int st))]) [p0, p1, p2]) (by kernel_rfl) (by kernel_rfl) ?_
    by_cases hc : 1000000000000000000 ≤ g
    · rw [decide_eq_true hc, if_pos hc]; rfl
    · rw [decide_eq_false hc, if_neg hc]; rfl
  exact C_call (f := fF "_law_pool") (by kernel_rfl) (bs := Pl0 sc) (by kernel_rfl) (X_next s0 (X_next s1 (X_next s2 (X_ret s3)))) (by kernel_rfl)
theorem namesI (n k : Nat) (r : Rw) (ow : List AO) : (run tb1 (n + 20)).cl 87 [.fz (implV k r)] ow = some (.fz (.lst ((ndL r.2).map fun p => .str p.1)), ow) := by
  obtain ⟨a, w⟩ := r
  cases w <;> kernel_rfl
end Xm

open PySem PySem.W PySem.Calls PyProof.Rows PySem.Spec
namespace Xm
/-! law -/
noncomputable def lwB : List Stmt := (fF "law").body
noncomputable abbrev LW (vars : List (Str × AV)) (ow : List AO) : AS := S "law" vars ow
noncomputable def lwL : Expr := match valE (at_ lwB 5) with | .Compare l _ _ _ => l | e => e
noncomputable def lwR : Expr := match valE (at_ lwB 5) with | .Compare _ _ (r :: _) _ => r | e => e
noncomputable abbrev LL (vars : List (Str × AV)) (ow : List AO) : AS := ⟨cSc lwL, vars, ow⟩
noncomputable abbrev LR (vars : List (Str × AV)) (ow : List AO) : AS := ⟨cSc lwR, vars, ow⟩
noncomputable def nmV (r : Rw) : FV := .lst ((ndL r.2).map fun p => .str p.1)
theorem nm_one (r : Rw) : nmV r = .lst [] ∨ nmV r = .lst [.str "T"] ∨ nmV r = .lst [.str "T", .str "U"] := by
  obtain ⟨a, w⟩ := r
  cases w
  all_goals first | exact .inl rfl | exact .inr (.inl rfl) | exact .inr (.inr rfl)
theorem plain_nm (r : Rw) : Plain (nmV r) := by
  rcases nm_one r with h | h | h <;> rw [h]
  · exact ⟨.list [], rfl, by kernel_rfl, by exact Nat.le_of_ble_eq_true rfl⟩
  · exact ⟨.list [.str "T"], rfl, by kernel_rfl, by exact Nat.le_of_ble_eq_true rfl⟩
  · exact ⟨.list [.str "T", .str "U"], rfl, by kernel_rfl, by exact Nat.le_of_ble_eq_true rfl⟩
theorem lw_left (n : Nat) {o1 o2 o3 o4 o5 : AO} : ∀ (b : List Rw) (k : Nat) (acc : List FV), acc.length + b.length ≤ 1000 →
    loopC (run tb1 (n + 40)) (compI (run tb1 (n + 40)) (cElt lwL) []) (cTgt lwL) [] 0 5 (implsV k b) acc (LL [] [o1, o2, o3, o4, o5]) = some (acc ++ b.map nmV, LL [] [o1, o2, o3, o4, o5]) := by
  intro b
  induction b with
  | nil => intro k acc _; simp [implsV, loopC]
  | cons r t ih =>
    intro k acc hl
    rw [List.length_cons] at hl
    have h2 := ih (k + 1) (acc ++ [nmV r]) (by rw [List.length_append]; simp; omega)
    rw [implsV, List.map_cons]
    refine K_cons (σ1 := LL [("impl", .fz (implV k r))] [o1, o2, o3, o4, o5]) (σ2 := LL [("impl", .fz (implV k r))] [o1, o2, o3, o4, o5]) (σ3 := LL [("impl", .fz (implV k r))] [o1, o2, o3, o4, o5]) (σ4 := LL [] [o1, o2, o3, o4, o5]) (acc' := acc ++ [nmV r]) (by kernel_rfl) (by kernel_rfl)
      (K_elt (t := nmV r) (v := .fz (nmV r)) (ow' := [o1, o2, o3, o4, o5]) (σ1 := LL [("impl", .fz (implV k r))] [o1, o2, o3, o4, o5]) ?_ (by kernel_rfl) (by omega)) (by kernel_rfl) ?_
    · exact E_fn (a := 87) (by kernel_rfl) (by rfl) (vs := [.fz (implV k r)]) (σ1 := LL [("impl", .fz (implV k r))] [o1, o2, o3, o4, o5]) (by kernel_rfl) (namesI (n + 19) k r _)
    · rw [h2, List.append_assoc]; rfl
theorem lw_right (n : Nat) {o1 o2 o3 o4 o5 o6 : AO} : ∀ (b : List Rw) (acc : List FV), acc.length + b.length ≤ 1000 →
    loopC (run tb1 (n + 40)) (compI (run tb1 (n + 40)) (cElt lwR) []) (cTgt lwR) [] 0 6 (b.map rowV) acc (LR [] [o1, o2, o3, o4, o5, o6]) = some (acc ++ b.map nmV, LR [] [o1, o2, o3, o4, o5, o6]) := by
  intro b
  induction b with
  | nil => intro acc _; simp [loopC]
  | cons r t ih =>
    intro acc hl
    rw [List.length_cons] at hl
    have h2 := ih (acc ++ [nmV r]) (by rw [List.length_append]; simp; omega)
    rw [List.map_cons, List.map_cons]
    refine K_cons (σ1 := LR [("trait", .fz (trV r.1)), ("way", .fz (.int (wyN r.2))), ("needs", .fz (.lst (ndV r.2)))] [o1, o2, o3, o4, o5, o6]) (σ2 := LR [("trait", .fz (trV r.1)), ("way", .fz (.int (wyN r.2))), ("needs", .fz (.lst (ndV r.2)))] [o1, o2, o3, o4, o5, o6])
      (σ3 := LR [("trait", .fz (trV r.1)), ("way", .fz (.int (wyN r.2))), ("needs", .fz (.lst (ndV r.2)))] [o1, o2, o3, o4, o5, o6]) (σ4 := LR [] [o1, o2, o3, o4, o5, o6]) (acc' := acc ++ [nmV r]) (by kernel_rfl) (by kernel_rfl)
      (K_elt (t := nmV r) (v := .fz (nmV r)) (ow' := [o1, o2, o3, o4, o5, o6]) (σ1 := LR [("trait", .fz (trV r.1)), ("way", .fz (.int (wyN r.2))), ("needs", .fz (.lst (ndV r.2)))] [o1, o2, o3, o4, o5, o6]) ?_ (by kernel_rfl) (by omega)) (by kernel_rfl) ?_
    · refine E_sub (by rfl) (a := .fz (.tup [headV r.2, nmV r])) (b := .fz (.int 1)) (σ1 := LR [("trait", .fz (trV r.1)), ("way", .fz (.int (wyN r.2))), ("needs", .fz (.lst (ndV r.2)))] [o1, o2, o3, o4, o5, o6]) (σ2 := LR [("trait", .fz (trV r.1)), ("way", .fz (.int (wyN r.2))), ("needs", .fz (.lst (ndV r.2)))] [o1, o2, o3, o4, o5, o6]) ?_ (by kernel_rfl) (by kernel_rfl)
      exact E_fn (a := 232) (by kernel_rfl) (by rfl) (vs := [.fz (.int (wyN r.2))]) (σ1 := LR [("trait", .fz (trV r.1)), ("way", .fz (.int (wyN r.2))), ("needs", .fz (.lst (ndV r.2)))] [o1, o2, o3, o4, o5, o6]) (by kernel_rfl) (headI (n + 18) r.2 _)
    · rw [h2, List.append_assoc]; rfl
end Xm

open PySem PySem.W PySem.Calls PyProof.Rows PySem.Spec
namespace Xm
noncomputable abbrev scV (sc : List Int) : AV := .fz (.lst (sc.map .int))
noncomputable def lwO0 : AO := .fz (.lst [.tup [.str "T", .tup []]])
noncomputable def lwO1 : AO := .fz (.lst [])
noncomputable def lwR0 : List FV := [rowV (false, .w3 .m0), rowV (false, .w6)]
noncomputable def bds3 : List FV := [bdV .d0, bdV .dA, bdV .dAB]
theorem bd_of {x : FV} (h : x ∈ bds3) : ∃ m, x = bdV m := by
  have : x = bdV .d0 ∨ x = bdV .dA ∨ x = bdV .dAB := by simpa [bds3] using h
  rcases this with h | h | h <;> exact ⟨_, h⟩
theorem tr_of {x : FV} (h : x ∈ [trV false, trV true]) : ∃ m, x = trV m := by
  have : x = trV false ∨ x = trV true := by simpa using h
  rcases this with h | h <;> exact ⟨_, h⟩
noncomputable abbrev Lv0 (sc : List Int) : List (Str × AV) := [("script", scV sc)]
noncomputable abbrev Lv1 (sc : List Int) : List (Str × AV) := [("script", scV sc), ("book", .loc 2)]
noncomputable abbrev Lv2 (sc : List Int) : List (Str × AV) := [("script", scV sc), ("book", .loc 2), ("source", .loc 3)]
noncomputable abbrev Lv3 (sc : List Int) (bk : List Rw) (bd : Bd) : List (Str × AV) := [("script", scV sc), ("book", .fz (bookV bk)), ("source", .loc 3), ("bounds", .fz (bdV bd))]
noncomputable abbrev Lv4 (sc : List Int) (bk : List Rw) (bd : Bd) : List (Str × AV) := [("script", scV sc), ("book", .fz (bookV bk)), ("source", .loc 3), ("bounds", .fz (bdV bd)), ("world", .fz (worldV bk))]
noncomputable abbrev Lv5 (sc : List Int) (bk : List Rw) (bd : Bd) (t : FV) : List (Str × AV) := [("script", scV sc), ("book", .fz (bookV bk)), ("source", .loc 3), ("bounds", .fz (bdV bd)), ("world", .fz (worldV bk)), ("turn", .fz t)]
noncomputable abbrev Lo0 : List AO := [lwO0, lwO1, .fz (.lst lwR0)]
noncomputable abbrev Lo3 (a b : Int) : List AO := [lwO0, lwO1, .fz (.lst lwR0), src a b, .lst bds3]
noncomputable abbrev Lo4 (a b : Int) (L : List FV) : List AO := [lwO0, lwO1, .fz (.lst lwR0), src a b, .lst bds3, .lst L]
noncomputable abbrev Lo5 (a b : Int) (L : List FV) : List AO := [lwO0, lwO1, .fz (.lst lwR0), src a b, .lst bds3, .lst L, .lst L]
noncomputable def lwFor : Stmt := at_ lwB 6
theorem lw_turn (n : Nat) {sc : List Int} {bk : List Rw} {bd : Bd} {a b : Int} {L : List FV} {t : FV} (hb : bk.length ≤ 5) (g : GoodS a b) :
    ∃ a' b' σ', (run tb1 (n + 99)).ex (inn lwFor) (LW (Lv5 sc bk bd t) (Lo5 a b L)) = some (.next, σ') ∧ cut 5 7 σ' = some (LW (Lv4 sc bk bd) (Lo5 a' b' L)) ∧ GoodS a' b' := by
  obtain ⟨x, hx, a1, b1, e1, g1⟩ := one_any (n + 95) (by omega) [trV false, trV true] (k := 2) rfl (by omega) g
  obtain ⟨tr, rfl⟩ := tr_of hx
  obtain ⟨ty, a2, b2, e2, g2⟩ := asked_draw (n + 95) (by omega) g1
  refine ⟨a2, b2, LW (Lv5 sc bk bd t) (Lo5 a2 b2 L ++ [.lst [trV false, trV true]]), X_next (σ1 := LW (Lv5 sc bk bd t) (Lo5 a2 b2 L ++ [.lst [trV false, trV true]])) ?_ (by kernel_rfl), by kernel_rfl, g2⟩
  refine X_ifF (c := false) (σ1 := LW (Lv5 sc bk bd t) (Lo5 a2 b2 L ++ [.lst [trV false, trV true]])) (T_not (b := true) (σ1 := LW (Lv5 sc bk bd t) (Lo5 a2 b2 L ++ [.lst [trV false, trV true]])) ?_) rfl (by kernel_rfl)
  refine E_fn (a := 287) (by kernel_rfl) (by rfl) (vs := [.fz (worldV bk), .fz (bookV bk), .fz (bdV bd), .fz (trV tr), .fz (tyV ty)]) (σ1 := LW (Lv5 sc bk bd t) (Lo5 a2 b2 L ++ [.lst [trV false, trV true]])) ?_ (L_call (by rfl) (os := []) (os' := []) (t := .bool true) (by kernel_rfl) (arC (n + 5) hb) (by rfl) (by kernel_rfl))
  refine V_cons (σ1 := LW (Lv5 sc bk bd t) (Lo5 a b L)) (by rfl) (by kernel_rfl) (V_cons (σ1 := LW (Lv5 sc bk bd t) (Lo5 a b L)) (by rfl) (by kernel_rfl) (V_cons (σ1 := LW (Lv5 sc bk bd t) (Lo5 a b L)) (by rfl) (by kernel_rfl) (V_cons (σ1 := LW (Lv5 sc bk bd t) (Lo5 a1 b1 L ++ [.lst [trV false, trV true]])) (by rfl) ?_ (V_cons (σ1 := LW (Lv5 sc bk bd t) (Lo5 a2 b2 L ++ [.lst [trV false, trV true]])) (by rfl) ?_ V_nil))))
  · refine E_fn (a := 225) (by kernel_rfl) (by rfl) (vs := [.loc 3, .loc 7]) (σ1 := LW (Lv5 sc bk bd t) (Lo5 a b L ++ [.lst [trV false, trV true]])) (by kernel_rfl) ?_
    exact L_call (by rfl) (os := [src a b, .lst [trV false, trV true]]) (os' := [src a1 b1, .lst [trV false, trV true]]) (t := trV tr) (by kernel_rfl) e1 (by rfl) (by kernel_rfl)
  · refine E_fn (a := 246) (by kernel_rfl) (by rfl) (vs := [.loc 3]) (σ1 := LW (Lv5 sc bk bd t) (Lo5 a1 b1 L ++ [.lst [trV false, trV true]])) (by kernel_rfl) ?_
    exact L_call (by rfl) (os := [src a1 b1]) (os' := [src a2 b2]) (t := tyV ty) (by kernel_rfl) e2 (by rfl) (by kernel_rfl)
theorem lw_loop (n : Nat) {sc : List Int} {bk : List Rw} {bd : Bd} {L : List FV} (hb : bk.length ≤ 5) : ∀ (xs : List FV) (a b : Int), GoodS a b →
    ∃ a' b', exStep.forL (run tb1 (n + 99)) (forT lwFor) (inn lwFor) 5 7 xs (LW (Lv4 sc bk bd) (Lo5 a b L)) = some (.next, LW (Lv4 sc bk bd) (Lo5 a' b' L)) := by
  intro xs
  induction xs with
  | nil => intro a b g; exact ⟨a, b, rfl⟩
  | cons t r ih =>
    intro a b g
    obtain ⟨a1, b1, σ', e1, c1, g1⟩ := lw_turn n (sc := sc) (bd := bd) (L := L) (t := t) hb g
    obtain ⟨a2, b2, e2⟩ := ih a1 b1 g1
    exact ⟨a2, b2, F_cons (σ1 := LW (Lv5 sc bk bd t) (Lo5 a b L)) (by kernel_rfl) e1 (.inl rfl) c1 e2⟩
theorem lawC (n : Nat) (sc : List Int) (h : sc.length ≤ 63) : ∃ σ', (run tb1 (n + 100)).ex lawF.body ⟨lawF.sc, [("script", .fz (.lst (sc.map .int)))], []⟩ = some (.ret (.fz (.bool true)), σ') := by
  obtain ⟨a0, b0, g0, hpool⟩ := poolC (n + 57) sc h lwO0 lwO1 (.fz (.lst lwR0))
  obtain ⟨bk, a1, b1, e1, g1, hb⟩ := book_draw (n + 96) (by omega) g0
  obtain ⟨x, hx, a2, b2, e2, g2⟩ := one_any (n + 96) (by omega) bds3 (k := 3) rfl (by omega) g1
  obtain ⟨bd, rfl⟩ := bd_of hx
  have hw := worldI (n + 97) (by omega) bk hb
  have hl := lw_left (n + 58) (o1 := lwO0) (o2 := lwO1) (o3 := .fz (.lst lwR0)) (o4 := src a2 b2) (o5 := .lst bds3) bk 0 [] (by simp; omega)
  generalize hL : bk.map nmV = L at hl
  have hr := lw_right (n + 58) (o1 := lwO0) (o2 := lwO1) (o3 := .fz (.lst lwR0)) (o4 := src a2 b2) (o5 := .lst bds3) (o6 := .lst L) bk [] (by simp; omega)
  rw [hL] at hr
  rw [List.nil_append] at hl hr
  have hLl : L.length ≤ 1000 := by rw [← hL, List.length_map]; omega
  have hLe : eqF (.lst L) (.lst L) = some true := eqF_lists fun y hy => by
    rw [← hL] at hy
    obtain ⟨p, _, rfl⟩ := List.mem_map.mp hy
    exact plain_nm p
  obtain ⟨a3, b3, hfor⟩ := lw_loop n (sc := sc) (bd := bd) (L := L) hb ((List.range 3).map fun (i : Nat) => FV.int (i : Int)) a2 b2 g2
  have s0 : exStep tb1 (run tb1 (n + 99)) (at_ lwB 0) (LW (Lv0 sc) []) = some (.next, LW (Lv1 sc) [lwO0, lwO1, .lst lwR0]) := by kernel_rfl
  have s1 : exStep tb1 (run tb1 (n + 99)) (at_ lwB 1) (LW (Lv1 sc) [lwO0, lwO1, .lst lwR0]) = some (.next, LW (Lv1 sc) Lo0) := by kernel_rfl
  have s2 : exStep tb1 (run tb1 (n + 99)) (at_ lwB 2) (LW (Lv1 sc) Lo0) = some (.next, LW (Lv2 sc) (Lo0 ++ [src a0 b0])) :=
    X_asg (u := .loc 3) (σ1 := LW (Lv1 sc) (Lo0 ++ [src a0 b0])) (E_fn (a := 211) (by kernel_rfl) (by rfl) (vs := [scV sc, .fz (.int 0)]) (σ1 := LW (Lv1 sc) Lo0) (by kernel_rfl) hpool) (by kernel_rfl) (by rfl)
  have s3 : exStep tb1 (run tb1 (n + 99)) (at_ lwB 3) (LW (Lv2 sc) (Lo0 ++ [src a0 b0])) = some (.next, LW (Lv3 sc bk bd) (Lo3 a2 b2)) := by
    refine X_asgT (sw := some ["book", "bounds"]) (xs := ["book", "bounds"]) (u := .fz (.tup [bookV bk, bdV bd])) (vs := [.fz (bookV bk), .fz (bdV bd)]) (σ1 := LW (Lv2 sc) (Lo3 a2 b2)) (by kernel_rfl) (by kernel_rfl) ?_ (by rfl) (by kernel_rfl) (by simp)
    refine E_tup (vs := [.fz (bookV bk), .fz (bdV bd)]) (V_cons (σ1 := LW (Lv2 sc) (Lo0 ++ [src a1 b1])) (by rfl) (E_fn (a := 277) (by kernel_rfl) (by rfl) (vs := [.loc 3]) (σ1 := LW (Lv2 sc) (Lo0 ++ [src a0 b0])) (by kernel_rfl) ?_) (V_cons (by rfl) (E_fn (a := 225) (by kernel_rfl) (by rfl) (vs := [.loc 3, .loc 4]) (σ1 := LW (Lv2 sc) (Lo3 a1 b1)) (by kernel_rfl) ?_) V_nil)) (by simp)
    · exact L_call (by rfl) (os := [src a0 b0]) (os' := [src a1 b1]) (t := bookV bk) (by kernel_rfl) e1 (by rfl) (by kernel_rfl)
    · exact L_call (by rfl) (os := [src a1 b1, .lst bds3]) (os' := [src a2 b2, .lst bds3]) (t := bdV bd) (by kernel_rfl) e2 (by rfl) (by kernel_rfl)
  have s4 : exStep tb1 (run tb1 (n + 99)) (at_ lwB 4) (LW (Lv3 sc bk bd) (Lo3 a2 b2)) = some (.next, LW (Lv4 sc bk bd) (Lo3 a2 b2)) := by
    refine X_asg (u := .fz (worldV bk)) (σ1 := LW (Lv3 sc bk bd) (Lo3 a2 b2)) (E_fn (a := 282) (by kernel_rfl) (by rfl) (vs := [.fz (bookV bk)]) (σ1 := LW (Lv3 sc bk bd) (Lo3 a2 b2)) (by kernel_rfl) ?_) (by kernel_rfl) (by rfl)
    exact L_call (by rfl) (os := []) (os' := []) (t := worldV bk) (by kernel_rfl) hw (by rfl) (by kernel_rfl)
  have s5 : exStep tb1 (run tb1 (n + 99)) (at_ lwB 5) (LW (Lv4 sc bk bd) (Lo3 a2 b2)) = some (.next, LW (Lv4 sc bk bd) (Lo5 a2 b2 L)) := by
    refine X_ifF (c := false) (σ1 := LW (Lv4 sc bk bd) (Lo5 a2 b2 L)) (T_cmp (a := .loc 5) (b := .loc 6) (σ1 := LW (Lv4 sc bk bd) (Lo4 a2 b2 L)) (by rfl) (E_comp ?_) (E_comp ?_) ?_) rfl (by kernel_rfl)
    · refine K_comp (c0 := []) (vs := []) (xs := implsV 0 bk) (ys := L) (σ1 := LW (Lv4 sc bk bd) (Lo3 a2 b2)) (σ2 := LL [] (Lo3 a2 b2)) (by kernel_rfl) (by kernel_rfl) ?_ (by kernel_rfl) hl (by omega) (by kernel_rfl)
      exact iter_attr (v := .fz (.lst (implsV 0 bk))) (σ1 := LW (Lv4 sc bk bd) (Lo3 a2 b2)) (by kernel_rfl) (iterV_list (ow' := Lo3 a2 b2) (by kernel_rfl) (by rw [implsV_length]; omega) rfl)
    · refine K_comp (c0 := []) (vs := []) (xs := bk.map rowV) (ys := L) (σ1 := LW (Lv4 sc bk bd) (Lo4 a2 b2 L)) (σ2 := LR [] (Lo4 a2 b2 L)) (by kernel_rfl) (by kernel_rfl) ?_ (by kernel_rfl) hr (by omega) (by kernel_rfl)
      exact iter_name (v := .fz (bookV bk)) (σ1 := LW (Lv4 sc bk bd) (Lo4 a2 b2 L)) (by kernel_rfl) (iterV_list (ow' := Lo4 a2 b2 L) (by kernel_rfl) (by rw [List.length_map]; omega) rfl)
    · show (eqF (.lst L) (.lst L)).map (!·) = _
      rw [hLe]; rfl
  have s6 : exStep tb1 (run tb1 (n + 99)) (at_ lwB 6) (LW (Lv4 sc bk bd) (Lo5 a2 b2 L)) = some (.next, LW (Lv4 sc bk bd) (Lo5 a3 b3 L)) :=
    X_for (σ1 := LW (Lv4 sc bk bd) (Lo5 a2 b2 L)) (I_range (k := 3) (by kernel_rfl) (by rfl) (by kernel_rfl) (by omega) rfl) hfor
  exact ⟨_, X_next s0 (X_next s1 (X_next s2 (X_next s3 (X_next s4 (X_next s5 (X_next s6 (X_ret (σ1 := LW (Lv4 sc bk bd) (Lo5 a3 b3 L)) (v := .fz (.bool true)) (by kernel_rfl))))))))⟩
end Xm

open PySem PySem.W PySem.Calls PyProof.Rows PySem.Spec
namespace Xm
open PyProof.Rows.LCg (NsObj ns_obj)
theorem well_ints {P : Params} {prog : Program} {w : World} {h : Heap} : ∀ (ns : List Int) (vs : List Value), WellAll P h vs (ns.map .int) → VFs prog w (GH h) vs (ns.map .int)
  | [], vs, x => by cases x; exact .nil
  | n :: r, vs, x => by
    cases x with
    | cons a b => cases a; exact .cons (.int _ _) (well_ints r _ b)
theorem well_script {P : Params} {prog : Program} {w : World} {h : Heap} {v : Value} {ns : List Int} (x : Well P h v (ofPy (.list (ns.map .int)))) : VF prog w (GH h) v (.lst (ns.map .int)) := by
  have e : ofPy (.list (ns.map .int)) = .list (ns.map .int) := by
    show WData.list (ofPys (ns.map .int)) = _
    rw [ofPys_ints]
  rw [e] at x
  cases x with
  | list a b => exact .lst a (well_ints ns _ (by simpa using b))
theorem law_run {prog : Program} {w : World} {K : Frag} {h₀ : Heap} (ok : Ok (dOf prog w K h₀)) {A : Around} (hA : A.handled = none) (hd : A.depth ≤ 700) (hu : A.units ≤ 8600) {env : Env} (hk : env.scope.kind = .function) {fs : List (Str × NameKind)} (hn : env.scope.names = fs) (hall : (fs.all fun p => p.2 != .cell) = true) (hloc : fs.lookup ("script" : Str) = some .local)
    (hg : env.globals = mainGlobals) (hb : env.builtins = builtinsNs) (hc : env.cells = []) {body : List Stmt} {sc : List Int} {σ' : AS} (e : (run tb1 100).ex body ⟨fs, [("script", .fz (.lst (sc.map .int)))], []⟩ = some (.ret (.fz (.bool true)), σ')) {s : Shared} {m : Str → Option Value} (F : Fr h₀ env.locals s.heap m) {v : Value} (hm : m "script" = some v) (hv : VF prog w (GH h₀) v (.lst (sc.map .int)))
    {Q : Flow → Shared → Prop} {E : Value → Shared → Prop} (k : ∀ h' tk, (∀ b o, h₀.get? b = some o → h'.get? b = some o) → Q (.ret (.bool true)) { s with heap := h', toks := tk }) : wpAny (model prog w) A (execs body env) Q E s := by
  obtain ⟨oL, hL, hN⟩ := ns_obj F.ns
  have hnone : h₀.get? env.locals = none := by
    cases q : h₀.get? env.locals with
    | none => rfl
    | some o => exact absurd (Heap.lt_size q) (Nat.not_lt.mpr F.above)
  have S : LSt (GH h₀) (fun _ => none) [(env.locals, oL)] s.heap := ⟨F.keep, fun a o h => (by cases h), fun p hp => by
    rw [List.mem_singleton] at hp
    subst hp
    exact ⟨hL, hnone, rfl⟩⟩
  have R : IRel (dOf prog w K h₀) env [env.locals] [] ⟨fs, [("script", .fz (.lst (sc.map .int)))], []⟩ (GH h₀) [(env.locals, oL)] := by
    have hcn : ∀ c ∈ env.cells, False := fun c h => by rw [hc] at h; cases h
    have hcl : ∀ x c, env.cells.lookup x = some c → False := fun x c h => by rw [hc] at h; cases h
    have hncell : ∀ x, fs.lookup x ≠ some .cell := by
      intro x h
      have := lookup_pair h
      have := List.all_eq_true.mp hall _ this
      simp at this
    refine ⟨fun x => .inl ?_, ⟨oL, m, .head _, hN, fun x av h => ?_⟩, fun c h => (hcn c h).elim, fun a h => (by cases h), fun x y c h => (hcl _ _ h).elim, .head _, fun x c _ h => (hcl _ _ h).elim, fun x h => (hncell x h).elim, fun a h => .inl (by simpa using h), ⟨fun i ao h => (by cases h), rfl, .nil, fun p hp q hq _ => ?_⟩⟩
    · show env.scope.names.lookup x = _
      rw [hn]
    · have h : (match x == ("script" : Str) with | true => some (AV.fz (.lst (sc.map .int))) | false => none) = some av := h
      cases hx : x == ("script" : Str) with
      | false => rw [hx] at h; cases h
      | true =>
        rw [hx] at h
        cases h
        have := eq_of_beq hx
        subst this
        refine ⟨v, .inl ⟨?_, hm⟩, .fz hv⟩
        show env.scope.names.lookup ("script" : Str) = _
        rw [hn]; exact hloc
    · rw [List.mem_singleton] at hp hq
      rw [hp, hq]
  have cx : Cx (dOf prog w K h₀) A 100 env := ⟨hA, by show A.depth + 2 * 100 ≤ 900; omega, by show A.units + 4 * 100 ≤ 9000; omega, hk, hg, hb⟩
  refine (sound ok rfl 100).ex _ _ _ e A (fun _ => none) (GH h₀) [(env.locals, oL)] [env.locals] [] env cx (fun a o h => h) R s Q E S fun f F' led' h' tk' p S' => ?_
  obtain ⟨ρ', st, hf, _⟩ := p
  cases hf with
  | ret hr =>
    cases hr with
    | fz hr =>
      cases hr
      exact k h' tk' fun b o ho => S'.fz _ _ (st.le _ _ ho)
theorem law_run2 {prog : Program} {w : World} {K : Frag} {h₀ : Heap} (ok : Ok (dOf prog w K h₀)) {A : Around} (hA : A.handled = none) (hd : A.depth ≤ 700) (hu : A.units ≤ 8600) {env : Env} (hk : env.scope.kind = .function) (hn : lawF.sc = env.scope.names)
    (hall : (env.scope.names.all fun p => p.2 != .cell) = true) (hloc : env.scope.names.lookup ("script" : Str) = some .local) (hg : env.globals = mainGlobals) (hb : env.builtins = builtinsNs) (hc : env.cells = []) {body : List Stmt} (hbody : lawF.body = body) {sc : List Int} {s : Shared} {m : Str → Option Value}
    (F : Fr h₀ env.locals s.heap m) {v : Value} (hm : m ("script" : Str) = some v) (hv : Well w.params h₀ v (ofPy (.list (sc.map .int)))) (hl : sc.length ≤ 63)
    {Q : Flow → Shared → Prop} {E : Value → Shared → Prop} (k : ∀ h' tk, (∀ b o, h₀.get? b = some o → h'.get? b = some o) → Q (.ret (.bool true)) { s with heap := h', toks := tk }) : wpAny (model prog w) A (execs body env) Q E s := by
  obtain ⟨σ', e⟩ := lawC 0 sc hl
  rw [hbody, hn] at e
  exact law_run ok hA hd hu hk rfl hall hloc hg hb hc e F hm (well_script hv) k
end Xm

namespace Xm
/-! the head, at once -/
noncomputable def vwKeep : List Nat := [0, 2, 3, 5, 6, 7, 8, 9, 11, 12, 13, 14, 15, 17, 18, 20, 21, 22, 23, 24, 25, 26, 27, 28, 29, 30, 31, 32, 33]
noncomputable def vw : Program := { PySem.Challenge.pw_xm0599_01 with main := { PySem.Challenge.pw_xm0599_01.main with body := vwKeep.filterMap fun i => PySem.Challenge.pw_xm0599_01.main.body[i]? } }
local macro_rules
  | `(tactic| o_head $H) => do
    let (hw, hc) := (Lean.mkIdent `hw, Lean.mkIdent `hc)
    `(tactic| refine holds_open (q := Xm.vw) (loose := [Str.ofString "LendError"]) (Xt := fun s => xlAt Xm.vw [] s && recOk (RowW.records (OpenRow.toRowW PySem.Challenge.rw_xm0599_01.row)) s) (XP := XL Xm.vw []) (Yf := Hook.obs $H) (Ya := Hook.val $H) (YP := Hook.says $H) (N := 4284) (by intro w; kernel_rfl)
      (Hook.of $H) (Hook.keeps $H) (fun s e => xl_of s (Bool.and_eq_true_iff.mp e).1) XL.keeps (by rfl) (by rfl) (by rfl) (fun s e => recFacts_of (Bool.and_eq_true_iff.mp e).2) (by rfl) (by first | assumption | decide +kernel) (by decide +kernel) ⟨rfl, rfl, rfl, rfl, rfl, by decide +kernel⟩ ?$hw ?$hc)
set_option maxHeartbeats 8000000 in
open_top hd for PySem.Challenge.rw_xm0599_01
end Xm

namespace Xm
noncomputable abbrev KP (P : Params) : Frag := hd.heap_39 P
@[elab_as_elim] theorem len0 {α : Type} {P : List α → Prop} (vs : List α) (e : vs.length = 0) (h : P []) : P vs := List.eq_nil_of_length_eq_zero e ▸ h
@[elab_as_elim] theorem lenS {α : Type} {n : Nat} {P : List α → Prop} : ∀ (vs : List α) (e : vs.length = n + 1) (h : ∀ a t, t.length = n → P (a :: t)), P vs
  | a :: t, e, h => h a t (Nat.succ.inj e)
section
variable (prog : Program) (w : World) (h₀ : Heap)
theorem fo61 : FOk (dOf prog w (KP w.params) h₀) 61 (fnI [] (findFn "head_pairs" top)) := by
  refine ⟨_, _, _, _, _, _, _, _, _, _, _, _, _, _, (by with_unfolding_all rfl), (by kernel_rfl), (by kernel_rfl), rfl, rfl, rfl, (by decide), (by decide), (by decide), [], rfl, fun F B => .nil, fun s X vs h1 h2 => ?_⟩
  exact lenS vs ((Nat.le_antisymm h1 h2 : vs.length = 2)) fun a2 t2 h2 => lenS t2 (h2) fun a1 t1 h1 => len0 t1 (h1) (BindsTo.of_eq (by kernel_rfl))
theorem fo68 : FOk (dOf prog w (KP w.params) h₀) 68 (fnI [] (findFn "could_be" top)) := by
  refine ⟨_, _, _, _, _, _, _, _, _, _, _, _, _, _, (by with_unfolding_all rfl), (by kernel_rfl), (by kernel_rfl), rfl, rfl, rfl, (by decide), (by decide), (by decide), [], rfl, fun F B => .nil, fun s X vs h1 h2 => ?_⟩
  exact lenS vs ((Nat.le_antisymm h1 h2 : vs.length = 2)) fun a2 t2 h2 => lenS t2 (h2) fun a1 t1 h1 => len0 t1 (h1) (BindsTo.of_eq (by kernel_rfl))
theorem fo75 : FOk (dOf prog w (KP w.params) h₀) 75 (fnI [] (findFn "match_type" top)) := by
  refine ⟨_, _, _, _, _, _, _, _, _, _, _, _, _, _, (by with_unfolding_all rfl), (by kernel_rfl), (by kernel_rfl), rfl, rfl, rfl, (by decide), (by decide), (by decide), [], rfl, fun F B => .nil, fun s X vs h1 h2 => ?_⟩
  exact lenS vs ((Nat.le_antisymm h1 h2 : vs.length = 4)) fun a4 t4 h4 => lenS t4 (h4) fun a3 t3 h3 => lenS t3 (h3) fun a2 t2 h2 => lenS t2 (h2) fun a1 t1 h1 => len0 t1 (h1) (BindsTo.of_eq (by kernel_rfl))
theorem fo82 : FOk (dOf prog w (KP w.params) h₀) 82 (fnI [] (findFn "match_all" top)) := by
  refine ⟨_, _, _, _, _, _, _, _, _, _, _, _, _, _, (by with_unfolding_all rfl), (by kernel_rfl), (by kernel_rfl), rfl, rfl, rfl, (by decide), (by decide), (by decide), [], rfl, fun F B => .nil, fun s X vs h1 h2 => ?_⟩
  exact lenS vs ((Nat.le_antisymm h1 h2 : vs.length = 4)) fun a4 t4 h4 => lenS t4 (h4) fun a3 t3 h3 => lenS t3 (h3) fun a2 t2 h2 => lenS t2 (h2) fun a1 t1 h1 => len0 t1 (h1) (BindsTo.of_eq (by kernel_rfl))
theorem fo87 : FOk (dOf prog w (KP w.params) h₀) 87 (fnI [] (findFn "names_of" top)) := by
  refine ⟨_, _, _, _, _, _, _, _, _, _, _, _, _, _, (by with_unfolding_all rfl), (by kernel_rfl), (by kernel_rfl), rfl, rfl, rfl, (by decide), (by decide), (by decide), [], rfl, fun F B => .nil, fun s X vs h1 h2 => ?_⟩
  exact lenS vs ((Nat.le_antisymm h1 h2 : vs.length = 1)) fun a1 t1 h1 => len0 t1 (h1) (BindsTo.of_eq (by kernel_rfl))
theorem fo94 : FOk (dOf prog w (KP w.params) h₀) 94 (fnI [] (findFn "matches_impl" top)) := by
  refine ⟨_, _, _, _, _, _, _, _, _, _, _, _, _, _, (by with_unfolding_all rfl), (by kernel_rfl), (by kernel_rfl), rfl, rfl, rfl, (by decide), (by decide), (by decide), [], rfl, fun F B => .nil, fun s X vs h1 h2 => ?_⟩
  exact lenS vs ((Nat.le_antisymm h1 h2 : vs.length = 3)) fun a3 t3 h3 => lenS t3 (h3) fun a2 t2 h2 => lenS t2 (h2) fun a1 t1 h1 => len0 t1 (h1) (BindsTo.of_eq (by kernel_rfl))
theorem fo101 : FOk (dOf prog w (KP w.params) h₀) 101 (fnI [] (findFn "is_plainly_copy" top)) := by
  refine ⟨_, _, _, _, _, _, _, _, _, _, _, _, _, _, (by with_unfolding_all rfl), (by kernel_rfl), (by kernel_rfl), rfl, rfl, rfl, (by decide), (by decide), (by decide), [], rfl, fun F B => .nil, fun s X vs h1 h2 => ?_⟩
  exact lenS vs ((Nat.le_antisymm h1 h2 : vs.length = 1)) fun a1 t1 h1 => len0 t1 (h1) (BindsTo.of_eq (by kernel_rfl))
theorem fo211 : FOk (dOf prog w (KP w.params) h₀) 211 (fnI [] (findFn "_law_pool" top)) := by
  refine ⟨_, _, _, _, _, _, _, _, _, _, _, _, _, _, (by with_unfolding_all rfl), (by kernel_rfl), (by kernel_rfl), rfl, rfl, rfl, (by decide), (by decide), (by decide), [], rfl, fun F B => .nil, fun s X vs h1 h2 => ?_⟩
  exact lenS vs ((Nat.le_antisymm h1 h2 : vs.length = 2)) fun a2 t2 h2 => lenS t2 (h2) fun a1 t1 h1 => len0 t1 (h1) (BindsTo.of_eq (by kernel_rfl))
theorem fo218 : FOk (dOf prog w (KP w.params) h₀) 218 (fnI [] (findFn "_law_take" top)) := by
  refine ⟨_, _, _, _, _, _, _, _, _, _, _, _, _, _, (by with_unfolding_all rfl), (by kernel_rfl), (by kernel_rfl), rfl, rfl, rfl, (by decide), (by decide), (by decide), [], rfl, fun F B => .nil, fun s X vs h1 h2 => ?_⟩
  exact lenS vs ((Nat.le_antisymm h1 h2 : vs.length = 2)) fun a2 t2 h2 => lenS t2 (h2) fun a1 t1 h1 => len0 t1 (h1) (BindsTo.of_eq (by kernel_rfl))
theorem fo225 : FOk (dOf prog w (KP w.params) h₀) 225 (fnI [] (findFn "_law_one" top)) := by
  refine ⟨_, _, _, _, _, _, _, _, _, _, _, _, _, _, (by with_unfolding_all rfl), (by kernel_rfl), (by kernel_rfl), rfl, rfl, rfl, (by decide), (by decide), (by decide), [], rfl, fun F B => .nil, fun s X vs h1 h2 => ?_⟩
  exact lenS vs ((Nat.le_antisymm h1 h2 : vs.length = 2)) fun a2 t2 h2 => lenS t2 (h2) fun a1 t1 h1 => len0 t1 (h1) (BindsTo.of_eq (by kernel_rfl))
theorem fo232 : FOk (dOf prog w (KP w.params) h₀) 232 (fnI [] (findFn "_law_head" top)) := by
  refine ⟨_, _, _, _, _, _, _, _, _, _, _, _, _, _, (by with_unfolding_all rfl), (by kernel_rfl), (by kernel_rfl), rfl, rfl, rfl, (by decide), (by decide), (by decide), [], rfl, fun F B => .nil, fun s X vs h1 h2 => ?_⟩
  exact lenS vs ((Nat.le_antisymm h1 h2 : vs.length = 1)) fun a1 t1 h1 => len0 t1 (h1) (BindsTo.of_eq (by kernel_rfl))
theorem fo239 : FOk (dOf prog w (KP w.params) h₀) 239 (fnI [] (findFn "_law_leaf" top)) := by
  refine ⟨_, _, _, _, _, _, _, _, _, _, _, _, _, _, (by with_unfolding_all rfl), (by kernel_rfl), (by kernel_rfl), rfl, rfl, rfl, (by decide), (by decide), (by decide), [], rfl, fun F B => .nil, fun s X vs h1 h2 => ?_⟩
  exact lenS vs ((Nat.le_antisymm h1 h2 : vs.length = 1)) fun a1 t1 h1 => len0 t1 (h1) (BindsTo.of_eq (by kernel_rfl))
theorem fo246 : FOk (dOf prog w (KP w.params) h₀) 246 (fnI [] (findFn "_law_asked" top)) := by
  refine ⟨_, _, _, _, _, _, _, _, _, _, _, _, _, _, (by with_unfolding_all rfl), (by kernel_rfl), (by kernel_rfl), rfl, rfl, rfl, (by decide), (by decide), (by decide), [], rfl, fun F B => .nil, fun s X vs h1 h2 => ?_⟩
  exact lenS vs ((Nat.le_antisymm h1 h2 : vs.length = 1)) fun a1 t1 h1 => len0 t1 (h1) (BindsTo.of_eq (by kernel_rfl))
theorem fo253 : FOk (dOf prog w (KP w.params) h₀) 253 (fnI [] (findFn "_law_same" top)) := by
  refine ⟨_, _, _, _, _, _, _, _, _, _, _, _, _, _, (by with_unfolding_all rfl), (by kernel_rfl), (by kernel_rfl), rfl, rfl, rfl, (by decide), (by decide), (by decide), [], rfl, fun F B => .nil, fun s X vs h1 h2 => ?_⟩
  exact lenS vs ((Nat.le_antisymm h1 h2 : vs.length = 2)) fun a2 t2 h2 => lenS t2 (h2) fun a1 t1 h1 => len0 t1 (h1) (BindsTo.of_eq (by kernel_rfl))
theorem fo260 : FOk (dOf prog w (KP w.params) h₀) 260 (fnI [] (findFn "_law_fit" top)) := by
  refine ⟨_, _, _, _, _, _, _, _, _, _, _, _, _, _, (by with_unfolding_all rfl), (by kernel_rfl), (by kernel_rfl), rfl, rfl, rfl, (by decide), (by decide), (by decide), [], rfl, fun F B => .nil, fun s X vs h1 h2 => ?_⟩
  exact lenS vs ((Nat.le_antisymm h1 h2 : vs.length = 2)) fun a2 t2 h2 => lenS t2 (h2) fun a1 t1 h1 => len0 t1 (h1) (BindsTo.of_eq (by kernel_rfl))
theorem fo267 : FOk (dOf prog w (KP w.params) h₀) 267 (fnI [] (findFn "_law_rows" top)) := by
  refine ⟨_, _, _, _, _, _, _, _, _, _, _, _, _, _, (by with_unfolding_all rfl), (by kernel_rfl), (by kernel_rfl), rfl, rfl, rfl, (by decide), (by decide), (by decide), [], rfl, fun F B => .nil, fun s X vs h1 h2 => ?_⟩
  exact lenS vs ((Nat.le_antisymm h1 h2 : vs.length = 5)) fun a5 t5 h5 => lenS t5 (h5) fun a4 t4 h4 => lenS t4 (h4) fun a3 t3 h3 => lenS t3 (h3) fun a2 t2 h2 => lenS t2 (h2) fun a1 t1 h1 => len0 t1 (h1) (BindsTo.of_eq (by kernel_rfl))
theorem fo272 : FOk (dOf prog w (KP w.params) h₀) 272 (fnI [] (findFn "_law_answer" top)) := by
  refine ⟨_, _, _, _, _, _, _, _, _, _, _, _, _, _, (by with_unfolding_all rfl), (by kernel_rfl), (by kernel_rfl), rfl, rfl, rfl, (by decide), (by decide), (by decide), [], rfl, fun F B => .nil, fun s X vs h1 h2 => ?_⟩
  exact lenS vs ((Nat.le_antisymm h1 h2 : vs.length = 5)) fun a5 t5 h5 => lenS t5 (h5) fun a4 t4 h4 => lenS t4 (h4) fun a3 t3 h3 => lenS t3 (h3) fun a2 t2 h2 => lenS t2 (h2) fun a1 t1 h1 => len0 t1 (h1) (BindsTo.of_eq (by kernel_rfl))
theorem fo277 : FOk (dOf prog w (KP w.params) h₀) 277 (fnI [] (findFn "_law_book" top)) := by
  refine ⟨_, _, _, _, _, _, _, _, _, _, _, _, _, _, (by with_unfolding_all rfl), (by kernel_rfl), (by kernel_rfl), rfl, rfl, rfl, (by decide), (by decide), (by decide), [], rfl, fun F B => .nil, fun s X vs h1 h2 => ?_⟩
  exact lenS vs ((Nat.le_antisymm h1 h2 : vs.length = 1)) fun a1 t1 h1 => len0 t1 (h1) (BindsTo.of_eq (by kernel_rfl))
theorem fo282 : FOk (dOf prog w (KP w.params) h₀) 282 (fnI [] (findFn "_law_world" top)) := by
  refine ⟨_, _, _, _, _, _, _, _, _, _, _, _, _, _, (by with_unfolding_all rfl), (by kernel_rfl), (by kernel_rfl), rfl, rfl, rfl, (by decide), (by decide), (by decide), [], rfl, fun F B => .nil, fun s X vs h1 h2 => ?_⟩
  exact lenS vs ((Nat.le_antisymm h1 h2 : vs.length = 1)) fun a1 t1 h1 => len0 t1 (h1) (BindsTo.of_eq (by kernel_rfl))
theorem fo287 : FOk (dOf prog w (KP w.params) h₀) 287 (fnI [] (findFn "_law_asked_right" top)) := by
  refine ⟨_, _, _, _, _, _, _, _, _, _, _, _, _, _, (by with_unfolding_all rfl), (by kernel_rfl), (by kernel_rfl), rfl, rfl, rfl, (by decide), (by decide), (by decide), [], rfl, fun F B => .nil, fun s X vs h1 h2 => ?_⟩
  exact lenS vs ((Nat.le_antisymm h1 h2 : vs.length = 5)) fun a5 t5 h5 => lenS t5 (h5) fun a4 t4 h4 => lenS t4 (h4) fun a3 t3 h3 => lenS t3 (h3) fun a2 t2 h2 => lenS t2 (h2) fun a1 t1 h1 => len0 t1 (h1) (BindsTo.of_eq (by kernel_rfl))
theorem fo115 : FOk (dOf prog w (KP w.params) h₀) 115 (fnI [] (findFn "__init__" (findCls "Selection" top))) := by
  refine ⟨_, _, _, _, _, _, _, _, _, _, _, _, _, _, (by with_unfolding_all rfl), (by kernel_rfl), (by kernel_rfl), rfl, rfl, rfl, (by decide), (by decide), (by decide), [], rfl, fun F B => .nil, fun s X vs h1 h2 => ?_⟩
  exact lenS vs ((Nat.le_antisymm h1 h2 : vs.length = 3)) fun a3 t3 h3 => lenS t3 (h3) fun a2 t2 h2 => lenS t2 (h2) fun a1 t1 h1 => len0 t1 (h1) (BindsTo.of_eq (by kernel_rfl))
theorem fo122 : FOk (dOf prog w (KP w.params) h₀) 122 (fnI [] (findFn "bound_of" (findCls "Selection" top))) := by
  refine ⟨_, _, _, _, _, _, _, _, _, _, _, _, _, _, (by with_unfolding_all rfl), (by kernel_rfl), (by kernel_rfl), rfl, rfl, rfl, (by decide), (by decide), (by decide), [], rfl, fun F B => .nil, fun s X vs h1 h2 => ?_⟩
  exact lenS vs ((Nat.le_antisymm h1 h2 : vs.length = 3)) fun a3 t3 h3 => lenS t3 (h3) fun a2 t2 h2 => lenS t2 (h2) fun a1 t1 h1 => len0 t1 (h1) (BindsTo.of_eq (by kernel_rfl))
theorem fo127 : FOk (dOf prog w (KP w.params) h₀) 127 (fnI [] (findFn "needs_of" (findCls "Selection" top))) := by
  refine ⟨_, _, _, _, _, _, _, _, _, _, _, _, _, _, (by with_unfolding_all rfl), (by kernel_rfl), (by kernel_rfl), rfl, rfl, rfl, (by decide), (by decide), (by decide), [], rfl, fun F B => .nil, fun s X vs h1 h2 => ?_⟩
  exact lenS vs ((Nat.le_antisymm h1 h2 : vs.length = 3)) fun a3 t3 h3 => lenS t3 (h3) fun a2 t2 h2 => lenS t2 (h2) fun a1 t1 h1 => len0 t1 (h1) (BindsTo.of_eq (by kernel_rfl))
theorem fo134 : FOk (dOf prog w (KP w.params) h₀) 134 (fnI [] (findFn "candidates" (findCls "Selection" top))) := by
  refine ⟨_, _, _, _, _, _, _, _, _, _, _, _, _, _, (by with_unfolding_all rfl), (by kernel_rfl), (by kernel_rfl), rfl, rfl, rfl, (by decide), (by decide), (by decide), [], rfl, fun F B => .nil, fun s X vs h1 h2 => ?_⟩
  exact lenS vs ((Nat.le_antisymm h1 h2 : vs.length = 5)) fun a5 t5 h5 => lenS t5 (h5) fun a4 t4 h4 => lenS t4 (h4) fun a3 t3 h3 => lenS t3 (h3) fun a2 t2 h2 => lenS t2 (h2) fun a1 t1 h1 => len0 t1 (h1) (BindsTo.of_eq (by kernel_rfl))
theorem fo141 : FOk (dOf prog w (KP w.params) h₀) 141 (fnI [] (findFn "asked" (findCls "Selection" top))) := by
  refine ⟨_, _, _, _, _, _, _, _, _, _, _, _, _, _, (by with_unfolding_all rfl), (by kernel_rfl), (by kernel_rfl), rfl, rfl, rfl, (by decide), (by decide), (by decide), [], rfl, fun F B => .nil, fun s X vs h1 h2 => ?_⟩
  exact lenS vs ((Nat.le_antisymm h1 h2 : vs.length = 5)) fun a5 t5 h5 => lenS t5 (h5) fun a4 t4 h4 => lenS t4 (h4) fun a3 t3 h3 => lenS t3 (h3) fun a2 t2 h2 => lenS t2 (h2) fun a1 t1 h1 => len0 t1 (h1) (BindsTo.of_eq (by kernel_rfl))
theorem fo146 : FOk (dOf prog w (KP w.params) h₀) 146 (fnI [] (findFn "answer_of" (findCls "Selection" top))) := by
  refine ⟨_, _, _, _, _, _, _, _, _, _, _, _, _, _, (by with_unfolding_all rfl), (by kernel_rfl), (by kernel_rfl), rfl, rfl, rfl, (by decide), (by decide), (by decide), [], rfl, fun F B => .nil, fun s X vs h1 h2 => ?_⟩
  exact lenS vs ((Nat.le_antisymm h1 h2 : vs.length = 5)) fun a5 t5 h5 => lenS t5 (h5) fun a4 t4 h4 => lenS t4 (h4) fun a3 t3 h3 => lenS t3 (h3) fun a2 t2 h2 => lenS t2 (h2) fun a1 t1 h1 => len0 t1 (h1) (BindsTo.of_eq (by kernel_rfl))
theorem fo168 : FOk (dOf prog w (KP w.params) h₀) 168 (fnI [.int 0] (findFn "__init__" (findCls "ImplRow" top))) := by
  refine ⟨_, _, _, _, _, _, _, _, _, _, _, _, _, _, (by with_unfolding_all rfl), (by kernel_rfl), (by kernel_rfl), rfl, rfl, rfl, (by decide), (by decide), (by decide), [.int 0 426], rfl, fun F B => .cons (.int _ _) .nil, fun s X vs h1 h2 => ?_⟩
  have h1 : vs.length ≤ 9 := h1
  have h2 : 9 ≤ vs.length + 1 := h2
  have hl : vs.length = 9 ∨ vs.length = 8 := by omega
  rcases hl with hl | hl
  · exact lenS vs (hl) fun a9 t9 h9 => lenS t9 (h9) fun a8 t8 h8 => lenS t8 (h8) fun a7 t7 h7 => lenS t7 (h7) fun a6 t6 h6 => lenS t6 (h6) fun a5 t5 h5 => lenS t5 (h5) fun a4 t4 h4 => lenS t4 (h4) fun a3 t3 h3 => lenS t3 (h3) fun a2 t2 h2 => lenS t2 (h2) fun a1 t1 h1 => len0 t1 (h1) (BindsTo.of_defaults rfl (X 161 _ (by with_unfolding_all rfl)) rfl rfl rfl)
  · exact lenS vs (hl) fun a8 t8 h8 => lenS t8 (h8) fun a7 t7 h7 => lenS t7 (h7) fun a6 t6 h6 => lenS t6 (h6) fun a5 t5 h5 => lenS t5 (h5) fun a4 t4 h4 => lenS t4 (h4) fun a3 t3 h3 => lenS t3 (h3) fun a2 t2 h2 => lenS t2 (h2) fun a1 t1 h1 => len0 t1 (h1) (BindsTo.of_defaults rfl (X 161 _ (by with_unfolding_all rfl)) rfl rfl rfl)
theorem fo190 : FOk (dOf prog w (KP w.params) h₀) 190 (fnI [.none] (findFn "__init__" (findCls "World" top))) := by
  refine ⟨_, _, _, _, _, _, _, _, _, _, _, _, _, _, (by with_unfolding_all rfl), (by kernel_rfl), (by kernel_rfl), rfl, rfl, rfl, (by decide), (by decide), (by decide), [.none], rfl, fun F B => .cons (.none) .nil, fun s X vs h1 h2 => ?_⟩
  have h1 : vs.length ≤ 2 := h1
  have h2 : 2 ≤ vs.length + 1 := h2
  have hl : vs.length = 2 ∨ vs.length = 1 := by omega
  rcases hl with hl | hl
  · exact lenS vs (hl) fun a2 t2 h2 => lenS t2 (h2) fun a1 t1 h1 => len0 t1 (h1) (BindsTo.of_defaults rfl (X 183 _ (by with_unfolding_all rfl)) rfl rfl rfl)
  · exact lenS vs (hl) fun a1 t1 h1 => len0 t1 (h1) (BindsTo.of_defaults rfl (X 183 _ (by with_unfolding_all rfl)) rfl rfl rfl)
theorem go0 : GOk (dOf prog w (KP w.params) h₀) "head_pairs" (.fn 61) := ⟨.inl (by kernel_rfl), by kernel_rfl⟩
theorem go1 : GOk (dOf prog w (KP w.params) h₀) "could_be" (.fn 68) := ⟨.inl (by kernel_rfl), by kernel_rfl⟩
theorem go2 : GOk (dOf prog w (KP w.params) h₀) "match_type" (.fn 75) := ⟨.inl (by kernel_rfl), by kernel_rfl⟩
theorem go3 : GOk (dOf prog w (KP w.params) h₀) "match_all" (.fn 82) := ⟨.inl (by kernel_rfl), by kernel_rfl⟩
theorem go4 : GOk (dOf prog w (KP w.params) h₀) "names_of" (.fn 87) := ⟨.inl (by kernel_rfl), by kernel_rfl⟩
theorem go5 : GOk (dOf prog w (KP w.params) h₀) "matches_impl" (.fn 94) := ⟨.inl (by kernel_rfl), by kernel_rfl⟩
theorem go6 : GOk (dOf prog w (KP w.params) h₀) "is_plainly_copy" (.fn 101) := ⟨.inl (by kernel_rfl), by kernel_rfl⟩
theorem go7 : GOk (dOf prog w (KP w.params) h₀) "_law_pool" (.fn 211) := ⟨.inl (by kernel_rfl), by kernel_rfl⟩
theorem go8 : GOk (dOf prog w (KP w.params) h₀) "_law_take" (.fn 218) := ⟨.inl (by kernel_rfl), by kernel_rfl⟩
theorem go9 : GOk (dOf prog w (KP w.params) h₀) "_law_one" (.fn 225) := ⟨.inl (by kernel_rfl), by kernel_rfl⟩
theorem go10 : GOk (dOf prog w (KP w.params) h₀) "_law_head" (.fn 232) := ⟨.inl (by kernel_rfl), by kernel_rfl⟩
theorem go11 : GOk (dOf prog w (KP w.params) h₀) "_law_leaf" (.fn 239) := ⟨.inl (by kernel_rfl), by kernel_rfl⟩
theorem go12 : GOk (dOf prog w (KP w.params) h₀) "_law_asked" (.fn 246) := ⟨.inl (by kernel_rfl), by kernel_rfl⟩
theorem go13 : GOk (dOf prog w (KP w.params) h₀) "_law_same" (.fn 253) := ⟨.inl (by kernel_rfl), by kernel_rfl⟩
theorem go14 : GOk (dOf prog w (KP w.params) h₀) "_law_fit" (.fn 260) := ⟨.inl (by kernel_rfl), by kernel_rfl⟩
theorem go15 : GOk (dOf prog w (KP w.params) h₀) "_law_rows" (.fn 267) := ⟨.inl (by kernel_rfl), by kernel_rfl⟩
theorem go16 : GOk (dOf prog w (KP w.params) h₀) "_law_answer" (.fn 272) := ⟨.inl (by kernel_rfl), by kernel_rfl⟩
theorem go17 : GOk (dOf prog w (KP w.params) h₀) "_law_book" (.fn 277) := ⟨.inl (by kernel_rfl), by kernel_rfl⟩
theorem go18 : GOk (dOf prog w (KP w.params) h₀) "_law_world" (.fn 282) := ⟨.inl (by kernel_rfl), by kernel_rfl⟩
theorem go19 : GOk (dOf prog w (KP w.params) h₀) "_law_asked_right" (.fn 287) := ⟨.inl (by kernel_rfl), by kernel_rfl⟩
theorem go20 : GOk (dOf prog w (KP w.params) h₀) "Selection" (.cls 149) := ⟨.inl (by kernel_rfl), by kernel_rfl⟩
theorem go21 : GOk (dOf prog w (KP w.params) h₀) "ImplRow" (.cls 171) := ⟨.inl (by kernel_rfl), by kernel_rfl⟩
theorem go22 : GOk (dOf prog w (KP w.params) h₀) "World" (.cls 200) := ⟨.inl (by kernel_rfl), by kernel_rfl⟩
theorem go23 : GOk (dOf prog w (KP w.params) h₀) "zip" (.ty "zip") := .inr ⟨(by kernel_rfl), (by kernel_rfl), by decide⟩
theorem go24 : GOk (dOf prog w (KP w.params) h₀) "list" (.ty "list") := .inr ⟨(by kernel_rfl), (by kernel_rfl), by decide⟩
theorem go25 : GOk (dOf prog w (KP w.params) h₀) "tuple" (.ty "tuple") := .inr ⟨(by kernel_rfl), (by kernel_rfl), by decide⟩
theorem go26 : GOk (dOf prog w (KP w.params) h₀) "int" (.ty "int") := .inr ⟨(by kernel_rfl), (by kernel_rfl), by decide⟩
theorem go27 : GOk (dOf prog w (KP w.params) h₀) "enumerate" (.ty "enumerate") := .inr ⟨(by kernel_rfl), (by kernel_rfl), by decide⟩
theorem go28 : GOk (dOf prog w (KP w.params) h₀) "range" (.ty "range") := .inr ⟨(by kernel_rfl), (by kernel_rfl), by decide⟩
theorem go29 : GOk (dOf prog w (KP w.params) h₀) "len" (.bi "len") := .inr ⟨(by kernel_rfl), (by kernel_rfl), by decide⟩
theorem go30 : GOk (dOf prog w (KP w.params) h₀) "max" (.bi "max") := .inr ⟨(by kernel_rfl), (by kernel_rfl), by decide⟩
theorem go31 : GOk (dOf prog w (KP w.params) h₀) "min" (.bi "min") := .inr ⟨(by kernel_rfl), (by kernel_rfl), by decide⟩
theorem go32 : GOk (dOf prog w (KP w.params) h₀) "COPY" (.cst (.str "Copy")) := ⟨_, .inl (by with_unfolding_all rfl), fun F B => .str _ _⟩
theorem go33 : GOk (dOf prog w (KP w.params) h₀) "MOST_DEEP" (.cst (.int 60)) := ⟨_, .inl (by with_unfolding_all rfl), fun F B => .int _ _⟩
theorem goAll : ∀ q ∈ gTab, GOk (dOf prog w (KP w.params) h₀) q.1 q.2 := by
  unfold gTab
  refine List.forall_mem_cons.mpr ⟨go0 prog w h₀, ?_⟩
  refine List.forall_mem_cons.mpr ⟨go1 prog w h₀, ?_⟩
  refine List.forall_mem_cons.mpr ⟨go2 prog w h₀, ?_⟩
  refine List.forall_mem_cons.mpr ⟨go3 prog w h₀, ?_⟩
  refine List.forall_mem_cons.mpr ⟨go4 prog w h₀, ?_⟩
  refine List.forall_mem_cons.mpr ⟨go5 prog w h₀, ?_⟩
  refine List.forall_mem_cons.mpr ⟨go6 prog w h₀, ?_⟩
  refine List.forall_mem_cons.mpr ⟨go7 prog w h₀, ?_⟩
  refine List.forall_mem_cons.mpr ⟨go8 prog w h₀, ?_⟩
  refine List.forall_mem_cons.mpr ⟨go9 prog w h₀, ?_⟩
  refine List.forall_mem_cons.mpr ⟨go10 prog w h₀, ?_⟩
  refine List.forall_mem_cons.mpr ⟨go11 prog w h₀, ?_⟩
  refine List.forall_mem_cons.mpr ⟨go12 prog w h₀, ?_⟩
  refine List.forall_mem_cons.mpr ⟨go13 prog w h₀, ?_⟩
  refine List.forall_mem_cons.mpr ⟨go14 prog w h₀, ?_⟩
  refine List.forall_mem_cons.mpr ⟨go15 prog w h₀, ?_⟩
  refine List.forall_mem_cons.mpr ⟨go16 prog w h₀, ?_⟩
  refine List.forall_mem_cons.mpr ⟨go17 prog w h₀, ?_⟩
  refine List.forall_mem_cons.mpr ⟨go18 prog w h₀, ?_⟩
  refine List.forall_mem_cons.mpr ⟨go19 prog w h₀, ?_⟩
  refine List.forall_mem_cons.mpr ⟨go20 prog w h₀, ?_⟩
  refine List.forall_mem_cons.mpr ⟨go21 prog w h₀, ?_⟩
  refine List.forall_mem_cons.mpr ⟨go22 prog w h₀, ?_⟩
  refine List.forall_mem_cons.mpr ⟨go23 prog w h₀, ?_⟩
  refine List.forall_mem_cons.mpr ⟨go24 prog w h₀, ?_⟩
  refine List.forall_mem_cons.mpr ⟨go25 prog w h₀, ?_⟩
  refine List.forall_mem_cons.mpr ⟨go26 prog w h₀, ?_⟩
  refine List.forall_mem_cons.mpr ⟨go27 prog w h₀, ?_⟩
  refine List.forall_mem_cons.mpr ⟨go28 prog w h₀, ?_⟩
  refine List.forall_mem_cons.mpr ⟨go29 prog w h₀, ?_⟩
  refine List.forall_mem_cons.mpr ⟨go30 prog w h₀, ?_⟩
  refine List.forall_mem_cons.mpr ⟨go31 prog w h₀, ?_⟩
  refine List.forall_mem_cons.mpr ⟨go32 prog w h₀, ?_⟩
  refine List.forall_mem_cons.mpr ⟨go33 prog w h₀, ?_⟩
  exact fun _ h => nomatch h
theorem foAll : ∀ q ∈ fTab, FOk (dOf prog w (KP w.params) h₀) q.1 q.2 := by
  unfold fTab
  refine List.forall_mem_cons.mpr ⟨fo61 prog w h₀, ?_⟩
  refine List.forall_mem_cons.mpr ⟨fo68 prog w h₀, ?_⟩
  refine List.forall_mem_cons.mpr ⟨fo75 prog w h₀, ?_⟩
  refine List.forall_mem_cons.mpr ⟨fo82 prog w h₀, ?_⟩
  refine List.forall_mem_cons.mpr ⟨fo87 prog w h₀, ?_⟩
  refine List.forall_mem_cons.mpr ⟨fo94 prog w h₀, ?_⟩
  refine List.forall_mem_cons.mpr ⟨fo101 prog w h₀, ?_⟩
  refine List.forall_mem_cons.mpr ⟨fo211 prog w h₀, ?_⟩
  refine List.forall_mem_cons.mpr ⟨fo218 prog w h₀, ?_⟩
  refine List.forall_mem_cons.mpr ⟨fo225 prog w h₀, ?_⟩
  refine List.forall_mem_cons.mpr ⟨fo232 prog w h₀, ?_⟩
  refine List.forall_mem_cons.mpr ⟨fo239 prog w h₀, ?_⟩
  refine List.forall_mem_cons.mpr ⟨fo246 prog w h₀, ?_⟩
  refine List.forall_mem_cons.mpr ⟨fo253 prog w h₀, ?_⟩
  refine List.forall_mem_cons.mpr ⟨fo260 prog w h₀, ?_⟩
  refine List.forall_mem_cons.mpr ⟨fo267 prog w h₀, ?_⟩
  refine List.forall_mem_cons.mpr ⟨fo272 prog w h₀, ?_⟩
  refine List.forall_mem_cons.mpr ⟨fo277 prog w h₀, ?_⟩
  refine List.forall_mem_cons.mpr ⟨fo282 prog w h₀, ?_⟩
  refine List.forall_mem_cons.mpr ⟨fo287 prog w h₀, ?_⟩
  refine List.forall_mem_cons.mpr ⟨fo115 prog w h₀, ?_⟩
  refine List.forall_mem_cons.mpr ⟨fo122 prog w h₀, ?_⟩
  refine List.forall_mem_cons.mpr ⟨fo127 prog w h₀, ?_⟩
  refine List.forall_mem_cons.mpr ⟨fo134 prog w h₀, ?_⟩
  refine List.forall_mem_cons.mpr ⟨fo141 prog w h₀, ?_⟩
  refine List.forall_mem_cons.mpr ⟨fo146 prog w h₀, ?_⟩
  refine List.forall_mem_cons.mpr ⟨fo168 prog w h₀, ?_⟩
  refine List.forall_mem_cons.mpr ⟨fo190 prog w h₀, ?_⟩
  exact fun _ h => nomatch h
theorem mo122 : MOk (dOf prog w (KP w.params) h₀) 149 "bound_of" 122 := ⟨(by kernel_rfl), (by kernel_rfl), (by kernel_rfl), (by kernel_rfl), by kernel_rfl⟩
theorem mo127 : MOk (dOf prog w (KP w.params) h₀) 149 "needs_of" 127 := ⟨(by kernel_rfl), (by kernel_rfl), (by kernel_rfl), (by kernel_rfl), by kernel_rfl⟩
theorem mo134 : MOk (dOf prog w (KP w.params) h₀) 149 "candidates" 134 := ⟨(by kernel_rfl), (by kernel_rfl), (by kernel_rfl), (by kernel_rfl), by kernel_rfl⟩
theorem mo141 : MOk (dOf prog w (KP w.params) h₀) 149 "asked" 141 := ⟨(by kernel_rfl), (by kernel_rfl), (by kernel_rfl), (by kernel_rfl), by kernel_rfl⟩
theorem mo146 : MOk (dOf prog w (KP w.params) h₀) 149 "answer_of" 146 := ⟨(by kernel_rfl), (by kernel_rfl), (by kernel_rfl), (by kernel_rfl), by kernel_rfl⟩
theorem moAll : ∀ q ∈ mTab, MOk (dOf prog w (KP w.params) h₀) 149 q.1 q.2 := by
  unfold mTab
  refine List.forall_mem_cons.mpr ⟨mo122 prog w h₀, ?_⟩
  refine List.forall_mem_cons.mpr ⟨mo127 prog w h₀, ?_⟩
  refine List.forall_mem_cons.mpr ⟨mo134 prog w h₀, ?_⟩
  refine List.forall_mem_cons.mpr ⟨mo141 prog w h₀, ?_⟩
  refine List.forall_mem_cons.mpr ⟨mo146 prog w h₀, ?_⟩
  exact fun _ h => nomatch h
theorem ao149_0 : AOk (dOf prog w (KP w.params) h₀) 149 "world" := ⟨(by kernel_rfl), ⟨_, (by with_unfolding_all rfl), by kernel_rfl⟩, by kernel_rfl⟩
theorem ao149_1 : AOk (dOf prog w (KP w.params) h₀) 149 "bounds" := ⟨(by kernel_rfl), ⟨_, (by with_unfolding_all rfl), by kernel_rfl⟩, by kernel_rfl⟩
theorem ao149_2 : AOk (dOf prog w (KP w.params) h₀) 149 "known" := ⟨(by kernel_rfl), ⟨_, (by with_unfolding_all rfl), by kernel_rfl⟩, by kernel_rfl⟩
theorem ao171_0 : AOk (dOf prog w (KP w.params) h₀) 171 "number" := ⟨(by kernel_rfl), ⟨_, (by with_unfolding_all rfl), by kernel_rfl⟩, by kernel_rfl⟩
theorem ao171_1 : AOk (dOf prog w (KP w.params) h₀) 171 "params" := ⟨(by kernel_rfl), ⟨_, (by with_unfolding_all rfl), by kernel_rfl⟩, by kernel_rfl⟩
theorem ao171_2 : AOk (dOf prog w (KP w.params) h₀) 171 "trait" := ⟨(by kernel_rfl), ⟨_, (by with_unfolding_all rfl), by kernel_rfl⟩, by kernel_rfl⟩
theorem ao171_3 : AOk (dOf prog w (KP w.params) h₀) 171 "trait_args" := ⟨(by kernel_rfl), ⟨_, (by with_unfolding_all rfl), by kernel_rfl⟩, by kernel_rfl⟩
theorem ao171_4 : AOk (dOf prog w (KP w.params) h₀) 171 "self_type" := ⟨(by kernel_rfl), ⟨_, (by with_unfolding_all rfl), by kernel_rfl⟩, by kernel_rfl⟩
theorem ao200_0 : AOk (dOf prog w (KP w.params) h₀) 200 "impls" := ⟨(by kernel_rfl), ⟨_, (by with_unfolding_all rfl), by kernel_rfl⟩, by kernel_rfl⟩
theorem io149 : IOk (dOf prog w (KP w.params) h₀) 149 115 := by
  refine ⟨(by kernel_rfl), (by kernel_rfl), (by kernel_rfl), (by kernel_rfl), fun fi e => ?_⟩
  have e2 : fi = fnI [] (findFn "__init__" (findCls "Selection" top)) := Option.some.inj (e.symm.trans (by kernel_rfl))
  subst e2
  have e3 : attrNames (fnI [] (findFn "__init__" (findCls "Selection" top))).body = (["world", "bounds", "known"] : List Str) := by kernel_rfl
  rw [e3]
  refine ⟨(by kernel_rfl), (by kernel_rfl), (by kernel_rfl), ?_⟩
  refine List.forall_mem_cons.mpr ⟨(by kernel_rfl), ?_⟩
  refine List.forall_mem_cons.mpr ⟨(by kernel_rfl), ?_⟩
  refine List.forall_mem_cons.mpr ⟨(by kernel_rfl), ?_⟩
  exact fun _ h => nomatch h
theorem io171 : IOk (dOf prog w (KP w.params) h₀) 171 168 := by
  refine ⟨(by kernel_rfl), (by kernel_rfl), (by kernel_rfl), (by kernel_rfl), fun fi e => ?_⟩
  have e2 : fi = fnI [.int 0] (findFn "__init__" (findCls "ImplRow" top)) := Option.some.inj (e.symm.trans (by kernel_rfl))
  subst e2
  have e3 : attrNames (fnI [.int 0] (findFn "__init__" (findCls "ImplRow" top))).body = (["number", "regions", "params", "trait", "trait_args", "self_type", "methods", "spot"] : List Str) := by kernel_rfl
  rw [e3]
  refine ⟨(by kernel_rfl), (by kernel_rfl), (by kernel_rfl), ?_⟩
  refine List.forall_mem_cons.mpr ⟨(by kernel_rfl), ?_⟩
  refine List.forall_mem_cons.mpr ⟨(by kernel_rfl), ?_⟩
  refine List.forall_mem_cons.mpr ⟨(by kernel_rfl), ?_⟩
  refine List.forall_mem_cons.mpr ⟨(by kernel_rfl), ?_⟩
  refine List.forall_mem_cons.mpr ⟨(by kernel_rfl), ?_⟩
  refine List.forall_mem_cons.mpr ⟨(by kernel_rfl), ?_⟩
  refine List.forall_mem_cons.mpr ⟨(by kernel_rfl), ?_⟩
  refine List.forall_mem_cons.mpr ⟨(by kernel_rfl), ?_⟩
  exact fun _ h => nomatch h
theorem io200 : IOk (dOf prog w (KP w.params) h₀) 200 190 := by
  refine ⟨(by kernel_rfl), (by kernel_rfl), (by kernel_rfl), (by kernel_rfl), fun fi e => ?_⟩
  have e2 : fi = fnI [.none] (findFn "__init__" (findCls "World" top)) := Option.some.inj (e.symm.trans (by kernel_rfl))
  subst e2
  have e3 : attrNames (fnI [.none] (findFn "__init__" (findCls "World" top))).body = (["modules", "adts", "variants", "sigs", "traits", "impls", "consts", "bodies"] : List Str) := by kernel_rfl
  rw [e3]
  refine ⟨(by kernel_rfl), (by kernel_rfl), (by kernel_rfl), ?_⟩
  refine List.forall_mem_cons.mpr ⟨(by kernel_rfl), ?_⟩
  refine List.forall_mem_cons.mpr ⟨(by kernel_rfl), ?_⟩
  refine List.forall_mem_cons.mpr ⟨(by kernel_rfl), ?_⟩
  refine List.forall_mem_cons.mpr ⟨(by kernel_rfl), ?_⟩
  refine List.forall_mem_cons.mpr ⟨(by kernel_rfl), ?_⟩
  refine List.forall_mem_cons.mpr ⟨(by kernel_rfl), ?_⟩
  refine List.forall_mem_cons.mpr ⟨(by kernel_rfl), ?_⟩
  refine List.forall_mem_cons.mpr ⟨(by kernel_rfl), ?_⟩
  exact fun _ h => nomatch h
theorem okD (X : (KP w.params).In h₀) (T : ∃ p loose mg mb, TopRead p loose mg mb h₀) (nl : h₀.NoLimit) (sm : ∃ o, h₀.get? sysModules = some o) : Ok (dOf prog w (KP w.params) h₀) where
  X := X
  T := T
  nl := nl
  kn := knM rfl
  dm := show 900 + 50 < recursionLimit by decide
  um := show 9000 + 300 < cLine by decide
  sm := sm
  G := fun x g e => goAll prog w h₀ _ (lookup_pair e)
  F := fun a f e => foAll prog w h₀ _ (lookupN_pair e)
  M := fun c m f e => by
    have e : (if c == 149 then mTab.lookup m else none) = some f := e
    split at e
    · rename_i h; rw [beq_iff_eq.mp h]; exact moAll prog w h₀ _ (lookup_pair e)
    · cases e
  A := fun c a e => by
    have e : (aTab c).contains a = true := e
    unfold aTab at e
    split at e
    · rename_i h; rw [beq_iff_eq.mp h]
      simp only [List.contains_cons, List.contains_nil, Bool.or_false, Bool.or_eq_true, beq_iff_eq] at e
      rcases e with rfl | rfl | rfl
      · exact ao149_0 prog w h₀
      · exact ao149_1 prog w h₀
      · exact ao149_2 prog w h₀
    split at e
    · rename_i h; rw [beq_iff_eq.mp h]
      simp only [List.contains_cons, List.contains_nil, Bool.or_false, Bool.or_eq_true, beq_iff_eq] at e
      rcases e with rfl | rfl | rfl | rfl | rfl
      · exact ao171_0 prog w h₀
      · exact ao171_1 prog w h₀
      · exact ao171_2 prog w h₀
      · exact ao171_3 prog w h₀
      · exact ao171_4 prog w h₀
    split at e
    · rename_i h; rw [beq_iff_eq.mp h]
      simp only [List.contains_cons, List.contains_nil, Bool.or_false, Bool.or_eq_true, beq_iff_eq] at e
      subst e
      exact ao200_0 prog w h₀
    cases e
  I := fun c f e => by
    have h := lookupN_pair (show iTab.lookup c = some f from e)
    simp only [iTab, List.mem_cons, Prod.mk.injEq, List.not_mem_nil, or_false] at h
    rcases h with ⟨rfl, rfl⟩ | ⟨rfl, rfl⟩ | ⟨rfl, rfl⟩
    · exact io149 prog w h₀
    · exact io171 prog w h₀
    · exact io200 prog w h₀
end
end Xm
set_option maxRecDepth 100000 in
set_option maxHeartbeats 8000000 in
theorem PySem.Challenge.cw_xm0599_01_holds : PySem.Challenge.rw_xm0599_01.Holds :=
  Xm.hd (by
  k_go0
  all_goals (try k_fold)
  rename_i w s₀ s₁ mg mb G Y fa o pm doc kV ho hg KX X V GL T B TE TW w9 w8 M w7 w6 hcd sc hs hlay0 hL1 hr1 hl2 w4 w3 w2 wv w0 hL ra w1 r0 hI hr hcond1 hcond K0 hD h₁ F N0
  have ok := Xm.okD PySem.Challenge.rw_xm0599_01.row.prog w s₁.heap KX ⟨_, _, _, _, topRead_of T⟩ T.nolimit (by obtain ⟨mm, ⟨o, _, _, e, _⟩, _⟩ := GL.seer.mods; exact ⟨o, e⟩)
  refine Xm.law_run2 ok ?_ ?_ ?_ ?_ ?_ ?_ ?_ ?_ ?_ ?_ ?_ (sc := sc) F ?_ w1 ?_ ?_
  case refine_1 => exact rfl
  case refine_2 => show 302 ≤ 700; decide
  case refine_3 => show 7 ≤ 8600; decide
  case refine_4 => kernel_rfl
  case refine_5 => kernel_rfl
  case refine_6 => kernel_rfl
  case refine_7 => kernel_rfl
  case refine_8 => kernel_rfl
  case refine_9 => kernel_rfl
  case refine_10 => kernel_rfl
  case refine_11 => kernel_rfl
  case refine_12 => kernel_rfl
  case refine_13 => omega
  intro h' tk kp
  have hpost : PySem.Challenge.rw_xm0599_01.row.claim.post [ofPy (PyData.list (List.map PyData.int sc))] (.bool true) [ofPy (PyData.list (List.map PyData.int sc))] = true := by kernel_rfl
  have hrs : ∀ cls, PySem.Challenge.rw_xm0599_01.row.claim.raises [ofPy (PyData.list (List.map PyData.int sc))] cls = false := fun cls => by kernel_rfl
  refine And.intro (.inl ⟨.bool true, .bool true, [], by kernel_rfl, ?_, .bool true, ?_, fun _ => ⟨.nil, fun a h => nomatch h⟩⟩) ⟨kp, ?_, ?_⟩
  · exact hrs
  · exact hpost
  · exact rfl
  · exact hg)

