import PyProof.Rows.All
import Wide.All
import OpenK.AllK
import Wide.FinOn
import Lean
import PySem.Challenge.RW_nz0254_01
set_option Elab.async false
set_option bootstrap.genMatcherCode false
set_option linter.all false
set_option tactic.hygienic false
set_option maxRecDepth 1000000
set_option maxHeartbeats 8000000
namespace Mine
open PySem PySem.W PySem.Calls
section
open PyProof.Rows
open Sem (wp)
theorem ch {p : Prop} (h : ∀ G : Prop, (p -> G) -> G) : p := h p id
noncomputable def badIds : List String := Builtin.Bytes.decodersThatHold ++ ["bytearray.__contains__", "bytearray.__mod__", "bytearray.__rmod__", "_struct.pack_into.held", "bytearray.find.held"]
noncomputable def okc : Code -> Bool
 | .builtin id _ => !badIds.contains id
 | _ => true
noncomputable def Nd (Γ : Ctx) : Prop := okc Γ.code = true /\ ∀ e ∈ Γ.below, okc e.1 = true
noncomputable def wpG {α : Type} (P : Bool) (M : Model) (A : Around) (t : Sem α) (Q : α -> Shared -> Prop) (E : Value -> Shared -> Prop) (s : Shared) : Prop :=
 ∀ Γ p, Γ.In A -> (P = true -> Nd Γ) -> wp M Γ t (fun a _ s' => Q a s') (fun e _ s' => E e s') p s
noncomputable def codeG (P : Bool) (M : Model) (A : Around) (c : Code) (R : Result -> Shared -> Prop) (s : Shared) : Prop :=
 ∀ Γ p, Γ.code = c -> Γ.Below A -> (P = true -> ∀ e ∈ Γ.below, okc e.1 = true) -> wpCode M Γ R p s
section
variable {α β : Type} {P : Bool} {M : Model} {A : Around} {E : Value -> Shared -> Prop} {s : Shared}
theorem wpG.of {t : Sem α} {Q : α -> Shared -> Prop} (h : wpAny M A t Q E s) : wpG P M A t Q E s := fun Γ p hΓ _ => h Γ p hΓ
theorem wpG.any {t : Sem α} {Q : α -> Shared -> Prop} (h : wpG false M A t Q E s) : wpAny M A t Q E s := fun Γ p hΓ => h Γ p hΓ (fun e => nomatch e)
theorem codeG.mono {c : Code} {R R' : Result -> Shared -> Prop} (h : codeG P M A c R s) (q : ∀ r s', R r s' -> R' r s') : codeG P M A c R' s := fun Γ p hc hΓ hP => wpCode_mono q (h Γ p hc hΓ hP)
theorem wpG.mono {t : Sem α} {Q Q' : α -> Shared -> Prop} {E' : Value -> Shared -> Prop} (h : wpG P M A t Q E s) (hQ : ∀ a s, Q a s -> Q' a s) (hE : ∀ e s, E e s -> E' e s) : wpG P M A t Q' E' s :=
 fun Γ p hΓ hP => Sem.wp_mono M Γ t (fun a _ s => hQ a s) (fun e _ s => hE e s) p s (h Γ p hΓ hP)
theorem wpG.pure {a : α} {Q : α -> Shared -> Prop} (h : Q a s) : wpG P M A (pure a) Q E s := .of (wpAny_pure h)
theorem wpG.bind {m : Sem α} {f : α -> Sem β} {Q : β -> Shared -> Prop} (h : wpG P M A m (fun a s' => wpG P M A (f a) Q E s') E s) : wpG P M A (m >>= f) Q E s := fun Γ p hΓ hP => by
 rw [Sem.wp_bind']
 exact Sem.wp_mono M Γ m (fun a p' s' h' => h' Γ p' hΓ hP) (fun _ _ _ h' => h') p s (h Γ p hΓ hP)
theorem wpG.then {m : Sem α} {f : α -> Sem β} {Q : β -> Shared -> Prop} (h : wpAny M A m (fun a s' => wpG P M A (f a) Q E s') E s) : wpG P M A (m >>= f) Q E s := .bind (.of h)
theorem wpG.onRaise {m : Sem α} {k : Value -> Sem Unit} {Q : α -> Shared -> Prop} (h : wpG P M A m Q (fun e s' => wpG P M A (k e) (fun _ s'' => E e s'') E s') s) : wpG P M A (m.onRaise k) Q E s := fun Γ p hΓ hP => by
 rw [Sem.wp_onRaise]
 exact Sem.wp_mono M Γ m (fun _ _ _ h' => h') (fun e p' s' h' => h' Γ p' hΓ hP) p s (h Γ p hΓ hP)
theorem wpG.attempt {m : Sem α} {Q : Except Value α -> Shared -> Prop} (h : wpG P M A m (fun a => Q (.ok a)) (fun e => Q (.error e)) s) : wpG P M A m.attempt Q E s := fun Γ p hΓ hP => by
 rw [Sem.wp_attempt]; exact h Γ p hΓ hP
theorem wpG.holding {vs : List Value} {m : Sem α} {Q : α -> Shared -> Prop} (h : wpG P M A m Q E s) : wpG P M A (holding vs m) Q E s := fun Γ p hΓ hP => by
 rw [Sem.wp_holding]; exact h Γ p hΓ hP
theorem wpG.keep {vs : List Value} {m : Sem α} {Q : α -> Shared -> Prop} (h : wpG P M A m Q E s) : wpG P M A (m.keep vs) Q E s := fun Γ p hΓ hP => by
 rw [Sem.wp_keep]; exact h Γ p hΓ hP
theorem wpG.ite {c : Prop} [Decidable c] {a b : Sem α} {Q : α -> Shared -> Prop} (h : if c then wpG P M A a Q E s else wpG P M A b Q E s) : wpG P M A (if c then a else b) Q E s := by split <;> simp_all
theorem wpG.operate {vs : List Value} {m : Sem Value} {Q : Value -> Shared -> Prop} (h : wpG P M A m Q E s) : wpG P M A (operate vs m) Q E s := fun Γ p hΓ hP => by
 rw [Sem.wp_operate]; exact h Γ p hΓ hP
theorem Nd.enter {Γ : Ctx} (h : Nd Γ) (c : Code) (hd : Option Value) (p : Pos) : ∀ e ∈ (Γ.enter c hd p).below, okc e.1 = true := fun e he => by
 rcases List.mem_cons.mp he with rfl | he
 ·exact h.1
 ·exact h.2 e he
theorem wpG.run {c : Code} {h : Option Value} {Q : Flow -> Shared -> Prop} (hc : codeG P M (A.mark h) c (fun r s' => match r with | .ok f => Q f s' | .error e => E e s') s) (hnb : h ≠ some byPass := by intro x; cases x) :
  wpG P M A (run c h) Q E s := fun Γ p hΓ hP => by rw [Sem.wp_run]; exact hc _ p rfl (hΓ.enter c h p hnb) fun e => (hP e).enter c h p
theorem wpG.runValue {c : Code} {Q : Value -> Shared -> Prop} (hc : codeG P M A c (fun r s' => match r with | .ok (.ret v) => Q v s' | .ok _ => False | .error e => E e s') s) :
  wpG P M A (runValue c) Q E s := fun Γ p hΓ hP => by rw [Sem.wp_runValue]; exact hc _ p rfl (hΓ.enter c none p (by intro x; cases x)) fun e => (hP e).enter c none p
theorem wpG.call {f : Value} {pos : List Value} {kw : List (Str × Value)} {Q : Value -> Shared -> Prop}
  (hc : codeG P M A (.call f ⟨pos, kw⟩) (fun r s' => match r with | .ok (.ret v) => Q v s' | .ok _ => False | .error e => E e s') s) : wpG P M A (call f pos kw) Q E s := .runValue hc
theorem codeG.tree {c : Code} {R : Result -> Shared -> Prop} (hok : okc c = true)
  (h : wpG P M (A.under c) (M.den c) (fun fin s' => match fin with | .done f => R (.ok f) s' | .again c' => c'.quiet = true /\ codeG P M A c' R s') (fun e s' => R (.error e) s') s) : codeG P M A c R s := fun Γ p hc hΓ hP => by
 rw [wpCode_iff_wp, hc]
 refine Sem.wp_mono M Γ _ (fun fin p' s' h' => ?_) (fun _ _ _ h' => h') p s (h Γ p (hc ▸ hΓ.in) fun e => ⟨hc ▸ hok, hP e⟩)
 cases fin with
 | done f => exact h'
 | again c' => exact ⟨h'.1, h'.2 (Γ.goto c') p' rfl (hΓ.goto c') hP⟩
theorem codeG.entry {prog : Program} {w : World} {id : String} {args : Args} {b : Builtin} {R : Result -> Shared -> Prop} (hok : okc (.builtin id args) = true) (he : entryFor table id = some b)
  (h : wpG P (model prog w) (A.under (.builtin id args)) (b args) (fun fin s' => match fin with | .done f => R (.ok f) s' | .again c' => c'.quiet = true /\ codeG P (model prog w) A c' R s') (fun e s' => R (.error e) s') s) : codeG P (model prog w) A (.builtin id args) R s := by
 refine codeG.tree hok ?_
 show wpG _ _ _ (match entryFor table id with | some b => b args | none => unsupported ((withoutEnding? id "#data").getD id)) _ _ _
 rw [he]; exact h
theorem codeG.callB {prog : Program} {w : World} {id : String} {args : Args} {R : Result -> Shared -> Prop} (hq : (Code.builtin id args).quiet = true)
  (h : wpAny (model prog w) A.in1 (checkBuiltinCall id args) (fun _ s' => codeG P (model prog w) A (.builtin id args) R s') (fun e s' => R (.error e) s') s) : codeG P (model prog w) A (.call (.builtin id) args) R s := by
 refine codeG.tree rfl ?_
 show wpG _ _ _ (checkBuiltinCall id args >>= fun _ => again (.builtin id args)) _ _ _
 exact wpG.then (wpAny_mono h (fun _ _ k => wpG.pure ⟨hq, k⟩) fun _ _ k => k)
theorem codeG.K {c : Code} {R : Result -> Shared -> Prop} (hok : okc c = true) (h : ∀ (K : PySem.Fin -> Shared -> Prop) (E : Value -> Shared -> Prop), (∀ f s', R (.ok f) s' -> K (.done f) s') -> (∀ c' s', c'.quiet = true -> codeG P M A c' R s' -> K (.again c') s') -> (∀ e s', R (.error e) s' -> E e s') -> wpG P M (A.under c) (M.den c) K E s) : codeG P M A c R s :=
 codeG.tree hok (h _ _ (fun _ _ k => k) (fun _ _ q k => ⟨q, k⟩) (fun _ _ k => k))
theorem codeG.entryK {prog : Program} {w : World} {id : String} {args : Args} {b : Builtin} {R : Result -> Shared -> Prop} (hok : okc (.builtin id args) = true) (he : entryFor table id = some b)
  (h : ∀ (K : PySem.Fin -> Shared -> Prop) (E : Value -> Shared -> Prop), (∀ f s', R (.ok f) s' -> K (.done f) s') -> (∀ e s', R (.error e) s' -> E e s') -> wpG P (model prog w) (A.under (.builtin id args)) (b args) K E s) : codeG P (model prog w) A (.builtin id args) R s :=
 codeG.entry hok he (h _ _ (fun _ _ k => k) fun _ _ k => k)
theorem any_ok {f : Code × Pos -> Bool} (key : ∀ e : Code × Pos, okc e.1 = true -> f e = false) (l : List (Code × Pos)) (hl : ∀ e ∈ l, okc e.1 = true) : l.any f = false := by
 rw [List.any_eq_false]
 intro e he
 rw [key e (hl e he)]; exact Bool.false_ne_true
theorem not_dec {id : String} (he : badIds.contains id = false) : Builtin.Bytes.decodersThatHold.contains id = false := by
 cases q : Builtin.Bytes.decodersThatHold.contains id with
 | false => rfl
 | true =>
  have : badIds.contains id = true := by
   unfold badIds
   rw [List.contains_iff_mem] at q ⊢
   exact List.mem_append_left _ q
  rw [this] at he; cases he
theorem exp_key (self : Value) (e : Code × Pos) (he : okc e.1 = true) : Builtin.Bytes.exported.match_1 (fun _ => Bool) e (fun v _ _ _ => Builtin.Bytes.sameRef v self) (fun v _ _ _ => Builtin.Bytes.sameRef v self) (fun _ v _ _ _ => Builtin.Bytes.sameRef v self)
  (fun v _ _ _ => Builtin.Bytes.sameRef v self) (fun _ _ held _ _ => held.any (Builtin.Bytes.sameRef self)) (fun id v _ _ _ => Builtin.Bytes.sameRef v self && Builtin.Bytes.decodersThatHold.contains id) (fun _ => false) = false := by
 obtain ⟨c, p⟩ := e
 cases c with
 | builtin id args =>
  have hb : badIds.contains id = false := (Bool.not_eq_true' _).mp he
  have n : ∀ k, badIds.contains k = true -> id ≠ k := fun k hk e => by rw [e, hk] at hb; cases hb
  delta Builtin.Bytes.exported.match_1
  refine (dif_neg (n "bytearray.__contains__" (by decide +kernel))).trans ?_
  refine (dif_neg (n "bytearray.__mod__" (by decide +kernel))).trans ?_
  refine (dif_neg (n "bytearray.__rmod__" (by decide +kernel))).trans ?_
  refine (dif_neg (n "_struct.pack_into.held" (by decide +kernel))).trans ?_
  refine (dif_neg (n "bytearray.find.held" (by decide +kernel))).trans ?_
  obtain ⟨pos, kw⟩ := args
  cases pos with
  | nil => rfl
  | cons v t => exact (congrArg (_ && ·) (not_dec hb)).trans (Bool.and_false _)
 | _ => rfl
theorem exported_ok {self : Value} {Q : Bool -> Shared -> Prop} (h : Q false s) : wpG true M A (Builtin.Bytes.exported self) Q E s := fun Γ p hΓ hP => by
 have nd := hP rfl
 have e := any_ok (exp_key self) ((Γ.code, p) :: Γ.below) (fun e he => by
  rcases List.mem_cons.mp he with rfl | he
  ·exact nd.1
  ·exact nd.2 e he)
 exact (congrArg (fun b => Q b s) e).mpr h
end
end
section
set_option genSizeOf false
inductive MV where
 | non | bool (b : Bool) | int (i : Int) | str (s : Str) | bytes (b : List UInt8) | ref (a : Addr) | junk
noncomputable def era : Value -> MV
 | .none => .non
 | .bool b => .bool b
 | .int i _ => .int i
 | .str s _ => .str s
 | .bytes b _ => .bytes b.toList
 | .ref a => .ref a
 | _ => .junk
inductive MO where
 | list (xs : List MV)
 | ro (xs : List MV)
 | tuple (xs : List MV)
 | inst (C d : Addr) (fs : List (Nat × MV))
 | barr (b : List UInt8)
 | idict (es : List (Int × MV))
 | tdict (k : List Int) (v : MV)
 | iset (xs : List Int)
noncomputable abbrev HH := Addr -> Option MO
noncomputable def upd (H : HH) (a : Addr) (o : MO) : HH := fun b => if b = a then some o else H b
noncomputable abbrev FF := List (Option MV)
theorem upd_same (H : HH) (a : Addr) (o : MO) : upd H a o a = some o := by simp [upd]
theorem upd_ne {H : HH} {a b : Addr} {o : MO} (h : b ≠ a) : upd H a o b = H b := by simp [upd, h]
noncomputable def FF.get (F : FF) (i : Nat) : Option MV := (F[i]?).join
noncomputable def FF.put (F : FF) (i : Nat) (v : MV) : FF := F.set i (some v)
inductive BI where
 | len | abs | int | min | sum | str | list | tuple | set | bytes | bytearray
 deriving DecidableEq
inductive BM where
 | append | add | get | join | index | bitlen
 deriving DecidableEq
inductive BK where
 | lapp | bapp | add | get | join | index | bitlen
 deriving DecidableEq
set_option genInjectivity false
mutual
inductive E where
 | int (i : Int) | str (s : Str) | non | bool (b : Bool)
 | loc (i : Nat)
 | bin (op : Operator) (l r : E)
 | neg (e : E) | not (e : E)
 | cmp (op : CmpOp) (l r : E) | cmp2 (o1 o2 : CmpOp) (a b c : E)
 | and (l : L) | or (l : L)
 | ite (c a b : E)
 | attr (o : E) (f : Nat) | sub (o i : E) | slc (o lo hi : E)
 | bi (b : BI) (args : L) | fn (f : Addr) (args : L) | new (C : Addr) (args : L)
 | meth (o : E) (f : Nat) (args : L) | bm (o : E) (m : BM) (args : L)
 | list (es : L) | tup (es : L) | dict (k v : E) | edict
 | comp (elt : E) (v : Nat) (it : IT) (m : List (Option Nat))
 | comp2 (elt : E) (v : Nat) (it : IT) (v2 : Nat) (it2 : IT) (m : List (Option Nat))
inductive L where
 | nil | cons (e : E) (l : L)
inductive IT where
 | ex (e : E) | up (lo hi : E) | down (lo hi : E)
end
inductive T where
 | loc (i : Nat) | attr (o : E) (f : Nat) | sub (o i : E) | locs (is : List Nat)
mutual
inductive S where
 | ex (e : E) | asg (t : T) (e : E) | asg2 (is : List Nat) (es : L)
 | ife (c : E) (a b : B) | whl (c : E) (b : B) | forr (t : T) (it : IT) (b : B)
 | ret (e : E) | rais (C : Addr) | tryx (e : E) (C1 : Addr) (s1 : Str) (C2 : Addr) (s2 : Str) | dead
inductive B where
 | nil | cons (s : S) (b : B)
end
set_option genInjectivity true
inductive Fl where
 | next | ret (v : MV)
inductive ItS where
 | up (cur : Int) (n : Nat) | down (cur : Int) (n : Nat) | list (a : Addr) (i : Nat) | tuple (xs : List MV) | bytes (bs : List UInt8)
noncomputable abbrev QE := MV -> HH -> Prop
noncomputable abbrev QX := Addr -> HH -> Prop
noncomputable abbrev QS := Fl -> FF -> HH -> Prop
set_option genInjectivity false in
set_option genSizeOf false in
structure CA where
 call : Addr -> List MV -> HH -> QE -> QX -> Prop
 app : Prop
 comp : E -> Nat -> Option (Nat × IT) -> ItS -> Addr -> FF -> HH -> (FF -> HH -> Prop) -> QX -> Prop
set_option genInjectivity false in
set_option genSizeOf false in
structure Atoms where
 ca : CA
 whl : E -> B -> FF -> HH -> QS -> QX -> Prop
 forr : T -> B -> ItS -> FF -> HH -> QS -> QX -> Prop
noncomputable def lookF (f : Nat) : List (Nat × MV) -> Option MV
 | [] => none
 | (g, v) :: r => if g = f then some v else lookF f r
noncomputable def putF (f : Nat) (v : MV) : List (Nat × MV) -> List (Nat × MV)
 | [] => [(f, v)]
 | (g, u) :: r => if g = f then (g, v) :: r else (g, u) :: putF f v r
noncomputable def seqOf : MO -> Option (List MV)
 | .list xs => some xs
 | .ro xs => some xs
 | .tuple xs => some xs
 | _ => none
noncomputable def mvi (xs : List Int) : List MV := xs.map .int
noncomputable def Rows (H : HH) : List MV -> List (List Int) -> Prop
 | [], [] => True
 | p :: ps, r :: rs => (∃ a, p = .ref a /\ H a = some (.list (mvi r))) /\ Rows H ps rs
 | _, _ => False
noncomputable def binV (cs : List Nat) : Nat := cs.foldl (fun n c => n * 2 + (c - 48)) 0
noncomputable def small (x : Int) : Prop := -(2 ^ 62) < x /\ x < 2 ^ 62
noncomputable def int? (v : MV) (k : Int -> Prop) : Prop := match v with | .int x => k x | _ => False
noncomputable def ref? (v : MV) (k : Addr -> Prop) : Prop := match v with | .ref p => k p | _ => False
noncomputable def str? (v : MV) (k : Str -> Prop) : Prop := match v with | .str x => k x | _ => False
noncomputable def bool? (v : MV) (k : Bool -> Prop) : Prop := match v with | .bool x => k x | _ => False
noncomputable def non? (v : MV) (p : Prop) : Prop := match v with | .non => p | _ => False
noncomputable def some? {α : Type} (o : Option α) (k : α -> Prop) : Prop := match o with | some v => k v | none => False
noncomputable def noneG {α : Type} (o : Option α) (p : Prop) : Prop := match o with | none => p | _ => False
noncomputable def inst? (o : Option MO) (k : Addr -> Addr -> List (Nat × MV) -> Prop) : Prop := some? o fun o => match o with | .inst C d fs => k C d fs | _ => False
noncomputable def list? (o : Option MO) (k : List MV -> Prop) : Prop := some? o fun o => match o with | .list xs => k xs | _ => False
noncomputable def tup? (o : Option MO) (k : List MV -> Prop) : Prop := some? o fun o => match o with | .tuple xs => k xs | _ => False
noncomputable def barr? (o : Option MO) (k : List UInt8 -> Prop) : Prop := some? o fun o => match o with | .barr xs => k xs | _ => False
noncomputable def iset? (o : Option MO) (k : List Int -> Prop) : Prop := some? o fun o => match o with | .iset xs => k xs | _ => False
noncomputable def one? (vs : List MV) (k : MV -> Prop) : Prop := match vs with | [] => False | v :: r => match r with | [] => k v | _ => False
noncomputable def two? (vs : List MV) (k : MV -> MV -> Prop) : Prop := match vs with | [] => False | v :: r => one? r (k v)
noncomputable def zero? (vs : List MV) (p : Prop) : Prop := match vs with | [] => p | _ => False
noncomputable def isB (t : MV) (a b : Prop) : Prop := bool? t fun q => (q = true -> a) /\ (q = false -> b)
noncomputable def njG (v : MV) (p : Prop) : Prop := match v with | .junk => False | _ => p
noncomputable def exG (v : MV) (p : Prop) : Prop := match v with | .junk => False | .ref _ => False | _ => p
noncomputable def isNon (v : MV) : Bool := match v with | .non => true | _ => false
section
variable {p : Prop} {v : MV} {vs : List MV}
theorem bool_ex {k : Bool -> Prop} (h : bool? v k) : ∃ x, v = .bool x /\ k x := by cases v with | bool x => exact ⟨x, rfl, h⟩ | _ => exact h.elim
theorem some_ex {α : Type} {o : Option α} {k : α -> Prop} (h : some? o k) : ∃ x, o = some x /\ k x := by cases o with | some x => exact ⟨x, rfl, h⟩ | _ => exact h.elim
theorem noneG_ex {α : Type} {o : Option α} (h : noneG o p) : o = none /\ p := by cases o with | none => exact ⟨rfl, h⟩ | _ => exact h.elim
theorem inst_ex {o : Option MO} {k : Addr -> Addr -> List (Nat × MV) -> Prop} (h : inst? o k) : ∃ C d fs, o = some (.inst C d fs) /\ k C d fs := by
 obtain ⟨o, rfl, h⟩ := some_ex h
 cases o with | inst C d fs => exact ⟨C, d, fs, rfl, h⟩ | _ => exact h.elim
theorem list_ex {o : Option MO} {k : List MV -> Prop} (h : list? o k) : ∃ x, o = some (.list x) /\ k x := by
 obtain ⟨o, rfl, h⟩ := some_ex h
 cases o with | list x => exact ⟨x, rfl, h⟩ | _ => exact h.elim
theorem tup_ex {o : Option MO} {k : List MV -> Prop} (h : tup? o k) : ∃ x, o = some (.tuple x) /\ k x := by
 obtain ⟨o, rfl, h⟩ := some_ex h
 cases o with | tuple x => exact ⟨x, rfl, h⟩ | _ => exact h.elim
theorem barr_ex {o : Option MO} {k : List UInt8 -> Prop} (h : barr? o k) : ∃ x, o = some (.barr x) /\ k x := by
 obtain ⟨o, rfl, h⟩ := some_ex h
 cases o with | barr x => exact ⟨x, rfl, h⟩ | _ => exact h.elim
theorem iset_ex {o : Option MO} {k : List Int -> Prop} (h : iset? o k) : ∃ x, o = some (.iset x) /\ k x := by
 obtain ⟨o, rfl, h⟩ := some_ex h
 cases o with | iset x => exact ⟨x, rfl, h⟩ | _ => exact h.elim
theorem njG_ex (h : njG v p) : v ≠ .junk /\ p := by cases v <;> first | exact ⟨nofun, h⟩ | exact h.elim
theorem exG_ex (h : exG v p) : (∀ a, v ≠ .ref a) /\ v ≠ .junk /\ p := by cases v <;> first | exact ⟨nofun, nofun, h⟩ | exact h.elim
end
noncomputable def mkSeq (H : HH) (o : MO) (Q : QE) : Prop := ∀ c, H c = none -> Q (.ref c) (upd H c o)
noncomputable def ii (a b : MV) (k : Int -> Int -> Prop) : Prop := int? a fun x => int? b (k x)
noncomputable def opB (op : Operator) (a b : MV) (H : HH) (Q : QE) : Prop :=
 match op with
 | .Add => (match a with
  | .ref p => ref? b fun q => list? (H p) fun xs => list? (H q) fun ys => xs.length + ys.length <= 1000 /\ mkSeq H (.list (xs ++ ys)) Q
  | a => ii a b fun x y => Q (.int (x + y)) H)
 | .Sub => ii a b fun x y => Q (.int (x - y)) H
 | .Mult => (match a with
  | .ref p => int? b fun n => list? (H p) fun xs => one? xs fun x => 0 <= n /\ n <= 1000 /\ mkSeq H (.list (List.replicate n.toNat x)) Q
  | a => ii a b fun x y => (small x \/ small y) /\ Q (.int (x * y)) H)
 | .FloorDiv => ii a b fun x y => 0 < y /\ y < 2 ^ 62 /\ Q (.int (x / y)) H
 | .Mod => ii a b fun x y => 0 < y /\ Q (.int (x % y)) H
 | .Pow => ii a b fun x y => (x = 2 \/ x = 10) /\ 0 <= y /\ y <= 64 /\ Q (.int (x ^ y.toNat)) H
 | .LShift => ii a b fun x y => 0 <= y /\ y <= 64 /\ small x /\ Q (.int (x * 2 ^ y.toNat)) H
 | .RShift => ii a b fun x y => 0 <= y /\ Q (.int (x / 2 ^ y.toNat)) H
 | .BitAnd => ii a b fun x y => 0 <= x /\ 0 <= y /\ Q (.int ((x.toNat &&& y.toNat : Nat) : Int)) H
 | .BitOr => ii a b fun x y => 0 <= x /\ 0 <= y /\ Q (.int ((x.toNat ||| y.toNat : Nat) : Int)) H
 | _ => False
noncomputable def eqV (a b : MV) (H : HH) (Q : Bool -> Prop) : Prop :=
  match a with
  | .int x => int? b fun y => Q (decide (x = y))
  | .str x => str? b fun y => Q (decide (x = y))
  | .ref p => ref? b fun q => (∃ xs ys, H p = some (.list (mvi xs)) /\ H q = some (.list (mvi ys)) /\ Q (decide (xs = ys))) \/
      (∃ ps qs rs ss, H p = some (.list ps) /\ H q = some (.list qs) /\ ps.length <= 8 /\ qs.length <= 8 /\ Rows H ps rs /\ Rows H qs ss /\ Q (decide (rs = ss)))
  | _ => False
noncomputable def opC (op : CmpOp) (a b : MV) (H : HH) (Q : QE) : Prop :=
 match op with
 | .Lt => ii a b fun x y => Q (.bool (decide (x < y))) H
 | .LtE => ii a b fun x y => Q (.bool (decide (x <= y))) H
 | .Gt => ii a b fun x y => Q (.bool (decide (y < x))) H
 | .GtE => ii a b fun x y => Q (.bool (decide (y <= x))) H
 | .Eq => eqV a b H fun r => Q (.bool r) H
 | .NotEq => eqV a b H fun r => Q (.bool (!r)) H
 | .Is => non? b (njG a (Q (.bool (isNon a)) H))
 | .In => (match a with
  | .str c => str? b fun s => ∃ k, c.cps.toList = [k] /\ Q (.bool (decide (k ∈ s.cps.toList))) H
  | a => int? a fun x => ref? b fun p => iset? (H p) fun xs => xs.length <= 1000 /\ Q (.bool (decide (x ∈ xs))) H)
 | _ => False
noncomputable def lenV (v : MV) (H : HH) (Q : QE) : Prop :=
 match v with
 | .ref a => some? (H a) fun o => some? (seqOf o) fun xs => xs.length <= 1000000 /\ Q (.int xs.length) H
 | .bytes x => x.length <= 1000000 /\ Q (.int x.length) H
 | .str s => s.cps.toList.length <= 1000000 /\ Q (.int s.cps.toList.length) H
 | _ => False
noncomputable def intV (vs : List MV) (H : HH) (Q : QE) : Prop :=
 match vs with
 | [] => False
 | v :: r => match r with
  | [] => (match v with
   | .bool x => Q (.int (if x then 1 else 0)) H
   | v => int? v fun x => Q (.int x) H)
  | w :: r => zero? r (str? v fun s => int? w fun x => x = 2 /\ s.cps.toList ≠ [] /\ s.cps.toList.length <= 600 /\ (∀ c ∈ s.cps.toList, c = 48 \/ c = 49) /\ Q (.int (binV s.cps.toList)) H)
noncomputable def minV (vs : List MV) (H : HH) (Q : QE) : Prop :=
 match vs with
 | [] => False
 | v :: r => match r with
  | [] => ref? v fun a => ∃ xs, H a = some (.list (mvi xs)) /\ xs ≠ [] /\ xs.length <= 100 /\ ∀ m, m ∈ xs -> (∀ y ∈ xs, m <= y) -> Q (.int m) H
  | w :: r => zero? r (ii v w fun x y => Q (.int (if y < x then y else x)) H)
noncomputable def lst1 (vs : List MV) (H : HH) (k : List MV -> Prop) : Prop := one? vs fun v => ref? v fun a => list? (H a) k
noncomputable def bcall (b : BI) (vs : List MV) (H : HH) (Q : QE) : Prop :=
 match b with
 | .len => one? vs fun v => lenV v H Q
 | .abs => one? vs fun v => int? v fun x => Q (.int (if x < 0 then -x else x)) H
 | .int => intV vs H Q
 | .min => minV vs H Q
 | .sum => one? vs fun v => ref? v fun a => ∃ xs, H a = some (.list (mvi xs)) /\ xs.length <= 100 /\ Q (.int xs.sum) H
 | .str => one? vs fun v => int? v fun x => 0 <= x /\ x <= 9 /\ Q (.str ⟨#[48 + x.toNat]⟩) H
 | .list => lst1 vs H fun xs => xs.length <= 1000 /\ mkSeq H (.list xs) Q
 | .tuple => lst1 vs H fun xs => xs.length <= 1000 /\ mkSeq H (.tuple xs) Q
 | .set => zero? vs (mkSeq H (.iset []) Q)
 | .bytes => one? vs fun v => ref? v fun a => barr? (H a) fun x => x.length <= 1000000 /\ Q (.bytes x) H
 | .bytearray => zero? vs (mkSeq H (.barr []) Q)
noncomputable def biG (b : BI) (a p : Prop) : Prop := match b with | .bytearray => a /\ p | _ => p
theorem biG_ex {b : BI} {a p : Prop} (h : biG b a p) : (b = .bytearray -> a) /\ p := by cases b <;> first | exact ⟨nofun, h⟩ | exact ⟨fun _ => h.1, h.2⟩
noncomputable def bmOk (m : BM) (v : MV) (H : HH) (k : BK -> Prop) : Prop :=
 match m with
 | .append => ref? v fun a => some? (H a) fun o => match o with | .list _ => k .lapp | .barr _ => k .bapp | _ => False
 | .add => ref? v fun a => iset? (H a) fun _ => k .add
 | .get => ref? v fun a => some? (H a) fun o => match o with | .idict _ => k .get | _ => False
 | .join => str? v fun _ => k .join
 | .index => ref? v fun a => list? (H a) fun _ => k .index
 | .bitlen => int? v fun _ => k .bitlen
noncomputable def bkG (b : BK) (a p : Prop) : Prop := match b with | .bapp => a /\ p | _ => p
theorem bkG_ex {b : BK} {a p : Prop} (h : bkG b a p) : (b = .bapp -> a) /\ p := by cases b <;> first | exact ⟨nofun, h⟩ | exact ⟨fun _ => h.1, h.2⟩
noncomputable def getI (k : Int) : List (Int × MV) -> Option MV
 | [] => none
 | (g, v) :: r => if g = k then some v else getI k r
noncomputable def putI (k : Int) (v : MV) : List (Int × MV) -> List (Int × MV)
 | [] => [(k, v)]
 | (g, u) :: r => if g = k then (g, v) :: r else (g, u) :: putI k v r
noncomputable def strsOf : List MV -> Option (List Str)
 | [] => some []
 | v :: r => match v with | .str s => (strsOf r).map (s :: ·) | _ => none
noncomputable def bmCall (m : BK) (v : MV) (vs : List MV) (H : HH) (Q : QE) : Prop :=
 match m with
 | .lapp => ref? v fun a => one? vs fun x => list? (H a) fun xs => xs.length <= 100000 /\ Q .non (upd H a (.list (xs ++ [x])))
 | .bapp => ref? v fun a => one? vs fun x => int? x fun i => barr? (H a) fun y => 0 <= i /\ i < 256 /\ y.length <= 100000 /\ Q .non (upd H a (.barr (y ++ [i.toNat.toUInt8])))
 | .add => ref? v fun a => one? vs fun x => int? x fun i => iset? (H a) fun xs => xs.length <= 1000 /\ i ∉ xs /\ Q .non (upd H a (.iset (xs ++ [i])))
 | .get => ref? v fun a => one? vs fun x => int? x fun i => ∃ es u, H a = some (.idict es) /\ getI i es = some u /\ Q u H
 | .join => str? v fun s => one? vs fun x => ref? x fun a => list? (H a) fun xs => ∃ ss, s.cps.toList = [] /\ strsOf xs = some ss /\ xs.length <= 100000 /\ (∀ x ∈ ss, x.cps.size = 1) /\ Q (.str ⟨(ss.flatMap fun x => x.cps.toList).toArray⟩) H
 | .index => ref? v fun a => one? vs fun x => int? x fun i => ∃ xs n, H a = some (.list (mvi xs)) /\ xs.length <= 1000 /\ xs.idxOf? i = some n /\ Q (.int n) H
 | .bitlen => int? v fun x => zero? vs (0 <= x /\ Q (.int (if x = 0 then 0 else (x.toNat.log2 + 1 : Nat))) H)
noncomputable def opSub (o i : MV) (H : HH) (Q : QE) : Prop :=
 match o with
 | .bytes b => int? i fun k => b.length <= 1000000 /\ 0 <= k /\ k < 2 ^ 62 /\ some? (b[k.toNat]?) fun v => Q (.int v.toNat) H
 | o => ref? o fun a => match i with
  | .int k => some? (H a) fun ob => some? (seqOf ob) fun xs => 0 <= k /\ k < 2 ^ 62 /\ some? (xs[k.toNat]?) fun v => Q v H
  | i => ref? i fun k => ∃ ks v, H a = some (.tdict ks v) /\ H k = some (.tuple (mvi ks)) /\ ks.length = 2 /\ Q v H
noncomputable def opSlc (o lo hi : MV) (H : HH) (Q : QE) : Prop :=
 match o with
 | .ref a => (match lo with
  | .int k => non? hi (0 <= k /\ k < 2 ^ 62 /\ list? (H a) fun xs => xs.length <= 100000 /\ mkSeq H (.list (xs.drop k.toNat)) Q)
  | lo => non? lo (int? hi fun k => 0 <= k /\ k < 2 ^ 62 /\ ∃ xs, (H a = some (.list xs) \/ H a = some (.ro xs)) /\ xs.length <= 100000 /\ mkSeq H (.list (xs.take k.toNat)) Q))
 | .bytes b => non? lo (int? hi fun k => k = -1 /\ b.length <= 100000 /\ Q (.bytes (b.take (b.length - 1))) H)
 | o => str? o fun s => int? lo fun k => match hi with
  | .int j => 0 <= k /\ k <= j /\ j < 2 ^ 62 /\ s.cps.toList.length <= 1000000 /\ Q (.str ⟨((s.cps.toList.take j.toNat).drop k.toNat).toArray⟩) H
  | hi => non? hi (0 <= k /\ k < 2 ^ 62 /\ s.cps.toList.length <= 1000000 /\ Q (.str ⟨(s.cps.toList.drop k.toNat).toArray⟩) H)
noncomputable def initOf (C : Addr) : Option Addr :=
 [(127, 103), (169, 145), (218, 201), (295, 250), (358, 313), (393, 376), (435, 411)].lookup C
noncomputable def itStart (v : MV) (H : HH) (k : ItS -> Prop) : Prop :=
 match v with
 | .bytes b => k (.bytes b)
 | v => ref? v fun a => some? (H a) fun o => match o with | .list _ => k (.list a 0) | .tuple xs => k (.tuple xs) | _ => False
noncomputable def mapF (F : FF) (m : List (Option Nat)) : FF := m.map fun o => o.bind F.get
noncomputable abbrev MT := Addr -> Nat -> Option Addr
mutual
noncomputable def vE (A : CA) (mt : MT) : E -> FF -> HH -> QE -> QX -> Prop
  | .int i, _, H, Q, _ => Q (.int i) H
  | .str s, _, H, Q, _ => Q (.str s) H
  | .non, _, H, Q, _ => Q .non H
  | .bool b, _, H, Q, _ => Q (.bool b) H
  | .loc i, F, H, Q, _ => some? (F.get i) fun v => Q v H
  | .bin op l r, F, H, Q, X => vE A mt l F H (fun a H1 => vE A mt r F H1 (fun b H2 => opB op a b H2 Q) X) X
  | .neg e, F, H, Q, X => vE A mt e F H (fun a H1 => int? a fun x => Q (.int (-x)) H1) X
  | .not e, F, H, Q, X => vE A mt e F H (fun a H1 => bool? a fun b => Q (.bool (!b)) H1) X
  | .cmp op l r, F, H, Q, X => vE A mt l F H (fun a H1 => vE A mt r F H1 (fun b H2 => opC op a b H2 Q) X) X
  | .cmp2 o1 o2 a b c, F, H, Q, X => vE A mt a F H (fun x H1 => vE A mt b F H1 (fun y H2 => opC o1 x y H2 (fun t H3 => isB t (vE A mt c F H3 (fun z H4 => opC o2 y z H4 Q) X) (Q (.bool false) H3))) X) X
  | .and l, F, H, Q, X => vAnd A mt l F H Q X
  | .or l, F, H, Q, X => vOr A mt l F H Q X
  | .ite c a b, F, H, Q, X => vE A mt c F H (fun t H1 => isB t (vE A mt a F H1 Q X) (vE A mt b F H1 Q X)) X
  | .attr o f, F, H, Q, X => vE A mt o F H (fun a H1 => ref? a fun p => inst? (H1 p) fun C d fs => some? (lookF f fs) fun v => v ≠ .junk /\ noneG (mt C f) (Q v H1)) X
  | .sub o i, F, H, Q, X => vE A mt o F H (fun a H1 => vE A mt i F H1 (fun b H2 => opSub a b H2 Q) X) X
  | .slc o lo hi, F, H, Q, X => vE A mt o F H (fun a H1 => vE A mt lo F H1 (fun b H2 => vE A mt hi F H2 (fun c H3 => opSlc a b c H3 Q) X) X) X
  | .bi b args, F, H, Q, X => biG b A.app (vL A mt args F H (fun vs H1 => bcall b vs H1 Q) X)
  | .fn f args, F, H, Q, X => vL A mt args F H (fun vs H1 => A.call f vs H1 Q X) X
  | .new C args, F, H, Q, X => vL A mt args F H (fun vs H1 => some? (initOf C) fun g => ∀ a d, H1 a = none -> H1 d = none -> a ≠ d ->
      A.call g (.ref a :: vs) (upd H1 a (.inst C d [])) (fun v H2 => v = .non /\ Q (.ref a) H2) X) X
  | .meth o f args, F, H, Q, X => vE A mt o F H (fun a H1 => ref? a fun p => inst? (H1 p) fun C d fs => some? (mt C f) fun g => noneG (lookF f fs)
      (vL A mt args F H1 (fun vs H2 => A.call g (.ref p :: vs) H2 Q X) X)) X
  | .bm o m args, F, H, Q, X => vE A mt o F H (fun a H1 => bmOk m a H1 fun k => bkG k A.app (vL A mt args F H1 (fun vs H2 => bmCall k a vs H2 Q) X)) X
  | .list es, F, H, Q, X => vL A mt es F H (fun vs H1 => mkSeq H1 (.list vs) Q) X
  | .tup es, F, H, Q, X => vL A mt es F H (fun vs H1 => mkSeq H1 (.tuple vs) Q) X
  | .dict k v, F, H, Q, X => vE A mt k F H (fun a H1 => vE A mt v F H1 (fun b H2 => ref? a fun p => tup? (H2 p) fun ks => ks = mvi [1, 0] /\ mkSeq H2 (.tdict [1, 0] b) Q) X) X
  | .edict, _, H, Q, _ => mkSeq H (.idict []) Q
  | .comp elt v it m, F, H, Q, X => vIT A mt it F H (fun st H1 => ∀ c, H1 c = none -> A.comp elt v none st c (mapF F m) (upd H1 c (.list [])) (fun _ H2 => Q (.ref c) H2) X) X
  | .comp2 elt v it v2 it2 m, F, H, Q, X => vIT A mt it F H (fun st H1 => ∀ c, H1 c = none -> A.comp elt v (some (v2, it2)) st c (mapF F m) (upd H1 c (.list [])) (fun _ H2 => Q (.ref c) H2) X) X
noncomputable def vL (A : CA) (mt : MT) : L -> FF -> HH -> (List MV -> HH -> Prop) -> QX -> Prop
 | .nil, _, H, Q, _ => Q [] H
 | .cons e l, F, H, Q, X => vE A mt e F H (fun v H1 => vL A mt l F H1 (fun vs H2 => Q (v :: vs) H2) X) X
noncomputable def vAnd (A : CA) (mt : MT) : L -> FF -> HH -> QE -> QX -> Prop
 | .nil, _, H, Q, _ => Q (.bool true) H
 | .cons e l, F, H, Q, X => vE A mt e F H (fun v H1 => isB v (vAnd A mt l F H1 Q X) (Q (.bool false) H1)) X
noncomputable def vOr (A : CA) (mt : MT) : L -> FF -> HH -> QE -> QX -> Prop
 | .nil, _, H, Q, _ => Q (.bool false) H
 | .cons e l, F, H, Q, X => vE A mt e F H (fun v H1 => isB v (Q (.bool true) H1) (vOr A mt l F H1 Q X)) X
noncomputable def vIT (A : CA) (mt : MT) : IT -> FF -> HH -> (ItS -> HH -> Prop) -> QX -> Prop
 | .ex e, F, H, Q, X => vE A mt e F H (fun v H1 => itStart v H1 fun st => Q st H1) X
 | .up lo hi, F, H, Q, X => vE A mt lo F H (fun a H1 => vE A mt hi F H1 (fun b H2 => ii a b fun x y => small x /\ small y /\ Q (.up x (y - x).toNat) H2) X) X
 | .down lo hi, F, H, Q, X => vE A mt lo F H (fun a H1 => vE A mt hi F H1 (fun b H2 => ii a b fun x y => small x /\ small y /\ Q (.down x (x - y).toNat) H2) X) X
end
noncomputable def setLocs (is : List Nat) (vs : List MV) (F : FF) : FF :=
 match is, vs with
 | i :: is, v :: vs => setLocs is vs (F.put i v)
 | _, _ => F
noncomputable def vT (A : CA) (mt : MT) (t : T) (v : MV) (F : FF) (H : HH) (Q : FF -> HH -> Prop) (X : QX) : Prop :=
  match t with
  | .loc i => i < F.length /\ Q (F.put i v) H
  | .attr o f => vE A mt o F H (fun a H1 => ref? a fun p => inst? (H1 p) fun C d fs => fs.length <= 100 /\ Q F (upd H1 p (.inst C d (putF f v fs)))) X
  | .sub o i => vE A mt o F H (fun a H1 => vE A mt i F H1 (fun b H2 => ref? a fun p => int? b fun k => some? (H2 p) fun ob => match ob with
      | .list xs => 0 <= k /\ k < 2 ^ 62 /\ k.toNat < xs.length /\ Q F (upd H2 p (.list (xs.set k.toNat v)))
      | .idict es => getI k es = none /\ es.length <= 1000 /\ Q F (upd H2 p (.idict (putI k v es)))
      | _ => False) X) X
  | .locs is => ref? v fun p => tup? (H p) fun vs => vs.length = is.length /\ (∀ i ∈ is, i < F.length) /\ Q (setLocs is vs F) H
mutual
noncomputable def vS (A : Atoms) (mt : MT) : S -> FF -> HH -> QS -> QX -> Prop
  | .ex e, F, H, Q, X => vE A.ca mt e F H (fun v H1 => exG v (Q .next F H1)) X
  | .asg t e, F, H, Q, X => vE A.ca mt e F H (fun v H1 => njG v (vT A.ca mt t v F H1 (fun F' H' => Q .next F' H') X)) X
  | .asg2 is es, F, H, Q, X => vL A.ca mt es F H (fun vs H1 => vs.length = is.length /\ MV.junk ∉ vs /\ (∀ i ∈ is, i < F.length) /\ Q .next (setLocs is vs F) H1) X
  | .ife c a b, F, H, Q, X => vE A.ca mt c F H (fun t H1 => isB t (vB A mt a F H1 Q X) (vB A mt b F H1 Q X)) X
  | .whl c b, F, H, Q, X => A.whl c b F H Q X
  | .forr t it b, F, H, Q, X => vIT A.ca mt it F H (fun st H1 => A.forr t b st F H1 Q X) X
  | .ret e, F, H, Q, X => vE A.ca mt e F H (fun v H1 => Q (.ret v) F H1) X
  | .rais C, _, H, _, X => X C H
  | .tryx e C1 s1 C2 s2, F, H, Q, X => vE A.ca mt e F H (fun v H1 => Q (.ret v) F H1) (fun C H1 =>
      (C = C1 /\ Q (.ret (.str s1)) F H1) \/ (C = C2 /\ Q (.ret (.str s2)) F H1))
  | .dead, _, _, _, _ => False
noncomputable def vB (A : Atoms) (mt : MT) : B -> FF -> HH -> QS -> QX -> Prop
 | .nil, F, H, Q, _ => Q .next F H
 | .cons s b, F, H, Q, X => vS A mt s F H (fun fl F1 H1 => match fl with | .next => vB A mt b F1 H1 Q X | .ret v => Q (.ret v) F1 H1) X
end
end
section
set_option backward.match.sparseCases false
noncomputable def fnames : List Str := (["full", "rest", "size", "source", "at", "counts", "symbols", "rows", "codes", "scan", "sink", "key", "run", "kept", "reader", "table", "places", "dc_slots", "ac_slots", "start", "end", "high", "low", "tables", "writer",
 "put", "pad", "octets", "left", "bit", "bits", "code", "read", "put_bits", "put_run", "last_new", "finish", "correct", "pass_by", "new_value", "symbol"] : List String).map Str.ofString
noncomputable def fnm (i : Nat) : Str := fnames.getD i ⟨#[]⟩
inductive GV where
 | fn (a : Addr) | cls (C : Addr) | cst (i : Int) | bi (b : BI)
 deriving DecidableEq
noncomputable def gtab : List (Str × GV) := ([("code_rows", .fn 180), ("check_told", .fn 187), ("run_code", .fn 229), ("shrunk_size", .fn 236), ("_law_source", .fn 446), ("_law_draw", .fn 453), ("_law_taken", .fn 460), ("_law_mended", .fn 467),
 ("_law_block", .fn 474), ("_law_number", .fn 481), ("_law_cut", .fn 488), ("_law_read", .fn 493), ("_law_refused", .fn 500),
 ("BitWriter", .cls 127), ("BitReader", .cls 169), ("HuffTable", .cls 218), ("AcRefineWriter", .cls 295), ("AcRefineReader", .cls 358), ("Scan", .cls 393), ("CodeSink", .cls 435), ("CutError", .cls 75), ("CodeError", .cls 63),
 ("MOST_BITS", .cst 16), ("MOST_SYMBOLS", .cst 256), ("SIXTEEN_ZEROS", .cst 240), ("MOST_RUN", .cst 32767), ("MOST_KEPT", .cst 937),
 ("len", .bi .len), ("abs", .bi .abs), ("int", .bi .int), ("min", .bi .min), ("sum", .bi .sum), ("str", .bi .str), ("list", .bi .list), ("tuple", .bi .tuple), ("set", .bi .set), ("bytes", .bi .bytes), ("bytearray", .bi .bytearray)] : List (String × GV)).map fun p => (Str.ofString p.1, p.2)
noncomputable def mtab : MT := fun C f => match C, f with
 | 127, 25 => some 110 | 127, 26 => some 117 | 127, 27 => some 124
 | 169, 28 => some 152 | 169, 29 => some 159 | 169, 30 => some 166
 | 218, 31 => some 208 | 218, 32 => some 215
 | 295, 19 => some 257 | 295, 33 => some 264 | 295, 34 => some 271 | 295, 35 => some 278 | 295, 31 => some 285 | 295, 36 => some 292
 | 358, 19 => some 320 | 358, 37 => some 327 | 358, 38 => some 334 | 358, 39 => some 341 | 358, 32 => some 348 | 358, 36 => some 355
 | 435, 40 => some 418 | 435, 30 => some 425 | 435, 36 => some 432
 | _, _ => none
noncomputable def bmName : BM -> Str
 | .append => "append" | .add => "add" | .get => "get" | .join => "join" | .index => "index" | .bitlen => "bit_length"
noncomputable def bmOf (x : Str) : Option BM := [BM.append, .add, .get, .join, .index, .bitlen].find? fun m => bmName m == x
abbrev NS := List (Str × NameKind)
noncomputable def glob (ns : NS) (x : Str) : Option GV := if ns.lookup x = some .globalImplicit then gtab.lookup x else none
noncomputable def noSuper : Expr -> Bool
 | .Call (.Name _ _) [] [] _ => false
 | _ => true
noncomputable def notComp : Expr -> Bool
 | .ListComp .. | .SetComp .. | .DictComp .. => false
 | _ => true
noncomputable def notSlice : Expr -> Bool
 | .Slice .. => false
 | _ => true
noncomputable def notStar : Expr -> Bool
 | .Starred .. => false
 | _ => true
noncomputable def notSet : Expr -> Bool
 | .Set .. => false
 | _ => true
noncomputable def idx (ns : NS) (x : Str) : Option Nat := ns.findIdx? fun p => p.1 == x
noncomputable def held (k : Option NameKind) : Bool := k == some .local || k == some .cell || k == some .free
noncomputable def stored (k : Option NameKind) : Bool := k == some .local || k == some .cell
noncomputable def mapOf (ns ns' : NS) : List (Option Nat) := ns'.map fun p => if p.2 = .free then idx ns p.1 else none
noncomputable def compOk (ns : NS) (sc : Scope) : Bool := sc.kind == .function && (sc.names.all fun p => p.2 == .local || p.2 == .globalImplicit || (p.2 == .free && (ns.lookup p.1 == some .cell || ns.lookup p.1 == some .free))) && sc.names.all fun p => sc.names.lookup p.1 == some p.2
noncomputable def ownName (ns : NS) (x : Str) : Bool := ns.lookup x == some .local
set_option genInjectivity false
set_option genSizeOf false
noncomputable def ClE (R1 : NS -> Expr -> E -> Prop) (R3 : NS -> List Expr -> L -> Prop) (R4 : NS -> Expr -> IT -> Prop) : Prop :=
 (∀ ns i k p, R1 ns (.Constant (.int i) k p) (.int i)) /\
 (∀ ns s k p, R1 ns (.Constant (.str s) k p) (.str s)) /\
 (∀ ns k p, R1 ns (.Constant .none k p) .non) /\
 (∀ ns b k p, R1 ns (.Constant (.bool b) k p) (.bool b)) /\
 (∀ ns x p i, idx ns x = some i -> held (ns.lookup x) = true -> (x == ("__debug__" : Str)) = false /\ (x == ("__classdict__" : Str)) = false -> R1 ns (.Name x p) (.loc i)) /\
 (∀ ns x p i, glob ns x = some (.cst i) -> (x == ("__debug__" : Str)) = false -> R1 ns (.Name x p) (.int i)) /\
 (∀ ns l r a b op p, R1 ns l a -> R1 ns r b -> R1 ns (.BinOp l op r p) (.bin op a b)) /\
 (∀ ns l a p, R1 ns l a -> R1 ns (.UnaryOp .USub l p) (.neg a)) /\
 (∀ ns l a p, R1 ns l a -> R1 ns (.UnaryOp .Not l p) (.not a)) /\
 (∀ ns l r a b op p, behindInMarks op r = false -> R1 ns l a -> R1 ns r b -> R1 ns (.Compare l [op] [r] p) (.cmp op a b)) /\
 (∀ ns l r u a b c o1 o2 p, behindInMarks o1 r = false -> behindInMarks o2 u = false -> R1 ns l a -> R1 ns r b -> R1 ns u c -> R1 ns (.Compare l [o1, o2] [r, u] p) (.cmp2 o1 o2 a b c)) /\
 (∀ ns es l p, es.isEmpty = false -> R3 ns es l -> R1 ns (.BoolOp .And es p) (.and l)) /\
 (∀ ns es l p, es.isEmpty = false -> R3 ns es l -> R1 ns (.BoolOp .Or es p) (.or l)) /\
 (∀ ns l r u a b c p, R1 ns l a -> R1 ns r b -> R1 ns u c -> R1 ns (.IfExp l r u p) (.ite a b c)) /\
 (∀ ns l a f x p, noSuper l = true -> x = fnm f -> f < 41 -> R1 ns l a -> R1 ns (.Attribute l x p) (.attr a f)) /\
 (∀ ns l r a b p, notSlice r = true -> R1 ns l a -> R1 ns r b -> R1 ns (.Subscript l r p) (.sub a b)) /\
 (∀ ns l hi a c p q, R1 ns l a -> R1 ns hi c -> R1 ns (.Subscript l (.Slice none (some hi) none q) p) (.slc a .non c)) /\
 (∀ ns l lo a b p q, R1 ns l a -> R1 ns lo b -> R1 ns (.Subscript l (.Slice (some lo) none none q) p) (.slc a b .non)) /\
 (∀ ns l lo hi a b c p q, R1 ns l a -> R1 ns lo b -> R1 ns hi c -> R1 ns (.Subscript l (.Slice (some lo) (some hi) none q) p) (.slc a b c)) /\
 (∀ ns x q es l p b, glob ns x = some (.bi b) -> es.length < 10 -> R3 ns es l -> R1 ns (.Call (.Name x q) es [] p) (.bi b l)) /\
 (∀ ns x q es l p f, glob ns x = some (.fn f) -> es.length < 10 -> R3 ns es l -> R1 ns (.Call (.Name x q) es [] p) (.fn f l)) /\
 (∀ ns x q es l p C, glob ns x = some (.cls C) -> es.length < 10 -> R3 ns es l -> R1 ns (.Call (.Name x q) es [] p) (.new C l)) /\
 (∀ ns o a x ap es l p f, noSuper o = true -> x = fnm f -> f < 41 -> bmOf x = none -> ap.endLine = p.line -> es.length < 10 -> R1 ns o a -> R3 ns es l -> R1 ns (.Call (.Attribute o x ap) es [] p) (.meth a f l)) /\
 (∀ ns o a x ap es l p m, noSuper o = true -> x = bmName m -> ap.endLine = p.line -> es.length < 10 -> R1 ns o a -> R3 ns es l -> R1 ns (.Call (.Attribute o x ap) es [] p) (.bm a m l)) /\
 (∀ ns es l p, R3 ns es l -> es.length < 100 -> R1 ns (.List es p) (.list l)) /\
 (∀ ns es l k p, R3 ns es l -> es.length < 100 -> R1 ns (.Tuple es k p) (.tup l)) /\
 (∀ ns k v a b p, R1 ns k a -> R1 ns v b -> R1 ns (.Dict [some k] [v] p) (.dict a b)) /\
 (∀ ns p, R1 ns (.Dict [] [] p) .edict) /\
 (∀ ns elt a x q i it t sc p, compOk ns sc = true -> idx sc.names x = some i -> ownName sc.names x = true -> R4 ns it t -> R1 sc.names elt a -> R1 ns (.ListComp elt [⟨.Name x q, it, [], 0⟩] sc p) (.comp a i t (mapOf ns sc.names))) /\
 (∀ ns elt a x q i it t x2 q2 i2 it2 t2 sc p, compOk ns sc = true -> idx sc.names x = some i -> ownName sc.names x = true -> idx sc.names x2 = some i2 -> ownName sc.names x2 = true -> R4 ns it t -> R4 sc.names it2 t2 -> R1 sc.names elt a -> R1 ns (.ListComp elt [⟨.Name x q, it, [], 0⟩, ⟨.Name x2 q2, it2, [], 0⟩] sc p) (.comp2 a i t i2 t2 (mapOf ns sc.names))) /\
 (∀ ns, R3 ns [] .nil) /\
 (∀ ns e es a l, notStar e = true -> R1 ns e a -> R3 ns es l -> R3 ns (e :: es) (.cons a l)) /\
 (∀ ns x q hi a p, ns.lookup x = some .globalImplicit -> x = ("range" : Str) -> notStar hi = true -> R1 ns hi a -> R4 ns (.Call (.Name x q) [hi] [] p) (.up (.int 0) a)) /\
 (∀ ns x q lo hi a b p, ns.lookup x = some .globalImplicit -> x = ("range" : Str) -> notStar lo = true -> notStar hi = true -> R1 ns lo a -> R1 ns hi b -> R4 ns (.Call (.Name x q) [lo, hi] [] p) (.up a b)) /\
 (∀ ns x q lo hi a b p p1 p2 k, ns.lookup x = some .globalImplicit -> x = ("range" : Str) -> notStar lo = true -> notStar hi = true -> R1 ns lo a -> R1 ns hi b -> R4 ns (.Call (.Name x q) [lo, hi, .UnaryOp .USub (.Constant (.int 1) k p1) p2] [] p) (.down a b)) /\
 (∀ ns e a, notSet e = true -> R1 ns e a -> R4 ns e (.ex a))
noncomputable def RE (ns : NS) (e : Expr) (m : E) : Prop := ∀ R1 R3 R4, ClE R1 R3 R4 -> R1 ns e m
noncomputable def RL (ns : NS) (es : List Expr) (m : L) : Prop := ∀ R1 R3 R4, ClE R1 R3 R4 -> R3 ns es m
noncomputable def RI (ns : NS) (e : Expr) (m : IT) : Prop := notSet e = true /\ ∀ R1 R3 R4, ClE R1 R3 R4 -> R4 ns e m
theorem RE.int {ns i k p}  : RE ns (.Constant (.int i) k p) (.int i) := fun R1 R3 R4 h => h.1 _ _ _ _ 
theorem RE.str {ns s k p}  : RE ns (.Constant (.str s) k p) (.str s) := fun R1 R3 R4 h => h.2.1 _ _ _ _ 
theorem RE.non {ns k p}  : RE ns (.Constant .none k p) .non := fun R1 R3 R4 h => h.2.2.1 _ _ _ 
theorem RE.bool {ns b k p}  : RE ns (.Constant (.bool b) k p) (.bool b) := fun R1 R3 R4 h => h.2.2.2.1 _ _ _ _ 
theorem RE.loc {ns x p i} (h0 : idx ns x = some i) (h1 : held (ns.lookup x) = true) (h2 : (x == ("__debug__" : Str)) = false /\ (x == ("__classdict__" : Str)) = false) : RE ns (.Name x p) (.loc i) := fun R1 R3 R4 h => h.2.2.2.2.1 _ _ _ _ h0 h1 h2
theorem RE.cst {ns x p i} (h0 : glob ns x = some (.cst i)) (h1 : (x == ("__debug__" : Str)) = false) : RE ns (.Name x p) (.int i) := fun R1 R3 R4 h => h.2.2.2.2.2.1 _ _ _ _ h0 h1
theorem RE.bin {ns l r a b op p} (h0 : RE ns l a) (h1 : RE ns r b) : RE ns (.BinOp l op r p) (.bin op a b) := fun R1 R3 R4 h => h.2.2.2.2.2.2.1 _ _ _ _ _ _ _ (h0 R1 R3 R4 h) (h1 R1 R3 R4 h)
theorem RE.neg {ns l a p} (h0 : RE ns l a) : RE ns (.UnaryOp .USub l p) (.neg a) := fun R1 R3 R4 h => h.2.2.2.2.2.2.2.1 _ _ _ _ (h0 R1 R3 R4 h)
theorem RE.not {ns l a p} (h0 : RE ns l a) : RE ns (.UnaryOp .Not l p) (.not a) := fun R1 R3 R4 h => h.2.2.2.2.2.2.2.2.1 _ _ _ _ (h0 R1 R3 R4 h)
theorem RE.cmp {ns l r a b op p} (h0 : behindInMarks op r = false) (h1 : RE ns l a) (h2 : RE ns r b) : RE ns (.Compare l [op] [r] p) (.cmp op a b) := fun R1 R3 R4 h => h.2.2.2.2.2.2.2.2.2.1 _ _ _ _ _ _ _ h0 (h1 R1 R3 R4 h) (h2 R1 R3 R4 h)
theorem RE.cmp2 {ns l r u a b c o1 o2 p} (h0 : behindInMarks o1 r = false) (h1 : behindInMarks o2 u = false) (h2 : RE ns l a) (h3 : RE ns r b) (h4 : RE ns u c) : RE ns (.Compare l [o1, o2] [r, u] p) (.cmp2 o1 o2 a b c) := fun R1 R3 R4 h => h.2.2.2.2.2.2.2.2.2.2.1 _ _ _ _ _ _ _ _ _ _ h0 h1 (h2 R1 R3 R4 h) (h3 R1 R3 R4 h) (h4 R1 R3 R4 h)
theorem RE.and {ns es l p} (h0 : es.isEmpty = false) (h1 : RL ns es l) : RE ns (.BoolOp .And es p) (.and l) := fun R1 R3 R4 h => h.2.2.2.2.2.2.2.2.2.2.2.1 _ _ _ _ h0 (h1 R1 R3 R4 h)
theorem RE.or {ns es l p} (h0 : es.isEmpty = false) (h1 : RL ns es l) : RE ns (.BoolOp .Or es p) (.or l) := fun R1 R3 R4 h => h.2.2.2.2.2.2.2.2.2.2.2.2.1 _ _ _ _ h0 (h1 R1 R3 R4 h)
theorem RE.ite {ns l r u a b c p} (h0 : RE ns l a) (h1 : RE ns r b) (h2 : RE ns u c) : RE ns (.IfExp l r u p) (.ite a b c) := fun R1 R3 R4 h => h.2.2.2.2.2.2.2.2.2.2.2.2.2.1 _ _ _ _ _ _ _ _ (h0 R1 R3 R4 h) (h1 R1 R3 R4 h) (h2 R1 R3 R4 h)
theorem RE.attr {ns l a f x p} (h0 : noSuper l = true) (h1 : x = fnm f) (h2 : f < 41) (h3 : RE ns l a) : RE ns (.Attribute l x p) (.attr a f) := fun R1 R3 R4 h => h.2.2.2.2.2.2.2.2.2.2.2.2.2.2.1 _ _ _ _ _ _ h0 h1 h2 (h3 R1 R3 R4 h)
theorem RE.sub {ns l r a b p} (h0 : notSlice r = true) (h1 : RE ns l a) (h2 : RE ns r b) : RE ns (.Subscript l r p) (.sub a b) := fun R1 R3 R4 h => h.2.2.2.2.2.2.2.2.2.2.2.2.2.2.2.1 _ _ _ _ _ _ h0 (h1 R1 R3 R4 h) (h2 R1 R3 R4 h)
theorem RE.slc0 {ns l hi a c p q} (h0 : RE ns l a) (h1 : RE ns hi c) : RE ns (.Subscript l (.Slice none (some hi) none q) p) (.slc a .non c) := fun R1 R3 R4 h => h.2.2.2.2.2.2.2.2.2.2.2.2.2.2.2.2.1 _ _ _ _ _ _ _ (h0 R1 R3 R4 h) (h1 R1 R3 R4 h)
theorem RE.slc1 {ns l lo a b p q} (h0 : RE ns l a) (h1 : RE ns lo b) : RE ns (.Subscript l (.Slice (some lo) none none q) p) (.slc a b .non) := fun R1 R3 R4 h => h.2.2.2.2.2.2.2.2.2.2.2.2.2.2.2.2.2.1 _ _ _ _ _ _ _ (h0 R1 R3 R4 h) (h1 R1 R3 R4 h)
theorem RE.slc2 {ns l lo hi a b c p q} (h0 : RE ns l a) (h1 : RE ns lo b) (h2 : RE ns hi c) : RE ns (.Subscript l (.Slice (some lo) (some hi) none q) p) (.slc a b c) := fun R1 R3 R4 h => h.2.2.2.2.2.2.2.2.2.2.2.2.2.2.2.2.2.2.1 _ _ _ _ _ _ _ _ _ (h0 R1 R3 R4 h) (h1 R1 R3 R4 h) (h2 R1 R3 R4 h)
theorem RE.bi {ns x q es l p b} (h0 : glob ns x = some (.bi b)) (h1 : es.length < 10) (h2 : RL ns es l) : RE ns (.Call (.Name x q) es [] p) (.bi b l) := fun R1 R3 R4 h => h.2.2.2.2.2.2.2.2.2.2.2.2.2.2.2.2.2.2.2.1 _ _ _ _ _ _ _ h0 h1 (h2 R1 R3 R4 h)
theorem RE.fn {ns x q es l p f} (h0 : glob ns x = some (.fn f)) (h1 : es.length < 10) (h2 : RL ns es l) : RE ns (.Call (.Name x q) es [] p) (.fn f l) := fun R1 R3 R4 h => h.2.2.2.2.2.2.2.2.2.2.2.2.2.2.2.2.2.2.2.2.1 _ _ _ _ _ _ _ h0 h1 (h2 R1 R3 R4 h)
theorem RE.new {ns x q es l p C} (h0 : glob ns x = some (.cls C)) (h1 : es.length < 10) (h2 : RL ns es l) : RE ns (.Call (.Name x q) es [] p) (.new C l) := fun R1 R3 R4 h => h.2.2.2.2.2.2.2.2.2.2.2.2.2.2.2.2.2.2.2.2.2.1 _ _ _ _ _ _ _ h0 h1 (h2 R1 R3 R4 h)
theorem RE.meth {ns o a x ap es l p f} (h0 : noSuper o = true) (h1 : x = fnm f) (h2 : f < 41) (h3 : bmOf x = none) (h4 : ap.endLine = p.line) (h5 : es.length < 10) (h6 : RE ns o a) (h7 : RL ns es l) : RE ns (.Call (.Attribute o x ap) es [] p) (.meth a f l) := fun R1 R3 R4 h => h.2.2.2.2.2.2.2.2.2.2.2.2.2.2.2.2.2.2.2.2.2.2.1 _ _ _ _ _ _ _ _ _ h0 h1 h2 h3 h4 h5 (h6 R1 R3 R4 h) (h7 R1 R3 R4 h)
theorem RE.bm {ns o a x ap es l p m} (h0 : noSuper o = true) (h1 : x = bmName m) (h2 : ap.endLine = p.line) (h3 : es.length < 10) (h4 : RE ns o a) (h5 : RL ns es l) : RE ns (.Call (.Attribute o x ap) es [] p) (.bm a m l) := fun R1 R3 R4 h => h.2.2.2.2.2.2.2.2.2.2.2.2.2.2.2.2.2.2.2.2.2.2.2.1 _ _ _ _ _ _ _ _ _ h0 h1 h2 h3 (h4 R1 R3 R4 h) (h5 R1 R3 R4 h)
theorem RE.list {ns es l p} (h0 : RL ns es l) (h1 : es.length < 100) : RE ns (.List es p) (.list l) := fun R1 R3 R4 h => h.2.2.2.2.2.2.2.2.2.2.2.2.2.2.2.2.2.2.2.2.2.2.2.2.1 _ _ _ _ (h0 R1 R3 R4 h) h1
theorem RE.tup {ns es l k p} (h0 : RL ns es l) (h1 : es.length < 100) : RE ns (.Tuple es k p) (.tup l) := fun R1 R3 R4 h => h.2.2.2.2.2.2.2.2.2.2.2.2.2.2.2.2.2.2.2.2.2.2.2.2.2.1 _ _ _ _ _ (h0 R1 R3 R4 h) h1
theorem RE.dict {ns k v a b p} (h0 : RE ns k a) (h1 : RE ns v b) : RE ns (.Dict [some k] [v] p) (.dict a b) := fun R1 R3 R4 h => h.2.2.2.2.2.2.2.2.2.2.2.2.2.2.2.2.2.2.2.2.2.2.2.2.2.2.1 _ _ _ _ _ _ (h0 R1 R3 R4 h) (h1 R1 R3 R4 h)
theorem RE.edict {ns p}  : RE ns (.Dict [] [] p) .edict := fun R1 R3 R4 h => h.2.2.2.2.2.2.2.2.2.2.2.2.2.2.2.2.2.2.2.2.2.2.2.2.2.2.2.1 _ _ 
theorem RE.one {ns elt a x q i it t sc p} (h0 : compOk ns sc = true) (h1 : idx sc.names x = some i) (h2 : ownName sc.names x = true) (h3 : RI ns it t) (h4 : RE sc.names elt a) : RE ns (.ListComp elt [⟨.Name x q, it, [], 0⟩] sc p) (.comp a i t (mapOf ns sc.names)) := fun R1 R3 R4 h => h.2.2.2.2.2.2.2.2.2.2.2.2.2.2.2.2.2.2.2.2.2.2.2.2.2.2.2.2.1 _ _ _ _ _ _ _ _ _ _ h0 h1 h2 (h3.2 R1 R3 R4 h) (h4 R1 R3 R4 h)
theorem RE.two {ns elt a x q i it t x2 q2 i2 it2 t2 sc p} (h0 : compOk ns sc = true) (h1 : idx sc.names x = some i) (h2 : ownName sc.names x = true) (h3 : idx sc.names x2 = some i2) (h4 : ownName sc.names x2 = true) (h5 : RI ns it t) (h6 : RI sc.names it2 t2) (h7 : RE sc.names elt a) : RE ns (.ListComp elt [⟨.Name x q, it, [], 0⟩, ⟨.Name x2 q2, it2, [], 0⟩] sc p) (.comp2 a i t i2 t2 (mapOf ns sc.names)) := fun R1 R3 R4 h => h.2.2.2.2.2.2.2.2.2.2.2.2.2.2.2.2.2.2.2.2.2.2.2.2.2.2.2.2.2.1 _ _ _ _ _ _ _ _ _ _ _ _ _ _ _ h0 h1 h2 h3 h4 (h5.2 R1 R3 R4 h) (h6.2 R1 R3 R4 h) (h7 R1 R3 R4 h)
theorem RL.nil {ns}  : RL ns [] .nil := fun R1 R3 R4 h => h.2.2.2.2.2.2.2.2.2.2.2.2.2.2.2.2.2.2.2.2.2.2.2.2.2.2.2.2.2.2.1 _ 
theorem RL.cons {ns e es a l} (h0 : notStar e = true) (h1 : RE ns e a) (h2 : RL ns es l) : RL ns (e :: es) (.cons a l) := fun R1 R3 R4 h => h.2.2.2.2.2.2.2.2.2.2.2.2.2.2.2.2.2.2.2.2.2.2.2.2.2.2.2.2.2.2.2.1 _ _ _ _ _ h0 (h1 R1 R3 R4 h) (h2 R1 R3 R4 h)
theorem RI.up1 {ns x q hi a p} (h0 : ns.lookup x = some .globalImplicit) (h1 : x = ("range" : Str)) (h2 : notStar hi = true) (h3 : RE ns hi a) : RI ns (.Call (.Name x q) [hi] [] p) (.up (.int 0) a) := ⟨rfl, fun R1 R3 R4 h => h.2.2.2.2.2.2.2.2.2.2.2.2.2.2.2.2.2.2.2.2.2.2.2.2.2.2.2.2.2.2.2.2.1 _ _ _ _ _ _ h0 h1 h2 (h3 R1 R3 R4 h)⟩
theorem RI.up2 {ns x q lo hi a b p} (h0 : ns.lookup x = some .globalImplicit) (h1 : x = ("range" : Str)) (h2 : notStar lo = true) (h3 : notStar hi = true) (h4 : RE ns lo a) (h5 : RE ns hi b) : RI ns (.Call (.Name x q) [lo, hi] [] p) (.up a b) := ⟨rfl, fun R1 R3 R4 h => h.2.2.2.2.2.2.2.2.2.2.2.2.2.2.2.2.2.2.2.2.2.2.2.2.2.2.2.2.2.2.2.2.2.1 _ _ _ _ _ _ _ _ h0 h1 h2 h3 (h4 R1 R3 R4 h) (h5 R1 R3 R4 h)⟩
theorem RI.down {ns x q lo hi a b p p1 p2 k} (h0 : ns.lookup x = some .globalImplicit) (h1 : x = ("range" : Str)) (h2 : notStar lo = true) (h3 : notStar hi = true) (h4 : RE ns lo a) (h5 : RE ns hi b) : RI ns (.Call (.Name x q) [lo, hi, .UnaryOp .USub (.Constant (.int 1) k p1) p2] [] p) (.down a b) := ⟨rfl, fun R1 R3 R4 h => h.2.2.2.2.2.2.2.2.2.2.2.2.2.2.2.2.2.2.2.2.2.2.2.2.2.2.2.2.2.2.2.2.2.2.1 _ _ _ _ _ _ _ _ _ _ _ h0 h1 h2 h3 (h4 R1 R3 R4 h) (h5 R1 R3 R4 h)⟩
theorem RI.ex {ns e a} (h0 : notSet e = true) (h1 : RE ns e a) : RI ns e (.ex a) := ⟨h0, fun R1 R3 R4 h => h.2.2.2.2.2.2.2.2.2.2.2.2.2.2.2.2.2.2.2.2.2.2.2.2.2.2.2.2.2.2.2.2.2.2.2 _ _ _ h0 (h1 R1 R3 R4 h)⟩
inductive CV : NS -> Expr -> E -> Prop
 | one {ns elt a x q i it t sc p} : compOk ns sc = true -> idx sc.names x = some i -> ownName sc.names x = true -> RI ns it t -> RE sc.names elt a -> CV ns (.ListComp elt [⟨.Name x q, it, [], 0⟩] sc p) (.comp a i t (mapOf ns sc.names))
 | two {ns elt a x q i it t x2 q2 i2 it2 t2 sc p} : compOk ns sc = true -> idx sc.names x = some i -> ownName sc.names x = true -> idx sc.names x2 = some i2 -> ownName sc.names x2 = true -> RI ns it t -> RI sc.names it2 t2 -> RE sc.names elt a -> CV ns (.ListComp elt [⟨.Name x q, it, [], 0⟩, ⟨.Name x2 q2, it2, [], 0⟩] sc p) (.comp2 a i t i2 t2 (mapOf ns sc.names))
theorem RE.comp {ns e a} (h : CV ns e a) : RE ns e a := by
 cases h with
 | one h1 h2 h3 h4 h5 => exact .one h1 h2 h3 h4 h5
 | two h1 h2 h3 h4 h5 h6 h7 h8 => exact .two h1 h2 h3 h4 h5 h6 h7 h8
section
variable {α : Type}
@[elab_as_elim] noncomputable def isName {γ : Expr -> Type} (e : Expr) (k : ∀ x p, γ (.Name x p)) (n : ∀ e, γ e) : γ e := match e with | .Name x p => k x p | e => n e
@[elab_as_elim] noncomputable def isCall {γ : Expr -> Type} (e : Expr) (k : ∀ f a w p, γ (.Call f a w p)) (n : ∀ e, γ e) : γ e := match e with | .Call f a w p => k f a w p | e => n e
@[elab_as_elim] noncomputable def isAttr {γ : Expr -> Type} (e : Expr) (k : ∀ o x p, γ (.Attribute o x p)) (n : ∀ e, γ e) : γ e := match e with | .Attribute o x p => k o x p | e => n e
@[elab_as_elim] noncomputable def isConst {γ : Expr -> Type} (e : Expr) (k : ∀ c w p, γ (.Constant c w p)) (n : ∀ e, γ e) : γ e := match e with | .Constant c w p => k c w p | e => n e
@[elab_as_elim] noncomputable def isUn {γ : Expr -> Type} (e : Expr) (k : ∀ o l p, γ (.UnaryOp o l p)) (n : ∀ e, γ e) : γ e := match e with | .UnaryOp o l p => k o l p | e => n e
@[elab_as_elim] noncomputable def isSlice {γ : Expr -> Type} (e : Expr) (k : ∀ a b c p, γ (.Slice a b c p)) (n : ∀ e, γ e) : γ e := match e with | .Slice a b c p => k a b c p | e => n e
@[elab_as_elim] noncomputable def isTup {γ : Expr -> Type} (e : Expr) (k : ∀ l w p, γ (.Tuple l w p)) (n : ∀ e, γ e) : γ e := match e with | .Tuple l w p => k l w p | e => n e
@[elab_as_elim] noncomputable def isStr {γ : Const -> Type} (c : Const) (k : ∀ i, γ (.str i)) (n : ∀ e, γ e) : γ c := match c with | .str i => k i | c => n c
@[elab_as_elim] noncomputable def isSome {γ : Option α -> Type} (o : Option α) (k : ∀ a, γ (some a)) (n : γ none) : γ o := match o with | some a => k a | none => n
@[elab_as_elim] noncomputable def isNil {γ : List α -> Type} (l : List α) (k : γ []) (n : ∀ e, γ e) : γ l := match l with | [] => k | a :: r => n (a :: r)
@[elab_as_elim] noncomputable def isCons {γ : List α -> Type} (l : List α) (k : ∀ a r, γ (a :: r)) (n : ∀ e, γ e) : γ l := match l with | [] => n [] | a :: r => k a r
@[elab_as_elim] noncomputable def isL1 {γ : List α -> Type} (l : List α) (k : ∀ a, γ [a]) (n : ∀ e, γ e) : γ l := isCons (γ := γ) l (fun a r => isNil (γ := fun r => γ (a :: r)) r (k a) fun r => n _) n
@[elab_as_elim] noncomputable def isL2 {γ : List α -> Type} (l : List α) (k : ∀ a b, γ [a, b]) (n : ∀ e, γ e) : γ l := isCons (γ := γ) l (fun a r => isL1 (γ := fun r => γ (a :: r)) r (k a) fun r => n _) n
@[elab_as_elim] noncomputable def isL3 {γ : List α -> Type} (l : List α) (k : ∀ a b c, γ [a, b, c]) (n : ∀ e, γ e) : γ l := isCons (γ := γ) l (fun a r => isL2 (γ := fun r => γ (a :: r)) r (k a) fun r => n _) n
@[elab_as_elim] noncomputable def isEq [DecidableEq α] {γ : α -> Type} (a b : α) (k : γ b) (n : ∀ e, γ e) : γ a := if h : a = b then (h ▸ k : γ a) else n a
noncomputable def orE : Option α -> Option α -> Option α
 | some a, _ => some a
 | none, b => b
noncomputable def tst (p : Prop) [Decidable p] (k : p -> Option α) : Option α := if h : p then k h else none
noncomputable def got {γ : Type} (o : Option α) (k : ∀ a, o = some a -> Option γ) : Option γ := match o with | some a => k a rfl | none => none
end
noncomputable abbrev CE (ns : NS) (e : Expr) : Type := Option { m : E // RE ns e m }
noncomputable def compLg {ns : NS} (f : ∀ e, CE ns e) : (es : List Expr) -> Option { m : L // RL ns es m }
 | [] => some ⟨.nil, .nil⟩
 | e :: es => tst (notStar e = true) fun hs => (f e).bind fun a => (compLg f es).bind fun l => some ⟨.cons a.1 l.1, .cons hs a.2 l.2⟩
noncomputable def rangeG {ns : NS} (f : ∀ e, CE ns e) (e : Expr) : Option { m : IT // RI ns e m } :=
 isCall e (fun g es ks p => isName g (fun x q => isNil ks (tst (x = ("range" : Str)) fun hx => tst (ns.lookup x = some .globalImplicit) fun hk =>
  orE (isL1 es (fun hi => tst (notStar hi = true) fun n1 => (f hi).bind fun a => some ⟨.up (.int 0) a.1, .up1 hk hx n1 a.2⟩) fun _ => none)
   (orE (isL2 es (fun lo hi => tst (notStar lo = true) fun n1 => tst (notStar hi = true) fun n2 => (f lo).bind fun a => (f hi).bind fun b => some ⟨.up a.1 b.1, .up2 hk hx n1 n2 a.2 b.2⟩) fun _ => none)
   (isL3 es (fun lo hi st => tst (notStar lo = true) fun n1 => tst (notStar hi = true) fun n2 => isUn st (fun op u p2 => isEq op .USub (isConst u (fun v k p1 => isEq v (.int 1) ((f lo).bind fun a => (f hi).bind fun b => some ⟨.down a.1 b.1, .down hk hx n1 n2 a.2 b.2⟩) fun _ => none) fun _ => none) fun _ => none) fun _ => none) fun _ => none))) fun _ => none) fun _ => none) fun _ => none
noncomputable def compIg {ns : NS} (f : ∀ e, CE ns e) (e : Expr) : Option { m : IT // RI ns e m } :=
 orE (rangeG f e) (tst (notSet e = true) fun hs => (f e).bind fun a => some ⟨.ex a.1, .ex hs a.2⟩)
@[elab_as_elim] noncomputable def isGen {γ : Comprehension -> Type} (g : Comprehension) (k : ∀ x q it, γ ⟨.Name x q, it, [], 0⟩) (n : ∀ g, γ g) : γ g :=
 match g with | ⟨t, it, fs, a⟩ => isName (γ := fun t => γ ⟨t, it, fs, a⟩) t (fun x q => isNil (γ := fun fs => γ ⟨.Name x q, it, fs, a⟩) fs (isEq (γ := fun a => γ ⟨.Name x q, it, [], a⟩) a 0 (k x q it) fun _ => n _) fun _ => n _) fun _ => n _
noncomputable def compCg (f : ∀ ns e, CE ns e) (ns : NS) (elt : Expr) (gens : List Comprehension) (sc : Scope) (p : Pos) : Option { m : E // CV ns (.ListComp elt gens sc p) m } :=
  tst (compOk ns sc = true) fun hc => orE (isL1 gens (fun g => isGen g (fun x q it => tst (ownName sc.names x = true) fun ho => got (idx sc.names x) fun i hi => (compIg (f ns) it).bind fun t => (f sc.names elt).bind fun a =>
      some ⟨.comp a.1 i t.1 (mapOf ns sc.names), .one hc hi ho t.2 a.2⟩) fun _ => none) fun _ => none)
    (isL2 gens (fun g g' => isGen g (fun x q it => isGen g' (fun x' q' it' => tst (ownName sc.names x = true) fun ho => tst (ownName sc.names x' = true) fun ho' => got (idx sc.names x) fun i hi => got (idx sc.names x') fun i' hi' =>
      (compIg (f ns) it).bind fun t => (compIg (f sc.names) it').bind fun t' => (f sc.names elt).bind fun a => some ⟨.comp2 a.1 i t.1 i' t'.1 (mapOf ns sc.names), .two hc hi ho hi' ho' t.2 t'.2 a.2⟩) fun _ => none) fun _ => none) fun _ => none)
noncomputable def stepC (ns : NS) (c : Const) (k : Nat) (p : Pos) : CE ns (.Constant c k p) :=
 match c with
 | .int i => some ⟨.int i, .int⟩
 | .str s => some ⟨.str s, .str⟩
 | .none => some ⟨.non, .non⟩
 | .bool b => some ⟨.bool b, .bool⟩
 | _ => none
noncomputable def stepN (ns : NS) (x : Str) (p : Pos) : CE ns (.Name x p) :=
 tst ((x == ("__debug__" : Str)) = false /\ (x == ("__classdict__" : Str)) = false) fun hd =>
  if hh : held (ns.lookup x) = true then got (idx ns x) fun i hi => some ⟨.loc i, .loc hi hh hd⟩
  else got (glob ns x) fun g hg => match g, hg with
   | .cst i, hg => some ⟨.int i, .cst hg hd.1⟩
   | .fn _, _ => none
   | .cls _, _ => none
   | .bi _, _ => none
noncomputable def stepG {ns : NS} (x : Str) (q : Pos) (es : List Expr) (p : Pos) (hl : es.length < 10) (l : { m : L // RL ns es m }) : CE ns (.Call (.Name x q) es [] p) :=
 got (glob ns x) fun v hg => match v, hg with
  | .bi b, hg => some ⟨.bi b l.1, .bi hg hl l.2⟩
  | .fn a, hg => some ⟨.fn a l.1, .fn hg hl l.2⟩
  | .cls C, hg => some ⟨.new C l.1, .new hg hl l.2⟩
  | .cst _, _ => none
noncomputable def stepCall {ns : NS} (f : ∀ e, CE ns e) (g : Expr) (es : List Expr) (p : Pos) : CE ns (.Call g es [] p) :=
 tst (es.length < 10) fun hl => (compLg f es).bind fun l =>
  orE (isName g (fun x q => stepG x q es p hl l) fun _ => none)
  (isAttr g (fun o x ap => tst (noSuper o = true) fun hn => tst (ap.endLine = p.line) fun ha => (f o).bind fun a =>
   orE (got (bmOf x) fun m _ => tst (x = bmName m) fun hx => some ⟨.bm a.1 m l.1, .bm hn hx ha hl a.2 l.2⟩)
    (tst (bmOf x = none) fun hm => tst (x = fnm (fnames.findIdx (· == x))) fun hf => tst (fnames.findIdx (· == x) < 41) fun h4 => some ⟨.meth a.1 (fnames.findIdx (· == x)) l.1, .meth hn hf h4 hm ha hl a.2 l.2⟩)) fun _ => none)
noncomputable def stepSub {ns : NS} (f : ∀ e, CE ns e) (l r : Expr) (p : Pos) : CE ns (.Subscript l r p) :=
 (f l).bind fun a => orE (tst (notSlice r = true) fun h => (f r).bind fun b => some ⟨.sub a.1 b.1, .sub h a.2 b.2⟩)
  (isSlice r (fun lo hi st q => isSome st (fun _ => none) (isSome lo (fun lo => (f lo).bind fun b => isSome hi (fun hi => (f hi).bind fun c => some ⟨.slc a.1 b.1 c.1, .slc2 a.2 b.2 c.2⟩) (some ⟨.slc a.1 b.1 .non, .slc1 a.2 b.2⟩))
   (isSome hi (fun hi => (f hi).bind fun c => some ⟨.slc a.1 .non c.1, .slc0 a.2 c.2⟩) none))) fun _ => none)
noncomputable def stepE (f : ∀ ns e, CE ns e) (ns : NS) : (e : Expr) -> CE ns e
  | .Constant c k p => stepC ns c k p
  | .Name x p => stepN ns x p
  | .BinOp l op r p => (f ns l).bind fun a => (f ns r).bind fun b => some ⟨.bin op a.1 b.1, .bin a.2 b.2⟩
  | .UnaryOp op l p => (f ns l).bind fun a => match op with
      | .USub => some ⟨.neg a.1, .neg a.2⟩
      | .Not => some ⟨.not a.1, .not a.2⟩
      | _ => none
  | .Compare l ops rs p => (f ns l).bind fun a => orE (isL1 ops (fun o => isL1 rs (fun r => tst (behindInMarks o r = false) fun h => (f ns r).bind fun b => some ⟨.cmp o a.1 b.1, .cmp h a.2 b.2⟩) fun _ => none) fun _ => none)
      (isL2 ops (fun o o' => isL2 rs (fun r r' => tst (behindInMarks o r = false) fun h => tst (behindInMarks o' r' = false) fun h2 => (f ns r).bind fun b => (f ns r').bind fun c => some ⟨.cmp2 o o' a.1 b.1 c.1, .cmp2 h h2 a.2 b.2 c.2⟩) fun _ => none) fun _ => none)
  | .BoolOp op es p => tst (es.isEmpty = false) fun h => (compLg (f ns) es).bind fun l => match op with
      | .And => some ⟨.and l.1, .and h l.2⟩
      | .Or => some ⟨.or l.1, .or h l.2⟩
  | .IfExp l r u p => (f ns l).bind fun a => (f ns r).bind fun b => (f ns u).bind fun c => some ⟨.ite a.1 b.1 c.1, .ite a.2 b.2 c.2⟩
  | .Attribute l x p => tst (noSuper l = true) fun hn => tst (x = fnm (fnames.findIdx (· == x))) fun hf => tst (fnames.findIdx (· == x) < 41) fun h4 => (f ns l).bind fun a => some ⟨.attr a.1 (fnames.findIdx (· == x)), .attr hn hf h4 a.2⟩
  | .Subscript l r p => stepSub (f ns) l r p
  | .Call g es ks p => isNil ks (stepCall (f ns) g es p) fun _ => none
  | .List es p => tst (es.length < 100) fun hl => (compLg (f ns) es).bind fun l => some ⟨.list l.1, .list l.2 hl⟩
  | .Tuple es k p => tst (es.length < 100) fun hl => (compLg (f ns) es).bind fun l => some ⟨.tup l.1, .tup l.2 hl⟩
  | .Dict ks vs p => orE (isL1 ks (fun k => isL1 vs (fun v => isSome k (fun k => (f ns k).bind fun a => (f ns v).bind fun b => some ⟨.dict a.1 b.1, .dict a.2 b.2⟩) none) fun _ => none) fun _ => none) (isNil ks (isNil vs (some ⟨.edict, .edict⟩) fun _ => none) fun _ => none)
  | .ListComp elt gens sc p => (compCg f ns elt gens sc p).bind fun a => some ⟨a.1, .comp a.2⟩
  | _ => none
noncomputable def compF : Nat -> ∀ ns e, CE ns e
 | 0 => fun _ _ => none
 | n + 1 => stepE (compF n)
noncomputable def compE (ns : NS) (e : Expr) : CE ns e := compF 40 ns e
noncomputable def compL (ns : NS) (es : List Expr) : Option { m : L // RL ns es m } := compLg (compE ns) es
noncomputable def compI (ns : NS) (e : Expr) : Option { m : IT // RI ns e m } := compIg (compE ns) e
set_option backward.match.sparseCases true
end
section
set_option backward.match.sparseCases false
noncomputable def nameE : (e : Expr) -> Option { x : Str × Pos // e = .Name x.1 x.2 }
 | .Name x p => some ⟨(x, p), rfl⟩
 | _ => none
noncomputable def idxs (ns : NS) : List Expr -> Option (List Nat)
 | [] => some []
 | e :: r => (nameE e).bind fun x => if stored (ns.lookup x.1.1) = true then (idx ns x.1.1).bind fun i => (idxs ns r).map (i :: ·) else none
theorem idxs_cons {ns : NS} {e : Expr} {r : List Expr} {is : List Nat} {G : Prop} (h : idxs ns (e :: r) = some is) (k : ∀ x p i l, e = .Name x p -> stored (ns.lookup x) = true -> idx ns x = some i -> idxs ns r = some l -> is = i :: l -> G) : G := by
 obtain ⟨⟨⟨x, p⟩, e1⟩, _, h⟩ := Option.bind_eq_some_iff.mp h
 by_cases q : stored (ns.lookup x) = true
 ·rw [if_pos q] at h
  obtain ⟨i, e2, h⟩ := Option.bind_eq_some_iff.mp h
  obtain ⟨l, e3, h⟩ := Option.map_eq_some_iff.mp h
  exact k x p i l e1 q e2 e3 h.symm
 ·rw [if_neg q] at h; cases h
inductive RT : NS -> Expr -> T -> Prop
 | loc {ns x p i} : idx ns x = some i -> stored (ns.lookup x) = true -> RT ns (.Name x p) (.loc i)
 | attr {ns l a f x p} : x = fnm f -> f < 41 -> RE ns l a -> RT ns (.Attribute l x p) (.attr a f)
 | sub {ns l r a b p} : notSlice r = true -> RE ns l a -> RE ns r b -> RT ns (.Subscript l r p) (.sub a b)
 | locs {ns es is k p} : idxs ns es = some is -> es.length < 10 -> RT ns (.Tuple es k p) (.locs is)
noncomputable def compT (ns : NS) : (e : Expr) -> Option { m : T // RT ns e m }
 | .Name x p => tst (stored (ns.lookup x) = true) fun hh => got (idx ns x) fun i hi => some ⟨.loc i, .loc hi hh⟩
 | .Attribute l x p => tst (x = fnm (fnames.findIdx (· == x))) fun hf => tst (fnames.findIdx (· == x) < 41) fun h4 => (compE ns l).bind fun a => some ⟨.attr a.1 (fnames.findIdx (· == x)), .attr hf h4 a.2⟩
 | .Subscript l r p => tst (notSlice r = true) fun h => (compE ns l).bind fun a => (compE ns r).bind fun b => some ⟨.sub a.1 b.1, .sub h a.2 b.2⟩
 | .Tuple es k p => tst (es.length < 10) fun hl => got (idxs ns es) fun is h => some ⟨.locs is, .locs h hl⟩
 | _ => none
noncomputable def plainAsg (ns : NS) (t e : Expr) : Bool :=
 match e with
 | .ListComp .. => (match t with | .Name x _ => ns.lookup x == some .cell | _ => false)
 | .SetComp .. | .DictComp .. => false
 | .Tuple .. => (match t with | .Tuple .. | .List .. => false | _ => true)
 | _ => (match t with | .Name .. | .Attribute .. | .Subscript .. | .Tuple .. => true | _ => false)
noncomputable def compAsg (ns : NS) (t e : Expr) : Bool :=
 match t, e with
 | .Name x q, .ListComp _ _ sc p => ns.lookup x == some .local && q.line == p.line && !(sc.names.any fun (n, k) => n == x && (k == .local || k == .cell))
 | _, _ => false
set_option genInjectivity false
set_option genSizeOf false
noncomputable def ClS (ns : NS) (R1 : Stmt -> S -> Prop) (R2 : List Stmt -> B -> Prop) : Prop :=
 (∀ f as ks q a p, RE ns (.Call f as ks q) a -> R1 (.Expr (.Call f as ks q) p) (.ex a)) /\
 (∀ t e u a p, plainAsg ns t e = true -> RT ns t u -> RE ns e a -> R1 (.Assign [t] e p) (.asg u a)) /\
 (∀ n q i e a p, compAsg ns (.Name n q) e = true -> idx ns n = some i -> CV ns e a -> R1 (.Assign [.Name n q] e p) (.asg (.loc i) a)) /\
 (∀ ts es is l p k1 p1 k2 p2, idxs ns ts = some is -> ts.length < 10 -> is.Nodup -> ts.length = es.length -> (es.all (constantsAlone 8) = true -> es.all (foldedForSure 8) = true) -> RL ns es l -> R1 (.Assign [.Tuple ts k1 p1] (.Tuple es k2 p2) p) (.asg2 is l)) /\
 (∀ c x y a u v p, RE ns c a -> R2 x u -> R2 y v -> R1 (.If c x y p) (.ife a u v)) /\
 (∀ c x a u p, RE ns c a -> R2 x u -> R1 (.While c x [] p) (.whl a u)) /\
 (∀ t it x u i v p, RT ns t u -> RI ns it i -> R2 x v -> R1 (.For t it x [] p) (.forr u i v)) /\
 (∀ e a p, RE ns e a -> R1 (.Return (some e) p) (.ret a)) /\
 (∀ x q s k p1 p2 p C, glob ns x = some (.cls C) -> (C = 75 \/ C = 63) -> R1 (.Raise (some (.Call (.Name x q) [.Constant (.str s) k p1] [] p2)) none p) (.rais C)) /\
 (∀ e a p1 x1 q1 t1 k1 r1 u1 h1 x2 q2 t2 k2 r2 u2 h2 p C1 C2, glob ns x1 = some (.cls C1) -> glob ns x2 = some (.cls C2) -> (C1 = 75 /\ C2 = 63) -> RE ns e a -> R1 (.Try [.Return (some e) p1] [.ExceptHandler (some (.Name x1 q1)) none [.Return (some (.Constant (.str t1) k1 r1)) u1] h1, .ExceptHandler (some (.Name x2 q2)) none [.Return (some (.Constant (.str t2) k2 r2)) u2] h2] [] [] p) (.tryx a C1 t1 C2 t2)) /\
 (∀ st, R1 st .dead) /\
 (R2 [] .nil) /\
 (∀ st r s b, R1 st s -> R2 r b -> R2 (st :: r) (.cons s b))
noncomputable def RS (ns : NS) (st : Stmt) (m : S) : Prop := ∀ R1 R2, ClS ns R1 R2 -> R1 st m
noncomputable def RB (ns : NS) (st : List Stmt) (m : B) : Prop := ∀ R1 R2, ClS ns R1 R2 -> R2 st m
theorem RS.ex {ns f as ks q a p} (w1 : RE ns (.Call f as ks q) a) : RS ns (.Expr (.Call f as ks q) p) (.ex a) := fun R1 R2 h => h.1 _ _ _ _ _ _ w1
theorem RS.asg {ns t e u a p} (w0 : plainAsg ns t e = true) (w1 : RT ns t u) (w2 : RE ns e a) : RS ns (.Assign [t] e p) (.asg u a) := fun R1 R2 h => h.2.1 _ _ _ _ _ w0 w1 w2
theorem RS.asgC {ns n q i e a p} (w0 : compAsg ns (.Name n q) e = true) (w1 : idx ns n = some i) (w2 : CV ns e a) : RS ns (.Assign [.Name n q] e p) (.asg (.loc i) a) := fun R1 R2 h => h.2.2.1 _ _ _ _ _ _ w0 w1 w2
theorem RS.asg2 {ns ts es is l p k1 p1 k2 p2} (w0 : idxs ns ts = some is) (w1 : ts.length < 10) (w2 : is.Nodup) (w3 : ts.length = es.length) (w4 : (es.all (constantsAlone 8) = true -> es.all (foldedForSure 8) = true)) (w5 : RL ns es l) : RS ns (.Assign [.Tuple ts k1 p1] (.Tuple es k2 p2) p) (.asg2 is l) := fun R1 R2 h => h.2.2.2.1 _ _ _ _ _ _ _ _ _ w0 w1 w2 w3 w4 w5
theorem RS.ife {ns c x y a u v p} (w0 : RE ns c a) (w1 : RB ns x u) (w2 : RB ns y v) : RS ns (.If c x y p) (.ife a u v) := fun R1 R2 h => h.2.2.2.2.1 _ _ _ _ _ _ _ w0 (w1 R1 R2 h) (w2 R1 R2 h)
theorem RS.whl {ns c x a u p} (w0 : RE ns c a) (w1 : RB ns x u) : RS ns (.While c x [] p) (.whl a u) := fun R1 R2 h => h.2.2.2.2.2.1 _ _ _ _ _ w0 (w1 R1 R2 h)
theorem RS.forr {ns t it x u i v p} (w0 : RT ns t u) (w1 : RI ns it i) (w2 : RB ns x v) : RS ns (.For t it x [] p) (.forr u i v) := fun R1 R2 h => h.2.2.2.2.2.2.1 _ _ _ _ _ _ _ w0 w1 (w2 R1 R2 h)
theorem RS.ret {ns e a p} (w0 : RE ns e a) : RS ns (.Return (some e) p) (.ret a) := fun R1 R2 h => h.2.2.2.2.2.2.2.1 _ _ _ w0
theorem RS.rais {ns x q s k p1 p2 p C} (w0 : glob ns x = some (.cls C)) (w1 : (C = 75 \/ C = 63)) : RS ns (.Raise (some (.Call (.Name x q) [.Constant (.str s) k p1] [] p2)) none p) (.rais C) := fun R1 R2 h => h.2.2.2.2.2.2.2.2.1 _ _ _ _ _ _ _ _ w0 w1
theorem RS.tryx {ns e a p1 x1 q1 t1 k1 r1 u1 h1 x2 q2 t2 k2 r2 u2 h2 p C1 C2} (w0 : glob ns x1 = some (.cls C1)) (w1 : glob ns x2 = some (.cls C2)) (w2 : (C1 = 75 /\ C2 = 63)) (w3 : RE ns e a) : RS ns (.Try [.Return (some e) p1] [.ExceptHandler (some (.Name x1 q1)) none [.Return (some (.Constant (.str t1) k1 r1)) u1] h1, .ExceptHandler (some (.Name x2 q2)) none [.Return (some (.Constant (.str t2) k2 r2)) u2] h2] [] [] p) (.tryx a C1 t1 C2 t2) := fun R1 R2 h => h.2.2.2.2.2.2.2.2.2.1 _ _ _ _ _ _ _ _ _ _ _ _ _ _ _ _ _ _ _ _ w0 w1 w2 w3
theorem RS.dead {ns st}  : RS ns st .dead := fun R1 R2 h => h.2.2.2.2.2.2.2.2.2.2.1 _ 
theorem RB.nil {ns}  : RB ns [] .nil := fun R1 R2 h => h.2.2.2.2.2.2.2.2.2.2.2.1  
theorem RB.cons {ns st r s b} (w0 : RS ns st s) (w1 : RB ns r b) : RB ns (st :: r) (.cons s b) := fun R1 R2 h => h.2.2.2.2.2.2.2.2.2.2.2.2 _ _ _ _ (w0 R1 R2 h) (w1 R1 R2 h)
@[elab_as_elim] noncomputable def isRet {γ : Stmt -> Type} (st : Stmt) (k : ∀ e p, γ (.Return (some e) p)) (n : ∀ st, γ st) : γ st := match st with | .Return v p => isSome (γ := fun v => γ (.Return v p)) v (fun e => k e p) (n _) | st => n st
@[elab_as_elim] noncomputable def isLC {γ : Expr -> Type} (e : Expr) (k : ∀ a g sc p, γ (.ListComp a g sc p)) (n : ∀ e, γ e) : γ e := match e with | .ListComp a g sc p => k a g sc p | e => n e
@[elab_as_elim] noncomputable def isClause {γ : ExceptHandler -> Type} (h : ExceptHandler) (k : ∀ x q t w r u p, γ (.ExceptHandler (some (.Name x q)) none [.Return (some (.Constant (.str t) w r)) u] p)) (n : ∀ h, γ h) : γ h :=
 match h with | .ExceptHandler t nm b p => isSome (γ := fun t => γ (.ExceptHandler t nm b p)) t (fun t => isName (γ := fun t => γ (.ExceptHandler (some t) nm b p)) t (fun x q => isSome (γ := fun nm => γ (.ExceptHandler (some (.Name x q)) nm b p)) nm (fun _ => n _)
  (isL1 (γ := fun b => γ (.ExceptHandler (some (.Name x q)) none b p)) b (fun st => isRet (γ := fun st => γ (.ExceptHandler (some (.Name x q)) none [st] p)) st (fun e u => isConst (γ := fun e => γ (.ExceptHandler (some (.Name x q)) none [.Return (some e) u] p)) e
   (fun c w r => isStr (γ := fun c => γ (.ExceptHandler (some (.Name x q)) none [.Return (some (.Constant c w r)) u] p)) c (fun t => k x q t w r u p) fun _ => n _) fun _ => n _) fun _ => n _) fun _ => n _)) fun _ => n _) (n _)
noncomputable def gotC {γ : Type} (o : Option GV) (k : ∀ C, o = some (.cls C) -> Option γ) : Option γ := got o fun g h => match g, h with
 | .cls C, h => k C h
 | .fn _, _ => none
 | .cst _, _ => none
 | .bi _, _ => none
noncomputable abbrev CSt (ns : NS) (st : Stmt) : Type := Option { m : S // RS ns st m }
noncomputable def stepA (ns : NS) (t e : Expr) (p : Pos) : CSt ns (.Assign [t] e p) :=
 orE (tst (plainAsg ns t e = true) fun h => (compT ns t).bind fun u => (compE ns e).bind fun a => some ⟨.asg u.1 a.1, .asg h u.2 a.2⟩)
  (orE (isName t (fun n q => isLC e (fun elt gens sc p2 => tst (compAsg ns (.Name n q) (.ListComp elt gens sc p2) = true) fun h => got (idx ns n) fun i hi => (compCg compE ns elt gens sc p2).bind fun a => some ⟨.asg (.loc i) a.1, .asgC h hi a.2⟩) fun _ => none) fun _ => none)
  (isTup t (fun ts k1 p1 => isTup e (fun es k2 p2 => tst (ts.length < 10) fun hl => tst (ts.length = es.length) fun hn => tst (es.all (constantsAlone 8) = true -> es.all (foldedForSure 8) = true) fun hs => got (idxs ns ts) fun is hi => tst is.Nodup fun hd =>
   (compL ns es).bind fun l => some ⟨.asg2 is l.1, .asg2 hi hl hd hn hs l.2⟩) fun _ => none) fun _ => none))
noncomputable def stepR (ns : NS) (ex cause : Option Expr) (p : Pos) : CSt ns (.Raise ex cause p) :=
 orE (isSome ex (fun e => isCall e (fun g es ks p2 => isName g (fun x q => isL1 es (fun a => isConst a (fun c k p1 => isStr c (fun s => isNil ks (isSome cause (fun _ => none) (gotC (glob ns x) fun C hg => tst (C = 75 \/ C = 63) fun h => some ⟨.rais C, .rais hg h⟩))
  fun _ => none) fun _ => none) fun _ => none) fun _ => none) fun _ => none) fun _ => none) none) (some ⟨.dead, .dead⟩)
noncomputable def stepT (ns : NS) (body : List Stmt) (hs : List ExceptHandler) (els fin : List Stmt) (p : Pos) : CSt ns (.Try body hs els fin p) :=
 isNil els (isNil fin (isL1 body (fun st => isRet st (fun e p1 => isL2 hs (fun h1 h2 => isClause h1 (fun x1 _ t1 _ _ _ _ => isClause h2 (fun x2 _ t2 _ _ _ _ => gotC (glob ns x1) fun C1 g1 => gotC (glob ns x2) fun C2 g2 => tst (C1 = 75 /\ C2 = 63) fun h => (compE ns e).bind fun a => some ⟨.tryx a.1 C1 t1 C2 t2, .tryx g1 g2 h a.2⟩)
  fun _ => none) fun _ => none) fun _ => none) fun _ => none) fun _ => none) fun _ => none) fun _ => none
noncomputable def compBg {ns : NS} (f : ∀ st, CSt ns st) : (b : List Stmt) -> Option { m : B // RB ns b m }
 | [] => some ⟨.nil, .nil⟩
 | st :: r => (f st).bind fun s => (compBg f r).bind fun b => some ⟨.cons s.1 b.1, .cons s.2 b.2⟩
noncomputable def stepS {ns : NS} (f : ∀ st, CSt ns st) : (st : Stmt) -> CSt ns st
 | .Expr e p => isCall e (fun g as ks q => (compE ns (.Call g as ks q)).bind fun a => some ⟨.ex a.1, .ex a.2⟩) fun _ => none
 | .Assign ts e p => isL1 ts (fun t => stepA ns t e p) fun _ => none
 | .If c x y p => (compE ns c).bind fun a => (compBg f x).bind fun u => (compBg f y).bind fun v => some ⟨.ife a.1 u.1 v.1, .ife a.2 u.2 v.2⟩
 | .While c x els p => isNil els ((compE ns c).bind fun a => (compBg f x).bind fun u => some ⟨.whl a.1 u.1, .whl a.2 u.2⟩) fun _ => none
 | .For t it x els p => isNil els ((compT ns t).bind fun u => (compI ns it).bind fun i => (compBg f x).bind fun v => some ⟨.forr u.1 i.1 v.1, .forr u.2 i.2 v.2⟩) fun _ => none
 | .Return v p => isSome v (fun e => (compE ns e).bind fun a => some ⟨.ret a.1, .ret a.2⟩) none
 | .Raise ex cause p => stepR ns ex cause p
 | .Try body hs els fin p => stepT ns body hs els fin p
 | _ => none
noncomputable def compF2 (ns : NS) : Nat -> ∀ st, CSt ns st
 | 0 => fun _ => none
 | n + 1 => stepS (compF2 ns n)
noncomputable def compB (ns : NS) (b : List Stmt) : Option { m : B // RB ns b m } := compBg (compF2 ns 20) b
set_option backward.match.sparseCases true
end
section
open PyProof.Rows
set_option genInjectivity false in
set_option genSizeOf false in
structure FI where
 n : Nat
 ns : NS
 body : B
set_option genInjectivity false in
set_option genSizeOf false in
structure Cx where
 prog : Program
 w : World
 hb : Heap
 K : Frag
 ft : Addr -> Option FI
noncomputable abbrev Cx.M (c : Cx) : Model := model c.prog c.w
noncomputable def ekey : Value -> Option Str
 | .str s _ => some s
 | _ => none
noncomputable def FieldsAre (es : List DictEntry) (fs : List (Nat × MV)) : Prop :=
 es.map (fun e => (ekey e.key, era e.val)) = fs.map (fun p => (some (fnm p.1), p.2)) /\ ∀ p ∈ fs, p.1 < 41
noncomputable abbrev seqObj (T : String) (vs : Array Value) (n : Nat) : Obj := { cls := .type T, data := .seq vs n }
noncomputable def ORep (c : Cx) (h : Heap) (a : Addr) : MO -> Prop
 | .list xs => ∃ vs n, h.get? a = some (seqObj "list" vs n) /\ vs.toList.map era = xs
 | .ro xs => ∃ vs n, h.get? a = some (seqObj "list" vs n) /\ c.hb.get? a = some (seqObj "list" vs n) /\ vs.toList.map era = xs
 | .tuple xs => ∃ vs n, h.get? a = some (seqObj "tuple" vs n) /\ vs.toList.map era = xs
 | .inst C d fs => h.get? a = some (instObj C d) /\ ∃ es n, h.get? d = some (dictOf es n) /\ (FieldsAre es fs /\ (initOf C).isSome = true)
 | .barr b => ∃ x, h.get? a = some { cls := .type "bytearray", data := .bytearray x 0 } /\ x.toList = b
 | .idict es => (a == sysModules) = false /\ ∃ f, h.MapOf (intKind c.prog c.w) a f /\ (∀ k, (f k).map era = getI k es) /\ h.DictLe a es.length
 | .tdict ks v => ∃ p u, h.DictOfH (tupleKind (intKind c.prog c.w)) a [(ks, p, u)] /\ era u = v
 | .iset xs => ∃ S, h.SetOf (intKind c.prog c.w) a S xs.length /\ ∀ k, S k = decide (k ∈ xs)
noncomputable def NotRo (o : MO) : Prop := ∀ xs, o ≠ .ro xs
noncomputable def Out (H : HH) (b : Addr) : Prop := H b = none /\ ∀ a C fs, H a ≠ some (.inst C b fs)
structure Rel (c : Cx) (h : Heap) (H : HH) : Prop where
 base : ∀ b o, c.hb.get? b = some o -> h.get? b = some o
 rep : ∀ a o, H a = some o -> ORep c h a o
 new : ∀ a o, H a = some o -> (∀ xs, o ≠ .ro xs) -> c.hb.get? a = none
 dnew : ∀ a C d fs, H a = some (.inst C d fs) -> c.hb.get? d = none /\ H d = none
 inj : ∀ a a' C C' d fs fs', H a = some (.inst C d fs) -> H a' = some (.inst C' d fs') -> a = a'
noncomputable def Kept (o : Obj) (h' : Heap) (b : Addr) : Prop := ∃ sl, h'.get? b = some { o with slots := sl } /\ (o.cls ≠ .type "frame" -> sl = o.slots)
noncomputable def IsFrm (o : Obj) : Prop := o.cls = .type "frame" /\ ∃ es n, o.data = .dict es n
noncomputable def FrmAt (h : Heap) (b : Addr) : Prop := ∃ o, h.get? b = some o /\ IsFrm o
structure Good (c : Cx) (Z : Addr -> Prop) (s : Shared) (H : HH) (s' : Shared) (H' : HH) : Prop where
 rel : Rel c s'.heap H'
 kept : ∀ b o, ¬ Z b -> s.heap.get? b = some o -> Out H b -> Kept o s'.heap b
 out : ∀ b o, ¬ Z b -> s.heap.get? b = some o -> Out H b -> Out H' b
 live : ∀ b, (s.heap.get? b).isSome = true -> (s'.heap.get? b).isSome = true
 imm : ∀ b o, s.heap.get? b = some o -> o.cls = .type "tuple" -> s'.heap.get? b = some o
 frm : ∀ b, FrmAt s.heap b -> Out H b -> FrmAt s'.heap b /\ Out H' b
 gens : s'.gens = s.gens
 os : s'.os = s.os
noncomputable def Z0 : Addr -> Prop := fun _ => False
theorem Kept.refl {o : Obj} {h : Heap} {b : Addr} (e : h.get? b = some o) : Kept o h b := ⟨o.slots, e, fun _ => rfl⟩
theorem Kept.step {o : Obj} {h h' : Heap} {b : Addr} (k : Kept o h b) (f : ∀ o', h.get? b = some o' -> Kept o' h' b) : Kept o h' b := by
 obtain ⟨sl, e, q⟩ := k
 obtain ⟨sl', e', q'⟩ := f _ e
 refine ⟨sl', e', fun hd => ?_⟩
 rw [q' hd]; exact q hd
theorem Good.refl {c : Cx} {Z : Addr -> Prop} {s : Shared} {H : HH} (r : Rel c s.heap H) {s' : Shared} (e : s'.heap = s.heap := by rfl) (g : s'.gens = s.gens := by rfl) (o : s'.os = s.os := by rfl) : Good c Z s H s' H :=
 ⟨e ▸ r, fun b o _ h q => .refl (e ▸ h), fun b o _ h q => q, fun b h => e ▸ h, fun b o h _ => e ▸ h, fun b h q => ⟨e ▸ h, q⟩, g, o⟩
theorem Good.trans {c : Cx} {Z : Addr -> Prop} {s s1 s2 : Shared} {H H1 H2 : HH} (x : Good c Z s H s1 H1) (y : Good c Z s1 H1 s2 H2) : Good c Z s H s2 H2 :=
 ⟨y.rel, fun b o z h q => (x.kept b o z h q).step fun o' e => y.kept b o' z e (x.out b o z h q),
  fun b o z h q => let ⟨o', e⟩ := Option.isSome_iff_exists.mp (x.live b (by rw [h]; rfl)); y.out b o' z e (x.out b o z h q), fun b h => y.live b (x.live b h), fun b o h t => y.imm b o (x.imm b o h t) t, fun b h q => let ⟨h1, q1⟩ := x.frm b h q; y.frm b h1 q1, y.gens.trans x.gens, y.os.trans x.os⟩
theorem Good.weak {c : Cx} {Z Z' : Addr -> Prop} {s s' : Shared} {H H' : HH} (x : Good c Z s H s' H') (z : ∀ b, (s.heap.get? b).isSome = true -> Z b -> Z' b) : Good c Z' s H s' H' :=
 ⟨x.rel, fun b o q h => x.kept b o (fun e => q (z b (by rw [h]; rfl) e)) h, fun b o q h => x.out b o (fun e => q (z b (by rw [h]; rfl) e)) h, x.live, x.imm, x.frm, x.gens, x.os⟩
theorem Good.all {c : Cx} {Z : Addr -> Prop} {s s' : Shared} {H H' : HH} (x : Good c Z0 s H s' H') : Good c Z s H s' H' := x.weak fun _ _ e => e.elim
noncomputable def WT (c : Cx) (Z : Addr -> Prop) {α : Type} (A : Around) (t : Sem α) (Q : α -> Shared -> HH -> Prop) (X : Value -> Shared -> HH -> Prop) (s : Shared) (H : HH) : Prop :=
 wpAny c.M A t (fun v s' => ∃ H', Good c Z s H s' H' /\ Q v s' H') (fun e s' => ∃ H', Good c Z s H s' H' /\ X e s' H') s
section
variable {c : Cx} {Z : Addr -> Prop} {α β : Type} {A : Around} {Q : α -> Shared -> HH -> Prop} {X : Value -> Shared -> HH -> Prop} {s : Shared} {H : HH}
end
noncomputable def KV {α : Type} (c : Cx) (Z : Addr -> Prop) (s : Shared) (H : HH) (Q : α -> Shared -> HH -> Prop) (K : α -> Shared -> Prop) : Prop := ∀ v s' H', Good c Z s H s' H' -> Q v s' H' -> K v s'
noncomputable def WG (P : Bool) (c : Cx) (Z : Addr -> Prop) {α : Type} (A : Around) (t : Sem α) (Q : α -> Shared -> HH -> Prop) (X : Value -> Shared -> HH -> Prop) (s : Shared) (H : HH) : Prop :=
 ∀ (K : α -> Shared -> Prop) (E : Value -> Shared -> Prop), KV c Z s H Q K -> KV c Z s H X E -> wpG P c.M A t K E s
section
variable {P : Bool} {c : Cx} {Z : Addr -> Prop} {α β : Type} {A : Around} {Q : α -> Shared -> HH -> Prop} {X : Value -> Shared -> HH -> Prop} {s s0 : Shared} {H H0 : HH} {K : α -> Shared -> Prop} {E : Value -> Shared -> Prop} {t : Sem α}
theorem KV.go (k : KV c Z s0 H0 Q K) (g : Good c Z s0 H0 s H) : KV c Z s H Q K := fun _ _ _ g' q => k _ _ _ (g.trans g') q
theorem KV.all (k : KV c Z s H Q K) : KV c Z0 s H Q K := fun _ _ _ g' q => k _ _ _ g'.all q
theorem WT.run (h : WT c Z A t Q X s H) (hK : KV c Z s H Q K) (hE : KV c Z s H X E) : wpAny c.M A t K E s := wpAny_mono h (fun v s' k => k.elim fun H' k => hK _ _ _ k.1 k.2) fun v s' k => k.elim fun H' k => hE _ _ _ k.1 k.2
theorem WG.of (h : WT c Z A t Q X s H) : WG P c Z A t Q X s H := fun K E hK hE => wpG.of (h.run hK hE)
theorem WG.from (h : WG P c Z A t Q X s H) (g : Good c Z s0 H0 s H) (hK : KV c Z s0 H0 Q K) (hE : KV c Z s0 H0 X E) : wpG P c.M A t K E s := h _ _ (hK.go g) (hE.go g)
theorem WT.fromG (h : WT c Z A t Q X s H) (g : Good c Z s0 H0 s H) (hK : KV c Z s0 H0 Q K) (hE : KV c Z s0 H0 X E) : wpG P c.M A t K E s := wpG.of (h.run (hK.go g) (hE.go g))
end
end
section
open PyProof.Rows
theorem ORep.keep {c : Cx} {h h' : Heap} {a : Addr} {o : MO} (r : ORep c h a o) (k1 : ∀ o', h.get? a = some o' -> h'.get? a = some o') (k2 : ∀ C d fs, o = .inst C d fs -> ∀ o', h.get? d = some o' -> h'.get? d = some o')
  (im : ∀ b o, h.get? b = some o -> o.cls = .type "tuple" -> h'.get? b = some o) : ORep c h' a o := by
 cases o with
 | list xs => obtain ⟨vs, n, e, q⟩ := r; exact ⟨vs, n, k1 _ e, q⟩
 | ro xs => obtain ⟨vs, n, e, q⟩ := r; exact ⟨vs, n, k1 _ e, q⟩
 | tuple xs => obtain ⟨vs, n, e, q⟩ := r; exact ⟨vs, n, k1 _ e, q⟩
 | inst C d fs => obtain ⟨e, es, n, ed, q⟩ := r; exact ⟨k1 _ e, es, n, k2 _ _ _ rfl _ ed, q⟩
 | barr b => obtain ⟨x, e, q⟩ := r; exact ⟨x, k1 _ e, q⟩
 | idict es =>
  obtain ⟨sy, f, hm, q, hl⟩ := r
  have hm' := hm
  obtain ⟨o, es', ep, e, r⟩ := hm
  exact ⟨sy, f, ⟨o, es', ep, k1 _ e, r⟩, q, hl.of_same e (k1 _ e)⟩
 | tdict ks v =>
  obtain ⟨p, u, ⟨o, es, ep, e, ex, hd, hes, hk, hn⟩, q⟩ := r
  refine ⟨p, u, ⟨o, es, ep, k1 _ e, ex, hd, hes, fun x hx => ?_, hn⟩, q⟩
  obtain ⟨o1, items, n, e1, e2, e3⟩ := hk x hx
  exact ⟨o1, items, n, im _ _ e1 e2, e2, e3⟩
 | iset xs =>
  obtain ⟨S, ⟨o, es, ep, t, e, r⟩, q⟩ := r
  exact ⟨S, ⟨o, es, ep, t, k1 _ e, r⟩, q⟩
theorem ORep.obj {c : Cx} {h : Heap} {a : Addr} {o : MO} (r : ORep c h a o) : ∃ ob, h.get? a = some ob /\ ∀ vs, ob.data ≠ .fields vs := by
 have mk : ∀ {ob : Obj}, h.get? a = some ob -> (∀ vs, ob.data ≠ .fields vs) -> ∃ ob, h.get? a = some ob /\ ∀ vs, ob.data ≠ .fields vs := fun e n => ⟨_, e, n⟩
 have dt : ∀ {ob : Obj} {es : Array DictEntry} {n : Nat}, h.get? a = some ob -> ob.data = .dict es n -> ∃ ob, h.get? a = some ob /\ ∀ vs, ob.data ≠ .fields vs := fun e d => ⟨_, e, fun vs q => by rw [d] at q; cases q⟩
 cases o with
 | list xs => exact r.elim fun _ r => r.elim fun _ r => mk r.1 (by intro vs q; cases q)
 | ro xs => exact r.elim fun _ r => r.elim fun _ r => mk r.1 (by intro vs q; cases q)
 | tuple xs => exact r.elim fun _ r => r.elim fun _ r => mk r.1 (by intro vs q; cases q)
 | inst C d fs => exact mk r.1 (by intro vs q; cases q)
 | barr b => exact r.elim fun _ r => mk r.1 (by intro vs q; cases q)
 | idict es => obtain ⟨sy, f, ⟨o, es', ep, e', _, r, _⟩, q, hl⟩ := r; exact dt e' r
 | tdict ks v => obtain ⟨p, u, ⟨o, es, ep, e', _, r, _⟩, q⟩ := r; exact dt e' r
 | iset xs => obtain ⟨S, ⟨o, es, ep, t, e', _, r, _⟩, q⟩ := r; exact ⟨_, e', fun vs q => by rw [r] at q; cases q⟩
theorem ORep.live {c : Cx} {h : Heap} {a : Addr} {o : MO} (r : ORep c h a o) : ∃ ob, h.get? a = some ob := r.obj.imp fun _ k => k.1
theorem ORep.notFields {c : Cx} {h : Heap} {a : Addr} {o : MO} (r : ORep c h a o) {ob : Obj} (e : h.get? a = some ob) (vs : Array Value) : ob.data ≠ .fields vs :=
 r.obj.elim fun _ k => Option.some.inj (e.symm.trans k.1) ▸ k.2 vs
section
variable {c : Cx} {Z : Addr -> Prop} {s : Shared} {H : HH} {h h' : Heap}
theorem Rel.live (r : Rel c h H) {a : Addr} {o : MO} (e : H a = some o) : ∃ ob, h.get? a = some ob := (r.rep a o e).live
theorem Rel.dlive (r : Rel c h H) {a C d : Addr} {fs : List (Nat × MV)} (e : H a = some (.inst C d fs)) : ∃ ob, h.get? d = some ob :=
 let ⟨_, es, n, ed, _⟩ := r.rep a _ e; ⟨_, ed⟩
theorem Rel.fresh (r : Rel c h H) {a : Addr} (e : h.get? a = none) : H a = none /\ Out H a := by
 have q : H a = none := by
  cases q : H a with
  | none => rfl
  | some o => obtain ⟨ob, z⟩ := r.live q; rw [e] at z; cases z
 refine ⟨q, q, fun b C fs z => ?_⟩
 obtain ⟨ob, y⟩ := r.dlive z
 rw [e] at y; cases y
theorem get?_size (h : Heap) : h.get? h.objs.size = none := by
 cases q : h.get? h.objs.size with
 | none => rfl
 | some o => exact absurd (Heap.lt_size q) (Nat.lt_irrefl _)
theorem Rel.mono (r : Rel c h H) (k : ∀ b o, h.get? b = some o -> h'.get? b = some o) : Rel c h' H :=
 ⟨fun b o e => k b o (r.base b o e), fun a o e => (r.rep a o e).keep (fun _ => k _ _) (fun _ _ _ _ _ => k _ _) fun b o e _ => k b o e, r.new, r.dnew, r.inj⟩
theorem good_push {o : Obj} {n : Nat} (r : Rel c s.heap H) : Good c Z s H { s with heap := s.heap.push o, toks := n } H :=
 ⟨r.mono fun b o' e => Heap.get?_push_of_some _ e, fun b o' _ e q => .refl (Heap.get?_push_of_some _ e), fun b o' _ e q => q,
  fun b e => let ⟨o', e'⟩ := Option.isSome_iff_exists.mp e; by rw [show (s.heap.push o).get? b = some o' from Heap.get?_push_of_some _ e']; rfl, fun b o' e _ => Heap.get?_push_of_some _ e, fun b ⟨o', e, x⟩ q => ⟨⟨o', Heap.get?_push_of_some _ e, x⟩, q⟩, rfl, rfl⟩
set_option tactic.hygienic true in
theorem Rel.put (r : Rel c h H) {a : Addr} {mo : MO} (ha : h.get? a = none) (hb : c.hb.get? a = none) (k : ∀ b o, h.get? b = some o -> h'.get? b = some o) (hr : ORep c h' a mo) (hi : ∀ C d fs, mo ≠ .inst C d fs) : Rel c h' (upd H a mo) := by
 have f := r.fresh ha
 have r' := r.mono k
 refine ⟨r'.base, fun b o e => ?_, fun b o e => ?_, fun b C d fs e => ?_, fun b b' C C' d fs fs' e e' => ?_⟩
 ·unfold upd at e; split at e
  ·rename_i q; cases e; rw [q]; exact hr
  ·exact r'.rep b o e
 ·unfold upd at e; split at e
  ·rename_i q; intro _; rw [q]; exact hb
  ·exact r.new b o e
 ·unfold upd at e; split at e
  ·cases e; exact absurd rfl (hi _ _ _)
  ·refine ⟨(r.dnew b C d fs e).1, ?_⟩
   rw [upd_ne (fun q => by have := f.2.2 b C fs; rw [<- q] at this; exact this e)]
   exact (r.dnew b C d fs e).2
 ·unfold upd at e e'; split at e
  ·cases e; exact absurd rfl (hi _ _ _)
  ·split at e'
   ·cases e'; exact absurd rfl (hi _ _ _)
   ·exact r.inj b b' C C' d fs fs' e e'
theorem hb_fresh (r : Rel c h H) : c.hb.get? h.objs.size = none := by
 cases q : c.hb.get? h.objs.size with
 | none => rfl
 | some o => exact absurd (Heap.lt_size (r.base _ _ q)) (Nat.lt_irrefl _)
theorem Out.put {a b : Addr} {mo : MO} (q : Out H b) (ne : b ≠ a) (hi : ∀ C fs, mo ≠ .inst C b fs) : Out (upd H a mo) b := by
 refine ⟨by rw [upd_ne ne]; exact q.1, fun x C fs e => ?_⟩
 unfold upd at e; split at e
 ·cases e; exact absurd rfl (hi _ _)
 ·exact q.2 x C fs e
theorem good_new {o : Obj} {mo : MO} {n : Nat} (r : Rel c s.heap H) (hr : ORep c (s.heap.push o) s.heap.objs.size mo) (hi : ∀ C d fs, mo ≠ .inst C d fs) :
  Good c Z s H { s with heap := s.heap.push o, toks := n } (upd H s.heap.objs.size mo) := by
 have k := fun b o' (e : s.heap.get? b = some o') => Heap.get?_push_of_some o e
 exact ⟨r.put (get?_size _) (hb_fresh r) k hr hi, fun b o' _ e q => .refl (k b o' e),
  fun b o' _ e q => q.put (Nat.ne_of_lt (Heap.lt_size e)) fun C fs => hi _ _ _,
  fun b e => let ⟨o', e'⟩ := Option.isSome_iff_exists.mp e; by rw [show (s.heap.push o).get? b = some o' from k b o' e']; rfl, fun b o' e _ => k b o' e,
  fun b ⟨o', e, x⟩ q => ⟨⟨o', k b o' e, x⟩, q.put (Nat.ne_of_lt (Heap.lt_size e)) fun C fs => hi _ _ _⟩, rfl, rfl⟩
set_option tactic.hygienic true in
theorem good_upd {a : Addr} {mo mo' : MO} {n : Nat} (r : Rel c s.heap H) (ha : H a = some mo) (h0 : NotRo mo) (hs : Heap.SameBut a s.heap h') (hr : ORep c h' a mo') (h1 : ∀ C d fs, mo ≠ .inst C d fs) (h2 : ∀ C d fs, mo' ≠ .inst C d fs)
  (h3 : ∀ o, s.heap.get? a = some o -> o.cls ≠ .type "tuple") : Good c Z s H { s with heap := h', toks := n } (upd H a mo') := by
 have ne : ∀ b o, s.heap.get? b = some o -> o.cls = .type "tuple" -> b ≠ a := fun b o e t q => h3 o (q ▸ e) t
 have im : ∀ b o, s.heap.get? b = some o -> o.cls = .type "tuple" -> h'.get? b = some o := fun b o e t => (hs.2 b (ne b o e t)).trans e
 have lv : ∀ b, (s.heap.get? b).isSome = true -> (h'.get? b).isSome = true := fun b e => by
  by_cases q : b = a
  ·subst q; obtain ⟨ob, z⟩ := hr.live; rw [z]; rfl
  ·rw [hs.2 b q]; exact e
 refine ⟨⟨fun b o e => ?_, fun b o e => ?_, fun b o e => ?_, fun b C d fs e => ?_, fun b b' C C' d fs fs' e e' => ?_⟩, fun b o' _ e q => ?_, fun b o' _ e q => ?_, fun b => lv b, im, fun b ⟨o', e, x⟩ q => ?_, rfl, rfl⟩
 ·exact (hs.2 b fun q => by rw [q, r.new a mo ha h0] at e; cases e).trans (r.base b o e)
 ·unfold upd at e; split at e
  ·rename_i q; cases e; rw [q]; exact hr
  ·rename_i q
   refine (r.rep b o e).keep (fun o' z => (hs.2 b q).trans z) (fun C d fs z o' y => (hs.2 d fun w => ?_).trans y) im
   subst z
   have := (r.dnew b C d fs e).2
   rw [w, ha] at this; cases this
 ·unfold upd at e; split at e
  ·rename_i q; intro _; rw [q]; exact r.new a mo ha h0
  ·exact r.new b o e
 ·unfold upd at e; split at e
  ·cases e; exact absurd rfl (h2 _ _ _)
  ·refine ⟨(r.dnew b C d fs e).1, ?_⟩
   have z := (r.dnew b C d fs e).2
   rw [upd_ne (fun q => by rw [q, ha] at z; cases z)]; exact z
 ·unfold upd at e e'; split at e
  ·cases e; exact absurd rfl (h2 _ _ _)
  ·split at e'
   ·cases e'; exact absurd rfl (h2 _ _ _)
   ·exact r.inj b b' C C' d fs fs' e e'
 ·have nb : b ≠ a := fun z => by rw [z] at q; rw [q.1] at ha; cases ha
  exact .refl ((hs.2 b nb).trans e)
 ·have nb : b ≠ a := fun z => by rw [z] at q; rw [q.1] at ha; cases ha
  exact q.put nb fun C fs => h2 _ _ _
 ·have nb : b ≠ a := fun z => by rw [z] at q; rw [q.1] at ha; cases ha
  exact ⟨⟨o', (hs.2 b nb).trans e, x⟩, q.put nb fun C fs => h2 _ _ _⟩
set_option tactic.hygienic true in
theorem good_updD {a C d : Addr} {fs fs' : List (Nat × MV)} {es : List DictEntry} {k n : Nat} (r : Rel c s.heap H) (ha : H a = some (.inst C d fs)) (hs : Heap.SameBut d s.heap h') (hd : h'.get? d = some (dictOf es k)) (hf : FieldsAre es fs') :
  Good c Z s H { s with heap := h', toks := n } (upd H a (.inst C d fs')) := by
 obtain ⟨e1, es0, n0, e2, e3⟩ := r.rep a _ ha
 have ne : ∀ b o, s.heap.get? b = some o -> o.cls = .type "tuple" -> b ≠ d := fun b o e t q => by rw [q, e2] at e; cases e; simp at t
 have im : ∀ b o, s.heap.get? b = some o -> o.cls = .type "tuple" -> h'.get? b = some o := fun b o e t => (hs.2 b (ne b o e t)).trans e
 have dn := r.dnew a C d fs ha
 have na : a ≠ d := fun q => by rw [<- q, ha] at dn; cases dn.2
 have lv : ∀ b, (s.heap.get? b).isSome = true -> (h'.get? b).isSome = true := fun b e => by
  by_cases q : b = d
  ·subst q; rw [hd]; rfl
  ·rw [hs.2 b q]; exact e
 refine ⟨⟨fun b o e => ?_, fun b o e => ?_, fun b o e => ?_, fun b C d fs e => ?_, fun b b' C C' d fs fs' e e' => ?_⟩, fun b o' _ e q => ?_, fun b o' _ e q => ?_, fun b => lv b, im, fun b ⟨o', e, x⟩ q => ?_, rfl, rfl⟩
 ·exact (hs.2 b fun q => by rw [q, dn.1] at e; cases e).trans (r.base b o e)
 ·unfold upd at e; split at e
  ·rename_i q; cases e; rw [q]; exact ⟨(hs.2 a na).trans e1, es, k, hd, hf, e3.2⟩
  ·rename_i q
   refine (r.rep b o e).keep (fun o' z => (hs.2 b fun w => ?_).trans z) (fun C' d' fs'' z o' y => (hs.2 d' fun w => ?_).trans y) im
   ·rw [w, dn.2] at e; cases e
   ·subst z; subst w; exact q (r.inj b a _ _ _ _ _ e ha)
 ·unfold upd at e; split at e
  ·rename_i q; intro _; rw [q]; exact r.new a _ ha (fun _ e => nomatch e)
  ·exact r.new b o e
 ·unfold upd at e; split at e
  ·cases e; exact ⟨dn.1, by rw [upd_ne (Ne.symm na)]; exact dn.2⟩
  ·refine ⟨(r.dnew b _ _ _ e).1, ?_⟩
   have z := (r.dnew b _ _ _ e).2
   rw [upd_ne (fun q => by rw [q, ha] at z; cases z)]; exact z
 ·unfold upd at e e'; split at e
  ·split at e'
   ·rename_i x y; exact x.trans y.symm
   ·rename_i x y; cases e; exact absurd (r.inj a b' _ _ _ _ _ ha e').symm y
  ·split at e'
   ·rename_i x y; cases e'; exact absurd (r.inj b a _ _ _ _ _ e ha) x
   ·exact r.inj b b' _ _ _ _ _ e e'
 ·have nb : b ≠ d := fun z => by rw [z] at q; exact q.2 a _ _ ha
  exact .refl ((hs.2 b nb).trans e)
 ·have nb : b ≠ a := fun z => by rw [z] at q; rw [q.1] at ha; cases ha
  exact q.put nb fun C' fs'' z => by cases z; exact q.2 a _ _ ha
 ·have nb : b ≠ a := fun z => by rw [z] at q; rw [q.1] at ha; cases ha
  have nd : b ≠ d := fun z => by rw [z] at q; exact q.2 a _ _ ha
  exact ⟨⟨o', (hs.2 b nd).trans e, x⟩, q.put nb fun C' fs'' z => by cases z; exact q.2 a _ _ ha⟩
theorem Rel.turn {b : Addr} (r : Rel c h H) (hb : c.hb.get? b = none) (ho : Out H b) (k : ∀ x o, x ≠ b -> h.get? x = some o -> h'.get? x = some o) (im : ∀ x o, h.get? x = some o -> o.cls = .type "tuple" -> h'.get? x = some o) : Rel c h' H := by
 refine ⟨fun x o e => k x o (fun q => by rw [q, hb] at e; cases e) (r.base x o e), fun x o e => ?_, r.new, r.dnew, r.inj⟩
 refine (r.rep x o e).keep (fun o' z => k x o' (fun w => ?_) z) (fun C d fs z o' y => k d o' (fun w => ?_) y) im
 ·rw [w, ho.1] at e; cases e
 ·subst z; subst w; exact ho.2 _ _ _ e
theorem good_Z {b : Addr} {n : Nat} (r : Rel c s.heap H) (hz : Z b) (hb : c.hb.get? b = none) (ho : Out H b) (k : ∀ x o, x ≠ b -> s.heap.get? x = some o -> h'.get? x = some o) (e1 : ∀ o, s.heap.get? b = some o -> o.cls ≠ .type "tuple") (hl : ∃ o, h'.get? b = some o) (hf : FrmAt s.heap b -> FrmAt h' b) :
  Good c Z s H { s with heap := h', toks := n } H := by
 have ne : ∀ b' o', s.heap.get? b' = some o' -> o'.cls = .type "tuple" -> b' ≠ b := fun b' o' e t q => e1 o' (q ▸ e) t
 have im : ∀ b o, s.heap.get? b = some o -> o.cls = .type "tuple" -> h'.get? b = some o := fun b o e t => k b o (ne b o e t) e
 have nz : ∀ x, ¬ Z x -> x ≠ b := fun x q e => q (e ▸ hz)
 refine ⟨r.turn hb ho k im, fun x o' z e q => .refl (k x o' (nz x z) e), fun x o' _ e q => q,
  fun x e => ?_, im, fun x f q => ⟨if w : x = b then w ▸ hf (w ▸ f) else let ⟨o, e, y⟩ := f; ⟨o, k x o w e, y⟩, q⟩, rfl, rfl⟩
 show (h'.get? x).isSome = true
 by_cases w : x = b
 ·obtain ⟨o, e⟩ := hl; rw [w, e]; rfl
 ·obtain ⟨o', e'⟩ := Option.isSome_iff_exists.mp e
  rw [k x o' w e']; rfl
theorem good_fresh {b : Addr} {n : Nat} {s1 : Shared} {H1 : HH} (g : Good c Z s H s1 H1) (nb : (s.heap.get? b).isSome = false) (hb : c.hb.get? b = none) (ho : Out H1 b) (k : ∀ x o, x ≠ b -> s1.heap.get? x = some o -> h'.get? x = some o)
  (nt : ∀ o, s1.heap.get? b = some o -> o.cls ≠ .type "tuple") : Good c Z s H { s1 with heap := h', toks := n } H1 := by
 have ne : ∀ x o, s.heap.get? x = some o -> x ≠ b := fun x o e q => by rw [<- q, e] at nb; cases nb
 have im : ∀ x o, s1.heap.get? x = some o -> o.cls = .type "tuple" -> h'.get? x = some o := fun x o e t => k x o (fun q => nt o (q ▸ e) t) e
 refine ⟨g.rel.turn hb ho k im, fun x o z e q => ?_, fun x o z e q => g.out x o z e q, fun x e => ?_, fun x o e t => im x o (g.imm x o e t) t, fun x f q => ?_, g.gens, g.os⟩
 ·obtain ⟨sl, e', q'⟩ := g.kept x o z e q
  exact ⟨sl, k x _ (ne x o e) e', q'⟩
 ·obtain ⟨o, e1⟩ := Option.isSome_iff_exists.mp e
  obtain ⟨o', e'⟩ := Option.isSome_iff_exists.mp (g.live x e)
  show (h'.get? x).isSome = true
  rw [k x o' (ne x o e1) e']; rfl
 ·obtain ⟨o, e, _⟩ := id f
  obtain ⟨⟨o', e', y⟩, q'⟩ := g.frm x f q
  exact ⟨⟨o', k x o' (ne x o e) e', y⟩, q'⟩
end
end
section
open PyProof.Rows
structure Kin (ns ns' : NS) : Prop where
 loc : ∀ x, ns.lookup x = some .local -> ns'.lookup x = some .local
 cell : ∀ x, ns.lookup x = some .cell -> ns'.lookup x = some .cell
 free : ∀ x, ns.lookup x = some .free -> ns'.lookup x = some .free \/ ns'.lookup x = some .cell
 glob : ∀ x, ns.lookup x = some .globalImplicit -> ns'.lookup x = some .globalImplicit
structure EnvOK (env : Env) (ns : NS) : Prop where
 kind : env.scope.kind = .function
 names : Kin ns env.scope.names
 glob : env.globals = mainGlobals
 blt : env.builtins = builtinsNs
 cells : ∀ x a, env.cells.lookup x = some a -> ∃ i, idx ns x = some i /\ (ns.lookup x = some .cell \/ ns.lookup x = some .free)
@[reducible] noncomputable def CellAt (c : Cx) (env : Env) (F : FF) (h : Heap) (H : HH) (i : Nat) (x : Str) : Prop :=
 ∃ a cv, env.cells.lookup x = some a /\ h.IsCell a cv /\ Out H a /\ c.hb.get? a = none /\ (∀ o, h.get? a = some o -> o.cls ≠ .type "tuple") /\ ∀ v, F.get i = some v -> ∃ u, cv = some u /\ era u = v
structure FrOK (c : Cx) (env : Env) (ns : NS) (F : FF) (h : Heap) (H : HH) : Prop where
 len : F.length = ns.length
 loc : ∃ m, h.Ns env.locals m /\ ∀ i x v, idx ns x = some i -> ns.lookup x = some .local -> F.get i = some v -> ∃ u, m x = some u /\ era u = v
 lout : Out H env.locals
 lnew : c.hb.get? env.locals = none
 ltup : ∀ o, h.get? env.locals = some o -> o.cls ≠ .type "tuple"
 cell : ∀ i x, idx ns x = some i -> (ns.lookup x = some .cell \/ ns.lookup x = some .free) -> CellAt c env F h H i x
 cinj : ∀ x y a, env.cells.lookup x = some a -> env.cells.lookup y = some a -> x = y
noncomputable def StkOK (c : Cx) (l : List Env) (h : Heap) (H : HH) : Prop :=
 ∀ env ∈ l, env.scope.kind ≠ .module /\ ∃ L, env.frame = some L /\ c.hb.get? L = none /\ FrmAt h L /\ Out H L
structure Fit (A : Around) (d : Nat) : Prop where
 handled : A.handled = none
 depth : A.depth + 8 * d <= 700
 units : A.units + 50 * d <= 5000
structure FitB (A : Around) (d : Nat) : Prop where
 handled : A.handled = none
 depth : A.depth + 8 * d + 4 <= 700
 units : A.units + 50 * d + 20 <= 5000
theorem FrOK.step {c : Cx} {env : Env} {ns : NS} {F : FF} {s s' : Shared} {H H' : HH} (f : FrOK c env ns F s.heap H) (g : Good c Z0 s H s' H') : FrOK c env ns F s'.heap H' := by
 obtain ⟨m, hn, hm⟩ := f.loc
 obtain ⟨o, es, ep, ho, hd, hk⟩ := hn
 obtain ⟨sl, e, -⟩ := g.kept _ _ id ho f.lout
 refine ⟨f.len, ⟨m, ⟨_, es, ep, e, hd, hk⟩, hm⟩, g.out _ _ id ho f.lout, f.lnew, fun o' e' => by rw [e] at e'; cases e'; exact f.ltup o ho, fun i x hi hx => ?_, f.cinj⟩
 obtain ⟨a, cv, h1, ⟨co, h2, h3⟩, h4, h5, h6, h7⟩ := f.cell i x hi hx
 obtain ⟨sl', e', -⟩ := g.kept _ _ id h2 h4
 exact ⟨a, cv, h1, ⟨_, e', h3⟩, g.out _ _ id h2 h4, h5, fun o' e2 => by rw [e'] at e2; cases e2; exact h6 co h2, h7⟩
theorem StkOK.step {c : Cx} {Z : Addr -> Prop} {l : List Env} {s s' : Shared} {H H' : HH} (f : StkOK c l s.heap H) (g : Good c Z s H s' H') : StkOK c l s'.heap H' := by
 intro env he
 obtain ⟨hk, L, h1, h2, h3, h4⟩ := f env he
 obtain ⟨h3', h4'⟩ := g.frm L h3 h4
 exact ⟨hk, L, h1, h2, h3', h4'⟩
theorem StkOK.frames {c : Cx} {h : Heap} {H : HH} : ∀ {l : List Env}, StkOK c l h H -> h.FunFrames c.hb l
 | [], _ => trivial
 | env :: l, f => by
  obtain ⟨hk, L, h1, h2, ⟨o, h3, _, es, n, h4⟩, h5⟩ := f env (.head _)
  exact ⟨hk, ⟨L, o, h1, h2, h3, fun vs q => by rw [h4] at q; cases q⟩, StkOK.frames fun e he => f e (.tail _ he)⟩
noncomputable def ExcAt (h0 h : Heap) (a : Addr) (C : Addr) (tr : Option Value) : Prop :=
 (h0.get? a).isSome = false /\ ∃ oe vs x, h.get? a = some oe /\ oe.cls = .ref C /\ oe.data = .fields vs /\ vs[0]? = some x /\
  match tr with
  | none => vs[1]? = some .none
  | some fl => ∃ T oT ts, vs[1]? = some (.ref T) /\ (h0.get? T).isSome = false /\ T ≠ a /\ h.get? T = some oT /\ oT.data = .fields ts /\ ts[3]? = some fl /\ oT.cls ≠ .type "tuple"
noncomputable def XF (h0 : Heap) (X : QX) (e : Value) (s' : Shared) (H' : HH) : Prop := ∃ a C, e = .ref a /\ ExcAt h0 s'.heap a C (some .none) /\ X C H'
noncomputable def XL (h0 : Heap) (env : Env) (X : QX) (e : Value) (s' : Shared) (H' : HH) : Prop :=
 ∃ a C tr, e = .ref a /\ ExcAt h0 s'.heap a C tr /\ (tr = none \/ tr = some .none \/ ∃ L, env.frame = some L /\ tr = some (rawInt L)) /\ X C H'
noncomputable def Noted (h0 : Heap) (env : Env) (X : QX) (e : Value) (s' : Shared) (H' : HH) : Prop := ∃ a C L, e = .ref a /\ env.frame = some L /\ ExcAt h0 s'.heap a C (some (rawInt L)) /\ X C H'
noncomputable def ZE (env : Env) : Addr -> Prop := fun b => b = env.locals \/ ∃ x, env.cells.lookup x = some b
structure Cf (c : Cx) (d : Nat) (ns : NS) (h0 : Heap) (A : Around) (env : Env) (F : FF) (s : Shared) (H : HH) : Prop where
 fit : FitB A d
 eok : EnvOK env ns
 rel : Rel c s.heap H
 fr : FrOK c env ns F s.heap H
 stk : ∃ e0 l, A.frames = some (e0 :: l) /\ StkOK c (e0 :: l) s.heap H /\ env.frame = e0.frame
 old : ∀ b, (h0.get? b).isSome = true -> (s.heap.get? b).isSome = true
theorem Cf.step {c : Cx} {d : Nat} {ns : NS} {h0 : Heap} {A : Around} {env : Env} {F : FF} {s s' : Shared} {H H' : HH} (x : Cf c d ns h0 A env F s H) (g : Good c Z0 s H s' H') : Cf c d ns h0 A env F s' H' := by
 obtain ⟨e0, l, h1, h2, h3⟩ := x.stk
 exact ⟨x.fit, x.eok, g.rel, x.fr.step g, ⟨e0, l, h1, h2.step g, h3⟩, fun b e => g.live b (x.old b e)⟩
noncomputable def CallS (c : Cx) (d : Nat) (P : Bool) (f : Addr) (vs : List MV) (H : HH) (Q : QE) (X : QX) : Prop :=
 ∀ (A : Around) (s : Shared) (vals : List Value) (l : List Env), Fit A d -> A.frames = some l -> StkOK c l s.heap H -> Rel c s.heap H -> vals.map era = vs ->
  codeG P c.M A (.call (.ref f) ⟨vals, []⟩) (fun r s' => match r with
   | .ok (.ret v) => ∃ H', Good c Z0 s H s' H' /\ Q (era v) H'
   | .ok _ => False
   | .error e => ∃ H', Good c Z0 s H s' H' /\ XF s.heap X e s' H') s
noncomputable def mfl : Flow -> Option Fl
 | .next => some .next
 | .ret v => some (.ret (era v))
 | _ => none
noncomputable def QSt (c : Cx) (env : Env) (ns : NS) (Q : QS) (f : Flow) (s' : Shared) (H' : HH) : Prop := ∃ fl F', mfl f = some fl /\ FrOK c env ns F' s'.heap H' /\ Q fl F' H'
noncomputable def RSt (c : Cx) (env : Env) (ns : NS) (s0 : Shared) (H0 : HH) (Q : QS) (X : QX) (r : Result) (s' : Shared) : Prop :=
 match r with
 | .ok f => ∃ H', Good c (ZE env) s0 H0 s' H' /\ QSt c env ns Q f s' H'
 | .error e => ∃ H', Good c (ZE env) s0 H0 s' H' /\ Noted s0.heap env X e s' H'
noncomputable def WhlS (c : Cx) (d : Nat) (P : Bool) (ns : NS) (cm : E) (bm : B) (F : FF) (H : HH) (Q : QS) (X : QX) : Prop :=
 ∀ (A : Around) (env : Env) (s s0 : Shared) (H0 : HH) (test : Expr) (body : List Stmt), Rel c s0.heap H0 -> Good c (ZE env) s0 H0 s H -> Cf c d ns s0.heap A env F s H -> RE ns test cm -> RB ns body bm ->
  codeG P c.M A (.whileLoop test body [] env) (RSt c env ns s0 H0 Q X) s
noncomputable def IterAt (h : Heap) (it : Addr) : ItS -> Prop
 | .up cur n => IsRangeIter h it cur n 1
 | .down cur n => IsRangeIter h it cur n (-1)
 | .list a i => h.IsListIter it a i
 | .tuple xs => ∃ t items i, h.IsTupleIter it t i /\ h.IsTuple t items /\ (items.toList.drop i).map era = xs
 | .bytes bs => ∃ b t i, KBw.IsBytesIter h it b t i /\ b.toList.drop i = bs
noncomputable def nextOf (H : HH) : ItS -> Option (Option (MV × ItS))
 | .up cur n => match n with | 0 => some none | n + 1 => some (some (.int cur, .up (cur + 1) n))
 | .down cur n => match n with | 0 => some none | n + 1 => some (some (.int cur, .down (cur - 1) n))
 | .list a i => match H a with | some (.list xs) => (match xs[i]? with | some v => some (some (v, .list a (i + 1))) | none => some none) | _ => none
 | .tuple xs => match xs with | [] => some none | x :: r => some (some (x, .tuple r))
 | .bytes bs => match bs with | [] => some none | b :: r => some (some (.int b.toNat, .bytes r))
noncomputable def ForS (c : Cx) (d : Nat) (P : Bool) (ns : NS) (t : T) (bm : B) (st : ItS) (F : FF) (H : HH) (Q : QS) (X : QX) : Prop :=
 ∀ (A : Around) (env : Env) (s s0 : Shared) (H0 : HH) (tgt : Expr) (body : List Stmt) (it : Addr), Rel c s0.heap H0 -> Good c (ZE env) s0 H0 s H -> Cf c d ns s0.heap A env F s H -> RT ns tgt t -> RB ns body bm ->
  IterAt s.heap it st -> (s0.heap.get? it).isSome = false ->
  codeG P c.M A (.forLoop tgt (.ref it) body [] env) (RSt c env ns s0 H0 Q X) s
noncomputable def LocOK (env : Env) (h : Heap) (H : HH) : Prop := (∃ m, h.Ns env.locals m) /\ Out H env.locals /\ ∀ o, h.get? env.locals = some o -> o.cls ≠ .type "tuple"
noncomputable def CompS (c : Cx) (d : Nat) (P : Bool) (elt : E) (v : Nat) (inner : Option (Nat × IT)) (st : ItS) (a : Addr) (F : FF) (H : HH) (Q : FF -> HH -> Prop) (X : QX) : Prop :=
 ∀ (ns : NS) (A : Around) (env : Env) (s s0 : Shared) (H0 : HH) (re : Expr) (gens : List Comprehension) (sc : Scope) (p : Pos) (depth : Nat) (it : Addr) (x : Str) (q : Pos) (it0 : Expr),
  Rel c s0.heap H0 -> Good c (fun b => b = env.locals) s0 H0 s H -> Cf c d ns s0.heap A env F s H -> RE ns re elt -> gens[depth]? = some ⟨.Name x q, it0, [], 0⟩ -> idx ns x = some v -> ns.lookup x = some .local ->
  (match inner with
   | none => gens[depth + 1]? = none
   | some (v2, im) => ∃ x2 q2 it2, gens[depth + 1]? = some ⟨.Name x2 q2, it2, [], 0⟩ /\ RI ns it2 im /\ idx ns x2 = some v2 /\ ns.lookup x2 = some .local /\ gens[depth + 2]? = none) ->
  IterAt s.heap it st -> (s0.heap.get? it).isSome = false ->
  codeG P c.M A (.compLoop (.ListComp re gens sc p) depth (.ref it) (.ref a) env) (fun r s' => match r with
   | .ok _ => ∃ H', Good c (fun b => b = env.locals) s0 H0 s' H' /\ ∃ F', FrOK c env ns F' s'.heap H' /\ Q F' H'
   | .error e => ∃ H', Good c (fun b => b = env.locals) s0 H0 s' H' /\ Noted s0.heap env X e s' H' /\ LocOK env s'.heap H') s
noncomputable def Ca (c : Cx) (d : Nat) (P : Bool) : CA := ⟨CallS c d P, P = true, CompS c d P⟩
noncomputable def At (c : Cx) (d : Nat) (P : Bool) (ns : NS) : Atoms := ⟨Ca c d P, WhlS c d P ns, ForS c d P ns⟩
structure ClsOK (c : Cx) (C : Addr) : Prop where
 get : plainGet c.K C "" = true
 dict : hasDictIn c.K C = true
 set : findIn c.K (.ref C) "__setattr__" = some (some (.builtin "object.__setattr__"))
 over : plainOver c.K C = true
 own : ∀ f, f < 41 -> mtab C f = none -> findIn c.K (.ref C) (fnm f) = some none
 taker : ∀ f, f < 41 -> takerIn c.K C (fnm f) = some none
 meth : ∀ f g, f < 41 -> mtab C f = some g -> findIn c.K (.ref C) (fnm f) = some (some (.ref g)) /\ isFn c.K (.ref g) = true /\ fnIn c.K g = true
 makes : makesIn c.K C = true
 init : ∀ g, initOf C = some g -> findIn c.K (.ref C) "__init__" = some (some (.ref g)) /\ isFn c.K (.ref g) = true
 keep : keepIn c.K (.ref C) = true
noncomputable def biVal : BI -> Value
 | .len => .builtin "len" | .abs => .builtin "abs" | .int => .type "int" | .min => .builtin "min" | .sum => .builtin "sum" | .str => .type "str" | .list => .type "list" | .tuple => .type "tuple" | .set => .type "set"
 | .bytes => .type "bytes" | .bytearray => .type "bytearray"
noncomputable def pfd (fd : FuncData) (body : List Stmt) (ns : NS) (cd : Addr) : FuncData :=
 { fd with body := .stmts body, globals := mainGlobals, closure := [], builtins := builtinsNs, code := .ref cd, scope := { fd.scope with kind := .function, isGenerator := false, isCoroutine := false, names := ns } }
noncomputable def FnAt (hb : Heap) (f : Addr) (body : List Stmt) (ns : NS) (n : Nat) : Prop := ∃ (fo : Obj) (fd : FuncData) (cd : Addr) (oc : Obj) (cvs : Array Value) (tq : Tok),
 hb.get? f = some { fo with data := .func (pfd fd body ns cd) } /\ hb.get? cd = some oc /\ oc.data = .fields cvs /\ cvs[1]? = some (.str fd.qualname tq) /\ ∀ vals : List Value, vals.length = n -> bindArgs (pfd fd body ns cd) ⟨vals, []⟩ = pure ((ns.map (·.1)).zip vals)
structure FnOK (c : Cx) (f : Addr) (fi : FI) : Prop where
 fn : ∃ body, FnAt c.hb f body fi.ns fi.n /\ RB fi.ns body fi.body
 par : fi.n <= fi.ns.length
 nodup : (fi.ns.map (·.1)).Nodup
 nofree : ∀ p ∈ fi.ns, p.2 ≠ .free
 params : ∀ p ∈ fi.ns.take fi.n, stored (some p.2) = true
 keep : keepIn c.K (.ref f) = true
structure BaseOK (c : Cx) : Prop where
 inK : c.K.In c.hb
 nolim : c.hb.NoLimit
 low : ∃ b o, c.hb.get? b = some o /\ sysModules < b
 glob : ∃ mg mb, c.hb.Ns mainGlobals mg /\ c.hb.Ns builtinsNs mb /\ (mg "range" = none /\ mb "range" = some (.type "range")) /\ ∀ x gv, gtab.lookup x = some gv -> match gv with
  | .fn a => mg x = some (.ref a)
  | .cls C => mg x = some (.ref C)
  | .cst i => ∃ t, mg x = some (.int i t)
  | .bi b => mg x = none /\ mb x = some (biVal b)
 cls : ∀ C, (initOf C).isSome = true -> ClsOK c C
 fns : ∀ f fi, c.ft f = some fi -> FnOK c f fi
 gfn : ∀ x f, gtab.lookup x = some (.fn f) -> keepIn c.K (.ref f) = true
end
section
open PyProof.Rows
theorem era_int {v : Value} {x : Int} (h : era v = .int x) : ∃ t, v = .int x t := by
 cases v with
 | int y t => exact ⟨t, congrArg (Value.int · t) (MV.int.inj h)⟩
 | _ => exact MV.noConfusion h
theorem era_ref {v : Value} {x : Addr} (h : era v = .ref x) : v = .ref x := by
 cases v with
 | ref y => exact congrArg Value.ref (MV.ref.inj h)
 | _ => exact MV.noConfusion h
theorem era_str {v : Value} {x : Str} (h : era v = .str x) : ∃ t, v = .str x t := by
 cases v with
 | str y t => exact ⟨t, congrArg (Value.str · t) (MV.str.inj h)⟩
 | _ => exact MV.noConfusion h
theorem era_bool {v : Value} {x : Bool} (h : era v = .bool x) : v = .bool x := by
 cases v with
 | bool y => exact congrArg Value.bool (MV.bool.inj h)
 | _ => exact MV.noConfusion h
theorem era_non {v : Value} (h : era v = .non) : v = .none := by
 cases v with
 | none => rfl
 | _ => exact MV.noConfusion h
theorem fdiv_pos {x y : Int} (h : 0 < y) : x.fdiv y = x / y := by rw [Int.fdiv_eq_ediv_of_nonneg _ (Int.le_of_lt h)]
theorem fmod_pos {x y : Int} (h : 0 < y) : x.fmod y = x % y := by rw [Int.fmod_eq_emod_of_nonneg _ (Int.le_of_lt h)]
theorem small_nat {x : Int} (h : small x) : x.natAbs < 2 ^ 62 := by unfold small at h; lia
theorem log2_small {y : Int} (h : y.natAbs < 2 ^ 62) : y.natAbs.log2 < 9000 := by
 by_cases h0 : y.natAbs = 0
 ·rw [h0]; decide +kernel
 ·have : y.natAbs.log2 < 62 := (Nat.log2_lt h0).mpr h
  lia
theorem bitOr_pp {x y : Int} (hx : 0 <= x) (hy : 0 <= y) : Builtin.bitOr x y = ((x.toNat ||| y.toNat : Nat) : Int) := by
 have e : ∀ z : Int, Builtin.bitNot (Builtin.bitNot z) = z := fun z => by simp only [Builtin.bitNot]; lia
 show Builtin.bitNot (Builtin.bitAnd (Builtin.bitNot x) (Builtin.bitNot y)) = _
 rw [bitAnd_nn (by simp only [Builtin.bitNot]; lia) (by simp only [Builtin.bitNot]; lia), e, e, e]
section
variable {c : Cx} {Z : Addr -> Prop} {A : Around} {X : Value -> Shared -> HH -> Prop} {s : Shared} {H : HH}
theorem add_lists' {M : Program} {w : World} {E : Value -> Shared -> Prop} {l b : Addr} {xs ys : Array Value} {n k : Nat} {Q : Value -> Shared -> Prop} (hl : s.heap.get? l = some (seqObj "list" xs n)) (hb : s.heap.get? b = some (seqObj "list" ys k))
  (hsz : xs.size + ys.size <= sizeLine) (h : Q (.ref s.heap.objs.size) { s with heap := s.heap.push (seqObj "list" (xs ++ ys) 0), toks := s.toks }) : wpAny (model M w) A (binaryOp .Add (.ref l) (.ref b)) Q E s :=
 concat_meets ⟨_, hl, rfl⟩ ⟨_, hb, rfl⟩ noFill_list_add seq_list_add PySem.F.slot_list_add PySem.F.entry_list_add (PySem.F.args_list_add_2 _ _) (list_addW l b xs ys n k none none #[] #[] hsz) ⟨hl, hb, h⟩
theorem mul_list' {M : Program} {w : World} {E : Value -> Shared -> Prop} {l : Addr} {items : Array Value} {k : Nat} {x : Int} {u : Tok} {Q : Value -> Shared -> Prop} (hl : s.heap.get? l = some (seqObj "list" items k))
  (hlo : -(2 ^ 63 : Int) <= x) (hhi : x < 2 ^ 63) (hsz : items.size * x.toNat <= 2 ^ 24)
  (h : Q (.ref s.heap.objs.size) { s with heap := s.heap.push { cls := .type "list", data := .seq (List.foldl (fun x1 x2 => x1 ++ x2) #[] (List.replicate (if items.isEmpty = true then 0 else x.toNat) items)) }, toks := s.toks }) :
  wpAny (model M w) A (binaryOp .Mult (.ref l) (.int x u)) Q E s :=
 wpAny_binaryOp_repeat_ref (T := "list") (U := "int") (by decide) ⟨_, hl, rfl⟩ (fun s' => typeIs_int s' x u) noFill_list_mul PySem.F.fills_int_mul PySem.F.slot_int_rmul repeat_list PySem.F.slot_int_index.lookup
  (call_meets PySem.F.slot_int_rmul (typeIs_int s x u) PySem.F.entry_int_rmul (PySem.F.args_int_rmul_2 _ _) (int___rmul___int_list x u l items k)
   ⟨hl, rfl, ⟨_, hl, rfl⟩, call_meets PySem.F.slot_list_mul ⟨_, hl, rfl⟩ PySem.F.entry_list_mul (PySem.F.args_list_mul_2 _ _)
    (AutoListH.list___mul___list_int_3 l items k x u (by simp [Builtin.List.listFitsIndex]; lia) (by lia) (by simp [Builtin.List.listTooLong, sizeLine]; lia))
    ⟨hl, h⟩⟩)
theorem foldl_rep (x : Value) : ∀ (n : Nat) (acc : Array Value), (List.foldl (fun x1 x2 => x1 ++ x2) acc (List.replicate n #[x])).toList = acc.toList ++ List.replicate n x := by
 intro n
 induction n with
 | zero => intro acc; simp
 | succ n ih => intro acc; rw [List.replicate_succ, List.foldl_cons, ih]; simp [List.replicate_succ]
theorem push_seq {h : Heap} {T : String} {vs : Array Value} {n : Nat} : (h.push (seqObj T vs n)).get? h.objs.size = some (seqObj T vs n) := Heap.get?_push_size _ rfl
theorem new_list {vs : Array Value} {n k : Nat} {xs : List MV} (r : Rel c s.heap H) (q : vs.toList.map era = xs) : Good c Z s H { s with heap := s.heap.push (seqObj "list" vs n), toks := k } (upd H s.heap.objs.size (.list xs)) :=
 good_new r ⟨vs, n, push_seq, q⟩ (fun _ _ _ e => nomatch e)
theorem new_tuple {vs : Array Value} {n k : Nat} {xs : List MV} (r : Rel c s.heap H) (q : vs.toList.map era = xs) : Good c Z s H { s with heap := s.heap.push (seqObj "tuple" vs n), toks := k } (upd H s.heap.objs.size (.tuple xs)) :=
 good_new r ⟨vs, n, push_seq, q⟩ (fun _ _ _ e => nomatch e)
@[elab_as_elim] theorem int_el {P : Value -> Prop} {v : Value} {k : Int -> Prop} (h : int? (era v) k) (f : ∀ x t, k x -> P (.int x t)) : P v := by cases v with | int x t => exact f x t h | _ => exact h.elim
@[elab_as_elim] theorem ref_el {P : Value -> Prop} {v : Value} {k : Addr -> Prop} (h : ref? (era v) k) (f : ∀ x, k x -> P (.ref x)) : P v := by cases v with | ref x => exact f x h | _ => exact h.elim
@[elab_as_elim] theorem str_el {P : Value -> Prop} {v : Value} {k : Str -> Prop} (h : str? (era v) k) (f : ∀ x t, k x -> P (.str x t)) : P v := by cases v with | str x t => exact f x t h | _ => exact h.elim
@[elab_as_elim] theorem bool_el {P : Value -> Prop} {v : Value} {k : Bool -> Prop} (h : bool? (era v) k) (f : ∀ x, k x -> P (.bool x)) : P v := by cases v with | bool x => exact f x h | _ => exact h.elim
@[elab_as_elim] theorem non_el {P : Value -> Prop} {v : Value} {p : Prop} (h : non? (era v) p) (f : p -> P .none) : P v := by cases v with | none => exact f h | _ => exact h.elim
@[elab_as_elim] theorem isB_el {P : Value -> Prop} {v : Value} {a b : Prop} (h : isB (era v) a b) (f : a -> P (.bool true)) (g : b -> P (.bool false)) : P v := by
 cases v with
 | bool x => cases x with | true => exact f (h.1 rfl) | false => exact g (h.2 rfl)
 | _ => exact h.elim
@[elab_as_elim] theorem ii_el {P : Value -> Value -> Prop} {va vb : Value} {k : Int -> Int -> Prop} (h : ii (era va) (era vb) k) (f : ∀ x t y u, k x y -> P (.int x t) (.int y u)) : P va vb :=
 int_el (P := fun va => P va vb) h fun x t h => int_el h fun y u h => f x t y u h
theorem list_el {o : Addr} {k : List MV -> Prop} {G : Prop} (r : Rel c s.heap H) (h : list? (H o) k) (f : ∀ vs n, H o = some (.list (vs.toList.map era)) -> s.heap.get? o = some (seqObj "list" vs n) -> k (vs.toList.map era) -> G) : G := by
 obtain ⟨xs, e, h⟩ := list_ex h
 obtain ⟨vs, n, e1, rfl⟩ := r.rep _ _ e
 exact f vs n e e1 h
theorem arr_len (vs : Array Value) : (vs.toList.map era).length = vs.size := by rw [List.length_map, Array.length_toList]
theorem opAdd_lists {p q : Addr} {Q : QE} (r : Rel c s.heap H) (h : list? (H p) fun xs => list? (H q) fun ys => xs.length + ys.length <= 1000 /\ mkSeq H (.list (xs ++ ys)) Q) : WT c Z A (binaryOp .Add (.ref p) (.ref q)) (fun v _ H' => Q (era v) H') X s H :=
 list_el r h fun vs n _ e1 h => list_el r h fun ws k _ e2 h => add_lists' e1 e2 (Nat.le_trans (by have h := h.1; rw [arr_len, arr_len] at h; exact h) (Nat.le_of_ble_eq_true rfl))
  ⟨_, new_list r (xs := vs.toList.map era ++ ws.toList.map era) (by rw [Array.toList_append, List.map_append]), h.2 _ (r.fresh (get?_size _)).1⟩
theorem one_arr {vs : Array Value} {k : MV -> Prop} (h : one? (vs.toList.map era) k) : ∃ v, vs = #[v] /\ k (era v) := by
 obtain ⟨l⟩ := vs
 cases l with
 | nil => exact h.elim
 | cons v r => cases r with
  | nil => exact ⟨v, rfl, h⟩
  | cons _ _ => exact h.elim
theorem opMul_list {p : Addr} {n : Int} {u : Tok} {Q : QE} (r : Rel c s.heap H) (h : list? (H p) fun xs => one? xs fun x => 0 <= n /\ n <= 1000 /\ mkSeq H (.list (List.replicate n.toNat x)) Q) : WT c Z A (binaryOp .Mult (.ref p) (.int n u)) (fun v _ H' => Q (era v) H') X s H := by
 refine list_el r h fun vs k _ e1 h => ?_
 obtain ⟨v, rfl, h2, h3, h4⟩ := one_arr h
 refine mul_list' e1 (by lia) (by lia) (by simp; lia) ⟨_, new_list r (xs := List.replicate _ (era v)) ?_, h4 _ (r.fresh (get?_size _)).1⟩
 rw [show (if (#[v] : Array Value).isEmpty = true then 0 else n.toNat) = n.toNat from rfl, foldl_rep]
 exact List.map_replicate
theorem bits64 {x : Int} (q : small x) : Builtin.Int.intBits x <= 64 := intBits_le_64 (Int.le_trans (b := -(2 ^ 62)) (by decide) (Int.le_of_lt q.1)) (Int.lt_trans (b := 2 ^ 62) q.2 (by decide))
theorem opB_sound {op : Operator} {va vb : Value} {Q : QE} (hA : A.handled = none) (r : Rel c s.heap H) (h : opB op (era va) (era vb) H Q) :
  WT c Z A (binaryOp op va vb) (fun v _ H' => Q (era v) H') X s H := by
 cases op with
 | Add =>
  cases va with
  | int x t =>
   exact int_el h fun y u h => add_int ⟨H, .refl r, h⟩
  | ref p => exact ref_el h fun q h => opAdd_lists r h
  | _ => exact h.elim
 | Sub => exact ii_el h fun x t y u h => PyProof.Rows.sub_int ⟨H, .refl r, h⟩
 | Mult =>
  cases va with
  | int x t =>
   exact int_el h fun y u h => PyProof.Rows.mul_int ⟨H, .refl r, h.2⟩ (h.1.elim (fun q => .of_left (bits64 q)) fun q => .of_right (bits64 q))
  | ref p =>
   exact int_el h fun n u h => opMul_list r h
  | _ => exact h.elim
 | FloorDiv => exact ii_el h fun x t y u h => floordiv_int (Int.ne_of_gt h.1) ⟨H, .refl r, by rw [fdiv_pos h.1]; exact h.2.2⟩ (.inl (PyProof.noPylong_of_log2 (log2_small (small_nat ⟨Int.lt_trans (by decide) h.1, h.2.1⟩))))
 | Mod => exact ii_el h fun x t y u h => mod_int' (Int.ne_of_gt h.1) ⟨H, .refl r, by rw [fmod_pos h.1]; exact h.2⟩
 | Pow => exact ii_el h fun x t y u h => pow_int h.2.1 (Int.le_trans (Int.mul_le_mul (Int.ofNat_le.mpr (bits64 (x := x) (by rcases h.1 with q | q <;> rw [q] <;> unfold small <;> decide))) h.2.2.1 h.2.1 (by decide)) (by decide)) ⟨H, .refl r, h.2.2.2⟩
 | LShift => exact ii_el h fun x t y u h => lshift_int_small h.1 (Int.le_trans h.2.1 (by decide)) (Nat.lt_trans (small_nat h.2.2.1) (by decide)) ⟨H, .refl r, h.2.2.2⟩
 | RShift => exact ii_el h fun x t y u h => rshift_int h.1 ⟨H, .refl r, by rw [fdiv_pos (Int.pow_pos (by decide))]; exact h.2⟩
 | BitAnd => exact ii_el h fun x t y u h => and_int ⟨H, .refl r, by rw [bitAnd_pp h.1 h.2.1]; exact h.2.2⟩
 | BitOr => exact ii_el h fun x t y u h => or_int ⟨H, .refl r, by rw [bitOr_pp h.1 h.2.1]; exact h.2.2⟩
 | _ => exact h.elim
end
end
section
open PyProof.Rows PySem.Spec PyProof.V PySem.SeqAt
theorem ints_are : ∀ {vs : List Value} {ns : List Int}, vs.map era = mvi ns -> IntsAre vs ns
 | [], [], _ => .nil
 | [], _ :: _, h => by simp [mvi] at h
 | _ :: _, [], h => by simp [mvi] at h
 | v :: vs, n :: ns, h => by
  simp only [mvi, List.map_cons, List.cons.injEq] at h
  obtain ⟨t, rfl⟩ := era_int h.1
  exact .cons n t (ints_are (by simpa [mvi] using h.2))
noncomputable def pdi (ns : List Int) : PyData := .list (ns.map PyData.int)
noncomputable def pdr (rs : List (List Int)) : PyData := .list (rs.map pdi)
theorem reads_int_list {c : Cx} {h : Heap} {a : Addr} {ns : List Int} (r : ORep c h a (.list (mvi ns))) : Reads h (.ref a) (pdi ns) [a] := by
 obtain ⟨vs, n, e, q⟩ := r
 exact reads_of_ints (vs := vs.toList) (by exact ⟨_, e, rfl, n, by simp⟩) (ints_are q)
theorem reads_rows {c : Cx} {h : Heap} {H : HH} (r : Rel c h H) : ∀ {ps : List MV} {rs : List (List Int)} {vs : List Value}, Rows H ps rs -> vs.map era = ps -> ∃ as, ReadsAll h vs (rs.map pdi) as
 | [], [], [], _, _ => ⟨_, .nil⟩
 | [], _ :: _, _, h, _ => h.elim
 | _ :: _, [], _, h, _ => h.elim
 | _ :: _, _ :: _, [], _, h => by simp at h
 | [], _, _ :: _, _, h => by simp at h
 | p :: ps, q :: rs, v :: vs, h, e => by
  obtain ⟨⟨a, rfl, ha⟩, ht⟩ := h
  simp only [List.map_cons, List.cons.injEq] at e
  obtain rfl := era_ref e.1
  obtain ⟨as, ra⟩ := reads_rows r ht e.2
  exact ⟨_, .cons (reads_int_list (r.rep _ _ ha)) ra⟩
theorem canLay_rows : ∀ rs : List (List Int), PyData.canLayAll0 (rs.map pdi) = true
 | [] => by simp [PyData.canLayAll0]
 | r :: rs => by simp [PyData.canLayAll0, PyData.canLay0, pdi, W.canLayAll0_ints r, canLay_rows rs]
theorem depth_rows : ∀ rs : List (List Int), PyData.depthAll (rs.map pdi) <= 2
 | [] => by simp [PyData.depthAll]
 | r :: rs => by
  have h := depth_rows rs
  have h2 := W.depthAll_ints r
  simp only [List.map_cons, PyData.depthAll, pdi, PyData.depth]
  lia
theorem shaped_rows (rs : List (List Int)) : shaped (pdr rs) = true := by
 have h1 := depth_rows rs
 have h2 : PyData.depth (pdr rs) <= 64 := by simp only [pdr, PyData.depth]; lia
 show (PyData.canLay0 (pdr rs) && decide (PyData.depth (pdr rs) <= 64)) = true
 rw [Bool.and_eq_true]
 exact ⟨by simp only [pdr, PyData.canLay0]; exact canLay_rows rs, decide_eq_true h2⟩
theorem noMix_rows : ∀ rs ss : List (List Int), noMixAll (rs.map pdi) (ss.map pdi) = true
 | [], [] => by simp [noMixAll]
 | [], _ :: _ => by simp [noMixAll]
 | _ :: _, [] => by simp [noMixAll]
 | r :: rs, q :: ss => by simp [noMixAll, noMix, pdi, W.noMix_ints r q, noMix_rows rs ss]
theorem same_rows : ∀ rs ss : List (List Int), sameAll (rs.map pdi) (ss.map pdi) = decide (rs = ss)
 | [], [] => by simp [Spec.sameAll]
 | [], _ :: _ => by simp [Spec.sameAll]
 | _ :: _, [] => by simp [Spec.sameAll]
 | r :: rs, q :: ss => by
  simp only [List.map_cons, Spec.sameAll, same_rows rs ss]
  simp only [pdi, Spec.same, W.same_ints]
  by_cases h : r = q <;> simp [h]
section
variable {c : Cx} {Z : Addr -> Prop} {A : Around} {X : Value -> Shared -> HH -> Prop} {s : Shared} {H : HH}
theorem rows_two {p q : Addr} {G : Prop} {ps qs : List MV} {rs ss : List (List Int)} (r : Rel c s.heap H) (h1 : H p = some (.list ps)) (h2 : H q = some (.list qs)) (h3 : Rows H ps rs) (h4 : Rows H qs ss)
  (k : ∀ as bs, Reads s.heap (.ref p) (pdr rs) as -> Reads s.heap (.ref q) (pdr ss) bs -> G) : G := by
 obtain ⟨vs, n, e1, q1⟩ := r.rep _ _ h1
 obtain ⟨ws, m, e2, q2⟩ := r.rep _ _ h2
 obtain ⟨as, ra⟩ := reads_rows r h3 q1
 obtain ⟨bs, rb⟩ := reads_rows r h4 q2
 exact k _ _ (Reads.list e1 rfl rfl ra) (Reads.list e2 rfl rfl rb)
theorem beq_dec {α : Type} [BEq α] [LawfulBEq α] [DecidableEq α] (x y : α) : (x == y) = decide (x = y) := by rw [Bool.eq_iff_iff]; simp
theorem noMixI (xs ys : List Int) : noMix (pdi xs) (pdi ys) = true := W.noMix_ints xs ys
theorem sameI (xs ys : List Int) : Spec.same (pdi xs) (pdi ys) = decide (xs = ys) := W.same_ints xs ys
theorem noMixR (xs ys : List (List Int)) : noMix (pdr xs) (pdr ys) = true := noMix_rows xs ys
theorem sameR (xs ys : List (List Int)) : Spec.same (pdr xs) (pdr ys) = decide (xs = ys) := same_rows xs ys
theorem eqV_sound {va vb : Value} {Q : Bool -> Prop} {E : Value -> Shared -> Prop} {R : Value -> Shared -> Prop} (hu : A.units + 64 < cLine) (r : Rel c s.heap H) (h : eqV (era va) (era vb) H Q)
  (k : ∀ q, Q q -> R (.bool q) s) : wpAny c.M A (compareOp .Eq va vb) R E s := by
 cases va with
 | int x t => exact int_el h fun y u h => PyProof.Rows.eq_int (k _ (by rw [beq_dec]; exact h))
 | str x t => exact str_el h fun y u h => PyProof.Rows.eq_str (k _ (by rw [beq_dec]; exact h))
 | ref p =>
  refine ref_el h fun q h => ?_
  rcases h with ⟨xs, ys, h1, h2, h3⟩ | ⟨ps, qs, rs, ss, h1, h2, _, _, h3, h4, h5⟩
  ·exact eq_dataH_same (reads_int_list (r.rep _ _ h1)) (reads_int_list (r.rep _ _ h2)) (W.shaped_ints xs) (W.shaped_ints ys) hu (noMixI xs ys) (by rw [sameI]; exact k _ h3)
  ·exact rows_two r h1 h2 h3 h4 fun as bs ra rb => eq_dataH_same ra rb (shaped_rows rs) (shaped_rows ss) hu (noMixR rs ss) (by rw [sameR]; exact k _ h5)
 | _ => exact h.elim
theorem neV_sound {va vb : Value} {Q : Bool -> Prop} {E : Value -> Shared -> Prop} {R : Value -> Shared -> Prop} (hu : A.units + 64 < cLine) (r : Rel c s.heap H) (h : eqV (era va) (era vb) H Q)
  (k : ∀ q, Q q -> R (.bool (!q)) s) : wpAny c.M A (compareOp .NotEq va vb) R E s := by
 cases va with
 | int x t => exact int_el h fun y u h => PyProof.Rows.ne_int (by rw [show (x != y) = !(x == y) from rfl, beq_dec]; exact k _ h)
 | str x t => exact str_el h fun y u h => PyProof.Rows.ne_str (by rw [show (x != y) = !(x == y) from rfl, beq_dec]; exact k _ h)
 | ref p =>
  refine ref_el h fun q h => ?_
  rcases h with ⟨xs, ys, h1, h2, h3⟩ | ⟨ps, qs, rs, ss, h1, h2, _, _, h3, h4, h5⟩
  ·exact ne_dataH_same (reads_int_list (r.rep _ _ h1)) (reads_int_list (r.rep _ _ h2)) (W.shaped_ints xs) (W.shaped_ints ys) hu (noMixI xs ys) (by rw [sameI]; exact k _ h3)
  ·exact rows_two r h1 h2 h3 h4 fun as bs ra rb => ne_dataH_same ra rb (shaped_rows rs) (shaped_rows ss) hu (noMixR rs ss) (by rw [sameR]; exact k _ h5)
 | _ => exact h.elim
theorem is_non {v : Value} (h : era v ≠ .junk) : (v == Value.none) = isNon (era v) := by cases v <;> first | rfl | exact absurd rfl h
theorem in_set {x : Int} {t : Tok} {p : Addr} {Q : QE} (r : Rel c s.heap H) (h : iset? (H p) fun xs => xs.length <= 1000 /\ Q (.bool (decide (x ∈ xs))) H) : WT c Z A (compareOp .In (.int x t) (.ref p)) (fun v _ H' => Q (era v) H') X s H := by
 obtain ⟨xs, h1, h2, h3⟩ := iset_ex h
 obtain ⟨S, hS, q⟩ := r.rep _ _ h1
 exact wpAny_inSet_of (knd := intKind c.prog c.w) (k := x) (by simp [intKind, Value.isInt]) rfl hS ⟨H, .refl r, by rw [q]; exact h3⟩
theorem opC_sound {op : CmpOp} {va vb : Value} {Q : QE} (hu : A.units + 64 < cLine) (r : Rel c s.heap H) (h : opC op (era va) (era vb) H Q) :
    WT c Z A (compareOp op va vb) (fun v _ H' => Q (era v) H') X s H := by
  cases op with
  | Lt => exact ii_el h fun x t y u h => PyProof.Rows.lt_int ⟨H, .refl r, h⟩
  | LtE => exact ii_el h fun x t y u h => PyProof.Rows.le_int ⟨H, .refl r, h⟩
  | Gt => exact ii_el h fun x t y u h => PyProof.Rows.gt_int ⟨H, .refl r, h⟩
  | GtE => exact ii_el h fun x t y u h => PyProof.Rows.ge_int ⟨H, .refl r, h⟩
  | Eq => exact eqV_sound (Q := fun q => Q (.bool q) H) hu r h fun q hq => ⟨H, .refl r, hq⟩
  | NotEq => exact neV_sound (Q := fun q => Q (.bool !q) H) hu r h fun q hq => ⟨H, .refl r, hq⟩
  | Is => exact non_el h fun h => is_none ⟨H, .refl r, by rw [is_non (njG_ex h).1]; exact (njG_ex h).2⟩
  | In =>
    cases va with
    | int x t => exact ref_el h fun p h => in_set r h
    | str x t => exact str_el h fun y u h => h.elim fun k h => PySem.P.in_str ⟨H, .refl r, by
        rw [show x = (⟨#[k]⟩ : Str) from congrArg Str.mk (congrArg List.toArray h.1 : x.cps.toList.toArray = _), StrLaws.found_one]; exact h.2⟩
    | _ => exact h.elim
  | _ => exact h.elim
end
end
section
open PyProof.Rows PySem.Spec PyProof.V PySem.SeqAt
section
variable {c : Cx} {Z : Addr -> Prop} {A : Around} {X : Value -> Shared -> HH -> Prop} {s : Shared} {H : HH} {h' : Heap}
theorem good_grow {n : Nat} (r : Rel c s.heap H) (k : ∀ b o, s.heap.get? b = some o -> h'.get? b = some o) : Good c Z s H { s with heap := h', toks := n } H :=
 ⟨r.mono k, fun b o' _ e q => .refl (k b o' e), fun b o' _ e q => q,
  fun b e => let ⟨o', e'⟩ := Option.isSome_iff_exists.mp e; by rw [show h'.get? b = some o' from k b o' e']; rfl, fun b o' e _ => k b o' e, fun b ⟨o', e, f⟩ q => ⟨⟨o', k b o' e, f⟩, q⟩, rfl, rfl⟩
theorem good_at {a : Addr} {mo : MO} {n : Nat} (r : Rel c s.heap H) (ha : s.heap.get? a = none) (k : ∀ b o, s.heap.get? b = some o -> h'.get? b = some o) (hr : ORep c h' a mo) (hi : ∀ C d fs, mo ≠ .inst C d fs) :
  Good c Z s H { s with heap := h', toks := n } (upd H a mo) := by
 have hb : c.hb.get? a = none := by
  cases q : c.hb.get? a with
  | none => rfl
  | some o => have := r.base a o q; rw [ha] at this; cases this
 exact ⟨r.put ha hb k hr hi, fun b o' _ e q => .refl (k b o' e),
  fun b o' _ e q => q.put (fun w => by rw [w, ha] at e; cases e) fun C fs => hi _ _ _,
  fun b e => let ⟨o', e'⟩ := Option.isSome_iff_exists.mp e; by rw [show h'.get? b = some o' from k b o' e']; rfl, fun b o' e _ => k b o' e, fun b ⟨o', e, f⟩ q => ⟨⟨o', k b o' e, f⟩, q.put (fun w => by rw [w, ha] at e; cases e) fun C fs => hi _ _ _⟩, rfl, rfl⟩
theorem rep_isList {a : Addr} {xs : List MV} {h : Heap} (q : ORep c h a (.list xs)) : ∃ vs n, h.get? a = some (seqObj "list" vs n) /\ h.IsList a vs /\ vs.toList.map era = xs := by
 obtain ⟨vs, n, e, q⟩ := q; exact ⟨vs, n, e, ⟨_, e, rfl, n, rfl⟩, q⟩
theorem arr_back (vs : Array Value) : vs.toList.toArray = vs := by simp
theorem map_len {vs : Array Value} {xs : List MV} (q : vs.toList.map era = xs) : vs.size = xs.length := by rw [<- q]; simp
theorem digit_str : ∀ k : Nat, k <= 9 -> (Str.ofString (toString ((k : Nat) : Int))) = (⟨#[48 + k]⟩ : Str) := by decide +kernel
@[elab_as_elim] theorem one_el {P : List Value -> Prop} {vals : List Value} {k : MV -> Prop} (h : one? (vals.map era) k) (f : ∀ v, k (era v) -> P [v]) : P vals := by
 cases vals with
 | nil => exact h.elim
 | cons v r => cases r with | nil => exact f v h | cons _ _ => exact h.elim
@[elab_as_elim] theorem zero_el {P : List Value -> Prop} {vals : List Value} {p : Prop} (h : zero? (vals.map era) p) (f : p -> P []) : P vals := by
 cases vals with
 | nil => exact f h
 | cons _ _ => exact h.elim
theorem z63 {n m : Nat} (h : n <= m) (k : Nat.ble m (2 ^ 62) = true) : (n : Int) < 2 ^ 63 := Int.lt_of_le_of_lt (Int.ofNat_le.mpr (Nat.le_trans h (Nat.le_of_ble_eq_true k))) (by decide)
theorem len_list {p : Addr} {vs : Array Value} {n : Nat} {Q : QE} (r : Rel c s.heap H) (e : s.heap.get? p = some (seqObj "list" vs n)) (h : (vs.toList.map era).length <= 1000000 /\ Q (.int (vs.toList.map era).length) H) :
  WT c Z A (call (biVal .len) [.ref p]) (fun v _ H' => Q (era v) H') X s H := by
 rw [arr_len] at h
 exact Calls.call_len_list ⟨_, e, rfl, n, rfl⟩ (z63 h.1 rfl) ⟨H, .refl r, h.2⟩
theorem len_sound {v : Value} {Q : QE} (r : Rel c s.heap H) (h : lenV (era v) H Q) : WT c Z A (call (biVal .len) [v]) (fun v _ H' => Q (era v) H') X s H := by
 cases v with
 | ref p =>
  obtain ⟨o, h1, h⟩ := some_ex h
  have q := r.rep _ _ h1
  cases o with
  | list ys => obtain ⟨vs, n, e1, rfl⟩ := q; exact len_list r e1 h
  | ro ys => obtain ⟨vs, n, e1, _, rfl⟩ := q; exact len_list r e1 h
  | tuple ys =>
   obtain ⟨vs, n, e1, rfl⟩ := q
   have h : (vs.toList.map era).length <= 1000000 /\ Q (.int (vs.toList.map era).length) H := h
   rw [arr_len] at h
   exact PyProof.Rows.len_tuple ⟨_, e1, rfl, n, rfl⟩ (z63 h.1 rfl) ⟨H, .refl r, h.2⟩
  | _ => exact h.elim
 | bytes b t => exact W.len_bytes (Nat.le_trans h.1 (Nat.le_of_ble_eq_true rfl)) ⟨H, .refl r, h.2⟩
 | str x t => exact PySem.P.len_str (Int.not_le.mpr (z63 h.1 rfl)) ⟨H, .refl r, h.2⟩
 | _ => exact h.elim
theorem min_list {a : Addr} {Q : QE} (hA : A.handled = none) (r : Rel c s.heap H) {ns : List Int} (h1 : H a = some (.list (mvi ns))) (h2 : ns ≠ []) (h4 : ∀ m, m ∈ ns -> (∀ y ∈ ns, m <= y) -> Q (.int m) H) :
  WT c Z A (call (biVal .min) [.ref a]) (fun v _ H' => Q (era v) H') X s H := by
 obtain ⟨vs, n, e1, hl, q1⟩ := rep_isList (r.rep _ _ h1)
 have hi := ints_are q1
 obtain ⟨xs, e⟩ := hi.allInts.items
 rw [arr_back] at e
 obtain rfl : ns = xs.toList.map (·.1) := by rw [<- hi.numsOf, <- nums_intItems, <- e]
 have hsz : 0 < xs.size := by
  have h3 := List.length_pos_iff.mpr h2; rwa [List.length_map, Array.length_toList] at h3
 rw [e] at hl
 refine min_intList hA hl hsz fun v h' tk hv hk => ?_
 obtain ⟨t, rfl⟩ := intItems_at hv
 obtain ⟨g1, g2⟩ := argBest_lt (numAt xs) (xs.size - 1)
 have e1 : xs.size - 1 + 1 = xs.size := Nat.succ_pred_eq_of_pos hsz
 refine ⟨H, good_grow r hk, h4 _ ?_ fun a ha => ?_⟩
 ·rw [numAt_eq]; exact getD_mem (by rw [List.length_map, Array.length_toList]; lia)
 ·obtain ⟨j, hj, rfl⟩ := mem_getD ha
  rw [List.length_map, Array.length_toList] at hj
  rw [<- numAt_eq]; exact g2 j (by lia)
theorem sum_list {a : Addr} {Q : QE} (hA : A.handled = none) (r : Rel c s.heap H) {ns : List Int} (h1 : H a = some (.list (mvi ns))) (h4 : Q (.int ns.sum) H) :
  WT c Z A (call (biVal .sum) [.ref a]) (fun v _ H' => Q (era v) H') X s H := by
 obtain ⟨vs, n, e1, hl, q1⟩ := rep_isList (r.rep _ _ h1)
 have hi := ints_are q1
 obtain ⟨xs, e⟩ := hi.allInts.items
 rw [arr_back] at e
 obtain rfl : ns = xs.toList.map (·.1) := by rw [<- hi.numsOf, <- nums_intItems, <- e]
 rw [e] at hl
 exact sum_intListG hA hl fun h' tk t' hk => ⟨H, good_grow r hk, by rw [preSum_eq, List.take_of_length_le (by simp)]; exact h4⟩
theorem intV_sound {vals : List Value} {Q : QE} (r : Rel c s.heap H) (hi : vals.length = 1) (h : intV (vals.map era) H Q) : WT c Z A (call (biVal .int) vals) (fun v _ H' => Q (era v) H') X s H := by
 cases vals with
 | nil => exact h.elim
 | cons v l => cases l with
  | cons _ _ => exact absurd hi (by simp)
  | nil => cases v with
   | int x t => exact call_int_int ⟨H, .refl r, h⟩
   | bool x => exact call_int_bool ⟨H, .refl r, h⟩
   | _ => exact h.elim
theorem minV_sound {vals : List Value} {Q : QE} (hA : A.handled = none) (r : Rel c s.heap H) (h : minV (vals.map era) H Q) : WT c Z A (call (biVal .min) vals) (fun v _ H' => Q (era v) H') X s H := by
  cases vals with
  | nil => exact h.elim
  | cons v l => cases l with
    | nil =>
      refine ref_el h fun a h => ?_
      obtain ⟨ns, h1, h2, _, h4⟩ := h
      exact min_list hA r h1 h2 h4
    | cons w l => cases l with
      | cons _ _ => exact h.elim
      | nil => exact ii_el h fun x t y u h => min_two_ints hA fun h' tk k => ⟨H, good_grow r k, by
          show Q (era (if y < x then _ else _)) H
          by_cases q : y < x
          · rw [if_pos q] at h ⊢; exact h
          · rw [if_neg q] at h ⊢; exact h⟩
theorem str_digit {x : Int} {t : Tok} {Q : QE} (r : Rel c s.heap H) (h1 : 0 <= x) (h2 : x <= 9) (h3 : Q (.str ⟨#[48 + x.toNat]⟩) H) : WT c Z A (call (biVal .str) [.int x t]) (fun v _ H' => Q (era v) H') X s H := by
 obtain ⟨k, rfl⟩ := Int.eq_ofNat_of_zero_le h1
 have h2 := Int.ofNat_le.mp h2
 refine PySem.P.str_of_int (Nat.lt_of_le_of_lt (Nat.log2_le_self k) (Nat.lt_of_le_of_lt h2 (Nat.le_of_ble_eq_true rfl))) ⟨H, .refl r, ?_⟩
 show Q (.str (Str.ofString (toString ((k : Nat) : Int)))) H
 rw [digit_str k h2]
 exact h3
@[elab_as_elim] theorem lst1_el {P : List Value -> Prop} {vals : List Value} {k : List MV -> Prop} (r : Rel c s.heap H) (h : lst1 (vals.map era) H k) (f : ∀ a vs n, s.heap.get? a = some (seqObj "list" vs n) -> k (vs.toList.map era) -> P [.ref a]) : P vals :=
 one_el (P := P) h fun v h => ref_el (P := fun v => P [v]) h fun a h => list_el r h fun vs n _ e h => f a vs n e h
theorem size_ok {vs : Array Value} {n : Nat} (h : (vs.toList.map era).length <= n) (k : Nat.ble n (2 ^ 24) = true) : vs.size <= sizeLine := by
 rw [arr_len] at h; exact Nat.le_trans h (Nat.le_of_ble_eq_true k)
theorem list_copy {a : Addr} {vs : Array Value} {n : Nat} {Q : QE} (r : Rel c s.heap H) (e1 : s.heap.get? a = some (seqObj "list" vs n)) (h : (vs.toList.map era).length <= 1000 /\ mkSeq H (.list (vs.toList.map era)) Q) :
  WT c Z A (call (biVal .list) [.ref a]) (fun v _ H' => Q (era v) H') X s H :=
 call_list_seq a (.inl rfl) e1 rfl rfl (fun h' c' k e' => ⟨_, good_at r (get?_size _) k (mo := .list _) ⟨vs, c', e', rfl⟩ (fun _ _ _ e => nomatch e), h.2 _ (r.fresh (get?_size _)).1⟩) (size_ok h.1 rfl)
theorem grown_none {h h' : Heap} (k : ∀ b o, h.get? b = some o -> h'.get? b = some o) : h.get? h'.objs.size = none := by
 cases q : h.get? h'.objs.size with
 | none => rfl
 | some o => exact absurd (Heap.lt_size (k _ _ q)) (Nat.lt_irrefl _)
theorem tuple_copy {a : Addr} {vs : Array Value} {n : Nat} {Q : QE} (r : Rel c s.heap H) (e1 : s.heap.get? a = some (seqObj "list" vs n)) (h : (vs.toList.map era).length <= 1000 /\ mkSeq H (.tuple (vs.toList.map era)) Q) :
  WT c Z A (call (biVal .tuple) [.ref a]) (fun v _ H' => Q (era v) H') X s H :=
 call_tuple_list ⟨_, e1, rfl, n, rfl⟩ (fun h' k => ⟨upd H h'.objs.size (.tuple (vs.toList.map era)), good_at r (grown_none k) (fun b o e => Heap.get?_push_of_some _ (k b o e)) ⟨vs, 0, push_seq, rfl⟩ (fun _ _ _ e => nomatch e), h.2 _ (r.fresh (grown_none k)).1⟩) (size_ok h.1 rfl)
theorem new_set {Q : QE} (r : Rel c s.heap H) (h : mkSeq H (.iset []) Q) : WT c Z A (call (biVal .set) []) (fun v _ H' => Q (era v) H') X s H :=
 call_set_0 fun led => ⟨_, good_new r (mo := .iset []) ⟨fun _ => false, ⟨_, #[], 0, _, Heap.get?_push_size _ rfl, ⟨rfl, rfl, rfl⟩, rfl, fun e he => by simp at he, fun k => by simp, by decide, by rfl, rfl⟩, fun k => by simp⟩ (fun _ _ _ e => nomatch e), h _ (r.fresh (get?_size _)).1⟩
theorem bcall_sound1 {b : BI} {vals : List Value} {Q : QE} (hA : A.handled = none) (r : Rel c s.heap H) (h : bcall b (vals.map era) H Q) (h1 : b ≠ .bytes) (h2 : b ≠ .bytearray) (h3 : b = .int -> vals.length = 1) :
  WT c Z A (call (biVal b) vals) (fun v _ H' => Q (era v) H') X s H := by
 cases b with
 | len => exact one_el h fun v h => len_sound r h
 | abs => exact one_el h fun v h => int_el h fun x t h => call_abs_int fun u tk => ⟨H, .refl r, h⟩
 | int => exact intV_sound r (h3 rfl) h
 | min => exact minV_sound hA r h
 | sum => exact one_el h fun v h => ref_el h fun a h => h.elim fun ns h => sum_list hA r h.1 h.2.2
 | str => exact one_el h fun v h => int_el h fun x t h => str_digit r h.1 h.2.1 h.2.2
 | list => exact lst1_el r h fun a vs n e h => list_copy r e h
 | tuple => exact lst1_el r h fun a vs n e h => tuple_copy r e h
 | set => exact zero_el h fun h => new_set r h
 | bytes => exact absurd rfl h1
 | bytearray => exact absurd rfl h2
end
end
section
open PyProof.Rows PySem.Spec PyProof.V PySem.SeqAt
theorem sub_plain {slice : Expr} (h : notSlice slice = true) (o i : Value) : subscripted slice false o i = operate [o, i] (getItem o i) := by
 cases slice <;> first | rfl | cases h
theorem sub_slice (lo hi : Option Expr) (q : Pos) (o i : Value) : subscripted (.Slice lo hi none q) false o i = operate [i, o] (getItem o i) := rfl
theorem map_get {vs : Array Value} {xs : List MV} (q : vs.toList.map era = xs) {i : Nat} {v : MV} (h : xs[i]? = some v) : ∃ u, vs[i]? = some u /\ era u = v := by
 subst q
 rw [List.getElem?_map] at h
 simp only [Array.getElem?_toList] at h
 exact Option.map_eq_some_iff.mp h
theorem min_toNat {k : Int} (n : Nat) (h : 0 <= k) : max 0 (min k n) = ((min k.toNat n : Nat) : Int) := by
 obtain ⟨j, rfl⟩ := Int.eq_ofNat_of_zero_le h
 rw [Int.toNat_natCast]
 rcases Nat.le_total j n with q | q
 ·rw [Nat.min_eq_left q, Int.min_eq_left (Int.ofNat_le.mpr q), Int.max_eq_right (Int.natCast_nonneg _)]
 ·rw [Nat.min_eq_right q, Int.min_eq_right (Int.ofNat_le.mpr q), Int.max_eq_right (Int.natCast_nonneg _)]
theorem sub_whole {a b n : Nat} (h : b - a = n) (k : b <= n) : a = 0 \/ n = 0 := by lia
theorem strIdx (k j : Int) (n : Nat) (hk : 0 <= k) (hj : 0 <= j) : Builtin.Str.strSliceIndices (some k) (some j) 1 n = sliceRange ((min k.toNat n : Nat) : Int) ((min j.toNat n : Nat) : Int) 1 := by
 rw [<- min_toNat n hk, <- min_toNat n hj]
 unfold Builtin.Str.strSliceIndices
 simp only [Int.not_lt.mpr hk, Int.not_lt.mpr hj, if_false, if_true, show (1 : Int) > 0 from by decide]
theorem strIdx' (k : Int) (n : Nat) (hk : 0 <= k) : Builtin.Str.strSliceIndices (some k) none 1 n = sliceRange ((min k.toNat n : Nat) : Int) (n : Int) 1 := by
 rw [<- min_toNat n hk]
 unfold Builtin.Str.strSliceIndices
 simp only [Int.not_lt.mpr hk, if_false, if_true, show (1 : Int) > 0 from by decide]
set_option tactic.hygienic true in
theorem slice_core {x : Str} {t : Tok} {l u : Option (Int × Tok)} {Q : Value -> Shared -> Prop} {s : Shared} {a b : Nat} (e : slicePicked x l u none = sliceRange a b 1) (hb : b <= x.length) (hz : x.length <= sizeLine)
  (h : ∀ t' k, Q (.str ⟨((x.cps.toList.drop a).take (b - a)).toArray⟩ t') { s with toks := k }) : (sliceMade x t l u none).post Q s := by
 have hp : (slicePicked x l u none).filterMap (x.cps[·]?) = (x.cps.toList.drop a).take (b - a) := by
  rw [e, sliceRange_one, pick_run]
 have hl : (slicePicked x l u none).length = b - a := by rw [e, sliceRange_one]; simp
 unfold sliceMade
 split
 ·rename_i q
  have q2 : b - a = x.length := hl.symm.trans (beq_iff_eq.mp (Bool.and_eq_true_iff.mp q).2)
  have g := h t s.toks
  have e : ((x.cps.toList.drop a).take (b - a)) = x.cps.toList := by
   rw [q2, show x.length = x.cps.toList.length from (Array.length_toList).symm]
   rcases sub_whole q2 hb with rfl | z
   ·rw [List.drop_zero, List.take_length]
   ·rw [List.length_eq_zero_iff.mp ((Array.length_toList).trans z)]; rfl
  rw [e] at g
  exact g
 ·rw [hp]; exact ⟨by show (Array.size _) <= _; rw [List.size_toArray]; exact Nat.le_trans (List.length_take_le ..) (Nat.le_trans (Nat.sub_le ..) (Nat.le_trans hb hz)), h _ _⟩
theorem take_drop_comm {α : Type} (l : List α) (k j : Nat) (h : k <= j) : (l.drop (min k l.length)).take (min j l.length - min k l.length) = (l.take j).drop k := by
 rw [List.drop_take]
 by_cases hk : k <= l.length
 ·rw [Nat.min_eq_left hk]
  by_cases hj : j <= l.length
  ·rw [Nat.min_eq_left hj]
  ·rw [Nat.min_eq_right (by lia), List.take_of_length_le (by simp), List.take_of_length_le (by simp; lia)]
 ·rw [Nat.min_eq_right (by lia), Nat.min_eq_right (by lia), List.drop_eq_nil_of_le (Nat.le_refl _), List.drop_eq_nil_of_le (by lia)]; simp
theorem items_are {c : Cx} : ∀ {vs : List Value} {ns : List Int}, vs.map era = mvi ns -> ItemsAre (intKind c.prog c.w) ns vs
 | [], [], _ => .nil
 | [], _ :: _, h => by simp [mvi] at h
 | _ :: _, [], h => by simp [mvi] at h
 | v :: vs, n :: ns, h => by
  simp only [mvi, List.map_cons, List.cons.injEq] at h
  obtain ⟨t, rfl⟩ := era_int h.1
  exact .cons (by simp [intKind, Value.isInt]) (items_are (by simpa [mvi] using h.2))
section
variable {c : Cx} {Z : Addr -> Prop} {A : Around} {X : Value -> Shared -> HH -> Prop} {s : Shared} {H : HH} {h' : Heap}
theorem lt63 {k : Int} (h : k < 2 ^ 62) : k < 2 ^ 63 := Int.lt_trans h (by decide)
theorem list_item (hu : A.in1.units < cLine) {value slice : Expr} {p : Addr} {k : Int} {t : Tok} {vs : Array Value} {n : Nat} {Q : QE} (hsl : notSlice slice = true) (r : Rel c s.heap H) (e1 : s.heap.get? p = some (seqObj "list" vs n))
  (h : 0 <= k /\ k < 2 ^ 62 /\ some? ((vs.toList.map era)[k.toNat]?) fun v => Q v H) : WT c Z A (subscriptTail value slice (.ref p) (.int k t)) (fun v _ H' => Q (era v) H') X s H := by
 obtain ⟨h3, h4, h⟩ := h
 obtain ⟨v, h5, h6⟩ := some_ex h
 obtain ⟨u, e, rfl⟩ := map_get rfl h5
 have hl : s.heap.IsList p vs := ⟨_, e1, rfl, n, rfl⟩
 exact tail_any hl.typeIs slot_list_getitem.lookup (wpAny_getItem_list hl h3 (lt63 h4) e ⟨H, .refl r, h6⟩) (sub_plain hsl _ _)
theorem ref_item (hu : A.in1.units < cLine) {value slice : Expr} {p : Addr} {k : Int} {t : Tok} {Q : QE} (hsl : notSlice slice = true) (r : Rel c s.heap H)
  (h : some? (H p) fun ob => some? (seqOf ob) fun xs => 0 <= k /\ k < 2 ^ 62 /\ some? (xs[k.toNat]?) fun v => Q v H) : WT c Z A (subscriptTail value slice (.ref p) (.int k t)) (fun v _ H' => Q (era v) H') X s H := by
 obtain ⟨ob, h1, h⟩ := some_ex h
 have q := r.rep _ _ h1
 cases ob with
 | list ys => obtain ⟨vs, n, e1, rfl⟩ := q; exact list_item hu hsl r e1 h
 | ro ys => obtain ⟨vs, n, e1, _, rfl⟩ := q; exact list_item hu hsl r e1 h
 | tuple ys =>
  obtain ⟨vs, n, e1, rfl⟩ := q
  obtain ⟨h3, h4, h⟩ := h
  obtain ⟨v, h5, h6⟩ := some_ex h
  obtain ⟨u, e, rfl⟩ := map_get rfl h5
  have hl : IsTup s.heap p vs.toList.toArray := by rw [arr_back]; exact ⟨_, e1, rfl, n, rfl⟩
  have hlt : k.toNat < vs.size := (Array.getElem?_eq_some_iff.mp e).1
  refine item_tupleT hl (Int.le_trans (by decide) h3) (lt63 h4) (j := k.toNat) ?_ (by rw [Array.getElem?_toList]; exact e) ⟨H, .refl r, h6⟩ (sub_plain hsl _ _)
  simp only [seqIndex?, Array.length_toList]
  have e2 := (Int.toNat_lt h3).mp hlt
  simp [Int.not_lt.mpr h3, h3, e2]
 | _ => exact h.elim
theorem bytes_item {value slice : Expr} {b : Array UInt8} {t u : Tok} {k : Int} {Q : QE} (hsl : notSlice slice = true) (r : Rel c s.heap H)
  (h : b.toList.length <= 1000000 /\ 0 <= k /\ k < 2 ^ 62 /\ some? (b.toList[k.toNat]?) fun v => Q (.int v.toNat) H) : WT c Z A (subscriptTail value slice (.bytes b t) (.int k u)) (fun v _ H' => Q (era v) H') X s H := by
 obtain ⟨h0, h1, h2, h⟩ := h
 obtain ⟨v, h3, h4⟩ := some_ex h
 obtain ⟨l⟩ := b
 have hlt : k.toNat < l.length := (List.getElem?_eq_some_iff.mp h3).1
 refine tail_any (typeIs_bytes s _ t) FB.slot_bytes_getitem.lookup (getItem_bytes (Nat.le_trans h0 (Nat.le_of_ble_eq_true rfl)) h1 ((Int.toNat_lt h1).mp hlt) ⟨H, .refl r, ?_⟩) (sub_plain hsl _ _)
 rw [List.getD_eq_getElem?_getD, h3]
 exact h4
theorem dict_item (hu : A.in1.units < cLine) {value slice : Expr} {p q : Addr} {ks : List Int} {v : MV} {Q : QE} (hsl : notSlice slice = true) (r : Rel c s.heap H) (h1 : H p = some (.tdict ks v)) (h2 : H q = some (.tuple (mvi ks))) (h4 : Q v H) :
  WT c Z A (subscriptTail value slice (.ref p) (.ref q)) (fun v _ H' => Q (era v) H') X s H := by
 obtain ⟨pp, u, hm, rfl⟩ := r.rep _ _ h1
 obtain ⟨vs, n, e1, q1⟩ := r.rep _ _ h2
 have hk : (tupleKind (intKind c.prog c.w)).is s.heap ks q := ⟨_, vs, n, e1, rfl, rfl, items_are q1⟩
 exact tail_any hm.typeIs slot_dict_getitem.lookup (wpAny_getItem_heap hu hk hm (p := (pp, u)) (by simp [atKey]) ⟨H, .refl r, h4⟩) (sub_plain hsl _ _)
theorem opSub_sound (hu : A.in1.units < cLine) {value slice : Expr} {va vb : Value} {Q : QE} (hsl : notSlice slice = true) (r : Rel c s.heap H) (h : opSub (era va) (era vb) H Q) :
  WT c Z A (subscriptTail value slice va vb) (fun v _ H' => Q (era v) H') X s H := by
 cases va with
 | ref p => cases vb with
  | int k t => exact ref_item hu hsl r h
  | ref q => obtain ⟨ks, v, h1, h2, _, h4⟩ := h; exact dict_item hu hsl r h1 h2 h4
  | _ => exact h.elim
 | bytes b t => exact int_el h fun k u h => bytes_item hsl r h
 | _ => exact h.elim
theorem list_slice {value : Expr} {lo hi : Option Expr} {q : Pos} {p : Addr} {vs : Array Value} {n : Nat} {vl vu : Value} {l u : Option Int} {ys : List MV} {Q : QE} (r : Rel c s.heap H) (e1 : s.heap.get? p = some (seqObj "list" vs n))
  (hz : vs.size <= 100000) (pl : IsPart vl l) (pu : IsPart vu u) (hy : (slicePick vs l u none).toList.map era = ys) (h : mkSeq H (.list ys) Q) :
  wpAny c.M A (subscriptTail value (.Slice lo hi none q) (.ref p) (.ref s.heap.objs.size)) (fun v s' => ∃ H', Good c Z s H s' H' /\ Q (era v) H') (fun v s' => ∃ H', Good c Z s H s' H' /\ X v s' H')
   { s with heap := s.heap.push { cls := .type "slice", data := .fields #[vl, vu, .none] } } := by
 have hl : (s.heap.push { cls := .type "slice", data := .fields #[vl, vu, .none] }).IsList p vs := ⟨_, Heap.get?_push_of_some _ e1, rfl, n, rfl⟩
 refine tail_any (ops := [.ref s.heap.objs.size, .ref p]) (s := { s with heap := s.heap.push { cls := .type "slice", data := .fields #[vl, vu, .none] } }) hl.typeIs slot_list_getitem.lookup ?_ (sub_slice _ _ _ _ _)
 refine wpAny_getItem_list_slice hl (Heap.IsSliceOf.new ..) pl pu .none (by simp) ?_ (by rw [sizeLine_eq]; lia)
 have k : ∀ b o, s.heap.get? b = some o -> ((s.heap.push { cls := .type "slice", data := .fields #[vl, vu, .none] }).push { cls := .type "list", data := .seq (slicePick vs l u none) }).get? b = some o :=
  fun b o e => Heap.get?_push_of_some _ (Heap.get?_push_of_some _ e)
 have f : s.heap.get? (s.heap.push { cls := .type "slice", data := .fields #[vl, vu, .none] }).objs.size = none := by
  have z0 := Heap.size_push s.heap ({ cls := .type "slice", data := .fields #[vl, vu, .none] } : Obj)
  cases w : s.heap.get? (s.heap.push { cls := .type "slice", data := .fields #[vl, vu, .none] }).objs.size with
  | none => rfl
  | some o => exact absurd (Heap.lt_size w) (by rw [z0]; exact Nat.not_lt.mpr (Nat.le_succ _))
 exact ⟨_, good_at r f k (mo := .list ys) ⟨_, 0, push_seq, hy⟩ (fun _ _ _ e => nomatch e), h _ (r.fresh f).1⟩
theorem str_slice {value : Expr} {lo hi : Option Expr} {q : Pos} {x : Str} {t : Tok} {l u : Option (Int × Tok)} {a b : Nat} {Q : QE} (r : Rel c s.heap H) (hz : x.length <= sizeLine)
  (e : slicePicked x l u none = sliceRange a b 1) (hb : b <= x.length) (h : Q (.str ⟨((x.cps.toList.drop a).take (b - a)).toArray⟩) H) :
  wpAny c.M A (subscriptTail value (.Slice lo hi none q) (.str x t) (.ref s.heap.objs.size)) (fun v s' => ∃ H', Good c Z s H s' H' /\ Q (era v) H') (fun v s' => ∃ H', Good c Z s H s' H' /\ X v s' H')
   { s with heap := s.heap.push { cls := .type "slice", data := .fields #[partValue l, partValue u, .none] } } := by
 refine tail_any (ops := [.ref s.heap.objs.size, .str x t]) (typeIs_str _ x t) F.slot_str_getitem.lookup ?_ (sub_slice _ _ _ _ _)
 refine wpAny_getItem_str_slice (l := l) (u := u) (st := none) ⟨_, Heap.get?_push_size _ rfl, rfl, rfl⟩ rfl (slice_core e hb hz fun t' k => ?_)
 exact ⟨H, good_grow r fun b o e => Heap.get?_push_of_some _ e, h⟩
variable (c Z X s H) in
noncomputable def SlcT (A : Around) (value : Expr) (lo hi : Option Expr) (q : Pos) (Q : QE) (va vl vu : Value) : Prop :=
    wpAny c.M A (subscriptTail value (.Slice lo hi none q) va (.ref s.heap.objs.size)) (fun v s' => ∃ H', Good c Z s H s' H' /\ Q (era v) H') (fun v s' => ∃ H', Good c Z s H s' H' /\ X v s' H')
      { s with heap := s.heap.push { cls := .type "slice", data := .fields #[vl, vu, .none] } }
theorem slc_from {value : Expr} {lo hi : Option Expr} {q : Pos} {p : Addr} {k : Int} {t : Tok} {Q : QE} (r : Rel c s.heap H) (h : 0 <= k /\ k < 2 ^ 62 /\ list? (H p) fun xs => xs.length <= 100000 /\ mkSeq H (.list (xs.drop k.toNat)) Q) :
  SlcT c Z X s H A value lo hi q Q (.ref p) (.int k t) .none := by
 obtain ⟨h1, h2, h⟩ := h
 obtain ⟨j, rfl⟩ := Int.eq_ofNat_of_zero_le h1
 exact list_el r h fun vs n _ e1 h => list_slice r e1 (by have h := h.1; rw [arr_len] at h; exact h) (.int _ _) .none (by rw [slicePick_from']; simp [List.map_drop]) h.2
theorem slc_upto {value : Expr} {lo hi : Option Expr} {q : Pos} {p : Addr} {k : Int} {t : Tok} {Q : QE} (r : Rel c s.heap H) (h : 0 <= k /\ k < 2 ^ 62 /\ ∃ xs, (H p = some (.list xs) \/ H p = some (.ro xs)) /\ xs.length <= 100000 /\ mkSeq H (.list (xs.take k.toNat)) Q) :
  SlcT c Z X s H A value lo hi q Q (.ref p) .none (.int k t) := by
 obtain ⟨h1, h2, xs, h3, h4, h5⟩ := h
 obtain ⟨j, rfl⟩ := Int.eq_ofNat_of_zero_le h1
 obtain ⟨vs, n, e1, rfl⟩ : ∃ vs n, s.heap.get? p = some (seqObj "list" vs n) /\ vs.toList.map era = xs := by
  rcases h3 with h3 | h3
  ·exact r.rep _ _ h3
  ·obtain ⟨vs, n, e1, _, q1⟩ := r.rep _ _ h3; exact ⟨vs, n, e1, q1⟩
 exact list_slice r e1 (by rw [arr_len] at h4; exact h4) .none (.int _ _) (by rw [slicePick_upto']; simp [List.map_take]) h5
theorem slc_bytes {value : Expr} {lo hi : Option Expr} {q : Pos} {b : Array UInt8} {t u : Tok} {Q : QE} (r : Rel c s.heap H) (h2 : b.toList.length <= 100000) (h3 : Q (.bytes (b.toList.take (b.toList.length - 1))) H) :
  SlcT c Z X s H A value lo hi q Q (.bytes b t) .none (.int (-1) u) := by
 refine tail_any (ops := [.ref s.heap.objs.size, .bytes b t]) (typeIs_bytes _ b t) FB.slot_bytes_getitem.lookup ?_ (sub_slice _ _ _ _ _)
 refine getItem_meets (typeIs_bytes _ _ _) (by decide) FB.slot_bytes_getitem FB.entry_bytes_getitem (FB.args_bytes_getitem_2 _ _) (W.KBc.meets_slice2 b t _ .none (.int (-1) u)) ⟨Heap.IsSliceOf.new _ _ _ _, ?_, fun t' k => ⟨H, good_grow r fun b o e => Heap.get?_push_of_some _ e, ?_⟩⟩
 ·exact Nat.le_trans (W.KBc.size_picked_le b none (some (-1))) (Nat.le_trans h2 (Nat.le_of_ble_eq_true rfl))
 ·show Q (.bytes (W.KBy.picked b none (some (-1))).toList) H
  have e : (some (-1 : Int)).elim b.size (clipAt b.size) = b.size - 1 := clipAt_neg b.size 1 (by decide)
  rw [W.KBc.picked_eq, e]
  exact h3
theorem len_cps (x : Str) : x.length = x.cps.toList.length := (Array.length_toList).symm
theorem slc_str2 {value : Expr} {lo hi : Option Expr} {q : Pos} {x : Str} {t tk tj : Tok} {k j : Int} {Q : QE} (r : Rel c s.heap H) (h : 0 <= k /\ k <= j /\ j < 2 ^ 62 /\ x.cps.toList.length <= 1000000 /\ Q (.str ⟨((x.cps.toList.take j.toNat).drop k.toNat).toArray⟩) H) :
  SlcT c Z X s H A value lo hi q Q (.str x t) (.int k tk) (.int j tj) := by
 obtain ⟨h1, h2, h3, h4, h5⟩ := h
 rw [<- take_drop_comm _ _ _ (Int.toNat_le_toNat h2)] at h5
 exact str_slice (l := some (k, tk)) (u := some (j, tj)) (a := min k.toNat x.length) (b := min j.toNat x.length) r (Nat.le_trans h4 (Nat.le_of_ble_eq_true rfl)) (strIdx k j _ h1 (Int.le_trans h1 h2)) (Nat.min_le_right ..) h5
theorem slc_str1 {value : Expr} {lo hi : Option Expr} {q : Pos} {x : Str} {t tk : Tok} {k : Int} {Q : QE} (r : Rel c s.heap H) (h : 0 <= k /\ k < 2 ^ 62 /\ x.cps.toList.length <= 1000000 /\ Q (.str ⟨(x.cps.toList.drop k.toNat).toArray⟩) H) :
  SlcT c Z X s H A value lo hi q Q (.str x t) (.int k tk) .none := by
 obtain ⟨h1, h2, h4, h5⟩ := h
 have e := take_drop_comm x.cps.toList k.toNat (max k.toNat x.length) (Nat.le_max_left ..)
 rw [<- len_cps, Nat.min_eq_right (Nat.le_max_right ..), List.take_of_length_le (l := x.cps.toList) (by rw [<- len_cps]; exact Nat.le_max_right ..)] at e
 rw [<- e] at h5
 exact str_slice (l := some (k, tk)) (u := none) (a := min k.toNat x.length) (b := x.length) r (Nat.le_trans h4 (Nat.le_of_ble_eq_true rfl)) (strIdx' k _ h1) (Nat.le_refl _) h5
theorem opSlc_sound {value : Expr} {lo hi : Option Expr} {q : Pos} {va vl vu : Value} {Q : QE} (r : Rel c s.heap H) (h : opSlc (era va) (era vl) (era vu) H Q) : SlcT c Z X s H A value lo hi q Q va vl vu := by
 cases va with
 | ref p => cases vl with
  | int k t => exact non_el h fun h => slc_from r h
  | none => exact int_el h fun k t h => slc_upto r h
  | _ => exact h.elim
 | bytes b t =>
  refine non_el h fun h => int_el h fun k u h => ?_
  obtain ⟨rfl, h2, h3⟩ := h
  exact slc_bytes r h2 h3
 | str x t =>
  refine int_el h fun k tk h => ?_
  cases vu with
  | int j tj => exact slc_str2 r h
  | none => exact slc_str1 r h
  | _ => exact h.elim
 | _ => exact h.elim
end
end
section
open PyProof.Rows PySem.Spec PyProof.V PySem.SeqAt
theorem fnm_inj_all : ((List.range 41).all fun i => (List.range 41).all fun j => (fnm i == fnm j) == (i == j)) = true := by decide +kernel
theorem fnm_eq {i j : Nat} (hi : i < 41) (hj : j < 41) : (fnm i == fnm j) = (i == j) := by
 have h1 := List.all_eq_true.mp fnm_inj_all i (List.mem_range.mpr hi)
 have h2 := List.all_eq_true.mp h1 j (List.mem_range.mpr hj)
 exact beq_iff_eq.mp h2
theorem ekey_some {v : Value} {x : Str} (h : ekey v = some x) : ∃ t, v = .str x t := by cases v <;> first | exact ⟨_, congrArg (Value.str · _) (Option.some.inj h)⟩ | exact absurd h.symm (Option.some_ne_none x)
theorem lookF_cons {f g : Nat} {w : MV} {r : List (Nat × MV)} : lookF f ((g, w) :: r) = if g = f then some w else lookF f r := rfl
theorem FieldsAre.nil : FieldsAre [] [] := ⟨rfl, fun _ h => nomatch h⟩
theorem FieldsAre.inv {e : DictEntry} {es : List DictEntry} {fs : List (Nat × MV)} (h : FieldsAre (e :: es) fs) : ∃ g v r t, fs = (g, v) :: r /\ g < 41 /\ e.key = .str (fnm g) t /\ era e.val = v /\ FieldsAre es r := by
 obtain ⟨h1, h2⟩ := h
 cases fs with
 | nil => simp at h1
 | cons p r =>
  obtain ⟨g, v⟩ := p
  simp only [List.map_cons, List.cons.injEq, Prod.mk.injEq] at h1
  obtain ⟨t, e⟩ := ekey_some h1.1.1
  exact ⟨g, v, r, t, rfl, h2 _ (.head _), e, h1.1.2, h1.2, fun p hp => h2 p (.tail _ hp)⟩
theorem isStr_fnm {k : Value} {g f : Nat} {t : Tok} (h : k = .str (fnm g) t) (hg : g < 41) (hf : f < 41) : k.isStr (fnm f) = (g == f) := by
 subst h; show (fnm g == fnm f) = _; exact fnm_eq hg hf
theorem fields_norefs : ∀ {es : List DictEntry} {fs : List (Nat × MV)}, FieldsAre es fs -> es.any (·.refKey) = false
 | [], _, _ => rfl
 | e :: es, fs, h => by
  obtain ⟨g, v, r, t, rfl, hg, hk, hv, ht⟩ := h.inv
  rw [List.any_cons, fields_norefs ht, Bool.or_false]
  simp [DictEntry.refKey, hk]
theorem getL_cons (name : Str) (e : DictEntry) (es : List DictEntry) (hr : (e :: es).any (·.refKey) = false) : getL name (e :: es) = if e.key.isStr name then some (some e.val) else getL name es := by
 unfold getL
 rw [List.any_cons, Bool.or_eq_false_iff] at hr
 cases q : e.key.isStr name with
 | true => simp [List.find?_cons, q]
 | false => simp [List.find?_cons, q, hr.1, List.any_cons]
theorem fields_get : ∀ {es : List DictEntry} {fs : List (Nat × MV)} {f : Nat} {v : MV}, FieldsAre es fs -> f < 41 -> lookF f fs = some v -> ∃ u, getL (fnm f) es = some (some u) /\ era u = v
 | [], fs, f, v, h, _, hl => by
  obtain ⟨h1, _⟩ := h
  cases fs with
  | nil => exact absurd hl.symm (Option.some_ne_none v)
  | cons _ _ => simp at h1
 | e :: es, fs, f, v, h, hf, hl => by
  obtain ⟨g, w, r, t, rfl, hg, hk, hv, ht⟩ := h.inv
  rw [getL_cons _ _ _ (fields_norefs h), isStr_fnm hk hg hf]
  rw [lookF_cons] at hl
  by_cases q : g = f
  ·subst q; rw [if_pos rfl] at hl; cases hl; exact ⟨e.val, by simp, hv⟩
  ·rw [if_neg q] at hl
   obtain ⟨u, e1, e2⟩ := fields_get ht hf hl
   exact ⟨u, by simp [q, e1], e2⟩
theorem fields_none : ∀ {es : List DictEntry} {fs : List (Nat × MV)} {f : Nat}, FieldsAre es fs -> f < 41 -> lookF f fs = none -> getL (fnm f) es = some none
 | [], fs, f, h, _, hl => rfl
 | e :: es, fs, f, h, hf, hl => by
  obtain ⟨g, w, r, t, rfl, hg, hk, hv, ht⟩ := h.inv
  rw [getL_cons _ _ _ (fields_norefs h), isStr_fnm hk hg hf]
  rw [lookF_cons] at hl
  by_cases q : g = f
  ·rw [if_pos q] at hl; cases hl
  ·rw [if_neg q] at hl
   simp [q, fields_none ht hf hl]
theorem era_handed {u : Value} (h : era u ≠ .junk) : handedIn u = true := by cases u <;> first | rfl | exact absurd rfl h
section
variable {c : Cx} {d : Nat} {ns : NS} {h0 : Heap} {A : Around} {env : Env} {F : FF} {s : Shared} {H : HH} {Z : Addr -> Prop} {X : Value -> Shared -> HH -> Prop} {Q : QE}
theorem Rel.K (b : BaseOK c) (r : Rel c s.heap H) : c.K.In s.heap := b.inK.keeps r.base
theorem Rel.inst (r : Rel c s.heap H) {p C dx : Addr} {fs : List (Nat × MV)} (h : H p = some (.inst C dx fs)) : ∃ es n, InstAt s.heap p (instObj C dx) C (some (dictOf es n)) /\ FieldsAre es fs /\ s.heap.get? dx = some (dictOf es n) /\ (initOf C).isSome = true := by
 obtain ⟨e, es, n, ed, q⟩ := r.rep _ _ h
 exact ⟨es, n, ⟨e, rfl, rfl, ed⟩, q.1, ed, q.2⟩
theorem attr_sound (b : BaseOK c) {p C dx : Addr} {fs : List (Nat × MV)} {f : Nat} {v : MV} {ex : Bool} (r : Rel c s.heap H) (h1 : H p = some (.inst C dx fs)) (hf : f < 41)
  (h2 : lookF f fs = some v) (h3 : v ≠ .junk) (h4 : mtab C f = none) (h : Q v H) :
  WT c Z A (getAttr (.ref p) (fnm f) ex) (fun v _ H' => Q (era v) H') X s H := by
 obtain ⟨es, n, I, hfs, _, hC⟩ := r.inst h1
 obtain ⟨u, e1, rfl⟩ := fields_get hfs hf h2
 have k := b.cls C hC
 exact get_value (r.K b) I (plainGet_of (name := "") k.get).1 (findObj_own k.dict (k.own f hf h4) rfl e1) (era_handed h3) ⟨H, .refl r, h⟩
theorem meth_sound (b : BaseOK c) {p C dx g : Addr} {fs : List (Nat × MV)} {f : Nat} {pl : Sem Bool} {Q : Value × List Value -> Shared -> Prop} {E : Value -> Shared -> Prop} (r : Rel c s.heap H) (h1 : H p = some (.inst C dx fs)) (hf : f < 41)
  (h2 : lookF f fs = none) (h4 : mtab C f = some g) (h : Q (.ref g, [.ref p]) s) : wpAny c.M A (getMethod (.ref p) (fnm f) pl) Q E s := by
 obtain ⟨es, n, I, hfs, _, hC⟩ := r.inst h1
 have k := b.cls C hC
 obtain ⟨m1, m2, m3⟩ := k.meth f g hf h4
 refine method_fn (r.K b) I (plainGet_of (name := "") k.get).1 (plainGet_of (name := "") k.get).2 m1 (beq_iff_eq.mp m2) ?_ h
 show (lookIn (fnm f) (dictOf es n)).map _ = _
 rw [lookIn_dict, fields_none hfs hf h2]; rfl
theorem local_sound (x : Cf c d ns h0 A env F s H) {n : Str} {i : Nat} {v : MV} {Q : Value -> Shared -> Prop} {E : Value -> Shared -> Prop} (hi : idx ns n = some i) (hh : held (ns.lookup n) = true) (hd : (n == ("__classdict__" : Str)) = false) (hv : F.get i = some v)
  (h : ∀ u, era u = v -> Q u s) : wpAny c.M A (loadName env n) Q E s := by
 have ce : (ns.lookup n = some .cell \/ ns.lookup n = some .free) -> wpAny c.M A (loadName env n) Q E s := fun q => by
  obtain ⟨a, cv, e1, e2, _, _, _, e3⟩ := x.fr.cell i n hi q
  obtain ⟨u, rfl, e⟩ := e3 v hv
  have kd : env.kindOf n = some .free \/ env.kindOf n = some .cell := by
   rcases q with q | q
   ·exact .inr (x.eok.names.cell n q)
   ·exact x.eok.names.free n q
  rcases kd with kd | kd
  ·exact wpAny_loadName_free x.eok.kind kd e1 e2 (h u e) hd
  ·exact wpAny_loadName_cell x.eok.kind kd e1 e2 (h u e)
 unfold held at hh
 simp only [Bool.or_eq_true, beq_iff_eq] at hh
 rcases hh with (hh | hh) | hh
 ·obtain ⟨m, e1, e2⟩ := x.fr.loc
  obtain ⟨u, e3, e⟩ := e2 i n v hi hh hv
  exact wpAny_loadName_local x.eok.kind (x.eok.names.loc n hh) e1 e3 (h u e)
 ·exact ce (.inl hh)
 ·exact ce (.inr hh)
set_option tactic.hygienic true in
theorem glob_sound (b : BaseOK c) (x : Cf c d ns h0 A env F s H) {n : Str} {gv : GV} {Q : Value -> Shared -> Prop} {E : Value -> Shared -> Prop} (hg : glob ns n = some gv)
  (h : ∀ u, (match gv with | .fn a => u = .ref a | .cls C => u = .ref C | .cst i => ∃ t, u = .int i t | .bi bb => u = biVal bb) -> Q u s) : wpAny c.M A (loadName env n) Q E s := by
 unfold glob at hg
 split at hg
 ·rename_i hl
  obtain ⟨mg, mb, g1, g2, _, g3⟩ := b.glob
  have := g3 n gv hg
  rw [loadName_read x.eok.kind (x.eok.names.glob n hl)]
  have n1 : s.heap.Ns env.globals mg := by rw [x.eok.glob]; exact g1.keeps x.rel.base
  have n2 : s.heap.Ns env.builtins mb := by rw [x.eok.blt]; exact g2.keeps x.rel.base
  cases gv with
  | fn a => exact Calls.loadGlobal_global n1 this (h _ rfl)
  | cls a => exact Calls.loadGlobal_global n1 this (h _ rfl)
  | cst i => obtain ⟨t, e⟩ := this; exact Calls.loadGlobal_global n1 e (h _ ⟨t, rfl⟩)
  | bi bb => exact Calls.loadGlobal_builtin n1 this.1 n2 this.2 (h _ rfl)
 ·cases hg
theorem range_sound (b : BaseOK c) (x : Cf c d ns h0 A env F s H) {Q : Value -> Shared -> Prop} {E : Value -> Shared -> Prop} {n : Str} (hn : n = ("range" : Str)) (hl : ns.lookup n = some .globalImplicit) (h : Q (.type "range") s) : wpAny c.M A (loadName env n) Q E s := by
 subst hn
 obtain ⟨mg, mb, g1, g2, g4, g3⟩ := b.glob
 rw [loadName_read x.eok.kind (x.eok.names.glob _ hl)]
 have n1 : s.heap.Ns env.globals mg := by rw [x.eok.glob]; exact g1.keeps x.rel.base
 have n2 : s.heap.Ns env.builtins mb := by rw [x.eok.blt]; exact g2.keeps x.rel.base
 exact Calls.loadGlobal_builtin n1 g4.1 n2 g4.2 h
theorem base_plain {o : Expr} (hn : noSuper o = true) (x : Str) (w : Sem Value) : attributeBase o x env w = w := by
 cases o with
 | Call f as ks p => cases f with
  | Name => cases as with
   | nil => cases ks with | nil => exact Bool.noConfusion hn | cons => rfl
   | cons => rfl
  | _ => rfl
 | _ => rfl
end
end
section
open PyProof.Rows
namespace BA
theorem mro : mroOf (.type "bytearray") = pure [.type "bytearray", .type "object"] := by rw [mroOf_type]; kernel_rfl
theorem lookup_new : typeLookup (.type "bytearray") "__new__" = pure (some (.builtin "bytearray.__new__")) := by rw [typeLookup_type, builtinLookup_eq_fast]; kernel_rfl
theorem slot_init : Slot "bytearray" "__init__" "bytearray.__init__" :=
 .of (owner := "bytearray") (n := "__init__") (by rw [typeLookup_type, builtinLookup_eq_fast]; kernel_rfl) (by decide +kernel) (by decide +kernel) (by decide +kernel)
  (by first | exact .inl (by decide +kernel) | exact .inr (by decide +kernel)) (by rw [isSubtype_type]; kernel_rfl)
theorem slot_append : Slot "bytearray" "append" "bytearray.append" :=
 .of (owner := "bytearray") (n := "append") (by rw [typeLookup_type, builtinLookup_eq_fast]; kernel_rfl) (by decide +kernel) (by decide +kernel) (by decide +kernel)
  (by first | exact .inl (by decide +kernel) | exact .inr (by decide +kernel)) (by rw [isSubtype_type]; kernel_rfl)
theorem sub : isSubtype (.type "bytearray") (.type "bytearray") = pure true := by rw [isSubtype_type]; kernel_rfl
theorem called : TypeCalled "bytearray" "bytearray.__new__" "bytearray.__init__" :=
 ⟨by decide +kernel, by decide +kernel, ⟨_, _, mro⟩, madeBy_type mro lookup_new (by decide +kernel), by decide +kernel, sub, slot_init⟩
theorem typeCall : checkTypeCall "bytearray" ⟨[], []⟩ = pure () := by kernel_rfl
theorem newCall : checkBuiltinCall "bytearray.__new__" ⟨[.type "bytearray"], []⟩ = pure () := by kernel_rfl
theorem entry_new : entryFor table "bytearray.__new__" = some Builtin.«list.__new__» := entryFor_alias (id' := "list.__new__") (by kernel_rfl) rfl (by decide +kernel) (by kernel_rfl)
theorem entry_init : entryFor table "bytearray.__init__" = some Builtin.«bytearray.__init__» := by first | exact entryFor_of_fast (by kernel_rfl) | exact entryFor_of_tree (by kernel_rfl)
theorem entry_append : entryFor table "bytearray.append" = some Builtin.«bytearray.append» := by first | exact entryFor_of_fast (by kernel_rfl) | exact entryFor_of_tree (by kernel_rfl)
theorem plain_new : plainId "bytearray.__new__" = true := by decide +kernel
theorem plain_init : plainId "bytearray.__init__" = true := by decide +kernel
theorem plain_append : plainId "bytearray.append" = true := by decide +kernel
theorem type_append : typeOf (.builtin "bytearray.append") = pure (.type "method_descriptor") := by show builtinType _ = _; rw [builtinType_eq_fast]; kernel_rfl
theorem plainAttrs : PlainAttrs "bytearray" :=
 ⟨⟨"bytearray.__getattribute__", by rw [typeLookup_type, builtinLookup_eq_fast]; kernel_rfl, by decide +kernel⟩, by rw [typeLookup_type, builtinLookup_eq_fast]; kernel_rfl⟩
theorem owner : Manifest.owners.lookup (String.ofList ['y', 'a', 'r', 'r', 'a', 'e', 't', 'y', 'b'].reverse) = some Manifest.sig_bytearray := by kernel_rfl
theorem args_append (a b : Value) : argsOk "bytearray.append" ⟨[a, b], []⟩ := by
 unfold argsOk; rw [signature?_of (id := "bytearray.append") (n := ['d', 'n', 'e', 'p', 'p', 'a']) (o := ['y', 'a', 'r', 'r', 'a', 'e', 't', 'y', 'b']) (by kernel_rfl) owner]; kernel_rfl
theorem args_init (a : Value) : argsOk "bytearray.__init__" ⟨[a], []⟩ := by
 unfold argsOk; rw [signature?_of (id := "bytearray.__init__") (n := ['_', '_', 't', 'i', 'n', 'i', '_', '_']) (o := ['y', 'a', 'r', 'r', 'a', 'e', 't', 'y', 'b']) (by kernel_rfl) owner]; kernel_rfl
theorem rel : typeLookup (.type "bytearray") "__release_buffer__" = pure (some (.builtin "bytearray.__release_buffer__")) := by rw [typeLookup_type, builtinLookup_eq_fast]; kernel_rfl
theorem buf : typeLookup (.type "bytearray") "__buffer__" = pure (some (.builtin "bytearray.__buffer__")) := by rw [typeLookup_type, builtinLookup_eq_fast]; kernel_rfl
theorem no_bytes : typeLookup (.type "bytearray") "__bytes__" = pure none := by rw [typeLookup_type, builtinLookup_eq_fast]; kernel_rfl
theorem noidx : typeLookup (.type "bytearray") "__index__" = pure none := by rw [typeLookup_type, builtinLookup_eq_fast]; kernel_rfl
theorem bind0 : Builtin.Bytes.bindOptional "bytearray.__init__" "bytearray" ["source", "encoding", "errors"] [] [] = pure [none, none, none] := by kernel_rfl
end BA
end
section
open PyProof.Rows PySem.Spec PyProof.V PySem.SeqAt
noncomputable def bkId : BK -> String
 | .lapp => "list.append" | .bapp => "bytearray.append" | .add => "set.add" | .get => "dict.get" | .join => "str.join" | .index => "list.index" | .bitlen => "int.bit_length"
theorem strs_back : ∀ {vs : List Value} {ss : List Str}, strsOf (vs.map era) = some ss -> ∃ l : List (Str × Tok), vs = strValues l /\ l.map (·.1) = ss := by
 intro vs
 induction vs with
 | nil => intro ss h; exact ⟨[], rfl, Option.some.inj h⟩
 | cons v vs ih =>
  intro ss h
  cases v with
  | str x t =>
   obtain ⟨r, hr, rfl⟩ := Option.map_eq_some_iff.mp h
   obtain ⟨l, rfl, rfl⟩ := ih hr
   exact ⟨(x, t) :: l, rfl, rfl⟩
  | _ => cases h
theorem glued_nil (sep : Str) (hs : sep.cps.toList = []) (ss : List Str) : (Builtin.Str.glued sep ss).cps.toList = ss.flatMap fun x => x.cps.toList := by
 have hs' : sep.cps = #[] := by obtain ⟨⟨l⟩⟩ := sep; simp at hs; simp [hs]
 have go : ∀ (l : List Str) (acc : Array Nat), (l.foldl (fun acc p => acc ++ sep.cps ++ p.cps) acc).toList = acc.toList ++ l.flatMap fun x => x.cps.toList := by
  intro l
  induction l with
  | nil => intro acc; simp
  | cons x l ih => intro acc; rw [List.foldl_cons, ih]; simp [hs']
 unfold Builtin.Str.glued
 cases ss with
 | nil => simp [Str.empty]
 | cons x l => simp only [List.drop_succ_cons, List.drop_zero, List.headD_cons, go]; simp
theorem sum_ones (n : Nat) : ∀ (ss : List Str), (∀ x ∈ ss, x.cps.size = 1) -> ∀ acc, ss.foldl (fun (a : Nat) (p : Str) => a + p.length + 0) acc = acc + ss.length
 | [], _, acc => by simp
 | x :: l, h, acc => by
  rw [List.foldl_cons, sum_ones n l (fun y hy => h y (.tail _ hy))]
  have := h x (.head _)
  simp only [Str.length, this, List.length_cons]; lia
section
variable {c : Cx} {Z : Addr -> Prop} {A : Around} {X : Value -> Shared -> HH -> Prop} {s : Shared} {H : HH} {Q : QE}
theorem not_tuple {T : String} {vs : Array Value} {n : Nat} (hT : T ≠ "tuple") : ∀ o : Obj, some (seqObj T vs n) = some o -> o.cls ≠ .type "tuple" := fun o e q => by
 cases e; exact hT (by injection q)
theorem bmGet_sound {m : BM} {va : Value} {k : BK -> Prop} {pl : Sem Bool} {Q : Value × List Value -> Shared -> Prop} {E : Value -> Shared -> Prop} (r : Rel c s.heap H) (h : bmOk m (era va) H k)
  (hq : ∀ b, k b -> Q (.builtin (bkId b), [va]) s) : wpAny c.M A (getMethod va (bmName m) pl) Q E s := by
 cases m with
 | append =>
  revert hq
  refine ref_el h fun p h hq => ?_
  obtain ⟨o, h1, h⟩ := some_ex h
  have q := r.rep _ _ h1
  cases o with
  | list xs => obtain ⟨vs, n, e1, q1⟩ := q; exact Calls.getMethod_list_append e1 rfl rfl (hq _ h)
  | barr x => obtain ⟨x', e1, q1⟩ := q; exact getMethod_builtin (T := "bytearray") ⟨_, e1, rfl⟩ BA.plainAttrs BA.slot_append BA.type_append (fun b e => by cases e; exact ⟨_, e1, rfl⟩) (hq _ h)
  | _ => exact h.elim
 | add =>
  revert hq
  refine ref_el h fun p h hq => ?_
  obtain ⟨xs, h1, h2⟩ := iset_ex h
  obtain ⟨S, hS, q⟩ := r.rep _ _ h1
  exact getMethod_set_add hS (hq _ h2)
 | get =>
  revert hq
  refine ref_el h fun p h hq => ?_
  obtain ⟨o, h1, h⟩ := some_ex h
  have q := r.rep _ _ h1
  cases o with
  | idict es =>
   obtain ⟨sy, f, hm, q, hl⟩ := q
   exact getMethod_builtin hm.typeIs F.plainAttrs_dict PySem.F.slot_dict_get PySem.F.type_dict_get (fun b e => by cases e; obtain ⟨o, es, ep, ho, hc, r⟩ := hm; exact ⟨o, ho, hc.2.1⟩) (hq _ h)
  | _ => exact h.elim
 | join =>
  revert hq
  refine str_el h fun x t h hq => ?_
  have z : Q (.builtin "str.join", [.str x t]) s := hq _ h
  show wpAny _ _ (getMethod (.str x t) (Str.ofString "join") pl) Q E s
  with_reducible exact GM.join z
 | index =>
  revert hq
  refine ref_el h fun p h hq => list_el r h fun vs n _ e1 h2 => ?_
  exact getMethod_builtin (T := "list") ⟨_, e1, rfl⟩ F.plainAttrs_list F.slot_list_index F.type_list_index (fun b e => by cases e; exact ⟨_, e1, rfl⟩) (hq _ h2)
 | bitlen =>
  revert hq
  refine int_el h fun x t h hq => ?_
  have z : Q (.builtin "int.bit_length", [.int x t]) s := hq _ h
  have d : ∀ a, Value.int x t = .ref a -> ∃ o, s.heap.get? a = some o /\ o.dict = none := fun b e => nomatch e
  show wpAny _ _ (getMethod (.int x t) (Str.ofString "bit_length") pl) Q E s
  with_reducible exact getMethod_builtin (typeIs_int s x t) F.plainAttrs_int F.slot_int_bit_length F.type_int_bit_length d z
theorem lapp_sound {p : Addr} {v : Value} (r : Rel c s.heap H) (h : list? (H p) fun xs => xs.length <= 100000 /\ Q .non (upd H p (.list (xs ++ [era v])))) :
  WT c Z A (call (.builtin "list.append") [.ref p, v]) (fun v _ H' => Q (era v) H') X s H :=
 list_el r h fun ws n h1 e1 h => call_meets F.slot_list_append ⟨_, e1, rfl⟩ F.entry_list_append (F.args_list_append_2 _ _) (list_append p ws n v (Nat.le_trans (by have h := h.1; rw [arr_len] at h; exact h) (Nat.le_of_ble_eq_true rfl)))
  ⟨e1, _, good_upd (n := s.toks) r h1 (fun _ e => nomatch e) (Heap.SameBut.update ..) (mo' := .list (ws.toList.map era ++ [era v])) ⟨_, _, IsL.update e1 (fun ys => ys.push v), by simp⟩ (fun _ _ _ e => nomatch e) (fun _ _ _ e => nomatch e) (by rw [e1]; exact not_tuple (by decide)), h.2⟩
theorem add_sound {p : Addr} {i : Int} {t : Tok} {xs : List Int} (r : Rel c s.heap H) (h1 : H p = some (.iset xs)) (h2 : xs.length <= 1000) (h3 : i ∉ xs) (h4 : Q .non (upd H p (.iset (xs ++ [i])))) :
  WT c Z A (call (.builtin "set.add") [.ref p, .int i t]) (fun v _ H' => Q (era v) H') X s H := by
 obtain ⟨S, hS, q⟩ := r.rep _ _ h1
 have hn : S i = false := by rw [q]; exact decide_eq_false h3
 refine call_set_add (knd := intKind c.prog c.w) (k := i) (by simp [intKind, Value.isInt]) rfl hS (Nat.lt_of_le_of_lt (Nat.succ_le_succ h2) (Nat.le_of_ble_eq_true rfl)) fun h' hs hS' => ⟨_, good_upd r h1 (fun _ e => nomatch e) hs (mo' := .iset (xs ++ [i])) ?_ (fun _ _ _ e => nomatch e) (fun _ _ _ e => nomatch e) ?_, h4⟩
 ·rw [hn] at hS'
  exact ⟨_, by simpa using hS', fun k => by simp only [q, List.mem_append, List.mem_singleton, Bool.decide_or]⟩
 ·intro o ho hc
  obtain ⟨o', _, _, _, ho', hc', _⟩ := hS
  rw [ho] at ho'; cases ho'
  rw [hc'.1] at hc; simp at hc
theorem get_sound {p : Addr} {i : Int} {t : Tok} {es : List (Int × MV)} {u : MV} (r : Rel c s.heap H) (h1 : H p = some (.idict es)) (h2 : getI i es = some u) (h3 : Q u H) :
  WT c Z A (call (.builtin "dict.get") [.ref p, .int i t]) (fun v _ H' => Q (era v) H') X s H := by
 obtain ⟨sy, f, hm, q, hl⟩ := r.rep _ _ h1
 have hk2 := q i
 rw [h2] at hk2
 obtain ⟨w, hw, rfl⟩ := Option.map_eq_some_iff.mp hk2
 exact call_meetsIn PySem.F.slot_dict_get hm.typeIs F.entry_dict_get (F.args_dict_get_2 _ _) (meets_dict_get (knd := intKind c.prog c.w) (k := i) p (by simp [intKind, Value.isInt]) sy) ⟨f, hm, H, .refl r, by rw [hw]; exact h3⟩
theorem join_sound {x : Str} {t : Tok} {p : Addr} {vs : Array Value} {n : Nat} {ss : List Str} (r : Rel c s.heap H) (e1 : s.heap.get? p = some (seqObj "list" vs n)) (h1 : x.cps.toList = []) (h3 : strsOf (vs.toList.map era) = some ss) (h4 : vs.size <= 100000)
  (h5 : ∀ x ∈ ss, x.cps.size = 1) (h6 : Q (.str ⟨(ss.flatMap fun x => x.cps.toList).toArray⟩) H) : WT c Z A (call (.builtin "str.join") [.str x t, .ref p]) (fun v _ H' => Q (era v) H') X s H := by
 obtain ⟨l, e2, e3⟩ := strs_back h3
 have hl : s.heap.IsList p (strValues l).toArray := by rw [<- e2]; exact ⟨_, e1, rfl, n, rfl⟩
 refine SC.join hl e3 ?_ fun t' k => ⟨H, .refl r, ?_⟩
 ·have hx0 : x.length = 0 := (Array.length_toList).symm.trans (congrArg List.length h1)
  have hn : ss.length = vs.size := by rw [<- e3, List.length_map, <- Array.length_toList, e2]; simp [strValues]
  have := sum_ones 0 ss h5 0
  unfold JoinOk
  rw [hx0, List.foldl_toArray, this]
  simp only [Builtin.Str.tooLong, Bool.not_eq_true', decide_eq_false_iff_not]
  exact Nat.not_lt.mpr (by rw [Nat.zero_add, hn]; exact Nat.le_trans h4 (Nat.le_of_ble_eq_true rfl))
 ·show Q (.str (Txt.join x ss)) H
  rw [show Txt.join x ss = ⟨(ss.flatMap fun x => x.cps.toList).toArray⟩ by
   show Builtin.Str.glued x ss = _
   rw [<- glued_nil x h1 ss]]
  exact h6
theorem index_sound {p : Addr} {i : Int} {t : Tok} {xs : List Int} {n : Nat} (r : Rel c s.heap H) (h1 : H p = some (.list (mvi xs))) (h2 : xs.length <= 1000) (h3 : xs.idxOf? i = some n) (h4 : Q (.int n) H) :
  WT c Z A (call (.builtin "list.index") [.ref p, .int i t]) (fun v _ H' => Q (era v) H') X s H := by
 obtain ⟨ws, k, e1, q1⟩ := r.rep _ _ h1
 have key : ∀ j (hj : j < ws.size), ∃ y u, ws[j] = .int y u /\ xs[j]? = some y := fun j hj => by
  have hj' : (ws.toList.map era)[j]? = some (era ws[j]) := by simp [hj]
  rw [q1, mvi, List.getElem?_map] at hj'
  obtain ⟨y, hy, e⟩ := Option.map_eq_some_iff.mp hj'
  obtain ⟨u, e'⟩ := era_int e.symm
  exact ⟨y, u, e', hy⟩
 have hsz : ws.size = xs.length := by rw [map_len q1]; exact List.length_map ..
 obtain ⟨hn, hx, hno⟩ := List.idxOf?_eq_some_iff.mp h3
 have hn' : n < ws.size := by rw [hsz]; exact hn
 refine call_meets F.slot_list_index ⟨_, e1, rfl⟩ F.entry_list_index (F.args_list_index_2 _ _)
  (MeetsSeq.list_index p ws k (.int i t) (fun y => match y with | .int z _ => z == i | _ => false) (fun y hy => ?_) n hn' (Int.lt_of_le_of_lt (Int.ofNat_le.mpr (Nat.le_trans (Nat.le_of_lt hn) h2)) (by decide)) ?_ fun m hm hlt => ?_) ⟨e1, H, .refl r, h4⟩
 ·obtain ⟨j, hj, rfl⟩ := Array.mem_iff_getElem.mp hy
  obtain ⟨z, u, e, _⟩ := key j hj
  rw [e]; exact MeetsSeq.EqGives.int z i u t
 ·obtain ⟨z, u, e, e'⟩ := key n hn'
  rw [List.getElem?_eq_getElem hn] at e'
  rw [e]; exact beq_iff_eq.mpr ((Option.some.inj e').symm.trans hx)
 ·obtain ⟨z, u, e, e'⟩ := key m hm
  have := hno m hlt
  rw [List.getElem?_eq_getElem (Nat.lt_trans hlt hn)] at e'
  rw [e]; exact beq_eq_false_iff_ne.mpr fun w => this ((Option.some.inj e').trans w)
theorem bitlen_sound {x : Int} {t : Tok} (r : Rel c s.heap H) (h : 0 <= x /\ Q (.int (if x = 0 then 0 else (x.toNat.log2 + 1 : Nat))) H) :
  WT c Z A (call (.builtin "int.bit_length") [.int x t]) (fun v _ H' => Q (era v) H') X s H := by
 obtain ⟨h1, h2⟩ := h
 obtain ⟨n, rfl⟩ := Int.eq_ofNat_of_zero_le h1
 refine call_gives F.slot_int_bit_length (typeIs_int s n t) F.entry_int_bit_length (F.args_int_bit_length_1 _) (AutoIntG2.int_bit_length_int_0 n t) ⟨H, .refl r, ?_⟩
 show Q (.int ((Builtin.Int.intBits n : Nat) : Int)) H
 unfold Builtin.Int.intBits
 by_cases z : n = 0
 ·subst z; exact h2
 ·rw [show ((n : Int) == 0) = false from beq_eq_false_iff_ne.mpr fun w => z (Int.ofNat.inj w)]
  rw [if_neg (show ¬ (n : Int) = 0 from fun w => z (Int.ofNat.inj w))] at h2
  exact h2
theorem bmCall_sound {k : BK} (hk : k ≠ .bapp) {va : Value} {vals : List Value} (r : Rel c s.heap H) (h : bmCall k (era va) (vals.map era) H Q) :
  WT c Z A (call (.builtin (bkId k)) (va :: vals)) (fun v _ H' => Q (era v) H') X s H := by
 cases k with
 | lapp => exact ref_el h fun p h => one_el h fun v h => lapp_sound r h
 | bapp => exact absurd rfl hk
 | add => exact ref_el h fun p h => one_el h fun v h => int_el h fun i t h => by obtain ⟨xs, h1, h2, h3, h4⟩ := iset_ex h; exact add_sound r h1 h2 h3 h4
 | get => exact ref_el h fun p h => one_el h fun v h => int_el h fun i t h => by obtain ⟨es, u, h1, h2, h3⟩ := h; exact get_sound r h1 h2 h3
 | join => exact str_el h fun x t h => one_el h fun v h => ref_el h fun p h => list_el r h fun vs n _ e1 h => by obtain ⟨ss, h1, h2, h3, h4, h5⟩ := h; rw [arr_len] at h3; exact join_sound r e1 h1 h2 h3 h4 h5
 | index => exact ref_el h fun p h => one_el h fun v h => int_el h fun i t h => by obtain ⟨xs, n, h1, h2, h3, h4⟩ := h; exact index_sound r h1 h2 h3 h4
 | bitlen => exact int_el h fun x t h => zero_el h fun h => bitlen_sound r h
end
end
section
open PyProof.Rows
theorem okc_typeCall (a : Args) : okc (.builtin "type.__call__" a) = true := by show (!badIds.contains "type.__call__") = true; decide +kernel
section
variable {P : Bool} {prog : Program} {w : World} {A : Around} {C : Addr} {R : Result -> Shared -> Prop} {h : Heap} {g : Array GenState} {d : Drawn} {t : Nat} {os : OsState}
theorem make_G {rest : List Value} {init : Value} (Y : Makes (model prog w) h C) (hi : Looks (model prog w) h (typeLookup (.ref C) "__init__") (some init))
  (hb : ∀ self, Looks (model prog w) h (bindSpecial init self) (init, [self])) (hne : (some init != some (Value.builtin "object.__init__")) = true)
  (hq : codeG P (model prog w) (A.under (.builtin "type.__call__" ⟨.ref C :: rest, []⟩)) (.call init ⟨.ref (h.objs.size + 1) :: rest, []⟩) (InitBack (h.objs.size + 1) R) ⟨(h.push emptyDict).push (instObj C h.objs.size), g, d, t, os⟩) :
  codeG P (model prog w) A (.call (.ref C) ⟨rest, []⟩) R ⟨h, g, d, t, os⟩ := by
 have Y' := Y
 obtain ⟨⟨oc, od, cd, sl, hC, e1, e2, e4⟩, made, base, self, top, call, typ⟩ := Y
 have hm : Looks (model prog w) h (mroOf (.ref C)) cd.mro := ((Looks.ld (part := none) hC).andThen .now).andThen .now
 refine codeG.tree rfl (wpG.of ?_)
 show wpAny _ _ (callAny (.ref C) _) _ _ _
 refine nd_load hC ?_
 show wpAny _ _ (callAny.viaDunder (.ref C) _) _ _ _
 unfold callAny.viaDunder
 refine wpAny_bind (call.at ?_)
 dsimp only
 rw [tc_bind]
 refine wpAny_bind (wpAny_pure (wpAny_bind (wpAny_pure ?_)))
 refine wpAny_pure (a := Fin.again (.call (.builtin "type.__call__") ⟨.ref C :: rest, []⟩)) (And.intro rfl ?_)
 refine codeG.callB (Code.quiet_builtin _ (by decide +kernel)) (check_slot tc_kind tc_split typ (tc_args _ _ _) ?_)
 refine codeG.entryK (okc_typeCall _) entry_typeCall fun K E k kE => ?_
 unfold Builtin.«type.__call__»
 refine wpG.then (m := mroOf (.ref C)) (hm.at ?_)
 rw [if_neg (by rw [e4]; decide)]
 refine wpG.then (m := Bind.madeBy (.ref C)) (made.at ?_)
 refine wpG.then (wpAny_pure ?_)
 refine wpG.then (wpAny_holding (wpAny_call (new_K Y' hi (.inl hne) ?_)))
 have k' : ∀ b o, h.get? b = some o -> ((h.push emptyDict).push (instObj C h.objs.size)).get? b = some o := fun b o e => Heap.get?_push_of_some _ (Heap.get?_push_of_some _ e)
 have hx : ((h.push emptyDict).push (instObj C h.objs.size)).get? (h.objs.size + 1) = some (instObj C h.objs.size) := by heap_get
 have t1 : Looks (model prog w) ((h.push emptyDict).push (instObj C h.objs.size)) (typeOf (.ref (h.objs.size + 1))) (.ref C) := (Looks.ld hx).andThen .now
 have t2 : Looks (model prog w) ((h.push emptyDict).push (instObj C h.objs.size)) (isInstance (.ref (h.objs.size + 1)) (.ref C)) true := t1.andThen (self.keeps k')
 have t3 : Looks (model prog w) ((h.push emptyDict).push (instObj C h.objs.size)) (specialOf (.ref (h.objs.size + 1)) (Str.ofString "__init__")) (some init) := t1.andThen (hi.keeps k')
 refine wpG.then (t2.at ?_)
 rw [if_neg (by decide)]
 refine wpG.bind (wpG.holding ?_)
 unfold callSpecial?
 refine wpG.then (t3.at ?_)
 refine wpG.holding (wpG.then (((hb _).keeps k').at ?_))
 refine wpG.bind (wpG.call (codeG.mono hq fun r s' z => ?_))
 rcases r with e | (v | _ | _ | _) <;> first | exact kE _ _ z | exact z.elim | skip
 obtain ⟨rfl, z⟩ := z
 exact wpG.pure (wpG.pure (k _ _ z))
end
end
section
open PyProof.Rows
theorem owner_new : ("bytearray.__new__".splitOn ".__new__").headD "" = "bytearray" := by rw [split_bytearray]; rfl
theorem bm_false {α : Type} {P : Bool} {M : Model} {A : Around} {E : Value -> Shared -> Prop} {s : Shared} {c : Bool} {a b : Sem α} {Q : α -> Shared -> Prop} (hc : c = false) (h : wpG P M A b Q E s) : wpG P M A (if c = true then a else b) Q E s := by
 subst hc; exact h
section
variable {prog : Program} {w : World} {A : Around} {E : Value -> Shared -> Prop} {s : Shared}
theorem ba_new {R : Result -> Shared -> Prop}
  (h : R (.ok (.ret (.ref s.heap.objs.size))) { s with heap := s.heap.push { cls := .type "bytearray", data := .bytearray #[] } }) :
  codeAny (model prog w) A (.call (.builtin "bytearray.__new__") ⟨[.type "bytearray"], []⟩) R s := by
 refine codeAny_of_tree ?_
 show wpAny _ A.in1 (do checkBuiltinCall "bytearray.__new__" ⟨[.type "bytearray"], []⟩; again (.builtin "bytearray.__new__" ⟨[.type "bytearray"], []⟩)) _ _ s
 refine wpAny_bind (wpAny_of_eq BA.newCall (wpAny_pure ⟨plainId_quiet BA.plain_new _, codeAny_builtin_stack BA.entry_new rfl fun p st => ?_⟩))
 rw [Around.under_plainId BA.plain_new _]
 have hsub := BA.sub
 have hown := owner_new
 obtain ⟨hp, g, d, tk, os⟩ := s
 dsimp only
 rw [hown]
 wp_walk
 exact h
theorem drop_rel : "bytearray.__release_buffer__".dropRight ("__release_buffer__".length + 1) = "bytearray" := by decide +kernel
theorem ba_slotOwn {v : Value} {M : Model} {Q : Bool -> Shared -> Prop} (hT : s.TypeIs v "bytearray") (h : Q false s) : wpAny M A (Builtin.Bytes.ownRelease v) Q E s := by
 unfold Builtin.Bytes.ownRelease Builtin.Bytes.slotIsOwn
 refine wpAny_bind (wpAny_bind (wpAny_specialOf hT BA.rel ?_))
 dsimp only
 refine wpAny_ite ?_
 rw [if_neg (by decide +kernel)]
 rw [drop_rel]
 exact wpAny_isInstance hT BA.sub (wpAny_pure h)
theorem drop_buf : "bytearray.__buffer__".dropRight ("__buffer__".length + 1) = "bytearray" := by decide +kernel
theorem ba_bufOwn {v : Value} {M : Model} {Q : Bool -> Shared -> Prop} (hT : s.TypeIs v "bytearray") (h : Q true s) : wpAny M A (Builtin.Bytes.slotIsOwn v "__buffer__") Q E s := by
 unfold Builtin.Bytes.slotIsOwn
 refine wpAny_bind (wpAny_specialOf hT BA.buf ?_)
 dsimp only
 refine wpAny_ite ?_
 rw [if_neg (by decide +kernel)]
 rw [drop_buf]
 exact wpAny_isInstance hT BA.sub h
theorem exportedOr {a : Addr} {b : Array UInt8} {n : Nat} (ha : s.heap.get? a = some { cls := .type "bytearray", data := .bytearray b 0 }) :
  wpG true (model prog w) A (Builtin.Bytes.exported (.ref a) <||> (do return decide ((<- Builtin.Bytes.exportsOf (.ref a)) > 0))) (fun r s' => r = false /\ s' = s) (fun _ _ => False) s := by
 refine wpG.bind (exported_ok ?_)
 show wpG _ _ _ (Builtin.Bytes.exportsOf (.ref a) >>= _) _ _ _
 refine wpG.then ?_
 unfold Builtin.Bytes.exportsOf
 exact wpAny_bind (wpAny_load ha (wpAny_pure (wpG.pure ⟨rfl, rfl⟩)))
theorem ba_write {a : Addr} {b : Array UInt8} {f : Array UInt8 -> Array UInt8} {Q : Unit -> Shared -> Prop} (ha : s.heap.get? a = some { cls := .type "bytearray", data := .bytearray b 0 }) (hz : (f b).size <= sizeLine)
  (h : Q () { s with heap := s.heap.update a (Obj.mapBytearray f) }) : wpAny (model prog w) A (Builtin.Bytes.write (.ref a) f) Q E s := by
 show wpAny _ _ (updateBytearray a f) _ _ _
 unfold updateBytearray
 refine wpAny_bind (wpAny_load ha ?_)
 show wpAny _ _ (update a (Obj.mapBytearray f) >>= fun _ => lookBehind a) _ _ _
 refine wpAny_bind (wpAny_update ha ?_)
 refine wpAny_lookBehind (Heap.get?_update_self (Obj.mapBytearray f) ha rfl) ?_ h
 show (if (f b).size > sizeLine then some "bytearray:memory" else none) = none
 rw [if_neg (Nat.not_lt.mpr hz)]
theorem exportedK {a : Addr} {b : Array UInt8} {K : Bool -> Shared -> Prop} {A : Around} (ha : s.heap.get? a = some { cls := .type "bytearray", data := .bytearray b 0 }) (k : K false s) :
  wpG true (model prog w) A (Builtin.Bytes.exported (.ref a) <||> (do return decide ((<- Builtin.Bytes.exportsOf (.ref a)) > 0))) K E s :=
 wpG.mono (exportedOr (n := 0) ha) (fun r s' hr => by rw [hr.1, hr.2]; exact k) fun _ _ e => e.elim
theorem ba_init {R : Result -> Shared -> Prop} {a : Addr} {b : Array UInt8} (ha : s.heap.get? a = some { cls := .type "bytearray", data := .bytearray b 0 })
  (h : R (.ok (.ret .none)) { s with heap := s.heap.update a (Obj.mapBytearray fun _ => #[]) }) :
  codeG true (model prog w) A (.call (.builtin "bytearray.__init__") ⟨[.ref a], []⟩) R s := by
 have hT : s.TypeIs (.ref a) "bytearray" := ⟨_, ha, rfl⟩
 refine codeG.callB (plainId_quiet BA.plain_init _) (BA.slot_init.check _ _ _ _ _ _ _ _ hT (BA.args_init _) ?_)
 refine codeG.entryK (by show (!badIds.contains "bytearray.__init__") = true; decide +kernel) BA.entry_init fun K E k _ => ?_
 unfold Builtin.«bytearray.__init__»
 refine wpG.then (ba_slotOwn hT ?_)
 refine bm_false rfl ?_
 refine wpG.then (wpAny_of_eq BA.bind0 ?_)
 refine wpG.then (wpAny_pure ?_)
 refine wpG.then (wpAny_pure ?_)
 refine wpG.bind (exportedK ha ?_)
 refine bm_false rfl ?_
 refine wpG.then (ba_write ha (Nat.zero_le _) ?_)
 exact wpG.then (wpAny_pure (wpG.pure (k _ _ h)))
theorem ba_append {R : Result -> Shared -> Prop} {a : Addr} {b : Array UInt8} {i : Int} {t : Tok} (ha : s.heap.get? a = some { cls := .type "bytearray", data := .bytearray b 0 }) (h0 : 0 <= i) (h1 : i < 256) (hz : b.size < sizeLine)
  (h : R (.ok (.ret .none)) { s with heap := s.heap.update a (Obj.mapBytearray (·.push i.toNat.toUInt8)) }) :
  codeG true (model prog w) A (.call (.builtin "bytearray.append") ⟨[.ref a, .int i t], []⟩) R s := by
 refine codeG.callB (plainId_quiet BA.plain_append _) (BA.slot_append.check _ _ _ _ _ _ _ _ ⟨_, ha, rfl⟩ (BA.args_append _ _) ?_)
 refine codeG.entryK (by show (!badIds.contains "bytearray.append") = true; decide +kernel) BA.entry_append fun K E k _ => ?_
 unfold Builtin.«bytearray.append»
 refine wpG.then (wpAny_of_eq (a := (.ref a, .int i t)) rfl ?_)
 refine wpG.then (m := Builtin.Bytes.byteValue _) ?_
 unfold Builtin.Bytes.byteValue
 refine wpAny_bind (wpAny_of_eq (rfl : asIndex (.int i t) = pure i) ?_)
 refine bm_if_false (Bool.or_eq_false_iff.mpr ⟨decide_eq_false (Int.not_lt.mpr h0), decide_eq_false (Int.not_le.mpr h1)⟩) (wpAny_pure ?_)
 refine wpG.bind (m := Builtin.Bytes.checkResize _) ?_
 unfold Builtin.Bytes.checkResize
 refine wpG.bind (exportedK ha (bm_false rfl (wpG.pure ?_)))
 refine wpG.then (ba_write ha (by rw [Array.size_push]; exact hz) (wpG.pure (k _ _ h)))
theorem ba_call {Q : Value -> Shared -> Prop}
  (h : ∀ h', (∀ b o, s.heap.get? b = some o -> h'.get? b = some o) -> h'.get? s.heap.objs.size = some { cls := .type "bytearray", data := .bytearray #[] 0 } -> Q (.ref s.heap.objs.size) { s with heap := h' }) :
  wpG true (model prog w) A (call (.type "bytearray") []) Q E s := by
 obtain ⟨c, tl, hmro⟩ := BA.called.mro
 refine wpG.call (codeG.tree rfl (wpG.pure ⟨Code.quiet_builtin _ (by decide +kernel), codeG.entryK (args := ⟨[.type "bytearray"], []⟩) (okc_typeCall _) entry_typeCall fun K E' k _ => ?_⟩))
 unfold Builtin.«type.__call__»
 dsimp only
 rw [if_neg (by rw [BA.called.notType]; exact Bool.false_ne_true), if_neg (by rw [BA.called.canCreate]; exact Bool.false_ne_true)]
 refine wpG.then (wpAny_of_eq BA.typeCall ?_)
 refine wpG.then (wpAny_of_eq hmro ?_)
 refine bm_false rfl ?_
 refine wpG.then (wpAny_of_eq BA.called.made ?_)
 refine wpG.then (wpAny_pure ?_)
 refine wpG.then (wpAny_holding (wpAny_call (ba_new ?_)))
 have hx : (s.heap.push { cls := .type "bytearray", data := .bytearray #[] }).get? s.heap.objs.size = some { cls := .type "bytearray", data := .bytearray #[] 0 } := Heap.get?_push_size _ rfl
 have hT : Shared.TypeIs { s with heap := s.heap.push { cls := .type "bytearray", data := .bytearray #[] } } (.ref s.heap.objs.size) "bytearray" := ⟨_, hx, rfl⟩
 refine wpG.then (wpAny_isInstance hT BA.sub ?_)
 refine bm_false rfl ?_
 refine wpG.bind (wpG.holding ?_)
 unfold callSpecial?
 refine wpG.then (wpAny_specialOf hT BA.slot_init.lookup ?_)
 refine wpG.holding (wpG.then (wpAny_of_eq (BA.slot_init.bind _) ?_))
 refine wpG.bind (wpG.call (ba_init (b := #[]) hx (wpG.pure (bm_false rfl (wpG.pure (k _ _ (h _ (fun b o e => ?_) (Heap.get?_update_self (Obj.mapBytearray fun _ => #[]) hx rfl))))))))
 rw [Heap.get?_update_other _ _ (Nat.ne_of_gt (Heap.lt_size e))]
 exact Heap.get?_push_of_some _ e
theorem bytes_ba {R : Result -> Shared -> Prop} {a : Addr} {b : Array UInt8} (ha : s.heap.get? a = some { cls := .type "bytearray", data := .bytearray b 0 }) (hz : b.size <= sizeLine)
  (h : R (.ok (.ret (.bytes b s.toks))) { s with toks := s.toks + 1 }) :
  codeAny (model prog w) A (.call (.builtin "bytes.__new__") ⟨[.type "bytes", .ref a], []⟩) R s := by
 refine codeAny_of_tree ?_
 show wpAny _ A.in1 (do checkBuiltinCall "bytes.__new__" ⟨[.type "bytes", .ref a], []⟩; again (.builtin "bytes.__new__" ⟨[.type "bytes", .ref a], []⟩)) _ _ s
 refine wpAny_bind (wpAny_of_eq (F.bm_newCall _) (wpAny_pure ⟨plainId_quiet F.bm_plain _, codeAny_builtin F.bm_entry ?_⟩))
 rw [Around.under_plainId F.bm_plain _]
 have hT : s.TypeIs (.ref a) "bytearray" := ⟨_, ha, rfl⟩
 unfold Builtin.«bytes.__new__»
 refine wpAny_bind (wpAny_of_eq (a := true) rfl ?_)
 refine bm_if_false rfl ?_
 refine wpAny_bind (wpAny_of_eq F.bm_sub ?_)
 refine bm_if_false rfl ?_
 refine wpAny_bind (wpAny_of_eq (F.bm_bind _) ?_)
 refine wpAny_bind (wpAny_of_eq (a := ()) rfl ?_)
 refine wpAny_bind (wpAny_of_eq (a := ()) rfl ?_)
 refine bm_if_false rfl ?_
 refine wpAny_bind (wpAny_specialOf hT BA.no_bytes ?_)
 refine wpAny_bind (wpAny_bind ?_)
 show wpAny _ _ (load a >>= _) _ _ _
 refine wpAny_bind (wpAny_load ha ?_)
 refine wpAny_pure (wpAny_pure ?_)
 refine bm_if_false rfl ?_
 refine wpAny_bind (wpAny_specialOf hT BA.noidx ?_)
 refine bm_if_true rfl ?_
 show wpAny _ _ (Builtin.Bytes.buffer? "bytes.__new__" (.ref a) true >>= _) _ _ _
 refine wpAny_bind ?_
 unfold Builtin.Bytes.buffer?
 refine wpAny_bind (wpAny_specialOf hT BA.buf ?_)
 dsimp only
 refine wpAny_bind (ba_bufOwn hT ?_)
 refine bm_if_false rfl ?_
 refine wpAny_bind (wpAny_specialOf hT BA.buf ?_)
 with_unfolding_all show wpAny _ _ (Builtin.Bytes.ownRelease (.ref a) >>= fun b => if b = true then _ else (Builtin.Bytes.payload (.ref a) >>= fun p => pure (some p))) _ _ _
 refine wpAny_bind (ba_slotOwn hT ?_)
 refine bm_if_false rfl ?_
 refine wpAny_bind ?_
 unfold Builtin.Bytes.payload Builtin.Bytes.payload?
 refine wpAny_bind (wpAny_bind (wpAny_load ha (wpAny_pure (wpAny_pure (wpAny_pure ?_)))))
 dsimp only
 refine wpAny_bind (wpAny_rule ?_)
 refine wpAny_bind (wpAny_mkBytes ?_ hz)
 show wpAny _ _ (if (Value.type "bytes" == Value.type "bytes") = true then _ else _) _ _ _
 refine bm_if_true (by decide) ?_
 exact wpAny_pure h
theorem call_bytes_ba {a : Addr} {b : Array UInt8} {Q : Value -> Shared -> Prop} (ha : s.heap.get? a = some { cls := .type "bytearray", data := .bytearray b 0 }) (hz : b.size <= sizeLine)
  (h : Q (.bytes b s.toks) { s with toks := s.toks + 1 }) : wpAny (model prog w) A (call (.type "bytes") [.ref a]) Q E s := by
 refine callType_codes (Q₁ := fun obj s₁ => s₁.TypeIs obj "bytes" /\ Q obj s₁) F.bm_called (F.bm_typeCall _) F.entry_object_init
  (bytes_ba ha hz ⟨typeIs_bytes _ _ _, h⟩) fun obj s₁ h₁ => ?_
 exact ⟨h₁.1, F.args_object_init_2 obj _, object_init_meets F.bm_called.init.lookup F.bm_called.made (by decide) prog w A.in1 _ s₁ ⟨h₁.1, rfl, h₁.2⟩⟩
end
end
section
open PyProof.Rows PySem.NumText
noncomputable def Bin (t : List Nat) : Prop := ∀ c ∈ t, c = 48 \/ c = 49
theorem drop_bin {t : List Nat} (h : Bin t) : t.dropWhile blank = t := by
 cases t with
 | nil => rfl
 | cons c r => rcases h c (.head _) with rfl | rfl <;> rfl
theorem sign_bin {t : List Nat} (h : Bin t) : sign t = (false, t) := by
 cases t with
 | nil => rfl
 | cons c r => rcases h c (.head _) with rfl | rfl <;> rfl
theorem pre_bin {t : List Nat} (h : Bin t) : prefix? t = none := by
 match t, h with
 | [], _ => rfl
 | [c], h => rcases h c (.head _) with rfl | rfl <;> rfl
 | c :: e :: r, h => rcases h c (.head _) with rfl | rfl <;> rcases h e (.tail _ (.head _)) with rfl | rfl <;> rfl
theorem rev_bin {t : List Nat} (h : Bin t) : (t.reverse.dropWhile blank).reverse = t := by
 rw [drop_bin fun c hc => h c (List.mem_reverse.mp hc), List.reverse_reverse]
theorem fold_bin : ∀ (t : List Nat) (p : Array Nat × Bool), Bin t -> t ≠ [] -> t.foldlM (NumText.step 2) p = some (p.1 ++ (t.map (· - 48)).toArray, true)
 | [], _, _, h => absurd rfl h
 | [c], p, h, _ => by rcases h c (.head _) with rfl | rfl <;> simp [NumText.step, digit?]
 | c :: e :: r, p, h, _ => by
  rw [List.foldlM_cons]
  have : NumText.step 2 p c = some (p.1.push (c - 48), true) := by rcases h c (.head _) with rfl | rfl <;> simp [NumText.step, digit?]
  rw [this]
  show List.foldlM (NumText.step 2) _ (e :: r) = _
  rw [fold_bin (e :: r) _ (fun x hx => h x (.tail _ hx)) (by simp)]
  simp
theorem digits_bin {t : List Nat} (h : Bin t) (hne : t ≠ []) : digits? 2 t = some (t.map (· - 48)).toArray := by
 unfold digits?; rw [fold_bin t _ h hne]; simp
theorem read_bin {t : List Nat} (h : Bin t) (hne : t ≠ []) : (int_private% "readNumeral") 0 2 t = (int_private% "Numeral.value") (binV t) := by
 refine (readNumeral_eq 0 2 t).trans ?_
 have b2 : based 2 t = (2, false, t) := by unfold based; rw [pre_bin h]; rfl
 rw [drop_bin h, sign_bin h]
 simp only [b2, rev_bin h, digits_bin h hne]
 unfold judge
 simp [binV, List.foldl_map]
theorem wp_text2 {M : Model} {A : Around} {E : Value -> Shared -> Prop} {s : Shared} {Q : Value -> Shared -> Prop} {v : Value} {text : List Nat} {n : Int}
  (hs : (text.takeWhile (· != 0)).length <= 640) (hr : (int_private% "readNumeral") 0 2 (text.takeWhile (· != 0)) = (int_private% "Numeral.value") n)
  (ha : ((text.takeWhile (· != 0)).length == text.length) = true) (h : Q (.int n s.toks) { s with toks := s.toks + 1 }) :
  wpAny M A ((int_private% "intFromText") v text 2) Q E s := by
 obtain ⟨hp, g, d, tk, os⟩ := s
 repeat (any_goals (first
  | assumption
  | (with_reducible refine wpAny_ite_true (decide_eq_true hs) ?_)
  | (with_reducible refine wpAny_ite_true (decide_eq_true ha) ?_)
  | wp_step))
 all_goals (try rw [hr])
 all_goals (try dsimp only)
 repeat (any_goals (first
  | assumption
  | (with_reducible refine wpAny_ite_true (decide_eq_true hs) ?_)
  | (with_reducible refine wpAny_ite_true (decide_eq_true ha) ?_)
  | wp_step))
structure Hid (p : Prop) : Prop where
 out : p
theorem take_bin {t : List Nat} (h : Bin t) : t.takeWhile (· != 0) = t := by
 induction t with
 | nil => rfl
 | cons c r ih =>
  have : (c != 0) = true := by rcases h c (.head _) with rfl | rfl <;> rfl
  rw [List.takeWhile_cons, this, if_pos rfl, ih fun x hx => h x (.tail _ hx)]
theorem small_bin {x : Str} (h : Bin x.cps.toList) : x.cps.all (· < 128) = true := by
 rw [Array.all_eq_true_iff_forall_mem]
 intro c hc
 rcases h c (Array.mem_toList_iff.mpr hc) with rfl | rfl <;> rfl
theorem gives_text2 {x : Str} {u k : Tok} (hl : x.cps.toList.length <= 640) (hb : Bin x.cps.toList) (hne : x.cps.toList ≠ []) : Gives (Builtin.«int.__new__» ⟨[.type "int", .str x u, .int 2 k], []⟩) (.int (binV x.cps.toList)) :=
 .of_wp fun M A E s Q h => by
  obtain ⟨hp, g, d, tk, os⟩ := s
  have f1 := F.conv_sub_int
  have f2 := F.madeHere_int
  have f6 : typeOf (.str x u) = pure (.type "str") := rfl
  have hsm := small_bin hb
  have hk := Hid.mk (And.intro (show (x.cps.toList.takeWhile (· != 0)).length <= 640 by rw [take_bin hb]; exact hl)
   (And.intro (show (int_private% "readNumeral") 0 2 (x.cps.toList.takeWhile (· != 0)) = (int_private% "Numeral.value") (binV x.cps.toList) by rw [take_bin hb]; exact read_bin hb hne)
    (show ((x.cps.toList.takeWhile (· != 0)).length == x.cps.toList.length) = true by rw [take_bin hb]; exact beq_self_eq_true _)))
  clear hl hb hne
  repeat (any_goals (first
   | assumption
   | ((with_reducible show wpAny _ _ ((int_private% "intFromText") _ _ _) _ _ _); rw [if_pos hsm]; refine wp_text2 hk.out.1 hk.out.2.1 hk.out.2.2 ?_)
   | wp_step))
  all_goals first | exact ⟨_, rfl, h⟩ | skip
theorem typeCall_int_2 (a b : Value) : checkTypeCall "int" ⟨[a, b], []⟩ = pure () := by kernel_rfl
theorem newCall_int_2 (a b : Value) : checkBuiltinCall "int.__new__" ⟨[.type "int", a, b], []⟩ = pure () := by kernel_rfl
theorem args_oi_3 (a b c : Value) : argsOk "object.__init__" ⟨[a, b, c], []⟩ := by unfold argsOk; kernel_rfl
theorem call_int_text2 {prog : Program} {w : World} {A : Around} {E : Value -> Shared -> Prop} {s : Shared} {Q : Value -> Shared -> Prop} {x : Str} {t k : Tok} (hl : x.cps.toList.length <= 640) (hb : Bin x.cps.toList) (hne : x.cps.toList ≠ [])
  (h : Q (.int (binV x.cps.toList) s.toks) { s with toks := s.toks + 1 }) : wpAny (model prog w) A (call (.type "int") [.str x t, .int 2 k]) Q E s :=
 callType_new F.called_int F.newNe_int (typeCall_int_2 _ _) (newCall_int_2 _ _) (fun obj => args_oi_3 obj _ _) F.entry_int_new (gives_text2 hl hb hne).meets (show (Made.int (binV x.cps.toList)).post _ s from ⟨rfl, h⟩)
section
variable {c : Cx} {Z : Addr -> Prop} {A : Around} {X : Value -> Shared -> HH -> Prop} {s : Shared} {H : HH} {Q : QE}
theorem int_text {vals : List Value} (hA : A.handled = none) (r : Rel c s.heap H) (h : intV (vals.map era) H Q) : WT c Z A (call (biVal .int) vals) (fun v _ H' => Q (era v) H') X s H := by
 cases vals with
 | nil => exact h.elim
 | cons v l => cases l with
  | nil => exact intV_sound r rfl h
  | cons w l => cases l with
   | cons _ _ => exact h.elim
   | nil =>
    refine str_el (v := v) h fun x t h => int_el h fun i u h => ?_
    obtain ⟨rfl, h1, h2, h3, h4⟩ := h
    exact call_int_text2 (Nat.le_trans h2 (Nat.le_of_ble_eq_true rfl)) h3 h1 ⟨H, .refl r, h4⟩
theorem bytes_of {a : Addr} (r : Rel c s.heap H) (h : barr? (H a) fun x => x.length <= 1000000 /\ Q (.bytes x) H) : WT c Z A (call (biVal .bytes) [.ref a]) (fun v _ H' => Q (era v) H') X s H := by
 obtain ⟨x, h1, h2, h3⟩ := barr_ex h
 obtain ⟨y, e1, rfl⟩ := r.rep _ _ h1
 exact call_bytes_ba e1 (Nat.le_trans (by rw [Array.length_toList] at h2; exact h2) (Nat.le_of_ble_eq_true rfl)) ⟨H, .refl r, h3⟩
theorem bcall_sound {P : Bool} {b : BI} {vals : List Value} (hA : A.handled = none) (r : Rel c s.heap H) (hp : b = .bytearray -> P = true) (h : bcall b (vals.map era) H Q) :
  WG P c Z A (call (biVal b) vals) (fun v _ H' => Q (era v) H') X s H := by
 cases b with
 | bytearray =>
  obtain rfl := hp rfl
  exact zero_el h fun h K E hK _ => ba_call fun h' k e => hK _ _ _ (good_at r (get?_size _) k (mo := .barr []) ⟨#[], e, rfl⟩ (fun _ _ _ e => nomatch e)) (h _ (r.fresh (get?_size _)).1)
 | bytes => exact .of (one_el h fun v h => ref_el h fun a h => bytes_of r h)
 | int => exact .of (int_text hA r h)
 | _ => exact .of (bcall_sound1 hA r h (fun e => nomatch e) (fun e => nomatch e) (fun e => nomatch e))
theorem bapp_sound {va : Value} {vals : List Value} (r : Rel c s.heap H) (h : bmCall .bapp (era va) (vals.map era) H Q) :
  WG true c Z A (call (.builtin (bkId .bapp)) (va :: vals)) (fun v _ H' => Q (era v) H') X s H := by
 refine ref_el h fun p h => one_el h fun v h => int_el h fun i t h => ?_
 obtain ⟨y, h3, h1, h2, h4, h5⟩ := barr_ex h
 obtain ⟨b, e1, rfl⟩ := r.rep _ _ h3
 refine fun K E hK _ => wpG.call (ba_append e1 h1 h2 (Nat.lt_of_le_of_lt (by rw [Array.length_toList] at h4; exact h4) (Nat.le_of_ble_eq_true rfl)) (hK _ _ _ (good_upd (n := s.toks) r h3 (fun _ e => nomatch e) (Heap.SameBut.update ..) (mo' := .barr (b.toList ++ [i.toNat.toUInt8])) ?_ (fun _ _ _ e => nomatch e) (fun _ _ _ e => nomatch e) ?_) h5))
 ·exact ⟨_, Heap.get?_update_self (Obj.mapBytearray (·.push i.toNat.toUInt8)) e1 rfl, by simp⟩
 ·intro o ho hc; rw [e1] at ho; cases ho; simp at hc
end
end
section
open PyProof.Rows
section
variable (c : Cx) (d : Nat) (P : Bool)
noncomputable def ES (ns : NS) (e : Expr) (m : E) : Prop := ∀ (h0 : Heap) (A : Around) (env : Env) (F : FF) (s : Shared) (H : HH) (Q : QE) (X : QX), Cf c d ns h0 A env F s H -> vE (Ca c d P) mtab m F H Q X ->
 WG P c Z0 A (eval e env) (fun v _ H' => Q (era v) H') (XL h0 env X) s H
noncomputable def TS (ns : NS) (e : Expr) (m : E) : Prop := ∀ (h0 : Heap) (A : Around) (env : Env) (F : FF) (s : Shared) (H : HH) (Q : QE) (R : Bool -> HH -> Prop) (X : QX), Cf c d ns h0 A env F s H -> (∀ t H1, Q t H1 -> bool? t fun q => R q H1) -> vE (Ca c d P) mtab m F H Q X ->
 WG P c Z0 A (isTrue e env (eval e env)) (fun b _ H' => R b H') (XL h0 env X) s H
noncomputable def LS (ns : NS) (es : List Expr) (l : L) : Prop := ∀ (h0 : Heap) (A : Around) (env : Env) (F : FF) (s : Shared) (H : HH) (Q : List MV -> HH -> Prop) (X : QX) (p : Pos), Cf c d ns h0 A env F s H -> vL (Ca c d P) mtab l F H Q X ->
 WG P c Z0 A (spliced (backTo p (starEach es env))) (fun vs _ H' => vs.length = es.length /\ Q (vs.map era) H') (XL h0 env X) s H
noncomputable def AS (ns : NS) (es : List Expr) (l : L) : Prop := ∀ (h0 : Heap) (A : Around) (env : Env) (F : FF) (s : Shared) (H : HH) (Q : QE) (X : QX) (p : Pos), es.isEmpty = false -> Cf c d ns h0 A env F s H -> vAnd (Ca c d P) mtab l F H Q X ->
 WG P c Z0 A (boolOp p .And (evalEach es env)) (fun v _ H' => Q (era v) H') (XL h0 env X) s H
noncomputable def OS (ns : NS) (es : List Expr) (l : L) : Prop := ∀ (h0 : Heap) (A : Around) (env : Env) (F : FF) (s : Shared) (H : HH) (Q : QE) (X : QX) (p : Pos), es.isEmpty = false -> Cf c d ns h0 A env F s H -> vOr (Ca c d P) mtab l F H Q X ->
 WG P c Z0 A (boolOp p .Or (evalEach es env)) (fun v _ H' => Q (era v) H') (XL h0 env X) s H
noncomputable def TAS (ns : NS) (es : List Expr) (l : L) : Prop := ∀ (h0 : Heap) (A : Around) (env : Env) (F : FF) (s : Shared) (H : HH) (Q : QE) (R : Bool -> HH -> Prop) (X : QX), Cf c d ns h0 A env F s H -> (∀ t H1, Q t H1 -> bool? t fun q => R q H1) -> vAnd (Ca c d P) mtab l F H Q X ->
 WG P c Z0 A (allTrue .And es env) (fun b _ H' => R b H') (XL h0 env X) s H
noncomputable def TOS (ns : NS) (es : List Expr) (l : L) : Prop := ∀ (h0 : Heap) (A : Around) (env : Env) (F : FF) (s : Shared) (H : HH) (Q : QE) (R : Bool -> HH -> Prop) (X : QX), Cf c d ns h0 A env F s H -> (∀ t H1, Q t H1 -> bool? t fun q => R q H1) -> vOr (Ca c d P) mtab l F H Q X ->
 WG P c Z0 A (allTrue .Or es env) (fun b _ H' => R b H') (XL h0 env X) s H
end
section
variable {c : Cx} {d : Nat} {P : Bool} {ns : NS} {h0 : Heap} {A : Around} {env : Env} {F : FF} {s : Shared} {H : HH} {Q : QE} {X : QX}
theorem Cf.hA (x : Cf c d ns h0 A env F s H) : A.handled = none := x.fit.handled
theorem Cf.hu (x : Cf c d ns h0 A env F s H) : A.units + 64 < cLine := Nat.lt_of_le_of_lt (Nat.add_le_add_right (Nat.le_trans (Nat.le_trans (Nat.le_add_right _ _) (Nat.le_add_right _ _)) x.fit.units) 64) (Nat.le_of_ble_eq_true rfl)
theorem Cf.refl (x : Cf c d ns h0 A env F s H) : Good c Z0 s H s H := .refl x.rel
theorem ts_value {e : Expr} {m : E} (he : ∀ env whole, isTrue e env whole = (do let v <- whole; standAt e.pos; holding [v] (truthy v))) (h : ES c d P ns e m) : TS c d P ns e m := by
 intro h0 A env F s H Q R X x hQ k K E hK hE
 rw [he]
 refine wpG.bind (h _ _ _ _ _ _ _ _ x k _ _ (fun v s1 H1 g1 k1 => ?_) hE)
 have z := hQ _ _ k1
 exact wpG.then (wpAny_standAt (wpG.holding (bool_el z fun q z => wpG.of (wpAny_truthy_bool (hK _ _ _ g1 z)))))
theorem es_int {i k p} : ES c d P ns (.Constant (.int i) k p) (.int i) := fun h0 A env F s H Q X x k K E hK hE => .of (wpAny_Constant_int (hK _ _ H (.refl x.rel) k))
theorem es_str {i k p} : ES c d P ns (.Constant (.str i) k p) (.str i) := fun h0 A env F s H Q X x k K E hK hE => .of (wpAny_Constant_str (hK _ _ H (.refl x.rel) k))
theorem es_non {k p} : ES c d P ns (.Constant .none k p) .non := fun h0 A env F s H Q X x k K E hK hE => .of (wpAny_Constant_none (hK _ _ H (.refl x.rel) k))
theorem es_bool {b k p} : ES c d P ns (.Constant (.bool b) k p) (.bool b) := fun h0 A env F s H Q X x k K E hK hE => .of (wpAny_Constant_bool (hK _ _ H (.refl x.rel) k))
theorem es_loc {n p i} (hi : idx ns n = some i) (hh : held (ns.lookup n) = true) (hd : (n == ("__debug__" : Str)) = false /\ (n == ("__classdict__" : Str)) = false) : ES c d P ns (.Name n p) (.loc i) :=
 fun h0 A env F s H Q X x k K E hK hE => (some_ex k).elim fun v k => .of (wpAny_Name (local_sound x hi hh hd.2 k.1 fun u e => hK _ _ H (.refl x.rel) (show Q (era u) H by rw [e]; exact k.2)) hd.1)
theorem es_cst (b : BaseOK c) {n p i} (hg : glob ns n = some (.cst i)) (hd : (n == ("__debug__" : Str)) = false) : ES c d P ns (.Name n p) (.int i) :=
 fun h0 A env F s H Q X x k K E hK hE => .of (wpAny_Name (glob_sound b x hg fun u e => e.elim fun t e => hK _ _ H (.refl x.rel) (show Q (era u) H by rw [e]; exact k)) hd)
theorem es_bin {l r m1 m2 op p} (h1 : ES c d P ns l m1) (h2 : ES c d P ns r m2) : ES c d P ns (.BinOp l op r p) (.bin op m1 m2) := by
 intro h0 A env F s H Q X x k K E hK hE
 rw [eval_BinOp]
 refine wpG.bind (h1 _ _ _ _ _ _ _ _ x k _ _ (fun v s1 H1 g1 k1 => ?_) hE)
 refine wpG.bind (wpG.holding (h2 _ _ _ _ _ _ _ _ (x.step g1) k1 _ _ (fun w s2 H2 g2 k2 => ?_) (hE.go g1)))
 exact wpG.then (wpAny_standAt (wpG.operate ((opB_sound x.hA g2.rel k2).fromG (g1.trans g2) hK hE)))
theorem es_neg {l m1 p} (h1 : ES c d P ns l m1) : ES c d P ns (.UnaryOp .USub l p) (.neg m1) := by
 intro h0 A env F s H Q X x k K E hK hE
 refine wpG.bind (m := eval l env) (f := fun v => standAt p >>= fun _ => holding [v] (unaryOp .USub v)) (h1 _ _ _ _ _ _ _ _ x k _ _ (fun v s1 H1 g1 k1 => ?_) hE)
 exact wpG.then (wpAny_standAt (int_el k1 fun i t k1 => wpG.holding (wpG.of (PyProof.Rows.neg_int (hK _ _ H1 (g1.trans (.refl g1.rel)) k1)))))
theorem es_not {l m1 p} (h1 : ES c d P ns l m1) : ES c d P ns (.UnaryOp .Not l p) (.not m1) := by
 intro h0 A env F s H Q X x k K E hK hE
 refine wpG.bind (m := eval l env) (f := fun v => standAt p >>= fun _ => holding [v] (unaryOp .Not v)) (h1 _ _ _ _ _ _ _ _ x k _ _ (fun v s1 H1 g1 k1 => ?_) hE)
 exact wpG.then (wpAny_standAt (bool_el k1 fun i k1 => wpG.holding (wpG.of (not_value (wpAny_truthy_bool (hK _ _ H1 g1 k1))))))
theorem ts_not {l m1 p} (h1 : TS c d P ns l m1) : TS c d P ns (.UnaryOp .Not l p) (.not m1) := by
 intro h0 A env F s H Q R X x hQ k K E hK hE
 exact wpG.bind (m := isTrue l env (eval l env)) (f := fun b => pure !b) (h1 _ _ _ _ _ _ _ (fun b H1 => R (!b) H1) _ x (fun t H1 z => by obtain ⟨b, rfl, z⟩ := bool_ex z; exact hQ _ _ z) k _ _ (fun v s1 H1 g1 k1 => wpG.pure (hK _ _ H1 g1 k1)) hE)
theorem es_cmp {l r m1 m2 op p} (hb : behindInMarks op r = false) (h1 : ES c d P ns l m1) (h2 : ES c d P ns r m2) : ES c d P ns (.Compare l [op] [r] p) (.cmp op m1 m2) := by
 intro h0 A env F s H Q X x k K E hK hE
 rw [eval_Compare1, markedBehindIn_of_false hb]
 refine wpG.bind (h1 _ _ _ _ _ _ _ _ x k _ _ (fun v s1 H1 g1 k1 => ?_) hE)
 refine wpG.bind (wpG.holding (h2 _ _ _ _ _ _ _ _ (x.step g1) k1 _ _ (fun w s2 H2 g2 k2 => ?_) (hE.go g1)))
 exact wpG.then (wpAny_standAt (wpG.operate ((opC_sound x.hu g2.rel k2).fromG (g1.trans g2) hK hE)))
theorem ts_cmp {l r m1 m2 op p} (hb : behindInMarks op r = false) (h1 : ES c d P ns l m1) (h2 : ES c d P ns r m2) : TS c d P ns (.Compare l [op] [r] p) (.cmp op m1 m2) := by
 intro h0 A env F s H Q R X x hQ k K E hK hE
 rw [isTrue_Compare1, markedBehindIn_of_false hb]
 refine wpG.bind (h1 _ _ _ _ _ _ _ _ x k _ _ (fun v s1 H1 g1 k1 => ?_) hE)
 refine wpG.bind (wpG.holding (h2 _ _ _ _ _ _ _ _ (x.step g1) k1 _ _ (fun w s2 H2 g2 k2 => ?_) (hE.go g1)))
 refine wpG.then (wpAny_standAt (wpG.bind (wpG.operate (wpG.of ((opC_sound x.hu g2.rel k2).run (fun v' s3 H3 g3 k3 => ?_) (hE.go (g1.trans g2)))))))
 exact wpG.holding (bool_el (hQ _ _ k3) fun q z => wpG.of (wpAny_truthy_bool (hK _ _ H3 ((g1.trans g2).trans g3) z)))
theorem bm_true {α : Type} {P : Bool} {M : Model} {A : Around} {E : Value -> Shared -> Prop} {s : Shared} {c : Bool} {a b : Sem α} {Q : α -> Shared -> Prop} (hc : c = true) (h : wpG P M A a Q E s) : wpG P M A (if c = true then a else b) Q E s := by
 subst hc; exact h
theorem cmp2_go {α : Type} {l r u m1 m2 m3 o1 o2} {p : Pos} {F : FF} {Q : QE} {X : QX} (h1 : ES c d P ns l m1) (h2 : ES c d P ns r m2) (h3 : ES c d P ns u m3) {K : α -> Shared -> Prop} {E : Value -> Shared -> Prop} {yes : Value -> Value -> Sem α} {no : Value -> Sem α}
  (x : Cf c d ns h0 A env F s H) (k : vE (Ca c d P) mtab (.cmp2 o1 o2 m1 m2 m3) F H Q X) (hE : KV c Z0 s H (XL h0 env X) E)
  (ky : ∀ v w s' H', Good c Z0 s H s' H' -> opC o2 (era v) (era w) H' Q -> wpG P c.M A (yes v w) K E s') (kn : ∀ s' H', Good c Z0 s H s' H' -> Q (.bool false) H' -> wpG P c.M A (no (.bool false)) K E s') :
  wpG P c.M A (eval l env >>= fun v => holding [v] (eval r env) >>= fun rv => standAt p >>= fun _ => holding [v, rv] (compareOp o1 v rv) >>= fun c => release [v, rv] [c] >>= fun _ => holding [c, rv] (truthy c) >>= fun b =>
   if b = true then (holding [rv] (eval u env) >>= fun uv => standAt p >>= fun _ => yes rv uv) else no c) K E s := by
 refine wpG.bind (h1 _ _ _ _ _ _ _ _ x k _ _ (fun v s1 H1 g1 k1 => ?_) hE)
 refine wpG.bind (wpG.holding (h2 _ _ _ _ _ _ _ _ (x.step g1) k1 _ _ (fun w s2 H2 g2 k2 => ?_) (hE.go g1)))
 refine wpG.then (wpAny_standAt (wpG.bind (wpG.holding (wpG.of ((opC_sound x.hu g2.rel k2).run (fun v' s3 H3 g3 k3 => ?_) (hE.go (g1.trans g2)))))))
 have g := (g1.trans g2).trans g3
 refine isB_el k3 (fun k3 => ?_) fun k3 => ?_
 ·refine wpG.then (wpAny_release (wpG.bind (wpG.holding (wpG.of (wpAny_truthy_bool ?_)))))
  refine bm_true rfl (wpG.bind (wpG.holding (h3 _ _ _ _ _ _ _ _ (x.step g) k3 _ _ (fun z s4 H4 g4 k5 => ?_) (hE.go g))))
  exact wpG.then (wpAny_standAt (ky _ _ _ _ (g.trans g4) k5))
 ·exact wpG.then (wpAny_release (wpG.bind (wpG.holding (wpG.of (wpAny_truthy_bool (bm_false rfl (kn _ _ g k3)))))))
theorem es_cmp2 {l r u m1 m2 m3 o1 o2 p} (hb1 : behindInMarks o1 r = false) (hb2 : behindInMarks o2 u = false) (h1 : ES c d P ns l m1) (h2 : ES c d P ns r m2) (h3 : ES c d P ns u m3) :
  ES c d P ns (.Compare l [o1, o2] [r, u] p) (.cmp2 o1 o2 m1 m2 m3) := by
 intro h0 A env F s H Q X x k K E hK hE
 have e : eval (.Compare l [o1, o2] [r, u] p) env = (eval l env >>= fun v => compareChain p v [o1, o2] [eval r env, markedBehindIn o2 u (eval u env)]) := rfl
 rw [e, markedBehindIn_of_false hb2]
 exact cmp2_go (p := p) (yes := fun v w => operate [v, w] (compareOp o2 v w)) (no := pure) h1 h2 h3 x k hE (fun v w s' H' g q => wpG.operate ((opC_sound x.hu g.rel q).fromG g hK hE)) fun s' H' g q => wpG.pure (hK _ _ _ g q)
theorem ts_cmp2 {l r u m1 m2 m3 o1 o2 p} (hb1 : behindInMarks o1 r = false) (hb2 : behindInMarks o2 u = false) (h1 : ES c d P ns l m1) (h2 : ES c d P ns r m2) (h3 : ES c d P ns u m3) :
  TS c d P ns (.Compare l [o1, o2] [r, u] p) (.cmp2 o1 o2 m1 m2 m3) := by
 intro h0 A env F s H Q R X x hQ k K E hK hE
 have e : isTrue (.Compare l [o1, o2] [r, u] p) env (eval (.Compare l [o1, o2] [r, u] p) env) = (eval l env >>= fun v => testChain p v [o1, o2] [eval r env, markedBehindIn o2 u (eval u env)]) := rfl
 rw [e, markedBehindIn_of_false hb2]
 exact cmp2_go (p := p) (yes := fun v w => operate [v, w] (compareOp o2 v w) >>= fun c => holding [c] (truthy c)) (no := fun _ => pure false) h1 h2 h3 x k hE (fun v w s' H' g q => wpG.bind (wpG.operate (wpG.of ((opC_sound x.hu g.rel q).run (fun v s5 H5 g5 q => wpG.holding (bool_el (hQ _ _ q) fun q z => wpG.of (wpAny_truthy_bool (hK _ _ _ (g.trans g5) z)))) (hE.go g))))) fun s' H' g q => wpG.pure (hK _ _ _ g (hQ _ _ q))
theorem es_ite {l r u m1 m2 m3 p} (h1 : TS c d P ns l m1) (h2 : ES c d P ns r m2) (h3 : ES c d P ns u m3) : ES c d P ns (.IfExp l r u p) (.ite m1 m2 m3) := by
 intro h0 A env F s H Q X x k K E hK hE
 refine wpG.bind (m := isTrue l env (eval l env)) (f := fun b => if b = true then eval r env else eval u env) (h1 _ _ _ _ _ _ _ (fun b H1 => (b = true -> _) /\ (b = false -> _)) _ x (fun t H1 q => q) k _ _ (fun b s1 H1 g1 k1 => ?_) hE)
 cases b with
 | true => exact bm_true rfl ((h2 _ _ _ _ _ _ _ _ (x.step g1) (k1.1 rfl)).from g1 hK hE)
 | false => exact bm_false rfl ((h3 _ _ _ _ _ _ _ _ (x.step g1) (k1.2 rfl)).from g1 hK hE)
theorem ts_ite {l r u m1 m2 m3 p} (h1 : TS c d P ns l m1) (h2 : TS c d P ns r m2) (h3 : TS c d P ns u m3) : TS c d P ns (.IfExp l r u p) (.ite m1 m2 m3) := by
 intro h0 A env F s H Q R X x hQ k K E hK hE
 refine wpG.bind (m := isTrue l env (eval l env)) (f := fun b => if b = true then isTrue r env (eval r env) else isTrue u env (eval u env)) (h1 _ _ _ _ _ _ _ (fun b H1 => (b = true -> _) /\ (b = false -> _)) _ x (fun t H1 q => q) k _ _ (fun b s1 H1 g1 k1 => ?_) hE)
 cases b with
 | true => exact bm_true rfl ((h2 _ _ _ _ _ _ _ _ _ (x.step g1) hQ (k1.1 rfl)).from g1 hK hE)
 | false => exact bm_false rfl ((h3 _ _ _ _ _ _ _ _ _ (x.step g1) hQ (k1.2 rfl)).from g1 hK hE)
theorem as_nil : AS c d P ns [] .nil := fun _ _ _ _ _ _ _ _ _ h => Bool.noConfusion h
theorem os_nil : OS c d P ns [] .nil := fun _ _ _ _ _ _ _ _ _ h => Bool.noConfusion h
theorem tas_nil : TAS c d P ns [] .nil := fun h0 A env F s H Q R X x hQ k K E hK hE => wpG.pure (hK _ _ H (.refl x.rel) (hQ _ _ k))
theorem tos_nil : TOS c d P ns [] .nil := fun h0 A env F s H Q R X x hQ k K E hK hE => wpG.pure (hK _ _ H (.refl x.rel) (hQ _ _ k))
theorem as_cons {e es m l} (h1 : ES c d P ns e m) (h2 : AS c d P ns es l) (hl : es.isEmpty = true -> l = .nil) : AS c d P ns (e :: es) (.cons m l) := by
 intro h0 A env F s H Q X p _ x k K E hK hE
 cases es with
 | nil =>
  obtain rfl := hl rfl
  exact h1 _ _ _ _ _ _ _ _ x k _ _ (fun v s1 H1 g1 k1 => isB_el (P := fun v => K v s1) k1 (fun q => hK _ _ H1 g1 q) fun q => hK _ _ H1 g1 q) hE
 | cons e' es' =>
  refine wpG.bind (m := eval e env) (h1 _ _ _ _ _ _ _ _ x k _ _ (fun v s1 H1 g1 k1 => ?_) hE)
  exact isB_el k1 (fun q => wpG.then (wpAny_standAt (wpG.bind (wpG.holding (wpG.of (wpAny_truthy_bool ((h2 _ _ _ _ _ _ _ _ p rfl (x.step g1) q).from g1 hK hE)))))))
   fun q => wpG.then (wpAny_standAt (wpG.bind (wpG.holding (wpG.of (wpAny_truthy_bool (wpG.pure (hK _ _ H1 g1 q)))))))
theorem os_cons {e es m l} (h1 : ES c d P ns e m) (h2 : OS c d P ns es l) (hl : es.isEmpty = true -> l = .nil) : OS c d P ns (e :: es) (.cons m l) := by
 intro h0 A env F s H Q X p _ x k K E hK hE
 cases es with
 | nil =>
  obtain rfl := hl rfl
  exact h1 _ _ _ _ _ _ _ _ x k _ _ (fun v s1 H1 g1 k1 => isB_el (P := fun v => K v s1) k1 (fun q => hK _ _ H1 g1 q) fun q => hK _ _ H1 g1 q) hE
 | cons e' es' =>
  refine wpG.bind (m := eval e env) (h1 _ _ _ _ _ _ _ _ x k _ _ (fun v s1 H1 g1 k1 => ?_) hE)
  exact isB_el k1 (fun q => wpG.then (wpAny_standAt (wpG.bind (wpG.holding (wpG.of (wpAny_truthy_bool (wpG.pure (hK _ _ H1 g1 q))))))))
   fun q => wpG.then (wpAny_standAt (wpG.bind (wpG.holding (wpG.of (wpAny_truthy_bool ((h2 _ _ _ _ _ _ _ _ p rfl (x.step g1) q).from g1 hK hE))))))
theorem tas_cons {e es m l} (h1 : TS c d P ns e m) (h2 : TAS c d P ns es l) : TAS c d P ns (e :: es) (.cons m l) := by
 intro h0 A env F s H Q R X x hQ k K E hK hE
 refine wpG.bind (m := isTrue e env (eval e env)) (h1 _ _ _ _ _ _ _ (fun b H1 => (b = true -> _) /\ (b = false -> _)) _ x (fun t H1 q => q) k _ _ (fun b s1 H1 g1 k1 => ?_) hE)
 cases b with
 | true => exact (h2 _ _ _ _ _ _ _ _ _ (x.step g1) hQ (k1.1 rfl)).from g1 hK hE
 | false => exact wpG.pure (hK _ _ H1 g1 (hQ _ _ (k1.2 rfl)))
theorem tos_cons {e es m l} (h1 : TS c d P ns e m) (h2 : TOS c d P ns es l) : TOS c d P ns (e :: es) (.cons m l) := by
 intro h0 A env F s H Q R X x hQ k K E hK hE
 refine wpG.bind (m := isTrue e env (eval e env)) (h1 _ _ _ _ _ _ _ (fun b H1 => (b = true -> _) /\ (b = false -> _)) _ x (fun t H1 q => q) k _ _ (fun b s1 H1 g1 k1 => ?_) hE)
 cases b with
 | false => exact (h2 _ _ _ _ _ _ _ _ _ (x.step g1) hQ (k1.2 rfl)).from g1 hK hE
 | true => exact wpG.pure (hK _ _ H1 g1 (hQ _ _ (k1.1 rfl)))
theorem ls_nil : LS c d P ns [] .nil := fun h0 A env F s H Q X p x k K E hK hE => wpG.pure (hK _ _ H (.refl x.rel) ⟨rfl, k⟩)
theorem ls_cons {e es m l} (hs : ∀ env, starEach (e :: es) env = (false, eval e env) :: starEach es env) (h1 : ES c d P ns e m) (h2 : LS c d P ns es l) : LS c d P ns (e :: es) (.cons m l) := by
 intro h0 A env F s H Q X p x k K E hK hE
 rw [hs]
 refine wpG.bind (m := eval e env) (f := fun v => pure [v] >>= fun here => holding here (spliced (backTo p (starEach es env))) >>= fun r => pure (here ++ r)) (h1 _ _ _ _ _ _ _ _ x k _ _ (fun v s1 H1 g1 k1 => ?_) hE)
 exact wpG.bind (wpG.pure (wpG.bind (wpG.holding (h2 _ _ _ _ _ _ _ _ p (x.step g1) k1 _ _ (fun vs s2 H2 g2 k2 => wpG.pure (hK _ _ H2 (g1.trans g2) ⟨congrArg (· + 1) k2.1, k2.2⟩)) (hE.go g1)))))
end
end
section
open PyProof.Rows
section
variable {P : Bool} {α : Type} {M : Model} {A : Around} {E : Value -> Shared -> Prop} {s : Shared}
theorem evalArgsG {f : Value} {args : List (Bool × Sem Value)} {Q : Args -> Shared -> Prop} (hp : args.any (·.1) = false) (h : wpG P M A (spliced args) (fun vs s' => Q ⟨vs, []⟩ s') E s) : wpG P M A (evalArgs f true args []) Q E s := by
 cases args with
 | nil =>
  unfold evalArgs
  show wpG P M A (spliced [] >>= _) Q E s
  refine wpG.bind (wpG.mono h (fun vs s' h' => ?_) fun _ _ x => x)
  refine wpG.bind (wpG.pure (wpG.holding ?_))
  exact wpG.bind (wpG.pure (wpG.bind (wpG.pure (wpG.pure h'))))
 | cons b r =>
  obtain ⟨b, t⟩ := b
  have hb : b = false := by rw [List.any_cons, Bool.or_eq_false_iff] at hp; exact hp.1
  subst hb
  unfold evalArgs
  show wpG P M A (spliced ((false, t) :: r) >>= _) Q E s
  refine wpG.bind (wpG.mono h (fun vs s' h' => ?_) fun _ _ x => x)
  refine wpG.holding ?_
  exact wpG.bind (wpG.pure (wpG.bind (wpG.pure (wpG.pure h'))))
theorem ite2 {α : Type} {c : Prop} [Decidable c] {a b : Sem α} {Q : α -> Shared -> Prop} (h : wpG P M A a Q E s) (h' : wpG P M A b Q E s) : wpG P M A (ite c a b) Q E s := by
 by_cases q : c
 ·rw [if_pos q]; exact h
 ·rw [if_neg q]; exact h'
theorem callWithG {pos : Pos} {f : Value} {first : List Value} {args : List (Bool × Sem Value)} {Q : Value -> Shared -> Prop} (hp : args.any (·.1) = false)
  (h : wpG P M A (spliced args) (fun vs s₁ => (∃ k, (k = Keeper.frame \/ k = Keeper.machine) /\ Looks M s₁.heap (keeperOf f) k) /\ wpG P M A (call f (first ++ vs) []) Q E s₁) E s) : wpG P M A (callWith pos f first args []) Q E s := by
 unfold callWith
 refine wpG.bind (wpG.holding (evalArgsG hp (wpG.mono h (fun vs s₁ h₁ => ?_) fun _ _ x => x)))
 obtain ⟨⟨k, hk, L⟩, h₁⟩ := h₁
 refine wpG.then (wpAny_standAt ?_)
 rw [hp]
 refine wpG.then (L.here ?_)
 have tail : ∀ {t : Sem Value}, wpG P M A t Q E s₁ -> wpG P M A (t >>= fun r => holding [r] point >>= fun _ => pure r) Q E s₁ :=
  fun ht => wpG.bind (wpG.mono ht (fun r s₂ hr => wpG.then (wpAny_holding (wpAny_point (wpG.pure hr)))) fun _ _ x => x)
 have marked (mk : Value) : wpG P M A (callMarked mk f (first ++ vs) []) Q E s₁ := by unfold callMarked; exact wpG.keep h₁
 rcases hk with rfl | rfl
 ·exact ite2 (tail h₁) (tail (marked _))
 ·exact tail h₁
theorem keeper_bi {h : Heap} (b : BI) : ∃ k, (k = Keeper.frame \/ k = Keeper.machine) /\ Looks M h (keeperOf (biVal b)) k := ⟨.machine, .inr rfl, by cases b <;> exact Looks.of_pure rfl⟩
theorem keeper_id {h : Heap} (i : String) : ∃ k, (k = Keeper.frame \/ k = Keeper.machine) /\ Looks M h (keeperOf (.builtin i)) k := ⟨.machine, .inr rfl, Looks.of_pure rfl⟩
end
theorem keepIn_fn {K : Frag} {g : Addr} (h : fnIn K g = true) : keepIn K (.ref g) = true := by
 revert h
 unfold fnIn keepIn
 dsimp only
 cases K.lookup g with
 | none => exact id
 | some o =>
  obtain ⟨a, b, d, e⟩ := o
  cases d <;> first | exact fun _ => rfl | exact fun h => Bool.noConfusion h
theorem not_starred {e : Expr} (h : notStar e = true) (es : List Expr) (env : Env) : starEach (e :: es) env = (false, eval e env) :: starEach es env := by
 cases e with
 | Starred => exact Bool.noConfusion h
 | _ => rfl
theorem all_args' {p : Pos} (env : Env) : ∀ {es : List Expr}, es.all notStar = true -> (backTo p (starEach es env)).any (·.1) = false /\ (backTo p (starEach es env)).all (fun x => !x.1) = true := by
 intro es
 induction es with
 | nil => intro _; exact ⟨rfl, rfl⟩
 | cons e es ih =>
  intro h
  rw [List.all_cons, Bool.and_eq_true] at h
  rw [not_starred h.1]
  exact ih h.2
theorem plain_args {p : Pos} {es : List Expr} (h : es.all notStar = true) (env : Env) : (backTo p (starEach es env)).any (·.1) = false := (all_args' env h).1
theorem all_args {p : Pos} {es : List Expr} (h : es.all notStar = true) (env : Env) : (backTo p (starEach es env)).all (fun x => !x.1) = true := (all_args' env h).2
section
variable {c : Cx} {d : Nat} {P : Bool} {ns : NS} {h0 : Heap} {A : Around} {env : Env} {F : FF} {s : Shared} {H : HH} {Q : QE} {X : QX}
theorem XF.xl {h0 h1 : Heap} {e : Value} {s' : Shared} {H' : HH} (k : ∀ b, (h0.get? b).isSome = true -> (h1.get? b).isSome = true) (h : XF h1 X e s' H') : XL h0 env X e s' H' := by
 obtain ⟨a, C, e1, ⟨n, oe, vs, x, e2, e3, e4, e5, T, oT, ts, e6, e7, e8, e9, e10, e11, e13⟩, e12⟩ := h
 have nn : ∀ b, (h1.get? b).isSome = false -> (h0.get? b).isSome = false := fun b hb => by
  cases q : (h0.get? b).isSome with
  | false => rfl
  | true => rw [k b q] at hb; cases hb
 exact ⟨a, C, some .none, e1, ⟨nn a n, oe, vs, x, e2, e3, e4, e5, T, oT, ts, e6, nn T e7, e8, e9, e10, e11, e13⟩, .inr (.inl rfl), e12⟩
theorem FitB.fit {A : Around} {d : Nat} (x : FitB A d) : Fit A d := ⟨x.handled, Nat.le_trans (Nat.le_add_right _ _) x.depth, Nat.le_trans (Nat.le_add_right _ _) x.units⟩
theorem fn_call (x : Cf c d ns h0 A env F s H) {f : Addr} {vals : List Value} (h : CallS c d P f (vals.map era) H Q X) :
  WG P c Z0 A (call (.ref f) vals []) (fun v _ H' => Q (era v) H') (XL h0 env X) s H := by
 obtain ⟨e0, l, h1, h2, h3⟩ := x.stk
 refine fun K E hK hE => wpG.call (codeG.mono (h A s vals _ x.fit.fit h1 h2 x.rel rfl) fun r s' q => ?_)
 cases r with
 | error e => exact q.elim fun H' q => hE _ _ H' q.1 (q.2.xl fun b e => x.old b e)
 | ok f => cases f with
  | ret v => exact q.elim fun H' q => hK _ _ H' q.1 q.2
  | _ => exact q.elim
theorem es_attr (b : BaseOK c) {l m f n p} (hn : noSuper l = true) (hx : n = fnm f) (hf : f < 41) (h1 : ES c d P ns l m) : ES c d P ns (.Attribute l n p) (.attr m f) := by
 subst hx
 intro h0 A env F s H Q X x k K E hK hE
 rw [arm_eval_Attribute, base_plain hn]
 refine wpG.bind (h1 _ _ _ _ _ _ _ _ x k _ _ (fun v s1 H1 g1 k1 => ?_) hE)
 refine wpG.then (wpAny_standAt (ref_el k1 fun a k1 => ?_))
 refine wpG.bind (wpG.holding (wpG.of (WT.run (X := XL h0 env X) (Q := fun v _ H' => Q (era v) H') ?_ (fun v s2 H2 g2 k6 => wpG.then (wpAny_letTemporaryGo (wpG.pure (hK _ _ H2 (g1.trans g2) k6)))) (hE.go g1))))
 obtain ⟨C, dx, fs, k1, k2⟩ := inst_ex k1
 obtain ⟨u, k2, k3, k4⟩ := some_ex k2
 exact attr_sound b g1.rel k1 hf k2 k3 (noneG_ex k4).1 (noneG_ex k4).2
theorem es_sub {l r m1 m2 p} (hs : notSlice r = true) (h1 : ES c d P ns l m1) (h2 : ES c d P ns r m2) : ES c d P ns (.Subscript l r p) (.sub m1 m2) := by
 intro h0 A env F s H Q X x k K E hK hE
 rw [eval_Subscript]
 refine wpG.bind (h1 _ _ _ _ _ _ _ _ x k _ _ (fun v s1 H1 g1 k1 => ?_) hE)
 refine wpG.bind (wpG.holding (h2 _ _ _ _ _ _ _ _ (x.step g1) k1 _ _ (fun w s2 H2 g2 k2 => ?_) (hE.go g1)))
 exact wpG.then (wpAny_standAt ((opSub_sound (Nat.lt_of_le_of_lt (Nat.add_le_add_right (Nat.le_trans (Nat.le_trans (Nat.le_add_right _ _) (Nat.le_add_right _ _)) x.fit.units) 1) (Nat.le_of_ble_eq_true rfl)) hs g2.rel k2).fromG (g1.trans g2) hK hE))
variable (c d P ns) in
noncomputable def PS (o : Option Expr) (m : E) : Prop := ∀ (h0 : Heap) (A : Around) (env : Env) (F : FF) (s : Shared) (H : HH) (Q : QE) (X : QX), Cf c d ns h0 A env F s H -> vE (Ca c d P) mtab m F H Q X -> WG P c Z0 A (valueOrNone (evalOpt o env)) (fun v _ H' => Q (era v) H') (XL h0 env X) s H
theorem es_slc {l m1 m2 m3 p q} {lo hi : Option Expr} (h1 : ES c d P ns l m1) (h2 : PS c d P ns lo m2) (h3 : PS c d P ns hi m3) : ES c d P ns (.Subscript l (.Slice lo hi none q) p) (.slc m1 m2 m3) := by
 intro h0 A env F s H Q X x k K E hK hE
 rw [eval_Subscript]
 refine wpG.bind (h1 _ _ _ _ _ _ _ _ x k _ _ (fun v s1 H1 g1 k1 => ?_) hE)
 refine wpG.bind (wpG.holding ?_)
 rw [arm_eval_Slice]
 refine wpG.bind (h2 _ _ _ _ _ _ _ _ (x.step g1) k1 _ _ (fun w s2 H2 g2 k2 => ?_) (hE.go g1))
 refine wpG.bind (wpG.holding (h3 _ _ _ _ _ _ _ _ ((x.step g1).step g2) k2 _ _ (fun u s3 H3 g3 k3 => ?_) (hE.go (g1.trans g2))))
 refine wpG.then (wpAny_holding (wpAny_pure (wpG.of (wpAny_newObj_type (wpG.then (wpAny_standAt (wpG.of (wpAny_mono (opSlc_sound (Z := Z0) (X := XL h0 env X) g3.rel k3) (fun v s' k => ?_) fun v s' k => ?_))))))))
 ·exact k.elim fun H' k => hK _ _ H' (((g1.trans g2).trans g3).trans k.1) k.2
 ·exact k.elim fun H' k => hE _ _ H' (((g1.trans g2).trans g3).trans k.1) k.2
theorem part_none : PS c d P ns none .non := fun h0 A env F s H Q X x k K E hK hE => wpG.pure (hK _ _ H x.refl k)
theorem part_some {e : Expr} {m : E} (h : ES c d P ns e m) : PS c d P ns (some e) m := fun h0 A env F s H Q X x k => h h0 A env F s H Q X x k
theorem es_bi (b : BaseOK c) {n q es l p bb} (hg : glob ns n = some (.bi bb)) (hl : es.length < 10) (hd : (n == ("__debug__" : Str)) = false) (hr : es.all notStar = true) (h1 : LS c d P ns es l) : ES c d P ns (.Call (.Name n q) es [] p) (.bi bb l) := by
 intro h0 A env F s H Q X x k K E hK hE
 refine wpG.then (m := eval (.Name n q) env) (f := fun f => callWith p f [] (backTo p (starEach es env)) []) (wpAny_Name (glob_sound b x hg fun u e => ?_) hd)
 rw [show u = biVal bb from e]
 obtain ⟨k0, k⟩ := biG_ex k
 exact callWithG (plain_args hr env) (h1 _ _ _ _ _ _ _ _ p x k _ _ (fun vs s1 H1 g1 k1 => ⟨keeper_bi bb, (bcall_sound (P := P) x.hA g1.rel k0 k1.2).from g1 hK hE⟩) hE)
theorem es_fn (b : BaseOK c) {n q es l p f} (hg : glob ns n = some (.fn f)) (hd : (n == ("__debug__" : Str)) = false) (hr : es.all notStar = true) (h1 : LS c d P ns es l) : ES c d P ns (.Call (.Name n q) es [] p) (.fn f l) := by
 have hk : keepIn c.K (.ref f) = true := by
  unfold glob at hg
  split at hg
  ·exact b.gfn _ _ hg
  ·cases hg
 intro h0 A env F s H Q X x k K E hK hE
 refine wpG.then (m := eval (.Name n q) env) (f := fun f => callWith p f [] (backTo p (starEach es env)) []) (wpAny_Name (glob_sound b x hg fun u e => ?_) hd)
 rw [show u = .ref f from e]
 exact callWithG (plain_args hr env) (h1 _ _ _ _ _ _ _ _ p x k _ _ (fun vs s1 H1 g1 k1 => ⟨looks_keep hk (g1.rel.K b), (fn_call (x.step g1) k1.2).from g1 hK hE⟩) hE)
theorem meth_form {es : List Expr} {p : Pos} (hl : es.length < 10) (hr : es.all notStar = true) (env : Env) : methodCallForm (es.length + ([] : List Keyword).length) (backTo p (starEach es env)) (backToKw p (keywordEach [] env)) = true := by
 show ((backTo p (starEach es env)).all (fun x => !x.1) && true && decide (es.length + 0 + 0 < 30)) = true
 rw [all_args hr, decide_eq_true (show es.length + 0 + 0 < 30 from Nat.lt_trans hl (Nat.le_of_ble_eq_true rfl))]; rfl
theorem meth_pos {o : Expr} {ap p : Pos} (ha : ap.endLine = p.line) (env : Env) : methodCallPos true o env ap p = pure p := by unfold methodCallPos; simp [ha]
theorem es_meth (b : BaseOK c) {o m f n ap es l p} (hn : noSuper o = true) (hx : n = fnm f) (hf : f < 41) (ha : ap.endLine = p.line) (hl : es.length < 10) (hr : es.all notStar = true) (h1 : ES c d P ns o m) (h2 : LS c d P ns es l) :
  ES c d P ns (.Call (.Attribute o n ap) es [] p) (.meth m f l) := by
 subst hx
 intro h0 A env F s H Q X x k K E hK hE
 rw [arm_eval_Call, base_plain hn]
 unfold methodCall
 rw [meth_form hl hr env]
 refine wpG.bind (h1 _ _ _ _ _ _ _ _ x k _ _ (fun v s1 H1 g1 k1 => ?_) hE)
 refine wpG.then (wpAny_standAt (ref_el k1 fun a k1 => ch fun G hG => ?_))
 obtain ⟨C, dx, fs, k1, k2⟩ := inst_ex k1
 obtain ⟨g, k2, k3⟩ := some_ex k2
 obtain ⟨k3, k4⟩ := noneG_ex k3
 obtain ⟨es', n', I, hfs, _, hC⟩ := g1.rel.inst k1
 have hk := keepIn_fn ((b.cls C hC).meth f g hf k2).2.2
 refine hG (wpG.then (wpAny_holding (meth_sound b g1.rel k1 hf k3 k2 (wpG.then (wpAny_of_eq (meth_pos ha env) ?_)))))
 exact callWithG (plain_args hr env) (h2 _ _ _ _ _ _ _ _ p (x.step g1) k4 _ _ (fun vs s2 H2 g2 k5 => ⟨looks_keep hk (g2.rel.K b), (fn_call ((x.step g1).step g2) (vals := .ref a :: vs) k5.2).from (g1.trans g2) hK hE⟩) (hE.go g1))
theorem es_bm (b : BaseOK c) {o m mm n ap es l p} (hn : noSuper o = true) (hx : n = bmName mm) (ha : ap.endLine = p.line) (hl : es.length < 10) (hr : es.all notStar = true) (h1 : ES c d P ns o m) (h2 : LS c d P ns es l) :
  ES c d P ns (.Call (.Attribute o n ap) es [] p) (.bm m mm l) := by
 subst hx
 intro h0 A env F s H Q X x k K E hK hE
 rw [arm_eval_Call, base_plain hn]
 unfold methodCall
 rw [meth_form hl hr env]
 refine wpG.bind (h1 _ _ _ _ _ _ _ _ x k _ _ (fun v s1 H1 g1 k1 => ?_) hE)
 refine wpG.then (wpAny_standAt (wpG.then (wpAny_holding (bmGet_sound g1.rel k1 fun bk hb => wpG.then (wpAny_of_eq (meth_pos ha env) ?_)))))
 obtain ⟨hp, hb⟩ := bkG_ex hb
 refine callWithG (plain_args hr env) (h2 _ _ _ _ _ _ _ _ p (x.step g1) hb _ _ (fun vs s2 H2 g2 k5 => ⟨keeper_id _, ?_⟩) (hE.go g1))
 by_cases q : bk = .bapp
 ·subst q
  obtain rfl : P = true := hp rfl
  exact (bapp_sound g2.rel k5.2).from (g1.trans g2) hK hE
 ·exact (bmCall_sound q g2.rel k5.2).fromG (g1.trans g2) hK hE
theorem es_list {es l p} (hl : es.length < 100) (h1 : LS c d P ns es l) : ES c d P ns (.List es p) (.list l) := by
 intro h0 A env F s H Q X x k K E hK hE
 rw [arm_eval_List]
 refine wpG.then (wpAny_standAt (wpG.bind (h1 _ _ _ _ _ _ _ _ p x k _ _ (fun vs s1 H1 g1 k1 => ?_) hE)))
 exact wpG.of (wpAny_newList (hK _ _ _ (g1.trans (new_list (k := s1.toks) g1.rel (xs := vs.map era) (by simp))) (k1.2 _ (g1.rel.fresh (get?_size _)).1)) (by rw [k1.1]; exact Nat.le_trans (Nat.le_of_lt hl) (Nat.le_of_ble_eq_true rfl)))
theorem es_tup {es l k' p} (hl : es.length < 100) (h1 : LS c d P ns es l) : ES c d P ns (.Tuple es k' p) (.tup l) := by
 intro h0 A env F s H Q X x k K E hK hE
 rw [arm_eval_Tuple]
 refine wpG.then (wpAny_standAt (wpG.bind (h1 _ _ _ _ _ _ _ _ p x k _ _ (fun vs s1 H1 g1 k1 => ?_) hE)))
 exact wpG.of (wpAny_newTuple (hK _ _ _ (g1.trans (new_tuple (k := s1.toks) g1.rel (xs := vs.map era) (by simp))) (k1.2 _ (g1.rel.fresh (get?_size _)).1)) (by rw [k1.1]; exact Nat.le_trans (Nat.le_of_lt hl) (Nat.le_of_ble_eq_true rfl)))
end
end
section
open PyProof.Rows
section
variable {c : Cx} {d : Nat} {P : Bool} {ns : NS} {h0 : Heap} {A : Around} {env : Env} {F : FF} {s s2 : Shared} {H H2 : HH} {Q : QE} {X : QX} {Z : Addr -> Prop} {h' : Heap}
set_option tactic.hygienic true in
theorem good_inst {a dx C n : Nat} (r : Rel c s.heap H) (hC : (initOf C).isSome = true) (ha : s.heap.get? a = none) (hd : s.heap.get? dx = none) (ne : a ≠ dx) (k : ∀ b o, s.heap.get? b = some o -> h'.get? b = some o)
  (e1 : h'.get? a = some (instObj C dx)) (e2 : h'.get? dx = some (dictOf [] 0)) : Good c Z s H { s with heap := h', toks := n } (upd H a (.inst C dx [])) := by
 have hb : ∀ x, s.heap.get? x = none -> c.hb.get? x = none := fun x e => by
  cases q : c.hb.get? x with
  | none => rfl
  | some o => have := r.base x o q; rw [e] at this; cases this
 have fa := r.fresh ha
 have fd := r.fresh hd
 have r' := r.mono k
 have lv : ∀ b C' d' fs, H b = some (.inst C' d' fs) -> d' ≠ a /\ d' ≠ dx := fun b C' d' fs e => by
  obtain ⟨o, q⟩ := r.dlive e
  exact ⟨fun z => (by rw [z, ha] at q; cases q), fun z => (by rw [z, hd] at q; cases q)⟩
 refine ⟨⟨r'.base, fun b o e => ?_, fun b o e hro => ?_, fun b C' d' fs e => ?_, fun b b' C1 C2 d' fs fs' e e' => ?_⟩, fun b o' _ e q => .refl (k b o' e), fun b o' _ e q => ?_,
  fun b e => let ⟨o', e'⟩ := Option.isSome_iff_exists.mp e; by rw [show h'.get? b = some o' from k b o' e']; rfl, fun b o' e _ => k b o' e, fun b ⟨o', e, y⟩ q => ⟨⟨o', k b o' e, y⟩, ?_⟩, rfl, rfl⟩
 ·unfold upd at e; split at e
  ·rename_i q; cases e; subst q; exact ⟨e1, [], 0, e2, .nil, hC⟩
  ·exact r'.rep b o e
 ·unfold upd at e; split at e
  ·rename_i q; rw [q]; exact hb a ha
  ·exact r.new b o e hro
 ·unfold upd at e; split at e
  ·cases e; exact ⟨hb dx hd, by rw [upd_ne (Ne.symm ne)]; exact fd.1⟩
  ·exact ⟨(r.dnew b C' d' fs e).1, by rw [upd_ne (lv b C' d' fs e).1]; exact (r.dnew b C' d' fs e).2⟩
 ·unfold upd at e e'; split at e
  ·split at e'
   ·rename_i x y; exact x.trans y.symm
   ·cases e; exact absurd rfl (lv b' _ _ _ e').2
  ·split at e'
   ·cases e'; exact absurd rfl (lv b _ _ _ e).2
   ·exact r.inj b b' C1 C2 d' fs fs' e e'
 ·refine q.put (fun w => by rw [w, ha] at e; cases e) fun C' fs z => ?_
  cases z; rw [hd] at e; cases e
 ·refine q.put (fun w => by rw [w, ha] at e; cases e) fun C' fs z => ?_
  cases z; rw [hd] at e; cases e
set_option tactic.hygienic true in
theorem good_late {a n : Nat} {mo : MO} (g : Good c Z s H s2 H2) (na : s.heap.get? a = none) (hb : c.hb.get? a = none) (ho : Out H2 a) (ht : ∀ o, s2.heap.get? a = some o -> o.cls ≠ .type "tuple") (hs : Heap.SameBut a s2.heap h')
  (hr : ORep c h' a mo) (hi : ∀ C d fs, mo ≠ .inst C d fs) : Good c Z s H { s2 with heap := h', toks := n } (upd H2 a mo) := by
 have nb : ∀ b o, s.heap.get? b = some o -> b ≠ a := fun b o e q => by rw [q, na] at e; cases e
 have im : ∀ b o, s2.heap.get? b = some o -> o.cls = .type "tuple" -> h'.get? b = some o := fun b o e t => (hs.2 b fun q => ht o (by rw [<- q]; exact e) t).trans e
 have r := g.rel
 refine ⟨⟨fun b o e => (hs.2 b fun q => by rw [q, hb] at e; cases e).trans (r.base b o e), fun b o e => ?_, fun b o e hro => ?_, fun b C' d' fs e => ?_, fun b b' C1 C2 d' fs fs' e e' => ?_⟩,
  fun b o z e q => ?_, fun b o z e q => (g.out b o z e q).put (nb b o e) fun C fs => hi _ _ _, fun b e => ?_, fun b o e t => im b o (g.imm b o e t) t, fun b f q => ?_, g.gens, g.os⟩
 ·unfold upd at e; split at e
  ·rename_i q; cases e; rw [q]; exact hr
  ·rename_i q
   refine (r.rep b o e).keep (fun o' z => (hs.2 b q).trans z) (fun C d fs z o' y => (hs.2 d fun w => ?_).trans y) im
   subst z; rw [w] at e; exact ho.2 b C fs e
 ·unfold upd at e; split at e
  ·rename_i q; rw [q]; exact hb
  ·exact r.new b o e hro
 ·unfold upd at e; split at e
  ·cases e; exact absurd rfl (hi _ _ _)
  ·exact ⟨(r.dnew b C' d' fs e).1, by rw [upd_ne fun q => ho.2 b C' fs (by rw [<- q]; exact e)]; exact (r.dnew b C' d' fs e).2⟩
 ·unfold upd at e e'; split at e
  ·cases e; exact absurd rfl (hi _ _ _)
  ·split at e'
   ·cases e'; exact absurd rfl (hi _ _ _)
   ·exact r.inj b b' C1 C2 d' fs fs' e e'
 ·obtain ⟨sl, e', q'⟩ := g.kept b o z e q
  exact ⟨sl, (hs.2 b (nb b o e)).trans e', q'⟩
 ·obtain ⟨o', e'⟩ := Option.isSome_iff_exists.mp (g.live b e)
  rw [show h'.get? b = some o' from (hs.2 b (by obtain ⟨o, e⟩ := Option.isSome_iff_exists.mp e; exact nb b o e)).trans e']; rfl
 ·obtain ⟨o, e, _⟩ := id f
  have nb' := nb b o e
  obtain ⟨⟨o', e', y⟩, q'⟩ := g.frm b f q
  exact ⟨⟨o', (hs.2 b nb').trans e', y⟩, q'.put nb' fun C fs => hi _ _ _⟩
theorem frames_typeCall (A : Around) (v : Value) (vs : List Value) : (A.under (.builtin "type.__call__" ⟨v :: vs, []⟩)).frames = A.frames := rfl
theorem le4 {a b n : Nat} (h : a + b + 4 <= n) : a + 1 + b <= n := by lia
theorem le20 {a b n : Nat} (h : a + b + 20 <= n) : a + 1 + b <= n := by lia
theorem fit_typeCall {A : Around} {d : Nat} (x : FitB A d) (C : Addr) (vs : List Value) : Fit (A.under (.builtin "type.__call__" ⟨.ref C :: vs, []⟩)) d := ⟨x.handled, le4 x.depth, le20 x.units⟩
theorem succ_none (hh : Heap) : hh.get? (hh.objs.size + 1) = none := by
 cases w : hh.get? (hh.objs.size + 1) with
 | none => rfl
 | some o => exact absurd (Heap.lt_size w) (Nat.not_lt.mpr (Nat.le_succ _))
theorem new_obj (b : BaseOK c) (x : Cf c d ns h0 A env F s H) {C g : Addr} {vs : List Value} (hi : initOf C = some g)
  (k : ∀ a d', H a = none -> H d' = none -> a ≠ d' -> CallS c d P g (.ref a :: vs.map era) (upd H a (.inst C d' [])) (fun v H2 => v = .non /\ Q (.ref a) H2) X) :
  WG P c Z0 A (call (.ref C) vs []) (fun v _ H' => Q (era v) H') (XL h0 env X) s H := by
 have kk := b.cls C (by rw [hi]; rfl)
 have X' := x.rel.K b
 obtain ⟨i1, i2⟩ := kk.init g hi
 obtain ⟨e0, l', f1, f2, f3⟩ := x.stk
 obtain ⟨hh, gg, dd, tt, oo⟩ := s
 have hd' : hh.get? hh.objs.size = none := get?_size hh
 have ha' := succ_none hh
 have g2 : Good c Z0 ⟨hh, gg, dd, tt, oo⟩ H ⟨(hh.push emptyDict).push (instObj C hh.objs.size), gg, dd, tt, oo⟩ (upd H (hh.objs.size + 1) (.inst C hh.objs.size [])) :=
  good_inst (s := ⟨hh, gg, dd, tt, oo⟩) x.rel (by rw [hi]; rfl) ha' hd' (Nat.succ_ne_self _) (fun b o e => Heap.get?_push_of_some _ (Heap.get?_push_of_some _ e)) (by heap_get) (by heap_get)
 refine fun K E hK hE => wpG.call (make_G (makes_of X' kk.makes) (looks_findIn X' i1) (fun self => bind_fn X' self (beq_iff_eq.mp i2)) rfl ?_)
 refine codeG.mono (k (hh.objs.size + 1) hh.objs.size (x.rel.fresh ha').1 (x.rel.fresh hd').1 (Nat.succ_ne_self _) _ _ (.ref (hh.objs.size + 1) :: vs) _ (fit_typeCall x.fit C vs) (by rw [frames_typeCall]; exact f1) (f2.step g2) g2.rel rfl) fun r s' q => ?_
 cases r with
 | error e => exact q.elim fun H' q => hE _ _ H' (g2.trans q.1) (q.2.xl fun b e => (x.step g2).old b e)
 | ok f => cases f with
  | ret v => exact q.elim fun H' q => ⟨era_non q.2.1, hK _ _ H' (g2.trans q.1) q.2.2⟩
  | _ => exact q.elim
theorem es_new (b : BaseOK c) {n q es l p C} (hg : glob ns n = some (.cls C)) (hd : (n == ("__debug__" : Str)) = false) (hr : es.all notStar = true) (h1 : LS c d P ns es l) : ES c d P ns (.Call (.Name n q) es [] p) (.new C l) := by
 intro h0 A env F s H Q X x k K E hK hE
 refine wpG.then (m := eval (.Name n q) env) (f := fun f => callWith p f [] (backTo p (starEach es env)) []) (wpAny_Name (glob_sound b x hg fun u e => ?_) hd)
 rw [show u = .ref C from e]
 exact callWithG (plain_args hr env) (h1 _ _ _ _ _ _ _ _ p x k _ _ (fun vs s1 H1 g1 k1 => (some_ex k1.2).elim fun g k2 => ⟨looks_keep (b.cls C (by rw [k2.1]; rfl)).keep (g1.rel.K b), (new_obj b (x.step g1) k2.1 k2.2).from g1 hK hE⟩) hE)
theorem low_fresh (b : BaseOK c) (r : Rel c s.heap H) : (s.heap.objs.size == sysModules) = false := by
 obtain ⟨a, o, e, l⟩ := b.low
 have := Heap.lt_size (r.base a o e)
 rw [beq_eq_false_iff_ne]; exact Nat.ne_of_gt (Nat.lt_trans l this)
theorem es_edict (b : BaseOK c) {p} : ES c d P ns (.Dict [] [] p) .edict := by
 intro h0 A env F s H Q X x k K E hK hE
 rw [arm_eval_Dict]
 refine wpG.then (wpAny_standAt (wpG.of (t := newDict) ?_))
 unfold newDict
 refine wpAny_newObj_type (hK _ _ _ (good_new (n := s.toks) x.rel (mo := .idict []) ⟨low_fresh b x.rel, fun _ => none, Heap.MapOf.new s.heap, fun _ => rfl, ?_⟩ (fun _ _ _ e => nomatch e)) (k _ (x.rel.fresh (get?_size _)).1)) (Nat.zero_le _)
 intro o es ep e1 e2
 rw [Heap.get?_push_size _ rfl] at e1
 cases e1; cases e2; simp
theorem dict_fill {vv : Value} {q : Addr} {n : Nat} (x : Cf c d ns h0 A env F s H) (gt : Good c Z0 { s with heap := s.heap.push { cls := .type "dict", data := .dict #[] } } H s2 H2) (k3 : H2 q = some (.tuple (mvi [1, 0]))) {K : Unit -> Shared -> Prop} {E : Value -> Shared -> Prop}
  (k : ∀ s' H', Good c Z0 s H s' H' -> H' = upd H2 s.heap.objs.size (.tdict [1, 0] (era vv)) -> H2 s.heap.objs.size = none -> K () s') : wpAny c.M A (dictSet s.heap.objs.size (.ref q) vv) K E s2 := by
 have x1 : Good c Z0 s H { s with heap := s.heap.push { cls := .type "dict", data := .dict #[] } } H := good_push (n := s.toks) x.rel
 have na : s.heap.get? s.heap.objs.size = none := get?_size _
 have e0 : (s.heap.push { cls := .type "dict", data := .dict #[] }).get? s.heap.objs.size = some { cls := .type "dict", data := .dict #[] } := Heap.get?_push_size _ rfl
 have o0 : Out H s.heap.objs.size := (x.rel.fresh na).2
 obtain ⟨sl, e3, hsl⟩ := gt.kept _ _ id e0 o0
 obtain rfl : sl = #[] := hsl (fun z => by revert z; decide)
 have o3 := gt.out _ _ id e0 o0
 obtain ⟨vs, n, e4, q4⟩ := gt.rel.rep _ _ k3
 have hk : (tupleKind (intKind c.prog c.w)).is s2.heap [1, 0] q := ⟨_, vs, n, e4, rfl, rfl, items_are q4⟩
 have hm : s2.heap.DictOfH (tupleKind (intKind c.prog c.w)) s.heap.objs.size [] := ⟨_, #[], 0, e3, ⟨rfl, rfl, rfl⟩, rfl, rfl, (fun _ h => nomatch h), .nil⟩
 have nt : ∀ o, s2.heap.get? s.heap.objs.size = some o -> o.cls ≠ .type "tuple" := fun o e => by rw [e3] at e; cases e; decide
 have hu : A.units < cLine := Nat.lt_of_le_of_lt (Nat.le_trans (Nat.le_trans (Nat.le_add_right _ _) (Nat.le_add_right _ _)) x.fit.units) (Nat.le_of_ble_eq_true rfl)
 exact wpAny_dictSet_heap hu hk hm fun h' hm' hs => k _ _ (good_late (x1.trans gt) na (hb_fresh x.rel) o3 nt hs (mo := .tdict [1, 0] (era vv)) ⟨q, vv, hm', rfl⟩ (fun _ _ _ e => nomatch e)) rfl o3.1
theorem es_dict {k' v m1 m2 p} (h1 : ES c d P ns k' m1) (h2 : ES c d P ns v m2) : ES c d P ns (.Dict [some k'] [v] p) (.dict m1 m2) := by
 intro h0 A env F s H Q X x k K E hK hE
 rw [arm_eval_Dict]
 refine wpG.then (wpAny_standAt ?_)
 show wpG _ _ _ (dictDisplay ([(eval k' env, (eval v env >>= fun x => standAt p >>= fun _ => pure x))].map fun p => (some p.1, p.2))) _ _ _
 rw [dictDisplay_pairs _ (by simp) (by simp)]
 refine wpG.bind ?_
 unfold subDict
 have x1 : Good c Z0 s H { s with heap := s.heap.push { cls := .type "dict", data := .dict #[] } } H := good_push (n := s.toks) x.rel
 refine wpG.then (wpAny_alloc (wpG.bind (wpG.holding ?_)))
 rw [if_pos (by simp)]
 refine wpG.bind (m := (eval k' env >>= fun kv => holding [kv] (eval v env >>= fun x => standAt p >>= fun _ => pure x) >>= fun vv => holding [kv, vv] (pure []) >>= fun r => pure ((kv, vv) :: r))) (wpG.bind (h1 _ _ _ _ _ _ _ _ (x.step x1) k _ _ (fun kv s2 H2 g2 k2 => ?_) (hE.go x1)))
 refine wpG.bind (wpG.holding (wpG.bind (h2 _ _ _ _ _ _ _ _ ((x.step x1).step g2) k2 _ _ (fun vv s3 H3 g3 k3 => ?_) (hE.go (x1.trans g2)))))
 refine ref_el k3 fun q k3 => ?_
 refine wpG.then (wpAny_standAt (wpG.pure (wpG.then (wpAny_holding (wpAny_pure (wpG.pure (wpG.holding ?_)))))))
 refine wpG.bind (m := forIn [(Value.ref q, vv)] PUnit.unit _) (wpG.bind (wpG.bind ?_))
 obtain ⟨ks, k3, rfl, k4⟩ := tup_ex k3
 exact wpG.of (dict_fill (n := 0) x (g2.trans g3) k3 fun s' H' g e hn => wpG.pure (wpG.pure (wpG.pure (wpG.pure (wpG.pure (hK _ _ _ g (by rw [e]; exact k4 _ hn)))))))
end
end
section
open PyProof.Rows
theorem ne_type {a b : String} (h : a ≠ b) : Value.type a ≠ Value.type b := fun e => by injection e; exact h (by assumption)
theorem typeCall_range_3 (a b d : Value) : checkTypeCall "range" ⟨[a, b, d], []⟩ = pure () := by kernel_rfl
theorem newCall_range_3 (a b d : Value) : checkBuiltinCall "range.__new__" ⟨[.type "range", a, b, d], []⟩ = pure () := by kernel_rfl
theorem initArgs_range_3 (obj a b d : Value) : argsOk "object.__init__" ⟨[obj, a, b, d], []⟩ := by
 unfold argsOk; rw [signature?_of (id := "object.__init__") (n := ['_', '_', 't', 'i', 'n', 'i', '_', '_']) (o := ['t', 'c', 'e', 'j', 'b', 'o']) (by kernel_rfl) F.owner_object]; kernel_rfl
theorem call_range_3 {prog : Program} {w : World} {A : Around} {E : Value -> Shared -> Prop} {s : Shared} {a b : Int} {t u v : Tok} {Q : Value -> Shared -> Prop}
  (h : Q (.ref s.heap.objs.size) { s with heap := s.heap.push { cls := .type "range", data := .fields #[.int a t, .int b u, .int (-1) v] } }) :
  wpAny (model prog w) A (call (.type "range") [.int a t, .int b u, .int (-1) v]) Q E s :=
 callType_new F.called_range (by decide) (typeCall_range_3 _ _ _) (newCall_range_3 _ _ _) (fun obj => initArgs_range_3 obj _ _ _) F.entry_range_new
  (AutoRange.range___new___type_int_int_int_1 a b (-1) t u v F.called_range.sub (by decide)) ⟨PyProof.noPylong_small (by decide), ⟨_, Heap.get?_push_size _ rfl, rfl⟩, h⟩
theorem rangeSize_neg (a b : Int) : Builtin.Range.rangeSize a b (-1) = if b < a then a - b else 0 := by
 unfold Builtin.Range.rangeSize
 simp only [show ¬ ((-1 : Int) > 0) by decide, if_false, show -(-1 : Int) = 1 by decide, Int.ediv_one]
 split <;> lia
theorem small_neg {a b : Int} (ha : -(2 ^ 62) < a) (ha' : a < 2 ^ 62) (hb : -(2 ^ 62) < b) (hb' : b < 2 ^ 62) : Builtin.Range.small a b (-1) = true := by
 unfold Builtin.Range.small
 rw [rangeSize_neg]
 simp only [Builtin.Range.rangeFitsLong, Bool.and_eq_true, Bool.or_eq_true, decide_eq_true_eq, beq_iff_eq, show ¬ ((-1 : Int) > 0) by decide, if_false]
 have A : ∀ x : Int, -(2 ^ 62) < x -> x < 2 ^ 62 -> -(2 ^ 63) <= x /\ x < 2 ^ 63 := fun x h h' => ⟨by lia, by lia⟩
 split
 ·exact ⟨⟨⟨⟨A a ha ha', A b hb hb'⟩, by decide⟩, by lia, by lia⟩, .inr (by rw [show (-1 : Int) + 1 = 0 from rfl, Int.add_zero]; exact A b hb hb')⟩
 ·exact ⟨⟨⟨⟨A a ha ha', A b hb hb'⟩, by decide⟩, by decide⟩, .inl rfl⟩
section
variable {c : Cx} {d : Nat} {P : Bool} {ns : NS} {h0 h h' : Heap} {A : Around} {env : Env} {F : FF} {s s' : Shared} {H H' : HH} {Q : QE} {X : QX} {Z : Addr -> Prop} {it : Addr} {st : ItS}
theorem Rel.outFields (r : Rel c h H) {b : Addr} {o : Obj} {vs : Array Value} (e : h.get? b = some o) (dd : o.data = .fields vs) : Out H b := by
 refine ⟨?_, fun a C fs q => ?_⟩
 ·cases q : H b with
  | none => rfl
  | some mo => exact absurd dd ((r.rep b mo q).notFields e vs)
 ·obtain ⟨_, es, n, ed, _⟩ := r.rep a _ q
  rw [e] at ed; cases ed; cases dd
theorem Rel.newb (r : Rel c h H) {b : Addr} (e : h.get? b = none) : c.hb.get? b = none := by
 cases q : c.hb.get? b with
 | none => rfl
 | some o => have := r.base b o q; rw [e] at this; cases this
theorem IterAt.obj (x : IterAt h it st) : ∃ o vs, h.get? it = some o /\ o.data = .fields vs /\ o.cls ≠ .type "tuple" /\ o.cls ≠ .type "frame" := by
 cases st with
 | up cur n => exact ⟨_, _, x, rfl, ne_type (by decide), ne_type (by decide)⟩
 | down cur n => exact ⟨_, _, x, rfl, ne_type (by decide), ne_type (by decide)⟩
 | list a i => obtain ⟨o, e1, e2, e3⟩ := x; exact ⟨o, _, e1, e3, by rw [e2]; decide, by rw [e2]; decide⟩
 | tuple xs => obtain ⟨t, items, i, ⟨o, e1, e2, e3⟩, _⟩ := x; exact ⟨o, _, e1, e3, by rw [e2]; decide, by rw [e2]; decide⟩
 | bytes bs => obtain ⟨b, t, i, ⟨o, e1, e2, e3⟩, _⟩ := x; exact ⟨o, _, e1, e3, by rw [e2]; decide, by rw [e2]; decide⟩
theorem IterAt.out (r : Rel c h H) (x : IterAt h it st) : Out H it := by
 obtain ⟨o, vs, e, dd, _⟩ := x.obj
 exact r.outFields e dd
theorem IterAt.keep (x : IterAt h it st) (k : ∀ o, h.get? it = some o -> h'.get? it = some o) (im : ∀ b o, h.get? b = some o -> o.cls = .type "tuple" -> h'.get? b = some o) : IterAt h' it st := by
 cases st with
 | up cur n => exact k _ x
 | down cur n => exact k _ x
 | list a i => obtain ⟨o, e1, e2, e3⟩ := x; exact ⟨o, k _ e1, e2, e3⟩
 | tuple xs => obtain ⟨t, items, i, ⟨o, e1, e2, e3⟩, ⟨o', f1, f2, f3⟩, q⟩ := x; exact ⟨t, items, i, ⟨o, k _ e1, e2, e3⟩, ⟨o', im _ _ f1 f2, f2, f3⟩, q⟩
 | bytes bs => obtain ⟨b, t, i, ⟨o, e1, e2, e3⟩, q⟩ := x; exact ⟨b, t, i, ⟨o, k _ e1, e2, e3⟩, q⟩
theorem IterAt.step (x : IterAt s.heap it st) (r : Rel c s.heap H) (g : Good c Z s H s' H') (z : ¬ Z it) : IterAt s'.heap it st := by
 refine x.keep (fun o e => ?_) g.imm
 obtain ⟨o', vs, e', dd, n1, n2⟩ := x.obj
 rw [e] at e'; cases e'
 obtain ⟨sl, e2, q⟩ := g.kept it o z e (x.out r)
 rw [q n2] at e2; exact e2
noncomputable def PI (c : Cx) (A : Around) (v : Value) (s1 : Shared) (H1 : HH) (Q : ItS -> HH -> Prop) : Prop :=
 ∀ (K : Value -> Shared -> Prop) (E : Value -> Shared -> Prop), (∀ a st s2, IterAt s2.heap a st -> s1.heap.get? a = none -> Good c Z0 s1 H1 s2 H1 -> Q st H1 -> K (.ref a) s2) -> wpAny c.M A (pyIter v) K E s1
theorem iter_sound {v : Value} {Q : ItS -> HH -> Prop} (r : Rel c s.heap H) (x : itStart (era v) H fun st => Q st H) : PI c A v s H Q := by
 intro K E k
 cases v with
 | bytes bs t => exact KBw.pyIter_bytes (k _ (.bytes bs.toList) _ ⟨bs, t, 0, ⟨_, Heap.get?_push_size _ rfl, rfl, rfl⟩, rfl⟩ (get?_size _) (good_push (n := s.toks) r) x)
 | ref a =>
  obtain ⟨o, x1, x2⟩ := some_ex x
  have q := r.rep _ _ x1
  cases o with
  | list xs =>
   obtain ⟨vs, n, e1, q1⟩ := q
   exact wpAny_pyIter_list ⟨_, e1, rfl, n, rfl⟩ (k _ (.list a 0) _ ⟨_, Heap.get?_push_size _ rfl, rfl, rfl⟩ (get?_size _) (good_push (n := s.toks) r) x2)
  | tuple xs =>
   obtain ⟨vs, n, e1, q1⟩ := q
   exact wpAny_pyIter_tuple ⟨_, e1, rfl, n, rfl⟩ (k _ (.tuple xs) _ ⟨a, vs, 0, ⟨_, Heap.get?_push_size _ rfl, rfl, rfl⟩, ⟨_, Heap.get?_push_of_some _ e1, rfl, n, rfl⟩, q1⟩ (get?_size _) (good_push (n := s.toks) r) x2)
  | _ => exact x2.elim
 | _ => exact x.elim
theorem self_sound {E : Value -> Shared -> Prop} {Q : Value -> Shared -> Prop} (x : IterAt s.heap it st) (h : Q (.ref it) s) : wpAny c.M A (pyIter (.ref it)) Q E s := by
 have rg : ∀ {a b e}, IsRangeIter s.heap it a b e -> wpAny c.M A (pyIter (.ref it)) Q E s := fun x => by
  have hT : s.TypeIs (.ref it) "range_iterator" := ⟨_, x, rfl⟩
  refine wpAny_pyIter_slot hT F.slot_range_iterator_iter (wpAny_call_entry F.slot_range_iterator_iter hT F.entry_range_iterator_iter ?_ (F.args_range_iterator_iter_1 _))
  show wpAny _ _ (ret (.ref it)) _ _ s
  exact wpAny_pure ⟨_, rfl, "range_iterator", _, hT, F.slot_range_iterator_next.lookup, h⟩
 cases st with
 | up cur n => exact rg x
 | down cur n => exact rg x
 | list a i => exact wpAny_pyIter_listiter x h
 | tuple xs =>
  obtain ⟨t, items, i, y, _⟩ := x
  have hT := y.typeIs
  refine wpAny_pyIter_slot hT F.slot_tuple_iterator_iter (wpAny_call_entry F.slot_tuple_iterator_iter hT F.entry_tuple_iterator_iter ?_ (F.args_tuple_iterator_iter_1 _))
  show wpAny _ _ (ret (.ref it)) _ _ s
  exact wpAny_pure ⟨_, rfl, "tuple_iterator", _, hT, F.slot_tuple_iterator_next.lookup, h⟩
 | bytes bs =>
  obtain ⟨b, t, i, y, _⟩ := x
  exact KBw.pyIter_self y h
theorem good_it {n : Nat} {s0 : Shared} {H0 : HH} (g : Good c Z s0 H0 s H) (nb : (s0.heap.get? it).isSome = false) (x : IterAt s.heap it st) (hb : c.hb.get? it = none) (k : ∀ b o, b ≠ it -> s.heap.get? b = some o -> h'.get? b = some o) : Good c Z s0 H0 { s with heap := h', toks := n } H :=
 good_fresh g nb hb (x.out g.rel) k fun o e => by
  obtain ⟨o', vs, e', dd, n1, n2⟩ := x.obj
  rw [e] at e'; cases e'; exact n1
theorem same_keep {b : Addr} {h h' : Heap} (hs : Heap.SameBut b h h') : ∀ x o, x ≠ b -> h.get? x = some o -> h'.get? x = some o := fun x o ne e => (hs.2 x ne).trans e
noncomputable def NxtIs (h : Heap) (it : Addr) (r : Option Value) : Option (MV × ItS) -> Prop
 | none => r = none
 | some (mv, st') => ∃ v, r = some v /\ era v = mv /\ IterAt h it st'
noncomputable def NxtK (c : Cx) (Z : Addr -> Prop) (s0 : Shared) (H0 : HH) (s : Shared) (H : HH) (it : Addr) (n : Option (MV × ItS)) (K : Option Value -> Shared -> Prop) : Prop :=
 ∀ r s', Good c Z s0 H0 s' H -> (∀ b o, b ≠ it -> s.heap.get? b = some o -> s'.heap.get? b = some o) -> NxtIs s'.heap it r n -> K r s'
theorem NxtK.fin {s0 : Shared} {H0 : HH} {n : Option (MV × ItS)} {K : Option Value -> Shared -> Prop} (k : NxtK c Z s0 H0 s H it n K) (g : Good c Z s0 H0 s H) (nb : (s0.heap.get? it).isSome = false) (x : IterAt s.heap it st) (hb : c.hb.get? it = none)
  {r : Option Value} {tk : Nat} (hs : ∀ b o, b ≠ it -> s.heap.get? b = some o -> h'.get? b = some o) (q : NxtIs h' it r n) : K r { s with heap := h', toks := tk } := k _ _ (good_it g nb x hb hs) hs q
theorem pred_cast (k : Nat) : (((k + 1 : Nat) : Int) - 1) = k := by lia
theorem succ_pos' (k : Nat) : (0 : Int) < ((k + 1 : Nat) : Int) := Int.ofNat_lt.mpr (Nat.succ_pos k)
theorem drop_nil {α β : Type} {f : α -> β} {l : Array α} {i : Nat} (q : (l.toList.drop i).map f = []) : l[i]? = none := by
 rw [<- Array.getElem?_toList, List.getElem?_eq_none_iff]
 exact List.drop_eq_nil_iff.mp (List.map_eq_nil_iff.mp q)
theorem drop_cons {α β : Type} {f : α -> β} {l : Array α} {i : Nat} {v : β} {xs : List β} (q : (l.toList.drop i).map f = v :: xs) : ∃ u, l[i]? = some u /\ f u = v /\ (l.toList.drop (i + 1)).map f = xs := by
 cases w : l.toList.drop i with
 | nil => rw [w] at q; cases q
 | cons u us =>
  rw [w, List.map_cons] at q
  injection q with q1 q2
  refine ⟨u, ?_, q1, ?_⟩
  ·rw [<- Array.getElem?_toList]
   have := congrArg (fun l => l[0]?) w
   simpa using this
  ·rw [<- List.drop_drop, w]; exact q2
theorem next_list {s0 : Shared} {H0 : HH} (hh : A.handled = none) (g : Good c Z s0 H0 s H) (nb : (s0.heap.get? it).isSome = false) {a : Addr} {i : Nat} (x : s.heap.IsListIter it a i) (hb : c.hb.get? it = none) {n : Option (MV × ItS)} (e : nextOf H (.list a i) = some n) {K : Option Value -> Shared -> Prop} {E : Value -> Shared -> Prop}
  (k : NxtK c Z s0 H0 s H it n K) : wpAny c.M A (pyNext (.ref it)) K E s := by
 obtain ⟨xs, e1, e2⟩ : ∃ xs, H a = some (.list xs) /\ (match xs[i]? with | some v => some (some (v, ItS.list a (i + 1))) | none => some none) = some n := by
  change (match H a with | some (.list xs) => (match xs[i]? with | some v => some (some (v, ItS.list a (i + 1))) | none => some none) | _ => none) = some n at e
  cases w : H a with
  | none => rw [w] at e; cases e
  | some o => rw [w] at e; cases o with | list xs => exact ⟨xs, rfl, e⟩ | _ => cases e
 obtain ⟨vs, m, f1, rfl⟩ := g.rel.rep _ _ e1
 have hl : s.heap.IsList a vs := ⟨_, f1, rfl, m, rfl⟩
 cases w : (vs.toList.map era)[i]? with
 | some v =>
  rw [w] at e2; cases e2
  obtain ⟨u, e3, e4⟩ := map_get rfl w
  exact wpAny_pyNext_list_item x hl e3 fun h' q hs => k.fin (tk := s.toks) g nb (st := .list a i) x hb (same_keep hs) ⟨u, rfl, e4, q⟩
 | none =>
  rw [w] at e2; cases e2
  rw [List.getElem?_map, Array.getElem?_toList] at w
  exact wpAny_pyNext_list_end hh x hl (Option.map_eq_none_iff.mp w) fun h' hs => k.fin (tk := s.toks) g nb (st := .list a i) x hb hs rfl
theorem next_sound {s0 : Shared} {H0 : HH} (hh : A.handled = none) (g : Good c Z s0 H0 s H) (nb : (s0.heap.get? it).isSome = false) (x : IterAt s.heap it st) (hb : c.hb.get? it = none) {n : Option (MV × ItS)} (e : nextOf H st = some n) {K : Option Value -> Shared -> Prop} {E : Value -> Shared -> Prop}
  (k : NxtK c Z s0 H0 s H it n K) : wpAny c.M A (pyNext (.ref it)) K E s := by
 cases st with
 | up cur m =>
  cases m with
  | zero => cases e; exact wpAny_pyNext_range_end hh x (by decide) fun h' hs => k.fin (tk := s.toks) g nb (st := .up cur 0) x hb hs rfl
  | succ m => cases e; exact wpAny_pyNext_range_item x (succ_pos' m) fun h' q hs => k.fin g nb (st := .up cur (m + 1)) x hb (same_keep hs) ⟨_, rfl, rfl, by rw [pred_cast] at q; exact q⟩
 | down cur m =>
  cases m with
  | zero => cases e; exact wpAny_pyNext_range_end hh x (by decide) fun h' hs => k.fin (tk := s.toks) g nb (st := .down cur 0) x hb hs rfl
  | succ m => cases e; exact wpAny_pyNext_range_item x (succ_pos' m) fun h' q hs => k.fin g nb (st := .down cur (m + 1)) x hb (same_keep hs) ⟨_, rfl, rfl, by rw [pred_cast] at q; exact q⟩
 | list a i => exact next_list hh g nb x hb e k
 | tuple xs =>
  obtain ⟨t, items, i, y, z, q⟩ := id x
  have ne : t ≠ it := fun w => by
   obtain ⟨o, f1, f2, _⟩ := y
   obtain ⟨o', g1, g2, _⟩ := z
   rw [w, f1] at g1; cases g1; rw [f2] at g2; revert g2; decide
  cases xs with
  | nil => cases e; exact wpAny_pyNext_tuple_end hh y z (drop_nil q) fun h' hs => k.fin (tk := s.toks) g nb (st := .tuple []) x hb hs rfl
  | cons v xs =>
   cases e
   obtain ⟨u, e1, e2, e3⟩ := drop_cons q
   exact wpAny_pyNext_tuple_item y z e1 fun h' q' hs => k.fin (tk := s.toks) g nb (st := .tuple (v :: xs)) x hb (same_keep hs) ⟨u, rfl, e2, t, items, i + 1, q', (z.elim fun o z => ⟨o, same_keep hs t o ne z.1, z.2⟩), e3⟩
 | bytes bs =>
  obtain ⟨b, t, i, y, q⟩ := id x
  cases bs with
  | nil => cases e; exact KBw.next_end hh y (drop_nil (f := id) (by rw [q]; rfl)) fun h' hs => k.fin (tk := s.toks) g nb (st := .bytes []) x hb hs rfl
  | cons v xs =>
   cases e
   obtain ⟨u, e1, rfl, e3⟩ := drop_cons (f := id) (l := b) (i := i) (by rw [List.map_id]; exact q)
   rw [List.map_id] at e3
   exact KBw.next_item y e1 fun h' q' hs => k.fin g nb (st := .bytes (u :: xs)) x hb (same_keep hs) ⟨_, rfl, rfl, b, t, i + 1, q', e3⟩
end
section
variable (c : Cx) (d : Nat) (P : Bool)
noncomputable def IS (ns : NS) (e : Expr) (m : IT) : Prop := ∀ (h0 : Heap) (A : Around) (env : Env) (F : FF) (s : Shared) (H : HH) (Q : ItS -> HH -> Prop) (X : QX), Cf c d ns h0 A env F s H -> vIT (Ca c d P) mtab m F H Q X ->
 WG P c Z0 A (eval e env) (fun v s' H' => PI c A v s' H' Q) (XL h0 env X) s H
end
section
variable {c : Cx} {d : Nat} {P : Bool} {ns : NS}
@[elab_as_elim] theorem two_el {P : List Value -> Prop} {vals : List Value} {k : MV -> MV -> Prop} (h : two? (vals.map era) k) (f : ∀ v w, k (era v) (era w) -> P [v, w]) : P vals := by
 cases vals with
 | nil => exact h.elim
 | cons v r => exact one_el (P := fun r => P (v :: r)) h fun w h => f v w h
noncomputable def down? (vs : List MV) (k : Int -> Int -> Prop) : Prop := match vs with | [] => False | v :: r => two? r fun w n => ii v w fun x y => int? n fun z => cond (z == -1) (k x y) False
@[elab_as_elim] theorem down_el {P : List Value -> Prop} {vals : List Value} {k : Int -> Int -> Prop} (h : down? (vals.map era) k) (f : ∀ i t j u w, k i j -> P [.int i t, .int j u, .int (-1) w]) : P vals := by
 cases vals with
 | nil => exact h.elim
 | cons v r =>
  refine two_el (P := fun r => P (v :: r)) h fun w n h => ii_el (P := fun v w => P [v, w, n]) h fun i t j u h => int_el (P := fun n => P [.int i t, .int j u, n]) h fun z w h => ?_
  cases q : z == -1 with
  | false => rw [q] at h; exact h.elim
  | true => rw [q] at h; rw [beq_iff_eq.mp q]; exact f i t j u w h
theorem is_ex {e m} (h : ES c d P ns e m) : IS c d P ns e (.ex m) := fun h0 A env F s H Q X x k K E hK hE => h _ _ _ _ _ _ _ _ x k _ _ (fun v s' H' g q => hK _ _ H' g (iter_sound g.rel q)) hE
theorem pi_range {A : Around} {s : Shared} {H : HH} {Q : ItS -> HH -> Prop} {a b e : Int} {t u v : Tok} {st : ItS} {tk : Nat} (r : Rel c s.heap H) (hs : Builtin.Range.small a b e = true)
  (hi : ∀ h it, IsRangeIter h it a (Builtin.Range.rangeSize a b e) e -> IterAt h it st) (h : Q st H) :
  PI c A (.ref s.heap.objs.size) { s with heap := s.heap.push { cls := .type "range", data := .fields #[.int a t, .int b u, .int e v] }, toks := tk } H Q := fun K E k =>
 wpAny_pyIter_range (IsRange.new ..) hs (k _ st _ (hi _ _ (Heap.get?_push_size _ rfl)) (get?_size _) (good_push (s := { s with heap := s.heap.push _, toks := tk }) (n := tk) (good_push (Z := Z0) (n := tk) r).rel) h)
theorem ns_cons {e : Expr} {es : List Expr} (h : notStar e = true) (h' : es.all notStar = true) : (e :: es).all notStar = true := by rw [List.all_cons, h, h']; rfl
theorem range_call {x : Str} {q p : Pos} {es : List Expr} {l : L} (b : BaseOK c) (hk : ns.lookup x = some .globalImplicit) (hx : x = ("range" : Str)) (hr : es.all notStar = true) (h1 : LS c d P ns es l)
  {h0 : Heap} {A : Around} {env : Env} {F : FF} {s : Shared} {H : HH} {Q : List MV -> HH -> Prop} {R : Value -> Shared -> HH -> Prop} {X : QX} (y : Cf c d ns h0 A env F s H) (k : vL (Ca c d P) mtab l F H Q X)
  (hc : ∀ vs s1 H1, Good c Z0 s H s1 H1 -> Q (vs.map era) H1 -> WT c Z0 A (call (.type "range") vs []) R (XL h0 env X) s1 H1) :
  WG P c Z0 A (eval (.Call (.Name x q) es [] p) env) R (XL h0 env X) s H := fun K E hK hE =>
 wpG.then (m := eval (.Name x q) env) (f := fun f => callWith p f [] (backTo p (starEach es env)) []) (wpAny_Name (range_sound b y hx hk
  (callWithG (plain_args hr env) (h1 _ _ _ _ _ _ _ _ p y k _ _ (fun vs s1 H1 g1 k1 => ⟨⟨.machine, .inr rfl, Looks.of_pure rfl⟩, (hc vs s1 H1 g1 k1.2).fromG g1 hK hE⟩) hE))) (by rw [hx]; decide +kernel))
theorem toNat_if (a b : Int) : (((b - a).toNat : Nat) : Int) = if a < b then b - a else 0 := by split <;> lia
theorem small_up {a b : Int} (h : small a) (h' : small b) : Builtin.Range.small a b 1 = true := by
 obtain ⟨h1, h2⟩ := h
 obtain ⟨h3, h4⟩ := h'
 exact small_one (by lia) h2 (by lia) h4
theorem up_it {i j : Int} (h : Heap) (it : Addr) (q : IsRangeIter h it i (Builtin.Range.rangeSize i j 1) 1) : IterAt h it (.up i (j - i).toNat) := by
 rw [rangeSize_one, <- toNat_if] at q; exact q
theorem down_it {i j : Int} (h : Heap) (it : Addr) (q : IsRangeIter h it i (Builtin.Range.rangeSize i j (-1)) (-1)) : IterAt h it (.down i (i - j).toNat) := by
 rw [rangeSize_neg, <- toNat_if] at q; exact q
theorem is_up1 (b : BaseOK c) {x q hi a p} (hk : ns.lookup x = some .globalImplicit) (hx : x = ("range" : Str)) (n1 : notStar hi = true) (h1 : ES c d P ns hi a) : IS c d P ns (.Call (.Name x q) [hi] [] p) (.up (.int 0) a) := by
 intro h0 A env F s H Q X y k
 refine range_call b hk hx (ns_cons n1 rfl) (ls_cons (not_starred n1 _) h1 ls_nil) (Q := fun vs H1 => one? vs fun b => int? b fun y => small 0 /\ small y /\ Q (.up 0 (y - 0).toNat) H1) y k fun vs s1 H1 g1 k1 => ?_
 exact one_el k1 fun v k1 => int_el k1 fun j t k1 => call_range_1 ⟨H1, (good_push (n := s1.toks + 1 + 1) g1.rel), pi_range g1.rel (small_up k1.1 k1.2.1) up_it k1.2.2⟩
theorem is_up2 (b : BaseOK c) {x q lo hi a e p} (hk : ns.lookup x = some .globalImplicit) (hx : x = ("range" : Str)) (n1 : notStar lo = true) (n2 : notStar hi = true) (h1 : ES c d P ns lo a) (h2 : ES c d P ns hi e) : IS c d P ns (.Call (.Name x q) [lo, hi] [] p) (.up a e) := by
 intro h0 A env F s H Q X y k
 refine range_call b hk hx (ns_cons n1 (ns_cons n2 rfl)) (ls_cons (not_starred n1 _) h1 (ls_cons (not_starred n2 _) h2 ls_nil)) (Q := fun vs H1 => two? vs fun a b => ii a b fun x y => small x /\ small y /\ Q (.up x (y - x).toNat) H1) y k fun vs s1 H1 g1 k1 => ?_
 exact two_el k1 fun v w k1 => ii_el k1 fun i t j u k1 => call_range_2 ⟨H1, (good_push (n := s1.toks + 1) g1.rel), pi_range g1.rel (small_up k1.1 k1.2.1) up_it k1.2.2⟩
theorem is_down (b : BaseOK c) {x q lo hi a e p p1 p2 kk} (hk : ns.lookup x = some .globalImplicit) (hx : x = ("range" : Str)) (n1 : notStar lo = true) (n2 : notStar hi = true) (h1 : ES c d P ns lo a) (h2 : ES c d P ns hi e) :
  IS c d P ns (.Call (.Name x q) [lo, hi, .UnaryOp .USub (.Constant (.int 1) kk p1) p2] [] p) (.down a e) := by
 intro h0 A env F s H Q X y k
 refine range_call b hk hx (ns_cons n1 (ns_cons n2 rfl)) (ls_cons (not_starred n1 _) h1 (ls_cons (not_starred n2 _) h2 (ls_cons (not_starred rfl _) (es_neg es_int) ls_nil)))
  (Q := fun vs H1 => down? vs fun x y => small x /\ small y /\ Q (.down x (x - y).toNat) H1) y k fun vs s1 H1 g1 k1 => ?_
 exact down_el k1 fun i t j u w k1 => call_range_3 ⟨H1, (good_push (n := s1.toks) g1.rel), pi_range (tk := s1.toks) g1.rel (small_neg k1.1.1 k1.1.2 k1.2.1.1 k1.2.1.2) down_it k1.2.2⟩
end
end
section
open PyProof.Rows
section
variable {c : Cx} {d : Nat} {P : Bool} {ns : NS} {h0 h h' : Heap} {A : Around} {env e0 : Env} {l : List Env} {F : FF} {s s1 s' : Shared} {H H1 H' : HH} {Q : QE} {X : QX} {Z : Addr -> Prop}
theorem frameOf_same (h : env.frame = e0.frame) : PySem.frameOf env = PySem.frameOf e0 := by unfold PySem.frameOf; rw [h]
theorem good_slots (r : Rel c s.heap H) {S : List Addr} (hs : Heap.SlotsOnly S s.heap h') (hS : ∀ b ∈ S, Out H b /\ c.hb.get? b = none /\ FrmAt s.heap b) : Good c Z s H { s with heap := h' } H := by
 have same : ∀ b o, b ∉ S -> s.heap.get? b = some o -> h'.get? b = some o := fun b o q e => (hs.2.1 b q).trans e
 have im : ∀ b o, s.heap.get? b = some o -> o.cls = .type "tuple" -> h'.get? b = some o := fun b o e t => same b o (fun q => by
  refine ch fun g_ h_ => ?_
  obtain ⟨_, _, o', e', f, _⟩ := hS b q
  refine h_ ?_
  rw [e] at e'; cases e'; rw [t] at f; revert f; decide) e
 refine ⟨⟨fun b o e => same b o (fun q => by rw [(hS b q).2.1] at e; cases e) (r.base b o e), fun a o e => (r.rep a o e).keep (fun o' => same a o' fun q => ?_) (fun C dd fs w o' => same dd o' fun q => ?_) im, r.new, r.dnew, r.inj⟩,
  fun b o z e q => ?_, fun b o z e q => q, fun b e => ?_, im, fun b ⟨o, e, f⟩ q => ⟨?_, q⟩, rfl, rfl⟩
 ·have := (hS a q).1.1; rw [e] at this; cases this
 ·subst w; exact (hS dd q).1.2 _ _ _ e
 ·by_cases w : b ∈ S
  ·refine ch fun g_ h_ => ?_
   obtain ⟨sl, e'⟩ := hs.2.2 b o e
   obtain ⟨_, _, o', e'', f, _⟩ := hS b w
   refine h_ ?_
   rw [e] at e''; cases e''
   exact ⟨sl, e', fun n => absurd f n⟩
  ·exact .refl (same b o w e)
 ·refine ch fun g_ h_ => ?_
  obtain ⟨o, e⟩ := Option.isSome_iff_exists.mp e
  obtain ⟨sl, e'⟩ := hs.2.2 b o e
  refine h_ ?_
  show (h'.get? b).isSome = true
  rw [e']; rfl
 ·obtain ⟨sl, e'⟩ := hs.2.2 b o e
  exact ⟨_, e', f⟩
theorem Noted.xl {e : Value} (x : Noted h0 env X e s' H') : XL h0 env X e s' H' := by
 refine ch fun g_ h_ => ?_
 obtain ⟨a, C, L, e1, e2, e3, e4⟩ := x
 refine h_ ?_
 exact ⟨a, C, _, e1, e3, .inr (.inr ⟨L, e2, rfl⟩), e4⟩
theorem ExcAt.from {a C : Addr} {tr : Option Value} (k : ∀ b, (h0.get? b).isSome = true -> (h.get? b).isSome = true) (x : ExcAt h h' a C tr) : ExcAt h0 h' a C tr := by
 have nn : ∀ b, (h.get? b).isSome = false -> (h0.get? b).isSome = false := fun b hb => by
  cases q : (h0.get? b).isSome with
  | false => rfl
  | true => rw [k b q] at hb; cases hb
 refine ch fun g_ h_ => ?_
 obtain ⟨n, oe, vs, x, e2, e3, e4, e5, e6⟩ := x
 refine h_ ?_
 refine ⟨nn a n, oe, vs, x, e2, e3, e4, e5, ?_⟩
 cases tr with
 | none => exact e6
 | some fl => obtain ⟨T, oT, ts, f1, f2, f3⟩ := e6; exact ⟨T, oT, ts, f1, nn T f2, f3⟩
theorem XL.from {e : Value} (k : ∀ b, (h0.get? b).isSome = true -> (h.get? b).isSome = true) (x : XL h env X e s' H') : XL h0 env X e s' H' := by
 refine ch fun g_ h_ => ?_
 obtain ⟨a, C, tr, e1, e2, e3⟩ := x
 refine h_ ?_
 exact ⟨a, C, tr, e1, e2.from k, e3⟩
theorem Noted.from {e : Value} (k : ∀ b, (h0.get? b).isSome = true -> (h.get? b).isSome = true) (x : Noted h env X e s' H') : Noted h0 env X e s' H' := by
 refine ch fun g_ h_ => ?_
 obtain ⟨a, C, L, e1, e2, e3, e4⟩ := x
 refine h_ ?_
 exact ⟨a, C, L, e1, e2, e3.from k, e4⟩
noncomputable def KeepNF (h h' : Heap) : Prop := ∀ b o, h.get? b = some o -> (∀ vs, o.data ≠ .fields vs) -> ∃ sl, h'.get? b = some { o with slots := sl }
theorem KeepNF.refl : KeepNF h h := fun b o e _ => ⟨o.slots, e⟩
theorem KeepNF.trans {h2 : Heap} (x : KeepNF h h') (y : KeepNF h' h2) : KeepNF h h2 := fun b o e n => let ⟨sl, e1⟩ := x b o e n; let ⟨sl2, e2⟩ := y b _ e1 n; ⟨sl2, e2⟩
theorem KeepNF.but {a : Addr} {oa : Obj} {vs : Array Value} (e : h.get? a = some oa) (dd : oa.data = .fields vs) (k : ∀ x o, x ≠ a -> h.get? x = some o -> h'.get? x = some o) : KeepNF h h' := fun b o e' n =>
 ⟨o.slots, k b o (fun q => by rw [q, e] at e'; cases e'; exact n vs dd) e'⟩
theorem LocOK.nf (x : LocOK env h H) (k : KeepNF h h') : LocOK env h' H := by
 refine ch fun g_ h_ => ?_
 obtain ⟨⟨m, o, es, ep, e, dd, r⟩, x2, x3⟩ := x
 obtain ⟨sl, e'⟩ := k _ o e fun vs q => by rw [dd] at q; cases q
 refine h_ ?_
 exact ⟨⟨m, _, es, ep, e', dd, r⟩, x2, fun o' q => by rw [e'] at q; cases q; exact x3 o e⟩
theorem entry_sound {a C L : Addr} {oe : Obj} {vs : Array Value} {x head : Value} {hn : Bool} {E : Value -> Shared -> Prop} (r : Rel c s.heap H) (g : Good c Z s H s1 H1) (f1 : A.frames = some (e0 :: l)) (f2 : StkOK c (e0 :: l) s1.heap H1) (hf : env.frame = e0.frame) (hL : e0.frame = some L)
  (n1 : (s.heap.get? a).isSome = false) (he : s1.heap.get? a = some oe) (hc : oe.cls = .ref C) (hd : oe.data = .fields vs) (h0 : vs[0]? = some x) (h1 : 1 < vs.size) :
  wpAny c.M A (do let fr <- PySem.frameOf env; let pl <- entryPlaceOf L hn; let b <- EntryCells.newEntry head fr .none (rawInt L) .none pl; setField (.ref a) 1 b)
   (fun _ s2 => Good c Z s H s2 H1 /\ ExcAt s.heap s2.heap a C (some (rawInt L)) /\ KeepNF s1.heap s2.heap) E s1 := by
 rw [frameOf_same hf]
 have fm : ∀ b ∈ (e0 :: l).filterMap (·.frame), Out H1 b /\ c.hb.get? b = none /\ FrmAt s1.heap b := fun b hb => by
  refine ch fun g_ h_ => ?_
  obtain ⟨env', he', hb'⟩ := List.mem_filterMap.mp hb
  obtain ⟨_, L', q1, q2, q3, q4⟩ := f2 env' he'
  refine h_ ?_
  rw [q1] at hb'; cases hb'
  exact ⟨q4, q2, q3⟩
 refine wpAny_bind (wpAny_frameOf_fun f1 f2.frames hL fun h₁ hs₁ => ?_)
 refine wpAny_bind (wpAny_entryPlaceOf fun pl hpl => ?_)
 unfold EntryCells.newEntry newFields
 refine wpAny_bind (wpAny_newObj_type ?_ (hpl.sizeOk5 _ _ _ _ _))
 have g1 : Good c Z s H { s1 with heap := h₁ } H1 := g.trans (good_slots g.rel hs₁ fm)
 have he₁ : h₁.get? a = some oe := (hs₁.2.1 a fun hm => by
  refine ch fun g_ h_ => ?_
  obtain ⟨_, _, o, e, f, _⟩ := fm a hm
  refine h_ ?_
  rw [he] at e; cases e; rw [hc] at f; cases f).trans he
 have he₂ := Heap.get?_push_of_some (h := h₁) { cls := .type "traceback", dict := none, data := .fields ([head, .ref L, .none, rawInt L, .none] ++ (if pl.isEmpty then List.replicate 6 Value.none else pl)).toArray } he₁
 have g2 := g1.trans (good_push (o := { cls := .type "traceback", dict := none, data := .fields ([head, .ref L, .none, rawInt L, .none] ++ (if pl.isEmpty then List.replicate 6 Value.none else pl)).toArray }) (n := s1.toks) g1.rel)
 refine wpAny_setField he₂ hd h1 ⟨?_, ?_, ?_⟩
 ·refine good_fresh (n := s1.toks) g2 n1 (r.newb (by cases q : s.heap.get? a with | none => rfl | some o => rw [q] at n1; cases n1)) (g2.rel.outFields he₂ hd) (fun y o ne e => (Heap.get?_update_other _ _ (Ne.symm ne)).trans e) fun o e => ?_
  have := he₂.symm.trans e
  cases this; rw [hc]; intro z; cases z
 ·have hTe : h₁.objs.size ≠ a := Nat.ne_of_gt (Heap.lt_size he₁)
  have hd₃ := Obj.data_mapFields hd (·.setIfInBounds 1 (Value.ref h₁.objs.size))
  have he₃ := Heap.get?_update_self (Obj.mapFields (·.setIfInBounds 1 (Value.ref h₁.objs.size))) he₂ (Obj.isFreed_of_fields hd₃)
  have nT : (s.heap.get? h₁.objs.size).isSome = false := by
   cases q : (s.heap.get? h₁.objs.size).isSome with
   | false => rfl
   | true =>
    obtain ⟨o, e⟩ := Option.isSome_iff_exists.mp q
    have := g1.live _ q
    rw [show h₁.get? h₁.objs.size = none from get?_size _] at this; cases this
  refine ⟨n1, _, _, x, he₃, (Obj.cls_mapFields _ _).trans hc, hd₃, ?_, h₁.objs.size, _, _, ?_, nT, hTe, (Heap.get?_update_other _ _ (Ne.symm hTe)).trans (Heap.get?_push_size h₁ rfl), rfl, ?_, ne_type (by decide)⟩
  ·simp [h0]
  ·simp [h1]
  ·simp
 ·have ne : ∀ x o, x ≠ a -> (h₁.push { cls := .type "traceback", dict := none, data := .fields ([head, .ref L, .none, rawInt L, .none] ++ (if pl.isEmpty then List.replicate 6 Value.none else pl)).toArray }).get? x = some o -> _ :=
   fun x o ne e => (Heap.get?_update_other _ (Obj.mapFields (·.setIfInBounds 1 (Value.ref h₁.objs.size))) (Ne.symm ne)).trans e
  exact (show KeepNF s1.heap h₁ from fun b o e n => hs₁.2.2 b o e).trans ((show KeepNF h₁ _ from fun b o e n => ⟨o.slots, Heap.get?_push_of_some _ e⟩).trans (.but he₂ hd ne))
theorem note_sound {e : Value} {E : Value -> Shared -> Prop} (r : Rel c s.heap H) (g : Good c Z s H s1 H1) (f1 : A.frames = some (e0 :: l)) (f2 : StkOK c (e0 :: l) s1.heap H1) (hf : env.frame = e0.frame) (x : XL s.heap env X e s1 H1) :
    wpAny c.M A (noteFrame e env) (fun _ s2 => Good c Z s H s2 H1 /\ Noted s.heap env X e s2 H1 /\ KeepNF s1.heap s2.heap) E s1 := by
  refine ch fun G hG => ?_
  obtain ⟨a, C, tr, rfl, ⟨n1, oe, vs, v0, he, hc, hd, h0, htr⟩, hcase, hX⟩ := x
  refine ch fun g_ h_ => ?_
  obtain ⟨_, L, hL, _⟩ := f2 e0 (.head _)
  refine h_ ?_
  have hfe : env.frame = some L := hf.trans hL
  have ent : ∀ {s2 : Shared} {oe : Obj} {vs : Array Value} {x head : Value} {hn : Bool}, Good c Z s H s2 H1 -> StkOK c (e0 :: l) s2.heap H1 -> s2.heap.get? a = some oe -> oe.cls = .ref C -> oe.data = .fields vs -> vs[0]? = some x -> 1 < vs.size ->
      wpAny c.M A (do let fr <- PySem.frameOf env; let pl <- entryPlaceOf L hn; let b <- EntryCells.newEntry head fr .none (rawInt L) .none pl; setField (.ref a) 1 b) (fun _ s3 => Good c Z s H s3 H1 /\ Noted s.heap env X (.ref a) s3 H1 /\ KeepNF s2.heap s3.heap) E s2 := fun g' f' he' hc' hd' h0' h1' =>
    wpAny_mono (entry_sound r g' f1 f' hf hL n1 he' hc' hd' h0' h1') (fun _ s3 ⟨k1, k2, k3⟩ => ⟨k1, ⟨a, C, L, rfl, hfe, k2, hX⟩, k3⟩) fun _ _ k => k
  refine hG ?_
  unfold noteFrame
  rw [hfe]
  cases tr with
  | none =>
    refine wpAny_bind (wpAny_field he hd htr ?_)
    rw [if_neg (by decide)]
    exact ent g f2 he hc hd h0 (Array.getElem?_eq_some_iff.mp htr).1
  | some fl =>
    refine ch fun G hG => ?_
    obtain ⟨T, oT, ts, h1, nT, hTe, hT, hdT, h3, hct⟩ := htr
    refine hG ?_
    refine wpAny_bind (wpAny_field he hd h1 ?_)
    rw [if_pos (show (Value.ref T != Value.none) = true from by simp)]
    refine wpAny_bind (wpAny_field hT hdT h3 ?_)
    rcases hcase with q | q | ⟨L', q1, q2⟩
    · cases q
    · cases q
      rw [if_neg (show ¬ ((Value.none == rawInt L) = true) from by simp [rawInt])]
      refine wpAny_bind (wpAny_setField hT hdT (Array.getElem?_eq_some_iff.mp h3).1 ?_)
      have g2 : Good c Z s H { s1 with heap := s1.heap.update T (Obj.mapFields (·.setIfInBounds 3 Value.none)) } H1 :=
        good_fresh (n := s1.toks) g nT (r.newb (by cases q : s.heap.get? T with | none => rfl | some o => rw [q] at nT; cases nT)) (g.rel.outFields hT hdT) (fun y o ne e => (Heap.get?_update_other _ _ (Ne.symm ne)).trans e) fun o e => by rw [hT] at e; cases e; exact hct
      refine wpAny_mono (ent g2 ?_ ((Heap.get?_update_other _ _ hTe).trans he) hc hd h0 (Array.getElem?_eq_some_iff.mp h1).1) (fun _ s3 ⟨k1, k2, k3⟩ => ⟨k1, k2, (KeepNF.but hT hdT fun y o ne e => (Heap.get?_update_other _ _ (Ne.symm ne)).trans e).trans k3⟩) fun _ _ k => k
      intro en hen
      refine ch fun g_ h_ => ?_
      obtain ⟨k1, L', k2, k3, ⟨o, k4, k5⟩, k6⟩ := f2 en hen
      refine h_ ?_
      refine ⟨k1, L', k2, k3, ⟨o, ?_, k5⟩, k6⟩
      refine (Heap.get?_update_other _ _ fun w => ?_).trans k4
      rw [w, k4] at hT; cases hT
      refine ch fun g_ h_ => ?_
      obtain ⟨_, es, n, k7⟩ := k5
      refine h_ ?_
      rw [hdT] at k7; cases k7
    · cases q2
      rw [hfe] at q1; cases q1
      rw [if_pos (by simp)]
      exact wpAny_pure ⟨g, ⟨a, C, L, rfl, hfe, ⟨n1, oe, vs, v0, he, hc, hd, h0, T, oT, ts, h1, nT, hTe, hT, hdT, h3, hct⟩, hX⟩, .refl⟩
theorem flight_sound {a C : Addr} {fl : Value} {fr : Option Addr} {E : Value -> Shared -> Prop} (r : Rel c s.heap H) (g : Good c Z s H s1 H1) (x : ExcAt s.heap s1.heap a C (some fl)) :
  wpAny c.M A (setFlight (.ref a) fr) (fun _ s2 => Good c Z s H s2 H1 /\ ExcAt s.heap s2.heap a C (some (fr.elim .none fun f => rawInt f)) /\ KeepNF s1.heap s2.heap) E s1 := by
 refine ch fun g_ h_ => ?_
 obtain ⟨n1, oe, vs, v0, he, hc, hd, h0, T, oT, ts, h1, nT, hTe, hT, hdT, h3, hct⟩ := x
 refine h_ ?_
 unfold setFlight
 refine wpAny_bind (wpAny_field he hd h1 ?_)
 rw [if_pos (show (Value.ref T != Value.none) = true from by simp)]
 refine wpAny_setField hT hdT (Array.getElem?_eq_some_iff.mp h3).1 ⟨?_, ?_, .but hT hdT fun y o ne e => (Heap.get?_update_other _ _ (Ne.symm ne)).trans e⟩
 ·exact good_fresh (n := s1.toks) g nT (r.newb (by cases q : s.heap.get? T with | none => rfl | some o => rw [q] at nT; cases nT)) (g.rel.outFields hT hdT) (fun y o ne e => (Heap.get?_update_other _ _ (Ne.symm ne)).trans e) fun o e => by rw [hT] at e; cases e; exact hct
 ·exact ⟨n1, oe, vs, v0, (Heap.get?_update_other _ _ hTe).trans he, hc, hd, h0, T, _, _, h1, nT, hTe, Heap.get?_update_self _ hT (Obj.isFreed_of_fields (Obj.data_mapFields hdT _)), Obj.data_mapFields hdT _, by
   have := (Array.getElem?_eq_some_iff.mp h3).1
   simp [this], (by rw [Obj.cls_mapFields]; exact hct)⟩
theorem has_trace {a C : Addr} {fl : Value} {Q : Value -> Shared -> Prop} {E : Value -> Shared -> Prop} (x : ExcAt h0 s1.heap a C (some fl)) (h : ∀ T, Q (.ref T) s1) : wpAny c.M A (field (.ref a) 1) Q E s1 := by
 refine ch fun g_ h_ => ?_
 obtain ⟨n1, oe, vs, v0, he, hc, hd, h0, T, oT, ts, h1, _⟩ := x
 refine h_ ?_
 exact wpAny_field he hd h1 (h T)
theorem leave_sound {e : Value} {E : Value -> Shared -> Prop} (r : Rel c s.heap H) (g : Good c Z s H s1 H1) (f1 : A.frames = some (e0 :: l)) (f2 : StkOK c (e0 :: l) s1.heap H1) (hf : env.frame = e0.frame) (x : XL s.heap env X e s1 H1) :
  wpAny c.M A (leaving env e) (fun _ s2 => Good c Z s H s2 H1 /\ XF s.heap X e s2 H1) E s1 := by
 unfold leaving
 refine wpAny_bind (wpAny_mono (note_sound r g f1 f2 hf x) (fun _ s2 ⟨g2, ⟨a, C, L, e1, e2, e3, e4⟩, _⟩ => ?_) fun _ _ k => k)
 subst e1
 exact wpAny_mono (flight_sound r g2 e3) (fun _ s3 ⟨g3, k, _⟩ => ⟨g3, a, C, rfl, k, e4⟩) fun _ _ k => k
theorem own_sound {e : Value} {E : Value -> Shared -> Prop} {w : String} {R : Unit -> Shared -> Prop} (r : Rel c s.heap H) (g : Good c Z s H s1 H1) (x : Noted s.heap env X e s1 H1) (h : ∀ s2, Good c Z s H s2 H1 -> Noted s.heap env X e s2 H1 -> KeepNF s1.heap s2.heap -> R () s2) :
    wpAny c.M A (do
      if (<- field e 1) == .none then unsupported w
      setFlight e env.frame) R E s1 := by
  obtain ⟨a, C, L, rfl, e2, e3, e4⟩ := x
  refine wpAny_bind (has_trace e3 fun T => ?_)
  rw [if_neg (show ¬ ((Value.ref T == Value.none) = true) from by simp)]
  refine wpAny_mono (flight_sound r g e3) (fun _ s3 ⟨g3, k, kn⟩ => h s3 g3 ?_ kn) fun _ _ k => k
  rw [e2] at k
  exact ⟨a, C, L, rfl, e2, k, e4⟩
theorem pass_sound {α : Type} {e : Value} {w : String} {R : α -> Shared -> Prop} {E : Value -> Shared -> Prop} (r : Rel c s.heap H) (g : Good c Z s H s1 H1) (x : Noted s.heap env X e s1 H1) (h : ∀ s2, Good c Z s H s2 H1 -> Noted s.heap env X e s2 H1 -> E e s2) :
  wpAny c.M A (PySem.passOn w e env : Sem α) R E s1 := by
 obtain ⟨a, C, L, rfl, e2, e3, e4⟩ := x
 unfold PySem.passOn
 refine wpAny_bind (has_trace e3 fun T => ?_)
 rw [if_neg (show ¬ ((Value.ref T == Value.none) = true) from by simp)]
 refine wpAny_bind (wpAny_mono (flight_sound r g e3) (fun _ s3 ⟨g3, k, _⟩ => wpAny_throw (h s3 g3 ?_)) fun _ _ k => k)
 rw [e2] at k
 exact ⟨a, C, L, rfl, e2, k, e4⟩
end
end
section
open PyProof.Rows
section
variable {M : Model} {A : Around} {E : Value -> Shared -> Prop} {s : Shared}
theorem putName_shape {o : Obj} {es : Array DictEntry} {ep : Nat} (hd : o.data = .dict es ep) (name : Str) (h : Int) (key v : Value) : ∃ es' ep', o.putName name h key v = { o with data := .dict es' ep' } := by
 obtain ⟨c, d, dt, sl⟩ := o
 subst hd
 unfold Obj.putName
 dsimp only
 generalize nsPutIn _ _ _ _ = q
 obtain ⟨a, b⟩ := q
 cases b <;> exact ⟨_, _, rfl⟩
theorem ns_put {a : Addr} {m} {name : Str} {v : Value} {Q : Unit -> Shared -> Prop} (hn : s.heap.Ns a m)
  (h : ∀ h', h'.Ns a (fun x => if x = name then some v else m x) -> Heap.SameBut a s.heap h' -> (∀ o, s.heap.get? a = some o -> ∃ es n, h'.get? a = some { o with data := .dict es n }) -> Q () { s with heap := h', toks := s.toks + 1 }) :
  wpAny M A (nsSet a name v) Q E s := fun Γ p _ => by
 have lib := Sem.wp_nsSet M Γ (fun _ _ _ => True) p s hn name v (fun _ _ s' => ∃ h', s' = { s with heap := h', toks := s.toks + 1 } /\ h'.Ns a (fun x => if x = name then some v else m x) /\ Heap.SameBut a s.heap h') fun h' k1 k2 => ⟨h', rfl, k1, k2⟩
 refine ch fun g_ h_ => ?_
 obtain ⟨o, es, ep, ho, hd, hk, hm⟩ := id hn
 refine h_ ?_
 have hany : es.any (·.refKey) = false := by
  rw [Array.any_eq_false']; intro e he; obtain ⟨n, t, h⟩ := hk e he; simp [DictEntry.refKey, h]
 simp only [nsSet, strHash, Sem.wp_bind', Sem.wp_cmd_ask, Sem.wp_pure', Sem.wp_cmd_mkText] at lib ⊢
 rw [Sem.wp_loadPart_of M Γ _ p { s with toks := s.toks + 1 } (o := o) _ ho] at lib ⊢
 simp only [hd, aRefKeyMayBeTheName_at, hany, Bool.and_false, Bool.false_eq_true, if_false, Sem.wp_cmd_updatePart] at lib ⊢
 obtain ⟨l1, h', l2, l3, l4⟩ := lib
 refine ⟨l1, ?_⟩
 have e1 := congrArg Shared.heap l2
 dsimp only at e1
 rw [l2]
 refine h h' l3 l4 fun o' ho' => ?_
 rw [ho] at ho'; cases ho'
 rw [<- e1, Heap.get?_update_self _ ho (by
  obtain ⟨es', n', e2⟩ := putName_shape hd name _ _ v
  rw [e2]; rfl)]
 obtain ⟨es', n', e2⟩ := putName_shape hd name _ _ v
 exact ⟨es', n', by rw [e2]⟩
theorem cell_put {a : Addr} {v₀ v : Option Value} {Q : Unit -> Shared -> Prop} (hc : s.heap.IsCell a v₀)
  (h : ∀ h', h'.IsCell a v -> Heap.SameBut a s.heap h' -> (∀ o, s.heap.get? a = some o -> h'.get? a = some { o with data := .cell v }) -> Q () { s with heap := h' }) : wpAny M A (cellSet a v) Q E s := by
 obtain ⟨o, ho, hd⟩ := hc
 unfold cellSet
 refine wpAny_bind (wpAny_load ho ?_)
 rw [hd]
 have e := Heap.get?_update_self (fun o => { o with data := .cell v }) ho rfl
 exact wpAny_update ho (h _ ⟨_, e, rfl⟩ (Heap.SameBut.update ..) fun o' e' => by rw [ho] at e'; cases e'; exact e)
end
set_option tactic.hygienic true in
theorem idx_name : ∀ {ns : NS} {x : Str} {i : Nat}, idx ns x = some i -> ∃ k, ns[i]? = some (x, k)
 | [], _, _, h => by simp [idx] at h
 | (n, k) :: r, x, i, h => by
  unfold idx at h
  rw [List.findIdx?_cons] at h
  split at h
  ·rename_i q
   cases h
   have : n = x := beq_iff_eq.mp q
   exact ⟨k, by simp [this]⟩
  ·cases q : r.findIdx? (fun p => p.1 == x) with
   | none => rw [q] at h; cases h
   | some j =>
    rw [q] at h
    cases h
    obtain ⟨k', e⟩ := idx_name (ns := r) (x := x) q
    exact ⟨k', by simpa using e⟩
theorem idx_inj {ns : NS} {x y : Str} {i : Nat} (h : idx ns x = some i) (h' : idx ns y = some i) : x = y := by
 obtain ⟨k, e⟩ := idx_name h
 obtain ⟨k', e'⟩ := idx_name h'
 rw [e] at e'; cases e'; rfl
theorem idx_lt {ns : NS} {x : Str} {i : Nat} (h : idx ns x = some i) : i < ns.length := by
 obtain ⟨k, e⟩ := idx_name h
 exact (List.getElem?_eq_some_iff.mp e).1
theorem FF.get_put_same {F : FF} {i : Nat} {v : MV} (h : i < F.length) : (F.put i v).get i = some v := by
 simp [FF.get, FF.put, h]
theorem FF.get_put_ne {F : FF} {i j : Nat} {v : MV} (h : j ≠ i) : (F.put i v).get j = F.get j := by
 simp [FF.get, FF.put, List.getElem?_set_ne (Ne.symm h)]
theorem FF.len_put {F : FF} {i : Nat} {v : MV} : (F.put i v).length = F.length := by simp [FF.put]
theorem storedV {k : Option NameKind} (h : stored k = true) : k = some .local \/ k = some .cell := by
 unfold stored at h
 simpa using h
section
variable {c : Cx} {d : Nat} {P : Bool} {ns : NS} {h0 : Heap} {A : Around} {env : Env} {F : FF} {s : Shared} {H : HH} {Q : QE} {X : QX} {Z : Addr -> Prop} {E : Value -> Shared -> Prop}
theorem local_put {x : Str} {i : Nat} {v : Value} (ok : EnvOK env ns) (r : Rel c s.heap H) (f : FrOK c env ns F s.heap H) (hi : idx ns x = some i) (hl : ns.lookup x = some .local) :
  wpAny c.M A (storeName env x v) (fun _ s' => Good c (fun b => b = env.locals) s H s' H /\ FrOK c env ns (F.put i (era v)) s'.heap H) E s := by
 obtain ⟨m, hn, hm⟩ := f.loc
 rw [storeName_local (ok.names.loc x hl) (by rw [ok.kind]; rfl) v]
 obtain ⟨o, es, ep, ho, hd, _⟩ := id hn
 refine ns_put hn fun h' hn' hs hc => ⟨?_, ?_⟩
 ·refine good_Z r rfl f.lnew f.lout (same_keep hs) f.ltup ?_ fun ⟨o', e, q⟩ => ?_
  ·obtain ⟨es', n', e⟩ := hc o ho; exact ⟨_, e⟩
  ·obtain ⟨es', n', e'⟩ := hc o' e; exact ⟨_, e', q.1, es', n', rfl⟩
 ·refine ⟨f.len ▸ FF.len_put, ⟨_, hn', fun j y w hj hy hw => ?_⟩, f.lout, f.lnew, fun o' e' => ?_, fun j y hj hy => ?_, f.cinj⟩
  ·by_cases q : j = i
   ·subst q
    obtain rfl := idx_inj hi hj
    rw [FF.get_put_same (f.len ▸ idx_lt hi)] at hw
    exact ⟨v, by simp, Option.some.inj hw⟩
   ·rw [FF.get_put_ne q] at hw
    obtain ⟨u, e1, e2⟩ := hm j y w hj hy hw
    exact ⟨u, by rw [if_neg (fun z => by subst z; rw [hi] at hj; cases hj; exact q rfl)]; exact e1, e2⟩
  ·obtain ⟨es', n', e⟩ := hc o ho
   rw [e] at e'; cases e'; exact f.ltup o ho
  ·refine ch fun g_ h_ => ?_
   obtain ⟨a, cv, e1, e2, e3, e4, e5, e6⟩ := f.cell j y hj hy
   refine h_ ?_
   have ne : a ≠ env.locals := fun z => by
    obtain ⟨co, f1, f2⟩ := e2
    rw [z, ho] at f1; cases f1; rw [hd] at f2; cases f2
   have q : j ≠ i := fun z => by
    subst z
    obtain rfl := idx_inj hi hj
    rw [hl] at hy; rcases hy with hy | hy <;> cases hy
   refine ⟨a, cv, e1, (let ⟨co, f1, f2⟩ := e2; ⟨co, (hs.2 a ne).trans f1, f2⟩), e3, e4, fun o' e' => e5 o' ((hs.2 a ne).symm.trans e'), fun w hw => e6 w ?_⟩
   rw [FF.get_put_ne q] at hw; exact hw
theorem cell_stored {x : Str} {i : Nat} {v : Value} (ok : EnvOK env ns) (r : Rel c s.heap H) (f : FrOK c env ns F s.heap H) (hi : idx ns x = some i) (hl : ns.lookup x = some .cell) :
  wpAny c.M A (storeName env x v) (fun _ s' => Good c (ZE env) s H s' H /\ FrOK c env ns (F.put i (era v)) s'.heap H) E s := by
 refine ch fun g_ h_ => ?_
 obtain ⟨a, cv, e1, e2, e3, e4, e5, e6⟩ := f.cell i x hi (.inl hl)
 obtain ⟨m, hn, hm⟩ := f.loc
 obtain ⟨co, f1, f2⟩ := id e2
 obtain ⟨lo, les, lep, lho, lhd, lrest⟩ := id hn
 refine h_ ?_
 have ne : env.locals ≠ a := fun z => by
  rw [z, f1] at lho; cases lho; rw [f2] at lhd; cases lhd
 have hkind := ok.names.cell x hl
 unfold storeName
 have nb : (env.kindOf x == some .globalImplicit && env.blockKind != .function) = false := by
  rw [show env.kindOf x = some .cell from hkind]; rfl
 rw [nb, if_neg Bool.false_ne_true, show env.kindOf x = some .cell from hkind]
 dsimp only
 rw [ok.kind, if_neg (by decide)]
 refine wpAny_bind (wpAny_cellOf e1 (cell_put e2 fun h' g1 hs hc => ⟨?_, ?_⟩))
 ·refine good_Z (Z := ZE env) (n := s.toks) r (.inr ⟨x, e1⟩) e4 e3 (same_keep hs) e5 ⟨_, hc co f1⟩ fun ⟨o', e, q⟩ => ?_
  rw [f1] at e; cases e
  obtain ⟨_, es, n, q⟩ := q
  rw [f2] at q; cases q
 ·refine ⟨f.len ▸ FF.len_put, ⟨m, ⟨lo, les, lep, (hs.2 _ ne).trans lho, lhd, lrest⟩, fun j y w hj hy hw => ?_⟩, f.lout, f.lnew, fun o' e' => f.ltup o' ((hs.2 _ ne).symm.trans e'), fun j y hj hy => ?_, f.cinj⟩
  ·have q : j ≠ i := fun z => by
    subst z
    obtain rfl := idx_inj hi hj
    rw [hl] at hy; cases hy
   rw [FF.get_put_ne q] at hw
   exact hm j y w hj hy hw
  ·by_cases q : j = i
   ·subst q
    obtain rfl := idx_inj hi hj
    refine ⟨a, some v, e1, g1, e3, e4, fun o' e' => ?_, fun w hw => ?_⟩
    ·rw [hc co f1] at e'; cases e'; exact e5 co f1
    ·rw [FF.get_put_same (f.len ▸ idx_lt hi)] at hw
     exact ⟨v, rfl, Option.some.inj hw⟩
   ·refine ch fun g_ h_ => ?_
    obtain ⟨a', cv', k1, k2, k3, k4, k5, k6⟩ := f.cell j y hj hy
    refine h_ ?_
    have ne' : a' ≠ a := fun z => by
     subst z
     have := f.cinj x y _ e1 k1
     subst this; rw [hi] at hj; cases hj; exact q rfl
    refine ⟨a', cv', k1, (let ⟨co, f1, f2⟩ := k2; ⟨co, (hs.2 a' ne').trans f1, f2⟩), k3, k4, fun o' e' => k5 o' ((hs.2 a' ne').symm.trans e'), fun w hw => k6 w ?_⟩
    rw [FF.get_put_ne q] at hw; exact hw
theorem name_put {x : Str} {i : Nat} {v : Value} (ok : EnvOK env ns) (r : Rel c s.heap H) (f : FrOK c env ns F s.heap H) (hi : idx ns x = some i) (hl : stored (ns.lookup x) = true) :
  wpAny c.M A (storeName env x v) (fun _ s' => Good c (ZE env) s H s' H /\ FrOK c env ns (F.put i (era v)) s'.heap H) E s := by
 rcases storedV hl with hl | hl
 ·exact wpAny_mono (local_put ok r f hi hl) (fun _ s' ⟨g, q⟩ => ⟨g.weak fun _ _ e => .inl e, q⟩) fun _ _ e => e
 ·exact cell_stored ok r f hi hl
end
end
section
open PyProof.Rows
@[reducible] noncomputable def Clos (env : Env) (names : NS) (acc cl : List (Str × Addr)) : Prop :=
 (∀ x a, cl.lookup x = some a -> env.cells.lookup x = some a) /\ (∀ x a, acc.lookup x = some a -> cl.lookup x = some a) /\ (∀ p ∈ names, p.2 = .free -> cl.lookup p.1 = env.cells.lookup p.1) /\ ∀ x a, cl.lookup x = some a -> (acc.lookup x).isSome = true \/ ∃ p ∈ names, p.1 = x /\ p.2 = .free
theorem closure_go {env : Env} {f : (Str × NameKind) -> List (Str × Addr) -> Sem (ForInStep (List (Str × Addr)))}
    (hf : ∀ n k cs, f (n, k) cs = if (k == NameKind.free) = true then (PySem.cellOf env n >>= fun a => pure (ForInStep.yield ((n, a) :: cs))) else pure (ForInStep.yield cs)) :
    ∀ (names : NS) (acc : List (Str × Addr)), (∀ p ∈ names, p.2 = .free -> ∃ a, env.cells.lookup p.1 = some a) -> (∀ x a, acc.lookup x = some a -> env.cells.lookup x = some a) ->
      ∃ cl, (forIn names acc f : Sem _) = pure cl /\ Clos env names acc cl
  | [], acc, _, h2 => ⟨acc, rfl, h2, fun _ _ h => h, (fun _ h => nomatch h), fun x a h => .inl (by rw [h]; rfl)⟩
  | (n, k) :: r, acc, h1, h2 => by
    have hr := fun p hp => h1 p (List.mem_cons_of_mem _ hp)
    cases hk : (k == NameKind.free) with
    | false =>
      refine ch fun g_ h_ => ?_
      obtain ⟨cl, e1, e2, e3, e4, e5⟩ := closure_go hf r acc hr h2
      refine h_ ?_
      refine ⟨cl, ?_, e2, e3, fun p hp hq => ?_, fun x a h => (e5 x a h).imp id fun ⟨p, hp, q⟩ => ⟨p, .tail _ hp, q⟩⟩
      · rw [List.forIn_cons, hf, hk]; exact e1
      · rcases List.mem_cons.mp hp with rfl | hp
        · rw [show k = .free from hq] at hk; cases hk
        · exact e4 p hp hq
    | true =>
      have hkf : k = .free := by simpa using hk
      obtain ⟨a, ha⟩ := h1 (n, k) (.head _) hkf
      have h2' : ∀ x b, ((n, a) :: acc).lookup x = some b -> env.cells.lookup x = some b := fun x b hb => by
        rw [List.lookup_cons] at hb
        cases q : x == n with
        | true => rw [q] at hb; cases hb; have : x = n := by simpa using q
                  rw [this]; exact ha
        | false => rw [q] at hb; exact h2 x b hb
      refine ch fun g_ h_ => ?_
      obtain ⟨cl, e1, e2, e3, e4, e5⟩ := closure_go hf r ((n, a) :: acc) hr h2'
      refine h_ ?_
      refine ⟨cl, ?_, e2, fun x b hb => ?_, fun p hp hq => ?_, fun x b h => ?_⟩
      · rw [List.forIn_cons, hf, hk]
        unfold PySem.cellOf
        rw [ha]; exact e1
      · refine e3 x b ?_
        rw [List.lookup_cons]
        cases q : x == n with
        | true =>
          have : x = n := by simpa using q
          have := h2 x b hb
          rw [‹x = n›, ha] at this; exact this
        | false => exact hb
      · rcases List.mem_cons.mp hp with rfl | hp
        · rw [ha]; exact e3 n a (by simp)
        · exact e4 p hp hq
      · rcases e5 x b h with w | ⟨p, hp, q⟩
        · rw [List.lookup_cons] at w
          cases q : x == n with
          | true =>
            have hxn : x = n := by simpa using q
            exact .inr ⟨(n, k), .head _, hxn.symm, hkf⟩
          | false => rw [q] at w; exact .inl w
        · exact .inr ⟨p, .tail _ hp, q⟩
theorem closure_ok {env : Env} {scope : Scope} (h : ∀ p ∈ scope.names, p.2 = .free -> ∃ a, env.cells.lookup p.1 = some a) :
  ∃ cl, closureFor scope env = pure cl /\ (∀ x a, cl.lookup x = some a -> env.cells.lookup x = some a) /\ (∀ p ∈ scope.names, p.2 = .free -> cl.lookup p.1 = env.cells.lookup p.1) /\ ∀ x a, cl.lookup x = some a -> ∃ p ∈ scope.names, p.1 = x /\ p.2 = .free := by
 unfold closureFor
 refine ch fun g_ h_ => ?_
 obtain ⟨cl, e1, e2, e3, e4, e5⟩ := closure_go (env := env) (f := fun x r => match x with
  | (name, kind) => if (kind == NameKind.free) = true then (PySem.cellOf env name >>= fun a => pure (ForInStep.yield ((name, a) :: r))) else pure (ForInStep.yield r)) (fun _ _ _ => rfl) scope.names [] h (fun x a e => nomatch e)
 refine h_ ?_
 refine ⟨cl, ?_, e2, e4, fun x a h => (e5 x a h).elim (fun w => nomatch w) id⟩
 rw [show (pure cl : Sem (List (Str × Addr))) = (pure cl >>= fun r => pure r) from rfl, <- e1]
theorem relabel_lookup {env : Env} {x : Str} {k : NameKind} : ∀ {names : NS}, names.lookup x = some k ->
    (names.map fun (n, k) => if (k == NameKind.free && env.scope.kind == .function && env.kindOf n == some .cell) then (n, NameKind.cell) else (n, k)).lookup x =
      some (if (k == NameKind.free && env.scope.kind == .function && env.kindOf x == some .cell) then NameKind.cell else k)
  | [], h => by simp at h
  | (n, k') :: r, h => by
    have ih := @relabel_lookup env x k r
    show List.lookup x ((if (k' == NameKind.free && env.scope.kind == .function && env.kindOf n == some .cell) = true then (n, NameKind.cell) else (n, k')) :: _) = _
    cases hx : x == n with
    | true =>
      have hxn : x = n := by simpa using hx
      simp only [List.lookup_cons, hx] at h
      cases h
      subst hxn
      by_cases hc : (k == NameKind.free && env.scope.kind == .function && env.kindOf x == some .cell) = true
      · rw [if_pos hc, if_pos hc]; simp
      · rw [if_neg hc, if_neg hc]; simp
    | false =>
      simp only [List.lookup_cons, hx] at h
      by_cases hc : (k' == NameKind.free && env.scope.kind == .function && env.kindOf n == some .cell) = true
      · rw [if_pos hc]; simp only [List.lookup_cons, hx]; exact ih h
      · rw [if_neg hc]; simp only [List.lookup_cons, hx]; exact ih h
set_option tactic.hygienic true in
theorem idx_kind : ∀ {ns : NS} {x : Str} {i : Nat}, idx ns x = some i -> ∃ k, ns[i]? = some (x, k) /\ ns.lookup x = some k
  | [], _, _, h => by simp [idx] at h
  | (n, k) :: r, x, i, h => by
    unfold idx at h
    rw [List.findIdx?_cons] at h
    split at h
    · rename_i q
      cases h
      have : n = x := beq_iff_eq.mp q
      exact ⟨k, by simp [this], by simp [this]⟩
    · rename_i q
      cases q' : r.findIdx? (fun p => p.1 == x) with
      | none => rw [q'] at h; cases h
      | some j =>
        rw [q'] at h
        cases h
        obtain ⟨k', e, e2⟩ := idx_kind (ns := r) (x := x) q'
        refine ⟨k', by simpa using e, ?_⟩
        rw [List.lookup_cons]
        have : (x == n) = false := by
          cases w : x == n with
          | false => rfl
          | true => exact absurd (by have : x = n := by simpa using w
                                     simp [this]) q
        rw [this]; exact e2
theorem idx_some {x : Str} : ∀ {ns : NS} {k : NameKind}, ns.lookup x = some k -> ∃ i, idx ns x = some i
  | [], k, h => by simp at h
  | (n, k') :: r, k, h => by
    unfold idx
    rw [List.findIdx?_cons]
    rw [List.lookup_cons] at h
    cases w : x == n with
    | true => exact ⟨0, by have : x = n := by simpa using w
                           simp [this]⟩
    | false =>
      rw [w] at h
      obtain ⟨i, e⟩ := idx_some (ns := r) h
      refine ⟨i + 1, ?_⟩
      rw [if_neg (by intro q; have : n = x := by simpa using q
                     simp [this] at w)]
      show Option.map _ (idx r x) = _
      rw [e]; rfl
section
variable {P : Bool} {M : Model} {A : Around} {E : Value -> Shared -> Prop} {s : Shared} {env : Env}
noncomputable def Gone (L : Addr) (R : Shared -> Prop) (s' : Shared) : Prop := ∃ m, s'.heap.Ns L m /\ ∀ h' m', h'.Ns L m' -> Heap.SameBut L s'.heap h' -> R { s' with heap := h' }
noncomputable def cPost (P : Bool) (M : Model) (A : Around) (use : Option (Value -> Sem Unit)) (Q : Value -> Shared -> Prop) (E : Value -> Shared -> Prop) (acc : Value) (cenv : Env) (r : Result) (s' : Shared) : Prop :=
 match r, use with
 | .ok _, none => Gone cenv.locals (fun s'' => Q acc s'') s'
 | .ok _, some u => wpG P M A (u acc) (fun _ s'' => Gone cenv.locals (fun s3 => Q .none s3) s'') E s'
 | .error x, _ => Gone cenv.locals (fun s'' => wpG P M A (PySem.passOn "comprehension.variables-let-go" x cenv : Sem Value) Q E s'') s'
theorem cPost_err {use : Option (Value -> Sem Unit)} {Q : Value -> Shared -> Prop} {acc x : Value} {ce : Env} (h : cPost P M A use Q E acc ce (.error x) s) : Gone ce.locals (fun s'' => wpG P M A (PySem.passOn "comprehension.variables-let-go" x ce : Sem Value) Q E s'') s := by
 cases use <;> exact h
theorem gone_letGo {ce : Env} {cellsOf : List (Str × NameKind) -> List Value} {vs : List (Str × NameKind)} {R : Shared -> Prop} {Q : Unit -> Shared -> Prop} (hk : ce.scope.kind = .function) (hv : ∀ x ∈ vs, x.2 = .local -> ce.kindOf x.1 = some .local)
  (h : Gone ce.locals R s) (k : ∀ s', R s' -> Q () s') : wpAny M A (comprehension.letGo ce cellsOf vs) Q E s :=
 h.elim fun m h => wpAny_comp_letGo hk vs s m hv h.1 fun h' m' a b => k _ (h.2 h' m' a b)
theorem wpG.standIf {α : Type} {c : Prop} [Decidable c] {pos : Pos} {k : PUnit -> Sem α} {Q : α -> Shared -> Prop} (h : wpG P M A (k ()) Q E s) : wpG P M A (if c then (standAt pos >>= k) else k ()) Q E s := by
 split
 ·exact wpG.then (wpAny_standAt h)
 ·exact h
theorem compG {e : Expr} {scope : Scope} {pos : Pos} {newAcc first : Sem Value} {g : Comprehension} {gs : List Comprehension} {use : Option (Value -> Sem Unit)} {Q : Value -> Shared -> Prop} {cl : List (Str × Addr)}
    (hcl : clausesOf e = g :: gs) (hs : ∀ x, foldedSetIterable g.iter env x = pure x) (hclos : closureFor scope env = pure cl) (hkind : scope.kind = .function)
    (hnames : ∀ x ∈ scope.names, x.2 = .local -> scope.names.lookup x.1 = some .local)
    (h : wpG P M A first (fun x s₁ => wpG P M A (pyIter x) (fun it s₂ => wpG P M A newAcc (fun acc s₃ => wpG P M A (newFunctionEnv scope env.globals cl [] env.qual none .none (some env)) (fun cenv s₄ =>
      codeG P M A (.compStart e 0 it acc { cenv with scope := relabel scope env }) (cPost P M A use Q E acc { cenv with scope := relabel scope env }) s₄) E s₃) E s₂) E s₁) E s) :
    wpG P M A (comprehension e scope env pos newAcc false first use) Q E s := by
  unfold comprehension
  rw [hclos, hcl]
  refine wpG.bind (wpG.mono h (fun x s₁ h₁ => ?_) fun _ _ k => k)
  refine wpG.then (wpAny_standAt (wpG.then (wpAny_of_eq (hs x) ?_)))
  refine wpG.bind (wpG.holding (wpG.mono h₁ (fun it s₂ h₂ => ?_) fun _ _ k => k))
  refine wpG.standIf (wpG.bind (wpG.mono h₂ (fun acc s₃ h₃ => wpG.bind (wpG.pure (wpG.bind (wpG.mono h₃ (fun cenv s₄ h₄ => ?_) fun _ _ k => k)))) fun _ _ k => k))
  dsimp only
  have hv : ∀ x ∈ (scope.names.filter fun x => (x.2 == .local || x.2 == .cell) && x.1 != (".0" : Str)).reverse, x.2 = .local ->
      Env.kindOf { cenv with scope := relabel scope env } x.1 = some .local := fun x hx hl => lookup_relabel_local (hnames x (List.mem_filter.mp (List.mem_reverse.mp hx)).1 hl)
  have hv' : ∀ x ∈ (scope.names.filter fun x => (x.2 == .local || x.2 == .cell) && x.1 != (".0" : Str)).reverse.drop 1 ++ (scope.names.filter fun x => (x.2 == .local || x.2 == .cell) && x.1 != (".0" : Str)).reverse.take 1,
      x.2 = .local -> Env.kindOf { cenv with scope := relabel scope env } x.1 = some .local := fun x hx hl => by
    rcases List.mem_append.mp hx with h1 | h1
    · exact hv x (List.mem_of_mem_drop h1) hl
    · exact hv x (List.mem_of_mem_take h1) hl
  refine wpG.holding (wpG.bind (wpG.attempt (wpG.holding (wpG.run (codeG.mono h₄ fun r s' hr => ?_) (by intro x; cases x)))))
  cases r with
  | ok f =>
    cases use with
    | none => exact wpG.then (wpAny_holding (gone_letGo (ce := { cenv with scope := relabel scope env }) hkind hv hr fun _ h => wpG.pure h))
    | some u => exact wpG.then (wpAny_rule (wpG.bind (wpG.holding (wpG.mono hr (fun _ s'' hr' => wpG.then (gone_letGo (ce := { cenv with scope := relabel scope env }) hkind hv' hr' fun _ h => wpG.pure h)) fun _ _ k => k))))
  | error x => exact wpG.then (wpAny_holding (gone_letGo (ce := { cenv with scope := relabel scope env }) hkind hv (cPost_err hr) fun _ h => h))
theorem comp_env {scope : Scope} {globals : Addr} {cl : List (Str × Addr)} {qual : Str} {Q : Env -> Shared -> Prop} (hc : ∀ x ∈ scope.names, x.2 ≠ .cell)
  (h : Q (newEnv scope s.heap.objs.size globals cl qual none .none (some env) builtinsNs) { s with heap := s.heap.push { cls := .type "dict", data := .dict #[] } }) :
  wpAny M A (newFunctionEnv scope globals cl [] qual none .none (some env)) Q E s := by
 simp only [newFunctionEnv, Option.isSome_some, if_true]
 refine wpAny_bind (wpAny_alloc ?_)
 rw [forIn_yield_id cl (fun x hx c => by
  obtain ⟨name, kind⟩ := x
  have : (kind == NameKind.cell) = false := by simpa using hc _ hx
  simp only [this, Bool.false_eq_true, if_false])]
 exact wpAny_bind (wpAny_pure (wpAny_bind (wpAny_pure (wpAny_pure h))))
end
end
section
open PyProof.Rows
section
variable {c : Cx} {d : Nat} {P : Bool} {ns : NS} {h0 h h' : Heap} {A : Around} {env : Env} {F F' : FF} {s s' s0 : Shared} {H H' H0 : HH} {X : QX} {Z : Addr -> Prop} {it : Addr} {st st' : ItS}
theorem Cf.at (x : Cf c d ns h0 A env F s H) : Cf c d ns s.heap A env F s H := ⟨x.fit, x.eok, x.rel, x.fr, x.stk, fun _ e => e⟩
theorem Cf.from {h1 : Heap} (x : Cf c d ns h0 A env F s H) (k : ∀ b, (h1.get? b).isSome = true -> (s.heap.get? b).isSome = true) : Cf c d ns h1 A env F s H := ⟨x.fit, x.eok, x.rel, x.fr, x.stk, k⟩
theorem Cf.next (x : Cf c d ns h0 A env F s H) (g : Good c Z s H s' H') (f : FrOK c env ns F' s'.heap H') : Cf c d ns h0 A env F' s' H' :=
 ⟨x.fit, x.eok, g.rel, f, let ⟨e0, l, h1, h2, h3⟩ := x.stk; ⟨e0, l, h1, h2.step g, h3⟩, fun b e => g.live b (x.old b e)⟩
theorem FrOK.stepF (f : FrOK c env ns F s.heap H) (g : Good c Z s H s' H') (hz : ∀ b o, Z b -> s.heap.get? b = some o -> ∃ vs, o.data = .fields vs) : FrOK c env ns F s'.heap H' := by
 refine ch fun g_ h_ => ?_
 obtain ⟨m, hn, hm⟩ := f.loc
 obtain ⟨o, es, ep, ho, hd, hk⟩ := hn
 refine h_ ?_
 have nz : ¬ Z env.locals := fun z => by
  obtain ⟨vs, q⟩ := hz _ o z ho
  rw [hd] at q; cases q
 obtain ⟨sl, e, -⟩ := g.kept _ _ nz ho f.lout
 refine ⟨f.len, ⟨m, ⟨_, es, ep, e, hd, hk⟩, hm⟩, g.out _ _ nz ho f.lout, f.lnew, fun o' e' => by rw [e] at e'; cases e'; exact f.ltup o ho, fun i x hi hx => ?_, f.cinj⟩
 refine ch fun g_ h_ => ?_
 obtain ⟨a, cv, h1, ⟨co, h2, h3⟩, h4, h5, h6, h7⟩ := f.cell i x hi hx
 refine h_ ?_
 have na : ¬ Z a := fun z => by
  obtain ⟨vs, q⟩ := hz _ co z h2
  rw [h3] at q; cases q
 obtain ⟨sl', e', -⟩ := g.kept _ _ na h2 h4
 exact ⟨a, cv, h1, ⟨_, e', h3⟩, g.out _ _ na h2 h4, h5, fun o' e2 => by rw [e'] at e2; cases e2; exact h6 co h2, h7⟩
theorem FrOK.locOK (f : FrOK c env ns F h H) : LocOK env h H := let ⟨m, hn, _⟩ := f.loc; ⟨⟨m, hn⟩, f.lout, f.ltup⟩
theorem Good.congr {s1 s2 : Shared} {H1 : HH} (g : Good c Z s H s1 H1) (e : s2.heap = s1.heap) (e1 : s2.gens = s1.gens) (e2 : s2.os = s1.os) : Good c Z s H s2 H1 :=
 ⟨e ▸ g.rel, e ▸ g.kept, g.out, e ▸ g.live, e ▸ g.imm, e ▸ g.frm, e1.trans g.gens, e2.trans g.os⟩
theorem good_next {st st' : ItS} (g : Good c Z s0 H0 s H) (g' : Good c Z s0 H0 s' H) (x : IterAt s.heap it st) (x' : IterAt s'.heap it st') (hb : c.hb.get? it = none) (k : ∀ b o, b ≠ it -> s.heap.get? b = some o -> s'.heap.get? b = some o) :
  Good c (fun b => b = it) s H s' H := by
 refine ch fun g_ h_ => ?_
 obtain ⟨o, vs, e, dd, n1, n2⟩ := x.obj
 obtain ⟨o', vs', e', dd', n1', n2'⟩ := x'.obj
 refine h_ ?_
 refine (good_Z (Z := fun b => b = it) (n := s.toks) (h' := s'.heap) g.rel rfl hb (x.out g.rel) k (fun o1 e1 => ?_) ⟨_, e'⟩ fun ⟨o1, e1, f⟩ => ?_).congr rfl (g'.gens.trans g.gens.symm) (g'.os.trans g.os.symm)
 ·rw [e] at e1; cases e1; exact n1
 ·rw [e] at e1; cases e1; exact absurd f.1 n2
theorem relabel_kind {scope : Scope} {x : Str} {k : NameKind} (h : scope.names.lookup x = some k) : (relabel scope env).names.lookup x = some (if (k == NameKind.free && env.scope.kind == .function && env.kindOf x == some .cell) then NameKind.cell else k) := relabel_lookup h
theorem start_G {gens : List Comprehension} {elt : Expr} {sc : Scope} {p : Pos} {depth : Nat} {t : Expr} {it0 : Expr} {acc : Value} {R : Result -> Shared -> Prop} (hg : gens[depth]? = some ⟨t, it0, [], 0⟩) (hit : IterAt s.heap it st)
  (h : codeG P c.M A (.compLoop (.ListComp elt gens sc p) depth (.ref it) acc env) R s) : codeG P c.M A (.compStart (.ListComp elt gens sc p) depth (.ref it) acc env) R s := by
 refine codeG.tree rfl ?_
 show wpG P c.M A ((compStart (.ListComp elt gens sc p) depth (.ref it) acc env).onRaise (fun x => do noteFrame x env; standAt theWindowsPlace)) _ _ s
 refine wpG.onRaise ?_
 unfold compStart
 rw [show clausesOf (.ListComp elt gens sc p) = gens from rfl, hg]
 show wpG _ _ _ (ask >>= _) _ _ s
 refine wpG.then (wpAny_askSetting (wpG.ite ?_))
 split
 ·exact wpG.pure ⟨rfl, h⟩
 ·exact wpG.then (wpAny_rule (wpG.then (wpAny_standAt (wpG.then (self_sound hit (wpG.pure ⟨rfl, h⟩))))))
theorem gone_good {L : Addr} (g : Good c (fun b => b = L) s H s' H') (r : Rel c s.heap H) (nL : (s.heap.get? L).isSome = false) (lo : (∃ m, s'.heap.Ns L m) /\ Out H' L /\ ∀ o, s'.heap.get? L = some o -> o.cls ≠ .type "tuple") (hs : Heap.SameBut L s'.heap h') :
  Good c Z0 s H { s' with heap := h' } H' :=
 good_fresh (n := s'.toks) (g.weak fun b e w => by rw [w, nL] at e; cases e) nL (r.newb (by cases q : s.heap.get? L with | none => rfl | some o => rw [q] at nL; cases nL)) lo.2.1 (same_keep hs) lo.2.2
theorem Noted.gone {L : Addr} {e : Value} (x : Noted h0 env X e s' H') (lo : ∃ m, s'.heap.Ns L m) (hs : Heap.SameBut L s'.heap h') : Noted h0 env X e { s' with heap := h' } H' := by
 refine ch fun g_ h_ => ?_
 obtain ⟨a, C, Lf, e1, e2, ⟨n1, oe, vs, v0, f1, f2, f3, f4, T, oT, ts, f5, f6, f7, f8, f9, f10⟩, e4⟩ := x
 obtain ⟨m, o, es, ep, l1, l2, _⟩ := lo
 refine h_ ?_
 have ne : ∀ b o' us, s'.heap.get? b = some o' -> o'.data = .fields us -> b ≠ L := fun b o' us q1 q2 w => by
  rw [w, l1] at q1; cases q1; rw [l2] at q2; cases q2
 exact ⟨a, C, Lf, e1, e2, ⟨n1, oe, vs, v0, (hs.2 a (ne a oe vs f1 f3)).trans f1, f2, f3, f4, T, oT, ts, f5, f6, f7, (hs.2 T (ne T oT ts f8 f9)).trans f8, f9, f10⟩, e4⟩
structure CompN (ns : NS) (sc : Scope) : Prop where
 kind : sc.kind = .function
 noc : ∀ z ∈ sc.names, z.2 ≠ .cell
 fre : ∀ z ∈ sc.names, z.2 = .free -> ∃ j, idx ns z.1 = some j /\ (ns.lookup z.1 = some .cell \/ ns.lookup z.1 = some .free)
 look : ∀ z ∈ sc.names, sc.names.lookup z.1 = some z.2
theorem compN_of {sc : Scope} (hc : compOk ns sc = true) : CompN ns sc := by
 unfold compOk at hc
 simp only [Bool.and_eq_true, List.all_eq_true, beq_iff_eq, Bool.or_eq_true] at hc
 obtain ⟨⟨hk, hn⟩, hl⟩ := hc
 refine ⟨hk, fun z hz w => ?_, fun z hz w => ?_, hl⟩
 ·rcases hn z hz with (q | q) | q
  ·rw [w] at q; cases q
  ·rw [w] at q; cases q
  ·rw [w] at q; cases q.1
 ·rcases hn z hz with (q | q) | q
  ·rw [w] at q; cases q
  ·rw [w] at q; cases q
  ·exact q.2.elim (fun q => (idx_some q).imp fun _ e => ⟨e, .inl q⟩) fun q => (idx_some q).imp fun _ e => ⟨e, .inr q⟩
theorem mapF_at {sc : Scope} {j : Nat} {x : Str} {k : NameKind} (h : sc.names[j]? = some (x, k)) : (mapF F (mapOf ns sc.names)).get j = if k = .free then (idx ns x).bind F.get else none := by
 simp only [FF.get, mapF, mapOf, List.getElem?_map, h, Option.map_some, Option.join_some]
 by_cases q : k = .free
 ·rw [if_pos q, if_pos q]
 ·rw [if_neg q, if_neg q]; rfl
theorem comp_frame {sc : Scope} {cl : List (Str × Addr)} {L : Addr} (n : CompN ns sc) (y : Cf c d ns h0 A env F s H) (gg : Good c Z0 s H s' H') (f4 : FrOK c env ns F s'.heap H') (c2 : ∀ x a, cl.lookup x = some a -> env.cells.lookup x = some a)
  (c3 : ∀ p ∈ sc.names, p.2 = .free -> cl.lookup p.1 = env.cells.lookup p.1) (c4 : ∀ x a, cl.lookup x = some a -> ∃ p ∈ sc.names, p.1 = x /\ p.2 = .free)
  (hn : s'.heap.Ns L fun _ => none) (ho : Out H' L) (hb : c.hb.get? L = none) (ht : ∀ o, s'.heap.get? L = some o -> o.cls ≠ .type "tuple") : Cf c d sc.names s.heap A (compEnvC sc cl L env) (mapF F (mapOf ns sc.names)) s' H' := by
 refine ⟨y.fit, ⟨n.kind, ⟨fun z w => ?_, fun z w => ?_, fun z w => ?_, fun z w => ?_⟩, y.eok.glob, y.eok.blt, fun z a hz => ?_⟩, gg.rel, ⟨by simp only [mapF, mapOf, List.length_map], ⟨fun _ => none, hn, fun j z w e1 e2 e3 => ?_⟩, ho, hb, ht, fun j z e1 e2 => ?_, fun z1 z2 b e1 e2 => y.fr.cinj z1 z2 b (c2 _ _ e1) (c2 _ _ e2)⟩, y.stk.imp fun e0 k => k.imp fun l k => ⟨k.1, k.2.1.step gg, k.2.2⟩, gg.live⟩
 ·exact (relabel_kind w).trans (by simp)
 ·exact (relabel_kind w).trans (by simp)
 ·cases q : (env.scope.kind == ScopeKind.function && env.kindOf z == some .cell) with
  | true => exact .inr ((relabel_kind w).trans (by simp [q]))
  | false => exact .inl ((relabel_kind w).trans (by rw [show (NameKind.free == NameKind.free && env.scope.kind == .function && env.kindOf z == some .cell) = (env.scope.kind == ScopeKind.function && env.kindOf z == some .cell) from rfl, q]; rfl))
 ·exact (relabel_kind w).trans (by simp)
 ·obtain ⟨p, hp, q1, q2⟩ := c4 z a hz
  have := n.look p hp
  rw [q1, q2] at this
  exact (idx_some this).imp fun j e => ⟨e, .inr this⟩
 ·obtain ⟨kk, f1, f2⟩ := idx_kind e1
  rw [e2] at f2; cases f2
  rw [mapF_at f1] at e3; cases e3
 ·obtain ⟨kk, f1, f2⟩ := idx_kind e1
  have hm : (z, kk) ∈ sc.names := List.mem_of_getElem? f1
  obtain rfl : kk = .free := by
   rw [f2] at e2
   rcases e2 with e2 | e2
   ·cases e2; exact absurd rfl (n.noc _ hm)
   ·cases e2; rfl
  refine ch fun g_ h_ => ?_
  obtain ⟨j', h1, h2⟩ := n.fre _ hm rfl
  obtain ⟨b, cv, q1, q2, q3, q4, q5, q6⟩ := f4.cell j' z h1 h2
  refine h_ ?_
  refine ⟨b, cv, (c3 _ hm rfl).trans q1, q2, q3, q4, q5, fun v hv => q6 v ?_⟩
  rw [mapF_at f1, if_pos rfl, h1] at hv; exact hv
theorem comp_sound (bk : BaseOK c) {elt it : Expr} {a : E} {x : Str} {q p : Pos} {rest : List Comprehension} {sc : Scope} {i : Nat} {t : IT} {inner : Option (Nat × IT)}
    (hin : match inner with | none => rest = [] | some (v2, im) => ∃ x2 q2 it2, rest = [⟨.Name x2 q2, it2, [], 0⟩] /\ RI sc.names it2 im /\ idx sc.names x2 = some v2 /\ sc.names.lookup x2 = some .local)
    (hc : compOk ns sc = true) (hi : idx sc.names x = some i) (ho : ownName sc.names x = true) (hri : ∀ x env, foldedSetIterable it env x = pure x) (hI : IS c d P ns it t) (hr : RE sc.names elt a)
    (y : Cf c d ns h0 A env F s H) {K : MV -> HH -> Prop}
    (k : vIT (Ca c d P) mtab t F H (fun st H1 => ∀ cc, H1 cc = none -> CompS c d P a i inner st cc (mapF F (mapOf ns sc.names)) (upd H1 cc (.list [])) (fun _ H2 => K (.ref cc) H2) X) X)
    {use : Option (Value -> Sem Unit)} {R : Value -> Shared -> Prop} {E : Value -> Shared -> Prop}
    (hu : match use with
      | none => ∀ cc s2 H2, Good c Z0 s H s2 H2 -> K (.ref cc) H2 -> R (.ref cc) s2
      | some u => ∀ cc L s2 H2, Good c Z0 s H s2 H2 -> K (.ref cc) H2 -> (s.heap.get? L).isSome = false -> (∃ m, s2.heap.Ns L m) -> Out H2 L -> (∀ o, s2.heap.get? L = some o -> o.cls ≠ .type "tuple") ->
          wpG P c.M A (u (.ref cc)) (fun _ s3 => Gone L (fun s4 => R .none s4) s3) E s2)
    (hE : ∀ e s2 H2, Good c Z0 s H s2 H2 -> XL s.heap env X e s2 H2 -> E e s2) :
    wpG P c.M A (comprehension (.ListComp elt (⟨.Name x q, it, [], 0⟩ :: rest) sc p) sc env (firstIterPos (⟨.Name x q, it, [], 0⟩ :: rest) p) (newList []) false (eval it env) use) R E s := by
  refine ch fun G hG => ?_
  have n := compN_of hc
  obtain ⟨cl, c1, c2, c3, c4⟩ := closure_ok (env := env) (scope := sc) fun z hz w => by
    obtain ⟨j, e1, e2⟩ := n.fre z hz w
    obtain ⟨b, cv, e3, _⟩ := y.fr.cell j z.1 e1 e2
    exact ⟨b, e3⟩
  have own : sc.names.lookup x = some .local := by unfold ownName at ho; simpa using ho
  refine hG (compG rfl (fun x => hri x env) c1 n.kind (fun z hz w => by rw [n.look z hz, w]) (hI _ _ _ _ _ _ _ _ y.at k _ _ (fun v s1 H1 g1 pi => wpG.of (pi _ E fun ia st s2 hit nit g2 k2 => ?_)) fun e s2 H2 g2 k2 => hE e s2 H2 g2 k2))
  have g12 := g1.trans g2
  refine wpG.of (wpAny_newList ?_ (by rw [sizeLine_eq]; simp))
  have g3 : Good c Z0 s2 H1 { s2 with heap := s2.heap.push (seqObj "list" ([] : List Value).toArray 0) } (upd H1 s2.heap.objs.size (.list [])) := new_list (k := s2.toks) g2.rel (xs := []) rfl
  have fr3 := (g2.rel.fresh (get?_size s2.heap)).1
  refine wpG.of (comp_env n.noc ?_)
  have k3 := k2 _ fr3
  generalize hh3 : s2.heap.push (seqObj "list" ([] : List Value).toArray 0) = h3 at g3
  change codeG P c.M A (.compStart (.ListComp elt (⟨.Name x q, it, [], 0⟩ :: rest) sc p) 0 (.ref ia) (.ref s2.heap.objs.size) (compEnvC sc cl h3.objs.size env)) (cPost P c.M A use R E (.ref s2.heap.objs.size) (compEnvC sc cl h3.objs.size env)) { s2 with heap := h3.push { cls := .type "dict", data := .dict #[] } }
  generalize s2.heap.objs.size = cc at g3 k3 fr3 ⊢
  generalize upd H1 cc (.list []) = H3 at g3 k3
  have g4 : Good c Z0 { s2 with heap := h3 } H3 { s2 with heap := h3.push { cls := .type "dict", data := .dict #[] } } H3 := good_push (n := s2.toks) g3.rel
  have gg : Good c Z0 s H { s2 with heap := h3.push { cls := .type "dict", data := .dict #[] } } H3 := g12.trans (g3.trans g4)
  have f4 := ((y.fr.step g12).step g3).step g4
  have nL : (s.heap.get? h3.objs.size).isSome = false := by
    cases w : (s.heap.get? h3.objs.size).isSome with
    | false => rfl
    | true =>
      have := (g12.trans g3).live _ w
      rw [show h3.get? h3.objs.size = none from get?_size _] at this; cases this
  have dl : (h3.push { cls := .type "dict", data := .dict #[] }).get? h3.objs.size = some { cls := .type "dict", data := .dict #[] } := Heap.get?_push_size _ rfl
  have cf := comp_frame n y gg f4 c2 c3 c4 (Heap.Ns.new ..) (g3.rel.fresh (get?_size h3)).2 (hb_fresh g3.rel) fun o e => by have e' := dl.symm.trans e; cases e'; exact ne_type (by decide)
  refine start_G rfl (hit.keep (fun o e => ?_) fun b o e t => ?_) ?_
  · exact (Heap.get?_push_of_some _ (hh3 ▸ Heap.get?_push_of_some _ e))
  · exact (Heap.get?_push_of_some _ (hh3 ▸ Heap.get?_push_of_some _ e))
  have nit' : (s.heap.get? ia).isSome = false := by
    cases w : (s.heap.get? ia).isSome with
    | false => rfl
    | true =>
      have := g1.live _ w
      rw [nit] at this; cases this
  have hit4 : IterAt (h3.push { cls := .type "dict", data := .dict #[] }) ia st := hit.keep (fun o e => Heap.get?_push_of_some _ (hh3 ▸ Heap.get?_push_of_some _ e)) fun b o e t => Heap.get?_push_of_some _ (hh3 ▸ Heap.get?_push_of_some _ e)
  refine codeG.mono (k3 sc.names A _ { s2 with heap := h3.push { cls := .type "dict", data := .dict #[] } } s H elt (⟨.Name x q, it, [], 0⟩ :: rest) sc p 0 ia x q it y.rel gg.all cf hr rfl hi own ?_ hit4 nit') fun r s' hr => ?_
  · cases inner with
    | none => dsimp only at hin ⊢; subst hin; rfl
    | some vi =>
      obtain ⟨v2, im⟩ := vi
      obtain ⟨x2, q2, it2, rfl, e2, e3, e4⟩ := hin
      exact ⟨x2, q2, it2, rfl, e2, e3, e4, rfl⟩
  have gL : ∀ {s' : Shared} {H' : HH}, Good c (fun b => b = h3.objs.size) s H s' H' -> Good c Z0 s H s' H' := fun g => g.weak fun b e w => by rw [w, nL] at e; cases e
  rcases r with e | f
  · refine ch fun g_ h_ => ?_
    obtain ⟨H', g5, n5, lo⟩ := hr
    obtain ⟨⟨m, hn'⟩, l2, l3⟩ := id lo
    refine h_ ?_
    have res : Gone h3.objs.size (fun s'' => wpG P c.M A (PySem.passOn "comprehension.variables-let-go" e (compEnvC sc cl h3.objs.size env) : Sem Value) R E s'') s' :=
      ⟨m, hn', fun h' m' hn2 hs => wpG.of (pass_sound y.rel (gone_good g5 y.rel nL lo hs) (n5.gone ⟨m, hn'⟩ hs) fun s2 g n => hE e s2 H' g (Noted.xl n))⟩
    cases use <;> exact res
  · refine ch fun g_ h_ => ?_
    obtain ⟨H', g5, F', f5, k5⟩ := hr
    obtain ⟨⟨m, hn'⟩, l2, l3⟩ := id f5.locOK
    refine h_ ?_
    cases use with
    | none => exact ⟨m, hn', fun h' m' hn2 hs => hu cc _ H' (gone_good g5 y.rel nL f5.locOK hs) k5⟩
    | some u => exact hu cc _ s' H' (gL g5) k5 nL ⟨m, hn'⟩ l2 l3
theorem re_set {e : Expr} (h : notSet e = true) (x : Value) (env : Env) : foldedSetIterable e env x = pure x := by
 cases e with
 | Set => exact Bool.noConfusion h
 | _ => rfl
theorem ri_set {ns : NS} {e : Expr} {m : IT} (h : RI ns e m) (x : Value) (env : Env) : foldedSetIterable e env x = pure x := re_set h.1 x env
theorem own_local {ns : NS} {x : Str} (h : ownName ns x = true) : ns.lookup x = some .local := by unfold ownName at h; simpa using h
theorem es_comp (bk : BaseOK c) {elt it a x q i t sc p} (hc : compOk ns sc = true) (hi : idx sc.names x = some i) (ho : ownName sc.names x = true) (ht : RI ns it t) (ha : RE sc.names elt a) (hI : IS c d P ns it t) :
  ES c d P ns (.ListComp elt [⟨.Name x q, it, [], 0⟩] sc p) (.comp a i t (mapOf ns sc.names)) := by
 intro h0 A env F s H Q X y k K E hK hE
 rw [eval_ListComp]
 exact comp_sound bk (inner := none) (use := none) rfl hc hi ho (ri_set ht) hI ha y k (fun cc s2 H2 g k => hK _ _ H2 g k) fun e s2 H2 g x => hE _ _ H2 g (x.from y.old)
theorem es_comp2 (bk : BaseOK c) {elt it a x q i t sc p x2 q2 i2 it2 t2} (hc : compOk ns sc = true) (hi : idx sc.names x = some i) (ho : ownName sc.names x = true) (hi2 : idx sc.names x2 = some i2) (ho2 : ownName sc.names x2 = true)
  (ht : RI ns it t) (ht2 : RI sc.names it2 t2) (ha : RE sc.names elt a) (hI : IS c d P ns it t) :
  ES c d P ns (.ListComp elt [⟨.Name x q, it, [], 0⟩, ⟨.Name x2 q2, it2, [], 0⟩] sc p) (.comp2 a i t i2 t2 (mapOf ns sc.names)) := by
 intro h0 A env F s H Q X y k K E hK hE
 rw [eval_ListComp]
 exact comp_sound bk (inner := some (i2, t2)) (use := none) ⟨x2, q2, it2, rfl, ht2, hi2, own_local ho2⟩ hc hi ho (ri_set ht) hI ha y k (fun cc s2 H2 g k => hK _ _ H2 g k) fun e s2 H2 g x => hE _ _ H2 g (x.from y.old)
theorem glob_debug {ns : NS} {n : Str} {gv : GV} (h : glob ns n = some gv) : (n == ("__debug__" : Str)) = false := by
 cases q : n == ("__debug__" : Str) with
 | false => rfl
 | true =>
  have : n = ("__debug__" : Str) := beq_iff_eq.mp q
  subst this
  unfold glob at h
  split at h
  ·have e : gtab.lookup ("__debug__" : Str) = none := by decide +kernel
   rw [e] at h; cases h
  ·cases h
theorem both {e : Expr} {m : Mine.E} (he : ∀ env whole, isTrue e env whole = (do let v <- whole; standAt e.pos; holding [v] (truthy v))) (h : ES c d P ns e m) : ES c d P ns e m /\ TS c d P ns e m := ⟨h, ts_value he h⟩
noncomputable abbrev SE (c : Cx) (d : Nat) (P : Bool) (ns : NS) (e : Expr) (m : Mine.E) : Prop := RE ns e m /\ ES c d P ns e m /\ TS c d P ns e m
noncomputable abbrev SL (c : Cx) (d : Nat) (P : Bool) (ns : NS) (es : List Expr) (l : L) : Prop := RL ns es l /\ es.all notStar = true /\ (es.isEmpty = true -> l = .nil) /\ LS c d P ns es l /\ AS c d P ns es l /\ OS c d P ns es l /\ TAS c d P ns es l /\ TOS c d P ns es l
noncomputable abbrev SI (c : Cx) (d : Nat) (P : Bool) (ns : NS) (e : Expr) (m : IT) : Prop := RI ns e m /\ IS c d P ns e m
theorem sound_all (b : BaseOK c) : ClE (SE c d P) (SL c d P) (SI c d P) :=
 ⟨fun _ _ _ _ => ⟨.int, both (fun _ _ => rfl) es_int⟩,
 fun _ _ _ _ => ⟨.str, both (fun _ _ => rfl) es_str⟩,
 fun _ _ _ => ⟨.non, both (fun _ _ => rfl) es_non⟩,
 fun _ _ _ _ => ⟨.bool, both (fun _ _ => rfl) es_bool⟩,
 fun _ _ _ _ h1 h2 h3 => ⟨.loc h1 h2 h3, both (fun _ _ => rfl) (es_loc h1 h2 h3)⟩,
 fun _ _ _ _ h1 h2 => ⟨.cst h1 h2, both (fun _ _ => rfl) (es_cst b h1 h2)⟩,
 fun _ _ _ _ _ _ _ i1 i2 => ⟨.bin i1.1 i2.1, both (fun _ _ => rfl) (es_bin i1.2.1 i2.2.1)⟩,
 fun _ _ _ _ i1 => ⟨.neg i1.1, both (fun _ _ => rfl) (es_neg i1.2.1)⟩,
 fun _ _ _ _ i1 => ⟨.not i1.1, es_not i1.2.1, ts_not i1.2.2⟩,
 fun _ _ _ _ _ _ _ hb i1 i2 => ⟨.cmp hb i1.1 i2.1, es_cmp hb i1.2.1 i2.2.1, ts_cmp hb i1.2.1 i2.2.1⟩,
 fun _ _ _ _ _ _ _ _ _ _ hb hb2 i1 i2 i3 => ⟨.cmp2 hb hb2 i1.1 i2.1 i3.1, es_cmp2 hb hb2 i1.2.1 i2.2.1 i3.2.1, ts_cmp2 hb hb2 i1.2.1 i2.2.1 i3.2.1⟩,
 fun _ _ _ p hn i => ⟨.and hn i.1, fun h0 A env F s H Q X x k => i.2.2.2.2.1 h0 A env F s H Q X p hn x k, fun h0 A env F s H Q R X x hQ k => i.2.2.2.2.2.2.1 h0 A env F s H Q R X x hQ k⟩,
 fun _ _ _ p hn i => ⟨.or hn i.1, fun h0 A env F s H Q X x k => i.2.2.2.2.2.1 h0 A env F s H Q X p hn x k, fun h0 A env F s H Q R X x hQ k => i.2.2.2.2.2.2.2 h0 A env F s H Q R X x hQ k⟩,
 fun _ _ _ _ _ _ _ _ i1 i2 i3 => ⟨.ite i1.1 i2.1 i3.1, es_ite i1.2.2 i2.2.1 i3.2.1, ts_ite i1.2.2 i2.2.2 i3.2.2⟩,
 fun _ _ _ _ _ _ hn hx hf i1 => ⟨.attr hn hx hf i1.1, both (fun _ _ => rfl) (es_attr b hn hx hf i1.2.1)⟩,
 fun _ _ _ _ _ _ hs i1 i2 => ⟨.sub hs i1.1 i2.1, both (fun _ _ => rfl) (es_sub hs i1.2.1 i2.2.1)⟩,
 fun _ _ _ _ _ _ _ i1 i2 => ⟨.slc0 i1.1 i2.1, both (fun _ _ => rfl) (es_slc i1.2.1 part_none (part_some i2.2.1))⟩,
 fun _ _ _ _ _ _ _ i1 i2 => ⟨.slc1 i1.1 i2.1, both (fun _ _ => rfl) (es_slc i1.2.1 (part_some i2.2.1) part_none)⟩,
 fun _ _ _ _ _ _ _ _ _ i1 i2 i3 => ⟨.slc2 i1.1 i2.1 i3.1, both (fun _ _ => rfl) (es_slc i1.2.1 (part_some i2.2.1) (part_some i3.2.1))⟩,
 fun _ _ _ _ _ _ _ hg hl i => ⟨.bi hg hl i.1, both (fun _ _ => rfl) (es_bi b hg hl (glob_debug hg) i.2.1 i.2.2.2.1)⟩,
 fun _ _ _ _ _ _ _ hg hl i => ⟨.fn hg hl i.1, both (fun _ _ => rfl) (es_fn b hg (glob_debug hg) i.2.1 i.2.2.2.1)⟩,
 fun _ _ _ _ _ _ _ hg hl i => ⟨.new hg hl i.1, both (fun _ _ => rfl) (es_new b hg (glob_debug hg) i.2.1 i.2.2.2.1)⟩,
 fun _ _ _ _ _ _ _ _ _ hn hx hf hm ha hl i1 i2 => ⟨.meth hn hx hf hm ha hl i1.1 i2.1, both (fun _ _ => rfl) (es_meth b hn hx hf ha hl i2.2.1 i1.2.1 i2.2.2.2.1)⟩,
 fun _ _ _ _ _ _ _ _ _ hn hx ha hl i1 i2 => ⟨.bm hn hx ha hl i1.1 i2.1, both (fun _ _ => rfl) (es_bm b hn hx ha hl i2.2.1 i1.2.1 i2.2.2.2.1)⟩,
 fun _ _ _ _ i hl => ⟨.list i.1 hl, both (fun _ _ => rfl) (es_list hl i.2.2.2.1)⟩,
 fun _ _ _ _ _ i hl => ⟨.tup i.1 hl, both (fun _ _ => rfl) (es_tup hl i.2.2.2.1)⟩,
 fun _ _ _ _ _ _ i1 i2 => ⟨.dict i1.1 i2.1, both (fun _ _ => rfl) (es_dict i1.2.1 i2.2.1)⟩,
 fun _ _ => ⟨.edict, both (fun _ _ => rfl) (es_edict b)⟩,
 fun _ _ _ _ _ _ _ _ _ _ hc hi ho ht ha => ⟨.one hc hi ho ht.1 ha.1, both (fun _ _ => rfl) (es_comp b hc hi ho ht.1 ha.1 ht.2)⟩,
 fun _ _ _ _ _ _ _ _ _ _ _ _ _ _ _ hc hi ho hi2 ho2 ht ht2 ha => ⟨.two hc hi ho hi2 ho2 ht.1 ht2.1 ha.1, both (fun _ _ => rfl) (es_comp2 b hc hi ho hi2 ho2 ht.1 ht2.1 ha.1 ht.2)⟩,
 fun _ => ⟨.nil, rfl, fun _ => rfl, ls_nil, as_nil, os_nil, tas_nil, tos_nil⟩,
 fun _ _ es _ _ hs i1 i2 => ⟨.cons hs i1.1 i2.1, ns_cons hs i2.2.1, nofun, ls_cons (not_starred hs es) i1.2.1 i2.2.2.2.1, as_cons i1.2.1 i2.2.2.2.2.1 i2.2.2.1, os_cons i1.2.1 i2.2.2.2.2.2.1 i2.2.2.1, tas_cons i1.2.2 i2.2.2.2.2.2.2.1, tos_cons i1.2.2 i2.2.2.2.2.2.2.2⟩,
 fun _ _ _ _ _ _ hk hx n1 i1 => ⟨.up1 hk hx n1 i1.1, is_up1 b hk hx n1 i1.2.1⟩,
 fun _ _ _ _ _ _ _ _ hk hx n1 n2 i1 i2 => ⟨.up2 hk hx n1 n2 i1.1 i2.1, is_up2 b hk hx n1 n2 i1.2.1 i2.2.1⟩,
 fun _ _ _ _ _ _ _ _ _ _ _ hk hx n1 n2 i1 i2 => ⟨.down hk hx n1 n2 i1.1 i2.1, is_down b hk hx n1 n2 i1.2.1 i2.2.1⟩,
 fun _ _ _ hs i1 => ⟨.ex hs i1.1, is_ex i1.2.1⟩⟩
theorem sound_E (b : BaseOK c) {ns : NS} {e : Expr} {m : Mine.E} (h : RE ns e m) : ES c d P ns e m /\ TS c d P ns e m := (h _ _ _ (sound_all b)).2
theorem sound_I (b : BaseOK c) {ns : NS} {e : Expr} {m : IT} (h : RI ns e m) : IS c d P ns e m := (h.2 _ _ _ (sound_all b)).2
theorem sound_L (b : BaseOK c) {ns : NS} {es : List Expr} {l : L} (h : RL ns es l) : LS c d P ns es l := (h _ _ _ (sound_all b)).2.2.2.1
end
end
section
open PyProof.Rows
section
variable {c : Cx} {d : Nat} {P : Bool} {ns : NS} {h0 h h' : Heap} {A : Around} {env : Env} {F F' : FF} {s s' s0 : Shared} {H H' H0 : HH} {X : QX} {Z : Addr -> Prop} {it : Addr} {st st' : ItS}
theorem notedG {α : Type} {m : Sem α} {M : Model} {Q : α -> Shared -> Prop} {E : Value -> Shared -> Prop} (h : wpG P M A m Q (fun e s' => wpAny M A (noteFrame e env) (fun _ s'' => E e s'') E s') s) :
  wpG P M A (m.onRaise fun x => do noteFrame x env; theTreesLotGoes x) Q E s :=
 wpG.onRaise (wpG.mono h (fun _ _ q => q) fun _ _ hx => wpG.of (wpAny_bind (wpAny_mono hx (fun _ _ e => wpAny_theTreesLotGoes e) fun _ _ e => e)))
theorem live_none (k : ∀ b, (h.get? b).isSome = true -> (h'.get? b).isSome = true) {b : Addr} (e : h'.get? b = none) : (h.get? b).isSome = false := by
 cases w : (h.get? b).isSome with
 | false => rfl
 | true => have := k b w; rw [e] at this; cases this
theorem iter_ne (x : IterAt h it st) (hn : ∃ m, h.Ns env.locals m) : it ≠ env.locals := fun w => by
 refine ch fun g_ h_ => ?_
 obtain ⟨o, vs, e, dd, _⟩ := x.obj
 obtain ⟨m, o', es, ep, e', dd', _⟩ := hn
 refine h_ ?_
 rw [w, e'] at e; cases e; rw [dd'] at dd; cases dd
theorem FrOK.but (f : FrOK c env ns F h H) (x : IterAt h it st) (k : ∀ b o, b ≠ it -> h.get? b = some o -> h'.get? b = some o) : FrOK c env ns F h' H := by
 refine ch fun g_ h_ => ?_
 obtain ⟨oi, vs, ei, di, n1, n2⟩ := x.obj
 obtain ⟨m, hn, hm⟩ := f.loc
 obtain ⟨o, es, ep, ho, hd, hk⟩ := hn
 refine h_ ?_
 have nl : env.locals ≠ it := fun w => by rw [w, ei] at ho; cases ho; rw [di] at hd; cases hd
 have e := k _ o nl ho
 refine ⟨f.len, ⟨m, ⟨_, es, ep, e, hd, hk⟩, hm⟩, f.lout, f.lnew, fun o' e' => by rw [e] at e'; cases e'; exact f.ltup o ho, fun i x hi hx => ?_, f.cinj⟩
 refine ch fun g_ h_ => ?_
 obtain ⟨a, cv, h1, ⟨co, h2, h3⟩, h4, h5, h6, h7⟩ := f.cell i x hi hx
 refine h_ ?_
 have na : a ≠ it := fun w => by rw [w, ei] at h2; cases h2; rw [di] at h3; cases h3
 have e' := k _ co na h2
 exact ⟨a, cv, h1, ⟨_, e', h3⟩, h4, h5, fun o' e2 => by rw [e'] at e2; cases e2; exact h6 co h2, h7⟩
noncomputable def CompVC (c : Cx) (d : Nat) (P : Bool) (elt : E) (v : Nat) (inner : Option (Nat × IT)) (a : Addr) (F : FF) (H : HH) (Q : FF -> HH -> Prop) (X : QX) : Option (MV × ItS) -> Prop
 | none => Q F H
 | some (mv, st') => match inner with
  | none => vE (Ca c d P) mtab elt (F.put v mv) H (fun u H1 => list? (H1 a) fun xs => xs.length <= 100000 /\ CompS c d P elt v none st' a (F.put v mv) (upd H1 a (.list (xs ++ [u]))) Q X) X
  | some (v2, im) => vIT (Ca c d P) mtab im (F.put v mv) H (fun st2 H1 => CompS c d P elt v2 none st2 a (F.put v mv) H1 (fun F' H2 => CompS c d P elt v inner st' a F' H2 Q X) X) X
theorem note_to {d : Nat} {ns : NS} {Fb : FF} {sb s3 : Shared} {Hb H3 : HH} {e : Value} {E E' : Value -> Shared -> Prop} (cf : Cf c d ns sb.heap A env Fb sb Hb) (g0 : Good c (fun b => b = env.locals) s0 H0 sb Hb) (g : Good c (fun b => b = env.locals) sb Hb s3 H3) (x : XL sb.heap env X e s3 H3) (lo : LocOK env s3.heap H3)
  (k : ∀ e s' H', Good c (fun b => b = env.locals) s0 H0 s' H' -> Noted s0.heap env X e s' H' -> LocOK env s'.heap H' -> E' e s') :
  wpAny c.M A (noteFrame e env) (fun _ s4 => E' e s4) E s3 := by
 obtain ⟨e0, l, h1, h2, h3⟩ := cf.stk
 exact wpAny_mono (note_sound cf.rel g h1 (h2.step g) h3 x) (fun _ s4 q => k _ _ _ (g0.trans q.1) (q.2.1.from g0.live) (lo.nf q.2.2)) fun _ _ k => k
theorem nxt_not {env : Env} {h' : Heap} (hit : IterAt s.heap it st) (b : Addr) (o : Obj) (e : b = it) (q : s.heap.get? b = some o) : ∃ vs, o.data = .fields vs := by
 obtain ⟨o', vs, e', dd, _⟩ := hit.obj
 rw [e, e'] at q; cases q; exact ⟨vs, dd⟩
theorem comp_step (b : BaseOK c) {elt : Mine.E} {v : Nat} {inner : Option (Nat × IT)} {a : Addr} {Q : FF -> HH -> Prop} {n : Option (MV × ItS)} (hn : nextOf H st = some n) (hv : CompVC c d P elt v inner a F H Q X n) : CompS c d P elt v inner st a F H Q X := by
 intro ns A env s s0 H0 re gens sc p depth it x q it0 r0 g cf hre hg hi hl hin hit nit
 have hb : c.hb.get? it = none := r0.newb (by cases w : s0.heap.get? it with | none => rfl | some o => rw [w] at nit; cases nit)
 refine codeG.K rfl fun K E hd ha he => ?_
 replace hd : ∀ f s' H', Good c (fun b => b = env.locals) s0 H0 s' H' -> ∀ F', FrOK c env ns F' s'.heap H' -> Q F' H' -> K (.done f) s' := fun f s' H' a F' b k => hd f s' ⟨H', a, F', b, k⟩
 replace he : ∀ e s' H', Good c (fun b => b = env.locals) s0 H0 s' H' -> Noted s0.heap env X e s' H' -> LocOK env s'.heap H' -> E e s' := fun e s' H' a b k => he e s' ⟨H', a, b, k⟩
 refine notedG (m := compTurn (.ListComp re gens sc p) depth (.ref it) (.ref a) env) ?_
 unfold compTurn
 dsimp only
 rw [hg]
 refine wpG.then (wpAny_standAt (wpG.then (m := pyNext (.ref it)) (next_sound cf.hA g nit hit hb hn fun r s1 g1 keep nx => ch fun G hG => ?_)))
 have gn := fun {st' : ItS} (hit1 : IterAt s1.heap it st') => good_next g g1 hit hit1 hb keep
 cases n with
 | none =>
  obtain rfl : r = none := nx
  exact hG (wpG.pure (hd _ _ _ g1 F (cf.fr.but hit keep) hv))
 | some w =>
  obtain ⟨mv, st'⟩ := w
  obtain ⟨val, rfl, hmv, hit1⟩ := nx
  have cf1 : Cf c d ns s1.heap A env F s1 H := (cf.next (gn hit1) (cf.fr.stepF (gn hit1) (nxt_not (env := env) (h' := s1.heap) hit))).at
  refine hG (wpG.then (m := pure ()) (wpAny_of_eq (a := ()) rfl (wpG.then (wpAny_assign_Name (wpAny_mono (local_put (E := fun _ _ => False) cf1.eok cf1.rel cf1.fr hi hl) (fun _ s2 k2 => ?_) fun _ _ k => k.elim)))))
  obtain ⟨g2, f2⟩ := k2
  rw [hmv] at f2
  have cf2 : Cf c d ns s2.heap A env (F.put v mv) s2 H := (cf1.next g2 f2).at
  have hit2 : IterAt s2.heap it st' := hit1.step cf1.rel g2 (iter_ne hit1 (cf1.fr.loc.imp fun m q => q.1))
  have g02 : Good c (fun b => b = env.locals) s0 H0 s2 H := g1.trans g2
  refine wpG.then (wpAny_pure (bm_true rfl ?_))
  cases inner with
  | none =>
   rw [show gens[depth + 1]? = none from hin]
   refine wpG.bind (wpG.bind ((sound_E b hre).1 s2.heap A env _ s2 H _ X cf2 hv _ _ (fun u s3 H3 g3 k3 => ?_) fun e s3 H3 g3 x3 => note_to cf2 g02 g3.all x3 (cf2.step g3).fr.locOK he))
   have cf3 := (cf2.step g3).at
   refine wpG.bind (wpG.of ((lapp_sound (Q := fun _ H4 => CompS c d P elt v none st' a (F.put v mv) H4 Q X) (Z := Z0) (X := fun _ _ _ => False) g3.rel k3).run (fun _ s4 H4 g4 k4 => ?_) fun _ _ _ _ k => k.elim))
   have gg := (g02.trans g3.all).trans g4.all
   exact wpG.pure (wpG.pure (ha _ _ rfl (k4 ns A env s4 s0 H0 re gens sc p depth it x q it0 r0 gg ((cf3.step g4).from gg.live) hre hg hi hl hin (((hit2.step cf2.rel g3 id).step cf3.rel g4 id)) nit)))
  | some vi =>
   obtain ⟨v2, im⟩ := vi
   refine ch fun G hG => ?_
   obtain ⟨x2, q2, it2, e1, e2, e3, e4, e5⟩ := id hin
   refine hG ?_
   rw [e1]
   refine wpG.bind (sound_I b e2 s2.heap A env _ s2 H _ X cf2 hv _ _ (fun u s3 H3 g3 pi => ?_) fun e s3 H3 g3 x3 => note_to cf2 g02 g3.all x3 (cf2.step g3).fr.locOK he)
   have cf3 := (cf2.step g3).at
   refine wpG.then (wpAny_standAt ?_)
   rw [if_neg Bool.noConfusion]
   refine wpG.then (wpAny_of_eq (ri_set e2 _ _) ?_)
   rw [if_neg Bool.noConfusion]
   refine wpG.then (wpAny_holding (pi _ _ fun i2 st2 s4 hit4 nit4 g4 k4 => ?_))
   have cf4 := (cf3.step g4)
   have hit3 := hit2.step cf2.rel g3 id
   have g03 := g02.trans g3.all
   have nit4' : (s3.heap.get? i2).isSome = false := by rw [nit4]; rfl
   refine wpG.bind (m := runOwn _ env) ?_
   unfold runOwn
   refine wpG.onRaise (wpG.run (codeG.mono (start_G e1 hit4 (k4 ns A env s4 s3 H3 re gens sc p (depth + 1) i2 x2 q2 it2 cf3.rel g4.all cf4 hre e1 e3 e4 e5 hit4 nit4')) fun r s5 hr => ch fun G hG => ?_) (by intro x; cases x))
   cases r with
   | error e =>
    obtain ⟨H5, g5, n5, lo5⟩ := hr
    exact hG (wpG.of (own_sound cf3.rel g5 n5 fun s6 g6 n6 k6 => note_to cf3 g03 g6 n6.xl (lo5.nf k6) he))
   | ok f =>
    obtain ⟨H5, g5, F5, f5, k5⟩ := hr
    have gg := g03.trans g5
    exact hG (wpG.pure (ha _ _ rfl (k5 ns A env s5 s0 H0 re gens sc p depth it x q it0 r0 gg ((cf3.next g5 f5).from gg.live) hre hg hi hl hin (hit3.step cf3.rel g5 (iter_ne hit3 (cf3.fr.loc.imp fun m q => q.1))) nit)))
end
end
section
open PyProof.Rows
theorem putL_fields {f : Nat} (hf : f < 41) {hsh : Int} {key v : Value} {t : Tok} (hk : key = .str (fnm f) t) : ∀ {es : List DictEntry} {fs : List (Nat × MV)}, FieldsAre es fs -> FieldsAre (putL (fnm f) hsh key v es) (putF f (era v) fs)
  | [], fs, h => by
    cases fs with
    | nil => subst hk; exact ⟨rfl, fun p hp => by
        rw [List.mem_singleton.mp (show p ∈ [(f, era v)] from hp)]; exact hf⟩
    | cons _ _ => have := h.1; simp at this
  | e :: es, fs, h => by
    obtain ⟨g, w, r, t', rfl, hg, hk', hv, ht⟩ := h.inv
    have hs := isStr_fnm hk' hg hf
    simp only [putL, show putF f (era v) ((g, w) :: r) = if g = f then (g, era v) :: r else (g, w) :: putF f (era v) r from rfl, hs]
    by_cases q : g = f
    · subst q
      simp only [beq_self_eq_true, if_true]
      refine ⟨by rw [List.map_cons, List.map_cons, ht.1, hk']; rfl, fun p hp => ?_⟩
      rcases List.mem_cons.mp hp with rfl | hp
      · exact hg
      · exact ht.2 p hp
    · have : (g == f) = false := by simpa using q
      rw [this, if_neg q]
      obtain ⟨i1, i2⟩ := putL_fields hf (hsh := hsh) (v := v) hk ht
      refine ⟨?_, fun p hp => ?_⟩
      · show (ekey e.key, era e.val) :: List.map (fun e => (ekey e.key, era e.val)) (putL (fnm f) hsh key v es) = _
        rw [i1, hk', hv]; rfl
      · rcases List.mem_cons.mp hp with rfl | hp
        · exact hg
        · exact i2 p hp
theorem putL_len {name : Str} {hsh : Int} {key v : Value} : ∀ {es : List DictEntry}, (putL name hsh key v es).length <= es.length + 1
 | [] => by simp [putL]
 | e :: r => by
  simp only [putL]
  split
  ·simp
  ·have := @putL_len name hsh key v r
   simp; lia
theorem fields_len {es : List DictEntry} {fs : List (Nat × MV)} (h : FieldsAre es fs) : es.length = fs.length := by
 have := congrArg List.length h.1
 simpa using this
section
variable {c : Cx} {d : Nat} {P : Bool} {ns : NS} {h0 h h' : Heap} {A : Around} {env : Env} {F F' : FF} {s s' s0 : Shared} {H H' H0 : HH} {X : QX} {Z : Addr -> Prop} {it : Addr} {st st' : ItS} {E : Value -> Shared -> Prop}
theorem set_sound (b : BaseOK c) {p C dx : Addr} {fs : List (Nat × MV)} {f : Nat} {v : Value} (r : Rel c s.heap H) (h1 : H p = some (.inst C dx fs)) (hf : f < 41) (hl : fs.length <= 100) :
  wpAny c.M A (setAttr (.ref p) (fnm f) v) (fun _ s' => Good c Z s H s' (upd H p (.inst C dx (putF f (era v) fs)))) E s := by
 obtain ⟨es, n, I, hfs, hdx, hC⟩ := r.inst h1
 have k := b.cls C hC
 have X := r.K b
 refine set_plain X I k.set ?_
 refine osa_open (s := { s with toks := s.toks + 1 }) X I k.over (k.taker f hf) fun bb => ?_
 obtain ⟨cd, hc, hd'⟩ := any_some k.dict
 obtain ⟨hx, hcl, hn, -⟩ := I
 refine wpAny_bind (wpAny_pure (wpAny_bind (wpAny_bind (wpAny_loadPart hx (wpAny_bind (Looks.here (M := c.M) (s := { s with toks := s.toks + 1 }) (looks_clsIn X hc) ?_))))))
 rw [hd']
 refine wpAny_pure (a := some dx) (wpAny_bind (wpAny_pure (wpAny_bind ?_)))
 unfold nsSet
 refine wpAny_bind (wpAny_bind (wpAny_askSetting (wpAny_pure (wpAny_bind (wpAny_mkText (wpAny_bind (wpAny_loadPart hdx ?_)))))))
 dsimp only
 have cc : aRefKeyMayBeTheName (fnm f) es.toArray = false := by
  rw [aRefKeyMayBeTheName_at, <- Array.any_toList, <- Array.any_toList, List.toList_toArray, fields_norefs hfs, Bool.and_false]
 rw [cc]
 have D' := Heap.get?_update_self (Obj.putName (fnm f) (PyData.keyHash c.w.params (fnm f)) (.str (fnm f) (s.toks + 1)) v) hdx (by rw [putName_dict]; rfl)
 rw [putName_dict] at D'
 refine wpAny_updatePart hdx ?_
 have hlen : (putL (fnm f) (PyData.keyHash c.w.params (fnm f)) (.str (fnm f) (s.toks + 1)) v es).length <= 200 := by
  have := @putL_len (fnm f) (PyData.keyHash c.w.params (fnm f)) (.str (fnm f) (s.toks + 1)) v es
  have := fields_len hfs
  lia
 refine wpAny_bind (wpAny_lookBehind D' (pastItsLine_dict (by rw [List.size_toArray, sizeLine_eq]; lia)) ?_)
 refine wpAny_pure ?_
 exact good_updD (n := s.toks + 1 + 1) r h1 (Heap.SameBut.update ..) D' (putL_fields hf rfl hfs)
theorem list_put {l : Addr} {vs : Array Value} {n : Nat} {k : Int} {t : Tok} {v : Value} {Q : Unit -> Shared -> Prop} (e1 : s.heap.get? l = some (seqObj "list" vs n)) (h0 : 0 <= k) (hfit : k < 2 ^ 63) (hn : k < vs.size)
  (hQ : ∀ h' n', h'.get? l = some (seqObj "list" (vs.setIfInBounds k.toNat v) n') -> Heap.SameBut l s.heap h' -> Q () { s with heap := h' }) :
  wpAny c.M A (setItem (.ref l) (.int k t) v) Q E s := by
 have hl : s.heap.IsList l vs := ⟨_, e1, rfl, n, rfl⟩
 unfold setItem
 refine wpAny_holding ?_
 refine wpAny_bind (wpAny_sequenceKey hl.typeIs (by decide) ?_)
 refine wpAny_bind (wpAny_callSpecial?_slot (name := Str.ofString "__setitem__") hl.typeIs slot_list_setitem
  (wpAny_call_entry slot_list_setitem hl.typeIs entry_list_setitem ?_ (args_list_setitem _ _ _)))
 show wpAny _ _ (Builtin.List.listSubscript? (.int k t) >>= _) _ _ s
 refine wpAny_bind (wpAny_listSubscript_int (fitsIndex_of h0 hfit) ?_)
 clear hfit
 obtain ⟨j, rfl⟩ := Int.eq_ofNat_of_zero_le h0
 have hj : j < vs.size := by lia
 have hx' : vs[j]? = some vs[j] := Array.getElem?_eq_getElem hj
 show wpAny _ _ ((seqItemAt l j >>= fun r => pure (r.map (j, ·))) >>= _) _ _ s
 refine wpAny_bind (wpAny_bind (wpAny_seqItemAt e1 rfl (wpAny_pure ?_)))
 rw [hx']
 show wpAny _ _ (setSeqItemAt l j v >>= _) _ _ s
 have hfin := IsL.update e1 (fun ys => ys.setIfInBounds j v)
 refine wpAny_bind (wpAny_setSeqItemAt e1 rfl ?_)
 exact wpAny_bind (wpAny_pure (wpAny_pure ⟨.none, rfl, wpAny_pure (hQ _ _ hfin (Heap.SameBut.update ..))⟩))
theorem dict_put {a : Addr} {f : Int -> Option Value} {k : Int} {t : Tok} {v : Value} {n : Nat} {Q : Unit -> Shared -> Prop} (hm : s.heap.MapOf (intKind c.prog c.w) a f) (hz : s.heap.DictLe a n) (hn : n <= 1000) (hf0 : f k = none)
  (hQ : ∀ h', h'.MapOf (intKind c.prog c.w) a (fun x => if x = k then some v else f x) -> h'.DictLe a (n + 1) -> Heap.SameBut a s.heap h' -> Q () { s with heap := h', toks := s.toks + 1 }) :
  wpAny c.M A (setItem (.ref a) (.int k t) v) Q E s := by
 have hkey : (intKind c.prog c.w).is k (.int k t) = true := by simp [intKind, Value.isInt]
 unfold setItem
 refine wpAny_holding ?_
 refine wpAny_bind (wpAny_sequenceKey hm.typeIs (by decide) ?_)
 refine wpAny_bind (wpAny_callSpecial?_slot (name := Str.ofString "__setitem__") hm.typeIs slot_dict_setitem
  (wpAny_call_entry slot_dict_setitem hm.typeIs entry_dict_setitem ?_ (args_dict_setitem _ _ _)))
 show wpAny _ _ (Builtin.Dict.notOrdered "__setitem__" ⟨[.ref a, .int k t, v], []⟩ >>= _) _ _ s
 refine wpAny_bind (wpAny_notOrdered_dict hm.typeIs ?_)
 show wpAny _ _ (dictSet a (.int k t) v >>= _) _ _ s
 refine ch fun g_ h_ => ?_
 obtain ⟨o, es, ep, ho, hc, hd, hk, hf⟩ := hm
 refine h_ ?_
 have hes : es.size <= n := hz _ _ _ ho hd
 refine wpAny_bind ?_
 unfold dictSet
 refine wpAny_holding ?_
 refine wpAny_bind ((intKind c.prog c.w).pyHash hkey ?_)
 unfold dictSetHashed
 refine wpAny_holding ?_
 refine wpAny_bind (wpAny_dictFind_of (s := { s with toks := s.toks + 1 }) hkey ho hd hk ?_)
 cases hi : es.findIdx? fun e => (intKind c.prog c.w).is k e.key with
 | some i =>
  have := hf k
  rw [findBy_of_findIdx?, hi, hf0] at this
  obtain ⟨hlt, _⟩ := Array.findIdx?_eq_some_iff_getElem.mp hi
  simp [hlt] at this
 | none =>
  refine wpAny_bind (wpAny_rule (wpAny_updateDictKeys (hz := by have : sizeLine = sizeLine := rfl; rw [sizeLine_eq]; lia) (s := { s with toks := s.toks + 1 }) ho hd (wpAny_pure ⟨.none, rfl, wpAny_pure (hQ _ ⟨_, _, ep + 1, Heap.get?_update_self _ ho (Obj.isFreed_of_dict (Obj.data_mapDictKeys hd _)),
   hc.mapDictKeys _, Obj.data_mapDictKeys hd _, hk.push hkey _, fun x => ?_⟩ (fun o' es' ep' ho' hd' => ?_) (Heap.SameBut.update ..))⟩)))
  ·rw [findBy_push (intKind c.prog c.w).is es k x _ _ v (KeyKind.is_eq_decide hkey) hi, hf]
  ·rw [Heap.get?_update_self _ ho (Obj.isFreed_of_dict (Obj.data_mapDictKeys hd _))] at ho'
   cases ho'
   rw [Obj.data_mapDictKeys hd _] at hd'
   cases hd'
   simp only [Array.size_push]; lia
end
end
section
open PyProof.Rows
theorem getI_cons {k g : Int} {u : MV} {r : List (Int × MV)} : getI k ((g, u) :: r) = if g = k then some u else getI k r := rfl
theorem putI_none {k : Int} {v : MV} : ∀ {es : List (Int × MV)}, getI k es = none -> putI k v es = es ++ [(k, v)] /\ ∀ x, getI x (putI k v es) = if x = k then some v else getI x es
  | [], _ => ⟨rfl, fun x => by
      show (if k = x then some v else none) = if x = k then some v else none
      by_cases q : x = k
      · simp [q]
      · simp [q, Ne.symm q]⟩
  | (g, u) :: r, h => by
    rw [getI_cons] at h
    by_cases q : g = k
    · rw [if_pos q] at h; cases h
    · rw [if_neg q] at h
      obtain ⟨i1, i2⟩ := putI_none (v := v) h
      have e : putI k v ((g, u) :: r) = (g, u) :: putI k v r := if_neg q
      refine ⟨by rw [e, i1]; rfl, fun x => ?_⟩
      rw [e, getI_cons, getI_cons, i2 x]
      by_cases w : g = x
      · subst w; simp [q]
      · simp [w]
section
variable {c : Cx} {d : Nat} {P : Bool} {ns : NS} {h0 h h' : Heap} {A : Around} {env : Env} {F F' : FF} {s s' s0 : Shared} {H H' H0 : HH} {X : QX} {Z : Addr -> Prop} {it : Addr} {st st' : ItS} {E : Value -> Shared -> Prop}
theorem IterAt.cls (x : IterAt h it st) : ∃ o n vs, h.get? it = some o /\ o.cls = .type n /\ o.data = .fields vs /\ ["enumerate", "zip", "dict_itemiterator", "dict_reverseitemiterator", "odict_iterator", "itertools.zip_longest", "itertools.pairwise"].contains n = false := by
 cases st with
 | up cur n => exact ⟨_, _, _, x, rfl, rfl, by decide⟩
 | down cur n => exact ⟨_, _, _, x, rfl, rfl, by decide⟩
 | list a i => obtain ⟨o, e1, e2, e3⟩ := x; exact ⟨o, _, _, e1, e2, e3, by decide⟩
 | tuple xs => obtain ⟨t, items, i, ⟨o, e1, e2, e3⟩, _⟩ := x; exact ⟨o, _, _, e1, e2, e3, by decide⟩
 | bytes bs => obtain ⟨b, t, i, ⟨o, e1, e2, e3⟩, _⟩ := x; exact ⟨o, _, _, e1, e2, e3, by decide⟩
theorem owned_sound {t : Expr} {v : Value} {Q : Unit -> Shared -> Prop} (x : IterAt s.heap it st) (h : Q () s) : wpAny c.M A (letOwnedTupleGo t (.ref it) v) Q E s := by
  obtain ⟨o, n, vs, e1, e2, e3, e4⟩ := x.cls
  unfold letOwnedTupleGo
  cases t <;> first
    | exact wpAny_pure h
    | (cases v <;> first
        | exact wpAny_pure h
        | (refine wpAny_bind (wpAny_load e1 ?_)
           rw [e2, e3]
           dsimp only
           rw [e4, Bool.false_and]
           exact wpAny_pure h))
noncomputable def WA (P : Bool) (c : Cx) (A : Around) (env : Env) (ns : NS) (h0 : Heap) (t : Sem Unit) (Q : FF -> HH -> Prop) (X : QX) (s : Shared) (H : HH) : Prop :=
 ∀ (K : Unit -> Shared -> Prop) (E : Value -> Shared -> Prop), (∀ s' H' F', Good c (ZE env) s H s' H' -> FrOK c env ns F' s'.heap H' -> Q F' H' -> K () s') -> KV c (ZE env) s H (XL h0 env X) E -> wpG P c.M A t K E s
theorem put_all (ok : EnvOK env ns) : ∀ {es : List Expr} {is : List Nat} {vs : List Value} {F : FF} {s : Shared} {H : HH} {Q : Unit -> Shared -> Prop}, idxs ns es = some is -> vs.length = is.length -> Rel c s.heap H -> FrOK c env ns F s.heap H ->
  (∀ s', Good c (ZE env) s H s' H -> FrOK c env ns (setLocs is (vs.map era) F) s'.heap H -> Q () s') -> wpAny c.M A (assignInOrder ((assignEach es env).map (·.2)) vs) Q E s
 | [], is, vs, F, s, H, Q, h1, h2, r, f, k => by
  cases h1
  cases vs with
  | nil => exact wpAny_pure (k s (.refl r) f)
  | cons _ _ => simp at h2
 | e :: es, is, vs, F, s, H, Q, h1, h2, r, f, k => idxs_cons h1 fun x p i l q hs e1 e2 q2 => by
  subst q; subst q2
  cases vs with
  | nil => exact absurd h2.symm (Nat.succ_ne_zero _)
  | cons v vs =>
   exact wpAny_bind (m := holding vs (assign (.Name x p) env v)) (f := fun _ => assignInOrder ((assignEach es env).map (·.2)) vs) (wpAny_holding (wpAny_assign_Name (wpAny_mono (name_put ok r f e1 hs) (fun _ s1 q => put_all ok e2 (Nat.succ.inj h2) q.1.rel q.2 fun s2 g2 f2 => k s2 (q.1.trans g2) f2) fun _ _ k => k)))
theorem idxs_star : ∀ {es : List Expr} {is : List Nat}, idxs ns es = some is -> (assignEach es env).length = es.length /\ es.length = is.length /\ (assignEach es env).findIdx? (·.1) = none
 | [], is, h => by cases h; exact ⟨rfl, rfl, rfl⟩
 | e :: es, is, h => idxs_cons h fun x p i l q hs e1 e2 q2 => by
  subst q; subst q2
  obtain ⟨i1, i2, i3⟩ := idxs_star e2
  refine ⟨congrArg (· + 1) i1, congrArg (· + 1) i2, ?_⟩
  show ((false, assign (.Name x p) env) :: assignEach es env).findIdx? (·.1) = none
  rw [List.findIdx?_cons, i3]; rfl
theorem list_store {q : Addr} {xs : List MV} {kk : Int} {t : Tok} {v : Value} {K : Unit -> Shared -> Prop} (r : Rel c s.heap H) (k2 : H q = some (.list xs)) (h3 : 0 <= kk) (h4 : kk < 2 ^ 62) (h5 : kk.toNat < xs.length)
  (k : ∀ s', Good c Z0 s H s' (upd H q (.list (xs.set kk.toNat (era v)))) -> K () s') : wpAny c.M A (setItem (.ref q) (.int kk t) v) K E s := by
 obtain ⟨vs, n, e3, rfl⟩ := r.rep _ _ k2
 rw [arr_len] at h5
 exact list_put e3 h3 (Int.lt_trans h4 (by decide)) ((Int.toNat_lt h3).mp h5) fun h' n' e4 hs => k _ (good_upd (n := s.toks) r k2 (fun _ e => nomatch e) hs ⟨_, _, e4, by simp [List.map_set]⟩ (fun _ _ _ e => nomatch e) (fun _ _ _ e => nomatch e) (by rw [e3]; exact not_tuple (by decide)))
theorem dict_store {q : Addr} {es : List (Int × MV)} {kk : Int} {t : Tok} {v : Value} {K : Unit -> Shared -> Prop} (r : Rel c s.heap H) (k2 : H q = some (.idict es)) (k3 : getI kk es = none) (k4 : es.length <= 1000)
  (k : ∀ s', Good c Z0 s H s' (upd H q (.idict (putI kk (era v) es))) -> K () s') : wpAny c.M A (setItem (.ref q) (.int kk t) v) K E s := by
 obtain ⟨sy, f, hm, q3, hz⟩ := r.rep _ _ k2
 have hf0 : f kk = none := by
  have := q3 kk
  rw [k3] at this
  exact Option.map_eq_none_iff.mp this
 obtain ⟨p1, p2⟩ := putI_none (v := era v) k3
 refine dict_put hm hz k4 hf0 fun h' hm' hz' hs => k _ (good_upd r k2 (fun _ e => nomatch e) hs ⟨sy, _, hm', fun x => ?_, by rw [p1]; simpa using hz'⟩ (fun _ _ _ e => nomatch e) (fun _ _ _ e => nomatch e) ?_)
 ·rw [p2]
  by_cases w : x = kk
  ·rw [if_pos w, if_pos w]; rfl
  ·rw [if_neg w, if_neg w]; exact q3 x
 ·obtain ⟨o, es', ep, e4, ⟨e5, _⟩, _⟩ := hm
  rw [e4]; exact fun o' q => by cases q; rw [e5]; exact ne_type (by decide)
set_option tactic.hygienic true in
theorem asg_sound (b : BaseOK c) {t : Expr} {u : T} (ht : RT ns t u) {v : Value} (x : Cf c d ns h0 A env F s H) {Q : FF -> HH -> Prop} (k : vT (Ca c d P) mtab u (era v) F H Q X) : WA P c A env ns h0 (assign t env v) Q X s H := by
 intro K E hK hE
 cases ht with
 | loc hi hs => exact wpG.of (wpAny_assign_Name (wpAny_mono (name_put (E := fun _ _ => False) x.eok x.rel x.fr hi hs) (fun _ s1 q => hK _ H _ q.1 q.2 k.2) fun _ _ k => k.elim))
 | attr hx hf hr =>
  rename_i l a f n p
  subst hx
  refine wpG.bind (m := holding [v] (eval l env)) (f := fun ov => standAt p.atName >>= fun _ => holding [v, ov] (setAttr ov (fnm f) v) >>= fun _ => release [v, ov] []) (wpG.holding ((sound_E b hr).1 _ _ _ _ _ _ _ _ x k _ _ (fun ov s1 H1 g1 k1 => ?_) hE.all))
  refine wpG.then (wpAny_standAt (ref_el k1 fun q k1 => ch fun G hG => ?_))
  obtain ⟨C, dx, fs, k1, k2, k3⟩ := inst_ex k1
  exact hG (wpG.then (wpAny_holding (wpAny_mono (set_sound (Z := Z0) (E := fun _ _ => False) b g1.rel k1 hf k2) (fun _ s2 g2 => wpG.of (wpAny_release (hK _ _ F (g1.trans g2).all ((x.fr.step g1).step g2) k3))) fun _ _ k => k.elim)))
 | sub hs hr hr2 =>
  rename_i l r a b' p
  rw [assign_Subscript]
  refine wpG.bind (wpG.holding ((sound_E b hr).1 _ _ _ _ _ _ _ _ x k _ _ (fun ov s1 H1 g1 k1 => ?_) hE.all))
  refine wpG.bind (wpG.holding ((sound_E b hr2).1 _ _ _ _ _ _ _ _ (x.step g1) k1 _ _ (fun iv s2 H2 g2 k2 => ?_) (hE.all.go g1)))
  refine wpG.then (wpAny_standAt (ref_el k2 fun q k2 => int_el k2 fun kk t k2 => ch fun G hG => ?_))
  obtain ⟨ob, k2, k3⟩ := some_ex k2
  have f2 := (x.fr.step g1).step g2
  cases ob with
  | list xs => exact hG (wpG.then (wpAny_holding (list_store g2.rel k2 k3.1 k3.2.1 k3.2.2.1 fun s3 g3 => wpG.of (wpAny_release (hK _ _ F ((g1.trans g2).trans g3).all (f2.step g3) k3.2.2.2)))))
  | idict es => exact hG (wpG.then (wpAny_holding (dict_store g2.rel k2 k3.1 k3.2.1 fun s3 g3 => wpG.of (wpAny_release (hK _ _ F ((g1.trans g2).trans g3).all (f2.step g3) k3.2.2)))))
  | _ => exact k3.elim
 | locs hi hl =>
  rename_i es is kk p
  refine ref_el (P := fun v => wpG P c.M A (assign (.Tuple es kk p) env v) K E s) k fun q k => ?_
  obtain ⟨vs, k2, k3, k4, k5⟩ := tup_ex k
  obtain ⟨ws, n, e3, rfl⟩ := x.rel.rep _ _ k2
  obtain ⟨i1, i2, i3⟩ := idxs_star (env := env) hi
  have hlen : ws.toList.length = is.length := by rw [<- k3, List.length_map]
  refine wpG.of (wpAny_assign_Tuple x.hA ⟨_, e3, rfl, n, rfl⟩ (by rw [i1, i2, <- hlen, Array.length_toList]) i3 fun h' he => ?_)
  have g1 : Good c Z0 s H { s with heap := h' } H := good_grow (n := s.toks) x.rel fun b o e => he b o (Nat.ne_of_lt (Heap.lt_size e)) e
  exact put_all x.eok hi hlen g1.rel (x.fr.step g1) fun s2 g2 f2 => hK _ H _ (g1.all.trans g2) f2 k5
end
end
section
open PyProof.Rows
theorem put_comm {F : FF} {i j : Nat} {v w : MV} (h : i ≠ j) : (F.put i v).put j w = (F.put j w).put i v := by
 unfold FF.put; exact List.set_comm _ _ h
theorem setLocs_put : ∀ {is : List Nat} {vs : List MV} {F : FF} {i : Nat} {v : MV}, i ∉ is -> setLocs is vs (F.put i v) = (setLocs is vs F).put i v
 | [], _, _, _, _, _ => rfl
 | _ :: _, [], _, _, _, _ => rfl
 | j :: is, w :: vs, F, i, v, h => by
  show setLocs is vs ((F.put i v).put j w) = (setLocs is vs (F.put j w)).put i v
  rw [put_comm (by rintro rfl; exact h (.head _)), setLocs_put (fun q => h (.tail _ q))]
theorem setLocs_snoc : ∀ {is : List Nat} {vs : List MV} {F : FF} {i : Nat} {v : MV}, is.length = vs.length -> setLocs (is ++ [i]) (vs ++ [v]) F = (setLocs is vs F).put i v
 | [], [], _, _, _, _ => rfl
 | _ :: _, [], _, _, _, h => by simp at h
 | [], _ :: _, _, _, _, h => by simp at h
 | j :: is, w :: vs, F, i, v, h => by
  show setLocs (is ++ [i]) (vs ++ [v]) (F.put j w) = (setLocs is vs (F.put j w)).put i v
  exact setLocs_snoc (by simpa using h)
theorem setLocs_rev : ∀ {is : List Nat} {vs : List MV} {F : FF}, is.Nodup -> is.length = vs.length -> setLocs is.reverse vs.reverse F = setLocs is vs F
 | [], [], _, _, _ => rfl
 | _ :: _, [], _, _, h => by simp at h
 | [], _ :: _, _, _, h => by simp at h
 | i :: is, v :: vs, F, hn, h => by
  rw [List.reverse_cons, List.reverse_cons, setLocs_snoc (by simpa using h), setLocs_rev (List.nodup_cons.mp hn).2 (by simpa using h)]
  exact (setLocs_put (List.nodup_cons.mp hn).1).symm
noncomputable def AllIdx (ns : NS) : List Str -> List Nat -> Prop
 | [], [] => True
 | x :: xs, i :: is => (idx ns x = some i /\ stored (ns.lookup x) = true) /\ AllIdx ns xs is
 | _, _ => False
theorem AllIdx.append {ns : NS} : ∀ {xs ys : List Str} {is js : List Nat}, AllIdx ns xs is -> AllIdx ns ys js -> AllIdx ns (xs ++ ys) (is ++ js)
 | [], _, [], _, _, h => h
 | [], _, _ :: _, _, h, _ => h.elim
 | _ :: _, _, [], _, h, _ => h.elim
 | _ :: _, _, _ :: _, _, h, h2 => ⟨h.1, AllIdx.append h.2 h2⟩
theorem AllIdx.rev {ns : NS} : ∀ {xs : List Str} {is : List Nat}, AllIdx ns xs is -> AllIdx ns xs.reverse is.reverse
 | [], [], _ => trivial
 | [], _ :: _, h => h.elim
 | _ :: _, [], h => h.elim
 | x :: xs, i :: is, h => by rw [List.reverse_cons, List.reverse_cons]; exact h.2.rev.append ⟨h.1, trivial⟩
theorem AllIdx.len {ns : NS} : ∀ {xs : List Str} {is : List Nat}, AllIdx ns xs is -> xs.length = is.length
 | [], [], _ => rfl
 | [], _ :: _, h => h.elim
 | _ :: _, [], h => h.elim
 | x :: xs, i :: is, h => by simp [h.2.len]
noncomputable def nameOf (e : Expr) : Str := isName e (fun x _ => x) fun _ => ⟨#[]⟩
theorem idxs_all {ns : NS} : ∀ {es : List Expr} {is : List Nat}, idxs ns es = some is -> AllIdx ns (es.map nameOf) is /\ ∀ e ∈ es, ∃ x p, e = .Name x p
 | [], is, h => by cases h; exact ⟨trivial, fun _ h => nomatch h⟩
 | e :: es, is, h => idxs_cons h fun x p i l q hs e1 e2 q2 => by
  subst q; subst q2
  obtain ⟨i1, i2⟩ := idxs_all e2
  exact ⟨⟨⟨e1, hs⟩, i1⟩, fun e he => (List.mem_cons.mp he).elim (fun w => ⟨x, p, w⟩) (i2 e)⟩
section
variable {c : Cx} {d : Nat} {P : Bool} {ns : NS} {h0 h h' : Heap} {A : Around} {env : Env} {F F' : FF} {s s' s0 : Shared} {H H' H0 : HH} {X : QX} {Z : Addr -> Prop} {it : Addr} {st st' : ItS} {E : Value -> Shared -> Prop}
theorem put_names (ok : EnvOK env ns) : ∀ {xs : List Str} {is : List Nat} {vs : List Value} {F : FF} {s : Shared} {H : HH} {Q : Unit -> Shared -> Prop}, AllIdx ns xs is -> vs.length = is.length -> Rel c s.heap H -> FrOK c env ns F s.heap H ->
  (∀ s', Good c (ZE env) s H s' H -> FrOK c env ns (setLocs is (vs.map era) F) s'.heap H -> Q () s') -> wpAny c.M A (assignInOrder (xs.map fun n => bindName env n) vs) Q E s
 | [], [], vs, F, s, H, Q, h1, h2, r, f, k => by
  cases vs with
  | nil => exact wpAny_pure (k s (.refl r) f)
  | cons _ _ => simp at h2
 | [], _ :: _, vs, F, s, H, Q, h1, h2, r, f, k => h1.elim
 | _ :: _, [], vs, F, s, H, Q, h1, h2, r, f, k => h1.elim
 | x :: xs, i :: is, vs, F, s, H, Q, h1, h2, r, f, k => by
  cases vs with
  | nil => simp at h2
  | cons v vs =>
   show wpAny c.M A (holding vs (bindName env x v) >>= fun _ => assignInOrder (xs.map fun n => bindName env n) vs) Q E s
   refine wpAny_bind (wpAny_holding (wpAny_bindName (wpAny_mono (name_put ok r f h1.1.1 h1.1.2) (fun _ s1 ⟨g1, f1⟩ => ?_) fun _ _ k => k)))
   exact put_names ok h1.2 (by simpa using h2) g1.rel f1 fun s2 g2 f2 => k s2 (g1.trans g2) f2
variable (c d P) in
noncomputable def SS (ns : NS) (st : Stmt) (m : S) : Prop := ∀ (h0 : Heap) (A : Around) (env : Env) (F : FF) (s : Shared) (H : HH) (Q : QS) (X : QX), Cf c d ns h0 A env F s H -> vS (At c d P ns) mtab m F H Q X ->
 WG P c (ZE env) A (exec st env) (fun f s' H' => QSt c env ns Q f s' H') (XL h0 env X) s H
variable (c d P) in
noncomputable def BS (ns : NS) (b : List Stmt) (m : B) : Prop := ∀ (h0 : Heap) (A : Around) (env : Env) (F : FF) (s : Shared) (H : HH) (Q : QS) (X : QX), Cf c d ns h0 A env F s H -> vB (At c d P ns) mtab m F H Q X ->
 WG P c (ZE env) A (execs b env) (fun f s' H' => QSt c env ns Q f s' H') (XL h0 env X) s H
theorem not_inter (ok : EnvOK env ns) : interactive env = false := by unfold interactive; rw [ok.kind]; rfl
theorem no_swap {e : Expr} (hn : notComp e = true) (t : Option Expr) (l : Nat) : swapsWith e t l env = pure false := by
 cases e <;> first | rfl | cases hn
theorem drop_value {f : Expr} {as : List Expr} {ks : List Keyword} {q p : Pos} {v : Value} {Q : Prop} {K : Flow -> Shared -> Prop} {E : Value -> Shared -> Prop} (k : exG (era v) Q) (h : Q -> K .next s) : wpG P c.M A (dropValue (.Call f as ks q) p v) K E s := by
 have e : dropValue (.Call f as ks q) p v = pure .next /\ Q := by
  cases v with
  | ref a => exact k.elim
  | _ => exact ⟨rfl, (exG_ex k).2.2⟩
 rw [e.1]
 exact wpG.pure (h e.2)
theorem exec_expr {f : Expr} {as : List Expr} {ks : List Keyword} {q p : Pos} (ok : EnvOK env ns) {K : Flow -> Shared -> Prop} {E : Value -> Shared -> Prop} (h : wpG P c.M A (eval (.Call f as ks q) env) (fun v s' => wpG P c.M A (dropValue (.Call f as ks q) p v) K E s') E s) : wpG P c.M A (exec (.Expr (.Call f as ks q) p) env) K E s :=
 wpG.then (m := standAt p) (f := fun _ => if interactive env = true then printExpr (eval (.Call f as ks q) env) else swapsWith (.Call f as ks q) none p.line env >>= fun t => if t = true then (evalThenUse (.Call f as ks q) env (fun _ => point) >>= fun _ => pure .next) else eval (.Call f as ks q) env >>= dropValue (.Call f as ks q) p)
  (wpAny_standAt (bm_false (not_inter ok) (wpG.then (wpAny_of_eq (no_swap rfl none p.line) (bm_false rfl (wpG.bind h))))))
theorem ss_ex (b : BaseOK c) {f as ks q a p} (hr : RE ns (.Call f as ks q) a) : SS c d P ns (.Expr (.Call f as ks q) p) (.ex a) := fun h0 A env F s H Q X x k K E hK hE =>
 exec_expr x.eok ((sound_E b hr).1 _ _ _ _ _ _ _ _ x k _ _ (fun v s1 H1 g1 k1 => drop_value k1 fun k => hK _ _ _ g1.all ⟨.next, F, rfl, x.fr.step g1, k⟩) hE.all)
theorem ss_ret (b : BaseOK c) {e a p} (hr : RE ns e a) : SS c d P ns (.Return (some e) p) (.ret a) := by
 intro h0 A env F s H Q X x k K E hK hE
 rw [show exec (.Return (some e) p) env = (do standAt p; return .ret (<- eval e env)) from rfl]
 exact wpG.then (wpAny_standAt (wpG.bind ((sound_E b hr).1 _ _ _ _ _ _ _ _ x k _ _ (fun v s1 H1 g1 k1 => wpG.pure (hK _ _ _ g1.all ⟨.ret (era v), F, rfl, x.fr.step g1, k1⟩)) hE.all)))
theorem bs_nil : BS c d P ns [] .nil := fun h0 A env F s H Q X x k K E hK hE => wpG.of (wpAny_execs_nil (hK _ _ H (.refl x.rel) ⟨.next, F, rfl, x.fr, k⟩))
theorem bs_cons {st r m b} (h1 : SS c d P ns st m) (h2 : BS c d P ns r b) : BS c d P ns (st :: r) (.cons m b) := by
 intro h0 A env F s H Q X x k K E hK hE
 rw [execs_cons]
 refine wpG.bind (h1 h0 A env F s H _ X x k _ _ (fun f s1 H1 g1 q => ch fun G hG => ?_) hE)
 obtain ⟨fl, F1, e1, f1, k1⟩ := q
 cases f with
 | next => cases e1; exact hG ((h2 h0 A env F1 s1 H1 Q X (x.next g1 f1) k1).from g1 hK hE)
 | ret v => cases e1; exact hG (wpG.pure (hK _ _ H1 g1 ⟨.ret (era v), F1, rfl, f1, k1⟩))
 | _ => cases e1
theorem ss_ife (b : BaseOK c) {cc a x y u v p} (hr : RE ns cc a) (h1 : BS c d P ns x u) (h2 : BS c d P ns y v) : SS c d P ns (.If cc x y p) (.ife a u v) := by
 intro h0 A env F s H Q X z k K E hK hE
 rw [exec_If]
 refine wpG.then (wpAny_standAt (wpG.bind ((sound_E b hr).2 h0 A env F s H _ (fun q H1 => (q = true -> vB (At c d P ns) mtab u F H1 Q X) /\ (q = false -> vB (At c d P ns) mtab v F H1 Q X)) X z (fun t H1 q => q) k _ _ (fun q s1 H1 g1 k1 => ?_) hE.all)))
 cases q with
 | true => exact (h1 h0 A env F s1 H1 Q X (z.step g1) (k1.1 rfl)).from g1.all hK hE
 | false => exact (h2 h0 A env F s1 H1 Q X (z.step g1) (k1.2 rfl)).from g1.all hK hE
theorem own_G {cd : Code} {Q : QS} {s1 : Shared} {H1 : HH} {K : Flow -> Shared -> Prop} {E : Value -> Shared -> Prop} (x : Cf c d ns h0 A env F s H) (g : Good c (ZE env) s H s1 H1) (hc : codeG P c.M A cd (RSt c env ns s H Q X) s1)
  (hK : KV c (ZE env) s H (fun f s' H' => QSt c env ns Q f s' H') K) (hE : KV c (ZE env) s H (XL h0 env X) E) : wpG P c.M A (runOwn cd env) K E s1 := by
 unfold runOwn
 refine wpG.onRaise (wpG.run (codeG.mono hc fun r s2 hr => ?_) (by intro x; cases x))
 cases r with
 | error e => exact hr.elim fun H2 q => wpG.of (own_sound x.rel q.1 q.2 fun s3 g3 n3 _ => hE _ _ H2 g3 (n3.from x.old).xl)
 | ok f => exact hr.elim fun H2 q => hK _ _ H2 q.1 q.2
theorem ss_whl {cc a x u p} (hr : RE ns cc a) (hb : RB ns x u) : SS c d P ns (.While cc x [] p) (.whl a u) := by
 intro h0 A env F s H Q X z k K E hK hE
 rw [exec_While]
 exact wpG.then (wpAny_standAt (own_G z (.refl z.rel) (k A env s s H cc x z.rel (.refl z.rel) z.at hr hb) hK hE))
theorem ss_forr (b : BaseOK c) {t it x u i v p} (ht : RT ns t u) (hi : RI ns it i) (hb : RB ns x v) : SS c d P ns (.For t it x [] p) (.forr u i v) := by
 intro h0 A env F s H Q X z k K E hK hE
 refine wpG.then (m := standAt p) (f := fun _ => eval it env >>= fun w => foldedSetIterable it env w >>= fun w => standAt it.pos >>= fun _ => holding [w] (pyIter w) >>= fun o => runOwn (.forLoop t o x [] env) env) (wpAny_standAt ?_)
 refine wpG.bind (sound_I b hi h0 A env F s H _ X z k _ _ (fun w s1 H1 g1 pi => ?_) hE.all)
 refine wpG.then (wpAny_of_eq (ri_set hi _ _) (wpG.then (wpAny_standAt (wpG.then (wpAny_holding (pi _ _ fun ia st s2 hit nit g2 k2 => ?_))))))
 have z1 := z.step g1
 exact own_G (h0 := h0) (s := s1) (H := H1) z1 g2.all (k2 A env s2 s1 H1 t x ia z1.rel g2.all (z1.step g2 |>.from g2.live) ht hb hit (by rw [nit]; rfl)) (hK.go g1.all) (hE.go g1.all)
end
end
section
open PyProof.Rows
section
variable {c : Cx} {d : Nat} {P : Bool} {ns : NS} {h0 h h' : Heap} {A : Around} {env : Env} {F F' : FF} {s s' s0 : Shared} {H H' H0 : HH} {X : QX} {Z : Addr -> Prop} {it : Addr} {st st' : ItS} {E : Value -> Shared -> Prop}
theorem exec_Asg (t : Expr) (e : Expr) (p : Pos) : exec (.Assign [t] e p) env = (do
  standAt p
  if <- swapsWith e (some t) p.line env then do
   evalThenUse e env fun v => assignAll v ((assignEach [t] env).map (·.2))
   pure .next
  else do
   let v <- eval e env
   assignStores env v (<- swappedStores [t] e env) ((assignEach [t] env).map (·.2))) := rfl
theorem plain_swaps (ok : EnvOK env ns) {t e : Expr} {l : Nat} (h : plainAsg ns t e = true) : swapsWith e (some t) l env = pure false := by
 by_cases hn : notComp e = true
 ·exact no_swap hn _ _
 ·cases e with
  | ListComp elt gens sc p =>
   cases t with
   | Name x q =>
    have hc : ns.lookup x = some .cell := beq_iff_eq.mp h
    have hk := ok.names.cell x hc
    show (pure (env.blockKind == .function && env.kindOf x == some .local && q.line == p.line && !(sc.names.any fun (n, k) => n == x && (k == .local || k == .cell))) : Sem Bool) = _
    rw [show env.kindOf x = some .cell from hk, show ((some NameKind.cell : Option NameKind) == some NameKind.local) = false from rfl, Bool.and_false, Bool.false_and, Bool.false_and]
   | _ => exact Bool.noConfusion h
  | SetComp => exact Bool.noConfusion h
  | DictComp => exact Bool.noConfusion h
  | _ => exact absurd rfl hn
theorem plain_swapped {t e : Expr} (h : plainAsg ns t e = true) : swappedStores [t] e env = pure none := by
 cases t with
 | Tuple => cases e with | Tuple => exact Bool.noConfusion h | _ => rfl
 | List => cases e with | Tuple => exact Bool.noConfusion h | _ => rfl
 | _ => rfl
theorem rt_each {t : Expr} {u : T} (h : RT ns t u) : assignEach [t] env = [(false, assign t env)] := by cases h <;> rfl
theorem exec_asg {t e : Expr} {p : Pos} (hp : plainAsg ns t e = true) (ht : assignEach [t] env = [(false, assign t env)]) (ok : EnvOK env ns) {K : Flow -> Shared -> Prop} {E : Value -> Shared -> Prop} (h : wpG P c.M A (eval e env) (fun v s' => wpG P c.M A (assign t env v) (fun _ s'' => K .next s'') E s') E s) : wpG P c.M A (exec (.Assign [t] e p) env) K E s := by
 rw [exec_Asg, ht]
 exact wpG.then (wpAny_standAt (wpG.then (wpAny_of_eq (plain_swaps ok hp) (bm_false rfl (wpG.bind (wpG.mono h (fun v s1 h => wpG.then (wpAny_of_eq (plain_swapped hp) (wpG.bind (m := assign t env v) (f := fun _ => pure Flow.next) (wpG.mono h (fun _ s2 h => wpG.pure h) fun _ _ k => k)))) fun _ _ k => k))))))
theorem ss_asg (b : BaseOK c) {t e u a p} (hp : plainAsg ns t e = true) (ht : RT ns t u) (hr : RE ns e a) : SS c d P ns (.Assign [t] e p) (.asg u a) := fun h0 A env F s H Q X x k K E hK hE =>
 exec_asg hp (rt_each ht) x.eok ((sound_E b hr).1 _ _ _ _ _ _ _ _ x k _ _ (fun v s1 H1 g1 k1 => asg_sound b ht (x.step g1) (njG_ex k1).2 _ _ (fun s2 H2 F2 g2 f2 k2 => hK _ _ H2 (g1.all.trans g2) ⟨.next, F2, rfl, f2, k2⟩) (hE.go g1.all)) hE.all)
theorem FrOK.butL {L : Addr} (f : FrOK c env ns F h H) (nl : env.locals ≠ L) (nc : ∀ x a, env.cells.lookup x = some a -> (∃ cv, h.IsCell a cv) -> a ≠ L) (k : ∀ b o, b ≠ L -> h.get? b = some o -> h'.get? b = some o) : FrOK c env ns F h' H := by
 refine ch fun g_ h_ => ?_
 obtain ⟨m, hn, hm⟩ := f.loc
 obtain ⟨o, es, ep, ho, hd, hk⟩ := hn
 refine h_ ?_
 have e := k _ o nl ho
 refine ⟨f.len, ⟨m, ⟨_, es, ep, e, hd, hk⟩, hm⟩, f.lout, f.lnew, fun o' e' => by rw [e] at e'; cases e'; exact f.ltup o ho, fun i x hi hx => ?_, f.cinj⟩
 refine ch fun g_ h_ => ?_
 obtain ⟨a, cv, h1, ⟨co, h2, h3⟩, h4, h5, h6, h7⟩ := f.cell i x hi hx
 refine h_ ?_
 have e' := k _ co (nc x a h1 ⟨cv, co, h2, h3⟩) h2
 exact ⟨a, cv, h1, ⟨_, e', h3⟩, h4, h5, fun o' e2 => by rw [e'] at e2; cases e2; exact h6 co h2, h7⟩
theorem swap_local (ok : EnvOK env ns) {n : Str} {q pp : Pos} {l : Nat} {elt : Expr} {gens : List Comprehension} {sc : Scope} {p : Pos} (hp : compAsg ns (.Name n q) (.ListComp elt gens sc pp) = true) (hl : l = p.line) :
  ns.lookup n = some .local /\ swapsWith (.ListComp elt gens sc pp) (some (.Name n q)) l env = pure true := by
 unfold compAsg at hp
 simp only [Bool.and_eq_true, beq_iff_eq] at hp
 obtain ⟨⟨hl, hq⟩, hs⟩ := hp
 refine ⟨hl, ?_⟩
 show (pure (env.blockKind == .function && env.kindOf n == some .local && q.line == pp.line && !(sc.names.any fun (m, k) => m == n && (k == .local || k == .cell))) : Sem Bool) = _
 rw [show env.kindOf n = some .local from ok.names.loc n hl, hs, hq]
 unfold Env.blockKind
 rw [ok.kind]
 simp [ScopeKind.isAnnotationScope]
theorem use_local (x : Cf c d ns h0 A env F s H) {n : Str} {q : Pos} {i : Nat} (hi : idx ns n = some i) (hl : ns.lookup n = some .local) {cc L : Addr} {s2 : Shared} {H2 : HH} {K : Unit -> Shared -> Prop} {E : Value -> Shared -> Prop} (g : Good c Z0 s H s2 H2) (nL : (s.heap.get? L).isSome = false)
  (hn : ∃ m, s2.heap.Ns L m) (lo : Out H2 L) (lt : ∀ o, s2.heap.get? L = some o -> o.cls ≠ .type "tuple") (k : ∀ s4, Good c (ZE env) s H s4 H2 -> FrOK c env ns (F.put i (.ref cc)) s4.heap H2 -> K () s4) :
  wpG P c.M A (assignAll (.ref cc) ([(false, assign (.Name n q) env)].map (·.2))) (fun _ s3 => Gone L (fun s4 => K () s4) s3) E s2 := by
 have f2 := x.fr.step g
 have lne : env.locals ≠ L := fun w => by
  refine ch fun g_ h_ => ?_
  obtain ⟨m, ⟨o, es, ep, ho, _⟩, _⟩ := x.fr.loc
  refine h_ ?_
  rw [w] at ho; rw [ho] at nL; cases nL
 refine wpG.of (wpAny_assign_Name (wpAny_mono (local_put (E := fun _ _ => False) x.eok g.rel f2 hi hl) (fun _ s3 q3 => ?_) fun _ _ k => k.elim))
 refine ch fun g_ h_ => ?_
 obtain ⟨g3, f3⟩ := q3
 obtain ⟨m, o, es, ep, ho, hd, hk⟩ := hn
 obtain ⟨sl, e3, _⟩ := g3.kept L o (fun w => lne w.symm) ho lo
 refine h_ ?_
 refine ⟨m, ⟨_, es, ep, e3, hd, hk⟩, fun h' m' hn' hs => k _ ?_ (f3.butL lne (fun y a' _ q w => ?_) (same_keep hs))⟩
 ·refine good_fresh (n := s3.toks) (g.all.trans (g3.weak fun _ _ w => .inl w)) nL (x.rel.newb (by cases q : s.heap.get? L with | none => rfl | some o => rw [q] at nL; cases nL)) lo (same_keep hs) fun o' q => ?_
  rw [e3] at q; cases q; exact lt o ho
 ·obtain ⟨cv, co, q1, q2⟩ := q
  rw [w, e3] at q1; cases q1
  rw [hd] at q2; cases q2
theorem asgC_core (b : BaseOK c) {n : Str} {q0 : Pos} {i0 : Nat} (hi0 : idx ns n = some i0) {elt it : Expr} {a : Mine.E} {x : Str} {q pp p : Pos} {rest : List Comprehension} {sc : Scope} {i : Nat} {t : IT} {inner : Option (Nat × IT)}
  (hp : compAsg ns (.Name n q0) (.ListComp elt (⟨.Name x q, it, [], 0⟩ :: rest) sc pp) = true)
  (hin : match inner with | none => rest = [] | some (v2, im) => ∃ x2 q2 it2, rest = [⟨.Name x2 q2, it2, [], 0⟩] /\ RI sc.names it2 im /\ idx sc.names x2 = some v2 /\ sc.names.lookup x2 = some .local)
  (hc : compOk ns sc = true) (hi : idx sc.names x = some i) (ho : ownName sc.names x = true) (ht : RI ns it t) (hr : RE sc.names elt a) (y : Cf c d ns h0 A env F s H) {Q : QS}
  (k : vIT (Ca c d P) mtab t F H (fun st H1 => ∀ cc, H1 cc = none -> CompS c d P a i inner st cc (mapF F (mapOf ns sc.names)) (upd H1 cc (.list [])) (fun _ H2 => njG (.ref cc) (vT (Ca c d P) mtab (.loc i0) (.ref cc) F H2 (fun F' H' => Q .next F' H') X)) X) X)
  : WG P c (ZE env) A (exec (.Assign [.Name n q0] (.ListComp elt (⟨.Name x q, it, [], 0⟩ :: rest) sc pp) p) env) (fun f s' H' => QSt c env ns Q f s' H') (XL h0 env X) s H := by
 intro K E hK hE
 obtain ⟨hl, sw⟩ := swap_local (p := p) y.eok hp rfl
 rw [exec_Asg]
 refine wpG.then (wpAny_standAt (wpG.then (wpAny_of_eq sw (bm_true rfl (wpG.bind ?_)))))
 refine wpG.bind (comp_sound b (use := some _) (K := fun v H2 => njG v (vT (Ca c d P) mtab (.loc i0) v F H2 (fun F' H' => Q .next F' H') X)) (R := fun _ s4 => wpG P c.M A (pure PUnit.unit) _ _ s4) hin hc hi ho (ri_set ht) (sound_I b ht) hr y k
  (fun cc L s2 H2 g kk nL hn lo lt => use_local (K := fun _ s4 => wpG P c.M A (pure PUnit.unit) (fun _ s5 => wpG P c.M A (pure Flow.next) K E s5) E s4) y hi0 hl g nL hn lo lt fun s4 g4 f4 => wpG.pure (wpG.pure (hK _ _ H2 g4 ⟨.next, _, rfl, f4, kk.2⟩))) fun e s2 H2 g k => hE _ _ H2 g.all (k.from y.old))
theorem ss_asgC (b : BaseOK c) {n q i e a p} (hp : compAsg ns (.Name n q) e = true) (hi : idx ns n = some i) (hr : CV ns e a) : SS c d P ns (.Assign [.Name n q] e p) (.asg (.loc i) a) := by
 cases hr with
 | one hc hi' ho ht ha => exact fun h0 A env F s H Q X x k => asgC_core b hi hp (inner := none) rfl hc hi' ho ht ha x k
 | two hc hi' ho hi2 ho2 ht ht2 ha => exact fun h0 A env F s H Q X x k => asgC_core b hi hp (inner := some (_, _)) ⟨_, _, _, rfl, ht2, hi2, own_local ho2⟩ hc hi' ho ht ha x k
end
end
section
open PyProof.Rows
theorem filter_names {f : Expr -> Option Str} (hf : ∀ x p, f (.Name x p) = some x \/ f (.Name x p) = none) : ∀ {ts : List Expr}, (∀ e ∈ ts, ∃ x p, e = Expr.Name x p) -> (ts.filterMap f).length = ts.length -> ts.filterMap f = ts.map nameOf
 | [], _, _ => rfl
 | t :: ts, h, hl => by
  obtain ⟨x, p, rfl⟩ := h t (.head _)
  have h' := fun e he => h e (.tail _ he)
  rcases hf x p with q | q
  ·rw [List.filterMap_cons_some q] at hl ⊢
   rw [filter_names hf h' (by simpa using hl)]; rfl
  ·rw [List.filterMap_cons_none q] at hl
   have := List.length_filterMap_le f ts
   simp at hl; lia
section
variable {c : Cx} {d : Nat} {P : Bool} {ns : NS} {h0 h h' : Heap} {A : Around} {env : Env} {F F' : FF} {s s' s0 : Shared} {H H' H0 : HH} {X : QX} {Z : Addr -> Prop} {it : Addr} {st st' : ItS} {E : Value -> Shared -> Prop}
theorem alt {α : Type} {c : Prop} [Decidable c] {a b x y : α} (h1 : c -> a = x) (h2 : ¬ c -> b = x \/ b = y) : ite c a b = x \/ ite c a b = y := by
 by_cases h : c
 ·rw [if_pos h]; exact .inl (h1 h)
 ·rw [if_neg h]; exact h2 h
theorem or_bne {a b c d : Nat} (h : ¬ (a != b || c != d) = true) : a = b := by
 by_cases q : a = b
 ·exact q
 ·exact absurd (by rw [bne_iff_ne.mpr q]; rfl) h
theorem swapped_form {ts es : List Expr} {is : List Nat} {k1 k2 : Nat} {p1 p2 : Pos} (hi : idxs ns ts = some is) (hc : es.all (constantsAlone 8) = true -> es.all (foldedForSure 8) = true) :
  swappedStores [.Tuple ts k1 p1] (.Tuple es k2 p2) env = pure none \/ swappedStores [.Tuple ts k1 p1] (.Tuple es k2 p2) env = pure (some (ts.map nameOf)) := by
 unfold swappedStores
 refine alt (fun _ => rfl) fun _ => alt (fun _ => rfl) fun _ => alt (fun _ => rfl) fun h3 => alt (fun _ => rfl) fun h4 => ?_
 ·rw [if_neg fun h5 => h4 (hc h5)]
  right
  rw [filter_names (fun x p => ?_) (idxs_all hi).2 (or_bne h3)]
  by_cases q : (env.kindOf x == some .local && p.line == (ts.head?.map (·.pos.line)).getD 0) = true
  ·left; simp [q]
  ·right; simp [q]
theorem asg2_go (x : Cf c d ns h0 A env F s H) {ts es : List Expr} {is : List Nat} {t1 t2 : Nat} {p1 p2 : Pos} (hi : idxs ns ts = some is) (hnd : is.Nodup) (hc : es.all (constantsAlone 8) = true -> es.all (foldedForSure 8) = true) {vs : List Value} (hl : vs.length = is.length)
  {K : Flow -> Shared -> Prop} {E : Value -> Shared -> Prop} (k : ∀ s3, Good c (ZE env) s H s3 H -> FrOK c env ns (setLocs is (vs.map era) F) s3.heap H -> K .next s3) :
  wpG P c.M A (swappedStores [.Tuple ts t1 p1] (.Tuple es t2 p2) env >>= fun w => assignStores env (.ref s.heap.objs.size) w ((assignEach [.Tuple ts t1 p1] env).map (·.2))) K E { s with heap := s.heap.push (seqObj "tuple" vs.toArray 0) } := by
 have g2 : Good c Z0 s H { s with heap := s.heap.push (seqObj "tuple" vs.toArray 0) } H := good_push (n := s.toks) x.rel
 have x2 := x.step g2
 have ht : ({ s with heap := s.heap.push (seqObj "tuple" vs.toArray 0) } : Shared).heap.IsTuple s.heap.objs.size vs.toArray := ⟨_, Heap.get?_push_size _ rfl, rfl, 0, rfl⟩
 have grow : ∀ h', (∀ b o, b ≠ (s.heap.push (seqObj "tuple" vs.toArray 0)).objs.size -> (s.heap.push (seqObj "tuple" vs.toArray 0)).get? b = some o -> h'.get? b = some o) -> Good c Z0 { s with heap := s.heap.push (seqObj "tuple" vs.toArray 0) } H { s with heap := h' } H :=
  fun h' he => good_grow (s := { s with heap := s.heap.push (seqObj "tuple" vs.toArray 0) }) (n := s.toks) g2.rel fun b o e => he b o (Nat.ne_of_lt (Heap.lt_size e)) e
 obtain ⟨a1, a2⟩ := idxs_all hi
 have hil := a1.len
 rw [List.length_map] at hil
 rcases swapped_form (env := env) (k1 := t1) (k2 := t2) (p1 := p1) (p2 := p2) hi hc with hw | hw
 ·refine wpG.then (wpAny_of_eq hw ?_)
  obtain ⟨i1, i2, i3⟩ := idxs_star (env := env) hi
  refine wpG.then (m := assign (.Tuple ts t1 p1) env (.ref s.heap.objs.size)) (f := fun _ => pure Flow.next) (wpAny_assign_Tuple x.hA ht (by rw [i1, hil, <- hl]; rfl) i3 fun h' he => ?_)
  exact put_all x.eok hi hl (grow h' he).rel (x2.fr.step (grow h' he)) fun s4 g4 f4 => wpG.pure (k s4 ((g2.trans (grow h' he)).all.trans g4) f4)
 ·refine wpG.then (wpAny_of_eq hw ?_)
  refine wpG.then (m := rule "assign.swapped-stores") (f := fun _ => unpackItems (.ref s.heap.objs.size) (ts.map nameOf).length none >>= fun items => assignInOrder ((ts.map nameOf).reverse.map fun n => bindName env n) items.reverse >>= fun _ => pure Flow.next) (wpAny_rule ?_)
  rw [show (ts.map nameOf).length = vs.toArray.size by rw [List.length_map, hil, <- hl]; rfl]
  refine wpG.then (wpAny_unpackItems_tuple x.hA ht fun h' he => ?_)
  refine wpG.then (put_names x.eok a1.rev (by simp [hl]) (grow h' he).rel (x2.fr.step (grow h' he)) fun s4 g4 f4 => wpG.pure (k s4 ((g2.trans (grow h' he)).all.trans g4) ?_))
  rw [show (vs.toArray.toList.reverse.map era) = (vs.map era).reverse by simp, setLocs_rev hnd (by simp [hl])] at f4
  exact f4
theorem ss_asg2 (b : BaseOK c) {ts es is l p t1 p1 t2 p2} (hi : idxs ns ts = some is) (hl : ts.length < 10) (hnd : is.Nodup) (hn : ts.length = es.length) (hc : es.all (constantsAlone 8) = true -> es.all (foldedForSure 8) = true) (hr : RL ns es l) :
  SS c d P ns (.Assign [.Tuple ts t1 p1] (.Tuple es t2 p2) p) (.asg2 is l) := by
 intro h0 A env F s H Q X x k K E hK hE
 rw [exec_Asg]
 refine wpG.then (wpAny_standAt (wpG.then (wpAny_of_eq (no_swap rfl _ _) (bm_false rfl (wpG.bind ?_)))))
 rw [arm_eval_Tuple]
 refine wpG.then (wpAny_standAt (wpG.bind (sound_L b hr h0 A env F s H _ X p2 x k _ _ (fun vs s1 H1 g1 kk => ?_) hE.all)))
 obtain ⟨hvl, k1, _, _, k3⟩ := kk
 rw [List.length_map] at k1
 exact wpG.of (wpAny_newTuple (asg2_go (x.step g1) hi hnd hc k1 fun s3 g3 f3 => hK _ _ H1 (g1.all.trans g3) ⟨.next, _, rfl, f3, k3⟩) (by rw [hvl, <- hn]; exact Nat.le_trans (Nat.le_of_lt hl) (Nat.le_of_ble_eq_true rfl)))
theorem note_loop (cf : Cf c d ns h0 A env F s H) {s0 s1 : Shared} {H0 H1 : HH} {e : Value} {E E' : Value -> Shared -> Prop} (g : Good c (ZE env) s0 H0 s H) (g1 : Good c (ZE env) s H s1 H1) (x : XL s.heap env X e s1 H1)
  (k : ∀ e s' H', Good c (ZE env) s0 H0 s' H' -> Noted s0.heap env X e s' H' -> E' e s') : wpAny c.M A (noteFrame e env) (fun _ s2 => E' e s2) E s1 := by
 obtain ⟨e0, l, h1, h2, h3⟩ := cf.stk
 exact wpAny_mono (note_sound cf.rel g1 h1 (h2.step g1) h3 x) (fun _ s4 q => k _ _ H1 (g.trans q.1) (q.2.1.from g.live)) fun _ _ k => k
theorem while_step (b : BaseOK c) {cm : Mine.E} {bm : B} {Q : QS} (k : vE (Ca c d P) mtab cm F H (fun t H1 => isB t (vB (At c d P ns) mtab bm F H1 (fun fl F2 H2 => match fl with | .next => WhlS c d P ns cm bm F2 H2 Q X | .ret v => Q (.ret v) F2 H2) X) (Q .next F H1)) X)
  (hB : ∀ {body}, RB ns body bm -> BS c d P ns body bm) : WhlS c d P ns cm bm F H Q X := by
 intro A env s s0 H0 test body r0 g cf hr hb
 refine codeG.K rfl fun K E hd ha he => ?_
 replace he : ∀ e s' H', Good c (ZE env) s0 H0 s' H' -> Noted s0.heap env X e s' H' -> E e s' := fun e s' H' a b => he e s' ⟨H', a, b⟩
 refine notedG (m := whileTurn test body [] env) ?_
 unfold whileTurn
 refine wpG.bind ((sound_E b hr).2 s.heap A env F s H _ _ X cf.at (fun t H1 q => q) k _ _ (fun q s1 H1 g1 k1 => ?_) fun e s1 H1 g1 x1 => note_loop cf.at g g1.all x1 he)
 have cf1 := (cf.at.step g1)
 cases q with
 | false => exact bm_false rfl (wpG.of (wpAny_bind (wpAny_execs_nil (wpAny_pure (hd _ _ ⟨H1, g.trans g1.all, .next, F, rfl, cf1.fr, k1.2 rfl⟩)))))
 | true =>
  refine bm_true rfl (wpG.bind (hB hb s.heap A env F s1 H1 _ X cf1 (k1.1 rfl) _ _ (fun f s2 H2 g2 q2 => ch fun G hG => ?_) fun e s2 H2 g2 x2 => note_loop cf.at g (g1.all.trans g2) x2 he))
  obtain ⟨fl, F2, e2, f2, k2⟩ := q2
  have gg := (g.trans g1.all).trans g2
  cases f with
  | next => cases e2; exact hG (wpG.pure (ha _ _ rfl (k2 A env s2 s0 H0 test body r0 gg ((cf1.next g2 f2).from gg.live) hr hb)))
  | ret v => cases e2; exact hG (wpG.pure (hd _ _ ⟨H2, gg, .ret (era v), F2, rfl, f2, k2⟩))
  | _ => cases e2
theorem ze_iter (cf : Cf c d ns h0 A env F s H) (hit : IterAt s.heap it st) : ¬ ZE env it := fun w => by
 rcases w with w | ⟨x, w⟩
 ·exact iter_ne hit (cf.fr.loc.imp fun m q => q.1) w
 ·obtain ⟨j, e1, e2⟩ := cf.eok.cells x _ w
  obtain ⟨a, cv, q1, ⟨co, q2, q3⟩, _⟩ := cf.fr.cell j x e1 e2
  rw [w] at q1; cases q1
  obtain ⟨oi, vs, ei, di, _⟩ := hit.obj
  rw [ei] at q2; cases q2; rw [di] at q3; cases q3
theorem for_step (b : BaseOK c) {t : T} {bm : B} {Q : QS} {n : Option (MV × ItS)} (hn : nextOf H st = some n)
  (k : match n with | none => Q .next F H | some (mv, st') => vT (Ca c d P) mtab t mv F H (fun F1 H1 => vB (At c d P ns) mtab bm F1 H1 (fun fl F2 H2 => match fl with | .next => ForS c d P ns t bm st' F2 H2 Q X | .ret v => Q (.ret v) F2 H2) X) X)
  (hB : ∀ {body}, RB ns body bm -> BS c d P ns body bm) : ForS c d P ns t bm st F H Q X := by
 intro A env s s0 H0 tgt body it r0 g cf ht hb hit nit
 have hbi : c.hb.get? it = none := r0.newb (by cases w : s0.heap.get? it with | none => rfl | some o => rw [w] at nit; cases nit)
 refine codeG.K rfl fun K E hd ha he => ?_
 replace he : ∀ e s' H', Good c (ZE env) s0 H0 s' H' -> Noted s0.heap env X e s' H' -> E e s' := fun e s' H' a b => he e s' ⟨H', a, b⟩
 refine notedG (m := forTurn tgt (.ref it) body [] env) ?_
 unfold forTurn
 refine wpG.then (wpAny_standAt (wpG.bind (wpG.onRaise (wpG.of (next_sound cf.hA g nit hit hbi hn fun r s1 g1 keep nx => ch fun G hG => ?_)))))
 cases n with
 | none =>
  obtain rfl : r = none := nx
  refine hG (wpG.pure (ha _ _ rfl (codeG.K rfl fun K' E' hd' ha' he' => ?_)))
  exact wpG.of (wpAny_bind (wpAny_onRaise (wpAny_execs_nil (wpAny_pure (hd' _ _ ⟨H, g1, .next, F, rfl, cf.fr.but hit keep, k⟩)))))
 | some w =>
  obtain ⟨mv, st'⟩ := w
  obtain ⟨val, rfl, rfl, hit1⟩ := nx
  have gn := good_next g g1 hit hit1 hbi keep
  have cf1 : Cf c d ns s1.heap A env F s1 H := (cf.next gn (cf.fr.stepF gn (nxt_not (env := env) (h' := s1.heap) hit))).at
  refine hG (wpG.then (owned_sound hit1 (wpG.bind (asg_sound b ht cf1 k _ _ (fun s2 H2 F2 g2 f2 k2 => ?_) fun e s2 H2 g2 x2 => note_loop cf1 g1 g2 x2 he))))
  have cf2 := cf1.next g2 f2
  refine wpG.bind (hB hb s1.heap A env F2 s2 H2 _ X cf2 k2 _ _ (fun f s3 H3 g3 q3 => ch fun G hG => ?_) fun e s3 H3 g3 x3 => note_loop cf1 g1 (g2.trans g3) x3 he)
  obtain ⟨fl, F3, e3, f3, k3⟩ := q3
  have g13 := g2.trans g3
  have gg := g1.trans g13
  cases f with
  | next => cases e3; exact hG (wpG.pure (ha _ _ rfl (k3 A env s3 s0 H0 tgt body it r0 gg ((cf2.next g3 f3).from gg.live) ht hb (hit1.step cf1.rel g13 (ze_iter cf1 hit1)) nit)))
  | ret v => cases e3; exact hG (wpG.pure (hd _ _ ⟨H3, gg, .ret (era v), F3, rfl, f3, k3⟩))
  | _ => cases e3
end
end
section
open PyProof.Rows
theorem idx_nodup : ∀ {ns : NS} {k : Nat} {x : Str} {kd : NameKind}, (ns.map (·.1)).Nodup -> ns[k]? = some (x, kd) -> idx ns x = some k /\ ns.lookup x = some kd
 | [], k, x, kd, _, h => by simp at h
 | (n, k0) :: r, 0, x, kd, hn, h => by
  simp at h
  obtain ⟨rfl, rfl⟩ := h
  exact ⟨by simp [idx, List.findIdx?_cons], by simp⟩
 | (n, k0) :: r, k + 1, x, kd, hn, h => by
  rw [List.map_cons, List.nodup_cons] at hn
  have h' : r[k]? = some (x, kd) := by simpa using h
  obtain ⟨i1, i2⟩ := idx_nodup hn.2 h'
  have ne : n ≠ x := fun w => hn.1 (by rw [w]; exact List.mem_map.mpr ⟨(x, kd), List.mem_of_getElem? h', rfl⟩)
  refine ⟨?_, ?_⟩
  ·unfold idx at i1 ⊢
   rw [List.findIdx?_cons, if_neg (by simpa using ne), i1]; rfl
  ·rw [List.lookup_cons]
   have : (x == n) = false := by simpa using (Ne.symm ne)
   rw [this]; exact i2
set_option tactic.hygienic true in
theorem cells_mem : ∀ (names : NS) (n : Nat) (acc : List (Str × Addr)) {x : Str} {a : Addr}, (x, a) ∈ cellsFrom n names acc -> (x, a) ∈ acc \/ (x, NameKind.cell) ∈ names
 | [], n, acc, x, a, h => .inl h
 | (nm, kd) :: r, n, acc, x, a, h => by
  unfold cellsFrom at h
  split at h
  ·rename_i hk
   have hk : kd = .cell := by simpa using hk
   rcases cells_mem r _ _ h with q | q
   ·rcases List.mem_cons.mp q with q | q
    ·cases q; subst hk; exact .inr (.head _)
    ·exact .inl q
   ·exact .inr (.tail _ q)
  ·rcases cells_mem r _ _ h with q | q
   ·exact .inl q
   ·exact .inr (.tail _ q)
theorem cells_keep : ∀ (names : NS) (n : Nat) (acc : List (Str × Addr)) {x : Str}, (acc.lookup x).isSome = true -> ((cellsFrom n names acc).lookup x).isSome = true
 | [], n, acc, x, h => h
 | (nm, kd) :: r, n, acc, x, h => by
  unfold cellsFrom
  split
  ·refine cells_keep r _ _ ?_
   rw [List.lookup_cons]
   split
   ·rfl
   ·exact h
  ·exact cells_keep r _ _ h
theorem cells_some : ∀ (names : NS) (n : Nat) (acc : List (Str × Addr)) {x : Str}, (x, NameKind.cell) ∈ names -> ((cellsFrom n names acc).lookup x).isSome = true
 | [], n, acc, x, h => nomatch h
 | (nm, kd) :: r, n, acc, x, h => by
  unfold cellsFrom
  rcases List.mem_cons.mp h with q | q
  ·cases q
   rw [if_pos (by decide)]
   exact cells_keep r _ _ (by simp)
  ·split
   ·exact cells_some r _ _ q
   ·exact cells_some r _ _ q
theorem push_old {h : Heap} {o : Obj} {b : Addr} (l : b < h.objs.size) : (h.push o).get? b = h.get? b := by
 unfold Heap.get?
 rw [show (h.push o).objs[b]? = h.objs[b]? from by show (h.objs.push o)[b]? = _; rw [Array.getElem?_push, if_neg (Nat.ne_of_lt l)]]
theorem pushCells_obj : ∀ (names : NS) (h : Heap) (b : Addr) (o : Obj), (pushCells h names).get? b = some o -> h.get? b = some o \/ o = { cls := .type "cell", data := .cell none }
 | [], h, b, o, e => .inl e
 | (nm, kd) :: r, h, b, o, e => by
  unfold pushCells at e
  split at e
  ·rcases pushCells_obj r _ b o e with q | q
   ·by_cases w : b = h.objs.size
    ·subst w
     rw [Heap.get?_push_size h (o := { cls := .type "cell", data := .cell none }) rfl] at q
     exact .inr (Option.some.inj q).symm
    ·left
     cases z : h.get? b with
     | some o' => rw [Heap.get?_push_of_some _ z] at q; exact q
     | none =>
      exfalso
      have := Heap.lt_size q
      rw [Heap.size_push] at this
      have lt : b < h.objs.size := Nat.lt_of_le_of_ne (Nat.le_of_lt_succ this) w
      rw [push_old lt] at q
      rw [z] at q; cases q
   ·exact .inr q
  ·exact pushCells_obj r h b o e
noncomputable def argF (ns : NS) (vs : List MV) : FF := vs.map some ++ List.replicate (ns.length - vs.length) none
theorem argF_put {ns : NS} {vs : List MV} {v : MV} (h : vs.length < ns.length) : (argF ns vs).put vs.length v = argF ns (vs ++ [v]) := by
 show (vs.map some ++ List.replicate (ns.length - vs.length) (none : Option MV)).set vs.length (some v) = (vs ++ [v]).map some ++ List.replicate (ns.length - (vs ++ [v]).length) none
 obtain ⟨k, hk⟩ := Nat.exists_eq_add_of_lt h
 rw [hk, List.set_append_right _ _ (by simp), Nat.add_assoc, Nat.add_sub_cancel_left, List.length_append, <- Nat.add_assoc, show vs.length + k + 1 - (vs.length + [v].length) = k from (Nat.add_sub_add_right ..).trans (Nat.add_sub_cancel_left ..)]
 simp [List.replicate_succ]
theorem argF_nil {ns : NS} {i : Nat} : (argF ns []).get i = none := by
 show ((List.replicate (ns.length - 0) (none : Option MV))[i]?).join = none
 rw [List.getElem?_replicate]
 split <;> rfl
section
variable {c : Cx} {d : Nat} {P : Bool} {ns : NS} {h0 h h' : Heap} {A : Around} {env : Env} {F F' : FF} {s s' s0 : Shared} {H H' H0 : HH} {X : QX} {Z : Addr -> Prop} {E : Value -> Shared -> Prop}
theorem bind_all (ok : EnvOK env ns) (hn : (ns.map (·.1)).Nodup) (f : Str × Value -> PUnit -> Sem (ForInStep PUnit)) (hf : ∀ n v u, f (n, v) u = (do storeName env n v; pure (.yield ⟨⟩))) :
    ∀ (done : List MV) (vals : List Value) (rest : NS) (s : Shared) (Q : PUnit -> Shared -> Prop), ns.drop done.length = rest -> vals.length <= rest.length -> (∀ p ∈ rest.take vals.length, stored (some p.2) = true) -> Rel c s.heap H -> FrOK c env ns (argF ns done) s.heap H ->
      (∀ s', Good c (ZE env) s H s' H -> FrOK c env ns (argF ns (done ++ vals.map era)) s'.heap H -> Q ⟨⟩ s') -> wpAny c.M A (forIn ((rest.map (·.1)).zip vals) ⟨⟩ f) Q E s
  | done, [], rest, s, Q, _, _, _, r, fr, k => by
    rw [List.zip_nil_right, List.forIn_nil]
    exact wpAny_pure (k s (.refl r) (by simpa using fr))
  | done, v :: vals, [], s, Q, _, hl, _, r, fr, k => by simp at hl
  | done, v :: vals, (x, kd) :: rest, s, Q, hd, hl, hs, r, fr, k => by
    have hx : ns[done.length]? = some (x, kd) := by
      have := congrArg (fun l => l[0]?) hd
      simpa using this
    obtain ⟨i1, i2⟩ := idx_nodup hn hx
    have hlt : done.length < ns.length := (List.getElem?_eq_some_iff.mp hx).1
    show wpAny c.M A (forIn ((x, v) :: (rest.map (·.1)).zip vals) ⟨⟩ f) Q E s
    rw [List.forIn_cons, hf]
    refine wpAny_bind (wpAny_bind (wpAny_mono (name_put ok r fr i1 (by rw [i2]; exact hs (x, kd) (.head _))) (fun _ s1 ⟨g1, f1⟩ => wpAny_pure ?_) fun _ _ k => k))
    rw [argF_put hlt] at f1
    refine bind_all ok hn f hf (done ++ [era v]) vals rest s1 Q ?_ (by simpa using hl) (fun p hp => hs p (.tail _ hp)) g1.rel f1 fun s2 g2 f2 => k s2 (g1.trans g2) (by simpa using f2)
    rw [List.length_append, <- List.drop_drop, hd]; rfl
theorem env_sound (b : BaseOK c) {scope : Scope} {globals builtins : Addr} {vals : List Value} {qual : Str} {func : Option Addr} {code : Value} {n : Nat} (hns : scope.names = ns) (hk : scope.kind = .function) (hg : globals = mainGlobals) (hb : builtins = builtinsNs)
  (hn : (ns.map (·.1)).Nodup) (hf : ∀ p ∈ ns, p.2 ≠ .free) (hp : ∀ p ∈ ns.take n, stored (some p.2) = true) (hv : vals.length = n) (hle : n <= ns.length) (r : Rel c s.heap H) :
  wpAny c.M A (newFunctionEnv scope globals [] ((ns.map (·.1)).zip vals) qual func code none builtins) (fun env s2 => Good c Z0 s H s2 H /\ FrOK c env ns (argF ns (vals.map era)) s2.heap H /\ EnvOK env ns /\ env.frame = some env.locals /\ FrmAt s2.heap env.locals /\
   (∀ b, ZE env b -> s.heap.get? b = none)) E s := by
 subst hg hb
 have names_of : ∀ {x : Str} {kd : NameKind}, (x, kd) ∈ ns -> ∃ i, idx ns x = some i /\ ns.lookup x = some kd := fun {x kd} hm => by
  obtain ⟨i, e⟩ := List.getElem?_of_mem hm
  exact ⟨i, idx_nodup hn e⟩
 simp only [newFunctionEnv, Option.isSome_none, Bool.false_eq_true, if_false]
 refine wpAny_bind (wpAny_alloc ?_)
 refine wpAny_bind (wpAny_layCells _ (fun name kind cells => by cases hkc : kind == NameKind.cell <;> simp [hkc]) _ _ _ _ ?_)
 have ok := cellsFrom_ok scope.names (s.heap.push { cls := .type "frame", data := .dict #[] }) (s.heap.objs.size + 1) [] ⟨fun _ _ hm => (nomatch hm), List.Pairwise.nil⟩ (by rw [Heap.size_push]; exact Nat.le_refl _)
 rw [Heap.size_push] at ok
 rw [show ({ s with heap := s.heap.push { cls := .type "frame", data := .dict #[] } } : Shared).heap.objs.size = s.heap.objs.size + 1 from Heap.size_push ..]
 show wpAny c.M A (forIn _ _ _ >>= _) _ _ { s with heap := pushCells (s.heap.push { cls := .type "frame", data := .dict #[] }) scope.names }
 rw [hns] at ok ⊢
 have keep1 : ∀ b o, (s.heap.push { cls := .type "frame", data := .dict #[] }).get? b = some o -> (pushCells (s.heap.push { cls := .type "frame", data := .dict #[] }) ns).get? b = some o := pushCells_keeps _ _
 have kp : ∀ b o, s.heap.get? b = some o -> (pushCells (s.heap.push { cls := .type "frame", data := .dict #[] }) ns).get? b = some o := fun b o e => keep1 b o (Heap.get?_push_of_some _ e)
 have eL := keep1 _ _ (Heap.get?_push_size s.heap (o := { cls := .type "frame", data := .dict #[] }) rfl)
 have nsL : (pushCells (s.heap.push { cls := .type "frame", data := .dict #[] }) ns).Ns s.heap.objs.size (fun _ => none) := (Heap.Ns.new s.heap (.type "frame")).keeps keep1
 have pob := pushCells_obj ns (s.heap.push { cls := .type "frame", data := .dict #[] })
 generalize pushCells (s.heap.push { cls := .type "frame", data := .dict #[] }) ns = h1 at kp eL nsL pob ok ⊢
 have fresh : ∀ a, s.heap.objs.size <= a -> s.heap.get? a = none := fun a ha => by
  cases q : s.heap.get? a with
  | none => rfl
  | some o => exact absurd (Heap.lt_size q) (Nat.not_lt.mpr ha)
 have g1 : Good c Z0 s H { s with heap := h1 } H := good_grow (n := s.toks) r kp
 have mem := fun {x : Str} {a : Addr} (h : (cellsFrom (s.heap.objs.size + 1) ns []).lookup x = some a) => mem_of_lookup h
 have isc := fun {x : Str} {a : Addr} (h : (cellsFrom (s.heap.objs.size + 1) ns []).lookup x = some a) => (cells_mem ns _ [] (mem h)).resolve_left (fun q => nomatch q)
 have eok : EnvOK (newEnv scope s.heap.objs.size mainGlobals (cellsFrom (s.heap.objs.size + 1) ns []) qual func code none builtinsNs) ns :=
  ⟨hk, ⟨fun x h => by rw [show (newEnv scope s.heap.objs.size mainGlobals (cellsFrom (s.heap.objs.size + 1) ns []) qual func code none builtinsNs).scope.names = ns from hns]; exact h,
   fun x h => by rw [show (newEnv scope s.heap.objs.size mainGlobals (cellsFrom (s.heap.objs.size + 1) ns []) qual func code none builtinsNs).scope.names = ns from hns]; exact h,
   fun x h => .inl (by rw [show (newEnv scope s.heap.objs.size mainGlobals (cellsFrom (s.heap.objs.size + 1) ns []) qual func code none builtinsNs).scope.names = ns from hns]; exact h),
   fun x h => by rw [show (newEnv scope s.heap.objs.size mainGlobals (cellsFrom (s.heap.objs.size + 1) ns []) qual func code none builtinsNs).scope.names = ns from hns]; exact h⟩, rfl, rfl,
   fun x a h => by
    obtain ⟨i, e1, e2⟩ := names_of (isc h)
    exact ⟨i, e1, .inl e2⟩⟩
 have f1 : FrOK c (newEnv scope s.heap.objs.size mainGlobals (cellsFrom (s.heap.objs.size + 1) ns []) qual func code none builtinsNs) ns (argF ns []) h1 H := by
  refine ⟨by simp [argF], ⟨_, nsL, fun i x v _ _ hv => ?_⟩, (r.fresh (get?_size _)).2, hb_fresh r, fun o e => ?_, fun i x hi hx => ?_, fun x y a e1 e2 => name_of_addr ok.apart (mem_of_lookup e1) (mem_of_lookup e2)⟩
  ·rw [argF_nil] at hv; cases hv
  ·have e' := eL.symm.trans e
   cases e'; exact ne_type (by decide)
  ·obtain ⟨kk, e1, e2⟩ := idx_kind hi
   have hm := List.mem_of_getElem? e1
   have hkk : kk = .cell := by
    rw [e2] at hx
    rcases hx with hx | hx
    ·cases hx; rfl
    ·cases hx; exact absurd rfl (hf _ hm)
   subst hkk
   obtain ⟨a, ha⟩ := Option.isSome_iff_exists.mp (cells_some ns (s.heap.objs.size + 1) [] hm)
   obtain ⟨q1, q2⟩ := ok.empty x a (mem ha)
   have fa := fresh a (Nat.le_of_succ_le q2)
   refine ⟨a, none, ha, q1, (r.fresh fa).2, r.newb fa, fun o e => ?_, fun v hv => ?_⟩
   ·rcases pob a o e with q | q
    ·exfalso
     obtain ⟨co, c1, c2⟩ := q1
     rw [e] at c1; cases c1
     have := Heap.lt_size q
     rw [Heap.size_push] at this
     exact absurd this (Nat.not_lt.mpr q2)
    ·rw [q]; exact ne_type (by decide)
   ·rw [argF_nil] at hv; cases hv
 refine wpAny_bind (bind_all eok hn _ (fun _ _ _ => rfl) [] vals ns _ _ rfl (by lia) (by rw [hv]; exact hp) g1.rel f1 fun s2 g2 f2 => wpAny_pure ?_)
 have zd : ∀ b, ZE (newEnv scope s.heap.objs.size mainGlobals (cellsFrom (s.heap.objs.size + 1) ns []) qual func code none builtinsNs) b -> s.heap.get? b = none := fun b hb => by
  rcases hb with hb | ⟨x, hb⟩
  ·rw [hb]; exact get?_size _
  ·exact fresh b (Nat.le_of_succ_le (ok.empty x b (mem_of_lookup hb)).2)
 refine ⟨(g1.all.trans g2).weak (fun b e z => (by rw [zd b z] at e; cases e)), (by rw [List.nil_append] at f2; exact f2), eok, rfl, (g2.frm _ ⟨_, eL, rfl, _, _, rfl⟩ (r.fresh (get?_size _)).2).1, zd⟩
theorem fit_in {a b n : Nat} (h : a + 8 * (b + 1) <= n) : a + 1 + 8 * b + 4 <= n := by lia
theorem fit_un {a b n : Nat} (h : a + 50 * (b + 1) <= n) : a + 3 + 50 * b + 20 <= n := by lia
theorem body_cf {fi : FI} {vals : List Value} {s2 : Shared} {l : List Env} (fit : Fit A (d + 1)) (hA : A.frames = some l) (stk : StkOK c l s.heap H) (g2 : Good c Z0 s H s2 H) (f2 : FrOK c env fi.ns (argF fi.ns (vals.map era)) s2.heap H) (eok : EnvOK env fi.ns) (hfr : env.frame = some env.locals) (frm : FrmAt s2.heap env.locals) :
  Cf c d fi.ns s.heap (A.deeper env) env (argF fi.ns (vals.map era)) s2 H := by
 refine ⟨⟨fit.handled, fit_in fit.depth, fit_un fit.units⟩, eok, g2.rel, f2, ⟨env, l, Around.frames_deeper hA, fun e he => ?_, rfl⟩, g2.live⟩
 rcases List.mem_cons.mp he with q | he
 ·rw [q]; exact ⟨by rw [eok.kind]; decide, env.locals, hfr, f2.lnew, frm, f2.lout⟩
 ·exact stk.step g2 e he
theorem enter_fn (b : BaseOK c) {f : Addr} {body : List Stmt} {ns : NS} {n : Nat} {vals : List Value} {R : Result -> Shared -> Prop} (q : FnAt c.hb f body ns n) (hnd : (ns.map (·.1)).Nodup) (hnf : ∀ p ∈ ns, p.2 ≠ .free) (hpar : ∀ p ∈ ns.take n, stored (some p.2) = true) (hl : vals.length = n) (hn : n <= ns.length) (r : Rel c s.heap H) (hroom : A.depth < recursionLimit)
    (k : ∀ env s2, Good c Z0 s H s2 H -> FrOK c env ns (argF ns (vals.map era)) s2.heap H -> EnvOK env ns -> env.frame = some env.locals -> FrmAt s2.heap env.locals -> (∀ b, ZE env b -> s.heap.get? b = none) ->
      ∀ (K : Flow -> Shared -> Prop) (E : Value -> Shared -> Prop), (∀ s', R (.ok (.ret .none)) s' -> K .next s') -> (∀ v s', R (.ok (.ret v)) s' -> K (.ret v) s') -> (∀ e s', (∀ T : Value -> Shared -> Prop, (∀ e' s'', R (.error e') s'' -> T e' s'') -> wpG P c.M (A.deeper env) (leaving env e) (fun _ s'' => T e s'') T s') -> E e s') -> wpG P c.M (A.deeper env) (execs body env) K E s2) :
    codeG P c.M A (.call (.ref f) ⟨vals, []⟩) R s := by
  obtain ⟨fo, fd, cd, oc, cvs, tq, ho, hoc, hdc, hq, hb⟩ := q
  refine codeG.K rfl fun K E _ ha he => wpG.then (m := load f) (wpAny_load (r.base _ _ ho) ?_)
  refine wpG.then (m := field (.ref cd) 1) (wpAny_field (r.base _ _ hoc) hdc hq (wpG.then (wpAny_pure (wpG.then (wpAny_of_eq (hb vals hl) ?_)))))
  refine wpG.then (wpAny_mono (env_sound (E := fun _ _ => False) b rfl rfl rfl rfl hnd hnf hpar hl hn r) (fun env s2 q => ch fun G hG => ?_) fun _ _ k => k.elim)
  obtain ⟨g2, f2, eok, hfr, frm, zd⟩ := q
  refine hG (wpG.then (wpAny_enterFrame (b.nolim.keeps g2.rel.base) hroom (wpG.pure (ha _ _ rfl (codeG.K rfl fun K' E' hd' _ he' => ?_)))))
  exact wpG.then (m := point) (wpAny_point (wpG.bind (wpG.onRaise (k env s2 g2 f2 eok hfr frm zd _ _ (fun s' h => wpG.pure (hd' _ _ h)) (fun v s' h => wpG.pure (hd' _ _ h)) fun e s' h => h _ he'))))
theorem call_body (b : BaseOK c) {f : Addr} {fi : FI} {vs : List MV} {Q : QE} (hfi : c.ft f = some fi) (hl : vs.length = fi.n)
  (k : vB (At c d P fi.ns) mtab fi.body (argF fi.ns vs) H (fun fl _ H' => match fl with | .next => Q .non H' | .ret v => Q v H') X) (hB : ∀ {body}, RB fi.ns body fi.body -> BS c d P fi.ns body fi.body) : CallS c (d + 1) P f vs H Q X := by
 intro A s vals l fit hA stk r hv
 subst hv
 have fo := b.fns f fi hfi
 obtain ⟨body, hfn, hRB⟩ := fo.fn
 rw [List.length_map] at hl
 refine enter_fn b hfn fo.nodup fo.nofree fo.params hl fo.par r (Nat.lt_of_le_of_lt (Nat.le_trans (Nat.le_add_right _ _) fit.depth) (Nat.le_of_ble_eq_true rfl)) fun env s2 g2 f2 eok hfr frm zd K E h1 h2 h3 => ?_
 have cf := body_cf fit hA stk g2 f2 eok hfr frm
 have zw : ∀ b, (s.heap.get? b).isSome = true -> ZE env b -> Z0 b := fun b e z => by rw [zd b z] at e; cases e
 refine hB hRB s.heap (A.deeper env) env _ s2 H _ X cf k _ _ (fun fl s3 H3 g3 q => ch fun G hG => ?_) fun e s3 H3 g3 x3 => h3 _ _ fun T hT => ch fun G hG => ?_
 ·obtain ⟨ff, F3, e3, f3, k3⟩ := q
  have gg := (g2.all.trans g3).weak zw
  cases fl with
  | next => cases e3; exact hG (h1 _ ⟨H3, gg, k3⟩)
  | ret v => cases e3; exact hG (h2 _ _ ⟨H3, gg, k3⟩)
  | _ => cases e3
 ·have gg := (g2.all.trans g3).weak zw
  obtain ⟨e0, l', z1, z2, z3⟩ := cf.stk
  exact hG (wpG.of (wpAny_mono (leave_sound r gg z1 (z2.step g3) z3 x3) (fun _ s4 q => hT _ _ ⟨H3, q.1, q.2⟩) fun _ _ k => k))
end
end
section
noncomputable def xbm : List Value := [.ref 38, .type "Exception", .type "BaseException", .type "object"]
noncomputable abbrev XF0 := PySem.F.excBase_Exception
theorem xbm_exc (C : Addr) : (Value.ref C :: xbm).contains (.type "Exception") = true := by
 rw [List.contains_cons, show xbm.contains (.type "Exception") = true by decide, Bool.or_true]
theorem xbm_base (C : Addr) : (Value.ref C :: xbm).contains (.type "BaseException") = true := by
 rw [List.contains_cons, show xbm.contains (.type "BaseException") = true by decide, Bool.or_true]
theorem xbm_obj (C : Addr) : (Value.ref C :: xbm).contains (.type "object") = true := by
 rw [List.contains_cons, show xbm.contains (.type "object") = true by decide, Bool.or_true]
theorem xbm_attr (C : Addr) : (Value.ref C :: xbm).contains (.type "AttributeError") = false := by
 rw [List.contains_cons, show xbm.contains (.type "AttributeError") = false by decide]; rfl
theorem xbm_name (C : Addr) : (Value.ref C :: xbm).contains (.type "NameError") = false := by
 rw [List.contains_cons, show xbm.contains (.type "NameError") = false by decide]; rfl
section
variable {prog : Program} {w : World} {A : Around} {E : Value -> Shared -> Prop} {R : Result -> Shared -> Prop} {h : Heap} {g : Array GenState} {d : Drawn} {t : Nat} {os : OsState}
variable {nm q : Str} {C N : Addr} {bs : List Value} {hdct : Bool} {sn : List Str} {sub : List Value} {ab : Bool} {col : Option Bool} {dd : Option Addr} {k0 k1 k2 k3 k5 : Option Value}
theorem check_new_X {M : Model} {rest : List Value} {Q : Unit -> Shared -> Prop} (hC : h.get? C = some (excClassObj nm q C N bs xbm hdct sn sub ab col dd k0 k1 k2 k3 k5 "Exception.__new__"))
  (hq : Q () ⟨h, g, d, t, os⟩) : wpAny M A (checkBuiltinCall "Exception.__new__" ⟨.ref C :: rest, []⟩) Q E ⟨h, g, d, t, os⟩ := by
 have hcont := xbm_exc C
 have hstar := XF0.noStar
 unfold checkBuiltinCall
 rw [XF0.newKind, XF0.newSplit, XF0.newRow]
 dsimp only
 repeat (first | refine wpAny_loadPart_at hC ?_ | (refine wpAny_isSubtype_exc hC ?_; rw [hcont]) | refine wpAny_staticBase_exc hC ?_ | refine wpAny_madeBy_exc hC ?_ | simp only [bne_self_eq_false, Bool.false_eq_true, if_false] | wp_step)
 exact hq
theorem new_X {rest : List Value} (hC : h.get? C = some (excClassObj nm q C N bs xbm hdct sn sub ab col dd k0 k1 k2 k3 k5 "Exception.__new__"))
    (hq : R (.ok (.ret (.ref (h.objs.size + 1)))) ⟨(h.push { cls := .type "tuple", data := .seq rest.toArray }).push
      { cls := .ref C, data := .fields #[.ref h.objs.size, .none, .none, .none, .bool false, .none] }, g, d, t, os⟩) (hrest : rest.length <= sizeLine := by size_fits) :
    codeAny (model prog w) A (.builtin "Exception.__new__" ⟨.ref C :: rest, []⟩) R ⟨h, g, d, t, os⟩ := by
  have hends := XF0.ends
  have hcB := xbm_exc C
  have hcA := xbm_attr C
  have hcN := xbm_name C
  refine codeAny_builtinAt XF0.entry ?_
  unfold Builtin.«BaseException.__new__»
  refine wpAt_bind ?_
  show wpAt _ _ _ (stack >>= _) _ _ _
  refine wpAt_bind (wpAt_stack fun p below => wpAt_of_wpAny ?_)
  wp_walk
  refine wpAt_of_wpAny ?_
  rw [XF0.owner]
  repeat (first | with_reducible refine wpAny_madeHere_exc XF0.canon hC ?_ | with_reducible refine wpAny_loadPart_at hC ?_ | (with_reducible refine wpAny_isSubtype_exc hC ?_; first | rw [hcB] | rw [hcA] | rw [hcN]) | wp_step)
  show R _ _
  rw [Heap.size_push]
  exact hq
theorem type_call_X {rest : List Value} {f : Addr} {Q : Fin -> Shared -> Prop}
    (hC : h.get? C = some (excClassObj nm q C N bs xbm hdct sn sub ab col dd k0 k1 k2 k3 k5 "Exception.__new__")) (hi : Looks (model prog w) h (typeLookup (.ref C) "__init__") (some (.ref f)))
    (hb : ∀ self, Looks (model prog w) h (bindSpecial (.ref f) self) (.ref f, [self]))
    (hq : ∀ h' e, Heap.MadeExcOf h h' e (.ref C) rest ->
      wpAny (model prog w) A (call (.ref f) (.ref e :: rest)) (fun r s' => r = .none /\ Q (.done (.ret (.ref e))) s') E ⟨h', g, d, t, os⟩) (hrest : rest.length <= sizeLine := by size_fits) :
    wpAny (model prog w) A (Builtin.«type.__call__» ⟨.ref C :: rest, []⟩) Q E ⟨h, g, d, t, os⟩ := by
  repeat (first | with_reducible refine wpAny_loadPart_at hC ?_ | with_reducible refine wpAny_madeBy_exc hC ?_ | wp_step)
  refine codeAny_call_builtin_code (Code.quiet_builtin _ XF0.quiet) (check_new_X hC ?_)
  refine new_X hC ?_ hrest
  show wpAny _ _ _ _ _ _
  have kp : ∀ b o, h.get? b = some o -> ((h.push { cls := .type "tuple", data := .seq rest.toArray }).push { cls := .ref C, data := .fields #[.ref h.objs.size, .none, .none, .none, .bool false, .none] }).get? b = some o :=
    fun b o e => Heap.get?_push_of_some _ (Heap.get?_push_of_some _ e)
  have hC₁ := kp _ _ hC
  have hget : ((h.push { cls := .type "tuple", data := .seq rest.toArray }).push
      { cls := .ref C, data := .fields #[.ref h.objs.size, .none, .none, .none, .bool false, .none] }).get? (h.objs.size + 1) = some
      { cls := .ref C, data := .fields #[.ref h.objs.size, .none, .none, .none, .bool false, .none] } := by heap_get
  have hcC : (Value.ref C :: xbm).contains (.ref C) = true := by simp
  unfold isInstance
  repeat (first | with_reducible refine wpAny_loadPart_at hget ?_ | (with_reducible refine wpAny_isSubtype_exc hC₁ ?_; rw [hcC]) | wp_step)
  show wpAny _ _ (typeLookup (.ref C) _) _ _ _
  refine (hi.keeps kp).at ?_
  dsimp only
  refine wpAny_holding (wpAny_bind (((hb _).keeps kp).at ?_))
  refine wpAny_bind (wpAny_mono (hq _ (h.objs.size + 1) ⟨kp, Heap.get?_none_of_le (Nat.le_succ _), h.objs.size, hget, Heap.get?_none_of_le (Nat.le_refl _), ?_⟩) (fun r s' hr => ?_) fun _ _ x => x)
  · exact Heap.get?_push_of_some _ (Heap.get?_push_at rfl rfl)
  · obtain ⟨rfl, hQ⟩ := hr
    wp_walk
    exact hQ
theorem check_tc_X {M : Model} {rest : List Value} {Q : Unit -> Shared -> Prop} (hC : h.get? C = some (excClassObj nm q C N bs xbm hdct sn sub ab col dd k0 k1 k2 k3 k5 "Exception.__new__"))
  (hq : Q () ⟨h, g, d, t, os⟩) : wpAny M A (checkBuiltinCall "type.__call__" ⟨.ref C :: rest, []⟩) Q E ⟨h, g, d, t, os⟩ := wpAny_check_type_call_sub hC hq
theorem call_X {rest : List Value} {f : Addr} {Q : Value -> Shared -> Prop}
  (hC : h.get? C = some (excClassObj nm q C N bs xbm hdct sn sub ab col dd k0 k1 k2 k3 k5 "Exception.__new__")) (hi : Looks (model prog w) h (typeLookup (.ref C) "__init__") (some (.ref f)))
  (hb : ∀ self, Looks (model prog w) h (bindSpecial (.ref f) self) (.ref f, [self]))
  (hq : ∀ h' e, Heap.MadeExcOf h h' e (.ref C) rest ->
   wpAny (model prog w) (A.under (.builtin "type.__call__" ⟨.ref C :: rest, []⟩)) (call (.ref f) (.ref e :: rest)) (fun r s' => r = .none /\ Q (.ref e) s') E ⟨h', g, d, t, os⟩) (hrest : rest.length <= sizeLine := by size_fits) :
  wpAny (model prog w) A (call (.ref C) rest) Q E ⟨h, g, d, t, os⟩ := by
 have f1 := tc_lookup
 have f2 := tc_bind (.ref C)
 have hT : (⟨h, g, d, t, os⟩ : Shared).TypeIs (.ref C) "type" := ⟨_, hC, rfl⟩
 refine wpAny_call (codeAny_of_tree ?_)
 show wpAny _ _ (callAny (.ref C) _) _ _ _
 repeat (any_goals (first | assumption | with_reducible refine wpAny_loadPart_at hC ?_ | wp_step))
 refine ⟨rfl, ?_⟩
 refine codeAny_call_builtin_at (Code.quiet_builtin _ (by decide +kernel)) entry_typeCall (check_tc_X hC (type_call_X (hrest := hrest) hC hi hb fun h' e hm => ?_))
 exact hq h' e hm
end
end
section
open PyProof.Rows
noncomputable def nmSelf : Str := "self"
noncomputable def nmMsg : Str := "message"
noncomputable def nmExc : Str := "Exception"
noncomputable def ns35 : NS := [(nmSelf, .local), (nmMsg, .local), (nmExc, .globalImplicit)]
structure IsBody (body : List Stmt) : Prop where
 is : ∃ p1 p2 p3 p4 p5 p6 p7 p8 p9 ap, body = [.Expr (.Call (.Attribute (.Name nmExc p1) "__init__" ap) [.Name nmSelf p2, .Name nmMsg p3] [] p4) p5, .Assign [.Attribute (.Name nmSelf p6) nmMsg p7] (.Name nmMsg p8) p9] /\ ap.endLine = p4.line
set_option genInjectivity false in
structure XC where
 (nm q : Str) (N : Addr) (bs : List Value) (sn : List Str) (sub : List Value) (ab : Bool) (col : Option Bool) (dd : Option Addr) (k0 k1 k2 k3 k5 : Option Value)
noncomputable abbrev XC.obj (x : XC) (C : Addr) : Obj := excClassObj x.nm x.q C x.N x.bs xbm true x.sn x.sub x.ab x.col x.dd x.k0 x.k1 x.k2 x.k3 x.k5 "Exception.__new__"
structure XOK (c : Cx) : Prop where
 glob : ∃ mg mb, c.hb.Ns mainGlobals mg /\ c.hb.Ns builtinsNs mb /\ mg nmExc = none /\ mb nmExc = some (.type "Exception")
 cls : ∀ C, C = 75 \/ C = 63 -> ∃ x : XC, c.K.lookup C = some (x.obj C)
 keep : ∀ C, C = 75 \/ C = 63 -> keepIn c.K (.ref C) = true
 init : ∀ C, C = 75 \/ C = 63 -> findIn c.K (.ref C) "__init__" = some (some (.ref 35)) /\ isFn c.K (.ref 35) = true
 set : ∀ C, C = 75 \/ C = 63 -> findIn c.K (.ref C) "__setattr__" = some (some (.builtin "object.__setattr__"))
 taker : ∀ C, C = 75 \/ C = 63 -> takerIn c.K C nmMsg = some none
 exi : findCls c.K (.type "Exception") (.type "type") "__init__" = some (.val (.builtin "Exception.__init__"))
 body : ∃ b, FnAt c.hb 35 b ns35 2 /\ IsBody b
noncomputable abbrev excObj (C t : Addr) (dx : Option Addr) : Obj := { cls := .ref C, dict := dx, data := .fields #[.ref t, .none, .none, .none, .bool false, .none] }
section
variable {prog : Program} {w : World} {A : Around} {E : Value -> Shared -> Prop} {K : Frag} {s : Shared}
theorem tga0 : (findIn [] (.type "type") "__getattribute__") = some (some (.builtin "type.__getattribute__")) := by decide +kernel
theorem method_typeX {T : String} {name : Str} {v : Value} {pl : Sem Bool} {Q : Value × List Value -> Shared -> Prop} (X : K.In s.heap) (ht : typeOf (.type T) = pure (.type "type")) (hs : Manifest.isStub T = false)
  (e : findCls K (.type T) (.type "type") name = some (.val v)) (hh : handedIn v = true) (h : Q (v, []) { s with toks := s.toks + 1 }) : wpAny (model prog w) A (getMethod (.type T) name pl) Q E s := by
 have hstub : opaqueClassAbove (.type T) = pure none := by unfold opaqueClassAbove; dsimp only; rw [hs]; rfl
 have L0 : Looks (model prog w) s.heap (typeOf (.type T)) (.type "type") := Looks.of_pure ht
 have hg : findIn K (.type "type") "__getattribute__" = some (some (.builtin "type.__getattribute__")) := tga0
 unfold getMethod specialOf
 refine wpAny_bind (wpAny_bind (L0.here ((looks_findIn X hg).here ?_)))
 dsimp only
 rw [if_pos canon_tga]
 refine wpAny_bind (wpAny_mono (Q := fun v => Q (v, [])) (E := E) ?_ (fun _ _ z => wpAny_pure z) fun _ _ z => z)
 have LO : Looks (model prog w) s.heap (opaqueClassAbove (.type T)) none := Looks.of_pure hstub
 refine cls_open X LO L0 hg (looks_hook X (r := none) (by rfl)) (by show subIn K _ _ = _; rfl) e
  (wpAny_pure (by show wpAny _ _ (handedOut v) _ _ _; rw [handedOut_of hh]; exact wpAny_pure h))
theorem refuse_exc (self : Value) (C : Addr) : refuseLoop self "__setattr__" (.ref C :: xbm) = pure () := by
 unfold xbm
 rw [refuseLoop_ref, refuseLoop_ref]
 exact PySem.F.store_Exception.passes self
end
section
variable {prog : Program} {w : World} {A : Around} {E : Value -> Shared -> Prop} {K : Frag} {h : Heap} {g : Array GenState} {d : Drawn} {t : Nat} {os : OsState}
variable {nm q : Str} {C N : Addr} {bs : List Value} {sn : List Str} {sub : List Value} {ab : Bool} {col : Option Bool} {dd : Option Addr} {k0 k1 k2 k3 k5 : Option Value}
theorem set_exc {e tu : Addr} {name : Str} {v : Value} {Q : Unit -> Shared -> Prop} (X : K.In h) (hK : K.lookup C = some (excClassObj nm q C N bs xbm true sn sub ab col dd k0 k1 k2 k3 k5 "Exception.__new__")) (he : h.get? e = some (excObj C tu none))
  (hs : findIn K (.ref C) "__setattr__" = some (some (.builtin "object.__setattr__"))) (ht : takerIn K C name = some none)
  (hq : ∀ h' D tk, h'.get? e = some (excObj C tu (some D)) -> (∀ b o, b ≠ e -> h.get? b = some o -> h'.get? b = some o) -> Q () ⟨h', g, d, tk, os⟩) :
  wpAny (model prog w) A (setAttr (.ref e) name v) Q E ⟨h, g, d, t, os⟩ := by
 have I : InstAt h e (excObj C tu none) C none := ⟨he, rfl, rfl, trivial⟩
 refine set_plain (s := ⟨h, g, d, t, os⟩) X I hs ?_
 have hC := X _ _ hK
 have SF := PySem.F.store_object
 have tp : Looks (model prog w) h (typeOf (.ref e)) (.ref C) := (Looks.ld he).andThen .now
 have sub' : Looks (model prog w) h (isInstance (.ref e) (.type "object")) true := tp.andThen (fun A Q E s k q => by
  obtain ⟨hh, g', d', t', os'⟩ := s
  exact wpAny_isSubtype_exc (k _ _ hC) (by rw [xbm_obj]; exact q))
 refine codeAny_call_builtin SF.slot.plain SF.entry (@check_slot (model prog w) _ _ ⟨h, g, d, t + 1, os⟩ "object.__setattr__" "object" "__setattr__" (.ref e) [.str name t, v] [] _ SF.kind SF.split sub' (SF.args (.ref e) (.str name t) v) ?_)
 obtain ⟨attr, ha, hr⟩ := Option.bind_eq_some_iff.mp ht
 have hm : Looks (model prog w) h (mroOf (.ref C)) (.ref C :: xbm) := fun A Q E s k q => by
  obtain ⟨hh, g', d', t', os'⟩ := s
  exact wpAny_mroOf_exc (k _ _ hC) q
 have L3 : Looks (model prog w) h (Builtin.ObjectAttr.storeTaker? attr) none := by
  cases attr with
  | none => cases hr; exact .now
  | some a =>
   obtain ⟨b, hb, hb2⟩ := Option.map_eq_some_iff.mp hr
   refine (looks_takesIn X hb).andThen ?_
   cases b
   ·exact .now
   ·cases hb2
 rw [osa_eq, refuse_eq]
 refine wpAny_bind (wpAny_bind (tp.at (wpAny_bind (hm.at ?_))))
 rw [refuse_exc]
 refine wpAny_pure (wpAny_bind (tp.at (wpAny_bind ((looks_findIn X ha).at (wpAny_bind (L3.at ?_))))))
 have hx₁ : (h.push { cls := .type "dict", data := .dict #[] }).get? e = some (excObj C tu none) := Heap.get?_push_of_some _ he
 have hxs : e ≠ h.objs.size := Nat.ne_of_lt (Heap.lt_size he)
 have cdat : Looks (model prog w) h (classData C) { name := nm, bases := bs, mro := .ref C :: xbm, ns := N, qualname := q, hasDict := true, slotNames := sn, subclasses := sub, abstract := ab, collection := col, hasDel := false } :=
  (Looks.ld (part := none) hC).andThen .now
 dsimp only
 refine wpAny_bind (wpAny_pure (wpAny_bind (wpAny_bind (wpAny_loadPart_at he (wpAny_bind (cdat.at ?_))))))
 dsimp only
 rw [if_neg (by decide)]
 refine wpAny_bind (m := alloc _) (wpAny_alloc' ?_)
 refine wpAny_bind (wpAny_update' hx₁ ?_)
 refine wpAny_pure ?_
 have hgd : ((h.push { cls := .type "dict", data := .dict #[] }).update e fun o => { cls := o.cls, dict := some h.objs.size, data := o.data, slots := o.slots }).get? h.objs.size = some { cls := .type "dict", data := .dict #[] } :=
  (Heap.get?_update_ne _ _ _ _ hxs.symm).trans (Heap.get?_push_at rfl rfl)
 have hnd : ((h.push { cls := .type "dict", data := .dict #[] }).update e fun o => { cls := o.cls, dict := some h.objs.size, data := o.data, slots := o.slots }).Ns h.objs.size (fun _ => none) :=
  ⟨_, #[], _, hgd, rfl, fun e he => absurd he (by simp), fun _ => rfl⟩
 show wpAny _ _ (Builtin.ObjectAttr.storeInDict h.objs.size (.str name t) name v) _ _ _
 unfold Builtin.ObjectAttr.storeInDict Builtin.ObjectAttr.newKeyGuard
 refine wpAny_bind (wpAny_pure (wpAny_bind (wpAny_nsSet1 (Heap.Ns1.of_empty hnd) fun h' hn' hs' => ?_)))
 obtain ⟨oD, esD, epD, hoD, hdD, hcD⟩ := hn'.count (Within.cons name v Within.nil)
 refine wpAny_bind (wpAny_lookBehind hoD (by rw [hdD]; exact pastItsLine_dict (Nat.le_trans hcD (by rw [List.length_cons, List.length_nil, sizeLine_eq]; omega))) ?_)
 refine wpAny_pure ?_
 refine hq h' h.objs.size _ ?_ fun b o ne e1 => ?_
 ·exact (hs'.2 e hxs).trans (Heap.get?_update_self _ hx₁ rfl)
 ·exact (hs'.2 b (Nat.ne_of_lt (Heap.lt_size e1))).trans ((Heap.get?_update_ne _ _ _ _ ne).trans (Heap.get?_push_of_some _ e1))
theorem init_builtin {e tu : Addr} {rest : List Value} {Q : Value -> Shared -> Prop} (hC : h.get? C = some (excClassObj nm q C N bs xbm true sn sub ab col dd k0 k1 k2 k3 k5 "Exception.__new__")) (he : h.get? e = some (excObj C tu none)) (hl : rest.length <= 10)
  (hq : ∀ h' t2, h'.get? e = some (excObj C t2 none) -> (∀ b o, b ≠ e -> h.get? b = some o -> h'.get? b = some o) -> Q .none ⟨h', g, d, t, os⟩) :
  wpAny (model prog w) A (call (.builtin "Exception.__init__") (.ref e :: rest)) Q E ⟨h, g, d, t, os⟩ := by
 have ck : ∀ {A : Around} {E : Value -> Shared -> Prop} {Q : Unit -> Shared -> Prop}, Q () ⟨h, g, d, t, os⟩ -> wpAny (model prog w) A (checkBuiltinCall "Exception.__init__" ⟨.ref e :: rest, []⟩) Q E ⟨h, g, d, t, os⟩ := fun {A E Q} hq => by
  have hcB := xbm_exc C
  have hshort := XF0.noStar
  simp only [checkBuiltinCall, XF0.initKind, XF0.initSplit, XF0.initRow]
  repeat (first | (with_reducible refine wpAny_loadPart_at he ?_; dsimp only) | with_reducible refine wpAny_loadPart_at hC ?_ | (with_reducible refine wpAny_isSubtype_exc hC ?_; rw [hcB]) | wp_step)
  refine wpAny_onRaise ?_
  rw [show ∀ (a b : String) (n : Nat), Bind.check ⟨.positional, "*", "Exception", .self, [⟨"args", .varPos, false⟩]⟩ a b n (List.map (fun x => x.fst) ({ pos := Value.ref e :: rest } : Args).kw) = pure () from
   fun a b n => check_star_args _ _ _ _ _ _]
  exact wpAny_pure hq
 refine wpAny_call (codeAny_call_builtin XF0.init.plain XF0.initEntry (ck ?_))
 have hrest : rest.length <= sizeLine := by rw [sizeLine_eq]; omega
 wp_walk
 refine hq _ h.objs.size ?_ fun b o ne e1 => ?_
 ·rw [Heap.get?_update_self _ (Heap.get?_push_of_some _ he) rfl]
  rfl
 ·rw [Heap.get?_update_other _ _ (Ne.symm ne)]
  exact Heap.get?_push_of_some _ e1
end
end
section
open PyProof.Rows
theorem typeOf_exc : typeOf (.type "Exception") = pure (.type "type") := by kernel_rfl
theorem stub_exc : Manifest.isStub "Exception" = false := by decide +kernel
section
variable {c : Cx} {d : Nat} {P : Bool} {ns : NS} {h0 h h' : Heap} {A : Around} {env : Env} {F F' : FF} {s s' s0 : Shared} {H H' H0 : HH} {X : QX} {Z : Addr -> Prop} {E : Value -> Shared -> Prop}
theorem exc_name (xk : XOK c) (x : Cf c d ns h0 A env F s H) {Q : Value -> Shared -> Prop} (hl : ns.lookup nmExc = some .globalImplicit) (h : Q (.type "Exception") s) : wpAny c.M A (loadName env nmExc) Q E s := by
 obtain ⟨mg, mb, g1, g2, g3, g4⟩ := xk.glob
 rw [loadName_read x.eok.kind (x.eok.names.glob _ hl)]
 have n1 : s.heap.Ns env.globals mg := by rw [x.eok.glob]; exact g1.keeps x.rel.base
 have n2 : s.heap.Ns env.builtins mb := by rw [x.eok.blt]; exact g2.keeps x.rel.base
 exact Calls.loadGlobal_builtin n1 g3 n2 g4 h
theorem good_e {e : Addr} {o : Obj} {vs : Array Value} {n : Nat} {s1 : Shared} (r : Rel c s.heap H) (he : s.heap.get? e = some o) (hd : o.data = .fields vs) (nb : c.hb.get? e = none) (hc : ∀ n, o.cls ≠ .type n) (k : ∀ b o, b ≠ e -> s.heap.get? b = some o -> h'.get? b = some o) (hl : ∃ o, h'.get? e = some o) :
  Good c (fun b => b = e) s H { s with heap := h', toks := n } H :=
 good_Z r rfl nb (r.outFields he hd) k (fun o' q => by rw [he] at q; cases q; exact hc _) hl fun ⟨o', q, f⟩ => by rw [he] at q; cases q; exact absurd f.1 (hc _)
theorem xl_false {h0 : Heap} {env : Env} {e : Value} {s' : Shared} {H' : HH} {T : Prop} (h : XL h0 env (fun _ _ => False) e s' H') : T := let ⟨_, _, _, _, _, _, h⟩ := h; h.elim
theorem re_self {p : Pos} : RE ns35 (.Name nmSelf p) (.loc 0) := .loc (by decide) (by decide) (by decide)
theorem re_msg {p : Pos} : RE ns35 (.Name nmMsg p) (.loc 1) := .loc (by decide) (by decide) (by decide)
theorem two_vals {vs : List Value} {e : Addr} {msg : Str} (h : vs.map era = [.ref e, .str msg]) : ∃ tk, vs = [.ref e, .str msg tk] := by
 obtain ⟨v, r, rfl, h1, h2⟩ := List.map_eq_cons_iff.mp h
 obtain ⟨w, r, rfl, h2, h3⟩ := List.map_eq_cons_iff.mp h2
 obtain ⟨t, rfl⟩ := era_str h2
 exact ⟨t, by rw [era_ref h1, List.map_eq_nil_iff.mp h3]⟩
theorem exc_kept {e : Addr} {C tu : Addr} {dx : Option Addr} (r : Rel c s.heap H) (g : Good c Z0 s H s' H') (he : s.heap.get? e = some (excObj C tu dx)) : s'.heap.get? e = some (excObj C tu dx) := by
 obtain ⟨sl, q, q2⟩ := g.kept e _ id he (r.outFields he rfl)
 rw [q2 (fun z => by cases z)] at q; exact q
theorem st_init (b : BaseOK c) (xk : XOK c) {e C tu : Addr} {msg : Str} {p1 p2 p3 p4 p5 ap : Pos} {xc : XC} (hap : ap.endLine = p4.line) (cf : Cf c d ns35 h0 A env F s H) (v0 : F.get 0 = some (.ref e)) (v1 : F.get 1 = some (.str msg))
  (hCK : c.K.lookup C = some (xc.obj C)) (he : s.heap.get? e = some (excObj C tu none)) (ne : c.hb.get? e = none) {K : Flow -> Shared -> Prop} (k : ∀ s' t2, Good c (fun b => b = e) s H s' H -> s'.heap.get? e = some (excObj C t2 none) -> K .next s') :
  wpG P c.M A (exec (.Expr (.Call (.Attribute (.Name nmExc p1) "__init__" ap) [.Name nmSelf p2, .Name nmMsg p3] [] p4) p5) env) K E s := by
 refine exec_expr cf.eok ?_
 rw [arm_eval_Call, base_plain rfl]
 unfold methodCall
 rw [meth_form (es := [_, _]) (show 2 < 10 by decide) rfl env]
 refine wpG.then (wpAny_Name (exc_name xk cf (by decide) (wpG.then (wpAny_standAt (wpG.then (wpAny_holding (method_typeX (cf.rel.K b) typeOf_exc stub_exc xk.exi rfl (wpG.then (wpAny_of_eq (meth_pos hap env) ?_)))))))) (by decide))
 have cf' : Cf c d ns35 h0 A env F { s with toks := s.toks + 1 } H := cf.step (.refl cf.rel)
 refine callWithG (plain_args rfl env) (sound_L b (.cons rfl re_self (.cons rfl re_msg .nil)) _ _ _ _ _ _ (fun vs H' => vs = [.ref e, .str msg] /\ H' = H) (fun _ _ => False) p4 cf' (by show some? (F.get 0) _; rw [v0]; show some? (F.get 1) _; rw [v1]; exact ⟨rfl, rfl⟩) _ _ (fun vs s3 H3 g3 k3 => ⟨keeper_id _, ?_⟩) fun _ _ _ _ x => xl_false x)
 obtain ⟨-, k3, rfl⟩ := k3
 obtain ⟨tk, rfl⟩ := two_vals k3
 have he3 := exc_kept cf'.rel g3 he
 have cf3 := cf'.step g3
 refine wpG.of (init_builtin (h := s3.heap) (rest := [.str msg tk]) (cf3.rel.K b _ _ hCK) he3 (show 1 <= 10 by decide) fun h4 t2 he4 k4 => ?_)
 have g4 := good_e (n := s3.toks) (s1 := s) cf3.rel he3 rfl ne (fun n z => by cases z) k4 ⟨_, he4⟩
 exact drop_value (Q := True) trivial fun _ => k _ t2 (((Good.refl (s' := { s with toks := s.toks + 1 }) cf.rel).trans g3).all.trans g4) he4
theorem st_set (b : BaseOK c) (xk : XOK c) {e C tu : Addr} {msg : Str} {p6 p7 p8 p9 : Pos} {xc : XC} (hC : C = 75 \/ C = 63) (cf : Cf c d ns35 h0 A env F s H) (v0 : F.get 0 = some (.ref e)) (v1 : F.get 1 = some (.str msg))
  (hCK : c.K.lookup C = some (xc.obj C)) (he : s.heap.get? e = some (excObj C tu none)) (ne : c.hb.get? e = none) {K : Flow -> Shared -> Prop} (k : ∀ s' D, Good c (fun b => b = e) s H s' H -> s'.heap.get? e = some (excObj C tu (some D)) -> K .next s') :
  wpG P c.M A (exec (.Assign [.Attribute (.Name nmSelf p6) nmMsg p7] (.Name nmMsg p8) p9) env) K E s := by
 refine exec_asg rfl rfl cf.eok ((sound_E b re_msg).1 _ _ _ _ _ _ (fun v H' => v = .str msg /\ H' = H) (fun _ _ => False) cf (by show some? (F.get 1) _; rw [v1]; exact ⟨rfl, rfl⟩) _ _ (fun v s5 H5 g5 k5 => ?_) fun _ _ _ _ x => xl_false x)
 obtain ⟨k5, rfl⟩ := k5
 have cf5 := cf.step g5
 refine wpG.bind (m := holding [v] (eval (.Name nmSelf p6) env)) (f := fun ov => standAt p7.atName >>= fun _ => holding [v, ov] (setAttr ov nmMsg v) >>= fun _ => release [v, ov] []) (wpG.holding ((sound_E b re_self).1 _ _ _ _ _ _ (fun v H' => v = .ref e /\ H' = H5) (fun _ _ => False) cf5 (by show some? (F.get 0) _; rw [v0]; exact ⟨rfl, rfl⟩) _ _ (fun ov s6 H6 g6 k6 => ?_) fun _ _ _ _ x => xl_false x))
 obtain ⟨k6, rfl⟩ := k6
 obtain rfl := era_ref k6
 have cf6 := cf5.step g6
 have he6 := exc_kept cf.rel (g5.trans g6) he
 refine wpG.then (wpAny_standAt (wpG.then (wpAny_holding (set_exc (h := s6.heap) (cf6.rel.K b) hCK he6 (xk.set C hC) (xk.taker C hC) fun h7 D tk7 he7 k7 => wpG.of (wpAny_release ?_)))))
 have g7 := good_e (n := tk7) (s1 := s) cf6.rel he6 rfl ne (fun n z => by cases z) k7 ⟨_, he7⟩
 exact k _ D ((g5.trans g6).all.trans g7) he7
theorem init_sound (b : BaseOK c) (xk : XOK c) {e C tu : Addr} {msg : Str} {tk : Tok} {l : List Env} (f1 : A.handled = none) (f2 : A.depth + 5 <= 700) (f3 : A.units + 30 <= 5000) (hA : A.frames = some l) (stk : StkOK c l s.heap H) (r : Rel c s.heap H)
  (hC : C = 75 \/ C = 63) (he : s.heap.get? e = some (excObj C tu none)) (ne : c.hb.get? e = none)
  {Q : Value -> Shared -> Prop} (k : ∀ s' t' D, Good c (fun b => b = e) s H s' H -> s'.heap.get? e = some (excObj C t' (some D)) -> Q .none s') : wpAny c.M A (call (.ref 35) [.ref e, .str msg tk]) Q E s := by
 obtain ⟨xc, hCK⟩ := xk.cls C hC
 obtain ⟨_, hfn, p1, p2, p3, p4, p5, p6, p7, p8, p9, ap, rfl, hap⟩ := xk.body
 refine wpG.any (wpG.call (enter_fn b (vals := [.ref e, .str msg tk]) hfn (by decide) (by decide) (by decide) rfl (by decide) r (show _ < 1000 by lia) fun env s2 g2 fr2 eok hfr frm zd K E h1 h2 h3 => ?_))
 have cf : Cf c 0 ns35 s.heap (A.deeper env) env (argF ns35 [.ref e, .str msg]) s2 H := by
  refine ⟨⟨f1, ?_, ?_⟩, eok, g2.rel, fr2, ⟨env, l, Around.frames_deeper hA, fun e' he' => ?_, rfl⟩, g2.live⟩
  ·show A.depth + 1 + 8 * 0 + 4 <= 700
   lia
  ·show A.units + 3 + 50 * 0 + 20 <= 5000
   lia
  ·rcases List.mem_cons.mp he' with q | he'
   ·rw [q]; exact ⟨by rw [eok.kind]; decide, env.locals, hfr, fr2.lnew, frm, fr2.lout⟩
   ·exact stk.step g2 e' he'
 rw [execs_cons]
 refine wpG.bind (st_init b xk hap cf rfl rfl hCK (exc_kept r g2 he) ne fun s3 t2 g3 he3 => ?_)
 have cf3 := cf.next g3 (cf.fr.stepF g3 fun b o w q => by rw [w, exc_kept r g2 he] at q; cases q; exact ⟨_, rfl⟩)
 refine (show wpG _ _ _ (execs [_] env) _ _ _ from ?_)
 rw [execs_cons]
 exact wpG.bind (st_set b xk hC cf3 rfl rfl hCK he3 ne fun s4 D g4 he4 => wpG.of (wpAny_execs_nil (h1 _ (k _ t2 D ((g2.all.trans g3).trans g4) he4))))
end
end
section
section
variable {M : Model} {A : Around} {E : Value -> Shared -> Prop} {env : Env}
variable {nm q : Str} {C N : Addr} {bs : List Value} {hdct : Bool} {sn : List Str} {sub : List Value} {ab : Bool} {col : Option Bool} {dd : Option Addr} {k0 k1 k2 k3 k5 : Option Value} {newId : String}
variable {nm' q' : Str} {C' N' : Addr} {bs' : List Value} {hdct' : Bool} {sn' : List Str} {sub' : List Value} {ab' : Bool} {col' : Option Bool} {dd' : Option Addr} {k0' k1' k2' k3' k5' : Option Value} {newId' : String}
theorem raise_made {s : Shared} {x : Sem Value} {Q : Flow -> Shared -> Prop} (hh : A.handled = none)
    (h : wpAny M A x (fun v s₁ => ∃ e t D, v = .ref e /\ s₁.heap.get? C = some (excClassObj nm q C N bs xbm hdct sn sub ab col dd k0 k1 k2 k3 k5 newId) /\
      s₁.heap.get? e = some (excObj C t D) /\ E (.ref e) s₁) E s) :
    wpAny M A (raiseStmt env (some x) none) Q E s := by
  have hcB := xbm_base C
  unfold raiseStmt
  refine wpAny_bind (wpAny_mono h (fun v s₁ h₁ => ?_) fun _ _ x => x)
  obtain ⟨e, t, D, rfl, hC, he, hE⟩ := h₁
  obtain ⟨hp, g, d, tk, os⟩ := s₁
  repeat (first | with_reducible refine wpAny_loadPart_at he ?_ | with_reducible refine wpAny_loadPart_at hC ?_ | (with_reducible refine wpAny_isSubtype_exc hC ?_; rw [hcB]) | wp_step)
  exact wpAny_raiseNew_none hh hE
theorem matches_X {h : Heap} {g : Array GenState} {d : Drawn} {t : Nat} {os : OsState} {e : Addr} {oe : Obj} {Q : Bool -> Shared -> Prop}
  (hC : h.get? C = some (excClassObj nm q C N bs xbm hdct sn sub ab col dd k0 k1 k2 k3 k5 newId)) (hC' : h.get? C' = some (excClassObj nm' q' C' N' bs' xbm hdct' sn' sub' ab' col' dd' k0' k1' k2' k3' k5' newId')) (he : h.get? e = some oe) (hcls : oe.cls = .ref C)
  {r : Bool} (hr : (Value.ref C :: xbm).contains (.ref C') = r) (hq : Q r ⟨h, g, d, t, os⟩) : wpAny M A (excMatches (.ref e) (.ref C')) Q E ⟨h, g, d, t, os⟩ := by
 have hcB := xbm_base C'
 have f := tc_notTuple
 unfold excMatches
 repeat (first | (with_reducible refine wpAny_loadPart_at he ?_; rw [hcls]) | with_reducible refine wpAny_loadPart_at hC' ?_ | (with_reducible refine wpAny_isSubtype_exc hC' ?_; rw [hcB]) | (with_reducible refine wpAny_isSubtype_exc hC ?_; rw [hr]) | wp_step)
 cases r <;> (wp_walk; exact hq)
end
end
section
open PyProof.Rows
section
variable {c : Cx} {d : Nat} {P : Bool} {ns : NS} {h0 h h' : Heap} {A : Around} {env : Env} {F F' : FF} {s s' s0 : Shared} {H H' H0 : HH} {X : QX} {Z : Addr -> Prop} {E : Value -> Shared -> Prop}
set_option tactic.hygienic true in
theorem glob_cls (b : BaseOK c) (ok : EnvOK env ns) (r : Rel c s.heap H) {A : Around} {n : Str} {C : Addr} {Q : Value -> Shared -> Prop} (hg : glob ns n = some (.cls C)) (h : Q (.ref C) s) : wpAny c.M A (loadName env n) Q E s := by
 unfold glob at hg
 split at hg
 ·rename_i hl
  obtain ⟨mg, mb, g1, g2, _, g3⟩ := b.glob
  have := g3 n _ hg
  rw [loadName_read ok.kind (ok.names.glob n hl)]
  have n1 : s.heap.Ns env.globals mg := by rw [ok.glob]; exact g1.keeps r.base
  exact Calls.loadGlobal_global n1 this h
 ·cases hg
theorem xbm_self {C C' : Addr} (hC : C = 75 \/ C = 63) (hC' : C' = 75 \/ C' = 63) : (Value.ref C :: xbm).contains (.ref C') = decide (C = C') := by
 rcases hC with rfl | rfl <;> rcases hC' with rfl | rfl <;> decide
theorem one_str {vs : List Value} {st : Str} (h : vs.map era = [.str st]) : ∃ tk, vs = [.str st tk] := by
 obtain ⟨v, r, rfl, h1, h2⟩ := List.map_eq_cons_iff.mp h
 obtain ⟨t, rfl⟩ := era_str h1
 exact ⟨t, by rw [List.map_eq_nil_iff.mp h2]⟩
theorem made_exc (b : BaseOK c) (xk : XOK c) {x : Str} {st : Str} {q p1 p2 : Pos} {k C : Nat} {xc : XC} (hg : glob ns x = some (.cls C)) (hC : C = 75 \/ C = 63) (hCK : c.K.lookup C = some (xc.obj C)) (y : Cf c (d + 1) ns h0 A env F s H) {K : Value -> Shared -> Prop} {E : Value -> Shared -> Prop}
  (kk : ∀ e t D s4, (s.heap.get? e).isSome = false -> Good c Z0 s H s4 H -> s4.heap.get? e = some (excObj C t (some D)) -> K (.ref e) s4) : wpG P c.M A (eval (.Call (.Name x q) [.Constant (.str st) k p1] [] p2) env) K E s := by
 refine wpG.then (m := eval (.Name x q) env) (f := fun f => callWith p2 f [] (backTo p2 (starEach [.Constant (.str st) k p1] env)) []) (wpAny_Name (glob_sound b y hg fun u e => ?_) (glob_debug hg))
 subst e
 refine callWithG (plain_args rfl env) (sound_L b (.cons rfl .str .nil) _ _ _ _ _ _ (fun vs H' => vs = [.str st] /\ H' = H) (fun _ _ => False) p2 y ⟨rfl, rfl⟩ _ _ (fun vs s2 H2 g2 k2 => ?_) fun _ _ _ _ x => xl_false x)
 obtain ⟨-, k2, rfl⟩ := k2
 obtain ⟨tk, rfl⟩ := one_str k2
 have y2 := y.step g2
 have X' := y2.rel.K b
 refine ⟨looks_keep (xk.keep C hC) X', wpG.of ?_⟩
 obtain ⟨i1, i2⟩ := xk.init C hC
 obtain ⟨e0, l, f1, f2, f3⟩ := y2.stk
 have fit := y.fit
 refine call_X (h := s2.heap) (rest := [.str st tk]) (X' _ _ hCK) (looks_findIn X' i1) (fun self => bind_fn X' self (beq_iff_eq.mp i2)) (fun h3 e hm => ?_) (show 1 <= sizeLine by rw [sizeLine_eq]; decide)
 obtain ⟨tu, m1, m2, m3⟩ := hm.there
 have g3 := good_grow (Z := Z0) (n := s2.toks) y2.rel hm.keeps
 have ns' : (s.heap.get? e).isSome = false := live_none g2.live hm.new
 refine init_sound (A := A.under (.builtin "type.__call__" ⟨[.ref C, .str st tk], []⟩)) (Q := fun r s' => r = .none /\ K (.ref e) s') (l := e0 :: l) b xk fit.handled (show A.depth + 1 + 5 <= 700 by have := fit.depth; lia) (show A.units + 1 + 30 <= 5000 by have := fit.units; lia) (by rw [frames_typeCall]; exact f1) (f2.step g3) g3.rel hC m1 (y2.rel.newb hm.new) fun s4 t' D g4 he4 => ⟨rfl, ?_⟩
 exact kk e t' D s4 ns' (((g2.trans g3).all.trans g4).weak fun b e' w => by rw [w, ns'] at e'; cases e') he4
theorem ss_rais (b : BaseOK c) (xk : XOK c) {x q st k p1 p2 p C} (hg : glob ns x = some (.cls C)) (hC : C = 75 \/ C = 63) : SS c (d + 1) P ns (.Raise (some (.Call (.Name x q) [.Constant (.str st) k p1] [] p2)) none p) (.rais C) := by
 intro h0 A env F s H Q X y kx K E' hK hE'
 obtain ⟨xc, hCK⟩ := xk.cls C hC
 rw [arm_exec_Raise]
 refine wpG.then (wpAny_standAt (wpG.of (raise_made (C := C) (nm := xc.nm) (q := xc.q) (N := xc.N) (bs := xc.bs) (hdct := true) (sn := xc.sn) (sub := xc.sub) (ab := xc.ab) (col := xc.col) (dd := xc.dd) (k0 := xc.k0) (k1 := xc.k1) (k2 := xc.k2) (k3 := xc.k3) (k5 := xc.k5) (newId := "Exception.__new__") (x := eval (.Call (.Name x q) [.Constant (.str st) k p1] [] p2) env >>= fun v => standAt p >>= fun _ => pure v) y.hA (wpG.any (wpG.bind (made_exc (P := false) b xk hg hC hCK y fun e t D s4 ns' g4 he4 => wpG.then (wpAny_standAt (wpG.pure ?_))))))))
 refine ⟨e, t, some D, rfl, g4.rel.K b _ _ hCK, he4, hE' _ _ H g4.all ⟨e, C, none, rfl, ⟨?_, _, _, .ref t, he4, rfl, rfl, rfl, rfl⟩, .inl rfl, kx⟩⟩
 cases w : (h0.get? e).isSome with
 | false => rfl
 | true => have := y.old e w; rw [ns'] at this; cases this
theorem clause_test (b : BaseOK c) (xk : XOK c) (ok : EnvOK env ns) (r : Rel c s.heap H) {a C C' : Addr} {oe : Obj} {x1 : Str} {q1 pos : Pos} {Q : Flow -> Shared -> Prop} (hg : glob ns x1 = some (.cls C')) (hC : C = 75 \/ C = 63) (hC' : C' = 75 \/ C' = 63)
  (he : s.heap.get? a = some oe) (hcls : oe.cls = .ref C) (h : Q (if C = C' then .brk else .next) s) :
  wpG P c.M A (runOwn (.handlers (.ref a) [.ExceptHandler (some (.Name x1 q1)) none [] pos] env) env (some (.ref a))) Q E s := by
 obtain ⟨xc, hCK⟩ := xk.cls C hC
 obtain ⟨xc', hCK'⟩ := xk.cls C' hC'
 unfold runOwn
 refine wpG.onRaise (wpG.run (codeG.tree rfl ?_) (by intro x; cases x))
 show wpG P c.M _ ((handleWith (.ref a) env [.ExceptHandler (some (.Name x1 q1)) none [] pos]).onRaise (fun x => do noteFrame x env; theTreesLotGoes x) >>= fun f => pure (Fin.done f)) _ _ s
 refine wpG.bind (wpG.onRaise ?_)
 show wpG _ _ _ (standAt pos >>= fun _ => eval (.Name x1 q1) env >>= fun ty => standAt pos >>= fun _ => excMatches (.ref a) ty >>= fun m => pure (if m = true then Flow.brk else Flow.next)) _ _ _
 refine wpG.then (wpAny_standAt ?_)
 refine wpG.then (wpAny_Name (glob_cls b ok r hg ?_) (glob_debug hg))
 refine wpG.then (wpAny_standAt ?_)
 have X' := r.K b
 obtain ⟨hh, gg, dr, tt, oo⟩ := s
 refine wpG.then (matches_X (X' _ _ hCK) (X' _ _ hCK') he hcls (xbm_self hC hC') ?_)
 refine wpG.pure (wpG.pure ?_)
 by_cases w : C = C'
 ·simpa [w] using h
 ·simpa [w] using h
theorem clause_run {a C : Addr} {fl : Value} {t1 : Str} {k1 : Nat} {r1 u1 pos : Pos} (r : Rel c s.heap H) (g : Good c Z0 s H s' H') (x : ExcAt s.heap s'.heap a C (some fl)) {Q : Flow -> Shared -> Prop}
  (h : ∀ s2 tk, Good c Z0 s H s2 H' -> Q (.ret (.str t1 tk)) s2) :
  wpG P c.M A (runOwn (.handlers (.ref a) [.ExceptHandler none none [.Return (some (.Constant (.str t1) k1 r1)) u1] pos] env) env (some (.ref a))) Q E s' := by
 unfold runOwn
 refine wpG.onRaise (wpG.run (codeG.tree rfl ?_) (by intro x; cases x))
 show wpG P c.M _ ((handleWith (.ref a) env [.ExceptHandler none none [.Return (some (.Constant (.str t1) k1 r1)) u1] pos]).onRaise (fun x => do noteFrame x env; theTreesLotGoes x) >>= fun f => pure (Fin.done f)) _ _ s'
 refine wpG.bind (wpG.onRaise ?_)
 show wpG _ _ _ (standAt pos >>= fun _ => setFlight (.ref a) none >>= fun _ => execs [.Return (some (.Constant (.str t1) k1 r1)) u1] env) _ _ _
 refine wpG.then (wpAny_standAt ?_)
 refine wpG.then (wpAny_mono (flight_sound (E := fun _ _ => False) (fr := none) r g x) (fun _ s2 ⟨g2, _, _⟩ => ?_) fun _ _ k => k.elim)
 rw [execs_cons]
 refine wpG.bind ?_
 rw [exec_Return_some]
 refine wpG.then (wpAny_standAt ?_)
 refine wpG.then (wpAny_Constant_str ?_)
 exact wpG.pure (wpG.pure (wpG.pure (h _ _ (g2.trans (.refl g2.rel)))))
theorem clause_one (b : BaseOK c) (xk : XOK c) (ok : EnvOK env ns) (r : Rel c s.heap H) (g : Good c Z0 s H s' H') {a C C' : Addr} {fl : Value} {x1 : Str} {q1 pos r1 u1 : Pos} {t1 : Str} {k1 : Nat} {rest : List ExceptHandler} {K : Flow -> Shared -> Prop} (hg : glob ns x1 = some (.cls C')) (hC : C = 75 \/ C = 63) (hC' : C' = 75 \/ C' = 63)
  (x : ExcAt s.heap s'.heap a C (some fl)) (h1 : C = C' -> ∀ s2 tk, Good c Z0 s H s2 H' -> K (.ret (.str t1 tk)) s2) (h2 : C ≠ C' -> wpG P c.M A (handleBy (.ref a) env rest) K E s') :
  wpG P c.M A (handleBy (.ref a) env (.ExceptHandler (some (.Name x1 q1)) none [.Return (some (.Constant (.str t1) k1 r1)) u1] pos :: rest)) K E s' := by
 obtain ⟨n1, oe, vs, v0, ge, gc, _⟩ := id x
 unfold handleBy
 refine wpG.bind (wpG.holding (clause_test b xk ok g.rel hg hC hC' ge gc ?_))
 by_cases w : C = C'
 ·rw [if_pos w]
  exact wpG.then (m := pure true) (wpAny_pure (wpG.bind (wpG.holding (clause_run r g x fun s2 tk g2 => wpG.pure (h1 w s2 tk g2)))))
 ·rw [if_neg w]
  exact wpG.then (m := pure false) (wpAny_pure (h2 w))
theorem ss_tryx (b : BaseOK c) (xk : XOK c) {e a p1 x1 q1 t1 k1 r1 u1 h1 x2 q2 t2 k2 r2 u2 h2 p C1 C2} (hg1 : glob ns x1 = some (.cls C1)) (hg2 : glob ns x2 = some (.cls C2)) (hC : C1 = 75 /\ C2 = 63) (hr : RE ns e a) :
  SS c d P ns (.Try [.Return (some e) p1] [.ExceptHandler (some (.Name x1 q1)) none [.Return (some (.Constant (.str t1) k1 r1)) u1] h1, .ExceptHandler (some (.Name x2 q2)) none [.Return (some (.Constant (.str t2) k2 r2)) u2] h2] [] [] p) (.tryx a C1 t1 C2 t2) := by
 intro h0 A env F s H Q X x k K E' hK hE'
 refine wpG.then (m := standAt p) (f := fun _ => tryStmt false (execs [.Return (some e) p1] env) [.ExceptHandler (some (.Name x1 q1)) none [.Return (some (.Constant (.str t1) k1 r1)) u1] h1, .ExceptHandler (some (.Name x2 q2)) none [.Return (some (.Constant (.str t2) k2 r2)) u2] h2] (execs [] env) [] env) (wpAny_standAt ?_)
 refine wpG.bind (wpG.attempt ?_)
 rw [execs_cons, exec_Return_some]
 refine wpG.bind (wpG.then (wpAny_standAt (wpG.bind ((sound_E b hr).1 s.heap A env F s H _ _ x.at k _ _ (fun v s1 H1 g1 k1 => wpG.pure (wpG.pure (wpG.pure (hK _ _ H1 g1.all ⟨.ret (era v), F, rfl, x.fr.step g1, k1⟩)))) fun e' s1 H1 g1 x1' => ch fun G hG => ?_))))
 obtain ⟨e0, l, f1, f2, f3⟩ := x.stk
 refine hG (wpG.then (wpAny_mono (note_sound (E := fun _ _ => False) x.rel g1 f1 (f2.step g1) f3 x1') (fun _ s2 q => ch fun G hG => ?_) fun _ _ k => k.elim))
 obtain ⟨g2, ⟨ea, C, L, rfl, hL, xa, hX⟩, _⟩ := q
 refine hG (wpG.then (wpAny_mono (flight_sound (E := fun _ _ => False) (fr := none) x.rel g2 xa) (fun _ s3 q => ch fun G hG => ?_) fun _ _ k => k.elim))
 obtain ⟨g3, xa3, _⟩ := q
 have hCC : C = 75 \/ C = 63 := by
  rcases hX with ⟨w, _⟩ | ⟨w, _⟩
  ·rw [w, hC.1]; exact .inl rfl
  ·rw [w, hC.2]; exact .inr rfl
 have n12 : C1 ≠ C2 := by rw [hC.1, hC.2]; decide
 have fin : ∀ (t : Str) (s4 : Shared) (tk : Tok), Q (.ret (.str t)) F H1 -> Good c Z0 s H s4 H1 -> K (.ret (.str t tk)) s4 := fun t s4 tk kq g4 => hK _ _ H1 g4.all ⟨.ret (.str t), F, rfl, x.fr.step g4, kq⟩
 refine hG (clause_one b xk x.eok x.rel g3 hg1 hCC (.inl hC.1) xa3 (fun w1 s4 tk g4 => fin t1 s4 tk (hX.elim (fun h => h.2) fun h => absurd (w1.symm.trans h.1) n12) g4) fun w1 =>
  clause_one b xk x.eok x.rel g3 hg2 hCC (.inr hC.2) xa3 (fun w2 s4 tk g4 => fin t2 s4 tk (hX.elim (fun h => absurd h.1 w1) fun h => h.2) g4) fun w2 => absurd (hX.elim (fun h => absurd h.1 w1) fun h => h.1) w2)
end
end
section
open PyProof.Rows
section
variable {c : Cx} {d : Nat} {P : Bool} {ns : NS} {F : FF} {H : HH} {X : QX} {st : ItS}
theorem sound_B (b : BaseOK c) (xk : XOK c) {ns : NS} {body : List Stmt} {m : B} (h : RB ns body m) : BS c (d + 1) P ns body m :=
 (h (fun st m => RS ns st m /\ SS c (d + 1) P ns st m) (fun st m => RB ns st m /\ BS c (d + 1) P ns st m) ⟨fun _ _ _ _ _ _ h1 => ⟨.ex h1, ss_ex b h1⟩,
  fun _ _ _ _ _ h1 h2 h3 => ⟨.asg h1 h2 h3, ss_asg b h1 h2 h3⟩,
  fun _ _ _ _ _ _ h1 h2 h3 => ⟨.asgC h1 h2 h3, ss_asgC b h1 h2 h3⟩,
  fun _ _ _ _ _ _ _ _ _ h1 h2 h3 h4 h5 h6 => ⟨.asg2 h1 h2 h3 h4 h5 h6, ss_asg2 b h1 h2 h3 h4 h5 h6⟩,
  fun _ _ _ _ _ _ _ h1 i1 i2 => ⟨.ife h1 i1.1 i2.1, ss_ife b h1 i1.2 i2.2⟩,
  fun _ _ _ _ _ h1 i1 => ⟨.whl h1 i1.1, ss_whl h1 i1.1⟩,
  fun _ _ _ _ _ _ _ h1 h2 i1 => ⟨.forr h1 h2 i1.1, ss_forr b h1 h2 i1.1⟩,
  fun _ _ _ h1 => ⟨.ret h1, ss_ret b h1⟩,
  fun _ _ _ _ _ _ _ _ h1 h2 => ⟨.rais h1 h2, ss_rais b xk h1 h2⟩,
  fun _ _ _ _ _ _ _ _ _ _ _ _ _ _ _ _ _ _ _ _ g1 g2 g3 g4 => ⟨.tryx g1 g2 g3 g4, ss_tryx b xk g1 g2 g3 g4⟩,
  fun _ => ⟨.dead, fun _ _ _ _ _ _ _ _ _ k => k.elim⟩,
  ⟨.nil, bs_nil⟩,
  fun _ _ _ _ i1 i2 => ⟨.cons i1.1 i2.1, bs_cons i1.2 i2.2⟩⟩).2
theorem call_rule (b : BaseOK c) (xk : XOK c) {f : Addr} {fi : FI} {vs : List MV} {Q : QE} (hfi : c.ft f = some fi) (hl : vs.length = fi.n)
  (k : vB (At c (d + 1) P fi.ns) mtab fi.body (argF fi.ns vs) H (fun fl _ H' => match fl with | .next => Q .non H' | .ret v => Q v H') X) : CallS c (d + 2) P f vs H Q X :=
 call_body b hfi hl k fun h => sound_B b xk h
theorem while_rule (b : BaseOK c) (xk : XOK c) {cm : Mine.E} {bm : B} {Q : QS} (k : vE (Ca c (d + 1) P) mtab cm F H (fun t H1 => isB t (vB (At c (d + 1) P ns) mtab bm F H1 (fun fl F2 H2 => match fl with | .next => WhlS c (d + 1) P ns cm bm F2 H2 Q X | .ret v => Q (.ret v) F2 H2) X) (Q .next F H1)) X) :
  WhlS c (d + 1) P ns cm bm F H Q X := while_step b k fun h => sound_B b xk h
theorem for_rule (b : BaseOK c) (xk : XOK c) {t : T} {bm : B} {Q : QS} {n : Option (MV × ItS)} (hn : nextOf H st = some n)
  (k : match n with | none => Q .next F H | some (mv, st') => vT (Ca c (d + 1) P) mtab t mv F H (fun F1 H1 => vB (At c (d + 1) P ns) mtab bm F1 H1 (fun fl F2 H2 => match fl with | .next => ForS c (d + 1) P ns t bm st' F2 H2 Q X | .ret v => Q (.ret v) F2 H2) X) X) :
  ForS c (d + 1) P ns t bm st F H Q X := for_step b hn k fun h => sound_B b xk h
end
end
section
open PyProof.Rows
theorem lookup_zip : ∀ {names : List Str} {vals : List Value}, vals.length = names.length -> ∀ n ∈ names, ((names.zip vals).lookup n).isSome = true
 | [], [], _, n, h => nomatch h
 | x :: xs, [], h, _, _ => by simp at h
 | [], _ :: _, h, _, _ => by simp at h
 | x :: xs, v :: vs, h, n, hm => by
  rw [List.zip_cons_cons, List.lookup_cons]
  cases q : n == x with
  | true => rfl
  | false =>
   rcases List.mem_cons.mp hm with w | w
   ·rw [w] at q; simp at q
   ·exact lookup_zip (by simpa using h) n w
theorem filterMap_zip : ∀ {names : List Str} {vals : List Value}, names.Nodup -> vals.length = names.length -> ∀ (l : List (Str × Value)), (∀ n ∈ names, l.lookup n = (names.zip vals).lookup n) -> names.filterMap (fun n => (l.lookup n).map fun v => (n, v)) = names.zip vals
  | [], [], _, _, _, _ => rfl
  | x :: xs, [], _, h, _, _ => by simp at h
  | [], _ :: _, _, h, _, _ => by simp at h
  | x :: xs, v :: vs, hn, h, l, hl => by
    have e := hl x (.head _)
    rw [List.zip_cons_cons, List.lookup_cons, beq_self_eq_true] at e
    rw [List.filterMap_cons_some (b := (x, v)) (by rw [e]; rfl), List.zip_cons_cons]
    congr 1
    refine filterMap_zip (List.nodup_cons.mp hn).2 (by simpa using h) l fun n hm => ?_
    rw [hl n (.tail _ hm), List.zip_cons_cons, List.lookup_cons]
    have : (n == x) = false := by
      cases q : n == x with
      | false => rfl
      | true => have : n = x := by simpa using q
                exact absurd (this ▸ hm) (List.nodup_cons.mp hn).1
    rw [this]
theorem bind_forIn {α β σ : Type} {l : List α} {D : List β} {s : σ} {F : α × β -> σ -> Sem (ForInStep σ)} {G : σ -> Sem (List (Str × Value))} {r : Sem (List (Str × Value))} (hD : D = []) (h : G s = r) : (forIn (l.zip D) s F >>= G) = r := by
 rw [hD, List.zip_nil_right]; exact h
theorem zip_take {α β : Type} : ∀ {l : List α} {v : List β}, (l.take v.length).zip v = l.zip v
 | [], v => by simp
 | x :: l, [] => by simp
 | x :: l, y :: v => by
  show (x :: l.take v.length).zip (y :: v) = (x :: l).zip (y :: v)
  rw [List.zip_cons_cons, List.zip_cons_cons, zip_take]
noncomputable def okFd (fd : FuncData) : Bool :=
 decide (fd.params.posonlyargs.isEmpty = true /\ fd.params.vararg.isNone = true /\ fd.params.kwonlyargs.isEmpty = true /\ fd.params.kwarg.isNone = true /\ isNon (era fd.defaults) = true /\ fd.params.args.map (·.arg) = (fd.scope.names.take fd.params.args.length).map (·.1) /\
  fd.params.args.length <= fd.scope.names.length /\ fd.scope.kind = .function /\ fd.scope.isGenerator = false /\ fd.scope.isCoroutine = false /\ fd.closure.isEmpty = true /\ fd.globals = mainGlobals /\ fd.builtins = builtinsNs /\
  (fd.scope.names.map (·.1)).Nodup /\ (∀ p ∈ fd.scope.names, p.2 ≠ .free) /\ ∀ p ∈ fd.scope.names.take fd.params.args.length, stored (some p.2) = true)
theorem none_of {α : Type} {o : Option α} (h : o.isNone = true) : o = none := by cases o; rfl; cases h
theorem isNon_eq {v : Value} (h : isNon (era v) = true) : v = .none := era_non (by cases q : era v <;> rw [q] at h <;> first | rfl | exact Bool.noConfusion h)
theorem par_eq {p : Arguments} : ∀ {a v k w}, p.posonlyargs = a -> p.vararg = v -> p.kwonlyargs = k -> p.kwarg = w -> p = { posonlyargs := a, args := p.args, vararg := v, kwonlyargs := k, kw_defaults := p.kw_defaults, kwarg := w, defaults := p.defaults }
 | _, _, _, _, rfl, rfl, rfl, rfl => by cases p; rfl
theorem bind_plain0 (fd : FuncData) (as : List Arg) (ks : List (Option Expr)) (ds : List Expr) (hp : fd.params = { posonlyargs := [], args := as, vararg := none, kwonlyargs := [], kw_defaults := ks, kwarg := none, defaults := ds }) (hd : fd.defaults = .none)
  (hn : (as.map Arg.arg).Nodup) (vals : List Value) (hl : vals.length = (as.map Arg.arg).length) : bindArgs fd ⟨vals, []⟩ = pure ((as.map Arg.arg).zip vals) := by
 have hg : ¬ (decide (vals.length > (as.map Arg.arg).length) && true) = true := by rw [hl, decide_eq_false (Nat.lt_irrefl _)]; exact Bool.false_ne_true
 have hmiss : ∀ k, ¬ (!(((as.map Arg.arg).take k).filter (fun n => (((as.map Arg.arg).zip vals).lookup n).isNone)).isEmpty) = true := fun k => by
  rw [List.filter_eq_nil_iff.mpr fun n hm => ?_]
  ·exact Bool.false_ne_true
  ·have := lookup_zip hl n (List.mem_of_mem_take hm)
   cases q : ((as.map Arg.arg).zip vals).lookup n with
   | none => rw [q] at this; cases this
   | some _ => exact Bool.false_ne_true
 cases fd
 cases hp; cases hd
 refine (if_neg hg).trans ((if_neg (hmiss _)).trans (bind_forIn List.drop_nil ?_))
 show (pure (((as.map Arg.arg) ++ []).filterMap fun n => (((as.map Arg.arg).zip vals).lookup n).map fun v => (n, v)) : Sem _) = _
 rw [List.append_nil, filterMap_zip hn hl _ fun _ _ => rfl]
theorem bind_plain (fd : FuncData) (ok : okFd fd = true) (vals : List Value) (hl : vals.length = fd.params.args.length) : bindArgs fd ⟨vals, []⟩ = pure ((fd.scope.names.map (·.1)).zip vals) := by
 have h := of_decide_eq_true ok
 have h6 := h.2.2.2.2.2.1
 refine (bind_plain0 fd _ _ _ (par_eq (List.isEmpty_iff.mp h.1) (none_of h.2.1) (List.isEmpty_iff.mp h.2.2.1) (none_of h.2.2.2.1)) (isNon_eq h.2.2.2.2.1) ?_ vals (hl.trans (List.length_map ..).symm)).trans (congrArg pure ?_)
 ·rw [h6, List.map_take]; exact (List.take_sublist _ _).nodup h.2.2.2.2.2.2.2.2.2.2.2.2.2.1
 ·show (fd.params.args.map Arg.arg).zip vals = _
  rw [h6, List.map_take, <- hl, zip_take]
noncomputable def funcD : (d : Data) -> Option { fd : FuncData // d = .func fd }
 | .func fd => some ⟨fd, rfl⟩
 | _ => none
noncomputable def stmtsB : (b : FuncBody) -> Option { l : List Stmt // b = .stmts l }
 | .stmts l => some ⟨l, rfl⟩
 | _ => none
noncomputable def fiOf (o : Obj) : Option FI := (funcD o.data).bind fun fd => (stmtsB fd.1.body).bind fun b => (compB fd.1.scope.names b.1).map fun m => ⟨fd.1.params.args.length, fd.1.scope.names, m.1⟩
noncomputable def ftOf (K : Frag) (f : Addr) : Option FI := (K.lookup f).bind fiOf
noncomputable def okFns (K : Frag) : Bool := K.all fun p => (funcD p.2.data).all fun fd => decide (okFd fd.1 = true /\ codeIn K fd.1.code fd.1.qualname = true /\ keepIn K (.ref p.1) = true)
theorem mem_lookup {α β : Type} [BEq α] [LawfulBEq α] : ∀ {l : List (α × β)} {a : α} {b : β}, l.lookup a = some b -> (a, b) ∈ l
 | [], _, _, h => by simp at h
 | (k, v) :: r, a, b, h => by
  rw [List.lookup_cons] at h
  cases q : a == k with
  | true => rw [q] at h; cases h; rw [eq_of_beq q]; exact .head _
  | false => rw [q] at h; exact .tail _ (mem_lookup h)
theorem fd_upd (fd : FuncData) {B : FuncBody} {G N : Addr} {C : List (Str × Addr)} {cd : Value} {K : ScopeKind} {g1 g2 : Bool} (h1 : fd.body = B) (h2 : fd.globals = G) (h3 : fd.closure = C) (h4 : fd.builtins = N) (h5 : fd.code = cd) (h6 : fd.scope.kind = K) (h7 : fd.scope.isGenerator = g1) (h8 : fd.scope.isCoroutine = g2) :
  { fd with body := B, globals := G, closure := C, builtins := N, code := cd, scope := { fd.scope with kind := K, isGenerator := g1, isCoroutine := g2 } } = fd := by subst h1; subst h2; subst h3; subst h4; subst h5; subst h6; subst h7; subst h8; rfl
theorem fnAt_of {hb : Heap} {f : Addr} {o : Obj} {fd : FuncData} {b : List Stmt} (ho : hb.get? f = some o) (hd : o.data = .func fd) (hbd : fd.body = .stmts b) (k : okFd fd = true) (hc : hb.CodeRec fd.code fd.qualname) : FnAt hb f b fd.scope.names fd.params.args.length := by
 obtain ⟨cd, oc, cvs, tq, e1, e2, e3, e4⟩ := hc
 have m := (of_decide_eq_true k).2.2.2.2.2.2.2
 have e : pfd fd b fd.scope.names cd = fd := fd_upd fd hbd m.2.2.2.2.1 (List.isEmpty_iff.mp m.2.2.2.1) m.2.2.2.2.2.1 e1 m.1 m.2.1 m.2.2.1
 exact ⟨o, fd, cd, oc, cvs, tq, by rw [e, <- hd]; exact ho, e2, e3, e4, by rw [e]; exact bind_plain fd k⟩
theorem fnOK_of {c : Cx} (hft : c.ft = ftOf c.K) (hK : c.K.In c.hb) (ok : okFns c.K = true) (f : Addr) (fi : FI) (h : c.ft f = some fi) : FnOK c f fi := by
 rw [hft] at h
 obtain ⟨o, ho, h⟩ := Option.bind_eq_some_iff.mp h
 have hm := List.all_eq_true.mp ok (f, o) (mem_lookup ho)
 obtain ⟨⟨fd, hd⟩, hf, h⟩ := Option.bind_eq_some_iff.mp h
 obtain ⟨⟨b, hb⟩, _, h⟩ := Option.bind_eq_some_iff.mp h
 obtain ⟨m, hm2, rfl⟩ := Option.map_eq_some_iff.mp h
 dsimp only at hm
 rw [hf] at hm
 have k := of_decide_eq_true hm
 have m1 := (of_decide_eq_true k.1).2.2.2.2.2.2
 have m6 := m1.2.2.2.2
 exact ⟨⟨b, fnAt_of (hK _ _ ho) hd hb k.1 (codeRec_of hK k.2.1), m.2⟩, m1.1, m6.2.2.2.1, m6.2.2.2.2.1, m6.2.2.2.2.2, k.2.2⟩
end
section
noncomputable def n_103 : NS := [("self", .local), ("bytearray", .globalImplicit)]
noncomputable def b_103 : B := .cons (.asg (.attr (.loc 0) 0) (.bi .bytearray .nil)) (.cons (.asg (.attr (.loc 0) 1) (.int 0)) (.cons (.asg (.attr (.loc 0) 2) (.int 0)) .nil))
noncomputable def f_103 : FI := ⟨1, n_103, b_103⟩
noncomputable def n_110 : NS := [("self", .local), ("value", .local), ("size", .local), ("RangeError", .globalImplicit)]
noncomputable def b_110 : B := .cons (.ife (.or (.cons (.cmp .Lt (.loc 2) (.int 0)) (.cons (.not (.cmp2 .LtE .Lt (.int 0) (.loc 1) (.bin .LShift (.int 1) (.loc 2)))) .nil))) (.cons .dead .nil) .nil) (.cons (.asg (.attr (.loc 0) 1) (.bin .BitOr (.bin .LShift (.attr (.loc 0) 1) (.loc 2)) (.loc 1))) (.cons (.asg (.attr (.loc 0) 2) (.bin .Add (.attr (.loc 0) 2) (.loc 2))) (.cons (.whl (.cmp .GtE (.attr (.loc 0) 2) (.int 8)) (.cons (.asg (.attr (.loc 0) 2) (.bin .Sub (.attr (.loc 0) 2) (.int 8))) (.cons (.ex (.bm (.attr (.loc 0) 0) .append (.cons (.bin .RShift (.attr (.loc 0) 1) (.attr (.loc 0) 2)) .nil))) (.cons (.asg (.attr (.loc 0) 1) (.bin .BitAnd (.attr (.loc 0) 1) (.bin .Sub (.bin .LShift (.int 1) (.attr (.loc 0) 2)) (.int 1)))) .nil)))) .nil)))
noncomputable def f_110 : FI := ⟨3, n_110, b_110⟩
noncomputable def n_117 : NS := [("self", .local)]
noncomputable def b_117 : B := .cons (.ife (.cmp .Gt (.attr (.loc 0) 2) (.int 0)) (.cons (.ex (.meth (.loc 0) 25 (.cons (.bin .Sub (.bin .LShift (.int 1) (.bin .Sub (.int 8) (.attr (.loc 0) 2))) (.int 1)) (.cons (.bin .Sub (.int 8) (.attr (.loc 0) 2)) .nil)))) .nil) .nil) .nil
noncomputable def f_117 : FI := ⟨1, n_117, b_117⟩
noncomputable def n_124 : NS := [("self", .local), ("bytes", .globalImplicit)]
noncomputable def b_124 : B := .cons (.ret (.bi .bytes (.cons (.attr (.loc 0) 0) .nil))) .nil
noncomputable def f_124 : FI := ⟨1, n_124, b_124⟩
noncomputable def n_145 : NS := [("self", .local), ("octets", .local)]
noncomputable def b_145 : B := .cons (.asg (.attr (.loc 0) 3) (.loc 1)) (.cons (.asg (.attr (.loc 0) 4) (.int 0)) .nil)
noncomputable def f_145 : FI := ⟨2, n_145, b_145⟩
noncomputable def n_152 : NS := [("self", .local), ("len", .globalImplicit)]
noncomputable def b_152 : B := .cons (.ret (.bin .Sub (.bin .Mult (.int 8) (.bi .len (.cons (.attr (.loc 0) 3) .nil))) (.attr (.loc 0) 4))) .nil
noncomputable def f_152 : FI := ⟨1, n_152, b_152⟩
noncomputable def n_159 : NS := [("self", .local), ("found", .local), ("len", .globalImplicit), ("CutError", .globalImplicit)]
noncomputable def b_159 : B := .cons (.ife (.cmp .GtE (.attr (.loc 0) 4) (.bin .Mult (.int 8) (.bi .len (.cons (.attr (.loc 0) 3) .nil)))) (.cons (.rais 75) .nil) .nil) (.cons (.asg (.loc 1) (.bin .BitAnd (.bin .RShift (.sub (.attr (.loc 0) 3) (.bin .RShift (.attr (.loc 0) 4) (.int 3))) (.bin .Sub (.int 7) (.bin .BitAnd (.attr (.loc 0) 4) (.int 7)))) (.int 1))) (.cons (.asg (.attr (.loc 0) 4) (.bin .Add (.attr (.loc 0) 4) (.int 1))) (.cons (.ret (.loc 1)) .nil)))
noncomputable def f_159 : FI := ⟨1, n_159, b_159⟩
noncomputable def n_166 : NS := [("self", .local), ("size", .local), ("found", .local), ("turn", .local), ("CutError", .globalImplicit), ("range", .globalImplicit)]
noncomputable def b_166 : B := .cons (.ife (.cmp .Gt (.loc 1) (.meth (.loc 0) 28 .nil)) (.cons (.rais 75) .nil) .nil) (.cons (.asg (.loc 2) (.int 0)) (.cons (.forr (.loc 3) (.up (.int 0) (.loc 1)) (.cons (.asg (.loc 2) (.bin .Add (.bin .Mult (.loc 2) (.int 2)) (.meth (.loc 0) 29 .nil))) .nil)) (.cons (.ret (.loc 2)) .nil)))
noncomputable def f_166 : FI := ⟨2, n_166, b_166⟩
noncomputable def n_180 : NS := [("counts", .local), ("rows", .local), ("code", .local), ("place", .local), ("size", .local), ("many", .local), ("range", .globalImplicit), ("len", .globalImplicit), ("TableError", .globalImplicit)]
noncomputable def b_180 : B := .cons (.asg (.loc 1) (.list .nil)) (.cons (.asg2 [2, 3] (.cons (.int 0) (.cons (.int 0) .nil))) (.cons (.forr (.loc 4) (.up (.int 1) (.bin .Add (.bi .len (.cons (.loc 0) .nil)) (.int 1))) (.cons (.asg (.loc 5) (.sub (.loc 0) (.bin .Sub (.loc 4) (.int 1)))) (.cons (.ex (.bm (.loc 1) .append (.cons (.tup (.cons (.loc 2) (.cons (.loc 5) (.cons (.loc 3) .nil)))) .nil))) (.cons (.asg (.loc 2) (.bin .Add (.loc 2) (.loc 5))) (.cons (.asg (.loc 3) (.bin .Add (.loc 3) (.loc 5))) (.cons (.ife (.and (.cons (.cmp .GtE (.loc 2) (.bin .Pow (.int 2) (.loc 4))) (.cons (.cmp .Gt (.loc 5) (.int 0)) .nil))) (.cons .dead .nil) .nil) (.cons (.asg (.loc 2) (.bin .Mult (.loc 2) (.int 2))) .nil))))))) (.cons (.ret (.loc 1)) .nil)))
noncomputable def f_180 : FI := ⟨1, n_180, b_180⟩
noncomputable def n_187 : NS := [("counts", .local), ("symbols", .local), ("met", .local), ("symbol", .local), ("len", .globalImplicit), ("MOST_BITS", .globalImplicit), ("min", .globalImplicit), ("TableError", .globalImplicit), ("sum", .globalImplicit), ("MOST_SYMBOLS", .globalImplicit), ("set", .globalImplicit)]
noncomputable def b_187 : B := .cons (.ife (.or (.cons (.cmp .NotEq (.bi .len (.cons (.loc 0) .nil)) (.int 16)) (.cons (.cmp .Lt (.bi .min (.cons (.loc 0) .nil)) (.int 0)) .nil))) (.cons .dead .nil) .nil) (.cons (.ife (.or (.cons (.cmp .NotEq (.bi .sum (.cons (.loc 0) .nil)) (.bi .len (.cons (.loc 1) .nil))) (.cons (.cmp .Gt (.bi .len (.cons (.loc 1) .nil)) (.int 256)) .nil))) (.cons .dead .nil) .nil) (.cons (.asg (.loc 2) (.bi .set .nil)) (.cons (.forr (.loc 3) (.ex (.loc 1)) (.cons (.ife (.cmp .In (.loc 3) (.loc 2)) (.cons .dead .nil) .nil) (.cons (.ex (.bm (.loc 2) .add (.cons (.loc 3) .nil))) .nil))) .nil)))
noncomputable def f_187 : FI := ⟨2, n_187, b_187⟩
noncomputable def n_201 : NS := [("self", .local), ("counts", .local), ("symbols", .local), ("size", .local), ("first", .local), ("many", .local), ("place", .local), ("k", .local), ("check_told", .globalImplicit), ("tuple", .globalImplicit), ("code_rows", .globalImplicit), ("range", .globalImplicit), ("MOST_BITS", .globalImplicit)]
noncomputable def b_201 : B := .cons (.ex (.fn 187 (.cons (.loc 1) (.cons (.loc 2) .nil)))) (.cons (.asg (.attr (.loc 0) 5) (.bi .tuple (.cons (.loc 1) .nil))) (.cons (.asg (.attr (.loc 0) 6) (.bi .tuple (.cons (.loc 2) .nil))) (.cons (.asg (.attr (.loc 0) 7) (.fn 180 (.cons (.attr (.loc 0) 5) .nil))) (.cons (.asg (.attr (.loc 0) 8) .edict) (.cons (.forr (.loc 3) (.up (.int 1) (.bin .Add (.int 16) (.int 1))) (.cons (.asg (.locs [4, 5, 6]) (.sub (.attr (.loc 0) 7) (.bin .Sub (.loc 3) (.int 1)))) (.cons (.forr (.loc 7) (.up (.int 0) (.loc 5)) (.cons (.asg (.sub (.attr (.loc 0) 8) (.sub (.attr (.loc 0) 6) (.bin .Add (.loc 6) (.loc 7)))) (.tup (.cons (.bin .Add (.loc 4) (.loc 7)) (.cons (.loc 3) .nil)))) .nil)) .nil))) .nil)))))
noncomputable def f_201 : FI := ⟨3, n_201, b_201⟩
noncomputable def n_208 : NS := [("self", .local), ("symbol", .local), ("found", .local), ("TableError", .globalImplicit), ("str", .globalImplicit)]
noncomputable def b_208 : B := .cons (.asg (.loc 2) (.bm (.attr (.loc 0) 8) .get (.cons (.loc 1) .nil))) (.cons (.ife (.cmp .Is (.loc 2) .non) (.cons .dead .nil) .nil) (.cons (.ret (.loc 2)) .nil))
noncomputable def f_208 : FI := ⟨2, n_208, b_208⟩
noncomputable def n_215 : NS := [("self", .local), ("reader", .local), ("code", .local), ("first", .local), ("many", .local), ("place", .local), ("CodeError", .globalImplicit)]
noncomputable def b_215 : B := .cons (.asg (.loc 2) (.int 0)) (.cons (.forr (.locs [3, 4, 5]) (.ex (.attr (.loc 0) 7)) (.cons (.asg (.loc 2) (.bin .Add (.bin .Mult (.loc 2) (.int 2)) (.meth (.loc 1) 29 .nil))) (.cons (.ife (.cmp .Lt (.bin .Sub (.loc 2) (.loc 3)) (.loc 4)) (.cons (.ret (.sub (.attr (.loc 0) 6) (.bin .Sub (.bin .Add (.loc 5) (.loc 2)) (.loc 3)))) .nil) .nil) .nil))) (.cons (.rais 63) .nil))
noncomputable def f_215 : FI := ⟨2, n_215, b_215⟩
noncomputable def n_229 : NS := [("run", .local), ("size", .local)]
noncomputable def b_229 : B := .cons (.asg (.loc 1) (.bin .Sub (.bm (.loc 0) .bitlen .nil) (.int 1))) (.cons (.ret (.tup (.cons (.bin .Mult (.int 16) (.loc 1)) (.cons (.loc 1) .nil)))) .nil)
noncomputable def f_229 : FI := ⟨1, n_229, b_229⟩
noncomputable def n_236 : NS := [("value", .local), ("low", .local), ("abs", .globalImplicit)]
noncomputable def b_236 : B := .cons (.ret (.bin .RShift (.bi .abs (.cons (.loc 0) .nil)) (.loc 1))) .nil
noncomputable def f_236 : FI := ⟨2, n_236, b_236⟩
noncomputable def n_250 : NS := [("self", .local), ("scan", .local), ("sink", .local)]
noncomputable def b_250 : B := .cons (.asg (.attr (.loc 0) 9) (.loc 1)) (.cons (.asg (.attr (.loc 0) 10) (.loc 2)) (.cons (.asg (.attr (.loc 0) 11) (.tup (.cons (.int 1) (.cons (.sub (.attr (.loc 1) 18) (.int 0)) .nil)))) (.cons (.asg (.attr (.loc 0) 12) (.int 0)) (.cons (.asg (.attr (.loc 0) 13) (.list .nil)) .nil))))
noncomputable def f_250 : FI := ⟨3, n_250, b_250⟩
noncomputable def n_257 : NS := [("self", .local)]
noncomputable def b_257 : B := .cons (.asg (.attr (.loc 0) 12) (.int 0)) (.cons (.asg (.attr (.loc 0) 13) (.list .nil)) .nil)
noncomputable def f_257 : FI := ⟨1, n_257, b_257⟩
noncomputable def n_264 : NS := [("self", .local), ("some", .local), ("bit", .local)]
noncomputable def b_264 : B := .cons (.forr (.loc 2) (.ex (.loc 1)) (.cons (.ex (.meth (.attr (.loc 0) 10) 30 (.cons (.loc 2) (.cons (.int 1) .nil)))) .nil)) .nil
noncomputable def f_264 : FI := ⟨2, n_264, b_264⟩
noncomputable def n_271 : NS := [("self", .local), ("symbol", .local), ("size", .local), ("run_code", .globalImplicit)]
noncomputable def b_271 : B := .cons (.ife (.cmp .Gt (.attr (.loc 0) 12) (.int 0)) (.cons (.asg (.locs [1, 2]) (.fn 229 (.cons (.attr (.loc 0) 12) .nil))) (.cons (.ex (.meth (.attr (.loc 0) 10) 40 (.cons (.attr (.loc 0) 11) (.cons (.loc 1) .nil)))) (.cons (.ife (.cmp .Gt (.loc 2) (.int 0)) (.cons (.ex (.meth (.attr (.loc 0) 10) 30 (.cons (.bin .Sub (.attr (.loc 0) 12) (.bin .Pow (.int 2) (.loc 2))) (.cons (.loc 2) .nil)))) .nil) .nil) (.cons (.ex (.meth (.loc 0) 33 (.cons (.attr (.loc 0) 13) .nil))) (.cons (.asg (.attr (.loc 0) 12) (.int 0)) (.cons (.asg (.attr (.loc 0) 13) (.list .nil)) .nil)))))) .nil) .nil
noncomputable def f_271 : FI := ⟨1, n_271, b_271⟩
noncomputable def n_278 : NS := [("self", .local), ("row", .local), ("last", .local), ("k", .local), ("range", .globalImplicit), ("shrunk_size", .globalImplicit)]
noncomputable def b_278 : B := .cons (.asg (.loc 2) (.bin .Sub (.attr (.attr (.loc 0) 9) 19) (.int 1))) (.cons (.forr (.loc 3) (.up (.attr (.attr (.loc 0) 9) 19) (.bin .Add (.attr (.attr (.loc 0) 9) 20) (.int 1))) (.cons (.ife (.cmp .Eq (.fn 236 (.cons (.sub (.loc 1) (.loc 3)) (.cons (.attr (.attr (.loc 0) 9) 22) .nil))) (.int 1)) (.cons (.asg (.loc 2) (.loc 3)) .nil) .nil) .nil)) (.cons (.ret (.loc 2)) .nil))
noncomputable def f_278 : FI := ⟨2, n_278, b_278⟩
noncomputable def n_285 : NS := [("self", .local), ("place", .local), ("row", .local), ("last", .local), ("zeros", .local), ("here", .local), ("k", .local), ("size", .local), ("range", .globalImplicit), ("shrunk_size", .globalImplicit), ("SIXTEEN_ZEROS", .globalImplicit), ("MOST_RUN", .globalImplicit), ("len", .globalImplicit), ("MOST_KEPT", .globalImplicit)]
noncomputable def b_285 : B := .cons (.asg2 [3, 4, 5] (.cons (.meth (.loc 0) 35 (.cons (.loc 2) .nil)) (.cons (.int 0) (.cons (.list .nil) .nil)))) (.cons (.forr (.loc 6) (.up (.attr (.attr (.loc 0) 9) 19) (.bin .Add (.attr (.attr (.loc 0) 9) 20) (.int 1))) (.cons (.asg (.loc 7) (.fn 236 (.cons (.sub (.loc 2) (.loc 6)) (.cons (.attr (.attr (.loc 0) 9) 22) .nil)))) (.cons (.ife (.cmp .Eq (.loc 7) (.int 0)) (.cons (.asg (.loc 4) (.bin .Add (.loc 4) (.int 1))) .nil) (.cons (.whl (.and (.cons (.cmp .Gt (.loc 4) (.int 15)) (.cons (.cmp .LtE (.loc 6) (.loc 3)) .nil))) (.cons (.ex (.meth (.loc 0) 34 .nil)) (.cons (.ex (.meth (.attr (.loc 0) 10) 40 (.cons (.attr (.loc 0) 11) (.cons (.int 240) .nil)))) (.cons (.ex (.meth (.loc 0) 33 (.cons (.loc 5) .nil))) (.cons (.asg2 [4, 5] (.cons (.bin .Sub (.loc 4) (.int 16)) (.cons (.list .nil) .nil))) .nil))))) (.cons (.ife (.cmp .Gt (.loc 7) (.int 1)) (.cons (.ex (.bm (.loc 5) .append (.cons (.bin .BitAnd (.loc 7) (.int 1)) .nil))) .nil) (.cons (.ex (.meth (.loc 0) 34 .nil)) (.cons (.ex (.meth (.attr (.loc 0) 10) 40 (.cons (.attr (.loc 0) 11) (.cons (.bin .Add (.bin .Mult (.int 16) (.loc 4)) (.int 1)) .nil)))) (.cons (.ex (.meth (.attr (.loc 0) 10) 30 (.cons (.ite (.cmp .Gt (.sub (.loc 2) (.loc 6)) (.int 0)) (.int 1) (.int 0)) (.cons (.int 1) .nil)))) (.cons (.ex (.meth (.loc 0) 33 (.cons (.loc 5) .nil))) (.cons (.asg2 [4, 5] (.cons (.int 0) (.cons (.list .nil) .nil))) .nil)))))) .nil))) .nil))) (.cons (.ife (.or (.cons (.cmp .Gt (.loc 4) (.int 0)) (.cons (.cmp .NotEq (.loc 5) (.list .nil)) .nil))) (.cons (.asg (.attr (.loc 0) 12) (.bin .Add (.attr (.loc 0) 12) (.int 1))) (.cons (.asg (.attr (.loc 0) 13) (.bin .Add (.attr (.loc 0) 13) (.loc 5))) (.cons (.ife (.or (.cons (.cmp .Eq (.attr (.loc 0) 12) (.int 32767)) (.cons (.cmp .Gt (.bi .len (.cons (.attr (.loc 0) 13) .nil)) (.int 937)) .nil))) (.cons (.ex (.meth (.loc 0) 34 .nil)) .nil) .nil) .nil))) .nil) .nil))
noncomputable def f_285 : FI := ⟨3, n_285, b_285⟩
noncomputable def n_292 : NS := [("self", .local)]
noncomputable def b_292 : B := .cons (.ex (.meth (.loc 0) 34 .nil)) (.cons (.ret (.meth (.attr (.loc 0) 10) 36 .nil)) .nil)
noncomputable def f_292 : FI := ⟨1, n_292, b_292⟩
noncomputable def n_313 : NS := [("self", .local), ("scan", .local), ("tables", .local)]
noncomputable def b_313 : B := .cons (.asg (.attr (.loc 0) 9) (.loc 1)) (.cons (.asg (.attr (.loc 0) 15) (.sub (.loc 2) (.tup (.cons (.int 1) (.cons (.sub (.attr (.loc 1) 18) (.int 0)) .nil))))) (.cons (.asg (.attr (.loc 0) 14) .non) (.cons (.asg (.attr (.loc 0) 12) (.int 0)) .nil)))
noncomputable def f_313 : FI := ⟨3, n_313, b_313⟩
noncomputable def n_320 : NS := [("self", .local), ("octets", .local), ("BitReader", .globalImplicit)]
noncomputable def b_320 : B := .cons (.asg (.attr (.loc 0) 12) (.int 0)) (.cons (.asg (.attr (.loc 0) 14) (.new 169 (.cons (.loc 1) .nil))) .nil)
noncomputable def f_320 : FI := ⟨2, n_320, b_320⟩
noncomputable def n_327 : NS := [("self", .local), ("row", .local), ("k", .local), ("more", .local), ("shrunk_size", .globalImplicit)]
noncomputable def b_327 : B := .cons (.ife (.and (.cons (.cmp .Eq (.meth (.attr (.loc 0) 14) 29 .nil) (.int 1)) (.cons (.cmp .Eq (.bin .BitAnd (.fn 236 (.cons (.sub (.loc 1) (.loc 2)) (.cons (.attr (.attr (.loc 0) 9) 22) .nil))) (.int 1)) (.int 0)) .nil))) (.cons (.asg (.loc 3) (.bin .Pow (.int 2) (.attr (.attr (.loc 0) 9) 22))) (.cons (.asg (.sub (.loc 1) (.loc 2)) (.ite (.cmp .Gt (.sub (.loc 1) (.loc 2)) (.int 0)) (.bin .Add (.sub (.loc 1) (.loc 2)) (.loc 3)) (.bin .Sub (.sub (.loc 1) (.loc 2)) (.loc 3)))) .nil)) .nil) .nil
noncomputable def f_327 : FI := ⟨3, n_327, b_327⟩
noncomputable def n_334 : NS := [("self", .local), ("row", .local), ("k", .local), ("zeros", .local)]
noncomputable def b_334 : B := .cons (.whl (.cmp .LtE (.loc 2) (.attr (.attr (.loc 0) 9) 20)) (.cons (.ife (.cmp .NotEq (.sub (.loc 1) (.loc 2)) (.int 0)) (.cons (.ex (.meth (.loc 0) 37 (.cons (.loc 1) (.cons (.loc 2) .nil)))) .nil) (.cons (.ife (.cmp .Eq (.loc 3) (.int 0)) (.cons (.ret (.loc 2)) .nil) (.cons (.asg (.loc 3) (.bin .Sub (.loc 3) (.int 1))) .nil)) .nil)) (.cons (.asg (.loc 2) (.bin .Add (.loc 2) (.int 1))) .nil))) (.cons (.ret (.loc 2)) .nil)
noncomputable def f_334 : FI := ⟨4, n_334, b_334⟩
noncomputable def n_341 : NS := [("self", .local), ("symbol", .local), ("SIXTEEN_ZEROS", .globalImplicit), ("CodeError", .globalImplicit)]
noncomputable def b_341 : B := .cons (.ife (.cmp .Eq (.loc 1) (.int 240)) (.cons (.ret (.int 0)) .nil) .nil) (.cons (.ife (.cmp .NotEq (.bin .BitAnd (.loc 1) (.int 15)) (.int 1)) (.cons (.rais 63) .nil) .nil) (.cons (.ret (.ite (.cmp .Eq (.meth (.attr (.loc 0) 14) 29 .nil) (.int 1)) (.bin .Pow (.int 2) (.attr (.attr (.loc 0) 9) 22)) (.neg (.bin .Pow (.int 2) (.attr (.attr (.loc 0) 9) 22))))) .nil))
noncomputable def f_341 : FI := ⟨2, n_341, b_341⟩
noncomputable def n_348 : NS := [("self", .local), ("place", .local), ("row", .local), ("found", .local), ("k", .local), ("end", .local), ("symbol", .local), ("zeros", .local), ("value", .local), ("list", .globalImplicit), ("CodeError", .globalImplicit)]
noncomputable def b_348 : B := .cons (.asg2 [3, 4, 5] (.cons (.bi .list (.cons (.loc 2) .nil)) (.cons (.attr (.attr (.loc 0) 9) 19) (.cons (.attr (.attr (.loc 0) 9) 20) .nil)))) (.cons (.whl (.and (.cons (.cmp .Eq (.attr (.loc 0) 12) (.int 0)) (.cons (.cmp .LtE (.loc 4) (.loc 5)) .nil))) (.cons (.asg (.loc 6) (.meth (.attr (.loc 0) 15) 32 (.cons (.attr (.loc 0) 14) .nil))) (.cons (.asg (.loc 7) (.bin .RShift (.loc 6) (.int 4))) (.cons (.ife (.and (.cons (.cmp .Eq (.bin .BitAnd (.loc 6) (.int 15)) (.int 0)) (.cons (.cmp .Lt (.loc 7) (.int 15)) .nil))) (.cons (.asg (.attr (.loc 0) 12) (.bin .Pow (.int 2) (.loc 7))) (.cons (.ife (.cmp .Gt (.loc 7) (.int 0)) (.cons (.asg (.attr (.loc 0) 12) (.bin .Add (.attr (.loc 0) 12) (.meth (.attr (.loc 0) 14) 30 (.cons (.loc 7) .nil)))) .nil) .nil) .nil)) (.cons (.asg (.loc 8) (.meth (.loc 0) 39 (.cons (.loc 6) .nil))) (.cons (.asg (.loc 4) (.meth (.loc 0) 38 (.cons (.loc 3) (.cons (.loc 4) (.cons (.loc 7) .nil))))) (.cons (.ife (.cmp .Gt (.loc 4) (.loc 5)) (.cons (.rais 63) .nil) .nil) (.cons (.asg (.sub (.loc 3) (.loc 4)) (.loc 8)) (.cons (.asg (.loc 4) (.bin .Add (.loc 4) (.int 1))) .nil)))))) .nil)))) (.cons (.ife (.cmp .Gt (.attr (.loc 0) 12) (.int 0)) (.cons (.ex (.meth (.loc 0) 38 (.cons (.loc 3) (.cons (.loc 4) (.cons (.bin .Add (.loc 5) (.int 1)) .nil))))) (.cons (.asg (.attr (.loc 0) 12) (.bin .Sub (.attr (.loc 0) 12) (.int 1))) .nil)) .nil) (.cons (.ret (.loc 3)) .nil)))
noncomputable def f_348 : FI := ⟨3, n_348, b_348⟩
noncomputable def n_355 : NS := [("self", .local), ("CodeError", .globalImplicit)]
noncomputable def b_355 : B := .cons (.ife (.cmp .Gt (.attr (.loc 0) 12) (.int 0)) (.cons (.rais 63) .nil) .nil) .nil
noncomputable def f_355 : FI := ⟨1, n_355, b_355⟩
noncomputable def n_376 : NS := [("self", .local), ("places", .local), ("dc_slots", .local), ("ac_slots", .local), ("start", .local), ("end", .local), ("high", .local), ("low", .local)]
noncomputable def b_376 : B := .cons (.asg (.attr (.loc 0) 16) (.loc 1)) (.cons (.asg (.attr (.loc 0) 17) (.loc 2)) (.cons (.asg (.attr (.loc 0) 18) (.loc 3)) (.cons (.asg (.attr (.loc 0) 19) (.loc 4)) (.cons (.asg (.attr (.loc 0) 20) (.loc 5)) (.cons (.asg (.attr (.loc 0) 21) (.loc 6)) (.cons (.asg (.attr (.loc 0) 22) (.loc 7)) .nil))))))
noncomputable def f_376 : FI := ⟨8, n_376, b_376⟩
noncomputable def n_411 : NS := [("self", .local), ("tables", .local), ("BitWriter", .globalImplicit)]
noncomputable def b_411 : B := .cons (.asg (.attr (.loc 0) 23) (.loc 1)) (.cons (.asg (.attr (.loc 0) 24) (.new 127 .nil)) .nil)
noncomputable def f_411 : FI := ⟨2, n_411, b_411⟩
noncomputable def n_418 : NS := [("self", .local), ("key", .local), ("s", .local), ("bits", .local), ("size", .local)]
noncomputable def b_418 : B := .cons (.asg (.locs [3, 4]) (.meth (.sub (.attr (.loc 0) 23) (.loc 1)) 31 (.cons (.loc 2) .nil))) (.cons (.ex (.meth (.attr (.loc 0) 24) 25 (.cons (.loc 3) (.cons (.loc 4) .nil)))) .nil)
noncomputable def f_418 : FI := ⟨3, n_418, b_418⟩
noncomputable def n_425 : NS := [("self", .local), ("v", .local), ("size", .local)]
noncomputable def b_425 : B := .cons (.ex (.meth (.attr (.loc 0) 24) 25 (.cons (.loc 1) (.cons (.loc 2) .nil)))) .nil
noncomputable def f_425 : FI := ⟨3, n_425, b_425⟩
noncomputable def n_432 : NS := [("self", .local), ("found", .local), ("BitWriter", .globalImplicit)]
noncomputable def b_432 : B := .cons (.ex (.meth (.attr (.loc 0) 24) 26 .nil)) (.cons (.asg (.loc 1) (.meth (.attr (.loc 0) 24) 27 .nil)) (.cons (.asg (.attr (.loc 0) 24) (.new 127 .nil)) (.cons (.ret (.loc 1)) .nil)))
noncomputable def f_432 : FI := ⟨1, n_432, b_432⟩
noncomputable def n_446 : NS := [("script", .local), ("cell", .local), ("size", .local), ("mixed", .local), ("one", .local), ("len", .globalImplicit), ("abs", .globalImplicit), ("int", .globalImplicit)]
noncomputable def b_446 : B := .cons (.asg (.loc 1) (.ite (.cmp .Gt (.bi .len (.cons (.loc 0) .nil)) (.int 0)) (.sub (.loc 0) (.int 0)) (.int 0))) (.cons (.asg (.loc 2) (.bi .abs (.cons (.bi .int (.cons (.loc 1) .nil)) .nil))) (.cons (.asg (.loc 3) (.bin .Add (.bin .Mod (.bi .int (.cons (.loc 2) .nil)) (.int 2147483629)) (.bin .Mult (.int 17) (.bi .int (.cons (.cmp .Lt (.loc 1) (.int 0)) .nil))))) (.cons (.forr (.loc 4) (.ex (.slc (.loc 0) .non (.int 20))) (.cons (.asg (.loc 3) (.bin .Mod (.bi .int (.cons (.bin .Add (.bin .Add (.bin .Mult (.loc 3) (.int 48271)) (.bi .abs (.cons (.bi .int (.cons (.loc 4) .nil)) .nil))) (.int 11)) .nil)) (.int 2147483647))) .nil)) (.cons (.ret (.list (.cons (.bin .Mult (.loc 2) (.bi .int (.cons (.cmp .GtE (.loc 2) (.bin .Pow (.int 10) (.int 18))) .nil))) (.cons (.loc 3) .nil)))) .nil))))
noncomputable def f_446 : FI := ⟨1, n_446, b_446⟩
noncomputable def n_453 : NS := [("source", .local), ("many", .local), ("found", .local), ("int", .globalImplicit)]
noncomputable def b_453 : B := .cons (.ife (.cmp .Gt (.sub (.loc 0) (.int 0)) (.int 0)) (.cons (.asg (.loc 2) (.bin .Mod (.bi .int (.cons (.sub (.loc 0) (.int 0)) .nil)) (.loc 1))) (.cons (.asg (.sub (.loc 0) (.int 0)) (.bin .FloorDiv (.sub (.loc 0) (.int 0)) (.loc 1))) (.cons (.ret (.loc 2)) .nil))) .nil) (.cons (.asg (.sub (.loc 0) (.int 1)) (.bin .Mod (.bi .int (.cons (.bin .Add (.bin .Mult (.sub (.loc 0) (.int 1)) (.int 48271)) (.int 11)) .nil)) (.int 2147483647))) (.cons (.ret (.bin .Mod (.bi .int (.cons (.bin .FloorDiv (.bin .Mod (.bi .int (.cons (.bin .Mult (.sub (.loc 0) (.int 1)) (.sub (.loc 0) (.int 1))) .nil)) (.int 2147483629)) (.int 16)) .nil)) (.loc 1))) .nil))
noncomputable def f_453 : FI := ⟨2, n_453, b_453⟩
noncomputable def n_460 : NS := [("pen", .local), ("many", .local), ("part", .local), ("int", .globalImplicit)]
noncomputable def b_460 : B := .cons (.asg (.loc 2) (.slc (.sub (.loc 0) (.int 0)) (.sub (.loc 0) (.int 1)) (.bin .Add (.sub (.loc 0) (.int 1)) (.loc 1)))) (.cons (.asg (.sub (.loc 0) (.int 1)) (.bin .Add (.sub (.loc 0) (.int 1)) (.loc 1))) (.cons (.ret (.ite (.cmp .Gt (.loc 1) (.int 0)) (.bi .int (.cons (.loc 2) (.cons (.int 2) .nil))) (.int 0))) .nil))
noncomputable def f_460 : FI := ⟨2, n_460, b_460⟩
noncomputable def n_467 : NS := [("pen", .local), ("row", .local), ("k", .local), ("low", .local), ("_law_taken", .globalImplicit)]
noncomputable def b_467 : B := .cons (.ife (.cmp .Eq (.fn 460 (.cons (.loc 0) (.cons (.int 1) .nil))) (.int 1)) (.cons (.asg (.sub (.loc 1) (.loc 2)) (.ite (.cmp .Gt (.sub (.loc 1) (.loc 2)) (.int 0)) (.bin .Add (.sub (.loc 1) (.loc 2)) (.bin .Pow (.int 2) (.loc 3))) (.bin .Sub (.sub (.loc 1) (.loc 2)) (.bin .Pow (.int 2) (.loc 3))))) .nil) .nil) .nil
noncomputable def f_467 : FI := ⟨4, n_467, b_467⟩
noncomputable def n_474 : NS := [("pen", .local), ("known", .local), ("run", .local), ("end", .local), ("low", .local), ("symbols", .local), ("row", .local), ("k", .local), ("symbol", .local), ("left", .local), ("worth", .local), ("at", .local), ("list", .globalImplicit), ("_law_taken", .globalImplicit), ("_law_mended", .globalImplicit), ("range", .globalImplicit)]
noncomputable def b_474 : B := .cons (.asg2 [6, 7] (.cons (.bi .list (.cons (.loc 1) .nil)) (.cons (.int 1) .nil))) (.cons (.whl (.and (.cons (.cmp .Eq (.loc 2) (.int 0)) (.cons (.cmp .LtE (.loc 7) (.loc 3)) .nil))) (.cons (.asg (.loc 8) (.sub (.loc 5) (.fn 460 (.cons (.loc 0) (.cons (.int 7) .nil))))) (.cons (.asg (.loc 9) (.bin .FloorDiv (.loc 8) (.int 16))) (.cons (.ife (.and (.cons (.cmp .Eq (.bin .Mod (.loc 8) (.int 16)) (.int 0)) (.cons (.cmp .Lt (.loc 9) (.int 15)) .nil))) (.cons (.asg (.loc 2) (.bin .Add (.bin .Pow (.int 2) (.loc 9)) (.fn 460 (.cons (.loc 0) (.cons (.loc 9) .nil))))) .nil) (.cons (.asg (.loc 10) (.ite (.cmp .Eq (.loc 8) (.int 240)) (.int 0) (.bin .Mult (.bin .Sub (.bin .Mult (.int 2) (.fn 460 (.cons (.loc 0) (.cons (.int 1) .nil)))) (.int 1)) (.bin .Pow (.int 2) (.loc 4))))) (.cons (.whl (.or (.cons (.cmp .NotEq (.sub (.loc 6) (.loc 7)) (.int 0)) (.cons (.cmp .Gt (.loc 9) (.int 0)) .nil))) (.cons (.ife (.cmp .NotEq (.sub (.loc 6) (.loc 7)) (.int 0)) (.cons (.ex (.fn 467 (.cons (.loc 0) (.cons (.loc 6) (.cons (.loc 7) (.cons (.loc 4) .nil)))))) .nil) (.cons (.asg (.loc 9) (.bin .Sub (.loc 9) (.int 1))) .nil)) (.cons (.asg (.loc 7) (.bin .Add (.loc 7) (.int 1))) .nil))) (.cons (.asg (.sub (.loc 6) (.loc 7)) (.loc 10)) (.cons (.asg (.loc 7) (.bin .Add (.loc 7) (.int 1))) .nil))))) .nil)))) (.cons (.ife (.cmp .Gt (.loc 2) (.int 0)) (.cons (.forr (.loc 11) (.up (.loc 7) (.bin .Add (.loc 3) (.int 1))) (.cons (.ife (.cmp .NotEq (.sub (.loc 6) (.loc 11)) (.int 0)) (.cons (.ex (.fn 467 (.cons (.loc 0) (.cons (.loc 6) (.cons (.loc 11) (.cons (.loc 4) .nil)))))) .nil) .nil) .nil)) (.cons (.asg (.loc 2) (.bin .Sub (.loc 2) (.int 1))) .nil)) .nil) (.cons (.ret (.tup (.cons (.loc 6) (.cons (.loc 2) .nil)))) .nil)))
noncomputable def f_474 : FI := ⟨6, n_474, b_474⟩
noncomputable def n_481 : NS := [("source", .local), ("low", .local), ("way", .local), ("worth", .local), ("_law_draw", .globalImplicit)]
noncomputable def b_481 : B := .cons (.asg (.loc 2) (.fn 453 (.cons (.loc 0) (.cons (.int 8) .nil)))) (.cons (.ife (.cmp .Lt (.loc 2) (.int 5)) (.cons (.ret (.sub (.list (.cons (.int 0) (.cons (.int 0) (.cons (.int 0) (.cons (.bin .Pow (.int 2) (.loc 1)) (.cons (.neg (.bin .Pow (.int 2) (.loc 1))) .nil)))))) (.loc 2))) .nil) .nil) (.cons (.asg (.loc 3) (.bin .Add (.bin .Mult (.bin .Add (.int 2) (.fn 453 (.cons (.loc 0) (.cons (.int 4) .nil)))) (.bin .Pow (.int 2) (.loc 1))) (.fn 453 (.cons (.loc 0) (.cons (.bin .Pow (.int 2) (.loc 1)) .nil))))) (.cons (.ret (.ite (.cmp .Eq (.loc 2) (.int 5)) (.loc 3) (.ite (.cmp .Eq (.loc 2) (.int 6)) (.neg (.loc 3)) (.int 0)))) .nil)))
noncomputable def f_481 : FI := ⟨2, n_481, b_481⟩
noncomputable def n_488 : NS := [("number", .local), ("low", .local), ("abs", .globalImplicit)]
noncomputable def b_488 : B := .cons (.ret (.bin .Mult (.bin .Mult (.bin .FloorDiv (.bi .abs (.cons (.loc 0) .nil)) (.bin .Pow (.int 2) (.loc 1))) (.bin .Pow (.int 2) (.loc 1))) (.ite (.cmp .Gt (.loc 0) (.int 0)) (.int 1) (.neg (.int 1))))) .nil
noncomputable def f_488 : FI := ⟨2, n_488, b_488⟩
noncomputable def n_493 : NS := [("reader", .cell), ("octets", .local), ("known", .local), ("CutError", .globalImplicit), ("CodeError", .globalImplicit)]
noncomputable def b_493 : B := .cons (.ex (.meth (.loc 0) 19 (.cons (.loc 1) .nil))) (.cons (.tryx (.comp (.meth (.loc 2) 32 (.cons (.int 0) (.cons (.loc 1) .nil))) 1 (.ex (.loc 2)) [none, none, some 0]) 75 { cps := #[99, 117, 116] } 63 { cps := #[99, 111, 100, 101] }) .nil)
noncomputable def f_493 : FI := ⟨3, n_493, b_493⟩
noncomputable def n_500 : NS := [("scan", .local), ("tables", .local), ("symbols", .local), ("wanted", .local), ("writer", .local), ("BitWriter", .globalImplicit), ("_law_read", .globalImplicit), ("AcRefineReader", .globalImplicit)]
noncomputable def b_500 : B := .cons (.asg (.loc 4) (.new 127 .nil)) (.cons (.ex (.meth (.loc 4) 25 (.cons (.bm (.loc 2) .index (.cons (.loc 3) .nil)) (.cons (.int 7) .nil)))) (.cons (.ex (.meth (.loc 4) 26 .nil)) (.cons (.ret (.cmp .Eq (.fn 493 (.cons (.new 358 (.cons (.loc 0) (.cons (.loc 1) .nil))) (.cons (.meth (.loc 4) 27 .nil) (.cons (.list (.cons (.bin .Mult (.list (.cons (.int 0) .nil)) (.bin .Add (.attr (.loc 0) 20) (.int 1))) .nil)) .nil)))) (.str { cps := #[99, 111, 100, 101] }))) .nil)))
noncomputable def f_500 : FI := ⟨4, n_500, b_500⟩
noncomputable def n_505 : NS := [(Str.ofString "script", NameKind.local), (Str.ofString "source", NameKind.cell), (Str.ofString "side", NameKind.local), (Str.ofString "low", NameKind.cell), (Str.ofString "end", NameKind.cell), (Str.ofString "k", NameKind.local), (Str.ofString "rows", NameKind.cell), (Str.ofString "row", NameKind.local), (Str.ofString "known", NameKind.cell), (Str.ofString "due", NameKind.local), (Str.ofString "symbols", NameKind.local), (Str.ofString "tables", NameKind.local), (Str.ofString "scan", NameKind.local), (Str.ofString "writer", NameKind.local), (Str.ofString "octets", NameKind.local), (Str.ofString "pen", NameKind.local), (Str.ofString "run", NameKind.local), (Str.ofString "told", NameKind.local), (Str.ofString "found", NameKind.local), (Str.ofString "_law_source", NameKind.globalImplicit), (Str.ofString "int", NameKind.globalImplicit), (Str.ofString "len", NameKind.globalImplicit), (Str.ofString "_law_draw", NameKind.globalImplicit), (Str.ofString "range", NameKind.globalImplicit), (Str.ofString "min", NameKind.globalImplicit), (Str.ofString "HuffTable", NameKind.globalImplicit), (Str.ofString "Scan", NameKind.globalImplicit), (Str.ofString "AcRefineWriter", NameKind.globalImplicit), (Str.ofString "CodeSink", NameKind.globalImplicit), (Str.ofString "_law_block", NameKind.globalImplicit), (Str.ofString "_law_read", NameKind.globalImplicit), (Str.ofString "AcRefineReader", NameKind.globalImplicit), (Str.ofString "_law_refused", NameKind.globalImplicit)]
noncomputable def b_505 : B := .cons (.asg (.loc 1) (.fn 446 (.cons (.loc 0) .nil))) (.cons (.asg2 [2, 3] (.cons (.sub (.list (.cons (.int 2) (.cons (.int 5) .nil))) (.bi .int (.cons (.and (.cons (.cmp .Gt (.bi .len (.cons (.loc 0) .nil)) (.int 0)) (.cons (.cmp .Gt (.fn 453 (.cons (.loc 1) (.cons (.int 3) .nil))) (.int 0)) .nil))) .nil))) (.cons (.fn 453 (.cons (.loc 1) (.cons (.int 3) .nil))) .nil))) (.cons (.asg (.loc 4) (.bin .Sub (.bin .Mult (.loc 2) (.loc 2)) (.int 1))) (.cons (.asg (.loc 6) (.comp (.comp (.fn 481 (.cons (.loc 4) (.cons (.loc 3) .nil))) 1 (.up (.int 0) (.bin .Add (.loc 3) (.int 1))) [none, none, none, some 4, some 5]) 1 (.up (.int 0) (.bin .Add (.int 1) (.fn 453 (.cons (.loc 1) (.cons (.ite (.cmp .Eq (.loc 2) (.int 2)) (.int 4) (.int 3)) .nil))))) [none, none, none, some 4, some 3, some 1])) (.cons (.forr (.loc 7) (.ex (.loc 6)) (.cons (.forr (.loc 5) (.up (.int 0) (.bin .Mult (.fn 453 (.cons (.loc 1) (.cons (.int 2) .nil))) (.bi .min (.cons (.int 20) (.cons (.loc 4) .nil))))) (.cons (.asg (.sub (.loc 7) (.loc 5)) (.int 0)) .nil)) .nil)) (.cons (.asg (.loc 8) (.comp (.comp (.fn 488 (.cons (.loc 1) (.cons (.bin .Add (.loc 3) (.int 1)) .nil))) 1 (.ex (.loc 1)) [none, none, none, some 2]) 1 (.ex (.loc 6)) [none, none, some 3])) (.cons (.asg (.loc 9) (.comp (.bin .Add (.list (.cons (.sub (.sub (.loc 2) (.loc 1)) (.int 0)) .nil)) (.comp (.fn 488 (.cons (.loc 1) (.cons (.loc 3) .nil))) 1 (.ex (.slc (.sub (.loc 4) (.loc 1)) (.int 1) .non)) [none, none, none, some 3])) 1 (.up (.int 0) (.bi .len (.cons (.loc 6) .nil))) [none, none, some 8, some 3, some 6])) (.cons (.asg (.loc 10) (.comp2 (.bin .Add (.bin .Mult (.int 16) (.loc 1)) (.loc 2)) 1 (.up (.int 0) (.int 16)) 2 (.up (.int 0) (.int 3)) [none, none, none, none])) (.cons (.asg (.loc 11) (.dict (.tup (.cons (.int 1) (.cons (.int 0) .nil))) (.new 218 (.cons (.bin .Add (.bin .Add (.bin .Mult (.list (.cons (.int 0) .nil)) (.int 6)) (.list (.cons (.bi .len (.cons (.loc 10) .nil)) .nil))) (.bin .Mult (.list (.cons (.int 0) .nil)) (.int 9))) (.cons (.loc 10) .nil))))) (.cons (.asg (.loc 12) (.new 393 (.cons (.list (.cons (.int 0) .nil)) (.cons (.list (.cons (.int 0) .nil)) (.cons (.list (.cons (.int 0) .nil)) (.cons (.int 1) (.cons (.loc 4) (.cons (.bin .Add (.loc 3) (.int 1)) (.cons (.loc 3) .nil))))))))) (.cons (.asg (.loc 13) (.new 295 (.cons (.loc 12) (.cons (.new 435 (.cons (.loc 11) .nil)) .nil)))) (.cons (.ex (.meth (.loc 13) 19 .nil)) (.cons (.forr (.loc 7) (.ex (.loc 6)) (.cons (.ex (.meth (.loc 13) 31 (.cons (.int 0) (.cons (.loc 7) .nil)))) .nil)) (.cons (.asg (.loc 14) (.meth (.loc 13) 36 .nil)) (.cons (.asg2 [15, 16, 17] (.cons (.list (.cons (.bm (.str { cps := #[] }) .join (.cons (.comp2 (.bi .str (.cons (.bin .Mod (.bin .FloorDiv (.loc 1) (.bin .Pow (.int 2) (.loc 2))) (.int 2)) .nil)) 1 (.ex (.loc 14)) 2 (.down (.int 7) (.neg (.int 1))) [none, none, none, none, none]) .nil)) (.cons (.int 0) .nil))) (.cons (.int 0) (.cons (.list .nil) .nil)))) (.cons (.forr (.loc 7) (.ex (.loc 8)) (.cons (.asg (.locs [18, 16]) (.fn 474 (.cons (.loc 15) (.cons (.loc 7) (.cons (.loc 16) (.cons (.loc 4) (.cons (.loc 3) (.cons (.loc 10) .nil)))))))) (.cons (.ex (.bm (.loc 17) .append (.cons (.loc 18) .nil))) .nil))) (.cons (.ife (.or (.cons (.cmp .NotEq (.loc 17) (.loc 9)) (.cons (.cmp .NotEq (.loc 16) (.int 0)) (.cons (.cmp .In (.str { cps := #[48] }) (.slc (.sub (.loc 15) (.int 0)) (.sub (.loc 15) (.int 1)) .non)) (.cons (.cmp .Gt (.bin .Sub (.bi .len (.cons (.sub (.loc 15) (.int 0)) .nil)) (.sub (.loc 15) (.int 1))) (.int 7)) .nil))))) (.cons (.ret (.bool false)) .nil) .nil) (.cons (.ife (.cmp .NotEq (.fn 493 (.cons (.new 358 (.cons (.loc 12) (.cons (.loc 11) .nil))) (.cons (.loc 14) (.cons (.loc 8) .nil)))) (.loc 9)) (.cons (.ret (.bool false)) .nil) .nil) (.cons (.ife (.cmp .NotEq (.fn 493 (.cons (.new 358 (.cons (.loc 12) (.cons (.loc 11) .nil))) (.cons (.slc (.loc 14) .non (.neg (.int 1))) (.cons (.loc 8) .nil)))) (.str { cps := #[99, 117, 116] })) (.cons (.ret (.bool false)) .nil) .nil) (.cons (.ret (.and (.cons (.fn 500 (.cons (.loc 12) (.cons (.loc 11) (.cons (.loc 10) (.cons (.int 2) .nil))))) (.cons (.fn 500 (.cons (.loc 12) (.cons (.loc 11) (.cons (.loc 10) (.cons (.ite (.cmp .Eq (.loc 2) (.int 2)) (.bin .Add (.bin .Mult (.int 16) (.int 14)) (.int 1)) (.int 242)) .nil))))) .nil)))) .nil)))))))))))))))))))
noncomputable def f_505 : FI := ⟨1, n_505, b_505⟩
noncomputable def fns : List (Addr × FI) := [(103, f_103), (110, f_110), (117, f_117), (124, f_124), (145, f_145), (152, f_152), (159, f_159), (166, f_166), (180, f_180), (187, f_187), (201, f_201), (208, f_208), (215, f_215), (229, f_229), (236, f_236), (250, f_250), (257, f_257), (264, f_264), (271, f_271), (278, f_278), (285, f_285), (292, f_292), (313, f_313), (320, f_320), (327, f_327), (334, f_334), (341, f_341), (348, f_348), (355, f_355), (376, f_376), (411, f_411), (418, f_418), (425, f_425), (432, f_432), (446, f_446), (453, f_453), (460, f_460), (467, f_467), (474, f_474), (481, f_481), (488, f_488), (493, f_493), (500, f_500), (505, f_505)]
end
section
open PyProof.Rows
noncomputable def gera : GV -> Option MV
 | .fn a => some (.ref a) | .cls C => some (.ref C) | .cst i => some (.int i) | .bi _ => none
noncomputable def gkeep (K : Frag) : GV -> Bool
 | .fn a => keepIn K (.ref a) | .cls _ => true | .cst _ => true | .bi _ => true
noncomputable def clss : List Addr := [127, 169, 218, 295, 358, 393, 435]
noncomputable def excs : List Addr := [75, 63]
noncomputable def clsOKb (K : Frag) (C : Addr) : Bool :=
 decide (plainGet K C "" = true /\ hasDictIn K C = true /\ plainOver K C = true /\ makesIn K C = true /\ keepIn K (.ref C) = true /\ (initOf C).all (fun g => isFn K (.ref g)) = true /\ ((List.range 41).all fun f => (mtab C f).all fun g => isFn K (.ref g) && fnIn K g) = true)
set_option backward.match.sparseCases false
noncomputable def clsD : (d : Data) -> Option { cd : ClassData // d = .cls cd }
 | .cls cd => some ⟨cd, rfl⟩
 | _ => none
noncomputable def exprS : (s : Stmt) -> Option { x : Expr × Pos // s = .Expr x.1 x.2 }
 | .Expr e p => some ⟨(e, p), rfl⟩
 | _ => none
noncomputable def assignS : (s : Stmt) -> Option { x : List Expr × Expr × Pos // s = .Assign x.1 x.2.1 x.2.2 }
 | .Assign t e p => some ⟨(t, e, p), rfl⟩
 | _ => none
noncomputable def callE : (e : Expr) -> Option { x : Expr × List Expr × List Keyword × Pos // e = .Call x.1 x.2.1 x.2.2.1 x.2.2.2 }
 | .Call f a k p => some ⟨(f, a, k, p), rfl⟩
 | _ => none
noncomputable def attrE : (e : Expr) -> Option { x : Expr × Str × Pos // e = .Attribute x.1 x.2.1 x.2.2 }
 | .Attribute o x p => some ⟨(o, x, p), rfl⟩
 | _ => none
set_option backward.match.sparseCases true
theorem sub_el {α : Type} {p : α -> Prop} {G : Prop} {o : Option (Subtype p)} {k : α -> Bool} (h : o.any (fun x => k x.1) = true) (f : ∀ x, p x -> k x = true -> G) : G :=
 let ⟨a, _, h⟩ := any_some h; f a.1 a.2 h
noncomputable def exprS? (s : Stmt) (k : Expr -> Bool) : Bool := (exprS s).any fun x => k x.1.1
noncomputable def assignS? (s : Stmt) (k : List Expr -> Expr -> Bool) : Bool := (assignS s).any fun x => k x.1.1 x.1.2.1
noncomputable def callE? (e : Expr) (k : Expr -> List Expr -> List Keyword -> Pos -> Bool) : Bool := (callE e).any fun x => k x.1.1 x.1.2.1 x.1.2.2.1 x.1.2.2.2
noncomputable def attrE? (e : Expr) (k : Expr -> Str -> Pos -> Bool) : Bool := (attrE e).any fun x => k x.1.1 x.1.2.1 x.1.2.2
noncomputable def nameE? (e : Expr) (y : Str) : Bool := (nameE e).any fun x => x.1.1 == y
theorem exprS_el {G : Prop} {s : Stmt} {k : Expr -> Bool} (h : exprS? s k = true) (f : ∀ e p, s = .Expr e p -> k e = true -> G) : G := sub_el (o := exprS s) (k := fun x => k x.1) h fun _ e h => f _ _ e h
theorem assignS_el {G : Prop} {s : Stmt} {k : List Expr -> Expr -> Bool} (h : assignS? s k = true) (f : ∀ ts e p, s = .Assign ts e p -> k ts e = true -> G) : G := sub_el (o := assignS s) (k := fun x => k x.1 x.2.1) h fun _ e h => f _ _ _ e h
theorem callE_el {G : Prop} {e : Expr} {k : Expr -> List Expr -> List Keyword -> Pos -> Bool} (h : callE? e k = true) (f : ∀ g as ks p, e = .Call g as ks p -> k g as ks p = true -> G) : G := sub_el (o := callE e) (k := fun x => k x.1 x.2.1 x.2.2.1 x.2.2.2) h fun _ e h => f _ _ _ _ e h
theorem attrE_el {G : Prop} {e : Expr} {k : Expr -> Str -> Pos -> Bool} (h : attrE? e k = true) (f : ∀ o x p, e = .Attribute o x p -> k o x p = true -> G) : G := sub_el (o := attrE e) (k := fun x => k x.1 x.2.1 x.2.2) h fun _ e h => f _ _ _ e h
theorem nameE_el {G : Prop} {e : Expr} {y : Str} (h : nameE? e y = true) (f : ∀ p, e = .Name y p -> G) : G := sub_el (o := nameE e) (k := fun x => x.1 == y) h fun x e h => f x.2 (eq_of_beq h ▸ e)
noncomputable def two2 {α : Type} (l : List α) (k : α -> α -> Bool) : Bool := match l with | [] => false | a :: r => (match r with | [] => false | b :: r => r.isEmpty && k a b)
noncomputable def one1 {α : Type} (l : List α) (k : α -> Bool) : Bool := match l with | [] => false | a :: r => r.isEmpty && k a
theorem two2_el {α : Type} {G : Prop} {l : List α} {k : α -> α -> Bool} (h : two2 l k = true) (f : ∀ a b, l = [a, b] -> k a b = true -> G) : G := by
 cases l with
 | nil => exact Bool.noConfusion h
 | cons a r => cases r with
  | nil => exact Bool.noConfusion h
  | cons b r => cases r with | nil => exact f a b rfl h | cons _ _ => exact Bool.noConfusion h
theorem one1_el {α : Type} {G : Prop} {l : List α} {k : α -> Bool} (h : one1 l k = true) (f : ∀ a, l = [a] -> k a = true -> G) : G := by
 cases l with
 | nil => exact Bool.noConfusion h
 | cons a r => cases r with | nil => exact f a rfl h | cons _ _ => exact Bool.noConfusion h
noncomputable def bodyIs (l : List Stmt) : Bool := two2 l fun s1 s2 => exprS? s1 (fun e => callE? e fun g as ks p => ks.isEmpty && (attrE? g fun o x ap => nameE? o nmExc && (x == ("__init__" : Str) && (ap.endLine == p.line && two2 as fun a b => nameE? a nmSelf && nameE? b nmMsg)))) &&
 assignS? s2 fun ts e => nameE? e nmMsg && one1 ts fun t => attrE? t fun o x _ => nameE? o nmSelf && x == nmMsg
noncomputable def fn35b (K : Frag) : Bool := (K.lookup 35).any fun o => (funcD o.data).any fun fd => (stmtsB fd.1.body).any fun b =>
 decide (bodyIs b.1 = true /\ fd.1.scope.names = ns35 /\ okFd fd.1 = true /\ codeIn K fd.1.code fd.1.qualname = true /\ fd.1.params.args.length = 2)
noncomputable def excK (K : Frag) (C : Addr) : Option (Value × List Value × Bool × Bool × Nat × Option (Option Value)) :=
 (K.lookup C).bind fun o => (clsD o.data).map fun cd => (o.cls, cd.1.mro, cd.1.hasDict, cd.1.hasDel, o.slots.size, o.slots.toList[4]?)
structure KOK (K : Frag) : Prop where
 fts : fns.map (fun p => ftOf K p.1) = fns.map (fun p => some p.2)
 okf : okFns K = true
 glob : gtab.map (fun p => (nsIn K mainGlobals p.1).map (Option.map era)) = gtab.map (fun p => some (gera p.2))
 gkeep : gtab.all (fun p => gkeep K p.2) = true
 range : nsIn K mainGlobals "range" = some none
 cls : clss.all (clsOKb K) = true
 own : clss.map (fun C => (List.range 41).map fun f => (findIn K (.ref C) (fnm f), takerIn K C (fnm f))) = clss.map (fun C => (List.range 41).map fun f => (some ((mtab C f).map Value.ref), some none))
 ini : clss.map (fun C => (findIn K (.ref C) "__init__", findIn K (.ref C) "__setattr__")) = clss.map (fun C => (some ((initOf C).map Value.ref), some (some (.builtin "object.__setattr__"))))
 fn35 : fn35b K = true
 isFn35 : isFn K (.ref 35) = true
 exc : excs.map (fun C => (keepIn K (.ref C), findIn K (.ref C) "__init__", findIn K (.ref C) "__setattr__", takerIn K C nmMsg)) = excs.map (fun _ => (true, some (some (.ref 35)), some (some (.builtin "object.__setattr__")), some none))
 exk : excs.map (excK K) = excs.map (fun C => some (.type "type", .ref C :: xbm, true, false, 6, some (some (.builtin "Exception.__new__"))))
 exn : nsIn K mainGlobals nmExc = some none
 exi : findCls K (.type "Exception") (.type "type") "__init__" = some (.val (.builtin "Exception.__init__"))
end
section
open PyProof.Rows
theorem ns_of_in {K : Frag} {h : Heap} {N : Addr} {m : Str -> Option Value} {x : Str} {r : Option Value} (X : K.In h) (G : h.Ns N m) (e : nsIn K N x = some r) : m x = r := by
 obtain ⟨o, es, ep, ho, hd, hk, hm⟩ := G
 unfold nsIn at e
 rw [<- hm x]
 unfold nsFind findBy
 rw [<- Array.find?_toList]
 cases hl : K.lookup N with
 | none => rw [hl] at e; cases e
 | some ob =>
  rw [hl] at e
  obtain rfl : ob = o := Option.some.inj ((X _ _ hl).symm.trans ho)
  obtain ⟨c, d, dt, sl⟩ := ob
  cases hd
  dsimp only at e
  cases q : es.toList.find? (·.key.isStr x) with
  | some en => rw [q] at e; cases e; rfl
  | none =>
   rw [q] at e
   dsimp only at e
   by_cases w : es.toList.any (·.refKey) = true
   ·rw [if_pos w] at e; cases e
   ·rw [if_neg w] at e; cases e; rfl
theorem clsOK_of {c : Cx} (k : KOK c.K) {C : Addr} (h : C ∈ clss) : ClsOK c C := by
 have q := of_decide_eq_true (List.all_eq_true.mp k.cls C h)
 have own := fun f (hf : f < 41) => List.map_inj_left.mp (List.map_inj_left.mp k.own C h) f (List.mem_range.mpr hf)
 have ini := List.map_inj_left.mp k.ini C h
 have q6 := q.2.2.2.2.2
 exact ⟨q.1, q.2.1, congrArg Prod.snd ini, q.2.2.1, fun f hf hm => (congrArg Prod.fst (own f hf)).trans (by rw [hm]; rfl), fun f hf => congrArg Prod.snd (own f hf),
  fun f g hf hm => ⟨(congrArg Prod.fst (own f hf)).trans (by rw [hm]; rfl), by
   have := List.all_eq_true.mp q6.2 f (List.mem_range.mpr hf)
   rw [hm] at this
   exact Bool.and_eq_true_iff.mp this⟩, q.2.2.2.1, fun g hg => ⟨(congrArg Prod.fst ini).trans (by rw [hg]; rfl), by have := q6.1; rw [hg] at this; exact this⟩, q.2.2.2.2.1⟩
theorem look_mem {C : Addr} : ∀ {l : List (Addr × Addr)}, (l.lookup C).isSome = true -> C ∈ l.map Prod.fst
 | [], h => nomatch h
 | (k, v) :: r, h => by
  rw [List.lookup_cons] at h
  cases q : C == k with
  | true => rw [eq_of_beq q]; exact .head _
  | false => rw [q] at h; exact .tail _ (look_mem h)
theorem initOf_mem {C : Addr} (h : (initOf C).isSome = true) : C ∈ clss := by
 exact look_mem h
theorem biVal_boot : ∀ (x : Str) (b : BI), gtab.lookup x = some (.bi b) -> bootBuiltins x = some (biVal b) /\ x ≠ "__name__" := by
 have key : (gtab.all fun p => match p.2 with | .bi b => decide (bootBuiltins p.1 = some (biVal b)) && decide (p.1 ≠ ("__name__" : Str)) | _ => true) = true := by kernel_rfl
 intro x b h
 have := List.all_eq_true.mp key (x, .bi b) (mem_lookup h)
 simpa using this
theorem glob_of {c : Cx} {mg : Str -> Option Value} (k : KOK c.K) (hK : c.K.In c.hb) (hg : c.hb.Ns mainGlobals mg) {x : Str} {gv : GV} (h : gtab.lookup x = some gv) : (mg x).map era = gera gv := by
 obtain ⟨r, q, e⟩ := Option.map_eq_some_iff.mp (List.map_inj_left.mp k.glob (x, gv) (mem_lookup h))
 exact (congrArg (Option.map era) (ns_of_in hK hg q)).trans e
theorem ref_glob {o : Option Value} {a : Addr} (h : o.map era = some (.ref a)) : o = some (.ref a) := by
 obtain ⟨v, rfl, e⟩ := Option.map_eq_some_iff.mp h
 rw [era_ref e]
theorem baseOK_of {c : Cx} {mg mb : Str -> Option Value} (k : KOK c.K) (hft : c.ft = ftOf c.K) (hK : c.K.In c.hb) (hl : c.hb.NoLimit) (hg : c.hb.Ns mainGlobals mg) (hb : c.hb.Ns builtinsNs mb) (hbb : ∀ x : Str, x ≠ "__name__" -> mb x = bootBuiltins x) : BaseOK c := by
 have gl := fun x gv (h : gtab.lookup x = some gv) => glob_of k hK hg h
 obtain ⟨o, ho, _⟩ := any_some k.fn35
 refine ⟨hK, hl, ⟨35, _, hK _ _ ho, by decide⟩, ⟨mg, mb, hg, hb, ⟨ns_of_in hK hg k.range, (hbb _ (by decide)).trans (by kernel_rfl)⟩, fun x gv h => ?_⟩, fun C hC => clsOK_of k (initOf_mem hC), fun f fi h => fnOK_of hft hK k.okf f fi h, fun x f h => List.all_eq_true.mp k.gkeep (x, .fn f) (mem_lookup h)⟩
 have e := gl x gv h
 cases gv with
 | fn a => exact ref_glob e
 | cls C => exact ref_glob e
 | cst i =>
  obtain ⟨v, e, q⟩ := Option.map_eq_some_iff.mp e
  obtain ⟨t, rfl⟩ := era_int q
  exact ⟨t, e⟩
 | bi bb =>
  obtain ⟨q1, q2⟩ := biVal_boot x bb h
  exact ⟨Option.map_eq_none_iff.mp e, (hbb x q2).trans q1⟩
theorem unc {α : Type} {l : List α} {n : Nat} (h : l.length = n + 1) : ∃ a r, l = a :: r /\ r.length = n := by cases l with | nil => cases h | cons a r => exact ⟨a, r, rfl, Nat.succ.inj h⟩
theorem len6 {α : Type} {l : List α} (h : l.length = 6) : ∃ k0 k1 k2 k3 k4 k5, l = [k0, k1, k2, k3, k4, k5] :=
 let ⟨k0, _, e0, h⟩ := unc h
 let ⟨k1, _, e1, h⟩ := unc h
 let ⟨k2, _, e2, h⟩ := unc h
 let ⟨k3, _, e3, h⟩ := unc h
 let ⟨k4, _, e4, h⟩ := unc h
 let ⟨k5, _, e5, h⟩ := unc h
 ⟨k0, k1, k2, k3, k4, k5, by rw [e0, e1, e2, e3, e4, e5, List.eq_nil_of_length_eq_zero h]⟩
theorem exc_obj {o : Obj} {cd : ClassData} {a : Value} {m : List Value} {x y : Bool} {sl : List (Option Value)} (h1 : o.cls = a) (h2 : o.data = .cls cd) (h3 : cd.mro = m) (h4 : cd.hasDict = x) (h5 : cd.hasDel = y) (h6 : o.slots.toList = sl) : o = ⟨a, o.dict, .cls { cd with mro := m, hasDict := x, hasDel := y }, ⟨sl⟩⟩ := by
 subst h1; subst h3; subst h4; subst h5; subst h6; rw [<- h2]
theorem exc_of {K : Frag} {C : Addr} (h : excK K C = some (.type "type", .ref C :: xbm, true, false, 6, some (some (.builtin "Exception.__new__")))) :
  ∃ x : XC, K.lookup C = some (x.obj C) := by
 obtain ⟨o, ho, h⟩ := Option.bind_eq_some_iff.mp h
 obtain ⟨⟨cd, hd⟩, _, h⟩ := Option.map_eq_some_iff.mp h
 obtain ⟨k0, k1, k2, k3, k4, k5, e⟩ := len6 (l := o.slots.toList) (congrArg (fun x => x.2.2.2.2.1) h)
 have e4 := congrArg (fun x => x.2.2.2.2.2) h
 dsimp only at e4
 rw [e] at e4
 rw [Option.some.inj e4] at e
 exact ⟨⟨cd.name, cd.qualname, cd.ns, cd.bases, cd.slotNames, cd.subclasses, cd.abstract, cd.collection, o.dict, k0, k1, k2, k3, k5⟩, ho.trans (congrArg some (exc_obj (congrArg (fun x => x.1) h) hd (congrArg (fun x => x.2.1) h) (congrArg (fun x => x.2.2.1) h) (congrArg (fun x => x.2.2.2.1) h) e))⟩
theorem ba2 {a b : Bool} {G : Prop} (h : (a && b) = true) (f : a = true -> b = true -> G) : G := let ⟨x, y⟩ := Bool.and_eq_true_iff.mp h; f x y
theorem body_of {b : List Stmt} (h : bodyIs b = true) : IsBody b :=
 two2_el h fun s1 s2 e h => ba2 h fun h1 h2 => exprS_el h1 fun e1 p5 q1 h1 => callE_el h1 fun g as ks p4 q2 h1 => ba2 h1 fun k1 h1 => attrE_el h1 fun o x ap q3 h1 => ba2 h1 fun n1 h1 => ba2 h1 fun x1 h1 => ba2 h1 fun l1 h1 => two2_el h1 fun a1 a2 q4 h1 => ba2 h1 fun n2 n3 =>
 assignS_el h2 fun ts e2 p9 q5 h2 => ba2 h2 fun n4 h2 => one1_el h2 fun t q6 h2 => attrE_el h2 fun o2 y p7 q7 h2 => ba2 h2 fun n5 y1 =>
 nameE_el n1 fun p1 m1 => nameE_el n2 fun p2 m2 => nameE_el n3 fun p3 m3 => nameE_el n4 fun p8 m4 => nameE_el n5 fun p6 m5 =>
 ⟨p1, p2, p3, p4, p5, p6, p7, p8, p9, ap, by
  rw [e, q1, q2, q3, q4, q5, q6, q7, m1, m2, m3, m4, m5, beq_iff_eq.mp x1, beq_iff_eq.mp y1, List.isEmpty_iff.mp k1], beq_iff_eq.mp l1⟩
theorem xOK_of {c : Cx} {mg mb : Str -> Option Value} (k : KOK c.K) (hK : c.K.In c.hb) (hg : c.hb.Ns mainGlobals mg) (hb : c.hb.Ns builtinsNs mb) (hbb : ∀ x : Str, x ≠ "__name__" -> mb x = bootBuiltins x) : XOK c := by
 have mem : ∀ C, C = 75 \/ C = 63 -> C ∈ excs := fun C h => by rcases h with rfl | rfl <;> decide
 have ex := fun C h => List.map_inj_left.mp k.exc C (mem C h)
 obtain ⟨fo, ho, h⟩ := any_some k.fn35
 obtain ⟨⟨fd, hd⟩, _, h⟩ := any_some h
 obtain ⟨⟨b, hb'⟩, _, h⟩ := any_some h
 have m := of_decide_eq_true h
 have fa := fnAt_of (hK _ _ ho) hd hb' m.2.2.1 (codeRec_of hK m.2.2.2.1)
 rw [m.2.1, m.2.2.2.2] at fa
 exact ⟨⟨mg, mb, hg, hb, ns_of_in hK hg k.exn, (hbb _ (by decide)).trans (by kernel_rfl)⟩, fun C hC => exc_of (List.map_inj_left.mp k.exk C (mem C hC)), fun C hC => congrArg (fun x => x.1) (ex C hC), fun C hC => ⟨congrArg (fun x => x.2.1) (ex C hC), k.isFn35⟩, fun C hC => congrArg (fun x => x.2.2.1) (ex C hC), fun C hC => congrArg (fun x => x.2.2.2) (ex C hC), k.exi,
  ⟨b, fa, body_of m.1⟩⟩
end
section
inductive Rd (α : Type) where
 | done (a : α) | bit (k : Bool -> Rd α) | bad | stuck
inductive Res (α : Type) where
 | ok (a : α) (rest : List Bool) | cut | code | stuck
noncomputable def Rd.bind {α β : Type} : Rd α -> (α -> Rd β) -> Rd β
 | .done a, f => f a
 | .bit k, f => .bit fun b => (k b).bind f
 | .bad, _ => .bad
 | .stuck, _ => .stuck
noncomputable def Rd.run {α : Type} : Rd α -> List Bool -> Res α
 | .done a, s => .ok a s
 | .bit _, [] => .cut
 | .bit k, b :: s => (k b).run s
 | .bad, _ => .code
 | .stuck, _ => .stuck
noncomputable def Res.bind {α β : Type} : Res α -> (α -> List Bool -> Res β) -> Res β
 | .ok a s, f => f a s
 | .cut, _ => .cut
 | .code, _ => .code
 | .stuck, _ => .stuck
theorem run_bind {α β : Type} (f : α -> Rd β) : ∀ (r : Rd α) (s : List Bool), (r.bind f).run s = (r.run s).bind fun a t => (f a).run t
 | .done a, s => rfl
 | .bit k, [] => rfl
 | .bit k, b :: s => run_bind f (k b) s
 | .bad, s => rfl
 | .stuck, s => rfl
theorem run_cut {α : Type} {a : α} {u s2 : List Bool} : ∀ (r : Rd α) (s1 : List Bool), r.run (s1 ++ s2) = .ok a u -> u.length < s2.length -> r.run s1 = .cut
 | .done a', s1, h, l => by
  have := congrArg List.length (Res.ok.inj h).2
  rw [List.length_append] at this
  lia
 | .bit k, [], h, l => rfl
 | .bit k, b :: s, h, l => run_cut (k b) s h l
 | .bad, s, h, l => by cases (show Res.code = .ok a u from h)
 | .stuck, s, h, l => by cases (show Res.stuck = .ok a u from h)
noncomputable def bitsOf : Nat -> Nat -> List Bool
 | 0, _ => []
 | n + 1, v => decide (v / 2 ^ n % 2 = 1) :: bitsOf n v
noncomputable def bitsT : Nat -> Nat -> Rd Nat
 | 0, acc => .done acc
 | n + 1, acc => .bit fun b => bitsT n (acc * 2 + if b then 1 else 0)
theorem bitsT_run (rest : List Bool) : ∀ (n v acc : Nat), (bitsT n acc).run (bitsOf n v ++ rest) = .ok (acc * 2 ^ n + v % 2 ^ n) rest
 | 0, v, acc => by show Res.ok acc rest = _; rw [Nat.pow_zero, Nat.mul_one, Nat.mod_one]; rfl
 | n + 1, v, acc => by
  show (bitsT n (acc * 2 + if decide (v / 2 ^ n % 2 = 1) = true then 1 else 0)).run (bitsOf n v ++ rest) = _
  rw [bitsT_run rest n v]
  have e : v % 2 ^ (n + 1) = 2 ^ n * (v / 2 ^ n % 2) + v % 2 ^ n := by
   rw [Nat.pow_succ, Nat.mod_mul]; lia
  have e2 : (if decide (v / 2 ^ n % 2 = 1) = true then 1 else 0) = v / 2 ^ n % 2 := by
   have := Nat.mod_two_eq_zero_or_one (v / 2 ^ n)
   rcases this with q | q <;> simp [q]
  rw [e, e2]
  have e3 : (acc * 2 + v / 2 ^ n % 2) * 2 ^ n = acc * 2 ^ (n + 1) + 2 ^ n * (v / 2 ^ n % 2) := by
   rw [Nat.add_mul, Nat.pow_succ, Nat.mul_comm (v / 2 ^ n % 2)]
   rw [Nat.mul_assoc, Nat.mul_comm 2 (2 ^ n)]
  rw [e3, Nat.add_assoc]
noncomputable def symV (c : Nat) : Nat := 16 * (c / 3) + c % 3
noncomputable def symT : Rd Nat := (bitsT 7 0).bind fun c => if c < 48 then .done (symV c) else .stuck
noncomputable def symB (s : Nat) : List Bool := bitsOf 7 (3 * (s / 16) + s % 16)
theorem sym_dm {z m : Nat} (hm : m < 3) : 16 * ((3 * z + m) / 3) + (3 * z + m) % 3 = 16 * z + m := by
 rw [Nat.mul_add_div (by decide), Nat.div_eq_of_lt hm, Nat.mul_add_mod, Nat.mod_eq_of_lt hm]; rfl
theorem symT_run {z m : Nat} (hz : z < 16) (hm : m < 3) (rest : List Bool) : symT.run (symB (16 * z + m) ++ rest) = .ok (16 * z + m) rest := by
 unfold symT symB
 rw [run_bind, bitsT_run]
 have e1 : (16 * z + m) / 16 = z := by rw [Nat.mul_add_div (by decide), Nat.div_eq_of_lt (Nat.lt_trans hm (by decide))]; rfl
 have e2 : (16 * z + m) % 16 = m := by rw [Nat.mul_add_mod, Nat.mod_eq_of_lt (Nat.lt_trans hm (by decide))]
 rw [e1, e2]
 have e3 : (3 * z + m) % 2 ^ 7 = 3 * z + m := Nat.mod_eq_of_lt (by lia)
 simp only [Nat.zero_mul, Nat.zero_add, e3, Res.bind]
 rw [if_pos (by lia)]
 exact congrArg (Res.ok · rest) (sym_dm hm)
noncomputable def sgn (c : Int) : Int := if 0 < c then 1 else -1
noncomputable def size (low : Nat) (c : Int) : Nat := c.natAbs / 2 ^ low
noncomputable def cutN (low : Nat) (c : Int) : Int := (c.natAbs / 2 ^ low * 2 ^ low : Nat) * sgn c
noncomputable def corr (low : Nat) (c : Int) (b : Bool) : Int := if b then (if 0 < c then c + 2 ^ low else c - 2 ^ low) else c
noncomputable def worth (low : Nat) (b : Bool) : Int := if b then 2 ^ low else -2 ^ low
theorem cut_zero {low : Nat} {c : Int} (h : size low c <= 1) : cutN (low + 1) c = 0 := by
 unfold size at h
 unfold cutN
 have : c.natAbs / 2 ^ (low + 1) = 0 := by
  rw [Nat.pow_succ, <- Nat.div_div_eq_div_mul]
  exact Nat.div_eq_of_lt (Nat.lt_succ_of_le h)
 rw [this]; simp
theorem cut_pos {low : Nat} {c : Int} (h : 1 < size low c) : cutN (low + 1) c ≠ 0 /\ (0 < cutN (low + 1) c ↔ 0 < c) := by
 unfold size at h
 unfold cutN sgn
 have : 0 < c.natAbs / 2 ^ (low + 1) := by
  rw [Nat.pow_succ, <- Nat.div_div_eq_div_mul]
  exact Nat.div_pos h (by lia)
 have h2 : 0 < c.natAbs / 2 ^ (low + 1) * 2 ^ (low + 1) := Nat.mul_pos this (Nat.pow_pos (by lia))
 generalize c.natAbs / 2 ^ (low + 1) * 2 ^ (low + 1) = m at h2
 split <;> constructor <;> lia
theorem due_zero {low : Nat} {c : Int} (h : size low c = 0) : cutN low c = 0 := by
 unfold size at h
 unfold cutN; rw [h]; simp
theorem due_one {low : Nat} {c : Int} (h : size low c = 1) : cutN low c = worth low (decide (0 < c)) := by
 unfold size at h
 unfold cutN worth sgn; rw [h]
 by_cases q : 0 < c
 ·simp [q]
 ·simp [q]
theorem due_more {low : Nat} {c : Int} (h : 1 < size low c) : cutN low c = corr low (cutN (low + 1) c) (decide (size low c % 2 = 1)) := by
 have hc := cut_pos h
 unfold corr
 have e : c.natAbs / 2 ^ low * 2 ^ low = c.natAbs / 2 ^ (low + 1) * 2 ^ (low + 1) + (size low c % 2) * 2 ^ low := by
  unfold size
  have e1 : c.natAbs / 2 ^ (low + 1) = c.natAbs / 2 ^ low / 2 := by rw [Nat.pow_succ, <- Nat.div_div_eq_div_mul]
  rw [e1, Nat.pow_succ, Nat.mul_comm (2 ^ low) 2, <- Nat.mul_assoc, <- Nat.add_mul]
  congr 1; lia
 have e2 : (cutN low c : Int) = cutN (low + 1) c + ((size low c % 2) * 2 ^ low : Nat) * sgn c := by
  unfold cutN
  rw [e]
  simp only [Int.natCast_add, Int.add_mul]
 rw [e2]
 rcases Nat.mod_two_eq_zero_or_one (size low c) with q | q
 ·simp [q]
 ·by_cases p : 0 < c
  ·have : 0 < cutN (low + 1) c := hc.2.mpr p
   simp [q, p, this, sgn]
  ·have : ¬ 0 < cutN (low + 1) c := fun w => p (hc.2.mp w)
   simp [q, p, this, sgn]; lia
noncomputable def passT (low : Nat) : List Int -> Nat -> Rd (List Int × List Int)
 | [], _ => .done ([], [])
 | c :: cs, z => if c ≠ 0 then .bit fun b => (passT low cs z).bind fun p => .done (corr low c b :: p.1, p.2)
  else if z = 0 then .done ([], c :: cs) else (passT low cs (z - 1)).bind fun p => .done (c :: p.1, p.2)
noncomputable def restT (low : Nat) : List Int -> Rd (List Int)
 | [] => .done []
 | c :: cs => if c ≠ 0 then .bit fun b => (restT low cs).bind fun p => .done (corr low c b :: p) else (restT low cs).bind fun p => .done (c :: p)
noncomputable def valT (low s : Nat) : Rd Int := if s = 240 then .done 0 else if s % 16 ≠ 1 then .bad else .bit fun b => .done (worth low b)
noncomputable def bandT (low : Nat) : Nat -> List Int -> Rd (List Int × Nat)
  | 0, _ => .stuck
  | _ + 1, [] => .done ([], 0)
  | n + 1, ks => symT.bind fun s =>
      if s % 16 = 0 /\ s / 16 < 15 then (bitsT (s / 16) 0).bind fun v => (restT low ks).bind fun p => .done (p, 2 ^ (s / 16) + v - 1)
      else (valT low s).bind fun v => (passT low ks (s / 16)).bind fun p => match p.2 with
        | [] => .bad
        | _ :: r => (bandT low n r).bind fun q => .done (p.1 ++ v :: q.1, q.2)
noncomputable def rowT (low : Nat) (ks : List Int) (run : Nat) : Rd (List Int × Nat) :=
 if run = 0 then bandT low (ks.length + 1) ks else (restT low ks).bind fun p => .done (p, run - 1)
theorem bandT_cons {low n : Nat} {k : Int} {ks : List Int} : bandT low (n + 1) (k :: ks) = symT.bind fun s =>
      if s % 16 = 0 /\ s / 16 < 15 then (bitsT (s / 16) 0).bind fun v => (restT low (k :: ks)).bind fun p => .done (p, 2 ^ (s / 16) + v - 1)
      else (valT low s).bind fun v => (passT low (k :: ks) (s / 16)).bind fun p => match p.2 with
        | [] => .bad
        | _ :: r => (bandT low n r).bind fun q => .done (p.1 ++ v :: q.1, q.2) := rfl
theorem passT_cons {low z : Nat} {c : Int} {cs : List Int} : passT low (c :: cs) z = if c ≠ 0 then .bit fun b => (passT low cs z).bind fun p => .done (corr low c b :: p.1, p.2)
  else if z = 0 then .done ([], c :: cs) else (passT low cs (z - 1)).bind fun p => .done (c :: p.1, p.2) := rfl
theorem restT_cons {low : Nat} {c : Int} {cs : List Int} : restT low (c :: cs) = if c ≠ 0 then .bit fun b => (restT low cs).bind fun p => .done (corr low c b :: p) else (restT low cs).bind fun p => .done (c :: p) := rfl
noncomputable def cbit (low : Nat) (c : Int) : Bool := decide (size low c % 2 = 1)
noncomputable def zrlQ : Nat -> Nat -> List Bool -> List Bool × Nat × List Bool
 | 0, m, b => ([], m, b)
 | q + 1, m, b => (symB 240 ++ b ++ (zrlQ q m []).1, (zrlQ q m []).2.1, (zrlQ q m []).2.2)
noncomputable def zrl (z : Nat) (b : List Bool) : List Bool × Nat × List Bool := zrlQ (z / 16) (z % 16) b
noncomputable def has1 (low : Nat) (cs : List Int) : Bool := cs.any fun c => size low c == 1
noncomputable def bodyF (low : Nat) : List Int -> Nat -> List Bool -> List Bool × Nat × List Bool
 | [], z, b => ([], z, b)
 | c :: cs, z, b =>
  if size low c = 0 then bodyF low cs (z + 1) b
  else
   let p := if has1 low (c :: cs) then zrl z b else ([], z, b)
   if 1 < size low c then (let r := bodyF low cs p.2.1 (p.2.2 ++ [cbit low c]); (p.1 ++ r.1, r.2.1, r.2.2))
   else (let r := bodyF low cs 0 []; (p.1 ++ symB (16 * p.2.1 + 1) ++ [decide (0 < c)] ++ p.2.2 ++ r.1, r.2.1, r.2.2))
theorem zrl_small {z : Nat} {b : List Bool} (h : z <= 15) : zrl z b = ([], z, b) := by
 unfold zrl
 rw [Nat.div_eq_of_lt (Nat.lt_succ_of_le h), Nat.mod_eq_of_lt (Nat.lt_succ_of_le h)]; rfl
theorem zrl_more (j : Nat) (b : List Bool) : zrl (16 + j) b = (symB 240 ++ b ++ (zrl j []).1, (zrl j []).2.1, (zrl j []).2.2) := by
 unfold zrl
 rw [Nat.add_div_left j (by decide), Nat.add_mod_left]; rfl
theorem zrl_big {z : Nat} {b : List Bool} (h : 15 < z) : zrl z b = (symB 240 ++ b ++ (zrl (z - 16) []).1, (zrl (z - 16) []).2.1, (zrl (z - 16) []).2.2) := by
 obtain ⟨j, rfl⟩ : ∃ j, z = 16 + j := ⟨z - 16, (Nat.add_sub_cancel' h).symm⟩
 rw [zrl_more, Nat.add_sub_cancel_left]
theorem has1_skip {low : Nat} {c : Int} {cs : List Int} (h : size low c ≠ 1) : has1 low (c :: cs) = has1 low cs := by
 simp [has1, h]
theorem body_eq {low z : Nat} {c : Int} {cs : List Int} {b : List Bool} : bodyF low (c :: cs) z b =
  if size low c = 0 then bodyF low cs (z + 1) b
  else
   let p := if has1 low (c :: cs) then zrl z b else ([], z, b)
   if 1 < size low c then (let r := bodyF low cs p.2.1 (p.2.2 ++ [cbit low c]); (p.1 ++ r.1, r.2.1, r.2.2))
   else (let r := bodyF low cs 0 []; (p.1 ++ symB (16 * p.2.1 + 1) ++ [decide (0 < c)] ++ p.2.2 ++ r.1, r.2.1, r.2.2)) := rfl
theorem body_zrl {low : Nat} {b : List Bool} : ∀ (cs : List Int) (j : Nat), has1 low cs = true ->
  bodyF low cs (16 + j) b = (symB 240 ++ b ++ (bodyF low cs j []).1, (bodyF low cs j []).2)
 | [], j, h => by simp [has1] at h
 | c :: cs, j, h => by
  rw [body_eq, body_eq]
  dsimp only
  by_cases h0 : size low c = 0
  ·rw [if_pos h0, if_pos h0]
   have : has1 low cs = true := by rw [<- has1_skip (c := c) (by lia)]; exact h
   rw [show 16 + j + 1 = 16 + (j + 1) by lia]
   exact body_zrl cs (j + 1) this
  ·rw [if_neg h0, if_neg h0, if_pos h, if_pos h, zrl_more]
   split <;> simp [List.append_assoc]
noncomputable def known (low : Nat) (cs : List Int) : List Int := cs.map (cutN (low + 1))
noncomputable def dues (low : Nat) (cs : List Int) : List Int := cs.map (cutN low)
theorem Run.bind {α β : Type} {r : Rd α} {f : α -> Rd β} {s t : List Bool} {a : α} {x : Res β} (h : r.run s = .ok a t) (k : (f a).run t = x) : (r.bind f).run s = x := by rw [run_bind, h]; exact k
theorem Run.pos {α : Type} {c : Prop} [Decidable c] {A B : Rd α} {s : List Bool} {x : Res α} (n : c) (h : A.run s = x) : (if c then A else B).run s = x := by rw [if_pos n]; exact h
theorem Run.neg {α : Type} {c : Prop} [Decidable c] {A B : Rd α} {s : List Bool} {x : Res α} (n : ¬c) (h : B.run s = x) : (if c then A else B).run s = x := by rw [if_neg n]; exact h
section
variable {low z : Nat} {c : Int} {cs ks p r : List Int} {b s t : List Bool}
theorem pass_corr {d : Bool} (hc : c ≠ 0) (h : (passT low ks z).run s = .ok (p, r) t) : (passT low (c :: ks) z).run (d :: s) = .ok (corr low c d :: p, r) t := Run.pos hc (Run.bind h rfl)
theorem pass_skip (hz : z ≠ 0) (h : (passT low ks (z - 1)).run s = .ok (p, r) t) : (passT low (0 :: ks) z).run s = .ok (0 :: p, r) t := Run.neg (fun h => h rfl) (Run.neg hz (Run.bind h rfl))
theorem known_0 (h : size low c <= 1) : known low (c :: cs) = 0 :: known low cs := congrArg (· :: known low cs) (cut_zero h)
theorem body_0 (h : size low c = 0) : bodyF low (c :: cs) z b = bodyF low cs (z + 1) b := if_pos h
theorem body_more (h : 1 < size low c) (hp : (if has1 low (c :: cs) then zrl z b else ([], z, b)) = ([], z, b)) : bodyF low (c :: cs) z b = bodyF low cs z (b ++ [cbit low c]) := by
 refine (if_neg (Nat.ne_of_gt (Nat.lt_trans Nat.one_pos h))).trans ?_
 rw [hp]; exact if_pos h
theorem body_one (h : size low c = 1) (hp : (if has1 low (c :: cs) then zrl z b else ([], z, b)) = ([], z, b)) : bodyF low (c :: cs) z b = (symB (16 * z + 1) ++ ([decide (0 < c)] ++ (b ++ (bodyF low cs 0 []).1)), (bodyF low cs 0 []).2) := by
 refine (if_neg (fun w => Nat.one_ne_zero (h.symm.trans w))).trans ?_
 rw [hp]
 refine (if_neg (h ▸ Nat.lt_irrefl 1)).trans ?_
 rw [List.append_assoc, List.append_assoc]; rfl
end
noncomputable def SegV (low s : Nat) (sb : List Bool) (c : Int) : Prop := (∀ X, symT.run (symB s ++ X) = .ok s X) /\ ¬(s % 16 = 0 /\ s / 16 < 15) /\ ∀ X, (valT low s).run (sb ++ X) = .ok (cutN low c) X
theorem segV_new {low z : Nat} {c : Int} (hz : z <= 15) (h : size low c = 1) : SegV low (16 * z + 1) [decide (0 < c)] c :=
 ⟨symT_run (Nat.lt_succ_of_le hz) (by decide), by lia, fun X => Run.neg (by lia) (Run.neg (by lia) (by rw [due_one h]; rfl))⟩
theorem segV_zrl {low : Nat} {c : Int} (h : size low c = 0) : SegV low 240 [] c := ⟨symT_run (z := 15) (m := 0) (by decide) (by decide), by decide, fun X => by rw [due_zero h]; rfl⟩
theorem seg_el (low : Nat) {G : Prop} : ∀ (cs : List Int) (z : Nat) (b : List Bool), z <= 15 -> has1 low cs = true ->
    (∀ s sb p c r cb, cs = p ++ c :: r -> bodyF low cs z b = (symB s ++ (sb ++ (b ++ (cb ++ (bodyF low r 0 []).1))), (bodyF low r 0 []).2) -> z <= s / 16 -> SegV low s sb c ->
      (∀ rest, (passT low (known low cs) (s / 16 - z)).run (cb ++ rest) = .ok (dues low p, known low (c :: r)) rest) -> G) -> G
  | [], z, b, hz, h, k => Bool.noConfusion h
  | c :: cs, z, b, hz, h, k => by
    by_cases h0 : size low c = 0
    · have h1 : has1 low cs = true := (has1_skip (by rw [h0]; decide)).symm.trans h
      have ek : known low (c :: cs) = 0 :: known low cs := known_0 (h0 ▸ Nat.zero_le 1)
      by_cases h15 : z = 15
      · subst h15
        exact k 240 [] [] c cs [] rfl ((body_0 h0).trans ((body_zrl cs 0 h1).trans (by rw [List.append_assoc]; rfl))) (by decide) (segV_zrl h0) fun rest => by rw [ek]; rfl
      · exact seg_el low cs (z + 1) b (Nat.lt_of_le_of_ne hz h15) h1 fun s sb p c' r cb e1 e2 e3 e4 e5 => k s sb (c :: p) c' r cb (congrArg (c :: ·) e1) ((body_0 h0).trans e2) (Nat.le_of_succ_le e3) e4 fun rest => by
          rw [ek]; exact (pass_skip (Nat.sub_ne_zero_of_lt e3) (e5 rest)).trans (congrArg (fun x => Res.ok (x :: dues low p, _) rest) (due_zero h0).symm)
    · have hp : (if has1 low (c :: cs) then zrl z b else ([], z, b)) = ([], z, b) := by rw [if_pos h, zrl_small hz]
      by_cases h1 : 1 < size low c
      · have hh : has1 low cs = true := (has1_skip (Nat.ne_of_gt h1)).symm.trans h
        exact seg_el low cs z (b ++ [cbit low c]) hz hh fun s sb p c' r cb e1 e2 e3 e4 e5 => k s sb (c :: p) c' r (cbit low c :: cb) (congrArg (c :: ·) e1) ((body_more h1 hp).trans (e2.trans (by rw [List.append_assoc b]; rfl))) e3 e4 fun rest =>
          (pass_corr (cut_pos h1).1 (e5 rest)).trans (congrArg (fun x => Res.ok (x :: dues low p, _) rest) (due_more h1).symm)
      · have h1' : size low c = 1 := by lia
        exact k (16 * z + 1) [decide (0 < c)] [] c cs [] rfl (body_one h1' hp) (by lia) (segV_new hz h1') fun rest => by
          rw [Nat.mul_add_div (by decide), show z + 1 / 16 - z = 0 from Nat.sub_self z, known_0 (Nat.le_of_eq h1')]; rfl
noncomputable def corrs (low : Nat) (cs : List Int) : List Bool := (cs.filter fun c => 1 < size low c).map (cbit low)
noncomputable def zeros (low : Nat) (cs : List Int) : Nat := (cs.filter fun c => size low c = 0).length
section
variable {low : Nat} {c : Int} {cs : List Int}
theorem corrs_0 (h : size low c = 0) : corrs low (c :: cs) = corrs low cs /\ zeros low (c :: cs) = zeros low cs + 1 := by simp [corrs, zeros, h]
theorem corrs_1 (h : 1 < size low c) : corrs low (c :: cs) = cbit low c :: corrs low cs /\ zeros low (c :: cs) = zeros low cs := by simp [corrs, zeros, h, Nat.ne_of_gt (Nat.lt_trans Nat.one_pos h)]
theorem no_one (h : has1 low (c :: cs) = false) : (size low c = 0 \/ 1 < size low c) /\ has1 low cs = false := by
 have h := Bool.or_eq_false_iff.mp h
 have : size low c ≠ 1 := fun w => beq_eq_false_iff_ne.mp h.1 w
 exact ⟨by lia, h.2⟩
end
theorem tail_body (low : Nat) : ∀ (cs : List Int) (z : Nat) (b : List Bool), has1 low cs = false -> bodyF low cs z b = ([], z + zeros low cs, b ++ corrs low cs)
 | [], z, b, h => by rw [show corrs low [] = [] from rfl, List.append_nil]; rfl
 | c :: cs, z, b, h => by
  obtain ⟨h0, h'⟩ := no_one h
  rcases h0 with h0 | h0
  ·rw [body_0 h0, tail_body low cs (z + 1) b h', (corrs_0 h0).1, (corrs_0 h0).2, Nat.add_assoc, Nat.add_comm 1]
  ·rw [body_more h0 (by rw [h]; rfl), tail_body low cs z _ h', (corrs_1 h0).1, (corrs_1 h0).2, List.append_assoc]; rfl
theorem tail_run (low : Nat) (rest : List Bool) : ∀ (cs : List Int), has1 low cs = false -> (restT low (known low cs)).run (corrs low cs ++ rest) = .ok (dues low cs) rest
 | [], h => rfl
 | c :: cs, h => by
  obtain ⟨h0, h'⟩ := no_one h
  rcases h0 with h0 | h0
  ·rw [(corrs_0 h0).1, known_0 (h0 ▸ Nat.zero_le 1)]
   exact Run.neg (fun h => h rfl) (Run.bind (tail_run low rest cs h') (congrArg (fun x => Res.ok (x :: dues low cs) rest) (due_zero h0).symm))
  ·rw [(corrs_1 h0).1]
   exact Run.pos (cut_pos h0).1 (Run.bind (tail_run low rest cs h') (congrArg (fun x => Res.ok (x :: dues low cs) rest) (due_more h0).symm))
theorem tail_ne {low : Nat} {cs : List Int} (h : has1 low cs = false) (hn : cs ≠ []) : (bodyF low cs 0 []).2 ≠ (0, []) := by
 cases cs with
 | nil => exact absurd rfl hn
 | cons c cs =>
  rw [tail_body low _ 0 [] h]
  intro w
  rcases (no_one h).1 with h0 | h0
  ·have := congrArg Prod.fst w
   rw [(corrs_0 h0).2] at this
   exact Nat.succ_ne_zero _ ((Nat.zero_add _).symm.trans this)
  ·have := congrArg Prod.snd w
   rw [(corrs_1 h0).1] at this
   exact absurd this (List.cons_ne_nil _ _)
theorem known_len (low : Nat) (cs : List Int) : (known low cs).length = cs.length := List.length_map ..
theorem eob_go {low s e N : Nat} {ks ds : List Int} {X : Rd (List Int × Nat)} {cb rest : List Bool} (d2 : s % 16 = 0) (d1 : s / 16 = e) (he : e < 15) (h1 : 2 ^ e <= N) (h2 : N < 2 ^ (e + 1)) (h : (restT low ks).run (cb ++ rest) = .ok ds rest) :
  (if s % 16 = 0 /\ s / 16 < 15 then (bitsT (s / 16) 0).bind fun v => (restT low ks).bind fun p => .done (p, 2 ^ (s / 16) + v - 1) else X).run (bitsOf e (N - 2 ^ e) ++ (cb ++ rest)) = .ok (ds, N - 1) rest := by
 subst d1
 refine Run.pos ⟨d2, he⟩ (Run.bind (bitsT_run _ _ _ _) (Run.bind h (congrArg (fun x => Res.ok (ds, x) rest) ?_)))
 rw [Nat.pow_succ] at h2
 rw [Nat.zero_mul, Nat.zero_add, Nat.mod_eq_of_lt (Nat.sub_lt_left_of_lt_add h1 (by rw [<- Nat.mul_two]; exact h2)), Nat.add_sub_cancel' h1]
theorem eob_run {low e N : Nat} {k : Int} {ks ds : List Int} {n : Nat} {cb rest : List Bool} (he : e < 15) (h1 : 2 ^ e <= N) (h2 : N < 2 ^ (e + 1)) (h : (restT low (k :: ks)).run (cb ++ rest) = .ok ds rest) :
  (bandT low (n + 1) (k :: ks)).run (symB (16 * e) ++ (bitsOf e (N - 2 ^ e) ++ (cb ++ rest))) = .ok (ds, N - 1) rest :=
 Run.bind (symT_run (z := e) (m := 0) (Nat.lt_succ_of_lt he) (by decide) _) (eob_go (Nat.mul_mod_right 16 e) (Nat.mul_div_cancel_left e (by decide)) he h1 h2 h)
theorem app4 (a b c d e : List Bool) : a ++ (b ++ (c ++ d)) ++ e = a ++ (b ++ (c ++ (d ++ e))) := by rw [List.append_assoc, List.append_assoc, List.append_assoc]
theorem band_run (low : Nat) : ∀ (n : Nat) (cs : List Int), cs.length < n ->
    ((bodyF low cs 0 []).2 = (0, []) -> ∀ rest, (bandT low n (known low cs)).run ((bodyF low cs 0 []).1 ++ rest) = .ok (dues low cs, 0) rest) /\
    ((bodyF low cs 0 []).2 ≠ (0, []) -> ∀ e N rest, e < 15 -> 2 ^ e <= N -> N < 2 ^ (e + 1) ->
      (bandT low n (known low cs)).run ((bodyF low cs 0 []).1 ++ (symB (16 * e) ++ (bitsOf e (N - 2 ^ e) ++ ((bodyF low cs 0 []).2.2 ++ rest)))) = .ok (dues low cs, N - 1) rest)
  | 0, cs, h => absurd h (Nat.not_lt_zero _)
  | n + 1, [], h => ⟨fun _ rest => rfl, fun q => absurd rfl q⟩
  | n + 1, x :: xs, h => by
    cases h1 : has1 low (x :: xs) with
    | true =>
      refine seg_el low (x :: xs) 0 [] (by decide) h1 fun s sb p c r cb e1 e2 e3 e4 e5 => ?_
      have hl : r.length < n := by rw [e1, List.length_append, List.length_cons] at h; lia
      obtain ⟨i1, i2⟩ := band_run low n r hl
      have step : ∀ (S rest' : List Bool) (run : Nat), (bandT low n (known low r)).run ((bodyF low r 0 []).1 ++ S) = .ok (dues low r, run) rest' ->
          (bandT low (n + 1) (known low (x :: xs))).run ((bodyF low (x :: xs) 0 []).1 ++ S) = .ok (dues low (x :: xs), run) rest' := fun S rest' run hr => by
        have hd : dues low (x :: xs) = dues low p ++ cutN low c :: dues low r := by rw [e1]; exact List.map_append
        rw [e2, hd]
        exact Eq.trans (congrArg _ (app4 (symB s) sb cb _ S)) (Run.bind (e4.1 _) (Run.neg e4.2.1 (Run.bind (e4.2.2 _) (Run.bind (e5 _) (Run.bind hr rfl)))))
      have e2' : (bodyF low (x :: xs) 0 []).2 = (bodyF low r 0 []).2 := by rw [e2]
      rw [e2']
      exact ⟨fun q rest => step rest rest 0 (i1 q rest), fun q e N rest a1 a2 a3 => step _ rest (N - 1) (i2 q e N rest a1 a2 a3)⟩
    | false =>
      refine ⟨fun q => absurd q (tail_ne h1 (List.cons_ne_nil x xs)), fun _ e N rest a1 a2 a3 => ?_⟩
      rw [tail_body low _ 0 [] h1]
      exact eob_run a1 a2 a3 (tail_run low rest _ h1)
end
section
noncomputable def flush (run : Nat) (kept : List Bool) : List Bool := if run = 0 then [] else symB (16 * run.log2) ++ bitsOf run.log2 (run - 2 ^ run.log2) ++ kept
noncomputable def lz (bits : List Bool) (run : Nat) (kept out : List Bool) : List Bool × Nat × List Bool := if out = [] then (bits, run, kept) else (bits ++ flush run kept ++ out, 0, [])
noncomputable def codeF (low : Nat) (st : List Bool × Nat × List Bool) (cs : List Int) : List Bool × Nat × List Bool :=
 let p := lz st.1 st.2.1 st.2.2 (bodyF low cs 0 []).1
 if (bodyF low cs 0 []).2 = (0, []) then p else (p.1, p.2.1 + 1, p.2.2 ++ (bodyF low cs 0 []).2.2)
noncomputable def encF (low : Nat) (rows : List (List Int)) (st : List Bool × Nat × List Bool) : List Bool × Nat × List Bool := rows.foldl (fun st r => codeF low st r.tail) st
noncomputable def rowsT (low : Nat) : List (List Int) -> Nat -> Rd (List (List Int) × Nat)
 | [], run => .done ([], run)
 | r :: rs, run => (rowT low r.tail run).bind fun p => (rowsT low rs p.2).bind fun q => .done ((r.headD 0 :: p.1) :: q.1, q.2)
theorem rowsT_cons {low run : Nat} {r : List Int} {rs : List (List Int)} : rowsT low (r :: rs) run = (rowT low r.tail run).bind fun p => (rowsT low rs p.2).bind fun q => .done ((r.headD 0 :: p.1) :: q.1, q.2) := rfl
noncomputable def dueR (low : Nat) (r : List Int) : List Int := cutN (low + 1) (r.headD 0) :: dues low r.tail
noncomputable def encG (low : Nat) : List (List Int) -> Nat -> List Bool -> List Bool
  | [], m, k => flush m k
  | r :: rs, m, k => if (bodyF low r.tail 0 []).1 = [] then (if (bodyF low r.tail 0 []).2 = (0, []) then encG low rs m k else encG low rs (m + 1) (k ++ (bodyF low r.tail 0 []).2.2))
      else flush m k ++ (bodyF low r.tail 0 []).1 ++ (if (bodyF low r.tail 0 []).2 = (0, []) then encG low rs 0 [] else encG low rs 1 (bodyF low r.tail 0 []).2.2)
theorem encG_cons {low m : Nat} {r : List Int} {rs : List (List Int)} {k : List Bool} : encG low (r :: rs) m k = if (bodyF low r.tail 0 []).1 = [] then (if (bodyF low r.tail 0 []).2 = (0, []) then encG low rs m k else encG low rs (m + 1) (k ++ (bodyF low r.tail 0 []).2.2))
      else flush m k ++ (bodyF low r.tail 0 []).1 ++ (if (bodyF low r.tail 0 []).2 = (0, []) then encG low rs 0 [] else encG low rs 1 (bodyF low r.tail 0 []).2.2) := rfl
theorem enc_full (low : Nat) : ∀ (rs : List (List Int)) (bits : List Bool) (m : Nat) (k : List Bool), (encF low rs (bits, m, k)).1 ++ flush (encF low rs (bits, m, k)).2.1 (encF low rs (bits, m, k)).2.2 = bits ++ encG low rs m k
 | [], bits, m, k => rfl
 | r :: rs, bits, m, k => by
  have e : encF low (r :: rs) (bits, m, k) = encF low rs (codeF low (bits, m, k) r.tail) := rfl
  rw [e]
  have e2 : codeF low (bits, m, k) r.tail = ((codeF low (bits, m, k) r.tail).1, (codeF low (bits, m, k) r.tail).2.1, (codeF low (bits, m, k) r.tail).2.2) := rfl
  rw [e2, enc_full low rs]
  rw [encG_cons]
  unfold codeF lz
  dsimp only
  by_cases h1 : (bodyF low r.tail 0 []).1 = []
  ·rw [if_pos h1, if_pos h1]
   split <;> rfl
  ·rw [if_neg h1, if_neg h1]
   split <;> simp [List.append_assoc]
theorem encG_zero (low : Nat) (r : List Int) (rs : List (List Int)) : encG low (r :: rs) 0 [] = (bodyF low r.tail 0 []).1 ++ (if (bodyF low r.tail 0 []).2 = (0, []) then encG low rs 0 [] else encG low rs 1 (bodyF low r.tail 0 []).2.2) := by
 rw [encG_cons]
 have : flush 0 [] = [] := rfl
 rw [this]
 by_cases h1 : (bodyF low r.tail 0 []).1 = []
 ·rw [if_pos h1, h1]; simp
 ·rw [if_neg h1]; simp
theorem symB_ne (s : Nat) : symB s ≠ [] := List.cons_ne_nil _ _
theorem body_has {low : Nat} {cs : List Int} {z : Nat} {b : List Bool} (hz : z <= 15) (h : has1 low cs = true) : (bodyF low cs z b).1 ≠ [] :=
 seg_el low cs z b hz h fun s sb p c r cb e1 e2 _ _ _ w => by rw [e2] at w; exact symB_ne _ (List.append_eq_nil_iff.mp w).1
theorem log2_le {N : Nat} (h : 0 < N) : 2 ^ N.log2 <= N /\ N < 2 ^ (N.log2 + 1) := ⟨Nat.log2_self_le (by lia), Nat.lt_log2_self⟩
theorem app3 (a b c d : List Bool) : a ++ (b ++ c) ++ d = a ++ (b ++ (c ++ d)) := by rw [List.append_assoc, List.append_assoc]
theorem flushP {m : Nat} {k : List Bool} (h : 0 < m) : flush m k = symB (16 * m.log2) ++ (bitsOf m.log2 (m - 2 ^ m.log2) ++ k) := (if_neg (Nat.ne_of_gt h)).trans (List.append_assoc ..)
theorem row_zero {low : Nat} {cs : List Int} {s t : List Bool} {q : List Int × Nat} (h : (bandT low ((known low cs).length + 1) (known low cs)).run s = .ok q t) : (rowT low (known low cs) 0).run s = .ok q t := h
theorem rows_run (low : Nat) : ∀ (rs : List (List Int)), (∀ r ∈ rs, r.tail ≠ []) ->
  (rs.length < 2 ^ 15 -> ∀ rest, (rowsT low (rs.map (known low)) 0).run (encG low rs 0 [] ++ rest) = .ok (rs.map (dueR low), 0) rest) /\
  (∀ m k, 0 < m -> m + rs.length < 2 ^ 15 -> ∃ N tb, m <= N /\ N < 2 ^ 15 /\ encG low rs m k = symB (16 * N.log2) ++ (bitsOf N.log2 (N - 2 ^ N.log2) ++ (k ++ tb)) /\
   ∀ rest, (rowsT low (rs.map (known low)) (N - m)).run (tb ++ rest) = .ok (rs.map (dueR low), 0) rest)
 | [], _ => ⟨fun _ rest => rfl, fun m k hm hl => ⟨m, [], Nat.le_refl _, hl, (flushP hm).trans (by rw [List.append_nil]), fun rest => by rw [Nat.sub_self]; rfl⟩⟩
 | [] :: rs, hr => absurd rfl (hr [] (.head _))
 | (x :: xs) :: rs, hr => by
  have hx : xs ≠ [] := hr _ (.head _)
  obtain ⟨iA, iB⟩ := rows_run low rs fun r h => hr r (.tail _ h)
  have bb := band_run low ((known low xs).length + 1) xs (by rw [known_len]; exact Nat.lt_succ_self _)
  have A : rs.length + 1 < 2 ^ 15 -> ∀ rest, (rowsT low (((x :: xs) :: rs).map (known low)) 0).run (encG low ((x :: xs) :: rs) 0 [] ++ rest) = .ok (((x :: xs) :: rs).map (dueR low), 0) rest := fun hl rest => by
   rw [encG_zero]
   by_cases h2 : (bodyF low xs 0 []).2 = (0, [])
   ·refine Eq.trans (congrArg _ (by rw [List.tail_cons, if_pos h2, List.append_assoc])) (Run.bind (row_zero (bb.1 h2 _)) (Run.bind (iA (Nat.lt_of_succ_lt hl) rest) rfl))
   ·obtain ⟨N, tb, n1, n2, n3, n4⟩ := iB 1 (bodyF low xs 0 []).2.2 Nat.one_pos (Nat.add_comm 1 _ ▸ hl)
    have hN : 0 < N := n1
    exact Eq.trans (congrArg _ (by rw [List.tail_cons, if_neg h2, n3, List.append_assoc, app4])) (Run.bind (row_zero (bb.2 h2 N.log2 N (tb ++ rest) ((Nat.log2_lt (Nat.ne_of_gt hN)).mpr n2) (log2_le hN).1 (log2_le hN).2)) (Run.bind (n4 rest) rfl))
  refine ⟨A, fun m k hm hl => ?_⟩
  have hl : m + (rs.length + 1) < 2 ^ 15 := hl
  by_cases h1 : (bodyF low xs 0 []).1 = []
  ·have hh : has1 low xs = false := by
    cases w : has1 low xs with
    | false => rfl
    | true => exact absurd h1 (body_has (Nat.zero_le _) w)
   have h3 : (bodyF low xs 0 []).2.2 = corrs low xs := congrArg (fun x => x.2.2) (tail_body low xs 0 [] hh)
   obtain ⟨N, tb, n1, n2, n3, n4⟩ := iB (m + 1) (k ++ corrs low xs) (Nat.succ_pos m) (by lia)
   refine ⟨N, corrs low xs ++ tb, Nat.le_of_succ_le n1, n2, ?_, fun rest => ?_⟩
   ·rw [<- List.append_assoc k, <- n3, <- h3]
    exact (if_pos h1).trans (if_neg (tail_ne hh hx))
   ·rw [List.append_assoc]
    exact Run.bind (Run.neg (Nat.sub_ne_zero_of_lt n1) (Run.bind (tail_run low _ xs hh) rfl)) (Run.bind (n4 rest) rfl)
  ·refine ⟨m, encG low ((x :: xs) :: rs) 0 [], Nat.le_refl _, Nat.lt_of_le_of_lt (Nat.le_add_right ..) hl, ?_, fun rest => ?_⟩
   ·rw [encG_zero]
    refine (if_neg h1).trans ?_
    rw [flushP hm, List.append_assoc, app3]
   ·rw [Nat.sub_self]
    exact A (Nat.lt_of_le_of_lt (Nat.le_add_left ..) hl) rest
theorem bitsOf_len2 (v : Nat) : ∀ n, (bitsOf n v).length = n
 | 0 => rfl
 | n + 1 => congrArg (· + 1) (bitsOf_len2 v n)
theorem symB_len (s : Nat) : (symB s).length = 7 := bitsOf_len2 _ _
theorem zrl_len (z : Nat) (b : List Bool) : (zrl z b).1.length + (zrl z b).2.1 + (zrl z b).2.2.length <= z + b.length /\ (zrl z b).2.1 <= 15 := by
 induction z using Nat.strongRecOn generalizing b with
 | ind z ih =>
  rcases Nat.lt_or_ge 15 z with h | h
  ·obtain ⟨j, rfl⟩ : ∃ j, z = 16 + j := ⟨z - 16, (Nat.add_sub_cancel' h).symm⟩
   have := ih j (Nat.lt_add_of_pos_left (by decide)) []
   rw [zrl_more]
   simp only [List.length_append, symB_len, List.length_nil] at this ⊢
   exact ⟨by lia, this.2⟩
  ·rw [zrl_small h]; simp; lia
theorem body_len (low : Nat) : ∀ (cs : List Int) (z : Nat) (b : List Bool), (bodyF low cs z b).1.length + (bodyF low cs z b).2.1 + (bodyF low cs z b).2.2.length <= z + b.length + 8 * cs.length
 | [], z, b => by show 0 + z + b.length <= z + b.length + 0; rw [Nat.zero_add]; exact Nat.le_refl _
 | c :: cs, z, b => by
  rw [body_eq]
  dsimp only
  split
  ·have := body_len low cs (z + 1) b
   simp only [List.length_cons]; lia
  ·have hz := zrl_len z b
   have hp : (if has1 low (c :: cs) = true then zrl z b else ([], z, b)).1.length + (if has1 low (c :: cs) = true then zrl z b else ([], z, b)).2.1 + (if has1 low (c :: cs) = true then zrl z b else ([], z, b)).2.2.length <= z + b.length := by
    split
    ·exact hz.1
    ·simp
   generalize (if has1 low (c :: cs) = true then zrl z b else ([], z, b)) = p at hp ⊢
   split
   ·have := body_len low cs p.2.1 (p.2.2 ++ [cbit low c])
    simp only [List.length_append, List.length_cons, List.length_nil] at this ⊢
    lia
   ·have := body_len low cs 0 []
    simp only [List.length_append, List.length_cons, List.length_nil, symB_len] at this ⊢
    lia
noncomputable def heft (st : List Bool × Nat × List Bool) : Nat := st.1.length + st.2.2.length + 8 * st.2.1
theorem log2_lt_self {n : Nat} (h : 0 < n) : n.log2 < n := by
 have h1 := Nat.log2_self_le (n := n) (by lia)
 have : n.log2 < 2 ^ n.log2 := Nat.lt_two_pow_self
 lia
theorem flush_len (run : Nat) (kept : List Bool) : (flush run kept).length <= kept.length + 8 * run := by
 unfold flush
 split
 ·simp
 ·have := log2_lt_self (n := run) (by lia)
  simp only [List.length_append, symB_len, bitsOf_len2]
  lia
theorem code_len (low : Nat) (st : List Bool × Nat × List Bool) (cs : List Int) : heft (codeF low st cs) <= heft st + 8 * cs.length + 8 /\ (codeF low st cs).2.1 <= st.2.1 + 1 /\ (codeF low st cs).2.2.length <= st.2.2.length + 8 * cs.length := by
 have h1 := body_len low cs 0 []
 have h2 := flush_len st.2.1 st.2.2
 unfold heft codeF lz
 dsimp only
 split <;> split <;> simp only [List.length_append, List.length_nil] at h1 h2 ⊢ <;> exact ⟨by lia, by lia, by lia⟩
noncomputable def okSt (st : List Bool × Nat × List Bool) : Prop := st.2.1 = 0 -> st.2.2 = []
theorem code_ok (low : Nat) (st : List Bool × Nat × List Bool) (cs : List Int) (h : okSt st) : okSt (codeF low st cs) := by
 unfold okSt codeF lz at *
 dsimp only
 split <;> split <;> simp_all
theorem Run.code {α β : Type} {r : Rd α} {f : α -> Rd β} {s : List Bool} (h : r.run s = .code) : (r.bind f).run s = .code := by rw [run_bind, h]; rfl
theorem refused_bad (low : Nat) {z : Nat} (hz : z < 16) (x0 k0 : Int) (ks : List Int) (rest : List Bool) : (rowsT low [x0 :: k0 :: ks] 0).run (symB (16 * z + 2) ++ rest) = .code :=
 Run.code (show (bandT low _ (k0 :: ks)).run _ = _ from Run.bind (symT_run hz (by decide) rest) (Run.neg (by lia) (Run.code (Run.neg (by lia) (Run.pos (by lia) rfl)))))
theorem refused_long (low : Nat) (x0 : Int) (b : Bool) (rest : List Bool) : (rowsT low [[x0, 0, 0, 0]] 0).run (symB (16 * 14 + 1) ++ b :: rest) = .code :=
 Run.code (show (bandT low _ [0, 0, 0]).run _ = _ from Run.bind (symT_run (by decide) (by decide) _) rfl)
end
section
open PyProof.Rows
structure World0 (c : Cx) : Prop where
 base : BaseOK c
 exc : XOK c
 ft : ∀ p ∈ fns, c.ft p.1 = some p.2
noncomputable def LawOK : Prop := ∀ (c : Cx), World0 c -> ∀ (scr : Addr) (ns : List Int) (H : HH), H scr = some (.ro (mvi ns)) -> ns.length <= 63 -> CallS c 40 true 505 [.ref scr] H (fun v _ => v = .bool true) (fun _ _ => False)
theorem ft_of {K : Frag} (k : KOK K) : ∀ p ∈ fns, ftOf K p.1 = some p.2 := fun p hp => by
 have := k.fts
 exact (List.map_inj_left.mp this) p hp
theorem ints_mvi : ∀ {vs : List Value} {ns : List Int}, IntsAre vs ns -> vs.map era = mvi ns
 | _, _, .nil => rfl
 | _, _, .cons n t h => by
  show era (.int n t) :: _ = .int n :: _
  rw [ints_mvi h]; rfl
theorem law_wp {prog : Program} {w : World} {K : Frag} {s₁ : Shared} {mg mb : Str -> Option Value} (L : LawOK) (k : KOK K) (hK : K.In s₁.heap) (hl : s₁.heap.NoLimit) (hg : s₁.heap.Ns mainGlobals mg) (hb : s₁.heap.Ns builtinsNs mb) (hbb : ∀ x : Str, x ≠ "__name__" -> mb x = bootBuiltins x)
    {x : Addr} {vs : List Value} {ns : List Int} (hx : s₁.heap.get? x = some { cls := .type "list", data := .seq vs.toArray }) (hI : IntsAre vs ns) (hn : ns.length <= 63) :
    wpG true (model prog w) callerA (call (.ref 505) [.ref x]) (fun v s' => v = .bool true /\ (∀ b o, s₁.heap.get? b = some o -> s'.heap.get? b = some o) /\ s'.gens = s₁.gens /\ s'.os = s₁.os) (fun _ _ => False) s₁ := by
  let c : Cx := ⟨prog, w, s₁.heap, K, ftOf K⟩
  have W : World0 c := ⟨baseOK_of (c := c) k rfl hK hl hg hb hbb, xOK_of (c := c) k hK hg hb hbb, ft_of k⟩
  let H : HH := fun a => if a = x then some (.ro (mvi ns)) else none
  have hH : H x = some (.ro (mvi ns)) := if_pos rfl
  have only : ∀ a o, H a = some o -> a = x /\ o = .ro (mvi ns) := fun a o e => by
    by_cases q : a = x
    · rw [q, hH] at e; cases e; exact ⟨q, rfl⟩
    · have : H a = none := if_neg q
      rw [this] at e; cases e
  have r : Rel c s₁.heap H := ⟨fun _ _ e => e, fun a o e => by
      obtain ⟨rfl, rfl⟩ := only a o e
      exact ⟨_, 0, hx, hx, by simpa using ints_mvi hI⟩, fun a o e q => by
      obtain ⟨_, rfl⟩ := only a o e
      exact absurd rfl (q _), fun a C d fs e => (nomatch (only a _ e).2), fun a a' C C' d fs fs' e e' => (nomatch (only a _ e).2)⟩
  refine wpG.call (codeG.mono (L c W x ns H hH hn callerA s₁ [.ref x] [] ⟨rfl, by decide, by decide⟩ rfl (fun _ h => nomatch h) r rfl) fun res s' q => ?_)
  rcases res with e | (_ | _ | _ | v)
  · obtain ⟨_, _, _, _, _, _, q⟩ := q
    exact q.elim
  · exact q.elim
  · exact q.elim
  · exact q.elim
  · obtain ⟨H', g, q⟩ := q
    exact ⟨era_bool q, g.rel.base, g.gens, g.os⟩
end
section
open PyProof.Rows
inductive IK where
 | ex | up | down
set_option genSizeOf false
set_option genInjectivity false
inductive C where
 | fin | stop | ret | dead | rais (X : Addr)
 | psh (v : MV) (k : C) | loc (i : Nat) (k : C)
 | bin (op : Operator) (k : C) | neg (k : C) | not (k : C) | cmp (op : CmpOp) (k : C) | cmpk (op : CmpOp) (a b : C) | br (a b : C)
 | attr (f : Nat) (k : C) | sub (k : C) | slc (k : C)
 | bi (b : BI) (n : Nat) (k : C) | fn (f : Addr) (n : Nat) (k : C) | new (X : Addr) (n : Nat) (k : C)
 | mget (f : Nat) (k : C) | mcall (n : Nat) (k : C) | bget (m : BM) (k : C) | bcall (m : BM) (n : Nat) (k : C)
 | list (n : Nat) (k : C) | tup (n : Nat) (k : C) | dict (k : C) | edict (k : C)
 | comp (i : IK) (elt : E) (v : Nat) (inner : Option (Nat × IT)) (m : List (Option Nat)) (k : C)
 | st (i : Nat) (k : C) | stA (f : Nat) (k : C) | stS (k : C) | stL (is : List Nat) (k : C) | stM (is : List Nat) (n : Nat) (k : C) | pop (k : C) | nj (k : C)
 | whl (c : E) (b : B) (k : C) | forr (i : IK) (t : T) (b : B) (k : C) | tryx (e : C) (C1 : Addr) (s1 : Str) (C2 : Addr) (s2 : Str)
inductive FlM where
 | next | exit | ret (v : MV)
noncomputable abbrev QM := FlM -> FF -> HH -> Prop
noncomputable def llen : L -> Nat
 | .nil => 0
 | .cons _ l => llen l + 1
mutual
noncomputable def cE : E -> C -> C
 | .int i, k => .psh (.int i) k
 | .str s, k => .psh (.str s) k
 | .non, k => .psh .non k
 | .bool b, k => .psh (.bool b) k
 | .loc i, k => .loc i k
 | .bin op l r, k => cE l (cE r (.bin op k))
 | .neg e, k => cE e (.neg k)
 | .not e, k => cE e (.not k)
 | .cmp op l r, k => cE l (cE r (.cmp op k))
 | .cmp2 o1 o2 a b c, k => cE a (cE b (.cmpk o1 (cE c (.cmp o2 k)) k))
 | .and l, k => cAnd l k
 | .or l, k => cOr l k
 | .ite c a b, k => cE c (.br (cE a k) (cE b k))
 | .attr o f, k => cE o (.attr f k)
 | .sub o i, k => cE o (cE i (.sub k))
 | .slc o lo hi, k => cE o (cE lo (cE hi (.slc k)))
 | .bi b args, k => cL args (.bi b (llen args) k)
 | .fn f args, k => cL args (.fn f (llen args) k)
 | .new X args, k => cL args (.new X (llen args) k)
 | .meth o f args, k => cE o (.mget f (cL args (.mcall (llen args) k)))
 | .bm o m args, k => cE o (.bget m (cL args (.bcall m (llen args) k)))
 | .list es, k => cL es (.list (llen es) k)
 | .tup es, k => cL es (.tup (llen es) k)
 | .dict a b, k => cE a (cE b (.dict k))
 | .edict, k => .edict k
 | .comp elt v it m, k => cI it (fun i => .comp i elt v none m k)
 | .comp2 elt v it v2 it2 m, k => cI it (fun i => .comp i elt v (some (v2, it2)) m k)
noncomputable def cL : L -> C -> C
 | .nil, k => k
 | .cons e l, k => cE e (cL l k)
noncomputable def cAnd : L -> C -> C
 | .nil, k => .psh (.bool true) k
 | .cons e l, k => cE e (.br (cAnd l k) (.psh (.bool false) k))
noncomputable def cOr : L -> C -> C
 | .nil, k => .psh (.bool false) k
 | .cons e l, k => cE e (.br (.psh (.bool true) k) (cOr l k))
noncomputable def cI : IT -> (IK -> C) -> C
 | .ex e, k => cE e (k .ex)
 | .up lo hi, k => cE lo (cE hi (k .up))
 | .down lo hi, k => cE lo (cE hi (k .down))
end
noncomputable def cT : T -> C -> C
 | .loc i, k => .st i k
 | .attr o f, k => cE o (.stA f k)
 | .sub o i, k => cE o (cE i (.stS k))
 | .locs is, k => .stL is k
mutual
noncomputable def cS : S -> C -> C
 | .ex e, k => cE e (.pop k)
 | .asg t e, k => cE e (.nj (cT t k))
 | .asg2 is es, k => cL es (.stM is (llen es) k)
 | .ife c a b, k => cE c (.br (cB a k) (cB b k))
 | .whl c b, k => .whl c b k
 | .forr t it b, k => cI it (fun i => .forr i t b k)
 | .ret e, _ => cE e .ret
 | .rais X, _ => .rais X
 | .tryx e C1 s1 C2 s2, _ => .tryx (cE e .ret) C1 s1 C2 s2
 | .dead, _ => .dead
noncomputable def cB : B -> C -> C
 | .nil, k => k
 | .cons s b, k => cS s (cB b k)
end
noncomputable def getB : FF -> Nat -> Option MV
 | [], _ => none
 | a :: _, 0 => a
 | _ :: F, i + 1 => getB F i
noncomputable def setB : FF -> Nat -> MV -> FF
 | [], _, _ => []
 | _ :: F, 0, v => some v :: F
 | a :: F, i + 1, v => a :: setB F i v
noncomputable def lenB : FF -> Nat -> Bool
 | [], _ => false
 | _ :: _, 0 => true
 | _ :: F, i + 1 => lenB F i
noncomputable def lookB (f : Nat) : List (Nat × MV) -> Option MV
 | [] => none
 | (g, v) :: r => cond (g == f) (some v) (lookB f r)
noncomputable def putB (f : Nat) (v : MV) : List (Nat × MV) -> List (Nat × MV)
 | [] => [(f, v)]
 | (g, u) :: r => cond (g == f) ((g, v) :: r) ((g, u) :: putB f v r)
noncomputable def mapB (F : FF) : List (Option Nat) -> FF
 | [] => []
 | none :: m => none :: mapB F m
 | some i :: m => getB F i :: mapB F m
noncomputable def gI (v : MV) (k : Int -> Prop) : Prop := match v with | .int x => k x | _ => True
noncomputable def gR (v : MV) (k : Addr -> Prop) : Prop := match v with | .ref x => k x | _ => True
noncomputable def gS (v : MV) (k : Str -> Prop) : Prop := match v with | .str x => k x | _ => True
noncomputable def gB (v : MV) (k : Bool -> Prop) : Prop := match v with | .bool x => k x | _ => True
noncomputable def gN (v : MV) (p : Prop) : Prop := match v with | .non => p | _ => True
noncomputable def gG {α : Type} (o : Option α) (k : α -> Prop) : Prop := match o with | some v => k v | none => True
noncomputable def p1 (l : List MV) (k : MV -> List MV -> Prop) : Prop := match l with | [] => True | v :: r => k v r
noncomputable def pn (n : Nat) (l acc : List MV) (k : List MV -> List MV -> Prop) : Prop := match n with
 | 0 => k acc l
 | n + 1 => match l with | [] => True | v :: r => pn n r (v :: acc) k
noncomputable def gJ (v : MV) (p : Prop) : Prop := match v with | .junk => True | _ => p
noncomputable def gX (v : MV) (p : Prop) : Prop := match v with | .junk => True | .ref _ => True | _ => p
noncomputable def Rep (S S' : Prop) (T : Prop -> Prop) : Prop := (∀ G : Prop, (S -> G) -> T G) /\ ∀ G : Prop, T G -> S' -> G
noncomputable def All (T : Prop -> Prop) : Prop := ∀ G : Prop, T G -> G
noncomputable def Chu (T : Prop -> Prop) : Prop := ∀ G : Prop, (All T -> G) -> T G
theorem Rep.get {S S' : Prop} {T : Prop -> Prop} (r : Rep S S' T) (a : All T) : S := a S (r.1 S id)
theorem Rep.chu {S : Prop} {T : Prop -> Prop} (r : Rep S S T) : Chu T := fun G h => r.1 G fun s => h fun G' t => r.2 G' t s
theorem Chu.rep {T : Prop -> Prop} (r : Chu T) {S : Prop} (h : All T -> S) : Rep S (All T) T := ⟨fun G g => r G fun a => g (h a), fun G t a => a G t⟩
section
variable {S S' : Prop} {T : Prop -> Prop} {p : Prop} {v : MV}
theorem rep_end {q : Prop} (h : q -> p) : Rep p q (fun G => q -> G) := ⟨fun G f x => f (h x), fun G t x => t x⟩
theorem rep_and (r : Rep S S' T) : Rep (p /\ S) (p /\ S') (fun G => p -> T G) := ⟨fun G h x => r.1 G fun s => h ⟨x, s⟩, fun G t s => r.2 G (t s.1) s.2⟩
theorem rep_ex {α : Type} {S S' : α -> Prop} {T : α -> Prop -> Prop} (r : ∀ x, Rep (S x) (S' x) (T x)) : Rep (∃ x, S x) (∃ x, S' x) (fun G => ∀ x, T x G) := ⟨fun G h x => (r x).1 G fun s => h ⟨x, s⟩, fun G t s => s.elim fun x s => (r x).2 G (t x) s⟩
theorem rep_true : Rep False False (fun _ => True) := ⟨fun _ _ => trivial, fun _ _ h => h.elim⟩
theorem rep_int {S S' : Int -> Prop} {T : Int -> Prop -> Prop} (r : ∀ x, Rep (S x) (S' x) (T x)) : Rep (int? v S) (int? v S') (fun G => gI v fun x => T x G) := by cases v with | int x => exact r x | _ => exact rep_true
theorem rep_ref {S S' : Addr -> Prop} {T : Addr -> Prop -> Prop} (r : ∀ x, Rep (S x) (S' x) (T x)) : Rep (ref? v S) (ref? v S') (fun G => gR v fun x => T x G) := by cases v with | ref x => exact r x | _ => exact rep_true
theorem rep_st {S S' : Str -> Prop} {T : Str -> Prop -> Prop} (r : ∀ x, Rep (S x) (S' x) (T x)) : Rep (str? v S) (str? v S') (fun G => gS v fun x => T x G) := by cases v with | str x => exact r x | _ => exact rep_true
theorem rep_bool {S S' : Bool -> Prop} {T : Bool -> Prop -> Prop} (r : ∀ x, Rep (S x) (S' x) (T x)) : Rep (bool? v S) (bool? v S') (fun G => gB v fun x => T x G) := by cases v with | bool x => exact r x | _ => exact rep_true
theorem rep_non (r : Rep S S' T) : Rep (non? v S) (non? v S') (fun G => gN v (T G)) := by cases v with | non => exact r | _ => exact rep_true
theorem rep_some {α : Type} {o : Option α} {S S' : α -> Prop} {T : α -> Prop -> Prop} (r : ∀ x, Rep (S x) (S' x) (T x)) : Rep (some? o S) (some? o S') (fun G => ∀ x, o = some x -> T x G) := ⟨fun G h x e => (r x).1 G fun s => h (by rw [e]; exact s), fun G t s => (some_ex s).elim fun x s => (r x).2 G (t x s.1) s.2⟩
theorem rep_get {α : Type} {o : Option α} {S S' : α -> Prop} {T : α -> Prop -> Prop} (r : ∀ x, Rep (S x) (S' x) (T x)) : Rep (some? o S) (some? o S') (fun G => gG o fun x => T x G) := by cases o with | some x => exact r x | none => exact rep_true
theorem rep_inst {o : Option MO} {S S' : Addr -> Addr -> List (Nat × MV) -> Prop} {T : Addr -> Addr -> List (Nat × MV) -> Prop -> Prop} (r : ∀ x y z, Rep (S x y z) (S' x y z) (T x y z)) : Rep (inst? o S) (inst? o S') (fun G => ∀ x y z, o = some (.inst x y z) -> T x y z G) :=
 ⟨fun G h x y z e => (r x y z).1 G fun s => h (by rw [e]; exact s), fun G t s => by obtain ⟨x, y, z, e, s⟩ := inst_ex s; exact (r x y z).2 G (t x y z e) s⟩
theorem rep_lst {o : Option MO} {S S' : List MV -> Prop} {T : List MV -> Prop -> Prop} (r : ∀ x, Rep (S x) (S' x) (T x)) : Rep (list? o S) (list? o S') (fun G => ∀ x, o = some (.list x) -> T x G) := ⟨fun G h x e => (r x).1 G fun s => h (by rw [e]; exact s), fun G t s => (list_ex s).elim fun x s => (r x).2 G (t x s.1) s.2⟩
theorem rep_tup {o : Option MO} {S S' : List MV -> Prop} {T : List MV -> Prop -> Prop} (r : ∀ x, Rep (S x) (S' x) (T x)) : Rep (tup? o S) (tup? o S') (fun G => ∀ x, o = some (.tuple x) -> T x G) := ⟨fun G h x e => (r x).1 G fun s => h (by rw [e]; exact s), fun G t s => (tup_ex s).elim fun x s => (r x).2 G (t x s.1) s.2⟩
theorem rep_barr {o : Option MO} {S S' : List UInt8 -> Prop} {T : List UInt8 -> Prop -> Prop} (r : ∀ x, Rep (S x) (S' x) (T x)) : Rep (barr? o S) (barr? o S') (fun G => ∀ x, o = some (.barr x) -> T x G) := ⟨fun G h x e => (r x).1 G fun s => h (by rw [e]; exact s), fun G t s => (barr_ex s).elim fun x s => (r x).2 G (t x s.1) s.2⟩
theorem rep_iset {o : Option MO} {S S' : List Int -> Prop} {T : List Int -> Prop -> Prop} (r : ∀ x, Rep (S x) (S' x) (T x)) : Rep (iset? o S) (iset? o S') (fun G => ∀ x, o = some (.iset x) -> T x G) := ⟨fun G h x e => (r x).1 G fun s => h (by rw [e]; exact s), fun G t s => (iset_ex s).elim fun x s => (r x).2 G (t x s.1) s.2⟩
theorem rep_isB {a b a' b' : Prop} (f : a' -> a) (g : b' -> b) : Rep (isB v a b) (isB v a' b') (fun G => gB v fun q => (q = true -> a') -> (q = false -> b') -> G) := rep_bool fun q => ⟨fun G h x y => h ⟨fun e => f (x e), fun e => g (y e)⟩, fun G t s => t s.1 s.2⟩
theorem rep_nj (r : Rep S S' T) : Rep (njG v S) (njG v S') (fun G => gJ v (T G)) := by cases v <;> first | exact rep_true | exact r
theorem rep_ex' (r : Rep S S' T) : Rep (exG v S) (exG v S') (fun G => gX v (T G)) := by cases v <;> first | exact rep_true | exact r
theorem rep_ii {a b : MV} {S S' : Int -> Int -> Prop} {T : Int -> Int -> Prop -> Prop} (r : ∀ x y, Rep (S x y) (S' x y) (T x y)) : Rep (ii a b S) (ii a b S') (fun G => gI a fun x => gI b fun y => T x y G) := rep_int fun x => rep_int fun y => r x y
end
noncomputable def g1 (vs : List MV) (k : MV -> Prop) : Prop := match vs with | [] => True | v :: l => match l with | [] => k v | _ :: _ => True
noncomputable def g0 (vs : List MV) (p : Prop) : Prop := match vs with | [] => p | _ :: _ => True
noncomputable abbrev KK := MV -> HH -> Prop -> Prop
noncomputable def cSeq (H : HH) (o : MO) (K : KK) (G : Prop) : Prop := (∀ c, H c = none -> All (K (.ref c) (upd H c o))) -> G
noncomputable def PK (P P' : QE) (K : KK) : Prop := ∀ v H, Rep (P v H) (P' v H) (K v H)
theorem rep_seq {H : HH} {o : MO} {P P' : QE} {K : KK} (r : PK P P' K) : Rep (mkSeq H o P) (mkSeq H o P') (cSeq H o K) := ⟨fun G h s => h fun c n => (r _ _).get (s c n), fun G t s => t fun c n G' k => (r _ _).2 G' k (s c n)⟩
theorem rep_one {vs : List MV} {S S' : MV -> Prop} {T : MV -> Prop -> Prop} (r : ∀ x, Rep (S x) (S' x) (T x)) : Rep (one? vs S) (one? vs S') (fun G => g1 vs fun v => T v G) := by
 cases vs with
 | nil => exact rep_true
 | cons v l => cases l with | nil => exact r v | cons _ _ => exact rep_true
theorem rep_zero {vs : List MV} {S S' : Prop} {T : Prop -> Prop} (r : Rep S S' T) : Rep (zero? vs S) (zero? vs S') (fun G => g0 vs (T G)) := by
 cases vs with | nil => exact r | cons _ _ => exact rep_true
noncomputable def kBin (op : Operator) (a b : MV) (H : HH) (K : KK) (G : Prop) : Prop :=
 match op with
 | .Add => (match a with
  | .ref p => gR b fun q => ∀ xs, H p = some (.list xs) -> ∀ ys, H q = some (.list ys) -> xs.length + ys.length <= 1000 -> cSeq H (.list (xs ++ ys)) K G
  | a => gI a fun x => gI b fun y => K (.int (x + y)) H G)
 | .Sub => gI a fun x => gI b fun y => K (.int (x - y)) H G
 | .Mult => (match a with
  | .ref p => gI b fun n => ∀ xs, H p = some (.list xs) -> g1 xs fun x => 0 <= n -> n <= 1000 -> cSeq H (.list (List.replicate n.toNat x)) K G
  | a => gI a fun x => gI b fun y => (small x \/ small y) -> K (.int (x * y)) H G)
 | .FloorDiv => gI a fun x => gI b fun y => 0 < y -> y < 2 ^ 62 -> K (.int (x / y)) H G
 | .Mod => gI a fun x => gI b fun y => 0 < y -> K (.int (x % y)) H G
 | .Pow => gI a fun x => gI b fun y => (x = 2 \/ x = 10) -> 0 <= y -> y <= 64 -> K (.int (x ^ y.toNat)) H G
 | .LShift => gI a fun x => gI b fun y => 0 <= y -> y <= 64 -> small x -> K (.int (x * 2 ^ y.toNat)) H G
 | .RShift => gI a fun x => gI b fun y => 0 <= y -> K (.int (x / 2 ^ y.toNat)) H G
 | .BitAnd => gI a fun x => gI b fun y => 0 <= x -> 0 <= y -> K (.int ((x.toNat &&& y.toNat : Nat) : Int)) H G
 | .BitOr => gI a fun x => gI b fun y => 0 <= x -> 0 <= y -> K (.int ((x.toNat ||| y.toNat : Nat) : Int)) H G
 | _ => True
theorem rBin {op : Operator} {a b : MV} {H : HH} {P P' : QE} {K : KK} (r : PK P P' K) : Rep (opB op a b H P) (opB op a b H P') (kBin op a b H K) := by
 cases op with
 | Add =>
  cases a with
  | ref p => exact rep_ref fun q => rep_lst fun xs => rep_lst fun ys => rep_and (rep_seq r)
  | int x => exact rep_int fun y => r _ _
  | _ => exact rep_true
 | Mult =>
  cases a with
  | ref p => exact rep_int fun q => rep_lst fun xs => rep_one fun ys => rep_and (rep_and (rep_seq r))
  | int x => exact rep_int fun y => rep_and (r _ _)
  | _ => exact rep_true
 | Sub => exact rep_ii fun x y => r _ _
 | FloorDiv => exact rep_ii fun x y => rep_and (rep_and (r _ _))
 | Mod => exact rep_ii fun x y => rep_and (r _ _)
 | Pow => exact rep_ii fun x y => rep_and (rep_and (rep_and (r _ _)))
 | LShift => exact rep_ii fun x y => rep_and (rep_and (rep_and (r _ _)))
 | RShift => exact rep_ii fun x y => rep_and (r _ _)
 | BitAnd => exact rep_ii fun x y => rep_and (rep_and (r _ _))
 | BitOr => exact rep_ii fun x y => rep_and (rep_and (r _ _))
 | _ => exact rep_true
noncomputable def kEq (a b : MV) (H : HH) (K : Bool -> Prop -> Prop) (G : Prop) : Prop :=
 match a with
 | .int x => gI b fun y => K (decide (x = y)) G
 | .str x => gS b fun y => K (decide (x = y)) G
 | .ref p => gR b fun q => eqV (.ref p) (.ref q) H (fun r => All (K r)) -> G
 | _ => True
theorem eq_refs {p q : Addr} {H : HH} {P P' : Bool -> Prop} (f : ∀ v, P v -> P' v) (h : eqV (.ref p) (.ref q) H P) : eqV (.ref p) (.ref q) H P' := by
 rcases h with ⟨x, y, h1, h2, h3⟩ | ⟨x, y, u, v, h1, h2, h3, h4, h5, h6, h7⟩
 ·exact .inl ⟨x, y, h1, h2, f _ h3⟩
 ·exact .inr ⟨x, y, u, v, h1, h2, h3, h4, h5, h6, f _ h7⟩
theorem rEq {a b : MV} {H : HH} {P P' : Bool -> Prop} {K : Bool -> Prop -> Prop} (r : ∀ v, Rep (P v) (P' v) (K v)) : Rep (eqV a b H P) (eqV a b H P') (kEq a b H K) := by
 cases a with
 | int x => exact rep_int fun y => r _
 | str x => exact rep_st fun y => r _
 | ref p => exact rep_ref fun q => ⟨fun G h s => h (eq_refs (fun r' => (r r').get) s), fun G t s => t (eq_refs (fun r' s G' k => (r r').2 G' k s) s)⟩
 | _ => exact rep_true
noncomputable def kCmp (op : CmpOp) (a b : MV) (H : HH) (K : KK) (G : Prop) : Prop :=
 match op with
 | .Lt => gI a fun x => gI b fun y => K (.bool (decide (x < y))) H G
 | .LtE => gI a fun x => gI b fun y => K (.bool (decide (x <= y))) H G
 | .Gt => gI a fun x => gI b fun y => K (.bool (decide (y < x))) H G
 | .GtE => gI a fun x => gI b fun y => K (.bool (decide (y <= x))) H G
 | .Eq => kEq a b H (fun r => K (.bool r) H) G
 | .NotEq => kEq a b H (fun r => K (.bool (!r)) H) G
 | .Is => gN b (gJ a (K (.bool (isNon a)) H G))
 | .In => (match a with
  | .str c => gS b fun s => ∀ k, c.cps.toList = [k] -> K (.bool (decide (k ∈ s.cps.toList))) H G
  | a => gI a fun x => gR b fun p => ∀ xs, H p = some (.iset xs) -> xs.length <= 1000 -> K (.bool (decide (x ∈ xs))) H G)
 | _ => True
theorem rCmp {op : CmpOp} {a b : MV} {H : HH} {P P' : QE} {K : KK} (r : PK P P' K) : Rep (opC op a b H P) (opC op a b H P') (kCmp op a b H K) := by
 cases op with
 | Lt => exact rep_ii fun x y => r _ _
 | LtE => exact rep_ii fun x y => r _ _
 | Gt => exact rep_ii fun x y => r _ _
 | GtE => exact rep_ii fun x y => r _ _
 | Eq => exact rEq (P := fun q => P (.bool q) H) (P' := fun q => P' (.bool q) H) (K := fun q => K (.bool q) H) fun v => r _ _
 | NotEq => exact rEq (P := fun q => P (.bool (!q)) H) (P' := fun q => P' (.bool (!q)) H) (K := fun q => K (.bool (!q)) H) fun v => r _ _
 | Is => exact rep_non (rep_nj (r _ _))
 | In =>
  cases a with
  | str c => exact rep_st fun s => rep_ex fun k => rep_and (r _ _)
  | int x => exact rep_ref fun p => rep_iset fun xs => rep_and (r _ _)
  | _ => exact rep_true
 | _ => exact rep_true
noncomputable def kLen (v : MV) (H : HH) (K : KK) (G : Prop) : Prop :=
 match v with
 | .ref a => ∀ o, H a = some o -> gG (seqOf o) fun xs => xs.length <= 1000000 -> K (.int xs.length) H G
 | .bytes x => x.length <= 1000000 -> K (.int x.length) H G
 | .str s => s.cps.toList.length <= 1000000 -> K (.int s.cps.toList.length) H G
 | _ => True
theorem rLen {v : MV} {H : HH} {P P' : QE} {K : KK} (r : PK P P' K) : Rep (lenV v H P) (lenV v H P') (kLen v H K) := by
 cases v with
 | ref a => exact rep_some fun o => rep_get fun xs => rep_and (r _ _)
 | bytes x => exact rep_and (r _ _)
 | str s => exact rep_and (r _ _)
 | _ => exact rep_true
noncomputable def kInt (vs : List MV) (H : HH) (K : KK) (G : Prop) : Prop :=
 match vs with
 | [] => True
 | v :: r => match r with
  | [] => (match v with
   | .bool x => K (.int (if x then 1 else 0)) H G
   | v => gI v fun x => K (.int x) H G)
  | w :: r => g0 r (gS v fun s => gI w fun x => x = 2 -> s.cps.toList ≠ [] -> s.cps.toList.length <= 600 -> (∀ c ∈ s.cps.toList, c = 48 \/ c = 49) -> K (.int (binV s.cps.toList)) H G)
theorem rInt {vs : List MV} {H : HH} {P P' : QE} {K : KK} (r : PK P P' K) : Rep (intV vs H P) (intV vs H P') (kInt vs H K) := by
 cases vs with
 | nil => exact rep_true
 | cons v l => cases l with
  | nil => cases v with
   | bool x => exact r _ _
   | int x => exact r _ _
   | _ => exact rep_true
  | cons w l => exact rep_zero (rep_st fun s => rep_int fun x => rep_and (rep_and (rep_and (rep_and (r _ _)))))
noncomputable def kMin (vs : List MV) (H : HH) (K : KK) (G : Prop) : Prop :=
 match vs with
 | [] => True
 | v :: r => match r with
  | [] => gR v fun a => ∀ xs, H a = some (.list (mvi xs)) -> xs ≠ [] -> xs.length <= 100 -> (∀ m, m ∈ xs -> (∀ y ∈ xs, m <= y) -> All (K (.int m) H)) -> G
  | w :: r => g0 r (gI v fun x => gI w fun y => K (.int (if y < x then y else x)) H G)
theorem rMin {vs : List MV} {H : HH} {P P' : QE} {K : KK} (r : PK P P' K) : Rep (minV vs H P) (minV vs H P') (kMin vs H K) := by
 cases vs with
 | nil => exact rep_true
 | cons v l => cases l with
  | nil => exact rep_ref fun a => rep_ex fun xs => rep_and (rep_and (rep_and ⟨fun G h s => h fun m h1 h2 => (r _ _).get (s m h1 h2), fun G t s => t fun m h1 h2 G' k => (r _ _).2 G' k (s m h1 h2)⟩))
  | cons w l => exact rep_zero (rep_ii fun x y => r _ _)
noncomputable def kLst1 (vs : List MV) (H : HH) (k : List MV -> Prop) : Prop := g1 vs fun v => gR v fun a => ∀ xs, H a = some (.list xs) -> k xs
noncomputable def kBi (b : BI) (vs : List MV) (H : HH) (K : KK) (G : Prop) : Prop :=
 match b with
 | .len => g1 vs fun v => kLen v H K G
 | .abs => g1 vs fun v => gI v fun x => K (.int (if x < 0 then -x else x)) H G
 | .int => kInt vs H K G
 | .min => kMin vs H K G
 | .sum => g1 vs fun v => gR v fun a => ∀ xs, H a = some (.list (mvi xs)) -> xs.length <= 100 -> K (.int xs.sum) H G
 | .str => g1 vs fun v => gI v fun x => 0 <= x -> x <= 9 -> K (.str ⟨#[48 + x.toNat]⟩) H G
 | .list => kLst1 vs H fun xs => xs.length <= 1000 -> cSeq H (.list xs) K G
 | .tuple => kLst1 vs H fun xs => xs.length <= 1000 -> cSeq H (.tuple xs) K G
 | .set => g0 vs (cSeq H (.iset []) K G)
 | .bytes => g1 vs fun v => gR v fun a => ∀ x, H a = some (.barr x) -> x.length <= 1000000 -> K (.bytes x) H G
 | .bytearray => g0 vs (cSeq H (.barr []) K G)
theorem rBi {b : BI} {vs : List MV} {H : HH} {P P' : QE} {K : KK} (r : PK P P' K) : Rep (bcall b vs H P) (bcall b vs H P') (kBi b vs H K) := by
 cases b with
 | len => exact rep_one fun v => rLen r
 | abs => exact rep_one fun v => rep_int fun x => r _ _
 | int => exact rInt r
 | min => exact rMin r
 | sum => exact rep_one fun v => rep_ref fun a => rep_ex fun xs => rep_and (rep_and (r _ _))
 | str => exact rep_one fun v => rep_int fun x => rep_and (rep_and (r _ _))
 | list => exact rep_one fun v => rep_ref fun a => rep_lst fun xs => rep_and (rep_seq r)
 | tuple => exact rep_one fun v => rep_ref fun a => rep_lst fun xs => rep_and (rep_seq r)
 | set => exact rep_zero (rep_seq r)
 | bytes => exact rep_one fun v => rep_ref fun a => rep_barr fun x => rep_and (r _ _)
 | bytearray => exact rep_zero (rep_seq r)
noncomputable def bkN : BK -> Nat
 | .lapp => 0 | .bapp => 1 | .add => 2 | .get => 3 | .join => 4 | .index => 5 | .bitlen => 6
noncomputable def bkOf : Nat -> BK
 | 0 => .lapp | 1 => .bapp | 2 => .add | 3 => .get | 4 => .join | 5 => .index | _ => .bitlen
theorem bkOf_N (b : BK) : bkOf (bkN b) = b := by cases b <;> rfl
noncomputable def kGet (m : BM) (v : MV) (H : HH) (k : BK -> Prop -> Prop) (G : Prop) : Prop :=
 match m with
 | .append => gR v fun a => ∀ o, H a = some o -> match o with | .list _ => k .lapp G | .barr _ => k .bapp G | _ => True
 | .add => gR v fun a => ∀ x, H a = some (.iset x) -> k .add G
 | .get => gR v fun a => ∀ x, H a = some (.idict x) -> k .get G
 | .join => gS v fun _ => k .join G
 | .index => gR v fun a => ∀ x, H a = some (.list x) -> k .index G
 | .bitlen => gI v fun _ => k .bitlen G
theorem rGet {m : BM} {v : MV} {H : HH} {S S' : BK -> Prop} {T : BK -> Prop -> Prop} (r : ∀ b, Rep (S b) (S' b) (T b)) : Rep (bmOk m v H S) (bmOk m v H S') (kGet m v H T) := by
  cases m with
  | append => exact rep_ref fun a => rep_some fun o => by cases o with | list x => exact r _ | barr x => exact r _ | _ => exact rep_true
  | add => exact rep_ref fun a => rep_iset fun x => r _
  | get => exact rep_ref fun a => ⟨fun G h x e => (r _).1 G fun s => h (by rw [e]; exact s), fun G t s => by
      obtain ⟨o, e, s⟩ := some_ex s
      cases o with | idict x => exact (r _).2 G (t x e) s | _ => exact s.elim⟩
  | join => exact rep_st fun _ => r _
  | index => exact rep_ref fun a => rep_lst fun x => r _
  | bitlen => exact rep_int fun _ => r _
noncomputable def kBm (m : BK) (v : MV) (vs : List MV) (H : HH) (K : KK) (G : Prop) : Prop :=
 match m with
 | .lapp => gR v fun a => g1 vs fun x => ∀ xs, H a = some (.list xs) -> xs.length <= 100000 -> K .non (upd H a (.list (xs ++ [x]))) G
 | .bapp => gR v fun a => g1 vs fun x => gI x fun i => ∀ y, H a = some (.barr y) -> 0 <= i -> i < 256 -> y.length <= 100000 -> K .non (upd H a (.barr (y ++ [i.toNat.toUInt8]))) G
 | .add => gR v fun a => g1 vs fun x => gI x fun i => ∀ xs, H a = some (.iset xs) -> xs.length <= 1000 -> i ∉ xs -> K .non (upd H a (.iset (xs ++ [i]))) G
 | .get => gR v fun a => g1 vs fun x => gI x fun i => ∀ es u, H a = some (.idict es) -> getI i es = some u -> K u H G
 | .join => gS v fun s => g1 vs fun x => gR x fun a => ∀ xs, H a = some (.list xs) -> ∀ ss, s.cps.toList = [] -> strsOf xs = some ss -> xs.length <= 100000 -> (∀ x ∈ ss, x.cps.size = 1) -> K (.str ⟨(ss.flatMap fun x => x.cps.toList).toArray⟩) H G
 | .index => gR v fun a => g1 vs fun x => gI x fun i => ∀ xs n, H a = some (.list (mvi xs)) -> xs.length <= 1000 -> xs.idxOf? i = some n -> K (.int n) H G
 | .bitlen => gI v fun x => g0 vs (0 <= x -> K (.int (if x = 0 then 0 else (x.toNat.log2 + 1 : Nat))) H G)
theorem rBm {m : BK} {v : MV} {vs : List MV} {H : HH} {P P' : QE} {K : KK} (r : PK P P' K) : Rep (bmCall m v vs H P) (bmCall m v vs H P') (kBm m v vs H K) := by
 cases m with
 | lapp => exact rep_ref fun a => rep_one fun x => rep_lst fun xs => rep_and (r _ _)
 | bapp => exact rep_ref fun a => rep_one fun x => rep_int fun i => rep_barr fun y => rep_and (rep_and (rep_and (r _ _)))
 | add => exact rep_ref fun a => rep_one fun x => rep_int fun i => rep_iset fun y => rep_and (rep_and (r _ _))
 | get => exact rep_ref fun a => rep_one fun x => rep_int fun i => rep_ex fun es => rep_ex fun u => rep_and (rep_and (r _ _))
 | join => exact rep_st fun s => rep_one fun x => rep_ref fun a => rep_lst fun xs => rep_ex fun ss => rep_and (rep_and (rep_and (rep_and (r _ _))))
 | index => exact rep_ref fun a => rep_one fun x => rep_int fun i => rep_ex fun es => rep_ex fun u => rep_and (rep_and (rep_and (r _ _)))
 | bitlen => exact rep_int fun x => rep_zero (rep_and (r _ _))
noncomputable def kSub (o i : MV) (H : HH) (K : KK) (G : Prop) : Prop :=
 match o with
 | .bytes b => gI i fun k => b.length <= 1000000 -> 0 <= k -> k < 2 ^ 62 -> ∀ v, b[k.toNat]? = some v -> K (.int v.toNat) H G
 | o => gR o fun a => match i with
  | .int k => ∀ ob, H a = some ob -> gG (seqOf ob) fun xs => 0 <= k -> k < 2 ^ 62 -> ∀ v, xs[k.toNat]? = some v -> K v H G
  | i => gR i fun k => ∀ ks v, H a = some (.tdict ks v) -> H k = some (.tuple (mvi ks)) -> ks.length = 2 -> K v H G
theorem rSub {o i : MV} {H : HH} {P P' : QE} {K : KK} (r : PK P P' K) : Rep (opSub o i H P) (opSub o i H P') (kSub o i H K) := by
 cases o with
 | bytes b => exact rep_int fun k => rep_and (rep_and (rep_and (rep_some fun v => r _ _)))
 | ref a => cases i with
  | int k => exact rep_some fun ob => rep_get fun xs => rep_and (rep_and (rep_some fun v => r _ _))
  | ref k => exact rep_ex fun ks => rep_ex fun v => rep_and (rep_and (rep_and (r _ _)))
  | _ => exact rep_true
 | _ => exact rep_true
noncomputable def kSlc (o lo hi : MV) (H : HH) (K : KK) (G : Prop) : Prop :=
 match o with
 | .ref a => (match lo with
  | .int k => gN hi (0 <= k -> k < 2 ^ 62 -> ∀ xs, H a = some (.list xs) -> xs.length <= 100000 -> cSeq H (.list (xs.drop k.toNat)) K G)
  | lo => gN lo (gI hi fun k => 0 <= k -> k < 2 ^ 62 -> ∀ xs, (H a = some (.list xs) \/ H a = some (.ro xs)) -> xs.length <= 100000 -> cSeq H (.list (xs.take k.toNat)) K G))
 | .bytes b => gN lo (gI hi fun k => k = -1 -> b.length <= 100000 -> K (.bytes (b.take (b.length - 1))) H G)
 | o => gS o fun s => gI lo fun k => match hi with
  | .int j => 0 <= k -> k <= j -> j < 2 ^ 62 -> s.cps.toList.length <= 1000000 -> K (.str ⟨((s.cps.toList.take j.toNat).drop k.toNat).toArray⟩) H G
  | hi => gN hi (0 <= k -> k < 2 ^ 62 -> s.cps.toList.length <= 1000000 -> K (.str ⟨(s.cps.toList.drop k.toNat).toArray⟩) H G)
theorem rSlc {o lo hi : MV} {H : HH} {P P' : QE} {K : KK} (r : PK P P' K) : Rep (opSlc o lo hi H P) (opSlc o lo hi H P') (kSlc o lo hi H K) := by
 cases o with
 | ref a => cases lo with
  | int k => exact rep_non (rep_and (rep_and (rep_lst fun xs => rep_and (rep_seq r))))
  | non => exact rep_int fun k => rep_and (rep_and (rep_ex fun xs => rep_and (rep_and (rep_seq r))))
  | _ => exact rep_true
 | bytes b => exact rep_non (rep_int fun k => rep_and (rep_and (r _ _)))
 | str s =>
  refine rep_int fun k => ?_
  cases hi with
  | int j => exact rep_and (rep_and (rep_and (rep_and (r _ _))))
  | non => exact rep_and (rep_and (rep_and (r _ _)))
  | _ => exact rep_true
 | _ => exact rep_true
noncomputable def kIter (i : IK) (stk : List MV) (H : HH) (k : ItS -> List MV -> Prop -> Prop) (G : Prop) : Prop :=
 match i with
 | .ex => p1 stk fun v r => match v with
  | .bytes b => k (.bytes b) r G
  | v => gR v fun a => ∀ o, H a = some o -> match o with | .list _ => k (.list a 0) r G | .tuple xs => k (.tuple xs) r G | _ => True
 | .up => p1 stk fun b r => p1 r fun a r => gI a fun x => gI b fun y => small x -> small y -> k (.up x (y - x).toNat) r G
 | .down => p1 stk fun b r => p1 r fun a r => gI a fun x => gI b fun y => small x -> small y -> k (.down x (x - y).toNat) r G
end
section
open PyProof.Rows
noncomputable def loopQ (k : FF -> HH -> Prop -> Prop) (Q : QM) : QS := fun fl F H => match fl with | .next => All (k F H) | .ret v => Q (.ret v) F H
noncomputable def tryQ (Q : QM) (C1 : Addr) (s1 : Str) (C2 : Addr) (s2 : Str) (F : FF) : QX := fun C H => (C = C1 /\ Q (.ret (.str s1)) F H) \/ (C = C2 /\ Q (.ret (.str s2)) F H)
noncomputable def njN (vs : List MV) : Bool := match vs with | [] => true | v :: r => (match v with | .junk => false | _ => njN r)
noncomputable def setN : List Nat -> List MV -> FF -> FF
 | i :: is, v :: vs, F => setN is vs (setB F i v)
 | _, _, F => F
noncomputable def lenN : List Nat -> FF -> Bool
 | [], _ => true
 | i :: is, F => lenB F i && lenN is F
noncomputable def lenE : List MV -> List Nat -> Bool
 | [], [] => true
 | _ :: vs, _ :: is => lenE vs is
 | _, _ => false
noncomputable def M (c : Cx) (d : Nat) (ns : NS) : C -> List MV -> FF -> HH -> QM -> QX -> Prop -> Prop
  | .fin, _, F, H, Q, _, G => Q .next F H -> G
  | .stop, _, F, H, Q, _, G => Q .exit F H -> G
  | .ret, stk, F, H, Q, _, G => p1 stk fun v _ => Q (.ret v) F H -> G
  | .dead, _, _, _, _, _, _ => True
  | .rais C, _, _, H, _, X, G => X C H -> G
  | .psh v k, stk, F, H, Q, X, G => M c d ns k (v :: stk) F H Q X G
  | .loc i k, stk, F, H, Q, X, G => gG (getB F i) fun v => M c d ns k (v :: stk) F H Q X G
  | .bin op k, stk, F, H, Q, X, G => p1 stk fun b r => p1 r fun a r => kBin op a b H (fun v H' => M c d ns k (v :: r) F H' Q X) G
  | .neg k, stk, F, H, Q, X, G => p1 stk fun a r => gI a fun x => M c d ns k (.int (-x) :: r) F H Q X G
  | .not k, stk, F, H, Q, X, G => p1 stk fun a r => gB a fun x => M c d ns k (.bool (!x) :: r) F H Q X G
  | .cmp op k, stk, F, H, Q, X, G => p1 stk fun b r => p1 r fun a r => kCmp op a b H (fun v H' => M c d ns k (v :: r) F H' Q X) G
  | .cmpk op ka kb, stk, F, H, Q, X, G => p1 stk fun b r => p1 r fun a r => kCmp op a b H (fun v H' G => gB v fun q => (q = true -> All (M c d ns ka (b :: r) F H' Q X)) -> (q = false -> All (M c d ns kb (.bool false :: r) F H' Q X)) -> G) G
  | .br ka kb, stk, F, H, Q, X, G => p1 stk fun v r => gB v fun q => (q = true -> All (M c d ns ka r F H Q X)) -> (q = false -> All (M c d ns kb r F H Q X)) -> G
  | .attr f k, stk, F, H, Q, X, G => p1 stk fun a r => gR a fun p => ∀ C dd fs, H p = some (.inst C dd fs) -> gG (lookB f fs) fun v => gJ v (match mtab C f with | none => M c d ns k (v :: r) F H Q X G | some _ => True)
  | .sub k, stk, F, H, Q, X, G => p1 stk fun i r => p1 r fun o r => kSub o i H (fun v H' => M c d ns k (v :: r) F H' Q X) G
  | .slc k, stk, F, H, Q, X, G => p1 stk fun hi r => p1 r fun lo r => p1 r fun o r => kSlc o lo hi H (fun v H' => M c d ns k (v :: r) F H' Q X) G
  | .bi b n k, stk, F, H, Q, X, G => pn n stk [] fun vs r => kBi b vs H (fun v H' => M c d ns k (v :: r) F H' Q X) G
  | .fn f n k, stk, F, H, Q, X, G => pn n stk [] fun vs r => CallS c d true f vs H (fun v H' => All (M c d ns k (v :: r) F H' Q X)) X -> G
  | .new C n k, stk, F, H, Q, X, G => pn n stk [] fun vs r => gG (initOf C) fun g => (∀ a dd, H a = none -> H dd = none -> a ≠ dd -> CallS c d true g (.ref a :: vs) (upd H a (.inst C dd [])) (fun v H' => v = .non /\ All (M c d ns k (.ref a :: r) F H' Q X)) X) -> G
  | .mget f k, stk, F, H, Q, X, G => p1 stk fun a r => gR a fun p => ∀ C dd fs, H p = some (.inst C dd fs) -> gG (mtab C f) fun g => (match lookB f fs with | none => M c d ns k (.ref g :: .ref p :: r) F H Q X G | some _ => True)
  | .mcall n k, stk, F, H, Q, X, G => pn n stk [] fun vs r => p1 r fun g r => gR g fun g => p1 r fun o r => CallS c d true g (o :: vs) H (fun v H' => All (M c d ns k (v :: r) F H' Q X)) X -> G
  | .bget m k, stk, F, H, Q, X, G => p1 stk fun a r => kGet m a H (fun b => M c d ns k (.ref (bkN b) :: a :: r) F H Q X) G
  | .bcall m n k, stk, F, H, Q, X, G => pn n stk [] fun vs r => p1 r fun b r => gR b fun b => p1 r fun o r => kBm (bkOf b) o vs H (fun v H' => M c d ns k (v :: r) F H' Q X) G
  | .list n k, stk, F, H, Q, X, G => pn n stk [] fun vs r => cSeq H (.list vs) (fun v H' => M c d ns k (v :: r) F H' Q X) G
  | .tup n k, stk, F, H, Q, X, G => pn n stk [] fun vs r => cSeq H (.tuple vs) (fun v H' => M c d ns k (v :: r) F H' Q X) G
  | .dict k, stk, F, H, Q, X, G => p1 stk fun b r => p1 r fun a r => gR a fun p => ∀ ks, H p = some (.tuple ks) -> ks = mvi [1, 0] -> cSeq H (.tdict [1, 0] b) (fun v H' => M c d ns k (v :: r) F H' Q X) G
  | .edict k, stk, F, H, Q, X, G => cSeq H (.idict []) (fun v H' => M c d ns k (v :: stk) F H' Q X) G
  | .comp i elt v inner m k, stk, F, H, Q, X, G => kIter i stk H (fun st r G => (∀ a, H a = none -> CompS c d true elt v inner st a (mapB F m) (upd H a (.list [])) (fun _ H' => All (M c d ns k (.ref a :: r) F H' Q X)) X) -> G) G
  | .st i k, stk, F, H, Q, X, G => p1 stk fun v r => cond (lenB F i) (M c d ns k r (setB F i v) H Q X G) True
  | .stA f k, stk, F, H, Q, X, G => p1 stk fun a r => p1 r fun v r => gR a fun p => ∀ C dd fs, H p = some (.inst C dd fs) -> cond (Nat.ble fs.length 100) (M c d ns k r F (upd H p (.inst C dd (putB f v fs))) Q X G) True
  | .stS k, stk, F, H, Q, X, G => p1 stk fun i r => p1 r fun o r => p1 r fun v r => gR o fun p => gI i fun j => ∀ ob, H p = some ob -> match ob with
      | .list xs => 0 <= j -> j < 2 ^ 62 -> j.toNat < xs.length -> M c d ns k r F (upd H p (.list (xs.set j.toNat v))) Q X G
      | .idict es => getI j es = none -> es.length <= 1000 -> M c d ns k r F (upd H p (.idict (putI j v es))) Q X G
      | _ => True
  | .stL is k, stk, F, H, Q, X, G => p1 stk fun v r => gR v fun p => ∀ vs, H p = some (.tuple vs) -> cond (lenE vs is && lenN is F) (M c d ns k r (setN is vs F) H Q X G) True
  | .stM is n k, stk, F, H, Q, X, G => pn n stk [] fun vs r => cond (njN vs && (lenE vs is && lenN is F)) (M c d ns k r (setN is vs F) H Q X G) True
  | .pop k, stk, F, H, Q, X, G => p1 stk fun v r => gX v (M c d ns k r F H Q X G)
  | .nj k, stk, F, H, Q, X, G => p1 stk fun v r => gJ v (M c d ns k (v :: r) F H Q X G)
  | .whl e b k, stk, F, H, Q, X, G => WhlS c d true ns e b F H (loopQ (fun F' H' => M c d ns k stk F' H' Q X) Q) X -> G
  | .forr i t b k, stk, F, H, Q, X, G => kIter i stk H (fun st r G => ForS c d true ns t b st F H (loopQ (fun F' H' => M c d ns k r F' H' Q X) Q) X -> G) G
  | .tryx k C1 s1 C2 s2, stk, F, H, Q, X, G => All (M c d ns k stk F H Q (tryQ Q C1 s1 C2 s2 F)) -> G
section
variable {c : Cx} {d : Nat} {ns : NS}
theorem chu_end {p : Prop} : Chu (fun G => p -> G) := fun G h x => h fun G' f => f x
theorem chu_imp {p : Prop} {T : Prop -> Prop} (r : Chu T) : Chu (fun G => p -> T G) := fun G h x => r G fun w => h fun G' f => w G' (f x)
theorem chu_all {α : Sort _} {T : α -> Prop -> Prop} (r : ∀ x, Chu (T x)) : Chu (fun G => ∀ x, T x G) := fun G h x => r x G fun w => h fun G' f => w G' (f x)
theorem chu_true : Chu (fun _ => True) := fun _ _ => trivial
theorem chu_i {v : MV} {T : Int -> Prop -> Prop} (r : ∀ x, Chu (T x)) : Chu (fun G => gI v fun x => T x G) := by cases v with | int x => exact r x | _ => exact chu_true
theorem chu_r {v : MV} {T : Addr -> Prop -> Prop} (r : ∀ x, Chu (T x)) : Chu (fun G => gR v fun x => T x G) := by cases v with | ref x => exact r x | _ => exact chu_true
theorem chu_b {v : MV} {T : Bool -> Prop -> Prop} (r : ∀ x, Chu (T x)) : Chu (fun G => gB v fun x => T x G) := by cases v with | bool x => exact r x | _ => exact chu_true
theorem chu_g {α : Type} {o : Option α} {T : α -> Prop -> Prop} (r : ∀ x, Chu (T x)) : Chu (fun G => gG o fun x => T x G) := by cases o with | some x => exact r x | none => exact chu_true
theorem chu_p1 {l : List MV} {T : MV -> List MV -> Prop -> Prop} (r : ∀ x y, Chu (T x y)) : Chu (fun G => p1 l fun x y => T x y G) := by cases l with | cons x y => exact r x y | nil => exact chu_true
theorem chu_pn {T : List MV -> List MV -> Prop -> Prop} (r : ∀ x y, Chu (T x y)) : ∀ {n : Nat} {l acc : List MV}, Chu (fun G => pn n l acc fun x y => T x y G) := by
 intro n
 induction n with
 | zero => intro l acc; exact r acc l
 | succ n ih => intro l acc; cases l with | cons x y => exact ih | nil => exact chu_true
theorem chu_j {v : MV} {T : Prop -> Prop} (r : Chu T) : Chu (fun G => gJ v (T G)) := by cases v <;> first | exact chu_true | exact r
theorem chu_x {v : MV} {T : Prop -> Prop} (r : Chu T) : Chu (fun G => gX v (T G)) := by cases v <;> first | exact chu_true | exact r
theorem chu_c {b : Bool} {T : Prop -> Prop} (r : Chu T) : Chu (fun G => cond b (T G) True) := by cases b with | true => exact r | false => exact chu_true
theorem chu_iter {i : IK} {stk : List MV} {H : HH} {T : ItS -> List MV -> Prop -> Prop} (r : ∀ st x, Chu (T st x)) : Chu (fun G => kIter i stk H T G) := by
 cases i with
 | ex =>
  refine chu_p1 fun v l => ?_
  cases v with
  | bytes b => exact r _ _
  | ref a => exact chu_all fun o => chu_imp (by cases o with | list x => exact r _ _ | tuple x => exact r _ _ | _ => exact chu_true)
  | _ => exact chu_true
 | up => exact chu_p1 fun b l => chu_p1 fun a l => chu_i fun x => chu_i fun y => chu_imp (chu_imp (r _ _))
 | down => exact chu_p1 fun b l => chu_p1 fun a l => chu_i fun x => chu_i fun y => chu_imp (chu_imp (r _ _))
theorem chu_seq {H : HH} {o : MO} {K : KK} : Chu (cSeq H o K) := chu_end
theorem chu_w {a b : Prop} : Chu (fun G => a -> b -> G) := chu_imp chu_end
end
theorem XF.mapX {X X' : QX} (x : ∀ C H, X C H -> X' C H) {h0 : Heap} {e : Value} {s' : Shared} {H' : HH} (k : XF h0 X e s' H') : XF h0 X' e s' H' := Exists.imp (fun a k => Exists.imp (fun C k => ⟨k.1, k.2.1, x _ _ k.2.2⟩) k) k
theorem Noted.mapX {X X' : QX} (x : ∀ C H, X C H -> X' C H) {h0 : Heap} {env : Env} {e : Value} {s' : Shared} {H' : HH} (k : Noted h0 env X e s' H') : Noted h0 env X' e s' H' := Exists.imp (fun a k => Exists.imp (fun C k => Exists.imp (fun L k => ⟨k.1, k.2.1, k.2.2.1, x _ _ k.2.2.2⟩) k) k) k
theorem CallS.mono {c : Cx} {d : Nat} {P : Bool} {f : Addr} {vs : List MV} {H : HH} {Q Q' : QE} {X X' : QX} (q : ∀ v H, Q v H -> Q' v H) (x : ∀ C H, X C H -> X' C H) (h : CallS c d P f vs H Q X) : CallS c d P f vs H Q' X' := fun A s vals l h1 h2 h3 h4 h5 => codeG.mono (h A s vals l h1 h2 h3 h4 h5) fun r s' k => by
 cases r with
 | error e => exact k.imp fun H' k => ⟨k.1, XF.mapX x k.2⟩
 | ok fl => cases fl with
  | ret v => exact k.imp fun H' k => ⟨k.1, q _ _ k.2⟩
  | _ => exact k
theorem RSt.mono {c : Cx} {env : Env} {ns : NS} {s0 : Shared} {H0 : HH} {Q Q' : QS} {X : QX} (q : ∀ fl F H, Q fl F H -> Q' fl F H) {r : Result} {s' : Shared} (h : RSt c env ns s0 H0 Q X r s') : RSt c env ns s0 H0 Q' X r s' := by
 cases r with
 | error e => exact h
 | ok f => obtain ⟨H', g, fl, F', m, fr, z⟩ := h; exact ⟨H', g, fl, F', m, fr, q _ _ _ z⟩
theorem WhlS.mono {c : Cx} {d : Nat} {P : Bool} {ns : NS} {cm : Mine.E} {bm : B} {F : FF} {H : HH} {Q Q' : QS} {X : QX} (q : ∀ fl F H, Q fl F H -> Q' fl F H) (h : WhlS c d P ns cm bm F H Q X) : WhlS c d P ns cm bm F H Q' X :=
 fun A env s s0 H0 t b h1 h2 h3 h4 h5 => codeG.mono (h A env s s0 H0 t b h1 h2 h3 h4 h5) fun _ _ => RSt.mono q
theorem ForS.mono {c : Cx} {d : Nat} {P : Bool} {ns : NS} {t : T} {bm : B} {st : ItS} {F : FF} {H : HH} {Q Q' : QS} {X : QX} (q : ∀ fl F H, Q fl F H -> Q' fl F H) (h : ForS c d P ns t bm st F H Q X) : ForS c d P ns t bm st F H Q' X :=
 fun A env s s0 H0 t b it h1 h2 h3 h4 h5 h6 h7 => codeG.mono (h A env s s0 H0 t b it h1 h2 h3 h4 h5 h6 h7) fun _ _ => RSt.mono q
theorem CompS.mono {c : Cx} {d : Nat} {P : Bool} {elt : Mine.E} {v : Nat} {inner : Option (Nat × IT)} {st : ItS} {a : Addr} {F : FF} {H : HH} {Q Q' : FF -> HH -> Prop} {X X' : QX} (q : ∀ F H, Q F H -> Q' F H) (x : ∀ C H, X C H -> X' C H) (h : CompS c d P elt v inner st a F H Q X) : CompS c d P elt v inner st a F H Q' X' :=
 fun ns A env s s0 H0 re gens sc p depth it y q' it0 h1 h2 h3 h4 h5 h6 h7 h8 h9 h10 => codeG.mono (h ns A env s s0 H0 re gens sc p depth it y q' it0 h1 h2 h3 h4 h5 h6 h7 h8 h9 h10) fun r s' k => by
  cases r with
  | error e => exact k.imp fun H' k => ⟨k.1, Noted.mapX x k.2.1, k.2.2⟩
  | ok f => exact k.imp fun H' k => ⟨k.1, k.2.imp fun F' k => ⟨k.1, q _ _ k.2⟩⟩
theorem getB_eq : ∀ (F : FF) (i : Nat), getB F i = F.get i
 | [], _ => rfl
 | a :: _, 0 => by cases a <;> rfl
 | _ :: F, i + 1 => getB_eq F i
theorem mapB_eq (F : FF) : ∀ m, mapB F m = mapF F m
 | [] => rfl
 | none :: m => by
  show none :: mapB F m = none :: mapF F m
  rw [mapB_eq F m]
 | some i :: m => by
  show getB F i :: mapB F m = F.get i :: mapF F m
  rw [mapB_eq F m, getB_eq]
theorem lookB_eq (f : Nat) : ∀ fs, lookB f fs = lookF f fs
 | [] => rfl
 | (g, v) :: r => by
  show cond (g == f) (some v) (lookB f r) = if g = f then some v else lookF f r
  rw [lookB_eq f r]
  by_cases h : g = f
  ·rw [if_pos h, beq_iff_eq.mpr h]; rfl
  ·rw [if_neg h, beq_eq_false_iff_ne.mpr h]; rfl
theorem putB_eq (f : Nat) (v : MV) : ∀ fs, putB f v fs = putF f v fs
 | [] => rfl
 | (g, u) :: r => by
  show cond (g == f) ((g, v) :: r) ((g, u) :: putB f v r) = if g = f then (g, v) :: r else (g, u) :: putF f v r
  rw [putB_eq f v r]
  by_cases h : g = f
  ·rw [if_pos h, beq_iff_eq.mpr h]; rfl
  ·rw [if_neg h, beq_eq_false_iff_ne.mpr h]; rfl
section
variable {c : Cx} {d : Nat} {ns : NS} {Q : QM} {X : QX}
theorem M_chu : ∀ (k : C) {stk : List MV} {F : FF} {H : HH} {Q : QM} {X : QX}, Chu (M c d ns k stk F H Q X) := by
  intro k
  have pk : ∀ {k : C}, (∀ {stk : List MV} {F : FF} {H : HH} {Q : QM} {X : QX}, Chu (M c d ns k stk F H Q X)) -> ∀ {r F Q X}, PK (fun v H' => All (M c d ns k (v :: r) F H' Q X)) (fun v H' => All (M c d ns k (v :: r) F H' Q X)) (fun v H' => M c d ns k (v :: r) F H' Q X) := fun ih _ _ _ _ v H' => ih.rep id
  induction k with
  | fin => intros; exact chu_end
  | stop => intros; exact chu_end
  | ret => intros; exact chu_p1 fun _ _ => chu_end
  | dead => intros; exact chu_true
  | rais C => intros; exact chu_end
  | psh v k ih => intros; exact ih
  | loc i k ih => intros; exact chu_g fun v => ih
  | bin op k ih => intros; exact chu_p1 fun b r => chu_p1 fun a r => (rBin (pk ih)).chu
  | neg k ih => intros; exact chu_p1 fun a r => chu_i fun x => ih
  | not k ih => intros; exact chu_p1 fun a r => chu_b fun x => ih
  | cmp op k ih => intros; exact chu_p1 fun b r => chu_p1 fun a r => (rCmp (pk ih)).chu
  | cmpk op ka kb i1 i2 => intros; exact chu_p1 fun b r => chu_p1 fun a r => (rCmp fun v H' => Chu.rep (chu_b fun q => chu_w) id).chu
  | br ka kb i1 i2 => intros; exact chu_p1 fun v r => chu_b fun q => chu_w
  | attr f k ih => intros; exact chu_p1 fun a r => chu_r fun p => chu_all fun C => chu_all fun dd => chu_all fun fs => chu_imp (chu_g fun v => chu_j (by cases mtab C f with | none => exact ih | some _ => exact chu_true))
  | sub k ih => intros; exact chu_p1 fun b r => chu_p1 fun a r => (rSub (pk ih)).chu
  | slc k ih => intros; exact chu_p1 fun e r => chu_p1 fun b r => chu_p1 fun a r => (rSlc (pk ih)).chu
  | bi b n k ih => intros; exact chu_pn fun vs r => (rBi (pk ih)).chu
  | fn f n k ih => intros; exact chu_pn fun vs r => chu_end
  | new C n k ih => intros; exact chu_pn fun vs r => chu_g fun g => chu_end
  | mget f k ih => intros; exact chu_p1 fun a r => chu_r fun p => chu_all fun C => chu_all fun dd => chu_all fun fs => chu_imp (chu_g fun g => by cases lookB f fs with | none => exact ih | some _ => exact chu_true)
  | mcall n k ih => intros; exact chu_pn fun vs r => chu_p1 fun g r => chu_r fun g => chu_p1 fun o r => chu_end
  | bget m k ih => intros; exact chu_p1 fun a r => (rGet fun b => ih.rep id).chu
  | bcall m n k ih => intros; exact chu_pn fun vs r => chu_p1 fun b r => chu_r fun b => chu_p1 fun o r => (rBm (pk ih)).chu
  | list n k ih => intros; exact chu_pn fun vs r => chu_seq
  | tup n k ih => intros; exact chu_pn fun vs r => chu_seq
  | dict k ih => intros; exact chu_p1 fun b r => chu_p1 fun a r => chu_r fun p => chu_all fun ks => chu_imp (chu_imp chu_seq)
  | edict k ih => intros; exact chu_seq
  | comp i elt v inner m k ih => intros; exact chu_iter fun st r => chu_end
  | st i k ih => intros; exact chu_p1 fun v r => chu_c ih
  | stA f k ih => intros; exact chu_p1 fun a r => chu_p1 fun v r => chu_r fun p => chu_all fun C => chu_all fun dd => chu_all fun fs => chu_imp (chu_c ih)
  | stS k ih => intros; exact chu_p1 fun i r => chu_p1 fun o r => chu_p1 fun v r => chu_r fun p => chu_i fun j => chu_all fun ob => chu_imp (by
      cases ob with
      | list xs => exact chu_imp (chu_imp (chu_imp ih))
      | idict es => exact chu_imp (chu_imp ih)
      | _ => exact chu_true)
  | stL is k ih => intros; exact chu_p1 fun v r => chu_r fun p => chu_all fun vs => chu_imp (chu_c ih)
  | stM is n k ih => intros; exact chu_pn fun vs r => chu_c ih
  | pop k ih => intros; exact chu_p1 fun v r => chu_x ih
  | nj k ih => intros; exact chu_p1 fun v r => chu_j ih
  | whl e b k ih => intros; exact chu_end
  | forr i t b k ih => intros; exact chu_iter fun st r => chu_end
  | tryx k C1 s1 C2 s2 ih => intros; exact chu_end
end
end
section
open PyProof.Rows
theorem setB_eq : ∀ (F : FF) (i : Nat) (v : MV), setB F i v = F.put i v
 | [], _, _ => rfl
 | _ :: F, 0, v => rfl
 | a :: F, i + 1, v => congrArg (a :: ·) (setB_eq F i v)
theorem lenB_lt : ∀ (F : FF) (i : Nat), lenB F i = true -> i < F.length
 | [], _, h => Bool.noConfusion h
 | _ :: F, 0, _ => Nat.succ_pos _
 | _ :: F, i + 1, h => Nat.succ_lt_succ (lenB_lt F i h)
theorem setN_eq : ∀ (is : List Nat) (vs : List MV) (F : FF), setN is vs F = setLocs is vs F
 | [], _, _ => rfl
 | _ :: _, [], _ => rfl
 | i :: is, v :: vs, F => by
  show setN is vs (setB F i v) = setLocs is vs (F.put i v)
  rw [setN_eq, setB_eq]
theorem lenN_lt : ∀ (is : List Nat) (F : FF), lenN is F = true -> ∀ i ∈ is, i < F.length
 | [], _, _, _, h => nomatch h
 | i :: is, F, h, j, hj => by
  have h := Bool.and_eq_true_iff.mp h
  rcases List.mem_cons.mp hj with rfl | hj
  ·exact lenB_lt F _ h.1
  ·exact lenN_lt is F h.2 j hj
theorem lenE_eq : ∀ (vs : List MV) (is : List Nat), lenE vs is = true -> vs.length = is.length
 | [], [], _ => rfl
 | [], _ :: _, h => Bool.noConfusion h
 | _ :: _, [], h => Bool.noConfusion h
 | _ :: vs, _ :: is, h => congrArg (· + 1) (lenE_eq vs is h)
theorem njN_ok : ∀ (vs : List MV), njN vs = true -> MV.junk ∉ vs
 | [], _, h => nomatch h
 | v :: vs, h, m => by
  cases v with
  | junk => exact Bool.noConfusion h
  | _ =>
   rcases List.mem_cons.mp m with q | q
   ·exact MV.noConfusion q
   ·exact njN_ok vs h q
theorem pn_rev {K : List MV -> List MV -> Prop} : ∀ (l stk acc : List MV), pn l.length (l ++ stk) acc K = K (l.reverse ++ acc) stk
 | [], _, _ => rfl
 | v :: l, stk, acc => by
  show pn l.length (l ++ stk) (v :: acc) K = _
  rw [pn_rev l stk (v :: acc), List.reverse_cons, List.append_assoc]; rfl
theorem pn_get {T : List MV -> List MV -> Prop -> Prop} {vs stk : List MV} {n : Nat} (hl : vs.length = n) (w : All (fun G => pn n (vs.reverse ++ stk) [] fun a r => T a r G)) : All (T vs stk) := fun G t => by
 have e := pn_rev (K := fun a r => T a r G) vs.reverse stk []
 rw [List.reverse_reverse, List.append_nil, List.length_reverse, hl] at e
 exact w G (Eq.mpr e t)
theorem rep_c {b : Bool} {p S S' : Prop} {T : Prop -> Prop} (f : b = true -> p) (r : Rep S S' T) : Rep (p /\ S) (b = true /\ S') (fun G => cond b (T G) True) := by
 cases b with
 | true => exact ⟨fun G h => r.1 G fun s => h ⟨f rfl, s⟩, fun G t s => r.2 G t s.2⟩
 | false => exact ⟨fun G h => trivial, fun G t s => Bool.noConfusion s.1⟩
section
variable {c : Cx} {d : Nat} {ns : NS} {Q : QM} {X X' : QX}
noncomputable abbrev XI (X X' : QX) : Prop := ∀ C H, X C H -> X' C H
theorem mR {k : C} {stk : List MV} {F : FF} {H : HH} {S : Prop} (h : All (M c d ns k stk F H Q X) -> S) : Rep S (All (M c d ns k stk F H Q X)) (M c d ns k stk F H Q X) := Chu.rep (M_chu k) h
theorem mP {k : C} {stk : List MV} {F : FF} {P : QE} (h : ∀ v H', All (M c d ns k (v :: stk) F H' Q X) -> P v H') : PK P (fun v H' => All (M c d ns k (v :: stk) F H' Q X)) (fun v H' => M c d ns k (v :: stk) F H' Q X) := fun v H' => mR (h v H')
theorem iter_ex {v : MV} {stk : List MV} {H : HH} {S0 : ItS -> List MV -> Prop} {P : ItS -> Prop} (w : All (kIter .ex (v :: stk) H (fun st r G => S0 st r -> G))) (h : ∀ st, S0 st stk -> P st) : itStart v H P := by
 refine w _ ?_
 cases v with
 | bytes b => exact fun s => h _ s
 | ref a =>
  intro o e
  cases o with
  | list x => exact fun s => (by rw [e]; exact h _ s : some? (H a) _)
  | tuple x => exact fun s => (by rw [e]; exact h _ s : some? (H a) _)
  | _ => trivial
 | _ => trivial
noncomputable def IterC (c : Cx) (d : Nat) (ns : NS) (Q : QM) (X : QX) (k : IK -> C) (F : FF) (S0 : ItS -> List MV -> HH -> Prop) : Prop := ∀ i stk H, All (M c d ns (k i) stk F H Q X) -> All (kIter i stk H (fun st r G => S0 st r H -> G))
theorem attr_go {fs : List (Nat × MV)} {f : Nat} {o : Option Addr} {k : C} {r : List MV} {F : FF} {H : HH} {P : QE} (q : ∀ v H', All (M c d ns k (v :: r) F H' Q X) -> P v H') (w : All (fun G => gG (lookB f fs) fun v => gJ v (match o with | none => M c d ns k (v :: r) F H Q X G | some _ => True))) :
  some? (lookF f fs) fun v => v ≠ .junk /\ noneG o (P v H) := by
 rw [<- lookB_eq]
 cases h : lookB f fs with
 | none => rw [h] at w; exact w _ trivial
 | some v =>
  rw [h] at w
  cases o with
  | some _ => exact w _ (by cases v <;> trivial)
  | none => cases v with
   | junk => exact w _ trivial
   | _ => exact ⟨fun e => MV.noConfusion e, q _ _ w⟩
theorem meth_go {fs : List (Nat × MV)} {f : Nat} {T : Prop -> Prop} {P : Prop} (q : All T -> P) (w : All (fun G => (match lookB f fs with | none => T G | some _ => True))) : noneG (lookF f fs) P := by
 rw [<- lookB_eq]
 cases h : lookB f fs with
 | none => rw [h] at w; exact q w
 | some v => rw [h] at w; exact w _ trivial
theorem cmpk_go {op : CmpOp} {ka kb : C} {x y : MV} {stk : List MV} {F : FF} {H : HH} {A B : HH -> Prop} (w : All (M c d ns (.cmpk op ka kb) (y :: x :: stk) F H Q X)) (ha : ∀ H', All (M c d ns ka (y :: stk) F H' Q X) -> A H') (hb : ∀ H', All (M c d ns kb (.bool false :: stk) F H' Q X) -> B H') :
  opC op x y H (fun t H' => isB t (A H') (B H')) :=
 (rCmp (P := fun t H' => isB t (A H') (B H')) (P' := fun v H' => isB v (All (M c d ns ka (y :: stk) F H' Q X)) (All (M c d ns kb (.bool false :: stk) F H' Q X))) (K := fun v H' G => gB v fun q => (q = true -> All (M c d ns ka (y :: stk) F H' Q X)) -> (q = false -> All (M c d ns kb (.bool false :: stk) F H' Q X)) -> G) fun v H' => rep_isB (v := v) (ha H') (hb H')).get w
theorem new_go {C : Addr} {vs : List MV} {H : HH} {P : Addr -> HH -> Prop} {P' : Addr -> HH -> Prop} (hX : XI X X') (w : All (fun G => gG (initOf C) fun g => (∀ a dd, H a = none -> H dd = none -> a ≠ dd -> CallS c d true g (.ref a :: vs) (upd H a (.inst C dd [])) (fun v H' => v = .non /\ P a H') X) -> G)) (h : ∀ a H', P a H' -> P' a H') :
  some? (initOf C) fun g => ∀ a dd, H a = none -> H dd = none -> a ≠ dd -> CallS c d true g (.ref a :: vs) (upd H a (.inst C dd [])) (fun v H' => v = .non /\ P' a H') X' := by
 cases e : initOf C with
 | none => rw [e] at w; exact w _ trivial
 | some g => rw [e] at w; exact fun a dd n1 n2 n3 => CallS.mono (fun v H2 k => ⟨k.1, h _ _ k.2⟩) hX (w _ id a dd n1 n2 n3)
theorem mget_go {f : Nat} {k : C} {a : MV} {stk : List MV} {F : FF} {H : HH} {P : Addr -> Addr -> Prop} (w : All (M c d ns (.mget f k) (a :: stk) F H Q X)) (h : ∀ p g, All (M c d ns k (.ref g :: .ref p :: stk) F H Q X) -> P p g) :
  ref? a fun p => inst? (H p) fun C dd fs => some? (mtab C f) fun g => noneG (lookF f fs) (P p g) :=
 (rep_ref (S' := fun p => inst? (H p) fun C dd fs => some? (mtab C f) fun g => All (fun G => (match lookB f fs with | none => M c d ns k (.ref g :: .ref p :: stk) F H Q X G | some _ => True))) fun p => rep_inst fun C dd fs => rep_get fun g => Chu.rep (by cases lookB f fs with | none => exact M_chu _ | some _ => exact chu_true) (meth_go (h p g))).get w
theorem bget_go {m : BM} {k : C} {a : MV} {stk : List MV} {F : FF} {H : HH} {S : BK -> Prop} (w : All (M c d ns (.bget m k) (a :: stk) F H Q X)) (h : ∀ b, All (M c d ns k (.ref (bkN b) :: a :: stk) F H Q X) -> S b) : bmOk m a H S :=
 (rGet (S := S) (S' := fun b => All (M c d ns k (.ref (bkN b) :: a :: stk) F H Q X)) (T := fun b => M c d ns k (.ref (bkN b) :: a :: stk) F H Q X) fun b => mR (h b)).get w
theorem bcall_go {m : BM} {b : BK} {n : Nat} {k : C} {a : MV} {vs stk : List MV} {F : FF} {H : HH} {P : QE} (hl : vs.length = n) (w : All (M c d ns (.bcall m n k) (vs.reverse ++ (.ref (bkN b) :: a :: stk)) F H Q X)) (q : ∀ v H', All (M c d ns k (v :: stk) F H' Q X) -> P v H') : bmCall b a vs H P := by
 have w' : All (kBm (bkOf (bkN b)) a vs H (fun v H' => M c d ns k (v :: stk) F H' Q X)) := pn_get (T := fun vs r G => p1 r fun b r => gR b fun b => p1 r fun o r => kBm (bkOf b) o vs H (fun v H' => M c d ns k (v :: r) F H' Q X) G) hl w
 rw [bkOf_N] at w'
 exact (rBm (mP q)).get w'
theorem bkG_of {b : BK} {p : Prop} (h : p) : bkG b (Ca c d true).app p := by cases b <;> first | exact h | exact ⟨rfl, h⟩
theorem mcall_go {n : Nat} {g p : Addr} {k : C} {vs stk : List MV} {F : FF} {H : HH} {P : QE} (hX : XI X X') (hl : vs.length = n) (w : All (M c d ns (.mcall n k) (vs.reverse ++ (.ref g :: .ref p :: stk)) F H Q X)) (q : ∀ v H', All (M c d ns k (v :: stk) F H' Q X) -> P v H') : CallS c d true g (.ref p :: vs) H P X' :=
 CallS.mono q hX (pn_get (T := fun vs r G => p1 r fun g r => gR g fun g => p1 r fun o r => CallS c d true g (o :: vs) H (fun v H' => All (M c d ns k (v :: r) F H' Q X)) X -> G) hl w _ id)
mutual
theorem S_E (hX : XI X X') : ∀ (e : Mine.E) {k : C} {stk : List MV} {F : FF} {H : HH} {P : QE}, All (M c d ns (cE e k) stk F H Q X) -> (∀ v H', All (M c d ns k (v :: stk) F H' Q X) -> P v H') -> vE (Ca c d true) mtab e F H P X'
  | .int i, _, _, _, _, _, w, q => q _ _ w
  | .str s, _, _, _, _, _, w, q => q _ _ w
  | .non, _, _, _, _, _, w, q => q _ _ w
  | .bool b, _, _, _, _, _, w, q => q _ _ w
  | .loc i, _, _, _, _, _, w, q => by
    have z := (rep_get fun v => mR (q v _)).get w
    rw [getB_eq] at z; exact z
  | .bin op l r, _, _, _, _, _, w, q => S_E hX l w (fun _ _ w => S_E hX r w (fun _ _ w => (rBin (mP q)).get w))
  | .neg e, _, _, _, _, _, w, q => S_E hX e w (fun _ _ w => (rep_int fun x => mR (q _ _)).get w)
  | .not e, _, _, _, _, _, w, q => S_E hX e w (fun _ _ w => (rep_bool fun x => mR (q _ _)).get w)
  | .cmp op l r, _, _, _, _, _, w, q => S_E hX l w (fun _ _ w => S_E hX r w (fun _ _ w => (rCmp (mP q)).get w))
  | .cmp2 o1 o2 a b e, _, _, _, _, _, w, q => S_E hX a w (fun x _ w => S_E hX b w (fun y _ w => cmpk_go w (fun _ w => S_E hX e w (fun _ _ w => (rCmp (mP q)).get w)) (fun _ w => q _ _ w)))
  | .and l, _, _, _, _, _, w, q => S_And hX l w q
  | .or l, _, _, _, _, _, w, q => S_Or hX l w q
  | .ite e a b, _, _, _, _, _, w, q => S_E hX e w (fun _ _ w => (rep_isB (fun w => S_E hX a w q) (fun w => S_E hX b w q)).get w)
  | .attr o f, _, _, _, _, _, w, q => S_E hX o w (fun _ _ w => (rep_ref fun p => rep_inst fun C dd fs => Chu.rep (chu_g fun v => chu_j (by cases mtab C f with | none => exact M_chu _ | some _ => exact chu_true)) (attr_go q)).get w)
  | .sub o i, _, _, _, _, _, w, q => S_E hX o w (fun _ _ w => S_E hX i w (fun _ _ w => (rSub (mP q)).get w))
  | .slc o lo hi, _, _, _, _, _, w, q => S_E hX o w (fun _ _ w => S_E hX lo w (fun _ _ w => S_E hX hi w (fun _ _ w => (rSlc (mP q)).get w)))
  | .bi b args, _, _, _, _, _, w, q => by
    have z : vL (Ca c d true) mtab args _ _ _ X' := S_L hX args w (fun vs _ hl w => (rBi (mP q)).get (pn_get hl w))
    cases b <;> first | exact z | exact ⟨rfl, z⟩
  | .fn f args, _, _, _, _, _, w, q => S_L hX args w (fun vs _ hl w => CallS.mono q hX (pn_get hl w _ id))
  | .new C args, _, _, _, _, _, w, q => S_L hX args w (fun vs _ hl w => new_go hX (pn_get hl w) fun a H' k => q _ _ k)
  | .meth o f args, _, _, _, _, _, w, q => S_E hX o w (fun _ _ w => mget_go w fun p g w => S_L hX args w (fun vs _ hl w => mcall_go hX hl w q))
  | .bm o m args, _, _, _, _, _, w, q => S_E hX o w (fun _ _ w => bget_go w fun b w => bkG_of (S_L hX args w (fun vs _ hl w => bcall_go hl w q)))
  | .list es, _, _, _, _, _, w, q => S_L hX es w (fun vs _ hl w => (rep_seq (mP q)).get (pn_get hl w))
  | .tup es, _, _, _, _, _, w, q => S_L hX es w (fun vs _ hl w => (rep_seq (mP q)).get (pn_get hl w))
  | .dict k v, _, _, _, _, _, w, q => S_E hX k w (fun _ _ w => S_E hX v w (fun _ _ w => (rep_ref fun p => rep_tup fun ks => rep_and (rep_seq (mP q))).get w))
  | .edict, _, _, _, _, _, w, q => (rep_seq (mP q)).get w
  | .comp elt v it m, k, _, F, _, _, w, q => S_I hX it w (S0 := fun st r H1 => ∀ a, H1 a = none -> CompS c d true elt v none st a (mapB F m) (upd H1 a (.list [])) (fun _ H' => All (M c d ns k (.ref a :: r) F H' Q X)) X) (fun i s H1 w => w)
      (fun st H1 s a n => by rw [<- mapB_eq]; exact CompS.mono (fun _ _ k => q _ _ k) hX (s a n))
  | .comp2 elt v it v2 it2 m, k, _, F, _, _, w, q => S_I hX it w (S0 := fun st r H1 => ∀ a, H1 a = none -> CompS c d true elt v (some (v2, it2)) st a (mapB F m) (upd H1 a (.list [])) (fun _ H' => All (M c d ns k (.ref a :: r) F H' Q X)) X) (fun i s H1 w => w)
      (fun st H1 s a n => by rw [<- mapB_eq]; exact CompS.mono (fun _ _ k => q _ _ k) hX (s a n))
theorem S_L (hX : XI X X') : ∀ (l : Mine.L) {k : C} {stk : List MV} {F : FF} {H : HH} {P : List MV -> HH -> Prop}, All (M c d ns (cL l k) stk F H Q X) -> (∀ vs H', vs.length = llen l -> All (M c d ns k (vs.reverse ++ stk) F H' Q X) -> P vs H') -> vL (Ca c d true) mtab l F H P X'
 | .nil, _, _, _, _, _, w, q => q [] _ rfl w
 | .cons e l, _, _, _, _, _, w, q => S_E hX e w (fun v _ w => S_L hX l w (fun vs _ hl w => q (v :: vs) _ (congrArg (· + 1) hl) (by rw [List.reverse_cons, List.append_assoc]; exact w)))
theorem S_And (hX : XI X X') : ∀ (l : Mine.L) {k : C} {stk : List MV} {F : FF} {H : HH} {P : QE}, All (M c d ns (cAnd l k) stk F H Q X) -> (∀ v H', All (M c d ns k (v :: stk) F H' Q X) -> P v H') -> vAnd (Ca c d true) mtab l F H P X'
 | .nil, _, _, _, _, _, w, q => q _ _ w
 | .cons e l, _, _, _, _, _, w, q => S_E hX e w (fun _ _ w => (rep_isB (fun w => S_And hX l w q) (q _ _)).get w)
theorem S_Or (hX : XI X X') : ∀ (l : Mine.L) {k : C} {stk : List MV} {F : FF} {H : HH} {P : QE}, All (M c d ns (cOr l k) stk F H Q X) -> (∀ v H', All (M c d ns k (v :: stk) F H' Q X) -> P v H') -> vOr (Ca c d true) mtab l F H P X'
 | .nil, _, _, _, _, _, w, q => q _ _ w
 | .cons e l, _, _, _, _, _, w, q => S_E hX e w (fun _ _ w => (rep_isB (q _ _) (fun w => S_Or hX l w q)).get w)
theorem S_I (hX : XI X X') : ∀ (i : IT) {k : IK -> C} {stk : List MV} {F : FF} {H : HH} {S0 : ItS -> List MV -> HH -> Prop} {P : ItS -> HH -> Prop}, All (M c d ns (cI i k) stk F H Q X) -> IterC c d ns Q X k F S0 -> (∀ st H', S0 st stk H' -> P st H') -> vIT (Ca c d true) mtab i F H P X'
 | .ex e, _, _, _, _, _, _, w, hk, q => S_E hX e w (fun v H1 w => iter_ex (hk .ex _ _ w) fun st s => q st _ s)
 | .up lo hi, _, _, _, _, _, _, w, hk, q => S_E hX lo w (fun _ _ w => S_E hX hi w (fun _ _ w => (rep_ii fun x y => rep_and (rep_and (rep_end (q _ _)))).get (hk .up _ _ w)))
 | .down lo hi, _, _, _, _, _, _, w, hk, q => S_E hX lo w (fun _ _ w => S_E hX hi w (fun _ _ w => (rep_ii fun x y => rep_and (rep_and (rep_end (q _ _)))).get (hk .down _ _ w)))
end
end
end
section
open PyProof.Rows
section
variable {c : Cx} {d : Nat} {ns : NS} {Q : QM} {X : QX}
theorem stS_go {j : Int} {v : MV} {k : C} {F : FF} {H : HH} {p : Addr} {P : FF -> HH -> Prop} (q : ∀ F' H', All (M c d ns k [] F' H' Q X) -> P F' H') (w : All (fun G => ∀ ob, H p = some ob -> match ob with
      | .list xs => 0 <= j -> j < 2 ^ 62 -> j.toNat < xs.length -> M c d ns k [] F (upd H p (.list (xs.set j.toNat v))) Q X G
      | .idict es => getI j es = none -> es.length <= 1000 -> M c d ns k [] F (upd H p (.idict (putI j v es))) Q X G
      | _ => True)) : some? (H p) fun ob => match ob with
      | .list xs => 0 <= j /\ j < 2 ^ 62 /\ j.toNat < xs.length /\ P F (upd H p (.list (xs.set j.toNat v)))
      | .idict es => getI j es = none /\ es.length <= 1000 /\ P F (upd H p (.idict (putI j v es)))
      | _ => False := by
  refine w _ fun ob e => ?_
  rw [e]
  cases ob with
  | list xs => exact fun h1 h2 h3 => M_chu k _ fun a => ⟨h1, h2, h3, q _ _ a⟩
  | idict es => exact fun h1 h2 => M_chu k _ fun a => ⟨h1, h2, q _ _ a⟩
  | _ => trivial
theorem rep_c2 {b : Bool} {p q S S' : Prop} {T : Prop -> Prop} (f : b = true -> p /\ q) (r : Rep S S' T) : Rep (p /\ q /\ S) (b = true /\ S') (fun G => cond b (T G) True) := ⟨fun G h => (rep_c f r).1 G fun s => h ⟨s.1.1, s.1.2, s.2⟩, (rep_c f r).2⟩
theorem S_T : ∀ (t : T) {k : C} {v : MV} {F : FF} {H : HH} {P : FF -> HH -> Prop}, All (M c d ns (cT t k) [v] F H Q X) -> (∀ F' H', All (M c d ns k [] F' H' Q X) -> P F' H') -> vT (Ca c d true) mtab t v F H P X := by
  intro t k v F H P w q
  cases t with
  | loc i =>
    have z := (rep_c (p := i < F.length) (S := P (F.put i v) H) (lenB_lt F i) (mR fun a => by rw [<- setB_eq]; exact q _ _ a)).get w
    exact z
  | attr o f => exact S_E (fun _ _ h => h) o w fun a H1 w => (rep_ref fun p => rep_inst fun C dd fs => rep_c (fun h => Nat.le_of_ble_eq_true h) (mR fun a => by rw [<- putB_eq]; exact q _ _ a)).get w
  | sub o i => exact S_E (fun _ _ h => h) o w fun a H1 w => S_E (fun _ _ h => h) i w fun b H2 w => (rep_ref fun p => rep_int fun j => Chu.rep (chu_all fun ob => chu_imp (by
      cases ob with
      | list xs => exact chu_imp (chu_imp (chu_imp (M_chu k)))
      | idict es => exact chu_imp (chu_imp (M_chu k))
      | _ => exact chu_true)) (stS_go q)).get w
  | locs is =>
    exact (rep_ref fun p => rep_tup fun vs => rep_c2 (fun h => ⟨lenE_eq _ _ (Bool.and_eq_true_iff.mp h).1, lenN_lt _ _ (Bool.and_eq_true_iff.mp h).2⟩) (mR fun a => by rw [<- setN_eq]; exact q _ _ a)).get w
theorem asg2_mgo {is : List Nat} {vs : List MV} {k : C} {F : FF} {H : HH} {P : FF -> HH -> Prop} (q : ∀ F' H', All (M c d ns k [] F' H' Q X) -> P F' H') (w : All (fun G => cond (njN vs && (lenE vs is && lenN is F)) (M c d ns k [] (setN is vs F) H Q X G) True)) :
  vs.length = is.length /\ MV.junk ∉ vs /\ (∀ i ∈ is, i < F.length) /\ P (setLocs is vs F) H := by
 have z := (rep_c (b := njN vs && (lenE vs is && lenN is F)) (p := njN vs = true /\ lenE vs is = true /\ lenN is F = true) (S := P (setLocs is vs F) H) (fun h => ⟨(Bool.and_eq_true_iff.mp h).1, Bool.and_eq_true_iff.mp (Bool.and_eq_true_iff.mp h).2⟩) (mR fun a => by rw [<- setN_eq]; exact q _ _ a)).get w
 exact ⟨lenE_eq _ _ z.1.2.1, njN_ok _ z.1.1, lenN_lt _ _ z.1.2.2, z.2⟩
theorem loop_imp {k : C} {stk : List MV} {P : QS} (q : ∀ F' H', All (M c d ns k stk F' H' Q X) -> P .next F' H') (qr : ∀ v F' H', Q (.ret v) F' H' -> P (.ret v) F' H') : ∀ fl F H, loopQ (fun F' H' => M c d ns k stk F' H' Q X) Q fl F H -> P fl F H := fun fl F H h => by
 cases fl with
 | next => exact q _ _ h
 | ret v => exact qr _ _ _ h
mutual
theorem S_S : ∀ (s : S) {k : C} {F : FF} {H : HH} {P : QS}, All (M c d ns (cS s k) [] F H Q X) -> (∀ F' H', All (M c d ns k [] F' H' Q X) -> P .next F' H') -> (∀ v F' H', Q (.ret v) F' H' -> P (.ret v) F' H') -> vS (At c d true ns) mtab s F H P X
 | .ex e, _, _, _, _, w, q, qr => S_E (fun _ _ h => h) e w fun v H1 w => (rep_ex' (mR (q _ _))).get w
 | .asg t e, _, _, _, _, w, q, qr => S_E (fun _ _ h => h) e w fun v H1 w => (rep_nj (mR fun w => S_T t w q)).get w
 | .asg2 is es, _, _, _, _, w, q, qr => S_L (fun _ _ h => h) es w fun vs H1 hl w => asg2_mgo q (pn_get (T := fun vs r G => cond (njN vs && (lenE vs is && lenN is _)) (M c d ns _ r (setN is vs _) H1 Q X G) True) hl w)
 | .ife e a b, _, _, _, _, w, q, qr => S_E (fun _ _ h => h) e w fun v H1 w => (rep_isB (fun w => S_B a w q qr) (fun w => S_B b w q qr)).get w
 | .whl e b, _, _, _, _, w, q, qr => WhlS.mono (loop_imp q qr) (w _ id)
 | .forr t it b, k, F, _, _, w, q, qr => S_I (fun _ _ h => h) it w (S0 := fun st r H1 => ForS c d true ns t b st F H1 (loopQ (fun F' H' => M c d ns k r F' H' Q X) Q) X) (fun i s H1 w => w) fun st H1 s => ForS.mono (loop_imp q qr) s
 | .ret e, _, _, _, _, w, q, qr => S_E (fun _ _ h => h) e w fun v H1 w => qr _ _ _ (w _ id)
 | .rais C, _, _, _, _, w, q, qr => w _ id
 | .tryx e C1 s1 C2 s2, _, F, H, P, w, q, qr => S_E (X := tryQ Q C1 s1 C2 s2 F) (fun C H1 h => h.imp (fun h => ⟨h.1, qr _ _ _ h.2⟩) fun h => ⟨h.1, qr _ _ _ h.2⟩) e (w _ id) fun v H1 w => qr _ _ _ (w _ id)
 | .dead, _, _, _, _, w, q, qr => w _ trivial
theorem S_B : ∀ (b : B) {k : C} {F : FF} {H : HH} {P : QS}, All (M c d ns (cB b k) [] F H Q X) -> (∀ F' H', All (M c d ns k [] F' H' Q X) -> P .next F' H') -> (∀ v F' H', Q (.ret v) F' H' -> P (.ret v) F' H') -> vB (At c d true ns) mtab b F H P X
 | .nil, _, _, _, _, w, q, qr => q _ _ w
 | .cons s b, _, _, _, _, w, q, qr => S_S s w (fun F' H' w => S_B b w q qr) qr
end
end
end
section
open PyProof.Rows
noncomputable def mkF : List MV -> Nat -> FF
 | _, 0 => []
 | [], m + 1 => none :: mkF [] m
 | v :: vs, m + 1 => some v :: mkF vs m
theorem mkF_nil : ∀ m, mkF [] m = List.replicate m none
 | 0 => rfl
 | m + 1 => congrArg (none :: ·) (mkF_nil m)
theorem mkF_eq : ∀ (vs : List MV) (k : Nat), mkF vs (vs.length + k) = vs.map some ++ List.replicate k none
 | [], k => by rw [List.length_nil, Nat.zero_add]; exact mkF_nil k
 | v :: vs, k => by
  rw [List.length_cons, Nat.add_right_comm]
  exact congrArg (some v :: ·) (mkF_eq vs k)
noncomputable def fnL (f : Addr) : List (Addr × FI) -> Option FI
 | [] => none
 | (g, x) :: r => cond (g == f) (some x) (fnL f r)
theorem fnL_cons {f g : Addr} {y : FI} {r : List (Addr × FI)} : fnL f ((g, y) :: r) = cond (g == f) (some y) (fnL f r) := rfl
theorem fnL_mem {f : Addr} {x : FI} : ∀ {l : List (Addr × FI)}, fnL f l = some x -> (f, x) ∈ l
 | [], h => nomatch h
 | (g, y) :: r, h => by
  cases e : g == f with
  | true =>
   have w := eq_of_beq e
   subst w
   rw [fnL_cons, e] at h
   cases h; exact List.mem_cons_self ..
  | false => rw [fnL_cons, e] at h; exact List.mem_cons_of_mem _ (fnL_mem h)
noncomputable def retQ (Q : QE) : QM := fun fl _ H => match fl with | .next => Q .non H | .ret v => Q v H | .exit => False
noncomputable def whQ (N : FF -> HH -> Prop) (Q : QS) : QM := fun fl F H => match fl with | .next => N F H | .ret v => Q (.ret v) F H | .exit => Q .next F H
noncomputable def elQ (N : MV -> HH -> Prop) : QM := fun fl _ H => match fl with | .ret v => N v H | _ => False
section
variable {c : Cx} {d : Nat} {ns : NS} {F : FF} {H : HH} {X : QX} {st : ItS}
theorem crule (W : World0 c) {f : Addr} {fi : FI} {vs : List MV} {Q : QE} (hd : 2 <= d) (hf : fnL f fns = some fi) {m : Nat} (hm : fi.ns.length = m) (hl : vs.length = fi.n) (hp : Nat.ble fi.n m = true)
  (k : All (M c (d - 1) fi.ns (cB fi.body .fin) [] (mkF vs m) H (retQ Q) X)) : CallS c d true f vs H Q X := by
 obtain ⟨e, rfl⟩ : ∃ e, d = e + 2 := ⟨d - 2, (Nat.sub_add_cancel hd).symm⟩
 subst hm
 have e2 : mkF vs fi.ns.length = argF fi.ns vs := by
  rw [argF, <- mkF_eq vs (fi.ns.length - vs.length), Nat.add_sub_cancel' (by rw [hl]; exact Nat.le_of_ble_eq_true hp)]
 rw [e2] at k
 exact call_rule W.base W.exc (W.ft _ (fnL_mem hf)) hl (S_B _ k (fun F' H' w => w _ id) fun v F' H' w => w)
theorem wrule (W : World0 c) (hd : 1 <= d) {cm : Mine.E} {bm : B} {Q : QS}
  (k : All (M c d ns (cE cm (.br (cB bm .fin) .stop)) [] F H (whQ (fun F2 H2 => WhlS c d true ns cm bm F2 H2 Q X) Q) X)) : WhlS c d true ns cm bm F H Q X := by
 obtain ⟨e, rfl⟩ : ∃ e, d = e + 1 := ⟨d - 1, (Nat.sub_add_cancel hd).symm⟩
 exact while_rule W.base W.exc (S_E (fun _ _ h => h) cm k fun v H1 w => by
  refine (rep_isB ?_ ?_).get w
  ·exact fun w => S_B bm w (fun F' H' w => w _ id) fun v F' H' w => w
  ·exact fun w => w _ id)
theorem frule_end (W : World0 c) (hd : 1 <= d) {t : T} {bm : B} {Q : QS} (hn : nextOf H st = some none) (k : Q .next F H) : ForS c d true ns t bm st F H Q X := by
 obtain ⟨e, rfl⟩ : ∃ e, d = e + 1 := ⟨d - 1, (Nat.sub_add_cancel hd).symm⟩
 exact for_rule W.base W.exc hn k
theorem frule_step (W : World0 c) (hd : 1 <= d) {t : T} {bm : B} {Q : QS} {mv : MV} {st' : ItS} (hn : nextOf H st = some (some (mv, st')))
  (k : All (M c d ns (cT t (cB bm .fin)) [mv] F H (whQ (fun F2 H2 => ForS c d true ns t bm st' F2 H2 Q X) Q) X)) : ForS c d true ns t bm st F H Q X := by
 obtain ⟨e, rfl⟩ : ∃ e, d = e + 1 := ⟨d - 1, (Nat.sub_add_cancel hd).symm⟩
 exact for_rule W.base W.exc hn (S_T t k fun F' H' w => S_B bm w (fun F' H' w => w _ id) fun v F' H' w => w)
section
variable {elt : Mine.E} {v : Nat} {inner : Option (Nat × IT)} {a : Addr} {Q : FF -> HH -> Prop}
theorem ccrule_end (W : World0 c) (hn : nextOf H st = some none) (k : Q F H) : CompS c d true elt v inner st a F H Q X := comp_step W.base hn k
theorem ccrule_one (W : World0 c) {mv : MV} {st' : ItS} (hn : nextOf H st = some (some (mv, st')))
  (k : All (M c d [] (cE elt .ret) [] (setB F v mv) H (elQ fun u H1 => list? (H1 a) fun xs => xs.length <= 100000 /\ CompS c d true elt v none st' a (setB F v mv) (upd H1 a (.list (xs ++ [u]))) Q X) X)) : CompS c d true elt v none st a F H Q X := by
 rw [setB_eq] at k
 exact comp_step W.base hn (S_E (fun _ _ h => h) elt k fun u H1 w => w _ id)
theorem ccrule_in (W : World0 c) {v2 : Nat} {im : IT} {mv : MV} {st' : ItS} (hn : nextOf H st = some (some (mv, st')))
  (k : vIT (Ca c d true) mtab im (setB F v mv) H (fun st2 H1 => CompS c d true elt v2 none st2 a (setB F v mv) H1 (fun F' H2 => CompS c d true elt v (some (v2, im)) st' a F' H2 Q X) X) X) : CompS c d true elt v (some (v2, im)) st a F H Q X := by
 rw [setB_eq] at k
 exact comp_step W.base hn k
end
end
end
section
open PyProof.Rows
theorem dd {a b d : Nat} (h : a <= d) (q : Nat.ble (b + 1) a = true) : b <= d - 1 := Nat.le_sub_of_add_le (Nat.le_trans (Nat.le_of_ble_eq_true q) h)
theorem dd2 {d : Nat} (h : 3 <= d) : 2 <= d := Nat.le_of_succ_le h
theorem d0 {a b d : Nat} (h : a <= d) (q : Nat.ble b a = true) : b <= d := Nat.le_trans (Nat.le_of_ble_eq_true q) h
theorem ne_of {H : HH} {a b : Addr} {o o' : MO} (h : H a = some o) (h' : H b = some o') (n : o ≠ o') : a ≠ b := fun e => n (by rw [e, h'] at h; cases h; rfl)
theorem ne_new {H : HH} {a b : Addr} {o : MO} (h : H a = some o) (h' : H b = none) : a ≠ b := fun e => by rw [e, h'] at h; cases h
theorem upd_new {H : HH} {a b : Addr} {o o' : MO} (h : H a = some o) (h' : H b = none) : upd H b o' a = some o := by rw [upd_ne (ne_new h h'), h]
noncomputable def Ext (S : List Addr) (H H' : HH) : Prop := ∀ a o, a ∉ S -> H a = some o -> H' a = some o
theorem Ext.refl {S : List Addr} {H : HH} : Ext S H H := fun _ _ _ h => h
theorem Ext.set {S : List Addr} {H H' : HH} {a : Addr} {o : MO} (e : Ext S H H') (h : a ∈ S) : Ext S H (upd H' a o) := fun b q n k => by
 rw [upd_ne (fun w => n (by rw [w]; exact h))]; exact e b q n k
theorem Ext.new {S : List Addr} {H H' : HH} {a : Addr} {o : MO} (e : Ext S H H') (h : H' a = none) : Ext S H (upd H' a o) := fun b q n k => by
 have := e b q n k
 exact upd_new this h
theorem Ext.trans {S S' : List Addr} {H H' H'' : HH} (e : Ext S H H') (e' : Ext S' H' H'') (h : ∀ a ∈ S', a ∈ S \/ H a = none) : Ext S H H'' := fun a o n k =>
 e' a o (fun w => by rcases h a w with q | q; exact n q; rw [q] at k; cases k) (e a o n k)
theorem Ext.mono {S S' : List Addr} {H H' : HH} (e : Ext S' H H') (h : ∀ a ∈ S', a ∈ S \/ H a = none) : Ext S H H' := (Ext.refl).trans e h
theorem mvi_get (xs : List Int) (k : Nat) : (mvi xs)[k]? = (xs[k]?).map MV.int := by simp [mvi]
theorem mvi_set (xs : List Int) (k : Nat) (v : Int) : (mvi xs).set k (.int v) = mvi (xs.set k v) := by simp [mvi, List.map_set]
theorem mvi_len (xs : List Int) : (mvi xs).length = xs.length := by simp [mvi]
theorem mvi_app (xs ys : List Int) : mvi xs ++ mvi ys = mvi (xs ++ ys) := by simp [mvi]
theorem natAbs_if (v : Int) : (if v < 0 then -v else v) = (v.natAbs : Int) := by split <;> lia
theorem size_int (low : Nat) (v : Int) : (v.natAbs : Int) / 2 ^ low = (size low v : Nat) := by
 unfold size; rw [Int.natCast_ediv, Int.natCast_pow]; rfl
theorem small_pow {n : Nat} (h : n <= 60) : small (2 ^ n) := by
 have h1 : (2 : Int) ^ n <= 2 ^ 60 := by
  have : (2 : Nat) ^ n <= 2 ^ 60 := Nat.pow_le_pow_right (by lia) h
  exact_mod_cast this
 have h2 : (0 : Int) < 2 ^ n := Int.pow_pos (by lia)
 unfold small; lia
theorem pow_pos' (n : Nat) : (0 : Int) < 2 ^ n := Int.pow_pos (by lia)
theorem pow_lt' {n : Nat} (h : n <= 60) : (2 : Int) ^ n < 2 ^ 62 := by have := small_pow h; unfold small at this; lia
theorem l0 : (0 : Int) <= 0 := Int.le_refl 0
theorem l1 : (0 : Int) <= 1 := by decide
theorem u0 : (0 : Int) < 2 ^ 62 := by decide
theorem u1 : (1 : Int) < 2 ^ 62 := by decide
theorem s1 : small 1 := by unfold small; lia
theorem s_1 : small (-1) := by unfold small; lia
theorem Ext.one {H : HH} {p : Addr} {o : MO} : Ext [p] H (upd H p o) := Ext.refl.set (List.mem_cons_self ..)
section
variable {c : Cx} {d : Nat} {H : HH} {X : QX} {Q : QE}
theorem c_236 (W : World0 c) (hd : 2 <= d) {v : Int} {low : Nat} (k : Q (.int (size low v : Nat)) H) : CallS c d true 236 [.int v, .int low] H Q X :=
 crule W hd rfl rfl rfl rfl fun G r => r (Int.natCast_nonneg low) (by rw [natAbs_if, size_int]; exact k)
theorem c_488 (W : World0 c) (hd : 2 <= d) {v : Int} {low : Nat} (hl : low <= 60) (k : Q (.int (cutN low v)) H) : CallS c d true 488 [.int v, .int low] H Q X := by
 have hp : (0 : Int) <= low := Int.natCast_nonneg low
 have h6 : (low : Int) <= 64 := by lia
 refine crule W hd rfl rfl rfl rfl fun G r => r (.inl rfl) hp h6 (pow_pos' low) (pow_lt' hl) (.inl rfl) hp h6 (.inr (small_pow hl)) (fun q G r => r (.inr s1) ?_) (fun q G r => r (.inr s_1) ?_)
 ·rw [natAbs_if]; unfold cutN sgn at k; rw [if_pos (of_decide_eq_true q)] at k; exact k
 ·rw [natAbs_if]; unfold cutN sgn at k; rw [if_neg (of_decide_eq_false q)] at k; exact k
noncomputable def Src (H : HH) (p : Addr) : Prop := ∃ a b : Int, H p = some (.list [.int a, .int b]) /\ 0 <= a /\ 0 <= b /\ b < 2147483647
theorem Src.upd (H : HH) (p : Addr) {a b : Int} (h1 : 0 <= a) (h2 : 0 <= b) (h3 : b < 2147483647) : Src (upd H p (.list [.int a, .int b])) p := ⟨a, b, upd_same _ _ _, h1, h2, h3⟩
theorem c_453 (W : World0 c) (hd : 2 <= d) {p : Addr} {many : Int} (h0 : 0 < many) (h1 : many <= 8) (hs : Src H p) (k : ∀ (r : Int) H', 0 <= r -> r < many -> Ext [p] H H' -> Src H' p -> Q (.int r) H') : CallS c d true 453 [.ref p, .int many] H Q X := by
 obtain ⟨a, b, hp, ha, hb, hb'⟩ := hs
 have m62 : many < 2 ^ 62 := by lia
 have kk : ∀ (x : Int) H', Ext [p] H H' -> Src H' p -> Q (.int (x % many)) H' := fun x H' e s => k _ _ (Int.emod_nonneg _ (Int.ne_of_gt h0)) (Int.emod_lt_of_pos _ h0) e s
 have r0 : 0 <= (b * 48271 + 11) % 2147483647 := Int.emod_nonneg _ (by decide)
 have r1 : (b * 48271 + 11) % 2147483647 < 2147483647 := Int.emod_lt_of_pos _ (by decide)
 have rs : small ((b * 48271 + 11) % 2147483647) := by unfold small; lia
 have hq := upd_same H p (.list [.int a, .int ((b * 48271 + 11) % 2147483647)])
 refine crule W hd rfl rfl rfl rfl fun G r => r _ hp l0 u0 _ rfl (fun q G r => r _ hp l0 u0 _ rfl h0 _ hp l0 u0 _ rfl h0 m62 _ hp l0 u0 (Nat.le_succ 1) (kk _ _ .one (Src.upd _ _ (Int.ediv_nonneg ha (Int.le_of_lt h0)) hb hb')))
  fun q G r => r _ hp l1 u1 _ rfl (.inr ?_) (by decide) _ hp l1 u1 (Nat.le_refl 2) _ hq l1 u1 _ rfl _ hq l1 u1 _ rfl (.inr rs) (by decide) (by decide) (by decide) h0 (kk _ _ .one (Src.upd _ _ ha r0 r1))
 unfold small; lia
theorem pow3 {low : Nat} (h : low <= 2) : (2 : Int) ^ low = 1 \/ (2 : Int) ^ low = 2 \/ (2 : Int) ^ low = 4 := by
 rcases low with _ | _ | _ | n
 ·exact .inl rfl
 ·exact .inr (.inl rfl)
 ·exact .inr (.inr rfl)
 ·lia
theorem Src.new {H : HH} {p a : Addr} {o : MO} (s : Src H p) (h : H a = none) : Src (Mine.upd H a o) p := by
 obtain ⟨x, y, hp, q⟩ := s
 exact ⟨x, y, upd_new hp h, q⟩
theorem nab {z : Int} (h0 : 0 <= z) (h : z < 24) : z.natAbs < 24 := Int.ofNat_lt.mp (by rw [Int.natAbs_of_nonneg h0]; exact h)
theorem pick5 {t w : Int} (ht : t = 1 \/ t = 2 \/ t = 4) (h0 : 0 <= w) (h5 : w < 5) : ∃ v : Int, ([.int 0, .int 0, .int 0, .int t, .int (-t)] : List MV)[w.toNat]? = some (.int v) /\ v.natAbs < 24 := by
 have h : w = 0 \/ w = 1 \/ w = 2 \/ w = 3 \/ w = 4 := by lia
 rcases h with w | w | w | w | w <;> subst w
 ·exact ⟨0, rfl, by decide⟩
 ·exact ⟨0, rfl, by decide⟩
 ·exact ⟨0, rfl, by decide⟩
 ·exact ⟨t, rfl, by rcases ht with q | q | q <;> rw [q] <;> decide⟩
 ·exact ⟨-t, rfl, by rcases ht with q | q | q <;> rw [q] <;> decide⟩
theorem c_481 (W : World0 c) (hd : 3 <= d) {p : Addr} {low : Nat} (hl : low <= 2) (hs : Src H p) (k : ∀ (v : Int) H', v.natAbs < 24 -> Ext [p] H H' -> Src H' p -> Q (.int v) H') : CallS c d true 481 [.ref p, .int low] H Q X := by
 have hp : (0 : Int) <= low := Int.natCast_nonneg low
 have h6 : (low : Int) <= 64 := by lia
 have h3 := pow3 hl
 have h8 : (2 : Int) ^ low <= 8 := by lia
 have nx : ∀ a : Addr, a ∈ [p] -> a ∈ [p] \/ H a = none := fun _ h => .inl h
 refine crule W (dd2 hd) rfl rfl rfl rfl fun G r => r (c_453 W (dd hd rfl) (by decide) (by decide) hs fun way H1 w0 w1 e1 s1 G r => r
  (fun q G r => r (.inl rfl) hp h6 (.inl rfl) hp h6 fun a ha G r => (pick5 h3 w0 (of_decide_eq_true q)).elim fun v hv => r _ (upd_same ..) w0 (Int.lt_trans w1 (by decide)) _ hv.1 (k _ _ hv.2 (e1.new ha) (s1.new ha)))
  fun q G r => r (c_453 W (dd hd rfl) (by decide) (by decide) s1 fun x H2 x0 x1 e2 s2 G r => r (.inl rfl) hp h6 (.inr (small_pow (Nat.le_trans hl (by decide)))) (.inl rfl) hp h6 (c_453 W (dd hd rfl) (pow_pos' low) h8 s2 fun y H3 y0 y1 e3 s3 G r => ?_)))
 have ee : Ext [p] H H3 := (e1.trans e2 nx).trans e3 nx
 replace y1 : y < 2 ^ low := y1
 have hv' : ((2 + x) * 2 ^ low + y).natAbs < 24 := by
  rcases h3 with w | w | w <;> rw [w] at y1 ⊢ <;> exact nab (by lia) (by lia)
 exact r (fun _ G r => r (k _ _ hv' ee s3)) fun _ G r => r (fun _ G r => r (k _ _ (by rw [Int.natAbs_neg]; exact hv') ee s3)) fun _ G r => r (k _ _ (by decide) ee s3)
noncomputable def chr (b : Bool) : Nat := if b then 49 else 48
theorem binV_chr (bs : List Bool) (n : Nat) : (bs.map chr).foldl (fun n c => n * 2 + (c - 48)) n = bs.foldl (fun a b => a * 2 + if b then 1 else 0) n := by
 induction bs generalizing n with
 | nil => rfl
 | cons b bs ih => 
  show ((bs.map chr).foldl _ (n * 2 + (chr b - 48))) = bs.foldl _ (n * 2 + if b then 1 else 0)
  rw [ih]
  cases b <;> rfl
theorem bitsT_take : ∀ (n acc : Nat) (bs rest : List Bool) (v : Nat), (bitsT n acc).run bs = .ok v rest -> n <= bs.length /\ v = (bs.take n).foldl (fun a b => a * 2 + if b then 1 else 0) acc /\ rest = bs.drop n
 | 0, acc, bs, rest, v, h => by
  cases (show Res.ok acc bs = .ok v rest from h); exact ⟨Nat.zero_le _, rfl, rfl⟩
 | n + 1, acc, [], rest, v, h => by cases (show Res.cut = .ok v rest from h)
 | n + 1, acc, b :: bs, rest, v, h => by
  have := bitsT_take n _ bs rest v h
  simpa using this
noncomputable def Pen (H : HH) (p : Addr) (rem : List Bool) : Prop := ∃ (s : Str) (pos : Nat) (all : List Bool), H p = some (.list [.str s, .int pos]) /\ s.cps.toList = all.map chr /\ all.drop pos = rem /\ pos <= all.length /\ all.length <= 100000
theorem c_460 (W : World0 c) (hd : 2 <= d) {p : Addr} {n : Nat} {rem rest : List Bool} {v : Nat} (hn : n <= 600) (hp : Pen H p rem) (hr : (bitsT n 0).run rem = .ok v rest) (k : ∀ H', Ext [p] H H' -> Pen H' p rest -> Q (.int v) H') : CallS c d true 460 [.ref p, .int n] H Q X := by
 obtain ⟨s, pos, all, h1, h2, h3, h4, h5⟩ := hp
 obtain ⟨t1, t2, t3⟩ := bitsT_take _ _ _ _ _ hr
 have hl : rem.length = all.length - pos := by rw [<- h3, List.length_drop]
 have hs : s.cps.toList.length = all.length := by rw [h2, List.length_map]
 have kk := k (upd H p (MO.list [MV.str s, MV.int (↑pos + ↑n)])) .one ⟨s, pos + n, all, by rw [upd_same]; rfl, h2, by rw [t3, <- h3, List.drop_drop], Nat.add_le_of_le_sub' h4 (hl ▸ t1), h5⟩
 have e1 : ((pos : Int) + n).toNat = pos + n := rfl
 have e2 : List.drop pos (List.take (pos + n) s.cps.toList) = (rem.take n).map chr := by
  rw [h2, <- h3, <- List.map_take, <- List.map_drop, List.drop_take, Nat.add_sub_cancel_left]
 have e3 : (rem.take n).length = n := List.length_take_of_le t1
 have e6 : ∀ P : List Nat -> Prop, P ((rem.take n).map chr) -> P (List.drop pos (List.take ((pos : Int) + n).toNat s.cps.toList)) := fun P h => by rw [e1, e2]; exact h
 have e4 : binV ((rem.take n).map chr) = v := by rw [t2]; exact binV_chr _ _
 have p0 : (0 : Int) <= pos := Int.natCast_nonneg pos
 refine crule W hd rfl rfl rfl rfl fun G r => r _ h1 l0 u0 _ rfl _ h1 l1 u1 _ rfl _ h1 l1 u1 _ rfl p0 (by lia) (by lia) (by lia) _ h1 l1 u1 _ rfl _ h1 l1 u1 (Nat.le_refl 2)
  (fun q G r => r rfl ?_ ?_ ?_ ?_) fun q G r => r ?_
 ·exact e6 (· ≠ []) fun w => absurd (e3.symm.trans (congrArg List.length (List.map_eq_nil_iff.mp w))) (Nat.ne_of_gt (Int.ofNat_lt.mp (of_decide_eq_true q)))
 ·exact e6 (fun l => l.length <= 600) (by rw [List.length_map, e3]; exact hn)
 ·exact e6 (fun l => ∀ c ∈ l, c = 48 \/ c = 49) fun c hc => (List.mem_map.mp hc).elim fun b h => h.2 ▸ (by cases b <;> decide)
 ·exact e6 (fun l => Q (.int (binV l)) _) (e4.symm ▸ kk)
 ·have : v = 0 := by rw [t2, Nat.le_zero.mp (Int.ofNat_le.mp (Int.not_lt.mp (of_decide_eq_false q)))]; rfl
  rw [this] at kk; exact kk
theorem Pen.ext {H H' : HH} {p : Addr} {rem : List Bool} {S : List Addr} (h : Pen H p rem) (e : Ext S H H') (n : p ∉ S) : Pen H' p rem := by
 obtain ⟨s, pos, all, h1, h2⟩ := h
 exact ⟨s, pos, all, e _ _ n h1, h2⟩
theorem corr_int (low : Nat) (x : Int) (b : Bool) (q : b = true) : corr low x b = if 0 < x then x + 2 ^ low else x - 2 ^ low := by rw [corr, if_pos q]
theorem list_set_same {xs : List Int} {n : Nat} {x : Int} (h : xs[n]? = some x) : xs.set n x = xs := by
 rw [(List.getElem?_eq_some_iff.mp h).2.symm]; exact List.set_getElem_self _
theorem c_467 (W : World0 c) (hd : 3 <= d) {p q : Addr} {n low : Nat} {b : Bool} {rem : List Bool} {xs : List Int} {x : Int} (hl : low <= 60) (hn : n <= 1000) (hp : Pen H p (b :: rem)) (hq : H q = some (.list (mvi xs))) (hne : p ≠ q) (hx : xs[n]? = some x)
  (k : ∀ H', Ext [p, q] H H' -> Pen H' p rem -> H' q = some (.list (mvi (xs.set n (corr low x b)))) -> Q .non H') : CallS c d true 467 [.ref p, .ref q, .int n, .int low] H Q X := by
 have hp0 : (0 : Int) <= low := Int.natCast_nonneg low
 have h6 : (low : Int) <= 64 := by lia
 have n0 : (0 : Int) <= n := Int.natCast_nonneg n
 have n62 : (n : Int) < 2 ^ 62 := by lia
 have hx' : (mvi xs)[n]? = some (.int x) := by rw [mvi_get, hx]; rfl
 refine crule W (dd2 hd) rfl rfl rfl rfl fun G r => r (c_460 W (dd hd rfl) (n := 1) (v := if b then 1 else 0) (rest := rem) (by decide) hp (by cases b <;> rfl) fun H1 e1 p1 G r => ?_)
 have h1 := e1 _ _ (fun w => hne (List.mem_singleton.mp w).symm) hq
 have e2 : Ext [p, q] H H1 := e1.mono fun a h => .inl (List.mem_cons.mpr (.inl (List.mem_singleton.mp h)))
 have kk : ∀ y, y = corr low x b -> Q .non (upd H1 q (.list ((mvi xs).set n (.int y)))) := fun y e => k _ (e2.set (.tail _ (.head _))) (p1.ext (Ext.refl.set (S := [q]) (.head _)) fun w => hne (List.mem_singleton.mp w)) (by rw [e, upd_same, mvi_set])
 have hlt : n < (mvi xs).length := (List.getElem?_eq_some_iff.mp hx').1
 cases b with
 | false => exact r (fun q => absurd q (by decide)) fun _ G r => r (k _ e2 p1 (by rw [h1]; congr 3; exact (list_set_same hx).symm))
 | true =>
  have e := corr_int low x true rfl
  exact r (fun _ G r => r _ h1 n0 n62 _ hx' (fun w G r => r _ h1 n0 n62 _ hx' (.inl rfl) hp0 h6 _ h1 n0 n62 hlt (kk _ (by rw [e, if_pos (of_decide_eq_true w)]; rfl)))
   fun w G r => r _ h1 n0 n62 _ hx' (.inl rfl) hp0 h6 _ h1 n0 n62 hlt (kk _ (by rw [e, if_neg (of_decide_eq_false w)]; rfl))) fun q => absurd q (by decide)
end
end
section
open PyProof.Rows
theorem bitsOf_tb (n v : Nat) : bitsOf (n + 1) v = v.testBit n :: bitsOf n v := by rw [Nat.testBit_eq_decide_div_mod_eq]; rfl
theorem bitsOf_add (b v : Nat) : ∀ a, bitsOf (a + b) v = bitsOf a (v / 2 ^ b) ++ bitsOf b v
 | 0 => by rw [Nat.zero_add]; rfl
 | a + 1 => by
  rw [Nat.add_right_comm, bitsOf_tb, bitsOf_tb, bitsOf_add b v a, Nat.testBit_div_two_pow]; rfl
theorem bitsOf_mod (k v : Nat) : ∀ n, n <= k -> bitsOf n (v % 2 ^ k) = bitsOf n v
 | 0, _ => rfl
 | n + 1, h => by
  rw [bitsOf_tb, bitsOf_tb, bitsOf_mod k v n (Nat.le_of_succ_le h), Nat.testBit_mod_two_pow]
  simp; lia
theorem bitsOf_len (v n : Nat) : (bitsOf n v).length = n := bitsOf_len2 v n
theorem bitsOf_put {s n r v : Nat} (h : v < 2 ^ n) : bitsOf (s + n) (r * 2 ^ n + v) = bitsOf s r ++ bitsOf n v := by
 rw [bitsOf_add]
 have e1 : (r * 2 ^ n + v) / 2 ^ n = r := by
  rw [Nat.mul_comm, Nat.mul_add_div (Nat.two_pow_pos n), Nat.div_eq_of_lt h]; rfl
 have e2 : (r * 2 ^ n + v) % 2 ^ n = v := by
  rw [Nat.mul_comm, Nat.mul_add_mod, Nat.mod_eq_of_lt h]
 rw [e1, <- bitsOf_mod n (r * 2 ^ n + v) n (Nat.le_refl _), e2]
theorem bitsOf_ones (n : Nat) : bitsOf n (2 ^ n - 1) = List.replicate n true := by
 have : ∀ k, k <= n -> bitsOf k (2 ^ n - 1) = List.replicate k true := fun k => by
  induction k with
  | zero => intro _; rfl
  | succ k ih => intro h; rw [bitsOf_tb, ih (by lia), Nat.testBit_two_pow_sub_one, List.replicate_succ]; simp; lia
 exact this n (Nat.le_refl _)
noncomputable def octBits (o : List UInt8) : List Bool := o.flatMap fun x => bitsOf 8 x.toNat
theorem octBits_len (o : List UInt8) : (octBits o).length = 8 * o.length := by
 induction o with
 | nil => rfl
 | cons x o ih => 
  have : octBits (x :: o) = bitsOf 8 x.toNat ++ octBits o := rfl
  rw [this, List.length_append, ih, bitsOf_len, List.length_cons]; lia
theorem octBits_app (o : List UInt8) (n : Nat) (h : n < 256) : octBits (o ++ [n.toUInt8]) = octBits o ++ bitsOf 8 n := by
 have : n.toUInt8.toNat = n := by simp; lia
 simp [octBits, this]
theorem bitsOf_get : ∀ (n v i : Nat), i < n -> (bitsOf n v)[i]? = some (v.testBit (n - 1 - i))
 | n + 1, v, 0, h => congrArg some (Nat.testBit_eq_decide_div_mod_eq (x := v) (i := n)).symm
 | n + 1, v, i + 1, h => by
  show (bitsOf n v)[i]? = some (v.testBit (n - (i + 1)))
  rw [bitsOf_get n v i (Nat.lt_of_succ_lt_succ h), Nat.sub_sub, Nat.add_comm 1]
theorem octBits_get : ∀ (o : List UInt8) (pos : Nat), (octBits o)[pos]? = (o[pos / 8]?).map fun x => x.toNat.testBit (7 - pos % 8)
 | [], pos => by simp [octBits]
 | x :: o, pos => by
  have e : octBits (x :: o) = bitsOf 8 x.toNat ++ octBits o := rfl
  rw [e]
  rcases Nat.lt_or_ge pos 8 with h | h
  ·rw [List.getElem?_append_left (by rw [bitsOf_len]; exact h)]
   rw [bitsOf_get 8 _ pos h, Nat.div_eq_of_lt h, Nat.mod_eq_of_lt h]; rfl
  ·rw [List.getElem?_append_right (by rw [bitsOf_len]; exact h), bitsOf_len, octBits_get o]
   obtain ⟨k, rfl⟩ : ∃ k, pos = k + 8 := ⟨pos - 8, (Nat.sub_add_cancel h).symm⟩
   rw [Nat.add_div_right k (by decide), Nat.add_mod_right, Nat.add_sub_cancel, List.getElem?_cons_succ]
noncomputable def BW (H : HH) (w f : Addr) (bits : List Bool) : Prop := ∃ (d : Addr) (o : List UInt8) (r s : Nat), H w = some (.inst 127 d [(0, .ref f), (1, .int r), (2, .int s)]) /\ H f = some (.barr o) /\ octBits o ++ bitsOf s r = bits /\ s < 8 /\ r < 2 ^ s
noncomputable def nW : MO -> Bool
 | .barr _ => false
 | .inst C _ _ => !(C == 127 || C == 169 || C == 295 || C == 358 || C == 435)
 | _ => true
noncomputable def WS (S : List Addr) (H : HH) : Prop := ∀ a ∈ S, ∃ o, H a = some o /\ nW o = false
theorem WS.cons {H : HH} {S : List Addr} {a : Addr} {o : MO} (h : H a = some o) (n : nW o = false) (t : WS S H) : WS (a :: S) H := fun b q => (List.mem_cons.mp q).elim (fun e => ⟨o, e ▸ h, n⟩) (t b)
theorem ws1 {H : HH} {a : Addr} {o : MO} (h : H a = some o) (n : nW o = false) : WS [a] H := .cons h n fun _ q => absurd q List.not_mem_nil
noncomputable def Stay (H H' : HH) : Prop := ∀ a o, H a = some o -> nW o = true -> H' a = some o
theorem Stay.trans {H H' H'' : HH} (e : Stay H H') (e' : Stay H' H'') : Stay H H'' := fun a o h n => e' a o (e a o h n) n
theorem Ext.stay {S : List Addr} {H H' : HH} (e : Ext S H H') (w : WS S H) : Stay H H' := fun a o h n => by
 refine e a o (fun q => ?_) h
 obtain ⟨o', h', n'⟩ := w a q
 rw [h] at h'; cases h'; rw [n] at n'; cases n'
theorem BW.ws {H : HH} {w f : Addr} {bits : List Bool} (b : BW H w f bits) : WS [w, f] H := fun a q => by
 refine ch fun g_ h_ => ?_
 obtain ⟨d, y, r, s, h1, h2, _⟩ := b
 refine h_ ?_
 exact WS.cons h1 rfl (ws1 h2 rfl) a q
theorem BW.ext {H H' : HH} {w f : Addr} {bits : List Bool} {S : List Addr} (b : BW H w f bits) (e : Ext S H H') (n1 : w ∉ S) (n2 : f ∉ S) : BW H' w f bits := by
 refine ch fun g_ h_ => ?_
 obtain ⟨d, y, r, s, h1, h2, h3⟩ := b
 refine h_ ?_
 exact ⟨d, y, r, s, e _ _ n1 h1, e _ _ n2 h2, h3⟩
theorem BW.len {H : HH} {w f : Addr} {bits : List Bool} (b : BW H w f bits) : ∃ d o r s, H w = some (.inst 127 d [(0, .ref f), (1, .int (r : Nat)), (2, .int (s : Nat))]) /\ H f = some (.barr o) /\ octBits o ++ bitsOf s r = bits /\ s = bits.length % 8 /\ s < 8 /\ o.length * 8 + s = bits.length := by
 refine ch fun g_ h_ => ?_
 obtain ⟨d, o, r, s, h1, h2, h3, h4, h5⟩ := b
 refine h_ ?_
 have : o.length * 8 + s = bits.length := by rw [<- h3, List.length_append, octBits_len, bitsOf_len]; lia
 exact ⟨d, o, r, s, h1, h2, h3, by lia, h4, this⟩
section
variable {c : Cx} {d : Nat} {H : HH} {X : QX} {Q : QE}
theorem bw_eq {dd f : Addr} {r r' s s' : Int} (h : r = r') (h' : s = s') : some (MO.inst 127 dd [(0, .ref f), (1, .int r), (2, .int s)]) = some (.inst 127 dd [(0, .ref f), (1, .int r'), (2, .int s')]) := by rw [h, h']
theorem E2a {w f : Addr} {H H' : HH} {o : MO} (e : Ext [w, f] H H') : Ext [w, f] H (upd H' w o) := e.set (.head _)
theorem E2b {w f : Addr} {H H' : HH} {o : MO} (e : Ext [w, f] H H') : Ext [w, f] H (upd H' f o) := e.set (.tail _ (.head _))
theorem pw (n : Nat) : (2 : Int) ^ n = ((2 ^ n : Nat) : Int) := (Int.natCast_pow 2 n).symm
theorem pw1 (n : Nat) : ((2 ^ n : Nat) : Int) - 1 = ((2 ^ n - 1 : Nat) : Int) := (Int.ofNat_sub (Nat.two_pow_pos n)).symm
theorem s0 : small 0 := by unfold small; lia
theorem c_103 (W : World0 c) (hd : 2 <= d) {w dd : Addr} (hw : H w = some (.inst 127 dd [])) (k : ∀ f H', H f = none -> f ≠ w -> BW H' w f [] -> Ext [w] H H' -> Q .non H') : CallS c d true 103 [.ref w] H Q X :=
 crule W hd rfl rfl rfl rfl fun G r => r fun f hf G r => r _ _ _ (upd_new hw hf) _ _ _ (upd_same ..) _ _ _ (upd_same ..)
  (k f _ hf (ne_new hw hf).symm ⟨dd, [], 0, 0, upd_same .., by rw [upd_ne (ne_new hw hf).symm, upd_ne (ne_new hw hf).symm, upd_ne (ne_new hw hf).symm, upd_same], rfl, by decide, by decide⟩ ((((Ext.refl.new hf).set (.head _)).set (.head _)).set (.head _)))
theorem put_loop (W : World0 c) (hd : 2 <= d) {ns : NS} {w f : Addr} {dd : Addr} {bits : List Bool} {Fl' : FF} {H0 : HH} {QS' : QS} {cm : Mine.E} {bm : B}
  (hc : cm = E.cmp CmpOp.GtE (E.attr (E.loc 0) 2) (E.int 8))
  (hb : bm = (B.cons (S.asg (T.attr (E.loc 0) 2) (E.bin Operator.Sub (E.attr (E.loc 0) 2) (E.int 8))) (B.cons (S.ex (E.bm (E.attr (E.loc 0) 0) BM.append (L.cons (E.bin Operator.RShift (E.attr (E.loc 0) 1) (E.attr (E.loc 0) 2)) L.nil))) (B.cons (S.asg (T.attr (E.loc 0) 1) (E.bin Operator.BitAnd (E.attr (E.loc 0) 1) (E.bin Operator.Sub (E.bin Operator.LShift (E.int 1) (E.attr (E.loc 0) 2)) (E.int 1)))) B.nil))))
  (k : ∀ H', Ext [w, f] H0 H' -> BW H' w f bits -> QS' .next (some (.ref w) :: Fl') H') :
  ∀ (m : Nat) (H : HH) (o : List UInt8) (r s : Nat), s < m -> s < 32 -> r < 2 ^ s -> o.length + s <= 20000 -> H w = some (.inst 127 dd [(0, .ref f), (1, .int r), (2, .int s)]) -> H f = some (.barr o) -> octBits o ++ bitsOf s r = bits -> Ext [w, f] H0 H ->
   WhlS c d true ns cm bm (some (.ref w) :: Fl') H QS' X
 | 0, H, o, r, s, h1, _, _, _, _, _, _, _ => absurd h1 (Nat.not_lt_zero _)
 | m + 1, H, o, r, s, h1, h1', h2, h3, hw, hf, hbits, he => by
  have nfw : f ≠ w := ne_of hf hw MO.noConfusion
  subst hc; subst hb
  refine wrule W (Nat.le_of_succ_le hd) fun G r' => r' _ _ _ hw (fun q G r' => ?_) fun q G r' => r' (k H he ⟨dd, o, r, s, hw, hf, hbits, Int.ofNat_lt.mp (Int.not_le.mp (of_decide_eq_false q)), h2⟩)
  obtain ⟨t, rfl⟩ : ∃ t, s = t + 8 := ⟨s - 8, (Nat.sub_add_cancel (Int.ofNat_le.mp (of_decide_eq_true q))).symm⟩
  have p8 : r / 2 ^ t < 256 := Nat.div_lt_of_lt_mul (by rw [Nat.pow_add] at h2; exact h2)
  have e4 : r &&& (2 ^ t - 1) = r % 2 ^ t := Nat.and_two_pow_sub_one_eq_mod _ _
  have e5 : ((t + 8 : Nat) : Int) - 8 = (t : Nat) := by lia
  have t0 : (0 : Int) <= ((t + 8 : Nat) : Int) - 8 := by lia
  have t64 : ((t + 8 : Nat) : Int) - 8 <= 64 := by lia
  have e7 : (((t + 8 : Nat) : Int) - 8).toNat = t := by rw [e5]; rfl
  have e6 : ∀ P : Int -> Prop, P ((r / 2 ^ t : Nat) : Int) -> P ((r : Int) / 2 ^ (((t + 8 : Nat) : Int) - 8).toNat) := fun P h => by rw [e7, pw t]; exact h
  have e8 : ∀ P : Int -> Prop, P ((2 ^ t - 1 : Nat) : Int) -> P (1 * 2 ^ (((t + 8 : Nat) : Int) - 8).toNat - 1) := fun P h => by rw [e7, pw t, Int.one_mul, pw1]; exact h
  have hw2 : ∀ o' u, upd (upd H w o') f u w = some o' := fun o' u => (upd_ne nfw.symm).trans (upd_same ..)
  refine r' _ _ _ hw _ _ _ hw _ _ _ (upd_same ..) _ ((upd_ne nfw).trans hf) _ _ _ (upd_same ..) _ _ _ (upd_same ..) t0 _ ((upd_ne nfw).trans hf) (e6 (0 <= ·) (Int.natCast_nonneg _)) (e6 (· < 256) (Int.ofNat_lt.mpr p8)) (by lia)
   _ _ _ (hw2 _ _) _ _ _ (hw2 _ _) t0 t64 s1 (Int.natCast_nonneg _) (e8 (0 <= ·) (Int.natCast_nonneg _)) _ _ _ (hw2 _ _) ?_
  refine put_loop W hd (dd := dd) rfl rfl k m _ (o ++ [(r / 2 ^ t).toUInt8]) (r % 2 ^ t) t (by lia) (by lia) (Nat.mod_lt _ (Nat.two_pow_pos t)) (by rw [List.length_append]; show o.length + 1 + t <= _; lia) ?_ ?_ ?_ (E2a (E2b (E2a he)))
  ·exact (upd_same ..).trans (bw_eq (e8 (fun x => ((r &&& x.toNat : Nat) : Int) = _) (congrArg _ e4)) e5)
  ·exact (upd_ne nfw).trans ((upd_same ..).trans (e6 (fun x => some (MO.barr (o ++ [x.toNat.toUInt8])) = _) rfl))
  ·rw [octBits_app _ _ p8, <- hbits, Nat.add_comm t 8, bitsOf_add, List.append_assoc, bitsOf_mod _ _ _ (Nat.le_refl _)]
theorem c_110 (W : World0 c) (hd : 3 <= d) {w f : Addr} {bits : List Bool} {v n : Nat} (hn : n <= 16) (hv : v < 2 ^ n) (hb : BW H w f bits) (hl : bits.length <= 100000) (k : ∀ H', Ext [w, f] H H' -> BW H' w f (bits ++ bitsOf n v) -> Q .non H') :
  CallS c d true 110 [.ref w, .int v, .int n] H Q X := by
 refine ch fun g_ h_ => ?_
 obtain ⟨dd, o, r, s, h1, h2, h3, h4, h5⟩ := hb
 refine h_ ?_
 have hlen : o.length * 8 + s = bits.length := by rw [<- h3, List.length_append, octBits_len, bitsOf_len]; lia
 have hv' : (v : Int) < 1 * 2 ^ n := by rw [Int.one_mul, pw n]; exact Int.ofNat_lt.mpr hv
 have hr62 : small (r : Int) := by
  have : r < 2 ^ 8 := Nat.lt_of_lt_of_le h5 (Nat.pow_le_pow_right (by decide) (Nat.le_of_lt h4))
  unfold small; lia
 have nfw : f ≠ w := ne_of h2 h1 MO.noConfusion
 have e1 : ((r : Int) * 2 ^ n).toNat ||| v = r * 2 ^ n + v := by
  rw [pw n, <- Int.natCast_mul, Int.toNat_natCast, Nat.mul_comm, <- Nat.two_pow_add_eq_or_of_lt hv]
 have n0 : (0 : Int) <= n := Int.natCast_nonneg n
 have v0 : (0 : Int) <= v := Int.natCast_nonneg v
 have n64 : (n : Int) <= 64 := by lia
 refine crule W (dd2 hd) rfl rfl rfl rfl fun G r' => r' (fun q => absurd (of_decide_eq_true q) (Int.not_lt.mpr n0)) fun _ G r' => r' (fun _ G r' => r' n0 n64 s1 (fun q => absurd hv' (of_decide_eq_false (Bool.not_eq_true' .. ▸ q))) fun _ G r' => r' (fun q => Bool.noConfusion q) fun _ G r' => ?_) (fun q => absurd v0 (of_decide_eq_false q))
 refine r' _ _ _ h1 n0 n64 hr62 (Int.mul_nonneg (Int.natCast_nonneg r) (Int.le_of_lt (pow_pos' n))) v0 _ _ _ h1 _ _ _ (upd_same ..) _ _ _ (upd_same ..) ?_
 refine put_loop W (Mine.dd hd rfl) (dd := dd) (bits := bits ++ bitsOf n v) (H0 := H) rfl rfl (fun H' he hb G r => r (k _ he hb)) (s + n + 1) _ o (r * 2 ^ n + v) (s + n) (Nat.lt_succ_self _) (by lia) ?_ (by lia) ?_ ((upd_ne nfw).trans ((upd_ne nfw).trans h2)) ?_ (E2a (E2a Ext.refl))
 ·rw [Nat.pow_add]
  have : r * 2 ^ n + 2 ^ n <= 2 ^ s * 2 ^ n := by rw [<- Nat.succ_mul]; exact Nat.mul_le_mul_right _ h5
  exact Nat.lt_of_lt_of_le (Nat.add_lt_add_left hv _) this
 ·exact (upd_same ..).trans (bw_eq (congrArg _ e1) rfl)
 ·rw [bitsOf_put hv, <- List.append_assoc, h3]
theorem c_117 (W : World0 c) (hd : 4 <= d) {w f : Addr} {bits : List Bool} (hb : BW H w f bits) (hl : bits.length <= 90000) (k : ∀ H' n, Ext [w, f] H H' -> BW H' w f (bits ++ List.replicate n true) -> n < 8 -> (bits.length + n) % 8 = 0 -> Q .non H') :
  CallS c d true 117 [.ref w] H Q X := by
 refine ch fun g_ h_ => ?_
 obtain ⟨dd, o, r, s, h1, h2, h3, h4, h5, h6⟩ := hb.len
 refine h_ ?_
 have hs8 : s < 8 := h5
 have a0 : (0 : Int) <= 8 - s := Int.sub_nonneg_of_le (Int.ofNat_le.mpr (Nat.le_of_lt hs8))
 have e1 : ((8 : Int) - s).toNat = 8 - s := Int.toNat_sub 8 s
 have e9 : ∀ P : Int -> Int -> Prop, P ((2 ^ (8 - s) - 1 : Nat) : Int) ((8 - s : Nat) : Int) -> P (1 * 2 ^ ((8 : Int) - s).toNat - 1) (8 - s) := fun P h => by
  rw [e1, pw, Int.one_mul, pw1, <- Int.toNat_of_nonneg a0, e1]; exact h
 refine crule W (dd2 (Nat.le_of_succ_le hd)) rfl rfl rfl rfl fun G r' => r' _ _ _ h1 (fun q G r' => r' _ _ _ h1 _ _ _ h1 a0 (by lia) s1 _ _ _ h1 (e9 (fun x y => CallS c _ true 110 [.ref w, .int x, .int y] H _ X)
  (c_110 W (Mine.dd hd rfl) (n := 8 - s) (v := 2 ^ (8 - s) - 1) (Nat.le_trans (Nat.sub_le 8 s) (by decide)) (Nat.sub_lt (Nat.two_pow_pos _) Nat.one_pos) hb (by lia) fun H1 e1 b1 G r' => r' (k _ (8 - s) e1 (bitsOf_ones (8 - s) ▸ b1) ?_ ?_)))) fun q G r' => r' (k _ 0 .refl (by rw [List.replicate_zero, List.append_nil]; exact hb) (by decide) ?_)
 ·exact Nat.sub_lt (by decide) (Int.ofNat_lt.mp (of_decide_eq_true q))
 ·rw [<- Nat.div_add_mod bits.length 8, <- h4, Nat.add_assoc, Nat.add_sub_cancel' (Nat.le_of_lt hs8), Nat.mul_add_mod]
 ·rw [Nat.add_zero, <- h4]; exact Nat.le_zero.mp (Int.ofNat_le.mp (Int.not_lt.mp (of_decide_eq_false q)))
theorem c_124 (W : World0 c) (hd : 2 <= d) {w f : Addr} {bits : List Bool} (hb : BW H w f bits) (h8 : bits.length % 8 = 0) (hl : bits.length <= 90000) (k : ∀ o, octBits o = bits -> o.length * 8 = bits.length -> Q (.bytes o) H) : CallS c d true 124 [.ref w] H Q X := by
 refine ch fun g_ h_ => ?_
 obtain ⟨dd, o, r, s, h1, h2, h3, h4, h5, h6⟩ := hb.len
 refine h_ ?_
 obtain rfl : s = 0 := h4.trans h8
 exact crule W hd rfl rfl rfl rfl fun G r => r _ _ _ h1 _ h2 (by lia) (k o ((List.append_nil _).symm.trans h3) h6)
noncomputable def BR (H : HH) (r : Addr) (rem : List Bool) : Prop := ∃ (d : Addr) (o : List UInt8) (pos : Nat), H r = some (.inst 169 d [(3, .bytes o), (4, .int pos)]) /\ (octBits o).drop pos = rem /\ pos <= 8 * o.length /\ o.length <= 100000
theorem c_145 (W : World0 c) (hd : 2 <= d) {r dd : Addr} {o : List UInt8} (hr : H r = some (.inst 169 dd [])) (ho : o.length <= 100000) (k : ∀ H', Ext [r] H H' -> BR H' r (octBits o) -> Q .non H') : CallS c d true 145 [.ref r, .bytes o] H Q X :=
 crule W hd rfl rfl rfl rfl fun G r' => r' _ _ _ hr _ _ _ (upd_same ..) (k _ (Ext.one.set (.head _)) ⟨dd, o, 0, upd_same .., rfl, Nat.zero_le _, ho⟩)
theorem s8 : small 8 := by unfold small; lia
theorem c_152 (W : World0 c) (hd : 2 <= d) {r : Addr} {rem : List Bool} (hr : BR H r rem) (k : Q (.int rem.length) H) : CallS c d true 152 [.ref r] H Q X := by
 refine ch fun g_ h_ => ?_
 obtain ⟨dd, o, pos, h1, h2, h3, h4⟩ := hr
 refine h_ ?_
 have hl : rem.length = 8 * o.length - pos := by rw [<- h2, List.length_drop, octBits_len]
 have e : (8 : Int) * o.length - pos = rem.length := by lia
 exact crule W hd rfl rfl rfl rfl fun G r' => r' _ _ _ h1 (Nat.le_trans h4 (by decide)) (.inl s8) _ _ _ h1 (e.symm ▸ k)
theorem c_159 (W : World0 c) (hd : 2 <= d) {r : Addr} {rem : List Bool} (hr : BR H r rem) (k : ∀ b t H', rem = b :: t -> Ext [r] H H' -> BR H' r t -> Q (.int (if b then 1 else 0)) H') (kx : rem = [] -> X 75 H) : CallS c d true 159 [.ref r] H Q X := by
 refine ch fun g_ h_ => ?_
 obtain ⟨dd, o, pos, h1, h2, h3, h4⟩ := hr
 refine h_ ?_
 have hl : rem.length = 8 * o.length - pos := by rw [<- h2, List.length_drop, octBits_len]
 have hlo := Nat.le_trans h4 (show 100000 <= 1000000 by decide)
 refine crule W hd rfl rfl rfl rfl fun G r' => r' _ _ _ h1 _ _ _ h1 hlo (.inl s8) (fun q G r' => r' (kx (List.eq_nil_of_length_eq_zero ?_))) (fun q G r' => ?_)
 ·have := of_decide_eq_true q; lia
 ·have hp : pos < (octBits o).length := by have := of_decide_eq_false q; rw [octBits_len]; lia
  have e := List.drop_eq_getElem_cons hp
  rw [h2] at e
  have g := octBits_get o pos
  rw [List.getElem?_eq_getElem hp] at g
  cases w : o[pos / 8]? with
  | none => rw [w] at g; cases g
  | some y =>
   rw [w] at g
   have g : (octBits o)[pos] = y.toNat.testBit (7 - pos % 8) := Option.some.inj g
   have kk := k _ _ (upd H r (.inst 169 dd [(3, .bytes o), (4, .int (pos + 1))])) e .one ⟨dd, o, pos + 1, by rw [upd_same]; rfl, rfl, by rw [octBits_len] at hp; exact hp, h4⟩
   rw [g, Nat.testBit_eq_decide_div_mod_eq] at kk
   have a1 : ((pos : Int) / 2 ^ (3 : Int).toNat).toNat = pos / 8 := by show ((pos : Int) / 8).toNat = pos / 8; lia
   have a2 : pos &&& 7 = pos % 8 := Nat.and_two_pow_sub_one_eq_mod pos 3
   have a3 : ((7 : Int) - (((pos : Int).toNat &&& (7 : Int).toNat : Nat) : Int)).toNat = 7 - pos % 8 := by show ((7 : Int) - ((pos &&& 7 : Nat) : Int)).toNat = _; rw [a2]; lia
   have a4 : (0 : Int) <= 7 - (((pos : Int).toNat &&& (7 : Int).toNat : Nat) : Int) := by show (0 : Int) <= 7 - ((pos &&& 7 : Nat) : Int); rw [a2]; lia
   have a5 : (y.toNat : Int) / 2 ^ ((7 : Int) - (((pos : Int).toNat &&& (7 : Int).toNat : Nat) : Int)).toNat = ((y.toNat / 2 ^ (7 - pos % 8) : Nat) : Int) := by rw [a3, pw]; rfl
   have e9 : ∀ z : Nat, ((z &&& 1 : Nat) : Int) = if decide (z % 2 = 1) = true then 1 else 0 := fun z => by
    rw [Nat.and_one_is_mod]
    rcases Nat.mod_two_eq_zero_or_one z with w | w <;> rw [w] <;> rfl
   refine r' _ _ _ h1 _ _ _ h1 (by decide) hlo (Int.ediv_nonneg (Int.natCast_nonneg _) (by decide)) ?_ y (a1.symm ▸ w) _ _ _ h1 (Int.natCast_nonneg _) (by decide) a4 (a5.symm ▸ Int.natCast_nonneg _) (by decide) _ _ _ h1 _ _ _ h1 ?_
   ·show (pos : Int) / 8 < 2 ^ 62; lia
   ·exact a5.symm ▸ (e9 _).symm ▸ kk
end
noncomputable def Gives {α : Type} (r : Res α) (kok : α -> List Bool -> Prop) (kx : Addr -> Prop) : Prop := match r with
 | .ok a t => kok a t
 | .cut => kx 75
 | .code => kx 63
 | .stuck => False
theorem Gives_bind {α β : Type} {kok : β -> List Bool -> Prop} {kx : Addr -> Prop} (r : Res α) (f : α -> List Bool -> Res β) : Gives (r.bind f) kok kx = Gives r (fun a t => Gives (f a t) kok kx) kx := by cases r <;> rfl
theorem Gives_run {α β : Type} {kok : β -> List Bool -> Prop} {kx : Addr -> Prop} (r : Rd α) (f : α -> Rd β) (s : List Bool) : Gives ((r.bind f).run s) kok kx = Gives (r.run s) (fun a t => Gives ((f a).run t) kok kx) kx := by rw [run_bind, Gives_bind]
theorem Gives.imp {α : Type} {k1 k2 : α -> List Bool -> Prop} {x1 x2 : Addr -> Prop} {r : Res α} (h : Gives r k1 x1) (a : ∀ v t, k1 v t -> k2 v t) (b : ∀ C, x1 C -> x2 C) : Gives r k2 x2 := by
 cases r
 ·exact a _ _ h
 ·exact b _ h
 ·exact b _ h
 ·exact h
theorem bitsT_cut : ∀ (n acc : Nat) (rem : List Bool), rem.length < n -> (bitsT n acc).run rem = .cut
 | 0, _, _, h => absurd h (Nat.not_lt_zero _)
 | n + 1, acc, [], h => rfl
 | n + 1, acc, b :: t, h => bitsT_cut n _ t (Nat.lt_of_succ_lt_succ h)
section
variable {c : Cx} {d : Nat} {H : HH} {X : QX} {Q : QE}
theorem bits_loop (W : World0 c) (hd : 3 <= d) {ns : NS} {r : Addr} {v1 : Option MV} {t : T} {bm : B} {H0 : HH} {QS' : QS} (ht : t = T.loc 3)
  (hb : bm = (B.cons (S.asg (T.loc 2) (E.bin Operator.Add (E.bin Operator.Mult (E.loc 2) (E.int 2)) (E.meth (E.loc 0) 29 L.nil))) B.nil)) :
  ∀ (m : Nat) (cur : Int) (acc : Nat) (a : Int) (rem : List Bool) (H : HH) (tv : Option MV), a = (acc : Int) -> Ext [r] H0 H -> BR H r rem ->
   Gives ((bitsT m acc).run rem) (fun v t => ∀ H' tv', Ext [r] H0 H' -> BR H' r t -> QS' .next [some (.ref r), v1, some (.int v), tv', none, none] H') (fun C => ∀ H', Ext [r] H0 H' -> X C H') ->
   ForS c d true ns t bm (.up cur m) [some (.ref r), v1, some (.int a), tv, none, none] H QS' X
 | 0, cur, acc, a, rem, H, tv, ea, e, br, k => frule_end W (Nat.le_trans (by decide) hd) rfl (ea ▸ k H tv e br)
 | m + 1, cur, acc, a, rem, H, tv, ea, e, br, k => by
  subst ht; subst hb
  refine ch fun g_ h_ => ?_
  obtain ⟨dd, o, pos, h1, h2⟩ := br
  refine h_ ?_
  exact frule_step W (Nat.le_trans (by decide) hd) rfl fun G r' => r' (.inr (by unfold small; lia)) _ _ _ h1 (c_159 W (d0 hd rfl) ⟨dd, o, pos, h1, h2⟩ (fun b t H' er ex br' G r' => by
   subst er
   exact r' (bits_loop W hd (QS' := QS') (H0 := H0) (v1 := v1) (ns := ns) rfl rfl m (cur + 1) (acc * 2 + if b then 1 else 0) _ t H' (some (.int cur)) (by rw [ea]; cases b <;> rfl) (e.trans ex fun _ h => .inl h) br' k))
   fun er => by subst er; exact k H e)
theorem c_166 (W : World0 c) (hd : 4 <= d) {r : Addr} {n : Nat} {rem : List Bool} (hn : n <= 60) (hr : BR H r rem) (k : Gives ((bitsT n 0).run rem) (fun v t => ∀ H', Ext [r] H H' -> BR H' r t -> Q (.int v) H') (fun C => ∀ H', Ext [r] H H' -> X C H')) : CallS c d true 166 [.ref r, .int n] H Q X := by
 refine ch fun g_ h_ => ?_
 obtain ⟨dd, o, pos, h1, h2⟩ := hr
 refine h_ ?_
 have br : BR H r rem := ⟨dd, o, pos, h1, h2⟩
 refine crule W (dd2 (Nat.le_of_succ_le hd)) rfl rfl rfl rfl fun G r' => r' _ _ _ h1 (c_152 W (Mine.dd hd rfl) br fun G r' => r' (fun q G r' => r' ?_) fun q G r' => r' s0 (by unfold small; lia)
  (bits_loop W (Mine.dd hd rfl) (H0 := H) rfl rfl n 0 0 0 rem H none rfl .refl br (k.imp (fun v t k H' tv e b G r' => r' (k H' e b)) fun C k => k)))
 rw [bitsT_cut n 0 rem (Int.ofNat_lt.mp (of_decide_eq_true q))] at k
 exact k H .refl
end
end
section
open PyProof.Rows
noncomputable def symI (j : Nat) : Int := ((symV j : Nat) : Int)
noncomputable def symsL : List Int := (List.range 48).map symI
noncomputable def cntL : List Int := [0, 0, 0, 0, 0, 0, 48, 0, 0, 0, 0, 0, 0, 0, 0, 0]
noncomputable def fstL : List Int := [0, 0, 0, 0, 0, 0, 0, 96, 192, 384, 768, 1536, 3072, 6144, 12288, 24576, 49152]
noncomputable def plcL : List Int := [0, 0, 0, 0, 0, 0, 0, 48, 48, 48, 48, 48, 48, 48, 48, 48, 48]
noncomputable def fI (i : Nat) : Int := fstL.getD i 0
noncomputable def cNt (i : Nat) : Int := cntL.getD i 0
noncomputable def pI (i : Nat) : Int := plcL.getD i 0
noncomputable def RowAt (H : HH) (i : Nat) (v : MV) : Prop := ∃ a, v = .ref a /\ H a = some (.tuple [.int (fI i), .int (cNt i), .int (pI i)])
theorem RowAt.ext {S : List Addr} {H H' : HH} {i : Nat} {v : MV} (h : RowAt H i v) (e : Ext S H H') (n : ∀ a ∈ S, ∀ xs, H a ≠ some (.tuple xs)) : RowAt H' i v := by
 obtain ⟨a, rfl, ha⟩ := h
 exact ⟨a, rfl, e _ _ (fun q => n a q _ ha) ha⟩
noncomputable def RowsTo (H : HH) (rows : List MV) : Prop := ∀ i v, rows[i]? = some v -> RowAt H i v
section
variable {c : Cx} {d : Nat} {H : HH} {X : QX} {Q : QE}
theorem s16 : small 16 := by unfold small; lia
theorem s17 : small 17 := by unfold small; lia
theorem s2 : small 2 := by unfold small; lia
theorem nof {p : Prop} (q : false = true) : p := Bool.noConfusion q
theorem not_ {p : Prop} (q : true = false) : p := Bool.noConfusion q
theorem c_229 (W : World0 c) (hd : 2 <= d) {run : Nat} (h0 : run ≠ 0) (h1 : run < 2 ^ 60) (k : ∀ a, H a = none -> Q (.ref a) (upd H a (.tuple [.int (16 * run.log2 : Nat), .int (run.log2 : Nat)]))) : CallS c d true 229 [.int run] H Q X := by
 have e : (if (run : Int) = 0 then 0 else ((run.log2 + 1 : Nat) : Int)) - 1 = (run.log2 : Nat) := by
  rw [if_neg (fun w => h0 (Int.ofNat_eq_zero.mp w))]; lia
 exact crule W hd rfl rfl rfl rfl fun G r => r (Int.natCast_nonneg _) (.inl s16) fun a ha G r => r (e.symm ▸ k a ha)
theorem fstep : ∀ i : Fin 16, fI i + cNt i < 2 ^ (i.val + 1) \/ cNt i <= 0 := by decide
theorem fnext : ∀ i : Fin 16, (fI i + cNt i) * 2 = fI (i.val + 1) /\ pI i + cNt i = pI (i.val + 1) := by decide
theorem csm (i : Fin 16) : small (cNt i.val) := by
 have : ∀ i : Fin 16, 0 <= cNt i.val /\ cNt i.val <= 48 := by decide
 have := this i
 unfold small; lia
theorem czero : ∀ (i : Fin 16), i.val ≠ 6 -> cNt i.val = 0 := by decide
theorem row_add {H : HH} {rw q : Addr} {rows : List MV} {i : Nat} (hq : H q = none) (h1 : H rw = some (.list rows)) (h2 : rows.length = i) (h3 : RowsTo H rows) :
  RowsTo (upd (upd H q (.tuple [.int (fI i), .int (cNt i), .int (pI i)])) rw (.list (rows ++ [.ref q]))) (rows ++ [.ref q]) := fun j v hv => by
 have hqr : q ≠ rw := fun w => by rw [w, h1] at hq; cases hq
 rcases Nat.lt_or_ge j rows.length with w | w
 ·rw [List.getElem?_append_left w] at hv
  obtain ⟨a, rfl, ha⟩ := h3 j v hv
  exact ⟨a, rfl, by rw [upd_ne (ne_of ha h1 MO.noConfusion), upd_ne (ne_new ha hq), ha]⟩
 ·rw [List.getElem?_append_right w] at hv
  rcases Nat.eq_zero_or_pos (j - rows.length) with z | z
  ·rw [z] at hv
   obtain rfl : j = i := h2 ▸ Nat.le_antisymm (Nat.sub_eq_zero_iff_le.mp z) w
   cases hv
   exact ⟨q, rfl, by rw [upd_ne hqr, upd_same]⟩
  ·rw [List.getElem?_eq_none z] at hv; cases hv
theorem rows_loop (W : World0 c) (hd : 3 <= d) {ns : NS} {p : Addr} {t : T} {bm : B} {H0 : HH} {QS' : QS} {rw : Addr} (hp : H0 p = some (.tuple (mvi cntL))) (hrw : H0 rw = none) (ht : t = T.loc 4)
  (hb : bm = (B.cons (S.asg (T.loc 5) (E.sub (E.loc 0) (E.bin Operator.Sub (E.loc 4) (E.int 1)))) (B.cons (S.ex (E.bm (E.loc 1) BM.append (L.cons (E.tup (L.cons (E.loc 2) (L.cons (E.loc 5) (L.cons (E.loc 3) L.nil)))) L.nil))) (B.cons (S.asg (T.loc 2) (E.bin Operator.Add (E.loc 2) (E.loc 5))) (B.cons (S.asg (T.loc 3) (E.bin Operator.Add (E.loc 3) (E.loc 5))) (B.cons (S.ife (E.and (L.cons (E.cmp CmpOp.GtE (E.loc 2) (E.bin Operator.Pow (E.int 2) (E.loc 4))) (L.cons (E.cmp CmpOp.Gt (E.loc 5) (E.int 0)) L.nil))) (B.cons S.dead B.nil) B.nil) (B.cons (S.asg (T.loc 2) (E.bin Operator.Mult (E.loc 2) (E.int 2))) B.nil)))))))
  (k : ∀ H' v2 v3 v4 v5 rows, Ext [rw] H0 H' -> H' rw = some (.list rows) -> rows.length = 16 -> RowsTo H' rows -> QS' .next [some (.ref p), some (.ref rw), v2, v3, v4, v5, none, none, none] H') :
  ∀ (m i : Nat), i + m = 16 -> ∀ (H : HH) (x y : Int) (v4 v5 : Option MV) (rows : List MV), x = fI i -> y = pI i -> Ext [rw] H0 H -> H rw = some (.list rows) -> rows.length = i -> RowsTo H rows ->
   ForS c d true ns t bm (.up ((i : Int) + 1) m) [some (.ref p), some (.ref rw), some (.int x), some (.int y), v4, v5, none, none, none] H QS' X := fun m => by
 have hd1 := d0 (b := 1) hd rfl
 have hpr : p ∉ [rw] := fun q => by rw [List.mem_singleton.mp q, hrw] at hp; cases hp
 subst ht; subst hb
 induction m with
 | zero => exact fun i him H x y v4 v5 rows hx hy e h1 h2 h3 => frule_end W hd1 rfl (k H _ _ _ _ rows e h1 (h2.trans him) h3)
 | succ m ih =>
  intro i him H x y v4 v5 rows hx hy e h1 h2 h3
  subst hx; subst hy
  have hi : i < 16 := him ▸ Nat.lt_add_of_pos_right (Nat.succ_pos m)
  have g : (mvi cntL)[i]? = some (.int (cNt i)) := by
   rw [mvi_get, List.getElem?_eq_getElem (show i < cntL.length from hi)]
   exact congrArg (fun x => some (MV.int x)) (List.getElem_eq_getD 0)
  have j0 : ((i : Int) + 1 - 1) = i := Int.add_sub_cancel ..
  have i62 : (i : Int) + 1 - 1 < 2 ^ 62 := by lia
  have i0 : 0 <= (i : Int) + 1 - 1 := by rw [j0]; exact Int.natCast_nonneg i
  have g' : (mvi cntL)[((i : Int) + 1 - 1).toNat]? = some (.int (cNt i)) := by rw [j0]; exact g
  have i64 : (i : Int) + 1 <= 64 := by lia
  have a1 := fstep ⟨i, hi⟩
  have a2 := fnext ⟨i, hi⟩
  refine frule_step W hd1 rfl fun G r => r _ (e _ _ hpr hp) i0 i62 _ g' _ h1 fun q hq G r => ?_
  have kk := ih (i + 1) ((Nat.succ_add_eq_add_succ i m).trans him) _ _ _ (some (.int (i + 1))) (some (.int (cNt i))) (rows ++ [.ref q]) a2.1 a2.2 ((e.new hq).set (.head _)) (upd_same ..) (by rw [List.length_append, h2]; rfl) (row_add hq h1 h2 h3)
  exact r _ (upd_new h1 hq) (by lia) (.inl rfl) (Int.natCast_nonneg (i + 1)) i64
   (fun w G r => r (fun w' => (a1.elim (fun z => absurd z (Int.not_lt.mpr (of_decide_eq_true w))) fun z => absurd z (Int.not_le.mpr (of_decide_eq_true w')))) fun _ G r => r nof fun _ G r => r (.inr s2) kk)
   fun w G r => r nof fun _ G r => r (.inr s2) kk
theorem c_180 (W : World0 c) (hd : 4 <= d) {p : Addr} (hp : H p = some (.tuple (mvi cntL))) (k : ∀ H' rw rows, H rw = none -> Ext [] H H' -> H' rw = some (.list rows) -> rows.length = 16 -> RowsTo H' rows -> Q (.ref rw) H') : CallS c d true 180 [.ref p] H Q X :=
 crule W (d0 hd rfl) rfl rfl rfl rfl fun G r => r fun rw hrw G r => r _ (upd_new hp hrw) (by decide) s1 (by unfold small; decide)
  (rows_loop W (dd hd rfl) (H0 := H) (p := p) (rw := rw) hp hrw rfl rfl (fun H' v2 v3 v4 v5 rows e h1 h2 h3 G r => r (k H' rw rows hrw (e.mono fun a w => .inr (List.mem_singleton.mp w ▸ hrw)) h1 h2 h3)) 16 0 rfl _ _ _ _ _ [] rfl rfl Ext.one (upd_same ..) rfl fun i v h => by cases h)
theorem symsL_get : ∀ j : Nat, j < 48 -> symsL[j]? = some (symI j) := fun j h => by simp [symsL, h]
theorem symsL_mv (j : Nat) (h : j < 48) : (mvi symsL)[j]? = some (.int (symI j)) := by rw [mvi_get, symsL_get j h]; rfl
theorem sym_inj {i j : Nat} (h : 16 * (i / 3) + i % 3 = 16 * (j / 3) + j % 3) : i = j := by
 have e : ∀ k, (16 * (k / 3) + k % 3) / 16 = k / 3 := fun k => by rw [Nat.mul_add_div (by decide), Nat.div_eq_of_lt (Nat.lt_trans (Nat.mod_lt _ (by decide)) (by decide)), Nat.add_zero]
 have q : i / 3 = j / 3 := by rw [<- e i, h, e j]
 rw [q] at h
 rw [<- Nat.div_add_mod i 3, q, Nat.add_left_cancel h, Nat.div_add_mod]
theorem symI_inj {i j : Nat} (h : symI i = symI j) : i = j := sym_inj (Int.ofNat_inj.mp h)
theorem symsL_new : ∀ j : Nat, j < 48 -> symI j ∉ symsL.take j := fun j h w => by
 obtain ⟨k, hk, e⟩ := List.mem_iff_getElem.mp w
 rw [List.length_take] at hk
 simp [symsL] at e
 exact absurd (symI_inj e) (Nat.ne_of_lt (Nat.lt_of_lt_of_le hk (Nat.min_le_left ..)))
theorem symsL_len : symsL.length = 48 := by simp [symsL]
theorem nx_list {H : HH} {q : Addr} {xs : List MV} {i : Nat} {v : MV} (h : H q = some (.list xs)) (g : xs[i]? = some v) : nextOf H (.list q i) = some (some (v, .list q (i + 1))) := by
 show (match H q with | some (.list xs) => (match xs[i]? with | some v => some (some (v, ItS.list q (i + 1))) | none => some none) | _ => none) = _
 rw [h]; show (match xs[i]? with | some v => some (some (v, ItS.list q (i + 1))) | none => some none) = _; rw [g]
theorem nx_end {H : HH} {q : Addr} {xs : List MV} {i : Nat} (h : H q = some (.list xs)) (g : xs.length <= i) : nextOf H (.list q i) = some none := by
 show (match H q with | some (.list xs) => (match xs[i]? with | some v => some (some (v, ItS.list q (i + 1))) | none => some none) | _ => none) = _
 rw [h]; show (match xs[i]? with | some v => some (some (v, ItS.list q (i + 1))) | none => some none) = _; rw [List.getElem?_eq_none g]
theorem told_loop (W : World0 c) (hd : 2 <= d) {ns : NS} {v0 : Option MV} {q met : Addr} {t : T} {bm : B} {H0 : HH} {QS' : QS} (hq : H0 q = some (.list (mvi symsL))) (hm : H0 met = none) (ht : t = T.loc 3)
  (hb : bm = (B.cons (S.ife (E.cmp CmpOp.In (E.loc 3) (E.loc 2)) (B.cons S.dead B.nil) B.nil) (B.cons (S.ex (E.bm (E.loc 2) BM.add (L.cons (E.loc 3) L.nil))) B.nil)))
  {F' : FF} (k : ∀ H' v3, Ext [met] H0 H' -> QS' .next (v0 :: some (.ref q) :: some (.ref met) :: v3 :: F') H') :
  ∀ (m i : Nat), i + m = 48 -> ∀ (H : HH) (v3 : Option MV), Ext [met] H0 H -> H met = some (.iset (symsL.take i)) ->
   ForS c d true ns t bm (.list q i) (v0 :: some (.ref q) :: some (.ref met) :: v3 :: F') H QS' X := fun m => by
 have hd1 := d0 (b := 1) hd rfl
 have hqm : q ∉ [met] := fun w => by rw [List.mem_singleton.mp w, hm] at hq; cases hq
 subst ht; subst hb
 induction m with
 | zero => exact fun i him H v3 e h1 => frule_end W hd1 (nx_end (e _ _ hqm hq) (by rw [mvi_len, symsL_len]; exact Nat.le_of_eq him.symm)) (k H v3 e)
 | succ m ih =>
  intro i him H v3 e h1
  have hi : i < 48 := him ▸ Nat.lt_add_of_pos_right (Nat.succ_pos m)
  have hn := symsL_new i hi
  have hl : (symsL.take i).length <= 1000 := Nat.le_trans (List.length_take_le ..) (Nat.le_trans (Nat.le_of_lt hi) (by decide))
  exact frule_step W hd1 (nx_list (e _ _ hqm hq) (symsL_mv i hi)) fun G r => r _ h1 hl (fun w => absurd (of_decide_eq_true w) hn) fun _ G r => r _ h1 _ h1 hl hn
   (ih (i + 1) ((Nat.succ_add_eq_add_succ i m).trans him) _ _ (e.set (.head _)) (by rw [upd_same, List.take_add_one, symsL_get i hi]; rfl))
theorem cntL_pos : ∀ m ∈ cntL, 0 <= m := by decide
theorem symsL_len2 {n : Nat} (h : 48 <= n) : (mvi symsL).length <= n := by rw [mvi_len, symsL_len]; exact h
theorem c_187 (W : World0 c) (hd : 3 <= d) {p q : Addr} (hp : H p = some (.list (mvi cntL))) (hq : H q = some (.list (mvi symsL))) (k : ∀ H', Ext [] H H' -> Q .non H') : CallS c d true 187 [.ref p, .ref q] H Q X :=
 crule W (dd2 hd) rfl rfl rfl rfl fun G r => r _ hp (by decide) (fun w => nof w) fun _ G r => r cntL hp (by decide) (by decide) fun m hm _ G r => r (fun w => absurd (of_decide_eq_true w) (Int.not_lt.mpr (cntL_pos m hm))) fun _ G r => r nof fun _ G r =>
  r cntL hp (by decide) _ hq (symsL_len2 (by decide)) (fun w => nof w) fun _ G r => r _ hq (symsL_len2 (by decide)) (fun w => nof w) fun _ G r => r nof fun _ G r => r fun met hmet G r => r _ (upd_new hq hmet)
   (told_loop W (dd hd rfl) hq hmet rfl rfl (fun H' v3 e G r => r (k H' (e.mono fun a w => .inr (List.mem_singleton.mp w ▸ hmet)))) 48 0 rfl _ _ Ext.one (upd_same ..))
theorem putI_cons {g b : Int} {u v : MV} {es : List (Int × MV)} : putI b v ((g, u) :: es) = if g = b then (g, v) :: es else (g, u) :: putI b v es := rfl
theorem getI_put (es : List (Int × MV)) (a b : Int) (v : MV) : getI a (putI b v es) = if b = a then some v else getI a es := by
 induction es with
 | nil => rfl
 | cons x es ih =>
  obtain ⟨g, u⟩ := x
  rw [putI_cons, getI_cons]
  by_cases h : g = b
  ·subst h
   rw [if_pos rfl, getI_cons]
   by_cases w : g = a
   ·rw [if_pos w, if_pos w]
   ·rw [if_neg w, if_neg w, if_neg w]
  ·rw [if_neg h, getI_cons, ih]
   by_cases w : g = a
   ·rw [if_pos w, if_pos w, if_neg fun q => h (w.trans q.symm)]
   ·rw [if_neg w, if_neg w]
theorem putI_len (es : List (Int × MV)) (b : Int) (v : MV) (h : getI b es = none) : (putI b v es).length = es.length + 1 := by
 induction es with
 | nil => rfl
 | cons x es ih =>
  obtain ⟨g, u⟩ := x
  rw [getI_cons] at h
  by_cases w : g = b
  ·rw [if_pos w] at h; cases h
  ·rw [if_neg w] at h
   rw [putI_cons, if_neg w, List.length_cons, List.length_cons, ih h]
noncomputable def Codes (H : HH) (co : Addr) (n : Nat) : Prop := ∃ es, H co = some (.idict es) /\ es.length = n /\ (∀ j, j < n -> ∃ a, getI (symI j) es = some (.ref a) /\ H a = some (.tuple [.int j, .int 7])) /\ (∀ s, (∀ j, j < n -> s ≠ symI j) -> getI s es = none)
theorem code_loop (W : World0 c) (hd : 2 <= d) {ns : NS} {tb dd cs sy rw co : Addr} {t : T} {bm : B} {H0 : HH} {QS' : QS} (htb : H0 tb = some (.inst 218 dd [(5, .ref cs), (6, .ref sy), (7, .ref rw), (8, .ref co)])) (hsy : H0 sy = some (.tuple (mvi symsL))) (hco : H0 co = some (.idict [])) (ht : t = T.loc 7)
  (hb : bm = (B.cons (S.asg (T.sub (E.attr (E.loc 0) 8) (E.sub (E.attr (E.loc 0) 6) (E.bin Operator.Add (E.loc 6) (E.loc 7)))) (E.tup (L.cons (E.bin Operator.Add (E.loc 4) (E.loc 7)) (L.cons (E.loc 3) L.nil)))) B.nil))
  {v1 v2 v5 : Option MV} {F' : FF} (k : ∀ H' v7, Ext [co] H0 H' -> Codes H' co 48 -> QS' .next (some (.ref tb) :: v1 :: v2 :: some (.int 7) :: some (.int 0) :: v5 :: some (.int 0) :: v7 :: F') H') :
  ∀ (m i : Nat), i + m = 48 -> ∀ (H : HH) (v7 : Option MV), Ext [co] H0 H -> Codes H co i ->
   ForS c d true ns t bm (.up i m) (some (.ref tb) :: v1 :: v2 :: some (.int 7) :: some (.int 0) :: v5 :: some (.int 0) :: v7 :: F') H QS' X := fun m => by
 have hd1 := d0 (b := 1) hd rfl
 have n1 : tb ∉ [co] := fun w => ne_of htb hco MO.noConfusion (List.mem_singleton.mp w)
 have n2 : sy ∉ [co] := fun w => ne_of hsy hco MO.noConfusion (List.mem_singleton.mp w)
 subst ht; subst hb
 induction m with
 | zero => exact fun i him H v7 e hc => frule_end W hd1 rfl (k H v7 e ((show i = 48 from him) ▸ hc))
 | succ m ih =>
  intro i him H v7 e hc
  refine ch fun g_ h_ => ?_
  obtain ⟨es, h1, h2, h3, h4⟩ := hc
  refine h_ ?_
  have hi : i < 48 := him ▸ Nat.lt_add_of_pos_right (Nat.succ_pos m)
  have e1 := e _ _ n1 htb
  have e2 := e _ _ n2 hsy
  have z : (0 : Int) + i = i := Int.zero_add _
  have hnew : getI (symI i) es = none := h4 _ fun j hj w => Nat.ne_of_gt hj (symI_inj w)
  refine frule_step W hd1 rfl fun G r => r fun q hq G r => r _ _ _ (upd_new e1 hq) _ _ _ (upd_new e1 hq) _ (upd_new e2 hq) (by rw [z]; exact Int.natCast_nonneg i) (by rw [z]; lia) (.int (symI i)) (by rw [z]; exact symsL_mv i hi) _ (upd_new h1 hq) hnew (by lia) ?_
  have nq : q ≠ co := fun w => by rw [w, h1] at hq; cases hq
  refine ih (i + 1) ((Nat.succ_add_eq_add_succ i m).trans him) _ _ ((e.new hq).set (.head _)) ⟨_, upd_same .., by rw [putI_len _ _ _ hnew, h2], fun j hj => ?_, fun s hs => ?_⟩
  ·by_cases w : j = i
   ·subst w
    exact ⟨q, by rw [getI_put, if_pos rfl], by rw [upd_ne nq, upd_same, z]⟩
   ·obtain ⟨a, ga, ha⟩ := h3 j (Nat.lt_of_le_of_ne (Nat.le_of_lt_succ hj) w)
    exact ⟨a, by rw [getI_put, if_neg (fun z => w (symI_inj z).symm)]; exact ga, by rw [upd_ne (ne_of ha h1 MO.noConfusion), upd_new ha hq]⟩
  ·rw [getI_put, if_neg (fun z => hs i (Nat.lt_succ_self i) z.symm)]
   exact h4 s fun j hj => hs j (Nat.lt_succ_of_lt hj)
noncomputable def Tb (H : HH) (tb : Addr) : Prop := ∃ dd cs sy rw co rows, H tb = some (.inst 218 dd [(5, .ref cs), (6, .ref sy), (7, .ref rw), (8, .ref co)]) /\ H sy = some (.tuple (mvi symsL)) /\ H rw = some (.list rows) /\ rows.length = 16 /\ RowsTo H rows /\ Codes H co 48
theorem Tb.stay {H H' : HH} {tb : Addr} (h : Tb H tb) (e : Stay H H') : Tb H' tb := by
 refine ch fun g_ h_ => ?_
 obtain ⟨dd, cs, sy, rw, co, rows, h1, h2, h3, h4, h5, es, c1, c2, c3, c4⟩ := h
 refine h_ ?_
 refine ⟨dd, cs, sy, rw, co, rows, e _ _ h1 rfl, e _ _ h2 rfl, e _ _ h3 rfl, h4, fun i v w => ?_, es, e _ _ c1 rfl, c2, fun j hj => ?_, c4⟩
 ·obtain ⟨a, rfl, ha⟩ := h5 i v w
  exact ⟨a, rfl, e _ _ ha rfl⟩
 ·obtain ⟨a, ga, ha⟩ := c3 j hj
  exact ⟨a, ga, e _ _ ha rfl⟩
theorem table_loop (W : World0 c) (hd : 3 <= d) {ns : NS} {tb dd cs sy rw co : Addr} {rows : List MV} {t : T} {bm : B} {H0 : HH} {QS' : QS} (htb : H0 tb = some (.inst 218 dd [(5, .ref cs), (6, .ref sy), (7, .ref rw), (8, .ref co)])) (hsy : H0 sy = some (.tuple (mvi symsL))) (hco : H0 co = some (.idict [])) (hrw : H0 rw = some (.list rows)) (hlen : rows.length = 16) (hrows : RowsTo H0 rows) (ht : t = T.loc 3)
  (hb : bm = (B.cons (S.asg (T.locs [4, 5, 6]) (E.sub (E.attr (E.loc 0) 7) (E.bin Operator.Sub (E.loc 3) (E.int 1)))) (B.cons (S.forr (T.loc 7) (IT.up (E.int 0) (E.loc 5)) (B.cons (S.asg (T.sub (E.attr (E.loc 0) 8) (E.sub (E.attr (E.loc 0) 6) (E.bin Operator.Add (E.loc 6) (E.loc 7)))) (E.tup (L.cons (E.bin Operator.Add (E.loc 4) (E.loc 7)) (L.cons (E.loc 3) L.nil)))) B.nil)) B.nil)))
  {v1 v2 : Option MV} {F' : FF} (k : ∀ H' v3 v4 v5 v6 v7, Ext [co] H0 H' -> Codes H' co 48 -> QS' .next (some (.ref tb) :: v1 :: v2 :: v3 :: v4 :: v5 :: v6 :: v7 :: F') H') :
  ∀ (m i : Nat), i + m = 16 -> ∀ (H : HH) (v3 v4 v5 v6 v7 : Option MV), Ext [co] H0 H -> (i <= 6 -> H co = some (.idict [])) -> (6 < i -> Codes H co 48) ->
   ForS c d true ns t bm (.up ((i : Int) + 1) m) (some (.ref tb) :: v1 :: v2 :: v3 :: v4 :: v5 :: v6 :: v7 :: F') H QS' X := fun m => by
 have hd1 := d0 (b := 1) hd rfl
 have n1 : tb ∉ [co] := fun w => ne_of htb hco MO.noConfusion (List.mem_singleton.mp w)
 have n2 : rw ∉ [co] := fun w => ne_of hrw hco MO.noConfusion (List.mem_singleton.mp w)
 have n3 : sy ∉ [co] := fun w => ne_of hsy hco MO.noConfusion (List.mem_singleton.mp w)
 subst ht; subst hb
 induction m with
 | zero => exact fun i him H v3 v4 v5 v6 v7 e c1 c2 => frule_end W hd1 rfl (k H _ _ _ _ _ e (c2 ((show i = 16 from him) ▸ by decide)))
 | succ m ih =>
  intro i him H v3 v4 v5 v6 v7 e c1 c2
  have hi : i < 16 := him ▸ Nat.lt_add_of_pos_right (Nat.succ_pos m)
  have hri : rows[i]? = some rows[i] := List.getElem?_eq_getElem (hlen ▸ hi)
  obtain ⟨a, ea, ha⟩ := hrows i _ hri
  rw [ea] at hri
  have e1 := e _ _ n1 htb
  have e4 := e _ _ (fun w => ne_of ha hco MO.noConfusion (List.mem_singleton.mp w)) ha
  have j0 : ((i : Int) + 1 - 1) = i := by lia
  have i0 : 0 <= (i : Int) + 1 - 1 := by rw [j0]; exact Int.natCast_nonneg i
  have i62 : (i : Int) + 1 - 1 < 2 ^ 62 := by lia
  refine frule_step W hd1 rfl fun G r => r _ _ _ e1 _ (e _ _ n2 hrw) i0 i62 (.ref a) (by rw [j0]; exact hri) _ e4 s0 (csm ⟨i, hi⟩) ?_
  by_cases h6 : i = 6
  ·subst h6
   have c1' := c1 (Nat.le_refl 6)
   exact code_loop W (d0 hd rfl) (H0 := H) (co := co) e1 (e _ _ n3 hsy) c1' rfl rfl (fun H' v7 ex hc G r => r (ih 7 ((Nat.succ_add_eq_add_succ 6 m).trans him) H' _ _ _ _ _ (e.trans ex fun _ h => .inl h) (fun w => absurd w (by decide)) fun _ => hc)) 48 0 rfl H _ .refl ⟨[], c1', rfl, fun j hj => absurd hj (Nat.not_lt_zero _), fun s hs => rfl⟩
  ·exact frule_end W hd1 (by rw [czero ⟨i, hi⟩ h6]; rfl) fun G r => r (ih (i + 1) ((Nat.succ_add_eq_add_succ i m).trans him) H _ _ _ _ _ e (fun w => c1 (Nat.le_of_succ_le w)) fun w => c2 (Nat.lt_of_le_of_ne (Nat.le_of_lt_succ w) (Ne.symm h6)))
theorem nns {α : Type} {x : α} {p : Prop} (h : none = some x) : p := nomatch h
theorem c_201 (W : World0 c) (hd : 6 <= d) {tb dd p q : Addr} (htb : H tb = some (.inst 218 dd [])) (hp : H p = some (.list (mvi cntL))) (hq : H q = some (.list (mvi symsL))) (k : ∀ H', Ext [tb] H H' -> Tb H' tb -> Q .non H') : CallS c d true 201 [.ref tb, .ref p, .ref q] H Q X := by
 have nq : q ≠ tb := ne_of hq htb MO.noConfusion
 have no : ∀ (a : Addr), a ∉ ([] : List Addr) := fun _ => List.not_mem_nil
 refine crule W (d0 hd rfl) rfl rfl rfl rfl fun G r => r (c_187 W (Mine.dd hd rfl) hp hq fun H1 e1 G r => ?_)
 have t1 := e1 _ _ (no _) htb
 refine r _ (e1 _ _ (no _) hp) (by decide) fun cs hcs G r => ?_
 have nc : cs ≠ tb := (ne_new t1 hcs).symm
 refine r _ _ _ (upd_new t1 hcs) _ ((upd_ne nq).trans (upd_new (e1 _ _ (no _) hq) hcs)) (symsL_len2 (by decide)) fun sy hsy G r => ?_
 have nsy : sy ≠ tb := (ne_new (upd_same ..) hsy).symm
 refine r _ _ _ (upd_new (upd_same ..) hsy) _ _ _ (upd_same ..) (c_180 W (Mine.dd hd rfl) ((upd_ne nc).trans (upd_new ((upd_ne nc).trans (upd_same ..)) hsy)) fun H3 rw rows hrw e3 r1 r2 r3 G r => ?_)
 have tH := e3 _ _ (no _) (upd_same ..)
 have nrw : rw ≠ tb := (ne_new (upd_same ..) hrw).symm
 have sH := (upd_ne (H := H3) (o := .inst 218 dd [(5, .ref cs), (6, .ref sy), (7, .ref rw)]) nsy).trans (e3 _ _ (no _) ((upd_ne nsy).trans (upd_same ..)))
 have rH := (upd_ne (H := H3) (o := .inst 218 dd [(5, .ref cs), (6, .ref sy), (7, .ref rw)]) nrw).trans r1
 refine r _ _ _ tH fun co hco G r => ?_
 have nco : co ≠ tb := (ne_new (upd_same ..) hco).symm
 have e4 : Ext [tb] H (upd H3 tb (.inst 218 dd [(5, .ref cs), (6, .ref sy), (7, .ref rw)])) := ((((((e1.mono fun _ h => absurd h (no _)).new hcs).set (.head _)).new hsy).set (.head _)).trans e3 fun _ h => absurd h (no _)).set (.head _)
 have hcH : H co = none := by
  cases w : H co with
  | none => rfl
  | some o => exact nns (hco.symm.trans (e4 _ _ (fun h => nco (List.mem_singleton.mp h)) w))
 have cG : upd (upd (upd H3 tb (.inst 218 dd [(5, .ref cs), (6, .ref sy), (7, .ref rw)])) co (.idict [])) tb (.inst 218 dd [(5, .ref cs), (6, .ref sy), (7, .ref rw), (8, .ref co)]) co = some (.idict []) := (upd_ne nco).trans (upd_same ..)
 have sG := (upd_ne (o := .inst 218 dd [(5, .ref cs), (6, .ref sy), (7, .ref rw), (8, .ref co)]) nsy).trans (upd_new (o' := .idict []) sH hco)
 have rG := (upd_ne (o := .inst 218 dd [(5, .ref cs), (6, .ref sy), (7, .ref rw), (8, .ref co)]) nrw).trans (upd_new (o' := .idict []) rH hco)
 have rrG : RowsTo (upd (upd (upd H3 tb (.inst 218 dd [(5, .ref cs), (6, .ref sy), (7, .ref rw)])) co (.idict [])) tb (.inst 218 dd [(5, .ref cs), (6, .ref sy), (7, .ref rw), (8, .ref co)])) rows := fun i v w => by
  obtain ⟨a, rfl, ha⟩ := r3 i v w
  have na : a ≠ tb := ne_of ha tH MO.noConfusion
  exact ⟨a, rfl, (upd_ne na).trans (upd_new ((upd_ne na).trans ha) hco)⟩
 refine r _ _ _ (upd_new (upd_same ..) hco) s1 s17 (table_loop W (Mine.dd hd rfl) (upd_same ..) sG cG rG r2 rrG rfl rfl (fun H6 v3 v4 v5 v6 v7 e6 c6 G r => r ?_) 16 0 rfl _ _ _ _ _ _ .refl (fun _ => cG) fun w => absurd w (by decide))
 have nn : ∀ {a o}, upd (upd (upd H3 tb (.inst 218 dd [(5, .ref cs), (6, .ref sy), (7, .ref rw)])) co (.idict [])) tb (.inst 218 dd [(5, .ref cs), (6, .ref sy), (7, .ref rw), (8, .ref co)]) a = some o -> o ≠ .idict [] -> a ∉ [co] := fun h n w => by rw [List.mem_singleton.mp w, cG] at h; cases h; exact n rfl
 exact k H6 (((e4.new hco).set (.head _)).trans e6 fun a h => .inr (List.mem_singleton.mp h ▸ hcH)) ⟨dd, cs, sy, rw, co, rows, e6 _ _ (nn (upd_same ..) nofun) (upd_same ..), e6 _ _ (nn sG nofun) sG, e6 _ _ (nn rG nofun) rG, r2,
  fun i v w => (rrG i v w).ext e6 (fun a ha xs z => nn z nofun ha), c6⟩
theorem c_208 (W : World0 c) (hd : 2 <= d) {tb : Addr} {z m : Nat} {x : Int} (hz : z < 16) (hm : m < 3) (hx : x = ((16 * z + m : Nat) : Int)) (ht : Tb H tb) (k : ∀ a, H a = some (.tuple [.int (3 * z + m : Nat), .int 7]) -> Q (.ref a) H) : CallS c d true 208 [.ref tb, .int x] H Q X := by
 subst hx
 refine ch fun g_ h_ => ?_
 obtain ⟨dd, cs, sy, rw, co, rows, h1, h2, h3, h4, h5, es, c1, c2, c3, c4⟩ := ht
 obtain ⟨a, ga, ha⟩ := c3 (3 * z + m) (by lia)
 refine h_ ?_
 have e : symI (3 * z + m) = ((16 * z + m : Nat) : Int) := congrArg Int.ofNat (sym_dm hm)
 rw [e] at ga
 exact crule W hd rfl rfl rfl rfl fun G r => r _ _ _ h1 es c1 es _ c1 ga (fun w => nof w) fun _ G r => r (k a ha)
theorem BR.ws {H : HH} {r : Addr} {rem : List Bool} (h : BR H r rem) : WS [r] H := fun a q => by
 refine ch fun g_ h_ => ?_
 obtain ⟨dd, o, pos, h1, h2⟩ := h
 refine h_ ?_
 exact ws1 h1 rfl a q
theorem acc2 {a i : Nat} {b : Bool} (h : a < 2 ^ i) : a * 2 + (if b then 1 else 0) < 2 ^ (i + 1) := by
 rw [Nat.pow_succ]
 refine Nat.lt_of_lt_of_le ?_ (Nat.mul_le_mul_right 2 h)
 rw [Nat.succ_mul]
 cases b <;> exact Nat.add_lt_add_left (by decide) _
theorem czf : ∀ i : Fin 6, cNt i.val = 0 /\ fI i.val = 0 := by decide
theorem read_loop (W : World0 c) (hd : 3 <= d) {ns : NS} {tb r rw : Addr} {rows : List MV} {t : T} {bm : B} {H0 : HH} {QS' : QS} {rem0 : List Bool} (h0 : BR H0 r rem0) {dd cs sy co : Addr} (htb : H0 tb = some (.inst 218 dd [(5, .ref cs), (6, .ref sy), (7, .ref rw), (8, .ref co)])) (hsy : H0 sy = some (.tuple (mvi symsL))) (hrw : H0 rw = some (.list rows)) (hlen : rows.length = 16) (hrows : RowsTo H0 rows) (ht : t = T.locs [3, 4, 5])
  (hb : bm = (B.cons (S.asg (T.loc 2) (E.bin Operator.Add (E.bin Operator.Mult (E.loc 2) (E.int 2)) (E.meth (E.loc 1) 29 L.nil))) (B.cons (S.ife (E.cmp CmpOp.Lt (E.bin Operator.Sub (E.loc 2) (E.loc 3)) (E.loc 4)) (B.cons (S.ret (E.sub (E.attr (E.loc 0) 6) (E.bin Operator.Sub (E.bin Operator.Add (E.loc 5) (E.loc 2)) (E.loc 3)))) B.nil) B.nil) B.nil))) :
  ∀ (m i : Nat), i + m = 6 -> ∀ (H : HH) (x : Int) (acc : Nat) (rem : List Bool) (v3 v4 v5 : Option MV), x = (acc : Int) -> acc < 2 ^ i -> Ext [r] H0 H -> BR H r rem ->
   Gives (((bitsT (m + 1) acc).bind fun c => if c < 48 then .done (symV c) else .stuck).run rem) (fun s t => ∀ F' H', Ext [r] H0 H' -> BR H' r t -> QS' (.ret (.int s)) F' H') (fun C => ∀ H', Ext [r] H0 H' -> X C H') ->
   ForS c d true ns t bm (.list rw i) [some (.ref tb), some (.ref r), some (.int x), v3, v4, v5, none] H QS' X := fun m => by
 have hd1 := d0 (b := 1) hd rfl
 have nx : ∀ a ∈ [r], a ∈ [r] \/ H0 a = none := fun _ h => .inl h
 have ec : ∀ (acc : Nat) (b : Bool), (acc : Int) * 2 + (if b then 1 else 0) = ((acc * 2 + (if b then 1 else 0) : Nat) : Int) := fun acc b => by cases b <;> rfl
 subst ht; subst hb
 induction m with
 | zero =>
  intro i him H x acc rem v3 v4 v5 hx hacc e br k
  obtain rfl : i = 6 := him
  subst hx
  have st := e.stay h0.ws
  have hri : rows[6]? = some rows[6] := List.getElem?_eq_getElem (hlen ▸ by decide)
  obtain ⟨a, ea, ha⟩ := hrows 6 _ hri
  rw [ea] at hri
  refine ch fun g_ h_ => ?_
  obtain ⟨rd, ro, rp, b1, b2⟩ := br
  refine h_ ?_
  refine frule_step W hd1 (nx_list (st _ _ hrw rfl) hri) fun G r => r _ (st _ _ ha rfl) (.inr s2) _ _ _ b1 (c_159 W (d0 hd rfl) ⟨rd, ro, rp, b1, b2⟩ (fun b t H' er ex br' G r => ?_) fun er => by subst er; exact k H e)
  subst er
  have e' := e.trans ex nx
  have st' := e'.stay h0.ws
  have hx := ec acc b
  replace k : Gives ((if acc * 2 + (if b then 1 else 0) < 48 then .done (symV (acc * 2 + (if b then 1 else 0))) else .stuck : Rd Nat).run t) (fun s t => ∀ F' H', Ext [_] H0 H' -> BR H' _ t -> QS' (.ret (.int s)) F' H') (fun C => ∀ H', Ext [_] H0 H' -> X C H') := k
  generalize (acc * 2 + (if b then 1 else 0) : Nat) = cd at k hx
  by_cases q : cd < 48
  ·rw [if_pos q] at k
   have hi : pI 6 + ((acc : Int) * 2 + if b then 1 else 0) - fI 6 = cd := by rw [hx]; exact (show (0 : Int) + cd - 0 = cd by lia)
   exact r (fun _ G r => r _ _ _ (st' _ _ htb rfl) _ (st' _ _ hsy rfl) (by rw [hi]; exact Int.natCast_nonneg cd) (by rw [hi]; lia) (.int (symI cd)) (by rw [hi]; exact symsL_mv cd q) (k _ H' e' br')) fun w => by
    have w := of_decide_eq_false w
    rw [hx] at w
    exact absurd (show (cd : Int) - 0 < 48 by lia) w
  ·rw [if_neg q] at k
   exact k.elim
 | succ m ih =>
  intro i him H x acc rem v3 v4 v5 hx hacc e br k
  subst hx
  have hi : i < 6 := him ▸ Nat.lt_add_of_pos_right (Nat.succ_pos m)
  have st := e.stay h0.ws
  have hri : rows[i]? = some rows[i] := List.getElem?_eq_getElem (hlen ▸ Nat.lt_trans hi (by decide))
  obtain ⟨a, ea, ha⟩ := hrows i _ hri
  rw [ea] at hri
  refine ch fun g_ h_ => ?_
  obtain ⟨rd, ro, rp, b1, b2⟩ := br
  refine h_ ?_
  refine frule_step W hd1 (nx_list (st _ _ hrw rfl) hri) fun G r => r _ (st _ _ ha rfl) (.inr s2) _ _ _ b1 (c_159 W (d0 hd rfl) ⟨rd, ro, rp, b1, b2⟩ (fun b t H' er ex br' G r => r (fun w => ?_) fun _ G r => r ?_) fun er => by subst er; exact k H e)
  ·have w := of_decide_eq_true w
   have z := czf ⟨i, hi⟩
   rw [ec, show cNt i = 0 from z.1, show fI i = 0 from z.2] at w
   lia
  ·subst er
   exact ih (i + 1) ((Nat.succ_add_eq_add_succ i m).trans him) H' _ _ t _ _ _ (ec acc b) (acc2 hacc) (e.trans ex nx) br' k
theorem c_215 (W : World0 c) (hd : 4 <= d) {tb r : Addr} {rem : List Bool} (ht : Tb H tb) (hr : BR H r rem) (k : Gives (symT.run rem) (fun s t => ∀ H', Ext [r] H H' -> BR H' r t -> Q (.int s) H') (fun C => ∀ H', Ext [r] H H' -> X C H')) : CallS c d true 215 [.ref tb, .ref r] H Q X := by
 refine ch fun g_ h_ => ?_
 obtain ⟨dd, cs, sy, rw, co, rows, h1, h2, h3, h4, h5, h6⟩ := ht
 refine h_ ?_
 exact crule W (d0 hd rfl) rfl rfl rfl rfl fun G r' => r' _ _ _ h1 _ h3 (read_loop W (Mine.dd hd rfl) hr h1 h2 h3 h4 h5 rfl rfl 6 0 rfl H 0 0 rem _ _ _ rfl (by decide) .refl hr (k.imp (fun s t k F' => k) fun C k => k))
end
end
section
open PyProof.Rows
noncomputable def bitI (bs : List Bool) : List MV := mvi (bs.map fun b => if b then 1 else 0)
set_option genInjectivity false in
set_option genSizeOf false in
structure EA where
 enc : Addr
 sk : Addr
 key : Addr
 sc : Addr
 tabs : Addr
 tb : Addr
 w : Addr
 f : Addr
 en : Nat
 low : Nat
noncomputable def ScanAt (H : HH) (sc : Addr) (en low : Nat) : Prop := ∃ dd a b s, H sc = some (.inst 393 dd [(16, a), (17, b), (18, .ref s), (19, .int 1), (20, .int en), (21, .int (low + 1)), (22, .int low)]) /\ H s = some (.list [.int 0])
theorem ScanAt.stay {H H' : HH} {sc : Addr} {en low : Nat} (h : ScanAt H sc en low) (e : Stay H H') : ScanAt H' sc en low := by
 refine ch fun g_ h_ => ?_
 obtain ⟨dd, a, b, s, h1, h2⟩ := h
 refine h_ ?_
 exact ⟨dd, a, b, s, e _ _ h1 rfl, e _ _ h2 rfl⟩
noncomputable def TabsAt (H : HH) (tabs tb : Addr) : Prop := H tabs = some (.tdict [1, 0] (.ref tb)) /\ Tb H tb
theorem TabsAt.stay {H H' : HH} {tabs tb : Addr} (h : TabsAt H tabs tb) (e : Stay H H') : TabsAt H' tabs tb := ⟨e _ _ h.1 rfl, h.2.stay e⟩
theorem nin2 {a b e : Addr} (h : a ≠ b) (h' : a ≠ e) : a ∉ [b, e] := fun w => (List.mem_cons.mp w).elim h fun w => h' (List.mem_singleton.mp w)
noncomputable def SinkAt (H : HH) (A : EA) (bits : List Bool) : Prop := (∃ dd, H A.sk = some (.inst 435 dd [(23, .ref A.tabs), (24, .ref A.w)])) /\ TabsAt H A.tabs A.tb /\ BW H A.w A.f bits
noncomputable def EncS (H : HH) (A : EA) : Prop := H A.key = some (.tuple (mvi [1, 0])) /\ ScanAt H A.sc A.en A.low /\ TabsAt H A.tabs A.tb
theorem EncS.stay {H H' : HH} {A : EA} (h : EncS H A) (e : Stay H H') : EncS H' A := ⟨e _ _ h.1 rfl, h.2.1.stay e, h.2.2.stay e⟩
noncomputable def EncD (H : HH) (A : EA) (kp : Addr) (bits : List Bool) (run : Nat) (kept : List Bool) : Prop := (∃ dd, H A.enc = some (.inst 295 dd [(9, .ref A.sc), (10, .ref A.sk), (11, .ref A.key), (12, .int run), (13, .ref kp)])) /\ H kp = some (.list (bitI kept)) /\ (∃ dd, H A.sk = some (.inst 435 dd [(23, .ref A.tabs), (24, .ref A.w)])) /\ BW H A.w A.f bits
noncomputable def Enc (H : HH) (A : EA) (kp : Addr) (bits : List Bool) (run : Nat) (kept : List Bool) : Prop := EncS H A /\ EncD H A kp bits run kept
theorem Enc.sink {H : HH} {A : EA} {kp : Addr} {bits : List Bool} {run : Nat} {kept : List Bool} (h : Enc H A kp bits run kept) : SinkAt H A bits := ⟨h.2.2.2.1, h.1.2.2, h.2.2.2.2⟩
theorem Enc.step {H H' : HH} {A : EA} {kp : Addr} {bits bits' : List Bool} {run : Nat} {kept : List Bool} (h : Enc H A kp bits run kept) (e : Ext [A.w, A.f] H H') (b : BW H' A.w A.f bits') : Enc H' A kp bits' run kept := by
 refine ch fun g_ h_ => ?_
 obtain ⟨hs, ⟨dd, h1⟩, h2, ⟨dk, h3⟩, h4⟩ := h
 refine h_ ?_
 have st := e.stay h4.ws
 refine ch fun g_ h_ => ?_
 obtain ⟨d1, o, r, s, b1, b2, b3⟩ := h4
 refine h_ ?_
 have n1 : A.enc ≠ A.w := ne_of h1 b1 nofun
 have n2 : A.enc ≠ A.f := ne_of h1 b2 MO.noConfusion
 have n3 : A.sk ≠ A.w := ne_of h3 b1 nofun
 have n4 : A.sk ≠ A.f := ne_of h3 b2 MO.noConfusion
 exact ⟨hs.stay st, ⟨dd, e _ _ (nin2 n1 n2) h1⟩, st _ _ h2 rfl, ⟨dk, e _ _ (nin2 n3 n4) h3⟩, b⟩
theorem Enc.ext0 {H H' : HH} {A : EA} {kp : Addr} {bits : List Bool} {run : Nat} {kept : List Bool} (h : Enc H A kp bits run kept) (e : Ext [] H H') : Enc H' A kp bits run kept :=
 h.step (e.mono fun _ h => nomatch h) (h.2.2.2.2.ext e List.not_mem_nil List.not_mem_nil)
theorem EncD.ws {H : HH} {A : EA} {kp : Addr} {bits : List Bool} {run : Nat} {kept : List Bool} (h : EncD H A kp bits run kept) : WS [A.enc, A.w, A.f] H := fun a q => by
 refine ch fun g_ h_ => ?_
 obtain ⟨⟨dd, h1⟩, h2, h3, h4⟩ := h
 refine h_ ?_
 exact WS.cons h1 rfl h4.ws a q
theorem Ext.back {S : List Addr} {H0 H : HH} {a : Addr} (e : Ext S H0 H) (w : WS S H) (h : H a = none) : H0 a = none := by
 cases q : H0 a with
 | none => rfl
 | some o =>
  have n : a ∉ S := fun z => by obtain ⟨o, h', _⟩ := w a z; rw [h] at h'; cases h'
  have := e a o n q
  rw [h] at this; cases this
theorem Ext.fresh {S : List Addr} {H0 H : HH} {a : Addr} {o : MO} (e : Ext S H0 H) (h : H0 a = none) : Ext S H0 (upd H a o) := fun b q n k => by
 have : b ≠ a := fun w => by rw [w, h] at k; cases k
 rw [upd_ne this]; exact e b q n k
section
variable {c : Cx} {d : Nat} {H : HH} {X : QX} {Q : QE} {A : EA} {bits : List Bool} {run : Nat} {kept : List Bool}
theorem c_425 (W : World0 c) (hd : 4 <= d) {v n : Nat} (hn : n <= 16) (hv : v < 2 ^ n) (hs : SinkAt H A bits) (hl : bits.length <= 90000) (k : ∀ H', Ext [A.w, A.f] H H' -> BW H' A.w A.f (bits ++ bitsOf n v) -> Q .non H') : CallS c d true 425 [.ref A.sk, .int v, .int n] H Q X := by
 refine ch fun g_ h_ => ?_
 obtain ⟨⟨dd, h1⟩, h2, h3⟩ := hs
 obtain ⟨d1, o, r, s, b1, b2, b3⟩ := h3
 refine h_ ?_
 exact crule W (d0 hd rfl) rfl rfl rfl rfl fun G r' => r' _ _ _ h1 _ _ _ b1 (c_110 W (Mine.dd hd rfl) hn hv ⟨d1, o, r, s, b1, b2, b3⟩ (Nat.le_trans hl (by decide)) fun H' e b G r' => r' (k H' e b))
theorem symB_eq {z m : Nat} (hm : m < 3) : symB (16 * z + m) = bitsOf 7 (3 * z + m) := by
 unfold symB
 have e1 : (16 * z + m) / 16 = z := by lia
 have e2 : (16 * z + m) % 16 = m := by lia
 rw [e1, e2]
theorem c_418 (W : World0 c) (hd : 4 <= d) {z m : Nat} {x : Int} (hz : z < 16) (hm : m < 3) (hx : x = ((16 * z + m : Nat) : Int)) (hs : SinkAt H A bits) (hkey : H A.key = some (.tuple (mvi [1, 0]))) (hl : bits.length <= 90000) (k : ∀ H', Ext [A.w, A.f] H H' -> BW H' A.w A.f (bits ++ symB (16 * z + m)) -> Q .non H') : CallS c d true 418 [.ref A.sk, .ref A.key, .int x] H Q X := by
 subst hx
 rw [symB_eq hm] at k
 refine ch fun g_ h_ => ?_
 obtain ⟨⟨dd, h1⟩, h2, h3⟩ := hs
 obtain ⟨d1, o, r, s, b1, b2, b3⟩ := h3
 refine h_ ?_
 have ht := h2.2
 refine ch fun g_ h_ => ?_
 obtain ⟨t1, t2, t3, t4, t5, t6, t7, t8⟩ := h2.2
 refine h_ ?_
 exact crule W (d0 hd rfl) rfl rfl rfl rfl fun G r' => r' _ _ _ h1 _ _ h2.1 hkey rfl _ _ _ t7 (c_208 W (d0 (Mine.dd hd (b := 3) rfl) rfl) hz hm rfl ht fun a ha G r' => r' _ ha _ _ _ h1 _ _ _ b1
  (c_110 W (Mine.dd hd rfl) (n := 7) (v := 3 * z + m) (by decide) (by lia) ⟨d1, o, r, s, b1, b2, b3⟩ (Nat.le_trans hl (by decide)) fun H' e b G r' => r' (k H' e b)))
theorem bitI_get {bs : List Bool} {i : Nat} (hi : i < bs.length) : (bitI bs)[i]? = some (.int ((if bs[i] then 1 else 0 : Nat) : Int)) := by
 unfold bitI mvi
 rw [List.getElem?_map, List.getElem?_map, List.getElem?_eq_getElem hi]
 cases bs[i] <;> rfl
theorem bitI_len (bs : List Bool) : (bitI bs).length = bs.length := by unfold bitI; rw [mvi_len, List.length_map]
theorem put_bits_loop (W : World0 c) (hd : 5 <= d) {ns : NS} {p kp : Addr} {t : T} {bm : B} {H0 : HH} {QS' : QS} {bs : List Bool} (h0 : Enc H0 A kp bits run kept) (hp : H0 p = some (.list (bitI bs))) (hl : bits.length + bs.length <= 90000) (ht : t = T.loc 2)
  (hb : bm = (B.cons (S.ex (E.meth (E.attr (E.loc 0) 10) 30 (L.cons (E.loc 2) (L.cons (E.int 1) L.nil)))) B.nil))
  (k : ∀ H' v2, Ext [A.w, A.f] H0 H' -> BW H' A.w A.f (bits ++ bs) -> QS' .next [some (.ref A.enc), some (.ref p), v2] H') :
  ∀ (m i : Nat), i + m = bs.length -> ∀ (H : HH) (v2 : Option MV), Ext [A.w, A.f] H0 H -> BW H A.w A.f (bits ++ bs.take i) ->
   ForS c d true ns t bm (.list p i) [some (.ref A.enc), some (.ref p), v2] H QS' X := fun m => by
 have hd1 := d0 (b := 1) hd rfl
 have w0 := h0.2.2.2.2.ws
 subst ht; subst hb
 induction m with
 | zero =>
  intro i him H v2 e b
  obtain rfl : i = bs.length := him
  rw [List.take_length] at b
  exact frule_end W hd1 (nx_end (e.stay w0 _ _ hp rfl) (Nat.le_of_eq (bitI_len bs))) (k H v2 e b)
 | succ m ih =>
  intro i him H v2 e b
  have hi : i < bs.length := him ▸ Nat.lt_add_of_pos_right (Nat.succ_pos m)
  have hs := (h0.step e b).sink
  refine ch fun g_ h_ => ?_
  obtain ⟨_, ⟨dd, h1⟩, h2, ⟨dk, h3⟩, h4⟩ := h0.step e b
  refine h_ ?_
  refine frule_step W hd1 (nx_list (e.stay w0 _ _ hp rfl) (bitI_get hi)) fun G r => r _ _ _ h1 _ _ _ h3 (c_425 W (Mine.d0 hd rfl) (A := A) (n := 1) (by decide) (by cases bs[i] <;> decide) hs ?_ fun H' e' b' G r => r (ih (i + 1) ((Nat.succ_add_eq_add_succ i m).trans him) H' _ (e.trans e' fun _ h => .inl h) ?_))
  ·rw [List.length_append, List.length_take_of_le (Nat.le_of_lt hi)]; lia
  ·have : bitsOf 1 (if bs[i] then 1 else 0) = [bs[i]] := by cases bs[i] <;> rfl
   rw [this] at b'
   rw [List.take_add_one, List.getElem?_eq_getElem hi, Option.toList_some, <- List.append_assoc]; exact b'
theorem c_264 (W : World0 c) (hd : 6 <= d) {p kp : Addr} {bs : List Bool} (h0 : Enc H A kp bits run kept) (hp : H p = some (.list (bitI bs))) (hl : bits.length + bs.length <= 90000) (k : ∀ H', Ext [A.w, A.f] H H' -> BW H' A.w A.f (bits ++ bs) -> Q .non H') : CallS c d true 264 [.ref A.enc, .ref p] H Q X :=
 crule W (d0 hd rfl) rfl rfl rfl rfl fun G r => r _ hp (put_bits_loop W (dd hd rfl) h0 hp hl rfl rfl (fun H' v2 e b G r => r (k H' e b)) bs.length 0 (Nat.zero_add _) H _ .refl (by rw [List.take_zero, List.append_nil]; exact h0.2.2.2.2))
theorem run_tail (W : World0 c) (hd : 6 <= d) {ns : NS} {kp : Addr} {v1 v2 v3 : Option MV} {QM' : QM} {kk : C} (h0 : Enc H A kp bits run kept) (hl : bits.length + kept.length <= 90000)
  (k : ∀ H' kp', Ext [A.enc, A.w, A.f] H H' -> H kp' = none -> Enc H' A kp' (bits ++ kept) 0 [] -> All (M c d ns kk [] [some (.ref A.enc), v1, v2, v3] H' QM' X)) :
  All (M c d ns (cB (B.cons (S.ex (E.meth (E.loc 0) 33 (L.cons (E.attr (E.loc 0) 13) L.nil))) (B.cons (S.asg (T.attr (E.loc 0) 12) (E.int 0)) (B.cons (S.asg (T.attr (E.loc 0) 13) (E.list L.nil)) B.nil))) kk) [] [some (.ref A.enc), v1, v2, v3] H QM' X) := by
 have w1 := h0.2.ws
 have h0' := h0
 refine ch fun g_ h_ => ?_
 obtain ⟨hs, ⟨dd, h1⟩, h2, ⟨dk, h3⟩, h4⟩ := h0'
 refine h_ ?_
 refine fun G r' => r' _ _ _ h1 _ _ _ h1 (c_264 W (Mine.d0 hd rfl) h0 h2 hl fun H1 e1 b1 G r' => ?_)
 refine ch fun g_ h_ => ?_
 obtain ⟨gs, ⟨dd1, g1⟩, g2, ⟨dk1, g3⟩, d2, o, r, s, g4, g5, g6⟩ := h0.step e1 b1
 refine h_ ?_
 have n1 : A.w ≠ A.enc := ne_of g4 g1 nofun
 have n2 : A.f ≠ A.enc := ne_of g5 g1 MO.noConfusion
 have n3 : A.sk ≠ A.enc := ne_of g3 g1 nofun
 have eG := (e1.mono (S := [A.enc, A.w, A.f]) fun a h => .inl (.tail _ h)).set (o := .inst 295 dd1 (putB 12 (.int 0) [(9, .ref A.sc), (10, .ref A.sk), (11, .ref A.key), (12, .int run), (13, .ref kp)])) (.head _)
 refine r' _ _ _ g1 fun kp' hkp' G r' => k _ kp' ?_ ?_ ⟨hs.stay ?_, ⟨dd1, ?_⟩, ?_, ⟨dk1, ?_⟩, d2, o, r, s, ?_, ?_, g6⟩ G (r' _ _ _ (upd_new (upd_same ..) hkp'))
 ·exact (eG.new hkp').set (.head _)
 ·exact eG.back (WS.cons (upd_same ..) rfl (.cons ((upd_ne n1).trans g4) rfl (ws1 ((upd_ne n2).trans g5) rfl))) hkp'
 ·exact Ext.stay ((eG.new hkp').set (.head _)) w1
 ·exact upd_same ..
 ·exact (upd_ne (ne_new (upd_same ..) hkp').symm).trans (upd_same ..)
 ·exact (upd_ne n3).trans (upd_new ((upd_ne n3).trans g3) hkp')
 ·exact (upd_ne n1).trans (upd_new ((upd_ne n1).trans g4) hkp')
 ·exact (upd_ne n2).trans (upd_new ((upd_ne n2).trans g5) hkp')
theorem flush_pos {run : Nat} (h : 0 < run) (kept : List Bool) : flush run kept = symB (16 * run.log2) ++ bitsOf run.log2 (run - 2 ^ run.log2) ++ kept := if_neg (Nat.ne_of_gt h)
theorem c_271 (W : World0 c) (hd : 7 <= d) {kp : Addr} (h0 : Enc H A kp bits run kept) (hok : run = 0 -> kept = []) (hr : run < 2 ^ 15) (hl : bits.length + (flush run kept).length <= 90000) (k : ∀ H' kp', Ext [A.enc, A.w, A.f] H H' -> (kp' = kp \/ H kp' = none) -> Enc H' A kp' (bits ++ flush run kept) 0 [] -> Q .non H') : CallS c d true 271 [.ref A.enc] H Q X := by
 have w0 := h0.2.ws
 have h0' := h0
 refine ch fun g_ h_ => ?_
 obtain ⟨hs, ⟨dd, h1⟩, h2, ⟨dk, h3⟩, h4⟩ := h0'
 refine h_ ?_
 refine crule W (d0 hd rfl) rfl rfl rfl rfl fun G r => r _ _ _ h1 (fun q G r => ?_) fun q G r => r ?_
 ·have hpos : 0 < run := Int.ofNat_lt.mp (of_decide_eq_true q)
  have hne := Nat.ne_of_gt hpos
  have hlog : run.log2 < 15 := (Nat.log2_lt hne).mpr hr
  rw [flush_pos hpos kept] at hl k
  rw [List.length_append, List.length_append, symB_len, bitsOf_len2] at hl
  have hp1 := Nat.log2_self_le hne
  have hp2 : run < 2 ^ (run.log2 + 1) := Nat.lt_log2_self
  have e9 : (run : Int) - 2 ^ run.log2 = ((run - 2 ^ run.log2 : Nat) : Int) := by rw [pw]; exact (Int.ofNat_sub hp1).symm
  refine r _ _ _ h1 (c_229 W (Mine.dd hd rfl) hne (Nat.lt_trans hr (by decide)) fun a ha G r => ?_)
  have e1 : Ext [] H (upd H a (.tuple [.int (16 * run.log2 : Nat), .int (run.log2 : Nat)])) := Ext.refl.new ha
  have g := h0.ext0 e1
  have g' := g
  refine ch fun g_ h_ => ?_
  obtain ⟨gs, ⟨d1, g1⟩, g2, ⟨d2, g3⟩, g4⟩ := g'
  refine h_ ?_
  refine r _ (upd_same ..) _ _ _ g1 _ _ _ g3 _ _ _ g1 (c_418 W (Mine.dd hd rfl) (A := A) (z := run.log2) (m := 0) (Nat.lt_succ_of_lt hlog) (by decide) rfl g.sink gs.1 (by lia) fun H2 e2 b2 G r => ?_)
  have f := g.step e2 b2
  have f' := f
  refine ch fun g_ h_ => ?_
  obtain ⟨fs, ⟨d1', f1⟩, f2, ⟨d2', f3⟩, f4⟩ := f'
  refine h_ ?_
  have ee3 : Ext [A.enc, A.w, A.f] H H2 := (e1.mono fun _ h => nomatch h).trans e2 fun a h => .inl (.tail _ h)
  have tl : ∀ a ∈ [A.w, A.f], a ∈ [A.enc, A.w, A.f] \/ H2 a = none := fun a h => .inl (.tail _ h)
  have bk : ∀ H3 kp', Ext [A.w, A.f] H2 H3 -> H3 kp' = none -> WS [A.enc, A.w, A.f] H3 -> H kp' = none := fun H3 kp' e n w => (ee3.trans (e.mono tl) fun _ h => .inl h).back w n
  refine r (fun q2 G r => r _ _ _ f1 _ _ _ f3 _ _ _ f1 (.inl rfl) (Int.natCast_nonneg _) (by lia) ?_) (fun q2 => run_tail W (Mine.dd hd rfl) f ?_ fun H' kp' e' n' g' G r => r (k H' kp' (ee3.trans e' fun _ h => .inl h) (.inr (bk H2 kp' .refl n' f.2.ws)) ?_))
  ·rw [show ((run : Int) - 2 ^ ((run.log2 : Nat) : Int).toNat) = ((run - 2 ^ run.log2 : Nat) : Int) from e9]
   refine c_425 W (Mine.dd hd rfl) (A := A) (n := run.log2) (v := run - 2 ^ run.log2) (by lia) (by rw [Nat.pow_succ] at hp2; lia) f.sink (by rw [List.length_append, symB_len]; lia) fun H3 e3 b3 => run_tail W (Mine.dd hd rfl) (f.step e3 b3) ?_ fun H' kp' e' n' g' G r => r (k H' kp' ((ee3.trans (e3.mono tl) fun _ h => .inl h).trans e' fun _ h => .inl h) (.inr (bk H3 kp' e3 n' (f.step e3 b3).2.ws)) ?_)
   ·rw [List.length_append, List.length_append, symB_len, bitsOf_len2]; lia
   ·rw [List.append_assoc, List.append_assoc] at g'; rw [List.append_assoc]; exact g'
  ·rw [List.length_append, symB_len]; lia
  ·have z : run.log2 = 0 := Nat.le_zero.mp (Int.ofNat_le.mp (Int.not_lt.mp (of_decide_eq_false q2)))
   rw [z] at g' ⊢
   rw [List.append_assoc] at g'
   rw [show bitsOf 0 (run - 2 ^ 0) = [] from rfl, List.append_nil]; exact g'
 ·obtain rfl : run = 0 := Nat.le_zero.mp (Int.ofNat_le.mp (Int.not_lt.mp (of_decide_eq_false q)))
  obtain rfl := hok rfl
  exact k H kp .refl (.inl rfl) (by rw [show flush 0 [] = [] from rfl, List.append_nil]; exact h0)
theorem has1_app (low : Nat) (cs : List Int) (x : Int) : has1 low (cs ++ [x]) = (has1 low cs || (size low x == 1)) := by simp [has1]
noncomputable def LastP (low : Nat) (xs : List Int) (j : Nat) (l : Int) : Prop := ∀ k : Nat, 1 <= k -> ((k : Int) <= l ↔ has1 low ((xs.take j).drop k) = true)
theorem LastP.next {low : Nat} {xs : List Int} {j : Nat} {l x : Int} (h : LastP low xs j l) (hx : xs[j]? = some x) (hj : 1 <= j) : (size low x = 1 -> LastP low xs (j + 1) j) /\ (size low x ≠ 1 -> LastP low xs (j + 1) l) := by
 have hlen : j < xs.length := by
  rcases Nat.lt_or_ge j xs.length with w | w
  ·exact w
  ·rw [List.getElem?_eq_none w] at hx; cases hx
 have tk : xs.take (j + 1) = xs.take j ++ [x] := by rw [List.take_add_one, hx]; rfl
 have tl : (xs.take j).length = j := by simp; lia
 have d1 : ∀ k, k <= j -> (xs.take (j + 1)).drop k = (xs.take j).drop k ++ [x] := fun k hk => by rw [tk, List.drop_append_of_le_length (by lia)]
 have d2 : ∀ k, j < k -> (xs.take (j + 1)).drop k = [] := fun k hk => List.drop_eq_nil_of_le (by simp; lia)
 have d3 : ∀ k, j < k -> (xs.take j).drop k = [] := fun k hk => List.drop_eq_nil_of_le (by simp; lia)
 constructor
 ·intro hs k hk
  rcases Nat.lt_or_ge j k with w | w
  ·rw [d2 k w]; simp [has1]; lia
  ·rw [d1 k w, has1_app, hs]; simp; lia
 ·intro hs k hk
  rcases Nat.lt_or_ge j k with w | w
  ·have := h k hk
   rw [d3 k w] at this
   rw [d2 k w]; exact this
  ·rw [d1 k w, has1_app, h k hk]; simp [hs]
theorem last_loop (W : World0 c) (hd : 3 <= d) {ns : NS} {kp row : Addr} {xs : List Int} {t : T} {bm : B} {QS' : QS} (h0 : Enc H A kp bits run kept) (hrow : H row = some (.list (mvi xs))) (hlen : xs.length = A.en + 1) (hen : A.en < 2 ^ 60) (ht : t = T.loc 3)
  (hb : bm = (B.cons (S.ife (E.cmp CmpOp.Eq (E.fn 236 (L.cons (E.sub (E.loc 1) (E.loc 3)) (L.cons (E.attr (E.attr (E.loc 0) 9) 22) L.nil))) (E.int 1)) (B.cons (S.asg (T.loc 2) (E.loc 3)) B.nil) B.nil) B.nil))
  {F' : FF} (k : ∀ l v3, LastP A.low xs (A.en + 1) l -> QS' .next (some (.ref A.enc) :: some (.ref row) :: some (.int l) :: v3 :: F') H) :
  ∀ (m j : Nat), 1 <= j -> j + m = A.en + 1 -> ∀ (l : Int) (v3 : Option MV), LastP A.low xs j l ->
   ForS c d true ns t bm (.up j m) (some (.ref A.enc) :: some (.ref row) :: some (.int l) :: v3 :: F') H QS' X := fun m => by
 have hd1 := d0 (b := 1) hd rfl
 obtain ⟨hs, ⟨dd, h1⟩, h2, h3, h4⟩ := h0
 obtain ⟨ds, sa, sb, sl, s1, s2⟩ := hs.2.1
 subst ht; subst hb
 induction m with
 | zero => exact fun j hj hm l v3 hl => frule_end W hd1 rfl (k l v3 ((show j = A.en + 1 from hm) ▸ hl))
 | succ m ih =>
  intro j hj hm l v3 hl
  have hjl : j < xs.length := by lia
  have hx : xs[j]? = some xs[j] := List.getElem?_eq_getElem hjl
  have hx' : (mvi xs)[j]? = some (.int xs[j]) := by rw [mvi_get, hx]; rfl
  obtain ⟨n1, n2⟩ := hl.next hx hj
  have him := (Nat.succ_add_eq_add_succ j m).trans hm
  exact frule_step W hd1 rfl fun G r => r _ hrow (Int.natCast_nonneg j) (by lia) _ hx' _ _ _ h1 _ _ _ s1 (c_236 W (Mine.d0 hd rfl) fun G r => r
   (fun q G r => r (ih (j + 1) (Nat.succ_le_succ (Nat.zero_le j)) him _ _ (n1 (Int.ofNat_inj.mp (of_decide_eq_true q))))) fun q G r => r (ih (j + 1) (Nat.succ_le_succ (Nat.zero_le j)) him _ _ (n2 fun w => of_decide_eq_false q (congrArg _ w))))
end
end
section
open PyProof.Rows
set_option tactic.hygienic true in
theorem lz_flush (bits : List Bool) (run : Nat) (kept out : List Bool) : (lz bits run kept out).1 ++ flush (lz bits run kept out).2.1 (lz bits run kept out).2.2 = bits ++ flush run kept ++ out := by
 unfold lz
 split
 ·rename_i h; subst h; simp
 ·have : flush 0 [] = [] := rfl
  simp [this]
theorem lz_ne {bits : List Bool} {run : Nat} {kept out : List Bool} (h : out ≠ []) : lz bits run kept out = (bits ++ flush run kept ++ out, 0, []) := by unfold lz; rw [if_neg h]
theorem lz_ok {bits : List Bool} {run : Nat} {kept out : List Bool} (h : run = 0 -> kept = []) : (lz bits run kept out).2.1 = 0 -> (lz bits run kept out).2.2 = [] := by
 unfold lz
 split
 ·exact h
 ·exact fun _ => rfl
theorem lz_run {bits : List Bool} {run : Nat} {kept out : List Bool} : (lz bits run kept out).2.1 <= run := by
 unfold lz
 split
 ·exact Nat.le_refl _
 ·exact Nat.zero_le _
noncomputable def CodeSt (H0 : HH) (A : EA) (bits : List Bool) (run : Nat) (kept : List Bool) (H : HH) (out b : List Bool) (hp : Addr) : Prop :=
 Ext [A.enc, A.w, A.f] H0 H /\ H0 hp = none /\ H hp = some (.list (bitI b)) /\ ∃ kp, kp ≠ hp /\ Enc H A kp (lz bits run kept out).1 (lz bits run kept out).2.1 (lz bits run kept out).2.2
noncomputable def cW : Mine.E := (E.and (L.cons (E.cmp CmpOp.Gt (E.loc 4) (E.int 15)) (L.cons (E.cmp CmpOp.LtE (E.loc 6) (E.loc 3)) L.nil)))
noncomputable def bW : B := (.cons (.ex (.meth (.loc 0) 34 .nil)) (.cons (.ex (.meth (.attr (.loc 0) 10) 40 (.cons (.attr (.loc 0) 11) (.cons (.int 240) .nil)))) (.cons (.ex (.meth (.loc 0) 33 (.cons (.loc 5) .nil))) (.cons (.asg2 [4, 5] (.cons (.bin .Sub (.loc 4) (.int 16)) (.cons (.list .nil) .nil))) .nil))))
section
variable {c : Cx} {d : Nat} {H : HH} {X : QX} {Q : QE} {A : EA} {bits : List Bool} {run : Nat} {kept : List Bool}
theorem c_278 (W : World0 c) (hd : 5 <= d) {kp row : Addr} {xs : List Int} (h0 : Enc H A kp bits run kept) (hrow : H row = some (.list (mvi xs))) (hlen : xs.length = A.en + 1) (hen : A.en < 2 ^ 60) (k : ∀ l, LastP A.low xs (A.en + 1) l -> Q (.int l) H) : CallS c d true 278 [.ref A.enc, .ref row] H Q X := by
 have h0' := h0
 refine ch fun g_ h_ => ?_
 obtain ⟨hs, ⟨dd, h1⟩, h2, h3, h4⟩ := h0'
 obtain ⟨ds, sa, sb, sl, s1', s2⟩ := hs.2.1
 refine h_ ?_
 have e : ((A.en : Int) + 1 - 1).toNat = A.en := by lia
 refine crule W (d0 hd rfl) rfl rfl rfl rfl fun G r => r _ _ _ h1 _ _ _ s1' _ _ _ h1 _ _ _ s1' _ _ _ h1 _ _ _ s1' s1 (by unfold small; lia) ?_
 rw [e]
 refine last_loop W (Mine.dd hd rfl) h0 hrow hlen hen rfl rfl (fun l v3 hl G r => r (k l hl)) A.en 1 (Nat.le_refl 1) (Nat.add_comm ..) (1 - 1) _ fun k hk => ?_
 rw [List.drop_eq_nil_of_le (Nat.le_trans (List.length_take_le ..) hk)]
 exact ⟨fun w => absurd (Int.ofNat_le.mp (show (k : Int) <= (0 : Nat) from w)) (Nat.not_le.mpr hk), fun w => nof w⟩
theorem CodeSt.run0 {H0 : HH} {out b : List Bool} {hp : Addr} (hc : CodeSt H0 A bits run kept H out b hp) : ∃ dd kp r, H A.enc = some (.inst 295 dd [(9, .ref A.sc), (10, .ref A.sk), (11, .ref A.key), (12, .int r), (13, .ref kp)]) := by
 refine ch fun g_ h_ => ?_
 obtain ⟨e0, n0, hh, kp, n1, hs, ⟨dd, h1⟩, h2⟩ := hc
 refine h_ ?_
 exact ⟨dd, kp, _, h1⟩
theorem emit (W : World0 c) (hd : 8 <= d) {H0 : HH} {out b : List Bool} {hp : Addr} {kp0 : Addr} (w0 : WS [A.enc, A.w, A.f] H0) (hok : run = 0 -> kept = []) (hr : run < 2 ^ 15) (hc : CodeSt H0 A bits run kept H out b hp) (hl : (bits ++ flush run kept ++ out).length <= 90000)
  (k : ∀ H' kp', Ext [A.enc, A.w, A.f] H0 H' -> H' hp = some (.list (bitI b)) -> kp' ≠ hp -> Enc H' A kp' (bits ++ flush run kept ++ out) 0 [] -> Q .non H') : CallS c d true 271 [.ref A.enc] H Q X := by
 refine ch fun g_ h_ => ?_
 obtain ⟨e0, n0, hh, kp, n1, h0⟩ := hc
 refine h_ ?_
 refine c_271 W (d0 hd rfl) h0 (lz_ok hok) (Nat.lt_of_le_of_lt lz_run hr) ?_ fun H1 kp1 e1 kk g1 => ?_
 ·rw [<- lz_flush, List.length_append] at hl
  exact hl
 ·rw [lz_flush] at g1
  have st := e1.stay h0.2.ws
  refine k H1 kp1 (e0.trans e1 fun _ h => .inl h) (st _ _ hh rfl) ?_ g1
  rcases kk with rfl | kk
  ·exact n1
  ·intro w; rw [w, hh] at kk; cases kk
theorem code_new {H0 H3 : HH} {out o2 b : List Bool} {hp' kp1 : Addr} (e03 : Ext [A.enc, A.w, A.f] H0 H3) (g3 : Enc H3 A kp1 (bits ++ flush run kept ++ out ++ o2 ++ b) 0 []) (hne : o2 ≠ []) (n : H3 hp' = none) :
  CodeSt H0 A bits run kept (upd H3 hp' (.list [])) (out ++ (o2 ++ b)) [] hp' := by
 refine ⟨e03.new n, e03.back g3.2.ws n, upd_same .., kp1, ne_new g3.2.2.1 n, ?_⟩
 rw [lz_ne (fun w => hne (List.append_eq_nil_iff.mp (List.append_eq_nil_iff.mp w).2).1)]
 have := g3.ext0 (Ext.refl.new (o := .list []) n)
 rw [List.append_assoc, List.append_assoc] at this
 exact this
theorem tail3 {H2 : HH} : ∀ a ∈ [A.w, A.f], a ∈ [A.enc, A.w, A.f] \/ H2 a = none := fun a h => .inl (.tail _ h)
theorem whl_body (W : World0 c) (hd : 9 <= d) {ns : NS} {H0 : HH} {out b : List Bool} {hp : Addr} {z : Int} {v1 v2 v3 v6 v7 : Option MV} {F' : FF} {QM' : QM} {kk : C} (w0 : WS [A.enc, A.w, A.f] H0) (hok : run = 0 -> kept = []) (hr : run < 2 ^ 15) (hc : CodeSt H0 A bits run kept H out b hp) (hl : (bits ++ flush run kept ++ out ++ symB 240 ++ b).length <= 90000)
  (k : ∀ H' hp', CodeSt H0 A bits run kept H' (out ++ (symB 240 ++ b)) [] hp' -> All (M c d ns kk [] (some (.ref A.enc) :: v1 :: v2 :: v3 :: some (.int (z - 16)) :: some (.ref hp') :: v6 :: v7 :: F') H' QM' X)) :
  All (M c d ns (cB bW kk) [] (some (.ref A.enc) :: v1 :: v2 :: v3 :: some (.int z) :: some (.ref hp) :: v6 :: v7 :: F') H QM' X) := by
 obtain ⟨dd, kp, rr, h1⟩ := hc.run0
 rw [List.length_append, List.length_append, symB_len] at hl
 refine fun G r => r _ _ _ h1 (emit W (Mine.d0 hd rfl) (kp0 := kp) w0 hok hr hc (by lia) fun H1 kp1 e1 hh1 n1 g1 G r => ?_)
 have g1' := g1
 refine ch fun g_ h_ => ?_
 obtain ⟨gs, ⟨d1, a1⟩, a2, ⟨d2, a3⟩, a4⟩ := g1'
 refine h_ ?_
 refine r _ _ _ a1 _ _ _ a3 _ _ _ a1 (c_418 W (Mine.d0 hd rfl) (A := A) (z := 15) (m := 0) (by decide) (by decide) rfl g1.sink gs.1 (by lia) fun H2 e2 b2 G r => ?_)
 have g2 := g1.step e2 b2
 have g2' := g2
 refine ch fun g_ h_ => ?_
 obtain ⟨gs', ⟨d1', a1'⟩, a2', ⟨d2', a3'⟩, a4'⟩ := g2'
 refine h_ ?_
 refine r _ _ _ a1' (c_264 W (Mine.d0 hd rfl) g2 (e2.stay a4.ws _ _ hh1 rfl) (by rw [List.length_append, symB_len]; exact hl) fun H3 e3 b3 G r => r fun hp' hhp' G r => ?_)
 exact k _ hp' (code_new ((e1.trans (e2.mono tail3) fun _ h => .inl h).trans (e3.mono tail3) fun _ h => .inl h) (g2.step e3 b3) (symB_ne 240) hhp') G r
noncomputable def pz (hs : Bool) (z : Nat) (b : List Bool) : List Bool × Nat × List Bool := if hs = true then zrl z b else ([], z, b)
theorem len_pre (a b : List Bool) : a.length <= (a ++ b).length := by rw [List.length_append]; exact Nat.le_add_right ..
theorem pz_small {hs : Bool} {z : Nat} {b : List Bool} (h : z <= 15) : pz hs z b = ([], z, b) := by
 unfold pz
 cases hs with
 | false => rfl
 | true => exact zrl_small h
theorem zrl_loop (W : World0 c) (hd : 10 <= d) {ns : NS} {cm : Mine.E} {bm : B} (hcm : cm = cW) (hbm : bm = bW) {H0 : HH} {l : Int} {j : Nat} {hs : Bool} (hlast : (j : Int) <= l ↔ hs = true) {v1 v2 v7 : Option MV} {F' : FF} {QS' : QS} (w0 : WS [A.enc, A.w, A.f] H0) (hok : run = 0 -> kept = []) (hr : run < 2 ^ 15) :
    ∀ (n z : Nat), z <= n -> ∀ (zi : Int) (H : HH) (out b : List Bool) (hp : Addr), zi = (z : Int) -> CodeSt H0 A bits run kept H out b hp -> (bits ++ flush run kept ++ out ++ (pz hs z b).1).length <= 90000 ->
      (∀ H' hp', CodeSt H0 A bits run kept H' (out ++ (pz hs z b).1) (pz hs z b).2.2 hp' -> QS' .next (some (.ref A.enc) :: v1 :: v2 :: some (.int l) :: some (.int (pz hs z b).2.1) :: some (.ref hp') :: some (.int j) :: v7 :: F') H') ->
      WhlS c d true ns cm bm (some (.ref A.enc) :: v1 :: v2 :: some (.int l) :: some (.int zi) :: some (.ref hp) :: some (.int j) :: v7 :: F') H QS' X := fun n => by
  subst hcm; subst hbm
  have hd1 := d0 (b := 1) hd rfl
  have stop : ∀ (z : Nat) (H : HH) (out b : List Bool) (hp : Addr), pz hs z b = ([], z, b) -> CodeSt H0 A bits run kept H out b hp -> (∀ H' hp', CodeSt H0 A bits run kept H' (out ++ (pz hs z b).1) (pz hs z b).2.2 hp' -> QS' .next (some (.ref A.enc) :: v1 :: v2 :: some (.int l) :: some (.int (pz hs z b).2.1) :: some (.ref hp') :: some (.int j) :: v7 :: F') H') ->
      QS' .next (some (.ref A.enc) :: v1 :: v2 :: some (.int l) :: some (.int z) :: some (.ref hp) :: some (.int j) :: v7 :: F') H := fun z H out b hp e hc k => by
    rw [e] at k
    exact k H hp (by rw [List.append_nil]; exact hc)
  induction n with
  | zero =>
    intro z hz zi H out b hp hzi hc hl k
    subst hzi
    have hz15 : z <= 15 := Nat.le_trans hz (by decide)
    exact wrule W hd1 fun G r => r (fun w => absurd (Int.ofNat_lt.mp (of_decide_eq_true w)) (Nat.not_lt.mpr hz15)) fun w G r => r nof fun _ G r => r (stop z H out b hp (pz_small hz15) hc k)
  | succ n ih =>
    intro z hz zi H out b hp hzi hc hl k
    subst hzi
    refine wrule W hd1 fun G r => r (fun w G r => r (fun w' G r => r (fun _ => ?_) not_) fun w' G r => r nof fun _ G r => r ?_) fun w G r => r nof fun _ G r => r (stop z H out b hp (pz_small (Nat.not_lt.mp fun h => of_decide_eq_false w (Int.ofNat_lt.mpr h))) hc k)
    · have hz15 : 15 < z := Int.ofNat_lt.mp (of_decide_eq_true w)
      obtain rfl : hs = true := hlast.mp (of_decide_eq_true w')
      have e : pz true z b = (symB 240 ++ b ++ (pz true (z - 16) []).1, (pz true (z - 16) []).2.1, (pz true (z - 16) []).2.2) := zrl_big hz15
      rw [e] at k hl
      rw [<- List.append_assoc, <- List.append_assoc] at hl
      refine whl_body W (d0 hd rfl) w0 hok hr hc (Nat.le_trans (len_pre _ _) hl) fun H' hp' hc' G r => r ?_
      refine ih (z - 16) (by lia) _ H' (out ++ (symB 240 ++ b)) [] hp' (by lia) hc' (by rw [<- List.append_assoc, <- List.append_assoc]; exact hl) fun H'' hp'' hc'' => ?_
      exact k H'' hp'' (by rw [List.append_assoc] at hc''; exact hc'')
    · have : hs = false := by
        cases hs with
        | false => rfl
        | true => exact absurd (hlast.mpr rfl) (of_decide_eq_false w')
      exact stop z H out b hp (by unfold pz; rw [this]; rfl) hc k
theorem new_tail (W : World0 c) (hd : 7 <= d) {ns : NS} {H0 : HH} {out o2 b : List Bool} {hp kp1 : Addr} {v1 v2 v3 v4 v6 v7 : Option MV} {F' : FF} {QM' : QM} {kk : C} (e02 : Ext [A.enc, A.w, A.f] H0 H) (g2 : Enc H A kp1 (bits ++ flush run kept ++ out ++ o2) 0 []) (hh2 : H hp = some (.list (bitI b))) (hne : o2 ≠ []) (hl : (bits ++ flush run kept ++ out ++ o2).length + b.length <= 90000)
  (k : ∀ H' hp', CodeSt H0 A bits run kept H' (out ++ (o2 ++ b)) [] hp' -> All (M c d ns kk [] (some (.ref A.enc) :: v1 :: v2 :: v3 :: some (.int 0) :: some (.ref hp') :: v6 :: v7 :: F') H' QM' X)) :
  All (M c d ns (cB (B.cons (S.ex (E.meth (E.loc 0) 33 (L.cons (E.loc 5) L.nil))) (B.cons (S.asg2 [4, 5] (L.cons (E.int 0) (L.cons (E.list L.nil) L.nil))) B.nil)) kk) []
   (some (.ref A.enc) :: v1 :: v2 :: v3 :: v4 :: some (.ref hp) :: v6 :: v7 :: F') H QM' X) := by
 have g2' := g2
 refine ch fun g_ h_ => ?_
 obtain ⟨gs', ⟨d1', a1'⟩, a2', ⟨d2', a3'⟩, a4'⟩ := g2'
 refine h_ ?_
 exact fun G r => r _ _ _ a1' (c_264 W (Mine.d0 hd rfl) g2 hh2 hl fun H3 e3 b3 G r => r fun hp' hhp' G r =>
  k _ hp' (code_new (e02.trans (e3.mono tail3) fun _ h => .inl h) (g2.step e3 b3) hne hhp') G r)
noncomputable def bN : B := (.cons (.ex (.meth (.loc 0) 34 .nil)) (.cons (.ex (.meth (.attr (.loc 0) 10) 40 (.cons (.attr (.loc 0) 11) (.cons (.bin .Add (.bin .Mult (.int 16) (.loc 4)) (.int 1)) .nil)))) (.cons (.ex (.meth (.attr (.loc 0) 10) 30 (.cons (.ite (.cmp .Gt (.sub (.loc 2) (.loc 6)) (.int 0)) (.int 1) (.int 0)) (.cons (.int 1) .nil)))) (.cons (.ex (.meth (.loc 0) 33 (.cons (.loc 5) .nil))) (.cons (.asg2 [4, 5] (.cons (.int 0) (.cons (.list .nil) .nil))) .nil)))))
theorem new_body (W : World0 c) (hd : 9 <= d) {ns : NS} {H0 : HH} {out b : List Bool} {hp row : Addr} {z j : Nat} {x : Int} {xs : List Int} {v1 v3 v7 : Option MV} {F' : FF} {QM' : QM} {kk : C} (w0 : WS [A.enc, A.w, A.f] H0) (hok : run = 0 -> kept = []) (hr : run < 2 ^ 15) (hc : CodeSt H0 A bits run kept H out b hp) (hz : z <= 15)
  (hrow : H0 row = some (.list (mvi xs))) (hx : xs[j]? = some x) (hj : j < 2 ^ 60) (hl : (bits ++ flush run kept ++ out ++ symB (16 * z + 1) ++ [decide (0 < x)] ++ b).length <= 90000)
  (k : ∀ H' hp', CodeSt H0 A bits run kept H' (out ++ (symB (16 * z + 1) ++ [decide (0 < x)] ++ b)) [] hp' -> All (M c d ns kk [] (some (.ref A.enc) :: v1 :: some (.ref row) :: v3 :: some (.int 0) :: some (.ref hp') :: some (.int j) :: v7 :: F') H' QM' X)) :
  All (M c d ns (cB bN kk) [] (some (.ref A.enc) :: v1 :: some (.ref row) :: v3 :: some (.int z) :: some (.ref hp) :: some (.int j) :: v7 :: F') H QM' X) := by
 obtain ⟨dd, kp, rr, h1⟩ := hc.run0
 have hx' : (mvi xs)[j]? = some (.int x) := by rw [mvi_get, hx]; rfl
 rw [List.length_append, List.length_append, List.length_append, symB_len, List.length_singleton] at hl
 refine fun G r => r _ _ _ h1 (emit W (Mine.d0 hd rfl) (kp0 := kp) w0 hok hr hc (by lia) fun H1 kp1 e1 hh1 n1 g1 G r => ?_)
 have g1' := g1
 refine ch fun g_ h_ => ?_
 obtain ⟨gs, ⟨d1, a1⟩, a2, ⟨d2, a3⟩, a4⟩ := g1'
 refine h_ ?_
 refine r _ _ _ a1 _ _ _ a3 _ _ _ a1 (.inl s16) (c_418 W (Mine.d0 hd rfl) (A := A) (z := z) (m := 1) (Nat.lt_succ_of_le hz) (by decide) rfl g1.sink gs.1 (by lia) fun H2 e2 b2 G r => ?_)
 have g2 := g1.step e2 b2
 have hh2 := e2.stay a4.ws _ _ hh1 rfl
 have e02 : Ext [A.enc, A.w, A.f] H0 H2 := e1.trans (e2.mono tail3) fun _ h => .inl h
 have g2' := g2
 refine ch fun g_ h_ => ?_
 obtain ⟨gs', ⟨d1', a1'⟩, a2', ⟨d2', a3'⟩, a4'⟩ := g2'
 refine h_ ?_
 have fin : ∀ (v : Nat), v < 2 ^ 1 -> [decide (0 < x)] = bitsOf 1 v -> CallS c d true 425 [.ref A.sk, .int v, .int 1] H2 (fun u H3 => ∃ kp2, Ext [A.enc, A.w, A.f] H0 H3 /\ Enc H3 A kp2 (bits ++ flush run kept ++ out ++ (symB (16 * z + 1) ++ [decide (0 < x)])) 0 [] /\ H3 hp = some (.list (bitI b)) /\ u = .non) X := fun v hv e =>
  c_425 W (Mine.d0 hd rfl) (A := A) (n := 1) (v := v) (by decide) hv g2.sink (by rw [List.length_append, symB_len]; lia) fun H3 e3 b3 => ⟨kp1, e02.trans (e3.mono tail3) fun _ h => .inl h, by rw [e, <- List.append_assoc]; exact g2.step e3 b3, e3.stay a4'.ws _ _ hh2 rfl, rfl⟩
 refine r _ _ _ a1' _ _ _ a3' _ (e02.stay w0 _ _ hrow rfl) (Int.natCast_nonneg j) (by lia) _ hx' (fun q G r => r (CallS.mono (fun u H3 w G r => ?_) (fun _ _ h => h) (fin 1 (by decide) (by rw [decide_eq_true (of_decide_eq_true q)]; rfl))))
  fun q G r => r (CallS.mono (fun u H3 w G r => ?_) (fun _ _ h => h) (fin 0 (by decide) (by rw [decide_eq_false (of_decide_eq_false q)]; rfl)))
 all_goals
  obtain ⟨kp2, f1, f2, f3, rfl⟩ := w
  exact new_tail W (Mine.d0 hd rfl) f1 f2 f3 (fun w => symB_ne _ (List.append_eq_nil_iff.mp w).1) (by rw [List.length_append, List.length_append (as := symB _), symB_len, List.length_singleton]; lia) k G r
noncomputable def bR : B := (.cons (.asg (.loc 7) (.fn 236 (.cons (.sub (.loc 2) (.loc 6)) (.cons (.attr (.attr (.loc 0) 9) 22) .nil)))) (.cons (.ife (.cmp .Eq (.loc 7) (.int 0)) (.cons (.asg (.loc 4) (.bin .Add (.loc 4) (.int 1))) .nil) (.cons (.whl cW bW) (.cons (.ife (.cmp .Gt (.loc 7) (.int 1)) (.cons (.ex (.bm (.loc 5) .append (.cons (.bin .BitAnd (.loc 7) (.int 1)) .nil))) .nil) bN) .nil))) .nil))
theorem CodeSt.put {H0 : HH} {out b b' : List Bool} {hp : Addr} (w0 : WS [A.enc, A.w, A.f] H0) (s0 : EncS H0 A) (hc : CodeSt H0 A bits run kept H out b hp) : CodeSt H0 A bits run kept (upd H hp (.list (bitI b'))) out b' hp := by
 refine ch fun g_ h_ => ?_
 obtain ⟨e0, n0, hh, kp, n1, hs, ⟨dd, h1⟩, h2, ⟨dk, h3⟩, d2, o, r, s, h4, h5, h6⟩ := hc
 refine h_ ?_
 have e : Ext [A.enc, A.w, A.f] H0 (upd H hp (.list (bitI b'))) := e0.fresh n0
 exact ⟨e, n0, upd_same .., kp, n1, s0.stay (e.stay w0), ⟨dd, (upd_ne (ne_of h1 hh MO.noConfusion)).trans h1⟩, (upd_ne n1).trans h2, ⟨dk, (upd_ne (ne_of h3 hh MO.noConfusion)).trans h3⟩, d2, o, r, s, (upd_ne (ne_of h4 hh MO.noConfusion)).trans h4, (upd_ne (ne_of h5 hh MO.noConfusion)).trans h5, h6⟩
theorem bitI_put (low : Nat) (x : Int) (b : List Bool) : bitI b ++ [MV.int ((size low x &&& 1 : Nat) : Int)] = bitI (b ++ [cbit low x]) := by
 have : ((size low x &&& 1 : Nat) : Int) = if cbit low x then 1 else 0 := by
  unfold cbit
  rw [Nat.and_one_is_mod]
  rcases Nat.mod_two_eq_zero_or_one (size low x) with w | w <;> rw [w] <;> rfl
 unfold bitI mvi
 rw [this, List.map_append, List.map_append]; rfl
theorem row_loop (W : World0 c) (hd : 11 <= d) {ns : NS} {t : T} {bm : B} (ht : t = T.loc 6) (hbm : bm = bR) {H0 : HH} {kp0 row : Addr} {xs : List Int} {l : Int} {v1 : Option MV} {F' : FF} {QS' : QS} {Fin : List Bool × Nat × List Bool} (h0 : Enc H0 A kp0 bits run kept) (hok : run = 0 -> kept = []) (hr : run < 2 ^ 15)
  (hrow : H0 row = some (.list (mvi xs))) (hlen : xs.length = A.en + 1) (hen : A.en < 10000) (hlast : LastP A.low xs (A.en + 1) l) (hl : (bits ++ flush run kept ++ Fin.1).length <= 90000)
  (k : ∀ H' hp v6 v7, CodeSt H0 A bits run kept H' Fin.1 Fin.2.2 hp -> QS' .next (some (.ref A.enc) :: v1 :: some (.ref row) :: some (.int l) :: some (.int Fin.2.1) :: some (.ref hp) :: v6 :: v7 :: F') H') :
  ∀ (m j : Nat), 1 <= j -> j + m = A.en + 1 -> ∀ (zi : Int) (H : HH) (out : List Bool) (z : Nat) (b : List Bool) (hp : Addr) (v6 v7 : Option MV), zi = (z : Int) -> z + b.length <= j -> CodeSt H0 A bits run kept H out b hp ->
   (out ++ (bodyF A.low (xs.drop j) z b).1, (bodyF A.low (xs.drop j) z b).2) = Fin ->
   ForS c d true ns t bm (.up j m) (some (.ref A.enc) :: v1 :: some (.ref row) :: some (.int l) :: some (.int zi) :: some (.ref hp) :: v6 :: v7 :: F') H QS' X := fun m => by
 subst ht; subst hbm
 have hd1 := d0 (b := 1) hd rfl
 have w0 := h0.2.ws
 have tk : xs.take (A.en + 1) = xs := List.take_of_length_le (Nat.le_of_eq hlen)
 induction m with
 | zero =>
  intro j hj hm zi H out z b hp v6 v7 hzi hzb hc he
  subst hzi
  rw [List.drop_eq_nil_of_le (hlen ▸ Nat.le_of_eq hm.symm)] at he
  rw [show bodyF A.low [] z b = ([], z, b) from rfl, List.append_nil] at he
  subst he
  exact frule_end W hd1 rfl (k H hp v6 v7 hc)
 | succ m ih =>
  intro j hj hm zi H out z b hp v6 v7 hzi hzb hc he
  subst hzi
  have hjl : j < xs.length := by lia
  have him := (Nat.succ_add_eq_add_succ j m).trans hm
  have hx : xs[j]? = some xs[j] := List.getElem?_eq_getElem hjl
  rw [List.drop_eq_getElem_cons hjl] at he
  have hla := hlast j hj
  rw [tk, List.drop_eq_getElem_cons hjl] at hla
  generalize xs[j] = x at hx he hla
  have hx' : (mvi xs)[j]? = some (.int x) := by rw [mvi_get, hx]; rfl
  have hc' := hc
  refine ch fun g_ h_ => ?_
  obtain ⟨e0, n0, hh, kp, n1, hs, ⟨dd, h1⟩, h2, ⟨dk, h3⟩, h4⟩ := hc'
  obtain ⟨ds, sa, sb, sl, s1, s2⟩ := hs.2.1
  refine h_ ?_
  rw [bodyF] at he
  refine frule_step W hd1 rfl fun G r => r _ (e0.stay w0 _ _ hrow rfl) (Int.natCast_nonneg j) (by lia) _ hx' _ _ _ h1 _ _ _ s1 (c_236 W (Mine.d0 hd rfl) fun G r => r (fun q G r => r ?_) fun q G r => r ?_)
  ·rw [if_pos (Int.ofNat_eq_zero.mp (of_decide_eq_true q))] at he
   exact ih (j + 1) (Nat.succ_le_succ (Nat.zero_le j)) him _ H out (z + 1) b hp _ _ rfl (by lia) hc he
  ·have q : size A.low x ≠ 0 := fun w => of_decide_eq_false q (congrArg _ w)
   rw [if_neg q] at he
   generalize hpp : (if has1 A.low (x :: xs.drop (j + 1)) = true then zrl z b else ([], z, b)) = p at he
   have hpz : pz (has1 A.low (x :: xs.drop (j + 1))) z b = p := hpp
   have hpl : p.2.1 + p.2.2.length <= z + b.length := by
    rw [<- hpp]
    split
    ·have := (zrl_len z b).1
     lia
    ·exact Nat.le_refl _
   refine zrl_loop W (Mine.d0 hd rfl) rfl rfl hla w0 hok hr z z (Nat.le_refl _) _ H out b hp rfl hc ?_ fun H1 hp1 hc1 => ?_
   ·rw [hpz]
    refine Nat.le_trans ?_ hl
    rw [<- he]
    split
    all_goals
     simp only [List.length_append]
     lia
   ·rw [hpz] at hc1 ⊢
    by_cases q1 : 1 < size A.low x
    ·rw [if_pos q1] at he
     obtain ⟨f0, f1, f2, f3⟩ := hc1
     refine fun G r => r (fun _ G r => r _ f2 (Int.natCast_nonneg _) (by decide) _ f2 (by rw [bitI_len]; lia) ?_) fun w => absurd (Int.ofNat_lt.mpr q1) (of_decide_eq_false w)
     have hput := CodeSt.put (b' := p.2.2 ++ [cbit A.low x]) w0 h0.1 ⟨f0, f1, f2, f3⟩
     rw [<- bitI_put] at hput
     refine ih (j + 1) (Nat.succ_le_succ (Nat.zero_le j)) him _ _ (out ++ p.1) p.2.1 (p.2.2 ++ [cbit A.low x]) hp1 _ _ rfl ?_ hput ?_
     ·rw [List.length_append, List.length_singleton]; lia
     ·rw [<- he, List.append_assoc]
    ·rw [if_neg q1] at he
     have hh1 : has1 A.low (x :: xs.drop (j + 1)) = true := by
      have : size A.low x = 1 := by lia
      simp [has1, this]
     have hp15 : p.2.1 <= 15 := by
      rw [<- hpp, if_pos hh1]; exact (zrl_len z b).2
     refine fun G r => r (fun w => absurd (Int.ofNat_lt.mp (of_decide_eq_true w)) q1) fun _ => new_body W (Mine.d0 hd rfl) (z := p.2.1) (x := x) (xs := xs) w0 hok hr hc1 hp15 hrow hx (by lia) ?_ fun H' hp' hc2 G r => r ?_
     ·refine Nat.le_trans ?_ hl
      rw [<- he]
      simp only [List.length_append]
      lia
     ·refine ih (j + 1) (Nat.succ_le_succ (Nat.zero_le j)) him _ H' _ 0 [] hp' _ _ rfl (Nat.zero_le _) hc2 ?_
      rw [<- he]
      simp only [List.append_assoc]
end
end
section
open PyProof.Rows
section
variable {c : Cx} {d : Nat} {H : HH} {X : QX} {Q : QE} {A : EA} {bits : List Bool} {run : Nat} {kept : List Bool}
noncomputable def bU : B := (.cons (.asg (.attr (.loc 0) 12) (.bin .Add (.attr (.loc 0) 12) (.int 1))) (.cons (.asg (.attr (.loc 0) 13) (.bin .Add (.attr (.loc 0) 13) (.loc 5))) (.cons (.ife (.or (.cons (.cmp .Eq (.attr (.loc 0) 12) (.int 32767)) (.cons (.cmp .Gt (.bi .len (.cons (.attr (.loc 0) 13) .nil)) (.int 937)) .nil))) (.cons (.ex (.meth (.loc 0) 34 .nil)) .nil) .nil) .nil)))
theorem bitI_app (a b : List Bool) : bitI (a ++ b) = bitI a ++ bitI b := by unfold bitI mvi; rw [List.map_append, List.map_append]
theorem upd_block (W : World0 c) (hd : 7 <= d) {ns : NS} {kp hp : Addr} {b : List Bool} {v1 v2 v3 v4 : Option MV} {F' : FF} {QM' : QM} {kk : C} (h0 : Enc H A kp bits run kept) (hh : H hp = some (.list (bitI b))) (hr : run < 1000) (hl : kept.length + b.length <= 937)
  (k : ∀ H' kp', Ext [A.enc, A.w, A.f] H H' -> Enc H' A kp' bits (run + 1) (kept ++ b) -> All (M c d ns kk [] (some (.ref A.enc) :: v1 :: v2 :: v3 :: v4 :: some (.ref hp) :: F') H' QM' X)) :
  All (M c d ns (cB bU kk) [] (some (.ref A.enc) :: v1 :: v2 :: v3 :: v4 :: some (.ref hp) :: F') H QM' X) := by
 refine ch fun g_ h_ => ?_
 obtain ⟨hs, ⟨dd, h1⟩, h2, ⟨dk, h3⟩, h4⟩ := h0
 refine h_ ?_
 have w0 := EncD.ws (A := A) ⟨⟨dd, h1⟩, h2, ⟨dk, h3⟩, h4⟩
 refine ch fun g_ h_ => ?_
 obtain ⟨d2, o, r, s, h4, h5, h6⟩ := h4
 refine h_ ?_
 have nk : kp ≠ A.enc := ne_of h2 h1 MO.noConfusion
 have nh : hp ≠ A.enc := ne_of hh h1 MO.noConfusion
 have n1 : A.w ≠ A.enc := ne_of h4 h1 nofun
 have n2 : A.f ≠ A.enc := ne_of h5 h1 MO.noConfusion
 have n3 : A.sk ≠ A.enc := ne_of h3 h1 nofun
 have ll : (bitI kept).length + (bitI b).length <= 937 := by rw [bitI_len, bitI_len]; exact hl
 refine fun G r' => r' _ _ _ h1 _ _ _ h1 _ _ _ (upd_same ..) _ ((upd_ne nk).trans h2) _ ((upd_ne nh).trans hh) (Nat.le_trans ll (by decide)) fun kp' hkp' G r' => ?_
 have n4 : kp' ≠ A.enc := (ne_new (upd_same ..) hkp').symm
 have lk : (bitI kept ++ bitI b).length <= 937 := by rw [List.length_append]; exact ll
 refine r' _ _ _ (upd_new (upd_same ..) hkp') _ _ _ (upd_same ..) (fun w => ?_) fun _ G r' => r' _ _ _ (upd_same ..) _ ((upd_ne n4).trans (upd_same ..)) (Nat.le_trans lk (by decide)) (fun w => absurd (Int.ofNat_lt.mp (of_decide_eq_true w)) (Nat.not_lt.mpr lk)) fun _ G r' => r' nof fun _ => ?_
 ·have := of_decide_eq_true w; lia
 ·refine k _ kp' ?_ ⟨hs.stay ?_, ⟨dd, upd_same ..⟩, (upd_ne n4).trans (bitI_app kept b ▸ upd_same ..), ⟨dk, (upd_ne n3).trans (upd_new ((upd_ne n3).trans h3) hkp')⟩, d2, o, r, s, (upd_ne n1).trans (upd_new ((upd_ne n1).trans h4) hkp'), (upd_ne n2).trans (upd_new ((upd_ne n2).trans h5) hkp'), h6⟩
  ·exact ((Ext.refl.set (.head _)).new hkp').set (.head _)
  ·exact Ext.stay (S := [A.enc, A.w, A.f]) (((Ext.refl.set (.head _)).new hkp').set (.head _)) w0
noncomputable def bitsI (bs : List Bool) : List Int := bs.map fun b => if b then 1 else 0
theorem row_end (W : World0 c) (hd : 7 <= d) {ns : NS} {kp hp : Addr} {fz : Nat} {fb : List Bool} {v1 v2 v3 : Option MV} {F' : FF} {QM' : QM} {kk : C} (g1 : Enc H A kp bits run kept) (hh : H hp = some (.list (bitI fb))) (hr : run < 1000) (hl : kept.length + fb.length <= 937)
  (fin : ∀ H' kp', Ext [A.enc, A.w, A.f] H H' -> (fz, fb) ≠ (0, []) -> Enc H' A kp' bits (run + 1) (kept ++ fb) -> All (M c d ns kk [] (some (.ref A.enc) :: v1 :: v2 :: v3 :: some (.int fz) :: some (.ref hp) :: F') H' QM' X))
  (fin0 : ∀ H', Ext [A.enc, A.w, A.f] H H' -> (fz, fb) = (0, []) -> Enc H' A kp bits run kept -> All (M c d ns kk [] (some (.ref A.enc) :: v1 :: v2 :: v3 :: some (.int fz) :: some (.ref hp) :: F') H' QM' X)) :
  All (M c d ns (cB (B.cons (S.ife (E.or (L.cons (E.cmp CmpOp.Gt (E.loc 4) (E.int 0)) (L.cons (E.cmp CmpOp.NotEq (E.loc 5) (E.list L.nil)) L.nil))) bU B.nil) B.nil) kk) [] (some (.ref A.enc) :: v1 :: v2 :: v3 :: some (.int fz) :: some (.ref hp) :: F') H QM' X) := by
 refine fun G r => r (fun z0 G r => r (fun _ => upd_block W hd g1 hh hr hl fun H' kp' e' g' => fin H' kp' e' (fun w => ?_) g') not_) fun z0 G r => r fun q hq G r => r (Or.inl ⟨bitsI fb, [], upd_new (o := .list (mvi (bitsI fb))) hh hq, upd_same .., fun G r =>
  r (fun w G r => r (fun _ => upd_block W hd (g1.ext0 (Ext.refl.new hq)) (upd_new hh hq) hr hl fun H' kp' e' g' => fin H' kp' ((Ext.refl.new hq).trans e' fun _ h => .inl h) (fun z => ?_) g') not_)
   fun w G r => r nof fun _ => fin0 _ (Ext.refl.new hq) ?_ (g1.ext0 (Ext.refl.new hq))⟩)
 ·rw [(Prod.mk.inj w).1] at z0
  exact absurd (of_decide_eq_true z0) (by decide)
 ·obtain rfl := (Prod.mk.inj z).2
  exact nof w
 ·have h1 : fz = 0 := Nat.le_zero.mp (Int.ofNat_le.mp (Int.not_lt.mp (of_decide_eq_false z0)))
  have h2 : fb = [] := List.map_eq_nil_iff.mp (show bitsI fb = [] from Decidable.byContradiction fun h => by rw [decide_eq_false h] at w; exact not_ w)
  rw [h1, h2]
theorem c_285 (W : World0 c) (hd : 12 <= d) {kp row : Addr} {xs : List Int} {pl : MV} (h0 : Enc H A kp bits run kept) (hok : run = 0 -> kept = []) (hr : run < 100) (hkl : kept.length <= 700) (hrow : H row = some (.list (mvi xs))) (hlen : xs.length = A.en + 1) (hen : A.en < 28) (hw : heft (bits, run, kept) <= 80000)
  (k : ∀ H' kp', Ext [A.enc, A.w, A.f] H H' -> Enc H' A kp' (codeF A.low (bits, run, kept) xs.tail).1 (codeF A.low (bits, run, kept) xs.tail).2.1 (codeF A.low (bits, run, kept) xs.tail).2.2 -> Q .non H') : CallS c d true 285 [.ref A.enc, pl, .ref row] H Q X := by
 have h0' := h0
 refine ch fun g_ h_ => ?_
 obtain ⟨hs, ⟨dd, h1⟩, h2, ⟨dk, h3⟩, h4⟩ := h0'
 obtain ⟨ds, sa, sb, sl, s1', s2⟩ := hs.2.1
 refine h_ ?_
 have w0 := h0.2.ws
 have e : ((A.en : Int) + 1 - 1).toNat = A.en := by lia
 have bl := body_len A.low xs.tail 0 []
 have fl := flush_len run kept
 have tl : xs.tail.length = A.en := by rw [List.length_tail, hlen]; rfl
 unfold heft at hw
 rw [List.length_nil] at bl
 refine crule W (d0 hd rfl) rfl rfl rfl rfl fun G r => r _ _ _ h1 (c_278 W (Mine.dd hd rfl) h0 hrow hlen (Nat.lt_trans hen (by decide)) fun l hl G r => r fun hp0 hhp0 G r => ?_)
 have i1 := upd_new (o' := .list []) h1 hhp0
 have i2 := upd_new (o' := .list []) s1' hhp0
 refine r _ _ _ i1 _ _ _ i2 _ _ _ i1 _ _ _ i2 s1 (by unfold small; lia) ?_
 have c0 : CodeSt H A bits run kept (upd H hp0 (.list [])) [] [] hp0 := ⟨Ext.refl.new hhp0, hhp0, upd_same .., kp, ne_new h2 hhp0, by
  rw [show lz bits run kept [] = (bits, run, kept) from if_pos rfl]
  exact h0.ext0 (Ext.refl.new hhp0)⟩
 rw [e]
 refine row_loop W (Mine.dd hd rfl) rfl rfl (Fin := bodyF A.low xs.tail 0 []) h0 hok (by lia) hrow hlen (Nat.lt_trans hen (by decide)) hl ?_ (fun H1 hp v6 v7 hc => ?_) A.en 1 (Nat.le_refl 1) (Nat.add_comm ..) _ _ [] 0 [] hp0 _ _ rfl (by decide) c0 (by rw [List.drop_one]; rfl)
 ·rw [List.length_append, List.length_append]; dsimp only at hw; lia
 ·refine ch fun g_ h_ => ?_
  obtain ⟨e1, n1, hh1, kp1, nk1, g1⟩ := hc
  refine h_ ?_
  have lzk : (lz bits run kept (bodyF A.low xs.tail 0 []).1).2.2.length <= kept.length := by
   unfold lz
   split
   ·exact Nat.le_refl _
   ·exact Nat.zero_le _
  refine row_end W (Mine.dd hd rfl) g1 hh1 (Nat.lt_of_le_of_lt lz_run (Nat.lt_trans hr (by decide))) (by lia) (fun H' kp' e' hne g' G r => r (k H' kp' (e1.trans e' fun _ h => .inl h) ?_)) fun H' e' he g' G r => r (k H' kp1 (e1.trans e' fun _ h => .inl h) ?_)
  ·unfold codeF
   dsimp only
   rw [if_neg hne]
   exact g'
  ·unfold codeF
   dsimp only
   rw [if_pos he]
   exact g'
theorem c_432 (W : World0 c) (hd : 6 <= d) (hs : SinkAt H A bits) (hl : bits.length <= 80000) (k : ∀ H' o n, Ext [A.sk, A.w, A.f] H H' -> octBits o = bits ++ List.replicate n true -> n < 8 -> (bits.length + n) % 8 = 0 -> Q (.bytes o) H') : CallS c d true 432 [.ref A.sk] H Q X := by
 obtain ⟨⟨dd, h1⟩, h2, h3⟩ := hs
 have hb := h3
 refine ch fun g_ h_ => ?_
 obtain ⟨d1, o, r, s, b1, b2, b3⟩ := h3
 refine h_ ?_
 refine crule W (d0 hd rfl) rfl rfl rfl rfl fun G r' => r' _ _ _ h1 _ _ _ b1 (c_117 W (Mine.dd hd rfl) hb (Nat.le_trans hl (by decide)) fun H1 n e1 w1 hn hm G r' => ?_)
 have w1' := w1
 refine ch fun g_ h_ => ?_
 obtain ⟨d1', o', r2, s', b1', b2', b3'⟩ := w1'
 refine h_ ?_
 have s1 := e1 _ _ (nin2 (ne_of h1 b1 nofun) (ne_of h1 b2 MO.noConfusion)) h1
 have hln : (bits ++ List.replicate n true).length = bits.length + n := by rw [List.length_append, List.length_replicate]
 refine r' _ _ _ s1 _ _ _ b1' (c_124 W (Mine.dd hd rfl) w1 (hln ▸ hm) (by rw [hln]; lia) fun o ho hlo G r' => r' fun a d2 ha hd2 hne => c_103 W (Mine.dd hd rfl) (upd_same ..) fun f H2 hf nf bw e2 => ⟨rfl, fun G r' => r' _ _ _ (e2 _ _ (fun w => ne_new s1 ha (List.mem_singleton.mp w)) (upd_new s1 ha)) (k _ o n ?_ ho hn hm)⟩)
 have e3 : Ext [A.sk, A.w, A.f] H H2 := (e1.mono (S := [A.sk, A.w, A.f]) fun _ h => .inl (.tail _ h)).trans (((Ext.refl.new ha).trans (S := [a]) e2 fun _ h => .inl h).mono (S := []) fun b h => .inr (List.mem_singleton.mp h ▸ ha)) fun _ h => nomatch h
 exact e3.set (.head _)
theorem c_292 (W : World0 c) (hd : 9 <= d) {kp : Addr} (h0 : Enc H A kp bits run kept) (hok : run = 0 -> kept = []) (hr : run < 2 ^ 15) (hl : bits.length + (flush run kept).length <= 80000) (k : ∀ H' o n, Ext [A.enc, A.sk, A.w, A.f] H H' -> octBits o = bits ++ flush run kept ++ List.replicate n true -> n < 8 -> Q (.bytes o) H') : CallS c d true 292 [.ref A.enc] H Q X := by
 have h0' := h0
 refine ch fun g_ h_ => ?_
 obtain ⟨hs, ⟨dd, h1⟩, h2, ⟨dk, h3⟩, h4⟩ := h0'
 refine h_ ?_
 refine crule W (d0 hd rfl) rfl rfl rfl rfl fun G r => r _ _ _ h1 (c_271 W (Mine.dd hd rfl) h0 hok hr (Nat.le_trans hl (by decide)) fun H1 kp1 e1 _ g1 G r => ?_)
 have g1' := g1
 refine ch fun g_ h_ => ?_
 obtain ⟨hs1, ⟨dd1, a1⟩, a2, ⟨dk1, a3⟩, a4⟩ := g1'
 refine h_ ?_
 exact r _ _ _ a1 _ _ _ a3 (c_432 W (Mine.dd hd rfl) g1.sink (by rw [List.length_append]; exact hl) fun H2 o n e2 ho hn _ G r => r (k H2 o n ((e1.mono (S := [A.enc, A.sk, A.w, A.f]) fun a h => .inl ((List.mem_cons.mp h).elim (fun h => h ▸ .head _) fun h => .tail _ (.tail _ h))).trans (e2.mono (S := [A.enc, A.sk, A.w, A.f]) fun _ h => .inl (.tail _ h)) fun _ h => .inl h) ho hn))
theorem c_376 (W : World0 c) (hd : 2 <= d) {sc dd a b s : Addr} {en low : Nat} (h : H sc = some (.inst 393 dd [])) (hs : H s = some (.list [.int 0])) (k : ∀ H', Ext [sc] H H' -> ScanAt H' sc en low -> Q .non H') : CallS c d true 376 [.ref sc, .ref a, .ref b, .ref s, .int 1, .int en, .int (low + 1), .int low] H Q X :=
 crule W hd rfl rfl rfl rfl fun G r => r _ _ _ h _ _ _ (upd_same ..) _ _ _ (upd_same ..) _ _ _ (upd_same ..) _ _ _ (upd_same ..) _ _ _ (upd_same ..) _ _ _ (upd_same ..)
  (k _ (((((((Ext.refl.set (.head _)).set (.head _)).set (.head _)).set (.head _)).set (.head _)).set (.head _)).set (.head _)) ⟨dd, .ref a, .ref b, s, upd_same .., by
   have n := ne_of hs h MO.noConfusion
   rw [upd_ne n, upd_ne n, upd_ne n, upd_ne n, upd_ne n, upd_ne n, upd_ne n, hs]⟩)
theorem c_411 (W : World0 c) (hd : 4 <= d) {sk dd tabs : Addr} (h : H sk = some (.inst 435 dd [])) (k : ∀ H' w f, Ext [sk] H H' -> H w = none -> H f = none -> (∃ dd, H' sk = some (.inst 435 dd [(23, .ref tabs), (24, .ref w)])) -> BW H' w f [] -> Q .non H') : CallS c d true 411 [.ref sk, .ref tabs] H Q X := by
 refine crule W (d0 hd rfl) rfl rfl rfl rfl fun G r' => r' _ _ _ h fun a d2 ha hd2 hne => c_103 W (Mine.dd hd rfl) (upd_same ..) fun f H2 hf nf bw e2 => ⟨rfl, fun G r' => ?_⟩
 have na : sk ≠ a := ne_new (upd_same ..) ha
 have s2 := e2 _ _ (fun w => na (List.mem_singleton.mp w)) ((upd_ne na).trans (upd_same ..))
 have ha' : H a = none := (upd_ne na.symm).symm.trans ha
 have nf2 : f ≠ sk := fun w => by rw [w, upd_ne na, upd_same] at hf; cases hf
 have hf' : H f = none := by rw [upd_ne nf, upd_ne nf2] at hf; exact hf
 refine ch fun g_ h_ => ?_
 obtain ⟨d3, o, r, s, b1, b2, b3⟩ := bw
 refine h_ ?_
 refine r' _ _ _ s2 (k _ a f ?_ ha' hf' ⟨dd, upd_same ..⟩ ⟨d3, o, r, s, (upd_ne na.symm).trans b1, (upd_ne nf2).trans b2, b3⟩)
 exact ((((Ext.refl.set (S := [sk, a]) (.head _)).new ha).trans e2 fun _ h => .inl (.tail _ h)).mono (S := [sk]) fun b h => (List.mem_cons.mp h).elim (fun h => .inl (h ▸ .head _)) fun h => .inr (List.mem_singleton.mp h ▸ ha')).set (.head _)
theorem c_250 (W : World0 c) (hd : 2 <= d) {enc dd sk dk sc tabs tb w f : Addr} {en low : Nat} (h : H enc = some (.inst 295 dd [])) (hsc : ScanAt H sc en low) (htb : TabsAt H tabs tb) (hsk : H sk = some (.inst 435 dk [(23, .ref tabs), (24, .ref w)])) (hbw : BW H w f [])
  (k : ∀ H' key kp, Ext [enc] H H' -> Enc H' ⟨enc, sk, key, sc, tabs, tb, w, f, en, low⟩ kp [] 0 [] -> Q .non H') : CallS c d true 250 [.ref enc, .ref sc, .ref sk] H Q X := by
 have hsc' := hsc
 have hbw' := hbw
 refine ch fun g_ h_ => ?_
 obtain ⟨ds, sa, sb, sl, s1, s2⟩ := hsc'
 obtain ⟨d2, o, r, s, b1, b2, b3⟩ := hbw'
 refine h_ ?_
 have m1 : sc ≠ enc := ne_of s1 h nofun
 have m2 : sl ≠ enc := ne_of s2 h MO.noConfusion
 have one : ∀ {a : Addr}, a ≠ enc -> a ∉ [enc] := fun n w => n (List.mem_singleton.mp w)
 refine crule W hd rfl rfl rfl rfl fun G r' => r' _ _ _ h _ _ _ (upd_same ..) _ _ _ ((upd_ne m1).trans ((upd_ne m1).trans s1)) _ ((upd_ne m2).trans ((upd_ne m2).trans s2)) l0 u0 _ rfl fun key hkey G r' => r' _ _ _ (upd_new (upd_same ..) hkey) _ _ _ (upd_same ..) fun kp hkp G r' => r' _ _ _ (upd_new (upd_same ..) hkp) ?_
 have nk : key ≠ enc := (ne_new (upd_same ..) hkey).symm
 have nkp : kp ≠ enc := (ne_new (upd_same ..) hkp).symm
 refine (fun H' (e3 : Ext [enc] H H') (q1 : ∃ dd, H' enc = some (.inst 295 dd [(9, .ref sc), (10, .ref sk), (11, .ref key), (12, .int 0), (13, .ref kp)])) (q2 : H' kp = some (.list [])) (q3 : H' key = some (.tuple (mvi [1, 0]))) => ?_ : ∀ H', _ -> _ -> _ -> _ -> Q .non H') _ ?_ ⟨dd, upd_same ..⟩ ((upd_ne nkp).trans (upd_same ..)) ((upd_ne nk).trans (upd_new ((upd_ne nk).trans ((upd_ne nk).trans (upd_same ..))) hkp))
 ·have st := e3.stay (ws1 h rfl)
  exact k _ key kp e3 ⟨⟨q3, hsc.stay st, htb.stay st⟩, q1, q2, ⟨dk, e3 _ _ (one (ne_of hsk h nofun)) hsk⟩, d2, o, r, s, e3 _ _ (one (ne_of b1 h nofun)) b1, e3 _ _ (one (ne_of b2 h MO.noConfusion)) b2, b3⟩
 ·exact (((((((Ext.refl.set (.head _)).set (.head _)).new hkey).set (.head _)).set (.head _)).new hkp).set (.head _))
theorem c_257 (W : World0 c) (hd : 2 <= d) {kp : Addr} (h0 : Enc H A kp bits 0 []) (k : ∀ H' kp', Ext [A.enc] H H' -> Enc H' A kp' bits 0 [] -> Q .non H') : CallS c d true 257 [.ref A.enc] H Q X := by
 refine ch fun g_ h_ => ?_
 obtain ⟨hs, ⟨dd, h1⟩, h2, ⟨dk, h3⟩, d2, o, r, s, h4, h5, h6⟩ := h0
 refine h_ ?_
 have one : ∀ {a : Addr}, a ≠ A.enc -> a ∉ [A.enc] := fun n w => n (List.mem_singleton.mp w)
 refine crule W hd rfl rfl rfl rfl fun G r' => r' _ _ _ h1 fun kp' hkp G r' => r' _ _ _ (upd_new (upd_same ..) hkp) ?_
 have nkp : kp' ≠ A.enc := (ne_new (upd_same ..) hkp).symm
 refine (fun H' (e3 : Ext [A.enc] H H') (q1 : ∃ dd, H' A.enc = some (.inst 295 dd [(9, .ref A.sc), (10, .ref A.sk), (11, .ref A.key), (12, .int 0), (13, .ref kp')])) (q2 : H' kp' = some (.list [])) => k _ kp' e3 ⟨hs.stay (e3.stay (ws1 h1 rfl)), q1, q2, ⟨dk, e3 _ _ (one (ne_of h3 h1 nofun)) h3⟩, d2, o, r, s, e3 _ _ (one (ne_of h4 h1 nofun)) h4, e3 _ _ (one (ne_of h5 h1 MO.noConfusion)) h5, h6⟩ : ∀ H', _ -> _ -> _ -> Q .non H') _ (((Ext.refl.set (.head _)).new hkp).set (.head _)) ⟨dd, upd_same ..⟩ ((upd_ne nkp).trans (upd_same ..))
end
end
section
open PyProof.Rows
set_option genInjectivity false in
set_option genSizeOf false in
structure DA where
 rd : Addr
 sc : Addr
 tb : Addr
 r : Addr
 en : Nat
 low : Nat
noncomputable def ScanI (H : HH) (sc : Addr) (en low : Nat) : Prop := ∃ dd a b s, H sc = some (.inst 393 dd [(16, a), (17, b), (18, s), (19, .int 1), (20, .int en), (21, .int (low + 1)), (22, .int low)])
theorem ScanAt.I {H : HH} {sc : Addr} {en low : Nat} (h : ScanAt H sc en low) : ScanI H sc en low := by
 refine ch fun g_ h_ => ?_
 obtain ⟨dd, a, b, s, h1, h2⟩ := h
 refine h_ ?_
 exact ⟨dd, a, b, .ref s, h1⟩
noncomputable def DecS (H : HH) (A : DA) : Prop := ScanAt H A.sc A.en A.low /\ Tb H A.tb
theorem DecS.stay {H H' : HH} {A : DA} (h : DecS H A) (e : Stay H H') : DecS H' A := ⟨h.1.stay e, h.2.stay e⟩
noncomputable def Dec (H : HH) (A : DA) (run : Nat) : Prop := ∃ dd, H A.rd = some (.inst 358 dd [(9, .ref A.sc), (15, .ref A.tb), (14, .ref A.r), (12, .int run)])
noncomputable def Ev (low : Nat) (xs : List Int) : Prop := ∀ x ∈ xs, size low x % 2 = 0
theorem Gives.imp' {α : Type} {k1 k2 : α -> List Bool -> Prop} {x1 x2 : Addr -> Prop} {r : Res α} (h : Gives r k1 x1) (a : ∀ v t, r = .ok v t -> k1 v t -> k2 v t) (b : ∀ C, x1 C -> x2 C) : Gives r k2 x2 := by
 cases r
 ·exact a _ _ rfl h
 ·exact b _ h
 ·exact b _ h
 ·exact h
theorem mvi_at {xs : List Int} {k : Nat} {x : Int} (h : xs[k]? = some x) : (mvi xs)[k]? = some (.int x) := by rw [mvi_get, h]; rfl
theorem pass_run (low : Nat) : ∀ (ks : List Int) (z : Nat) (rem : List Bool), ks.length <= z -> (passT low ks z).run rem = ((restT low ks).run rem).bind fun p t => .ok (p, []) t
 | [], z, rem, h => rfl
 | c :: cs, z, rem, h => by
  simp only [List.length_cons] at h
  rw [passT_cons, restT_cons]
  by_cases hc : c ≠ 0
  ·rw [if_pos hc, if_pos hc]
   cases rem with
   | nil => rfl
   | cons b t =>
    show ((passT low cs z).bind _).run t = (((restT low cs).bind _).run t).bind _
    rw [run_bind, run_bind, pass_run low cs z t (by lia)]
    cases (restT low cs).run t <;> rfl
  ·rw [if_neg hc, if_neg hc, if_neg (by lia), run_bind, run_bind, pass_run low cs (z - 1) rem (by lia)]
   cases (restT low cs).run rem <;> rfl
theorem bind_ok {α β : Type} {r : Rd α} {f : α -> Rd β} {s u : List Bool} {b : β} (h : (r.bind f).run s = .ok b u) : ∃ a t, r.run s = .ok a t /\ (f a).run t = .ok b u := by
 rw [run_bind] at h
 cases w : r.run s with
 | ok a t => rw [w] at h; exact ⟨a, t, rfl, h⟩
 | cut => rw [w] at h; cases h
 | code => rw [w] at h; cases h
 | stuck => rw [w] at h; cases h
theorem symT_ok {s t : List Bool} {v : Nat} (h : symT.run s = .ok v t) : ∃ ci, ci < 48 /\ v = symV ci /\ (bitsT 7 0).run s = .ok ci t := by
 obtain ⟨ci, t', h1, h2⟩ := bind_ok h
 by_cases q : ci < 48
 ·rw [if_pos q] at h2
  cases h2; exact ⟨ci, q, rfl, h1⟩
 ·rw [if_neg q] at h2; cases h2
section
variable {low x z : Nat} {l : List Int} {s u : List Bool}
theorem pass_nz {x : Int} {q : List Int × List Int} (hx : x ≠ 0) (h : (passT low (x :: l) z).run s = .ok q u) : ∃ b t pr, s = b :: t /\ (passT low l z).run t = .ok pr u /\ q = (corr low x b :: pr.1, pr.2) := by
 rw [passT_cons, if_pos hx] at h
 cases s with
 | nil => cases h
 | cons b t =>
  obtain ⟨pr, t', h1, h2⟩ := bind_ok (show ((passT low l z).bind _).run t = _ from h)
  cases h2; exact ⟨b, t, pr, rfl, h1, rfl⟩
theorem pass_z0 {q : List Int × List Int} (h : (passT low (0 :: l) 0).run s = .ok q u) : q = ([], 0 :: l) /\ u = s := by cases h; exact ⟨rfl, rfl⟩
theorem pass_zs {q : List Int × List Int} (hz : z ≠ 0) (h : (passT low (0 :: l) z).run s = .ok q u) : ∃ pr, (passT low l (z - 1)).run s = .ok pr u /\ q = (0 :: pr.1, pr.2) := by
 rw [passT_cons, if_neg (fun h => h rfl), if_neg hz] at h
 obtain ⟨pr, t', h1, h2⟩ := bind_ok h
 cases h2; exact ⟨pr, h1, rfl⟩
theorem rest_nz {x : Int} {q : List Int} (hx : x ≠ 0) (h : (restT low (x :: l)).run s = .ok q u) : ∃ b t pr, s = b :: t /\ (restT low l).run t = .ok pr u /\ q = corr low x b :: pr := by
 rw [restT_cons, if_pos hx] at h
 cases s with
 | nil => cases h
 | cons b t =>
  obtain ⟨pr, t', h1, h2⟩ := bind_ok (show ((restT low l).bind _).run t = _ from h)
  cases h2; exact ⟨b, t, pr, rfl, h1, rfl⟩
theorem rest_z {q : List Int} (h : (restT low (0 :: l)).run s = .ok q u) : ∃ pr, (restT low l).run s = .ok pr u /\ q = 0 :: pr := by
 rw [restT_cons, if_neg (fun h => h rfl)] at h
 obtain ⟨pr, t', h1, h2⟩ := bind_ok h
 cases h2; exact ⟨pr, h1, rfl⟩
end
theorem pass_len (low : Nat) : ∀ (ks : List Int) (z : Nat) (rem t : List Bool) (q : List Int × List Int), (passT low ks z).run rem = .ok q t -> q.1.length <= ks.length /\ q.2 = ks.drop q.1.length
 | [], z, rem, t, q, h => by cases h; exact ⟨Nat.le_refl _, rfl⟩
 | c :: cs, z, rem, t, q, h => by
  by_cases hc : c ≠ 0
  ·refine ch fun g_ h_ => ?_
   obtain ⟨b, t', pr, _, h1, e⟩ := pass_nz hc h
   obtain ⟨i1, i2⟩ := pass_len low cs z t' t pr h1
   refine h_ ?_
   rw [e]; exact ⟨Nat.succ_le_succ i1, i2⟩
  ·obtain rfl : c = 0 := Decidable.not_not.mp hc
   by_cases hz : z = 0
   ·rw [hz] at h; rw [(pass_z0 h).1]; exact ⟨Nat.zero_le _, rfl⟩
   ·obtain ⟨pr, h1, e⟩ := pass_zs hz h
    obtain ⟨i1, i2⟩ := pass_len low cs (z - 1) rem t pr h1
    rw [e]; exact ⟨Nat.succ_le_succ i1, i2⟩
section
variable {c : Cx} {d : Nat} {H : HH} {X : QX} {Q : QE} {A : DA} {run : Nat} {rem : List Bool}
theorem BR.ext {H H' : HH} {r : Addr} {rem : List Bool} {S : List Addr} (h : BR H r rem) (e : Ext S H H') (n : r ∉ S) : BR H' r rem := by
 refine ch fun g_ h_ => ?_
 obtain ⟨dd, o, pos, h1, h2⟩ := h
 refine h_ ?_
 exact ⟨dd, o, pos, e _ _ n h1, h2⟩
theorem even_and {n : Nat} (h : n % 2 = 0) : ((n &&& 1 : Nat) : Int) = 0 := by rw [Nat.and_one_is_mod, h]; rfl
theorem c_327 (W : World0 c) (hd : 3 <= d) {p : Addr} {k : Nat} {xs : List Int} {x : Int} (hs : ScanI H A.sc A.en A.low) (h0 : Dec H A run) (hr : BR H A.r rem) (hp : H p = some (.list (mvi xs))) (hx : xs[k]? = some x) (hev : size A.low x % 2 = 0) (hk : k < 2 ^ 60) (hlow : A.low <= 60)
  (kb : ∀ b t H', rem = b :: t -> Ext [A.r, p] H H' -> BR H' A.r t -> H' p = some (.list (mvi (xs.set k (corr A.low x b)))) -> Q .non H') (kx : rem = [] -> X 75 H) : CallS c d true 327 [.ref A.rd, .ref p, .int k] H Q X := by
 obtain ⟨dd, h1⟩ := h0
 have hr' := hr
 refine ch fun g_ h_ => ?_
 obtain ⟨ds, sa, sb, sl, s1⟩ := hs
 obtain ⟨d2, o, pos, r1, r2⟩ := hr'
 refine h_ ?_
 have hx' := mvi_at hx
 have hlt : k < (mvi xs).length := (List.getElem?_eq_some_iff.mp hx').1
 have k0 : (0 : Int) <= k := Int.natCast_nonneg k
 have k62 : (k : Int) < 2 ^ 62 := by lia
 refine crule W (dd2 hd) rfl rfl rfl rfl fun G r' => r' _ _ _ h1 _ _ _ r1 (c_159 W (Mine.dd hd rfl) hr (fun b t H1 er e1 b1 G r' => ?_) kx)
 have one : ∀ {a : Addr}, a ≠ A.r -> a ∉ [A.r] := fun n w => n (List.mem_singleton.mp w)
 have n2 : p ≠ A.r := ne_of hp r1 MO.noConfusion
 have a1 := e1 _ _ (one (ne_of h1 r1 nofun)) h1
 have a2 := e1 _ _ (one n2) hp
 have a3 := e1 _ _ (one (ne_of s1 r1 nofun)) s1
 have e2 : Ext [A.r, p] H H1 := e1.mono fun a h => .inl (List.mem_singleton.mp h ▸ .head _)
 cases b with
 | false => exact r' (fun q => absurd q (by decide)) fun _ G r' => r' nof fun _ G r' => r' (kb false t H1 er e2 b1 (by rw [show corr A.low x false = x from rfl, list_set_same hx]; exact a2))
 | true =>
  have kk : ∀ y, y = corr A.low x true -> Q .non (upd H1 p (.list ((mvi xs).set k (.int y)))) := fun y e => kb true t _ er (e2.set (.tail _ (.head _))) (b1.ext Ext.one fun w => n2 (List.mem_singleton.mp w).symm) (by rw [e, upd_same, mvi_set])
  have e := corr_int A.low x true rfl
  exact r' (fun _ G r' => r' _ a2 k0 k62 _ hx' _ _ _ a1 _ _ _ a3 (c_236 W (Mine.dd hd rfl) fun G r' => r' (Int.natCast_nonneg _) (by decide) (fun _ G r' => r' (fun _ G r' => r' _ _ _ a1 _ _ _ a3 (.inl rfl) (Int.natCast_nonneg _) (by lia) _ a2 k0 k62 _ hx'
   (fun w G r' => r' _ a2 k0 k62 _ hx' _ a2 k0 k62 hlt (kk _ (by rw [e, if_pos (of_decide_eq_true w)]; rfl))) fun w G r' => r' _ a2 k0 k62 _ hx' _ a2 k0 k62 hlt (kk _ (by rw [e, if_neg (of_decide_eq_false w)]; rfl))) not_)
   fun w => absurd (even_and hev) (of_decide_eq_false w))) fun q => absurd q (by decide)
noncomputable def cP : Mine.E := (E.cmp CmpOp.LtE (E.loc 2) (E.attr (E.attr (E.loc 0) 9) 20))
noncomputable def bP : B := (.cons (.ife (.cmp .NotEq (.sub (.loc 1) (.loc 2)) (.int 0)) (.cons (.ex (.meth (.loc 0) 37 (.cons (.loc 1) (.cons (.loc 2) .nil)))) .nil) (.cons (.ife (.cmp .Eq (.loc 3) (.int 0)) (.cons (.ret (.loc 2)) .nil) (.cons (.asg (.loc 3) (.bin .Sub (.loc 3) (.int 1))) .nil)) .nil)) (.cons (.asg (.loc 2) (.bin .Add (.loc 2) (.int 1))) .nil))
theorem take_set {xs : List Int} {k : Nat} (h : k < xs.length) (v : Int) : (xs.set k v).take (k + 1) = xs.take k ++ [v] /\ (xs.set k v).drop (k + 1) = xs.drop (k + 1) := by
 have e : xs.set k v = (xs.take k ++ [v]) ++ xs.drop (k + 1) := by
  rw [List.set_eq_take_append_cons_drop, if_pos h]; simp
 have l : (xs.take k ++ [v]).length = k + 1 := by simp; lia
 rw [e]
 exact ⟨List.take_left' l, List.drop_left' l⟩
theorem pass_loop (W : World0 c) (hd : 5 <= d) {ns : NS} {cm : Mine.E} {bm : B} (hcm : cm = cP) (hbm : bm = bP) {H0 : HH} {p : Addr} {QS' : QS} {Qr : QE} {rem0 : List Bool} {xs0 : List Int} (hs : ScanI H0 A.sc A.en A.low) (h0 : Dec H0 A run) (hr : BR H0 A.r rem0) (hp : H0 p = some (.list (mvi xs0))) (hen : A.en < 10000) (hlow : A.low <= 60)
  (hret : ∀ v F' H', Qr v H' -> QS' (.ret v) F' H') (hnext : ∀ (kk : Int) z H', Qr (.int kk) H' -> QS' .next [some (.ref A.rd), some (.ref p), some (.int kk), z] H') :
  ∀ (n k : Nat), k + n = A.en + 1 -> ∀ (zi : Int) (xs : List Int) (z : Nat) (rem : List Bool) (H : HH), zi = (z : Int) -> xs.length = A.en + 1 -> Ext [A.r, p] H0 H -> BR H A.r rem -> H p = some (.list (mvi xs)) -> Ev A.low (xs.drop k) ->
   Gives ((passT A.low (xs.drop k) z).run rem) (fun q t => ∀ H', Ext [A.r, p] H0 H' -> BR H' A.r t -> H' p = some (.list (mvi (xs.take k ++ q.1 ++ q.2))) -> Qr (.int (k + q.1.length : Nat)) H') (fun C => ∀ H', Ext [A.r, p] H0 H' -> X C H') ->
   WhlS c d true ns cm bm [some (.ref A.rd), some (.ref p), some (.int k), some (.int zi)] H QS' X := fun n => by
 subst hcm; subst hbm
 have hd1 := d0 (b := 1) hd rfl
 obtain ⟨dd, h1⟩ := h0
 obtain ⟨ds, sa, sb, sl, s1⟩ := hs
 obtain ⟨d2, o, pos, r1, r2⟩ := hr
 have psc := fun H (e : Ext [A.r, p] H0 H) => e _ _ (nin2 (ne_of s1 r1 nofun) (ne_of s1 hp MO.noConfusion)) s1
 have prd := fun H (e : Ext [A.r, p] H0 H) => e _ _ (nin2 (ne_of h1 r1 nofun) (ne_of h1 hp MO.noConfusion)) h1
 induction n with
 | zero =>
  intro k hk zi xs z rem H hzi hlen e br hpH ev g
  obtain rfl : k = A.en + 1 := hk
  rw [List.drop_eq_nil_of_le (Nat.le_of_eq hlen)] at g
  exact wrule W hd1 fun G r => r _ _ _ (prd H e) _ _ _ (psc H e) (fun w => absurd (Int.ofNat_le.mp (of_decide_eq_true w)) (Nat.not_succ_le_self _)) fun _ G r => r (hnext _ _ _ (g H e br (by rw [List.take_of_length_le (Nat.le_of_eq hlen), List.append_nil, List.append_nil]; exact hpH)))
 | succ n ih =>
  intro k hk zi xs z rem H hzi hlen e br hpH ev g
  subst hzi
  have him := (Nat.succ_add_eq_add_succ k n).trans hk
  have hkl : k < xs.length := by lia
  have k0 : (0 : Int) <= k := Int.natCast_nonneg k
  have k62 : (k : Int) < 2 ^ 62 := by lia
  have b1 := prd H e
  have hx : xs[k]? = some xs[k] := List.getElem?_eq_getElem hkl
  have dk := List.drop_eq_getElem_cons hkl
  have evx : size A.low xs[k] % 2 = 0 := ev _ (by rw [dk]; exact List.mem_cons_self)
  have ev' : Ev A.low (xs.drop (k + 1)) := fun y hy => ev y (by rw [dk]; exact List.mem_cons_of_mem _ hy)
  have tkx : xs.take (k + 1) = xs.take k ++ [xs[k]] := by rw [List.take_add_one, hx]; rfl
  have rc : xs.take k ++ xs[k] :: xs.drop (k + 1) = xs := by rw [<- dk, List.take_append_drop]
  rw [dk] at g
  clear dk
  generalize xs[k] = x at hx evx g tkx rc
  have one : ∀ {l : List Int}, k + 1 + l.length = k + (l.length + 1) := fun {l} => by rw [Nat.add_assoc, Nat.add_comm 1]
  rw [passT_cons] at g
  refine wrule W hd1 fun G r => r _ _ _ b1 _ _ _ (psc H e) (fun _ G r => r _ hpH k0 k62 _ (mvi_at hx) (fun w G r => r _ _ _ b1 ?_) fun w G r => r (fun hz G r => r ?_) fun hz G r => r ?_) fun w => absurd (Int.ofNat_le.mpr (by lia)) (of_decide_eq_false w)
  ·have hx0 : x ≠ 0 := fun h => by rw [decide_eq_true h] at w; exact nof w
   rw [if_pos hx0] at g
   refine c_327 W (Mine.d0 hd rfl) ⟨ds, sa, sb, sl, psc H e⟩ ⟨dd, b1⟩ br hpH hx evx (by lia) hlow (fun b t H1 er e1 br1 hp1 G r => r ?_) fun er => by subst er; exact g H e
   subst er
   rw [show ((Rd.bit fun b => (passT A.low (xs.drop (k + 1)) z).bind fun p => .done (corr A.low x b :: p.1, p.2)).run (b :: t)) = ((passT A.low (xs.drop (k + 1)) z).bind fun p => .done (corr A.low x b :: p.1, p.2)).run t from rfl, Gives_run] at g
   obtain ⟨ts1, ts2⟩ := take_set hkl (corr A.low x b)
   refine ih (k + 1) him _ (xs.set k (corr A.low x b)) z t H1 rfl (by rw [List.length_set]; exact hlen) (e.trans e1 fun _ h => .inl h) br1 hp1 (by rw [ts2]; exact ev') ?_
   rw [ts2]
   refine g.imp (fun q t g' H' e' b' hp' => ?_) fun C g' => g'
   rw [one]
   exact g' H' e' b' (by rw [hp', ts1]; simp only [List.append_assoc]; rfl)
  ·have hx0 : x = 0 := Decidable.byContradiction fun h => by rw [decide_eq_false h] at w; exact not_ w
   rw [if_neg (fun h => h hx0), if_pos (Int.ofNat_eq_zero.mp (of_decide_eq_true hz))] at g
   exact hret _ _ _ (g H e br (by rw [hpH, List.append_nil, rc]))
  ·have hx0 : x = 0 := Decidable.byContradiction fun h => by rw [decide_eq_false h] at w; exact not_ w
   rw [if_neg (fun h => h hx0), if_neg (fun h => of_decide_eq_false hz (congrArg _ h)), Gives_run] at g
   refine ih (k + 1) him _ xs (z - 1) rem H (by have := of_decide_eq_false hz; lia) hlen e br hpH ev' (g.imp (fun q t g' H' e' b' hp' => ?_) fun C g' => g')
   rw [one]
   exact g' H' e' b' (by rw [hp', tkx]; simp only [List.append_assoc]; rfl)
end
end
section
open PyProof.Rows
noncomputable def endT (low R : Nat) (ks : List Int) : Rd (List Int × Nat) := if R = 0 then .done (ks, 0) else (restT low ks).bind fun p => .done (p, R - 1)
theorem row_endT (low : Nat) (ks : List Int) {run : Nat} (h : run ≠ 0) : rowT low ks run = endT low run ks := by unfold rowT endT; rw [if_neg h, if_neg h]
section
variable {c : Cx} {d : Nat} {H : HH} {X : QX} {Q : QE} {A : DA} {run : Nat} {rem : List Bool}
theorem c_334 (W : World0 c) (hd : 7 <= d) {p : Addr} {k z : Nat} {xs : List Int} (hs : ScanI H A.sc A.en A.low) (h0 : Dec H A run) (hr : BR H A.r rem) (hp : H p = some (.list (mvi xs))) (hlen : xs.length = A.en + 1) (hk : k <= A.en + 1) (hen : A.en < 10000) (hlow : A.low <= 60) (hev : Ev A.low (xs.drop k))
  (g : Gives ((passT A.low (xs.drop k) z).run rem) (fun q t => ∀ H', Ext [A.r, p] H H' -> BR H' A.r t -> H' p = some (.list (mvi (xs.take k ++ q.1 ++ q.2))) -> Q (.int (k + q.1.length : Nat)) H') (fun C => ∀ H', Ext [A.r, p] H H' -> X C H')) : CallS c d true 334 [.ref A.rd, .ref p, .int k, .int z] H Q X :=
 crule W (d0 hd rfl) rfl rfl rfl rfl fun G r => r (pass_loop W (dd hd rfl) (Qr := Q) rfl rfl hs h0 hr hp hen hlow (fun v F' H' h => h) (fun kk z H' h G r => r h) (A.en + 1 - k) k (Nat.add_sub_cancel' hk) _ xs z rem H rfl hlen .refl hr hp hev g)
theorem c_341 (W : World0 c) (hd : 4 <= d) {s : Nat} (hs : ScanI H A.sc A.en A.low) (h0 : Dec H A run) (hr : BR H A.r rem) (hlow : A.low <= 60)
  (g : Gives ((valT A.low s).run rem) (fun v t => ∀ H', Ext [A.r] H H' -> BR H' A.r t -> Q (.int v) H') (fun C => ∀ H', Ext [A.r] H H' -> X C H')) : CallS c d true 341 [.ref A.rd, .int s] H Q X := by
 obtain ⟨dd, h1⟩ := h0
 have hr' := hr
 refine ch fun g_ h_ => ?_
 obtain ⟨ds, sa, sb, sl, s1⟩ := hs
 obtain ⟨d2, o, pos, r1, r2⟩ := hr'
 refine h_ ?_
 have one : ∀ {a : Addr}, a ≠ A.r -> a ∉ [A.r] := fun n w => n (List.mem_singleton.mp w)
 have e16 : s &&& 15 = s % 16 := Nat.and_two_pow_sub_one_eq_mod s 4
 have l64 : (A.low : Int) <= 64 := by lia
 have l0 : (0 : Int) <= A.low := Int.natCast_nonneg _
 unfold valT at g
 refine crule W (dd2 (Nat.le_of_succ_le hd)) rfl rfl rfl rfl fun G r => r (fun q G r => r ?_) fun q G r => r (Int.natCast_nonneg s) (by decide) (fun w G r => r ?_) fun w G r => ?_
 ·rw [if_pos (Int.ofNat_inj.mp (of_decide_eq_true q))] at g
  exact g H .refl hr
 ·rw [if_neg (fun h => of_decide_eq_false q (congrArg _ h)), if_pos (fun h => ?_)] at g
  ·exact g H .refl
  ·exact nof ((show (!decide (((s &&& 15 : Nat) : Int) = 1)) = false by rw [e16, h]; rfl).symm.trans w)
 ·have q1 : s % 16 = 1 := Decidable.byContradiction fun h => by
   have : ((s &&& 15 : Nat) : Int) ≠ 1 := by rw [e16]; exact fun z => h (Int.ofNat_inj.mp z)
   exact nof (((congrArg (!·) (decide_eq_false this)).symm.trans w).symm)
  rw [if_neg (fun h => of_decide_eq_false q (congrArg _ h)), if_neg (fun h => h q1)] at g
  refine r _ _ _ h1 _ _ _ r1 (c_159 W (Mine.dd hd rfl) hr (fun b t H1 er e1 b1 G r => ?_) fun er => by subst er; exact g H .refl)
  subst er
  have a1 := e1 _ _ (one (ne_of h1 r1 nofun)) h1
  have a3 := e1 _ _ (one (ne_of s1 r1 nofun)) s1
  have g1 := g H1 e1 b1
  cases b with
  | false => exact r (fun q => absurd q (by decide)) fun _ G r => r _ _ _ a1 _ _ _ a3 (.inl rfl) l0 l64 g1
  | true => exact r (fun _ G r => r _ _ _ a1 _ _ _ a3 (.inl rfl) l0 l64 g1) fun q => absurd q (by decide)
noncomputable def cBd : Mine.E := (E.and (L.cons (E.cmp CmpOp.Eq (E.attr (E.loc 0) 12) (E.int 0)) (L.cons (E.cmp CmpOp.LtE (E.loc 4) (E.loc 5)) L.nil)))
noncomputable def bBd : B := (.cons (.asg (.loc 6) (.meth (.attr (.loc 0) 15) 32 (.cons (.attr (.loc 0) 14) .nil))) (.cons (.asg (.loc 7) (.bin .RShift (.loc 6) (.int 4))) (.cons (.ife (.and (.cons (.cmp .Eq (.bin .BitAnd (.loc 6) (.int 15)) (.int 0)) (.cons (.cmp .Lt (.loc 7) (.int 15)) .nil))) (.cons (.asg (.attr (.loc 0) 12) (.bin .Pow (.int 2) (.loc 7))) (.cons (.ife (.cmp .Gt (.loc 7) (.int 0)) (.cons (.asg (.attr (.loc 0) 12) (.bin .Add (.attr (.loc 0) 12) (.meth (.attr (.loc 0) 14) 30 (.cons (.loc 7) .nil)))) .nil) .nil) .nil)) (.cons (.asg (.loc 8) (.meth (.loc 0) 39 (.cons (.loc 6) .nil))) (.cons (.asg (.loc 4) (.meth (.loc 0) 38 (.cons (.loc 3) (.cons (.loc 4) (.cons (.loc 7) .nil))))) (.cons (.ife (.cmp .Gt (.loc 4) (.loc 5)) (.cons (.rais 63) .nil) .nil) (.cons (.asg (.sub (.loc 3) (.loc 4)) (.loc 8)) (.cons (.asg (.loc 4) (.bin .Add (.loc 4) (.int 1))) .nil)))))) .nil)))
noncomputable def RdSt (H0 : HH) (A : DA) (p : Addr) (H : HH) (run : Nat) (rem : List Bool) (xs : List Int) : Prop := Ext [A.rd, A.r] H0 H /\ Dec H A run /\ BR H A.r rem /\ H p = some (.list (mvi xs)) /\ xs.length = A.en + 1
theorem Dec.ws {H : HH} {A : DA} {run : Nat} {rem : List Bool} (h : Dec H A run) (b : BR H A.r rem) : WS [A.rd, A.r] H := fun a q => by
 obtain ⟨dd, h1⟩ := h
 exact WS.cons h1 rfl b.ws a q
theorem loop_exit (W : World0 c) (hd : 8 <= d) {ns : NS} {cm : Mine.E} {bm : B} (hcm : cm = cBd) {p : Addr} {QS' : QS} {k R : Nat} {v1 v2 v6 v7 v8 : Option MV} (h : Dec H A R) (hR : R ≠ 0) (hn : QS' .next [some (.ref A.rd), v1, v2, some (.ref p), some (.int k), some (.int A.en), v6, v7, v8, none, none] H) :
  WhlS c d true ns cm bm [some (.ref A.rd), v1, v2, some (.ref p), some (.int k), some (.int A.en), v6, v7, v8, none, none] H QS' X := by
 subst hcm
 obtain ⟨dd, h1⟩ := h
 exact wrule W (d0 hd rfl) fun G r => r _ _ _ h1 (fun w => absurd (Int.ofNat_eq_zero.mp (of_decide_eq_true w)) hR) fun _ G r => r nof fun _ G r => r hn
noncomputable def bCf : B := (.cons (.asg (.loc 8) (.meth (.loc 0) 39 (.cons (.loc 6) .nil))) (.cons (.asg (.loc 4) (.meth (.loc 0) 38 (.cons (.loc 3) (.cons (.loc 4) (.cons (.loc 7) .nil))))) (.cons (.ife (.cmp .Gt (.loc 4) (.loc 5)) (.cons (.rais 63) .nil) .nil) (.cons (.asg (.sub (.loc 3) (.loc 4)) (.loc 8)) (.cons (.asg (.loc 4) (.bin .Add (.loc 4) (.int 1))) .nil)))))
noncomputable def coefK (a : Prop) (K : List Int -> Prop) : List Int -> Prop
 | [] => a
 | _ :: r => K r
theorem band_coef (W : World0 c) (hd : 8 <= d) {ns : NS} {H0 H1 : HH} {p : Addr} {QM' : QM} {kk : C} {v1 v2 v8 : Option MV} {k s z : Nat} {xs : List Int} {t : List Bool} {KX : Addr -> Prop} (s0 : DecS H0 A) (w0 : WS [A.rd, A.r] H0) (hp : H0 p = none) (hen : A.en < 10000) (hlow : A.low <= 60)
  (hKX : ∀ C H', Ext [A.rd, A.r] H0 H' -> KX C -> X C H') (e01 : Ext [A.rd, A.r] H0 H1) (h1 : Dec H1 A 0) (b1 : BR H1 A.r t) (a2 : H1 p = some (.list (mvi xs))) (hlen : xs.length = A.en + 1) (hk2 : k <= A.en + 1) (ev : Ev A.low (xs.drop k))
  (g : Gives ((valT A.low s).run t) (fun v t => Gives ((passT A.low (xs.drop k) z).run t) (fun (q : List Int × List Int) (t : List Bool) => coefK (KX 63) (fun r => ∀ H' v8, Ext [A.rd, A.r] H0 H' -> Dec H' A 0 -> BR H' A.r t -> H' p = some (.list (mvi (xs.take k ++ q.1 ++ [v] ++ r))) -> Ev A.low r -> k + q.1.length + 1 + r.length = A.en + 1 ->
   All (M c d ns kk [] [some (.ref A.rd), v1, v2, some (.ref p), some (.int (k + q.1.length + 1 : Nat)), some (.int A.en), some (.int s), some (.int z), v8, none, none] H' QM' X)) q.2) KX) KX) :
  All (M c d ns (cB bCf kk) [] [some (.ref A.rd), v1, v2, some (.ref p), some (.int k), some (.int A.en), some (.int s), some (.int z), v8, none, none] H1 QM' X) := by
 obtain ⟨dd, a1⟩ := h1
 have nrr : A.rd ≠ A.r := fun w => by
  obtain ⟨d2, o, pos, r1, r2⟩ := b1
  rw [<- w, a1] at r1; cases r1
 have npr : p ≠ A.r := fun w => by
  obtain ⟨d2, o, pos, r1, r2⟩ := b1
  rw [<- w, a2] at r1; cases r1
 have npd : p ≠ A.rd := ne_of a2 a1 MO.noConfusion
 have one : ∀ {a : Addr}, a ≠ A.r -> a ∉ [A.r] := fun n w => n (List.mem_singleton.mp w)
 have up1 : ∀ {H : HH}, ∀ a ∈ [A.r], a ∈ [A.rd, A.r] \/ H a = none := fun a h => .inl (.tail _ h)
 refine fun G r => r _ _ _ a1 (c_341 W (Mine.d0 hd rfl) (s0.stay (e01.stay w0)).1.I ⟨dd, a1⟩ b1 hlow (g.imp (fun v t2 g H2 e2 b2 G r => ?_) fun C g H2 e2 => hKX C H2 (e01.trans e2 up1) g))
 have e02 : Ext [A.rd, A.r] H0 H2 := e01.trans e2 up1
 have c1 := e2 _ _ (one nrr) a1
 have up2 : ∀ a ∈ [A.r, p], a ∈ [A.rd, A.r] \/ H0 a = none := fun a h => (List.mem_cons.mp h).elim (fun h => .inl (h ▸ .tail _ (.head _))) fun h => .inr (List.mem_singleton.mp h ▸ hp)
 refine r _ _ _ c1 (c_334 W (Mine.d0 hd rfl) (s0.stay (e02.stay w0)).1.I ⟨dd, c1⟩ b2 (e2 _ _ (one npr) a2) hlen hk2 hen hlow ev (g.imp' (fun pr t3 hrun g H3 e3 b3 hp3 G r => ?_) fun C g H3 e3 => hKX C H3 (e02.trans e3 up2) g))
 obtain ⟨l1, l2⟩ := pass_len _ _ _ _ _ _ hrun
 have e03 : Ext [A.rd, A.r] H0 H3 := e02.trans e3 up2
 have f1 := e3 _ _ (nin2 nrr npd.symm) c1
 obtain ⟨pa, pb⟩ := pr
 dsimp only at l1 l2 hp3 g
 have l3 := congrArg List.length l2
 rw [List.length_drop, List.length_drop, hlen, Nat.sub_sub] at l3
 rw [List.length_drop, hlen] at l1
 cases pb with
 | nil =>
  rw [List.length_nil] at l3
  exact r (fun _ G r => r (hKX 63 H3 e03 g)) fun w => absurd (Int.ofNat_lt.mpr (Nat.le_of_sub_eq_zero l3.symm)) (of_decide_eq_false w)
 | cons x0 rr =>
  rw [List.length_cons] at l3
  have l4 : k + pa.length + (rr.length + 1) = A.en + 1 := by rw [l3]; exact Nat.add_sub_of_le (Nat.le_of_lt (Nat.lt_of_sub_eq_succ l3.symm))
  clear l3
  have htk : (xs.take k ++ pa).length = k + pa.length := by
   rw [List.length_append, List.length_take_of_le (by lia)]
  have hl3 : k + pa.length < (mvi (xs.take k ++ pa ++ x0 :: rr)).length := by
   rw [mvi_len, List.length_append, htk, List.length_cons]; lia
  have hset : (mvi (xs.take k ++ pa ++ x0 :: rr)).set (k + pa.length) (.int v) = mvi (xs.take k ++ pa ++ [v] ++ rr) := by
   rw [mvi_set, List.set_append_right _ _ (Nat.le_of_eq htk), htk, Nat.sub_self, List.append_assoc _ [v]]; rfl
  refine r (fun w => absurd (show ((A.en : Nat) : Int) < ((k + pa.length : Nat) : Int) from of_decide_eq_true w) (by lia)) fun _ G r => g _ _ (e03.fresh hp) ⟨dd, (upd_ne npd.symm).trans f1⟩ (b3.ext Ext.one fun w => npr (List.mem_singleton.mp w).symm) (by rw [<- hset]; exact upd_same ..) (fun y hy => ev y ?_) (by lia) G (r _ hp3 (Int.natCast_nonneg _) (show ((k + pa.length : Nat) : Int) < 2 ^ 62 by lia) hl3)
  have : y ∈ (xs.drop k).drop pa.length := by rw [<- l2]; exact List.mem_cons_of_mem _ hy
  exact List.mem_of_mem_drop this
noncomputable def bRn : B := (.cons (.asg (.attr (.loc 0) 12) (.bin .Pow (.int 2) (.loc 7))) (.cons (.ife (.cmp .Gt (.loc 7) (.int 0)) (.cons (.asg (.attr (.loc 0) 12) (.bin .Add (.attr (.loc 0) 12) (.meth (.attr (.loc 0) 14) 30 (.cons (.loc 7) .nil)))) .nil) .nil) .nil))
theorem rd_eq {dd a b e : Addr} {x y : Int} (h : x = y) : some (MO.inst 358 dd [(9, .ref a), (15, .ref b), (14, .ref e), (12, .int x)]) = some (.inst 358 dd [(9, .ref a), (15, .ref b), (14, .ref e), (12, .int y)]) := by rw [h]
theorem band_run' (W : World0 c) (hd : 8 <= d) {ns : NS} {H0 H1 : HH} {p : Addr} {QM' : QM} {kk : C} {v1 v2 v4 v5 v6 v8 : Option MV} {z : Nat} {xs : List Int} {t : List Bool} {KX : Addr -> Prop} (hz : z <= 60)
  (hKX : ∀ C H', Ext [A.rd, A.r] H0 H' -> KX C -> X C H') (e01 : Ext [A.rd, A.r] H0 H1) (h1 : Dec H1 A 0) (b1 : BR H1 A.r t) (a2 : H1 p = some (.list (mvi xs)))
  (g : Gives ((bitsT z 0).run t) (fun v t => ∀ H', Ext [A.rd, A.r] H0 H' -> Dec H' A (2 ^ z + v) -> BR H' A.r t -> H' p = some (.list (mvi xs)) ->
   All (M c d ns kk [] [some (.ref A.rd), v1, v2, some (.ref p), v4, v5, v6, some (.int z), v8, none, none] H' QM' X)) KX) :
  All (M c d ns (cB bRn kk) [] [some (.ref A.rd), v1, v2, some (.ref p), v4, v5, v6, some (.int z), v8, none, none] H1 QM' X) := by
 obtain ⟨dd, a1⟩ := h1
 have b1' := b1
 obtain ⟨d2, o, pos, r1, r2⟩ := b1'
 have nrr : A.rd ≠ A.r := ne_of a1 r1 nofun
 have npr : p ≠ A.r := ne_of a2 r1 MO.noConfusion
 have npd : p ≠ A.rd := ne_of a2 a1 MO.noConfusion
 have one : ∀ {a : Addr}, a ≠ A.r -> a ∉ [A.r] := fun n w => n (List.mem_singleton.mp w)
 have nr1 : A.r ∉ [A.rd] := fun w => nrr (List.mem_singleton.mp w).symm
 refine fun G r => r (.inl rfl) (Int.natCast_nonneg z) (by lia) _ _ _ a1 (fun hz0 G r => r _ _ _ (upd_same ..) _ _ _ (upd_same ..) _ _ _ ((upd_ne nrr.symm).trans r1) (c_166 W (Mine.d0 hd rfl) hz (b1.ext Ext.one nr1)
  (g.imp (fun v t g H2 e2 b2 G r => ?_) fun C g H2 e2 => hKX C H2 ((e01.set (.head _)).trans e2 fun a h => .inl (.tail _ h)) g))) fun hz0 G r => ?_
 ·have u1 := e2 _ _ (one nrr) (upd_same ..)
  exact g _ (((e01.set (.head _)).trans e2 fun a h => .inl (.tail _ h)).set (.head _)) ⟨dd, (upd_same ..).trans (rd_eq (by rw [Int.natCast_add, <- pw]; rfl))⟩ (b2.ext Ext.one nr1) ((upd_ne npd).trans (e2 _ _ (one npr) ((upd_ne npd).trans a2))) G (r _ _ _ u1)
 ·obtain rfl : z = 0 := Nat.le_zero.mp (Int.ofNat_le.mp (Int.not_lt.mp (of_decide_eq_false hz0)))
  exact g _ (e01.set (.head _)) ⟨dd, upd_same ..⟩ (b1.ext Ext.one nr1) ((upd_ne npd).trans a2) G r
theorem leI {a b : Nat} (h : decide ((a : Int) <= b) = true) : a <= b := Int.ofNat_le.mp (of_decide_eq_true h)
theorem nleI {a b : Nat} (h : decide ((a : Int) <= b) = false) : b < a := Nat.lt_of_not_le fun w => of_decide_eq_false h (Int.ofNat_le.mpr w)
theorem band_loop (W : World0 c) (hd : 8 <= d) {ns : NS} {cm : Mine.E} {bm : B} (hcm : cm = cBd) (hbm : bm = bBd) {H0 : HH} {p : Addr} {QS' : QS} {rem0 : List Bool} {v1 v2 : Option MV} {KF : List Int -> Nat -> List Bool -> Prop} {KX : Addr -> Prop} {run0 : Nat} (s0 : DecS H0 A) (h0 : Dec H0 A run0) (hr : BR H0 A.r rem0) (hp : H0 p = none) (hen : A.en < 10000) (hlow : A.low <= 60)
  (hKX : ∀ C H', Ext [A.rd, A.r] H0 H' -> KX C -> X C H')
  (hexit : ∀ k xs R rem H v6 v7 v8, 1 <= k -> k <= A.en + 1 -> RdSt H0 A p H R rem xs -> Ev A.low (xs.drop k) -> Gives ((endT A.low R (xs.drop k)).run rem) (fun q t => KF (xs.take k ++ q.1) q.2 t) KX -> QS' .next [some (.ref A.rd), v1, v2, some (.ref p), some (.int k), some (.int A.en), v6, v7, v8, none, none] H) :
  ∀ (n k : Nat) (xs : List Int) (rem : List Bool) (H : HH) (v6 v7 v8 : Option MV), 1 <= k -> k <= A.en + 1 -> RdSt H0 A p H 0 rem xs -> Ev A.low (xs.drop k) -> Gives ((bandT A.low n (xs.drop k)).run rem) (fun q t => KF (xs.take k ++ q.1) q.2 t) KX ->
   WhlS c d true ns cm bm [some (.ref A.rd), v1, v2, some (.ref p), some (.int k), some (.int A.en), v6, v7, v8, none, none] H QS' X := fun n => by
 subst hcm; subst hbm
 have w0 := h0.ws hr
 induction n with
 | zero =>
  intro k xs rem H v6 v7 v8 hk hk2 hst ev g
  exact g.elim
 | succ n ih =>
  intro k xs rem H v6 v7 v8 hk hk2 hst ev g
  have hst' := hst
  obtain ⟨e, ⟨dd, h1⟩, br, hpH, hlen⟩ := hst'
  have hTb := (s0.stay (e.stay w0)).2
  have hTb' := hTb
  refine ch fun g_ h_ => ?_
  obtain ⟨t1, t2, t3, t4, t5, t6, t7, t8⟩ := hTb'
  refine h_ ?_
  have up1 : ∀ a ∈ [A.r], a ∈ [A.rd, A.r] \/ H0 a = none := fun a h => .inl (.tail _ h)
  refine wrule W (d0 hd rfl) fun G r => r _ _ _ h1 (fun _ G r => r (fun hke G r => r (fun _ G r => ?_) not_) fun hke G r => r nof fun _ G r => r ?_) fun q => absurd q (by decide)
  ·have dk := List.drop_eq_getElem_cons (show k < xs.length from hlen ▸ Nat.lt_succ_of_le (leI hke))
   rw [dk] at g
   rw [bandT_cons, <- dk, Gives_run] at g
   refine r _ _ _ h1 _ _ _ t7 _ _ _ h1 (c_215 W (d0 hd rfl) hTb br (g.imp (fun s t g H1 e1 b1 G r => ?_) fun C g H1 e1 => hKX C H1 (e.trans e1 up1) g))
   have e01 : Ext [A.rd, A.r] H0 H1 := e.trans e1 up1
   obtain ⟨a1, a2⟩ : H1 A.rd = _ /\ H1 p = _ := by
    obtain ⟨d2, o, pos, r1, r2⟩ := br
    exact ⟨e1 _ _ (fun w => ne_of h1 r1 nofun (List.mem_singleton.mp w)) h1, e1 _ _ (fun w => ne_of hpH r1 MO.noConfusion (List.mem_singleton.mp w)) hpH⟩
   have a3 : ∀ x : Nat, ((s &&& 15 : Nat) : Int) = x ↔ s % 16 = x := fun x => by rw [<- Nat.and_two_pow_sub_one_eq_mod s 4]; exact Int.ofNat_inj
   by_cases q : s % 16 = 0 /\ s / 16 < 15
   ·rw [if_pos q, Gives_run] at g
    have run := band_run' W hd (ns := ns) (v1 := v1) (v2 := v2) (v4 := some (.int k)) (v5 := some (.int A.en)) (v6 := some (.int s)) (v8 := v8) (z := s / 16) (kk := .fin) (QM' := whQ (fun F2 H2 => WhlS c d true ns cBd bBd F2 H2 QS' X) QS') (Nat.le_trans (Nat.le_of_lt q.2) (by decide)) hKX e01 ⟨dd, a1⟩ b1 a2 (g.imp (fun v t2 g H' e' d' b' hp' G r => by
     have ne : 2 ^ (s / 16) + v ≠ 0 := Nat.ne_of_gt (Nat.add_pos_left (Nat.two_pow_pos _) v)
     exact r (loop_exit W hd rfl d' ne (hexit k xs _ t2 H' _ _ _ hk hk2 ⟨e', d', b', hp', hlen⟩ ev (by unfold endT; rw [if_neg ne]; exact g)))) fun C g => g)
    exact r (by decide) (Int.natCast_nonneg s) (by decide) (fun _ G r => r (fun _ G r => r (fun _ G r => run G r) not_) fun w => absurd (Int.ofNat_lt.mpr q.2) (of_decide_eq_false w)) fun w => absurd ((a3 0).mpr q.1) (of_decide_eq_false w)
   ·rw [if_neg q, Gives_run] at g
    have coef := band_coef W hd (ns := ns) (v1 := v1) (v2 := v2) (v8 := v8) (k := k) (s := s) (z := s / 16) (kk := .fin) (QM' := whQ (fun F2 H2 => WhlS c d true ns cBd bBd F2 H2 QS' X) QS') s0 w0 hp hen hlow hKX e01 ⟨dd, a1⟩ b1 a2 hlen hk2 ev (g.imp (fun v t2 g => by
     rw [Gives_run] at g
     refine g.imp (fun pr t3 g => ?_) fun C g => g
     obtain ⟨pa, pb⟩ := pr
     cases pb with
     | nil => exact g
     | cons x0 rr =>
      intro H' v8 e' d' b' hp' evr hl G r
      have l9 : ∀ l : List Int, (xs.take k ++ pa ++ [v] ++ l).length = k + pa.length + 1 + l.length := fun l => by
       rw [List.length_append, List.length_append, List.length_append, List.length_take_of_le (hlen ▸ hk2)]; rfl
      have l8 : (xs.take k ++ pa ++ [v]).length = k + pa.length + 1 := by have := l9 []; rwa [List.append_nil] at this
      refine r (ih (k + pa.length + 1) (xs.take k ++ pa ++ [v] ++ rr) t3 H' _ _ v8 (Nat.succ_pos _) (hl ▸ Nat.le_add_right ..) ⟨e', d', b', hp', (l9 rr).trans hl⟩ (by rw [List.drop_left' l8]; exact evr) ?_)
      rw [List.drop_left' l8, List.take_left' l8]
      dsimp only at g
      rw [Gives_run] at g
      refine g.imp (fun q t g => ?_) fun C g => g
      have g : KF (xs.take k ++ (pa ++ v :: q.1)) q.2 t := g
      rw [List.append_assoc, List.append_assoc]; exact g) fun C g => g)
    exact r (by decide) (Int.natCast_nonneg s) (by decide) (fun q1 G r => r (fun q2 G r => absurd ⟨(a3 0).mp (of_decide_eq_true q1), Int.ofNat_lt.mp (of_decide_eq_true q2)⟩ q) (fun _ G r => r nof fun _ G r => coef G r)) fun _ G r => r nof fun _ G r => coef G r
  ·have hk3 : A.en + 1 <= k := nleI hke
   have hdn : xs.drop k = [] := List.drop_eq_nil_of_le (by rw [hlen]; exact hk3)
   exact hexit k xs 0 rem H v6 v7 v8 hk hk2 hst ev (by rw [hdn] at g ⊢; exact g)
end
end
section
open PyProof.Rows
section
variable {c : Cx} {d : Nat} {H : HH} {X : QX} {Q : QE} {A : DA} {run : Nat} {rem : List Bool}
noncomputable def bE : B := (.cons (.ife (.cmp .Gt (.attr (.loc 0) 12) (.int 0)) (.cons (.ex (.meth (.loc 0) 38 (.cons (.loc 3) (.cons (.loc 4) (.cons (.bin .Add (.loc 5) (.int 1)) .nil))))) (.cons (.asg (.attr (.loc 0) 12) (.bin .Sub (.attr (.loc 0) 12) (.int 1))) .nil)) .nil) (.cons (.ret (.loc 3)) .nil))
theorem end_block (W : World0 c) (hd : 8 <= d) {ns : NS} {H0 : HH} {p : Addr} {QM' : QM} {rem0 : List Bool} {v1 v2 v6 v7 v8 : Option MV} {KF : List Int -> Nat -> List Bool -> Prop} {KX : Addr -> Prop} {run0 k R : Nat} {xs : List Int} (s0 : DecS H0 A) (h0 : Dec H0 A run0) (hr : BR H0 A.r rem0) (hp : H0 p = none) (hen : A.en < 10000) (hlow : A.low <= 60)
  (hKX : ∀ C H', Ext [A.rd, A.r] H0 H' -> KX C -> X C H') (hk : 1 <= k) (hk2 : k <= A.en + 1) (hst : RdSt H0 A p H R rem xs) (ev : Ev A.low (xs.drop k)) (g : Gives ((endT A.low R (xs.drop k)).run rem) (fun q t => KF (xs.take k ++ q.1) q.2 t) KX)
  (hKF : ∀ ys R t F' H', KF ys R t -> Ext [A.rd, A.r] H0 H' -> BR H' A.r t -> Dec H' A R -> H' p = some (.list (mvi ys)) -> QM' (.ret (.ref p)) F' H') :
  All (M c d ns (cB bE .fin) [] [some (.ref A.rd), v1, v2, some (.ref p), some (.int k), some (.int A.en), v6, v7, v8, none, none] H QM' X) := by
 have w0 := h0.ws hr
 obtain ⟨e, ⟨dd, h1⟩, br, hpH, hlen⟩ := hst
 have sH := s0.stay (e.stay w0)
 have nrr : A.rd ≠ A.r := by
  obtain ⟨d2, o, pos, r1, r2⟩ := br
  exact ne_of h1 r1 nofun
 have npd : p ≠ A.rd := ne_of hpH h1 MO.noConfusion
 have up2 : ∀ a ∈ [A.r, p], a ∈ [A.rd, A.r] \/ H0 a = none := fun a h => (List.mem_cons.mp h).elim (fun h => .inl (h ▸ .tail _ (.head _))) fun h => .inr (List.mem_singleton.mp h ▸ hp)
 unfold endT at g
 refine fun G r => r _ _ _ h1 (fun q G r => ?_) fun q G r => ?_
 ·have rp : 0 < R := Int.ofNat_lt.mp (of_decide_eq_true q)
  have ldk : (xs.drop k).length <= A.en + 1 := by rw [List.length_drop, hlen]; exact Nat.sub_le ..
  rw [if_neg (Nat.ne_of_gt rp), Gives_run] at g
  have g2 : Gives ((passT A.low (xs.drop k) (A.en + 1)).run rem) (fun q t => q.2 = [] /\ KF (xs.take k ++ q.1) (R - 1) t) KX := by
   rw [pass_run _ _ _ _ ldk, Gives_bind]
   exact g.imp (fun p t g => ⟨rfl, g⟩) fun C g => g
  refine r _ _ _ h1 (c_334 W (Mine.d0 hd rfl) (z := A.en + 1) sH.1.I ⟨dd, h1⟩ br hpH hlen hk2 hen hlow ev (g2.imp (fun pr t g3 H3 e3 b3 hp3 G r => ?_) fun C g3 H3 e3 => hKX C H3 (e.trans e3 up2) g3))
  have f1 := e3 _ _ (nin2 nrr npd.symm) h1
  rw [g3.1, List.append_nil] at hp3
  exact r _ _ _ f1 _ _ _ f1 (hKF _ (R - 1) t _ _ g3.2 ((e.trans e3 up2).set (.head _)) (b3.ext Ext.one fun w => nrr (List.mem_singleton.mp w).symm) ⟨dd, (upd_same ..).trans (rd_eq (Int.ofNat_sub rp).symm)⟩ ((upd_ne npd).trans hp3))
 ·obtain rfl : R = 0 := Nat.le_zero.mp (Int.ofNat_le.mp (Int.not_lt.mp (of_decide_eq_false q)))
  rw [if_pos rfl] at g
  exact r (hKF _ 0 rem _ _ g e br ⟨dd, h1⟩ (by rw [List.take_append_drop]; exact hpH))
theorem c_348 (W : World0 c) (hd : 10 <= d) {q : Addr} {pl : MV} {x0 : Int} {ks : List Int} (s0 : DecS H A) (h0 : Dec H A run) (hr : BR H A.r rem) (hq : H q = some (.list (mvi (x0 :: ks)))) (hlen : ks.length = A.en) (hen : A.en < 900) (hlow : A.low <= 60) (hev : Ev A.low ks)
  (g : Gives ((rowT A.low ks run).run rem) (fun pr t => ∀ H' p, H p = none -> Ext [A.rd, A.r] H H' -> BR H' A.r t -> Dec H' A pr.2 -> H' p = some (.list (mvi (x0 :: pr.1))) -> Q (.ref p) H') (fun C => ∀ H', Ext [A.rd, A.r] H H' -> X C H')) : CallS c d true 348 [.ref A.rd, pl, .ref q] H Q X := by
 obtain ⟨ds, sa, sb, sl, s1⟩ := s0.1.I
 have h0' := h0
 obtain ⟨dd, h1⟩ := h0'
 refine crule W (d0 hd rfl) rfl rfl rfl rfl fun G r => r _ hq (by rw [mvi_len, List.length_cons, hlen]; exact Nat.le_trans hen (by decide)) fun p hp G r => r _ _ _ (upd_new h1 hp) _ _ _ (upd_new s1 hp) _ _ _ (upd_new h1 hp) _ _ _ (upd_new s1 hp) ?_
 obtain ⟨KF, KX, k1, k2, gK⟩ : ∃ (KF : List Int -> Nat -> List Bool -> Prop) (KX : Addr -> Prop), (∀ ys R t (F' : FF) H', KF ys R t -> Ext [A.rd, A.r] H H' -> BR H' A.r t -> Dec H' A R -> H' p = some (.list (mvi ys)) -> Q (.ref p) H') /\ (∀ C H', Ext [A.rd, A.r] H H' -> KX C -> X C H') /\ Gives ((rowT A.low ks run).run rem) (fun pr t => KF (x0 :: pr.1) pr.2 t) KX :=
  ⟨fun ys R t => ∀ H', Ext [A.rd, A.r] H H' -> BR H' A.r t -> Dec H' A R -> H' p = some (.list (mvi ys)) -> Q (.ref p) H', fun C => ∀ H', Ext [A.rd, A.r] H H' -> X C H', fun ys R t _ H' k => k H', fun C H' e k => k H' e, g.imp (fun pr t g H' => g H' p hp) fun C g => g⟩
 have hen' : A.en < 10000 := Nat.lt_trans hen (by decide)
 have st0 : RdSt H A p (upd H p (.list (mvi (x0 :: ks)))) run rem (x0 :: ks) := ⟨Ext.refl.new hp, ⟨dd, upd_new h1 hp⟩, hr.ext (Ext.refl.new (S := []) hp) List.not_mem_nil, upd_same .., congrArg (· + 1) hlen⟩
 have hex := fun k xs R rem H1 v6 v7 v8 (hk : 1 <= k) hk2 hst ev g => end_block W (ns := n_348) (QM' := retQ Q) (v1 := some pl) (v2 := some (.ref q)) (v6 := v6) (v7 := v7) (v8 := v8) (k := k) (xs := xs) (R := R) (rem := rem) (H := H1) (Mine.dd hd rfl) s0 h0 hr hp hen' hlow k2 hk hk2 hst ev g k1
 by_cases hrun : run = 0
 ·subst hrun
  unfold rowT at gK
  rw [if_pos rfl] at gK
  exact band_loop W (Mine.dd hd rfl) rfl rfl s0 h0 hr hp hen' hlow k2 hex (ks.length + 1) 1 (x0 :: ks) rem _ _ _ _ (Nat.le_refl 1) (Nat.succ_le_succ (Nat.zero_le _)) st0 hev gK
 ·rw [row_endT _ _ hrun] at gK
  exact loop_exit W (Mine.dd hd rfl) (k := 1) rfl st0.2.1 hrun (hex 1 (x0 :: ks) run rem _ _ _ _ (Nat.le_refl 1) (Nat.succ_le_succ (Nat.zero_le _)) st0 hev gK)
theorem c_313 (W : World0 c) (hd : 2 <= d) {rd dd sc tabs tb : Addr} {en low : Nat} (h : H rd = some (.inst 358 dd [])) (hsc : ScanAt H sc en low) (htb : TabsAt H tabs tb) (k : ∀ H', Ext [rd] H H' -> H' rd = some (.inst 358 dd [(9, .ref sc), (15, .ref tb), (14, .non), (12, .int 0)]) -> Q .non H') : CallS c d true 313 [.ref rd, .ref sc, .ref tabs] H Q X := by
 obtain ⟨ds, sa, sb, sl, s1, s2⟩ := hsc
 obtain ⟨t1, t2⟩ := htb
 have m1 : sc ≠ rd := ne_of s1 h nofun
 have m2 : sl ≠ rd := ne_of s2 h MO.noConfusion
 have m3 : tabs ≠ rd := ne_of t1 h MO.noConfusion
 exact crule W hd rfl rfl rfl rfl fun G r => r _ _ _ h _ _ _ ((upd_ne m1).trans s1) _ ((upd_ne m2).trans s2) l0 u0 _ rfl fun q hq G r => r _ _ (upd_new ((upd_ne m3).trans t1) hq) (upd_same ..) rfl _ _ _ (upd_new (upd_same ..) hq) _ _ _ (upd_same ..) _ _ _ (upd_same ..)
  (k _ (((((Ext.refl.set (.head _)).new hq).set (.head _)).set (.head _)).set (.head _)) (upd_same ..))
theorem c_320 (W : World0 c) (hd : 4 <= d) {rd dd sc tb : Addr} {o : List UInt8} {rv : MV} {en low run : Nat} (h : H rd = some (.inst 358 dd [(9, .ref sc), (15, .ref tb), (14, rv), (12, .int run)])) (ho : o.length <= 100000)
  (k : ∀ H' r, H r = none -> Ext [rd] H H' -> Dec H' ⟨rd, sc, tb, r, en, low⟩ 0 -> BR H' r (octBits o) -> Q .non H') : CallS c d true 320 [.ref rd, .bytes o] H Q X := by
 refine crule W (dd2 (Nat.le_of_succ_le hd)) rfl rfl rfl rfl fun G r => r _ _ _ h fun q d2 hr hd2 hne => c_145 W (Mine.dd hd rfl) (upd_same ..) ho fun H2 e2 b2 => ⟨rfl, fun G r => ?_⟩
 have hrne : rd ≠ q := ne_new (upd_same ..) hr
 have hr' : H q = none := (upd_ne hrne.symm).symm.trans hr
 have n1 : ∀ {a : Addr}, a ≠ q -> a ∉ [q] := fun n w => n (List.mem_singleton.mp w)
 have a1 : H2 rd = some (.inst 358 dd [(9, .ref sc), (15, .ref tb), (14, rv), (12, .int 0)]) := e2 _ _ (n1 hrne) ((upd_ne hrne).trans (upd_same ..))
 have e3 : Ext [rd] H H2 := ((Ext.refl.set (.head _)).new hr).trans e2 fun a h => .inr (List.mem_singleton.mp h ▸ hr')
 exact r _ _ _ a1 (k _ q hr' (e3.set (.head _)) ⟨dd, upd_same ..⟩ (b2.ext Ext.one fun w => hrne (List.mem_singleton.mp w).symm))
end
end
section
open PyProof.Rows
theorem list_in {o : Option MO} {xs : List MV} {k : List MV -> Prop} (e : o = some (.list xs)) (h : k xs) : list? o k := by rw [e]; exact h
section
variable {c : Cx} {d : Nat} {H : HH} {X : QX} {Q : QE} {rem : List Bool}
noncomputable def RowsX (H : HH) (cc : Addr) : List MV -> List (List Int) -> Prop
 | [], [] => True
 | p :: ps, r :: rs => (∃ a, p = .ref a /\ a ≠ cc /\ H a = some (.list (mvi r))) /\ RowsX H cc ps rs
 | _, _ => False
theorem RowsX.app {H : HH} {cc : Addr} : ∀ {ps : List MV} {rs : List (List Int)} {a : Addr} {r : List Int}, RowsX H cc ps rs -> a ≠ cc -> H a = some (.list (mvi r)) -> RowsX H cc (ps ++ [.ref a]) (rs ++ [r])
 | [], [], a, r, _, h1, h2 => ⟨⟨a, rfl, h1, h2⟩, trivial⟩
 | p :: ps, q :: rs, a, r, h, h1, h2 => ⟨h.1, RowsX.app h.2 h1 h2⟩
 | [], _ :: _, _, _, h, _, _ => h.elim
 | _ :: _, [], _, _, h, _, _ => h.elim
theorem RowsX.map {H H' : HH} {cc : Addr} : ∀ {ps : List MV} {rs : List (List Int)}, RowsX H cc ps rs -> (∀ a r, a ≠ cc -> H a = some (.list (mvi r)) -> H' a = some (.list (mvi r))) -> RowsX H' cc ps rs
 | [], [], _, _ => trivial
 | p :: ps, q :: rs, h, f => ⟨by obtain ⟨a, h1, h2, h3⟩ := h.1; exact ⟨a, h1, h2, f a q h2 h3⟩, RowsX.map h.2 f⟩
 | [], _ :: _, h, _ => h.elim
 | _ :: _, [], h, _ => h.elim
theorem RowsX.rows {H : HH} {cc : Addr} : ∀ {ps : List MV} {rs : List (List Int)}, RowsX H cc ps rs -> Rows H ps rs
 | [], [], _ => trivial
 | p :: ps, q :: rs, h => ⟨by obtain ⟨a, h1, h2, h3⟩ := h.1; exact ⟨a, h1, h3⟩, RowsX.rows h.2⟩
 | [], _ :: _, h => h.elim
 | _ :: _, [], h => h.elim
theorem Rows.map {H H' : HH} : ∀ {ps : List MV} {rs : List (List Int)}, Rows H ps rs -> (∀ a r, H a = some (.list (mvi r)) -> H' a = some (.list (mvi r))) -> Rows H' ps rs
 | [], [], _, _ => trivial
 | p :: ps, q :: rs, h, f => ⟨by obtain ⟨a, h1, h3⟩ := h.1; exact ⟨a, h1, f a q h3⟩, Rows.map h.2 f⟩
 | [], _ :: _, h, _ => h.elim
 | _ :: _, [], h, _ => h.elim
theorem Rows.len {H : HH} : ∀ {ps : List MV} {rs : List (List Int)}, Rows H ps rs -> ps.length = rs.length
 | [], [], _ => rfl
 | p :: ps, q :: rs, h => by rw [List.length_cons, List.length_cons, Rows.len h.2]
 | [], _ :: _, h => h.elim
 | _ :: _, [], h => h.elim
theorem RowsX.len {H : HH} {cc : Addr} {ps : List MV} {rs : List (List Int)} (h : RowsX H cc ps rs) : ps.length = rs.length := h.rows.len
theorem Rows.get {H : HH} : ∀ {ps : List MV} {rs : List (List Int)} {i : Nat} {r : List Int}, Rows H ps rs -> rs[i]? = some r -> ∃ a, ps[i]? = some (.ref a) /\ H a = some (.list (mvi r))
 | p :: ps, q :: rs, 0, r, h, e => by
  obtain ⟨a, h1, h3⟩ := h.1
  simp at e; subst e
  exact ⟨a, by rw [h1]; rfl, h3⟩
 | p :: ps, q :: rs, i + 1, r, h, e => Rows.get (i := i) h.2 (by simpa using e)
 | [], [], i, r, h, e => by simp at e
 | [], _ :: _, _, _, h, _ => h.elim
 | _ :: _, [], _, _, h, _ => h.elim
noncomputable def RowsL (H : HH) (a : Addr) (rows : List (List Int)) : Prop := ∃ ps, H a = some (.list ps) /\ Rows H ps rows
theorem RowsL.stay {H H' : HH} {a : Addr} {rows : List (List Int)} (h : RowsL H a rows) (e : Stay H H') : RowsL H' a rows := by
 obtain ⟨ps, h1, h2⟩ := h
 exact ⟨ps, e _ _ h1 rfl, h2.map fun a r h => e _ _ h rfl⟩
theorem read_comp (W : World0 c) (hd : 11 <= d) {A : DA} {H0 : HH} {kn cc : Addr} {rows : List (List Int)} {QF : FF -> HH -> Prop} {KF : List (List Int) -> Nat -> List Bool -> Prop} {KX : Addr -> Prop} {rem0 : List Bool} {run0 : Nat} {o0 : Option MV}
  (s0 : DecS H0 A) (h0 : Dec H0 A run0) (hr : BR H0 A.r rem0) (hkn : RowsL H0 kn rows) (hcc : H0 cc = none) (hen : A.en < 900) (hlow : A.low <= 60) (hrows : ∀ r ∈ rows, r.length = A.en + 1 /\ Ev A.low r) (hrl : rows.length <= 100)
  (hKX : ∀ C H', Ext [A.rd, A.r] H0 H' -> KX C -> X C H') (hKF : ∀ os run t F' H', KF os run t -> Ext [A.rd, A.r] H0 H' -> RowsL H' cc os -> QF F' H') :
  ∀ (m i : Nat), i + m = rows.length -> ∀ (H : HH) (run : Nat) (rem : List Bool) (os : List (List Int)) (ps : List MV) (v1 : Option MV), Ext [A.rd, A.r] H0 H -> Dec H A run -> BR H A.r rem -> H cc = some (.list ps) -> RowsX H cc ps os -> os.length = i ->
   Gives ((rowsT A.low (rows.drop i) run).run rem) (fun q t => KF (os ++ q.1) q.2 t) KX ->
   CompS c d true (E.meth (E.loc 2) 32 (L.cons (E.int 0) (L.cons (E.loc 1) L.nil))) 1 none (.list kn i) cc [o0, v1, some (.ref A.rd)] H QF X := fun m => by
 obtain ⟨ks, k1, k2⟩ := hkn
 have w0 := h0.ws hr
 have kl := k2.len
 have up : ∀ a ∈ [A.rd, A.r], a ∈ [A.rd, A.r] \/ H0 a = none := fun a h => .inl h
 induction m with
 | zero =>
  intro i hm H run rem os ps v1 e dn br hc hx hol g
  have hi : rows.length <= i := Nat.le_of_eq hm.symm
  have kH := e.stay w0 _ _ k1 rfl
  refine ccrule_end W (nx_end kH (kl ▸ hi)) ?_
  rw [List.drop_eq_nil_of_le hi] at g
  have g : KF (os ++ []) run rem := g
  rw [List.append_nil] at g
  exact hKF os run rem _ H g e ⟨ps, hc, hx.rows⟩
 | succ m ih =>
  intro i hm H run rem os ps v1 e dn br hc hx hol g
  have hi : i < rows.length := by lia
  have st := e.stay w0
  have kH := st _ _ k1 rfl
  have hri : rows[i]? = some rows[i] := List.getElem?_eq_getElem hi
  obtain ⟨a, ga, ha⟩ := k2.get hri
  have ha := st _ _ ha rfl
  obtain ⟨hl, hev⟩ := hrows rows[i] (List.getElem_mem hi)
  rw [List.drop_eq_getElem_cons hi] at g
  generalize rows[i] = r at hri ga ha hl hev g
  cases r with
  | nil => exact absurd hl.symm (Nat.succ_ne_zero _)
  | cons x0 ks' =>
  rw [rowsT_cons] at g
  dsimp only [List.tail_cons, List.headD_cons] at g
  rw [Gives_run] at g
  have dn' := dn
  obtain ⟨dd, h1⟩ := dn'
  have w1 := dn.ws br
  refine ccrule_one W (nx_list kH ga) fun G r => r _ _ _ h1 (c_348 W (Mine.d0 hd rfl) (s0.stay st) dn br ha (Nat.succ.inj hl) hen hlow (fun y hy => hev y (.tail _ hy)) (g.imp (fun pr t g H2 p hp e2 b2 d2 p2 G r => r (list_in (e2.stay w1 _ _ hc rfl) ⟨?_, ?_⟩)) fun C g H2 e2 => hKX C H2 (e.trans e2 up) g))
  ·rw [hx.len]; lia
  have hc2 := e2.stay w1 _ _ hc rfl
  rw [Gives_run] at g
  obtain ⟨dd2, g1⟩ := d2
  have n2 : A.r ∉ [cc] := fun w => by
   obtain ⟨dr, oo, pos, b1, b3⟩ := b2
   exact ne_of b1 hc2 nofun (List.mem_singleton.mp w)
  refine ih (i + 1) (by lia) _ pr.2 t (os ++ [x0 :: pr.1]) (ps ++ [.ref p]) _ ((e.trans e2 up).fresh hcc) ⟨dd2, (upd_ne (ne_of g1 hc2 nofun)).trans g1⟩ (b2.ext Ext.one n2) (upd_same ..) ?_ (by rw [List.length_append, hol]; rfl) ?_
  ·exact ((hx.map fun a r _ h => e2.stay w1 _ _ h rfl).app (ne_new hc hp).symm p2).map fun a r n h => (upd_ne n).trans h
  ·refine g.imp (fun q t g => ?_) fun C g => g
   have g : KF (os ++ (x0 :: pr.1) :: q.1) q.2 t := g
   rw [List.append_assoc]; exact g
theorem c_493 (W : World0 c) (hd : 13 <= d) {rd dd sc tb kn : Addr} {rv : MV} {en low run : Nat} {o : List UInt8} {rows : List (List Int)} (h : H rd = some (.inst 358 dd [(9, .ref sc), (15, .ref tb), (14, rv), (12, .int run)])) (hsc : ScanAt H sc en low) (htb : Tb H tb) (hkn : RowsL H kn rows) (ho : o.length <= 100000) (hen : en < 900) (hlow : low <= 60) (hrows : ∀ r ∈ rows, r.length = en + 1 /\ Ev low r) (hrl : rows.length <= 100)
  (g : Gives ((rowsT low rows 0).run (octBits o)) (fun q t => ∀ H' a, H a = none -> Ext [rd] H H' -> RowsL H' a q.1 -> Q (.ref a) H') (fun C => ∀ H', Ext [rd] H H' -> (C = 75 /\ Q (.str ⟨#[99, 117, 116]⟩) H') \/ (C = 63 /\ Q (.str ⟨#[99, 111, 100, 101]⟩) H'))) : CallS c d true 493 [.ref rd, .bytes o, .ref kn] H Q X := by
 refine crule W (d0 hd rfl) rfl rfl rfl rfl fun G r0 => r0 _ _ _ h (c_320 W (Mine.dd hd rfl) (en := en) (low := low) h ho fun H1 r hr e1 d1 b1 G r0 => ?_)
 have st := e1.stay (ws1 h rfl)
 have k1 := hkn.stay st
 have k1' := k1
 obtain ⟨ks, k2, k3⟩ := k1'
 have d1' := d1
 obtain ⟨dd1, a1⟩ := d1'
 have up : ∀ a ∈ [rd, r], a ∈ [rd] \/ H a = none := fun a h => (List.mem_cons.mp h).elim (fun h => .inl (h ▸ .head _)) fun h => .inr (List.mem_singleton.mp h ▸ hr)
 refine r0 fun G r0 => r0 _ k2 fun cc hcc => ?_
 refine read_comp W (Mine.dd hd rfl) (A := ⟨rd, sc, tb, r, en, low⟩) (H0 := H1) (KF := fun os run t => ∀ H' a, H a = none -> Ext [rd] H H' -> RowsL H' a os -> Q (.ref a) H') (KX := fun C => ∀ H', Ext [rd] H H' -> (C = 75 /\ Q (.str ⟨#[99, 117, 116]⟩) H') \/ (C = 63 /\ Q (.str ⟨#[99, 111, 100, 101]⟩) H'))
  ⟨hsc.stay st, htb.stay st⟩ d1 b1 k1 hcc hen hlow hrows hrl (fun C H' e k => k H' (e1.trans e up)) (fun os run t F' H' k e rl G r => r (k H' cc (e1.back (ws1 a1 rfl) hcc) (e1.trans e up) rl))
  rows.length 0 (Nat.zero_add _) _ 0 (octBits o) [] [] none (Ext.refl.new hcc) ⟨dd1, upd_new a1 hcc⟩ (b1.ext (Ext.refl.new (S := []) hcc) List.not_mem_nil) (upd_same ..) trivial rfl ?_
 exact g.imp (fun q t g => g) fun C g => g
theorem idx_syms (z : Fin 16) (m : Fin 3) : symsL.idxOf? ((16 * z.val + m.val : Nat) : Int) = some (3 * z.val + m.val) := by revert z m; decide
theorem c_500 (W : World0 c) (hd : 15 <= d) {sc tabs tb sy : Addr} {en low z m : Nat} {x : Int} (hz : z < 16) (hm : m < 3) (hxx : x = ((16 * z + m : Nat) : Int)) (hsc : ScanAt H sc en low) (htb : TabsAt H tabs tb) (hsy : H sy = some (.list (mvi symsL))) (hen : en < 900) (hlow : low <= 60)
  (hbad : ∀ b, (rowsT low [List.replicate (en + 1) 0] 0).run (symB (16 * z + m) ++ [b]) = .code) (k : ∀ H', Ext [] H H' -> Q (.bool true) H') : CallS c d true 500 [.ref sc, .ref tabs, .ref sy, .int x] H Q X := by
 subst hxx
 refine crule W (d0 hd rfl) rfl rfl rfl rfl fun G r => r fun w d2 hw hd2 hne => c_103 W (dd hd rfl) (upd_same ..) fun f H2 hf nf bw e2 => ⟨rfl, fun G r => ?_⟩
 have ns : ∀ {a b : Addr}, a ≠ b -> a ∉ [b] := fun n w => n (List.mem_singleton.mp w)
 have nl : ∀ {H : HH} {a : Addr}, a ∈ [] -> a ∈ [] \/ H a = none := fun h => absurd h List.not_mem_nil
 have sN : ∀ {H H' : HH}, Ext [] H H' -> Stay H H' := fun e => e.stay fun a q => absurd q List.not_mem_nil
 have e02 : Ext [w] H H2 := (Ext.refl.new hw).trans e2 fun a h => .inl h
 have f1 := e02 _ _ (ns (ne_new hsy hw)) hsy
 have hf' : H f = none := (upd_ne nf).symm.trans hf
 have bw2 := bw
 obtain ⟨dw, oo, r1, s1, b1, b2⟩ := bw2
 refine r _ _ _ b1 _ f1 _ _ f1 (by rw [symsL_len]; decide) (idx_syms ⟨z, hz⟩ ⟨m, hm⟩) (c_110 W (dd hd rfl) (n := 7) (v := 3 * z + m) (by decide) (by show 3 * z + m < 128; lia) bw (Nat.zero_le _) fun H3 e3 bw3 G r => ?_)
 have bw4 := bw3
 obtain ⟨dw3, oo3, r3, s3, c1, c2⟩ := bw4
 have l7 : ([] ++ bitsOf 7 (3 * z + m)).length = 7 := bitsOf_len _ 7
 refine r _ _ _ c1 (c_117 W (dd hd rfl) bw3 (by rw [l7]; decide) fun H4 n e4 bw4 hn hm8 G r => ?_)
 obtain rfl : n = 1 := by rw [l7] at hm8; lia
 have bw5 := bw4
 obtain ⟨dw4, oo4, r4, s4, f1', f2'⟩ := bw5
 have up3 : ∀ a ∈ [w, f], a ∈ [] \/ H a = none := fun a h => .inr ((List.mem_cons.mp h).elim (fun h => h ▸ hw) fun h => List.mem_singleton.mp h ▸ hf')
 have e04 : Ext [] H H4 := (((e02.mono (S := [w, f]) fun a h => .inl (List.mem_singleton.mp h ▸ .head _)).trans (e3.trans e4 fun a h => .inl h) fun a h => .inl h)).mono up3
 have sc4 := hsc.stay (sN e04)
 have tb4 := htb.stay (sN e04)
 refine r fun rd d3 hrd hd3 hne3 => c_313 W (dd hd rfl) (upd_same ..) (sc4.stay (sN (Ext.refl.new hrd))) (tb4.stay (sN (Ext.refl.new hrd))) fun H6 e6 i6 => ⟨rfl, fun G r => ?_⟩
 have e46 : Ext [] H4 H6 := (Ext.refl.new hrd).trans e6 fun a h => .inr (List.mem_singleton.mp h ▸ hrd)
 have sc6 := sc4.stay (sN e46)
 have tb6 := tb4.stay (sN e46)
 have bw6 := bw4.ext e46 List.not_mem_nil List.not_mem_nil
 have l8 : ([] ++ bitsOf 7 (3 * z + m) ++ List.replicate 1 true).length = 8 := by rw [List.length_append, l7]; rfl
 refine r _ _ _ (e46 _ _ List.not_mem_nil f1') (c_124 W (dd hd rfl) bw6 (by rw [l8]) (by rw [l8]; decide) fun o ho hol G r => r fun p1 hp1 G r => ?_)
 have hol' : o.length <= 1 := by rw [l8] at hol; lia
 have sc7 := sc6
 obtain ⟨ds, sa, sb, sl, sc8, sc9⟩ := sc7
 refine r _ _ _ (upd_new sc8 hp1) _ (upd_same ..) (Int.natCast_nonneg (en + 1)) (Int.ofNat_le.mpr (Nat.le_trans hen (by decide)) : ((en + 1 : Nat) : Int) <= (1000 : Nat)) fun p2 hp2 G r => r fun p3 hp3 G r => r ?_
 have eG := ((Ext.refl.new hp1).new hp2).new (S := []) (o := .list [.ref p2]) hp3
 have q2 := upd_new (o' := .list [.ref p2]) (upd_same (upd H6 p1 (.list [.int 0])) p2 (.list (List.replicate (en + 1) (.int 0)))) hp3
 have q3 := upd_same (upd (upd H6 p1 (.list [.int 0])) p2 (.list (List.replicate (en + 1) (.int 0)))) p3 (.list [.ref p2])
 refine c_493 W (dd hd rfl) (en := en) (low := low) (rows := [List.replicate (en + 1) 0]) (eG _ _ List.not_mem_nil i6) (sc6.stay (sN eG)) (tb6.2.stay (sN eG)) ⟨[.ref p2], q3, ⟨p2, rfl, q2.trans (by unfold mvi; rw [List.map_replicate])⟩, trivial⟩ (Nat.le_trans hol' (by decide)) hen hlow (fun r hr => ?_) (show 1 <= 100 by decide) ?_
 ·obtain rfl := List.mem_singleton.mp hr
  refine ⟨List.length_replicate, fun x hx => ?_⟩
  rw [List.eq_of_mem_replicate hx, size, Int.natAbs_zero, Nat.zero_div]
 ·have e9 : octBits o = symB (16 * z + m) ++ [true] := by
   rw [ho]
   unfold symB
   rw [show (16 * z + m) / 16 = z by lia, show (16 * z + m) % 16 = m by lia]; rfl
  rw [e9, hbad true]
  have eq4 : decide ((⟨#[99, 111, 100, 101]⟩ : Str) = ⟨#[99, 111, 100, 101]⟩) = true := by decide
  refine fun H7 e7 => .inr ⟨rfl, fun G r => r ?_⟩
  have k := k H7 (((e04.trans e46 fun a h => .inl h).trans eG fun a h => .inl h).trans e7 fun a h => .inr (List.mem_singleton.mp h ▸ e04.back (fun a q => absurd q List.not_mem_nil) hrd))
  rw [<- eq4] at k
  exact k
end
end
section
open PyProof.Rows
theorem nz_of {x : Int} (w : (!decide (x = 0)) = true) : x ≠ 0 := fun h => by rw [decide_eq_true h] at w; exact nof w
theorem z_of {x : Int} (w : (!decide (x = 0)) = false) : x = 0 := Decidable.byContradiction fun h => by rw [decide_eq_false h] at w; exact not_ w
theorem lt62 {k : Nat} (h : k <= 100000) : (k : Int) < 2 ^ 62 := by lia
theorem tk1 {xs : List Int} {k : Nat} {x : Int} (h : xs[k]? = some x) : xs.take (k + 1) = xs.take k ++ [x] := by rw [List.take_add_one, h]; rfl
theorem at_cons {xs : List Int} {k : Nat} (h : k < xs.length) : ∃ x, xs[k]? = some x /\ xs.drop k = x :: xs.drop (k + 1) := ⟨_, List.getElem?_eq_getElem h, List.drop_eq_getElem_cons h⟩
section
variable {c : Cx} {d : Nat} {H : HH} {X : QX} {Q : QE} {rem : List Bool}
noncomputable def cI2 : Mine.E := (E.or (L.cons (E.cmp CmpOp.NotEq (E.sub (E.loc 6) (E.loc 7)) (E.int 0)) (L.cons (E.cmp CmpOp.Gt (E.loc 9) (E.int 0)) L.nil)))
noncomputable def bI2 : B := (.cons (.ife (.cmp .NotEq (.sub (.loc 6) (.loc 7)) (.int 0)) (.cons (.ex (.fn 467 (.cons (.loc 0) (.cons (.loc 6) (.cons (.loc 7) (.cons (.loc 4) .nil)))))) .nil) (.cons (.asg (.loc 9) (.bin .Sub (.loc 9) (.int 1))) .nil)) (.cons (.asg (.loc 7) (.bin .Add (.loc 7) (.int 1))) .nil))
noncomputable def LwSt (H0 : HH) (p rw : Addr) (en : Nat) (H : HH) (rem : List Bool) (xs : List Int) : Prop := Ext [p] H0 H /\ H0 rw = none /\ p ≠ rw /\ Pen H p rem /\ H rw = some (.list (mvi xs)) /\ xs.length = en + 1
theorem LwSt.mend {H0 H H' : HH} {p rw : Addr} {en : Nat} {rem rem' : List Bool} {xs xs' : List Int} (h : LwSt H0 p rw en H rem xs) (e : Ext [p, rw] H H') (pn : Pen H' p rem') (hr : H' rw = some (.list (mvi xs'))) (hl : xs'.length = en + 1) : LwSt H0 p rw en H' rem' xs' :=
 ⟨h.1.trans e fun a q => (List.mem_cons.mp q).elim (fun q => .inl (q ▸ .head _)) fun q => .inr (List.mem_singleton.mp q ▸ h.2.1), h.2.1, h.2.2.1, pn, hr, hl⟩
theorem LwSt.pen {H0 H H' : HH} {p rw : Addr} {en : Nat} {rem rem' : List Bool} {xs : List Int} (h : LwSt H0 p rw en H rem xs) (e : Ext [p] H H') (pn : Pen H' p rem') : LwSt H0 p rw en H' rem' xs :=
 ⟨h.1.trans e fun _ q => .inl q, h.2.1, h.2.2.1, pn, e _ _ (fun q => h.2.2.1 (List.mem_singleton.mp q).symm) h.2.2.2.2.1, h.2.2.2.2.2⟩
theorem law_pass (W : World0 c) (hd : 5 <= d) {ns : NS} {cm : Mine.E} {bm : B} (hcm : cm = cI2) (hbm : bm = bI2) {H0 : HH} {p rw : Addr} {en low : Nat} {v1 v2 v3 v5 v8 v10 : Option MV} {F' : FF} {QS' : QS} (hlow : low <= 60) (hen : en < 900) {Pf Sf : List Int} {Ft : List Bool} (hne : Sf ≠ [])
  (k : ∀ kk v9 H' , LwSt H0 p rw en H' Ft (Pf ++ Sf) -> kk = Pf.length -> QS' .next (some (.ref p) :: v1 :: v2 :: v3 :: some (.int low) :: v5 :: some (.ref rw) :: some (.int kk) :: v8 :: v9 :: v10 :: F') H') :
  ∀ (n kk : Nat), kk + n = en + 1 -> ∀ (zi : Int) (xs : List Int) (z : Nat) (rem : List Bool) (H : HH) (q : List Int × List Int), zi = z -> LwSt H0 p rw en H rem xs -> (passT low (xs.drop kk) z).run rem = .ok q Ft -> xs.take kk ++ q.1 = Pf -> q.2 = Sf ->
   WhlS c d true ns cm bm (some (.ref p) :: v1 :: v2 :: v3 :: some (.int low) :: v5 :: some (.ref rw) :: some (.int kk) :: v8 :: some (.int zi) :: v10 :: F') H QS' X := fun n => by
 subst hcm; subst hbm
 induction n with
 | zero =>
  intro kk hk zi xs z rem H q ez st h e1 e2
  rw [List.drop_eq_nil_of_le (show xs.length <= kk from Nat.le_of_eq (st.2.2.2.2.2.trans hk.symm))] at h
  cases h
  exact absurd e2.symm hne
 | succ n ih =>
  intro kk hk zi xs z rem H q ez st h e1 e2
  have st' := st
  obtain ⟨s1, s2, s3, s4, s5, s6⟩ := st'
  have hkl : kk < xs.length := by lia
  have hkk : kk <= 1000 := by lia
  have k0 : (0 : Int) <= kk := Int.natCast_nonneg kk
  have k62 := lt62 (Nat.le_trans hkk (by decide))
  have him : kk + 1 + n = en + 1 := by lia
  obtain ⟨x, hx, dk⟩ := at_cons hkl
  rw [dk] at h
  refine wrule W (d0 hd rfl) fun G r => r _ s5 k0 k62 _ (mvi_at hx) (fun w1 G r => ?_) fun w1 G r => ?_
  ·obtain ⟨b, t, pr, er, h1, eq⟩ := pass_nz (nz_of w1) h
   subst eq; subst er
   obtain ⟨ts1, ts2⟩ := take_set hkl (corr low x b)
   exact r (fun _ G r => r _ s5 k0 k62 _ (mvi_at hx) (fun _ G r => r (c_467 W (Mine.d0 hd rfl) hlow hkk s4 s5 s3 hx fun H2 ee pn hr G r => r (ih (kk + 1) him zi _ z t H2 pr ez (st.mend ee pn hr (by rw [List.length_set]; exact s6)) (by rw [ts2]; exact h1) (by rw [ts1, List.append_assoc]; exact e1) e2))) fun w => not_ (w1.symm.trans w)) not_
  ·obtain rfl := z_of w1
   refine r (fun w2 G r => ?_) fun w2 G r => ?_
   ·have hz : 0 < z := Int.ofNat_lt.mp (ez ▸ of_decide_eq_true w2)
    obtain ⟨pr, h1, eq⟩ := pass_zs (Nat.ne_of_gt hz) h
    subst eq
    exact r (fun _ G r => r _ s5 k0 k62 _ (mvi_at hx) (fun w => nof (w1.symm.trans w)) fun _ G r => r (ih (kk + 1) him _ xs (z - 1) rem H pr (by rw [ez]; exact (Int.ofNat_sub hz).symm) st h1 (by rw [tk1 hx, List.append_assoc]; exact e1) e2)) not_
   ·obtain rfl : z = 0 := Nat.le_zero.mp (Int.ofNat_le.mp (ez ▸ Int.not_lt.mp (of_decide_eq_false w2)))
    obtain ⟨eq, eu⟩ := pass_z0 h
    subst eq; subst eu
    subst e1; subst e2
    refine r nof fun _ G r => r (k kk _ H ?_ ?_)
    ·rw [<- dk, List.append_nil, List.take_append_drop]; exact st
    ·rw [List.append_nil, List.length_take_of_le (Nat.le_of_lt hkl)]
theorem law_rest (W : World0 c) (hd : 5 <= d) {ns : NS} {t : T} {bm : B} (ht : t = T.loc 11) (hbm : bm = (B.cons (S.ife (E.cmp CmpOp.NotEq (E.sub (E.loc 6) (E.loc 11)) (E.int 0)) (B.cons (S.ex (E.fn 467 (L.cons (E.loc 0) (L.cons (E.loc 6) (L.cons (E.loc 11) (L.cons (E.loc 4) L.nil)))))) B.nil) B.nil) B.nil)) {H0 : HH} {p rw : Addr} {en low : Nat} {v1 v2 v3 v5 v7 v8 v9 v10 : Option MV} {F' : FF} {QS' : QS} (hlow : low <= 60) (hen : en < 900) {Pf : List Int} {Ft : List Bool}
  (k : ∀ v11 H' , LwSt H0 p rw en H' Ft Pf -> QS' .next (some (.ref p) :: v1 :: v2 :: v3 :: some (.int low) :: v5 :: some (.ref rw) :: v7 :: v8 :: v9 :: v10 :: v11 :: F') H') :
  ∀ (n kk : Nat), kk + n = en + 1 -> ∀ (xs : List Int) (rem : List Bool) (H : HH) (q : List Int) (v11 : Option MV), LwSt H0 p rw en H rem xs -> (restT low (xs.drop kk)).run rem = .ok q Ft -> xs.take kk ++ q = Pf ->
   ForS c d true ns t bm (.up kk n) (some (.ref p) :: v1 :: v2 :: v3 :: some (.int low) :: v5 :: some (.ref rw) :: v7 :: v8 :: v9 :: v10 :: v11 :: F') H QS' X := fun n => by
 subst ht; subst hbm
 induction n with
 | zero =>
  intro kk hk xs rem H q v11 st h e1
  have hl : xs.length <= kk := Nat.le_of_eq (st.2.2.2.2.2.trans hk.symm)
  rw [List.drop_eq_nil_of_le hl] at h
  cases h
  rw [List.append_nil, List.take_of_length_le hl] at e1
  exact frule_end W (d0 hd rfl) rfl (k _ H (e1 ▸ st))
 | succ n ih =>
  intro kk hk xs rem H q v11 st h e1
  have st' := st
  obtain ⟨s1, s2, s3, s4, s5, s6⟩ := st'
  have hkl : kk < xs.length := by lia
  have hkk : kk <= 1000 := by lia
  have k0 : (0 : Int) <= kk := Int.natCast_nonneg kk
  have k62 := lt62 (Nat.le_trans hkk (by decide))
  have him : kk + 1 + n = en + 1 := by lia
  obtain ⟨x, hx, dk⟩ := at_cons hkl
  rw [dk] at h
  refine frule_step W (d0 hd rfl) rfl fun G r => r _ s5 k0 k62 _ (mvi_at hx) (fun w1 G r => ?_) fun w1 G r => ?_
  ·obtain ⟨b, t, pr, er, h1, eq⟩ := rest_nz (nz_of w1) h
   subst eq; subst er
   obtain ⟨ts1, ts2⟩ := take_set hkl (corr low x b)
   exact r (c_467 W (Mine.d0 hd rfl) hlow hkk s4 s5 s3 hx fun H2 ee pn hr G r => r (ih (kk + 1) him _ t H2 pr _ (st.mend ee pn hr (by rw [List.length_set]; exact s6)) (by rw [ts2]; exact h1) (by rw [ts1, List.append_assoc]; exact e1)))
  ·obtain rfl := z_of w1
   obtain ⟨pr, h1, eq⟩ := rest_z h
   subst eq
   exact r (ih (kk + 1) him xs rem H pr _ st h1 (by rw [tk1 hx, List.append_assoc]; exact e1))
noncomputable def cO : Mine.E := (E.and (L.cons (E.cmp CmpOp.Eq (E.loc 2) (E.int 0)) (L.cons (E.cmp CmpOp.LtE (E.loc 7) (E.loc 3)) L.nil)))
noncomputable def bO : B := (.cons (.asg (.loc 8) (.sub (.loc 5) (.fn 460 (.cons (.loc 0) (.cons (.int 7) .nil))))) (.cons (.asg (.loc 9) (.bin .FloorDiv (.loc 8) (.int 16))) (.cons (.ife (.and (.cons (.cmp .Eq (.bin .Mod (.loc 8) (.int 16)) (.int 0)) (.cons (.cmp .Lt (.loc 9) (.int 15)) .nil))) (.cons (.asg (.loc 2) (.bin .Add (.bin .Pow (.int 2) (.loc 9)) (.fn 460 (.cons (.loc 0) (.cons (.loc 9) .nil))))) .nil) (.cons (.asg (.loc 10) (.ite (.cmp .Eq (.loc 8) (.int 240)) (.int 0) (.bin .Mult (.bin .Sub (.bin .Mult (.int 2) (.fn 460 (.cons (.loc 0) (.cons (.int 1) .nil)))) (.int 1)) (.bin .Pow (.int 2) (.loc 4))))) (.cons (.whl cI2 bI2) (.cons (.asg (.sub (.loc 6) (.loc 7)) (.loc 10)) (.cons (.asg (.loc 7) (.bin .Add (.loc 7) (.int 1))) .nil))))) .nil)))
theorem valT_ok {low s : Nat} {rem t : List Bool} {v : Int} (h : (valT low s).run rem = .ok v t) : (s = 240 /\ v = 0 /\ t = rem) \/ (s ≠ 240 /\ ∃ b, rem = b :: t /\ v = worth low b) := by
 unfold valT at h
 by_cases q : s = 240
 ·rw [if_pos q] at h
  cases h; exact .inl ⟨q, rfl, rfl⟩
 ·rw [if_neg q] at h
  by_cases q1 : s % 16 = 1
  ·rw [if_neg (fun h => h q1)] at h
   cases rem with
   | nil => cases h
   | cons b r => cases h; exact .inr ⟨q, b, rfl, rfl⟩
  ·rw [if_pos q1] at h; cases h
theorem law_exit (W : World0 c) (hd : 6 <= d) {ns : NS} {cm : Mine.E} {bm : B} (hcm : cm = cO) {QS' : QS} {R : Int} {v0 v1 v3 v4 v5 v6 v7 : Option MV} {F' : FF} (hR : R ≠ 0) (hn : QS' .next (v0 :: v1 :: some (.int R) :: v3 :: v4 :: v5 :: v6 :: v7 :: F') H) :
  WhlS c d true ns cm bm (v0 :: v1 :: some (.int R) :: v3 :: v4 :: v5 :: v6 :: v7 :: F') H QS' X := by
 subst hcm
 exact wrule W (d0 hd rfl) fun G r => r (fun w => absurd (of_decide_eq_true w) hR) fun _ G r => r nof fun _ G r => r hn
noncomputable def bCt : B := (.cons (.whl cI2 bI2) (.cons (.asg (.sub (.loc 6) (.loc 7)) (.loc 10)) (.cons (.asg (.loc 7) (.bin .Add (.loc 7) (.int 1))) .nil)))
theorem law_cont (W : World0 c) (hd : 6 <= d) {ns : NS} {H0 H1 : HH} {p rw : Addr} {en low k z : Nat} {v1 v2 v3 v5 v8 : Option MV} {F' : FF} {QM' : QM} {kk : C} {v x0 : Int} {xs pa l : List Int} {t2 t3 : List Bool} (hlow : low <= 60) (hen : en < 900) (hk2 : k <= en + 1) (st : LwSt H0 p rw en H1 t2 xs) (h : (passT low (xs.drop k) z).run t2 = .ok (pa, x0 :: l) t3)
  (g : ∀ j v9 H', j = k + pa.length -> LwSt H0 p rw en H' t3 (xs.take k ++ pa ++ [v] ++ l) -> All (M c d ns kk [] (some (.ref p) :: v1 :: v2 :: v3 :: some (.int low) :: v5 :: some (.ref rw) :: some (.int (j + 1 : Nat)) :: v8 :: v9 :: some (.int v) :: F') H' QM' X)) :
  All (M c d ns (cB bCt kk) [] (some (.ref p) :: v1 :: v2 :: v3 :: some (.int low) :: v5 :: some (.ref rw) :: some (.int k) :: v8 :: some (.int z) :: some (.int v) :: F') H1 QM' X) := by
 have ltk : (xs.take k ++ pa).length = k + pa.length := by rw [List.length_append, List.length_take_of_le (st.2.2.2.2.2 ▸ hk2)]
 refine fun G r => r (law_pass W (Mine.d0 hd rfl) rfl rfl hlow hen (List.cons_ne_nil x0 l) (fun j v9 H3 st3 hj G r => ?_) (en + 1 - k) k (Nat.add_sub_cancel' hk2) _ xs z t2 H1 (pa, x0 :: l) rfl st h rfl rfl)
 obtain ⟨u1, u2, u3, u4, u5, u6⟩ := st3
 have u7 : (xs.take k ++ pa ++ x0 :: l).length = en + 1 := u6
 have hjl : j < (xs.take k ++ pa ++ x0 :: l).length := by rw [List.length_append, hj]; exact Nat.lt_add_of_pos_right (Nat.succ_pos _)
 have hset : (mvi (xs.take k ++ pa ++ x0 :: l)).set j (.int v) = mvi (xs.take k ++ pa ++ [v] ++ l) := by
  rw [mvi_set, List.set_append_right _ _ (Nat.le_of_eq hj.symm), hj, Nat.sub_self, List.append_assoc _ [v]]; rfl
 exact g j v9 _ (hj.trans ltk) ⟨u1.fresh u2, u2, u3, u4.ext Ext.one fun w => u3 (List.mem_singleton.mp w), by rw [<- hset]; exact upd_same .., by rw [<- u7, List.append_assoc _ [v], List.length_append, List.length_append (bs := x0 :: l)]; rfl⟩ G
  (r _ u5 (Int.natCast_nonneg j) (lt62 (Nat.le_trans (Nat.le_of_lt (Nat.lt_of_lt_of_eq hjl u7)) (Nat.le_trans hen (by decide)))) (by rw [mvi_len]; exact hjl))
noncomputable def bNw : B := (.cons (.asg (.loc 10) (.ite (.cmp .Eq (.loc 8) (.int 240)) (.int 0) (.bin .Mult (.bin .Sub (.bin .Mult (.int 2) (.fn 460 (.cons (.loc 0) (.cons (.int 1) .nil)))) (.int 1)) (.bin .Pow (.int 2) (.loc 4))))) bCt)
theorem worth_eq (low : Nat) (b : Bool) : worth low b = (2 * ((if b then 1 else 0 : Nat) : Int) - 1) * 2 ^ (low : Int).toNat := by cases b <;> simp [worth]
theorem worth_s (b : Bool) : small (2 * ((if b then 1 else 0 : Nat) : Int) - 1) := by cases b <;> exact ⟨by decide, by decide⟩
theorem law_new (W : World0 c) (hd : 6 <= d) {ns : NS} {H0 H1 : HH} {p rw : Addr} {en low k z s : Nat} {v1 v2 v3 v5 v10 : Option MV} {F' : FF} {QM' : QM} {kk : C} {v x0 : Int} {xs pa l : List Int} {t t2 t3 : List Bool} (hlow : low <= 60) (hen : en < 900) (hk2 : k <= en + 1) (st : LwSt H0 p rw en H1 t xs) (hv : (valT low s).run t = .ok v t2) (h : (passT low (xs.drop k) z).run t2 = .ok (pa, x0 :: l) t3)
  (g : ∀ j v9 H', j = k + pa.length -> LwSt H0 p rw en H' t3 (xs.take k ++ pa ++ [v] ++ l) -> All (M c d ns kk [] (some (.ref p) :: v1 :: v2 :: v3 :: some (.int low) :: v5 :: some (.ref rw) :: some (.int (j + 1 : Nat)) :: some (.int s) :: v9 :: some (.int v) :: F') H' QM' X)) :
  All (M c d ns (cB bNw kk) [] (some (.ref p) :: v1 :: v2 :: v3 :: some (.int low) :: v5 :: some (.ref rw) :: some (.int k) :: some (.int s) :: some (.int z) :: v10 :: F') H1 QM' X) := by
 have l0 : (0 : Int) <= low := Int.natCast_nonneg low
 have l64 : (low : Int) <= 64 := by lia
 rcases valT_ok hv with ⟨w1, w2, w3⟩ | ⟨w1, b, w2, w3⟩
 ·subst w2; subst w3
  exact fun G r => r (fun _ G r => law_cont W hd hlow hen hk2 st h g G r) fun w => absurd (congrArg Int.ofNat w1) (of_decide_eq_false w)
 ·rw [worth_eq] at w3
  subst w2; subst w3
  exact fun G r => r (fun w => absurd (Int.ofNat_inj.mp (of_decide_eq_true w)) w1) fun _ G r => r (c_460 W (Mine.d0 hd rfl) (n := 1) (v := if b then 1 else 0) (rest := t2) (by decide) st.2.2.2.1 (by cases b <;> rfl) fun H2 e2 pn2 G r =>
   law_cont W hd hlow hen hk2 (st.pen e2 pn2) h g G (r (.inl s2) (.inl rfl) l0 l64 (.inl (worth_s b))))
theorem law_loop (W : World0 c) (hd : 6 <= d) {ns : NS} {cm : Mine.E} {bm : B} (hcm : cm = cO) (hbm : bm = bO) {H0 : HH} {p rw sy : Addr} {en low : Nat} {v1 : Option MV} {F' : FF} {QS' : QS} (hlow : low <= 60) (hen : en < 900) (hsy : H0 sy = some (.list (mvi symsL))) (hsp : sy ≠ p) {Pf : List Int} {FR : Nat} {Ft : List Bool}
  (hexit : ∀ k xs R (Ri : Int) rem H v8 v9 v10 v11 q1, Ri = (R : Nat) -> 1 <= k -> k <= en + 1 -> LwSt H0 p rw en H rem xs -> (endT low R (xs.drop k)).run rem = .ok (q1, FR) Ft -> xs.take k ++ q1 = Pf -> QS' .next (some (.ref p) :: v1 :: some (.int Ri) :: some (.int en) :: some (.int low) :: some (.ref sy) :: some (.ref rw) :: some (.int (k : Nat)) :: v8 :: v9 :: v10 :: v11 :: F') H) :
  ∀ (n k : Nat) (xs : List Int) (rem : List Bool) (H : HH) (v8 v9 v10 v11 : Option MV) (q1 : List Int), 1 <= k -> k <= en + 1 -> LwSt H0 p rw en H rem xs -> (bandT low n (xs.drop k)).run rem = .ok (q1, FR) Ft -> xs.take k ++ q1 = Pf ->
   WhlS c d true ns cm bm (some (.ref p) :: v1 :: some (.int 0) :: some (.int en) :: some (.int low) :: some (.ref sy) :: some (.ref rw) :: some (.int (k : Nat)) :: v8 :: v9 :: v10 :: v11 :: F') H QS' X := fun n => by
 subst hcm; subst hbm
 induction n with
 | zero => intro k xs rem H v8 v9 v10 v11 q1 hk hk2 st h e; cases h
 | succ n ih =>
  intro k xs rem H v8 v9 v10 v11 q1 hk hk2 st h e
  refine wrule W (d0 hd rfl) fun G r => r (fun _ G r => r (fun hke G r => r (fun _ G r => ?_) not_) fun hke G r => r nof fun _ G r => r ?_) fun q => absurd q (by decide)
  ·have dk := List.drop_eq_getElem_cons (show k < xs.length from st.2.2.2.2.2 ▸ Nat.lt_succ_of_le (leI hke))
   rw [dk] at h
   rw [bandT_cons, <- dk] at h
   obtain ⟨s, t, h1, h2⟩ := bind_ok h
   obtain ⟨ci, hci, es, h3⟩ := symT_ok h1
   refine r (c_460 W (Mine.d0 hd rfl) (n := 7) (by decide) st.2.2.2.1 h3 fun H1 e1 pn1 G r => ?_)
   have st1 := st.pen e1 pn1
   have sy1 := st1.1 _ _ (fun w => hsp (List.mem_singleton.mp w)) hsy
   have r := r _ sy1 (Int.natCast_nonneg ci) (lt62 (Nat.le_trans (Nat.le_of_lt hci) (by decide))) _ (symsL_mv ci hci) (by decide) (by decide) (by decide)
   have eI : symI ci = ((symV ci : Nat) : Int) := rfl
   rw [eI, <- es] at r
   by_cases q : s % 16 = 0 /\ s / 16 < 15
   ·rw [if_pos q] at h2
    obtain ⟨v, t2, h4, h5⟩ := bind_ok h2
    have ne : 2 ^ (s / 16) + v ≠ 0 := Nat.ne_of_gt (Nat.add_pos_left (Nat.two_pow_pos _) v)
    have eR : (2 : Int) ^ (s / 16) + v = ((2 ^ (s / 16) + v : Nat) : Int) := by rw [Int.natCast_add, <- pw]
    refine r (fun _ G r => r (fun _ G r => r (fun _ G r => r (.inl rfl) (Int.natCast_nonneg (s / 16)) (Int.ofNat_le.mpr (Nat.le_trans (Nat.le_of_lt q.2) (by decide)) : ((s / 16 : Nat) : Int) <= (64 : Nat)) (c_460 W (Mine.d0 hd rfl) (n := s / 16) (Nat.le_trans (Nat.le_of_lt q.2) (by decide)) st1.2.2.2.1 h4 fun H2 e2 pn2 G r => r
     (law_exit W hd rfl (fun w => ne (Int.ofNat_inj.mp (eR.symm.trans w))) (hexit k xs (2 ^ (s / 16) + v) _ t2 H2 _ _ _ _ q1 eR hk hk2 (st1.pen e2 pn2) (by unfold endT; rw [if_neg ne]; exact h5) e)))) not_) fun w => absurd (Int.ofNat_lt.mpr q.2) (of_decide_eq_false w)) fun w => absurd (congrArg Int.ofNat q.1) (of_decide_eq_false w)
   ·rw [if_neg q] at h2
    obtain ⟨v, t2, h4, h5⟩ := bind_ok h2
    obtain ⟨⟨pa, pb⟩, t3, h6, h7⟩ := bind_ok h5
    cases pb with
    | nil => cases h7
    | cons x0 l =>
    obtain ⟨⟨qa, qb⟩, t4, h8, h9⟩ := bind_ok h7
    cases h9
    have l9 : (xs.take k ++ pa ++ [v]).length = k + pa.length + 1 := by rw [List.length_append, List.length_append, List.length_take_of_le (st.2.2.2.2.2 ▸ hk2)]; rfl
    have nw := law_new W hd (ns := ns) (v1 := v1) (v2 := some (.int 0)) (v3 := some (.int en)) (v5 := some (.ref sy)) (v10 := v10) (F' := v11 :: F') (kk := .fin) (QM' := whQ (fun F2 H2 => WhlS c d true ns cO bO F2 H2 QS' X) QS') (X := X) (s := s) (z := s / 16) hlow hen hk2 st1 h4 h6 fun j v9 H' hj st' G r => r (by
     have hl := st'.2.2.2.2.2
     rw [List.length_append, l9, <- hj] at hl
     rw [<- hj] at l9
     exact ih (j + 1) _ t3 H' _ _ _ _ qa (Nat.succ_pos _) (hl ▸ Nat.le_add_right ..) st' (by rw [List.drop_left' l9]; exact h8) (by rw [List.take_left' l9, <- e, List.append_assoc, List.append_assoc]; rfl))
    exact r (fun w G r => r (fun w' => absurd ⟨Int.ofNat_inj.mp (of_decide_eq_true w), Int.ofNat_lt.mp (of_decide_eq_true w')⟩ q) fun _ G r => r nof fun _ G r => nw G r) fun _ G r => r nof fun _ G r => nw G r
  ·have hdn : xs.drop k = [] := List.drop_eq_nil_of_le (by rw [st.2.2.2.2.2]; exact nleI hke)
   exact hexit k xs 0 0 rem H v8 v9 v10 v11 q1 rfl hk hk2 st (by rw [hdn] at h ⊢; exact h) e
theorem tu_eq {a : Addr} {x y : Int} (h : x = y) : some (MO.tuple [.ref a, .int x]) = some (.tuple [.ref a, .int y]) := by rw [h]
noncomputable def bZ : B := (.cons (.ife (.cmp .Gt (.loc 2) (.int 0)) (.cons (.forr (.loc 11) (.up (.loc 7) (.bin .Add (.loc 3) (.int 1))) (.cons (.ife (.cmp .NotEq (.sub (.loc 6) (.loc 11)) (.int 0)) (.cons (.ex (.fn 467 (.cons (.loc 0) (.cons (.loc 6) (.cons (.loc 11) (.cons (.loc 4) .nil)))))) .nil) .nil) .nil)) (.cons (.asg (.loc 2) (.bin .Sub (.loc 2) (.int 1))) .nil)) .nil) (.cons (.ret (.tup (.cons (.loc 6) (.cons (.loc 2) .nil)))) .nil))
theorem law_end (W : World0 c) (hd : 6 <= d) {ns : NS} {H0 : HH} {p rw : Addr} {en low k R FR : Nat} {v1 v5 v8 v9 v10 v11 : Option MV} {F' : FF} {QM' : QM} {Ri : Int} {xs q1 Pf : List Int} {Ft : List Bool} (eR : Ri = (R : Nat)) (hlow : low <= 60) (hen : en < 900) (hk2 : k <= en + 1) (st : LwSt H0 p rw en H rem xs) (h : (endT low R (xs.drop k)).run rem = .ok (q1, FR) Ft) (e : xs.take k ++ q1 = Pf)
  (kq : ∀ F'' H' tu, Ext [p] H0 H' -> H' rw = some (.list (mvi Pf)) -> Pen H' p Ft -> H' tu = some (.tuple [.ref rw, .int FR]) -> QM' (.ret (.ref tu)) F'' H') :
  All (M c d ns (cB bZ .fin) [] (some (.ref p) :: v1 :: some (.int Ri) :: some (.int en) :: some (.int low) :: v5 :: some (.ref rw) :: some (.int k) :: v8 :: v9 :: v10 :: v11 :: F') H QM' X) := by
 unfold endT at h
 refine fun G r => r (fun q G r => ?_) fun q G r => ?_
 ·have rp : 0 < R := Int.ofNat_lt.mp (eR ▸ of_decide_eq_true q)
  rw [if_neg (Nat.ne_of_gt rp)] at h
  obtain ⟨ps, t, h1, h2⟩ := bind_ok h
  cases h2
  refine r (by unfold small; lia) (by unfold small; lia) (law_rest W (Mine.d0 hd rfl) rfl rfl hlow hen (fun v11 H' st' G r => r fun tu htu G r => r ?_) _ k (by lia) xs rem H _ _ st h1 e)
  obtain ⟨s1, s2, s3, s4, s5, s6⟩ := st'
  exact kq _ _ tu (s1.new htu) (upd_new s5 htu) (s4.ext (Ext.refl.new (S := []) htu) List.not_mem_nil) ((upd_same ..).trans (tu_eq (by rw [eR]; exact (Int.ofNat_sub rp).symm)))
 ·obtain rfl : R = 0 := Nat.le_zero.mp (Int.ofNat_le.mp (eR ▸ Int.not_lt.mp (of_decide_eq_false q)))
  rw [if_pos rfl] at h
  cases h
  rw [List.take_append_drop] at e
  obtain ⟨s1, s2, s3, s4, s5, s6⟩ := e ▸ st
  exact r fun tu htu G r => r (kq _ _ tu (s1.new htu) (upd_new s5 htu) (s4.ext (Ext.refl.new (S := []) htu) List.not_mem_nil) ((upd_same ..).trans (tu_eq eR)))
theorem c_474 (W : World0 c) (hd : 8 <= d) {p kn sy : Addr} {en low R FR : Nat} {x0 : Int} {ks ds : List Int} {Ft : List Bool} (hlow : low <= 60) (hen : en < 900) (hp : Pen H p rem) (hkn : H kn = some (.list (mvi (x0 :: ks)))) (hlen : ks.length = en) (hsy : H sy = some (.list (mvi symsL))) (h : (rowT low ks R).run rem = .ok (ds, FR) Ft)
  (k : ∀ H' rw tu, H rw = none -> Ext [p] H H' -> H' rw = some (.list (mvi (x0 :: ds))) -> Pen H' p Ft -> H' tu = some (.tuple [.ref rw, .int FR]) -> Q (.ref tu) H') : CallS c d true 474 [.ref p, .ref kn, .int R, .int en, .int low, .ref sy] H Q X := by
 have hp' := hp
 obtain ⟨s, pos, all, p1, p2⟩ := hp'
 have hsp : sy ≠ p := ne_of hsy p1 fun w => by
  have : (mvi symsL).length = 2 := by injection w with w; rw [w]; rfl
  rw [mvi_len, symsL_len] at this
  exact absurd this (by decide)
 refine crule W (d0 hd rfl) rfl rfl rfl rfl fun G r => r _ hkn (by rw [mvi_len, List.length_cons, hlen]; exact Nat.le_trans hen (by decide)) fun rw hrw G r => r ?_
 have st0 : LwSt H p rw en (upd H rw (.list (mvi (x0 :: ks)))) rem (x0 :: ks) := ⟨Ext.refl.new hrw, hrw, ne_new p1 hrw, hp.ext (Ext.refl.new (S := []) hrw) List.not_mem_nil, upd_same .., congrArg (· + 1) hlen⟩
 have hexit := fun k' xs R (Ri : Int) rem H1 v8 v9 v10 v11 q1 eR (hk : 1 <= k') hk2 st h e => law_end W (ns := n_474) (QM' := retQ Q) (X := X) (k := k') (xs := xs) (R := R) (Ri := Ri) (rem := rem) (H := H1) (q1 := q1) (FR := FR) (Ft := Ft) (Pf := x0 :: ds) (v1 := some (.ref kn)) (v5 := some (.ref sy)) (v8 := v8) (v9 := v9) (v10 := v10) (v11 := v11) (F' := [none, none, none, none]) (Mine.dd hd rfl) eR hlow hen hk2 st h e fun F'' H' tu e1 h1 pn ht => k H' rw tu hrw e1 h1 pn ht
 by_cases hR : R = 0
 ·subst hR
  unfold rowT at h
  rw [if_pos rfl] at h
  exact law_loop W (Mine.dd hd rfl) rfl rfl hlow hen hsy hsp hexit (ks.length + 1) 1 (x0 :: ks) rem _ _ _ _ _ ds (Nat.le_refl 1) (Nat.succ_le_succ (Nat.zero_le _)) st0 h rfl
 ·rw [row_endT _ _ hR] at h
  exact law_exit W (Mine.dd hd rfl) rfl (fun w => hR (Int.ofNat_inj.mp w)) (hexit 1 (x0 :: ks) R _ rem _ _ _ _ _ ds rfl (Nat.le_refl 1) (Nat.succ_le_succ (Nat.zero_le _)) st0 h rfl)
end
end
section
open PyProof.Rows
section
variable {c : Cx} {d : Nat} {H : HH} {X : QX} {Q : QE} {rem : List Bool}
theorem src_loop (W : World0 c) (hd : 2 <= d) {ns : NS} {t : T} {bm : B} (ht : t = T.loc 4) (hbm : bm = (B.cons (S.asg (T.loc 3) (E.bin Operator.Mod (E.bi BI.int (L.cons (E.bin Operator.Add (E.bin Operator.Add (E.bin Operator.Mult (E.loc 3) (E.int 48271)) (E.bi BI.abs (L.cons (E.bi BI.int (L.cons (E.loc 4) L.nil)) L.nil))) (E.int 11)) L.nil)) (E.int 2147483647))) B.nil)) {a : Addr} {xs : List Int} {v0 v1 v2 : Option MV} {F' : FF} {QS' : QS} (ha : H a = some (.list (mvi xs)))
  (k : ∀ (M : Int) v4, 0 <= M -> M < 2147483647 -> QS' .next (v0 :: v1 :: v2 :: some (.int M) :: v4 :: F') H) :
  ∀ (m i : Nat), i + m = xs.length -> ∀ (M : Int) (v4 : Option MV), 0 <= M -> (m = 0 -> M < 2147483647) -> ForS c d true ns t bm (.list a i) (v0 :: v1 :: v2 :: some (.int M) :: v4 :: F') H QS' X := fun m => by
 subst ht; subst hbm
 induction m with
 | zero =>
  intro i hi M v4 h0 h1
  exact frule_end W (Nat.le_of_succ_le hd) (nx_end ha (by rw [mvi_len]; exact Nat.le_of_eq hi.symm)) (k M v4 h0 (h1 rfl))
 | succ m ih =>
  intro i hi M v4 h0 h1
  obtain ⟨x, hx, _⟩ := at_cons (xs := xs) (k := i) (by lia)
  exact frule_step W (Nat.le_of_succ_le hd) (nx_list ha (mvi_at hx)) fun G r => r (.inr ⟨by decide, by decide⟩) (by decide) (ih (i + 1) (by lia) _ _ (Int.emod_nonneg _ (by decide)) fun _ => Int.emod_lt_of_pos _ (by decide))
noncomputable def tailB : Nat -> B -> B
 | 0, b => b
 | _ + 1, .nil => .nil
 | n + 1, .cons _ b => tailB n b
noncomputable def stB : Nat -> B -> S
 | _, .nil => .dead
 | 0, .cons s _ => s
 | n + 1, .cons _ b => stB n b
theorem ifb (b : Bool) : (if b then (1 : Int) else 0) = 0 \/ (if b then (1 : Int) else 0) = 1 := by cases b <;> simp
theorem sm_ifb (b : Bool) : small (if b then 1 else 0) := by cases b; exact s0; exact s1
theorem mul_ifb {a : Int} (h : 0 <= a) (b : Bool) : 0 <= a * (if b then 1 else 0) := by
 rcases ifb b with w | w <;> rw [w]
 ·exact Int.le_of_eq (Int.mul_zero _).symm
 ·rw [Int.mul_one]; exact h
theorem src_tail (W : World0 c) (hd : 3 <= d) {scr : Addr} {xs : List Int} {cell : Int} (hs : H scr = some (.ro (mvi xs))) (hl : xs.length <= 63) (hc : xs = [] -> cell = 0) (k : ∀ H' a, Ext [] H H' -> Src H' a -> Q (.ref a) H') :
  All (M c d n_446 (cB (tailB 1 b_446) .fin) [] [some (.ref scr), some (.int cell), none, none, none, none, none, none] H (retQ Q) X) := by
 have a0 : (0 : Int) <= if cell < 0 then -cell else cell := by split <;> lia
 have m0 : (0 : Int) <= (if cell < 0 then -cell else cell) % 2147483629 := Int.emod_nonneg _ (by decide)
 have m1 : (0 : Int) <= (if cell < 0 then -cell else cell) % 2147483629 + 17 * (if decide (cell < 0) then 1 else 0) := by
  rcases ifb (decide (cell < 0)) with w | w <;> rw [w] <;> lia
 refine fun G r => r (by decide) (.inl s17) (by decide) (by decide) _ (.inr hs) (by rw [mvi_len]; exact Nat.le_trans hl (by decide)) fun a ha G r => r _ (upd_same ..)
  (src_loop W (d0 hd rfl) rfl rfl (a := a) (xs := xs.take 20) ((upd_same ..).trans (congrArg (fun l => some (MO.list l)) List.map_take.symm)) (fun M v4 h0 h1 G r => r (.inr rfl) (by decide) (by decide) (.inr (sm_ifb _)) fun b hb G r => r (k _ b ((Ext.refl.new ha).new hb) ⟨_, M, upd_same .., mul_ifb a0 _, h0, h1⟩)) (xs.take 20).length 0 (Nat.zero_add _) _ _ m1 fun h => ?_)
 ·have hx : xs = [] := by
   cases xs with
   | nil => rfl
   | cons x xs => exact absurd h (Nat.succ_ne_zero _)
  have := hc hx
  subst this
  decide
theorem c_446 (W : World0 c) (hd : 4 <= d) {scr : Addr} {ns : List Int} (hs : H scr = some (.ro (mvi ns))) (hl : ns.length <= 63) (k : ∀ H' a, Ext [] H H' -> Src H' a -> Q (.ref a) H') : CallS c d true 446 [.ref scr] H Q X := by
 have tl := fun cell (hc : ns = [] -> cell = 0) => src_tail W (d := d - 1) (dd hd rfl) (X := X) (cell := cell) hs hl hc k
 refine crule W (d0 hd rfl) rfl rfl rfl rfl fun G r => r _ hs (by rw [mvi_len]; exact Nat.le_trans hl (by decide)) (fun h G r => ?_) fun h G r => tl 0 (fun _ => rfl) G r
 cases ns with
 | nil => exact absurd h (by decide)
 | cons x xs => exact tl x (fun e => nomatch e) G (r _ hs l0 u0 _ rfl)
end
end
section
open PyProof.Rows
theorem nin1 {a b : Addr} (h : a ≠ b) : a ∉ [b] := fun w => h (List.mem_singleton.mp w)
theorem Src.ne {H : HH} {p a : Addr} (s : Src H p) (h : H a = none) : p ≠ a := s.elim fun _ s => s.elim fun _ s => ne_new s.1 h
theorem Src.ext {H H' : HH} {p : Addr} {S : List Addr} (h : Src H p) (e : Ext S H H') (n : p ∉ S) : Src H' p := by
 obtain ⟨a, b, h1, h2⟩ := h
 exact ⟨a, b, e _ _ n h1, h2⟩
theorem smI {x : Int} (h : 0 <= x) (h' : x <= (100 : Nat)) : small x := by unfold small; lia
theorem tN_le {x : Int} {n : Nat} (h : x <= n) : 0 + (x - 0).toNat <= n + 1 := by lia
theorem sNat {n : Nat} (h : n <= 100000) : small n := by unfold small; lia
section
variable {c : Cx} {d : Nat} {H : HH} {X : QX} {Q : QE} {rem : List Bool}
theorem c_453n (W : World0 c) (hd : 2 <= d) {p : Addr} {many : Int} (h0 : 0 < many) (h1 : many <= 8) (hs : Src H p) (k : ∀ (r : Nat) H', (r : Int) < many -> Ext [p] H H' -> Src H' p -> Q (.int r) H') : CallS c d true 453 [.ref p, .int many] H Q X :=
 c_453 W hd h0 h1 hs fun r H' r0 r1 e s => (Int.eq_ofNat_of_zero_le r0).elim fun n w => by subst w; exact k n H' r1 e s
theorem L0 (W : World0 c) (hd : 30 <= d) {scr : Addr} {ns : List Int} {F' : FF} {Q' : QM} {kk : C} (hs : H scr = some (.ro (mvi ns))) (hl : ns.length <= 63)
  (k : ∀ H' src (side low en : Nat), Src H' src -> ((side = 2 /\ en = 3) \/ (side = 5 /\ en = 24)) -> low <= 2 -> All (M c d n_505 kk [] (some (.ref scr) :: some (.ref src) :: some (.int side) :: some (.int low) :: some (.int en) :: F') H' Q' X)) :
  All (M c d n_505 (cS (stB 0 b_505) (cS (stB 1 b_505) (cS (stB 2 b_505) kk))) [] (some (.ref scr) :: none :: none :: none :: none :: F') H Q' X) := by
 have fin : ∀ {q src : Addr} (b : Bool) (H2 : HH), Src H2 src -> H2 q = some (.list [.int 2, .int 5]) -> All (M c d n_505 (.bi .int 1 (.sub (cL (L.cons (E.fn 453 (L.cons (E.loc 1) (L.cons (E.int 3) L.nil))) L.nil) (.stM [2, 3] 2 (cS (stB 2 b_505) kk))))) [.bool b, .ref q] (some (.ref scr) :: some (.ref src) :: none :: none :: none :: F') H2 Q' X) := fun b H2 s2 h2 => by
  obtain ⟨side, en, w, h⟩ : ∃ side en : Nat, ([.int 2, .int 5] : List MV)[(if b then (1 : Int) else 0).toNat]? = some (.int side) /\ ((side = 2 /\ en = 3) \/ (side = 5 /\ en = 24)) := by
   cases b
   ·exact ⟨2, 3, rfl, .inl ⟨rfl, rfl⟩⟩
   ·exact ⟨5, 24, rfl, .inr ⟨rfl, rfl⟩⟩
  have i0 : (0 : Int) <= (if b then 1 else 0) /\ (if b then (1 : Int) else 0) < 2 ^ 62 := by cases b; exact ⟨l0, u0⟩; exact ⟨l1, u1⟩
  have hss : small side := by rcases h with h | h <;> rw [h.1] <;> exact ⟨by decide, by decide⟩
  have ee : (side : Int) * side - 1 = (en : Nat) := by rcases h with h | h <;> rw [h.1, h.2] <;> rfl
  exact fun G r => r _ h2 i0.1 i0.2 _ w (c_453n W (d0 hd rfl) (by decide) (by decide) s2 fun low H3 r1 e3 s3 G r => k H3 _ side low en s3 h (Nat.le_of_lt_succ (Int.ofNat_lt.mp r1)) G (ee ▸ r (.inl hss)))
 refine fun G r => r (c_446 W (d0 hd rfl) hs hl fun H1 src e1 s1 G r => r fun q hq G r => ?_)
 have s2 := s1.new (o := .list [.int 2, .int 5]) hq
 exact r _ (upd_new (e1 _ _ List.not_mem_nil hs) hq) (by rw [mvi_len]; exact Nat.le_trans hl (by decide)) (fun _ G r => r (c_453n W (d0 hd rfl) (by decide) (by decide) s2 fun v H3 r1 e3 s3 G r =>
  have q3 := e3 _ _ (nin1 (s1.ne hq).symm) (upd_same ..)
  r (fun _ G r => fin true H3 s3 q3 G r) fun _ G r => fin false H3 s3 q3 G r)) fun _ G r => fin false _ s2 (upd_same ..) G r
noncomputable def RD (H : HH) (as : List Addr) (en : Nat) : Prop := as.Nodup /\ ∀ a ∈ as, ∃ r : List Int, H a = some (.list (mvi r)) /\ r.length = en + 1 /\ ∀ x ∈ r, x.natAbs < 24
theorem RD.ext {H H' : HH} {as : List Addr} {en : Nat} {S : List Addr} (h : RD H as en) (e : Ext S H H') (n : ∀ a ∈ as, a ∉ S) : RD H' as en := ⟨h.1, fun a ha => by
 obtain ⟨r, h1, h2⟩ := h.2 a ha
 exact ⟨r, e _ _ (n a ha) h1, h2⟩⟩
theorem num_comp (W : World0 c) (hd : 10 <= d) {src cc : Addr} {low : Nat} (hlow : low <= 2) (ncs : cc ≠ src) {H0 : HH} {QF : FF -> HH -> Prop} {N : Nat} (hN : N <= 1000)
  (k : ∀ F' H' ys, Src H' src -> Ext [src, cc] H0 H' -> H' cc = some (.list (mvi ys)) -> ys.length = N -> (∀ x ∈ ys, x.natAbs < 24) -> QF F' H') :
  ∀ (m : Nat) (cur : Int) (xs : List Int) (H : HH) (v1 : Option MV), xs.length + m = N -> Src H src -> Ext [src, cc] H0 H -> H cc = some (.list (mvi xs)) -> (∀ x ∈ xs, x.natAbs < 24) ->
   CompS c d true (E.fn 481 (L.cons (E.loc 4) (L.cons (E.loc 3) L.nil))) 1 none (.up cur m) cc [none, v1, none, some (.int low), some (.ref src)] H QF X := fun m => by
 induction m with
 | zero =>
  intro cur xs H v1 hm s e hc hb
  exact ccrule_end W rfl (k _ H xs s e hc hm hb)
 | succ m ih =>
  intro cur xs H v1 hm s e hc hb
  refine ccrule_one W rfl fun G r => r (c_481 W (d0 hd rfl) hlow s fun v H1 hv e1 s1 G r => r (list_in (e1 _ _ (nin1 ncs) hc) ⟨by rw [mvi_len]; lia, ih _ (xs ++ [v]) _ _ (by rw [List.length_append]; exact (Nat.add_right_comm ..).trans hm) (s1.ext Ext.one (nin1 ncs.symm)) ((e.trans e1 fun a h => .inl (List.mem_singleton.mp h ▸ .head _)).set (.tail _ (.head _))) ((upd_same ..).trans (congrArg (fun l => some (MO.list l)) (mvi_app xs [v]))) fun x hx => ?_⟩))
  rcases List.mem_append.mp hx with hx | hx
  ·exact hb x hx
  ·exact List.mem_singleton.mp hx ▸ hv
theorem nodup_snoc {as : List Addr} {a : Addr} (h : as.Nodup) (n : a ∉ as) : (as ++ [a]).Nodup := List.nodup_append.mpr ⟨h, List.nodup_cons.mpr ⟨List.not_mem_nil, List.nodup_nil⟩, fun x hx y hy w => n (List.mem_singleton.mp hy ▸ w ▸ hx)⟩
theorem not_snoc {as : List Addr} {a b : Addr} (h : b ∉ as) (n : b ≠ a) : b ∉ as ++ [a] := fun w => (List.mem_append.mp w).elim h fun w => n (List.mem_singleton.mp w)
theorem rows_comp (W : World0 c) (hd : 12 <= d) {src cc : Addr} {en low : Nat} (hlow : low <= 2) (hen : en < 100) (ncs : cc ≠ src) {QF : FF -> HH -> Prop} {N : Nat} (hN : N <= 1000)
  (k : ∀ F' H' as, Src H' src -> H' cc = some (.list (as.map .ref)) -> RD H' as en -> cc ∉ as -> src ∉ as -> as.length = N -> QF F' H') :
  ∀ (m : Nat) (cur : Int) (as : List Addr) (H : HH) (v1 : Option MV), as.length + m = N -> Src H src -> H cc = some (.list (as.map .ref)) -> RD H as en -> cc ∉ as -> src ∉ as ->
   CompS c d true (E.comp (E.fn 481 (L.cons (E.loc 4) (L.cons (E.loc 3) L.nil))) 1 (IT.up (E.int 0) (E.bin Operator.Add (E.loc 3) (E.int 1))) [none, none, none, some 4, some 5]) 1 none (.up cur m) cc [none, v1, none, some (.int en), some (.int low), some (.ref src)] H QF X := fun m => by
 induction m with
 | zero =>
  intro cur as H v1 hm s hc hr h1 h2
  exact ccrule_end W rfl (k _ H as s hc hr h1 h2 hm)
 | succ m ih =>
  intro cur as H v1 hm s hc hr h1 h2
  refine ccrule_one W rfl fun G r => r s0 (sNat (n := en + 1) (Nat.le_trans hen (by decide))) fun a ha => ?_
  have nas : src ≠ a := s.ne ha
  have nac : cc ≠ a := ne_new hc ha
  have naa : a ∉ as := fun w => by
   obtain ⟨r, q1, q2⟩ := hr.2 a w
   rw [ha] at q1; cases q1
  refine num_comp W (d0 hd rfl) hlow nas.symm (H0 := upd H a (.list [])) (N := en + 1) (Nat.le_trans hen (by decide)) (fun F' H' ys s' e' ha' hl hb G r => r ?_) _ _ [] _ _ (Nat.zero_add _) (s.new ha) .refl (upd_same ..) (fun _ h => nomatch h)
  refine list_in (e' cc _ (nin2 ncs nac) (upd_new hc ha)) ⟨by rw [List.length_map]; lia, ih _ (as ++ [a]) _ _ (by rw [List.length_append]; exact (Nat.add_right_comm ..).trans hm) (s'.ext Ext.one (nin1 ncs.symm)) ((upd_same ..).trans (by rw [List.map_append]; rfl)) ⟨nodup_snoc hr.1 naa, fun x hx => ?_⟩ (not_snoc h1 nac) (not_snoc h2 nas)⟩
  rcases List.mem_append.mp hx with hx | hx
  ·obtain ⟨r, q1, q2⟩ := hr.2 x hx
   exact ⟨r, (upd_ne fun w : x = cc => h1 (w ▸ hx)).trans (e' x _ (nin2 (fun w : x = src => h2 (w ▸ hx)) fun w : x = a => naa (w ▸ hx)) (upd_new q1 ha)), q2⟩
  ·obtain rfl := List.mem_singleton.mp hx
   exact ⟨ys, (upd_ne nac.symm).trans ha', hl, hb⟩
noncomputable def eltR : Mine.E := E.comp (E.fn 481 (L.cons (E.loc 4) (L.cons (E.loc 3) L.nil))) 1 (IT.up (E.int 0) (E.bin Operator.Add (E.loc 3) (E.int 1))) [none, none, none, some 4, some 5]
theorem L3 (W : World0 c) (hd : 30 <= d) {src : Addr} {side en low : Nat} {v0 v5 v6 : Option MV} {F' : FF} {Q' : QM} {kk : C} (s : Src H src) (hse : (side = 2 /\ en = 3) \/ (side = 5 /\ en = 24)) (hlow : low <= 2)
  (k : ∀ H' rw as, Src H' src -> H' rw = some (.list (as.map .ref)) -> RD H' as en -> rw ∉ as -> src ∉ as -> 1 <= as.length -> as.length <= 4 -> rw ≠ src -> All (M c d n_505 kk [] (v0 :: some (.ref src) :: some (.int side) :: some (.int low) :: some (.int en) :: v5 :: some (.ref rw) :: F') H' Q' X)) :
  All (M c d n_505 (cS (stB 3 b_505) kk) [] (v0 :: some (.ref src) :: some (.int side) :: some (.int low) :: some (.int en) :: v5 :: v6 :: F') H Q' X) := by
 have fin : ∀ many : Int, 0 < many -> many <= 4 -> All (M c d n_505 (.fn 453 2 (.bin .Add (.comp .up eltR 1 none [none, none, none, some 4, some 3, some 1] (.nj (.st 6 kk))))) [.int many, .ref src, .int 1, .int 0] (v0 :: some (.ref src) :: some (.int side) :: some (.int low) :: some (.int en) :: v5 :: v6 :: F') H Q' X) := fun many m0 m1 G r =>
  r (c_453n W (d0 hd rfl) m0 (Int.le_trans m1 (by decide)) s fun r H2 r1 e2 s2 G r' => r' s0 (by unfold small; lia) fun cc hcc => rows_comp W (d0 hd rfl) hlow (by lia) (s2.ne hcc).symm (N := 1 + r) (by lia) (fun F'' H' as s' h1 h2 h3 h4 h5 G r => k H' cc as s' h1 h2 h3 h4 (h5 ▸ Nat.le_add_right ..) (by lia) (s2.ne hcc).symm G r) _ _ [] _ _ (by show 0 + ((1 : Int) + r - 0).toNat = 1 + r; lia) (s2.new hcc) (upd_same ..) ⟨List.nodup_nil, fun _ h => nomatch h⟩ List.not_mem_nil List.not_mem_nil)
 exact fun G r => r (fun _ G r => fin 4 (by decide) (by decide) G r) fun _ G r => fin 3 (by decide) (by decide) G r
theorem zero_in (W : World0 c) (hd : 3 <= d) {ns : NS} {t : T} {bm : B} (ht : t = T.loc 5) (hbm : bm = (B.cons (S.asg (T.sub (E.loc 7) (E.loc 5)) (E.int 0)) B.nil)) {a : Addr} {en : Nat} (hen : en < 100) {H0 : HH} {v0 v1 v2 v3 v4 v6 : Option MV} {F' : FF} {QS' : QS}
  (k : ∀ H' v5 r, Ext [a] H0 H' -> H' a = some (.list (mvi r)) -> r.length = en + 1 -> (∀ x ∈ r, x.natAbs < 24) -> QS' .next (v0 :: v1 :: v2 :: v3 :: v4 :: v5 :: v6 :: some (.ref a) :: F') H') :
  ∀ (m cur : Nat), cur + m <= en + 1 -> ∀ (H : HH) (v5 : Option MV) (r : List Int), Ext [a] H0 H -> H a = some (.list (mvi r)) -> r.length = en + 1 -> (∀ x ∈ r, x.natAbs < 24) ->
   ForS c d true ns t bm (.up cur m) (v0 :: v1 :: v2 :: v3 :: v4 :: v5 :: v6 :: some (.ref a) :: F') H QS' X := fun m => by
 subst ht; subst hbm
 induction m with
 | zero =>
  intro cur hc H v5 r e h1 h2 h3
  exact frule_end W (d0 hd rfl) rfl (k H v5 r e h1 h2 h3)
 | succ m ih =>
  intro cur hc H v5 r e h1 h2 h3
  refine frule_step W (d0 hd rfl) rfl fun G r' => r' _ h1 (Int.natCast_nonneg cur) (lt62 (by lia)) (by rw [mvi_len]; show cur < _; lia) (ih (cur + 1) (by lia) _ _ (r.set cur 0) (e.set (.head _)) ((upd_same ..).trans (congrArg (fun l => some (MO.list l)) (mvi_set ..))) (by rw [List.length_set]; exact h2) fun x hx => ?_)
  rcases List.mem_or_eq_of_mem_set hx with w | w
  ·exact h3 x w
  ·subst w; decide
theorem zero_out (W : World0 c) (hd : 6 <= d) {ns : NS} {t : T} {bm : B} (ht : t = T.loc 7) (hbm : bm = (B.cons (S.forr (T.loc 5) (IT.up (E.int 0) (E.bin Operator.Mult (E.fn 453 (L.cons (E.loc 1) (L.cons (E.int 2) L.nil))) (E.bi BI.min (L.cons (E.int 20) (L.cons (E.loc 4) L.nil))))) (B.cons (S.asg (T.sub (E.loc 7) (E.loc 5)) (E.int 0)) B.nil)) B.nil)) {src rw : Addr} {side en low : Nat} {as : List Addr} (hen : en < 100) (n1 : rw ∉ as) (n2 : src ∉ as) (n3 : rw ≠ src) {v0 : Option MV} {F' : FF} {QS' : QS}
  (k : ∀ H' v5 v7, H' rw = some (.list (as.map .ref)) -> RD H' as en -> QS' .next (v0 :: some (.ref src) :: some (.int side) :: some (.int low) :: some (.int en) :: v5 :: some (.ref rw) :: v7 :: F') H') :
  ∀ (m i : Nat), i + m = as.length -> ∀ (H : HH) (v5 v7 : Option MV), Src H src -> H rw = some (.list (as.map .ref)) -> RD H as en ->
   ForS c d true ns t bm (.list rw i) (v0 :: some (.ref src) :: some (.int side) :: some (.int low) :: some (.int en) :: v5 :: some (.ref rw) :: v7 :: F') H QS' X := fun m => by
 subst ht; subst hbm
 induction m with
 | zero =>
  intro i hi H v5 v7 s hr rd
  exact frule_end W (d0 hd rfl) (nx_end hr (by rw [List.length_map]; exact Nat.le_of_eq hi.symm)) (k H v5 v7 hr rd)
 | succ m ih =>
  intro i hi H v5 v7 s hr rd
  have hx : as[i]? = some as[i] := List.getElem?_eq_getElem (by lia)
  have hmem : as[i] ∈ as := List.getElem_mem (by lia)
  generalize as[i] = a at hx hmem
  have hna : a ≠ src := fun w => n2 (w ▸ hmem)
  have hnr : a ≠ rw := fun w => n1 (w ▸ hmem)
  have hmn : 0 <= (if (en : Int) < 20 then (en : Int) else 20) /\ (if (en : Int) < 20 then (en : Int) else 20) <= en := by split <;> lia
  refine frule_step W (d0 hd rfl) (nx_list hr (by rw [List.getElem?_map, hx]; rfl)) fun G r => r (c_453n W (d0 hd rfl) (by decide) (by decide) s fun v H1 v1' e1 s1 G r' => ?_)
  have rd1 := rd.ext e1 fun b hb w => n2 (List.mem_singleton.mp w ▸ hb)
  have hr1 := e1 _ _ (nin1 n3) hr
  obtain ⟨r, q1, q2, q3⟩ := rd1.2 a hmem
  have hp : 0 <= (v : Int) * (if (en : Int) < 20 then (en : Int) else 20) /\ (v : Int) * (if (en : Int) < 20 then (en : Int) else 20) <= en := by
   rcases (show v = 0 \/ v = 1 by lia) with w | w
   ·rw [w, Int.ofNat_zero, Int.zero_mul]; exact ⟨Int.le_refl 0, Int.natCast_nonneg en⟩
   ·rw [w, Int.ofNat_one, Int.one_mul]; exact hmn
  refine r' (.inl (sNat (by lia))) s0 (smI hp.1 (Int.le_trans hp.2 (Int.ofNat_le.mpr (Nat.le_of_lt hen)))) (zero_in W (Mine.d0 hd rfl) rfl rfl hen (H0 := H1) (fun H' v5 r e h1 h2 h3 G r' => r' (ih (i + 1) (by lia) H' _ _ (s1.ext e (nin1 hna.symm)) (e _ _ (nin1 hnr.symm) hr1) ⟨rd.1, fun b hb => ?_⟩)) _ 0 (tN_le hp.2) H1 v5 r .refl q1 q2 q3)
  by_cases w : b = a
  ·exact ⟨r, by rw [w]; exact h1, h2, h3⟩
  ·obtain ⟨r', z1, z2⟩ := rd1.2 b hb
   exact ⟨r', e _ _ (nin1 w) z1, z2⟩
theorem L4 (W : World0 c) (hd : 30 <= d) {src rw : Addr} {side en low : Nat} {v0 v5 v7 : Option MV} {F' : FF} {Q' : QM} {kk : C} {as : List Addr} (s : Src H src) (hen : en < 100) (hr : H rw = some (.list (as.map .ref))) (rd : RD H as en) (n1 : rw ∉ as) (n2 : src ∉ as) (n3 : rw ≠ src)
  (k : ∀ H' v5 v7, H' rw = some (.list (as.map .ref)) -> RD H' as en -> All (M c d n_505 kk [] (v0 :: some (.ref src) :: some (.int side) :: some (.int low) :: some (.int en) :: v5 :: some (.ref rw) :: v7 :: F') H' Q' X)) :
  All (M c d n_505 (cS (stB 4 b_505) kk) [] (v0 :: some (.ref src) :: some (.int side) :: some (.int low) :: some (.int en) :: v5 :: some (.ref rw) :: v7 :: F') H Q' X) :=
 fun G r => r _ hr (zero_out W (d0 hd rfl) rfl rfl hen n1 n2 n3 (fun H' v5 v7 h rd G r => k H' v5 v7 h rd G r) as.length 0 (Nat.zero_add _) H v5 v7 s hr rd)
theorem RD.rows {H : HH} {as : List Addr} {en : Nat} (h : RD H as en) : ∃ rows, Rows H (as.map .ref) rows /\ rows.length = as.length /\ ∀ r ∈ rows, r.length = en + 1 /\ ∀ x ∈ r, x.natAbs < 24 := by
 obtain ⟨h1, h2⟩ := h
 clear h1
 induction as with
 | nil => exact ⟨[], trivial, rfl, fun _ h => nomatch h⟩
 | cons a as ih =>
  obtain ⟨rows, r1, r2, r3⟩ := ih fun b hb => h2 b (.tail _ hb)
  obtain ⟨r, q1, q2⟩ := h2 a (.head _)
  exact ⟨r :: rows, ⟨⟨a, rfl, q1⟩, r1⟩, congrArg (· + 1) r2, fun r' hr' => (List.mem_cons.mp hr').elim (fun w => w ▸ q2) (r3 r')⟩
end
end
section
open PyProof.Rows
theorem Ext.at0 {H H' : HH} {a : Addr} {o : MO} (e : Ext [] H H') (h : H a = some o) : H' a = some o := e _ _ List.not_mem_nil h
theorem Ext.t0 {H H' H'' : HH} (e : Ext [] H H') (e' : Ext [] H' H'') : Ext [] H H'' := e.trans e' fun _ h => .inl h
theorem newM {c : Cx} {d : Nat} {ns : NS} {k : C} {stk : List MV} {F : FF} {H : HH} {o : MO} {Q : QM} {X : QX} (h : ∀ a H', H a = none -> Ext [] H H' -> H' a = some o -> All (M c d ns k (.ref a :: stk) F H' Q X)) : ∀ a, H a = none -> All (M c d ns k (.ref a :: stk) F (upd H a o) Q X) := fun a n => h a _ n (Ext.refl.new n) (upd_same ..)
section
variable {c : Cx} {d : Nat} {H : HH} {X : QX} {Q : QE} {rem : List Bool}
theorem cut_comp (W : World0 c) (hd : 5 <= d) {elt : Mine.E} {f : Int -> Int} {low : Int} {H0 : HH} {a cc : Addr} {xs : List Int} {QF : FF -> HH -> Prop} (ha : H0 a = some (.list (mvi xs))) (hcc : H0 cc = none) (hl : xs.length <= 1000)
  (helt : ∀ (x : Int) H (Q' : QM), Q' (.ret (.int (f x))) [none, some (.int x), none, some (.int low)] H -> All (M c d [] (cE elt .ret) [] [none, some (.int x), none, some (.int low)] H Q' X))
  (k : ∀ F' H', Ext [] H0 H' -> H' cc = some (.list (mvi (xs.map f))) -> QF F' H') :
  ∀ (m i : Nat), i + m = xs.length -> ∀ (H : HH) (v1 : Option MV), Ext [] H0 H -> H cc = some (.list (mvi ((xs.take i).map f))) -> CompS c d true elt 1 none (.list a i) cc [none, v1, none, some (.int low)] H QF X := fun m => by
 induction m with
 | zero =>
  intro i hi H v1 e hc
  have hi : xs.length <= i := Nat.le_of_eq hi.symm
  rw [List.take_of_length_le hi] at hc
  exact ccrule_end W (nx_end (e.at0 ha) (by rw [mvi_len]; exact hi)) (k _ H e hc)
 | succ m ih =>
  intro i hi H v1 e hc
  refine ch fun g_ h_ => ?_
  obtain ⟨x, hx, _⟩ := at_cons (xs := xs) (k := i) (by lia)
  refine h_ ?_
  exact ccrule_one W (nx_list (e.at0 ha) (mvi_at hx)) (helt _ H _ (list_in hc ⟨by rw [mvi_len, List.length_map, List.length_take]; lia, ih (i + 1) (by lia) _ _ (e.fresh hcc) ((upd_same ..).trans (by rw [tk1 hx, List.map_append, <- mvi_app]; rfl))⟩))
theorem rmap_comp (W : World0 c) {N : Nat} {val : Nat -> MV} {st : Nat -> ItS} {F' : FF} {elt : Mine.E} {out : Nat -> List Int} {H0 : HH} {cc : Addr} {QF : FF -> HH -> Prop} (hN : N <= 1000) (hcc : H0 cc = none)
  (hn : ∀ H, Ext [] H0 H -> ∀ i, i < N -> nextOf H (st i) = some (some (val i, st (i + 1)))) (hz : ∀ H, Ext [] H0 H -> nextOf H (st N) = some none)
  (helt : ∀ i, i < N -> ∀ (H : HH) (Q' : QM), Ext [] H0 H -> (∀ H' b, H b = none -> Ext [] H H' -> H' b = some (.list (mvi (out i))) -> Q' (.ret (.ref b)) (none :: some (val i) :: F') H') -> All (M c d [] (cE elt .ret) [] (none :: some (val i) :: F') H Q' X))
  (k : ∀ F'' H', Ext [] H0 H' -> RowsL H' cc ((List.range N).map out) -> QF F'' H') :
  ∀ (m i : Nat), i + m = N -> ∀ (H : HH) (ps : List MV) (v1 : Option MV), Ext [] H0 H -> H cc = some (.list ps) -> RowsX H cc ps ((List.range i).map out) -> CompS c d true elt 1 none (st i) cc (none :: v1 :: F') H QF X := fun m => by
 induction m with
 | zero =>
  intro i hi H ps v1 e hc hx
  obtain rfl : i = N := hi
  exact ccrule_end W (hz H e) (k _ H e ⟨ps, hc, hx.rows⟩)
 | succ m ih =>
  intro i hi H ps v1 e hc hx
  refine ccrule_one W (hn H e i (by lia)) (helt i (by lia) H _ e fun H' b hb e' hb' => list_in (e'.at0 hc) ⟨?_, ih (i + 1) (by lia) _ (ps ++ [.ref b]) _ ((e.t0 e').fresh hcc) (upd_same ..) ?_⟩)
  ·rw [hx.len, List.length_map, List.length_range]; lia
  ·rw [List.range_succ, List.map_append]
   exact ((hx.map fun a r _ h => e'.at0 h).app (ne_new hc hb).symm hb').map fun a r n h => (upd_ne n).trans h
theorem range_map {α β : Type} (f : α -> β) (xs : List α) (dflt : α) : (List.range xs.length).map (fun i => f (xs.getD i dflt)) = xs.map f := by
 refine List.ext_getElem? fun i => ?_
 by_cases h : i < xs.length
 ·simp [h]
 ·simp [h]
theorem rows_pick {H : HH} {ps : List MV} {rows : List (List Int)} (h : Rows H ps rows) : ∃ f : Nat -> Addr, ∀ i, i < rows.length -> ps[i]? = some (.ref (f i)) /\ H (f i) = some (.list (mvi (rows.getD i []))) /\ rows.getD i [] ∈ rows :=
 have w : ∀ i, ∃ a : Addr, i < rows.length -> ps[i]? = some (.ref a) /\ H a = some (.list (mvi (rows.getD i []))) /\ rows.getD i [] ∈ rows := fun i => by
  by_cases q : i < rows.length
  ·rw [List.getD_eq_getElem?_getD, List.getElem?_eq_getElem q]
   exact (h.get (List.getElem?_eq_getElem q)).imp fun a w _ => ⟨w.1, w.2, List.getElem_mem q⟩
  ·exact ⟨0, fun w => absurd w q⟩
 Classical.axiomOfChoice w
theorem L5 (W : World0 c) (hd : 30 <= d) {rw : Addr} {rows : List (List Int)} {low : Nat} {v0 v1 v2 v4 v5 v7 v8 : Option MV} {F' : FF} {Q' : QM} {kk : C} (hr : RowsL H rw rows) (hrl : rows.length <= 4) (hlow : low <= 2) (hrs : ∀ r ∈ rows, r.length <= 100)
  (k : ∀ H' kn, Ext [] H H' -> RowsL H' kn (rows.map (known low)) -> All (M c d n_505 kk [] (v0 :: v1 :: v2 :: some (.int low) :: v4 :: v5 :: some (.ref rw) :: v7 :: some (.ref kn) :: F') H' Q' X)) :
  All (M c d n_505 (cS (stB 5 b_505) kk) [] (v0 :: v1 :: v2 :: some (.int low) :: v4 :: v5 :: some (.ref rw) :: v7 :: v8 :: F') H Q' X) := by
 refine ch fun g_ h_ => ?_
 obtain ⟨ps, h1, h2⟩ := hr
 obtain ⟨f, hf⟩ := rows_pick h2
 refine h_ ?_
 refine fun G r => r _ h1 fun cc hcc => rmap_comp W (N := rows.length) (val := fun i => .ref (f i)) (st := fun i => .list rw i) (out := fun i => known low (rows.getD i [])) (H0 := H) (Nat.le_trans hrl (by decide)) hcc (fun H1 e1 i hi => nx_list (e1.at0 h1) (hf i hi).1) (fun H1 e1 => nx_end (e1.at0 h1) (Nat.le_of_eq h2.len)) (fun i hi H1 Q e1 kq => ?_) (fun F'' H' e' hk G r => k H' cc e' (by rw [<- range_map (known low) rows []]; exact hk) G r) rows.length 0 (Nat.zero_add _) _ [] _ (Ext.refl.new hcc) (upd_same ..) trivial
 refine ch fun g_ h_ => ?_
 obtain ⟨f1, f2, f3⟩ := hf i hi
 refine h_ ?_
 have hl := hrs _ f3
 exact fun G r => r _ (e1.at0 f2) fun b hb => cut_comp W (Mine.d0 hd rfl) (low := low) (e1.at0 f2) hb (Nat.le_trans hl (by decide)) (fun x H2 Q2 q G r => by exact r (c_488 W (Mine.d0 hd rfl) (low := low + 1) (by lia) fun G r => r q)) (fun F'' H' e' hb' G r => r (kq H' b hb e' hb')) _ 0 (Nat.zero_add _) _ _ (Ext.refl.new hb) (upd_same ..)
theorem L6 (W : World0 c) (hd : 30 <= d) {rw kn : Addr} {rows : List (List Int)} {low : Nat} {v0 v1 v2 v4 v5 v7 v9 : Option MV} {F' : FF} {Q' : QM} {kk : C} (hr : RowsL H rw rows) (hk : RowsL H kn (rows.map (known low))) (hrl : rows.length <= 4) (hlow : low <= 2) (hrs : ∀ r ∈ rows, r.length <= 100 /\ r ≠ [])
  (k : ∀ H' du, Ext [] H H' -> RowsL H' du (rows.map (dueR low)) -> All (M c d n_505 kk [] (v0 :: v1 :: v2 :: some (.int low) :: v4 :: v5 :: some (.ref rw) :: v7 :: some (.ref kn) :: some (.ref du) :: F') H' Q' X)) :
  All (M c d n_505 (cS (stB 6 b_505) kk) [] (v0 :: v1 :: v2 :: some (.int low) :: v4 :: v5 :: some (.ref rw) :: v7 :: some (.ref kn) :: v9 :: F') H Q' X) := by
 refine ch fun g_ h_ => ?_
 obtain ⟨ps, h1, h2⟩ := hr
 obtain ⟨qs, g1, g2⟩ := hk
 obtain ⟨f, hf⟩ := rows_pick h2
 refine h_ ?_
 have hl := h2.len
 have eX : ((ps.length : Int) - 0).toNat = rows.length := by rw [hl]; lia
 refine fun G r => r _ h1 (by rw [hl]; exact Nat.le_trans hrl (by decide)) s0 (sNat (by rw [hl]; exact Nat.le_trans hrl (by decide))) fun cc hcc => rmap_comp W (N := rows.length) (val := fun i => .int i) (st := fun i => .up i (((ps.length : Int) - 0).toNat - i)) (out := fun i => dueR low (rows.getD i [])) (H0 := H) (Nat.le_trans hrl (by decide)) hcc (fun H1 e1 i hi => ?_) (fun H1 e1 => ?_) (fun i hi H1 Q e1 kq => ?_) (fun F'' H' e' hk G r => k H' cc e' (by rw [<- range_map (dueR low) rows []]; exact hk) G r) rows.length 0 (Nat.zero_add _) _ [] _ (Ext.refl.new hcc) (upd_same ..) trivial
 ·show nextOf H1 (.up i (((ps.length : Int) - 0).toNat - i)) = some (some (.int i, .up ((i : Int) + 1) (((ps.length : Int) - 0).toNat - i - 1)))
  rw [eX]
  obtain ⟨n, hn⟩ : ∃ n, rows.length - i = n + 1 := ⟨rows.length - i - 1, by lia⟩
  rw [hn]; rfl
 ·show nextOf H1 (.up rows.length (((ps.length : Int) - 0).toNat - rows.length)) = _
  rw [eX, Nat.sub_self]; rfl
 ·refine ch fun g_ h_ => ?_
  obtain ⟨f1, f2, f3⟩ := hf i hi
  obtain ⟨hl', hne⟩ := hrs _ f3
  obtain ⟨b, gb, hb⟩ := g2.get (i := i) (r := known low (rows.getD i [])) (by rw [List.getElem?_map, List.getD_eq_getElem?_getD, List.getElem?_eq_getElem hi]; rfl)
  refine h_ ?_
  generalize rows.getD i [] = r at f2 hb hl' hne kq
  cases r with
  | nil => exact absurd rfl hne
  | cons x0 ks =>
  have i0 : (0 : Int) <= i := Int.natCast_nonneg i
  have i62 := lt62 (k := i) (by lia)
  have hl3 : ks.length <= 99 := Nat.le_of_succ_le_succ hl'
  refine fun G r => r _ (e1.at0 g1) i0 i62 _ gb _ (e1.at0 hb) l0 u0 _ rfl (newM fun p G1 hp x1 p1 G r => r _ (x1.at0 (e1.at0 h1)) i0 i62 _ f1 l1 u1 _ (x1.at0 (e1.at0 f2)) (by rw [mvi_len]; exact Nat.le_trans hl' (by decide)) (newM fun t G2 ht x2 t1 G r => r _ t1 fun cc2 hcc2 =>
   cut_comp W (Mine.d0 hd rfl) (f := cutN low) (low := low) t1 hcc2 (Nat.le_trans hl3 (by decide)) (fun x H2 Q2 q G r => by exact r (c_488 W (Mine.d0 hd rfl) (low := low) (by lia) fun G r => r q)) (fun F'' H' e' hb' G r => r _ (e'.at0 (x2.at0 p1)) _ hb' (by rw [mvi_len, List.length_map]; show 1 + ks.length <= 1000; lia) (newM fun b G3 hb x3 b1 G r => r (kq G3 b ?_ ((x1.t0 (x2.t0 e')).t0 x3) b1))) _ 0 (Nat.zero_add _) _ _ (Ext.refl.new hcc2) (upd_same ..)))
  exact (x1.t0 (x2.t0 e')).back (fun a q => absurd q List.not_mem_nil) hb
theorem sym_at {z i : Nat} (hz : z < 16) (hi : i < 3) : symsL.take (3 * z + i + 1) = symsL.take (3 * z + i) ++ [16 * (z : Int) + i] := by
 have hv : symI (3 * z + i) = 16 * z + i := congrArg Int.ofNat (sym_dm hi)
 rw [tk1 (symsL_get (3 * z + i) (by lia)), hv]
theorem sym_comp (W : World0 c) {cc : Addr} {H0 : HH} {v0 v3 : Option MV} {QF : FF -> HH -> Prop} (hcc : H0 cc = none) (k : ∀ F' H', Ext [] H0 H' -> H' cc = some (.list (mvi symsL)) -> QF F' H') :
  ∀ (m z : Nat), z + m = 16 -> ∀ (H : HH) (v1 v2 : Option MV), Ext [] H0 H -> H cc = some (.list (mvi (symsL.take (3 * z)))) -> CompS c d true (E.bin Operator.Add (E.bin Operator.Mult (E.int 16) (E.loc 1)) (E.loc 2)) 1 (some (2, IT.up (E.int 0) (E.int 3))) (.up z m) cc [v0, v1, v2, v3] H QF X := fun m => by
 induction m with
 | zero =>
  intro z hz H v1 v2 e hc
  obtain rfl : z = 16 := hz
  rw [List.take_of_length_le (by rw [symsL_len]; decide)] at hc
  exact ccrule_end W rfl (k _ H e hc)
 | succ m ih =>
  intro z hz H v1 v2 e hc
  have hz16 : z < 16 := by lia
  have inner : ∀ (q i : Nat), i + q = 3 -> ∀ (H : HH) (v2 : Option MV), Ext [] H0 H -> H cc = some (.list (mvi (symsL.take (3 * z + i)))) -> CompS c d true (E.bin Operator.Add (E.bin Operator.Mult (E.int 16) (E.loc 1)) (E.loc 2)) 2 none (.up i q) cc [v0, some (.int z), v2, v3] H (fun F' H2 => CompS c d true (E.bin Operator.Add (E.bin Operator.Mult (E.int 16) (E.loc 1)) (E.loc 2)) 1 (some (2, IT.up (E.int 0) (E.int 3))) (.up (z + 1 : Int) m) cc F' H2 QF X) X := fun q => by
   induction q with
   | zero =>
    intro i hi H v2 e hc
    obtain rfl : i = 3 := hi
    exact ccrule_end W rfl (ih (z + 1) (by lia) H _ _ e hc)
   | succ q ihq =>
    intro i hi H v2 e hc
    refine ccrule_one W rfl fun G r => r (.inl s16) (list_in hc ⟨by rw [mvi_len, List.length_take, symsL_len]; lia, ihq (i + 1) (by lia) _ _ (e.fresh hcc) ((upd_same ..).trans (by rw [<- Nat.add_assoc, sym_at hz16 (by lia), <- mvi_app]; rfl))⟩)
  exact ccrule_in W rfl ⟨s0, sNat (n := 3) (by decide), inner 3 0 rfl H v2 e hc⟩
theorem L7 (W : World0 c) (hd : 30 <= d) {v0 v1 v2 v3 v4 v5 v6 v7 v8 v9 v10 : Option MV} {F' : FF} {Q' : QM} {kk : C}
  (k : ∀ H' sy, Ext [] H H' -> H' sy = some (.list (mvi symsL)) -> All (M c d n_505 kk [] (v0 :: v1 :: v2 :: v3 :: v4 :: v5 :: v6 :: v7 :: v8 :: v9 :: some (.ref sy) :: F') H' Q' X)) :
  All (M c d n_505 (cS (stB 7 b_505) kk) [] (v0 :: v1 :: v2 :: v3 :: v4 :: v5 :: v6 :: v7 :: v8 :: v9 :: v10 :: F') H Q' X) :=
 fun G r => r s0 s16 fun cc hcc => sym_comp W hcc (fun F'' H' e h G r => k H' cc e h G r) 16 0 rfl _ _ _ (Ext.refl.new hcc) (upd_same ..)
theorem L8 (W : World0 c) (hd : 30 <= d) {sy : Addr} {v0 v1 v2 v3 v4 v5 v6 v7 v8 v9 v11 : Option MV} {F' : FF} {Q' : QM} {kk : C} (hsy : H sy = some (.list (mvi symsL)))
  (k : ∀ H' tabs tb, Ext [] H H' -> TabsAt H' tabs tb -> All (M c d n_505 kk [] (v0 :: v1 :: v2 :: v3 :: v4 :: v5 :: v6 :: v7 :: v8 :: v9 :: some (.ref sy) :: some (.ref tabs) :: F') H' Q' X)) :
  All (M c d n_505 (cS (stB 8 b_505) kk) [] (v0 :: v1 :: v2 :: v3 :: v4 :: v5 :: v6 :: v7 :: v8 :: v9 :: some (.ref sy) :: v11 :: F') H Q' X) := by
 have l48 : (mvi symsL).length = 48 := by rw [mvi_len, symsL_len]
 have nn : ∀ {a : Addr}, a ∈ [] -> False := fun h => List.not_mem_nil h
 refine fun G r => r (newM fun kt H1 hkt x1 k1 G r => r (newM fun p1 H2 hp1 x2 k2 G r => r _ k2 (by decide) (by decide) (newM fun q1 H3 hq1 x3 k3 G r => r _ ((x1.t0 (x2.t0 x3)).at0 hsy) (by rw [l48]; decide) (newM fun q2 H4 hq2 x4 k4 G r => r _ (x4.at0 k3) _ k4 (by decide) (newM fun q3 H5 hq3 x5 k5 G r => r
  (newM fun p2 H6 hp2 x6 k6 G r => r _ k6 (by decide) (by decide) (newM fun q4 H7 hq4 x7 k7 G r => r _ (x7.at0 (x6.at0 k5)) _ k7 (by decide) (newM fun q5 H8 hq5 x8 k8 G r => r fun tb d1 htb hd1 hne => ?_))))))))
 have x28 : Ext [] H1 H8 := (x2.t0 (x3.t0 x4)).t0 ((x5.t0 x6).t0 (x7.t0 x8))
 have kt8 := x28.at0 k1
 refine c_201 W (d0 hd rfl) (upd_same ..) (upd_new (k8.trans (by rw [l48]; rfl)) htb) (upd_new ((x1.t0 x28).at0 hsy) htb) fun H9 e9 t9 => ⟨rfl, fun G r => r _ (e9 _ _ (nin1 (ne_new kt8 htb)) (upd_new kt8 htb)) rfl (newM fun c9 H10 h9 x10 k10 G r => k H10 c9 tb ?_ ⟨k10, t9.stay (x10.stay fun a q => (nn q).elim)⟩ G r)⟩
 exact (((x1.t0 x28).new htb).trans e9 fun a h => .inr (List.mem_singleton.mp h ▸ (x1.t0 x28).back (fun a q => (nn q).elim) htb)).t0 x10
end
end
section
open PyProof.Rows
theorem Ext.back0 {H H' : HH} {a : Addr} (e : Ext [] H H') (h : H' a = none) : H a = none := e.back (fun _ q => absurd q List.not_mem_nil) h
theorem Ext.stay0 {H H' : HH} (e : Ext [] H H') : Stay H H' := e.stay fun _ q => absurd q List.not_mem_nil
noncomputable def AllN (H : HH) : List Addr -> Prop
 | [] => True
 | a :: l => H a = none /\ AllN H l
theorem AllN.get {H : HH} : ∀ {l : List Addr}, AllN H l -> ∀ a ∈ l, a ∈ [] \/ H a = none
 | b :: l, n, a, h => (List.mem_cons.mp h).elim (fun w => .inr (w ▸ n.1)) (AllN.get n.2 a)
theorem Ext.ga {S : List Addr} {H H' H'' : HH} (e : Ext [] H H') (e' : Ext S H' H'') (n : AllN H S) : Ext [] H H'' := e.trans e' n.get
theorem Ext.n1 {H H' H'' : HH} {b : Addr} {o : MO} (e : Ext [] H H') (n : H' b = none) (e' : Ext [b] (upd H' b o) H'') : Ext [] H H'' := (e.new n).ga e' ⟨e.back0 n, trivial⟩
section
variable {c : Cx} {d : Nat} {H : HH} {X : QX} {Q : QE} {rem : List Bool}
theorem enc_step (low : Nat) (rows : List (List Int)) (i : Nat) (r : List Int) (h : rows[i]? = some r) : encF low (rows.take (i + 1)) ([], 0, []) = codeF low (encF low (rows.take i) ([], 0, [])) r.tail := by
 rw [List.take_add_one, h]
 simp [encF, List.foldl_append]
theorem enc_bound (low : Nat) (rows : List (List Int)) (h : ∀ r ∈ rows, r.tail.length <= 24) : ∀ i, i <= rows.length -> okSt (encF low (rows.take i) ([], 0, [])) /\ (encF low (rows.take i) ([], 0, [])).2.1 <= i /\ (encF low (rows.take i) ([], 0, [])).2.2.length <= 192 * i /\ heft (encF low (rows.take i) ([], 0, [])) <= 200 * i
 | 0, _ => by simp [encF, okSt, heft]
 | i + 1, hi => by
  have hx : rows[i]? = some rows[i] := List.getElem?_eq_getElem (by lia)
  have hr := h rows[i] (List.getElem_mem (by lia))
  obtain ⟨a1, a2, a3, a4⟩ := enc_bound low rows h i (by lia)
  rw [enc_step low rows i _ hx]
  obtain ⟨b1, b2, b3⟩ := code_len low (encF low (rows.take i) ([], 0, [])) rows[i].tail
  exact ⟨code_ok _ _ _ a1, by lia, by lia, by lia⟩
theorem wr_loop (W : World0 c) (hd : 20 <= d) {ns : NS} {t : T} {bm : B} (ht : t = T.loc 7) (hbm : bm = (B.cons (S.ex (E.meth (E.loc 13) 31 (L.cons (E.int 0) (L.cons (E.loc 7) L.nil)))) B.nil)) {A : EA} {H0 : HH} {rw kp0 : Addr} {rows : List (List Int)} {v0 v1 v2 v3 v4 v5 v6 v8 v9 v10 v11 v12 : Option MV} {F' : FF} {QS' : QS}
  (h0 : Enc H0 A kp0 [] 0 []) (hr : RowsL H0 rw rows) (hrl : rows.length <= 4) (hen : A.en <= 24) (hrs : ∀ r ∈ rows, r.length = A.en + 1)
  (k : ∀ H' kp v7, Ext [A.enc, A.w, A.f] H0 H' -> Enc H' A kp (encF A.low rows ([], 0, [])).1 (encF A.low rows ([], 0, [])).2.1 (encF A.low rows ([], 0, [])).2.2 -> QS' .next (v0 :: v1 :: v2 :: v3 :: v4 :: v5 :: v6 :: v7 :: v8 :: v9 :: v10 :: v11 :: v12 :: some (.ref A.enc) :: F') H') :
  ∀ (m i : Nat), i + m = rows.length -> ∀ (H : HH) (kp : Addr) (v7 : Option MV), Ext [A.enc, A.w, A.f] H0 H -> Enc H A kp (encF A.low (rows.take i) ([], 0, [])).1 (encF A.low (rows.take i) ([], 0, [])).2.1 (encF A.low (rows.take i) ([], 0, [])).2.2 ->
   ForS c d true ns t bm (.list rw i) (v0 :: v1 :: v2 :: v3 :: v4 :: v5 :: v6 :: v7 :: v8 :: v9 :: v10 :: v11 :: v12 :: some (.ref A.enc) :: F') H QS' X := fun m => by
 subst ht; subst hbm
 obtain ⟨ps, h1, h2⟩ := hr
 have hpl := h2.len
 have w0 := h0.2.ws
 have hb : ∀ r ∈ rows, r.tail.length <= 24 := fun r hr => by rw [List.length_tail, hrs r hr]; exact hen
 induction m with
 | zero =>
  intro i hi H kp v7 e g
  have hi : rows.length <= i := Nat.le_of_eq hi.symm
  rw [List.take_of_length_le hi] at g
  exact frule_end W (d0 hd rfl) (nx_end (e.stay w0 _ _ h1 rfl) (hpl ▸ hi)) (k H kp v7 e g)
 | succ m ih =>
  intro i hi H kp v7 e g
  have st := e.stay w0
  have hl : i < rows.length := by lia
  have hx : rows[i]? = some rows[i] := List.getElem?_eq_getElem hl
  obtain ⟨a, ga, ha⟩ := h2.get hx
  obtain ⟨b1, b2, b3, b4⟩ := enc_bound A.low rows hb i (Nat.le_of_lt hl)
  have es := enc_step A.low rows i _ hx
  obtain ⟨gs, ⟨dd, g1⟩, g2⟩ := id g
  exact frule_step W (d0 hd rfl) (nx_list (st _ _ h1 rfl) ga) fun G r => r _ _ _ g1 (c_285 W (Mine.d0 hd rfl) g b1 (by lia) (by lia) (st _ _ ha rfl) (hrs _ (List.getElem_mem hl)) (Nat.lt_of_le_of_lt hen (by decide)) (show heft (encF A.low (rows.take i) ([], 0, [])) <= 80000 by lia) fun H2 kp2 e2 g2 G r => r (ih (i + 1) (by lia) H2 kp2 _ (e.trans e2 fun _ h => .inl h) (by rw [es]; exact g2)))
theorem Lenc (W : World0 c) (hd : 30 <= d) {rw tabs tb : Addr} {rows : List (List Int)} {en low : Nat} {v0 v1 v2 v5 v7 v8 v9 v10 v12 v13 v14 : Option MV} {F' : FF} {Q' : QM} {kk : C} (hr : RowsL H rw rows) (ht : TabsAt H tabs tb) (hrl : rows.length <= 4) (hen : en <= 24) (hlow : low <= 2) (hrs : ∀ r ∈ rows, r.length = en + 1)
  (k : ∀ H' sc enc o n v7, Ext [] H H' -> ScanAt H' sc en low -> octBits o = encG low rows 0 [] ++ List.replicate n true -> n < 8 -> (encG low rows 0 []).length <= 1000 -> All (M c d n_505 kk [] (v0 :: v1 :: v2 :: some (.int low) :: some (.int en) :: v5 :: some (.ref rw) :: v7 :: v8 :: v9 :: v10 :: some (.ref tabs) :: some (.ref sc) :: some (.ref enc) :: some (.bytes o) :: F') H' Q' X)) :
  All (M c d n_505 (cS (stB 9 b_505) (cS (stB 10 b_505) (cS (stB 11 b_505) (cS (stB 12 b_505) (cS (stB 13 b_505) kk))))) [] (v0 :: v1 :: v2 :: some (.int low) :: some (.int en) :: v5 :: some (.ref rw) :: v7 :: v8 :: v9 :: v10 :: some (.ref tabs) :: v12 :: v13 :: v14 :: F') H Q' X) := by
 refine fun G r => r (newM fun q1 G1 z1 y1 s1 G r => r (newM fun q2 G2 z2 y2 s2 G r => r (newM fun q3 G3 z3 y3 s3 G r => r fun sc dd zs zd hne => c_376 W (d0 hd rfl) (upd_same ..) (upd_new s3 zs) fun H4 e4 sc4 => ⟨rfl, fun G r => r fun sk dk zk zdk hne2 => c_411 W (Mine.d0 hd rfl) (upd_same ..) fun H5 w f e5 hw hf sk5 bw5 => ⟨rfl, fun G r => ?_⟩⟩)))
 have y4 := (y1.t0 (y2.t0 y3)).n1 zs e4
 have y5 := y4.n1 zk e5
 obtain ⟨dsk, sk5⟩ := sk5
 refine r fun enc de zenc zde hne3 => c_250 W (Mine.d0 hd rfl) (upd_same ..) (sc4.stay ((Ext.refl.n1 zk e5).new zenc).stay0) (ht.stay (y5.new zenc).stay0) (upd_new sk5 zenc) (bw5.ext (Ext.refl.new (S := []) zenc) List.not_mem_nil List.not_mem_nil) fun H7 key kp e7 g7 => ⟨rfl, fun G r => ?_⟩
 have nenc := y5.back0 zenc
 have y7 := y5.n1 zenc e7
 obtain ⟨de7, i7⟩ := g7.2.1
 refine r _ _ _ i7 (c_257 W (Mine.d0 hd rfl) g7 fun H8 kp8 e8 g8 G r => ?_)
 have y8 : Ext [] H H8 := y7.ga e8 ⟨nenc, trivial⟩
 have hr8 : RowsL H8 rw rows := hr.stay y8.stay0
 obtain ⟨ps8, r8, _⟩ := id hr8
 refine r _ r8 (wr_loop W (Mine.d0 hd rfl) rfl rfl g8 hr8 hrl hen hrs (fun H9 kp9 v7' e9 g9 G r => ?_) rows.length 0 (Nat.zero_add _) H8 kp8 _ .refl g8)
 have hb : ∀ r ∈ rows, r.tail.length <= 24 := fun r hr => by rw [List.length_tail, hrs r hr]; exact hen
 obtain ⟨b1, b2, b3, b4⟩ := enc_bound low rows hb rows.length (Nat.le_refl _)
 rw [List.take_length] at b1 b2 b3 b4
 have full := enc_full low rows [] 0 []
 rw [List.nil_append] at full
 have fl := flush_len (encF low rows ([], 0, [])).2.1 (encF low rows ([], 0, [])).2.2
 unfold heft at b4
 obtain ⟨gs9, ⟨de9, i9⟩, j9, ⟨dk9, k9⟩, bw9⟩ := id g9
 refine r _ _ _ i9 (c_292 W (Mine.d0 hd rfl) g9 b1 (Nat.lt_of_le_of_lt b2 (Nat.lt_of_le_of_lt hrl (by decide))) (show (encF low rows ([], 0, [])).1.length + (flush (encF low rows ([], 0, [])).2.1 (encF low rows ([], 0, [])).2.2).length <= 80000 by lia) fun H10 o n e10 ho hn G r => ?_)
 have nw := (y4.new zk).back0 hw
 have nf := (y4.new zk).back0 hf
 have ws9 : WS [enc, sk, w, f] H9 := .cons i9 rfl (.cons k9 rfl bw9.ws)
 exact k H10 sc enc o n v7' ((y8.ga (S := [enc, w, f]) e9 ⟨nenc, nw, nf, trivial⟩).ga (S := [enc, sk, w, f]) e10 ⟨nenc, y4.back0 zk, nw, nf, trivial⟩) (gs9.2.1.stay (e10.stay ws9)) (ho.trans (by rw [full])) hn (by rw [<- full, List.length_append]; lia) G r
end
end
section
open PyProof.Rows
noncomputable def strL (bs : List Bool) : List MV := bs.map fun b => MV.str ⟨#[chr b]⟩
theorem strsOf_strL (bs : List Bool) : strsOf (strL bs) = some (bs.map fun b => ⟨#[chr b]⟩) := by
 induction bs with
 | nil => rfl
 | cons b bs ih => 
  have : strL (b :: bs) = MV.str ⟨#[chr b]⟩ :: strL bs := rfl
  rw [this]
  show (strsOf (strL bs)).map ((⟨#[chr b]⟩ : Str) :: ·) = _
  rw [ih]; rfl
theorem flat_chr (bs : List Bool) : (bs.map fun b => (⟨#[chr b]⟩ : Str)).flatMap (fun x => x.cps.toList) = bs.map chr := by
 induction bs with
 | nil => rfl
 | cons b bs ih => simp [ih]
section
variable {c : Cx} {d : Nat} {H : HH} {X : QX} {Q : QE} {rem : List Bool}
noncomputable def eS : Mine.E := (E.bi BI.str (L.cons (E.bin Operator.Mod (E.bin Operator.FloorDiv (E.loc 1) (E.bin Operator.Pow (E.int 2) (E.loc 2))) (E.int 2)) L.nil))
theorem chr_eq (v n : Nat) : 48 + ((v : Int) / 2 ^ (n : Int).toNat % 2).toNat = chr (decide (v / 2 ^ n % 2 = 1)) := by
 have ev : (v : Int) / 2 ^ (n : Int).toNat % 2 = ((v / 2 ^ n % 2 : Nat) : Int) := by rw [Int.toNat_natCast, Int.natCast_emod, Int.natCast_ediv, Int.natCast_pow]; rfl
 rw [ev, Int.toNat_natCast]
 rcases Nat.mod_two_eq_zero_or_one (v / 2 ^ n) with w | w <;> rw [w] <;> rfl
theorem strL_snoc (acc : List Bool) (b : Bool) : strL acc ++ [MV.str ⟨#[chr b]⟩] = strL (acc ++ [b]) := by unfold strL; rw [List.map_append]; rfl
theorem strL_len (acc : List Bool) : (strL acc).length = acc.length := List.length_map ..
theorem bit_comp (W : World0 c) {cc : Addr} {H0 : HH} {v : Nat} {v0 v3 v4 : Option MV} {QF : FF -> HH -> Prop} {all : List Bool} (hall : all.length <= 90000) (hcc : H0 cc = none) (k : ∀ v2 H', Ext [] H0 H' -> H' cc = some (.list (strL all)) -> QF [v0, some (.int v), v2, v3, v4] H') :
  ∀ (n : Nat), n <= 8 -> ∀ (H : HH) (acc : List Bool) (v2 : Option MV), Ext [] H0 H -> H cc = some (.list (strL acc)) -> acc ++ bitsOf n v = all -> CompS c d true eS 2 none (.down ((n : Int) - 1) n) cc [v0, some (.int v), v2, v3, v4] H QF X := fun n => by
 induction n with
 | zero =>
  intro hn H acc v2 e hc ha
  exact ccrule_end W rfl (k _ H e (hc.trans (by rw [<- ha, bitsOf, List.append_nil])))
 | succ n ih =>
  intro hn H acc v2 e hc ha
  have hla : acc.length <= 90000 := Nat.le_trans (by rw [<- ha, List.length_append]; exact Nat.le_add_right ..) hall
  have n7 : n <= 60 := Nat.le_trans (Nat.le_of_succ_le hn) (by decide)
  have v0 : (0 : Int) <= (v : Int) / 2 ^ (n : Int).toNat % 2 := Int.emod_nonneg _ (by decide)
  have v1 : (v : Int) / 2 ^ (n : Int).toNat % 2 < 2 := Int.emod_lt_of_pos _ (by decide)
  exact ccrule_one W (mv := .int n) (st' := .down ((n : Int) - 1) n) (by rw [show ((n + 1 : Nat) : Int) - 1 = n by lia]; rfl) fun G r => r (.inl rfl) (Int.natCast_nonneg n) (by lia) (pow_pos' n) (pow_lt' n7) (by decide) v0 (by lia) (list_in hc ⟨by rw [strL_len]; exact Nat.le_trans hla (by decide), ih (Nat.le_of_succ_le hn) _ (acc ++ [decide (v / 2 ^ n % 2 = 1)]) _ (e.fresh hcc) ((upd_same ..).trans (by rw [chr_eq, strL_snoc])) (by rw [<- ha, List.append_assoc]; rfl)⟩)
theorem oct_comp (W : World0 c) {cc : Addr} {H0 : HH} {v0 v3 v4 : Option MV} {QF : FF -> HH -> Prop} {all : List Bool} (hall : all.length <= 90000) (hcc : H0 cc = none) (k : ∀ F' H', Ext [] H0 H' -> H' cc = some (.list (strL all)) -> QF F' H') :
  ∀ (bs : List UInt8) (H : HH) (acc : List Bool) (v1 v2 : Option MV), Ext [] H0 H -> H cc = some (.list (strL acc)) -> acc ++ octBits bs = all -> CompS c d true eS 1 (some (2, IT.down (E.int 7) (E.neg (E.int 1)))) (.bytes bs) cc [v0, v1, v2, v3, v4] H QF X := fun bs => by
 induction bs with
 | nil =>
  intro H acc v1 v2 e hc ha
  exact ccrule_end W rfl (k _ H e (hc.trans (by rw [<- ha, show octBits [] = [] from rfl, List.append_nil])))
 | cons b bs ih =>
  intro H acc v1 v2 e hc ha
  have ha : acc ++ (bitsOf 8 b.toNat ++ octBits bs) = all := ha
  rw [<- List.append_assoc] at ha
  exact ccrule_in W rfl ⟨sNat (n := 7) (by decide), s_1, bit_comp W (all := acc ++ bitsOf 8 b.toNat) (Nat.le_trans (by rw [<- ha, List.length_append (bs := octBits bs)]; exact Nat.le_add_right ..) hall) hcc (fun v2' H' e' hc' => ih H' (acc ++ bitsOf 8 b.toNat) _ _ e' hc' ha) 8 (Nat.le_refl 8) H acc v2 e hc rfl⟩
theorem L14 (W : World0 c) (hd : 30 <= d) {o : List UInt8} {v0 v1 v2 v3 v4 v5 v6 v7 v8 v9 v10 v11 v12 v13 v15 v16 v17 : Option MV} {F' : FF} {Q' : QM} {kk : C} (ho : o.length <= 1000)
  (k : ∀ H' p tl, Ext [] H H' -> H p = none -> H tl = none -> p ≠ tl -> Pen H' p (octBits o) -> H' tl = some (.list []) -> All (M c d n_505 kk [] (v0 :: v1 :: v2 :: v3 :: v4 :: v5 :: v6 :: v7 :: v8 :: v9 :: v10 :: v11 :: v12 :: v13 :: some (.bytes o) :: some (.ref p) :: some (.int 0) :: some (.ref tl) :: F') H' Q' X)) :
  All (M c d n_505 (cS (stB 14 b_505) kk) [] (v0 :: v1 :: v2 :: v3 :: v4 :: v5 :: v6 :: v7 :: v8 :: v9 :: v10 :: v11 :: v12 :: v13 :: some (.bytes o) :: v15 :: v16 :: v17 :: F') H Q' X) := by
 have len : (octBits o).length <= 8000 := by rw [octBits_len]; lia
 refine fun G r => r fun cc hcc => oct_comp W (all := octBits o) (Nat.le_trans len (by decide)) hcc (fun F'' H' e' hc G r => r _ hc _ rfl (strsOf_strL _) (by rw [strL_len]; exact Nat.le_trans len (by decide)) (fun x hx => ?_)
  (newM fun p H1 hp x1 p1 G r => r (newM fun tl H2 htl x2 t2 G r => k H2 p tl ((e'.t0 x1).t0 x2) (e'.back0 hp) ((e'.t0 x1).back0 htl) (ne_new p1 htl) ⟨_, 0, octBits o, x2.at0 p1, flat_chr _, rfl, Nat.zero_le _, Nat.le_trans len (by decide)⟩ t2 G r))) o _ [] _ _ (Ext.refl.new hcc) (upd_same ..) rfl
 obtain ⟨b, _, rfl⟩ := List.mem_map.mp hx
 rfl
theorem pen_ne {H : HH} {p a : Addr} {rem : List Bool} {r : List Int} (h : Pen H p rem) (ha : H a = some (.list (mvi r))) : a ≠ p := by
 obtain ⟨s, pos, all, h1, _⟩ := h
 refine ne_of ha h1 fun w => ?_
 cases r with
 | nil => exact absurd w (by nofun)
 | cons x r => injection w with w; injection w with w; exact MV.noConfusion w
theorem told_loop2 (W : World0 c) (hd : 20 <= d) {ns : NS} {t : T} {bm : B} (ht : t = T.loc 7) (hbm : bm = (B.cons (S.asg (T.locs [18, 16]) (E.fn 474 (L.cons (E.loc 15) (L.cons (E.loc 7) (L.cons (E.loc 16) (L.cons (E.loc 4) (L.cons (E.loc 3) (L.cons (E.loc 10) L.nil)))))))) (B.cons (S.ex (E.bm (E.loc 17) BM.append (L.cons (E.loc 18) L.nil))) B.nil))) {H0 : HH} {p tl kn sy : Addr} {rows : List (List Int)} {en low : Nat} {v0 v1 v2 v5 v6 v8 v9 v11 v12 v13 v14 : Option MV} {F' : FF} {QS' : QS} {outs : List (List Int)} {Rf : Nat} {tf : List Bool}
  (hp0 : H0 p = none) (htl0 : H0 tl = none) (npt : p ≠ tl) (hkn : RowsL H0 kn rows) (hsy : H0 sy = some (.list (mvi symsL))) (hrl : rows.length <= 4) (hen : en <= 24) (hlow : low <= 2) (hrs : ∀ r ∈ rows, r.length = en + 1)
  (k : ∀ H' v7 v18, Ext [] H0 H' -> RowsL H' tl outs -> Pen H' p tf -> QS' .next (v0 :: v1 :: v2 :: some (.int low) :: some (.int en) :: v5 :: v6 :: v7 :: v8 :: v9 :: some (.ref sy) :: v11 :: v12 :: v13 :: v14 :: some (.ref p) :: some (.int Rf) :: some (.ref tl) :: v18 :: F') H') :
  ∀ (m i : Nat), i + m = rows.length -> ∀ (H : HH) (R : Nat) (rem : List Bool) (ps : List MV) (os : List (List Int)) (q : List (List Int) × Nat) (v7 v18 : Option MV), Ext [] H0 H -> Pen H p rem -> H tl = some (.list ps) -> RowsX H tl ps os -> os.length = i -> (rowsT low (rows.drop i) R).run rem = .ok q tf -> os ++ q.1 = outs -> q.2 = Rf ->
   ForS c d true ns t bm (.list kn i) (v0 :: v1 :: v2 :: some (.int low) :: some (.int en) :: v5 :: v6 :: v7 :: v8 :: v9 :: some (.ref sy) :: v11 :: v12 :: v13 :: v14 :: some (.ref p) :: some (.int R) :: some (.ref tl) :: v18 :: F') H QS' X := fun m => by
 subst ht; subst hbm
 obtain ⟨ks, k1, k2⟩ := hkn
 have hkl := k2.len
 induction m with
 | zero =>
  intro i hi H R rem ps os q v7 v18 e pn htl hx hol h e1 e2
  have hi : rows.length <= i := Nat.le_of_eq hi.symm
  rw [List.drop_eq_nil_of_le hi] at h
  cases h
  have e2 : R = Rf := e2
  have e1 : os ++ [] = outs := e1
  rw [List.append_nil] at e1
  subst e2; subst e1
  exact frule_end W (d0 hd rfl) (nx_end (e.at0 k1) (hkl ▸ hi)) (k H v7 v18 e ⟨ps, htl, hx.rows⟩ pn)
 | succ m ih =>
  intro i hi H R rem ps os q v7 v18 e pn htl hx hol h e1 e2
  have hl : i < rows.length := by lia
  have hri : rows[i]? = some rows[i] := List.getElem?_eq_getElem hl
  have hlr := hrs rows[i] (List.getElem_mem hl)
  obtain ⟨a, ga, ha⟩ := k2.get hri
  rw [List.drop_eq_getElem_cons hl] at h
  generalize rows[i] = r at hri hlr ga ha h
  cases r with
  | nil => exact absurd hlr.symm (Nat.succ_ne_zero _)
  | cons x0 ks' =>
  unfold rowsT at h
  refine ch fun g_ h_ => ?_
  obtain ⟨⟨ds, R'⟩, t, h1, h2⟩ := bind_ok h
  obtain ⟨⟨os', R''⟩, t2, h3, h4⟩ := bind_ok h2
  refine h_ ?_
  cases h4
  have e1 : os ++ ([x0 :: ds] ++ os') = outs := e1
  rw [<- List.append_assoc] at e1
  refine frule_step W (d0 hd rfl) (nx_list (e.at0 k1) ga) fun G r => r (c_474 W (Mine.d0 hd rfl) (Nat.le_trans hlow (by decide)) (Nat.lt_of_le_of_lt hen (by decide)) pn (e.at0 ha) (Nat.succ.inj hlr) (e.at0 hsy) h1 fun H2 rw tu hrw e2' hrw2 pn2 htu G r => ?_)
  have htl2 := e2' _ _ (nin1 npt.symm) htl
  exact r _ htu _ htl2 _ htl2 (by rw [hx.len]; lia) (ih (i + 1) (by lia) _ R' t (ps ++ [.ref rw]) (os ++ [x0 :: ds]) (os', R'') _ _ ((e.ga e2' ⟨hp0, trivial⟩).fresh htl0) (pn2.ext Ext.one (nin1 npt)) (upd_same ..) (((hx.map fun a r n h => e2' _ _ (nin1 (pen_ne pn h)) h).app (ne_new htl hrw).symm hrw2).map fun a r n h => (upd_ne n).trans h) (by rw [List.length_append, hol]; rfl) h3 e1 e2)
end
end
section
open PyProof.Rows
theorem eqR {H : HH} {a b : Addr} {rs : List (List Int)} {Q : Bool -> Prop} (ha : RowsL H a rs) (hb : RowsL H b rs) (hl : rs.length <= 8) (k : Q true) : eqV (.ref a) (.ref b) H Q := by
 obtain ⟨ps, p1, p2⟩ := ha
 obtain ⟨qs, q1, q2⟩ := hb
 exact Or.inr ⟨ps, qs, rs, rs, p1, q1, p2.len ▸ hl, q2.len ▸ hl, p2, q2, by rw [decide_eq_true (rfl : rs = rs)]; exact k⟩
theorem Gives_ok {α : Type} {r : Res α} {a : α} {t : List Bool} {kok : α -> List Bool -> Prop} {kx : Addr -> Prop} (h : r = .ok a t) (k : kok a t) : Gives r kok kx := h ▸ k
theorem Gives_cut {α : Type} {r : Res α} {kok : α -> List Bool -> Prop} {kx : Addr -> Prop} (h : r = .cut) (k : kx 75) : Gives r kok kx := h ▸ k
theorem evKnown (low : Nat) (r : List Int) : Ev low (known low r) := fun x hx => by
 obtain ⟨y, _, rfl⟩ := List.mem_map.mp hx
 unfold size cutN
 have h1 : ∀ w : Nat, ((w : Int) * sgn y).natAbs = w := fun w => by
  unfold sgn
  split <;> simp
 rw [h1]
 have h2 : y.natAbs / 2 ^ (low + 1) * 2 ^ (low + 1) = 2 ^ low * (2 * (y.natAbs / 2 ^ (low + 1))) := by
  rw [Nat.pow_succ]
  generalize y.natAbs / (2 ^ low * 2) = w
  rw [Nat.mul_comm w, Nat.mul_assoc]
 rw [h2, Nat.mul_div_cancel_left _ (Nat.two_pow_pos low)]
 lia
section
variable {c : Cx} {d : Nat} {H : HH} {X : QX} {Q : QE} {rem : List Bool}
theorem L15 (W : World0 c) (hd : 30 <= d) {H0 : HH} {p tl kn du sy : Addr} {rows : List (List Int)} {en low n : Nat} {o : List UInt8} {v0 v1 v2 v5 v6 v7 v11 v12 v13 v14 v18 : Option MV} {F' : FF} {Q' : QM} {kk : C}
  (hp0 : H0 p = none) (htl0 : H0 tl = none) (npt : p ≠ tl) (e : Ext [] H0 H) (pn : Pen H p (octBits o)) (htl : H tl = some (.list []))
  (hkn : RowsL H0 kn (rows.map (known low))) (hdu : RowsL H0 du (rows.map (dueR low))) (hsy : H0 sy = some (.list (mvi symsL))) (hrl : rows.length <= 4) (hen : en <= 24) (hlow : low <= 2) (hrs : ∀ r ∈ rows, r.length = en + 1)
  (hn : n < 8) (hrun : (rowsT low (rows.map (known low)) 0).run (octBits o) = .ok (rows.map (dueR low), 0) (List.replicate n true))
  (k : ∀ H' v7 F'', Ext [] H0 H' -> All (M c d n_505 kk [] (v0 :: v1 :: v2 :: some (.int low) :: some (.int en) :: v5 :: v6 :: v7 :: some (.ref kn) :: some (.ref du) :: some (.ref sy) :: v11 :: v12 :: v13 :: v14 :: F'') H' Q' X)) :
  All (M c d n_505 (cS (stB 15 b_505) (cS (stB 16 b_505) kk)) [] (v0 :: v1 :: v2 :: some (.int low) :: some (.int en) :: v5 :: v6 :: v7 :: some (.ref kn) :: some (.ref du) :: some (.ref sy) :: v11 :: v12 :: v13 :: v14 :: some (.ref p) :: some (.int 0) :: some (.ref tl) :: v18 :: F') H Q' X) := by
 obtain ⟨ks, k1, k2⟩ := id hkn
 have hl : (rows.map (known low)).length <= 4 := by rw [List.length_map]; exact hrl
 have h8 : (rows.map (dueR low)).length <= 8 := by rw [List.length_map]; exact Nat.le_trans hrl (by decide)
 refine fun G r => r _ (e.at0 k1) (told_loop2 W (d0 hd rfl) rfl rfl hp0 htl0 npt hkn hsy hl hen hlow (fun r hr => ?_) (fun H1 v7 v18 e1 rl pn1 G r => ?_) (rows.map (known low)).length 0 (Nat.zero_add _) H 0 (octBits o) [] [] _ _ _ e pn htl trivial rfl hrun rfl rfl)
 ·obtain ⟨r', hr', rfl⟩ := List.mem_map.mp hr
  rw [known_len]; exact hrs r' hr'
 ·obtain ⟨s, pos, all, p1, p2, p3, p4, p5⟩ := pn1
  have hsz : s.cps.toList.length = all.length := by rw [p2, List.length_map]
  have hdl : all.length - pos = n := by rw [<- List.length_drop, p3, List.length_replicate]
  have hs6 : s.cps.toList.length <= 1000000 := by rw [hsz]; exact Nat.le_trans p5 (by decide)
  have h48 : ¬48 ∈ List.drop pos s.cps.toList := by
   rw [p2, <- List.map_drop, p3]
   intro w
   obtain ⟨b, hb, hc⟩ := List.mem_map.mp w
   rw [List.eq_of_mem_replicate hb] at hc
   exact absurd hc (by decide)
  have h7 : ¬(7 : Int) < (s.cps.toList.length : Int) - pos := by lia
  exact r (eqR rl (hdu.stay e1.stay0) h8 fun G r => r nof fun _ G r => r (fun w => nof w) fun _ G r => r _ p1 l0 u0 _ rfl _ p1 l1 u1 _ rfl (Int.natCast_nonneg pos) (lt62 (Nat.le_trans p4 p5)) hs6 48 rfl (fun w => absurd (of_decide_eq_true w) h48) fun _ G r =>
   r _ p1 l0 u0 _ rfl hs6 _ p1 l1 u1 _ rfl (fun w => absurd (of_decide_eq_true w) h7) fun _ G r => r nof fun _ G r => k H1 _ _ e1 G r)
theorem Lread (W : World0 c) (hd : 30 <= d) {kn du tabs tb sc : Addr} {rows : List (List Int)} {en low n : Nat} {o : List UInt8} {v0 v1 v2 v3 v4 v5 v6 v7 v10 v13 : Option MV} {F' : FF} {Q' : QM} {kk : C}
  (hkn : RowsL H kn (rows.map (known low))) (hdu : RowsL H du (rows.map (dueR low))) (hsc : ScanAt H sc en low) (htb : TabsAt H tabs tb) (hrl : rows.length <= 4) (hen : en <= 24) (hlow : low <= 2) (hrs : ∀ r ∈ rows, r.length = en + 1) (ho : o.length <= 1000)
  (hrun : (rowsT low (rows.map (known low)) 0).run (octBits o) = .ok (rows.map (dueR low), 0) (List.replicate n true))
  (k : ∀ H', Ext [] H H' -> All (M c d n_505 kk [] (v0 :: v1 :: v2 :: v3 :: v4 :: v5 :: v6 :: v7 :: some (.ref kn) :: some (.ref du) :: v10 :: some (.ref tabs) :: some (.ref sc) :: v13 :: some (.bytes o) :: F') H' Q' X)) :
  All (M c d n_505 (cS (stB 17 b_505) kk) [] (v0 :: v1 :: v2 :: v3 :: v4 :: v5 :: v6 :: v7 :: some (.ref kn) :: some (.ref du) :: v10 :: some (.ref tabs) :: some (.ref sc) :: v13 :: some (.bytes o) :: F') H Q' X) := by
 refine fun G r => r fun rd dd hrd hdd hne => c_313 W (d0 hd rfl) (upd_same ..) (hsc.stay (Ext.refl.new hrd).stay0) (htb.stay (Ext.refl.new hrd).stay0) fun H2 e2 i2 => ⟨rfl, fun G r => ?_⟩
 have x2 : Ext [] H H2 := Ext.refl.n1 hrd e2
 refine r (c_493 W (Mine.d0 hd rfl) (en := en) (low := low) (rows := rows.map (known low)) i2 (hsc.stay x2.stay0) (htb.2.stay x2.stay0) (hkn.stay x2.stay0) (Nat.le_trans ho (by decide)) (Nat.lt_of_le_of_lt hen (by decide)) (Nat.le_trans hlow (by decide)) (fun r hr => ?_) (by rw [List.length_map]; exact Nat.le_trans hrl (by decide)) (Gives_ok hrun fun H3 a ha e3 rl G r => ?_))
 ·obtain ⟨r', hr', rfl⟩ := List.mem_map.mp hr
  exact ⟨by rw [known_len]; exact hrs r' hr', evKnown low r'⟩
 ·have x3 : Ext [] H H3 := x2.ga e3 ⟨hrd, trivial⟩
  exact r (eqR rl (hdu.stay x3.stay0) (by rw [List.length_map]; exact Nat.le_trans hrl (by decide)) fun G r => r nof fun _ G r => k H3 x3 G r)
theorem Lcut (W : World0 c) (hd : 30 <= d) {kn tabs tb sc : Addr} {rows : List (List Int)} {en low : Nat} {o : List UInt8} {v0 v1 v2 v3 v4 v5 v6 v7 v9 v10 v13 : Option MV} {F' : FF} {Q' : QM} {kk : C}
  (hkn : RowsL H kn (rows.map (known low))) (hsc : ScanAt H sc en low) (htb : TabsAt H tabs tb) (hrl : rows.length <= 4) (hen : en <= 24) (hlow : low <= 2) (hrs : ∀ r ∈ rows, r.length = en + 1) (ho : o.length <= 1000)
  (hrun : (rowsT low (rows.map (known low)) 0).run (octBits (o.take (o.length - 1))) = .cut)
  (k : ∀ H', Ext [] H H' -> All (M c d n_505 kk [] (v0 :: v1 :: v2 :: v3 :: v4 :: v5 :: v6 :: v7 :: some (.ref kn) :: v9 :: v10 :: some (.ref tabs) :: some (.ref sc) :: v13 :: some (.bytes o) :: F') H' Q' X)) :
  All (M c d n_505 (cS (stB 18 b_505) kk) [] (v0 :: v1 :: v2 :: v3 :: v4 :: v5 :: v6 :: v7 :: some (.ref kn) :: v9 :: v10 :: some (.ref tabs) :: some (.ref sc) :: v13 :: some (.bytes o) :: F') H Q' X) := by
 refine fun G r => r fun rd dd hrd hdd hne => c_313 W (d0 hd rfl) (upd_same ..) (hsc.stay (Ext.refl.new hrd).stay0) (htb.stay (Ext.refl.new hrd).stay0) fun H2 e2 i2 => ⟨rfl, fun G r => ?_⟩
 have x2 : Ext [] H H2 := Ext.refl.n1 hrd e2
 refine r rfl (Nat.le_trans ho (by decide)) (c_493 W (Mine.d0 hd rfl) (en := en) (low := low) (rows := rows.map (known low)) i2 (hsc.stay x2.stay0) (htb.2.stay x2.stay0) (hkn.stay x2.stay0) (Nat.le_trans (List.length_take_le ..) (Nat.le_trans (Nat.sub_le ..) (Nat.le_trans ho (by decide)))) (Nat.lt_of_le_of_lt hen (by decide)) (Nat.le_trans hlow (by decide)) (fun r hr => ?_) (by rw [List.length_map]; exact Nat.le_trans hrl (by decide)) (Gives_cut hrun fun H3 e3 => .inl ⟨rfl, fun G r => r (fun w => absurd w (by decide)) fun _ G r => k H3 (x2.ga e3 ⟨hrd, trivial⟩) G r⟩))
 obtain ⟨r', hr', rfl⟩ := List.mem_map.mp hr
 exact ⟨by rw [known_len]; exact hrs r' hr', evKnown low r'⟩
theorem Lref (W : World0 c) (hd : 30 <= d) {sy tabs tb sc : Addr} {side en low : Nat} {v0 v1 v3 v4 v5 v6 v7 v8 v9 v13 : Option MV} {F' : FF} {Q' : QM} {kk : C} (hse : (side = 2 /\ en = 3) \/ (side = 5 /\ en = 24)) (hsc : ScanAt H sc en low) (htb : TabsAt H tabs tb) (hsy : H sy = some (.list (mvi symsL))) (hlow : low <= 2) (k : ∀ F'' H', Q' (.ret (.bool true)) F'' H') :
  All (M c d n_505 (cS (stB 19 b_505) kk) [] (v0 :: v1 :: some (.int side) :: v3 :: v4 :: v5 :: v6 :: v7 :: v8 :: v9 :: some (.ref sy) :: some (.ref tabs) :: some (.ref sc) :: v13 :: F') H Q' X) := by
 have hlong : ∀ {z : Nat}, z < 16 -> ∀ b, (rowsT low [List.replicate (en + 1) 0] 0).run (symB (16 * z + 2) ++ [b]) = .code := fun {z} hz b => by
  obtain ⟨e', rfl⟩ : ∃ e', en = e' + 1 := ⟨en - 1, by lia⟩
  exact refused_bad low hz 0 0 (List.replicate e' 0) [b]
 have hen : en < 900 := by lia
 have hl : low <= 60 := Nat.le_trans hlow (by decide)
 refine fun G r => r (c_500 W (d0 hd rfl) (z := 0) (m := 2) (x := 2) (by decide) (by decide) rfl hsc htb hsy hen hl (hlong (by decide)) fun H1 e1 G r => r (fun _ G r => r (fun h G r => r (.inl s16) (c_500 W (Mine.d0 hd rfl) (z := 14) (m := 1) (x := 16 * 14 + 1) (by decide) (by decide) rfl (hsc.stay e1.stay0) (htb.stay e1.stay0) (e1.at0 hsy) hen hl (fun b => ?_) fun H2 _ G r => r (fun _ G r => r (k _ H2)) not_))
  fun h G r => r (c_500 W (Mine.d0 hd rfl) (z := 15) (m := 2) (x := 242) (by decide) (by decide) rfl (hsc.stay e1.stay0) (htb.stay e1.stay0) (e1.at0 hsy) hen hl (hlong (by decide)) fun H2 _ G r => r (fun _ G r => r (k _ H2)) not_)) not_)
 have h2 : side = 2 := Int.ofNat_inj.mp (of_decide_eq_true h)
 obtain rfl : en = 3 := by lia
 exact refused_long low 0 b []
theorem run_nil (low : Nat) (rows : List (List Int)) (h : rows ≠ []) (ht : ∀ r ∈ rows, r.tail ≠ []) : (rowsT low (rows.map (known low)) 0).run [] = .cut := by
 cases rows with
 | nil => exact absurd rfl h
 | cons r rs =>
  have hr := ht r (by simp)
  cases r with
  | nil => exact absurd rfl hr
  | cons x ks =>
   cases ks with
   | nil => exact absurd rfl hr
   | cons y ks => rfl
theorem oct_split (o : List UInt8) (h : o ≠ []) : ∃ s2, octBits o = octBits (o.take (o.length - 1)) ++ s2 /\ s2.length = 8 := by
 refine ⟨octBits (o.drop (o.length - 1)), ?_, ?_⟩
 ·have app : ∀ a b : List UInt8, octBits (a ++ b) = octBits a ++ octBits b := fun a b => by simp [octBits]
  rw [<- app, List.take_append_drop]
 ·rw [octBits_len, List.length_drop]
  rw [Nat.sub_sub_self (List.length_pos_iff.mpr h)]
theorem lawOK : LawOK := by
 intro c W scr ns H hs hl
 have hd : 30 <= 40 - 1 := by decide
 refine crule W (by decide) rfl rfl rfl rfl ?_
 refine L0 W hd hs hl fun H1 src side low en s1 hse hlow => ?_
 refine L3 W hd s1 hse hlow fun H2 rw as s2 hrw rd n1 n2 l1 l4 n3 => ?_
 have hen : en <= 24 := by lia
 refine L4 W hd s2 (by lia) hrw rd n1 n2 n3 fun H3 v5 v7 hrw3 rd3 => ?_
 obtain ⟨rows, rr, rlen, rprop⟩ := rd3.rows
 have rowsL : RowsL H3 rw rows := ⟨_, hrw3, rr⟩
 have hrl : rows.length <= 4 := by lia
 have hrs : ∀ r ∈ rows, r.length = en + 1 := fun r hr => (rprop r hr).1
 have htl : ∀ r ∈ rows, r.tail ≠ [] := fun r hr w => by
  have := hrs r hr
  have := congrArg List.length w
  rw [List.length_tail] at this
  simp at this
  lia
 have hne : rows ≠ [] := fun w => by subst w; simp at rlen; lia
 refine L5 W hd rowsL hrl hlow (fun r hr => by rw [hrs r hr]; lia) fun H4 kn e4 kn4 => ?_
 have t4 := e4.stay0
 refine L6 W hd (rowsL.stay t4) kn4 hrl hlow (fun r hr => ⟨by rw [hrs r hr]; lia, fun w => by have := hrs r hr; rw [w] at this; simp at this⟩) fun H5 du e5 du5 => ?_
 have t5 := e5.stay0
 refine L7 W hd fun H6 sy e6 sy6 => ?_
 have t6 := e6.stay0
 refine L8 W hd sy6 fun H7 tabs tb e7 tb7 => ?_
 have t7 := e7.stay0
 refine Lenc W hd ((((rowsL.stay t4).stay t5).stay t6).stay t7) tb7 hrl hen hlow hrs fun H8 sc enc o n v7' e8 sc8 ho hn hlen => ?_
 have t8 := e8.stay0
 have t48 := ((t5.trans t6).trans t7).trans t8
 have t58 := (t6.trans t7).trans t8
 have hol : o.length <= 1000 := by
  have := congrArg List.length ho
  rw [octBits_len] at this
  simp at this
  lia
 have hrun : (rowsT low (rows.map (known low)) 0).run (octBits o) = .ok (rows.map (dueR low), 0) (List.replicate n true) := by
  rw [ho]
  exact (rows_run low rows htl).1 (by lia) _
 have hone : o ≠ [] := fun w => by
  subst w
  have : octBits [] = [] := rfl
  rw [this, run_nil low rows hne htl] at hrun
  cases hrun
 have hcut : (rowsT low (rows.map (known low)) 0).run (octBits (o.take (o.length - 1))) = .cut := by
  obtain ⟨s2, h1, h2⟩ := oct_split o hone
  rw [h1] at hrun
  exact run_cut _ _ hrun (by simp; lia)
 have sy8 := t8 _ _ (t7 _ _ sy6 rfl) rfl
 refine L14 W hd hol fun H9 p tl e9 hp htl9 npt pn9 tl9 => ?_
 refine L15 W hd hp htl9 npt e9 pn9 tl9 (kn4.stay t48) (du5.stay t58) sy8 hrl hen hlow hrs hn hrun fun H10 v7'' F'' e10 => ?_
 have t10 := e10.stay0
 refine Lread W hd ((kn4.stay t48).stay t10) ((du5.stay t58).stay t10) (sc8.stay t10) ((tb7.stay t8).stay t10) hrl hen hlow hrs hol hrun fun H11 e11 => ?_
 have t11 := t10.trans (e11.stay0)
 refine Lcut W hd ((kn4.stay t48).stay t11) (sc8.stay t11) ((tb7.stay t8).stay t11) hrl hen hlow hrs hol hcut fun H12 e12 => ?_
 have t12 := t11.trans (e12.stay0)
 exact Lref W hd hse (sc8.stay t12) ((tb7.stay t8).stay t12) (t12 _ _ sy8 rfl) hlow fun _ _ => rfl
end
end
end Mine
open PySem PySem.W PyProof.Rows
namespace Mine
section
open PySem.Calls
noncomputable def callerΓ : Ctx := ⟨.builtin "claim.caller" {}, none, none, [], none⟩
theorem caller_nd : Nd callerΓ := ⟨by decide +kernel, fun e he => nomatch he⟩
theorem wp_of_wpG_done {M : Model} {t : Sem Fin} {R : Result -> Shared -> Prop} {s : Shared}
  (h : wpG true M callerA t (fun fin s' => ∃ f, fin = .done f /\ R (.ok f) s') (fun e s' => R (.error e) s') s) (p : Pos) :
  Sem.wp M callerΓ t (Sem.finPost M callerΓ R) (fun e _ s' => R (.error e) s') p s := by
 refine Sem.wp_mono M callerΓ t (fun fin p' s' h' => ?_) (fun _ _ _ h' => h') p s (h callerΓ p caller_in fun _ => caller_nd)
 obtain ⟨f, rfl, hf⟩ := h'
 exact hf
theorem thread_endsG {prog : Program} {w : World} {t : Sem Fin} {s : Shared} {R : Result -> Shared -> Prop} (hreg : s.asleep)
  (h : wpG true (model prog w) callerA t (fun fin s' => ∃ f, fin = .done f /\ (R (.ok f) s' /\ leftWithCleanup s'.gens = false)) (fun e s' => R (.error e) s' /\ leftWithCleanup s'.gens = false) s) :
  ∃ n r s' s'', runN (denote table) prog w n s ⟨t, .builtin "claim.caller" {}, default, []⟩ = .halted (outcomeOf r) s' /\
   schedN (denote table) prog w n (.single s ⟨t, .builtin "claim.caller" {}, default, []⟩) = .halted (outcomeOf r) s' /\ s'.forget = s''.forget /\ R r s'' := by
 obtain ⟨n, r, s₁, s₂, hs, hn, hfo, hR⟩ := wp_halts_full (M := model prog w) (R := R) hreg (wp_of_wpG_done (R := fun r s' => R r s' /\ leftWithCleanup s'.gens = false) h default)
 exact ⟨n, r, s₂, s₁, hn, hs, hfo, hR⟩
theorem call_from {c : ClaimW} {tree : List Value -> Sem Fin} {w : World} {s : Shared} {free : Addr -> Prop} {gens : Prop} {kept : Heap -> Prop} (hz : s.asleep) (hgens : s.gens = #[])
    (hspec : ∀ args, c.pre args = true -> WData.layableAll args = true ->
      ∀ ord : List DictEntry -> List DictEntry, (∀ l, (ord l).Perm l) ->
      ∃ vs s₁, layAllW c.records (classAt s.heap) w.params ord args s = some (vs, s₁) /\
        wpG true (model c.prog w) callerA (tree vs) (fun fin s' => ∃ f, fin = .done f /\ (c.Ends s args vs s₁ (.ok f) s' /\ s'.os = s.os /\ AllBare s'.gens /\ kept s'.heap))
          (fun e s' => c.Ends s args vs s₁ (.error e) s' /\ s'.os = s.os /\ AllBare s'.gens /\ kept s'.heap) s₁) :
    c.CallFrom (fun vs => ⟨tree vs, .builtin "claim.caller" {}, default, []⟩) w free gens kept s := by
  intro args hpre hlay ord hord
  refine ch fun G hG => ?_
  obtain ⟨vs, s₁, hlaid, hcode⟩ := hspec args hpre hlay ord hord
  have hal := layAllW_rest _ _ _ hlaid
  obtain ⟨k, r, s', s'', hrun, hsched, hfo, hcase, hos, hkp⟩ := thread_endsG (prog := c.prog) (w := w) (t := tree vs) (s := s₁)
    (R := fun r s' => c.Ends s args vs s₁ r s' /\ s'.os = s.os /\ kept s'.heap)
    (Shared.asleep_of_life hal.2.2.2 hz)
    (wpG.mono hcode (by
      rintro fin s' ⟨f, e, h1, h2, h3, h4⟩
      exact ⟨f, e, ⟨h1, h2, h4⟩, leftWithCleanup_false_of_bare h3⟩) (by
      rintro e s' ⟨h1, h2, h3, h4⟩
      exact ⟨⟨h1, h2, h4⟩, leftWithCleanup_false_of_bare h3⟩))
  obtain ⟨eh, _, _, eo, _⟩ := Shared.forget_eq hfo
  have hcase := hcase.congr eh
  have hkp : kept s'.heap := eh ▸ hkp
  rw [<- eo] at hos
  have hlife : s'.heap.life = s.heap.life := (runN_life _ _ _ hrun).trans hal.2.2.2
  refine hG ⟨vs, s₁, hlaid, k, _, s', hsched, ?_, (fun _ i x hx => by rw [hgens] at hx; simp at hx), hkp, by rw [hlife], Shared.rest_eq hos⟩
  rcases hcase with ⟨v, rfl, d1, d2, d3, d4, d5⟩ | ⟨e, ob, cls, rfl, d1, d2, d3, d4, d5⟩
  · exact .inl ⟨v, rfl, d1, d2, d3, fun b o y _ => d4 b o y, d5⟩
  · exact .inr ⟨e, ob, cls, rfl, d1, d2, d3, d4, fun b o y _ => d5 b o y⟩
theorem open_own {r : RowW} {tree : List Value -> Sem Fin} {q : Program} {loose defs kps : List Str} {writes : Bool} {Xt : Shared -> Bool} {XP : (Str -> Option Value) -> Heap -> Prop} {α : Type} {Yf : Shared -> α} {Ya : World -> α} {YP : World -> Heap -> Prop} {N : Nat}
  (left : LeftO r.prog q loose Xt Yf Ya N) (hY : ∀ w s, Yf s = Ya w -> YP w s.heap) (hYk : ∀ w h h', YP w h -> (∀ b o, h.get? b = some o -> h'.get? b = some o) -> YP w h') (hX : ∀ s, Xt s = true -> XP (s.heap.nsMap mainGlobals) s.heap) (hXk : ∀ mg h h', XP mg h -> (∀ b o, h.get? b = some o -> h'.get? b = some o) -> XP mg h')
  (hRf : ∀ s, Xt s = true -> RecFacts r.records s.heap) (hwr : (!writes || r.records.isEmpty) = true) (ok : (chainsOk q && opensWell r.prog && (frees r && r.within.isEmpty)) = true) (hb : r.prog.bare) (hw : r.promised)
  (ht : ∀ vs (w : World) (s : Shared) mg f (Q : Fin -> Shared -> Prop) (E : Value -> Shared -> Prop), s.heap.Ns mainGlobals mg -> mg r.name = some f -> wpG true (model r.prog w) callerA (call f vs) (fun v s' => Q (.done (.ret v)) s') E s -> wpG true (model r.prog w) callerA (tree vs) Q E s)
  (pin : ∀ w s, s.heap.isNs mainGlobals = true -> Ground q loose [] XP w s (s.heap.nsMap mainGlobals) (s.heap.nsMap builtinsNs) s.heap -> ∀ n ∈ defs, isTheDefsW r.prog s.heap n)
  (call : ∀ (w : World) (s₀ s₁ : Shared) (mg mb : Str -> Option Value), Ground q loose r.records XP w s₀ mg mb s₁.heap -> YP w s₁.heap -> ∀ (args : List WData) (vs : List Value) (as : List Addr),
   r.claim.pre args = true -> WData.layableAll args = true -> Laid r.records w s₀ s₁ args vs as -> sysModules < s₀.heap.objs.size -> ∃ f, mg r.name = some f /\
    wpG true (model r.prog w) callerA (call f vs) (fun v s' => GoodWG r.claim (classAt s₀.heap) (ExcName.means s₀.heap) args s₁ (.ok (.ret v)) s')
     (fun e s' => GoodWG r.claim (classAt s₀.heap) (ExcName.means s₀.heap) args s₁ (.error e) s') s₁) : r.claim.HoldsOpenBy (fun vs => ⟨tree vs, .builtin "claim.caller" {}, default, []⟩) defs kps writes := by
 obtain ⟨ok, k5⟩ := Bool.and_eq_true_iff.mp ok
 obtain ⟨hch, o1⟩ := Bool.and_eq_true_iff.mp ok
 obtain ⟨k5, k6⟩ := Bool.and_eq_true_iff.mp k5
 obtain ⟨hsame, hu, ha, hap, hm⟩ := frees_parts k5
 refine ⟨⟨hb, o1, by show r.makers.map _ = []; rw [hm]; rfl⟩, hw.witness, fun w => ⟨(left.behind hX hch w).1, fun s' hs' => ch fun T hT0 => ?_⟩⟩
 obtain ⟨s₀, hf, hg0, s, hT, hz, hgens, hg, G00, y⟩ := (left.behind (XP := fun mg h => XP mg h /\ RecFacts r.records h) (fun s hs => ⟨hX s hs, hRf s hs⟩) hch w).2 s' hs'
 have G0 : Ground q loose [] XP w s (s.heap.nsMap mainGlobals) (s.heap.nsMap builtinsNs) s.heap := ⟨G00.T, G00.B, G00.D, G00.TE, G00.TD, G00.W, G00.X.1, G00.cls, G00.has, G00.apart, G00.once, G00.K⟩
 have RF := G00.X.2
 have hT' := hT
 refine hT0 ⟨s₀, hf, hg0, s, hT, pin w s hg G0, RF.1, RF.2.1, ?_⟩
 have hgens : s.gens = #[] := Array.eq_empty_of_size_eq_zero (beq_iff_eq.mp hgens)
 have G : Ground q loose r.records XP w s _ _ s.heap := RF.ground G0
 refine call_from (c := r.claim) hz hgens fun args hpre hlay ord hord => ch fun T hT0 => ?_
 obtain ⟨⟨vs, s₁⟩, hlaid⟩ := Option.isSome_iff_exists.mp (layAllW_isSome (P := w.params) (ord := ord) G.has args r.args s (pre_splitW hpre).1)
 have keeps := layAllW_keeps _ _ _ hlaid
 have hal := layAllW_rest _ _ _ hlaid
 obtain ⟨as, hrd, hin, hold⟩ := reads_layAllW hord _ _ _ hlaid hlay s₁.heap (fun _ _ e => e)
 have L : Laid r.records w s s₁ args vs as := ⟨⟨ord, hord, hlaid⟩, hrd, hin, hold, keeps, hal.1.trans hgens, hal.2.2.1⟩
 have G₁ := G.keeps hXk keeps
 obtain ⟨f, hf, h⟩ := call w s s₁ _ _ G₁ (hYk _ _ _ (hY w s y) keeps) args vs as hpre hlay L G.low
 have hi := ident_freeW hu ha hap
 have hwi : r.claim.within = [] := List.isEmpty_iff.mp k6
 exact hT0 ⟨vs, s₁, hlaid, ht vs w s₁ _ f _ _ G₁.T.g hf (wpG.mono h (fun v s' g => ⟨_, rfl, have z := g.laid (c := r.claim) hsame hwi hi L; ⟨z.1, z.2.1, z.2.2, fun q => ⟨namesKept_of hT' hg kps keeps g.2.1.old, noTable hwr q⟩⟩⟩) fun e s' g => have z := g.laid (c := r.claim) hsame hwi hi L; ⟨z.1, z.2.1, z.2.2, fun q => ⟨namesKept_of hT' hg kps keeps g.2.1.old, noTable hwr q⟩⟩)⟩
noncomputable abbrev WalkG (q : Program) (loose : List Str) (XP : (Str -> Option Value) -> Heap -> Prop) (YP : World -> Heap -> Prop) (r : RowW) (d : DefRec) (kwd : List (Str × Expr)) : Prop :=
 ∀ (w : World) (s₀ s₁ : Shared) (mg mb : Str -> Option Value), Ground q loose r.records XP w s₀ mg mb s₁.heap -> YP w s₁.heap -> ∀ (a : Addr) (o : Obj) (pm cd doc dV kV : Value), s₁.heap.get? a = some o ->
  o.data = .func { docDef d.name d.params d.body d.scope pm cd doc with defaults := dV, kwdefaults := kV } -> s₁.heap.CodeRec cd d.name -> Dflts mg s₁.heap d.params kwd dV kV -> mg d.name = some (.ref a) -> s₁.gens = #[] ->
  ∀ (args : List WData) (vals : List Value) (as : List Addr), r.claim.pre args = true -> WData.layableAll args = true -> ReadsAllW r.records (classAt s₀.heap) s₁.heap vals args as -> WellAll w.params s₁.heap vals args -> (∀ a ∈ as, (a == sysModules) = false) ->
   wpG true (model r.prog w) callerA (call (.ref a) vals) (fun v s' => GoodWG r.claim (classAt s₀.heap) (ExcName.means s₀.heap) args s₁ (.ok (.ret v)) s')
    (fun e s' => GoodWG r.claim (classAt s₀.heap) (ExcName.means s₀.heap) args s₁ (.error e) s') s₁
theorem PySem.W.holds_open {r : OpenRow} {q : Program} {loose : List Str} {Xt : Shared -> Bool} {XP : (Str -> Option Value) -> Heap -> Prop} {α : Type} {Yf : Shared -> α} {Ya : World -> α} {YP : World -> Heap -> Prop} {d : DefRec} {kwd : List (Str × Expr)} {N : Nat}
    (left : LeftO r.prog q loose Xt Yf Ya N) (hY : ∀ w s, Yf s = Ya w -> YP w s.heap) (hYk : ∀ w h h', YP w h -> (∀ b o, h.get? b = some o -> h'.get? b = some o) -> YP w h')
    (hX : ∀ s, Xt s = true -> XP (s.heap.nsMap mainGlobals) s.heap) (hXk : ∀ mg h h', XP mg h -> (∀ b o, h.get? b = some o -> h'.get? b = some o) -> XP mg h')
    (hdef : defOf q r.name = some (d, kwd)) (hp : r.prog.theDef r.name = some (d.params, d.body, d.scope)) (hk : kwWritten? d.params.kwonlyargs d.params.kw_defaults = some kwd) (hRf : ∀ s, Xt s = true -> RecFacts r.records s.heap) (hwr : (!r.writes || r.records.isEmpty) = true)
    (k1 : r.wellSaid = true) (ok : (chainsOk q && opensWell r.prog && (frees r.toRowW && r.within.isEmpty)) = true) (hb : r.prog.bare) (hw : r.toRowW.promised)
    (call : WalkG q loose XP YP r.toRowW d kwd) : r.Holds := by
  refine ⟨k1, hw, open_own (r := r.toRowW) (tree := fun vs => do match <- nsGet mainNs r.name with
      | some f => do ret (<- PySem.call f vs)
      | none => unsupported "claim.caller:no-such-global") left hY hYk hX hXk hRf hwr ok hb hw
    (fun vs w s mg f Q E hg hf h => wpG.then (wpAny_nsGet hg (by rw [hf]; exact wpG.bind (wpG.mono h (fun _ _ x => wpG.pure x) fun _ _ x => x))))
    (fun w s hg G n hn => ?_) fun w s₀ s₁ mg mb G Y args vs as hpre hlay L low => ?_⟩
  · obtain rfl : n = r.name := by split at hn <;> simp_all
    exact pinned_of_view hg G hdef hp hk
  · obtain ⟨a, o, pm, cd, doc, dV, kV, h1, h2, h3, h4, h5⟩ := G.fn hdef
    exact ⟨.ref a, h1, call w s₀ s₁ mg mb G Y a o pm cd doc dV kV h2 h3 h4 h5 (defOf_name hdef ▸ h1) L.gens args vs as hpre hlay L.reads L.well (L.low low)⟩
end
theorem exact_list {P : Params} {h : Heap} {a : Addr} {vs : List Value} {ns : List Int} (w : Well P h (.ref a) (ofPy (.list (ns.map .int)))) (l : h.IsList a vs.toArray) : h.get? a = some { cls := .type "list", data := .seq vs.toArray } := by
 have w2 : Well P h (.ref a) (.list (ofPys (ns.map .int))) := w
 obtain ⟨o, h1, h2, n, h3⟩ := l
 cases w2 with
 | list h4 h5 =>
  rw [h1] at h4
  cases h4
  injection h3 with h6 h7
  rw [h1, h6]
set_option tactic.hygienic true
set_option Elab.async true
def hq.tw6442286201827202927:=()
def hq.tw13751960006981385605:=()
def hq.tw12391500430906805003:=()
def hq.tw9901041768872518651:=()
def hq.tw12404642891562532419:=()
def hq.tw2406793700437894701:=()
def hq.tw5611102857607521741:=()
def hq.tw18023701660430168103:=()
def hq.tw15905874718496805183:=()
def hq.tw233199577985559970:=()
def hq.tw9371571126222788686:=()
def hq.tw14338712846634258801:=()
def hq.tw15534325259311548342:=()
def hq.tw9428742883436320482:=()
def hq.tw12496698030514209297:=()
def hq.tw12664413295080255743:=()
def hq.tw2367623169485729044:=()
def hq.tw7089316416521786280:=()
def hq.tw16393828553131281715:=()
def hq.tw15674605124737195981:=()
def hq.tw1790225447845560585:=()
def hq.tw16809807526908380884:=()
def hq.tw7978173345606475834:=()
def hq.tw15812451359255101891:=()
def hq.tw4666310112322607275:=()
def hq.tw17371673905730003010:=()
def hq.tw12514970091603982059:=()
def hq.tw674073021615805732:=()
def hq.tw12911645755892562355:=()
def hq.tw13316007477278045594:=()
def hq.tw693068138829983683:=()
def hq.tw10737892303006934758:=()
def hq.tw8092459957483288813:=()
def hq.tw14772127340083367040:=()
def hq.tw7253851005133477568:=()
def hq.tw5691554338385257998:=()
def hq.tw3560430997919898871:=()
def hq.tw4346122449067867847:=()
def hq.tw13100683107442814338:=()
def hq.tw1750795104730000546:=()
def hq.tw8238198130762350294:=()
def hq.tw8914243485484973694:=()
def hq.tw15764109669676878850:=()
def hq.tw1700315315751232304:=()
def hq.tw4057580815170638606:=()
def hq.tw18442532955660031598:=()
def hq.tw15424646115301091782:=()
def hq.tw4254594478959038880:=()
def hq.tw1441488458906403996:=()
def hq.tw7527418259463458165:=()
def hq.tw11904904241039891960:=()
def hq.tw13328776239465341797:=()
def hq.tw2757439949053186533:=()
def hq.tw7179472203213589255:=()
def hq.tw8331520620733812097:=()
def hq.tw16750279658653203061:=()
def hq.tw8912192177817946102:=()
def hq.tw13604076548809337595:=()
def hq.tw7511721461442411465:=()
def hq.tw5563266564122309594:=()
def hq.tw12360401225053915393:=()
def hq.tw3211473203395817243:=()
def hq.tw14512733808186690832:=()
def hq.tw3952384549829280304:=()
def hq.tw3313988557390523843:=()
def hq.tw2050150026035442444:=()
def hq.tw18340721319590389962:=()
def hq.tw9612742909652353465:=()
def hq.tw17884644973305957733:=()
def hq.tw2279013748287913138:=()
def hq.tw1803784778914781481:=()
def hq.tw2060327042702796305:=()
def hq.tw3422547408385998623:=()
def hq.tw13029019406344279537:=()
def hq.tw3480666100315175299:=()
def hq.tw5914124745671280715:=()
def hq.tw14353095049506806319:=()
def hq.tw3491428954475440883:=()
def hq.tw5301994602263957399:=()
def hq.tw11085315714167747792:=()
def hq.tw5731166914374295624:=()
def hq.tw12889914191371890957:=()
def hq.tw37697335950043382:=()
def hq.tw722643689031310280:=()
def hq.tw8138599290071183656:=()
def hq.tw3154463578298619625:=()
def hq.tw15050050835727825964:=()
def hq.tw9812839542755203597:=()
def hq.tw15945134739743178578:=()
def hq.tw17790109234249064360:=()
def hq.tw6118443615581677530:=()
def hq.tw16310537014886237944:=()
def hq.tw14394908094971963398:=()
def hq.tw7943177803539212061:=()
def hq.tw540485975783732659:=()
def hq.tw13495405613607610781:=()
def hq.tw11150044685417158869:=()
def hq.tw17191537605157243135:=()
def hq.tw1945927827826211355:=()
def hq.tw12617662541128001882:=()
def hq.tw2408465754971806201:=()
def hq.tw9055881919929000657:=()
def hq.tw13450832908405550097:=()
def hq.tw9763324061818089090:=()
def hq.tw13058460094631807453:=()
def hq.tw4167004640589313651:=()
def hq.tw1102692453144107117:=()
def hq.tw8049949838826251480:=()
def hq.tw926538531027841127:=()
def hq.tw8377207884362891880:=()
def hq.tw13943852286573993618:=()
def hq.tw8491087748805393471:=()
def hq.tw11402776170388669038:=()
def hq.tw12939260477051835880:=()
def hq.tw11955610403688730753:=()
def hq.tw2706923899692441627:=()
def hq.tw3478883397168826629:=()
def hq.tw5749674737630268323:=()
def hq.tw12428739965439566872:=()
def hq.tw15947022525539137760:=()
def hq.tw7276312473770576539:=()
def hq.tw5906174600817787350:=()
def hq.tw14641220288254092781:=()
def hq.tw11641537968807545709:=()
def hq.tw2505651065827292706:=()
def hq.tw16637177162505234527:=()
def hq.tw5102381659091134590:=()
def hq.tw15281599693950754896:=()
def hq.tw16867273931720873272:=()
def hq.tw13001207721643841512:=()
def hq.tw9978726442917373551:=()
def hq.tw7079364385445073895:=()
def hq.tw4251841842268149677:=()
def hq.tw17313500477962296120:=()
def hq.tw6492908563196855892:=()
def hq.tw3989797167429120347:=()
def hq.tw15170669351824557439:=()
def hq.tw9549253132143110608:=()
def hq.tw18346841983034571262:=()
def hq.tw540608965632813519:=()
def hq.tw10223406500745991142:=()
def hq.tw13406437067895238279:=()
def hq.tw16635847823566414107:=()
def hq.tw9151865133259420103:=()
def hq.tw1140332349131322219:=()
def hq.tw1456264375257627886:=()
def hq.tw84437323512654445:=()
def hq.tw2175518295204102879:=()
def hq.tw2260561623700716748:=()
def hq.tw13398516417001538080:=()
def hq.tw5282431362952038235:=()
def hq.tw12485548662368916749:=()
def hq.tw16086767934403656065:=()
def hq.tw4848108807988124131:=()
def hq.tw13133925777924542315:=()
def hq.tw495497301981402877:=()
def hq.tw13502862691939865659:=()
def hq.tw13486078771128344647:=()
def hq.tw9895131460724483007:=()
def hq.tw781474288783034380:=()
def hq.tw1383527236628300131:=()
def hq.tw8813382931127158424:=()
def hq.tw18377318545847360015:=()
def hq.tw8149433206854638965:=()
def hq.tw7850188486041987321:=()
def hq.tw16549860719943262585:=()
def hq.tw771947914003707973:=()
def hq.tw9011243111761860492:=()
def hq.tw10458149777495872852:=()
def hq.tw14587594007023303460:=()
def hq.tw17389483476063430775:=()
def hq.tw6703137428290144329:=()
def hq.tw2223705977466217327:=()
def hq.tw8730326856917428115:=()
def hq.tw15256828576862472125:=()
def hq.tw2892858402054980869:=()
def hq.tw1860683089816694825:=()
def hq.tw13406518014326716138:=()
def hq.tw9665148385174541716:=()
def hq.tw10844470459063464443:=()
def hq.tw9950089704063908547:=()
def hq.tw12790755645740596454:=()
def hq.tw8308388744524497552:=()
def hq.tw11961918275323247916:=()
def hq.tw7442177523960112853:=()
def hq.tw9931717221430403223:=()
def hq.tw13891769438995799445:=()
def hq.tw456172942799691745:=()
def hq.tw17641890241275046623:=()
def hq.tw4375985329216827839:=()
def hq.tw11824069836422780227:=()
def hq.tw18276807595065023739:=()
def hq.tw6710546539944103053:=()
def hq.tw5148840542955322005:=()
def hq.tw3099115233648779098:=()
def hq.tw15385585939819168887:=()
def hq.tw14375828484873233585:=()
def hq.tw9133466482286349414:=()
def hq.tw7795197914602774408:=()
def hq.tw10914737284747560342:=()
def hq.tw11026613734559132634:=()
def hq.tw3924149249084304958:=()
def hq.tw7723358927924880359:=()
def hq.tw17719787235402466642:=()
def hq.tw4741875132220596311:=()
def hq.tw1629939692016619404:=()
def hq.tw4724890111835787062:=()
def hq.tw10340674731281136786:=()
def hq.tw10240522916743850443:=()
def hq.tw10312157954276465073:=()
def hq.tw15944341401679933261:=()
def hq.tw12728415866068041311:=()
def hq.tw4611843103851283707:=()
def hq.tw12595682811398566193:=()
def hq.tw13169572222614648372:=()
def hq.tw4836737923570769024:=()
def hq.tw5582761554524759094:=()
def hq.tw1356178445314535933:=()
def hq.tw9034970781958629739:=()
def hq.tw9493725803484967530:=()
def hq.tw15752517208743610924:=()
def hq.tw8698537833381394938:=()
def hq.tw10189871300808820423:=()
def hq.tw13538046220882042919:=()
def hq.tw17191050232335479264:=()
def hq.tw8073309143868657023:=()
def hq.tw10384215637601404327:=()
def hq.tw1702131522092824670:=()
def hq.tw18201938650840483205:=()
def hq.tw370567924381415039:=()
def hq.tw13201679970922164330:=()
def hq.tw7409416600757584363:=()
def hq.tw6543617603251628844:=()
def hq.tw13468631102399112637:=()
def hq.tw14121371055001849588:=()
def hq.tw16807017868417353128:=()
def hq.tw10001376382149582108:=()
def hq.tw9659669307319190640:=()
def hq.tw10630391147137001860:=()
def hq.tw4371991447599467917:=()
def hq.tw6279407891034730392:=()
def hq.tw6156483766952535384:=()
def hq.tw11092556201938335259:=()
def hq.tw10952823829123372175:=()
def hq.tw13886267558521391256:=()
def hq.tw6655851296632736839:=()
def hq.tw195319319105484837:=()
def hq.tw8635002137240528865:=()
def hq.tw7907064084398135858:=()
def hq.tw4115226851099395319:=()
def hq.tw15204825319287093212:=()
def hq.tw9954246468241796668:=()
def hq.tw17485836952703706218:=()
def hq.tw9867696046603355536:=()
def hq.tw14287419288450536493:=()
def hq.tw18250771422189292895:=()
def hq.tw10723133140268546484:=()
def hq.tw15734650141668845536:=()
def hq.tw15079305990305215762:=()
def hq.tw17480515895037040760:=()
def hq.tw917919121290004258:=()
def hq.tw271354171592042819:=()
def hq.tw11855007290812442598:=()
def hq.tw15629568606158070697:=()
def hq.tw10376031466752974828:=()
def hq.tw6336642640299219094:=()
def hq.tw1325443426954384515:=()
def hq.tw4171725333644275513:=()
def hq.tw13354247350071896366:=()
def hq.tw3616478996217396334:=()
def hq.tw1775702854415158705:=()
def hq.tw7589107396602480322:=()
def hq.tw5294006075737667050:=()
def hq.tw11550264267855334806:=()
def hq.tw4439803078412725676:=()
def hq.tw16003533353896068565:=()
def hq.tw16498171049323729267:=()
def hq.tw5895416178271551497:=()
def hq.tw4950995695539448390:=()
def hq.tw5186555515663700001:=()
def hq.tw16240424374227401199:=()
def hq.tw2568601839324270733:=()
def hq.tw4026668784279576677:=()
def hq.tw7587259842506438161:=()
def hq.tw11895432268523212573:=()
def hq.tw3647894231261621685:=()
def hq.tw925611148017520223:=()
def hq.tw10557348633716791549:=()
def hq.tw2446711658860428672:=()
def hq.tw17451322227400245958:=()
def hq.tw14567226737135143758:=()
def hq.tw533107537510362154:=()
def hq.tw8201169055858481340:=()
def hq.tw13139415309826760691:=()
def hq.tw11596143682707957329:=()
def hq.tw5740101952899550972:=()
def hq.tw2921467058064614194:=()
def hq.tw3627233070818523257:=()
def hq.tw1658547955452154472:=()
def hq.tw2267212845272169836:=()
def hq.tw4665913176990191628:=()
def hq.tw3277950488986541542:=()
def hq.tw12235868485125894331:=()
def hq.tw18227684946361417376:=()
def hq.tw5131631581878701464:=()
def hq.tw15952631729719037887:=()
def hq.tw4014422432672113444:=()
def hq.tw9168773537736573765:=()
def hq.tw8612858684465989739:=()
def hq.tw9033804354667548959:=()
def hq.tw6738601660276500248:=()
def hq.tw384518735521986950:=()
def hq.tw9604195178463712877:=()
def hq.tw541360200788322803:=()
def hq.tw17939040331521840985:=()
def hq.tw10010650081863701617:=()
def hq.tw16936868174623810526:=()
def hq.tw16660108794298682773:=()
def hq.tw14768286036203141162:=()
def hq.tw3421353514304016194:=()
def hq.tw2320559199587278016:=()
def hq.tw8843670863553936208:=()
def hq.tw13991502105691641572:=()
def hq.tw5070146122541468937:=()
def hq.tw12417311007122829836:=()
def hq.tw193804917870597374:=()
def hq.tw5288753061374985246:=()
def hq.tw1618621502537572984:=()
def hq.tw1569526789006978644:=()
def hq.tw16782676387622030179:=()
def hq.tw13605588708827000737:=()
def hq.tw17486772711794031567:=()
def hq.tw7128186512092943417:=()
def hq.tw15114332125836811107:=()
def hq.tw6693717068639252140:=()
def hq.tw12058654197788596436:=()
def hq.tw10808934275972336993:=()
def hq.tw14544256373392573544:=()
def hq.tw8114841426480393502:=()
def hq.tw16757073528338650253:=()
def hq.tw14187982978997237623:=()
def hq.tw12771422461613121140:=()
def hq.tw4288558672954378248:=()
def hq.tw7943481926809457172:=()
def hq.tw12069469164577851727:=()
def hq.tw12892139197361222039:=()
def hq.tw16046787055161014137:=()
def hq.tw15256606102660637263:=()
def hq.tw1601456569762913703:=()
def hq.tw12224511430472119265:=()
def hq.tw10366571678140251363:=()
def hq.tw7902054454379397355:=()
def hq.tw14886498140707089192:=()
def hq.tw13358896697937006319:=()
def hq.tw9031073068422697509:=()
def hq.tw4797868753551183999:=()
def hq.tw4700772123730980896:=()
def hq.tw12219819207030029821:=()
def hq.tw8878085667783850231:=()
def hq.tw5080482457446688561:=()
def hq.tw9616370734746824208:=()
def hq.tw9117675943426644266:=()
def hq.tw7813778406405503521:=()
def hq.tw13127699335793737955:=()
def hq.tw16653776548582141348:=()
def hq.tw1560922779193176835:=()
def hq.tw17490343775666085965:=()
def hq.tw3702623868654441055:=()
def hq.tw9381266235724177792:=()
def hq.tw2023342415286700836:=()
def hq.tw13946695615888808057:=()
def hq.tw8632563731568542535:=()
def hq.tw11603209444005165735:=()
def hq.tw10899058296728633960:=()
def hq.tw7429005892963545473:=()
def hq.tw9901537562536030562:=()
def hq.tw8172153524177814700:=()
def hq.tw639632618262785173:=()
def hq.tw8062890331336429170:=()
def hq.tw3279247951013379325:=()
def hq.tw17982033904585381360:=()
def hq.tw1710684574680506057:=()
def hq.tw15136850233242887438:=()
def hq.tw6815287188669290861:=()
def hq.tw1111263606911284345:=()
def hq.tw11363321000426732400:=()
def hq.tw9188848632486924633:=()
def hq.tw4222511593086879587:=()
def hq.tw6831830282658272535:=()
def hq.tw13510361038845904283:=()
def hq.tw2214581351128497116:=()
def hq.tw430407546983676048:=()
def hq.tw15499493932771899486:=()
def hq.tw13448033582049419322:=()
def hq.tw7925427918540075608:=()
def hq.tw10515724994809746482:=()
def hq.tw16193364487119611749:=()
def hq.tw1640272328417397822:=()
def hq.tw13101453209156903288:=()
def hq.tw1148625622953004833:=()
def hq.tw13023949505232002771:=()
def hq.tw916892066089585398:=()
def hq.tw12309540157064756360:=()
def hq.tw10935828522154542166:=()
def hq.tw17113052037052540601:=()
def hq.tw16231039490463794110:=()
def hq.tw5129941491527690725:=()
def hq.tw4330991180929535625:=()
def hq.tw12545650446048111660:=()
def hq.tw12964062633142722049:=()
def hq.tw15323061056901989689:=()
def hq.tw3406242299724796062:=()
def hq.tw13276833702047066570:=()
def hq.tw4865120608202669494:=()
def hq.tw9366186876789818649:=()
def hq.tw13102512530375817677:=()
def hq.tw4003514286515377017:=()
def hq.tw8039898743254704824:=()
def hq.tw7405370479327515870:=()
def hq.tw16911447347678364338:=()
def hq.tw10671993194109991074:=()
def hq.tw801188883035828325:=()
def hq.tw11747441341411472974:=()
def hq.tw1738449604571460292:=()
def hq.tw16729471575171175110:=()
def hq.tw3048173636268286377:=()
def hq.tw8750641756726664098:=()
def hq.tw11762732935092854722:=()
def hq.tw17543646024803572876:=()
def hq.tw4214643438969434645:=()
def hq.tw3678167698244303348:=()
def hq.tw15276287227970242661:=()
def hq.tw2147655035671245215:=()
def hq.tw7590242246935095584:=()
def hq.tw18033964682163610285:=()
def hq.tw17131956787146520109:=()
def hq.tw5831826152446136541:=()
def hq.tw345884752961518106:=()
def hq.tw319490229744429039:=()
def hq.tw10371403677947509614:=()
def hq.tw2083378949489099755:=()
def hq.tw15248956921075036628:=()
def hq.tw8016986591111299822:=()
def hq.tw8094907942427954523:=()
def hq.tw9011297252748127280:=()
def hq.tw17725567851889491901:=()
def hq.tw2535131229827767169:=()
def hq.tw11763958687534869680:=()
def hq.tw11472632501138154244:=()
def hq.tw10193580565110878322:=()
def hq.tw828373266779266601:=()
def hq.tw9904924192073418881:=()
def hq.tw6276318231578556505:=()
def hq.tw9795494098798817151:=()
def hq.tw11388725880924503747:=()
def hq.tw16041765032119523446:=()
def hq.tw10589702354022720610:=()
def hq.tw6824146438439059971:=()
def hq.tw8116986973751701504:=()
def hq.tw13495492352098191164:=()
def hq.tw15722566631808388753:=()
def hq.tw1258616511840967727:=()
def hq.tw14322759412192637791:=()
def hq.tw7106466396363661638:=()
def hq.tw13251692495194519322:=()
def hq.tw7987718348732695843:=()
def hq.tw3880375719507622018:=()
def hq.tw3010439092301040486:=()
def hq.tw8666260620100344464:=()
def hq.tw14036627289367018796:=()
def hq.tw10775009283162208714:=()
def hq.tw5429477869994368367:=()
def hq.tw7940537527954018458:=()
def hq.tw15487811534215124188:=()
def hq.tw14647269480128795842:=()
def hq.tw2460405866545305436:=()
def hq.tw12551386086251720438:=()
def hq.tw9290384812151408565:=()
def hq.tw17570233290061857690:=()
def hq.tw17909477342764173079:=()
def hq.tw15298563710665395474:=()
def hq.tw7574501811584800559:=()
def hq.tw3061969403100960489:=()
def hq.tw14810766176975304553:=()
def hq.tw1112758292735411213:=()
def hq.tw14065372797180803292:=()
def hq.tw17415775317282982117:=()
def hq.tw8783513367562574285:=()
def hq.tw9024074512309037242:=()
theorem hq : PySem.Challenge.rw_nz0254_01.Holds := by
  w_on; o_law; k_head; (case hw => w_witness2)
  intro w s₀ s₁ mg mb G Y fa o pm cd doc dV kV ho hd hcd hD hmg hg args vals as hpre hlay hrd hwl hlo
  have KX := kIn_of Y
  have T := G.T
  have hmg' : mg (Str.ofString "law") = some (.ref fa) := hmg
  clear ho hd hcd hD Y hmg
  have efa : mg (Str.ofString "law") = some (.ref 505) := ns_of_in KX T.g (by kernel_rfl)
  rw [hmg'] at efa
  cases efa
  wrow_args hpre hlay hrd hwl hlo
  rename_i ns _ _ _ _ _ _ _ x vs _ hL _ hW _ hI _ hc _
  refine wpG.mono (law_wp lawOK ⟨by kernel_rfl, by kernel_rfl, by kernel_rfl, by kernel_rfl, by kernel_rfl, by kernel_rfl, by kernel_rfl, by kernel_rfl, by kernel_rfl, by kernel_rfl, by kernel_rfl, by kernel_rfl, by kernel_rfl, by kernel_rfl⟩ KX T.nolimit T.g T.b T.builtins (exact_list hW hL) hI (by omega)) (fun v s' q => ?_) fun _ _ q => q.elim
  obtain ⟨rfl, q1, q2, q3⟩ := q
  refine ⟨.inl ⟨_, .bool true, [], rfl, raisesW_false (by wrow_none_raised), .bool .., by wrow_post, by first | exact unshared_nil | exact fun h => absurd h (by decide)⟩, .of_keep q1, q3, .of_eq (q2.trans hg)⟩
end Mine
theorem PySem.Challenge.cw_nz0254_01_holds : PySem.Challenge.rw_nz0254_01.Holds := by
  exact Mine.hq
