import PyProof.Rows.All
import Wide.All
import OpenK.AllK
import Wide.FinOn
import HandS.ForMost
import HandS.Exc
import HandS.TryOnly
import HandS.TryMany
import HandS.ExcOwn
import HandS.ExcInit
import HandS.ExcField
import HandS.WordsExc
import HandS.IsInst
import HandS.Deep
import HandS.Flow
import HandS.RaiseMore
import HandS.RaiseOp
import HandS.Wide
import HandS.StrMore
import HandS.NoneIn
import HandS.Evl
import PyProof.ReprRoads
import PyProof.ReprText
import HandS.Walk
import HandS.SetBool
import HandS.DictTup
import PyProof.ReprLen
import KE.DataMinMax
import PyProof.Rows.CallKwBuiltin
import PySem.Challenge.RW_manycustoms_k72_same_apart_or_open
set_option Elab.async false
set_option linter.all false
set_option maxRecDepth 100000
set_option maxHeartbeats 4000000
/-! Lib1: universal rules over the hand layer (one rule an operator, the reading by the operands' kinds), promises with their bindings in one. -/
namespace MC
open PySem PySem.Spec PyProof.Rows L2

/-! ### heaps -/
abbrev Ex (H H' : Hp) : Prop := ∀ a o, H a = some o → H' a = some o
theorem Ex.refl (H : Hp) : Ex H H := fun _ _ h => h
theorem Ex.trans {H H1 H2 : Hp} (a : Ex H H1) (b : Ex H1 H2) : Ex H H2 := fun x o h => b x o (a x o h)
theorem Ex.new {H : Hp} {p : Addr} {o : HO} (h : H p = none) : Ex H (upd H p o) := fun a u e => by
  rw [upd_ne (ne_of_none e h)]; exact e
theorem Ex.free {H H' : Hp} {p : Addr} (e : Ex H H') (h : H' p = none) : H p = none := by
  cases h1 : H p with
  | none => rfl
  | some o => rw [e p o h1] at h; cases h
/-- all but the objects in S stays -/
def Keep (S : Addr → Prop) (H H' : Hp) : Prop := ∀ a o, H a = some o → ¬ S a → H' a = some o
theorem Keep.refl {S : Addr → Prop} {H : Hp} : Keep S H H := fun _ _ h _ => h
theorem Keep.trans {S : Addr → Prop} {H H1 H2 : Hp} (a : Keep S H H1) (b : Keep S H1 H2) : Keep S H H2 := fun x o h n => b x o (a x o h n) n
theorem Keep.of {S : Addr → Prop} {H H' : Hp} (e : Ex H H') : Keep S H H' := fun a o h _ => e a o h
theorem Keep.upd {S : Addr → Prop} {H : Hp} {p : Addr} {o : HO} (s : S p) : Keep S H (upd H p o) := fun a u e n => by
  rw [upd_ne (fun z => n (by rw [z]; exact s))]; exact e
theorem Keep.imp {S S' : Addr → Prop} {H H' : Hp} (k : Keep S H H') (h : ∀ a, S a → S' a) : Keep S' H H' := fun a o e n => k a o e fun s => n (h a s)

/-! ### operators -/
theorem OpR.or {X : Cx} {f : Value → Value → Sem Value} {r r' : R2} (h : OpR X f r) (h' : OpR X f r') : OpR X f (fun x y H Q => r x y H Q ∨ r' x y H Q) := by
  intro pins s σ H x y v u Q I rx ry q
  rcases q with q | q
  · exact h pins s σ H x y v u Q I rx ry q
  · exact h' pins s σ H x y v u Q I rx ry q
def rAddU (K : PySem.W.Frag) : R2 := fun x y H Q => match x, y with
  | .int i, .int j => Q (.int (i + j)) H
  | .str a, .str b => a.length + b.length ≤ sizeLine ∧ Q (.str (a ++ b)) H
  | _, _ => rCat x y H Q ∨ rCatT K x y H Q
theorem op_addU {X : Cx} : OpR X (binaryOp .Add) (rAddU X.K) := by
  intro pins s σ H x y v u Q I rx ry h
  have alt : (rCat x y H Q ∨ rCatT X.K x y H Q) → wpAny (model X.prog X.w) X.A (binaryOp .Add v u) (EP X pins σ Q) X.xe s := fun h =>
    (OpR.or op_cat op_catT) pins s σ H x y v u Q I rx ry h
  cases x with
  | int i =>
    cases y with
    | int j => exact op_add pins s σ H _ _ v u Q I rx ry ⟨i, j, rfl, rfl, h⟩
    | _ => exact alt h
  | str a =>
    cases y with
    | str b => exact op_add_str pins s σ H _ _ v u Q I rx ry ⟨a, b, rfl, rfl, h.1, h.2⟩
    | _ => exact alt h
  | _ => exact alt h
/-- two ints -/
def rI2 (g : Int → Int → V) (C : Int → Int → Prop := fun _ _ => True) : R2 := fun x y H Q => match x, y with
  | .int i, .int j => C i j ∧ Q (g i j) H
  | _, _ => False
def rI2' (g : Int → Int → V) : R2 := fun x y H Q => match x, y with
  | .int i, .int j => Q (g i j) H
  | _, _ => False
theorem of_rI {X : Cx} {f : Value → Value → Sem Value} {g : Int → Int → V} {C : Int → Int → Prop} (h : OpR X f (rI C g)) : OpR X f (rI2 g C) := by
  intro pins s σ H x y v u Q I rx ry q
  cases x with
  | int i =>
    cases y with
    | int j => exact h pins s σ H _ _ v u Q I rx ry ⟨i, j, rfl, rfl, q.1, q.2⟩
    | _ => exact q.elim
  | _ => exact q.elim
theorem of_rI0 {X : Cx} {f : Value → Value → Sem Value} {g : Int → Int → V} (h : OpR X f (rI0 g)) : OpR X f (rI2' g) := by
  intro pins s σ H x y v u Q I rx ry q
  cases x with
  | int i =>
    cases y with
    | int j => exact h pins s σ H _ _ v u Q I rx ry ⟨i, j, rfl, rfl, q⟩
    | _ => exact q.elim
  | _ => exact q.elim
theorem op_subU {X : Cx} : OpR X (binaryOp .Sub) (rI2' fun i j => .int (i - j)) := of_rI0 op_sub
theorem op_fdivU {X : Cx} : OpR X (binaryOp .FloorDiv) (rI2 (fun i j => .int (i.fdiv j)) CDivN) := of_rI op_fdivN
theorem op_modU {X : Cx} : OpR X (binaryOp .Mod) (rI2 (fun i j => .int (i.fmod j)) fun _ j => j ≠ 0) := of_rI op_modN
theorem op_powU {X : Cx} : OpR X (binaryOp .Pow) (rI2 (fun i j => .int (i ^ j.toNat)) CPow) := of_rI op_pow
theorem op_ltU {X : Cx} : OpR X (compareOp .Lt) (rI2' fun i j => .bl (decide (i < j))) := of_rI0 op_lt
theorem op_leU {X : Cx} : OpR X (compareOp .LtE) (rI2' fun i j => .bl (decide (i ≤ j))) := of_rI0 op_le
theorem op_gtU {X : Cx} : OpR X (compareOp .Gt) (rI2' fun i j => .bl (decide (j < i))) := of_rI0 op_gt
theorem op_geU {X : Cx} : OpR X (compareOp .GtE) (rI2' fun i j => .bl (decide (j ≤ i))) := of_rI0 op_ge
def rMul : R2 := fun x y H Q => match x, y with
  | .int i, .int j => CMul i j ∧ Q (.int (i * j)) H
  | .ref _, .int _ => rRep x y H Q
  | _, _ => False
theorem op_mulU {X : Cx} : OpR X (binaryOp .Mult) rMul := by
  intro pins s σ H x y v u Q I rx ry q
  cases x with
  | int i =>
    cases y with
    | int j => exact op_mul pins s σ H _ _ v u Q I rx ry ⟨i, j, rfl, rfl, q.1, q.2⟩
    | _ => exact q.elim
  | ref a =>
    cases y with
    | int j => exact op_rep pins s σ H _ _ v u Q I rx ry q
    | _ => exact q.elim
  | _ => exact q.elim
def bx : Bool → Bool → Bool
  | true, b => !b
  | false, b => b
/-- a list against one without items, whatever the items -/
def rNil (K : PySem.W.Frag) (neg : Bool) : R2 := fun x y H Q => ∃ p q xs, x = .ref p ∧ y = .ref q ∧ SqL K H p xs ∧ SqL K H q [] ∧ Q (.bl (bx neg xs.isEmpty)) H
theorem nil_two {X : Cx} {pins : List (Addr × Obj)} {σ : L2.St} {H : Hp} {s : Shared} {p q : Addr} {xs : List V} (I : Inv X pins σ H s) (hp : SqL X.K H p xs) (hq : SqL X.K H q []) :
    ∃ as : Array Value, s.heap.IsList p as ∧ s.heap.IsList q #[] ∧ (as.size = 0 ∧ xs.isEmpty = true ∨ (as.size != 0) = true ∧ xs.isEmpty = false) := by
  obtain ⟨its, r, pl, _⟩ := I.list hp
  obtain ⟨its2, r2, pl2, _⟩ := I.list hq
  cases r2
  refine ⟨its.toArray, pl.isList, pl2.isList, ?_⟩
  cases r with
  | nil => exact .inl ⟨rfl, rfl⟩
  | cons _ _ => exact .inr ⟨by simp, rfl⟩
theorem op_eqNil {X : Cx} (hu : X.A.units + 64 < cLine) : OpR X (compareOp .Eq) (rNil X.K false) := by
  rintro pins s σ H x y v u Q I rx ry ⟨p, q, xs, rfl, rfl, hp, hq, k⟩
  cases (show v = Value.ref p from rx)
  cases (show u = Value.ref q from ry)
  obtain ⟨as, h1, h2, h | h⟩ := nil_two I hp hq
  · refine SeqAt.eq_listAt (e := fun _ => true) h1 h2 h.1 (by omega) (fun j j1 => absurd j1 (by omega)) ⟨.bl true, H, I, ?_, ?_⟩
    · rw [h.1]; rfl
    · rw [h.2] at k; exact k
  · refine SeqAt.eq_list_lengthsAt h1 h2 h.1 (by omega) ⟨.bl false, H, I, rfl, ?_⟩
    rw [h.2] at k; exact k
theorem op_neNil {X : Cx} (hu : X.A.units + 64 < cLine) : OpR X (compareOp .NotEq) (rNil X.K true) := by
  rintro pins s σ H x y v u Q I rx ry ⟨p, q, xs, rfl, rfl, hp, hq, k⟩
  cases (show v = Value.ref p from rx)
  cases (show u = Value.ref q from ry)
  obtain ⟨as, h1, h2, h | h⟩ := nil_two I hp hq
  · refine SeqAt.RcNeAt.lists (e := fun _ => true) h1 h2 h.1 (by omega) (fun j j1 => absurd j1 (by omega)) _ _ _ _ ⟨.bl false, H, I, ?_, ?_⟩
    · rw [h.1]; rfl
    · rw [h.2] at k; exact k
  · refine SeqAt.RcNeAt.lists_lengths h1 h2 h.1 (by omega) _ _ _ _ ⟨.bl true, H, I, rfl, ?_⟩
    rw [h.2] at k; exact k
/-- ==, != : scalars by their values, a list against none, data by going through -/
def rEqU (K : PySem.W.Frag) : R2 := fun x y H Q => match scal x y with
  | true => Q (.bl (decide (x = y))) H
  | false => rNil K false x y H Q ∨ rEqD K x y H Q
def rNeU (K : PySem.W.Frag) : R2 := fun x y H Q => match scal x y with
  | true => Q (.bl (!decide (x = y))) H
  | false => rNil K true x y H Q ∨ rNeD K x y H Q
theorem op_eqU {X : Cx} (hu : X.A.units + 64 < cLine) : OpR X (compareOp .Eq) (rEqU X.K) := by
  intro pins s σ H x y v u Q I rx ry h
  unfold rEqU at h
  split at h
  · next e => exact op_eq pins s σ H x y v u Q I rx ry ⟨e, h⟩
  · exact (OpR.or (op_eqNil hu) (op_eqD hu)) pins s σ H x y v u Q I rx ry h
theorem op_neU {X : Cx} (hu : X.A.units + 64 < cLine) : OpR X (compareOp .NotEq) (rNeU X.K) := by
  intro pins s σ H x y v u Q I rx ry h
  unfold rNeU at h
  split at h
  · next e => exact op_ne pins s σ H x y v u Q I rx ry ⟨e, h⟩
  · exact (OpR.or (op_neNil hu) (op_neD hu)) pins s σ H x y v u Q I rx ry h
/-- in: a sign in a text, a thing in a list or tuple (flat things; data), a key in a dict -/
def rInU (K : PySem.W.Frag) (neg : Bool) : R2 := fun x y H Q => match y with
  | .str z => ∃ c : Nat, x = .str ⟨#[c]⟩ ∧ Q (.bl (bx neg (decide (c ∈ z.cps.toList)))) H
  | _ => rIn K neg x y H Q ∨ (match neg with | true => rNotInD K x y H Q | false => rInD K x y H Q) ∨ ∃ a o, y = .ref a ∧ DGet H a x o ∧ Q (.bl (bx neg o.isSome)) H
theorem op_inU {X : Cx} (hu : X.A.units + 65 < cLine) : OpR X (compareOp .In) (rInU X.K false) := by
  intro pins s σ H x y v u Q I rx ry h
  have alt : (rIn X.K false x y H Q ∨ rInD X.K x y H Q ∨ ∃ a o, y = .ref a ∧ DGet H a x o ∧ Q (.bl o.isSome) H) → wpAny (model X.prog X.w) X.A (compareOp .In v u) (EP X pins σ Q) X.xe s := fun h => by
    rcases h with h | h | ⟨a, o, rfl, g, q⟩
    · exact op_in_seq pins s σ H x y v u Q I rx ry h
    · exact op_inD hu pins s σ H x y v u Q I rx ry h
    · cases ry
      exact d_in (by omega) I g rx fun s' J => ⟨.bl _, H, J, rfl, q⟩
  cases y with
  | str z =>
    obtain ⟨c, e, q⟩ := h
    exact op_in_sign pins s σ H x _ v u Q I rx ry ⟨c, z, e, rfl, q⟩
  | _ => exact alt h
theorem op_notInU {X : Cx} (hu : X.A.units + 65 < cLine) : OpR X (compareOp .NotIn) (rInU X.K true) := by
  intro pins s σ H x y v u Q I rx ry h
  have alt : (rIn X.K true x y H Q ∨ rNotInD X.K x y H Q ∨ ∃ a o, y = .ref a ∧ DGet H a x o ∧ Q (.bl (!o.isSome)) H) → wpAny (model X.prog X.w) X.A (compareOp .NotIn v u) (EP X pins σ Q) X.xe s := fun h => by
    rcases h with h | h | ⟨a, o, rfl, g, q⟩
    · exact op_notIn_seq pins s σ H x y v u Q I rx ry h
    · exact op_notInD hu pins s σ H x y v u Q I rx ry h
    · cases ry
      exact d_notIn (by omega) I g rx fun s' J => ⟨.bl _, H, J, rfl, q⟩
  cases y with
  | str z =>
    obtain ⟨c, e, q⟩ := h
    exact op_notIn_sign pins s σ H x _ v u Q I rx ry ⟨c, z, e, rfl, q⟩
  | _ => exact alt h
/-! ### items, slices -/
def rIxU (K : PySem.W.Frag) : R2 := fun x y H Q => match x, y with
  | .str z, .int i => ∃ c, z.length ≤ sizeLine ∧ atI z.cps.toList i = some c ∧ Q (.str ⟨#[c]⟩) H
  | .ref p, .int i => ∃ xs v, (SqL K H p xs ∨ SqT K H p xs) ∧ atI xs i = some v ∧ Q v H
  | _, _ => False
theorem ix_U {X : Cx} : IxR X (rIxU X.K) := by
  intro value slice pins s σ H x y v u Q I rx ry h hs
  cases x with
  | str z =>
    cases y with
    | int i =>
      obtain ⟨c, h1, h2, q⟩ := h
      exact ix_str value slice pins s σ H _ _ v u Q I rx ry ⟨z, i, c, rfl, rfl, h1, h2, q⟩ hs
    | _ => exact h.elim
  | ref p =>
    cases y with
    | int i =>
      obtain ⟨xs, w, h1 | h1, h2, q⟩ := h
      · exact ix_list value slice pins s σ H _ _ v u Q I rx ry ⟨p, xs, i, w, rfl, rfl, h1, h2, q⟩ hs
      · exact ix_tup value slice pins s σ H _ _ v u Q I rx ry ⟨p, xs, i, w, rfl, rfl, h1, h2, q⟩ hs
    | _ => exact h.elim
  | _ => exact h.elim
/-- of a name's value, no quantifier -/
def tV (i : Nat) : TE := fun σ H Q => match σ[i]? with
  | some (some v) => Q v H
  | _ => False
theorem pvU {X : Cx} (i : Nat) {x : Str} {pos : Pos} (hN : X.N[i]? = some x := by rfl) (hv : Vis X.env.scope x := by first | exact Or.inl rfl | exact Or.inr (Or.inl rfl) | exact Or.inr (Or.inr rfl)) (hd : (x == ("__debug__" : Str)) = false := by decide)
    (hcd : (x == ("__classdict__" : Str)) = false := by decide) : PE X (.Name x pos) (tV i) := by
  refine ⟨fun pins s σ H Q I h => ?_⟩
  refine (pe_var hN hv hd hcd).run pins s σ H Q I ?_
  unfold tV at h
  cases e : σ[i]? with
  | none => rw [e] at h; exact h.elim
  | some o =>
    cases o with
    | none => rw [e] at h; exact h.elim
    | some v => rw [e] at h; exact ⟨v, e, h⟩
/-- a constant of the module -/
theorem pe_globC {X : Cx} {x : Str} {v : V} {pos : Pos} (hg : Gl X x) (h : ∃ u, X.mg x = some u ∧ RelV v u) (hd : (x == ("__debug__" : Str)) = false := by decide) : PE X (.Name x pos) (tC v) := by
  obtain ⟨u, hm, r⟩ := h
  exact pe_glob hg hm r hd

/-! ### promises of defs that may ask for the display of a thing (guards: none in flight); with their bindings -/
structure FnG (P : Program) (w : World) (K : PySem.W.Frag) (mg : Str → Option Value) (base : Heap) (k : Nat) (f : Addr) (fd : FuncData) (ps : List Str) (sp : Sp) : Prop where
  lenG : ∀ vs H Q E, sp vs H Q E → vs.length = ps.length
  runG : ∀ (Ar : Around) (out : List Env) (s : Shared) (H : Hp) (args : Args) (us : List Value) (vs : List V) (Q : VK) (E : XK), Room k Ar → Ar.guards = some [] → Env0 P w K mg base Ar out s H → BindsTo s fd args (ps.zip us) → Vals vs us → sp vs H Q E →
    codeAny (model P w) Ar (.call (.ref f) args) (CR (L2.CX P w) out P w H s Q E) s
theorem guards_deeper {Ar : Around} {env : Env} (h : Ar.guards = some []) : (Ar.deeper env).guards = some [] := h
theorem guards_make {Ar : Around} {C : Addr} {us : List Value} (h : Ar.guards = some []) : (Ar.under (.builtin "type.__call__" ⟨.ref C :: us, []⟩)).guards = some [] := by
  first | exact h | simp [Around.under, Code.guards, Code.isGuard, guardIds, pushGuards, h]
theorem fnG_of {P : Program} {w : World} {K : PySem.W.Frag} {mg : Str → Option Value} {base : Heap} {k : Nat} {f : Addr} {nm qual : Str} {params : Arguments} {body : List Stmt} {scope : Scope} {dV kV doc pm cdv ct oc : Value} {an od : Option Addr} {osl : Array (Option Value)} {N ps : List Str} {sp : Sp}
    (hlk : K.lookup f = some ⟨oc, od, .func (PySem.W.fnOf nm qual params body scope dV kV doc pm an cdv ct), osl⟩) (hc : PySem.W.codeIn K cdv qual = true) (S : FnScope N ps scope) (hlen : ∀ vs H Q E, sp vs H Q E → vs.length = ps.length)
    (hb : ∀ (Ar : Around) (out : List Env) (s : Shared) (H : Hp) (vs : List V) (Q : VK) (E : XK), Room k (Ar.deeper (envOfC qual scope s.heap.objs.size f cdv)) → (Ar.deeper (envOfC qual scope s.heap.objs.size f cdv)).guards = some [] → sp vs H Q E →
      ∃ t, PSs (cxOf (L2.CX P w) P w K mg base N qual scope f cdv Ar out s H E) body t ∧ t { nx := fun _ H' => Q .non H', rt := Q } (start N vs) H) :
    FnG P w K mg base (k + 1) f (PySem.W.fnOf nm qual params body scope dV kV doc pm an cdv ct) ps sp := by
  refine ⟨hlen, ?_⟩
  intro Ar out s H args us vs Q E hr hgd e0 hbind rel hsp
  have l0 := hlen _ _ _ _ hsp
  have kin : K.In s.heap := (e0.mod.kin).keeps (fun b o e => (e0.bs b o e).1)
  have nol : s.heap.NoLimit := Heap.NoLimit.keeps e0.mod.nolimit (fun b o e => (e0.bs b o e).1)
  refine codeAny_call_function hr.depth (kin _ _ hlk) rfl S.co S.gen rfl (PySem.W.codeRec_of kin hc) (hbind _ _ _ _ (wpAny_newFunctionEnv_cells S.kind ?kinds fun env he s1 x => ?_))
  case kinds =>
    rintro ⟨n, v⟩ hy
    exact (S.par n (List.of_mem_zip hy).1).imp (fun q => q) (fun q => ⟨q, PySem.W.cellsFrom_some _ _ _ (.inl q)⟩)
  subst he
  refine ⟨Heap.NoLimit.keeps nol x.toInCall.keep, codeAny_func ?_⟩
  obtain ⟨t, ht, hq⟩ := hb Ar out s H vs Q E (hr.deeper _) (guards_deeper hgd) hsp
  have I0 := inv_start (CX := L2.CX P w) (mg := mg) (f := f) (cd := cdv) (E := E) S hr.hd e0 l0 rel x
  refine wpAny_mono (ht.run [] s1 (start N vs) H _ I0 hq) (fun fl s' hs => ?_) (fun e s' hs => hs)
  have done : ∀ {σ' : L2.St} {H' : Hp} {v : V} {u : Value}, Inv (cxOf (L2.CX P w) P w K mg base N qual scope f cdv Ar out s H E) [] σ' H' s' → RelV v u → Q v H' → CE out P w H s Q u s' := by
    intro σ' H' v u J rv q
    exact ⟨v, H', J.os, J.bare, J.base, J.hok, rv, q⟩
  cases fl with
  | ret u => exact (fun ⟨v, σ', H', J, rv, q⟩ => done J rv q) hs
  | next => exact (fun ⟨σ', H', J, q⟩ => done (v := V.non) (u := Value.none) J rfl q) hs
  | brk => exact (fun ⟨_, _, _, q⟩ => q.elim) hs
  | cont => exact (fun ⟨_, _, _, q⟩ => q.elim) hs
theorem _root_.L2.Fun.okG {P : Program} {w : World} {K : PySem.W.Frag} {mg : Str → Option Value} {base : Heap} {x qual : Str} {st : Stmt} {f : Addr} {fd : FuncData} {N ps : List Str} {k : Nat} {sp : Sp} (F : Fun K x qual st f fd) (S : FnScope N ps (defScope st)) (hlen : ∀ vs H Q E, sp vs H Q E → vs.length = ps.length)
    (hb : ∀ (cdv : Value) (Ar : Around) (out : List Env) (s : Shared) (H : Hp) (vs : List V) (Q : VK) (E : XK), Room k (Ar.deeper (envOfC qual (defScope st) s.heap.objs.size f cdv)) → (Ar.deeper (envOfC qual (defScope st) s.heap.objs.size f cdv)).guards = some [] → sp vs H Q E →
      ∃ t, PSs (cxOf (L2.CX P w) P w K mg base N qual (defScope st) f cdv Ar out s H E) (defBody st) t ∧ t { nx := fun _ H' => Q .non H', rt := Q } (start N vs) H) : FnG P w K mg base (k + 1) f fd ps sp := by
  obtain ⟨oc, od, kV, doc, pm, an, cdv, ct, osl, rfl, lk, hcd⟩ := F.ex
  exact fnG_of lk hcd S hlen fun Ar out s H vs Q E hr hg hsp => hb cdv Ar out s H vs Q E hr hg hsp
def Ok (P : Program) (w : World) (K : PySem.W.Frag) (mg : Str → Option Value) (base : Heap) (k : Nat) (f : Addr) (ps : List Str) (sp : Sp) : Prop :=
  ∃ fd, FnG P w K mg base k f fd ps sp ∧ Binds K fd ps [] ∧ PySem.W.keepIn K (.ref f) = true
theorem Ok.of {P : Program} {w : World} {K : PySem.W.Frag} {mg : Str → Option Value} {base : Heap} {k : Nat} {x qual : Str} {st : Stmt} {f : Addr} {fd : FuncData} {ps : List Str} {sp : Sp} (F : Fun K x qual st f fd) (b : Binds K fd ps []) (h : FnG P w K mg base k f fd ps sp) : Ok P w K mg base k f ps sp := ⟨fd, h, b, F.kp⟩
section
variable {X : Cx} {k j : Nat} {f C : Addr} {ps : List Str} {sp : Sp} {E : XK} {x m : Str} {p pos apos : Pos} {e o : Expr} {es : List Expr} {ta : TE} {t : TA}
theorem PE.imp {e : Expr} {t t' : TE} (h : PE X e t) (i : ∀ σ H Q, t' σ H Q → t σ H Q) : PE X e t' := ⟨fun pins s σ H Q I q => h.run pins s σ H Q I (i σ H Q q)⟩
/-- what a callee lets out, for the wish E at these slots -/
def PassG (X : Cx) (σ : L2.St) (E : XK) : Prop := ∀ (pins : List (Addr × Obj)) (H : Hp) (s : Shared) (e : Value) (s' : Shared), Inv X pins σ H s → L2.CX X.prog X.w X.stack H s E e s' → X.xe e s'
theorem passN {σ : L2.St} : PassG X σ E0 := fun pins H s e s' I h => passL pins σ H s e s' I h
theorem passR {W : WX} (tk : Takes X W) (hW : ∀ cls d σ H, E cls d H → W cls d σ H) {σ : L2.St} : PassG X σ E := fun pins H s e s' I h => passes_call tk hW pins σ H s e s' I h
theorem passT {W : WX} (tk : Takes X W) (σ : L2.St) : PassG X σ (fun cls d H => W cls d σ H) := fun pins H s e s' I h => passAt tk σ pins H s e s' I h
theorem run_G {fd : FuncData} {pins : List (Addr × Obj)} {σ : L2.St} {H : Hp} {s : Shared} {Q : VK} {us : List Value} {vs : List V} (F : FnG X.prog X.w X.K X.mg X.base k f fd ps sp) (hr : Room k X.A) (hgd : X.A.guards = some []) (hb : Binds X.K fd ps []) (hx : PassG X σ E)
    (I : Inv X pins σ H s) (r : Vals vs us) (h : sp vs H Q E) : wpAny (model X.prog X.w) X.A (call (.ref f) us) (EP X pins σ Q) X.xe s := by
  have el : us.length = ps.length := by
    rw [← r.length]
    exact F.lenG _ _ _ _ h
  have hbs := hb s us I.kIn (by simpa using el)
  rw [List.append_nil] at hbs
  refine wpAny_call (codeAny_mono (F.runG X.A X.stack s H ⟨us, []⟩ us vs Q E hr hgd I.env0 hbs r h) ?_)
  rintro (e | fl) s' hq
  · exact hx pins H s e s' I hq
  · cases fl with
    | ret u => exact I.after hq
    | next => exact hq.elim
    | brk => exact hq.elim
    | cont => exact hq.elim
theorem run_mkG {fd : FuncData} {pins : List (Addr × Obj)} {σ : L2.St} {H : Hp} {s : Shared} {Q : VK} {us : List Value} {vs : List V} (M : Mk X.K C f) (F : FnG X.prog X.w X.K X.mg X.base k f fd ps sp) (hr : Room (k + 1) X.A) (hgd : X.A.guards = some []) (hb : Binds X.K fd ps [])
    (hx : PassG X σ E) (I : Inv X pins σ H s) (r : Vals vs us) (h : ∀ x dx, H x = none → H dx = none → dx ≠ x → sp (.ref x :: vs) (upd (upd H dx (.own x)) x (.ins C dx [])) (fun v H2 => v = .non ∧ Q (.ref x) H2) E) :
    wpAny (model X.prog X.w) X.A (call (.ref C) us) (EP X pins σ Q) X.xe s := by
  have hq := h (s.heap.objs.size + 1) s.heap.objs.size (I.hok.fresh (by omega)) (I.hok.fresh (Nat.le_refl _)) (Nat.ne_of_lt (Nat.lt_succ_self _))
  have J := Inv.made (C := C) I
  have r2 : Vals (V.ref (s.heap.objs.size + 1) :: vs) (Value.ref (s.heap.objs.size + 1) :: us) := Paired.cons rfl r
  have el : (Value.ref (s.heap.objs.size + 1) :: us).length = ps.length := by
    rw [← r2.length]
    exact F.lenG _ _ _ _ hq
  have hbs := hb _ (Value.ref (s.heap.objs.size + 1) :: us) J.kIn (by simpa using el)
  rw [List.append_nil] at hbs
  have run := F.runG _ X.stack _ _ ⟨Value.ref (s.heap.objs.size + 1) :: us, []⟩ (Value.ref (s.heap.objs.size + 1) :: us) _ _ E (hr.make C us []) (guards_make hgd) (J.env0.make C us []) hbs r2 hq
  refine wpAny_call (make_map (f := f) I.kIn M.makes M.init (beq_iff_eq.mp M.fn) (codeAny_mono run ?_))
  rintro (e | fl) s' hq'
  · exact hx pins _ _ e s' J hq'
  · cases fl with
    | ret u =>
      obtain ⟨v, H', J3, rv, ev, q3⟩ := J.after hq'
      subst ev
      exact ⟨rv, ⟨V.ref (s.heap.objs.size + 1), H', J3, rfl, q3⟩⟩
    | next => exact hq'.elim
    | brk => exact hq'.elim
    | cont => exact hq'.elim
/-- f(..), f(); the wish of what it raises may hang on the slots -/
def tCl (sp : Sp) (E : L2.St → XK) (t : TA) : TE := fun σ H Q => t σ H fun vs H1 => sp vs H1 Q (E σ)
theorem pe_callO {E : L2.St → XK} (O : Ok X.prog X.w X.K X.mg X.base k f ps sp) (hr : Room j X.A) (hgd : X.A.guards = some []) (hk : k ≤ j) (hg : Gl X x) (hm : X.mg x = some (.ref f)) (hx : ∀ σ, PassG X σ (E σ))
    (ha : PA X (e :: es) t) (hdb : (x == ("__debug__" : Str)) = false := by decide) (hse : starEach (e :: es) X.env = (false, eval e X.env) :: starEach es X.env := by rfl) (hpl : (backTo pos (starEach es X.env)).any (·.1) = false := by rfl) :
    PE X (.Call (.Name x p) (e :: es) [] pos) (tCl sp E t) := by
  obtain ⟨fd, F, b, kp⟩ := O
  refine ⟨fun pins s σ H Q I h => wpAny_Call_Name_kw (ld_glob I hg hm (PySem.W.callWith_K (h₀ := X.base) I.ok.mod.kin kp (thn (ha.run pos pins s σ H _ I h) ?_) hse hpl) hdb)⟩
  rintro us s1 ⟨vs, H1, I1, r, q⟩
  exact ⟨I1.kIn, run_G F (hr.mono hk) hgd b (hx σ) I1 r q⟩
theorem pe_callO0 {E : L2.St → XK} (O : Ok X.prog X.w X.K X.mg X.base k f ps sp) (hr : Room j X.A) (hgd : X.A.guards = some []) (hk : k ≤ j) (hg : Gl X x) (hm : X.mg x = some (.ref f)) (hx : ∀ σ, PassG X σ (E σ))
    (hdb : (x == ("__debug__" : Str)) = false := by decide) : PE X (.Call (.Name x p) [] [] pos) (tCl sp E tNil) := by
  obtain ⟨fd, F, b, kp⟩ := O
  exact ⟨fun pins s σ H Q I h => wpAny_Call_Name_kw (ld_glob I hg hm (PySem.W.callWith_K0 I.kIn kp (run_G (us := []) F (hr.mono hk) hgd b (hx σ) I .nil h)) hdb)⟩
/-- o.m(..), o an instance of C -/
def tMt (C : Addr) (m : Str) (sp : Sp) (E : L2.St → XK) (ta : TE) (t : TA) : TE := fun σ H Q => ta σ H fun x H1 => (∃ a dx fs, x = .ref a ∧ H1 a = some (.ins C dx fs) ∧ fs.lookup m = none) ∧ t σ H1 fun vs H2 => sp (x :: vs) H2 Q (E σ)
theorem pe_methO {E : L2.St → XK} {pl : Sem Bool} (he : PE X o ta) (c : Cls X.K C) (hm : Meth X.K C m f) (O : Ok X.prog X.w X.K X.mg X.base k f ps sp) (hr : Room j X.A) (hgd : X.A.guards = some []) (hk : k ≤ j) (hx : ∀ σ, PassG X σ (E σ)) (ha : PA X (e :: es) t)
    (hse : starEach (e :: es) X.env = (false, eval e X.env) :: starEach es X.env := by rfl) (hpl : (backTo pos (starEach es X.env)).any (·.1) = false := by rfl)
    (ht : eval (.Call (.Attribute o m apos) (e :: es) [] pos) X.env = (do
      let ov ← eval o X.env
      standAt apos.atName
      let (g, first) ← holding [ov] (getMethod ov m pl)
      callWith pos g first (backTo pos (starEach (e :: es) X.env)) (backToKw pos (keywordEach [] X.env))) := by rfl) :
    PE X (.Call (.Attribute o m apos) (e :: es) [] pos) (tMt C m sp E ta t) := by
  obtain ⟨fd, F, b, kp⟩ := O
  refine ⟨fun pins s σ H Q I h => PySem.W.methodCall_KW (pl := pl) (thn (he.run pins s σ H _ I h) ?_) ht⟩
  rintro u s1 ⟨x, H1, I1, rx, ⟨a, dx, fs, ex, ea, l⟩, q⟩
  subst ex
  cases (show u = Value.ref a from rx)
  refine getmeth_ok I1 ea c hm l (PySem.W.callWith_K (first := [.ref a]) (h₀ := X.base) I.ok.mod.kin hm.kp (thn (ha.run pos pins s1 σ H1 _ I1 q) ?_) hse hpl)
  rintro us s2 ⟨vs, H2, I2, r, q2⟩
  exact ⟨I2.kIn, run_G (us := .ref a :: us) (vs := .ref a :: vs) F (hr.mono hk) hgd b (hx σ) I2 (.cons rfl r) q2⟩
theorem pe_methO0 {E : L2.St → XK} {pl : Sem Bool} (he : PE X o ta) (c : Cls X.K C) (hm : Meth X.K C m f) (O : Ok X.prog X.w X.K X.mg X.base k f ps sp) (hr : Room j X.A) (hgd : X.A.guards = some []) (hk : k ≤ j) (hx : ∀ σ, PassG X σ (E σ))
    (ht : eval (.Call (.Attribute o m apos) [] [] pos) X.env = (do
      let ov ← eval o X.env
      standAt apos.atName
      let (g, first) ← holding [ov] (getMethod ov m pl)
      callWith pos g first (backTo pos (starEach [] X.env)) (backToKw pos (keywordEach [] X.env))) := by rfl) :
    PE X (.Call (.Attribute o m apos) [] [] pos) (tMt C m sp E ta tNil) := by
  obtain ⟨fd, F, b, kp⟩ := O
  refine ⟨fun pins s σ H Q I h => PySem.W.methodCall_KW (pl := pl) (thn (he.run pins s σ H _ I h) ?_) ht⟩
  rintro u s1 ⟨x, H1, I1, rx, ⟨a, dx, fs, ex, ea, l⟩, q⟩
  subst ex
  cases (show u = Value.ref a from rx)
  exact getmeth_ok I1 ea c hm l (PySem.W.callWith_K0 (first := [.ref a]) I1.kIn hm.kp (run_G (us := [.ref a]) (vs := [.ref a]) F (hr.mono hk) hgd b (hx σ) I1 (.cons rfl .nil) q))
/-- C(..) -/
def tMk (C : Addr) (sp : Sp) (E : L2.St → XK) (t : TA) : TE := fun σ H Q => t σ H fun vs H1 => ∀ x dx, H1 x = none → H1 dx = none → dx ≠ x → sp (.ref x :: vs) (upd (upd H1 dx (.own x)) x (.ins C dx [])) (fun v H2 => v = .non ∧ Q (.ref x) H2) (E σ)
theorem pe_makeO {E : L2.St → XK} (M : Mk X.K C f) (O : Ok X.prog X.w X.K X.mg X.base k f ps sp) (hr : Room j X.A) (hgd : X.A.guards = some []) (hk : k + 1 ≤ j) (hg : Gl X x) (hm : X.mg x = some (.ref C)) (hx : ∀ σ, PassG X σ (E σ))
    (ha : PA X (e :: es) t) (hdb : (x == ("__debug__" : Str)) = false := by decide) (hse : starEach (e :: es) X.env = (false, eval e X.env) :: starEach es X.env := by rfl) (hpl : (backTo pos (starEach es X.env)).any (·.1) = false := by rfl) :
    PE X (.Call (.Name x p) (e :: es) [] pos) (tMk C sp E t) := by
  obtain ⟨fd, F, b, kp⟩ := O
  refine ⟨fun pins s σ H Q I h => wpAny_Call_Name_kw (ld_glob I hg hm (PySem.W.callWith_K (h₀ := X.base) I.ok.mod.kin M.kp (thn (ha.run pos pins s σ H _ I h) ?_) hse hpl) hdb)⟩
  rintro us s1 ⟨vs, H1, I1, r, q⟩
  exact ⟨I1.kIn, run_mkG M F (hr.mono hk) hgd b (hx σ) I1 r q⟩
theorem pe_makeO0 {E : L2.St → XK} (M : Mk X.K C f) (O : Ok X.prog X.w X.K X.mg X.base k f ps sp) (hr : Room j X.A) (hgd : X.A.guards = some []) (hk : k + 1 ≤ j) (hg : Gl X x) (hm : X.mg x = some (.ref C)) (hx : ∀ σ, PassG X σ (E σ))
    (hdb : (x == ("__debug__" : Str)) = false := by decide) : PE X (.Call (.Name x p) [] [] pos) (tMk C sp E tNil) := by
  obtain ⟨fd, F, b, kp⟩ := O
  exact ⟨fun pins s σ H Q I h => wpAny_Call_Name_kw (ld_glob I hg hm (PySem.W.callWith_K0 I.kIn M.kp (run_mkG (us := []) M F (hr.mono hk) hgd b (hx σ) I .nil h)) hdb)⟩
/-- o.f, o an instance of C -/
def tFl (C : Addr) (f : Str) (ta : TE) : TE := fun σ H Q => ta σ H fun x H1 => ∃ a dx fs v, x = .ref a ∧ H1 a = some (.ins C dx fs) ∧ fs.lookup f = some v ∧ Q v H1
/-- an expression's reading with the wish loosened -/
def lax (ta : TE) : TE := fun σ H Q => ∃ R : VK, (∀ v H', R v H' → Q v H') ∧ ta σ H R
theorem pe_lax (he : PE X o ta) : PE X o (lax ta) := ⟨fun pins s σ H Q I ⟨R, hR, q⟩ => thn (he.run pins s σ H R I q) fun u s' ⟨v, H', J, r, q'⟩ => ⟨v, H', J, r, hR v H' q'⟩⟩
theorem pe_flO {pos : Pos} (c : Cls X.K C) (hn : NoAttr X.K C m) (he : PE X o ta) (hb : attributeBase o m X.env (eval o X.env) = eval o X.env := by rfl) : PE X (.Attribute o m pos) (tFl C m ta) :=
  PE.imp (pe_fld (pe_lax he) hb) fun σ H Q h => ⟨_, fun v H' ⟨a, dx, fs, w, ex, ha, hl, q⟩ => ⟨a, C, dx, fs, w, ex, ha, c, hn, hl, q⟩, h⟩
/-- o.f = v -/
def sFl (C : Addr) (f : Str) (ta tv : TE) : TS := fun D σ H => tv σ H fun y H1 => ta σ H1 fun x H2 => ∃ a dx fs, x = .ref a ∧ H2 a = some (.ins C dx fs) ∧ fs.length < 1000 ∧ D.nx σ (upd H2 a (.ins C dx (putF f y fs)))
theorem ps_flO {value : Expr} {tv : TE} {pos pos' : Pos} (c : Cls X.K C) (hn : NoAttr X.K C m) (ha : PE X o ta) (hv : PE X value tv) (hs : swapsWith value (some (.Attribute o m pos')) pos.line X.env = pure false) : PS X (.Assign [.Attribute o m pos'] value pos) (sFl C m ta tv) := by
  refine ⟨fun pins s σ H D I h => (ps_fld (pe_lax ha) (pe_lax hv) hs).run pins s σ H D I ?_⟩
  refine ⟨_, fun v H' q => ?_, h⟩
  refine ⟨_, fun x H'' q' => ?_, q⟩
  obtain ⟨a, dx, fs, ex, ea, hl, qq⟩ := q'
  exact ⟨a, C, dx, fs, ex, ea, c, hn, hl, qq⟩
/-- o.f += v, whole numbers -/
def sFlA (C : Addr) (f : Str) (ta tv : TE) : TS := fun D σ H => ta σ H fun x H1 => ∃ a dx fs i, x = .ref a ∧ H1 a = some (.ins C dx fs) ∧ fs.lookup f = some (.int i) ∧ tv σ H1 fun y H2 => ∃ j dx' fs', y = .int j ∧ H2 a = some (.ins C dx' fs') ∧ fs'.length < 1000 ∧ D.nx σ (upd H2 a (.ins C dx' (putF f (.int (i + j)) fs')))
theorem ps_flaugO {value : Expr} {tv : TE} {pos tpos : Pos} (c : Cls X.K C) (hn : NoAttr X.K C m) (ha : PE X o ta) (hv : PE X value tv) : PS X (.AugAssign (.Attribute o m tpos) .Add value pos) (sFlA C m ta tv) := by
  refine ⟨fun pins s σ H D I h => (ps_fldaug (pe_lax ha) (pe_lax hv) in_add).run pins s σ H D I ?_⟩
  refine ⟨_, fun x H' q => ?_, h⟩
  obtain ⟨a, dx, fs, i, ex, ea, hl, q⟩ := q
  refine ⟨a, C, dx, fs, .int i, ex, ea, c, hn, hl, _, fun y H'' q' => ?_, q⟩
  obtain ⟨j, dx', fs', ey, e2, l2, qq⟩ := q'
  exact ⟨i, j, rfl, ey, dx', fs', e2, l2, qq⟩
end
end MC
/-! Lib2: len, slices, the display of data, isinstance, max with a default, exceptions, several except clauses. -/
namespace MC
open PySem PySem.Spec PyProof.Rows L2
def rLenU (K : PySem.W.Frag) : List V → Hp → VK → Prop := fun xs H Q => match xs with
  | [.str y] => y.length ≤ sizeLine ∧ Q (.int y.length) H
  | [.ref p] => (∃ ys, (SqL K H p ys ∨ SqT K H p ys) ∧ Q (.int ys.length) H) ∨ ∃ kvs, Rd H p (.dK kvs) ∧ Q (.int kvs.length) H
  | _ => False
theorem call_lenU {X : Cx} : CallR X (.builtin "len") (rLenU X.K) := by
  intro pins s σ H xs us Q I r h
  match xs, h with
  | [.str y], h => exact call_len_str pins s σ H _ us Q I r ⟨y, rfl, h.1, h.2⟩
  | [.ref p], h =>
    rcases h with ⟨ys, hs, q⟩ | ⟨kvs, hd, q⟩
    · exact call_len_seq pins s σ H _ us Q I r ⟨p, ys, rfl, hs, q⟩
    · obtain ⟨u, rfl, rx⟩ := vals1 r
      cases (show u = Value.ref p from rx)
      exact d_len I hd fun t s' J => ⟨.int kvs.length, H, J, ⟨t, rfl⟩, q⟩
def rSlU (K : PySem.W.Frag) : V → Option Int → Option Int → Hp → VK → Prop := fun x lo hi H Q => rSlS x lo hi H Q ∨ rSlL K x lo hi H Q ∨ rSlT K x lo hi H Q
theorem sl_U {X : Cx} : SlR X (rSlU X.K) := sl_str.or (sl_list.or sl_tup)
/-- repr of data -/
def rRepr (K : PySem.W.Frag) : List V → Hp → VK → Prop := fun xs H Q => ∃ x d, xs = [x] ∧ Dp K H x d ∧ d.showable = true ∧ d.depth ≤ 60 ∧ d.shown.length ≤ sizeLine ∧ Q (.str d.shown) H
theorem dp_noDict {K : PySem.W.Frag} {H : Hp} : (∀ (d : PyData) (v : V), Dp K H v d → d.hasDict = false) ∧ True := by
  refine ⟨?_, trivial⟩
  have key : ∀ (v : V) (d : PyData), Dp K H v d → d.hasDict = false := by
    intro v d h
    refine Dp.rec (motive_1 := fun v d _ => d.hasDict = false) (motive_2 := fun vs ds _ => PyData.hasDictAll ds = false) ?_ ?_ ?_ ?_ ?_ ?_ ?_ ?_ h
    · rfl
    · intro b; rfl
    · intro i; rfl
    · intro x; rfl
    · intro a xs ds _ _ ih
      simpa [PyData.hasDict] using ih
    · intro a xs ds _ _ ih
      simpa [PyData.hasDict] using ih
    · rfl
    · intro v vs d ds _ _ h1 h2
      simp [PyData.hasDictAll, h1, h2]
  exact fun d v h => key v d h
theorem call_reprU {X : Cx} (hu : X.A.units + 64 < cLine) (hg : X.A.guards = some []) : CallR X (.builtin "repr") (rRepr X.K) := by
  intro pins s σ H xs us Q I r h
  obtain ⟨x, d, rfl, hd, hs, hdep, hsz, q⟩ := h
  obtain ⟨u, rfl, rx⟩ := vals1 r
  obtain ⟨as, rd⟩ := Dp.reads I d x u hd rx
  have nd : d.hasDict = false := dp_noDict.1 d x hd
  have big : ∀ {a : Addr}, u = .ref a → wpAny (model X.prog X.w) X.A (call (.builtin "repr") [u]) (EP X pins σ Q) X.xe s := by
    intro a e
    subst e
    exact repr_of_reads' rd hs (fun z => by rw [nd] at z; cases z) hg (by omega) (fun _ _ e => e) (fun h' t tk k => ⟨.str d.shown, H, I.kept k, ⟨t, rfl⟩, q⟩) hsz
  cases hd with
  | non =>
    cases (show u = Value.none from rx)
    exact PySem.P.repr_of_none ⟨.str _, H, I.tok _, ⟨_, rfl⟩, by rw [PyData.shown_none] at q; exact q⟩
  | bl b =>
    cases (show u = Value.bool b from rx)
    exact PySem.P.repr_of_bool ⟨.str _, H, I.tok _, ⟨_, rfl⟩, by rw [PyData.shown_bool] at q; exact q⟩
  | int i =>
    obtain ⟨t, rfl⟩ := (show ∃ t, u = Value.int i t from rx)
    exact PySem.P.repr_of_int (by simpa [PyData.showable] using hs) ⟨.str _, H, I.tok _, ⟨_, rfl⟩, by rw [PyData.shown_int] at q; exact q⟩
  | str z =>
    obtain ⟨t, rfl⟩ := (show ∃ t, u = Value.str z t from rx)
    exact PySem.P.repr_of_str ⟨.str _, H, I.tok _, ⟨_, rfl⟩, by rw [PyData.shown_str] at q; exact q⟩ (by rw [PyData.shown_str] at hsz; exact hsz)
  | lst h1 h2 => exact big rx
  | tup h1 h2 => exact big rx
end MC
/-! Lib3: own exceptions whose __init__ calls the base's by its class and stores one field; several except clauses, with names. -/
namespace MC
open PySem PySem.Spec PyProof.Rows L2
section
variable {X : Cx} {o e : Expr} {es : List Expr} {to te : TE} {ta : TA} {f x : Str} {p p' p1 p2 pos : Pos} {B C : Addr} {mc : Value}
/-- what the written part says of a class whose __init__ is ValueError's -/
structure BaseC (K : PySem.W.Frag) (B : Addr) (mc : Value) : Prop where
  rd : PySem.W.readsIn K B mc = true
  ga : PySem.W.specialIn K (.ref B) "__getattribute__" = some (some (.builtin "type.__getattribute__"))
  it : PySem.W.findCls K (.ref B) mc "__init__" = some (.val (.builtin "ValueError.__init__"))
/-- B.__init__(self, ..) -/
theorem pe_binit {pl : Sem Bool} (T : BaseC X.K B mc) (hg : Gl X x) (hm : X.mg x = some (.ref B)) (ha : PA X (e :: es) ta) (hdb : (x == ("__debug__" : Str)) = false := by decide)
    (hc : eval (.Call (.Attribute (.Name x p1) "__init__" p2) (e :: es) [] pos) X.env = (do
      let ov ← eval (.Name x p1) X.env
      standAt p2.atName
      let (g, first) ← holding [ov] (getMethod ov "__init__" pl)
      callWith pos g first (backTo pos (starEach (e :: es) X.env)) (backToKw pos (keywordEach [] X.env))) := by rfl)
    (hse : starEach (e :: es) X.env = (false, eval e X.env) :: starEach es X.env := by rfl) (hpl : (backTo pos (starEach es X.env)).any (·.1) = false := by rfl) :
    PE X (.Call (.Attribute (.Name x p1) "__init__" p2) (e :: es) [] pos) (tVeI X.K ta) := by
  refine ⟨fun pins s σ H Q I h => PySem.W.methodCall_KW (ld_glob I hg hm ?_ hdb) hc⟩
  refine PySem.W.method_cls I.kIn T.ga (PySem.W.cls_value I.kIn T.rd T.it (by decide +kernel) ?_)
  refine PyProof.Rows.callWith_method1 (thn (ha.run pos pins _ σ H _ (I.tok _) h) ?_) hse hpl
  rintro us s1 ⟨vs, H1, I1, r1, a, C, ws, ev, hl, T, ea, q⟩
  subst ev
  cases r1 with
  | @cons _ u0 _ ur ra rw' =>
    cases (show u0 = Value.ref a from ra)
    exact oinit_ok T I1 ea (by rw [← Paired.length rw', sizeLine_eq]; omega) fun s' J => ⟨.non, H1, J, rfl, q⟩
/-- what __init__ of such a class keeps: the one field f -/
def spExc (C : Addr) (f : Str) : Sp := fun vs H Q _ => ∃ a v, vs = [.ref a, v] ∧ H a = some (exo a C none) ∧ ∀ d, H d = none → d ≠ a → Q .non (upd (upd H d (exd d [(f, v)])) a (exo a C (some d)))
/-- what the written part says of such an exception class -/
structure ExcC (K : PySem.W.Frag) (C fI : Addr) : Prop where
  ox : OexC K C
  iC : PySem.W.findIn K (.ref C) "__init__" = some (some (.ref fI))
  tI : PySem.W.typeIn K (.ref fI) = some (.type "function")
def tXc (C : Addr) (f : Str) (te : TE) : L2.St → Hp → XK → Prop := fun σ H Q => te σ H fun v H1 => ∀ d, H1 d = none → Q (.ref C) (some d) (upd H1 d (.xd [(f, v)]))
theorem upd_back {H : Hp} {a d : Addr} {o u w z : HO} (ha : H a = none) (hda : d ≠ a) : upd (del (upd (upd (upd H a o) d u) a w) a) d z = upd H d z := by
  funext b
  by_cases hb : b = d
  · rw [hb, upd_same, upd_same]
  · rw [upd_ne hb, upd_ne hb]
    by_cases hba : b = a
    · rw [hba, del_same, ha]
    · rw [del_ne hba, upd_ne hba, upd_ne hb, upd_ne hba]
theorem pmk_O {fI : Addr} {k j : Nat} {ps : List Str} (T : ExcC X.K C fI) (O : Ok X.prog X.w X.K X.mg X.base k fI ps (spExc C f)) (hr : Room j X.A) (hgd : X.A.guards = some []) (hk : k + 1 ≤ j) (hg : Gl X x) (hm : X.mg x = some (.ref C)) (he : PE X e te)
    (hdb : (x == ("__debug__" : Str)) = false := by decide) (hse : starEach [e] X.env = (false, eval e X.env) :: starEach [] X.env := by rfl) (hpl : (backTo pos (starEach [] X.env)).any (·.1) = false := by rfl) :
    PMk X (.Call (.Name x p) [e] [] pos) (tXc C f te) := by
  obtain ⟨fd, F, b, kp⟩ := O
  intro pins s σ H Q I h
  obtain ⟨nm, q, N, bs, bm, sn, sub, ab, col, dd, k0, k1, k2, k3, k5, hC, hbm⟩ := T.ox.cls
  refine wpAny_Call_Name_kw (ld_glob I hg hm (PySem.W.callWith_K (h₀ := X.base) I.ok.mod.kin T.ox.kC (thn ((pa_cons he pa_nil hse).run pos pins s σ H (fun vs H1 => match vs with | [v] => ∀ d, H1 d = none → Q (.ref C) (some d) (upd H1 d (.xd [(f, v)])) | _ => False) I h) ?_) hse hpl) hdb)
  rintro us s1 ⟨vs, H1, I1, r1, q1⟩
  match vs, q1, r1 with
  | [v], q1, r1 =>
    refine ⟨I1.kIn, ?_⟩
    show wpAny _ _ (call (.ref C) us) _ _ _
    obtain ⟨u0, rfl, ru⟩ := vals1 r1
    obtain ⟨hp, g, dr, tk, os⟩ := s1
    have hsz : hp.objs.size ≤ hp.objs.size + 1 := Nat.le_succ _
    have hn : H1 (hp.objs.size + 1) = none := I1.hok.fresh hsz
    have kk : ∀ b o, hp.get? b = some o → ((hp.push (PySem.W.kdv_tup [u0])).push (PySem.HandSPX.excO C hp.objs.size)).get? b = some o := by
      intro b o e
      exact Heap.get?_push_of_some _ (Heap.get?_push_of_some _ e)
    have hget : ((hp.push (PySem.W.kdv_tup [u0])).push (PySem.HandSPX.excO C hp.objs.size)).get? (hp.objs.size + 1) = some (PySem.HandSPX.excO C hp.objs.size) := by heap_get
    have I2 := I1.laid (t' := tk) (a := hp.objs.size + 1) (o := exo (hp.objs.size + 1) C none) kk hsz (exo_ok hget)
    have hq : spExc C f [V.ref (hp.objs.size + 1), v] (upd H1 (hp.objs.size + 1) (exo (hp.objs.size + 1) C none)) (fun w H2 => w = .non ∧ ∃ d fs, H2 (hp.objs.size + 1) = some (exo (hp.objs.size + 1) C (some d)) ∧ H2 d = some (exd d fs) ∧ H1 d = none ∧ Q (.ref C) (some d) (upd (del H2 (hp.objs.size + 1)) d (.xd fs))) E0 := by
      refine ⟨_, v, rfl, upd_same, fun d hd hda => ⟨rfl, d, _, upd_same, by rw [upd_ne hda, upd_same], by rw [upd_ne hda] at hd; exact hd, ?_⟩⟩
      rw [upd_back hn hda]
      exact q1 d (by rw [upd_ne hda] at hd; exact hd)
    have r2 : Vals [V.ref (hp.objs.size + 1), v] [Value.ref (hp.objs.size + 1), u0] := .cons rfl (.cons ru .nil)
    have el : [Value.ref (hp.objs.size + 1), u0].length = ps.length := by
      rw [← r2.length]
      exact F.lenG _ _ _ _ hq
    have hbs := b _ [Value.ref (hp.objs.size + 1), u0] I2.kIn (by simpa using el)
    rw [List.append_nil] at hbs
    have run := F.runG _ X.stack _ _ ⟨[Value.ref (hp.objs.size + 1), u0], []⟩ [Value.ref (hp.objs.size + 1), u0] _ _ E0 (Room.make (hr.mono hk) C [u0] []) (guards_make hgd) (I2.env0.make C [u0] []) hbs r2 hq
    refine wpAny_call (PySem.HandSPX.call_own PySem.F.excBase_ValueError (fun Y => PySem.HandSPX.refsVE_contains Y bm hbm) (I1.kIn _ _ hC) (PySem.W.looks_findIn I1.kIn T.iC) (fun self => PySem.W.bind_fn I1.kIn self T.tI) (by show 1 ≤ sizeLine; rw [sizeLine_eq]; omega) (codeAny_mono run ?_))
    rintro (er | fl) s' hq'
    · exact passN (σ := σ) pins _ _ er s' I2 hq'
    · cases fl with
      | ret u =>
        obtain ⟨w, H2, os2, bare2, un2, hok2, rv, ev, d, fs, ea, ed, hd1, q2⟩ := hq'
        subst ev
        obtain ⟨h2, g2, d2, t2, os'⟩ := s'
        exact ⟨rv, mk_end (raises_own T.ox.exC T.ox.tyC) I1 hsz kk un2 hok2 os2 bare2 ea ed hd1 q2⟩
      | next => exact hq'.elim
      | brk => exact hq'.elim
      | cont => exact hq'.elim
end

/-! ### several except clauses, some with a name -/
/-- how things stand where the clauses are looked at -/
structure AtHds (X : Cx) (pins : List (Addr × Obj)) (a : Addr) (B : Heap) (sI : Shared) (σ : L2.St) (H : Hp) (cls : Value) (d : Option Addr) (s' : Shared) (h3 : Heap) : Prop where
  J : Inv X pins σ H sI
  nb : ∀ b o, sI.heap.get? b = some o → b ∉ frs X.stack → B.get? b = some o
  up : sI.heap.UpToSlots h3
  fl : HandSPX.FlyingZ B (X.env :: X.outer) a (Zc cls d) h3
  na : H a = none
  os : s'.os = sI.os
  ag : AllBare s'.gens
theorem AtHds.nfr {X : Cx} {pins : List (Addr × Obj)} {a : Addr} {B : Heap} {sI s' : Shared} {σ : L2.St} {H : Hp} {cls : Value} {d : Option Addr} {h3 : Heap} (Z : AtHds X pins a B sI σ H cls d s' h3) : a ∉ frs (X.env :: X.outer) := by
  obtain ⟨oe, vs, he, _, hd⟩ := Z.fl.there
  intro hm
  obtain ⟨_, o', e', nf⟩ := Z.fl.2.2.1.mem hm
  rw [he] at e'
  cases e'
  exact nf _ hd
theorem AtHds.suite {X : Cx} {pins : List (Addr × Obj)} {a : Addr} {B : Heap} {sI s' : Shared} {σ : L2.St} {H : Hp} {cls : Value} {d : Option Addr} {h3 : Heap} (Z : AtHds X pins a B sI σ H cls d s' h3) (hf : X.env.frame = some X.env.locals) :
    ∃ oe, Zc cls d oe ∧ (∃ vs, oe.data = .fields vs) ∧ h3.get? a = some oe ∧ Inv (X.suite a ((a, oe) :: (X.pn ++ pins))) [] σ H { s' with heap := h3 } := by
  obtain ⟨oe, vs, he, hz, hd⟩ := Z.fl.there
  have J3 := Z.J.landed Z.nb Z.fl.1 Z.up Z.os Z.ag (s' := { s' with heap := h3 })
  refine ⟨oe, hz, ⟨_, hd⟩, he, J3.suite he hd Z.na (fun z => Z.nfr (List.mem_filterMap.mpr ⟨X.env, List.mem_cons_self, by rw [hf, z]⟩)) (fun hm => ?_)⟩
  obtain ⟨e, he', q⟩ := List.mem_filterMap.mp hm
  exact Z.nfr (List.mem_filterMap.mpr ⟨e, List.mem_cons_of_mem _ he', q⟩)
/-- a clause: wf tells what it wishes, given what the later ones wish -/
def HdOk (X : Cx) (hd : ExceptHandler) (wf : WX → Ends → WX) : Prop :=
  ∀ (pins : List (Addr × Obj)) (a : Addr) (B : Heap) (sI : Shared) (σ : L2.St) (H : Hp) (cls : Value) (d : Option Addr) (s' : Shared) (h3 : Heap) (D : Ends) (W : WX) (hds : List ExceptHandler), X.Ok → X.env.frame = some X.env.locals →
    AtHds X pins a B sI σ H cls d s' h3 → wf W D cls d σ H → (W cls d σ H → wpAny (model X.prog X.w) X.A (handleBy (.ref a) X.env hds) (SP X pins D) X.xe { s' with heap := h3 }) →
      wpAny (model X.prog X.w) X.A (handleBy (.ref a) X.env (hd :: hds)) (SP X pins D) X.xe { s' with heap := h3 }
section
variable {X : Cx}
/-- the clause's class is asked -/
theorem hd_test {x : Str} {c : Value} {np : Pos} {pins : List (Addr × Obj)} {a : Addr} {σ : L2.St} {H : Hp} {cls : Value} {d : Option Addr} {s' : Shared} {h3 : Heap} {oe : Obj} (hc : Names X x c) (he : h3.get? a = some oe) (hz : Zc cls d oe)
    (S3 : Inv (X.suite a ((a, oe) :: (X.pn ++ pins))) [] σ H { s' with heap := h3 }) {Q : Value → Shared → Prop} {E : Value → Shared → Prop} (q : Q c { s' with heap := h3 }) : wpAny (model X.prog X.w) (X.A.mark (some (.ref a))) (eval (.Name x np) X.env) Q E { s' with heap := h3 } := by
  obtain ⟨hg, hdbg, hm | ⟨hm, hv, hnn⟩⟩ := hc
  · exact ld_glob (X := X.suite a ((a, oe) :: (X.pn ++ pins))) S3 hg hm q hdbg
  · exact ld_blt (X := X.suite a ((a, oe) :: (X.pn ++ pins))) S3 hg hm hv q hnn hdbg
def wfPlain (K : PySem.W.Frag) (c : Value) (ts : Addr → Value → Option Addr → TS) : WX → Ends → WX := fun W D cls d σ H =>
  ∃ b, PySem.W.exmOne K cls c = some b ∧ match b with
    | true => ∀ a, H a = none → ts a cls d D σ H
    | false => W cls d σ H
def wfAs (K : PySem.W.Frag) (c : Value) (i : Nat) (ts : Addr → Value → Option Addr → TS) : WX → Ends → WX := fun W D cls d σ H =>
  ∃ b, PySem.W.exmOne K cls c = some b ∧ match b with
    | true => ∀ a, H a = none → ts a cls d { nx := fun σ' H' => D.nx (σ'.set i none) H', rt := D.rt, bk := fun σ' H' => D.bk (σ'.set i none) H', ct := fun σ' H' => D.ct (σ'.set i none) H' } (σ.set i (some (.ref a))) H
    | false => W cls d σ H
theorem hd_plain {x : Str} {c : Value} {b₀ : Stmt} {suite : List Stmt} {np pos' : Pos} {ts : Addr → Value → Option Addr → TS} (hc : Names X x c)
    (hsu : ∀ (a : Addr) (oe : Obj) (cls : Value) (d : Option Addr) (pn : List (Addr × Obj)), Zc cls d oe → (∃ vs, oe.data = .fields vs) → PSs (X.suite a ((a, oe) :: pn)) (b₀ :: suite) (ts a cls d)) :
    HdOk X (.ExceptHandler (some (.Name x np)) none (b₀ :: suite) pos') (wfPlain X.K c ts) := by
  intro pins a B sI σ H cls d s' h3 D W hds ok hf Z w rest
  obtain ⟨b, hb1, w⟩ := w
  obtain ⟨oe, hz, hfs, he, S3⟩ := Z.suite hf
  have J3 := Z.J.landed Z.nb Z.fl.1 Z.up Z.os Z.ag (s' := { s' with heap := h3 })
  have LT : PySem.W.Looks (model X.prog X.w) h3 (typeOf (.ref a)) cls := fun A Q E s k q => wpAny_typeOf_ref (k _ _ he) (by rw [hz.1]; exact q)
  have LM := PySem.W.exm_one (M := model X.prog X.w) (J3.kIn) LT hb1
  refine wpAny_handleBy_cons (codeAny_handlers_test (hd_test hc he hz S3 (LM.here ?_))) (by intro q; cases q)
  cases b with
  | false => exact rest w
  | true =>
    refine codeAny_handlers_suite (HandSPX.lands_againZ Z.fl fun h4 fl4 up4 => ?_)
    obtain ⟨oe4, hz4, hfs4, he4, S4⟩ := (AtHds.mk Z.J Z.nb (Z.up.trans up4) fl4 Z.na Z.os Z.ag : AtHds X pins a B sI σ H cls d s' h4).suite hf
    refine wpAny_mono ((hsu a oe4 cls d (X.pn ++ pins) hz4 hfs4).run [] _ _ H _ S4 (w a Z.na)) (fun f s6 hsp => ?_) (fun _ _ z => z.elim)
    cases f with
    | next => exact (fun ⟨σ6, H6, S6, q6⟩ => ⟨_, _, S6.unsuite ok, q6⟩) hsp
    | brk => exact (fun ⟨σ6, H6, S6, q6⟩ => ⟨_, _, S6.unsuite ok, q6⟩) hsp
    | cont => exact (fun ⟨σ6, H6, S6, q6⟩ => ⟨_, _, S6.unsuite ok, q6⟩) hsp
    | ret u => exact (fun ⟨v6, σ6, H6, S6, r6, q6⟩ => ⟨_, _, _, S6.unsuite ok, r6, q6⟩) hsp
theorem hd_as {x n : Str} {c : Value} {i : Nat} {b₀ : Stmt} {suite : List Stmt} {np pos' : Pos} {ts : Addr → Value → Option Addr → TS} (hN : X.N.Nodup) (hi : X.N[i]? = some n) (hln : X.env.kindOf n = some .local) (hc : Names X x c)
    (hsu : ∀ (a : Addr) (oe : Obj) (cls : Value) (d : Option Addr) (pn : List (Addr × Obj)), Zc cls d oe → (∃ vs, oe.data = .fields vs) → PSs (X.suite a ((a, oe) :: pn)) (b₀ :: suite) (ts a cls d)) :
    HdOk X (.ExceptHandler (some (.Name x np)) (some n) (b₀ :: suite) pos') (wfAs X.K c i ts) := by
  intro pins a B sI σ H cls d s' h3 D W hds ok hf Z w rest
  obtain ⟨b, hb1, w⟩ := w
  obtain ⟨oe, hz, hfs, he, S3⟩ := Z.suite hf
  have J3 := Z.J.landed Z.nb Z.fl.1 Z.up Z.os Z.ag (s' := { s' with heap := h3 })
  have LT : PySem.W.Looks (model X.prog X.w) h3 (typeOf (.ref a)) cls := fun A Q E s k q => wpAny_typeOf_ref (k _ _ he) (by rw [hz.1]; exact q)
  have LM := PySem.W.exm_one (M := model X.prog X.w) (J3.kIn) LT hb1
  refine wpAny_handleBy_cons (codeAny_handlers_test (hd_test hc he hz S3 (LM.here ?_))) (by intro q; cases q)
  cases b with
  | false => exact rest w
  | true =>
    refine codeAny_handlers_suite_as (HandSPX.lands_againZ Z.fl fun h4 fl4 up4 => ?_)
    obtain ⟨oe4, hz4, hfs4, he4, S4⟩ := (AtHds.mk Z.J Z.nb (Z.up.trans up4) fl4 Z.na Z.os Z.ag : AtHds X pins a B sI σ H cls d s' h4).suite hf
    refine store_ok (X := X.suite a ((a, oe4) :: (X.pn ++ pins))) (v := .ref a) S4 hN hi (.inl hln) rfl (fun s5 S5 => ?_) (.inr hln)
    have gone : ∀ {σ6 : L2.St} {H6 : Hp} {s6 : Shared} {Q : Shared → Prop}, Inv (X.suite a ((a, oe4) :: (X.pn ++ pins))) [] σ6 H6 s6 → (∀ s7, Inv X pins (σ6.set i none) H6 s7 → Q s7) →
        wpAny (model X.prog X.w) X.A (do bindName X.env n .none; unbindBehindTheSuite X.env n pos') (fun _ s7 => Q s7) X.xe s6 := by
      intro σ6 H6 s6 Q S6 hq
      exact gone_ok (S6.unsuite ok) hN hi hln hq
    refine wpAny_mono ((hsu a oe4 cls d (X.pn ++ pins) hz4 hfs4).run [] s5 _ H _ S5 (w a Z.na)) (fun f s6 hsp => ?_) (fun _ _ z => z.elim)
    cases f with
    | next => exact (fun ⟨σ6, H6, S6, q6⟩ => gone S6 fun s7 J7 => ⟨_, _, J7, q6⟩) hsp
    | brk => exact (fun ⟨σ6, H6, S6, q6⟩ => gone S6 fun s7 J7 => ⟨_, _, J7, q6⟩) hsp
    | cont => exact (fun ⟨σ6, H6, S6, q6⟩ => gone S6 fun s7 J7 => ⟨_, _, J7, q6⟩) hsp
    | ret u => exact (fun ⟨v6, σ6, H6, S6, r6, q6⟩ => gone S6 fun s7 J7 => ⟨_, _, _, J7, r6, q6⟩) hsp
inductive HdsA (X : Cx) : List ExceptHandler → List (WX → Ends → WX) → Prop
  | nil : HdsA X [] []
  | cons {hd : ExceptHandler} {hds : List ExceptHandler} {wf : WX → Ends → WX} {l : List (WX → Ends → WX)} (h : HdOk X hd wf) (r : HdsA X hds l) : HdsA X (hd :: hds) (wf :: l)
def wAll (Wout : WX) (D : Ends) : List (WX → Ends → WX) → WX
  | [] => Wout
  | wf :: r => wf (wAll Wout D r) D
theorem ps_tryA {body : List Stmt} {h₀ : ExceptHandler} {hds : List ExceptHandler} {l : List (WX → Ends → WX)} {pos : Pos} {tb : WX → TS} {Wout : WX} (hs : X.stack = X.env :: X.outer) (hf : X.env.frame = some X.env.locals) (tk : Takes X Wout)
    (hb : ∀ (W : WX) (pn : List (Addr × Obj)) (xe : Value → Shared → Prop), Takes (X.tr pn xe) W → PassesOwn (model X.prog X.w) X.A X.env xe → PSs (X.tr pn xe) body (tb W))
    (hh : HdsA X (h₀ :: hds) l) : PS X (.Try body (h₀ :: hds) [] [] pos) (fun D σ H => tb (wAll Wout D l) D σ H) := by
  refine ⟨fun pins s σ H D I h => wpAny_Try_except ?_⟩
  have ok := I.ok
  have hfr : X.A.frames = some (X.env :: X.outer) := by rw [ok.frames, hs]
  refine wpAny_mono ((hb (wAll Wout D l) (X.pn ++ pins) (fun e s₁ => wpAny (model X.prog X.w) X.A (noteFrame e X.env) (fun _ s₂ => wpAny (model X.prog X.w) X.A (setFlight e none) (fun _ s₃ =>
    wpAny (model X.prog X.w) X.A (handleBy e X.env (h₀ :: hds)) (SP X pins D) X.xe s₃) X.xe s₂) X.xe s₁) ?_ PassesOwn.looking).run [] s σ H D (I.toTry _) h) ?_ (fun e s1 he => he)
  · rintro u s' ⟨a, B, sI, pins', σ', H', cls, d, rfl, J', nb, up, sky, na, os, ag, w⟩
    have sky' : Sky B (X.env :: X.outer) a (Zc cls d) X.env.locals s'.heap := by
      rw [← hs]
      exact sky
    show wpAny (model X.prog X.w) X.A (noteFrame (.ref a) X.env) _ _ _
    refine Sky.land Zc.steady hfr hf sky' fun h3 fl3 up3 => ?_
    have Z : AtHds X pins a B sI σ' H' cls d s' h3 := ⟨J'.ofTry ok, nb, up.trans up3, fl3, na, os, ag⟩
    have go : ∀ {hds' : List ExceptHandler} {l' : List (WX → Ends → WX)}, HdsA X hds' l' → wAll Wout D l' cls d σ' H' → wpAny (model X.prog X.w) X.A (handleBy (.ref a) X.env hds') (SP X pins D) X.xe { s' with heap := h3 } := by
      intro hds' l' hk
      induction hk with
      | cons h r ih => exact fun w => h pins a B sI σ' H' cls d s' h3 D _ _ ok hf Z w ih
      | nil =>
        intro w
        obtain ⟨k1, k2, k3, oe, vs, T, oT, ts', he, hz, hd, h1, hr⟩ := id fl3
        refine wpAny_handleBy_nil ?_
        unfold PySem.passOn
        refine wpAny_bind (wpAny_field he hd h1 ?_)
        rw [if_neg (show ¬ ((Value.ref T == Value.none) = true) from by simp)]
        have fin : wpAny (model X.prog X.w) X.A (setFlight (.ref a) X.env.frame) (fun _ s4 => wpAny (model X.prog X.w) X.A (throw (.ref a) : Sem Flow) (SP X pins D) X.xe s4) X.xe { s' with heap := h3 } := by
          rw [hf]
          exact HandSPX.setFlight_upZ fl3 fun h4 hh4 up4 => wpAny_throw (tk _ _ ⟨a, B, sI, pins, σ', H', cls, d, rfl, Z.J, nb, (up.trans up3).trans up4, .inr (.inr (by rw [hs]; exact hh4)), na, os, ag, w⟩)
        first
          | exact wpAny_bind (wpAny_pure (wpAny_bind fin))
          | exact wpAny_bind fin
    exact go hh w
  · intro f s1 hsp
    cases f with
    | next => exact (fun ⟨σ', H', J', q⟩ => wpAny_execs_nil ⟨σ', H', J'.ofTry ok, q⟩) hsp
    | brk => exact (fun ⟨σ', H', J', q⟩ => ⟨σ', H', J'.ofTry ok, q⟩) hsp
    | cont => exact (fun ⟨σ', H', J', q⟩ => ⟨σ', H', J'.ofTry ok, q⟩) hsp
    | ret u => exact (fun ⟨v, σ', H', J', r, q⟩ => ⟨v, σ', H', J'.ofTry ok, r, q⟩) hsp
end
/-- of an own class of errors: whether an except clause that names c is for it -/
theorem exm_own {K : PySem.W.Frag} {S c : Addr} {b : Bool} (hb : PySem.W.subIn K (.ref c) (.type "BaseException") = some true) (hs : PySem.W.isClsIn K c = true) (ht : PySem.W.typeIn K (.ref c) = some (.type "type")) (h : PySem.W.subIn K (.ref S) (.ref c) = some b) : PySem.W.exmOne K (.ref S) (.ref c) = some b := by
  have hs' : (PySem.W.clsIn K c).isSome = true := hs
  unfold PySem.W.exmOne
  rw [if_pos (by rw [hb]; rfl)]
  unfold PySem.W.kitCls
  simp only [hs', ht]
  exact h
end MC
/-! Lib4: the end of a law row over such promises. -/
namespace MC
open PySem PySem.Spec PyProof.Rows L2
theorem law_go {P : Program} {w : World} {K : PySem.W.Frag} {mg mb : Str → Option Value} {k : Nat} {fa a : Addr} {fd : FuncData} {x : Str} {sp : Sp} {t : Shared} {vs : List Value} {ns : List Int}
    (KX : K.In t.heap) (hns : t.heap.Ns mainGlobals mg) (hb : t.heap.Ns builtinsNs mb) (hbb : ∀ x : Str, x ≠ "__name__" → mb x = bootBuiltins x) (hlim : t.heap.NoLimit) (hg : t.gens = #[])
    (ha : t.heap.get? a = some { cls := .type "list", data := .seq vs.toArray }) (hi : IntsAre vs ns) (hl : ns.length ≤ sizeLine) (hr : Room k callerA)
    (F : ∀ base : Heap, K.In base → base.Ns mainGlobals mg → FnG P w K mg base k fa fd [x] sp) (hbind : ∀ (s : Shared) (u : Value), BindsTo s fd ⟨[u], []⟩ [(x, u)])
    (hsp : ∀ H : Hp, Only H → SqL K H a (ns.map V.int) → sp [.ref a] H (fun v _ => v = .bl true) E0) :
    codeAny (model P w) callerA (.call (.ref fa) ⟨[.ref a], []⟩) (fun r s' => r = .ok (.ret (.bool true)) ∧ OldK t.heap s'.heap ∧ s'.os = t.os ∧ AllBare s'.gens) t := by
  have rv := vals_ints hi
  have lenV := hi.length
  have core : ∀ H : Hp, Only H → SqL K H a (ns.map V.int) → HOk P w H t.heap → (∀ b, H b ≠ none → b = a) → (H a ≠ none → K.lookup a = none) →
      codeAny (model P w) callerA (.call (.ref fa) ⟨[.ref a], []⟩) (fun r s' => r = .ok (.ret (.bool true)) ∧ OldK t.heap s'.heap ∧ s'.os = t.os ∧ AllBare s'.gens) t := by
    intro H hO hS hok hA hK
    have onlyA : ∀ {b : Addr}, t.heap.get? b ≠ some { cls := .type "list", data := .seq vs.toArray } → H b = none := by
      intro b nb
      cases q : H b with
      | none => rfl
      | some u =>
        have e' := hA b (by rw [q]; simp)
        subst e'
        exact absurd ha nb
    have low : ∀ {b : Addr} {o : Obj}, t.heap.get? b = some o → H b = none → (hidT t.heap H).get? b = some o := hidT_get
    have nsK : ∀ {b : Addr} {m : Str → Option Value}, t.heap.Ns b m → (hidT t.heap H).Ns b m := by
      rintro b m ⟨o, es, ep, e, d, r⟩
      refine ⟨o, es, ep, low e (onlyA fun q => ?_), d, r⟩
      rw [e] at q
      cases q
      cases d
    have hKb : K.In (hidT t.heap H) := by
      intro b o e
      refine low (KX b o e) ?_
      cases q : H b with
      | none => rfl
      | some u =>
        have e' := hA b (by rw [q]; simp)
        subst e'
        rw [hK (by rw [q]; simp)] at e
        cases e
    have hM : Mod K mg (hidT t.heap H) := by
      obtain ⟨mc, h1, h2⟩ := hlim
      exact ⟨hKb, nsK hns, ⟨mb, nsK hb, hbb⟩, ⟨mc, nsK h1, h2⟩⟩
    have e0 : Env0 P w K mg (hidT t.heap H) callerA [] t H := ⟨rfl, hM, fun b o e => of_hidT e, Nat.le_of_eq (hidT_size _ _), trivial, (fun b hb => by cases hb), hok, .of_eq hg⟩
    refine codeAny_mono ((F _ hKb (nsK hns)).runG callerA [] t H ⟨[.ref a], []⟩ [.ref a] [.ref a] _ _ hr rfl e0 (hbind t (.ref a)) (.cons rfl .nil) (hsp H hO hS)) ?_
    rintro (e | fl) s' h
    · obtain ⟨_, _, _, _, _, _, _, _, _, _, _, _, z⟩ := h
      exact z.elim
    · cases fl with
      | next => exact h.elim
      | brk => exact h.elim
      | cont => exact h.elim
      | ret u =>
        obtain ⟨v, H', os, bare, un, hok', r', q⟩ := h
        cases (show v = .bl true from q)
        cases (show u = Value.bool true from r')
        refine ⟨rfl, OldK.of_keep fun b o e => ?_, os, bare⟩
        cases q : H b with
        | none => exact un.keep b o e q (by intro z; cases z) (by simp)
        | some u =>
          rcases hO b with z | ⟨ob, xs, z⟩
          · rw [q] at z
            cases z
          · obtain ⟨e1, _⟩ := hok b _ z
            obtain ⟨e2, _⟩ := hok' b _ (un.frzs b ob _ z)
            rw [e] at e1
            cases e1
            exact e2
  cases hk : K.lookup a with
  | some o =>
    have e := KX a o hk
    rw [ha] at e
    cases e
    exact core (fun _ => none) (fun _ => .inl rfl) (.inr ⟨_, vs.toArray, _, hk, rfl, rfl, rfl, by rw [List.size_toArray, lenV]; exact hl, by simpa using rv⟩) (fun b u z => by cases z) (fun b z => absurd rfl z) fun z => absurd rfl z
  | none =>
    have ea : ∀ b : Addr, (if b = a then some (HO.frz { cls := .type "list", data := .seq vs.toArray } (.lst (ns.map V.int))) else none) ≠ none → b = a := by
      intro b z
      by_cases hb : b = a
      · exact hb
      · exact absurd (if_neg hb) z
    refine core (fun b => if b = a then some (.frz { cls := .type "list", data := .seq vs.toArray } (.lst (ns.map V.int))) else none) (fun b => ?_) (.inl (.inr ⟨{ cls := .type "list", data := .seq vs.toArray }, if_pos rfl⟩)) (fun b u z => ?_) ea fun _ => hk
    · by_cases hb : b = a
      · exact .inr ⟨_, _, if_pos hb⟩
      · exact .inl (if_neg hb)
    · dsimp only at z
      have hb : b = a := ea b (by rw [z]; simp)
      subst hb
      rw [if_pos rfl] at z
      cases z
      exact ⟨ha, by rw [List.length_map]; exact hl, vs, _, rv, ha⟩
theorem walk_G {l : PySem.W.OpenLaw} {n k : Nat} {q : Program} {loose : List Str} {XP : (Str → Option Value) → Heap → Prop} {YP : World → Heap → Prop} {d : DefRec} {K : Params → PySem.W.Frag} {sp : PySem.W.Frag → Sp} {x : Str}
    (hn : l.most = some n) (hn2 : n ≤ sizeLine) (hdf : d.params.defaults = []) (hr : Room k callerA) (hY : ∀ (w : World) (h : Heap), YP w h → (K w.params).In h)
    (F : ∀ (w : World) (mg : Str → Option Value) (fa : Addr) (h : Heap), (K w.params).In h → h.Ns mainGlobals mg → mg d.name = some (.ref fa) →
      ∃ fd : FuncData, (∀ (s : Shared) (u : Value), BindsTo s fd ⟨[u], []⟩ [(x, u)]) ∧ ∀ base : Heap, (K w.params).In base → base.Ns mainGlobals mg → FnG l.prog w (K w.params) mg base k fa fd [x] (sp (K w.params)))
    (hsp : ∀ (K : PySem.W.Frag) (H : Hp) (a : Addr) (ns : List Int), ns.length ≤ n → Only H → SqL K H a (ns.map V.int) → sp K [.ref a] H (fun v _ => v = .bl true) E0) :
    PySem.W.WalkO q loose XP YP l.row.toRowW d [] (fun f vs => PySem.call f vs) := by
  refine Att.attach_call hn hdf ?_
  intro w s₀ t mg mb fa o pm cd doc a vs ns G Y ho hd hcd hmg hobj hints hlen hg
  obtain ⟨fd, hb, hF⟩ := F w mg fa _ (hY w _ Y) G.T.g hmg
  exact law_go (hY w _ Y) G.T.g G.T.b G.T.builtins G.T.nolimit hg hobj hints (Nat.le_trans hlen hn2) hr hF hb fun H hO hS => hsp _ H a ns hlen hO hS
end MC
/-! LibD: dicts whose keys are tuples of whole numbers, texts and truth values. -/
namespace MC
open PySem PySem.Spec PyProof.Rows L2
def b2i (b : Bool) : Int := PpSet.b2 b
def isKB : Key → Value → Bool
  | k, .bool b => decide (k = .inl (b2i b))
  | k, v => keyIs k v
theorem isKB_shape {k : Key} {v : Value} (h : isKB k v = true) : (∃ b, v = .bool b ∧ k = .inl (b2i b)) ∨ keyIs k v = true := by
  cases v <;> first
    | exact .inr h
    | exact .inl ⟨_, rfl, of_decide_eq_true h⟩
def kindB (prog : Program) (w : World) : PySem.KeyKind prog w Key where
  is := isKB
  hash := keyH w
  inj := fun v a b ha hb => by
    rcases isKB_shape ha with ⟨x, rfl, ea⟩ | ha
    · rcases isKB_shape hb with ⟨y, e, eb⟩ | hb
      · cases e; rw [ea, eb]
      · rcases keyIs_shape hb with ⟨i, t, _, e⟩ | ⟨i, t, _, e⟩ <;> cases e
    · rcases isKB_shape hb with ⟨y, rfl, eb⟩ | hb
      · rcases keyIs_shape ha with ⟨i, t, _, e⟩ | ⟨i, t, _, e⟩ <;> cases e
      · exact (mixKind prog w).inj v a b ha hb
  byValue := fun k v h => by
    rcases isKB_shape h with ⟨x, rfl, _⟩ | h
    · rfl
    · exact (mixKind prog w).byValue k v h
  pyHash := fun hv h => by
    rcases isKB_shape hv with ⟨x, rfl, e⟩ | hv
    · subst e
      exact PpSet.pyHash_bool h
    · exact (mixKind prog w).pyHash hv h
  eqBool := fun {Ar E s a b u v Q} hu hv h => by
    rcases isKB_shape hu with ⟨x, rfl, ea⟩ | hu
    · rcases isKB_shape hv with ⟨y, rfl, eb⟩ | hv
      · subst ea eb
        refine SeqAt.EqAt.bool_bool x y _ _ _ _ ?_
        revert h
        cases x <;> cases y <;> exact fun h => h
      · rcases keyIs_shape hv with ⟨i, t, eb, rfl⟩ | ⟨z, t, eb, rfl⟩
        · subst ea eb
          refine SeqAt.EqAt.bool_int x i t _ _ _ _ ?_
          rw [key_ll] at h
          revert h
          cases x <;> exact fun h => h
        · subst ea eb
          refine SeqAt.EqAt.bool_str x z t _ _ _ _ ?_
          rw [key_lr] at h
          exact h
    · rcases isKB_shape hv with ⟨y, rfl, eb⟩ | hv
      · rcases keyIs_shape hu with ⟨i, t, ea, rfl⟩ | ⟨z, t, ea, rfl⟩
        · subst ea eb
          refine SeqAt.EqAt.int_bool i t y _ _ _ _ ?_
          rw [key_ll] at h
          revert h
          cases y <;> exact fun h => h
        · subst ea eb
          refine SeqAt.EqAt.str_bool z t y _ _ _ _ ?_
          rw [key_rl] at h
          exact h
      · exact (mixKind prog w).eqBool hu hv h
  «strs» := fun k x t v h => by
    rcases isKB_shape h with ⟨y, e, _⟩ | h
    · cases e
    · rcases keyIs_shape h with ⟨i, u, _, e⟩ | ⟨y, u, rfl, e⟩
      · cases e
      · cases e
        cases v <;> first
          | rfl
          | (show decide ((Sum.inr _ : Key) = Sum.inl _) = _; simp; rfl)
abbrev kT (P : Program) (w : World) : HeapKind P w (List Key) := tupleKind (kindB P w)
/-- a value as an item of a key -/
def keyV : V → Option Key
  | .int i => some (.inl i)
  | .bl b => some (.inl (b2i b))
  | .str x => some (.inr x)
  | _ => none
/-- at a: a tuple that is the key ks -/
def TK (H : Hp) (a : Addr) (ks : List Key) : Prop := ∃ vs, H a = some (.tup vs) ∧ vs.map keyV = ks.map some
theorem TK.mono {H H' : Hp} {a : Addr} {ks : List Key} (h : TK H a ks) (e : Ex H H') : TK H' a ks := by
  obtain ⟨vs, h1, h2⟩ := h
  exact ⟨vs, e _ _ h1, h2⟩
theorem keyV_is {P : Program} {w : World} {v : V} {u : Value} {k : Key} (h : keyV v = some k) (r : RelV v u) : (kindB P w).is k u = true := by
  cases v with
  | int i => cases h; obtain ⟨t, rfl⟩ := r; exact keyIs_int i t
  | bl b => cases h; cases r; exact decide_eq_true rfl
  | str x => cases h; obtain ⟨t, rfl⟩ := r; exact keyIs_str x t
  | _ => cases h
theorem items_kB {P : Program} {w : World} : ∀ {ks : List Key} {vs : List V} {us : List Value}, vs.map keyV = ks.map some → Vals vs us → ItemsAre (kindB P w) ks us
  | [], [], _, _, r => by cases r; exact .nil
  | k :: ks, v :: vs, _, e, r => by
    cases r with
    | cons h t =>
      have e' := List.cons.inj e
      exact .cons (keyV_is e'.1 h) (items_kB e'.2 t)
  | [], _ :: _, _, e, _ => by cases e
  | _ :: _, [], _, e, _ => by cases e
theorem TK.is {P : Program} {w : World} {H : Hp} {h : Heap} {a : Addr} {ks : List Key} (ok : HOk P w H h) (t : TK H a ks) : (kT P w).is h ks a := by
  obtain ⟨vs, e, ev⟩ := t
  obtain ⟨_, its, r, o, h1, h2, n, h3⟩ := (show ObjOk P w H h a (.tup vs) from ok a _ e)
  exact ⟨o, its.toArray, n, h1, h2, h3, by simpa using items_kB ev r⟩
abbrev Ent := List Key × Addr × V
abbrev RelE : List Ent → List (List Key × Addr × Value) → Prop := Paired fun p q => p.1 = q.1 ∧ p.2.1 = q.2.1 ∧ RelV p.2.2 q.2.2
/-- at d: the dict with these entries (key, the key's tuple, value) -/
def exD (P : Program) (w : World) (d : Addr) (xs : List Ent) : HO := .ext fun h => (d == sysModules) = false ∧ ∃ ys, RelE xs ys ∧ ∃ o es ep, h.get? d = some o ∧ o.ExactDict ∧ o.data = .dict es ep ∧ es.toList = ys.map (entryOfKey (kT P w)) ∧ (ys.map (·.1)).Nodup
/-- .. with its keys' tuples -/
structure DB (P : Program) (w : World) (H : Hp) (d : Addr) (xs : List Ent) : Prop where
  at_ : H d = some (exD P w d xs)
  len : xs.length ≤ sizeLine
  keys : ∀ e ∈ xs, TK H e.2.1 e.1
def valT (xs : List Ent) (k : List Key) : Option V := (xs.find? fun e => decide (e.1 = k)).map (·.2.2)
def putT (xs : List Ent) (k : List Key) (a : Addr) (v : V) : List Ent := if (valT xs k).isSome then xs.map (fun e => if e.1 = k then (e.1, e.2.1, v) else e) else xs ++ [(k, a, v)]
theorem RelE.val {xs : List Ent} {ys : List (List Key × Addr × Value)} (r : RelE xs ys) (k : List Key) : RelO (valT xs k) ((atKey ys k).map (·.2)) := by
  induction r with
  | nil => exact True.intro
  | @cons p q ps qs h t ih =>
    obtain ⟨h1, h2, h3⟩ := h
    unfold valT atKey at *
    by_cases e : p.1 = k
    · have e' : q.1 = k := h1.symm.trans e
      simp only [List.find?_cons, e, e', decide_true, Option.map_some]
      exact h3
    · have e' : ¬ q.1 = k := fun z => e (h1.trans z)
      simp only [List.find?_cons, e, e', decide_false]
      exact ih
theorem RelE.put {xs : List Ent} {ys : List (List Key × Addr × Value)} (r : RelE xs ys) (k : List Key) (a : Addr) {v : V} {u : Value} (rv : RelV v u) : RelE (putT xs k a v) (storedH ys k a u) := by
  have e : (valT xs k).isSome = (atKey ys k).isSome := by
    rw [(r.val k).isSome_eq, Option.isSome_map]
  unfold putT storedH
  rw [e]
  split
  · next hsome =>
    clear e hsome
    induction r with
    | nil => exact .nil
    | @cons p q ps qs h t ih =>
      obtain ⟨h1, h2, h3⟩ := h
      rw [List.map_cons, List.map_cons]
      refine .cons ?_ ih
      unfold putAt
      by_cases e : p.1 = k
      · rw [if_pos e, if_pos (h1.symm.trans e)]; exact ⟨h1, h2, rv⟩
      · rw [if_neg e, if_neg (fun z => e (h1.trans z))]; exact ⟨h1, h2, h3⟩
  · exact Paired.snoc r ⟨rfl, rfl, rv⟩
theorem length_putT (xs : List Ent) (k : List Key) (a : Addr) (v : V) : (putT xs k a v).length ≤ xs.length + 1 := by
  unfold putT
  split
  · rw [List.length_map]; omega
  · simp
theorem exD_ok {P : Program} {w : World} {H : Hp} {h : Heap} {d : Addr} {xs : List Ent} {ys : List (List Key × Addr × Value)} (hd : (d == sysModules) = false) (r : RelE xs ys) (x : ∃ o es ep, h.get? d = some o ∧ o.ExactDict ∧ o.data = .dict es ep ∧ es.toList = ys.map (entryOfKey (kT P w)) ∧ (ys.map (·.1)).Nodup) : ObjOk P w H h d (exD P w d xs) := by
  obtain ⟨o, es, ep, h1, h2⟩ := x
  refine ⟨⟨hd, ys, r, o, es, ep, h1, h2⟩, ⟨o, h1⟩, ?_⟩
  rintro a b ⟨hd', ys', r', o', es', ep', q1, q2⟩ k
  exact ⟨hd', ys', r', o', es', ep', k _ q1, q2⟩
theorem exD_ne_tup {P : Program} {w : World} {d : Addr} {xs : List Ent} {vs : List V} : HO.tup vs ≠ exD P w d xs := by
  intro z
  have z' : HO.tup vs = HO.ext _ := z
  cases z'
theorem DB.of {P : Program} {w : World} {H : Hp} {h : Heap} {d : Addr} {xs : List Ent} (ok : HOk P w H h) (b : DB P w H d xs) : (d == sysModules) = false ∧ ∃ ys, RelE xs ys ∧ h.DictOfH (kT P w) d ys := by
  obtain ⟨⟨hd, ys, r, o, es, ep, h1, h2, h3, h4, h5⟩, _⟩ := (show ObjOk P w H h d (.ext _) from ok d _ b.at_)
  refine ⟨hd, ys, r, o, es, ep, h1, h2, h3, h4, ?_, h5⟩
  have all : ∀ {xs : List Ent} {ys : List (List Key × Addr × Value)}, RelE xs ys → (∀ e ∈ xs, TK H e.2.1 e.1) → ∀ y ∈ ys, (kT P w).is h y.1 y.2.1 := by
    intro xs ys r
    induction r with
    | nil => intro _ y hy; cases hy
    | @cons p q ps qs hq t ih =>
      intro hk y hy
      rcases List.mem_cons.mp hy with e | hy
      · subst e
        rw [← hq.1, ← hq.2.1]
        exact (hk p List.mem_cons_self).is ok
      · exact ih (fun e he => hk e (List.mem_cons_of_mem _ he)) y hy
  exact all r b.keys
section
variable {X : Cx} {pins : List (Addr × Obj)} {σ : L2.St} {H : Hp} {s : Shared}
theorem DB.type {d : Addr} {xs : List Ent} (I : Inv X pins σ H s) (b : DB X.prog X.w H d xs) : s.TypeIs (.ref d) "dict" ∧ (∀ b, Value.ref d = .ref b → ∃ ob, s.heap.get? b = some ob ∧ ob.dict = none) ∧ (d == sysModules) = false := by
  obtain ⟨hd, ys, r, dd⟩ := b.of I.hok
  refine ⟨dd.typeIs, fun b q => ?_, hd⟩
  cases q
  obtain ⟨ob, _, _, h1, h2, _⟩ := dd
  exact ⟨ob, h1, h2.2.1⟩
def rInB (P : Program) (w : World) (neg : Bool) : R2 := fun x y H Q => ∃ d a ks xs, y = .ref d ∧ x = .ref a ∧ DB P w H d xs ∧ TK H a ks ∧ Q (.bl (bx neg (valT xs ks).isSome)) H
theorem op_inB (hu : X.A.units + 65 < cLine) : OpR X (compareOp .In) (rInB X.prog X.w false) := by
  rintro pins s σ H x y v u Q I rx ry ⟨d, a, ks, xs, rfl, rfl, b, t, q⟩
  cases (show v = Value.ref a from rx)
  cases (show u = Value.ref d from ry)
  obtain ⟨hd, ys, r, dd⟩ := b.of I.hok
  refine wpAny_in_heap (tupleKind_room_in1 (by omega)) (t.is I.hok) hd dd ?_
  have e := (r.val ks).isSome_eq
  rw [Option.isSome_map] at e
  rw [← e]
  exact ⟨.bl _, H, I.tok _, rfl, q⟩
theorem op_notInB (hu : X.A.units + 65 < cLine) : OpR X (compareOp .NotIn) (rInB X.prog X.w true) := by
  rintro pins s σ H x y v u Q I rx ry ⟨d, a, ks, xs, rfl, rfl, b, t, q⟩
  cases (show v = Value.ref a from rx)
  cases (show u = Value.ref d from ry)
  obtain ⟨hd, ys, r, dd⟩ := b.of I.hok
  refine wpAny_notIn_heap (tupleKind_room_in1 (by omega)) (t.is I.hok) hd dd ?_
  have e := (r.val ks).isSome_eq
  rw [Option.isSome_map] at e
  rw [← e]
  exact ⟨.bl _, H, I.tok _, rfl, q⟩
/-- d[k] -/
def tBget (P : Program) (w : World) (td ty : TE) : TE := fun σ H Q => td σ H fun x H1 => ty σ H1 fun y H2 => ∃ d a ks xs v, x = .ref d ∧ y = .ref a ∧ DB P w H2 d xs ∧ TK H2 a ks ∧ valT xs ks = some v ∧ Q v H2
theorem pe_dBget {o i : Expr} {td ty : TE} {pos : Pos} (hu : X.A.units + 1 < cLine) (ho : PE X o td) (hi : PE X i ty) (hs : NoSl i) : PE X (.Subscript o i pos) (tBget X.prog X.w td ty) := by
  refine ⟨fun pins s σ H Q I h => subD_of PySem.F.slot_dict_getitem.lookup hs (thn (ho.run pins s σ H _ I h) ?_)⟩
  rintro u s1 ⟨x, H1, I1, rx, q1⟩
  refine thn (hi.run pins s1 σ H1 _ I1 q1) ?_
  rintro iv s2 ⟨y, H2, I2, ry, d, a, ks, xs, v, rfl, rfl, b, t, hv, q2⟩
  cases (show u = Value.ref d from rx)
  cases (show iv = Value.ref a from ry)
  obtain ⟨hd, ys, r, dd⟩ := b.of I2.hok
  obtain ⟨w', hw, rw'⟩ := RelO.some_of (v := v) (o := (atKey ys ks).map (·.2)) (by rw [← hv]; exact r.val ks)
  obtain ⟨p, hp, hp2⟩ := Option.map_eq_some_iff.mp hw
  refine ⟨dd.typeIs, wpAny_getItem_heap (tupleKind_room_in1 hu) (t.is I2.hok) dd hp ?_⟩
  rw [hp2]
  exact ⟨v, H2, I2.tok _, rw', q2⟩
/-- d[k] = v -/
def sBput (P : Program) (w : World) (td ty tv : TE) : TS := fun D σ H => tv σ H fun v H1 => td σ H1 fun x H2 => ty σ H2 fun y H3 => ∃ d a ks xs, x = .ref d ∧ y = .ref a ∧ DB P w H3 d xs ∧ TK H3 a ks ∧ xs.length < sizeLine ∧ D.nx σ (upd H3 d (exD P w d (putT xs ks a v)))
theorem ps_dBput {o i value : Expr} {td ty tv : TE} {pos pos' : Pos} (hu : X.A.units + 1 < cLine) (ho : PE X o td) (hi : PE X i ty) (hv : PE X value tv) (hs : swapsWith value (some (.Subscript o i pos')) pos.line X.env = pure false) :
    PS X (.Assign [.Subscript o i pos'] value pos) (sBput X.prog X.w td ty tv) := by
  refine ⟨fun pins s σ H D I h => wpAny_Assign_Subscript (thn (hv.run pins s σ H _ I h) ?_) hs⟩
  rintro rv s1 ⟨v, H1, I1, rr, q1⟩
  refine thn (ho.run pins s1 σ H1 _ I1 q1) ?_
  rintro u s2 ⟨x, H2, I2, rx, q2⟩
  refine thn (hi.run pins s2 σ H2 _ I2 q2) ?_
  rintro iv s3 ⟨y, H3, I3, ry, d, a, ks, xs, rfl, rfl, b, t, hl, q3⟩
  cases (show u = Value.ref d from rx)
  cases (show iv = Value.ref a from ry)
  obtain ⟨hd, ys, r, dd⟩ := b.of I3.hok
  have hz : ys.length ≤ sizeLine := by rw [← Paired.length r]; exact b.len
  refine wpAny_setItem_heap (hsz := hz) (tupleKind_room_in1 hu) (t.is I3.hok) dd fun h' dd' hs' => ?_
  obtain ⟨o', es, ep, ho', h2, h3, h4, _, h5⟩ := dd'
  refine ⟨σ, _, d_write I3 (by rw [b.at_]; exact True.intro) hs' ⟨o', ho'⟩ (exD_ok hd (r.put ks a rr) ⟨o', es, ep, ho', h2, h3, h4, h5⟩), q3⟩
theorem DB.put {P : Program} {w : World} {H : Hp} {d a : Addr} {xs : List Ent} {ks : List Key} {v : V} (b : DB P w H d xs) (t : TK H a ks) (hl : xs.length < sizeLine) : DB P w (upd H d (exD P w d (putT xs ks a v))) d (putT xs ks a v) := by
  have keep : ∀ {c : Addr} {l : List Key}, TK H c l → TK (upd H d (exD P w d (putT xs ks a v))) c l := by
    rintro c l ⟨vs, e, ev⟩
    exact ⟨vs, by rw [upd_ne (ne_of e b.at_ exD_ne_tup)]; exact e, ev⟩
  refine ⟨upd_same, ?_, ?_⟩
  · have := length_putT xs ks a v
    omega
  · intro e he
    refine keep ?_
    unfold putT at he
    split at he
    · obtain ⟨e0, h0, rfl⟩ := List.mem_map.mp he
      split
      · exact b.keys e0 h0
      · exact b.keys e0 h0
    · rcases List.mem_append.mp he with he | he
      · exact b.keys e he
      · cases List.mem_singleton.mp he
        exact t
/-- d.get(k), d.get(k, x) -/
def tBget1 (P : Program) (w : World) (td ty : TE) : TE := fun σ H Q => td σ H fun x H1 => (∃ d xs, x = .ref d ∧ DB P w H1 d xs) ∧ ty σ H1 fun y H2 => ∃ d a ks xs, x = .ref d ∧ y = .ref a ∧ DB P w H2 d xs ∧ TK H2 a ks ∧ Q ((valT xs ks).getD .non) H2
def tBget2 (P : Program) (w : World) (td ty tx : TE) : TE := fun σ H Q => td σ H fun x H1 => (∃ d xs, x = .ref d ∧ DB P w H1 d xs) ∧ ty σ H1 fun y H2 => tx σ H2 fun z H3 => ∃ d a ks xs, x = .ref d ∧ y = .ref a ∧ DB P w H3 d xs ∧ TK H3 a ks ∧ Q ((valT xs ks).getD z) H3
theorem pe_dBget1 {o e : Expr} {td ty : TE} {apos cpos : Pos} (hu : X.A.units + 1 < cLine) (ho : PE X o td) (he : PE X e ty) (m : M1 X o "get" apos e cpos) : PE X (.Call (.Attribute o "get" apos) [e] [] cpos) (tBget1 X.prog X.w td ty) := by
  refine ⟨fun pins s σ H Q I h => wpAny_Call_method m.base m.few m.line PySem.F.plainAttrs_dict PySem.F.slot_dict_get PySem.F.type_dict_get (thn (ho.run pins s σ H _ I h) ?_)⟩
  rintro u s1 ⟨x, H1, I1, rx, ⟨d, xs, ex, b⟩, q1⟩
  subst ex
  cases (show u = Value.ref d from rx)
  obtain ⟨t1, t2, _⟩ := b.type I1
  refine ⟨t1, t2, ?_⟩
  rw [m.trees]
  refine Calls.callWith_builtin rfl (Calls.evalArgs_plain (Calls.spliced_cons (thn (he.run pins s1 σ H1 _ I1 q1) ?_)))
  rintro iv s2 ⟨y, H2, I2, ry, d', a, ks, xs', ed, rfl, b', t, q2⟩
  cases ed
  cases (show iv = Value.ref a from ry)
  obtain ⟨hd, ys, r, dd⟩ := b'.of I2.hok
  exact Calls.spliced_nil (call_meetsIn PySem.F.slot_dict_get dd.typeIs PySem.F.entry_dict_get (PySem.F.args_dict_get_2 _ _) (meetsH_dict_get (kT X.prog X.w) d a hd) ⟨tupleKind_room_in1 hu, ks, ys, t.is I2.hok, dd, ⟨_, H2, I2.tok _, RelO.getD (d := V.non) (d' := Value.none) (r.val ks) rfl, q2⟩⟩)
theorem pe_dBget2 {o e f : Expr} {td ty tx : TE} {apos cpos : Pos} (hu : X.A.units + 1 < cLine) (ho : PE X o td) (he : PE X e ty) (hf : PE X f tx) (m : M2 X o "get" apos e f cpos) : PE X (.Call (.Attribute o "get" apos) [e, f] [] cpos) (tBget2 X.prog X.w td ty tx) := by
  refine ⟨fun pins s σ H Q I h => wpAny_Call_method m.base m.few m.line PySem.F.plainAttrs_dict PySem.F.slot_dict_get PySem.F.type_dict_get (thn (ho.run pins s σ H _ I h) ?_)⟩
  rintro u s1 ⟨x, H1, I1, rx, ⟨d, xs, ex, b⟩, q1⟩
  subst ex
  cases (show u = Value.ref d from rx)
  obtain ⟨t1, t2, _⟩ := b.type I1
  refine ⟨t1, t2, ?_⟩
  rw [m.trees]
  refine Calls.callWith_builtin rfl (Calls.evalArgs_plain (Calls.spliced_cons (thn (he.run pins s1 σ H1 _ I1 q1) ?_)))
  rintro iv s2 ⟨y, H2, I2, ry, q2⟩
  refine Calls.spliced_cons (thn (hf.run pins s2 σ H2 _ I2 q2) ?_)
  rintro fv s3 ⟨z, H3, I3, rz, d', a, ks, xs', ed, rfl, b', t, q3⟩
  cases ed
  cases (show iv = Value.ref a from ry)
  obtain ⟨hd, ys, r, dd⟩ := b'.of I3.hok
  exact Calls.spliced_nil (call_meetsIn PySem.F.slot_dict_get dd.typeIs PySem.F.entry_dict_get (PySem.F.args_dict_get_3 _ _ _) (meetsH_dict_get_default (kT X.prog X.w) d a hd _) ⟨tupleKind_room_in1 hu, ks, ys, t.is I3.hok, dd, ⟨_, H3, I3.tok _, RelO.getD (r.val ks) rz, q3⟩⟩)
/-- {k: v}, one pair -/
def tB1 (P : Program) (w : World) (tk tv : TE) : TE := fun σ H Q => ∀ d, H d = none → tk σ (upd H d (exD P w d [])) fun x H1 => tv σ H1 fun y H2 => ∃ a ks, x = .ref a ∧ TK H2 a ks ∧ H2 d = some (exD P w d []) ∧ Q (.ref d) (upd H2 d (exD P w d [(ks, a, y)]))
theorem exD_empty {P : Program} {w : World} {H : Hp} (h : Heap) (hb : sysModules < h.objs.size) : ObjOk P w H (h.push { cls := .type "dict", data := .dict #[] }) h.objs.size (exD P w h.objs.size []) :=
  exD_ok (ys := []) (beq_eq_false_iff_ne.mpr (Ne.symm (Nat.ne_of_lt hb))) .nil ⟨_, _, _, Heap.get?_push_size _ rfl, ⟨rfl, rfl, rfl⟩, rfl, rfl, List.nodup_nil⟩
theorem pe_dB1 {k v : Expr} {tk tv : TE} {pos : Pos} (hu : X.A.units + 1 < cLine) (hk : PE X k tk) (hv : PE X v tv) : PE X (.Dict [some k] [v] pos) (tB1 X.prog X.w tk tv) := by
  refine ⟨fun pins s σ H Q I h => ?_⟩
  have hn := I.hok.fresh (Nat.le_refl s.heap.objs.size)
  have I0 := I.laid (a := s.heap.objs.size) (o := exD X.prog X.w s.heap.objs.size []) (h' := s.heap.push { cls := .type "dict", data := .dict #[] }) (t' := s.toks) (fun _ _ q => Heap.get?_push_of_some _ q) (Nat.le_refl _) (exD_empty s.heap I.big)
  refine wpAny_Dict_any (keys := [some k]) rfl rfl (by simp) (by show 1 ≤ 15; decide) (pairTrees_cons_walk (thn (hk.run pins _ σ _ _ I0 (h _ hn)) ?_))
  rintro u s1 ⟨x, H1, I1, rx, q1⟩
  refine thn (hv.run pins s1 σ H1 _ I1 q1) ?_
  rintro y0 s2 ⟨y, H2, I2, ry, a, ks, rfl, t, e2, q2⟩
  refine pairTrees_nil_walk ?_
  cases (show u = Value.ref a from rx)
  have b : DB X.prog X.w H2 s.heap.objs.size [] := ⟨e2, Nat.zero_le _, fun e he => by cases he⟩
  obtain ⟨hd, ys, r, dd⟩ := b.of I2.hok
  cases r
  unfold storeAll
  rw [List.forIn_cons]
  refine wpAny_bind (wpAny_bind (wpAny_dictSet_heap (knd := kT X.prog X.w) (hsz := Nat.zero_le _) (by show X.A.units < cLine; omega) (t.is I2.hok) dd fun h' dd' hs' => wpAny_pure ?_))
  show wpAny _ _ (forIn ([] : List (Value × Value)) _ _) _ _ _
  rw [List.forIn_nil]
  refine wpAny_pure ?_
  obtain ⟨o', es, ep, ho', g2, g3, g4, _, g5⟩ := dd'
  exact ⟨.ref s.heap.objs.size, _, d_write I2 (by rw [e2]; exact True.intro) hs' ⟨o', ho'⟩ (exD_ok (xs := [(ks, a, y)]) hd (.cons ⟨rfl, rfl, ry⟩ .nil) ⟨o', es, ep, ho', g2, g3, g4, g5⟩), rfl, q2⟩
/-- -1, a written number -/
theorem pe_negc {i : Int} {j : Nat} {p pos : Pos} : PE X (.UnaryOp .USub (.Constant (.int i) j p) pos) (tC (.int (-i))) := PE.imp (pe_un un_neg pe_int) fun σ H Q q => ⟨i, rfl, q⟩
end
/-! ### within the frame of a comprehension: the reading in the terms of the def's own K -/
theorem kOp {X : Cx} {K : PySem.W.Frag} {r : PySem.W.Frag → R2} {op : Value → Value → Sem Value} (h : OpR X op (r X.K)) (hK : X.K = K := by rfl) : OpR X op (r K) := hK ▸ h
theorem kIx {X : Cx} {K : PySem.W.Frag} (h : IxR X (rIxU X.K) := ix_U) (hK : X.K = K := by rfl) : IxR X (rIxU K) := hK ▸ h
theorem kSl {X : Cx} {K : PySem.W.Frag} (h : SlR X (rSlU X.K) := sl_U) (hK : X.K = K := by rfl) : SlR X (rSlU K) := hK ▸ h
theorem kLen {X : Cx} {K : PySem.W.Frag} (h : CallR X (.builtin "len") (rLenU X.K) := call_lenU) (hK : X.K = K := by rfl) : CallR X (.builtin "len") (rLenU K) := hK ▸ h
def tJoinU (K : PySem.W.Frag) (to te : TE) : TE := tM1 (fun x xs H Q => ∃ a p, ∃ ys : List Str, x = .str a ∧ xs = [.ref p] ∧ (SqL K H p (ys.map V.str) ∨ SqT K H p (ys.map V.str)) ∧ (ys.map (·.length)).sum + ys.length * a.length ≤ 16777216 ∧ Q (.str (Txt.join a ys)) H) to te
theorem kJoin {X : Cx} {K : PySem.W.Frag} {o e : Expr} {to te : TE} {apos pos : Pos} (ho : PE X o to) (he : PE X e te) (hs : starEach [e] X.env = [(false, eval e X.env)] := by rfl) (hbase : attributeBase o "join" X.env (eval o X.env) = eval o X.env := by rfl) (hline : (apos.endLine == pos.line) = true := by rfl) (hK : X.K = K := by rfl) :
    PE X (.Call (.Attribute o "join" apos) [e] [] pos) (tJoinU K to te) := by
  subst hK
  exact pe_join ho he hs hbase hline
theorem kIsi {X : Cx} {K : PySem.W.Frag} (h : CallR X (.builtin "isinstance") (rIsi X.K) := call_isi) (hK : X.K = K := by rfl) : CallR X (.builtin "isinstance") (rIsi K) := hK ▸ h
end MC
/-! WM: letters and words as lists of codes, and what the program makes of them. -/
namespace MC
open PySem PySem.Spec PyProof.Rows L2
abbrev cs (z : Str) : List Nat := z.cps.toList
def mkS (l : List Nat) : Str := ⟨l.toArray⟩
theorem cs_mk (l : List Nat) : cs (mkS l) = l := rfl
theorem mk_cs (z : Str) : mkS (cs z) = z := by cases z; rfl
theorem str_ext {a b : Str} (h : cs a = cs b) : a = b := by
  rw [← mk_cs a, ← mk_cs b, h]
theorem cs_app (a b : Str) : cs (a ++ b) = cs a ++ cs b := by
  show (a.cps ++ b.cps).toList = _
  simp
theorem len_cs (z : Str) : z.length = (cs z).length := by
  show z.cps.size = _
  simp
def isSm (c : Nat) : Bool := decide (97 ≤ c ∧ c ≤ 122)
def isCp (c : Nat) : Bool := decide (65 ≤ c ∧ c ≤ 90)
def isMk (c : Nat) : Bool := c == 39 || c == 96 || c == 94 || c == 126 || c == 58
theorem in_small (c : Nat) : decide (c ∈ cs ("abcdefghijklmnopqrstuvwxyz" : Str)) = isSm c := by
  have e : cs ("abcdefghijklmnopqrstuvwxyz" : Str) = (List.range 26).map (97 + ·) := by decide +kernel
  rw [e]
  unfold isSm
  rw [Bool.eq_iff_iff]
  simp only [decide_eq_true_eq, List.mem_map, List.mem_range]
  constructor
  · rintro ⟨a, h, rfl⟩; omega
  · intro h; exact ⟨c - 97, by omega, by omega⟩
theorem in_caps (c : Nat) : decide (c ∈ cs ("ABCDEFGHIJKLMNOPQRSTUVWXYZ" : Str)) = isCp c := by
  have e : cs ("ABCDEFGHIJKLMNOPQRSTUVWXYZ" : Str) = (List.range 26).map (65 + ·) := by decide +kernel
  rw [e]
  unfold isCp
  rw [Bool.eq_iff_iff]
  simp only [decide_eq_true_eq, List.mem_map, List.mem_range]
  constructor
  · rintro ⟨a, h, rfl⟩; omega
  · intro h; exact ⟨c - 65, by omega, by omega⟩
theorem in_marks (c : Nat) : decide (c ∈ cs ("'`^~:" : Str)) = isMk c := by
  have e : cs ("'`^~:" : Str) = [39, 96, 94, 126, 58] := by decide +kernel
  rw [e]
  unfold isMk
  rw [Bool.eq_iff_iff]
  simp [or_assoc]
/-- one sign more -/
def letStep (acc : List (List Nat)) (c : Nat) : Option (List (List Nat)) :=
  if isSm c || isCp c then some (acc ++ [[c]])
  else if isMk c && !acc.isEmpty && (acc.getLastD []).length == 1 then some (acc.dropLast ++ [acc.getLastD [] ++ [c]])
  else none
def lets : List (List Nat) → List Nat → Option (List (List Nat))
  | acc, [] => some acc
  | acc, c :: r => match letStep acc c with
    | none => none
    | some a => lets a r
/-- a word: one to eight letters -/
def isWord (z : Str) : Bool := decide (1 ≤ z.length ∧ z.length ≤ 16) && (match lets [] (cs z) with
  | none => false
  | some ls => decide (ls.length ≤ 8))
/-- letters with their marks -/
abbrev Lt := Nat × Option Nat
def LtOk (l : Lt) : Prop := (isSm l.1 = true ∨ isCp l.1 = true) ∧ ∀ m, l.2 = some m → isMk m = true
def ltS (l : Lt) : List Nat := l.1 :: l.2.toList
def spell (ls : List Lt) : List Nat := ls.flatMap ltS
theorem ltr_not_mark {c : Nat} (h : isMk c = true) : isSm c = false ∧ isCp c = false := by
  unfold isMk at h
  simp only [Bool.or_eq_true, beq_iff_eq] at h
  unfold isSm isCp
  constructor <;> (rw [decide_eq_false_iff_not]; omega)
theorem lets_spell : ∀ (ls : List Lt) (acc : List (List Nat)), (∀ l ∈ ls, LtOk l) → lets acc (spell ls) = some (acc ++ ls.map ltS)
  | [], acc, _ => by simp [spell, lets]
  | (c, none) :: r, acc, h => by
    have h1 := h _ List.mem_cons_self
    have hc : (isSm c || isCp c) = true := by
      rcases h1.1 with q | q
      · have q' : isSm c = true := q
        simp [q']
      · have q' : isCp c = true := q
        simp [q']
    have ih := lets_spell r (acc ++ [[c]]) fun l hl => h l (List.mem_cons_of_mem _ hl)
    show lets acc (c :: spell r) = _
    simp only [lets, letStep, hc, if_true, ih]
    simp [ltS]
  | (c, some m) :: r, acc, h => by
    have h1 := h _ List.mem_cons_self
    have hc : (isSm c || isCp c) = true := by
      rcases h1.1 with q | q
      · have q' : isSm c = true := q
        simp [q']
      · have q' : isCp c = true := q
        simp [q']
    have hm : isMk m = true := h1.2 m rfl
    obtain ⟨m1, m2⟩ := ltr_not_mark hm
    have ih := lets_spell r (acc ++ [[c, m]]) fun l hl => h l (List.mem_cons_of_mem _ hl)
    show lets acc (c :: m :: spell r) = _
    simp only [lets, letStep, hc, if_true, m1, m2, hm]
    simp [ih, ltS]
/-- z is a word: its letters -/
def GoodW (z : Str) : Prop := ∃ ls : List Lt, (∀ l ∈ ls, LtOk l) ∧ 1 ≤ ls.length ∧ ls.length ≤ 8 ∧ cs z = spell ls
theorem spell_len : ∀ ls : List Lt, ls.length ≤ (spell ls).length ∧ (spell ls).length ≤ 2 * ls.length
  | [] => by simp [spell]
  | (c, o) :: r => by
    have ih := spell_len r
    have e : spell ((c, o) :: r) = (c :: o.toList) ++ spell r := rfl
    rw [e]
    cases o <;> simp <;> omega
theorem GoodW.len {z : Str} (h : GoodW z) : 1 ≤ z.length ∧ z.length ≤ 16 := by
  obtain ⟨ls, _, h1, h2, e⟩ := h
  rw [len_cs, e]
  have := spell_len ls
  omega
theorem GoodW.isWord {z : Str} (h : GoodW z) : isWord z = true := by
  have hl := h.len
  obtain ⟨ls, h0, h1, h2, e⟩ := h
  unfold MC.isWord
  rw [e, lets_spell ls [] h0]
  simp [hl.1, hl.2, h2]

/-! ### words joined, cut, in capitals, without marks -/
theorem joinL_flat : ∀ ls : List (List Nat), TL.joinL [] ls = ls.flatten
  | [] => rfl
  | [p] => by simp [TL.joinL]
  | p :: q :: r => by
    show p ++ ([] ++ TL.joinL [] (q :: r)) = _
    rw [joinL_flat (q :: r)]
    simp
theorem cs_join (ys : List Str) : cs (Txt.join "" ys) = (ys.map cs).flatten := by
  rw [TL.join_eq]
  show TL.tl _ = _
  rw [TL.tl_join, show TL.tl ("" : Str) = [] from by decide +kernel, joinL_flat]
theorem spell_flat (ls : List Lt) : ((ls.map fun l => mkS (ltS l)).map cs).flatten = spell ls := by
  rw [List.map_map]
  induction ls with
  | nil => rfl
  | cons l r ih =>
    show ltS l ++ _ = ltS l ++ spell r
    exact congrArg _ ih
theorem good_join {ls : List Lt} (h : ∀ l ∈ ls, LtOk l) (h1 : 1 ≤ ls.length) (h8 : ls.length ≤ 8) : GoodW (Txt.join "" (ls.map fun l => mkS (ltS l))) := ⟨ls, h, h1, h8, by rw [cs_join, spell_flat]⟩
theorem lt_ascii {l : Lt} (h : LtOk l) : ∀ c ∈ ltS l, c < 128 := by
  intro c hc
  obtain ⟨a, o⟩ := l
  rcases List.mem_cons.mp hc with e | hc
  · subst e
    rcases h.1 with q | q
    · unfold isSm at q; rw [decide_eq_true_eq] at q; omega
    · unfold isCp at q; rw [decide_eq_true_eq] at q; omega
  · cases o with
    | none => cases hc
    | some m =>
      cases List.mem_singleton.mp hc
      have q := h.2 c rfl
      unfold isMk at q
      simp only [Bool.or_eq_true, beq_iff_eq] at q
      omega
theorem GoodW.ascii {z : Str} (h : GoodW z) : ∀ c ∈ cs z, c < 128 := by
  obtain ⟨ls, h0, _, _, e⟩ := h
  rw [e]
  intro c hc
  obtain ⟨l, hl, hc⟩ := List.mem_flatMap.mp hc
  exact lt_ascii (h0 l hl) c hc
def mapLt (f : Nat → Nat) (l : Lt) : Lt := (f l.1, l.2)
theorem spell_map {f : Nat → Nat} (hf : ∀ m, isMk m = true → f m = m) : ∀ {ls : List Lt}, (∀ l ∈ ls, LtOk l) → (spell ls).map f = spell (ls.map (mapLt f))
  | [], _ => rfl
  | (c, o) :: r, h => by
    have ih := spell_map hf (ls := r) fun l hl => h l (List.mem_cons_of_mem _ hl)
    have e : spell ((c, o) :: r) = ltS (c, o) ++ spell r := rfl
    have e2 : spell (((c, o) :: r).map (mapLt f)) = ltS (f c, o) ++ spell (r.map (mapLt f)) := rfl
    rw [e, e2, List.map_append, ih]
    congr 1
    cases o with
    | none => rfl
    | some m =>
      have q := (h _ List.mem_cons_self).2 m rfl
      show [f c, f m] = [f c, m]
      rw [hf m q]
theorem up1_mark (m : Nat) (h : isMk m = true) : up1 m = m := by
  obtain ⟨h1, _⟩ := ltr_not_mark h
  unfold isSm at h1
  unfold up1
  rw [if_neg (by simpa using h1)]
theorem lo1_mark (m : Nat) (h : isMk m = true) : lo1 m = m := by
  obtain ⟨_, h1⟩ := ltr_not_mark h
  unfold isCp at h1
  unfold lo1
  rw [if_neg (by simpa using h1)]
theorem up_ok {l : Lt} (h : LtOk l) : LtOk (mapLt up1 l) := by
  refine ⟨.inr ?_, h.2⟩
  show isCp (up1 l.1) = true
  rcases h.1 with q | q
  · unfold isSm at q; unfold isCp up1
    rw [decide_eq_true_eq] at q ⊢
    rw [if_pos q]; omega
  · unfold isCp at q; unfold isCp up1
    rw [decide_eq_true_eq] at q ⊢
    rw [if_neg (by omega)]; exact q
theorem lo_ok {l : Lt} (h : LtOk l) : LtOk (mapLt lo1 l) := by
  refine ⟨.inl ?_, h.2⟩
  show isSm (lo1 l.1) = true
  rcases h.1 with q | q
  · unfold isSm at q; unfold isSm lo1
    rw [decide_eq_true_eq] at q ⊢
    rw [if_neg (by omega)]; exact q
  · unfold isCp at q; unfold isSm lo1
    rw [decide_eq_true_eq] at q ⊢
    rw [if_pos q]; omega
theorem cs_upper {z : Str} (h : ∀ c ∈ cs z, c < 128) : cs (Txt.upper z) = (cs z).map up1 := by
  rw [upper_ascii h]
  show (z.cps.map up1).toList = _
  simp
theorem cs_lower {z : Str} (h : ∀ c ∈ cs z, c < 128) : cs (Txt.lower z) = (cs z).map lo1 := by
  rw [lower_ascii h]
  show (z.cps.map lo1).toList = _
  simp
theorem GoodW.upper {z : Str} (h : GoodW z) : GoodW (Txt.upper z) := by
  have ha := h.ascii
  obtain ⟨ls, h0, h1, h2, e⟩ := h
  refine ⟨ls.map (mapLt up1), ?_, by simpa using h1, by simpa using h2, by rw [cs_upper ha, e, spell_map up1_mark h0]⟩
  intro l hl
  obtain ⟨l', hl', rfl⟩ := List.mem_map.mp hl
  exact up_ok (h0 l' hl')
theorem GoodW.lower {z : Str} (h : GoodW z) : GoodW (Txt.lower z) := by
  have ha := h.ascii
  obtain ⟨ls, h0, h1, h2, e⟩ := h
  refine ⟨ls.map (mapLt lo1), ?_, by simpa using h1, by simpa using h2, by rw [cs_lower ha, e, spell_map lo1_mark h0]⟩
  intro l hl
  obtain ⟨l', hl', rfl⟩ := List.mem_map.mp hl
  exact lo_ok (h0 l' hl')
theorem alpha_lt {c : Nat} (h : c < 128) : Txt.isalpha ⟨#[c]⟩ = (isSm c || isCp c) := by
  have key : ∀ c, c < 128 → Txt.isalpha ⟨#[c]⟩ = (isSm c || isCp c) := by decide +kernel
  exact key c h
theorem spell_filter : ∀ {ls : List Lt}, (∀ l ∈ ls, LtOk l) → (spell ls).filter (fun c => Txt.isalpha ⟨#[c]⟩) = spell (ls.map fun l => (l.1, none))
  | [], _ => rfl
  | (c, o) :: r, h => by
    have ih := spell_filter (ls := r) fun l hl => h l (List.mem_cons_of_mem _ hl)
    have h0 := h _ List.mem_cons_self
    have e : spell ((c, o) :: r) = ltS (c, o) ++ spell r := rfl
    have e2 : spell (((c, o) :: r).map fun l => (l.1, none)) = [c] ++ spell (r.map fun l => (l.1, none)) := rfl
    rw [e, e2, List.filter_append, ih]
    congr 1
    have hc : Txt.isalpha ⟨#[c]⟩ = true := by
      rw [alpha_lt (lt_ascii h0 c List.mem_cons_self)]
      rcases h0.1 with q | q
      · rw [show isSm c = true from q]; rfl
      · rw [show isCp c = true from q, Bool.or_true]
    cases o with
    | none => simp [ltS, hc]
    | some m =>
      have q := h0.2 m rfl
      obtain ⟨m1, m2⟩ := ltr_not_mark q
      have hm : Txt.isalpha ⟨#[m]⟩ = false := by
        rw [alpha_lt (lt_ascii h0 m (List.mem_cons_of_mem _ List.mem_cons_self)), m1, m2]; rfl
      simp [ltS, hc, hm]
theorem cs_ones (l : List Nat) : cs (Txt.join "" (l.map fun c => (⟨#[c]⟩ : Str))) = l := by
  rw [cs_join, List.map_map]
  induction l with
  | nil => rfl
  | cons c r ih =>
    show [c] ++ _ = c :: r
    exact congrArg _ ih
theorem GoodW.smooth {z : Str} (h : GoodW z) : GoodW (Txt.join "" (((cs z).filter fun c => Txt.isalpha ⟨#[c]⟩).map fun c => (⟨#[c]⟩ : Str))) := by
  obtain ⟨ls, h0, h1, h2, e⟩ := h
  refine ⟨ls.map fun l => (l.1, none), ?_, by simpa using h1, by simpa using h2, by rw [cs_ones, e, spell_filter h0]⟩
  intro l hl
  obtain ⟨l', hl', rfl⟩ := List.mem_map.mp hl
  exact ⟨(h0 l' hl').1, fun m z => by cases z⟩
theorem cs_cut (z : Str) (lo hi : Option Int) : cs (cutS z lo hi) = ((cs z).drop (HT.sIx z.length 0 lo)).take (HT.sIx z.length z.length hi - HT.sIx z.length 0 lo) := rfl
theorem GoodW.head {z : Str} (h : GoodW z) : GoodW (Txt.upper (cutS z none (some 1)) ++ cutS z (some 1) none) := by
  have ha := h.ascii
  have hl := h.len
  obtain ⟨ls, h0, h1, h2, e⟩ := h
  match ls, h0, h1, h2, e with
  | (c, o) :: r, h0, h1, h2, e =>
    have ec : cs z = c :: (o.toList ++ spell r) := e
    refine ⟨mapLt up1 (c, o) :: r, fun l hl' => ?_, h1, h2, ?_⟩
    · rcases List.mem_cons.mp hl' with q | q
      · rw [q]; exact up_ok (h0 _ List.mem_cons_self)
      · exact h0 l (List.mem_cons_of_mem _ q)
    · have s1 : HT.sIx z.length z.length (some 1) = 1 := by
        rw [show (some 1 : Option Int) = some ((1 : Nat) : Int) from rfl, HT.sIx_nat]; omega
      have s2 : HT.sIx z.length 0 (some 1) = 1 := by
        rw [show (some 1 : Option Int) = some ((1 : Nat) : Int) from rfl, HT.sIx_nat]; omega
      have c1 : cs (cutS z none (some 1)) = [c] := by
        rw [cs_cut, s1, HT.sIx_none, ec]; rfl
      have c2 : cs (cutS z (some 1) none) = o.toList ++ spell r := by
        rw [cs_cut, s2, HT.sIx_none, ec]
        show (o.toList ++ spell r).take _ = _
        apply List.take_of_length_le
        have : z.length = (cs z).length := len_cs z
        rw [ec, List.length_cons] at this
        omega
      rw [cs_app, cs_upper (by rw [c1]; intro x hx; cases List.mem_singleton.mp hx; exact ha c (by rw [ec]; exact List.mem_cons_self)), c1, c2]
      rfl
end MC
namespace MC
open PySem PySem.Spec PyProof.Rows L2
theorem iteD {p A B : Prop} [Decidable p] (h1 : p → A) (h2 : ¬ p → B) : if decide p = true then A else B := by
  by_cases h : p
  · rw [if_pos (decide_eq_true h)]; exact h1 h
  · rw [if_neg (by simp [h])]; exact h2 h
theorem iteB {b : Bool} {A B : Prop} (h1 : b = true → A) (h2 : b = false → B) : if b = true then A else B := by
  cases b with
  | true => rw [if_pos rfl]; exact h1 rfl
  | false => rw [if_neg Bool.false_ne_true]; exact h2 rfl
/-- the box of digits: what is left of a cell, its rest, how many were drawn (at most n) -/
def BoxAt (H : Hp) (b : Addr) (n : Nat) : Prop := ∃ x y z : Int, H b = some (.lst [.int x, .int y, .int z]) ∧ 0 ≤ x ∧ 0 ≤ y ∧ y < 2147483648 ∧ 0 ≤ z ∧ z ≤ n
theorem BoxAt.le {H : Hp} {b : Addr} {n m : Nat} (h : BoxAt H b n) (l : n ≤ m) : BoxAt H b m := by
  obtain ⟨x, y, z, h1, h2, h3, h4, h5, h6⟩ := h
  exact ⟨x, y, z, h1, h2, h3, h4, h5, by omega⟩
theorem BoxAt.some {H : Hp} {b : Addr} {n : Nat} (h : BoxAt H b n) : ∃ o, H b = Option.some o := by
  obtain ⟨x, y, z, h1, _⟩ := h
  exact ⟨_, h1⟩
theorem BoxAt.keep {H H' : Hp} {b : Addr} {n : Nat} {S : Addr → Prop} (h : BoxAt H b n) (k : Keep S H H') (hs : ¬ S b) : BoxAt H' b n := by
  obtain ⟨x, y, z, h1, h2⟩ := h
  exact ⟨x, y, z, k _ _ h1 hs, h2⟩
abbrev One (b : Addr) : Addr → Prop := fun a => a = b
theorem fmod_range {i j : Int} (hj : 0 < j) : 0 ≤ i.fmod j ∧ i.fmod j < j := ⟨Int.fmod_nonneg_of_pos i hj, Int.fmod_lt_of_pos i hj⟩

/-! ### facts of sameness -/
/-- a fact: its number, whether the words stand apart, the words -/
structure Fc where
  n : Int
  ap : Bool
  a : Str
  b : Str
def kindS (ap : Bool) : Str := if ap then "apart" else "same"
/-- a Fact of the program at x -/
def factF (f : Fc) : List (Str × V) := [("kept_number", .int f.n), ("kept_kind", .str (kindS f.ap)), ("kept_one", .str f.a), ("kept_other", .str f.b)]
def FactAt (C : Addr) (H : Hp) (x : V) (f : Fc) : Prop := ∃ p dx, x = .ref p ∧ H p = some (.ins C dx (factF f))
theorem FactAt.mono {C : Addr} {H H' : Hp} {x : V} {f : Fc} (h : FactAt C H x f) (e : Ex H H') : FactAt C H' x f := by
  obtain ⟨p, dx, e1, h1⟩ := h
  exact ⟨p, dx, e1, e _ _ h1⟩
/-- the same as data of the law: a tuple -/
def factD (f : Fc) : PyData := .tuple [.int f.n, .str (kindS f.ap), .str f.a, .str f.b]
def factVs (f : Fc) : List V := [.int f.n, .str (kindS f.ap), .str f.a, .str f.b]
def FactV (H : Hp) (x : V) (f : Fc) : Prop := ∃ p, x = .ref p ∧ H p = some (.tup (factVs f))
theorem FactV.mono {H H' : Hp} {x : V} {f : Fc} (h : FactV H x f) (e : Ex H H') : FactV H' x f := by
  obtain ⟨p, e1, h1⟩ := h
  exact ⟨p, e1, e _ _ h1⟩
/-- a list of the law's facts -/
def FactsV (H : Hp) (v : V) (F : List Fc) : Prop := ∃ p xs, v = .ref p ∧ H p = some (.lst xs) ∧ Paired (FactV H) xs F
theorem Paired.imp {α β : Type} {R S : α → β → Prop} {xs : List α} {ys : List β} (h : Paired R xs ys) (i : ∀ a b, R a b → S a b) : Paired S xs ys := by
  induction h with
  | nil => exact .nil
  | cons h _ ih => exact .cons (i _ _ h) ih
theorem FactsV.mono {H H' : Hp} {v : V} {F : List Fc} (h : FactsV H v F) (e : Ex H H') : FactsV H' v F := by
  obtain ⟨p, xs, e1, h1, h2⟩ := h
  exact ⟨p, xs, e1, e _ _ h1, Paired.imp h2 fun a b q => q.mono e⟩
/-- the house at p: its list of Facts at fl -/
structure House (CF CS : Addr) (H : Hp) (p fl : Addr) (F : List Fc) (told : Int) : Prop where
  ob : ∃ dx, H p = some (.ins CS dx [("kept_facts", .ref fl), ("kept_told", .int told)])
  ls : ∃ xs, H fl = some (.lst xs) ∧ Paired (FactAt CF H) xs F
theorem fact_look (f : Fc) : (factF f).lookup ("kept_number" : Str) = some (.int f.n) ∧ (factF f).lookup ("kept_kind" : Str) = some (.str (kindS f.ap)) ∧ (factF f).lookup ("kept_one" : Str) = some (.str f.a) ∧ (factF f).lookup ("kept_other" : Str) = some (.str f.b) ∧ (factF f).lookup ("beyond" : Str) = none ∧ (factF f).lookup ("shown" : Str) = none := by
  refine ⟨?_, ?_, ?_, ?_, ?_, ?_⟩ <;> kernel_rfl
/-- the words to which a fact leads -/
def beyondM (f : Fc) (w : Str) : List Str := (if w = f.a then [f.b] else []) ++ (if w = f.b then [f.a] else [])

theorem withQ {F : VK → Prop} {Q : VK} (P : V → Hp → Prop) (main : ∀ Q : VK, (∀ v H, P v H → Q v H) → F Q) (rest : ∀ v H, P v H → Q v H) : F Q := main Q rest
theorem seqJ {t u : TS} {D : Ends} {σ : L2.St} {H : Hp} (P : L2.St → Hp → Prop) (h1 : ∀ N : L2.St → Hp → Prop, (∀ σ' H', P σ' H' → N σ' H') → t { D with nx := N } σ H) (h2 : ∀ σ' H', P σ' H' → u D σ' H') : tSeq t u D σ H := h1 _ h2
theorem cutV_head {α : Type} (f : α → V) (ls : List α) (k : Nat) : cutV (ls.map f) none (some (k : Int)) = (ls.take k).map f := by
  unfold cutV
  rw [HT.sIx_nat, HT.sIx_none, List.drop_zero, Nat.sub_zero, List.length_map, ← List.map_take]
  congr 1
  by_cases h : k ≤ ls.length
  · rw [Nat.min_eq_left h]
  · rw [Nat.min_eq_right (by omega), List.take_length, List.take_of_length_le (by omega)]
theorem cutV_mid {α : Type} (f : α → V) (ls : List α) (i k : Nat) : cutV (ls.map f) (some (i : Int)) (some (k : Int)) = ((ls.drop i).take (k - i)).map f := by
  unfold cutV
  rw [HT.sIx_nat, HT.sIx_nat, List.length_map, ← List.map_drop, ← List.map_take]
  congr 1
  by_cases h : i ≤ ls.length
  · rw [Nat.min_eq_left h]
    by_cases h2 : k ≤ ls.length
    · rw [Nat.min_eq_left h2]
    · rw [Nat.min_eq_right (by omega), List.take_of_length_le (by simp), List.take_of_length_le (by simp; omega)]
  · have e : min i ls.length = ls.length := by omega
    rw [e, List.drop_eq_nil_of_le (Nat.le_refl _), List.drop_eq_nil_of_le (by omega)]
    simp
theorem join_size (ls : List Lt) (h : ls.length ≤ 100) : ((ls.map fun l => mkS (ltS l)).map (·.length)).sum + (ls.map fun l => mkS (ltS l)).length * Str.length "" ≤ 16777216 := by
  have e : Str.length "" = 0 := by decide
  rw [e, Nat.mul_zero, Nat.add_zero]
  have key : ∀ ls : List Lt, ((ls.map fun l => mkS (ltS l)).map (·.length)).sum ≤ 2 * ls.length := by
    intro ls
    induction ls with
    | nil => simp
    | cons l r ih =>
      rw [List.map_cons, List.map_cons, List.sum_cons, List.length_cons]
      have : (mkS (ltS l)).length ≤ 2 := by
        rw [len_cs, cs_mk]; obtain ⟨a, o⟩ := l
        cases o <;> simp [ltS]
      omega
  have := key ls
  omega
theorem small_at (d : Int) (h0 : 0 ≤ d) (h1 : d < 26) : ∃ c, atI (cs ("abcdefghijklmnopqrstuvwxyz" : Str)) d = some c ∧ isSm c = true := by
  have e : cs ("abcdefghijklmnopqrstuvwxyz" : Str) = (List.range 26).map (97 + ·) := by decide +kernel
  rw [e]
  obtain ⟨k, rfl⟩ : ∃ k : Nat, d = k := ⟨d.toNat, by omega⟩
  refine ⟨97 + k, atI_nat (by rw [List.getElem?_map, List.getElem?_range (by omega)]; rfl), ?_⟩
  unfold isSm
  rw [decide_eq_true_eq]
  omega
theorem gN_ap {i : Nat} {v : V} {σ : L2.St} {H : Hp} {Q : L2.St → Hp → Prop} : gName i v σ H Q = Q (σ.set i (some v)) H := rfl
theorem add_ii {K : PySem.W.Frag} {i j : Int} {H : Hp} {Q : VK} : rAddU K (.int i) (.int j) H Q = Q (.int (i + j)) H := rfl
/-- an assignment whose value comes by several ways -/
theorem sA {te : TE} {i : Nat} {t : TS} {D : Ends} {σ : L2.St} {H : Hp} (P : V → Hp → Prop) (h1 : ∀ Q : VK, (∀ v H', P v H' → Q v H') → te σ H Q) (h2 : ∀ v H', P v H' → t D (σ.set i (some v)) H') : tSeq (tAsg te (gName i)) t D σ H := h1 _ h2
theorem Keep.fresh {b p : Addr} {n : Nat} {H H' : Hp} (k : Keep (One b) H H') (hB : BoxAt H' b n) (hp : H' p = none) : H p = none := by
  cases e : H p with
  | none => rfl
  | some o =>
    by_cases h : p = b
    · obtain ⟨o', h'⟩ := hB.some
      rw [h, h'] at hp; cases hp
    · rw [k _ _ e h] at hp; cases hp
theorem Keep.grow {S : Addr → Prop} {H H' : Hp} {p : Addr} {o : HO} (k : Keep S H H') (hp : H p = none) : Keep S H (L2.upd H' p o) := fun a u e n => by
  rw [upd_ne (ne_of_none e hp)]; exact k a u e n
theorem BoxAt.grow {H : Hp} {b p : Addr} {n : Nat} {o : HO} (h : BoxAt H b n) (ne : b ≠ p) : BoxAt (upd H p o) b n := by
  obtain ⟨x, y, z, h1, h2⟩ := h
  exact ⟨x, y, z, by rw [upd_ne ne]; exact h1, h2⟩
theorem BoxAt.new {H : Hp} {b p : Addr} {n : Nat} {o : HO} (h : BoxAt H b n) (hp : H p = none) : BoxAt (upd H p o) b n := by
  obtain ⟨u, hu⟩ := h.some
  exact h.grow (ne_of_none hu hp)
theorem CMul.small {i j : Int} (h1 : -(2 ^ 64) < i) (h2 : i < 2 ^ 64) : CMul i j := .inl ⟨h1, h2⟩
theorem upd_new {H : Hp} {a p : Addr} {o u : HO} (h : H a = some o) (hp : H p = none) : upd H p u a = some o := by
  rw [upd_ne (ne_of_none h hp)]; exact h
theorem yesT {σ : L2.St} {H : Hp} {A B : Hp → Prop} (h : A H) : tYes σ H fun b H3 => if b = true then A H3 else B H3 := by
  show (if true = true then A H else B H)
  rw [if_pos rfl]
  exact h
theorem flat_strs : ∀ ws : List Str, (ws.map V.str).all flatV = true
  | [] => rfl
  | _ :: r => by
    show (true && (r.map V.str).all flatV) = true
    rw [flat_strs r]; rfl
theorem ixN_at {m k : Nat} (h : k < m) : ixN m (k : Int) = some k := by
  unfold ixN
  rw [if_pos (Int.natCast_nonneg k), if_pos (by omega), Int.toNat_natCast]
theorem int01 {a w : Str} : ∃ k : Int, (if decide (V.str a = V.str w) = true then (1 : Int) else 0) = k ∧ 0 ≤ k ∧ k ≤ 1 ∧ ∀ x : V, (List.replicate k.toNat [x]).flatten = if w = a then [x] else [] := by
  by_cases h : w = a
  · subst h
    exact ⟨1, by simp, by decide, by decide, fun x => by rw [if_pos rfl]; rfl⟩
  · exact ⟨0, by rw [if_neg]; simp; exact fun e => h e.symm, by decide, by decide, fun x => by rw [if_neg h]; rfl⟩
theorem Ex.fresh {H H' : Hp} {p : Addr} (e : Ex H H') (h : H' p = none) : H p = none := by
  cases hn : H p with
  | none => rfl
  | some o => rw [e _ _ hn] at h; cases h
theorem asgC {v : V} {i : Nat} {u : TS} {D : Ends} {σ : L2.St} {H : Hp} : tSeq (tAsg (tC v) (gName i)) u D σ H = u D (σ.set i (some v)) H := rfl
theorem BoxAt.ex {H H' : Hp} {b : Addr} {n : Nat} (h : BoxAt H b n) (e : Ex H H') : BoxAt H' b n := h.keep (S := fun _ => False) (Keep.of e) (fun z => z)
theorem nextAp {D : Ends} {σ : L2.St} {H : Hp} : tNext D σ H = D.nx σ H := rfl
end MC
/-! Graph: ways along facts of sameness; the shortest ones; when facts agree. -/
namespace MC
open PySem PySem.Spec PyProof.Rows L2
abbrev St2 := Str × Bool
/-- the ways on along one fact: the next word (and whether an apart was met), the fact's number -/
def outE (f : Fc) (s : St2) : List (St2 × Int) := if s.2 && f.ap then [] else (beyondM f s.1).map fun t => ((t, s.2 || f.ap), f.n)
def ways (F : List Fc) (s : St2) : List (St2 × Int) := F.flatMap fun f => outE f s
inductive Pth (F : List Fc) (s : St2) : List Int → St2 → Prop
  | nil : Pth F s [] s
  | snoc {ns : List Int} {t u : St2} {n : Int} : Pth F s ns t → (u, n) ∈ ways F t → Pth F s (ns ++ [n]) u
theorem mem_ways {F : List Fc} {s u : St2} {n : Int} : (u, n) ∈ ways F s ↔ ∃ f ∈ F, f.n = n ∧ (s.2 && f.ap) = false ∧ u.1 ∈ beyondM f s.1 ∧ u.2 = (s.2 || f.ap) := by
  unfold ways
  rw [List.mem_flatMap]
  constructor
  · rintro ⟨f, hf, h⟩
    unfold outE at h
    split at h
    · cases h
    · next hn =>
      obtain ⟨t, ht, e⟩ := List.mem_map.mp h
      cases e
      exact ⟨f, hf, rfl, by simpa using hn, ht, rfl⟩
  · rintro ⟨f, hf, rfl, hn, h1, h2⟩
    refine ⟨f, hf, ?_⟩
    unfold outE
    rw [if_neg (by rw [hn]; exact Bool.false_ne_true)]
    refine List.mem_map.mpr ⟨u.1, h1, ?_⟩
    rw [← h2]
theorem mem_beyond {f : Fc} {w t : Str} : t ∈ beyondM f w ↔ (w = f.a ∧ t = f.b) ∨ (w = f.b ∧ t = f.a) := by
  unfold beyondM
  rw [List.mem_append]
  by_cases h1 : w = f.a <;> by_cases h2 : w = f.b <;> simp [h1, h2]
theorem beyond_one {f : Fc} {w t t' : Str} (h : t ∈ beyondM f w) (h' : t' ∈ beyondM f w) : t = t' := by
  rw [mem_beyond] at h h'
  rcases h with ⟨a, b⟩ | ⟨a, b⟩ <;> rcases h' with ⟨c, d⟩ | ⟨c, d⟩
  · rw [b, d]
  · rw [b, d, ← a, ← c]
  · rw [b, d, ← a, ← c]
  · rw [b, d]
/-- what a going through of the words, the nearest first, keeps -/
structure Bfs (F : List Fc) (s : St2) (L : List (St2 × Nat)) (i : Nat) (done : List (St2 × Int)) : Prop where
  nodup : (L.map Prod.fst).Nodup
  zero : L[0]? = some (s, 0)
  path : ∀ a ∈ L, ∃ ns, Pth F s ns a.1 ∧ ns.length = a.2
  mono : ∀ (j j' : Nat) (a b : St2 × Nat), j ≤ j' → L[j]? = some a → L[j']? = some b → a.2 ≤ b.2
  near : ∀ p, L[i]? = some p → ∀ a ∈ L, a.2 ≤ p.2 + 1
  small : ∀ (j : Nat) (a : St2 × Nat), L[j]? = some a → a.2 ≤ j
  le : i ≤ L.length
  closed : ∀ j, j < i → ∀ (a : St2 × Nat), L[j]? = some a → ∀ e ∈ ways F a.1, ∃ k, (e.1, k) ∈ L ∧ k ≤ a.2 + 1
  cur : ∀ p, L[i]? = some p → ∀ e ∈ done, ∃ k, (e.1, k) ∈ L ∧ k ≤ p.2 + 1
theorem Bfs.init (F : List Fc) (s : St2) : Bfs F s [(s, 0)] 0 [] := by
  refine ⟨by simp, rfl, ?_, ?_, ?_, ?_, by simp, fun j hj => by omega, fun p hp e he => by cases he⟩
  · intro a ha
    rw [List.mem_singleton.mp ha]
    exact ⟨[], .nil, rfl⟩
  · intro j j' a b _ h1 h2
    have e1 := List.mem_singleton.mp (List.mem_of_getElem? h1)
    have e2 := List.mem_singleton.mp (List.mem_of_getElem? h2)
    rw [e1, e2]; exact Nat.le_refl _
  · intro p hp a ha
    rw [List.mem_singleton.mp ha]; exact Nat.zero_le _
  · intro j a h
    rw [List.mem_singleton.mp (List.mem_of_getElem? h)]; exact Nat.zero_le _
theorem Bfs.old {F : List Fc} {s u : St2} {L : List (St2 × Nat)} {i k : Nat} {done : List (St2 × Int)} (b : Bfs F s L i done) (hi : L[i]? = some (u, k)) {e : St2 × Int} (he : e.1 ∈ L.map Prod.fst) : Bfs F s L i (done ++ [e]) := by
  refine ⟨b.nodup, b.zero, b.path, b.mono, b.near, b.small, b.le, b.closed, fun p hp e' he' => ?_⟩
  rcases List.mem_append.mp he' with h | h
  · exact b.cur p hp e' h
  · rw [List.mem_singleton.mp h]
    obtain ⟨a, ha, ea⟩ := List.mem_map.mp he
    exact ⟨a.2, by rw [← ea]; exact ha, b.near p hp a ha⟩
theorem Bfs.new {F : List Fc} {s u : St2} {L : List (St2 × Nat)} {i k : Nat} {done : List (St2 × Int)} (b : Bfs F s L i done) (hi : L[i]? = some (u, k)) {e : St2 × Int} (hw : e ∈ ways F u) (he : e.1 ∉ L.map Prod.fst) : Bfs F s (L ++ [(e.1, k + 1)]) i (done ++ [e]) := by
  have hil : i < L.length := (List.getElem?_eq_some_iff.mp hi).1
  have hi' : (L ++ [(e.1, k + 1)])[i]? = some (u, k) := by rw [List.getElem?_append_left hil]; exact hi
  have out : ∀ (j : Nat) (a : St2 × Nat), (L ++ [(e.1, k + 1)])[j]? = some a → (L[j]? = some a ∧ j < L.length) ∨ (j = L.length ∧ a = (e.1, k + 1)) := by
    intro j a h
    by_cases hj : j < L.length
    · rw [List.getElem?_append_left hj] at h; exact .inl ⟨h, hj⟩
    · rw [List.getElem?_append_right (by omega)] at h
      have h0 : j - L.length = 0 := by
        have := (List.getElem?_eq_some_iff.mp h).1
        simp at this; omega
      rw [h0] at h
      exact .inr ⟨by omega, (Option.some.inj h).symm⟩
  refine ⟨?_, ?_, ?_, ?_, ?_, ?_, by rw [List.length_append]; have := b.le; omega, ?_, ?_⟩
  · rw [List.map_append, List.nodup_append]
    refine ⟨b.nodup, by simp, fun x hx y hy => ?_⟩
    cases List.mem_singleton.mp hy
    exact fun e' => he (by rw [← e']; exact hx)
  · rw [List.getElem?_append_left (by omega)]; exact b.zero
  · intro a ha
    rcases List.mem_append.mp ha with h | h
    · exact b.path a h
    · rw [List.mem_singleton.mp h]
      obtain ⟨ns, h1, h2⟩ := b.path _ (List.mem_of_getElem? hi)
      exact ⟨ns ++ [e.2], .snoc h1 hw, by rw [List.length_append, h2]; rfl⟩
  · intro j j' a c hjj h1 h2
    rcases out j a h1 with ⟨h1, h1'⟩ | ⟨h1, e1⟩ <;> rcases out j' c h2 with ⟨h2, h2'⟩ | ⟨h2, e2⟩
    · exact b.mono j j' a c hjj h1 h2
    · rw [e2]; exact b.near _ hi a (List.mem_of_getElem? h1)
    · omega
    · rw [e1, e2]; exact Nat.le_refl _
  · intro p hp a ha
    rw [hi'] at hp
    cases hp
    rcases List.mem_append.mp ha with h | h
    · exact b.near _ hi a h
    · rw [List.mem_singleton.mp h]; exact Nat.le_refl _
  · intro j a h
    rcases out j a h with ⟨h, _⟩ | ⟨h, e'⟩
    · exact b.small j a h
    · rw [e', h]
      have := b.small i _ hi
      show k + 1 ≤ _
      have h' : k ≤ i := this
      omega
  · intro j hj a h
    rcases out j a h with ⟨h, _⟩ | ⟨h, _⟩
    · intro e' he'
      obtain ⟨k', h1, h2⟩ := b.closed j hj a h e' he'
      exact ⟨k', List.mem_append_left _ h1, h2⟩
    · omega
  · intro p hp e' he'
    rw [hi'] at hp
    cases hp
    rcases List.mem_append.mp he' with h | h
    · obtain ⟨k', h1, h2⟩ := b.cur _ hi e' h
      exact ⟨k', List.mem_append_left _ h1, h2⟩
    · rw [List.mem_singleton.mp h]
      exact ⟨k + 1, List.mem_append_right _ List.mem_cons_self, Nat.le_refl _⟩
theorem Bfs.next {F : List Fc} {s u : St2} {L : List (St2 × Nat)} {i k : Nat} (b : Bfs F s L i (ways F u)) (hi : L[i]? = some (u, k)) : Bfs F s L (i + 1) [] := by
  have hil : i < L.length := (List.getElem?_eq_some_iff.mp hi).1
  refine ⟨b.nodup, b.zero, b.path, b.mono, ?_, b.small, hil, ?_, fun p hp e he => by cases he⟩
  · intro p hp a ha
    have h1 := b.mono i (i + 1) _ _ (Nat.le_succ i) hi hp
    have h2 := b.near _ hi a ha
    have h1' : k ≤ p.2 := h1
    have h2' : a.2 ≤ k + 1 := h2
    omega
  · intro j hj a h e he
    by_cases hji : j < i
    · exact b.closed j hji a h e he
    · have ej : j = i := by omega
      subst ej
      rw [hi] at h
      cases h
      exact b.cur _ hi e he
/-- L tells all words that can be come to, and how far they are -/
structure Dist (F : List Fc) (s : St2) (L : List (St2 × Nat)) : Prop where
  nodup : (L.map Prod.fst).Nodup
  path : ∀ a ∈ L, ∃ ns, Pth F s ns a.1 ∧ ns.length = a.2
  all : ∀ ns t, Pth F s ns t → ∃ k, (t, k) ∈ L ∧ k ≤ ns.length
theorem Bfs.dist {F : List Fc} {s : St2} {L : List (St2 × Nat)} {i : Nat} (b : Bfs F s L i []) (h : L.length ≤ i) : Dist F s L := by
  refine ⟨b.nodup, b.path, fun ns t p => ?_⟩
  induction p with
  | nil => exact ⟨0, List.mem_of_getElem? b.zero, Nat.zero_le _⟩
  | @snoc ns t u n p hw ih =>
    obtain ⟨k, h1, h2⟩ := ih
    obtain ⟨j, hj, ej⟩ := List.mem_iff_getElem.mp h1
    obtain ⟨k', h3, h4⟩ := b.closed j (by omega) _ (by rw [List.getElem?_eq_getElem hj, ej]) (u, n) hw
    refine ⟨k', h3, ?_⟩
    rw [List.length_append]
    have h4' : k' ≤ k + 1 := h4
    show k' ≤ ns.length + 1
    omega
theorem fst_inj {α β : Type} : ∀ {L : List (α × β)}, (L.map Prod.fst).Nodup → ∀ {a : α} {x y : β}, (a, x) ∈ L → (a, y) ∈ L → x = y
  | [], _, _, _, _, h, _ => by cases h
  | p :: L, hn, a, x, y, h1, h2 => by
    rw [List.map_cons, List.nodup_cons] at hn
    rcases List.mem_cons.mp h1 with e1 | h1 <;> rcases List.mem_cons.mp h2 with e2 | h2
    · rw [← e1] at e2; exact (Prod.mk.inj e2).2.symm
    · exact absurd (List.mem_map.mpr ⟨_, h2, by rw [← e1]⟩) hn.1
    · exact absurd (List.mem_map.mpr ⟨_, h1, by rw [← e2]⟩) hn.1
    · exact fst_inj hn.2 h1 h2
theorem Dist.same {F : List Fc} {s : St2} {L L' : List (St2 × Nat)} (d : Dist F s L) (d' : Dist F s L') {t : St2} {k : Nat} (h : (t, k) ∈ L) : (t, k) ∈ L' := by
  obtain ⟨ns, p, e⟩ := d.path _ h
  obtain ⟨k', h1, h2⟩ := d'.all ns t p
  obtain ⟨ns', p', e'⟩ := d'.path _ h1
  obtain ⟨k'', h3, h4⟩ := d.all ns' t p'
  have := fst_inj d.nodup h h3
  have e1 : ns.length = k := e
  have e2 : ns'.length = k' := e'
  have : k' = k := by omega
  rw [← this]; exact h1
/-! ### how many -/
theorem nodup_le {α : Type} [DecidableEq α] : ∀ {xs ys : List α}, xs.Nodup → (∀ x ∈ xs, x ∈ ys) → xs.length ≤ ys.length
  | [], _, _, _ => Nat.zero_le _
  | x :: xs, ys, hn, hs => by
    rw [List.nodup_cons] at hn
    have h1 : x ∈ ys := hs x List.mem_cons_self
    have ih := nodup_le (ys := ys.erase x) hn.2 fun z hz => (List.mem_erase_of_ne (fun e => hn.1 (by rw [← e]; exact hz))).mpr (hs z (List.mem_cons_of_mem _ hz))
    rw [List.length_erase_of_mem h1] at ih
    have : 0 < ys.length := List.length_pos_of_mem h1
    rw [List.length_cons]; omega
def wordsOf (F : List Fc) : List Str := F.flatMap fun f => [f.a, f.b]
theorem Pth.word {F : List Fc} {s t : St2} {ns : List Int} (p : Pth F s ns t) : t.1 = s.1 ∨ t.1 ∈ wordsOf F := by
  cases p with
  | nil => exact .inl rfl
  | snoc p hw =>
    obtain ⟨f, hf, _, _, h1, _⟩ := mem_ways.mp hw
    refine .inr (List.mem_flatMap.mpr ⟨f, hf, ?_⟩)
    rcases mem_beyond.mp h1 with ⟨_, e⟩ | ⟨_, e⟩
    · rw [e]; exact List.mem_cons_of_mem _ List.mem_cons_self
    · rw [e]; exact List.mem_cons_self
theorem wordsOf_len (F : List Fc) : (wordsOf F).length = 2 * F.length := by
  unfold wordsOf
  induction F with
  | nil => rfl
  | cons f F ih => simp only [List.flatMap_cons, List.length_append, ih, List.length_cons, List.length_nil]; omega
theorem Bfs.few {F : List Fc} {s : St2} {L : List (St2 × Nat)} {i : Nat} {done : List (St2 × Int)} (b : Bfs F s L i done) : L.length ≤ 4 * F.length + 2 := by
  have h := nodup_le (ys := (s.1 :: wordsOf F).map (fun w => (w, false)) ++ (s.1 :: wordsOf F).map (fun w => (w, true))) b.nodup ?_
  · rw [List.length_map, List.length_append, List.length_map, List.length_map, List.length_cons, wordsOf_len] at h
    omega
  · intro x hx
    obtain ⟨a, ha, e⟩ := List.mem_map.mp hx
    obtain ⟨ns, p, _⟩ := b.path a ha
    have hw : a.1.1 ∈ s.1 :: wordsOf F := by
      rcases p.word with h | h
      · rw [h]; exact List.mem_cons_self
      · exact List.mem_cons_of_mem _ h
    rw [← e]
    obtain ⟨⟨w, c⟩, k⟩ := a
    cases c
    · exact List.mem_append_left _ (List.mem_map.mpr ⟨w, hw, rfl⟩)
    · exact List.mem_append_right _ (List.mem_map.mpr ⟨w, hw, rfl⟩)
/-! ### ways, word for word -/
theorem Pth.cut {F : List Fc} {s t : St2} {ns : List Int} {n : Int} (p : Pth F s (ns ++ [n]) t) : ∃ u, Pth F s ns u ∧ (t, n) ∈ ways F u := by
  generalize e : ns ++ [n] = ms at p
  cases p with
  | nil => simp at e
  | snoc p hw =>
    obtain ⟨e1, e2⟩ := List.append_inj' e rfl
    cases e2
    exact ⟨_, e1 ▸ p, hw⟩
theorem Pth.take {F : List Fc} {s t : St2} {ns : List Int} (p : Pth F s ns t) : ∀ i, ∃ u, Pth F s (ns.take i) u := by
  induction p with
  | nil => intro i; rw [List.take_nil]; exact ⟨s, .nil⟩
  | @snoc ns t u n p hw ih =>
    intro i
    by_cases h : i ≤ ns.length
    · rw [List.take_append_of_le_length h]; exact ih i
    · rw [List.take_of_length_le (by rw [List.length_append]; show ns.length + 1 ≤ i; omega)]
      exact ⟨u, .snoc p hw⟩
/-- no two facts have one number -/
def Uniq (F : List Fc) : Prop := (F.map (·.n)).Nodup
theorem Uniq.one {F : List Fc} (h : Uniq F) {f g : Fc} (hf : f ∈ F) (hg : g ∈ F) (e : f.n = g.n) : f = g := by
  unfold Uniq at h
  induction F with
  | nil => cases hf
  | cons x F ih =>
    rw [List.map_cons, List.nodup_cons] at h
    rcases List.mem_cons.mp hf with e1 | h1 <;> rcases List.mem_cons.mp hg with e2 | h2
    · rw [e1, e2]
    · exact absurd (List.mem_map.mpr ⟨g, h2, by rw [← e, e1]⟩) h.1
    · exact absurd (List.mem_map.mpr ⟨f, h1, by rw [e, e2]⟩) h.1
    · exact ih h.2 h1 h2
theorem Uniq.filter {F : List Fc} (h : Uniq F) {f : Fc} (hf : f ∈ F) : F.filter (fun g => decide (g.n = f.n)) = [f] := by
  unfold Uniq at h
  induction F with
  | nil => cases hf
  | cons x F ih =>
    rw [List.map_cons, List.nodup_cons] at h
    rcases List.mem_cons.mp hf with e1 | h1
    · subst e1
      rw [List.filter_cons_of_pos (by simp), List.filter_eq_nil_iff.mpr]
      intro g hg e
      exact h.1 (List.mem_map.mpr ⟨g, hg, of_decide_eq_true e⟩)
    · rw [List.filter_cons_of_neg, ih h.2 h1]
      intro e
      exact h.1 (List.mem_map.mpr ⟨f, h1, (of_decide_eq_true e).symm⟩)
theorem Pth.det {F : List Fc} (hu : Uniq F) {s t t' : St2} {ns : List Int} (p : Pth F s ns t) (p' : Pth F s ns t') : t = t' := by
  induction p generalizing t' with
  | nil =>
    generalize e : ([] : List Int) = ms at p'
    cases p' with
    | nil => rfl
    | snoc _ _ => simp at e
  | @snoc ns t u n p hw ih =>
    obtain ⟨v, q, hv⟩ := p'.cut
    have := ih q
    subst this
    obtain ⟨f, hf, e1, _, h1, h2⟩ := mem_ways.mp hw
    obtain ⟨g, hg, e2, _, h3, h4⟩ := mem_ways.mp hv
    have := hu.one hf hg (e1.trans e2.symm)
    subst this
    exact Prod.ext (beyond_one h1 h3) (h2.trans h4.symm)
theorem Pth.trans {F : List Fc} {s t u : St2} {ns ms : List Int} (p : Pth F s ns t) (q : Pth F t ms u) : Pth F s (ns ++ ms) u := by
  induction q with
  | nil => rw [List.append_nil]; exact p
  | snoc q hw ih => rw [← List.append_assoc]; exact .snoc ih hw
/-! ### agreement -/
/-- words by classes: facts of sameness within one, apart ones between two -/
def Agree (F : List Fc) : Prop := ∃ cl : Str → (Str → Prop), ∀ f ∈ F, if f.ap then cl f.a ≠ cl f.b else cl f.a = cl f.b
def Near (F : List Fc) (s t : St2) : Prop := ∃ ns, Pth F s ns t
theorem Near.trans {F : List Fc} {s t u : St2} (a : Near F s t) (b : Near F t u) : Near F s u := by
  obtain ⟨ns, p⟩ := a
  obtain ⟨ms, q⟩ := b
  exact ⟨_, p.trans q⟩
theorem Near.step {F : List Fc} {f : Fc} (hf : f ∈ F) {c : Bool} (hc : (c && f.ap) = false) {x y : Str} (h : y ∈ beyondM f x) : Near F (x, c) (y, c || f.ap) := ⟨[] ++ [f.n], .snoc .nil (mem_ways.mpr ⟨f, hf, rfl, hc, h, rfl⟩)⟩
theorem beyond_symm {f : Fc} {x y : Str} (h : y ∈ beyondM f x) : x ∈ beyondM f y := by
  rw [mem_beyond] at h ⊢
  rcases h with ⟨a, b⟩ | ⟨a, b⟩
  · exact .inr ⟨b, a⟩
  · exact .inl ⟨b, a⟩
theorem back_gen {F : List Fc} {s t : St2} {ns : List Int} (p : Pth F s ns t) (ht : t.2 = false) : s.2 = false ∧ Near F (t.1, false) (s.1, false) := by
  induction p with
  | nil => exact ⟨ht, [], .nil⟩
  | @snoc ns t u n p hw ih =>
    obtain ⟨f, hf, _, h0, h1, h2⟩ := mem_ways.mp hw
    rw [ht] at h2
    have h3 : t.2 = false ∧ f.ap = false := by
      cases h : t.2 <;> cases h' : f.ap <;> rw [h, h'] at h2 <;> first | exact ⟨rfl, rfl⟩ | cases h2
    obtain ⟨i1, i2⟩ := ih h3.1
    refine ⟨i1, Near.trans ?_ i2⟩
    have := Near.step hf (c := false) (by simp) (beyond_symm h1)
    rw [h3.2] at this
    exact this
theorem Near.back {F : List Fc} {x y : Str} (h : Near F (x, false) (y, false)) : Near F (y, false) (x, false) := by
  obtain ⟨ns, p⟩ := h
  exact (back_gen p rfl).2
theorem lift_gen {F : List Fc} {s t : St2} {ns : List Int} (p : Pth F s ns t) (ht : t.2 = false) : Near F (s.1, true) (t.1, true) := by
  induction p with
  | nil => exact ⟨[], .nil⟩
  | @snoc ns t u n p hw ih =>
    obtain ⟨f, hf, _, h0, h1, h2⟩ := mem_ways.mp hw
    rw [ht] at h2
    have h3 : t.2 = false ∧ f.ap = false := by
      cases h : t.2 <;> cases h' : f.ap <;> rw [h, h'] at h2 <;> first | exact ⟨rfl, rfl⟩ | cases h2
    refine (ih h3.1).trans ?_
    have := Near.step hf (c := true) (by rw [h3.2]; rfl) h1
    exact this
theorem Near.lift {F : List Fc} {x y : Str} (h : Near F (x, false) (y, false)) : Near F (x, true) (y, true) := by
  obtain ⟨ns, p⟩ := h
  exact lift_gen p rfl
theorem colour {F : List Fc} {cl : Str → (Str → Prop)} (h : ∀ f ∈ F, if f.ap then cl f.a ≠ cl f.b else cl f.a = cl f.b) {s t : St2} {ns : List Int} (p : Pth F s ns t) (hs : s.2 = false) : if t.2 then cl s.1 ≠ cl t.1 else cl s.1 = cl t.1 := by
  induction p with
  | nil => rw [hs]; simp
  | @snoc ns t u n p hw ih =>
    obtain ⟨f, hf, _, h0, h1, h2⟩ := mem_ways.mp hw
    have hc := h f hf
    rw [h2]
    rcases mem_beyond.mp h1 with ⟨e1, e2⟩ | ⟨e1, e2⟩ <;> rw [e2] <;> rw [e1] at ih
    all_goals
      cases ht : t.2 <;> cases hp : f.ap <;> rw [ht] at ih <;> rw [hp] at hc <;> simp at ih hc ⊢
    all_goals first
      | exact absurd h0 (by rw [ht, hp]; decide)
      | (rw [ih]; exact hc)
      | (rw [ih]; exact hc.symm)
      | (rw [ih]; exact fun z => hc z.symm)
      | (rw [← hc]; exact ih)
      | (rw [hc]; exact ih)
theorem Agree.never {F : List Fc} (h : Agree F) {x y : Str} (a : Near F (x, false) (y, false)) : ¬ Near F (x, false) (y, true) := by
  rintro ⟨ms, q⟩
  obtain ⟨cl, hc⟩ := h
  obtain ⟨ns, p⟩ := a
  have h1 := colour hc p rfl
  have h2 := colour hc q rfl
  simp at h1 h2
  exact h2 h1
theorem Agree.fine {F : List Fc} (h : Agree F) : ∀ f ∈ F, if f.ap then (fun y => Near F (f.a, false) (y, false)) ≠ (fun y => Near F (f.b, false) (y, false)) else (fun y => Near F (f.a, false) (y, false)) = (fun y => Near F (f.b, false) (y, false)) := by
  intro f hf
  have hab : f.b ∈ beyondM f f.a := mem_beyond.mpr (.inl ⟨rfl, rfl⟩)
  cases hp : f.ap
  · simp
    have s := Near.step hf (c := false) (by simp) hab
    rw [hp] at s
    have s' : Near F (f.a, false) (f.b, false) := s
    funext y
    exact propext ⟨fun n => s'.back.trans n, fun n => s'.trans n⟩
  · simp
    intro e
    have hb : Near F (f.b, false) (f.b, false) := ⟨[], .nil⟩
    have ha : Near F (f.a, false) (f.b, false) := by
      have := congrFun e f.b
      exact this.symm ▸ hb
    refine h.never ha ?_
    have s := Near.step hf (c := false) (by simp) hab
    rw [hp] at s
    exact s
theorem Agree.nil : Agree [] := ⟨fun _ _ => True, fun f hf => by cases hf⟩
theorem Agree.sub {F G : List Fc} (h : Agree F) (hs : ∀ f ∈ G, f ∈ F) : Agree G := by
  obtain ⟨cl, hc⟩ := h
  exact ⟨cl, fun f hf => hc f (hs f hf)⟩
theorem Agree.add {F : List Fc} (h : Agree F) {n : Int} {ap : Bool} {x y : Str} (hn : ¬ Near F (x, false) (y, !ap)) : Agree (F ++ [⟨n, ap, x, y⟩]) := by
  have fine := h.fine
  cases ap with
  | true =>
    refine ⟨fun z t => Near F (z, false) (t, false), fun f hf => ?_⟩
    rcases List.mem_append.mp hf with h1 | h1
    · exact fine f h1
    · rw [List.mem_singleton.mp h1]
      simp
      intro e
      have hy : Near F (y, false) (y, false) := ⟨[], .nil⟩
      exact hn (by have := congrFun e y; exact this.symm ▸ hy)
  | false =>
    let c0 : Str → (Str → Prop) := fun z t => Near F (z, false) (t, false)
    have self : ∀ z, c0 z z := fun z => ⟨[], .nil⟩
    have toN : ∀ {u v}, c0 u = c0 v → Near F (u, false) (v, false) := by
      intro u v e
      show c0 u v
      rw [e]; exact self v
    classical
    refine ⟨fun z => if c0 z = c0 y then c0 x else c0 z, fun f hf => ?_⟩
    rcases List.mem_append.mp hf with h1 | h1
    · have q := fine f h1
      cases hp : f.ap
      · rw [hp] at q
        simp at q ⊢
        have q' : c0 f.a = c0 f.b := q
        rw [q']
      · rw [hp] at q
        simp at q ⊢
        have q' : c0 f.a ≠ c0 f.b := q
        have key : ∀ u v, u ∈ beyondM f v → c0 v = c0 x → c0 u = c0 y → False := by
          intro u v hb e1 e2
          refine hn ((toN e1.symm).trans (Near.trans ?_ (toN e2).lift))
          have s := Near.step h1 (c := false) (by simp) hb
          rw [hp] at s
          exact s
        by_cases e1 : c0 f.a = c0 y <;> by_cases e2 : c0 f.b = c0 y
        · exact absurd (e1.trans e2.symm) q'
        · rw [if_pos e1, if_neg e2]
          intro z
          exact key f.a f.b (mem_beyond.mpr (.inr ⟨rfl, rfl⟩)) z.symm e1
        · rw [if_neg e1, if_pos e2]
          intro z
          exact key f.b f.a (mem_beyond.mpr (.inl ⟨rfl, rfl⟩)) z e2
        · rw [if_neg e1, if_neg e2]; exact q'
    · rw [List.mem_singleton.mp h1]
      simp
end MC
/-! Led: dicts that tell where one comes to. -/
namespace MC
open PySem PySem.Spec PyProof.Rows L2
def keyOf (t : St2) : List Key := [.inr t.1, .inl (b2i t.2)]
theorem keyOf_inj {s t : St2} (h : keyOf s = keyOf t) : s = t := by
  unfold keyOf at h
  have h1 := List.cons.inj h
  have h2 := List.cons.inj h1.2
  have e1 : s.1 = t.1 := Sum.inr.inj h1.1
  have e2 : b2i s.2 = b2i t.2 := Sum.inl.inj h2.1
  refine Prod.ext e1 ?_
  revert e2
  cases s.2 <;> cases t.2 <;> intro e <;> first | rfl | cases e
/-- entries and what they tell -/
abbrev EntM {β : Type} (R : V → β → Prop) : List Ent → List (St2 × β) → Prop := Paired fun e m => e.1 = keyOf m.1 ∧ R e.2.2 m.2
theorem valT_none {β : Type} {R : V → β → Prop} {xs : List Ent} {M : List (St2 × β)} (h : EntM R xs M) {t : St2} (hn : t ∉ M.map Prod.fst) : valT xs (keyOf t) = none := by
  induction h with
  | nil => rfl
  | @cons e m xs M hd tl ih =>
    rw [List.map_cons, List.mem_cons, not_or] at hn
    have ne : ¬ e.1 = keyOf t := fun z => hn.1 (keyOf_inj (z.symm.trans hd.1))
    have := ih hn.2
    unfold valT at this ⊢
    rw [List.find?_cons_of_neg (by simpa using ne)]
    exact this
theorem valT_some {β : Type} {R : V → β → Prop} {xs : List Ent} {M : List (St2 × β)} (h : EntM R xs M) (hn : (M.map Prod.fst).Nodup) {t : St2} {k : β} (hm : (t, k) ∈ M) : ∃ v, valT xs (keyOf t) = some v ∧ R v k := by
  induction h with
  | nil => cases hm
  | @cons e m xs M hd tl ih =>
    rw [List.map_cons, List.nodup_cons] at hn
    unfold valT
    rcases List.mem_cons.mp hm with q | q
    · subst q
      rw [List.find?_cons_of_pos (by simpa using hd.1)]
      exact ⟨e.2.2, rfl, hd.2⟩
    · have ne : ¬ e.1 = keyOf t := fun z => hn.1 (by rw [keyOf_inj (hd.1.symm.trans z)]; exact List.mem_map.mpr ⟨_, q, rfl⟩)
      rw [List.find?_cons_of_neg (by simpa using ne)]
      exact ih hn.2 q
theorem valT_has {β : Type} {R : V → β → Prop} {xs : List Ent} {M : List (St2 × β)} (h : EntM R xs M) (hn : (M.map Prod.fst).Nodup) (t : St2) : (valT xs (keyOf t)).isSome = decide (t ∈ M.map Prod.fst) := by
  by_cases hm : t ∈ M.map Prod.fst
  · obtain ⟨⟨t', k⟩, h1, e⟩ := List.mem_map.mp hm
    cases e
    obtain ⟨v, hv, _⟩ := valT_some h hn h1
    rw [hv, decide_eq_true hm]; rfl
  · rw [valT_none h hm, decide_eq_false hm]; rfl
theorem putT_new {xs : List Ent} {k : List Key} {a : Addr} {v : V} (h : valT xs k = none) : putT xs k a v = xs ++ [(k, a, v)] := by
  unfold putT
  rw [h]
  rfl
theorem EntM.snoc {β : Type} {R : V → β → Prop} {xs : List Ent} {M : List (St2 × β)} (h : EntM R xs M) {t : St2} {a : Addr} {v : V} {k : β} (hv : R v k) : EntM R (xs ++ [(keyOf t, a, v)]) (M ++ [(t, k)]) := Paired.snoc h ⟨rfl, hv⟩
/-- a tuple that is the state t, the program's own and the law's -/
def TupB (H : Hp) (v : V) (t : St2) : Prop := ∃ a, v = .ref a ∧ H a = some (.tup [.str t.1, .bl t.2])
def TupI (H : Hp) (v : V) (t : St2) : Prop := ∃ a, v = .ref a ∧ H a = some (.tup [.str t.1, .int (b2i t.2)])
theorem TupB.key {H : Hp} {a : Addr} {t : St2} (h : H a = some (.tup [.str t.1, .bl t.2])) : TK H a (keyOf t) := ⟨_, h, rfl⟩
theorem TupI.key {H : Hp} {a : Addr} {t : St2} (h : H a = some (.tup [.str t.1, .int (b2i t.2)])) : TK H a (keyOf t) := ⟨_, h, rfl⟩
/-- all that is at an address stays, but at the dict d and at the list w -/
abbrev Two (d w : Addr) : Addr → Prop := fun a => a = d ∨ a = w
theorem TK.keep {H H' : Hp} {a d w : Addr} {ks : List Key} {P : Program} {W : World} {xs : List Ent} {ws : List V} (h : TK H a ks) (k : Keep (Two d w) H H') (hd : H d = some (exD P W d xs)) (hw : H w = some (.lst ws)) : TK H' a ks := by
  obtain ⟨vs, h1, h2⟩ := h
  refine ⟨vs, k _ _ h1 ?_, h2⟩
  rintro (e | e)
  · rw [e, hd] at h1
    exact exD_ne_tup (Option.some.inj h1).symm
  · rw [e, hw] at h1
    cases h1
/-- the dict at d, kept through a change that is not one of d -/
theorem DB.keep {P : Program} {W : World} {H H' : Hp} {d w : Addr} {xs : List Ent} {ws : List V} (b : DB P W H d xs) (k : Keep (One w) H H') (hw : H w = some (.lst ws)) (hdw : d ≠ w) : DB P W H' d xs := by
  refine ⟨k _ _ b.at_ hdw, b.len, fun e he => ?_⟩
  obtain ⟨vs, h1, h2⟩ := b.keys e he
  refine ⟨vs, k _ _ h1 ?_, h2⟩
  intro e'
  have e'' : e.2.1 = w := e'
  rw [e'', hw] at h1
  cases h1
theorem DB.ex {P : Program} {W : World} {H H' : Hp} {d : Addr} {xs : List Ent} (b : DB P W H d xs) (k : Ex H H') : DB P W H' d xs := ⟨k _ _ b.at_, b.len, fun e he => (b.keys e he).mono k⟩
theorem pair_at {α β : Type} {R : α → β → Prop} {xs : List α} {ys : List β} (h : Paired R xs ys) : ∀ {i : Nat} {y : β}, ys[i]? = some y → ∃ x, xs[i]? = some x ∧ R x y := by
  induction h with
  | nil => intro i y hy; simp at hy
  | cons h _ ih =>
    intro i y hy
    cases i with
    | zero => cases hy; exact ⟨_, rfl, h⟩
    | succ i => exact ih hy
theorem pair_of {α β : Type} {R : α → β → Prop} {xs : List α} {ys : List β} (h : Paired R xs ys) : ∀ {i : Nat} {x : α}, xs[i]? = some x → ∃ y, ys[i]? = some y ∧ R x y := by
  induction h with
  | nil => intro i y hy; simp at hy
  | cons h _ ih =>
    intro i y hy
    cases i with
    | zero => cases hy; exact ⟨_, rfl, h⟩
    | succ i => exact ih hy
/-- the list of numbers at v, another list than w -/
def NumL (w : Addr) (H : Hp) (v : V) (ns : List Int) : Prop := ∃ l, l ≠ w ∧ v = .ref l ∧ H l = some (.lst (ns.map V.int))
abbrev lens (M : List (St2 × List Int)) : List (St2 × Nat) := M.map fun m => (m.1, m.2.length)
theorem lens_fst (M : List (St2 × List Int)) : (lens M).map Prod.fst = M.map Prod.fst := by rw [List.map_map]; rfl
theorem lens_at {M : List (St2 × List Int)} {i : Nat} {m : St2 × List Int} (h : M[i]? = some m) : (lens M)[i]? = some (m.1, m.2.length) := by rw [List.getElem?_map, h]; rfl
/-- within the program's going through -/
structure LS (P : Program) (W : World) (H0 : Hp) (F : List Fc) (s : St2) (d w : Addr) (H : Hp) (M : List (St2 × List Int)) (wi i : Nat) (done : List (St2 × Int)) : Prop where
  ex : Ex H0 H
  nd : H0 d = none
  nw : H0 w = none
  ne : d ≠ w
  db : ∃ xs, DB P W H d xs ∧ EntM (NumL w H) xs M
  wt : ∃ vs, H w = some (.lst vs) ∧ Paired (TupB H) vs ((M.drop wi).map Prod.fst)
  bf : Bfs F s (lens M) i done
  pt : ∀ m ∈ M, Pth F s m.2 m.1
section
variable {P : Program} {W : World} {H0 H H' : Hp} {F : List Fc} {s : St2} {d w : Addr} {M : List (St2 × List Int)} {wi i : Nat} {done : List (St2 × Int)}
theorem TupB.ex {v : V} {t : St2} (h : TupB H v t) (e : Ex H H') : TupB H' v t := by
  obtain ⟨a, h1, h2⟩ := h
  exact ⟨a, h1, e _ _ h2⟩
theorem TupI.ex {v : V} {t : St2} (h : TupI H v t) (e : Ex H H') : TupI H' v t := by
  obtain ⟨a, h1, h2⟩ := h
  exact ⟨a, h1, e _ _ h2⟩
theorem LS.grow (h : LS P W H0 F s d w H M wi i done) (e : Ex H H') : LS P W H0 F s d w H' M wi i done := by
  obtain ⟨xs, b, en⟩ := h.db
  obtain ⟨vs, hw, pr⟩ := h.wt
  exact ⟨h.ex.trans e, h.nd, h.nw, h.ne, ⟨xs, b.ex e, Paired.imp en fun a c q => ⟨q.1, by obtain ⟨l, h1, h2, h3⟩ := q.2; exact ⟨l, h1, h2, e _ _ h3⟩⟩⟩, ⟨vs, e _ _ hw, Paired.imp pr fun a c q => q.ex e⟩, h.bf, h.pt⟩
theorem ex_upd {a : Addr} {o : HO} (e : Ex H0 H) (n : H0 a = none) : Ex H0 (upd H a o) := fun b u hb => by
  rw [upd_ne (ne_of_none hb n)]; exact e _ _ hb
theorem TupB.upd {v : V} {t : St2} {a : Addr} {o u : HO} (h : TupB H v t) (ha : H a = some u) (ht : ∀ vs, u ≠ .tup vs) : TupB (L2.upd H a o) v t := by
  obtain ⟨b, h1, h2⟩ := h
  refine ⟨b, h1, ?_⟩
  rw [upd_ne (fun e => by rw [e, ha] at h2; exact ht _ (Option.some.inj h2))]
  exact h2
theorem NumL.updW {v : V} {ns : List Int} {o : HO} (h : NumL w H v ns) : NumL w (upd H w o) v ns := by
  obtain ⟨l, h1, h2, h3⟩ := h
  exact ⟨l, h1, h2, by rw [upd_ne h1]; exact h3⟩
theorem NumL.updD {v : V} {ns : List Int} {o : HO} {xs : List Ent} (h : NumL w H v ns) (hd : H d = some (exD P W d xs)) : NumL w (upd H d o) v ns := by
  obtain ⟨l, h1, h2, h3⟩ := h
  refine ⟨l, h1, h2, ?_⟩
  rw [upd_ne (fun e => by
    rw [e, hd] at h3
    have z : HO.lst (ns.map V.int) = HO.ext _ := (Option.some.inj h3).symm
    cases z)]
  exact h3
theorem DB.updW {xs : List Ent} {ws : List V} {o : HO} (b : DB P W H d xs) (hw : H w = some (.lst ws)) (hdw : d ≠ w) : DB P W (upd H w o) d xs := b.keep (Keep.upd rfl) hw hdw
/-- the first that waits is taken out -/
theorem LS.pop (h : LS P W H0 F s d w H M wi i done) {m : St2 × List Int} (hm : M[wi]? = some m) : ∃ v vs, H w = some (.lst (v :: vs)) ∧ TupB H v m.1 ∧ LS P W H0 F s d w (upd H w (.lst vs)) M (wi + 1) i done := by
  obtain ⟨xs, b, en⟩ := h.db
  obtain ⟨vs, hw, pr⟩ := h.wt
  have hl : wi < M.length := (List.getElem?_eq_some_iff.mp hm).1
  have hd : M.drop wi = m :: M.drop (wi + 1) := by
    rw [List.drop_eq_getElem_cons hl]
    rw [List.getElem?_eq_getElem hl] at hm
    rw [Option.some.inj hm]
  rw [hd, List.map_cons] at pr
  cases pr with
  | @cons v _ vs _ h1 h2 =>
    refine ⟨v, vs, hw, h1, ex_upd h.ex h.nw, h.nd, h.nw, h.ne, ⟨xs, b.updW hw h.ne, Paired.imp en fun a c q => ⟨q.1, q.2.updW⟩⟩, ⟨vs, upd_same, Paired.imp h2 fun a c q => q.upd hw (by intro vs z; cases z)⟩, h.bf, h.pt⟩
/-- one more that was not met -/
theorem LS.add (h : LS P W H0 F s d w H M wi i done) {m : St2 × List Int} (hm : M[i]? = some m) {e : St2 × Int} (he : e ∈ ways F m.1) (hn : e.1 ∉ M.map Prod.fst) {xs : List Ent} (b : DB P W H d xs) (en : EntM (NumL w H) xs M) {a l : Addr}
    (ha : H a = some (.tup [.str e.1.1, .bl e.1.2])) (hl : H l = some (.lst ((m.2 ++ [e.2]).map V.int))) (lw : l ≠ w) (few : F.length ≤ 1000) {vs : List V} (hw : H w = some (.lst vs)) (pr : Paired (TupB H) vs ((M.drop wi).map Prod.fst)) (hwi : wi ≤ M.length) :
    xs.length < sizeLine ∧ vs.length < sizeLine ∧ valT xs (keyOf e.1) = none ∧ LS P W H0 F s d w (upd (upd H d (exD P W d (putT xs (keyOf e.1) a (.ref l)))) w (.lst (vs ++ [.ref a]))) (M ++ [(e.1, m.2 ++ [e.2])]) wi i (done ++ [e]) := by
  have hML : M.length ≤ 4002 := by
    have := h.bf.few
    rw [List.length_map] at this
    omega
  have lx : xs.length = M.length := Paired.length en
  have lv : vs.length ≤ M.length := by
    rw [Paired.length pr, List.length_map, List.length_drop]; omega
  have sz : xs.length < sizeLine := by rw [sizeLine_eq]; omega
  have vn := valT_none en hn
  have pn : putT xs (keyOf e.1) a (.ref l) = xs ++ [(keyOf e.1, a, .ref l)] := putT_new vn
  refine ⟨sz, by rw [sizeLine_eq]; omega, vn, ex_upd (ex_upd h.ex h.nd) h.nw, h.nd, h.nw, h.ne, ?_, ?_, ?_, ?_⟩
  · refine ⟨xs ++ [(keyOf e.1, a, .ref l)], ?_, ?_⟩
    · have b' := b.put (v := .ref l) (TupB.key ha) sz
      rw [pn] at b' ⊢
      exact b'.updW (by rw [upd_ne h.ne.symm]; exact hw) h.ne
    · refine EntM.snoc (Paired.imp en fun a c q => ⟨q.1, (q.2.updD b.at_).updW⟩) ?_
      exact NumL.updW (NumL.updD ⟨l, lw, rfl, hl⟩ b.at_)
  · refine ⟨vs ++ [.ref a], upd_same, ?_⟩
    rw [List.drop_append_of_le_length hwi, List.map_append]
    have tu : ∀ {v : V} {t : St2}, TupB H v t → TupB (upd (upd H d (exD P W d (putT xs (keyOf e.1) a (.ref l)))) w (.lst (vs ++ [.ref a]))) v t := by
      intro v t q
      exact (q.upd b.at_ (by intro vs z; cases (show HO.ext _ = HO.tup vs from z))).upd (by rw [upd_ne h.ne.symm]; exact hw) (by intro vs z; cases z)
    exact Paired.snoc (Paired.imp pr fun a c q => tu q) (tu ⟨a, rfl, ha⟩)
  · have hb := h.bf.new (lens_at hm) he (by rw [lens_fst]; exact hn)
    have e1 : lens (M ++ [(e.1, m.2 ++ [e.2])]) = lens M ++ [(e.1, m.2.length + 1)] := by
      rw [lens, List.map_append]
      show _ ++ [(e.1, (m.2 ++ [e.2]).length)] = _
      rw [List.length_append]; rfl
    rw [e1]; exact hb
  · intro m' hm'
    rcases List.mem_append.mp hm' with q | q
    · exact h.pt m' q
    · rw [List.mem_singleton.mp q]
      exact .snoc (h.pt m (List.mem_of_getElem? hm)) he
theorem LS.old (h : LS P W H0 F s d w H M wi i done) {m : St2 × List Int} (hm : M[i]? = some m) {e : St2 × Int} (hn : e.1 ∈ M.map Prod.fst) : LS P W H0 F s d w H M wi i (done ++ [e]) :=
  ⟨h.ex, h.nd, h.nw, h.ne, h.db, h.wt, h.bf.old (lens_at hm) (by rw [lens_fst]; exact hn), h.pt⟩
theorem LS.next (h : LS P W H0 F s d w H M wi i done) {m : St2 × List Int} (hm : M[i]? = some m) (hd : done = ways F m.1) : LS P W H0 F s d w H M wi (i + 1) [] := by
  subst hd
  exact ⟨h.ex, h.nd, h.nw, h.ne, h.db, h.wt, h.bf.next (lens_at hm), h.pt⟩
end
def NumV (H : Hp) (v : V) (ns : List Int) : Prop := ∃ l, v = .ref l ∧ H l = some (.lst (ns.map V.int))
theorem Dist.near {F : List Fc} {s : St2} {L : List (St2 × Nat)} (d : Dist F s L) (t : St2) : t ∈ L.map Prod.fst ↔ Near F s t := by
  constructor
  · intro h
    obtain ⟨a, ha, e⟩ := List.mem_map.mp h
    obtain ⟨ns, p, _⟩ := d.path a ha
    exact ⟨ns, e ▸ p⟩
  · rintro ⟨ns, p⟩
    obtain ⟨k, h, _⟩ := d.all ns t p
    exact List.mem_map.mpr ⟨_, h, rfl⟩
open Classical in
/-- are the words the same, apart, or is it open -/
noncomputable def areV (F : List Fc) (x y : Str) : V := if Near F (x, false) (y, false) then .bl true else if Near F (x, false) (y, true) then .bl false else .non
theorem areV_cases {F : List Fc} {x y : Str} {G : V → Prop} {b0 b1 : Bool} (h0 : b0 = true ↔ Near F (x, false) (y, false)) (h1 : b1 = true ↔ Near F (x, false) (y, true)) (q : G (areV F x y)) : if b0 = true then G (.bl true) else if b1 = true then G (.bl false) else G .non := by
  unfold areV at q
  by_cases n0 : Near F (x, false) (y, false)
  · rw [if_pos (h0.mpr n0)]
    rw [if_pos n0] at q
    exact q
  · rw [if_neg (fun z => n0 (h0.mp z))]
    rw [if_neg n0] at q
    by_cases n1 : Near F (x, false) (y, true)
    · rw [if_pos (h1.mpr n1)]
      rw [if_pos n1] at q
      exact q
    · rw [if_neg (fun z => n1 (h1.mp z))]
      rw [if_neg n1] at q
      exact q
theorem House.ex {CF CS : Addr} {H H' : Hp} {p fl : Addr} {F : List Fc} {told : Int} (h : House CF CS H p fl F told) (e : Ex H H') : House CF CS H' p fl F told := by
  obtain ⟨⟨dx, h1⟩, xs, h2, h3⟩ := h
  exact ⟨⟨dx, e _ _ h1⟩, xs, e _ _ h2, Paired.imp h3 fun a b q => q.mono e⟩
def datA : V → PyData
  | .bl b => .bool b
  | _ => .none
theorem datA_ok {v : V} (h : v = .non ∨ v = .bl true ∨ v = .bl false) : (∀ K H, Dp K H v (datA v)) ∧ (datA v).showable = true ∧ (datA v).depth ≤ 60 ∧ (datA v).shown.length ≤ sizeLine := by
  rcases h with rfl | rfl | rfl
  · refine ⟨fun K H => .non, by kernel_rfl, by decide +kernel, by decide +kernel⟩
  · refine ⟨fun K H => .bl _, by kernel_rfl, by decide +kernel, by decide +kernel⟩
  · refine ⟨fun K H => .bl _, by kernel_rfl, by decide +kernel, by decide +kernel⟩
theorem areV_one (F : List Fc) (x y : Str) : areV F x y = .non ∨ areV F x y = .bl true ∨ areV F x y = .bl false := by
  unfold areV
  split
  · exact .inr (.inl rfl)
  · split
    · exact .inr (.inr rfl)
    · exact .inl rfl
theorem datA_shown {v u : V} (h : v = .non ∨ v = .bl true ∨ v = .bl false) (h' : u = .non ∨ u = .bl true ∨ u = .bl false) : (V.str (datA v).shown = V.str (datA u).shown) ↔ v = u := by
  constructor
  · rcases h with rfl | rfl | rfl <;> rcases h' with rfl | rfl | rfl <;> intro e <;> first
      | rfl
      | exact absurd (V.str.inj e) (by decide +kernel)
  · intro e; rw [e]
theorem FactAt.upd {C : Addr} {H : Hp} {x : V} {f : Fc} {a : Addr} {o u : HO} (h : FactAt C H x f) (ha : H a = some o) (no : ∀ dx f, o ≠ .ins C dx (factF f)) : FactAt C (L2.upd H a u) x f := by
  obtain ⟨p, dx, e, hp⟩ := h
  refine ⟨p, dx, e, ?_⟩
  rw [upd_ne (fun z => by rw [z, ha] at hp; exact no _ _ (Option.some.inj hp))]
  exact hp
theorem not_fact {C C' dx' : Addr} {x y : Str × V} : ∀ dx f, HO.ins C' dx' [x, y] ≠ .ins C dx (factF f) := by
  intro dx f z
  injection z with z1 z2 z3
  have := congrArg List.length z3
  cases this
theorem lst_fact {C : Addr} {xs : List V} : ∀ dx f, HO.lst xs ≠ .ins C dx (factF f) := by
  intro dx f z
  cases z
theorem Keep.ex2 {S : Addr → Prop} {H H' : Hp} {a : Addr} {o : HO} (k : Keep S H H') (s : S a) : Keep S H (L2.upd H' a o) := fun b u e n => by
  rw [upd_ne (fun z => n (by rw [z]; exact s))]; exact k b u e n
/-- the house and the law's own list of the same facts -/
structure Both (A1 A2 : Addr) (H : Hp) (p fl q : Addr) (F : List Fc) (told : Int) : Prop where
  hs : House A1 A2 H p fl F told
  fs : ∃ xs, H q = some (.lst xs) ∧ Paired (FactV H) xs F
  ne : q ≠ fl
  uq : Uniq F
  ag : Agree F
  lt : ∀ g ∈ F, g.n < told
  nn : ∀ g ∈ F, 0 ≤ g.n
  t0 : 0 ≤ told
  gw : ∀ g ∈ F, GoodW g.a ∧ GoodW g.b
theorem Both.ex {A1 A2 : Addr} {H H' : Hp} {p fl q : Addr} {F : List Fc} {told : Int} (h : Both A1 A2 H p fl q F told) (e : Ex H H') : Both A1 A2 H' p fl q F told := by
  obtain ⟨xs, h1, h2⟩ := h.fs
  exact ⟨h.hs.ex e, ⟨xs, e _ _ h1, Paired.imp h2 fun a b z => z.mono e⟩, h.ne, h.uq, h.ag, h.lt, h.nn, h.t0, h.gw⟩
theorem Both.fv {A1 A2 : Addr} {H : Hp} {p fl q : Addr} {F : List Fc} {told : Int} (h : Both A1 A2 H p fl q F told) : FactsV H (.ref q) F := by
  obtain ⟨xs, h1, h2⟩ := h.fs
  exact ⟨q, xs, rfl, h1, h2⟩
abbrev Three (b p fl : Addr) : Addr → Prop := fun a => a = b ∨ a = p ∨ a = fl
theorem fact_keep {H H' : Hp} {v : V} {f : Fc} {S : Addr → Prop} (h : FactV H v f) (k : Keep S H H') (n : ∀ a vs, H a = some (.tup vs) → ¬ S a) : FactV H' v f := by
  obtain ⟨a, h1, h2⟩ := h
  exact ⟨a, h1, k _ _ h2 (n _ _ h2)⟩
theorem facts_keep {H H' : Hp} {xs : List V} {F : List Fc} {S : Addr → Prop} (h : Paired (FactV H) xs F) (k : Keep S H H') (n : ∀ a vs, H a = some (.tup vs) → ¬ S a) : Paired (FactV H') xs F := Paired.imp h fun v f q => fact_keep q k n
/-- a house is kept through a change of other things -/
theorem House.keep {C1 C2 : Addr} {H H' : Hp} {p fl b : Addr} {F : List Fc} {told : Int} {n : Nat} (h : House C1 C2 H p fl F told) (k : Keep (One b) H H') (hB : BoxAt H b n) : House C1 C2 H' p fl F told := by
  obtain ⟨⟨dx, h1⟩, xs, h2, h3⟩ := h
  obtain ⟨x, y, z, hb, _⟩ := hB
  have nI : ∀ {a C d : Addr} {fs : List (Str × V)}, H a = some (.ins C d fs) → a ≠ b := fun ha e => by rw [e, hb] at ha; cases ha
  refine ⟨⟨dx, k _ _ h1 (nI h1)⟩, xs, k _ _ h2 (fun e => ?_), Paired.imp h3 fun v f q => ?_⟩
  · rw [show fl = b from e, hb] at h2
    injection h2 with h2
    injection h2 with h2
    rw [← h2] at h3
    cases h3 with
    | cons q _ =>
      obtain ⟨a, dx, e, _⟩ := q
      cases e
  · obtain ⟨a, dx, e, ha⟩ := q
    exact ⟨a, dx, e, k _ _ ha (nI ha)⟩
theorem Both.keep {A1 A2 : Addr} {H H' : Hp} {p fl q b : Addr} {F : List Fc} {told : Int} {n : Nat} (h : Both A1 A2 H p fl q F told) (k : Keep (One b) H H') (hB : BoxAt H b n) : Both A1 A2 H' p fl q F told := by
  obtain ⟨xs, h1, h2⟩ := h.fs
  refine ⟨h.hs.keep k hB, ⟨xs, ?_, ?_⟩, h.ne, h.uq, h.ag, h.lt, h.nn, h.t0, h.gw⟩
  · obtain ⟨x, y, z, hb, _⟩ := hB
    refine k _ _ h1 fun e => ?_
    rw [show q = b from e, hb] at h1
    injection h1 with h1
    injection h1 with h1
    rw [← h1] at h2
    cases h2 with
    | cons q _ =>
      obtain ⟨a, e, _⟩ := q
      cases e
  · obtain ⟨x, y, z, hb, _⟩ := hB
    exact facts_keep h2 k fun a vs ha e => by rw [show a = b from e, hb] at ha; cases ha
theorem pool_ne {C1 C2 : Addr} {H : Hp} {p fl pp : Addr} {F : List Fc} {told : Int} {ws : List Str} (h : House C1 C2 H p fl F told) (hp : H pp = some (.lst (ws.map V.str))) (l : 2 ≤ ws.length) : pp ≠ p ∧ pp ≠ fl := by
  obtain ⟨⟨dx, h1⟩, xs, h2, h3⟩ := h
  refine ⟨fun e => (by rw [e, h1] at hp; cases hp), fun e => ?_⟩
  rw [e, h2] at hp
  injection hp with hp
  injection hp with hp
  subst hp
  cases ws with
  | nil => simp at l
  | cons w ws =>
    cases h3 with
    | cons q _ =>
      obtain ⟨a, dx, e, _⟩ := q
      cases e
theorem pool_box {H : Hp} {b pp : Addr} {ws : List Str} {n : Nat} (hB : BoxAt H b n) (hp : H pp = some (.lst (ws.map V.str))) (l : 2 ≤ ws.length) : pp ≠ b := by
  intro e
  obtain ⟨x, y, z, hb, _⟩ := hB
  rw [e, hb] at hp
  injection hp with hp
  injection hp with hp
  cases ws with
  | nil => simp at l
  | cons w ws => cases hp
theorem areV_due {F : List Fc} {x y : Str} {ap : Bool} (h : Agree F) (d : areV F x y ≠ .bl ap) : ¬ Near F (x, false) (y, !ap) := by
  intro n
  unfold areV at d
  cases ap with
  | true =>
    have n' : Near F (x, false) (y, false) := n
    exact d (by rw [if_pos n'])
  | false =>
    have n' : Near F (x, false) (y, true) := n
    rw [if_neg (fun z => h.never z n'), if_pos n'] at d
    exact d rfl
theorem areV_not {F : List Fc} {x y : Str} {ap : Bool} (d : areV F x y = .bl ap) : Near F (x, false) (y, !ap) := by
  unfold areV at d
  split at d
  · next h => cases d; exact h
  · split at d
    · next h => cases d; exact h
    · cases d
theorem sqL_ex {K : PySem.W.Frag} {H H' : Hp} {a : Addr} {xs : List V} (h : SqL K H a xs) (e : Ex H H') : SqL K H' a xs := by
  rcases h with (h | ⟨ob, h⟩) | h
  · exact .inl (.inl (e _ _ h))
  · exact .inl (.inr ⟨ob, e _ _ h⟩)
  · exact .inr h
end MC
/-! Lev: the law's own going through, one row of words behind the other. -/
namespace MC
open PySem PySem.Spec PyProof.Rows L2
def IntV (v : V) (n : Nat) : Prop := v = .int n
/-- within the law's going through: M the words met ahead of this row's end, N those behind -/
structure LV (P : Program) (W : World) (H0 : Hp) (F : List Fc) (s : St2) (d bl rl : Addr) (H : Hp) (M N : List (St2 × Nat)) (i0 i k : Nat) (done : List (St2 × Int)) : Prop where
  ex : Ex H0 H
  nd : H0 d = none
  nb : H0 bl = none
  ne : d ≠ bl
  nr : rl ≠ bl
  db : ∃ xs, DB P W H d xs ∧ EntM IntV xs (M ++ N)
  rw : ∃ vs, H rl = some (.lst vs) ∧ Paired (TupI H) vs ((M.drop i0).map Prod.fst)
  bh : ∃ vs, H bl = some (.lst vs) ∧ Paired (TupI H) vs (N.map Prod.fst)
  bf : Bfs F s (M ++ N) i done
  vm : ∀ a ∈ M.drop i0, a.2 = k
  vn : ∀ a ∈ N, a.2 = k + 1
section
variable {P : Program} {W : World} {H0 H H' : Hp} {F : List Fc} {s : St2} {d bl rl : Addr} {M N : List (St2 × Nat)} {i0 i k : Nat} {done : List (St2 × Int)}
theorem LV.grow (h : LV P W H0 F s d bl rl H M N i0 i k done) (e : Ex H H') : LV P W H0 F s d bl rl H' M N i0 i k done := by
  obtain ⟨xs, b, en⟩ := h.db
  obtain ⟨vs, hw, pr⟩ := h.rw
  obtain ⟨ws, hb, pb⟩ := h.bh
  exact ⟨h.ex.trans e, h.nd, h.nb, h.ne, h.nr, ⟨xs, b.ex e, en⟩, ⟨vs, e _ _ hw, Paired.imp pr fun a c q => q.ex e⟩, ⟨ws, e _ _ hb, Paired.imp pb fun a c q => q.ex e⟩, h.bf, h.vm, h.vn⟩
theorem TupI.upd {v : V} {t : St2} {a : Addr} {o u : HO} (h : TupI H v t) (ha : H a = some u) (ht : ∀ vs, u ≠ .tup vs) : TupI (L2.upd H a o) v t := by
  obtain ⟨b, h1, h2⟩ := h
  refine ⟨b, h1, ?_⟩
  rw [upd_ne (fun e => by rw [e, ha] at h2; exact ht _ (Option.some.inj h2))]
  exact h2
theorem LV.put (h : LV P W H0 F s d bl rl H M N i0 i k done) {m : St2 × Nat} (hm : (M ++ N)[i]? = some m) (hk : m.2 = k) {e : St2 × Int} (he : e ∈ ways F m.1) (hn : e.1 ∉ (M ++ N).map Prod.fst) {xs : List Ent} (b : DB P W H d xs) (en : EntM IntV xs (M ++ N)) {a : Addr}
    (ha : H a = some (.tup [.str e.1.1, .int (b2i e.1.2)])) (few : F.length ≤ 1000) {vs : List V} (hb : H bl = some (.lst vs)) {a2 : Addr} (ha2 : (upd H d (exD P W d (putT xs (keyOf e.1) a (.int ((k + 1 : Nat)))))) a2 = none) :
    xs.length < sizeLine ∧ vs.length < sizeLine ∧ LV P W H0 F s d bl rl (upd (upd (upd H d (exD P W d (putT xs (keyOf e.1) a (.int ((k + 1 : Nat)))))) a2 (.tup [.str e.1.1, .int (b2i e.1.2)])) bl (.lst (vs ++ [.ref a2]))) M (N ++ [(e.1, k + 1)]) i0 i k (done ++ [e]) := by
  have hML : (M ++ N).length ≤ 4002 := by
    have := h.bf.few
    omega
  have lx : xs.length = (M ++ N).length := Paired.length en
  obtain ⟨vs', hb', pb⟩ := h.bh
  rw [hb] at hb'
  cases hb'
  have lv : vs.length ≤ (M ++ N).length := by
    rw [Paired.length pb, List.length_map, List.length_append]; omega
  have sz : xs.length < sizeLine := by rw [sizeLine_eq]; omega
  have vn := valT_none en hn
  have pn : putT xs (keyOf e.1) a (.int ((k + 1 : Nat))) = xs ++ [(keyOf e.1, a, .int ((k + 1 : Nat)))] := putT_new vn
  have hbd : (upd H d (exD P W d (putT xs (keyOf e.1) a (.int ((k + 1 : Nat)))))) bl = some (.lst vs) := by rw [upd_ne h.ne.symm]; exact hb
  have hb2 : (upd (upd H d (exD P W d (putT xs (keyOf e.1) a (.int ((k + 1 : Nat)))))) a2 (.tup [.str e.1.1, .int (b2i e.1.2)])) bl = some (.lst vs) := upd_new hbd ha2
  have nda : d ≠ a2 := ne_of_none (show (upd H d (exD P W d (putT xs (keyOf e.1) a (.int ((k + 1 : Nat)))))) d = some _ from upd_same) ha2
  have tu : ∀ {v : V} {t : St2}, TupI H v t → TupI (upd (upd (upd H d (exD P W d (putT xs (keyOf e.1) a (.int ((k + 1 : Nat)))))) a2 (.tup [.str e.1.1, .int (b2i e.1.2)])) bl (.lst (vs ++ [.ref a2]))) v t := by
    intro v t q
    exact ((q.upd b.at_ (by intro vs z; cases (show HO.ext _ = HO.tup vs from z))).ex (Ex.new ha2)).upd hb2 (by intro vs z; cases z)
  refine ⟨sz, by rw [sizeLine_eq]; omega, ex_upd ((ex_upd h.ex h.nd).trans (Ex.new ha2)) h.nb, h.nd, h.nb, h.ne, h.nr, ?_, ?_, ?_, ?_, h.vm, ?_⟩
  · refine ⟨xs ++ [(keyOf e.1, a, .int ((k + 1 : Nat)))], ?_, ?_⟩
    · have b' := b.put (v := .int ((k + 1 : Nat))) (TupI.key ha) sz
      rw [pn] at b' hb2 ha2 ⊢
      exact (b'.ex (Ex.new ha2)).updW hb2 h.ne
    · rw [← List.append_assoc]
      exact EntM.snoc en rfl
  · obtain ⟨ws, hw, pr⟩ := h.rw
    refine ⟨ws, ?_, Paired.imp pr fun a c q => tu q⟩
    rw [upd_ne h.nr]
    refine upd_new ?_ ha2
    rw [upd_ne (fun e => by
      rw [e, b.at_] at hw
      have z : HO.ext _ = HO.lst ws := Option.some.inj hw
      cases z)]
    exact hw
  · refine ⟨vs ++ [.ref a2], upd_same, ?_⟩
    rw [List.map_append]
    exact Paired.snoc (Paired.imp pb fun a c q => tu q) ⟨a2, rfl, by rw [upd_ne (fun e => by rw [e, hbd] at ha2; cases ha2)]; exact upd_same⟩
  · have hb := h.bf.new (k := k) (u := m.1) (by rw [hm]; show some (m.1, m.2) = _; rw [hk]) he hn
    rw [← List.append_assoc]
    exact hb
  · intro x hx
    rcases List.mem_append.mp hx with q | q
    · exact h.vn x q
    · rw [List.mem_singleton.mp q]
theorem LV.old (h : LV P W H0 F s d bl rl H M N i0 i k done) {m : St2 × Nat} (hm : (M ++ N)[i]? = some m) {e : St2 × Int} (hn : e.1 ∈ (M ++ N).map Prod.fst) : LV P W H0 F s d bl rl H M N i0 i k (done ++ [e]) :=
  ⟨h.ex, h.nd, h.nb, h.ne, h.nr, h.db, h.rw, h.bh, h.bf.old hm hn, h.vm, h.vn⟩
theorem LV.next (h : LV P W H0 F s d bl rl H M N i0 i k done) {m : St2 × Nat} (hm : (M ++ N)[i]? = some m) (hd : done = ways F m.1) : LV P W H0 F s d bl rl H M N i0 (i + 1) k [] := by
  subst hd
  exact ⟨h.ex, h.nd, h.nb, h.ne, h.nr, h.db, h.rw, h.bh, h.bf.next hm, h.vm, h.vn⟩
/-- between two rows -/
structure LW (P : Program) (W : World) (H0 : Hp) (F : List Fc) (s : St2) (d rl : Addr) (H : Hp) (M : List (St2 × Nat)) (i k : Nat) : Prop where
  ex : Ex H0 H
  nd : H0 d = none
  db : ∃ xs, DB P W H d xs ∧ EntM IntV xs M
  rw : ∃ vs, H rl = some (.lst vs) ∧ Paired (TupI H) vs ((M.drop i).map Prod.fst)
  bf : Bfs F s M i []
  vm : ∀ a ∈ M.drop i, a.2 = k
theorem LW.grow (h : LW P W H0 F s d rl H M i k) (e : Ex H H') : LW P W H0 F s d rl H' M i k := by
  obtain ⟨xs, b, en⟩ := h.db
  obtain ⟨vs, hw, pr⟩ := h.rw
  exact ⟨h.ex.trans e, h.nd, ⟨xs, b.ex e, en⟩, ⟨vs, e _ _ hw, Paired.imp pr fun a c q => q.ex e⟩, h.bf, h.vm⟩
theorem LW.start (h : LW P W H0 F s d rl H M i k) (hb : H bl = none) : LV P W H0 F s d bl rl (upd H bl (.lst [])) M [] i i k [] := by
  obtain ⟨xs, b, en⟩ := h.db
  obtain ⟨vs, hw, pr⟩ := h.rw
  have e : Ex H (upd H bl (.lst [])) := Ex.new hb
  exact ⟨h.ex.trans e, h.nd, Ex.fresh h.ex hb, ne_of_none b.at_ hb, ne_of_none hw hb, ⟨xs, b.ex e, by rw [List.append_nil]; exact en⟩, ⟨vs, e _ _ hw, Paired.imp pr fun a c q => q.ex e⟩, ⟨[], upd_same, .nil⟩, by rw [List.append_nil]; exact h.bf, h.vm, fun a ha => by cases ha⟩
theorem LV.stop (h : LV P W H0 F s d bl rl H M N i0 M.length k []) : LW P W H0 F s d bl H (M ++ N) M.length (k + 1) := by
  refine ⟨h.ex, h.nd, h.db, ?_, h.bf, ?_⟩
  · rw [List.drop_append_of_le_length (Nat.le_refl _), List.drop_length, List.nil_append]; exact h.bh
  · rw [List.drop_append_of_le_length (Nat.le_refl _), List.drop_length, List.nil_append]; exact h.vn
end
end MC
/-! ReprF: facts shown. -/
namespace MC
open PySem PySem.Spec PyProof.Rows L2
theorem log_small {n : Nat} (h : n ≤ 100000) : n.log2 ≤ 16 := by
  by_cases h0 : n = 0
  · subst h0; decide
  · have := (Nat.log2_lt h0 (k := 17)).mpr (by omega)
    omega
theorem datI {i : Int} (h0 : 0 ≤ i) (h1 : i ≤ 100000) : (PyData.int i).showable = true ∧ (PyData.int i).depth ≤ 60 ∧ (PyData.int i).shown.length ≤ sizeLine := by
  have hn : i.natAbs ≤ 100000 := by omega
  have hl := log_small hn
  refine ⟨?_, by simp only [PyData.depth]; omega, ?_⟩
  · simp only [PyData.showable, decide_eq_true_eq]; omega
  · have := PyData.shown_int_le (i := i) (by omega)
    rw [sizeLine_eq]; omega
abbrev factsD (F : List Fc) : PyData := .list (F.map factD)
theorem facts_dp {K : PySem.W.Frag} {H : Hp} {xs : List V} {F : List Fc} (h : Paired (FactV H) xs F) : DpAll K H xs (F.map factD) := by
  induction h with
  | nil => exact .nil
  | @cons x f xs F hx _ ih =>
    obtain ⟨a, rfl, ha⟩ := hx
    exact .cons (.tup (.inl (.inl ha)) (.cons (.int _) (.cons (.str _) (.cons (.str _) (.cons (.str _) .nil))))) ih
theorem good_all {z : Str} (h : GoodW z) : (z.cps.toList.all fun c => decide (c < 16 ^ 8)) = true := by
  rw [List.all_eq_true]
  intro c hc
  have := h.ascii c hc
  rw [decide_eq_true_eq]
  omega
theorem kind_all (ap : Bool) : ((kindS ap).cps.toList.all fun c => decide (c < 16 ^ 8)) = true ∧ (kindS ap).cps.size ≤ 5 := by
  cases ap <;> exact ⟨by decide +kernel, by decide +kernel⟩
theorem facts_dat : ∀ {F : List Fc}, (∀ g ∈ F, 0 ≤ g.n ∧ g.n ≤ 100000 ∧ GoodW g.a ∧ GoodW g.b) → PyData.showableAll (F.map factD) = true ∧ PyData.depthAll (F.map factD) ≤ 4 ∧ PyData.leavesShortAll 13 (F.map factD) = true ∧ PyData.weightAll (F.map factD) ≤ 100 * F.length
  | [], _ => ⟨rfl, by decide, rfl, by decide⟩
  | f :: F, h => by
    obtain ⟨i1, i2, i3, i4⟩ := facts_dat fun g hg => h g (List.mem_cons_of_mem _ hg)
    obtain ⟨h0, h1, ga, gb⟩ := h f List.mem_cons_self
    obtain ⟨d1, d2, d3⟩ := datI h0 h1
    obtain ⟨k1, k2⟩ := kind_all f.ap
    have hl := log_small (n := f.n.natAbs) (by omega)
    have la := ga.len.2
    have lb := gb.len.2
    have la' : f.a.cps.size ≤ 16 := la
    have lb' : f.b.cps.size ≤ 16 := lb
    have sI := PyData.shown_int_le (i := f.n) (by omega)
    refine ⟨?_, ?_, ?_, ?_⟩
    · simp only [List.map_cons, PyData.showableAll, factD, PyData.showable, i1, Bool.and_true, Bool.and_eq_true, decide_eq_true_eq, and_true]
      omega
    · simp only [List.map_cons, PyData.depthAll, factD, PyData.depth]
      omega
    · simp only [List.map_cons, PyData.leavesShortAll, factD, PyData.leavesShort, i3, Bool.and_true, k1, good_all ga, good_all gb, decide_eq_true_eq]
      exact sI
    · simp only [List.map_cons, PyData.weightAll, factD, PyData.weight, List.length_cons]
      split <;> omega
theorem facts_show {F : List Fc} (h : ∀ g ∈ F, 0 ≤ g.n ∧ g.n ≤ 100000 ∧ GoodW g.a ∧ GoodW g.b) (l : F.length ≤ 1000) : (factsD F).showable = true ∧ (factsD F).depth ≤ 60 ∧ (factsD F).shown.length ≤ sizeLine := by
  obtain ⟨i1, i2, i3, i4⟩ := facts_dat h
  refine ⟨?_, ?_, ?_⟩
  · simp only [factsD, PyData.showable]; exact i1
  · simp only [factsD, PyData.depth]; omega
  · refine PyData.shown_fits (B := 13) (by decide) (by decide) ?_ ?_
    · simp only [factsD, PyData.leavesShort]; exact i3
    · simp only [factsD, PyData.weight]; omega
theorem Both.show {A1 A2 : Addr} {H : Hp} {p fl q : Addr} {F : List Fc} {told : Int} (h : Both A1 A2 H p fl q F told) (tl : told ≤ 1000) : ∀ g ∈ F, 0 ≤ g.n ∧ g.n ≤ 100000 ∧ GoodW g.a ∧ GoodW g.b := fun g hg => by
  have h1 := h.lt g hg
  exact ⟨h.nn g hg, by omega, h.gw g hg⟩
theorem areV_of {F : List Fc} {x y : Str} {ap : Bool} (h : Agree F) (n : Near F (x, false) (y, !ap)) : areV F x y = .bl ap := by
  unfold areV
  cases ap with
  | true =>
    have n' : Near F (x, false) (y, false) := n
    rw [if_pos n']
  | false =>
    have n' : Near F (x, false) (y, true) := n
    rw [if_neg (fun z => h.never z n'), if_pos n']
end MC
/-! MaxD: max(a list of whole numbers, default=d). -/
namespace MC
open PySem PySem.Spec PyProof.Rows L2
theorem fold_most : ∀ (ns : List Int) (n : Int), ns.foldl max n ∈ n :: ns ∧ ∀ y ∈ n :: ns, y ≤ ns.foldl max n
  | [], n => ⟨List.mem_cons_self, fun y hy => by rw [List.mem_singleton.mp hy]; exact Int.le_refl _⟩
  | k :: r, n => by
    obtain ⟨h1, h2⟩ := fold_most r (max n k)
    rw [List.foldl_cons]
    have up := h2 (max n k) List.mem_cons_self
    refine ⟨?_, fun y hy => ?_⟩
    · rcases List.mem_cons.mp h1 with e | h
      · rw [e]
        by_cases hk : n ≤ k
        · rw [show max n k = k from by omega]; exact List.mem_cons_of_mem _ List.mem_cons_self
        · rw [show max n k = n from by omega]; exact List.mem_cons_self
      · exact List.mem_cons_of_mem _ (List.mem_cons_of_mem _ h)
    · rcases List.mem_cons.mp hy with e | hy
      · rw [e]; omega
      · rcases List.mem_cons.mp hy with e | hy
        · rw [e]; omega
        · exact h2 y (List.mem_cons_of_mem _ hy)
theorem ints_depth : ∀ ns : List Int, PyData.depthAll (ns.map .int) = 0
  | [] => by simp only [List.map_nil, PyData.depthAll]
  | n :: r => by simp only [List.map_cons, PyData.depthAll, PyData.depth, ints_depth r]; omega
theorem ints_alike (ns : List Int) : PySem.W.AlikeAll (ns.map .int) := by
  refine ⟨fun x hx y hy => ?_, fun x hx => ?_⟩
  · obtain ⟨i, _, rfl⟩ := List.mem_map.mp hx
    obtain ⟨j, _, rfl⟩ := List.mem_map.mp hy
    simp only [PySem.W.alike]
  · obtain ⟨i, _, rfl⟩ := List.mem_map.mp hx
    intro z; cases z
theorem ints_dp {K : PySem.W.Frag} {H : Hp} : ∀ ns : List Int, DpAll K H (ns.map V.int) (ns.map .int)
  | [] => .nil
  | n :: r => .cons (.int n) (ints_dp r)
def tMaxD (K : PySem.W.Frag) (ta td : TE) : TE := fun σ H Q => ta σ H fun x H1 => td σ H1 fun z H2 => ∃ a ns d, x = .ref a ∧ z = .int d ∧ SqL K H2 a (ns.map V.int) ∧ (ns = [] → Q (.int d) H2) ∧ ∀ m, m ∈ ns → (∀ y ∈ ns, y ≤ m) → Q (.int m) H2
theorem pe_maxD {X : Cx} {e d : Expr} {ta td : TE} {p kp pos : Pos} (hu : X.A.units + 64 < cLine) (hc : X.calm = true) (hg : Gl X "max") (hm : X.mg "max" = none) (ha : PE X e ta) (hd : PE X d td)
    (hse : starEach [e] X.env = (false, eval e X.env) :: starEach [] X.env := by rfl)
    (hks : (backToKw pos (keywordEach [⟨some "default", d, kp⟩] X.env)).filterMap (·.1) = [("default" : Str)] := by rfl)
    (he : backTo pos (starEach [e] X.env) = (false, eval e X.env) :: backTo pos (starEach [] X.env) := by rfl)
    (hpl : (backTo pos (starEach [e] X.env)).any (·.1) = false := by rfl) (hall : (backToKw pos (keywordEach [⟨some "default", d, kp⟩] X.env)).all (·.1.isSome) = true := by rfl)
    (hkw : (backToKw pos (keywordEach [⟨some "default", d, kp⟩] X.env)).any (·.1.isNone) = false := by rfl) :
    PE X (.Call (.Name "max" p) [e] [⟨some "default", d, kp⟩] pos) (tMaxD X.K ta td) := by
  refine ⟨fun pins s σ H Q I h => ?_⟩
  refine wpAny_Call_Name_kw (ld_blt (u := .builtin "max") I hg hm (by decide +kernel) ?_)
  refine PyProof.Rows.callWith_kw (thn ((pa_cons ha pa_nil hse).run pos pins s σ H (fun vs H1 => match vs with
    | [x] => td σ H1 fun z H2 => ∃ a ns d, x = .ref a ∧ z = .int d ∧ SqL X.K H2 a (ns.map V.int) ∧ (ns = [] → Q (.int d) H2) ∧ ∀ m, m ∈ ns → (∀ y ∈ ns, y ≤ m) → Q (.int m) H2
    | _ => False) I h) ?_) he hpl hall hkw
  rintro us s1 ⟨vs, H1, I1, r1, q1⟩
  match vs, q1, r1 with
  | [x], q1, r1 =>
    obtain ⟨u0, rfl, ru⟩ := vals1 r1
    refine thn ((pk_cons hd pk_nil).run pos pins s1 σ H1 (fun zs H2 => match zs with
      | [z] => ∃ a ns d, x = .ref a ∧ z = .int d ∧ SqL X.K H2 a (ns.map V.int) ∧ (ns = [] → Q (.int d) H2) ∧ ∀ m, m ∈ ns → (∀ y ∈ ns, y ≤ m) → Q (.int m) H2
      | _ => False) I1 q1) ?_
    rintro ws s2 ⟨zs, H2, I2, r2, q2⟩
    match zs, q2, r2 with
    | [z], q2, r2 =>
      obtain ⟨w0, rfl, rw0⟩ := vals1 r2
      obtain ⟨a, ns, d, rfl, rfl, hs, qn, qm⟩ := q2
      cases (show u0 = Value.ref a from ru)
      obtain ⟨t, rfl⟩ := (show ∃ t, w0 = Value.int d t from rw0)
      rw [hks]
      obtain ⟨its, rv, hl, _⟩ := I2.list hs
      obtain ⟨as, ra⟩ := Dp.readsAll I2 _ _ _ (ints_dp ns) rv
      refine PySem.W.max_list_default (xs := ns.map .int) (I2.ok.hd hc) hl.isList (by simpa using ra) (ints_alike ns) (by rw [ints_depth]; omega) ?_ ?_
      · intro e h' tk k
        exact ⟨.int d, H2, I2.kept k, ⟨t, rfl⟩, qn (List.map_eq_nil_iff.mp e)⟩
      · intro y ys i v h' tk bs e hv hr k
        cases ns with
        | nil => cases e
        | cons n r =>
          rw [List.map_cons] at e
          cases e
          rw [PySem.W.maxD_ints] at hr
          cases hr with
          | int _ t' =>
            obtain ⟨m1, m2⟩ := fold_most r n
            exact ⟨.int _, H2, I2.kept k, ⟨t', rfl⟩, qm _ m1 m2⟩
end MC
namespace MC
open PySem PySem.Spec PyProof.Rows L2
/-! ### the text by places -/
def top (i : Nat) : Stmt := PySem.Challenge.pw_manycustoms_k72_same_apart_or_open.main.body.getD i (.Pass ⟨0, 0, 0, 0⟩)
abbrev s_Clash_init : Stmt := inClass (top 5) 0
theorem sc_Clash_init : FnScope ["self", "numbers"] ["self", "numbers"] (defScope s_Clash_init) := ⟨rfl, rfl, rfl, by decide +kernel, rfl, by decide +kernel, by decide +kernel⟩
abbrev s_letters_in : Stmt := top 12
theorem sc_letters_in : FnScope ["text", "found", "sign"] ["text"] (defScope s_letters_in) := ⟨rfl, rfl, rfl, by decide +kernel, rfl, by decide +kernel, by decide +kernel⟩
abbrev s_is_word : Stmt := top 13
theorem sc_is_word : FnScope ["thing", "letters"] ["thing"] (defScope s_is_word) := ⟨rfl, rfl, rfl, by decide +kernel, rfl, by decide +kernel, by decide +kernel⟩
abbrev s_need_words : Stmt := top 15
theorem sc_need_words : FnScope ["one", "other", "word"] ["one", "other"] (defScope s_need_words) := ⟨rfl, rfl, rfl, by decide +kernel, rfl, by decide +kernel, by decide +kernel⟩
abbrev s_Fact_init : Stmt := inClass (top 16) 0
theorem sc_Fact_init : FnScope ["self", "number", "kind", "one", "other"] ["self", "number", "kind", "one", "other"] (defScope s_Fact_init) := ⟨rfl, rfl, rfl, by decide +kernel, rfl, by decide +kernel, by decide +kernel⟩
abbrev s_Fact_beyond : Stmt := inClass (top 16) 1
theorem sc_Fact_beyond : FnScope ["self", "word", "found"] ["self", "word"] (defScope s_Fact_beyond) := ⟨rfl, rfl, rfl, by decide +kernel, rfl, by decide +kernel, by decide +kernel⟩
abbrev s_Fact_shown : Stmt := inClass (top 16) 2
theorem sc_Fact_shown : FnScope ["self"] ["self"] (defScope s_Fact_shown) := ⟨rfl, rfl, rfl, by decide +kernel, rfl, by decide +kernel, by decide +kernel⟩
abbrev s_Sames_init : Stmt := inClass (top 17) 0
theorem sc_Sames_init : FnScope ["self"] ["self"] (defScope s_Sames_init) := ⟨rfl, rfl, rfl, by decide +kernel, rfl, by decide +kernel, by decide +kernel⟩
abbrev s_Sames_led : Stmt := inClass (top 17) 1
theorem sc_Sames_led : FnScope ["self", "word", "found", "waiting", "here", "fact", "there", "spot"] ["self", "word"] (defScope s_Sames_led) := ⟨rfl, rfl, rfl, by decide +kernel, rfl, by decide +kernel, by decide +kernel⟩
abbrev s_Sames_taken_up : Stmt := inClass (top 17) 2
theorem sc_Sames_taken_up : FnScope ["self", "kind", "one", "other", "against"] ["self", "kind", "one", "other"] (defScope s_Sames_taken_up) := ⟨rfl, rfl, rfl, by decide +kernel, rfl, by decide +kernel, by decide +kernel⟩
abbrev s_Sames_same : Stmt := inClass (top 17) 3
theorem sc_Sames_same : FnScope ["self", "one", "other"] ["self", "one", "other"] (defScope s_Sames_same) := ⟨rfl, rfl, rfl, by decide +kernel, rfl, by decide +kernel, by decide +kernel⟩
abbrev s_Sames_apart : Stmt := inClass (top 17) 4
theorem sc_Sames_apart : FnScope ["self", "one", "other"] ["self", "one", "other"] (defScope s_Sames_apart) := ⟨rfl, rfl, rfl, by decide +kernel, rfl, by decide +kernel, by decide +kernel⟩
abbrev s_Sames_are : Stmt := inClass (top 17) 5
theorem sc_Sames_are : FnScope ["self", "one", "other", "found"] ["self", "one", "other"] (defScope s_Sames_are) := ⟨rfl, rfl, rfl, by decide +kernel, rfl, by decide +kernel, by decide +kernel⟩
abbrev s_Sames_take_back : Stmt := inClass (top 17) 7
theorem sc_Sames_take_back : FnScope ["self", "number", "left", "fact"] ["self", "number"] (defScope s_Sames_take_back) := ⟨rfl, rfl, rfl, by decide +kernel, rfl, by decide +kernel, by decide +kernel⟩
abbrev s_Sames_facts : Stmt := inClass (top 17) 8
theorem sc_Sames_facts : FnScope ["self", "fact"] ["self"] (defScope s_Sames_facts) := ⟨rfl, rfl, rfl, by decide +kernel, rfl, by decide +kernel, by decide +kernel⟩
abbrev s_l_cell : Stmt := top 19
theorem sc_l_cell : FnScope ["_law_script", "_law_k"] ["_law_script", "_law_k"] (defScope s_l_cell) := ⟨rfl, rfl, rfl, by decide +kernel, rfl, by decide +kernel, by decide +kernel⟩
abbrev s_l_box : Stmt := top 20
theorem sc_l_box : FnScope ["_law_cell_here"] ["_law_cell_here"] (defScope s_l_box) := ⟨rfl, rfl, rfl, by decide +kernel, rfl, by decide +kernel, by decide +kernel⟩
abbrev s_l_take : Stmt := top 21
theorem sc_l_take : FnScope ["_law_box_here", "_law_many", "_law_digit", "_law_number"] ["_law_box_here", "_law_many"] (defScope s_l_take) := ⟨rfl, rfl, rfl, by decide +kernel, rfl, by decide +kernel, by decide +kernel⟩
abbrev s_l_word_letters : Stmt := top 22
theorem sc_l_word_letters : FnScope ["_law_box_here", "_law_size", "_law_small", "_law_found", "_law_k", "_law_way", "_law_sign", "_law_mark"] ["_law_box_here", "_law_size"] (defScope s_l_word_letters) := ⟨rfl, rfl, rfl, by decide +kernel, rfl, by decide +kernel, by decide +kernel⟩
abbrev s_l_pool : Stmt := top 23
theorem sc_l_pool : FnScope ["_law_box_here", "_law_small", "_law_size", "_law_way", "_law_first", "_law_at", "_law_stem", "_law_found", "_law_k", "_law_letter"] ["_law_box_here"] (defScope s_l_pool) := ⟨rfl, rfl, rfl, by decide +kernel, rfl, by decide +kernel, by decide +kernel⟩
abbrev s_l_cased : Stmt := top 24
theorem sc_l_cased : FnScope ["_law_box_here", "_law_pool_here", "_law_found", "_law_turn", "_law_word", "_law_smooth", "_law_other", "_law_sign"] ["_law_box_here", "_law_pool_here"] (defScope s_l_cased) := ⟨rfl, rfl, rfl, by decide +kernel, rfl, by decide +kernel, by decide +kernel⟩
abbrev s_l_beyond : Stmt := top 25
theorem sc_l_beyond : FnScope ["_law_fact", "_law_word", "_law_some"] ["_law_fact", "_law_word"] (defScope s_l_beyond) := ⟨rfl, rfl, rfl, by decide +kernel, rfl, by decide +kernel, by decide +kernel⟩
abbrev s_l_levels : Stmt := top 26
theorem sc_l_levels : FnScope ["_law_facts", "_law_one", "_law_found", "_law_rows", "_law_size", "_law_behind", "_law_word", "_law_crossed", "_law_fact", "_law_more", "_law_there"] ["_law_facts", "_law_one"] (defScope s_l_levels) := ⟨rfl, rfl, rfl, by decide +kernel, rfl, by decide +kernel, by decide +kernel⟩
abbrev s_l_are : Stmt := top 27
theorem sc_l_are : FnScope ["_law_facts", "_law_one", "_law_other", "_law_found"] ["_law_facts", "_law_one", "_law_other"] (defScope s_l_are) := ⟨rfl, rfl, rfl, by decide +kernel, rfl, by decide +kernel, by decide +kernel⟩
abbrev s_l_walk_right : Stmt := top 28
theorem sc_l_walk_right : FnScope ["_law_facts", "_law_one", "_law_other", "_law_numbers", "_law_apart", "_law_here", "_law_crossed", "_law_number", "_law_some", "_law_fact"] ["_law_facts", "_law_one", "_law_other", "_law_numbers", "_law_apart"] (defScope s_l_walk_right) := ⟨rfl, rfl, rfl, by decide +kernel, rfl, by decide +kernel, by decide +kernel⟩
abbrev s_l_fewest_right : Stmt := top 29
theorem sc_l_fewest_right : FnScope ["_law_facts", "_law_one", "_law_other", "_law_numbers", "_law_apart"] ["_law_facts", "_law_one", "_law_other", "_law_numbers", "_law_apart"] (defScope s_l_fewest_right) := ⟨rfl, rfl, rfl, by decide +kernel, rfl, by decide +kernel, by decide +kernel⟩
abbrev s_l_due : Stmt := top 30
theorem sc_l_due : FnScope ["_law_facts", "_law_kind", "_law_one", "_law_other"] ["_law_facts", "_law_kind", "_law_one", "_law_other"] (defScope s_l_due) := ⟨rfl, rfl, rfl, by decide +kernel, rfl, by decide +kernel, by decide +kernel⟩
abbrev s_l_told : Stmt := top 31
theorem sc_l_told : FnScope ["_law_house", "_law_kind", "_law_one", "_law_other", "e"] ["_law_house", "_law_kind", "_law_one", "_law_other"] (defScope s_l_told) := ⟨rfl, rfl, rfl, by decide +kernel, rfl, by decide +kernel, by decide +kernel⟩
abbrev s_l_deed : Stmt := top 32
theorem sc_l_deed : FnScope ["_law_box_here", "_law_house", "_law_pool_here", "_law_facts", "_law_told_here", "_law_one", "_law_other", "_law_way", "_law_number", "_law_kind", "_law_found", "_law_fact"] ["_law_box_here", "_law_house", "_law_pool_here", "_law_facts", "_law_told_here"] (defScope s_l_deed) := ⟨rfl, rfl, rfl, by decide +kernel, rfl, by decide +kernel, by decide +kernel⟩
abbrev s_l_row_right : Stmt := top 33
theorem sc_l_row_right : FnScope ["_law_house", "_law_facts", "_law_one", "_law_pool_here", "_law_found", "_law_other", "_law_due_here"] ["_law_house", "_law_facts", "_law_one", "_law_pool_here"] (defScope s_l_row_right) := ⟨rfl, rfl, rfl, by decide +kernel, rfl, by decide +kernel, by decide +kernel⟩
abbrev s_law : Stmt := top 34
theorem sc_law : FnScope ["_law_script", "_law_k", "_law_box_here", "_law_pool_here", "_law_house", "_law_facts", "_law_count", "_law_turn", "_law_fact", "_law_one"] ["_law_script"] (defScope s_law) := ⟨rfl, rfl, rfl, by decide +kernel, rfl, by decide +kernel, by decide +kernel⟩
/-! ### the addresses -/
structure Ad where
  P : Program
  w : World
  f_Clash_init : Addr
  f_letters_in : Addr
  f_is_word : Addr
  f_need_words : Addr
  f_Fact_init : Addr
  f_Fact_beyond : Addr
  f_Fact_shown : Addr
  f_Sames_init : Addr
  f_Sames_led : Addr
  f_Sames_taken_up : Addr
  f_Sames_same : Addr
  f_Sames_apart : Addr
  f_Sames_are : Addr
  f_Sames_take_back : Addr
  f_Sames_facts : Addr
  f_l_cell : Addr
  f_l_box : Addr
  f_l_take : Addr
  f_l_word_letters : Addr
  f_l_pool : Addr
  f_l_cased : Addr
  f_l_beyond : Addr
  f_l_levels : Addr
  f_l_are : Addr
  f_l_walk_right : Addr
  f_l_fewest_right : Addr
  f_l_due : Addr
  f_l_told : Addr
  f_l_deed : Addr
  f_l_row_right : Addr
  f_law : Addr
  CustomsError : Addr
  Clash : Addr
  Fact : Addr
  Sames : Addr
/-! ### what is asked of the text as the top has made it -/
structure Txt (K : PySem.W.Frag) (mg : Str → Option Value) (A : Ad) : Prop where
  g_letters_in : mg "letters_in" = some (.ref A.f_letters_in)
  g_is_word : mg "is_word" = some (.ref A.f_is_word)
  g_need_words : mg "need_words" = some (.ref A.f_need_words)
  g_l_cell : mg "_law_cell" = some (.ref A.f_l_cell)
  g_l_box : mg "_law_box" = some (.ref A.f_l_box)
  g_l_take : mg "_law_take" = some (.ref A.f_l_take)
  g_l_word_letters : mg "_law_word_letters" = some (.ref A.f_l_word_letters)
  g_l_pool : mg "_law_pool" = some (.ref A.f_l_pool)
  g_l_cased : mg "_law_cased" = some (.ref A.f_l_cased)
  g_l_beyond : mg "_law_beyond" = some (.ref A.f_l_beyond)
  g_l_levels : mg "_law_levels" = some (.ref A.f_l_levels)
  g_l_are : mg "_law_are" = some (.ref A.f_l_are)
  g_l_walk_right : mg "_law_walk_right" = some (.ref A.f_l_walk_right)
  g_l_fewest_right : mg "_law_fewest_right" = some (.ref A.f_l_fewest_right)
  g_l_due : mg "_law_due" = some (.ref A.f_l_due)
  g_l_told : mg "_law_told" = some (.ref A.f_l_told)
  g_l_deed : mg "_law_deed" = some (.ref A.f_l_deed)
  g_l_row_right : mg "_law_row_right" = some (.ref A.f_l_row_right)
  g_law : mg "law" = some (.ref A.f_law)
  g_CustomsError : mg "CustomsError" = some (.ref A.CustomsError)
  g_Clash : mg "Clash" = some (.ref A.Clash)
  g_Fact : mg "Fact" = some (.ref A.Fact)
  g_Sames : mg "Sames" = some (.ref A.Sames)
  b_bool : mg "bool" = none
  b_int : mg "int" = none
  b_isinstance : mg "isinstance" = none
  b_len : mg "len" = none
  b_list : mg "list" = none
  b_max : mg "max" = none
  b_min : mg "min" = none
  b_range : mg "range" = none
  b_repr : mg "repr" = none
  b_str : mg "str" = none
  c_SMALL : ∃ u, mg "SMALL" = some u ∧ RelV (.str "abcdefghijklmnopqrstuvwxyz") u
  c_CAPITALS : ∃ u, mg "CAPITALS" = some u ∧ RelV (.str "ABCDEFGHIJKLMNOPQRSTUVWXYZ") u
  c_MARKS : ∃ u, mg "MARKS" = some u ∧ RelV (.str "'`^~:") u
  c_MOST_LETTERS : ∃ u, mg "MOST_LETTERS" = some u ∧ RelV (.int 8) u
  cl_Fact : Cls K A.Fact
  mk_Fact : Mk K A.Fact A.f_Fact_init
  cl_Sames : Cls K A.Sames
  mk_Sames : Mk K A.Sames A.f_Sames_init
  na_Fact_kept_number : NoAttr K A.Fact "kept_number"
  na_Fact_kept_kind : NoAttr K A.Fact "kept_kind"
  na_Fact_kept_one : NoAttr K A.Fact "kept_one"
  na_Fact_kept_other : NoAttr K A.Fact "kept_other"
  na_Sames_kept_facts : NoAttr K A.Sames "kept_facts"
  na_Sames_kept_told : NoAttr K A.Sames "kept_told"
  m_Fact_beyond : Meth K A.Fact "beyond" A.f_Fact_beyond
  m_Fact_shown : Meth K A.Fact "shown" A.f_Fact_shown
  m_Sames_led : Meth K A.Sames "led" A.f_Sames_led
  m_Sames_taken_up : Meth K A.Sames "taken_up" A.f_Sames_taken_up
  m_Sames_same : Meth K A.Sames "same" A.f_Sames_same
  m_Sames_apart : Meth K A.Sames "apart" A.f_Sames_apart
  m_Sames_are : Meth K A.Sames "are" A.f_Sames_are
  m_Sames_take_back : Meth K A.Sames "take_back" A.f_Sames_take_back
  m_Sames_facts : Meth K A.Sames "facts" A.f_Sames_facts
  ox_Clash : ExcC K A.Clash A.f_Clash_init
  xf_Clash : XfC K A.Clash
  xn_Clash_numbers : PySem.W.findIn K (.ref A.Clash) "numbers" = some none
  bc_CustomsError : BaseC K A.CustomsError (.type "type")
  te_Clash_Clash : PySem.W.exmOne K (.ref A.Clash) (.ref A.Clash) = some true
end MC
namespace MC
open PySem PySem.Spec PyProof.Rows L2
/-- a new list of the letters, or None -/
noncomputable def sp_letters_in (K : PySem.W.Frag) (A : Ad) : Sp := fun vs H Q _ => ∃ z : Str, vs = [.str z] ∧ z.length ≤ 100 ∧ match lets [] (cs z) with
  | none => ∀ H', Ex H H' → Q .non H'
  | some ls => ∀ p H', H p = none → Ex H H' → H' p = some (.lst (ls.map fun l => .str (mkS l))) → Q (.ref p) H'
noncomputable def sp_Fact_init (K : PySem.W.Frag) (A : Ad) : Sp := fun vs H Q _ => ∃ (p dx : Addr) (f : Fc), vs = [.ref p, .int f.n, .str (kindS f.ap), .str f.a, .str f.b] ∧ H p = some (.ins A.Fact dx []) ∧ Q .non (upd H p (.ins A.Fact dx (factF f)))
noncomputable def sp_Fact_beyond (K : PySem.W.Frag) (A : Ad) : Sp := fun vs H Q _ => ∃ (x : V) (f : Fc) (w : Str), vs = [x, .str w] ∧ FactAt A.Fact H x f ∧ ∀ p H', H p = none → Ex H H' → H' p = some (.lst ((beyondM f w).map V.str)) → Q (.ref p) H'
noncomputable def sp_Fact_shown (K : PySem.W.Frag) (A : Ad) : Sp := fun vs H Q _ => ∃ (x : V) (f : Fc), vs = [x] ∧ FactAt A.Fact H x f ∧ ∀ p, H p = none → Q (.ref p) (upd H p (.tup (factVs f)))
noncomputable def sp_Sames_init (K : PySem.W.Frag) (A : Ad) : Sp := fun vs H Q _ => ∃ (p dx : Addr), vs = [.ref p] ∧ H p = some (.ins A.Sames dx []) ∧ ∀ fl H', H fl = none → Keep (One p) H H' → House A.Fact A.Sames H' p fl [] 0 → Q .non H'
noncomputable def sp_l_cell (K : PySem.W.Frag) (A : Ad) : Sp := fun vs H Q _ => ∃ (a : Addr) (ns : List Int) (k : Nat), vs = [.ref a, .int k] ∧ SqL K H a (ns.map V.int) ∧ ns.length ≤ 63 ∧ ∀ c : Int, Q (.int c) H
noncomputable def sp_l_box (K : PySem.W.Frag) (A : Ad) : Sp := fun vs H Q _ => ∃ c : Int, vs = [.int c] ∧ ∀ p H', H p = none → Ex H H' → BoxAt H' p 0 → Q (.ref p) H'
noncomputable def sp_l_take (K : PySem.W.Frag) (A : Ad) : Sp := fun vs H Q _ => ∃ (b : Addr) (m : Int) (n : Nat), vs = [.ref b, .int m] ∧ BoxAt H b n ∧ 0 < m ∧ m < 1073741824 ∧ n ≤ 1000000000000 ∧
  ∀ (d : Int) (H' : Hp), 0 ≤ d → d < m → BoxAt H' b (n + 1) → Keep (One b) H H' → Q (.int d) H'
noncomputable def sp_l_beyond (K : PySem.W.Frag) (A : Ad) : Sp := fun vs H Q _ => ∃ (x : V) (f : Fc) (w : Str), vs = [x, .str w] ∧ FactV H x f ∧ ∀ p H', H p = none → Ex H H' → H' p = some (.lst ((beyondM f w).map V.str)) → Q (.ref p) H'
noncomputable def sp_is_word (K : PySem.W.Frag) (A : Ad) : Sp := fun vs H Q _ => ∃ z : Str, vs = [.str z] ∧ z.length ≤ 100 ∧ ∀ H', Ex H H' → Q (.bl (isWord z)) H'
noncomputable def sp_Sames_led (K : PySem.W.Frag) (A : Ad) : Sp := fun vs H Q _ => ∃ (p fl : Addr) (w : Str) (F : List Fc) (told : Int), vs = [.ref p, .str w] ∧ House A.Fact A.Sames H p fl F told ∧ F.length ≤ 1000 ∧
  ∀ (d : Addr) (H' : Hp) (xs : List Ent) (M : List (St2 × List Int)), H d = none → Ex H H' → DB A.P A.w H' d xs → EntM (NumV H') xs M → Dist F (w, false) (lens M) → (∀ m ∈ M, Pth F (w, false) m.2 m.1) → Q (.ref d) H'
noncomputable def sp_Sames_facts (K : PySem.W.Frag) (A : Ad) : Sp := fun vs H Q _ => ∃ (p fl : Addr) (F : List Fc) (told : Int), vs = [.ref p] ∧ House A.Fact A.Sames H p fl F told ∧ F.length ≤ 1000 ∧ ∀ (H' : Hp) (v : V), Ex H H' → FactsV H' v F → Q v H'
noncomputable def sp_l_word_letters (K : PySem.W.Frag) (A : Ad) : Sp := fun vs H Q _ => ∃ (b : Addr) (m n : Nat), vs = [.ref b, .int m] ∧ m ≤ 20 ∧ BoxAt H b n ∧ n ≤ 100000000000 ∧
  ∀ (p : Addr) (H' : Hp) (ls : List Lt), H p = none → Keep (One b) H H' → BoxAt H' b (n + 3 * m) → H' p = some (.lst (ls.map fun l => .str (mkS (ltS l)))) → ls.length = m → (∀ l ∈ ls, LtOk l) → Q (.ref p) H'
noncomputable def sp_l_cased (K : PySem.W.Frag) (A : Ad) : Sp := fun vs H Q _ => ∃ (b pp : Addr) (n : Nat) (ws : List Str), vs = [.ref b, .ref pp] ∧ BoxAt H b n ∧ n ≤ 10000000000 ∧ H pp = some (.lst (ws.map V.str)) ∧ (∀ z ∈ ws, GoodW z) ∧ 2 ≤ ws.length ∧ ws.length ≤ 12 ∧
  ∀ (p : Addr) (H' : Hp) (ws : List Str), H p = none → Keep (One b) H H' → BoxAt H' b (n + 200) → H' p = some (.lst (ws.map V.str)) → (∀ z ∈ ws, GoodW z) → 2 ≤ ws.length → ws.length ≤ 12 → Q (.ref p) H'
noncomputable def sp_l_levels (K : PySem.W.Frag) (A : Ad) : Sp := fun vs H Q _ => ∃ (fv : V) (w : Str) (F : List Fc), vs = [fv, .str w] ∧ FactsV H fv F ∧ F.length ≤ 1000 ∧
  ∀ (d : Addr) (H' : Hp) (xs : List Ent) (M : List (St2 × Nat)), H d = none → Ex H H' → DB A.P A.w H' d xs → EntM IntV xs M → Dist F (w, false) M → Q (.ref d) H'
noncomputable def sp_l_walk_right (K : PySem.W.Frag) (A : Ad) : Sp := fun vs H Q _ => ∃ (np : Addr) (fv : V) (x y : Str) (c : Bool) (ns : List Int) (F : List Fc), vs = [fv, .str x, .str y, .ref np, .int (b2i c)] ∧ FactsV H fv F ∧ F.length ≤ 1000 ∧ Uniq F ∧ H np = some (.lst (ns.map V.int)) ∧ Pth F (x, false) ns (y, c) ∧ ∀ H', Ex H H' → Q (.bl true) H'
noncomputable def sp_need_words (K : PySem.W.Frag) (A : Ad) : Sp := fun vs H Q _ => ∃ a b : Str, vs = [.str a, .str b] ∧ GoodW a ∧ GoodW b ∧ ∀ H', Ex H H' → Q .non H'
noncomputable def sp_Sames_take_back (K : PySem.W.Frag) (A : Ad) : Sp := fun vs H Q _ => ∃ (p fl : Addr) (n : Int) (F : List Fc) (told : Int), vs = [.ref p, .int n] ∧ House A.Fact A.Sames H p fl F told ∧ F.length ≤ 1000 ∧ (∃ f ∈ F, f.n = n) ∧
  ∀ (H' : Hp) (fl' : Addr), Keep (One p) H H' → House A.Fact A.Sames H' p fl' (F.filter fun g => !decide (g.n = n)) told → Q .non H'
noncomputable def sp_l_pool (K : PySem.W.Frag) (A : Ad) : Sp := fun vs H Q _ => ∃ (b : Addr) (n : Nat), vs = [.ref b] ∧ BoxAt H b n ∧ n ≤ 10000000000 ∧
  ∀ (p : Addr) (H' : Hp) (ws : List Str), H p = none → Keep (One b) H H' → BoxAt H' b (n + 200) → H' p = some (.lst (ws.map V.str)) → (∀ z ∈ ws, GoodW z) → 2 ≤ ws.length → ws.length ≤ 12 → Q (.ref p) H'
noncomputable def sp_l_are (K : PySem.W.Frag) (A : Ad) : Sp := fun vs H Q _ => ∃ (fv : V) (x y : Str) (F : List Fc), vs = [fv, .str x, .str y] ∧ FactsV H fv F ∧ F.length ≤ 1000 ∧ ∀ H', Ex H H' → Q (areV F x y) H'
noncomputable def sp_l_fewest_right (K : PySem.W.Frag) (A : Ad) : Sp := fun vs H Q _ => ∃ (np : Addr) (fv : V) (x y : Str) (c : Bool) (ns : List Int) (F : List Fc), vs = [fv, .str x, .str y, .ref np, .int (b2i c)] ∧ FactsV H fv F ∧ F.length ≤ 1000 ∧ Uniq F ∧ H np = some (.lst (ns.map V.int)) ∧ Pth F (x, false) ns (y, c) ∧ (∀ ms, Pth F (x, false) ms (y, c) → ns.length ≤ ms.length) ∧ ∀ H', Ex H H' → Q (.bl true) H'
/-- how a fact told ends -/
def Tells (A : Ad) (p fl : Addr) (x y : Str) (ap : Bool) (F : List Fc) (told : Int) (H : Hp) (Q : VK) (E : XK) : Prop :=
  (¬ Near F (x, false) (y, !ap) → ∀ H', Keep (Two p fl) H H' → House A.Fact A.Sames H' p fl (F ++ [⟨told, ap, x, y⟩]) (told + 1) → Q (.int told) H') ∧
  ∀ (H' : Hp) (d l : Addr) (ns : List Int), Ex H H' → H' d = some (.xd [("numbers", .ref l)]) → H' l = some (.lst (ns.map V.int)) → Pth F (x, false) ns (y, !ap) → (∀ ms, Pth F (x, false) ms (y, !ap) → ns.length ≤ ms.length) → E (.ref A.Clash) (some d) H'
noncomputable def sp_Sames_taken_up (K : PySem.W.Frag) (A : Ad) : Sp := fun vs H Q E => ∃ (p fl : Addr) (x y : Str) (ap : Bool) (F : List Fc) (told : Int), vs = [.ref p, .str (kindS ap), .str x, .str y] ∧ House A.Fact A.Sames H p fl F told ∧ F.length ≤ 900 ∧ GoodW x ∧ GoodW y ∧ Tells A p fl x y ap F told H Q E
noncomputable def sp_Sames_are (K : PySem.W.Frag) (A : Ad) : Sp := fun vs H Q _ => ∃ (p fl : Addr) (x y : Str) (F : List Fc) (told : Int), vs = [.ref p, .str x, .str y] ∧ House A.Fact A.Sames H p fl F told ∧ F.length ≤ 1000 ∧ GoodW x ∧ GoodW y ∧ ∀ H', Ex H H' → Q (areV F x y) H'
noncomputable def sp_l_due (K : PySem.W.Frag) (A : Ad) : Sp := fun vs H Q _ => ∃ (fv : V) (x y : Str) (ap : Bool) (F : List Fc), vs = [fv, .str (kindS ap), .str x, .str y] ∧ FactsV H fv F ∧ F.length ≤ 1000 ∧ ∀ H', Ex H H' → Q (.bl (!decide (areV F x y = .bl ap))) H'
noncomputable def sp_Sames_same (K : PySem.W.Frag) (A : Ad) : Sp := fun vs H Q E => ∃ (p fl : Addr) (x y : Str) (F : List Fc) (told : Int), vs = [.ref p, .str x, .str y] ∧ House A.Fact A.Sames H p fl F told ∧ F.length ≤ 900 ∧ GoodW x ∧ GoodW y ∧ Tells A p fl x y false F told H Q E
noncomputable def sp_Sames_apart (K : PySem.W.Frag) (A : Ad) : Sp := fun vs H Q E => ∃ (p fl : Addr) (x y : Str) (F : List Fc) (told : Int), vs = [.ref p, .str x, .str y] ∧ House A.Fact A.Sames H p fl F told ∧ F.length ≤ 900 ∧ GoodW x ∧ GoodW y ∧ Tells A p fl x y true F told H Q E
noncomputable def sp_l_row_right (K : PySem.W.Frag) (A : Ad) : Sp := fun vs H Q _ => ∃ (p fl pp : Addr) (fv : V) (x : Str) (ws : List Str) (F : List Fc) (told : Int), vs = [.ref p, fv, .str x, .ref pp] ∧ House A.Fact A.Sames H p fl F told ∧ FactsV H fv F ∧ F.length ≤ 1000 ∧ H pp = some (.lst (ws.map V.str)) ∧ GoodW x ∧ (∀ z ∈ ws, GoodW z) ∧ ∀ H', Ex H H' → Q (.bl true) H'
noncomputable def sp_l_told (K : PySem.W.Frag) (A : Ad) : Sp := fun vs H Q _ => ∃ (p fl : Addr) (x y : Str) (ap : Bool) (F : List Fc) (told : Int), vs = [.ref p, .str (kindS ap), .str x, .str y] ∧ House A.Fact A.Sames H p fl F told ∧ F.length ≤ 900 ∧ GoodW x ∧ GoodW y ∧
  (¬ Near F (x, false) (y, !ap) → ∀ H', Keep (Two p fl) H H' → House A.Fact A.Sames H' p fl (F ++ [⟨told, ap, x, y⟩]) (told + 1) → Q (.int told) H') ∧
  ∀ (H' : Hp) (r l : Addr) (ns : List Int), Ex H H' → H' r = some (.lst [.str "clash", .ref l]) → H' l = some (.lst (ns.map V.int)) → Pth F (x, false) ns (y, !ap) → (∀ ms, Pth F (x, false) ms (y, !ap) → ns.length ≤ ms.length) → Q (.ref r) H'
noncomputable def sp_l_deed (K : PySem.W.Frag) (A : Ad) : Sp := fun vs H Q _ => ∃ (b p pp fl q : Addr) (n : Nat) (ws : List Str) (F : List Fc) (told : Int), vs = [.ref b, .ref p, .ref pp, .ref q, .int told] ∧ BoxAt H b n ∧ n ≤ 20000000000 ∧ H pp = some (.lst (ws.map V.str)) ∧ (∀ z ∈ ws, GoodW z) ∧ 2 ≤ ws.length ∧ ws.length ≤ 12 ∧
  Both A.Fact A.Sames H p fl q F told ∧ F.length ≤ 200 ∧ told ≤ 1000 ∧
  ∀ (H' : Hp) (fl' q' : Addr) (F' : List Fc) (told' : Int), Keep (Three b p fl) H H' → BoxAt H' b (n + 10) → Both A.Fact A.Sames H' p fl' q' F' told' → F'.length ≤ F.length + 1 → (told' = told ∨ (told' = told + 1 ∧ ∃ g ∈ F', g.n = told)) → Q (.ref q') H'
def lawSp (K : PySem.W.Frag) : Sp := fun vs H Q _ => ∃ (a : Addr) (ns : List Int), vs = [.ref a] ∧ Only H ∧ SqL K H a (ns.map V.int) ∧ ns.length ≤ 63 ∧ ∀ H', Q (.bl true) H'
noncomputable def sp_law (K : PySem.W.Frag) (A : Ad) : Sp := lawSp K
end MC
namespace MC
open PySem PySem.Spec PyProof.Rows L2

theorem ok_Clash_init {K : PySem.W.Frag} {mg : Str → Option Value} {base : Heap} {A : Ad} {fd : FuncData} (F : Fun K "__init__" "Clash.__init__" s_Clash_init A.f_Clash_init fd) (T : Txt K mg A) :
    FnG A.P A.w K mg base 1 A.f_Clash_init fd ["self", "numbers"] (spExc A.Clash "numbers") := by
  have sc := sc_Clash_init
  refine F.okG sc (fun vs H Q E h => by obtain ⟨a, v, rfl, _⟩ := h; rfl) (fun cdv Ar outer s H vs Q E hr hgd h => ?_)
  have hu := hu_of hr
  have hu64 : (Ar.deeper (envOfC "Clash.__init__" (defScope s_Clash_init) s.heap.objs.size A.f_Clash_init cdv)).units + 64 < cLine := hr.units
  have hu65 : (Ar.deeper (envOfC "Clash.__init__" (defScope s_Clash_init) s.heap.objs.size A.f_Clash_init cdv)).units + 65 < cLine := by have := hr.un; omega
  refine ⟨_, (pss_cons (ps_expr (pe_binit T.bc_CustomsError (by rfl) T.g_CustomsError (pa_cons (pvU 0) (pa_cons pe_str pa_nil)))) (pss_one (ps_ost (pvU 0) (pvU 1)))), ?_⟩
  obtain ⟨a, v, rfl, ha, k⟩ := h
  refine ⟨a, A.Clash, _, rfl, by decide, T.ox_Clash.ox, ha, ?_⟩
  exact ⟨a, A.Clash, rfl, T.ox_Clash.ox, T.xn_Clash_numbers, .inl ⟨ha, k⟩⟩
end MC
namespace MC
open PySem PySem.Spec PyProof.Rows L2

theorem ok_letters_in {K : PySem.W.Frag} {mg : Str → Option Value} {base : Heap} {A : Ad} {fd : FuncData} (F : Fun K "letters_in" "letters_in" s_letters_in A.f_letters_in fd) (T : Txt K mg A) :
    FnG A.P A.w K mg base 1 A.f_letters_in fd ["text"] (sp_letters_in K A) := by
  have sc := sc_letters_in
  refine F.okG sc (fun vs H Q E h => by obtain ⟨_, rfl, _⟩ := h; rfl) (fun cdv Ar outer s H vs Q E hr hgd h => ?_)
  have hu := hu_of hr
  have hu64 : (Ar.deeper (envOfC "letters_in" (defScope s_letters_in) s.heap.objs.size A.f_letters_in cdv)).units + 64 < cLine := hr.units
  have hu65 : (Ar.deeper (envOfC "letters_in" (defScope s_letters_in) s.heap.objs.size A.f_letters_in cdv)).units + 65 < cLine := by have := hr.un; omega
  refine ⟨_, (pss_cons (ps_set (i := 1) sc.nd rfl (Or.inl rfl) (pe_lst pa_nil)) (pss_cons (ps_for (passes_of rfl) rfl (pi_str (pvU 0)) (pg_name (i := 2) sc.nd rfl (Or.inl rfl)) (pss_one (ps_if (PW.pt (pw_or (pt_cmpR (op_inU hu65) (pvU 2) (pe_globC (by rfl) T.c_SMALL) (by rfl)) (pw_or1 (pt_cmpR (op_inU hu65) (pvU 2) (pe_globC (by rfl) T.c_CAPITALS) (by rfl))))) (pss_one (ps_expr (pe_bm PySem.F.plainAttrs_list PySem.F.slot_list_append PySem.F.type_list_append mt_append (pvU 1) (pa_cons (pvU 2) pa_nil)))) (pss_one (ps_if (PW.pt (pw_and (pt_cmpR (op_inU hu65) (pvU 2) (pe_globC (by rfl) T.c_MARKS) (by rfl)) (pw_and (pt_cmpR (op_neU hu64) (pvU 1) (pe_lst pa_nil) (nomark _)) (pw_and1 (pt_cmpR (op_eqU hu64) (pe_callB call_lenU (by rfl) T.b_len (by decide +kernel) (pa_cons (pe_ix ix_U (pvU 1) pe_negc (fun _ _ => rfl)) pa_nil)) pe_int (nomark _)))))) (pss_one (ps_asg (pe_op op_addU (pe_ix ix_U (pvU 1) pe_negc (fun _ _ => rfl)) (pvU 2)) (pg_sub (pvU 1) pe_negc set_list))) (pss_one (ps_ret pe_non))))))) (pss_one (ps_ret (pvU 1))))), ?_⟩
  obtain ⟨z, rfl, hz, q⟩ := h
  refine ⟨by decide, fun p hp => ?_⟩
  refine ⟨z, rfl, for_it walk_str (fun i σ H1 => ∃ acc o, σ = [some (.str z), some (.ref p), o] ∧ Ex H H1 ∧ H1 p = some (.lst (acc.map fun l => .str (mkS l))) ∧ acc.length ≤ i ∧ (∀ l ∈ acc, l.length ≤ 2) ∧ lets [] (cs z) = lets acc ((cs z).drop i))
    ⟨[], none, rfl, Ex.new hp, upd_same, Nat.le_refl _, (fun l hl => by cases hl), rfl⟩ (fun _ _ _ _ _ => trivial) ?_ ?_⟩
  · rintro i x σ H1 H2 hi ⟨acc, o, rfl, e, h1, hl, h2, hd⟩ ⟨rfl, c, hc, rfl⟩
    have hi' : i < (cs z).length := by rw [← len_cs]; exact hi
    have hc' : (cs z)[i]? = some c := by simpa using hc
    have hdr : (cs z).drop i = c :: (cs z).drop (i + 1) := by
      rw [List.drop_eq_getElem_cons hi']
      rw [List.getElem?_eq_getElem hi'] at hc'
      rw [Option.some.inj hc']
    rw [hdr] at hd
    have hls : (acc.map fun l => V.str (mkS l)).length < sizeLine := by rw [List.length_map, sizeLine_eq]; rw [len_cs] at hz; omega
    -- the letter is small or a capital one
    have grow : (isSm c || isCp c) = true → ∃ acc' o', [some (V.str z), some (.ref p), some (.str ⟨#[c]⟩)] = [some (.str z), some (.ref p), o'] ∧ Ex H (upd H2 p (.lst ((acc.map fun l => V.str (mkS l)) ++ [.str ⟨#[c]⟩]))) ∧ (upd H2 p (.lst ((acc.map fun l => V.str (mkS l)) ++ [.str ⟨#[c]⟩]))) p = some (.lst (acc'.map fun l => .str (mkS l))) ∧ acc'.length ≤ i + 1 ∧ (∀ l ∈ acc', l.length ≤ 2) ∧ lets [] (cs z) = lets acc' ((cs z).drop (i + 1)) := by
      intro g
      refine ⟨acc ++ [[c]], _, rfl, fun a o h => ?_, ?_, by simp; omega, ?_, ?_⟩
      · rw [upd_ne (ne_of_none h hp)]; exact e _ _ h
      · rw [upd_same, List.map_append]; rfl
      · intro l hl'
        rcases List.mem_append.mp hl' with hl' | hl'
        · exact h2 l hl'
        · cases List.mem_singleton.mp hl'; show 1 ≤ 2; decide
      · rw [hd, lets, letStep, if_pos g]
    refine ⟨c, rfl, _, rfl, ?_⟩
    refine iteB (b := decide (c ∈ cs ("abcdefghijklmnopqrstuvwxyz" : Str))) (fun g => ?_) (fun g => ?_)
    · rw [in_small] at g
      exact ⟨.inl ⟨rfl, _, .inl (.inl h1)⟩, p, _, _, rfl, rfl, h1, hls, grow (by rw [g]; rfl)⟩
    rw [in_small] at g
    refine ⟨c, rfl, _, rfl, ?_⟩
    refine iteB (b := decide (c ∈ cs ("ABCDEFGHIJKLMNOPQRSTUVWXYZ" : Str))) (fun g' => ?_) (fun g' => ?_)
    · rw [in_caps] at g'
      exact ⟨.inl ⟨rfl, _, .inl (.inl h1)⟩, p, _, _, rfl, rfl, h1, hls, grow (by rw [g, g']; rfl)⟩
    rw [in_caps] at g'
    have nog : (isSm c || isCp c) = false := by rw [g, g']; rfl
    have stop : ∀ H3, Ex H H3 → (isMk c && !acc.isEmpty && (acc.getLastD []).length == 1) = false → Q .non H3 := by
      intro H3 e3 b
      rw [lets, letStep, if_neg (by rw [nog]; exact Bool.false_ne_true), if_neg (by rw [b]; exact Bool.false_ne_true)] at hd
      rw [hd] at q
      exact q _ e3
    refine ⟨c, rfl, _, rfl, ?_⟩
    refine iteB (b := decide (c ∈ cs ("'`^~:" : Str))) (fun gm => ?_) (fun gm => ?_)
    · rw [in_marks] at gm
      refine ⟨by decide, fun p2 hp2 => .inl ⟨p, p2, _, rfl, rfl, .inl (.inl (by rw [upd_ne (ne_of_none h1 hp2)]; exact h1)), .inl (.inl upd_same), _, rfl, ?_⟩⟩
      have h1' : (upd H2 p2 (.lst [])) p = some (.lst (acc.map fun l => .str (mkS l))) := by rw [upd_ne (ne_of_none h1 hp2)]; exact h1
      have e' : Ex H (upd H2 p2 (.lst [])) := e.trans (Ex.new hp2)
      refine iteB (b := !(acc.map fun l => V.str (mkS l)).isEmpty) (fun ge => ?_) (fun ge => ?_)
      · have ge' : acc.isEmpty = false := by
          cases acc with
          | nil => cases ge
          | cons _ _ => rfl
        obtain ⟨a0, al, rfl⟩ : ∃ a0 al, acc = a0 ++ [al] := by
          cases acc with
          | nil => cases ge'
          | cons x r => exact ⟨_, _, (List.dropLast_concat_getLast (List.cons_ne_nil x r)).symm⟩
        have hat : atI ((a0 ++ [al]).map fun l => V.str (mkS l)) (-1) = some (.str (mkS al)) := by
          rw [List.map_append]
          exact atI_last _ _
        have hal : (mkS al).length ≤ sizeLine := by
          rw [len_cs, cs_mk, sizeLine_eq]
          have := h2 al (List.mem_append_right _ List.mem_cons_self)
          omega
        refine ⟨_, _, .inl (.inl (.inl h1')), hat, hal, _, rfl, ?_⟩
        refine iteD (fun g1 => ?_) (fun g1 => ?_)
        · have g1' : al.length = 1 := by
            have g2 : ((mkS al).length : Int) = 1 := V.int.inj g1
            rw [len_cs, cs_mk] at g2
            omega
          refine ⟨_, _, .inl (.inl (.inl h1')), hat, ?_, p, _, -1, a0.length, rfl, rfl, h1', ?_, ?_⟩
          · show (mkS al).length + 1 ≤ sizeLine
            rw [len_cs, cs_mk, g1', sizeLine_eq]; decide
          · rw [List.length_map, List.length_append]
            unfold ixN
            rw [if_neg (by decide), if_pos (by simp; omega)]
            congr 1
            simp
            omega
          · refine ⟨a0 ++ [al ++ [c]], _, rfl, fun a o h => ?_, ?_, by simp at hl ⊢; omega, ?_, ?_⟩
            · rw [upd_ne (ne_of_none h hp)]; exact e' _ _ h
            · rw [upd_same, List.map_append, List.map_append]
              have hl0 : a0.length = (a0.map fun l => V.str (mkS l)).length := by rw [List.length_map]
              rw [hl0, List.set_append_right _ _ (Nat.le_refl _), Nat.sub_self]
              have es : mkS al ++ (⟨#[c]⟩ : Str) = mkS (al ++ [c]) := str_ext (by rw [cs_app]; rfl)
              rw [es]
              rfl
            · intro l hl'
              rcases List.mem_append.mp hl' with hl' | hl'
              · exact h2 l (List.mem_append_left _ hl')
              · cases List.mem_singleton.mp hl'; rw [List.length_append, g1']; show 1 + 1 ≤ 2; decide
            · rw [hd, lets, letStep, if_neg (by rw [nog]; exact Bool.false_ne_true), if_pos (by rw [gm]; simp [g1'])]
              simp
        · refine stop _ e' ?_
          rw [gm]
          have g1' : ¬ al.length = 1 := fun z => g1 (by show V.int _ = V.int _; rw [len_cs, cs_mk, z]; rfl)
          simp [g1']
      · refine stop _ e' ?_
        have ge' : acc.isEmpty = true := by
          cases acc with
          | nil => rfl
          | cons _ _ => cases ge
        rw [gm, ge']
        rfl
    · rw [in_marks] at gm
      exact stop _ e (by rw [gm]; rfl)
  · rintro σ H1 ⟨acc, o, rfl, e, h1, hl, h2, hd⟩
    have hdn : (cs z).drop z.cps.size = [] := by
      apply List.drop_eq_nil_of_le
      rw [← len_cs]
      exact Nat.le_refl _
    rw [hdn, lets] at hd
    rw [hd] at q
    exact q p H1 hp e h1
end MC
namespace MC
open PySem PySem.Spec PyProof.Rows L2

theorem ok_Fact_init {K : PySem.W.Frag} {mg : Str → Option Value} {base : Heap} {A : Ad} {fd : FuncData} (F : Fun K "__init__" "Fact.__init__" s_Fact_init A.f_Fact_init fd) (T : Txt K mg A) :
    FnG A.P A.w K mg base 1 A.f_Fact_init fd ["self", "number", "kind", "one", "other"] (sp_Fact_init K A) := by
  have sc := sc_Fact_init
  refine F.okG sc (fun vs H Q E h => by obtain ⟨_, _, _, rfl, _⟩ := h; rfl) (fun cdv Ar outer s H vs Q E hr hgd h => ?_)
  have hu := hu_of hr
  have hu64 : (Ar.deeper (envOfC "Fact.__init__" (defScope s_Fact_init) s.heap.objs.size A.f_Fact_init cdv)).units + 64 < cLine := hr.units
  have hu65 : (Ar.deeper (envOfC "Fact.__init__" (defScope s_Fact_init) s.heap.objs.size A.f_Fact_init cdv)).units + 65 < cLine := by have := hr.un; omega
  refine ⟨_, (pss_cons (ps_flO T.cl_Fact T.na_Fact_kept_number (pvU 0) (pvU 1) rfl) (pss_cons (ps_flO T.cl_Fact T.na_Fact_kept_kind (pvU 0) (pvU 2) rfl) (pss_cons (ps_flO T.cl_Fact T.na_Fact_kept_one (pvU 0) (pvU 3) rfl) (pss_one (ps_flO T.cl_Fact T.na_Fact_kept_other (pvU 0) (pvU 4) rfl))))), ?_⟩
  obtain ⟨p, dx, f, rfl, hp, q⟩ := h
  refine ⟨p, dx, _, rfl, hp, by decide, p, dx, _, rfl, upd_same, (by show 1 < 1000; decide), p, dx, _, rfl, upd_same, (by show 2 < 1000; decide), p, dx, _, rfl, upd_same, (by show 3 < 1000; decide), ?_⟩
  rw [upd_upd, upd_upd, upd_upd]
  exact q
end MC
namespace MC
open PySem PySem.Spec PyProof.Rows L2

theorem ok_Fact_beyond {K : PySem.W.Frag} {mg : Str → Option Value} {base : Heap} {A : Ad} {fd : FuncData} (F : Fun K "beyond" "Fact.beyond" s_Fact_beyond A.f_Fact_beyond fd) (T : Txt K mg A) :
    FnG A.P A.w K mg base 1 A.f_Fact_beyond fd ["self", "word"] (sp_Fact_beyond K A) := by
  have sc := sc_Fact_beyond
  refine F.okG sc (fun vs H Q E h => by obtain ⟨_, _, _, rfl, _⟩ := h; rfl) (fun cdv Ar outer s H vs Q E hr hgd h => ?_)
  have hu := hu_of hr
  have hu64 : (Ar.deeper (envOfC "Fact.beyond" (defScope s_Fact_beyond) s.heap.objs.size A.f_Fact_beyond cdv)).units + 64 < cLine := hr.units
  have hu65 : (Ar.deeper (envOfC "Fact.beyond" (defScope s_Fact_beyond) s.heap.objs.size A.f_Fact_beyond cdv)).units + 65 < cLine := by have := hr.un; omega
  refine ⟨_, (pss_cons (ps_set (i := 2) sc.nd rfl (Or.inl rfl) (pe_ifExp (pt_cmpR (op_eqU hu64) (pvU 1) (pe_flO T.cl_Fact T.na_Fact_kept_one (pvU 0)) (nomark _)) (pe_lst (pa_cons (pe_flO T.cl_Fact T.na_Fact_kept_other (pvU 0)) pa_nil)) (pe_lst pa_nil))) (pss_cons (ps_if (pt_cmpR (op_eqU hu64) (pvU 1) (pe_flO T.cl_Fact T.na_Fact_kept_other (pvU 0)) (nomark _)) (pss_one (ps_expr (pe_bm PySem.F.plainAttrs_list PySem.F.slot_list_append PySem.F.type_list_append mt_append (pvU 2) (pa_cons (pe_flO T.cl_Fact T.na_Fact_kept_one (pvU 0)) pa_nil)))) pss_nil) (pss_one (ps_ret (pvU 2))))), ?_⟩
  obtain ⟨x, f, w, rfl, ⟨a, dx, rfl, ha⟩, q⟩ := h
  obtain ⟨l1, l2, l3, l4, _⟩ := fact_look f
  refine sA (fun v H' => ∃ p, v = .ref p ∧ H p = none ∧ Ex H H' ∧ H' p = some (.lst ((if w = f.a then [f.b] else []).map V.str))) (fun Q' hQ' => ⟨a, dx, _, _, rfl, ha, l3, _, rfl, iteD (fun h => ?_) (fun h => ?_)⟩) ?_
  · refine ⟨a, dx, _, _, rfl, ha, l4, by show 1 ≤ sizeLine; decide, fun p hp => hQ' _ _ ⟨p, rfl, hp, Ex.new hp, ?_⟩⟩
    rw [if_pos (V.str.inj h)]; exact upd_same
  · refine ⟨by show 0 ≤ sizeLine; decide, fun p hp => hQ' _ _ ⟨p, rfl, hp, Ex.new hp, ?_⟩⟩
    rw [if_neg (fun e => h (by rw [e]))]; exact upd_same
  rintro v H1 ⟨p, rfl, hp, e, h1⟩
  have ha1 := e _ _ ha
  refine ⟨a, dx, _, _, rfl, ha1, l4, _, rfl, iteD (fun h => ?_) (fun h => ?_)⟩
  · refine ⟨.inl ⟨rfl, _, .inl (.inl h1)⟩, a, dx, _, _, rfl, ha1, l3, p, _, _, rfl, rfl, h1, ?_, ?_⟩
    · rw [sizeLine_eq, List.length_map]; split <;> simp
    · refine q p _ hp (fun b o hb => ?_) ?_
      · rw [upd_ne (ne_of_none hb hp)]; exact e _ _ hb
      · rw [upd_same]
        unfold beyondM
        rw [if_pos (V.str.inj h), List.map_append]
        rfl
  · refine q p _ hp e ?_
    rw [h1]
    unfold beyondM
    rw [if_neg (c := w = f.b) (fun z => h (by rw [z])), List.append_nil]
end MC
namespace MC
open PySem PySem.Spec PyProof.Rows L2

theorem ok_Fact_shown {K : PySem.W.Frag} {mg : Str → Option Value} {base : Heap} {A : Ad} {fd : FuncData} (F : Fun K "shown" "Fact.shown" s_Fact_shown A.f_Fact_shown fd) (T : Txt K mg A) :
    FnG A.P A.w K mg base 1 A.f_Fact_shown fd ["self"] (sp_Fact_shown K A) := by
  have sc := sc_Fact_shown
  refine F.okG sc (fun vs H Q E h => by obtain ⟨_, _, rfl, _⟩ := h; rfl) (fun cdv Ar outer s H vs Q E hr hgd h => ?_)
  have hu := hu_of hr
  have hu64 : (Ar.deeper (envOfC "Fact.shown" (defScope s_Fact_shown) s.heap.objs.size A.f_Fact_shown cdv)).units + 64 < cLine := hr.units
  have hu65 : (Ar.deeper (envOfC "Fact.shown" (defScope s_Fact_shown) s.heap.objs.size A.f_Fact_shown cdv)).units + 65 < cLine := by have := hr.un; omega
  refine ⟨_, (pss_one (ps_ret (pe_tup (pa_cons (pe_flO T.cl_Fact T.na_Fact_kept_number (pvU 0)) (pa_cons (pe_flO T.cl_Fact T.na_Fact_kept_kind (pvU 0)) (pa_cons (pe_flO T.cl_Fact T.na_Fact_kept_one (pvU 0)) (pa_cons (pe_flO T.cl_Fact T.na_Fact_kept_other (pvU 0)) pa_nil))))))), ?_⟩
  obtain ⟨x, f, rfl, ⟨p, dx, rfl, hp⟩, q⟩ := h
  obtain ⟨l1, l2, l3, l4, _⟩ := fact_look f
  exact ⟨p, dx, _, _, rfl, hp, l1, p, dx, _, _, rfl, hp, l2, p, dx, _, _, rfl, hp, l3, p, dx, _, _, rfl, hp, l4, (by show 4 ≤ sizeLine; decide), q⟩
end MC
namespace MC
open PySem PySem.Spec PyProof.Rows L2

theorem ok_Sames_init {K : PySem.W.Frag} {mg : Str → Option Value} {base : Heap} {A : Ad} {fd : FuncData} (F : Fun K "__init__" "Sames.__init__" s_Sames_init A.f_Sames_init fd) (T : Txt K mg A) :
    FnG A.P A.w K mg base 1 A.f_Sames_init fd ["self"] (sp_Sames_init K A) := by
  have sc := sc_Sames_init
  refine F.okG sc (fun vs H Q E h => by obtain ⟨_, _, rfl, _⟩ := h; rfl) (fun cdv Ar outer s H vs Q E hr hgd h => ?_)
  have hu := hu_of hr
  have hu64 : (Ar.deeper (envOfC "Sames.__init__" (defScope s_Sames_init) s.heap.objs.size A.f_Sames_init cdv)).units + 64 < cLine := hr.units
  have hu65 : (Ar.deeper (envOfC "Sames.__init__" (defScope s_Sames_init) s.heap.objs.size A.f_Sames_init cdv)).units + 65 < cLine := by have := hr.un; omega
  refine ⟨_, (pss_cons (ps_flO T.cl_Sames T.na_Sames_kept_facts (pvU 0) (pe_lst pa_nil) rfl) (pss_one (ps_flO T.cl_Sames T.na_Sames_kept_told (pvU 0) pe_int rfl))), ?_⟩
  obtain ⟨p, dx, rfl, hp, q⟩ := h
  refine ⟨by decide, fun fl hf => ?_⟩
  have npf : p ≠ fl := ne_of_none hp hf
  refine ⟨p, dx, _, rfl, (by rw [upd_ne npf]; exact hp), by decide, p, dx, _, rfl, upd_same, (by show 1 < 1000; decide), ?_⟩
  refine q fl _ hf (fun a o e n => ?_) ⟨⟨dx, upd_same⟩, [], ?_, .nil⟩
  · rw [upd_ne n, upd_ne n, upd_ne (ne_of_none e hf)]; exact e
  · rw [upd_ne npf.symm, upd_ne npf.symm, upd_same]
end MC
namespace MC
open PySem PySem.Spec PyProof.Rows L2

theorem ok_l_cell {K : PySem.W.Frag} {mg : Str → Option Value} {base : Heap} {A : Ad} {fd : FuncData} (F : Fun K "_law_cell" "_law_cell" s_l_cell A.f_l_cell fd) (T : Txt K mg A) :
    FnG A.P A.w K mg base 1 A.f_l_cell fd ["_law_script", "_law_k"] (sp_l_cell K A) := by
  have sc := sc_l_cell
  refine F.okG sc (fun vs H Q E h => by obtain ⟨_, _, _, rfl, _⟩ := h; rfl) (fun cdv Ar outer s H vs Q E hr hgd h => ?_)
  have hu := hu_of hr
  have hu64 : (Ar.deeper (envOfC "_law_cell" (defScope s_l_cell) s.heap.objs.size A.f_l_cell cdv)).units + 64 < cLine := hr.units
  have hu65 : (Ar.deeper (envOfC "_law_cell" (defScope s_l_cell) s.heap.objs.size A.f_l_cell cdv)).units + 65 < cLine := by have := hr.un; omega
  refine ⟨_, (pss_cons (ps_if (pt_cmpR op_ltU (pvU 1) (pe_callB call_lenU (by rfl) T.b_len (by decide +kernel) (pa_cons (pvU 0) pa_nil)) (nomark _)) (pss_one (ps_ret (pe_ix ix_U (pvU 0) (pvU 1) (fun _ _ => rfl)))) pss_nil) (pss_one (ps_ret (pe_op op_addU (pe_op op_mulU pe_int (pvU 1)) pe_int)))), ?_⟩
  obtain ⟨a, ns, k, rfl, hS, hl, q⟩ := h
  refine .inl ⟨_, .inl hS, _, rfl, iteD (fun hc => ?_) (fun hc => ?_)⟩
  · rw [List.length_map] at hc
    have hk : k < ns.length := by omega
    refine ⟨_, .int ns[k], .inl hS, ?_, q _⟩
    exact atI_nat (by rw [List.getElem?_map, List.getElem?_eq_getElem hk]; rfl)
  · exact ⟨.inl (by decide), q _⟩
end MC
namespace MC
open PySem PySem.Spec PyProof.Rows L2

theorem ok_l_box {K : PySem.W.Frag} {mg : Str → Option Value} {base : Heap} {A : Ad} {fd : FuncData} (F : Fun K "_law_box" "_law_box" s_l_box A.f_l_box fd) (T : Txt K mg A) :
    FnG A.P A.w K mg base 1 A.f_l_box fd ["_law_cell_here"] (sp_l_box K A) := by
  have sc := sc_l_box
  refine F.okG sc (fun vs H Q E h => by first | (obtain ⟨_, rfl, _⟩ := h; rfl) | (obtain ⟨_, _, rfl, _⟩ := h; rfl) | (obtain ⟨_, _, _, rfl, _⟩ := h; rfl) | (obtain ⟨_, _, _, _, rfl, _⟩ := h; rfl) | (obtain ⟨_, _, _, _, _, rfl, _⟩ := h; rfl)) (fun cdv Ar outer s H vs Q E hr hgd h => ?_)
  have hu := hu_of hr
  have hu64 : (Ar.deeper (envOfC "_law_box" (defScope s_l_box) s.heap.objs.size A.f_l_box cdv)).units + 64 < cLine := hr.units
  have hu65 : (Ar.deeper (envOfC "_law_box" (defScope s_l_box) s.heap.objs.size A.f_l_box cdv)).units + 65 < cLine := by have := hr.un; omega
  refine ⟨_, (pss_one (ps_ret (pe_lst (pa_cons (pe_callB (call_max2 rfl) (by rfl) T.b_max (by decide +kernel) (pa_cons pe_int (pa_cons (pe_op op_subU (pvU 0) (pe_op op_powU pe_int pe_int)) pa_nil))) (pa_cons (pe_op op_modU (pvU 0) pe_int) (pa_cons pe_int pa_nil)))))), ?_⟩
  obtain ⟨c, rfl, q⟩ := h
  refine ⟨⟨by decide, by decide, by decide⟩, _, _, rfl, (by show (2147483629 : Int) ≠ 0; decide), (by show 3 ≤ sizeLine; decide), fun p hp => ?_⟩
  refine q p _ hp (Ex.new hp) ⟨_, _, 0, upd_same, ?_, (fmod_range (by decide)).1, Int.lt_trans (fmod_range (by decide)).2 (by decide), by decide, by decide⟩
  split <;> omega
end MC
namespace MC
open PySem PySem.Spec PyProof.Rows L2

theorem ok_l_take {K : PySem.W.Frag} {mg : Str → Option Value} {base : Heap} {A : Ad} {fd : FuncData} (F : Fun K "_law_take" "_law_take" s_l_take A.f_l_take fd) (T : Txt K mg A) :
    FnG A.P A.w K mg base 1 A.f_l_take fd ["_law_box_here", "_law_many"] (sp_l_take K A) := by
  have sc := sc_l_take
  refine F.okG sc (fun vs H Q E h => by obtain ⟨_, _, _, rfl, _⟩ := h; rfl) (fun cdv Ar outer s H vs Q E hr hgd h => ?_)
  have hu := hu_of hr
  have hu64 : (Ar.deeper (envOfC "_law_take" (defScope s_l_take) s.heap.objs.size A.f_l_take cdv)).units + 64 < cLine := hr.units
  have hu65 : (Ar.deeper (envOfC "_law_take" (defScope s_l_take) s.heap.objs.size A.f_l_take cdv)).units + 65 < cLine := by have := hr.un; omega
  refine ⟨_, (pss_cons (ps_if (pt_cmpR op_gtU (pe_ix ix_U (pvU 0) pe_int (fun _ _ => rfl)) pe_int (nomark _)) (pss_cons (ps_set (i := 2) sc.nd rfl (Or.inl rfl) (pe_op op_modU (pe_ix ix_U (pvU 0) pe_int (fun _ _ => rfl)) (pvU 1))) (pss_cons (ps_asg (pe_op op_fdivU (pe_ix ix_U (pvU 0) pe_int (fun _ _ => rfl)) (pvU 1)) (pg_sub (pvU 0) pe_int set_list)) (pss_one (ps_ret (pvU 2))))) pss_nil) (pss_cons (ps_asg (pe_op op_addU (pe_ix ix_U (pvU 0) pe_int (fun _ _ => rfl)) pe_int) (pg_sub (pvU 0) pe_int set_list)) (pss_cons (ps_set (i := 3) sc.nd rfl (Or.inl rfl) (pe_op op_modU (pe_op op_powU (pe_op op_addU (pe_op op_addU (pe_ix ix_U (pvU 0) pe_int (fun _ _ => rfl)) (pe_op op_mulU pe_int (pe_ix ix_U (pvU 0) pe_int (fun _ _ => rfl)))) pe_int) pe_int) pe_int)) (pss_cons (ps_set (i := 3) sc.nd rfl (Or.inl rfl) (pe_op op_modU (pe_op op_powU (pe_op op_addU (pvU 3) (pe_op op_mulU pe_int (pe_ix ix_U (pvU 0) pe_int (fun _ _ => rfl)))) pe_int) pe_int)) (pss_one (ps_ret (pe_op op_modU (pe_op op_fdivU (pvU 3) pe_int) (pvU 1)))))))), ?_⟩
  obtain ⟨b, m, n, rfl, hB, hm0, hm1, hn, q⟩ := h
  obtain ⟨x, y, z, hb, hx, hy0, hy1, hz0, hz1⟩ := hB
  have mne : m ≠ 0 := by omega
  have mab : m.natAbs < 1073741824 := by omega
  refine ⟨_, .int x, .inl (SqL.of hb), rfl, _, rfl, iteD (fun hc => ?_) (fun hc => ?_)⟩
  · refine ⟨_, .int x, .inl (SqL.of hb), rfl, mne, ?_⟩
    refine ⟨_, .int x, .inl (SqL.of hb), rfl, ⟨mne, mab⟩, b, _, 0, 0, rfl, rfl, hb, rfl, ?_⟩
    refine q _ _ (fmod_range hm0).1 (fmod_range hm0).2 ⟨_, y, z, upd_same, ?_, hy0, hy1, hz0, by omega⟩ (Keep.upd rfl)
    rw [Int.fdiv_eq_ediv_of_nonneg _ (by omega)]
    exact Int.ediv_nonneg hx (by omega)
  · refine ⟨_, .int z, .inl (SqL.of hb), rfl, b, _, 2, 2, rfl, rfl, hb, rfl, ?_⟩
    have hb2 : (upd H b (.lst [.int x, .int y, .int (z + 1)])) b = some (.lst [.int x, .int y, .int (z + 1)]) := upd_same
    have M1 : (2147483647 : Int) ≠ 0 := by decide
    have M2 : (2147483587 : Int) ≠ 0 := by decide
    have M3 : (16 : Int) ≠ 0 ∧ (16 : Int).natAbs < 1073741824 := by decide
    refine ⟨_, .int y, .inl (SqL.of hb2), rfl, _, .int (z + 1), .inl (SqL.of hb2), rfl, .inl (by decide), ⟨by decide, by decide, ?_⟩, M1, ?_⟩
    · omega
    have r1 := @fmod_range ((y + 5417 * (z + 1) + 83) ^ Int.toNat 5) 2147483647 (by decide)
    refine ⟨_, .int (z + 1), .inl (SqL.of hb2), rfl, .inl (by decide), ⟨by decide, by decide, ?_⟩, M2, ?_⟩
    · omega
    refine ⟨M3, mne, ?_⟩
    exact q _ _ (fmod_range hm0).1 (fmod_range hm0).2 ⟨x, y, z + 1, hb2, hx, hy0, hy1, by omega, by omega⟩ (Keep.upd rfl)
end MC
namespace MC
open PySem PySem.Spec PyProof.Rows L2

theorem ok_l_beyond {K : PySem.W.Frag} {mg : Str → Option Value} {base : Heap} {A : Ad} {fd : FuncData} (F : Fun K "_law_beyond" "_law_beyond" s_l_beyond A.f_l_beyond fd) (T : Txt K mg A) :
    FnG A.P A.w K mg base 1 A.f_l_beyond fd ["_law_fact", "_law_word"] (sp_l_beyond K A) := by
  have sc := sc_l_beyond
  refine F.okG sc (fun vs H Q E h => by obtain ⟨_, _, _, rfl, _⟩ := h; rfl) (fun cdv Ar outer s H vs Q E hr hgd h => ?_)
  have hu := hu_of hr
  have hu64 : (Ar.deeper (envOfC "_law_beyond" (defScope s_l_beyond) s.heap.objs.size A.f_l_beyond cdv)).units + 64 < cLine := hr.units
  have hu65 : (Ar.deeper (envOfC "_law_beyond" (defScope s_l_beyond) s.heap.objs.size A.f_l_beyond cdv)).units + 65 < cLine := by have := hr.un; omega
  refine ⟨_, (pss_cons (ps_set (i := 2) sc.nd rfl (Or.inl rfl) (pe_op op_mulU (pe_lst (pa_cons (pe_ix ix_U (pvU 0) pe_int (fun _ _ => rfl)) pa_nil)) (pe_callTy call_int1 (by rfl) T.b_int (by decide +kernel) (pa_cons (pe_cmpR (op_eqU hu64) (pe_ix ix_U (pvU 0) pe_int (fun _ _ => rfl)) (pvU 1) (nomark _)) pa_nil)))) (pss_one (ps_ret (pe_op op_addU (pvU 2) (pe_op op_mulU (pe_lst (pa_cons (pe_ix ix_U (pvU 0) pe_int (fun _ _ => rfl)) pa_nil)) (pe_callTy call_int1 (by rfl) T.b_int (by decide +kernel) (pa_cons (pe_cmpR (op_eqU hu64) (pe_ix ix_U (pvU 0) pe_int (fun _ _ => rfl)) (pvU 1) (nomark _)) pa_nil))))))), ?_⟩
  obtain ⟨x, f, w, rfl, ⟨a, rfl, ha⟩, q⟩ := h
  have a2 : atI (factVs f) 2 = some (.str f.a) := by kernel_rfl
  have a3 : atI (factVs f) 3 = some (.str f.b) := by kernel_rfl
  refine ⟨_, _, .inr (.inl (.inl ha)), a3, by show 1 ≤ sizeLine; decide, fun p1 hp1 => ?_⟩
  have ha1 := fun u => upd_new (u := u) ha hp1
  refine ⟨_, _, .inr (.inl (.inl (ha1 _))), a2, ?_⟩
  refine .inr ⟨_, rfl, ?_⟩
  obtain ⟨k, ek, k0, k1, kr⟩ := int01 (a := f.a) (w := w)
  rw [ek]
  refine ⟨p1, k, _, rfl, rfl, upd_same, by omega, by omega, ?_, fun p2 hp2 => ?_⟩
  · rw [sizeLine_eq]; show 1 * _ ≤ _; omega
  rw [kr]
  have ha2 := fun u => upd_new (u := u) (ha1 _) hp2
  refine ⟨_, _, .inr (.inl (.inl (ha2 _))), a2, by show 1 ≤ sizeLine; decide, fun p3 hp3 => ?_⟩
  have ha3 := fun u => upd_new (u := u) (ha2 _) hp3
  refine ⟨_, _, .inr (.inl (.inl (ha3 _))), a3, ?_⟩
  refine .inr ⟨_, rfl, ?_⟩
  obtain ⟨k', ek', k0', k1', kr'⟩ := int01 (a := f.b) (w := w)
  rw [ek']
  refine ⟨p3, k', _, rfl, rfl, upd_same, by omega, by omega, ?_, fun p4 hp4 => ?_⟩
  · rw [sizeLine_eq]; show 1 * _ ≤ _; omega
  rw [kr']
  refine .inl ⟨p2, p4, _, _, rfl, rfl, upd_new (upd_new upd_same hp3) hp4, upd_same, ?_, fun p5 hp5 => ?_⟩
  · rw [sizeLine_eq]; split <;> split <;> simp
  have e5 := fun u => ((((Ex.new hp1).trans (Ex.new hp2)).trans (Ex.new hp3)).trans (Ex.new (o := u) hp4))
  refine q p5 _ (MC.Ex.fresh (e5 _) hp5) ((e5 _).trans (Ex.new hp5)) ?_
  rw [upd_same]
  unfold beyondM
  rw [List.map_append]
  congr 3 <;> split <;> rfl
end MC
namespace MC
open PySem PySem.Spec PyProof.Rows L2

theorem ok_is_word {K : PySem.W.Frag} {mg : Str → Option Value} {base : Heap} {A : Ad} {fd : FuncData} (F : Fun K "is_word" "is_word" s_is_word A.f_is_word fd) (T : Txt K mg A)
    (O_letters_in : Ok A.P A.w K mg base 1 A.f_letters_in ["text"] (sp_letters_in K A)) :
    FnG A.P A.w K mg base 2 A.f_is_word fd ["thing"] (sp_is_word K A) := by
  have sc := sc_is_word
  refine F.okG sc (fun vs H Q E h => by first | (obtain ⟨_, rfl, _⟩ := h; rfl) | (obtain ⟨_, _, rfl, _⟩ := h; rfl) | (obtain ⟨_, _, _, rfl, _⟩ := h; rfl) | (obtain ⟨_, _, _, _, rfl, _⟩ := h; rfl) | (obtain ⟨_, _, _, _, _, rfl, _⟩ := h; rfl)) (fun cdv Ar outer s H vs Q E hr hgd h => ?_)
  have hu := hu_of hr
  have hu64 : (Ar.deeper (envOfC "is_word" (defScope s_is_word) s.heap.objs.size A.f_is_word cdv)).units + 64 < cLine := hr.units
  have hu65 : (Ar.deeper (envOfC "is_word" (defScope s_is_word) s.heap.objs.size A.f_is_word cdv)).units + 65 < cLine := by have := hr.un; omega
  refine ⟨_, (pss_cons (ps_if (PW.pt (pw_or (pt_not (pt_val (pe_callB call_isi (by rfl) T.b_isinstance (by decide +kernel) (pa_cons (pvU 0) (pa_cons (pe_bltn (v := .ty "str") (by rfl) T.b_str (by decide +kernel) rfl) pa_nil))))) (pw_or1 (pt_not (pt_chain op_leU op_leU pe_int (pe_callB call_lenU (by rfl) T.b_len (by decide +kernel) (pa_cons (pvU 0) pa_nil)) (pe_op op_mulU pe_int (pe_globC (by rfl) T.c_MOST_LETTERS))))))) (pss_one (ps_ret pe_bl)) pss_nil) (pss_cons (ps_set (i := 1) sc.nd rfl (Or.inl rfl) (pe_callO O_letters_in hr hgd (by decide) (by rfl) T.g_letters_in (fun _ => passN) (pa_cons (pvU 0) pa_nil))) (pss_one (ps_ret (pe_and (pe_cmpR op_notN (pvU 1) pe_non (nomark _)) (pe_one (pe_cmpR op_leU (pe_callB call_lenU (by rfl) T.b_len (by decide +kernel) (pa_cons (pvU 1) pa_nil)) (pe_globC (by rfl) T.c_MOST_LETTERS) (nomark _)))))))), ?_⟩
  obtain ⟨z, rfl, hz, q⟩ := h
  have hty : TyX K H (.str z) (.type "str") := .base (.str z)
  refine ⟨_, _, _, _, true, rfl, .ty "str", hty, kit_ty (by decide +kernel), true, rfl, ?_⟩
  refine iteF ?_
  refine ⟨by rw [sizeLine_eq]; omega, _, rfl, ?_⟩
  have bad : ¬ (1 ≤ z.length ∧ z.length ≤ 16) → Q (.bl false) H := by
    intro n
    have e : isWord z = false := by unfold isWord; simp [n]
    rw [e] at q
    exact q H (Ex.refl H)
  refine iteD (fun h1 => ?_) (fun h1 => ⟨_, rfl, iteT (bad fun n => h1 (by omega))⟩)
  refine ⟨.inl ⟨by decide, by decide⟩, _, rfl, ?_⟩
  by_cases h2 : (z.length : Int) ≤ 2 * 8
  · rw [decide_eq_true h2]
    refine iteF ⟨z, rfl, hz, ?_⟩
    cases hl : lets [] (cs z) with
    | none =>
      intro H1 e1
      refine ⟨rfl, false, rfl, iteF ?_⟩
      have e : isWord z = false := by unfold isWord; rw [hl]; simp
      rw [e] at q
      exact q _ e1
    | some ls =>
      intro p H1 hp e1 h1'
      refine ⟨rfl, true, rfl, iteT ?_⟩
      refine .inl ⟨_, .inl (.inl (.inl h1')), ?_⟩
      have e : isWord z = decide ((((ls.map fun l => V.str (mkS l)).length : Nat) : Int) ≤ 8) := by
        unfold isWord
        rw [hl, List.length_map, decide_eq_true (show 1 ≤ z.length ∧ z.length ≤ 16 by omega), Bool.true_and]
        rw [Bool.eq_iff_iff]
        simp only [decide_eq_true_eq]
        omega
      rw [e] at q
      exact q _ e1
  · rw [decide_eq_false h2]
    exact iteT (bad fun n => h2 (by omega))
end MC
namespace MC
open PySem PySem.Spec PyProof.Rows L2

theorem ok_Sames_led {K : PySem.W.Frag} {mg : Str → Option Value} {base : Heap} {A : Ad} {fd : FuncData} (F : Fun K "led" "Sames.led" s_Sames_led A.f_Sames_led fd) (T : Txt K mg A)
    (O_Fact_beyond : Ok A.P A.w K mg base 1 A.f_Fact_beyond ["self", "word"] (sp_Fact_beyond K A)) :
    FnG A.P A.w K mg base 2 A.f_Sames_led fd ["self", "word"] (sp_Sames_led K A) := by
  have sc := sc_Sames_led
  refine F.okG sc (fun vs H Q E h => by first | (obtain ⟨_, rfl, _⟩ := h; rfl) | (obtain ⟨_, _, rfl, _⟩ := h; rfl) | (obtain ⟨_, _, _, rfl, _⟩ := h; rfl) | (obtain ⟨_, _, _, _, rfl, _⟩ := h; rfl) | (obtain ⟨_, _, _, _, _, rfl, _⟩ := h; rfl)) (fun cdv Ar outer s H vs Q E hr hgd h => ?_)
  have hu := hu_of hr
  have hu64 : (Ar.deeper (envOfC "Sames.led" (defScope s_Sames_led) s.heap.objs.size A.f_Sames_led cdv)).units + 64 < cLine := hr.units
  have hu65 : (Ar.deeper (envOfC "Sames.led" (defScope s_Sames_led) s.heap.objs.size A.f_Sames_led cdv)).units + 65 < cLine := by have := hr.un; omega
  refine ⟨_, (pss_cons (ps_set (i := 2) sc.nd rfl (Or.inl rfl) (pe_dB1 hu (pe_tup (pa_cons (pvU 1) (pa_cons pe_bl pa_nil))) (pe_lst pa_nil))) (pss_cons (ps_set (i := 3) sc.nd rfl (Or.inl rfl) (pe_lst (pa_cons (pe_tup (pa_cons (pvU 1) (pa_cons pe_bl pa_nil))) pa_nil))) (pss_cons (ps_while (passes_of rfl) (pt_cmpR (op_neU hu64) (pvU 3) (pe_lst pa_nil) (nomark _)) (pss_cons (ps_set (i := 4) sc.nd rfl (Or.inl rfl) (pe_bm PySem.F.plainAttrs_list PySem.F.slot_list_pop PySem.F.type_list_pop mt_popAt (pvU 3) (pa_cons pe_int pa_nil))) (pss_one (ps_for (passes_of rfl) rfl (pi_list (pe_flO T.cl_Sames T.na_Sames_kept_facts (pvU 0))) (pg_name (i := 5) sc.nd rfl (Or.inl rfl)) (pss_cons (ps_if (PW.pt (pw_and (pt_truth (pe_ix ix_U (pvU 4) pe_int (fun _ _ => rfl)) (by intro _; rfl)) (pw_and1 (pt_cmpR (op_eqU hu64) (pe_flO T.cl_Fact T.na_Fact_kept_kind (pvU 5)) pe_str (nomark _))))) (pss_one ps_continue) pss_nil) (pss_one (ps_for (passes_of rfl) rfl (pi_list (pe_methO (pvU 5) T.cl_Fact T.m_Fact_beyond O_Fact_beyond hr hgd (by decide) (fun _ => passN) (pa_cons (pe_ix ix_U (pvU 4) pe_int (fun _ _ => rfl)) pa_nil))) (pg_name (i := 6) sc.nd rfl (Or.inl rfl)) (pss_cons (ps_set (i := 7) sc.nd rfl (Or.inl rfl) (pe_tup (pa_cons (pvU 6) (pa_cons (pe_or (pe_ix ix_U (pvU 4) pe_int (fun _ _ => rfl)) (pe_one (pe_cmpR (op_eqU hu64) (pe_flO T.cl_Fact T.na_Fact_kept_kind (pvU 5)) pe_str (nomark _)))) pa_nil)))) (pss_one (ps_if (pt_cmpR (op_notInB hu65) (pvU 7) (pvU 2) (by rfl)) (pss_cons (ps_dBput hu (pvU 2) (pvU 7) (pe_op op_addU (pe_dBget hu (pvU 2) (pvU 4) (fun _ _ => rfl)) (pe_lst (pa_cons (pe_flO T.cl_Fact T.na_Fact_kept_number (pvU 5)) pa_nil))) rfl) (pss_one (ps_expr (pe_bm PySem.F.plainAttrs_list PySem.F.slot_list_append PySem.F.type_list_append mt_append (pvU 3) (pa_cons (pvU 7) pa_nil))))) pss_nil)))))))))) (pss_one (ps_ret (pvU 2)))))), ?_⟩
  obtain ⟨p, fl, w, F, told, rfl, hH, few, q⟩ := h
  refine fun d hd => ⟨by show 2 ≤ sizeLine; decide, fun a ha => ⟨by show 0 ≤ sizeLine; decide, fun l hl => ⟨a, keyOf (w, false), rfl, TupB.key (t := (w, false)) (upd_new upd_same hl), upd_new (upd_new upd_same ha) hl, ?_⟩⟩⟩
  refine ⟨by show 2 ≤ sizeLine; decide, fun a2 ha2 => ⟨by show 1 ≤ sizeLine; decide, fun wl hwl => ?_⟩⟩
  have ls0 : LS A.P A.w H F (w, false) d wl (upd (upd (upd (upd (upd (upd H d (exD A.P A.w d [])) a (.tup [.str w, .bl false])) l (.lst [])) d (exD A.P A.w d [(keyOf (w, false), a, .ref l)])) a2 (.tup [.str w, .bl false])) wl (.lst [.ref a2])) [((w, false), [])] 0 0 [] := by
    have h1 := ne_of_none (upd_same (H := H) (a := d) (o := exD A.P A.w d [])) ha
    have na : H a = none := Ex.fresh (Ex.new hd) ha
    have e1 : Ex H (upd (upd (upd H d (exD A.P A.w d [])) a (.tup [.str w, .bl false])) l (.lst [])) := ((Ex.new hd).trans (Ex.new ha)).trans (Ex.new hl)
    have e2 := ex_upd (a := d) (o := exD A.P A.w d [(keyOf (w, false), a, .ref l)]) e1 hd
    have e3 := e2.trans (Ex.new (o := .tup [.str w, .bl false]) ha2)
    have nl : l ≠ d := fun e => by subst e; rw [upd_new upd_same ha] at hl; cases hl
    have nla : l ≠ a := fun e => by subst e; rw [upd_same] at hl; cases hl
    have nda : d ≠ a := h1
    have g1 : (upd (upd (upd (upd H d (exD A.P A.w d [])) a (.tup [.str w, .bl false])) l (.lst [])) d (exD A.P A.w d [(keyOf (w, false), a, .ref l)])) l = some (.lst []) := by
      rw [upd_ne nl]; exact upd_same
    have g2 : (upd (upd (upd (upd H d (exD A.P A.w d [])) a (.tup [.str w, .bl false])) l (.lst [])) d (exD A.P A.w d [(keyOf (w, false), a, .ref l)])) a = some (.tup [.str w, .bl false]) := by
      rw [upd_ne nda.symm]; exact upd_new upd_same hl
    have g3 : (upd (upd (upd (upd H d (exD A.P A.w d [])) a (.tup [.str w, .bl false])) l (.lst [])) d (exD A.P A.w d [(keyOf (w, false), a, .ref l)])) d = some (exD A.P A.w d [(keyOf (w, false), a, .ref l)]) := upd_same
    refine ⟨e3.trans (Ex.new hwl), hd, Ex.fresh e3 hwl, ne_of_none (upd_new g3 ha2) hwl, ⟨[(keyOf (w, false), a, .ref l)], ⟨upd_new (upd_new g3 ha2) hwl, by show 1 ≤ sizeLine; decide, ?_⟩, .cons ⟨rfl, l, ne_of_none (upd_new g1 ha2) hwl, rfl, upd_new (upd_new g1 ha2) hwl⟩ .nil⟩, ⟨[.ref a2], upd_same, .cons ⟨a2, rfl, upd_new upd_same hwl⟩ .nil⟩, Bfs.init F _, fun m hm => ?_⟩
    · intro e he
      rw [List.mem_singleton.mp he]
      exact TupB.key (t := (w, false)) (upd_new (upd_new g2 ha2) hwl)
    · rw [List.mem_singleton.mp hm]; exact .nil
  obtain ⟨dxp, hp⟩ := hH.ob
  obtain ⟨xf, hfl, prf⟩ := hH.ls
  refine ⟨fun m σ H' => ∃ (M : List (St2 × List Int)) (i : Nat) (o4 o5 o6 o7 : Option V), σ = [some (.ref p), some (.str w), some (.ref d), some (.ref wl), o4, o5, o6, o7] ∧ LS A.P A.w H F (w, false) d wl H' M i i [] ∧ m = 4 * F.length + 2 - i, ⟨_, _, 0, none, none, none, none, rfl, ls0, rfl⟩, ?_⟩
  rintro m0 σ H1 ⟨M, i, o4, o5, o6, o7, rfl, ls, rfl⟩
  obtain ⟨vs, hw, pr⟩ := ls.wt
  refine ⟨by show 0 ≤ sizeLine; decide, fun p2 hp2 => .inl ⟨wl, p2, vs, rfl, rfl, .inl (.inl (upd_new hw hp2)), .inl (.inl upd_same), _, rfl, iteB (b := !vs.isEmpty) (fun hne => ?_) (fun hemp => ?_)⟩⟩
  · -- one more waits
    have ls := ls.grow (Ex.new (o := .lst []) hp2)
    have hil : i < M.length := by
      have := Paired.length pr
      rw [List.length_map, List.length_drop] at this
      cases vs with
      | nil => cases hne
      | cons _ _ => rw [List.length_cons] at this; omega
    obtain ⟨⟨⟨u, c⟩, ns⟩, hm⟩ : ∃ m, M[i]? = some m := ⟨M[i], List.getElem?_eq_getElem hil⟩
    obtain ⟨v, vs', hw', ⟨ha, rfl, hha⟩, ls⟩ := ls.pop hm
    refine ⟨fun σ' H' => ∃ (M : List (St2 × List Int)) (o4 o5 o6 o7 : Option V), σ' = [some (.ref p), some (.str w), some (.ref d), some (.ref wl), o4, o5, o6, o7] ∧ LS A.P A.w H F (w, false) d wl H' M (i + 1) (i + 1) [], ?_, ?_⟩
    · rintro σ' H' ⟨M', o4, o5, o6, o7, rfl, ls'⟩
      refine ⟨_, ?_, M', i + 1, o4, o5, o6, o7, rfl, ls', rfl⟩
      have := ls.bf.few
      rw [List.length_map] at this
      omega
    refine ⟨.inl ⟨rfl, _, .inl (.inl hw')⟩, wl, _, 0, 0, _, rfl, rfl, hw', by decide, by decide, by simp [seqIndex?], rfl, ?_⟩
    have hfl1 := ls.ex _ _ hfl
    refine ⟨p, dxp, _, _, rfl, ls.ex _ _ hp, rfl, fl, rfl, ⟨_, .inl (.inl hfl1)⟩, for_list (fun j σ H' => ∃ (M' : List (St2 × List Int)) (o5 o6 o7 : Option V), σ = [some (.ref p), some (.str w), some (.ref d), some (.ref wl), some (.ref ha), o5, o6, o7] ∧ LS A.P A.w H F (w, false) d wl H' M' (i + 1) i ((F.take j).flatMap fun f => outE f (u, c)) ∧ M'[i]? = some ((u, c), ns) ∧ H' ha = some (.tup [.str u, .bl c])) ⟨M, o5, o6, o7, rfl, by simpa using ls, hm, ?_⟩ (fun j σ H' hj ⟨M', o5, o6, o7, _, ls, _⟩ => .inl (.inl (ls.ex _ _ hfl))) ?_ ?_⟩
    · rw [upd_ne (fun e => by rw [e, hw'] at hha; cases hha)]; exact hha
    · rintro j x σ H2 hx ⟨M', o5, o6, o7, rfl, ls, hm, hha⟩
      obtain ⟨f, hf, fa, dxf, rfl, hfa0⟩ := pair_of prf hx
      have hfa := ls.ex _ _ hfa0
      obtain ⟨lk1, lk2, lk3, lk4, lk5, _⟩ := fact_look f
      have etake : (F.take (j + 1)).flatMap (fun f => outE f (u, c)) = (F.take j).flatMap (fun f => outE f (u, c)) ++ outE f (u, c) := by
        rw [List.take_succ, hf, List.flatMap_append]
        simp
      have eap : decide (V.str (kindS f.ap) = V.str "apart") = f.ap := by
        cases f.ap <;> decide
      dsimp only [gN_ap]
      refine seqJ (fun σ' H'' => σ' = [some (.ref p), some (.str w), some (.ref d), some (.ref wl), some (.ref ha), some (.ref fa), o6, o7] ∧ H'' = H2 ∧ (c && f.ap) = false) (fun N hN => ?_) ?_
      · refine ⟨_, .bl c, .inr (.inl (.inl hha)), atI_nat (j := 1) rfl, c, rfl, ?_⟩
        have goOn : (c && f.ap) = false → N [some (.ref p), some (.str w), some (.ref d), some (.ref wl), some (.ref ha), some (.ref fa), o6, o7] H2 := fun h => hN _ _ ⟨rfl, rfl, h⟩
        refine iteB (fun hc => ?_) (fun hc => iteF (goOn (by rw [hc]; rfl)))
        refine ⟨fa, dxf, _, _, rfl, hfa, lk2, _, rfl, ?_⟩
        rw [eap]
        refine iteB (fun hap => ?_) (fun hap => goOn (by rw [hap, hc]; rfl))
        refine ⟨M', _, o6, o7, rfl, ?_, hm, hha⟩
        rw [etake, show outE f (u, c) = [] from if_pos (by rw [hc, hap]; rfl), List.append_nil]
        exact ls
      · rintro σ H' ⟨rfl, rfl, hcf⟩
        have eout : outE f (u, c) = (beyondM f u).map fun t => ((t, c || f.ap), f.n) := if_neg (by rw [hcf]; exact Bool.false_ne_true)
        refine ⟨⟨fa, dxf, _, rfl, hfa, lk5⟩, _, .str u, .inr (.inl (.inl hha)), atI_nat (j := 0) rfl, _, f, u, rfl, ⟨fa, dxf, rfl, hfa⟩, fun pb H3 hpb e3 hb3 => ?_⟩
        have npb : d ≠ pb ∧ wl ≠ pb := by
          obtain ⟨xs, b, _⟩ := ls.db
          obtain ⟨vs, hw, _⟩ := ls.wt
          exact ⟨ne_of_none b.at_ hpb, ne_of_none hw hpb⟩
        have ls := ls.grow e3
        refine ⟨pb, rfl, ⟨_, .inl (.inl hb3)⟩, for_list (fun k σ H' => ∃ (M' : List (St2 × List Int)) (o6 o7 : Option V), σ = [some (.ref p), some (.str w), some (.ref d), some (.ref wl), some (.ref ha), some (.ref fa), o6, o7] ∧ LS A.P A.w H F (w, false) d wl H' M' (i + 1) i ((F.take j).flatMap (fun f => outE f (u, c)) ++ ((beyondM f u).take k).map fun t => ((t, c || f.ap), f.n)) ∧ M'[i]? = some ((u, c), ns) ∧ H' ha = some (.tup [.str u, .bl c]) ∧ H' pb = some (.lst ((beyondM f u).map V.str))) ⟨M', o6, o7, rfl, by simpa using ls, hm, e3 _ _ hha, hb3⟩ (fun k σ H' hj ⟨M', o6, o7, _, ls, _, _, hb⟩ => .inl (.inl hb)) ?_ ?_⟩
        · rintro k x σ H4 hx ⟨M4, o6, o7, rfl, ls, hm, hha, hb4⟩
          rw [List.getElem?_map] at hx
          obtain ⟨t, ht, rfl⟩ := Option.map_eq_some_iff.mp hx
          have htm := List.mem_of_getElem? ht
          have hfa := ls.ex _ _ hfa0
          have etk : ((beyondM f u).take (k + 1)).map (fun t => ((t, c || f.ap), f.n)) = ((beyondM f u).take k).map (fun t => ((t, c || f.ap), f.n)) ++ [((t, c || f.ap), f.n)] := by
            rw [List.take_succ, ht, List.map_append]; rfl
          have hway : ((t, c || f.ap), f.n) ∈ ways F (u, c) := mem_ways.mpr ⟨f, List.mem_of_getElem? hf, rfl, hcf, htm, rfl⟩
          dsimp only [gN_ap]
          refine sA (fun v H' => ∃ a, v = .ref a ∧ H4 a = none ∧ H' = upd H4 a (.tup [.str t, .bl (c || f.ap)])) (fun Q' hQ' => ?_) ?_
          · refine ⟨_, .bl c, .inr (.inl (.inl hha)), atI_nat (j := 1) rfl, c, rfl, ?_⟩
            refine iteB (fun hc => ?_) (fun hc => ?_)
            · refine ⟨by show 2 ≤ sizeLine; decide, fun a ha' => hQ' _ _ ⟨a, rfl, ha', ?_⟩⟩
              rw [hc]; rfl
            · refine ⟨fa, dxf, _, _, rfl, hfa, lk2, by show 2 ≤ sizeLine; decide, fun a ha' => hQ' _ _ ⟨a, rfl, ha', ?_⟩⟩
              rw [hc, eap]; rfl
          rintro v H5 ⟨a5, rfl, hn5, rfl⟩
          have e5 : Ex H4 (upd H4 a5 (.tup [.str t, .bl (c || f.ap)])) := Ex.new hn5
          have ls := ls.grow e5
          have hha := e5 _ _ hha
          have hb5 := e5 _ _ hb4
          have hfa := e5 _ _ hfa
          have ha5 : (upd H4 a5 (.tup [.str t, .bl (c || f.ap)])) a5 = some (.tup [.str t, .bl (c || f.ap)]) := upd_same
          obtain ⟨xs, b, en⟩ := ls.db
          refine ⟨d, a5, keyOf (t, c || f.ap), xs, rfl, rfl, b, TupB.key (t := (t, c || f.ap)) ha5, _, rfl, ?_⟩
          have hno : (M4.map Prod.fst).Nodup := by have := ls.bf.nodup; rw [lens_fst] at this; exact this
          rw [valT_has en hno]
          refine iteB (fun hne => ?_) (fun hold => ?_)
          · have hn : (t, c || f.ap) ∉ M4.map Prod.fst := by
              intro z
              rw [decide_eq_true z] at hne
              cases hne
            obtain ⟨v, hv, ln, lnw, rfl, hln⟩ := valT_some en hno (List.mem_of_getElem? hm)
            refine ⟨d, ha, keyOf (u, c), xs, _, rfl, rfl, b, TupB.key (t := (u, c)) hha, hv, fa, dxf, _, _, rfl, hfa, lk1, by show 1 ≤ sizeLine; decide, fun p3 hp3 => ?_⟩
            have nsl : ns.length ≤ 4002 := by
              have h1 := ls.bf.small i _ (lens_at hm)
              have h2 := ls.bf.few
              have h3 := ls.bf.le
              have h1' : ns.length ≤ i := h1
              omega
            refine .inl ⟨ln, p3, _, _, rfl, rfl, upd_new hln hp3, upd_same, ?_, fun p4 hp4 => ?_⟩
            · rw [List.length_map, sizeLine_eq]; show _ + 1 ≤ _; omega
            obtain ⟨vs5, hw5, _⟩ := ls.wt
            have np4 : p4 ≠ wl := (ne_of_none (upd_new hw5 hp3) hp4).symm
            have e7 := fun u => (Ex.new (o := .lst [.int f.n]) hp3).trans (Ex.new (o := u) hp4)
            have ls := ls.grow (e7 (.lst (ns.map V.int ++ [.int f.n])))
            obtain ⟨vs, hw7, pr7⟩ := ls.wt
            have b7 := b.ex (e7 (.lst (ns.map V.int ++ [.int f.n])))
            have en7 : EntM (NumL wl (upd (upd (upd H4 a5 (.tup [.str t, .bl (c || f.ap)])) p3 (.lst [.int f.n])) p4 (.lst (ns.map V.int ++ [.int f.n])))) xs M4 := Paired.imp en fun a c q => ⟨q.1, by obtain ⟨l, h1, h2, h3⟩ := q.2; exact ⟨l, h1, h2, e7 _ _ _ h3⟩⟩
            obtain ⟨sz1, sz2, vn, ls⟩ := ls.add hm (e := ((t, c || f.ap), f.n)) hway hn b7 en7 (a := a5) (l := p4) (e7 _ _ _ ha5) (by rw [upd_same, List.map_append]; rfl) np4 few hw7 pr7 (by have := (List.getElem?_eq_some_iff.mp hm).1; omega)
            refine ⟨d, a5, keyOf (t, c || f.ap), xs, rfl, rfl, b7, TupB.key (t := (t, c || f.ap)) (e7 _ _ _ ha5), sz1, ?_⟩
            refine ⟨.inl ⟨rfl, _, .inl (.inl (by rw [upd_ne ls.ne.symm]; exact hw7))⟩, wl, vs, _, rfl, rfl, by rw [upd_ne ls.ne.symm]; exact hw7, sz2, ?_⟩
            have keepT : ∀ {q : Addr} {o : HO}, (upd (upd (upd H4 a5 (.tup [.str t, .bl (c || f.ap)])) p3 (.lst [.int f.n])) p4 (.lst (ns.map V.int ++ [.int f.n]))) q = some o → q ≠ d → q ≠ wl → (upd (upd (upd (upd (upd H4 a5 (.tup [.str t, .bl (c || f.ap)])) p3 (.lst [.int f.n])) p4 (.lst (ns.map V.int ++ [.int f.n]))) d (exD A.P A.w d (putT xs (keyOf (t, c || f.ap)) a5 (.ref p4)))) wl (.lst (vs ++ [.ref a5]))) q = some o := by
              intro q o h n1 n2
              rw [upd_ne n2, upd_ne n1]; exact h
            refine ⟨M4 ++ [((t, c || f.ap), ns ++ [f.n])], _, _, rfl, ?_, ?_, ?_, ?_⟩
            · rw [etk, ← List.append_assoc]; exact ls
            · rw [List.getElem?_append_left (List.getElem?_eq_some_iff.mp hm).1]; exact hm
            · exact keepT (e7 _ _ _ hha) (fun e => by rw [e, b.at_] at hha; exact exD_ne_tup (Option.some.inj hha).symm) (fun e => by rw [e, hw5] at hha; cases hha)
            · exact keepT (e7 _ _ _ hb5) npb.1.symm npb.2.symm
          · refine ⟨M4, _, _, rfl, ?_, hm, hha, hb5⟩
            rw [etk, ← List.append_assoc]
            refine ls.old hm ?_
            refine Classical.byContradiction fun z => ?_
            rw [decide_eq_false z] at hold
            cases hold
        · rintro σ H4 ⟨M4, o6, o7, rfl, ls, hm, hha, hb4⟩
          rw [List.length_map, List.take_length] at ls
          refine ⟨M4, _, _, _, rfl, ?_, hm, hha⟩
          rw [etake, eout]
          exact ls
    · rintro σ H2 ⟨M', o5, o6, o7, rfl, ls, hm, hha⟩
      have lx : xf.length = F.length := Paired.length prf
      rw [lx, List.take_length] at ls
      exact ⟨M', _, _, _, _, rfl, ls.next hm rfl⟩
  · have hv : vs = [] := by
      cases vs with
      | nil => rfl
      | cons _ _ => cases hemp
    subst hv
    have hl : (lens M).length ≤ i := by
      have := Paired.length pr
      rw [List.length_map, List.length_drop] at this
      rw [List.length_map]
      have h0 : ([] : List V).length = 0 := rfl
      omega
    obtain ⟨xs, b, en⟩ := (ls.grow (Ex.new (o := .lst []) hp2)).db
    exact q d _ xs M ls.nd (ls.ex.trans (Ex.new hp2)) b (Paired.imp en fun e m h => ⟨h.1, by obtain ⟨l, _, h2, h3⟩ := h.2; exact ⟨l, h2, h3⟩⟩) (ls.bf.dist hl) ls.pt
end MC
namespace MC
open PySem PySem.Spec PyProof.Rows L2

theorem ok_Sames_facts {K : PySem.W.Frag} {mg : Str → Option Value} {base : Heap} {A : Ad} {fd : FuncData} (F : Fun K "facts" "Sames.facts" s_Sames_facts A.f_Sames_facts fd) (T : Txt K mg A)
    (O_Fact_shown : Ok A.P A.w K mg base 1 A.f_Fact_shown ["self"] (sp_Fact_shown K A)) :
    FnG A.P A.w K mg base 2 A.f_Sames_facts fd ["self"] (sp_Sames_facts K A) := by
  have sc := sc_Sames_facts
  refine F.okG sc (fun vs H Q E h => by obtain ⟨_, _, _, _, rfl, _⟩ := h; rfl) (fun cdv Ar outer s H vs Q E hr hgd h => ?_)
  have hu := hu_of hr
  have hu64 : (Ar.deeper (envOfC "Sames.facts" (defScope s_Sames_facts) s.heap.objs.size A.f_Sames_facts cdv)).units + 64 < cLine := hr.units
  have hu65 : (Ar.deeper (envOfC "Sames.facts" (defScope s_Sames_facts) s.heap.objs.size A.f_Sames_facts cdv)).units + 65 < cLine := by have := hr.un; omega
  refine ⟨_, (pss_one (ps_ret (pe_lc (own := [("fact", 1)]) (g := (gName 1)) (tt := tYes) (by rfl) sc.nd (pi_list (pe_flO T.cl_Sames T.na_Sames_kept_facts (pvU 0))) (blkOk_by (own := [("fact", 1)]) (N := ["self", "fact"]) (sc := defScope s_Sames_facts) (by decide +kernel)) (fun _ _ _ _ _ => (pg_name (i := 1) sc.nd rfl (Or.inl rfl))) (fun _ _ _ _ _ => pts_nil) (fun _ _ _ _ _ => (pe_methO0 (pvU 1) T.cl_Fact T.m_Fact_shown O_Fact_shown hr hgd (by decide) (fun _ => passN)))))), ?_⟩
  obtain ⟨p, fl, F, told, rfl, hH, few, q⟩ := h
  obtain ⟨dxp, hp⟩ := hH.ob
  obtain ⟨xf, hfl, prf⟩ := hH.ls
  refine ⟨p, dxp, _, _, rfl, hp, rfl, fl, rfl, ⟨_, .inl (.inl hfl)⟩, fun D hD => lc_list (fun i H' => ∃ acc, Ex H H' ∧ H' D = some (.lst acc) ∧ Paired (FactV H') acc (F.take i)) ⟨[], Ex.new hD, upd_same, .nil⟩ (fun i H' hi ⟨acc, e, _⟩ => .inl (.inl (e _ _ hfl))) ?_ ?_⟩
  · rintro j z H2 hz ⟨acc, e2, hD2, pa⟩
    obtain ⟨g, hg, ga, dxg, rfl, hga0⟩ := pair_of prf hz
    have hga := e2 _ _ hga0
    obtain ⟨lk1, lk2, lk3, lk4, lk5, lk6⟩ := fact_look g
    refine ⟨rfl, yesT ⟨⟨ga, dxg, _, rfl, hga, lk6⟩, .ref ga, g, rfl, ⟨ga, dxg, rfl, hga⟩, fun t ht => ?_⟩⟩
    have e3 : Ex H2 (upd H2 t (.tup (factVs g))) := Ex.new ht
    have lacc : acc.length < sizeLine := by
      rw [Paired.length pa, List.length_take, sizeLine_eq]; omega
    refine ⟨acc, e3 _ _ hD2, lacc, acc ++ [.ref t], ex_upd (e2.trans e3) hD, upd_same, ?_⟩
    have up : ∀ {v : V} {f : Fc}, FactV (upd H2 t (.tup (factVs g))) v f → FactV (upd (upd H2 t (.tup (factVs g))) D (.lst (acc ++ [.ref t]))) v f := by
      rintro v f ⟨b, h1, h2⟩
      refine ⟨b, h1, ?_⟩
      rw [upd_ne (fun z => by rw [z, e3 _ _ hD2] at h2; cases h2)]
      exact h2
    rw [List.take_succ, hg]
    exact Paired.snoc (Paired.imp pa fun v f h => up (h.mono e3)) (up ⟨t, rfl, upd_same⟩)
  · rintro H2 ⟨acc, e2, hD2, pa⟩
    rw [show (F.take xf.length) = F from List.take_of_length_le (by rw [Paired.length prf]; exact Nat.le_refl _)] at pa
    exact q _ _ e2 ⟨D, acc, rfl, hD2, pa⟩
end MC
namespace MC
open PySem PySem.Spec PyProof.Rows L2

theorem ok_l_word_letters {K : PySem.W.Frag} {mg : Str → Option Value} {base : Heap} {A : Ad} {fd : FuncData} (F : Fun K "_law_word_letters" "_law_word_letters" s_l_word_letters A.f_l_word_letters fd) (T : Txt K mg A)
    (O_l_take : Ok A.P A.w K mg base 1 A.f_l_take ["_law_box_here", "_law_many"] (sp_l_take K A)) :
    FnG A.P A.w K mg base 2 A.f_l_word_letters fd ["_law_box_here", "_law_size"] (sp_l_word_letters K A) := by
  have sc := sc_l_word_letters
  refine F.okG sc (fun vs H Q E h => by first | (obtain ⟨_, rfl, _⟩ := h; rfl) | (obtain ⟨_, _, rfl, _⟩ := h; rfl) | (obtain ⟨_, _, _, rfl, _⟩ := h; rfl) | (obtain ⟨_, _, _, _, rfl, _⟩ := h; rfl) | (obtain ⟨_, _, _, _, _, rfl, _⟩ := h; rfl)) (fun cdv Ar outer s H vs Q E hr hgd h => ?_)
  have hu := hu_of hr
  have hu64 : (Ar.deeper (envOfC "_law_word_letters" (defScope s_l_word_letters) s.heap.objs.size A.f_l_word_letters cdv)).units + 64 < cLine := hr.units
  have hu65 : (Ar.deeper (envOfC "_law_word_letters" (defScope s_l_word_letters) s.heap.objs.size A.f_l_word_letters cdv)).units + 65 < cLine := by have := hr.un; omega
  refine ⟨_, (pss_cons (ps_set (i := 2) sc.nd rfl (Or.inl rfl) pe_str) (pss_cons (ps_set (i := 3) sc.nd rfl (Or.inl rfl) (pe_lst pa_nil)) (pss_cons (ps_for (passes_of rfl) rfl (pi_range1 (by rfl) T.b_range (pa_cons (pvU 1) pa_nil)) (pg_name (i := 4) sc.nd rfl (Or.inl rfl)) (pss_cons (ps_set (i := 5) sc.nd rfl (Or.inl rfl) (pe_callO O_l_take hr hgd (by decide) (by rfl) T.g_l_take (fun _ => passN) (pa_cons (pvU 0) (pa_cons pe_int pa_nil)))) (pss_cons (ps_set (i := 6) sc.nd rfl (Or.inl rfl) (pe_ix ix_U (pvU 2) (pe_callO O_l_take hr hgd (by decide) (by rfl) T.g_l_take (fun _ => passN) (pa_cons (pvU 0) (pa_cons pe_int pa_nil))) (fun _ _ => rfl))) (pss_cons (ps_set (i := 7) sc.nd rfl (Or.inl rfl) (pe_ix ix_U (pe_lst (pa_cons pe_str (pa_cons pe_str (pa_cons pe_str (pa_cons pe_str (pa_cons pe_str (pa_cons pe_str (pa_cons pe_str pa_nil)))))))) (pe_callO O_l_take hr hgd (by decide) (by rfl) T.g_l_take (fun _ => passN) (pa_cons (pvU 0) (pa_cons pe_int pa_nil))) (fun _ _ => rfl))) (pss_one (ps_expr (pe_bm PySem.F.plainAttrs_list PySem.F.slot_list_append PySem.F.type_list_append mt_append (pvU 3) (pa_cons (pe_op op_addU (pe_ifExp (pt_cmpR (op_eqU hu64) (pvU 5) pe_int (nomark _)) (pe_upper (pvU 6)) (pvU 6)) (pvU 7)) pa_nil)))))))) (pss_one (ps_ret (pvU 3)))))), ?_⟩
  obtain ⟨b, m, n, rfl, hm, hB, hn, q⟩ := h
  obtain ⟨ob, hob⟩ := hB.some
  refine ⟨by decide, fun p hp => ?_⟩
  have nbp : b ≠ p := ne_of_none hob hp
  refine ⟨m, rfl, by omega, by omega, for_range (lo := 0) (n := (m : Int).toNat) (fun i σ H1 => ∃ (o1 o2 o3 o4 : Option V) (ls : List Lt), σ = [some (.ref b), some (.int m), some (.str "abcdefghijklmnopqrstuvwxyz"), some (.ref p), o1, o2, o3, o4] ∧ Keep (One b) H H1 ∧ BoxAt H1 b (n + 3 * i) ∧ H1 p = some (.lst (ls.map fun l => .str (mkS (ltS l)))) ∧ ls.length = i ∧ ∀ l ∈ ls, LtOk l)
    ⟨none, none, none, none, [], rfl, Keep.of (Ex.new hp), by rw [show n + 3 * 0 = n from rfl]; exact hB.keep (Keep.of (Ex.new hp) (S := fun _ => False)) (fun z => z), upd_same, rfl, fun l hl => by cases hl⟩ ?_ ?_⟩
  · rintro i σ H1 hi ⟨o1, o2, o3, o4, ls, rfl, kp, hB1, h1, hl, ok⟩
    -- way, sign, mark
    refine ⟨b, 3, n + 3 * i, rfl, hB1, by decide, by decide, by omega, fun d1 H2 g1 g1' hB2 kp2 => ?_⟩
    refine ⟨b, 26, n + 3 * i + 1, rfl, hB2, by decide, by decide, by omega, fun d2 H3 g2 g2' hB3 kp3 => ?_⟩
    obtain ⟨c, ec, hc⟩ : ∃ c, atI (cs ("abcdefghijklmnopqrstuvwxyz" : Str)) d2 = some c ∧ isSm c = true := by
      have e : cs ("abcdefghijklmnopqrstuvwxyz" : Str) = (List.range 26).map (97 + ·) := by decide +kernel
      rw [e]
      obtain ⟨k, rfl⟩ : ∃ k : Nat, d2 = k := ⟨d2.toNat, by omega⟩
      refine ⟨97 + k, atI_nat (by rw [List.getElem?_map, List.getElem?_range (by omega)]; rfl), ?_⟩
      unfold isSm
      rw [decide_eq_true_eq]
      omega
    refine ⟨c, by decide +kernel, ec, ?_⟩
    refine ⟨by show 7 ≤ sizeLine; decide, fun p2 hp2 => ?_⟩
    have hB3' : BoxAt (upd H3 p2 (.lst [.str "", .str "", .str "'", .str "`", .str "^", .str "~", .str ":"])) b (n + 3 * i + 2) := hB3.keep (S := fun _ => False) (Keep.of (Ex.new hp2)) (fun z => z)
    refine ⟨b, 7, n + 3 * i + 2, rfl, hB3', by decide, by decide, by omega, fun d3 H4 g3 g3' hB4 kp4 => ?_⟩
    obtain ⟨ob3, hob3⟩ := hB3.some
    have nb2 : p2 ≠ b := (ne_of_none hob3 hp2).symm
    have hp2' : H4 p2 = some (.lst [.str "", .str "", .str "'", .str "`", .str "^", .str "~", .str ":"]) := kp4 _ _ upd_same nb2
    obtain ⟨mk, em, hmk⟩ : ∃ mk : Option Nat, atI [V.str "", .str "", .str "'", .str "`", .str "^", .str "~", .str ":"] d3 = some (.str (mkS mk.toList)) ∧ ∀ m, mk = some m → isMk m = true := by
      obtain ⟨k, rfl⟩ : ∃ k : Nat, d3 = k := ⟨d3.toNat, by omega⟩
      have hk : k < 7 := by omega
      match k, hk with
      | 0, _ => exact ⟨none, by decide +kernel, fun m h => by cases h⟩
      | 1, _ => exact ⟨none, by decide +kernel, fun m h => by cases h⟩
      | 2, _ => exact ⟨some 39, by decide +kernel, fun m h => by cases h; rfl⟩
      | 3, _ => exact ⟨some 96, by decide +kernel, fun m h => by cases h; rfl⟩
      | 4, _ => exact ⟨some 94, by decide +kernel, fun m h => by cases h; rfl⟩
      | 5, _ => exact ⟨some 126, by decide +kernel, fun m h => by cases h; rfl⟩
      | 6, _ => exact ⟨some 58, by decide +kernel, fun m h => by cases h; rfl⟩
    refine ⟨_, _, .inl (.inl (.inl hp2')), em, ?_⟩
    have kp' : Keep (One b) H1 H4 := kp2.trans (kp3.trans ((Keep.of (Ex.new hp2)).trans kp4))
    have h1' : H4 p = some (.lst (ls.map fun l => .str (mkS (ltS l)))) := kp' _ _ h1 nbp.symm
    refine ⟨.inl ⟨rfl, _, .inl (.inl h1')⟩, ?_⟩
    have fin : ∀ l : Lt, LtOk l → ∃ (o1 o2 o3 o4 : Option V) (ls' : List Lt), [some (V.ref b), some (.int m), some (.str "abcdefghijklmnopqrstuvwxyz"), some (.ref p), some (.int (0 + (i : Int))), some (.int d1), some (.str ⟨#[c]⟩), some (.str (mkS mk.toList))] = [some (.ref b), some (.int m), some (.str "abcdefghijklmnopqrstuvwxyz"), some (.ref p), o1, o2, o3, o4] ∧
        Keep (One b) H (upd H4 p (.lst ((ls.map fun l => V.str (mkS (ltS l))) ++ [.str (mkS (ltS l))]))) ∧ BoxAt (upd H4 p (.lst ((ls.map fun l => V.str (mkS (ltS l))) ++ [.str (mkS (ltS l))]))) b (n + 3 * (i + 1)) ∧
        (upd H4 p (.lst ((ls.map fun l => V.str (mkS (ltS l))) ++ [.str (mkS (ltS l))]))) p = some (.lst (ls'.map fun l => .str (mkS (ltS l)))) ∧ ls'.length = i + 1 ∧ ∀ l ∈ ls', LtOk l := by
      intro l hlo
      refine ⟨_, _, _, _, ls ++ [l], rfl, fun a o ha na => ?_, ?_, ?_, by rw [List.length_append, hl]; rfl, fun l' hl' => ?_⟩
      · rw [upd_ne (ne_of_none ha hp)]
        exact kp' _ _ (kp _ _ ha na) na
      · obtain ⟨x, y, z, e1, e2⟩ := hB4
        exact ⟨x, y, z, by rw [upd_ne nbp]; exact e1, e2.1, e2.2.1, e2.2.2.1, e2.2.2.2.1, by have := e2.2.2.2.2; omega⟩
      · rw [upd_same, List.map_append]; rfl
      · rcases List.mem_append.mp hl' with hl' | hl'
        · exact ok _ hl'
        · cases List.mem_singleton.mp hl'; exact hlo
    have hsz : (ls.map fun l => V.str (mkS (ltS l))).length < sizeLine := by rw [List.length_map, hl, sizeLine_eq]; omega
    have hmkl : (mkS mk.toList).length ≤ 1 := by rw [len_cs, cs_mk]; cases mk <;> simp
    refine ⟨_, rfl, iteD (fun hw => ?_) (fun hw => ?_)⟩
    · have eu : Txt.upper (⟨#[c]⟩ : Str) = ⟨#[c - 32]⟩ := by
        have hc' := hc
        unfold isSm at hc'
        rw [decide_eq_true_eq] at hc'
        have eu1 : up1 c = c - 32 := by unfold up1; rw [if_pos hc']
        refine str_ext ?_
        rw [cs_upper (fun c' h' => by cases List.mem_singleton.mp (show c' ∈ [c] from h'); omega)]
        show [up1 c] = [c - 32]
        rw [eu1]
      refine ⟨⟨_, rfl⟩, _, rfl, rfl, by show 1 ≤ 5592405; decide, ?_⟩
      rw [eu]
      refine ⟨by show 1 + (mkS mk.toList).length ≤ sizeLine; rw [sizeLine_eq]; omega, p, _, _, rfl, rfl, h1', hsz, ?_⟩
      have es : (⟨#[c - 32]⟩ : Str) ++ mkS mk.toList = mkS (ltS (c - 32, mk)) := str_ext (by rw [cs_app]; rfl)
      rw [es]
      refine fin _ ⟨.inr ?_, hmk⟩
      unfold isSm at hc
      unfold isCp
      rw [decide_eq_true_eq] at hc ⊢
      show 65 ≤ c - 32 ∧ c - 32 ≤ 90
      omega
    · refine ⟨by show 1 + (mkS mk.toList).length ≤ sizeLine; rw [sizeLine_eq]; omega, p, _, _, rfl, rfl, h1', hsz, ?_⟩
      have es : (⟨#[c]⟩ : Str) ++ mkS mk.toList = mkS (ltS (c, mk)) := str_ext (by rw [cs_app]; rfl)
      rw [es]
      exact fin _ ⟨.inl hc, hmk⟩
  · rintro σ H1 ⟨o1, o2, o3, o4, ls, rfl, kp, hB1, h1, hl, ok⟩
    have em : (m : Int).toNat = m := by omega
    rw [em] at hB1 hl
    exact q p H1 ls hp kp hB1 h1 hl ok
end MC
namespace MC
open PySem PySem.Spec PyProof.Rows L2

theorem ok_l_cased {K : PySem.W.Frag} {mg : Str → Option Value} {base : Heap} {A : Ad} {fd : FuncData} (F : Fun K "_law_cased" "_law_cased" s_l_cased A.f_l_cased fd) (T : Txt K mg A)
    (O_l_take : Ok A.P A.w K mg base 1 A.f_l_take ["_law_box_here", "_law_many"] (sp_l_take K A)) :
    FnG A.P A.w K mg base 2 A.f_l_cased fd ["_law_box_here", "_law_pool_here"] (sp_l_cased K A) := by
  have sc := sc_l_cased
  refine F.okG sc (fun vs H Q E h => by first | (obtain ⟨_, rfl, _⟩ := h; rfl) | (obtain ⟨_, _, rfl, _⟩ := h; rfl) | (obtain ⟨_, _, _, rfl, _⟩ := h; rfl) | (obtain ⟨_, _, _, _, rfl, _⟩ := h; rfl) | (obtain ⟨_, _, _, _, _, rfl, _⟩ := h; rfl)) (fun cdv Ar outer s H vs Q E hr hgd h => ?_)
  have hu := hu_of hr
  have hu64 : (Ar.deeper (envOfC "_law_cased" (defScope s_l_cased) s.heap.objs.size A.f_l_cased cdv)).units + 64 < cLine := hr.units
  have hu65 : (Ar.deeper (envOfC "_law_cased" (defScope s_l_cased) s.heap.objs.size A.f_l_cased cdv)).units + 65 < cLine := by have := hr.un; omega
  refine ⟨_, (pss_cons (ps_set (i := 2) sc.nd rfl (Or.inl rfl) (pe_callTy call_list_of (by rfl) T.b_list (by decide +kernel) (pa_cons (pvU 1) pa_nil))) (pss_cons (ps_for (passes_of rfl) rfl (pi_range1 (by rfl) T.b_range (pa_cons (pe_callO O_l_take hr hgd (by decide) (by rfl) T.g_l_take (fun _ => passN) (pa_cons (pvU 0) (pa_cons pe_int pa_nil))) pa_nil)) (pg_name (i := 3) sc.nd rfl (Or.inl rfl)) (pss_cons (ps_set (i := 4) sc.nd rfl (Or.inl rfl) (pe_ix ix_U (pvU 2) (pe_callO O_l_take hr hgd (by decide) (by rfl) T.g_l_take (fun _ => passN) (pa_cons (pvU 0) (pa_cons (pe_callB call_lenU (by rfl) T.b_len (by decide +kernel) (pa_cons (pvU 2) pa_nil)) pa_nil))) (fun _ _ => rfl))) (pss_cons (ps_set (i := 5) sc.nd rfl (Or.inl rfl) (pe_join pe_str (pe_lc (own := [("_law_sign", 7)]) (g := (gName 7)) (by rfl) sc.nd (pi_str (pvU 4)) (blkOk_by (own := [("_law_sign", 7)]) (N := ["_law_box_here", "_law_pool_here", "_law_found", "_law_turn", "_law_word", "_law_smooth", "_law_other", "_law_sign"]) (sc := defScope s_l_cased) (by decide +kernel)) (fun _ _ _ _ _ => (pg_name (i := 7) sc.nd rfl (Or.inl rfl))) (fun _ _ _ _ _ => (pts_one (pt_val (pe_m0 PySem.F.slot_str_isalpha PySem.F.type_str_isalpha mt_isalpha (pvU 7))))) (fun _ _ _ _ _ => (pvU 7))))) (pss_cons (ps_set (i := 6) sc.nd rfl (Or.inl rfl) (pe_ix ix_U (pe_lst (pa_cons (pe_upper (pvU 4)) (pa_cons (pe_lower (pvU 4)) (pa_cons (pvU 5) (pa_cons (pe_op op_addU (pe_upper (pe_slice sl_U (pvU 4) po_none (po_some pe_int))) (pe_slice sl_U (pvU 4) (po_some pe_int) po_none)) pa_nil))))) (pe_callO O_l_take hr hgd (by decide) (by rfl) T.g_l_take (fun _ => passN) (pa_cons (pvU 0) (pa_cons pe_int pa_nil))) (fun _ _ => rfl))) (pss_one (ps_if (pt_cmpR (op_notInU hu65) (pvU 6) (pvU 2) (by rfl)) (pss_one (ps_asg (pvU 6) (pg_sub (pvU 2) (pe_callO O_l_take hr hgd (by decide) (by rfl) T.g_l_take (fun _ => passN) (pa_cons (pvU 0) (pa_cons (pe_callB call_lenU (by rfl) T.b_len (by decide +kernel) (pa_cons (pvU 2) pa_nil)) pa_nil))) set_list))) pss_nil)))))) (pss_one (ps_ret (pvU 2))))), ?_⟩
  obtain ⟨b, pp, n, ws0, rfl, hB, hn, hp, ok0, l2, l12, q⟩ := h
  obtain ⟨ob, hob⟩ := hB.some
  refine ⟨pp, _, rfl, .inl (.inl (.inl hp)), fun D hD => ?_⟩
  have nbD : b ≠ D := ne_of_none hob hD
  refine ⟨b, 4, n, rfl, hB.new hD, by decide, by decide, by omega, fun d0 H1 g0 g0' hB1 kp1 => ?_⟩
  refine ⟨d0, rfl, by omega, by omega, for_range (lo := 0) (n := d0.toNat) (fun i σ H1 => ∃ (o3 o4 o5 o6 : Option V) (ws : List Str), σ = [some (.ref b), some (.ref pp), some (.ref D), o3, o4, o5, o6, none] ∧ Keep (One b) H H1 ∧ BoxAt H1 b (n + 1 + 10 * i) ∧ H1 D = some (.lst (ws.map V.str)) ∧ (∀ z ∈ ws, GoodW z) ∧ ws.length = ws0.length) ⟨none, none, none, none, ws0, rfl, ?_, hB1, kp1 _ _ upd_same nbD.symm, ok0, rfl⟩ ?_ ?_⟩
  · exact (Keep.of (Ex.new hD)).trans kp1
  · rintro i σ H1 hi ⟨o3, o4, o5, o6, ws, rfl, kp, hB1, hD1, ok, hl⟩
    -- the word
    refine .inl ⟨_, .inl (.inl (.inl hD1)), ?_⟩
    refine ⟨b, _, n + 1 + 10 * i, rfl, hB1, ?_, ?_, by omega, fun d1 H2 g1 g1' hB2 kp2 => ?_⟩
    · rw [List.length_map]; omega
    · rw [List.length_map]; omega
    rw [List.length_map] at g1'
    have hD2 : H2 D = some (.lst (ws.map V.str)) := kp2 _ _ hD1 nbD.symm
    obtain ⟨z, hz, gz⟩ : ∃ z, atI (ws.map V.str) d1 = some (.str z) ∧ GoodW z := by
      obtain ⟨k, rfl⟩ : ∃ k : Nat, d1 = k := ⟨d1.toNat, by omega⟩
      have hk : k < ws.length := by omega
      exact ⟨ws[k], atI_nat (by rw [List.getElem?_map, List.getElem?_eq_getElem hk]; rfl), ok _ (List.getElem_mem hk)⟩
    refine ⟨_, _, .inl (.inl (.inl hD2)), hz, ?_⟩
    have hzl := gz.len
    have ha := gz.ascii
    -- smooth
    refine ⟨⟨_, rfl⟩, z, rfl, fun D2 hE2 => lc_it walk_str (fun i H' => H' = upd H2 D2 (.lst ((((cs z).take i).filter fun c => Txt.isalpha ⟨#[c]⟩).map fun c => V.str ⟨#[c]⟩))) rfl (fun _ _ _ _ => trivial) ?_ ?_⟩
    · rintro j x H3 H4 hj rfl ⟨rfl, c, hc, rfl⟩
      have hc' : (cs z)[j]? = some c := by simpa using hc
      have hsz : ((((cs z).take j).filter fun c => Txt.isalpha ⟨#[c]⟩).map fun c => V.str ⟨#[c]⟩).length < sizeLine := by
        have h1 := List.length_filter_le (fun c => Txt.isalpha ⟨#[c]⟩) ((cs z).take j)
        have h2 : ((cs z).take j).length ≤ (cs z).length := by rw [List.length_take]; omega
        have h3 := len_cs z
        rw [List.length_map, sizeLine_eq]; omega
      refine ⟨rfl, ⟨_, rfl⟩, _, rfl, rfl, trivial, _, rfl, iteB (fun hb => ?_) (fun hb => ?_)⟩
      · refine ⟨_, upd_same, hsz, ?_⟩
        rw [upd_upd, List.take_succ, hc', List.filter_append, List.map_append]
        simp [hb]
      · rw [List.take_succ, hc', List.filter_append, List.map_append]
        simp [hb]
    · rintro H3 rfl
      have ecut : (cs z).take z.cps.size = cs z := List.take_of_length_le (by rw [← len_cs]; exact Nat.le_refl _)
      rw [ecut]
      have gsm := gz.smooth
      generalize hsm : Txt.join "" (((cs z).filter fun c => Txt.isalpha ⟨#[c]⟩).map fun c => (⟨#[c]⟩ : Str)) = sm at gsm
      refine ⟨_, D2, ((cs z).filter fun c => Txt.isalpha ⟨#[c]⟩).map fun c => (⟨#[c]⟩ : Str), rfl, rfl, .inl (.inl (.inl (by rw [upd_same, List.map_map]; rfl))), ?_, ?_⟩
      · have key : ∀ l : List Nat, ((l.map fun c => (⟨#[c]⟩ : Str)).map (·.length)).sum = l.length := by
          intro l
          induction l with
          | nil => rfl
          | cons c r ih =>
            rw [List.map_cons, List.map_cons, List.sum_cons, ih, List.length_cons]
            show 1 + _ = _
            omega
        rw [key, show Str.length "" = 0 from by decide, Nat.mul_zero, Nat.add_zero]
        have h1 := List.length_filter_le (fun c => Txt.isalpha ⟨#[c]⟩) (cs z)
        have h3 := len_cs z
        omega
      rw [hsm]
      -- the four
      have cl1 : (cutS z none (some 1)).length ≤ 16 := by
        rw [len_cs, cs_cut, List.length_take, List.length_drop]
        have := len_cs z
        omega
      have cl2 : (Txt.upper (cutS z none (some 1))).length ≤ 16 := by
        rw [len_cs, cs_upper, List.length_map, ← len_cs]
        · exact cl1
        · intro c hc
          rw [cs_cut] at hc
          exact ha c (List.mem_of_mem_drop (List.mem_of_mem_take hc))
      have cl3 : (cutS z (some 1) none).length ≤ 16 := by
        rw [len_cs, cs_cut, List.length_take, List.length_drop]
        have := len_cs z
        omega
      refine ⟨⟨_, rfl⟩, _, rfl, rfl, by omega, ⟨_, rfl⟩, _, rfl, rfl, by omega, ⟨_, rfl, .inl ⟨z, rfl, by rw [sizeLine_eq]; omega, ⟨_, rfl⟩, _, rfl, rfl, by omega, ⟨_, rfl, .inl ⟨z, rfl, by rw [sizeLine_eq]; omega, ?_, ?_⟩⟩⟩⟩⟩
      · rw [sizeLine_eq]; omega
      refine ⟨by show 4 ≤ sizeLine; decide, fun p4 hp4 => ?_⟩
      have k24 : Ex H2 (upd (upd H2 D2 (.lst (((cs z).filter fun c => Txt.isalpha ⟨#[c]⟩).map fun c => V.str ⟨#[c]⟩))) p4 (.lst [.str (Txt.upper z), .str (Txt.lower z), .str sm, .str (Txt.upper (cutS z none (some 1)) ++ cutS z (some 1) none)])) := (Ex.new hE2).trans (Ex.new hp4)
      refine ⟨b, 4, n + 1 + 10 * i + 1, rfl, (hB2.new hE2).new hp4, by decide, by decide, by omega, fun d3 H5 g3 g3' hB5 kp5 => ?_⟩
      have nb4 : p4 ≠ b := by
        obtain ⟨o, ho⟩ := (hB2.new hE2).some
        exact (ne_of_none ho hp4).symm
      obtain ⟨y, hy, gy⟩ : ∃ y, atI [V.str (Txt.upper z), .str (Txt.lower z), .str sm, .str (Txt.upper (cutS z none (some 1)) ++ cutS z (some 1) none)] d3 = some (.str y) ∧ GoodW y := by
        obtain ⟨k, rfl⟩ : ∃ k : Nat, d3 = k := ⟨d3.toNat, by omega⟩
        have hk : k < 4 := by omega
        match k, hk with
        | 0, _ => exact ⟨_, atI_nat rfl, gz.upper⟩
        | 1, _ => exact ⟨_, atI_nat rfl, gz.lower⟩
        | 2, _ => exact ⟨_, atI_nat rfl, gsm⟩
        | 3, _ => exact ⟨_, atI_nat rfl, gz.head⟩
      refine ⟨_, _, .inl (.inl (.inl (kp5 _ _ upd_same nb4))), hy, ?_⟩
      have kp15 : Keep (One b) H1 H5 := kp2.trans ((Keep.of k24).trans kp5)
      have hD5 : H5 D = some (.lst (ws.map V.str)) := kp15 _ _ hD1 nbD.symm
      -- not in found
      refine .inl ⟨D, _, rfl, .inl (.inl (.inl hD5)), rfl, flat_strs ws, ?_⟩
      refine ⟨_, rfl, iteB (fun hb => ?_) (fun hb => ?_)⟩
      · refine .inl ⟨_, .inl (.inl (.inl hD5)), ?_⟩
        refine ⟨b, _, n + 1 + 10 * i + 2, rfl, hB5, ?_, ?_, by omega, fun d6 H6 g6 g6' hB6 kp6 => ?_⟩
        · rw [List.length_map]; omega
        · rw [List.length_map]; omega
        rw [List.length_map] at g6'
        obtain ⟨k, rfl⟩ : ∃ k : Nat, d6 = k := ⟨d6.toNat, by omega⟩
        have hD6 := kp6 _ _ hD5 nbD.symm
        refine ⟨D, _, _, k, rfl, rfl, hD6, ixN_at (by rw [List.length_map]; omega), _, _, _, _, ws.set k y, rfl, ?_, ?_, ?_, ?_, ?_⟩
        · exact (kp.trans (kp15.trans kp6)).grow hD
        · exact (hB6.grow nbD).le (by omega)
        · rw [upd_same, List.map_set]
        · intro x hx
          rcases List.mem_or_eq_of_mem_set hx with hx | hx
          · exact ok x hx
          · rw [hx]; exact gy
        · rw [List.length_set]; exact hl
      · exact ⟨_, _, _, _, ws, rfl, kp.trans kp15, hB5.le (by omega), hD5, ok, hl⟩
  · rintro σ H1 ⟨o3, o4, o5, o6, ws, rfl, kp, hB1, hD1, ok, hl⟩
    exact q D H1 ws hD kp (hB1.le (by omega)) hD1 ok (by omega) (by omega)
end MC
namespace MC
open PySem PySem.Spec PyProof.Rows L2

theorem ok_l_levels {K : PySem.W.Frag} {mg : Str → Option Value} {base : Heap} {A : Ad} {fd : FuncData} (F : Fun K "_law_levels" "_law_levels" s_l_levels A.f_l_levels fd) (T : Txt K mg A)
    (O_l_beyond : Ok A.P A.w K mg base 1 A.f_l_beyond ["_law_fact", "_law_word"] (sp_l_beyond K A)) :
    FnG A.P A.w K mg base 2 A.f_l_levels fd ["_law_facts", "_law_one"] (sp_l_levels K A) := by
  have sc := sc_l_levels
  refine F.okG sc (fun vs H Q E h => by first | (obtain ⟨_, rfl, _⟩ := h; rfl) | (obtain ⟨_, _, rfl, _⟩ := h; rfl) | (obtain ⟨_, _, _, rfl, _⟩ := h; rfl) | (obtain ⟨_, _, _, _, rfl, _⟩ := h; rfl) | (obtain ⟨_, _, _, _, _, rfl, _⟩ := h; rfl)) (fun cdv Ar outer s H vs Q E hr hgd h => ?_)
  have hu := hu_of hr
  have hu64 : (Ar.deeper (envOfC "_law_levels" (defScope s_l_levels) s.heap.objs.size A.f_l_levels cdv)).units + 64 < cLine := hr.units
  have hu65 : (Ar.deeper (envOfC "_law_levels" (defScope s_l_levels) s.heap.objs.size A.f_l_levels cdv)).units + 65 < cLine := by have := hr.un; omega
  refine ⟨_, (pss_cons (ps_set (i := 2) sc.nd rfl (Or.inl rfl) (pe_dB1 hu (pe_tup (pa_cons (pvU 1) (pa_cons pe_int pa_nil))) pe_int)) (pss_cons (ps_set (i := 3) sc.nd rfl (Or.inl rfl) (pe_lst (pa_cons (pe_tup (pa_cons (pvU 1) (pa_cons pe_int pa_nil))) pa_nil))) (pss_cons (ps_set (i := 4) sc.nd rfl (Or.inl rfl) pe_int) (pss_cons (ps_while (passes_of rfl) (pt_cmpR (op_neU hu64) (pvU 3) (pe_lst pa_nil) (nomark _)) (pss_cons (ps_set (i := 4) sc.nd rfl (Or.inl rfl) (pe_op op_addU (pvU 4) pe_int)) (pss_cons (ps_set (i := 5) sc.nd rfl (Or.inl rfl) (pe_lst pa_nil)) (pss_cons (ps_for (passes_of rfl) rfl (pi_list (pvU 3)) (pg_tup (by rfl) (pgs_cons (pg_name (i := 6) sc.nd rfl (Or.inl rfl)) (pgs_cons (pg_name (i := 7) sc.nd rfl (Or.inl rfl)) pgs_nil))) (pss_one (ps_for (passes_of rfl) rfl (pi_list (pvU 0)) (pg_name (i := 8) sc.nd rfl (Or.inl rfl)) (pss_cons (ps_set (i := 9) sc.nd rfl (Or.inl rfl) (pe_op op_addU (pvU 7) (pe_callTy call_int1 (by rfl) T.b_int (by decide +kernel) (pa_cons (pe_cmpR (op_eqU hu64) (pe_ix ix_U (pvU 8) pe_int (fun _ _ => rfl)) pe_str (nomark _)) pa_nil)))) (pss_one (ps_for (passes_of rfl) rfl (pi_list (pe_callO O_l_beyond hr hgd (by decide) (by rfl) T.g_l_beyond (fun _ => passN) (pa_cons (pvU 8) (pa_cons (pvU 6) pa_nil)))) (pg_name (i := 10) sc.nd rfl (Or.inl rfl)) (pss_one (ps_if (PW.pt (pw_and (pt_cmpR op_ltU (pvU 9) pe_int (nomark _)) (pw_and1 (pt_cmpR (op_notInB hu65) (pe_tup (pa_cons (pvU 10) (pa_cons (pvU 9) pa_nil))) (pvU 2) (by rfl))))) (pss_cons (ps_dBput hu (pvU 2) (pe_tup (pa_cons (pvU 10) (pa_cons (pvU 9) pa_nil))) (pvU 4) rfl) (pss_one (ps_expr (pe_bm PySem.F.plainAttrs_list PySem.F.slot_list_append PySem.F.type_list_append mt_append (pvU 5) (pa_cons (pe_tup (pa_cons (pvU 10) (pa_cons (pvU 9) pa_nil))) pa_nil))))) pss_nil)))))))) (pss_one (ps_set (i := 3) sc.nd rfl (Or.inl rfl) (pvU 5))))))) (pss_one (ps_ret (pvU 2))))))), ?_⟩
  obtain ⟨fv, w, F, rfl, ⟨fl, xf, rfl, hfl, prf⟩, few, q⟩ := h
  refine fun d hd => ⟨by show 2 ≤ sizeLine; decide, fun a ha => ⟨a, keyOf (w, false), rfl, TupI.key (t := (w, false)) upd_same, upd_new upd_same ha, ?_⟩⟩
  refine ⟨by show 2 ≤ sizeLine; decide, fun a2 ha2 => ⟨by show 1 ≤ sizeLine; decide, fun rl hrl => ?_⟩⟩
  have lw0 : LW A.P A.w H F (w, false) d rl (upd (upd (upd (upd (upd H d (exD A.P A.w d [])) a (.tup [.str w, .int 0])) d (exD A.P A.w d [(keyOf (w, false), a, .int 0)])) a2 (.tup [.str w, .int 0])) rl (.lst [.ref a2])) [((w, false), 0)] 0 0 := by
    have nda : d ≠ a := ne_of_none (upd_same (H := H) (a := d) (o := exD A.P A.w d [])) ha
    have e1 : Ex H (upd (upd H d (exD A.P A.w d [])) a (.tup [.str w, .int 0])) := (Ex.new hd).trans (Ex.new ha)
    have e2 := ex_upd (a := d) (o := exD A.P A.w d [(keyOf (w, false), a, .int 0)]) e1 hd
    have g2 : (upd (upd (upd H d (exD A.P A.w d [])) a (.tup [.str w, .int 0])) d (exD A.P A.w d [(keyOf (w, false), a, .int 0)])) a = some (.tup [.str w, .int 0]) := by
      rw [upd_ne nda.symm]; exact upd_same
    have g3 : (upd (upd (upd H d (exD A.P A.w d [])) a (.tup [.str w, .int 0])) d (exD A.P A.w d [(keyOf (w, false), a, .int 0)])) d = some (exD A.P A.w d [(keyOf (w, false), a, .int 0)]) := upd_same
    refine ⟨(e2.trans (Ex.new ha2)).trans (Ex.new hrl), hd, ⟨[(keyOf (w, false), a, .int 0)], ⟨upd_new (upd_new g3 ha2) hrl, by show 1 ≤ sizeLine; decide, ?_⟩, .cons ⟨rfl, rfl⟩ .nil⟩, ⟨[.ref a2], upd_same, .cons ⟨a2, rfl, upd_new upd_same hrl⟩ .nil⟩, Bfs.init F _, fun m hm => ?_⟩
    · intro e he
      rw [List.mem_singleton.mp he]
      exact TupI.key (t := (w, false)) (upd_new (upd_new g2 ha2) hrl)
    · rw [List.mem_singleton.mp hm]
  refine ⟨fun m σ H' => ∃ (M : List (St2 × Nat)) (i k : Nat) (rl : Addr) (o5 o6 o7 o8 o9 o10 : Option V), σ = [some (.ref fl), some (.str w), some (.ref d), some (.ref rl), some (.int k), o5, o6, o7, o8, o9, o10] ∧ LW A.P A.w H F (w, false) d rl H' M i k ∧ m = 4 * F.length + 2 - i, ⟨_, _, 0, 0, rl, none, none, none, none, none, none, rfl, lw0, rfl⟩, ?_⟩
  rintro m0 σ H1 ⟨M, i, k, rl, o5, o6, o7, o8, o9, o10, rfl, lw, rfl⟩
  obtain ⟨vs, hw, pr⟩ := lw.rw
  have lvs : vs.length = M.length - i := by
    rw [Paired.length pr, List.length_map, List.length_drop]
  refine ⟨by show 0 ≤ sizeLine; decide, fun p2 hp2 => .inl ⟨rl, p2, vs, rfl, rfl, .inl (.inl (upd_new hw hp2)), .inl (.inl upd_same), _, rfl, iteB (b := !vs.isEmpty) (fun hne => ?_) (fun hemp => ?_)⟩⟩
  · have lw := lw.grow (Ex.new (o := .lst []) hp2)
    have hil : i < M.length := by
      cases vs with
      | nil => cases hne
      | cons _ _ => rw [List.length_cons] at lvs; omega
    refine ⟨fun σ' H' => ∃ (M' : List (St2 × Nat)) (rl : Addr) (o5 o6 o7 o8 o9 o10 : Option V), σ' = [some (.ref fl), some (.str w), some (.ref d), some (.ref rl), some (.int ((k + 1 : Nat))), o5, o6, o7, o8, o9, o10] ∧ LW A.P A.w H F (w, false) d rl H' M' M.length (k + 1), ?_, ?_⟩
    · rintro σ' H' ⟨M', rl, o5, o6, o7, o8, o9, o10, rfl, lw'⟩
      refine ⟨_, ?_, M', M.length, k + 1, rl, o5, o6, o7, o8, o9, o10, rfl, lw', rfl⟩
      have := lw.bf.few
      omega
    refine ⟨by show 0 ≤ sizeLine; decide, fun bl hbl => ?_⟩
    have lv0 := lw.start hbl
    have hw1 := upd_new (u := .lst []) hw hp2
    have hw2 := upd_new (u := .lst []) hw1 hbl
    refine ⟨rl, rfl, ⟨_, .inl (.inl hw2)⟩, for_list (fun j σ H' => ∃ (N : List (St2 × Nat)) (o6 o7 o8 o9 o10 : Option V), σ = [some (.ref fl), some (.str w), some (.ref d), some (.ref rl), some (.int ((k + 1 : Nat))), some (.ref bl), o6, o7, o8, o9, o10] ∧ LV A.P A.w H F (w, false) d bl rl H' M N i (i + j) k [] ∧ H' rl = some (.lst vs)) ⟨[], o6, o7, o8, o9, o10, rfl, lv0, hw2⟩ (fun j σ H' hj ⟨N, o6, o7, o8, o9, o10, _, _, hr⟩ => .inl (.inl hr)) ?_ ?_⟩
    · rintro j x σ H2 hx ⟨N, o6, o7, o8, o9, o10, rfl, lv, hr⟩
      obtain ⟨vs', hr', pr2⟩ := lv.rw
      rw [hr] at hr'
      cases hr'
      obtain ⟨⟨u, c⟩, hu', ax, rfl, hax⟩ := pair_of pr2 hx
      obtain ⟨⟨uc, kk⟩, hm0, euc⟩ : ∃ m, M[i + j]? = some m ∧ m.1 = (u, c) := by
        rw [List.getElem?_map, List.getElem?_drop] at hu'
        obtain ⟨m, h1, h2⟩ := Option.map_eq_some_iff.mp hu'
        exact ⟨m, h1, h2⟩
      have euc : uc = (u, c) := euc
      subst euc
      have ekk : kk = k := lv.vm ((u, c), kk) (List.mem_of_getElem? (i := j) (by rw [List.getElem?_drop]; exact hm0))
      subst ekk
      have hmN : ∀ N' : List (St2 × Nat), (M ++ N')[i + j]? = some ((u, c), kk) := fun N' => by
        rw [List.getElem?_append_left (List.getElem?_eq_some_iff.mp hm0).1]; exact hm0
      refine ⟨ax, _, rfl, .inl (.inl hax), rfl, _, _, rfl, _, _, rfl, rfl, ?_⟩
      have hfl2 := lv.ex _ _ hfl
      refine ⟨fl, rfl, ⟨_, .inl (.inl hfl2)⟩, for_list (fun j2 σ H' => ∃ (N : List (St2 × Nat)) (o8 o9 o10 : Option V), σ = [some (.ref fl), some (.str w), some (.ref d), some (.ref rl), some (.int ((kk + 1 : Nat))), some (.ref bl), some (.str u), some (.int (b2i c)), o8, o9, o10] ∧ LV A.P A.w H F (w, false) d bl rl H' M N i (i + j) kk ((F.take j2).flatMap fun f => outE f (u, c)) ∧ H' rl = some (.lst vs)) ⟨N, o8, o9, o10, rfl, by simpa using lv, hr⟩ (fun j σ H' hj ⟨N, o8, o9, o10, _, lv, _⟩ => .inl (.inl (lv.ex _ _ hfl))) ?_ ?_⟩
      · rintro j2 x σ H2 hx ⟨N, o8, o9, o10, rfl, lv, hr⟩
        obtain ⟨f, hf, fa, rfl, hfa0⟩ := pair_of prf hx
        have hfa := lv.ex _ _ hfa0
        have etake : (F.take (j2 + 1)).flatMap (fun f => outE f (u, c)) = (F.take j2).flatMap (fun f => outE f (u, c)) ++ outE f (u, c) := by
          rw [List.take_succ, hf, List.flatMap_append]
          simp
        have eap : decide (V.str (kindS f.ap) = V.str "apart") = f.ap := by
          cases f.ap <;> decide
        refine ⟨_, .str (kindS f.ap), .inr (.inl (.inl hfa)), atI_nat (j := 1) rfl, .inr ⟨_, rfl, ?_⟩⟩
        rw [eap]
        dsimp only [add_ii, gN_ap]
        generalize emv : b2i c + (if f.ap = true then 1 else 0) = mv
        have fine : (c && f.ap) = false → mv = b2i (c || f.ap) := by
          rw [← emv]
          cases c <;> cases f.ap <;> decide
        have lt2 : mv < 2 ↔ (c && f.ap) = false := by
          rw [← emv]
          cases c <;> cases f.ap <;> decide
        refine ⟨_, f, u, rfl, ⟨fa, rfl, hfa⟩, fun pb H3 hpb e3 hb3 => ?_⟩
        have npb : d ≠ pb ∧ bl ≠ pb := by
          obtain ⟨xs, b, _⟩ := lv.db
          obtain ⟨ws, hw, _⟩ := lv.bh
          exact ⟨ne_of_none b.at_ hpb, ne_of_none hw hpb⟩
        have lv := lv.grow e3
        refine ⟨pb, rfl, ⟨_, .inl (.inl hb3)⟩, for_list (fun k2 σ H' => ∃ (N : List (St2 × Nat)) (o10 : Option V), σ = [some (.ref fl), some (.str w), some (.ref d), some (.ref rl), some (.int ((kk + 1 : Nat))), some (.ref bl), some (.str u), some (.int (b2i c)), some (.ref fa), some (.int mv), o10] ∧ LV A.P A.w H F (w, false) d bl rl H' M N i (i + j) kk ((F.take j2).flatMap (fun f => outE f (u, c)) ++ (outE f (u, c)).take k2) ∧ H' rl = some (.lst vs) ∧ H' pb = some (.lst ((beyondM f u).map V.str))) ⟨N, o10, rfl, by simpa using lv, e3 _ _ hr, hb3⟩ (fun k σ H' hj ⟨N, o10, _, _, _, hb⟩ => .inl (.inl hb)) ?_ ?_⟩
        · rintro k2 x σ H4 hx ⟨N, o10, rfl, lv, hr, hb4⟩
          rw [List.getElem?_map] at hx
          obtain ⟨t, ht, rfl⟩ := Option.map_eq_some_iff.mp hx
          have htm := List.mem_of_getElem? ht
          refine ⟨_, rfl, iteD (fun hlt => ?_) (fun hge => iteF ?_)⟩
          · have hcf := lt2.mp hlt
            have eout : outE f (u, c) = (beyondM f u).map fun t => ((t, c || f.ap), f.n) := if_neg (by rw [hcf]; exact Bool.false_ne_true)
            have etk : (outE f (u, c)).take (k2 + 1) = (outE f (u, c)).take k2 ++ [((t, c || f.ap), f.n)] := by
              rw [List.take_succ, eout, List.getElem?_map, ht]; rfl
            have hway : ((t, c || f.ap), f.n) ∈ ways F (u, c) := mem_ways.mpr ⟨f, List.mem_of_getElem? hf, rfl, hcf, htm, rfl⟩
            rw [fine hcf]
            refine ⟨by show 2 ≤ sizeLine; decide, fun a5 hn5 => ?_⟩
            have lv := lv.grow (Ex.new (o := .tup [.str t, .int (b2i (c || f.ap))]) hn5)
            have hr := upd_new (u := .tup [.str t, .int (b2i (c || f.ap))]) hr hn5
            have hb5 := upd_new (u := .tup [.str t, .int (b2i (c || f.ap))]) hb4 hn5
            obtain ⟨xs, b, en⟩ := lv.db
            refine ⟨d, a5, keyOf (t, c || f.ap), xs, rfl, rfl, b, TupI.key (t := (t, c || f.ap)) upd_same, _, rfl, ?_⟩
            rw [valT_has en lv.bf.nodup]
            refine iteB (fun hne => ?_) (fun hold => ?_)
            · have hn : (t, c || f.ap) ∉ (M ++ N).map Prod.fst := by
                intro z
                rw [decide_eq_true z] at hne
                cases hne
              refine ⟨by show 2 ≤ sizeLine; decide, fun a6 hn6 => ?_⟩
              have e6 : Ex _ (upd (upd H4 a5 (.tup [.str t, .int (b2i (c || f.ap))])) a6 (.tup [.str t, .int (b2i (c || f.ap))])) := Ex.new hn6
              have lv := lv.grow e6
              have b6 := b.ex e6
              obtain ⟨ws, hb6, _⟩ := lv.bh
              have lx : xs.length < sizeLine := by
                have h1 := Paired.length en
                have h2 := lv.bf.few
                rw [sizeLine_eq]; omega
              refine ⟨d, a6, keyOf (t, c || f.ap), xs, rfl, rfl, b6, TupI.key (t := (t, c || f.ap)) upd_same, lx, ?_⟩
              refine ⟨.inl ⟨rfl, _, .inl (.inl (by rw [upd_ne lv.ne.symm]; exact hb6))⟩, by show 2 ≤ sizeLine; decide, fun a7 hn7 => ?_⟩
              obtain ⟨sz1, sz2, lv7⟩ := lv.put (hmN N) rfl (e := ((t, c || f.ap), f.n)) hway hn b6 en (a := a6) upd_same few hb6 hn7
              refine ⟨bl, ws, _, rfl, rfl, upd_new (by rw [upd_ne lv.ne.symm]; exact hb6) hn7, sz2, ?_⟩
              refine ⟨N ++ [((t, c || f.ap), kk + 1)], _, rfl, ?_, ?_, ?_⟩
              · rw [etk, ← List.append_assoc]; exact lv7
              · rw [upd_ne lv.nr]
                refine upd_new ?_ hn7
                rw [upd_ne (fun e => by
                  rw [e, b.at_] at hr
                  have z : HO.ext _ = HO.lst vs := Option.some.inj hr
                  cases z)]
                exact upd_new hr hn6
              · rw [upd_ne npb.2.symm]
                refine upd_new ?_ hn7
                rw [upd_ne npb.1.symm]
                exact upd_new hb5 hn6
            · refine ⟨N, _, rfl, ?_, hr, hb5⟩
              rw [etk, ← List.append_assoc]
              refine lv.old (hmN N) ?_
              refine Classical.byContradiction fun z => ?_
              rw [decide_eq_false z] at hold
              cases hold
          · have hcf : (c && f.ap) = true := by
              cases h : c && f.ap
              · exact absurd (lt2.mpr h) hge
              · rfl
            have eout : outE f (u, c) = [] := if_pos hcf
            refine ⟨N, _, rfl, ?_, hr, hb4⟩
            rw [eout, List.take_nil] at lv ⊢
            exact lv
        · rintro σ H4 ⟨N, o10, rfl, lv, hr, hb4⟩
          refine ⟨N, _, _, _, rfl, ?_, hr⟩
          rw [etake]
          have el : (outE f (u, c)).take ((beyondM f u).map V.str).length = outE f (u, c) := by
            refine List.take_of_length_le ?_
            unfold outE
            split
            · exact Nat.zero_le _
            · rw [List.length_map, List.length_map]; exact Nat.le_refl _
          rw [el] at lv
          exact lv
      · rintro σ H2 ⟨N, o8, o9, o10, rfl, lv, hr⟩
        have lx : xf.length = F.length := Paired.length prf
        rw [lx, List.take_length] at lv
        refine ⟨N, _, _, _, _, _, rfl, ?_, hr⟩
        exact lv.next (hmN N) rfl
    · rintro σ H2 ⟨N, o6, o7, o8, o9, o10, rfl, lv, hr⟩
      rw [show i + vs.length = M.length from by omega] at lv
      exact ⟨M ++ N, bl, _, _, _, _, _, _, rfl, lv.stop⟩
  · have hv : vs = [] := by
      cases vs with
      | nil => rfl
      | cons _ _ => cases hemp
    subst hv
    have hl : M.length ≤ i := by
      have h0 : ([] : List V).length = 0 := rfl
      omega
    obtain ⟨xs, b, en⟩ := (lw.grow (Ex.new (o := .lst []) hp2)).db
    exact q d _ xs M lw.nd (lw.ex.trans (Ex.new hp2)) b en (lw.bf.dist hl)
end MC
namespace MC
open PySem PySem.Spec PyProof.Rows L2

theorem ok_l_walk_right {K : PySem.W.Frag} {mg : Str → Option Value} {base : Heap} {A : Ad} {fd : FuncData} (F : Fun K "_law_walk_right" "_law_walk_right" s_l_walk_right A.f_l_walk_right fd) (T : Txt K mg A)
    (O_l_beyond : Ok A.P A.w K mg base 1 A.f_l_beyond ["_law_fact", "_law_word"] (sp_l_beyond K A)) :
    FnG A.P A.w K mg base 2 A.f_l_walk_right fd ["_law_facts", "_law_one", "_law_other", "_law_numbers", "_law_apart"] (sp_l_walk_right K A) := by
  have sc := sc_l_walk_right
  refine F.okG sc (fun vs H Q E h => by obtain ⟨_, _, _, _, _, _, _, rfl, _⟩ := h; rfl) (fun cdv Ar outer s H vs Q E hr hgd h => ?_)
  have hu := hu_of hr
  have hu64 : (Ar.deeper (envOfC "_law_walk_right" (defScope s_l_walk_right) s.heap.objs.size A.f_l_walk_right cdv)).units + 64 < cLine := hr.units
  have hu65 : (Ar.deeper (envOfC "_law_walk_right" (defScope s_l_walk_right) s.heap.objs.size A.f_l_walk_right cdv)).units + 65 < cLine := by have := hr.un; omega
  refine ⟨_, (pss_cons (ps_if (pt_not (pt_val (pe_callB call_isi (by rfl) T.b_isinstance (by decide +kernel) (pa_cons (pvU 3) (pa_cons (pe_bltn (v := .ty "list") (by rfl) T.b_list (by decide +kernel) rfl) pa_nil))))) (pss_one (ps_ret pe_bl)) pss_nil) (pss_cons (ps_set (i := 5) sc.nd rfl (Or.inl rfl) (pvU 1)) (pss_cons (ps_set (i := 6) sc.nd rfl (Or.inl rfl) pe_int) (pss_cons (ps_for (passes_of rfl) rfl (pi_list (pvU 3)) (pg_name (i := 7) sc.nd rfl (Or.inr rfl)) (pss_cons (ps_setLc (i := 8) (own := [("_law_fact", 9)]) (g := (gName 9)) (by rfl) sc.nd rfl rfl (sw_true rfl rfl rfl (by decide +kernel)) (pi_list (pvU 0)) (blkOk_by (own := [("_law_fact", 9)]) (N := ["_law_facts", "_law_one", "_law_other", "_law_numbers", "_law_apart", "_law_here", "_law_crossed", "_law_number", "_law_some", "_law_fact"]) (sc := defScope s_l_walk_right) (by decide +kernel)) (fun _ _ _ _ _ => (pg_name (i := 9) sc.nd rfl (Or.inl rfl))) (fun _ _ _ _ _ => (pts_one (PW.pt (pw_and (pt_cmpR (kOp (r := rEqU) (K := K) (op_eqU hu64)) (pe_ix (kIx (K := K)) (pvU 9) pe_int (fun _ _ => rfl)) (pvU 7) (nomark _)) (pw_and1 (pt_not (pt_val (pe_callB (kIsi (K := K)) (by rfl) T.b_isinstance (by decide +kernel) (pa_cons (pvU 7) (pa_cons (pe_bltn (v := .ty "bool") (by rfl) T.b_bool (by decide +kernel) rfl) pa_nil)))))))))) (fun _ _ _ _ _ => (pvU 9))) (pss_cons (ps_if (PW.pt (pw_or (pt_cmpR (op_eqU hu64) (pvU 8) (pe_lst pa_nil) (nomark _)) (pw_or1 (pt_cmpR (op_eqU hu64) (pe_callO O_l_beyond hr hgd (by decide) (by rfl) T.g_l_beyond (fun _ => passN) (pa_cons (pe_ix ix_U (pvU 8) pe_int (fun _ _ => rfl)) (pa_cons (pvU 5) pa_nil))) (pe_lst pa_nil) (nomark _))))) (pss_one (ps_ret pe_bl)) pss_nil) (pss_cons (ps_set (i := 6) sc.nd rfl (Or.inl rfl) (pe_op op_addU (pvU 6) (pe_callTy call_int1 (by rfl) T.b_int (by decide +kernel) (pa_cons (pe_cmpR (op_eqU hu64) (pe_ix ix_U (pe_ix ix_U (pvU 8) pe_int (fun _ _ => rfl)) pe_int (fun _ _ => rfl)) pe_str (nomark _)) pa_nil)))) (pss_one (ps_set (i := 5) sc.nd rfl (Or.inl rfl) (pe_ix ix_U (pe_callO O_l_beyond hr hgd (by decide) (by rfl) T.g_l_beyond (fun _ => passN) (pa_cons (pe_ix ix_U (pvU 8) pe_int (fun _ _ => rfl)) (pa_cons (pvU 5) pa_nil))) pe_int (fun _ _ => rfl)))))))) (pss_one (ps_ret (pe_and (pe_cmpR (op_eqU hu64) (pvU 5) (pvU 2) (nomark _)) (pe_one (pe_cmpR (op_eqU hu64) (pvU 6) (pvU 4) (nomark _)))))))))), ?_⟩
  obtain ⟨np, fv, x, y, c, ns, F, rfl, ⟨fl, xf, rfl, hfl, prf⟩, few, uq, hnp, pth, q⟩ := h
  refine ⟨_, _, .type "list", _, true, rfl, .ty "list", .base (.lst hnp), kit_ty (by decide +kernel), true, rfl, iteF ?_⟩
  refine ⟨np, rfl, ⟨_, .inl (.inl hnp)⟩, for_list (fun i σ H' => ∃ (u : St2) (o7 o8 : Option V), σ = [some (.ref fl), some (.str x), some (.str y), some (.ref np), some (.int (b2i c)), some (.str u.1), some (.int (b2i u.2)), o7, o8, none] ∧ Ex H H' ∧ Pth F (x, false) (ns.take i) u) ⟨(x, false), none, none, rfl, Ex.refl _, .nil⟩ (fun i σ H' hi ⟨_, _, _, _, e, _⟩ => .inl (.inl (e _ _ hnp))) ?_ ?_⟩
  · rintro i z σ H1 hz ⟨u, o7, o8, rfl, e1, pu⟩
    rw [List.getElem?_map] at hz
    obtain ⟨n, hn, rfl⟩ := Option.map_eq_some_iff.mp hz
    obtain ⟨v, pv⟩ := pth.take (i + 1)
    have etk : ns.take (i + 1) = ns.take i ++ [n] := by rw [List.take_succ, hn]; rfl
    rw [etk] at pv
    obtain ⟨u', pu', hw⟩ := pv.cut
    have eu := pu'.det uq pu
    subst eu
    obtain ⟨f, hf, rfl, hcf, hb, hv2⟩ := mem_ways.mp hw
    have hfl1 := e1 _ _ hfl
    refine ⟨fl, rfl, ⟨_, .inl (.inl hfl1)⟩, fun D hD => lc_list (fun i H' => ∃ acc, H' = upd H1 D (.lst acc) ∧ Paired (FactV H1) acc ((F.take i).filter fun g => decide (g.n = f.n))) ⟨[], rfl, .nil⟩ (fun i H' hi ⟨acc, e, _⟩ => .inl (.inl (by rw [e]; exact upd_new hfl1 hD))) ?_ ?_⟩
    · rintro j z H2 hz ⟨acc, rfl, pa⟩
      obtain ⟨g, hg, ga, rfl, hga0⟩ := pair_of prf hz
      have hga : (upd H1 D (.lst acc)) ga = some (.tup (factVs g)) := upd_new (e1 _ _ hga0) hD
      have lacc : acc.length < sizeLine := by
        rw [Paired.length pa, sizeLine_eq]
        have h1 := List.length_filter_le (fun g => decide (g.n = f.n)) (F.take j)
        rw [List.length_take] at h1
        omega
      have etk : ((F.take (j + 1)).filter fun g => decide (g.n = f.n)) = ((F.take j).filter fun g => decide (g.n = f.n)) ++ [g].filter fun g => decide (g.n = f.n) := by
        rw [List.take_succ, hg, List.filter_append]; rfl
      refine ⟨rfl, _, .int g.n, .inr (.inl (.inl hga)), atI_nat (j := 0) rfl, _, rfl, iteD (fun he => ?_) (fun he => iteF ?_)⟩
      · refine ⟨_, _, .type "int", _, false, rfl, .ty "bool", .base (.int _), kit_ty (by decide +kernel), false, rfl, iteT ?_⟩
        refine ⟨acc, upd_same, lacc, acc ++ [.ref ga], upd_upd, ?_⟩
        rw [etk, List.filter_cons_of_pos (by simpa using V.int.inj he)]
        exact Paired.snoc pa ⟨ga, rfl, e1 _ _ hga0⟩
      · refine ⟨acc, rfl, ?_⟩
        rw [etk, List.filter_cons_of_neg (by simpa using fun z => he (by rw [z])), List.filter_nil, List.append_nil]
        exact pa
    · rintro H2 ⟨acc, rfl, pa⟩
      rw [show (F.take xf.length) = F from List.take_of_length_le (by rw [Paired.length prf]; exact Nat.le_refl _), uq.filter hf] at pa
      cases pa with
      | @cons z _ r _ hz0 hr =>
      cases hr
      obtain ⟨fa, rfl, hfa1⟩ := hz0
      have eD : Ex H1 (upd H1 D (.lst [.ref fa])) := Ex.new hD
      have hDs : (upd H1 D (.lst [.ref fa])) D = some (.lst [.ref fa]) := upd_same
      have hfa := eD _ _ hfa1
      have eap : decide (V.str (kindS f.ap) = V.str "apart") = f.ap := by
        cases f.ap <;> decide
      -- some == []
      refine ⟨by show 0 ≤ sizeLine; decide, fun p2 hp2 => .inl ⟨D, p2, [.ref fa], rfl, rfl, .inl (.inl (upd_new hDs hp2)), .inl (.inl upd_same), _, rfl, iteF ?_⟩⟩
      have e2 := eD.trans (Ex.new (o := .lst []) hp2)
      have hD2 := upd_new (u := .lst []) hDs hp2
      refine ⟨_, .ref fa, .inl (.inl (.inl hD2)), atI_nat (j := 0) rfl, _, f, u'.1, rfl, ⟨fa, rfl, e2 _ _ hfa1⟩, fun pb H3 hpb e3 hb3 => ⟨by show 0 ≤ sizeLine; decide, fun p3 hp3 => .inl ⟨pb, p3, _, rfl, rfl, .inl (.inl (upd_new hb3 hp3)), .inl (.inl upd_same), _, rfl, ?_⟩⟩⟩
      obtain ⟨t0, tr, ebm⟩ : ∃ t0 tr, beyondM f u'.1 = t0 :: tr := by
        cases h : beyondM f u'.1 with
        | nil => rw [h] at hb; cases hb
        | cons t0 tr => exact ⟨t0, tr, rfl⟩
      have et0 : t0 = v.1 := beyond_one (f := f) (w := u'.1) (by rw [ebm]; exact List.mem_cons_self) hb
      rw [ebm]
      refine iteF ?_
      have e4 := (e2.trans e3).trans (Ex.new (o := .lst []) hp3)
      have hD4 := (e3.trans (Ex.new (o := .lst []) hp3)) _ _ hD2
      have hfa4 := e4 _ _ hfa1
      refine ⟨_, .ref fa, .inl (.inl (.inl hD4)), atI_nat (j := 0) rfl, _, .str (kindS f.ap), .inr (.inl (.inl hfa4)), atI_nat (j := 1) rfl, .inr ⟨_, rfl, ?_⟩⟩
      rw [eap]
      dsimp only [add_ii, gN_ap]
      have ecr : b2i u'.2 + (if f.ap = true then 1 else 0) = b2i v.2 := by
        rw [hv2]
        revert hcf
        cases u'.2 <;> cases f.ap <;> decide
      rw [ecr]
      refine ⟨_, .ref fa, .inl (.inl (.inl hD4)), atI_nat (j := 0) rfl, _, f, u'.1, rfl, ⟨fa, rfl, hfa4⟩, fun p5 H5 hp5 e5 hb5 => ?_⟩
      rw [ebm] at hb5
      refine ⟨_, .str t0, .inl (.inl (.inl hb5)), atI_nat (j := 0) rfl, v, some (.int f.n), some (.ref D), ?_, (e1.trans e4).trans e5, by rw [etk]; exact pv⟩
      rw [et0]
      rfl
  · rintro σ H1 ⟨u, o7, o8, rfl, e1, pu⟩
    rw [List.length_map, List.take_length] at pu
    have eu := pu.det uq pth
    subst eu
    refine ⟨_, rfl, ?_⟩
    rw [decide_eq_true rfl]
    refine iteT ?_
    have eb : bx false (decide (V.int (b2i c) = V.int (b2i c))) = true := by rw [decide_eq_true rfl]; rfl
    show Q (.bl (decide (V.int (b2i c) = V.int (b2i c)))) H1
    rw [decide_eq_true rfl]
    exact q _ e1
end MC
namespace MC
open PySem PySem.Spec PyProof.Rows L2

theorem ok_need_words {K : PySem.W.Frag} {mg : Str → Option Value} {base : Heap} {A : Ad} {fd : FuncData} (F : Fun K "need_words" "need_words" s_need_words A.f_need_words fd) (T : Txt K mg A)
    (O_is_word : Ok A.P A.w K mg base 2 A.f_is_word ["thing"] (sp_is_word K A)) :
    FnG A.P A.w K mg base 3 A.f_need_words fd ["one", "other"] (sp_need_words K A) := by
  have sc := sc_need_words
  refine F.okG sc (fun vs H Q E h => by first | (obtain ⟨_, rfl, _⟩ := h; rfl) | (obtain ⟨_, _, rfl, _⟩ := h; rfl) | (obtain ⟨_, _, _, rfl, _⟩ := h; rfl) | (obtain ⟨_, _, _, _, rfl, _⟩ := h; rfl) | (obtain ⟨_, _, _, _, _, rfl, _⟩ := h; rfl)) (fun cdv Ar outer s H vs Q E hr hgd h => ?_)
  have hu := hu_of hr
  have hu64 : (Ar.deeper (envOfC "need_words" (defScope s_need_words) s.heap.objs.size A.f_need_words cdv)).units + 64 < cLine := hr.units
  have hu65 : (Ar.deeper (envOfC "need_words" (defScope s_need_words) s.heap.objs.size A.f_need_words cdv)).units + 65 < cLine := by have := hr.un; omega
  refine ⟨_, (pss_one (ps_for (passes_of rfl) rfl (pi_tup (pe_tup (pa_cons (pvU 0) (pa_cons (pvU 1) pa_nil)))) (pg_name (i := 2) sc.nd rfl (Or.inl rfl)) (pss_one (ps_if (pt_not (pt_val (pe_callO O_is_word hr hgd (by decide) (by rfl) T.g_is_word (fun _ => passN) (pa_cons (pvU 2) pa_nil)))) (pss_one ps_never) pss_nil)))), ?_⟩
  obtain ⟨a, b, rfl, ha, hb, q⟩ := h
  refine ⟨by show 2 ≤ sizeLine; decide, fun p hp => ⟨p, rfl, ⟨_, .inl (.inl upd_same)⟩, for_tup (xs := [.str a, .str b]) (fun i σ H1 => ∃ o, σ = [some (.str a), some (.str b), o] ∧ Ex (upd H p (.tup [.str a, .str b])) H1) ⟨none, rfl, Ex.refl _⟩ (fun i σ H1 _ ⟨o, _, e⟩ => .inl (.inl (e _ _ upd_same))) ?_ ?_⟩⟩
  · rintro i x σ H1 hi ⟨o, rfl, e⟩
    obtain ⟨z, rfl, hz⟩ : ∃ z, x = .str z ∧ GoodW z := by
      match i, hi with
      | 0, hi => cases hi; exact ⟨a, rfl, ha⟩
      | 1, hi => cases hi; exact ⟨b, rfl, hb⟩
      | n + 2, hi => cases hi
    refine ⟨z, rfl, by have := hz.len; omega, fun H2 e2 => ⟨_, rfl, ?_⟩⟩
    rw [hz.isWord]
    exact iteF ⟨_, rfl, e.trans e2⟩
  · rintro σ H1 ⟨o, rfl, e⟩
    exact q _ ((Ex.new hp).trans e)
end MC
namespace MC
open PySem PySem.Spec PyProof.Rows L2

theorem ok_Sames_take_back {K : PySem.W.Frag} {mg : Str → Option Value} {base : Heap} {A : Ad} {fd : FuncData} (F : Fun K "take_back" "Sames.take_back" s_Sames_take_back A.f_Sames_take_back fd) (T : Txt K mg A) :
    FnG A.P A.w K mg base 3 A.f_Sames_take_back fd ["self", "number"] (sp_Sames_take_back K A) := by
  have sc := sc_Sames_take_back
  refine F.okG sc (fun vs H Q E h => by obtain ⟨_, _, _, _, _, rfl, _⟩ := h; rfl) (fun cdv Ar outer s H vs Q E hr hgd h => ?_)
  have hu := hu_of hr
  have hu64 : (Ar.deeper (envOfC "Sames.take_back" (defScope s_Sames_take_back) s.heap.objs.size A.f_Sames_take_back cdv)).units + 64 < cLine := hr.units
  have hu65 : (Ar.deeper (envOfC "Sames.take_back" (defScope s_Sames_take_back) s.heap.objs.size A.f_Sames_take_back cdv)).units + 65 < cLine := by have := hr.un; omega
  refine ⟨_, (pss_cons (ps_setLc (i := 2) (own := [("fact", 3)]) (g := (gName 3)) (by rfl) sc.nd rfl rfl (sw_true rfl rfl rfl (by decide +kernel)) (pi_list (pe_flO T.cl_Sames T.na_Sames_kept_facts (pvU 0))) (blkOk_by (own := [("fact", 3)]) (N := ["self", "number", "left", "fact"]) (sc := defScope s_Sames_take_back) (by decide +kernel)) (fun _ _ _ _ _ => (pg_name (i := 3) sc.nd rfl (Or.inl rfl))) (fun _ _ _ _ _ => (pts_one (pt_cmpR (kOp (r := rNeU) (K := K) (op_neU hu64)) (pe_flO T.cl_Fact T.na_Fact_kept_number (pvU 3)) (pvU 1) (nomark _)))) (fun _ _ _ _ _ => (pvU 3))) (pss_cons (ps_if (PW.pt (pw_or (pt_not (pt_val (pe_callB call_isi (by rfl) T.b_isinstance (by decide +kernel) (pa_cons (pvU 1) (pa_cons (pe_bltn (v := .ty "int") (by rfl) T.b_int (by decide +kernel) rfl) pa_nil))))) (pw_or (pt_val (pe_callB call_isi (by rfl) T.b_isinstance (by decide +kernel) (pa_cons (pvU 1) (pa_cons (pe_bltn (v := .ty "bool") (by rfl) T.b_bool (by decide +kernel) rfl) pa_nil)))) (pw_or1 (pt_cmpR (op_eqU hu64) (pe_callB call_lenU (by rfl) T.b_len (by decide +kernel) (pa_cons (pvU 2) pa_nil)) (pe_callB call_lenU (by rfl) T.b_len (by decide +kernel) (pa_cons (pe_flO T.cl_Sames T.na_Sames_kept_facts (pvU 0)) pa_nil)) (nomark _)))))) (pss_one ps_never) pss_nil) (pss_one (ps_flO T.cl_Sames T.na_Sames_kept_facts (pvU 0) (pvU 2) rfl)))), ?_⟩
  obtain ⟨p, fl, n, F, told, rfl, hH, few, ⟨f0, hf0, ef0⟩, q⟩ := h
  obtain ⟨dxp, hp⟩ := hH.ob
  obtain ⟨xf, hfl, prf⟩ := hH.ls
  refine ⟨p, dxp, _, _, rfl, hp, rfl, fl, rfl, ⟨_, .inl (.inl hfl)⟩, fun D hD => lc_list (fun i H' => ∃ acc, H' = upd H D (.lst acc) ∧ Paired (FactAt A.Fact H) acc ((F.take i).filter fun g => !decide (g.n = n))) ⟨[], rfl, .nil⟩ (fun i H' hi ⟨acc, e, _⟩ => .inl (.inl (by rw [e]; exact upd_new hfl hD))) ?_ ?_⟩
  · rintro j z H2 hz ⟨acc, rfl, pa⟩
    obtain ⟨g, hg, ga, dxg, rfl, hga0⟩ := pair_of prf hz
    have hga : (upd H D (.lst acc)) ga = some (.ins A.Fact dxg (factF g)) := upd_new hga0 hD
    obtain ⟨lk1, _⟩ := fact_look g
    have lacc : acc.length < sizeLine := by
      rw [Paired.length pa, sizeLine_eq]
      have h1 := List.length_filter_le (fun g => !decide (g.n = n)) (F.take j)
      rw [List.length_take] at h1
      omega
    have etk : ((F.take (j + 1)).filter fun g => !decide (g.n = n)) = ((F.take j).filter fun g => !decide (g.n = n)) ++ [g].filter fun g => !decide (g.n = n) := by
      rw [List.take_succ, hg, List.filter_append]; rfl
    refine ⟨rfl, ga, dxg, _, _, rfl, hga, lk1, _, rfl, ?_⟩
    refine iteB (b := !decide (V.int g.n = V.int n)) (fun he => ?_) (fun he => ?_)
    · refine ⟨acc, upd_same, lacc, acc ++ [.ref ga], upd_upd, ?_⟩
      have he' : ¬ g.n = n := fun z => by rw [z, decide_eq_true rfl] at he; cases he
      rw [etk, List.filter_cons_of_pos (by simpa using he')]
      exact Paired.snoc pa ⟨ga, dxg, rfl, hga0⟩
    · refine ⟨acc, rfl, ?_⟩
      have he' : g.n = n := Classical.byContradiction fun z => by
        rw [decide_eq_false (fun e => z (V.int.inj e))] at he; cases he
      rw [etk, List.filter_cons_of_neg (by simpa using he'), List.filter_nil, List.append_nil]
      exact pa
  · rintro H2 ⟨acc, rfl, pa⟩
    rw [show (F.take xf.length) = F from List.take_of_length_le (by rw [Paired.length prf]; exact Nat.le_refl _)] at pa
    have eD : Ex H (upd H D (.lst acc)) := Ex.new hD
    have less : acc.length ≠ xf.length := by
      rw [Paired.length pa, Paired.length prf]
      intro e
      have h1 := List.length_filter_eq_length_iff.mp e f0 hf0
      simp [ef0] at h1
    refine ⟨_, _, .type "int", _, true, rfl, .ty "int", .base (.int _), kit_ty (by decide +kernel), true, rfl, iteF ?_⟩
    refine ⟨_, _, .type "int", _, false, rfl, .ty "bool", .base (.int _), kit_ty (by decide +kernel), false, rfl, iteF ?_⟩
    refine .inl ⟨acc, .inl (.inl (.inl upd_same)), p, dxp, _, _, rfl, eD _ _ hp, rfl, .inl ⟨xf, .inl (.inl (.inl (eD _ _ hfl))), _, rfl, ?_⟩⟩
    refine iteD (fun he => absurd (by have := V.int.inj he; omega) less) (fun he => ?_)
    refine ⟨p, dxp, _, rfl, eD _ _ hp, by show 2 < 1000; decide, ?_⟩
    have npD : D ≠ p := (ne_of_none hp hD).symm
    refine q _ D ((Keep.of eD).ex2 rfl) ⟨⟨dxp, upd_same⟩, acc, by rw [upd_ne npD]; exact upd_same, Paired.imp pa fun v f h => (h.mono eD).upd (eD _ _ hp) not_fact⟩
end MC
namespace MC
open PySem PySem.Spec PyProof.Rows L2

theorem ok_l_pool {K : PySem.W.Frag} {mg : Str → Option Value} {base : Heap} {A : Ad} {fd : FuncData} (F : Fun K "_law_pool" "_law_pool" s_l_pool A.f_l_pool fd) (T : Txt K mg A)
    (O_l_take : Ok A.P A.w K mg base 1 A.f_l_take ["_law_box_here", "_law_many"] (sp_l_take K A))
    (O_l_word_letters : Ok A.P A.w K mg base 2 A.f_l_word_letters ["_law_box_here", "_law_size"] (sp_l_word_letters K A)) :
    FnG A.P A.w K mg base 3 A.f_l_pool fd ["_law_box_here"] (sp_l_pool K A) := by
  have sc := sc_l_pool
  refine F.okG sc (fun vs H Q E h => by first | (obtain ⟨_, rfl, _⟩ := h; rfl) | (obtain ⟨_, _, rfl, _⟩ := h; rfl) | (obtain ⟨_, _, _, rfl, _⟩ := h; rfl) | (obtain ⟨_, _, _, _, rfl, _⟩ := h; rfl) | (obtain ⟨_, _, _, _, _, rfl, _⟩ := h; rfl)) (fun cdv Ar outer s H vs Q E hr hgd h => ?_)
  have hu := hu_of hr
  have hu64 : (Ar.deeper (envOfC "_law_pool" (defScope s_l_pool) s.heap.objs.size A.f_l_pool cdv)).units + 64 < cLine := hr.units
  have hu65 : (Ar.deeper (envOfC "_law_pool" (defScope s_l_pool) s.heap.objs.size A.f_l_pool cdv)).units + 65 < cLine := by have := hr.un; omega
  refine ⟨_, (pss_cons (ps_set (i := 1) sc.nd rfl (Or.inl rfl) pe_str) (pss_cons (ps_set (i := 2) sc.nd rfl (Or.inl rfl) (pe_op op_addU pe_int (pe_callO O_l_take hr hgd (by decide) (by rfl) T.g_l_take (fun _ => passN) (pa_cons (pvU 0) (pa_cons (pe_ix ix_U (pe_lst (pa_cons pe_int (pa_cons pe_int pa_nil))) (pe_callTy call_int1 (by rfl) T.b_int (by decide +kernel) (pa_cons (pe_cmpR (op_eqU hu64) (pe_callO O_l_take hr hgd (by decide) (by rfl) T.g_l_take (fun _ => passN) (pa_cons (pvU 0) (pa_cons pe_int pa_nil))) pe_int (nomark _)) pa_nil)) (fun _ _ => rfl)) pa_nil))))) (pss_cons (ps_set (i := 3) sc.nd rfl (Or.inl rfl) (pe_ifExp (pt_cmpR op_ltU (pvU 2) pe_int (nomark _)) (pe_callO O_l_take hr hgd (by decide) (by rfl) T.g_l_take (fun _ => passN) (pa_cons (pvU 0) (pa_cons pe_int pa_nil))) pe_int)) (pss_cons (ps_set (i := 4) sc.nd rfl (Or.inr rfl) (pe_callO O_l_take hr hgd (by decide) (by rfl) T.g_l_take (fun _ => passN) (pa_cons (pvU 0) (pa_cons pe_int pa_nil)))) (pss_cons (ps_set (i := 5) sc.nd rfl (Or.inl rfl) (pe_callO O_l_take hr hgd (by decide) (by rfl) T.g_l_take (fun _ => passN) (pa_cons (pvU 0) (pa_cons pe_int pa_nil)))) (pss_cons (ps_set (i := 6) sc.nd rfl (Or.inr rfl) (pe_callO O_l_word_letters hr hgd (by decide) (by rfl) T.g_l_word_letters (fun _ => passN) (pa_cons (pvU 0) (pa_cons pe_int pa_nil)))) (pss_cons (ps_if (pt_cmpR (op_eqU hu64) (pvU 3) pe_int (nomark _)) (pss_one (ps_ret (pe_lc (own := [("_law_k", 8)]) (g := (gName 8)) (tt := tYes) (by rfl) sc.nd (pi_range1 (by rfl) T.b_range (pa_cons (pvU 2) pa_nil)) (blkOk_by (own := [("_law_k", 8)]) (N := ["_law_box_here", "_law_small", "_law_size", "_law_way", "_law_first", "_law_at", "_law_stem", "_law_found", "_law_k", "_law_letter"]) (sc := defScope s_l_pool) (by decide +kernel)) (fun _ _ _ _ _ => (pg_name (i := 8) sc.nd rfl (Or.inl rfl))) (fun _ _ _ _ _ => pts_nil) (fun _ _ _ _ _ => (kJoin (K := K) pe_str (pe_slice (kSl (K := K)) (pvU 6) po_none (po_some (pe_op (kOp (r := rAddU) (K := K) op_addU) pe_int (pe_op op_modU (pe_op (kOp (r := rAddU) (K := K) op_addU) (pvU 4) (pe_op op_mulU pe_int (pvU 8))) pe_int))))))))) pss_nil) (pss_cons (ps_set (i := 7) sc.nd rfl (Or.inl rfl) (pe_lst pa_nil)) (pss_cons (ps_for (passes_of rfl) rfl (pi_range1 (by rfl) T.b_range (pa_cons (pvU 2) pa_nil)) (pg_name (i := 8) sc.nd rfl (Or.inl rfl)) (pss_cons (ps_set (i := 9) sc.nd rfl (Or.inl rfl) (pe_op op_addU (pe_ix ix_U (pvU 1) (pe_op op_modU (pe_op op_addU (pvU 4) (pe_op op_mulU pe_int (pvU 8))) pe_int) (fun _ _ => rfl)) (pe_ix ix_U (pe_lst (pa_cons pe_str (pa_cons pe_str (pa_cons pe_str pa_nil)))) (pe_callO O_l_take hr hgd (by decide) (by rfl) T.g_l_take (fun _ => passN) (pa_cons (pvU 0) (pa_cons pe_int pa_nil))) (fun _ _ => rfl)))) (pss_one (ps_expr (pe_bm PySem.F.plainAttrs_list PySem.F.slot_list_append PySem.F.type_list_append mt_append (pvU 7) (pa_cons (pe_join pe_str (pe_op op_addU (pe_op op_addU (pe_slice sl_U (pvU 6) po_none (po_some (pvU 5))) (pe_lst (pa_cons (pvU 9) pa_nil))) (pe_slice sl_U (pvU 6) (po_some (pvU 5)) (po_some (pe_op op_addU (pvU 5) (pe_op op_modU (pe_op op_addU (pvU 4) (pvU 8)) (pe_op op_subU pe_int (pvU 5)))))))) pa_nil)))))) (pss_one (ps_ret (pvU 7)))))))))))), ?_⟩
  obtain ⟨b, n, rfl, hB, hn, q⟩ := h
  obtain ⟨ob, hob⟩ := hB.some
  -- size
  refine ⟨by show 2 ≤ sizeLine; decide, fun p0 hp0 => ?_⟩
  have nb0 : b ≠ p0 := ne_of_none hob hp0
  have hB0 : BoxAt (upd H p0 (.lst [.int 6, .int 11])) b n := hB.keep (S := fun _ => False) (Keep.of (Ex.new hp0)) (fun z => z)
  refine ⟨b, 6, n, rfl, hB0, by decide, by decide, by omega, fun d0 H1 g0 g0' hB1 kp1 => ?_⟩
  have h01 : H1 p0 = some (.lst [.int 6, .int 11]) := kp1 _ _ upd_same nb0.symm
  refine .inr ⟨_, rfl, [.int 6, .int 11], .int (if decide (V.int d0 = V.int 0) = true then 11 else 6), .inl (.inl (.inl h01)), ?_, ?_⟩
  · by_cases h : V.int d0 = V.int 0
    · rw [decide_eq_true h]; rfl
    · rw [decide_eq_false h]; rfl
  generalize hm0 : (if decide (V.int d0 = V.int 0) = true then (11 : Int) else 6) = m0
  have m0r : m0 = 6 ∨ m0 = 11 := by split at hm0 <;> omega
  refine ⟨b, m0, n + 1, rfl, hB1, by omega, by omega, by omega, fun d1 H2 g1 g1' hB2 kp2 => ?_⟩
  have kp02 : Keep (One b) H H2 := (Keep.of (Ex.new hp0)).trans (kp1.trans kp2)
  dsimp only [add_ii, gN_ap]
  obtain ⟨sz, esz, sz2, sz12⟩ : ∃ sz : Nat, 2 + d1 = (sz : Int) ∧ 2 ≤ sz ∧ sz ≤ 12 := ⟨(2 + d1).toNat, by omega, by omega, by omega⟩
  -- way
  rw [esz]
  refine sA (fun v H' => ∃ k : Int, v = .int k ∧ (k = 0 → sz < 8) ∧ Keep (One b) H H' ∧ BoxAt H' b (n + 3)) (fun Q' hQ' => ⟨_, rfl, iteD (fun hlt => ?_) (fun hlt => ?_)⟩) (fun v H3 hv => ?_)
  · exact ⟨b, 2, n + 2, rfl, hB2, by decide, by decide, by omega, fun d H3 g g' hB3 kp3 => hQ' _ _ ⟨d, rfl, fun _ => by omega, kp02.trans kp3, hB3⟩⟩
  · exact hQ' _ _ ⟨1, rfl, fun z => by omega, kp02, hB2.le (by omega)⟩
  obtain ⟨way, rfl, hway, kp3, hB3⟩ := hv
  -- first, at, stem
  refine ⟨b, 26, n + 3, rfl, hB3, by decide, by decide, by omega, fun fi H4 g4 g4' hB4 kp4 => ?_⟩
  refine ⟨b, 8, n + 4, rfl, hB4, by decide, by decide, by omega, fun at_ H5 g5 g5' hB5 kp5 => ?_⟩
  refine ⟨b, 7, n + 5, rfl, by decide, hB5, by omega, fun ps H6 ls hps kp6 hB6 h6 hl6 ok6 => ?_⟩
  have kp06 : Keep (One b) H H6 := kp3.trans (kp4.trans (kp5.trans kp6))
  have nbs : ps ≠ b := by
    obtain ⟨o5, ho5⟩ := hB5.some
    exact (ne_of_none ho5 hps).symm
  refine ⟨_, rfl, iteD (fun hw => ?_) (fun hw => ?_)⟩
  · refine ⟨(sz : Int), rfl, by omega, by omega, fun D hD => lc_range (lo := 0) (n := (sz : Int).toNat) (fun i H1 => ∃ ws : List Str, Keep (One b) H H1 ∧ BoxAt H1 b (n + 30) ∧ H1 ps = some (.lst (ls.map fun l => .str (mkS (ltS l)))) ∧ H1 D = some (.lst (ws.map V.str)) ∧ ws.length = i ∧ ∀ z ∈ ws, GoodW z) ⟨[], ?_, ?_, ?_, upd_same, rfl, fun z hz => by cases hz⟩ ?_ ?_⟩
    · exact kp06.trans (Keep.of (Ex.new hD))
    · exact (hB6.keep (S := fun _ => False) (Keep.of (Ex.new hD)) (fun z => z)).le (by omega)
    · rw [upd_ne (ne_of_none h6 hD)]; exact h6
    · rintro i H1 hi ⟨ws, kp, hB1, hs1, hD1, hl, ok⟩
      refine ⟨rfl, yesT ?_⟩
      refine ⟨⟨_, rfl⟩, CMul.small (by decide) (by decide), by show (7 : Int) ≠ 0; decide, ?_⟩
      obtain ⟨k, hk, k1, k7⟩ : ∃ k : Nat, 1 + (fi + 5 * (0 + (i : Int))).fmod 7 = (k : Int) ∧ 1 ≤ k ∧ k ≤ 7 := by
        have := fmod_range (i := fi + 5 * (0 + (i : Int))) (j := 7) (by decide)
        exact ⟨(1 + (fi + 5 * (0 + (i : Int))).fmod 7).toNat, by omega, by omega, by omega⟩
      dsimp only [add_ii]
      rw [hk]
      refine ⟨_, rfl, .inr (.inl ⟨ps, _, rfl, .inl (.inl hs1), fun p hp => ?_⟩)⟩
      rw [cutV_head (fun l => V.str (mkS (ltS l))) ls k]
      refine ⟨_, p, (ls.take k).map fun l => mkS (ltS l), rfl, rfl, .inl (.inl (.inl (by rw [upd_same, List.map_map]; rfl))), join_size _ (by rw [List.length_take]; omega), ?_⟩
      refine ⟨ws.map V.str, upd_new hD1 hp, by rw [List.length_map, sizeLine_eq]; omega, ws ++ [Txt.join "" ((ls.take k).map fun l => mkS (ltS l))], ?_, ?_, ?_, by rw [upd_same, List.map_append]; rfl, by rw [List.length_append, hl]; rfl, ?_⟩
      · exact (kp.trans (Keep.of (Ex.new hp))).grow (kp06.fresh hB6 hD)
      · exact (hB1.new hp).grow (ne_of_none hob (kp06.fresh hB6 hD))
      · rw [upd_ne (ne_of_none h6 hD)]; exact upd_new hs1 hp
      · intro z hz
        rcases List.mem_append.mp hz with hz | hz
        · exact ok z hz
        · rw [List.mem_singleton.mp hz]
          exact good_join (fun l hl' => ok6 l (List.mem_of_mem_take hl')) (by rw [List.length_take]; omega) (by rw [List.length_take]; omega)
    · rintro H1 ⟨ws, kp, hB1, hs1, hD1, hl, ok⟩
      have em : (sz : Int).toNat = sz := by omega
      rw [em] at hl
      exact q D H1 ws (kp06.fresh hB6 hD) kp (hB1.le (by omega)) hD1 ok (by omega) (by omega)
  · refine ⟨by decide, fun D hD => ?_⟩
    have hDn : H D = none := kp06.fresh hB6 hD
    have nbD : b ≠ D := ne_of_none hob hDn
    have npD : ps ≠ D := ne_of_none h6 hD
    refine ⟨(sz : Int), rfl, by omega, by omega, for_range (lo := 0) (n := (sz : Int).toNat) (fun i σ H1 => ∃ (o1 o2 : Option V) (ws : List Str), σ = [some (.ref b), some (.str "abcdefghijklmnopqrstuvwxyz"), some (.int sz), some (.int way), some (.int fi), some (.int at_), some (.ref ps), some (.ref D), o1, o2] ∧ Keep (One b) H H1 ∧ BoxAt H1 b (n + 30 + i) ∧ H1 ps = some (.lst (ls.map fun l => .str (mkS (ltS l)))) ∧ H1 D = some (.lst (ws.map V.str)) ∧ ws.length = i ∧ ∀ z ∈ ws, GoodW z) ⟨none, none, [], rfl, ?_, ?_, ?_, upd_same, rfl, fun z hz => by cases hz⟩ ?_ ?_⟩
    · exact kp06.grow hDn
    · exact (hB6.new hD).le (by omega)
    · exact upd_new h6 hD
    · rintro i σ H1 hi ⟨o1, o2, ws, rfl, kp, hB1, hs1, hD1, hl, ok⟩
      obtain ⟨c, ec, hc⟩ := small_at ((fi + 7 * (0 + (i : Int))).fmod 26) (fmod_range (by decide)).1 (fmod_range (by decide)).2
      refine ⟨CMul.small (by decide) (by decide), by show (26 : Int) ≠ 0; decide, c, by decide +kernel, ec, ?_⟩
      refine ⟨by show 3 ≤ sizeLine; decide, fun p2 hp2 => ?_⟩
      refine ⟨b, 3, n + 30 + i, rfl, hB1.new hp2, by decide, by decide, by omega, fun d3 H2 g3 g3' hB2 kp2 => ?_⟩
      have kp12 : Keep (One b) H1 H2 := (Keep.of (Ex.new hp2)).trans kp2
      obtain ⟨mk, em, hmk⟩ : ∃ mk : Option Nat, atI [V.str "", .str "'", .str ":"] d3 = some (.str (mkS mk.toList)) ∧ ∀ m, mk = some m → isMk m = true := by
        obtain ⟨k, rfl⟩ : ∃ k : Nat, d3 = k := ⟨d3.toNat, by omega⟩
        have hk : k < 3 := by omega
        match k, hk with
        | 0, _ => exact ⟨none, by decide +kernel, fun m h => by cases h⟩
        | 1, _ => exact ⟨some 39, by decide +kernel, fun m h => by cases h; rfl⟩
        | 2, _ => exact ⟨some 58, by decide +kernel, fun m h => by cases h; rfl⟩
      have h2 : H2 p2 = some (.lst [.str "", .str "'", .str ":"]) := kp2 _ _ upd_same (fun e => by subst e; obtain ⟨o1, ho1⟩ := hB1.some; rw [hp2] at ho1; cases ho1)
      refine ⟨_, _, .inl (.inl (.inl h2)), em, ?_⟩
      have hmkl : (mkS mk.toList).length ≤ 1 := by rw [len_cs, cs_mk]; cases mk <;> simp
      refine ⟨by show 1 + (mkS mk.toList).length ≤ sizeLine; rw [sizeLine_eq]; omega, ?_⟩
      have es : (⟨#[c]⟩ : Str) ++ mkS mk.toList = mkS (ltS (c, mk)) := str_ext (by rw [cs_app]; rfl)
      rw [es]
      have hD2 : H2 D = some (.lst (ws.map V.str)) := kp12 _ _ hD1 nbD.symm
      have hs2 : H2 ps = some (.lst (ls.map fun l => .str (mkS (ltS l)))) := kp12 _ _ hs1 nbs
      obtain ⟨a, ea, a7⟩ : ∃ a : Nat, at_ = (a : Int) ∧ a ≤ 7 := ⟨at_.toNat, by omega, by omega⟩
      subst ea
      obtain ⟨m, hm, m7⟩ : ∃ m : Nat, (fi + (0 + (i : Int))).fmod (8 - (a : Int)) = (m : Int) ∧ a + m ≤ 7 := by
        have := fmod_range (i := fi + (0 + (i : Int))) (j := 8 - (a : Int)) (by omega)
        exact ⟨((fi + (0 + (i : Int))).fmod (8 - (a : Int))).toNat, by omega, by omega⟩
      have ok' : ∀ l ∈ ls.take a ++ [(c, mk)] ++ (ls.drop a).take (a + m - a), LtOk l := by
        intro l hl'
        rcases List.mem_append.mp hl' with hl' | hl'
        · rcases List.mem_append.mp hl' with hl' | hl'
          · exact ok6 l (List.mem_of_mem_take hl')
          · rw [List.mem_singleton.mp hl']; exact ⟨.inl hc, hmk⟩
        · exact ok6 l (List.mem_of_mem_drop (List.mem_of_mem_take hl'))
      have len' : 1 ≤ (ls.take a ++ [(c, mk)] ++ (ls.drop a).take (a + m - a)).length ∧ (ls.take a ++ [(c, mk)] ++ (ls.drop a).take (a + m - a)).length ≤ 8 := by
        simp only [List.length_append, List.length_take, List.length_drop, List.length_singleton]
        omega
      refine ⟨.inl ⟨rfl, _, .inl (.inl hD2)⟩, ⟨_, rfl⟩, _, rfl, .inr (.inl ⟨ps, _, rfl, .inl (.inl hs2), fun p3 hp3 => ?_⟩)⟩
      rw [cutV_head (fun l => V.str (mkS (ltS l))) ls a]
      refine ⟨by show 1 ≤ sizeLine; decide, fun p4 hp4 => ?_⟩
      refine .inl ⟨p3, p4, _, _, rfl, rfl, upd_new upd_same hp4, upd_same, ?_, fun p5 hp5 => ?_⟩
      · rw [List.length_map, List.length_take, sizeLine_eq]; show _ + 1 ≤ _; omega
      refine ⟨_, rfl, by show (8 - (a : Int)) ≠ 0; omega, ?_⟩
      dsimp only [add_ii]
      rw [hm, show (a : Int) + (m : Int) = ((a + m : Nat) : Int) from by omega]
      have hs5 := fun u => upd_new (u := u) (upd_new (upd_new hs2 hp3) hp4) hp5
      refine ⟨_, rfl, .inr (.inl ⟨ps, _, rfl,   .inl (.inl (hs5 _)), fun p6 hp6 => ?_⟩)⟩
      rw [cutV_mid (fun l => V.str (mkS (ltS l))) ls a (a + m)]
      refine .inl ⟨p5, p6, _, _, rfl, rfl, upd_new upd_same hp6, upd_same, ?_, fun p7 hp7 => ?_⟩
      · simp only [List.length_append, List.length_map, List.length_take, List.length_drop, List.length_singleton, sizeLine_eq]; omega
      refine ⟨_, p7, (ls.take a ++ [(c, mk)] ++ (ls.drop a).take (a + m - a)).map fun l => mkS (ltS l), rfl, rfl, .inl (.inl (.inl ?_)), join_size _ (by omega), ?_⟩
      · rw [upd_same]
        simp only [List.map_append, List.map_map]
        rfl
      have hD7 := fun u => upd_new (u := u) (upd_new (upd_new (upd_new (upd_new hD2 hp3) hp4) hp5) hp6) hp7
      refine ⟨D, _, _, rfl, rfl, hD7 _, by rw [List.length_map, sizeLine_eq]; omega, _, _, ws ++ [Txt.join "" ((ls.take a ++ [(c, mk)] ++ (ls.drop a).take (a + m - a)).map fun l => mkS (ltS l))], rfl, ?_, ?_, ?_, by rw [upd_same, List.map_append (l₁ := ws)]; rfl, by rw [List.length_append, hl]; rfl, ?_⟩
      · exact (kp.trans (kp12.trans (Keep.of (((((Ex.new hp3).trans (Ex.new hp4)).trans (Ex.new hp5)).trans (Ex.new hp6)).trans (Ex.new hp7))))).grow hDn
      · exact ((((((hB2.new hp3).new hp4).new hp5).new hp6).new hp7).grow nbD).le (by omega)
      · rw [upd_ne npD]
        exact upd_new (upd_new (hs5 _) hp6) hp7
      · intro z hz
        rcases List.mem_append.mp hz with hz | hz
        · exact ok z hz
        · rw [List.mem_singleton.mp hz]
          exact good_join ok' len'.1 len'.2
    · rintro σ H1 ⟨o1, o2, ws, rfl, kp, hB1, hs1, hD1, hl, ok⟩
      have em : (sz : Int).toNat = sz := by omega
      rw [em] at hl hB1
      exact q D H1 ws hDn kp (hB1.le (by omega)) hD1 ok (by omega) (by omega)
end MC
namespace MC
open PySem PySem.Spec PyProof.Rows L2

theorem ok_l_are {K : PySem.W.Frag} {mg : Str → Option Value} {base : Heap} {A : Ad} {fd : FuncData} (F : Fun K "_law_are" "_law_are" s_l_are A.f_l_are fd) (T : Txt K mg A)
    (O_l_levels : Ok A.P A.w K mg base 2 A.f_l_levels ["_law_facts", "_law_one"] (sp_l_levels K A)) :
    FnG A.P A.w K mg base 3 A.f_l_are fd ["_law_facts", "_law_one", "_law_other"] (sp_l_are K A) := by
  have sc := sc_l_are
  refine F.okG sc (fun vs H Q E h => by obtain ⟨_, _, _, _, rfl, _⟩ := h; rfl) (fun cdv Ar outer s H vs Q E hr hgd h => ?_)
  have hu := hu_of hr
  have hu64 : (Ar.deeper (envOfC "_law_are" (defScope s_l_are) s.heap.objs.size A.f_l_are cdv)).units + 64 < cLine := hr.units
  have hu65 : (Ar.deeper (envOfC "_law_are" (defScope s_l_are) s.heap.objs.size A.f_l_are cdv)).units + 65 < cLine := by have := hr.un; omega
  refine ⟨_, (pss_cons (ps_set (i := 3) sc.nd rfl (Or.inl rfl) (pe_callO O_l_levels hr hgd (by decide) (by rfl) T.g_l_levels (fun _ => passN) (pa_cons (pvU 0) (pa_cons (pvU 1) pa_nil)))) (pss_cons (ps_if (pt_cmpR (op_inB hu65) (pe_tup (pa_cons (pvU 2) (pa_cons pe_int pa_nil))) (pvU 3) (by rfl)) (pss_one (ps_ret pe_bl)) pss_nil) (pss_one (ps_ret (pe_ifExp (pt_cmpR (op_inB hu65) (pe_tup (pa_cons (pvU 2) (pa_cons pe_int pa_nil))) (pvU 3) (by rfl)) pe_bl pe_non))))), ?_⟩
  obtain ⟨fv, x, y, F, rfl, hF, few, q⟩ := h
  refine ⟨fv, x, F, rfl, hF, few, fun d H1 xs M hd e1 b en dist => ?_⟩
  refine ⟨by show 2 ≤ sizeLine; decide, fun a ha => ⟨d, a, keyOf (y, false), xs, rfl, rfl, b.ex (Ex.new ha), TupI.key (t := (y, false)) upd_same, _, rfl, ?_⟩⟩
  rw [valT_has en dist.nodup]
  have h0 : decide ((y, false) ∈ M.map Prod.fst) = true ↔ Near F (x, false) (y, false) := by rw [decide_eq_true_iff]; exact dist.near _
  have h1 : decide ((y, true) ∈ M.map Prod.fst) = true ↔ Near F (x, false) (y, true) := by rw [decide_eq_true_iff]; exact dist.near _
  have big := areV_cases (G := fun v => ∀ H', Ex H H' → Q v H') h0 h1 q
  refine iteB (fun hb => ?_) (fun hb => ?_)
  · have hb' : decide ((y, false) ∈ M.map Prod.fst) = true := hb
    rw [if_pos hb'] at big
    exact big _ (e1.trans (Ex.new ha))
  · have hb' : decide ((y, false) ∈ M.map Prod.fst) = false := hb
    rw [if_neg (by rw [hb']; exact Bool.false_ne_true)] at big
    refine ⟨by show 2 ≤ sizeLine; decide, fun a3 ha3 => ⟨d, a3, keyOf (y, true), xs, rfl, rfl, (b.ex (Ex.new ha)).ex (Ex.new ha3), TupI.key (t := (y, true)) upd_same, _, rfl, ?_⟩⟩
    rw [valT_has en dist.nodup]
    refine iteB (fun hc => ?_) (fun hc => ?_)
    · have hc' : decide ((y, true) ∈ M.map Prod.fst) = true := hc
      rw [if_pos hc'] at big
      exact big _ ((e1.trans (Ex.new ha)).trans (Ex.new ha3))
    · have hc' : decide ((y, true) ∈ M.map Prod.fst) = false := hc
      rw [if_neg (by rw [hc']; exact Bool.false_ne_true)] at big
      exact big _ ((e1.trans (Ex.new ha)).trans (Ex.new ha3))
end MC
namespace MC
open PySem PySem.Spec PyProof.Rows L2

theorem ok_l_fewest_right {K : PySem.W.Frag} {mg : Str → Option Value} {base : Heap} {A : Ad} {fd : FuncData} (F : Fun K "_law_fewest_right" "_law_fewest_right" s_l_fewest_right A.f_l_fewest_right fd) (T : Txt K mg A)
    (O_l_levels : Ok A.P A.w K mg base 2 A.f_l_levels ["_law_facts", "_law_one"] (sp_l_levels K A))
    (O_l_walk_right : Ok A.P A.w K mg base 2 A.f_l_walk_right ["_law_facts", "_law_one", "_law_other", "_law_numbers", "_law_apart"] (sp_l_walk_right K A)) :
    FnG A.P A.w K mg base 3 A.f_l_fewest_right fd ["_law_facts", "_law_one", "_law_other", "_law_numbers", "_law_apart"] (sp_l_fewest_right K A) := by
  have sc := sc_l_fewest_right
  refine F.okG sc (fun vs H Q E h => by obtain ⟨_, _, _, _, _, _, _, rfl, _⟩ := h; rfl) (fun cdv Ar outer s H vs Q E hr hgd h => ?_)
  have hu := hu_of hr
  have hu64 : (Ar.deeper (envOfC "_law_fewest_right" (defScope s_l_fewest_right) s.heap.objs.size A.f_l_fewest_right cdv)).units + 64 < cLine := hr.units
  have hu65 : (Ar.deeper (envOfC "_law_fewest_right" (defScope s_l_fewest_right) s.heap.objs.size A.f_l_fewest_right cdv)).units + 65 < cLine := by have := hr.un; omega
  refine ⟨_, (pss_cons (ps_if (pt_not (pt_val (pe_callO O_l_walk_right hr hgd (by decide) (by rfl) T.g_l_walk_right (fun _ => passN) (pa_cons (pvU 0) (pa_cons (pvU 1) (pa_cons (pvU 2) (pa_cons (pvU 3) (pa_cons (pvU 4) pa_nil)))))))) (pss_one (ps_ret pe_bl)) pss_nil) (pss_one (ps_ret (pe_cmpR (op_eqU hu64) (pe_callB call_lenU (by rfl) T.b_len (by decide +kernel) (pa_cons (pvU 3) pa_nil)) (pe_dBget2 hu (pe_callO O_l_levels hr hgd (by decide) (by rfl) T.g_l_levels (fun _ => passN) (pa_cons (pvU 0) (pa_cons (pvU 1) pa_nil))) (pe_tup (pa_cons (pvU 2) (pa_cons (pvU 4) pa_nil))) pe_negc ⟨rfl, rfl, rfl, rfl⟩) (nomark _))))), ?_⟩
  obtain ⟨np, fv, x, y, c, ns, F, rfl, hF, few, uq, hnp, pth, mn, q⟩ := h
  refine ⟨np, fv, x, y, c, ns, F, rfl, hF, few, uq, hnp, pth, fun H1 e1 => ⟨_, rfl, iteF ?_⟩⟩
  refine .inl ⟨_, .inl (.inl (.inl (e1 _ _ hnp))), ?_⟩
  refine ⟨fv, x, F, rfl, hF.mono e1, few, fun d H2 xs M hd e2 b en dist => ⟨⟨d, xs, rfl, b⟩, by show 2 ≤ sizeLine; decide, fun a ha => ?_⟩⟩
  refine ⟨d, a, keyOf (y, c), xs, rfl, rfl, b.ex (Ex.new ha), TupI.key (t := (y, c)) upd_same, ?_⟩
  obtain ⟨k, hk, lk⟩ := dist.all ns (y, c) pth
  obtain ⟨ms, pm, em⟩ := dist.path _ hk
  have ek : ns.length = k := by
    have h1 := mn ms pm
    have h2 : ms.length = k := em
    omega
  obtain ⟨v, hv, iv⟩ := valT_some en dist.nodup hk
  rw [hv, show v = .int k from iv, List.length_map, ek]
  show Q (.bl (decide (V.int k = V.int k))) _
  rw [decide_eq_true rfl]
  exact q _ ((e1.trans e2).trans (Ex.new ha))
end MC
namespace MC
open PySem PySem.Spec PyProof.Rows L2

theorem ok_Sames_taken_up {K : PySem.W.Frag} {mg : Str → Option Value} {base : Heap} {A : Ad} {fd : FuncData} (F : Fun K "taken_up" "Sames.taken_up" s_Sames_taken_up A.f_Sames_taken_up fd) (T : Txt K mg A)
    (O_Clash_init : Ok A.P A.w K mg base 1 A.f_Clash_init ["self", "numbers"] (spExc A.Clash "numbers"))
    (O_Fact_init : Ok A.P A.w K mg base 1 A.f_Fact_init ["self", "number", "kind", "one", "other"] (sp_Fact_init K A))
    (O_Sames_led : Ok A.P A.w K mg base 2 A.f_Sames_led ["self", "word"] (sp_Sames_led K A))
    (O_need_words : Ok A.P A.w K mg base 3 A.f_need_words ["one", "other"] (sp_need_words K A)) :
    FnG A.P A.w K mg base 4 A.f_Sames_taken_up fd ["self", "kind", "one", "other"] (sp_Sames_taken_up K A) := by
  have sc := sc_Sames_taken_up
  refine F.okG sc (fun vs H Q E h => by obtain ⟨_, _, _, _, _, _, _, rfl, _⟩ := h; rfl) (fun cdv Ar outer s H vs Q E hr hgd h => ?_)
  have hu := hu_of hr
  have hu64 : (Ar.deeper (envOfC "Sames.taken_up" (defScope s_Sames_taken_up) s.heap.objs.size A.f_Sames_taken_up cdv)).units + 64 < cLine := hr.units
  have hu65 : (Ar.deeper (envOfC "Sames.taken_up" (defScope s_Sames_taken_up) s.heap.objs.size A.f_Sames_taken_up cdv)).units + 65 < cLine := by have := hr.un; omega
  refine ⟨_, (pss_cons (ps_expr (pe_callO O_need_words hr hgd (by decide) (by rfl) T.g_need_words (fun _ => passN) (pa_cons (pvU 2) (pa_cons (pvU 3) pa_nil)))) (pss_cons (ps_set (i := 4) sc.nd rfl (Or.inl rfl) (pe_dBget1 hu (pe_methO (pvU 0) T.cl_Sames T.m_Sames_led O_Sames_led hr hgd (by decide) (fun _ => passN) (pa_cons (pvU 2) pa_nil)) (pe_tup (pa_cons (pvU 3) (pa_cons (pe_cmpR (op_eqU hu64) (pvU 1) pe_str (nomark _)) pa_nil))) ⟨rfl, rfl, rfl, rfl⟩)) (pss_cons (ps_if (pt_cmpR op_notN (pvU 4) pe_non (nomark _)) (pss_one (ps_raise rfl (takes_of rfl rfl rfl rfl) (pmk_O T.ox_Clash O_Clash_init hr hgd (by decide) (by rfl) T.g_Clash (pvU 4)))) pss_nil) (pss_cons (ps_expr (pe_bm PySem.F.plainAttrs_list PySem.F.slot_list_append PySem.F.type_list_append mt_append (pe_flO T.cl_Sames T.na_Sames_kept_facts (pvU 0)) (pa_cons (pe_makeO T.mk_Fact O_Fact_init hr hgd (by decide) (by rfl) T.g_Fact (fun _ => passN) (pa_cons (pe_flO T.cl_Sames T.na_Sames_kept_told (pvU 0)) (pa_cons (pvU 1) (pa_cons (pvU 2) (pa_cons (pvU 3) pa_nil))))) pa_nil))) (pss_cons (ps_flaugO T.cl_Sames T.na_Sames_kept_told (pvU 0) pe_int) (pss_one (ps_ret (pe_op op_subU (pe_flO T.cl_Sames T.na_Sames_kept_told (pvU 0)) pe_int)))))))), ?_⟩
  obtain ⟨p, fl, x, y, ap, F, told, rfl, hH, few, gx, gy, q1, q2⟩ := h
  refine ⟨x, y, rfl, gx, gy, fun H1 e1 => ?_⟩
  obtain ⟨dxp, hp1⟩ := (hH.ex e1).ob
  refine ⟨⟨p, dxp, _, rfl, hp1, rfl⟩, p, fl, x, F, told, rfl, hH.ex e1, by omega, fun d H2 xs M hd e2 b en dist pths => ⟨⟨d, xs, rfl, b⟩, ?_⟩⟩
  have esame : decide (V.str (kindS ap) = V.str "same") = !ap := by cases ap <;> decide
  refine ⟨by show 2 ≤ sizeLine; decide, fun a ha => ⟨d, a, keyOf (y, !ap), xs, rfl, rfl, b.ex (Ex.new ha), ⟨_, upd_same, by rw [esame]; rfl⟩, ?_⟩⟩
  have e12 := (e1.trans e2).trans (Ex.new (o := .tup [.str y, .bl (decide (V.str (kindS ap) = V.str "same"))]) ha)
  have hno : (M.map Prod.fst).Nodup := by have := dist.nodup; rw [lens_fst] at this; exact this
  by_cases hin : (y, !ap) ∈ M.map Prod.fst
  · obtain ⟨⟨t, ns⟩, hm, et⟩ := List.mem_map.mp hin
    have et : t = (y, !ap) := et
    subst et
    obtain ⟨v, hv, l, rfl, hl⟩ := valT_some en hno hm
    rw [hv]
    refine ⟨rfl, _, rfl, iteT fun dn hdn => ?_⟩
    have hpt := pths _ hm
    refine q2 _ dn l ns (e12.trans (Ex.new hdn)) upd_same (upd_new (upd_new hl ha) hdn) hpt fun ms pm => ?_
    obtain ⟨k, hk, lk⟩ := dist.all ms _ pm
    have hk' : ((y, !ap), ns.length) ∈ lens M := List.mem_map.mpr ⟨_, hm, rfl⟩
    have := fst_inj dist.nodup hk hk'
    omega
  · rw [valT_none en hin]
    refine ⟨rfl, _, rfl, iteF ?_⟩
    have nn : ¬ Near F (x, false) (y, !ap) := fun z => hin (by rw [← lens_fst]; exact (dist.near _).mpr z)
    have hH2 := hH.ex e12
    obtain ⟨dx2, hp2⟩ := hH2.ob
    obtain ⟨xf, hfl2, prf2⟩ := hH2.ls
    refine ⟨p, dx2, _, _, rfl, hp2, rfl, .inl ⟨rfl, _, .inl (.inl hfl2)⟩, p, dx2, _, _, rfl, hp2, rfl, fun z dz hz hdz nz => ⟨z, dz, ⟨told, ap, x, y⟩, rfl, upd_same, rfl, ?_⟩⟩
    rw [upd_upd]
    have e3 : Ex _ (upd (upd (upd H2 a (.tup [.str y, .bl (decide (V.str (kindS ap) = V.str "same"))])) dz (.own z)) z (.ins A.Fact dz (factF ⟨told, ap, x, y⟩))) := (Ex.new hdz).trans (Ex.new (by rw [upd_ne nz.symm]; exact hz))
    have hfl3 := e3 _ _ hfl2
    have hp3 := e3 _ _ hp2
    have lxf : xf.length = F.length := Paired.length prf2
    refine ⟨fl, xf, _, rfl, rfl, hfl3, by rw [lxf, sizeLine_eq]; omega, ?_⟩
    have npf : p ≠ fl := fun e => by rw [e, hfl3] at hp3; cases hp3
    have hp4 := hp3
    refine ⟨p, dx2, _, told, rfl, by rw [upd_ne npf]; exact hp3, rfl, 1, dx2, _, rfl, by rw [upd_ne npf]; exact hp3, by show 2 < 1000; decide, ?_⟩
    refine ⟨p, dx2, _, _, rfl, upd_same, rfl, ?_⟩
    have kk := ((Keep.of (S := Two p fl) (e12.trans e3)).ex2 (a := fl) (o := .lst (xf ++ [.ref z])) (.inr rfl)).ex2 (a := p) (o := .ins A.Sames dx2 (putF "kept_told" (.int (told + 1)) [("kept_facts", .ref fl), ("kept_told", .int told)])) (.inl rfl)
    show Q (.int (told + 1 - 1)) _
    rw [show told + 1 - 1 = told from by omega]
    refine q1 nn _ kk ⟨⟨dx2, upd_same⟩, xf ++ [.ref z], by rw [upd_ne npf.symm]; exact upd_same, ?_⟩
    have hp5 : (upd (upd (upd (upd H2 a (.tup [.str y, .bl (decide (V.str (kindS ap) = V.str "same"))])) dz (.own z)) z (.ins A.Fact dz (factF ⟨told, ap, x, y⟩))) fl (.lst (xf ++ [.ref z]))) p = some (.ins A.Sames dx2 [("kept_facts", .ref fl), ("kept_told", .int told)]) := by
      rw [upd_ne npf]; exact hp3
    have step : ∀ {v : V} {f : Fc}, FactAt A.Fact (upd (upd (upd H2 a (.tup [.str y, .bl (decide (V.str (kindS ap) = V.str "same"))])) dz (.own z)) z (.ins A.Fact dz (factF ⟨told, ap, x, y⟩))) v f → FactAt A.Fact (upd (upd (upd (upd (upd H2 a (.tup [.str y, .bl (decide (V.str (kindS ap) = V.str "same"))])) dz (.own z)) z (.ins A.Fact dz (factF ⟨told, ap, x, y⟩))) fl (.lst (xf ++ [.ref z]))) p (.ins A.Sames dx2 (putF "kept_told" (.int (told + 1)) [("kept_facts", .ref fl), ("kept_told", .int told)]))) v f :=
      fun h => (h.upd hfl3 lst_fact).upd hp5 not_fact
    exact Paired.snoc (Paired.imp prf2 fun v f h => step (h.mono e3)) (step ⟨z, dz, rfl, upd_same⟩)
end MC
namespace MC
open PySem PySem.Spec PyProof.Rows L2

theorem ok_Sames_are {K : PySem.W.Frag} {mg : Str → Option Value} {base : Heap} {A : Ad} {fd : FuncData} (F : Fun K "are" "Sames.are" s_Sames_are A.f_Sames_are fd) (T : Txt K mg A)
    (O_Sames_led : Ok A.P A.w K mg base 2 A.f_Sames_led ["self", "word"] (sp_Sames_led K A))
    (O_need_words : Ok A.P A.w K mg base 3 A.f_need_words ["one", "other"] (sp_need_words K A)) :
    FnG A.P A.w K mg base 4 A.f_Sames_are fd ["self", "one", "other"] (sp_Sames_are K A) := by
  have sc := sc_Sames_are
  refine F.okG sc (fun vs H Q E h => by obtain ⟨_, _, _, _, _, _, rfl, _⟩ := h; rfl) (fun cdv Ar outer s H vs Q E hr hgd h => ?_)
  have hu := hu_of hr
  have hu64 : (Ar.deeper (envOfC "Sames.are" (defScope s_Sames_are) s.heap.objs.size A.f_Sames_are cdv)).units + 64 < cLine := hr.units
  have hu65 : (Ar.deeper (envOfC "Sames.are" (defScope s_Sames_are) s.heap.objs.size A.f_Sames_are cdv)).units + 65 < cLine := by have := hr.un; omega
  refine ⟨_, (pss_cons (ps_expr (pe_callO O_need_words hr hgd (by decide) (by rfl) T.g_need_words (fun _ => passN) (pa_cons (pvU 1) (pa_cons (pvU 2) pa_nil)))) (pss_cons (ps_set (i := 3) sc.nd rfl (Or.inl rfl) (pe_methO (pvU 0) T.cl_Sames T.m_Sames_led O_Sames_led hr hgd (by decide) (fun _ => passN) (pa_cons (pvU 1) pa_nil))) (pss_cons (ps_if (pt_cmpR (op_inB hu65) (pe_tup (pa_cons (pvU 2) (pa_cons pe_bl pa_nil))) (pvU 3) (by rfl)) (pss_one (ps_ret pe_bl)) pss_nil) (pss_one (ps_ret (pe_ifExp (pt_cmpR (op_inB hu65) (pe_tup (pa_cons (pvU 2) (pa_cons pe_bl pa_nil))) (pvU 3) (by rfl)) pe_bl pe_non)))))), ?_⟩
  obtain ⟨p, fl, x, y, F, told, rfl, hH, few, gx, gy, q⟩ := h
  refine ⟨x, y, rfl, gx, gy, fun H1 e1 => ?_⟩
  obtain ⟨dxp, hp⟩ := (hH.ex e1).ob
  refine ⟨⟨p, dxp, _, rfl, hp, rfl⟩, p, fl, x, F, told, rfl, hH.ex e1, few, fun d H2 xs M hd e2 b en dist _ => ?_⟩
  refine ⟨by show 2 ≤ sizeLine; decide, fun a ha => ⟨d, a, keyOf (y, false), xs, rfl, rfl, b.ex (Ex.new ha), TupB.key (t := (y, false)) upd_same, _, rfl, ?_⟩⟩
  have hno : (M.map Prod.fst).Nodup := by have := dist.nodup; rw [lens_fst] at this; exact this
  rw [valT_has en hno]
  have h0 : decide ((y, false) ∈ M.map Prod.fst) = true ↔ Near F (x, false) (y, false) := by rw [decide_eq_true_iff, ← lens_fst]; exact dist.near _
  have h1 : decide ((y, true) ∈ M.map Prod.fst) = true ↔ Near F (x, false) (y, true) := by rw [decide_eq_true_iff, ← lens_fst]; exact dist.near _
  have big := areV_cases (G := fun v => ∀ H', Ex H H' → Q v H') h0 h1 q
  have e12 := e1.trans e2
  refine iteB (fun hb => ?_) (fun hb => ?_)
  · have hb' : decide ((y, false) ∈ M.map Prod.fst) = true := hb
    rw [if_pos hb'] at big
    exact big _ (e12.trans (Ex.new ha))
  · have hb' : decide ((y, false) ∈ M.map Prod.fst) = false := hb
    rw [if_neg (by rw [hb']; exact Bool.false_ne_true)] at big
    refine ⟨by show 2 ≤ sizeLine; decide, fun a3 ha3 => ⟨d, a3, keyOf (y, true), xs, rfl, rfl, (b.ex (Ex.new ha)).ex (Ex.new ha3), TupB.key (t := (y, true)) upd_same, _, rfl, ?_⟩⟩
    rw [valT_has en hno]
    refine iteB (fun hc => ?_) (fun hc => ?_)
    · have hc' : decide ((y, true) ∈ M.map Prod.fst) = true := hc
      rw [if_pos hc'] at big
      exact big _ ((e12.trans (Ex.new ha)).trans (Ex.new ha3))
    · have hc' : decide ((y, true) ∈ M.map Prod.fst) = false := hc
      rw [if_neg (by rw [hc']; exact Bool.false_ne_true)] at big
      exact big _ ((e12.trans (Ex.new ha)).trans (Ex.new ha3))
end MC
namespace MC
open PySem PySem.Spec PyProof.Rows L2

theorem ok_l_due {K : PySem.W.Frag} {mg : Str → Option Value} {base : Heap} {A : Ad} {fd : FuncData} (F : Fun K "_law_due" "_law_due" s_l_due A.f_l_due fd) (T : Txt K mg A)
    (O_l_are : Ok A.P A.w K mg base 3 A.f_l_are ["_law_facts", "_law_one", "_law_other"] (sp_l_are K A)) :
    FnG A.P A.w K mg base 4 A.f_l_due fd ["_law_facts", "_law_kind", "_law_one", "_law_other"] (sp_l_due K A) := by
  have sc := sc_l_due
  refine F.okG sc (fun vs H Q E h => by obtain ⟨_, _, _, _, _, rfl, _⟩ := h; rfl) (fun cdv Ar outer s H vs Q E hr hgd h => ?_)
  have hu := hu_of hr
  have hu64 : (Ar.deeper (envOfC "_law_due" (defScope s_l_due) s.heap.objs.size A.f_l_due cdv)).units + 64 < cLine := hr.units
  have hu65 : (Ar.deeper (envOfC "_law_due" (defScope s_l_due) s.heap.objs.size A.f_l_due cdv)).units + 65 < cLine := by have := hr.un; omega
  refine ⟨_, (pss_one (ps_ret (pe_cmpR (op_neU hu64) (pe_callB (call_reprU hu64 hgd) (by rfl) T.b_repr (by decide +kernel) (pa_cons (pe_callO O_l_are hr hgd (by decide) (by rfl) T.g_l_are (fun _ => passN) (pa_cons (pvU 0) (pa_cons (pvU 2) (pa_cons (pvU 3) pa_nil)))) pa_nil)) (pe_callB (call_reprU hu64 hgd) (by rfl) T.b_repr (by decide +kernel) (pa_cons (pe_cmpR (op_eqU hu64) (pvU 1) pe_str (nomark _)) pa_nil)) (nomark _)))), ?_⟩
  obtain ⟨fv, x, y, ap, F, rfl, hF, few, q⟩ := h
  refine ⟨fv, x, y, F, rfl, hF, few, fun H1 e1 => ?_⟩
  have one := areV_one F x y
  obtain ⟨k1, k2, k3, k4⟩ := datA_ok one
  have oneB : V.bl ap = .non ∨ V.bl ap = .bl true ∨ V.bl ap = .bl false := by cases ap <;> simp
  obtain ⟨j1, j2, j3, j4⟩ := datA_ok oneB
  have eap : decide (V.str (kindS ap) = V.str "apart") = ap := by
    cases ap <;> decide
  refine ⟨_, _, rfl, k1 _ _, k2, k3, k4, ?_⟩
  refine ⟨V.bl (decide (V.str (kindS ap) = V.str "apart")), datA (.bl ap), rfl, by rw [eap]; exact j1 _ _, j2, j3, j4, ?_⟩
  show Q (.bl (!decide (V.str (datA (areV F x y)).shown = V.str (datA (.bl ap)).shown))) H1
  rw [decide_eq_decide.mpr (datA_shown one oneB)]
  exact q _ e1
end MC
namespace MC
open PySem PySem.Spec PyProof.Rows L2

theorem ok_Sames_same {K : PySem.W.Frag} {mg : Str → Option Value} {base : Heap} {A : Ad} {fd : FuncData} (F : Fun K "same" "Sames.same" s_Sames_same A.f_Sames_same fd) (T : Txt K mg A)
    (O_Sames_taken_up : Ok A.P A.w K mg base 4 A.f_Sames_taken_up ["self", "kind", "one", "other"] (sp_Sames_taken_up K A)) :
    FnG A.P A.w K mg base 5 A.f_Sames_same fd ["self", "one", "other"] (sp_Sames_same K A) := by
  have sc := sc_Sames_same
  refine F.okG sc (fun vs H Q E h => by obtain ⟨_, _, _, _, _, _, rfl, _⟩ := h; rfl) (fun cdv Ar outer s H vs Q E hr hgd h => ?_)
  have hu := hu_of hr
  have hu64 : (Ar.deeper (envOfC "Sames.same" (defScope s_Sames_same) s.heap.objs.size A.f_Sames_same cdv)).units + 64 < cLine := hr.units
  have hu65 : (Ar.deeper (envOfC "Sames.same" (defScope s_Sames_same) s.heap.objs.size A.f_Sames_same cdv)).units + 65 < cLine := by have := hr.un; omega
  refine ⟨_, (pss_one (ps_ret (pe_methO (pvU 0) T.cl_Sames T.m_Sames_taken_up O_Sames_taken_up hr hgd (by decide) (fun _ => passR (takes_of rfl rfl rfl rfl) (fun _ _ _ _ h => h)) (pa_cons pe_str (pa_cons (pvU 1) (pa_cons (pvU 2) pa_nil)))))), ?_⟩
  obtain ⟨p, fl, x, y, F, told, rfl, hH, few, gx, gy, q⟩ := h
  obtain ⟨dxp, hp⟩ := hH.ob
  exact ⟨⟨p, dxp, _, rfl, hp, rfl⟩, p, fl, x, y, false, F, told, rfl, hH, few, gx, gy, q⟩
end MC
namespace MC
open PySem PySem.Spec PyProof.Rows L2

theorem ok_Sames_apart {K : PySem.W.Frag} {mg : Str → Option Value} {base : Heap} {A : Ad} {fd : FuncData} (F : Fun K "apart" "Sames.apart" s_Sames_apart A.f_Sames_apart fd) (T : Txt K mg A)
    (O_Sames_taken_up : Ok A.P A.w K mg base 4 A.f_Sames_taken_up ["self", "kind", "one", "other"] (sp_Sames_taken_up K A)) :
    FnG A.P A.w K mg base 5 A.f_Sames_apart fd ["self", "one", "other"] (sp_Sames_apart K A) := by
  have sc := sc_Sames_apart
  refine F.okG sc (fun vs H Q E h => by obtain ⟨_, _, _, _, _, _, rfl, _⟩ := h; rfl) (fun cdv Ar outer s H vs Q E hr hgd h => ?_)
  have hu := hu_of hr
  have hu64 : (Ar.deeper (envOfC "Sames.apart" (defScope s_Sames_apart) s.heap.objs.size A.f_Sames_apart cdv)).units + 64 < cLine := hr.units
  have hu65 : (Ar.deeper (envOfC "Sames.apart" (defScope s_Sames_apart) s.heap.objs.size A.f_Sames_apart cdv)).units + 65 < cLine := by have := hr.un; omega
  refine ⟨_, (pss_one (ps_ret (pe_methO (pvU 0) T.cl_Sames T.m_Sames_taken_up O_Sames_taken_up hr hgd (by decide) (fun _ => passR (takes_of rfl rfl rfl rfl) (fun _ _ _ _ h => h)) (pa_cons pe_str (pa_cons (pvU 1) (pa_cons (pvU 2) pa_nil)))))), ?_⟩
  obtain ⟨p, fl, x, y, F, told, rfl, hH, few, gx, gy, q⟩ := h
  obtain ⟨dxp, hp⟩ := hH.ob
  exact ⟨⟨p, dxp, _, rfl, hp, rfl⟩, p, fl, x, y, true, F, told, rfl, hH, few, gx, gy, q⟩
end MC
namespace MC
open PySem PySem.Spec PyProof.Rows L2

theorem ok_l_row_right {K : PySem.W.Frag} {mg : Str → Option Value} {base : Heap} {A : Ad} {fd : FuncData} (F : Fun K "_law_row_right" "_law_row_right" s_l_row_right A.f_l_row_right fd) (T : Txt K mg A)
    (O_l_levels : Ok A.P A.w K mg base 2 A.f_l_levels ["_law_facts", "_law_one"] (sp_l_levels K A))
    (O_Sames_are : Ok A.P A.w K mg base 4 A.f_Sames_are ["self", "one", "other"] (sp_Sames_are K A)) :
    FnG A.P A.w K mg base 5 A.f_l_row_right fd ["_law_house", "_law_facts", "_law_one", "_law_pool_here"] (sp_l_row_right K A) := by
  have sc := sc_l_row_right
  refine F.okG sc (fun vs H Q E h => by obtain ⟨_, _, _, _, _, _, _, _, rfl, _⟩ := h; rfl) (fun cdv Ar outer s H vs Q E hr hgd h => ?_)
  have hu := hu_of hr
  have hu64 : (Ar.deeper (envOfC "_law_row_right" (defScope s_l_row_right) s.heap.objs.size A.f_l_row_right cdv)).units + 64 < cLine := hr.units
  have hu65 : (Ar.deeper (envOfC "_law_row_right" (defScope s_l_row_right) s.heap.objs.size A.f_l_row_right cdv)).units + 65 < cLine := by have := hr.un; omega
  refine ⟨_, (pss_cons (ps_set (i := 4) sc.nd rfl (Or.inl rfl) (pe_callO O_l_levels hr hgd (by decide) (by rfl) T.g_l_levels (fun _ => passN) (pa_cons (pvU 1) (pa_cons (pvU 2) pa_nil)))) (pss_cons (ps_for (passes_of rfl) rfl (pi_list (pvU 3)) (pg_name (i := 5) sc.nd rfl (Or.inl rfl)) (pss_cons (ps_set (i := 6) sc.nd rfl (Or.inl rfl) pe_non) (pss_cons (ps_if (PW.pt (pw_or (pt_cmpR (op_inB hu65) (pe_tup (pa_cons (pvU 5) (pa_cons pe_int pa_nil))) (pvU 4) (by rfl)) (pw_or1 (pt_cmpR (op_inB hu65) (pe_tup (pa_cons (pvU 5) (pa_cons pe_int pa_nil))) (pvU 4) (by rfl))))) (pss_one (ps_set (i := 6) sc.nd rfl (Or.inl rfl) (pe_cmpR (op_inB hu65) (pe_tup (pa_cons (pvU 5) (pa_cons pe_int pa_nil))) (pvU 4) (by rfl)))) pss_nil) (pss_one (ps_if (pt_cmpR (op_neU hu64) (pe_callB (call_reprU hu64 hgd) (by rfl) T.b_repr (by decide +kernel) (pa_cons (pe_methO (pvU 0) T.cl_Sames T.m_Sames_are O_Sames_are hr hgd (by decide) (fun _ => passN) (pa_cons (pvU 2) (pa_cons (pvU 5) pa_nil))) pa_nil)) (pe_callB (call_reprU hu64 hgd) (by rfl) T.b_repr (by decide +kernel) (pa_cons (pvU 6) pa_nil)) (nomark _)) (pss_one (ps_ret pe_bl)) pss_nil))))) (pss_one (ps_ret pe_bl)))), ?_⟩
  obtain ⟨p, fl, pp, fv, x, ws, F, told, rfl, hH, hF, few, hpp, gx, gws, q⟩ := h
  refine ⟨fv, x, F, rfl, hF, few, fun d H1 xs M hd e1 b en dist => ?_⟩
  have hpp1 := e1 _ _ hpp
  refine ⟨pp, rfl, ⟨_, .inl (.inl hpp1)⟩, for_list (fun i σ H' => ∃ o5 o6 : Option V, σ = [some (.ref p), some fv, some (.str x), some (.ref pp), some (.ref d), o5, o6] ∧ Ex H1 H') ⟨none, none, rfl, Ex.refl _⟩ (fun i σ H' hi ⟨_, _, _, e⟩ => .inl (.inl (e _ _ hpp1))) ?_ ?_⟩
  · rintro i z σ H2 hz ⟨o5, o6, rfl, e2⟩
    rw [List.getElem?_map] at hz
    obtain ⟨y, hy, rfl⟩ := Option.map_eq_some_iff.mp hz
    have gy := gws y (List.mem_of_getElem? hy)
    have h0 : decide ((y, false) ∈ M.map Prod.fst) = true ↔ Near F (x, false) (y, false) := by rw [decide_eq_true_iff]; exact dist.near _
    have h1 : decide ((y, true) ∈ M.map Prod.fst) = true ↔ Near F (x, false) (y, true) := by rw [decide_eq_true_iff]; exact dist.near _
    dsimp only [gN_ap, asgC]
    refine seqJ (fun σ' H' => σ' = [some (.ref p), some fv, some (.str x), some (.ref pp), some (.ref d), some (.str y), some (areV F x y)] ∧ Ex H1 H') (fun N hN => ?_) ?_
    · refine ⟨by show 2 ≤ sizeLine; decide, fun a3 ha3 => ?_⟩
      have e3 := e2.trans (Ex.new (o := .tup [.str y, .int 0]) ha3)
      refine ⟨d, a3, keyOf (y, false), xs, rfl, rfl, b.ex e3, TupI.key (t := (y, false)) upd_same, _, rfl, ?_⟩
      rw [valT_has en dist.nodup]
      refine iteB (fun hb => ?_) (fun hb => ?_)
      · have hb' : decide ((y, false) ∈ M.map Prod.fst) = true := hb
        refine ⟨by show 2 ≤ sizeLine; decide, fun a4 ha4 => ?_⟩
        have e4 := e3.trans (Ex.new (o := .tup [.str y, .int 0]) ha4)
        refine ⟨d, a4, keyOf (y, false), xs, rfl, rfl, b.ex e4, TupI.key (t := (y, false)) upd_same, ?_⟩
        rw [valT_has en dist.nodup]
        refine hN _ _ ⟨?_, e4⟩
        unfold areV
        rw [if_pos (h0.mp hb')]
        rw [show bx false (decide ((y, false) ∈ M.map Prod.fst)) = true from hb']
        rfl
      · have hb' : decide ((y, false) ∈ M.map Prod.fst) = false := hb
        have n0 : ¬ Near F (x, false) (y, false) := fun z => by rw [h0.mpr z] at hb'; cases hb'
        refine ⟨by show 2 ≤ sizeLine; decide, fun a4 ha4 => ?_⟩
        have e4 := e3.trans (Ex.new (o := .tup [.str y, .int 1]) ha4)
        refine ⟨d, a4, keyOf (y, true), xs, rfl, rfl, b.ex e4, TupI.key (t := (y, true)) upd_same, _, rfl, ?_⟩
        rw [valT_has en dist.nodup]
        refine iteB (fun hc => ?_) (fun hc => ?_)
        · have hc' : decide ((y, true) ∈ M.map Prod.fst) = true := hc
          refine ⟨by show 2 ≤ sizeLine; decide, fun a5 ha5 => ?_⟩
          have e5 := e4.trans (Ex.new (o := .tup [.str y, .int 0]) ha5)
          refine ⟨d, a5, keyOf (y, false), xs, rfl, rfl, b.ex e5, TupI.key (t := (y, false)) upd_same, ?_⟩
          rw [valT_has en dist.nodup]
          refine hN _ _ ⟨?_, e5⟩
          unfold areV
          rw [if_neg n0, if_pos (h1.mp hc')]
          rw [show bx false (decide ((y, false) ∈ M.map Prod.fst)) = false from hb']
          rfl
        · have hc' : decide ((y, true) ∈ M.map Prod.fst) = false := hc
          have n1 : ¬ Near F (x, false) (y, true) := fun z => by rw [h1.mpr z] at hc'; cases hc'
          refine hN _ _ ⟨?_, e4⟩
          unfold areV
          rw [if_neg n0, if_neg n1]
          rfl
    · rintro σ' H3 ⟨rfl, e3⟩
      have e03 := e1.trans e3
      obtain ⟨dxp, hp⟩ := (hH.ex e03).ob
      refine ⟨⟨p, dxp, _, rfl, hp, rfl⟩, p, fl, x, y, F, told, rfl, hH.ex e03, few, gx, gy, fun H4 e4 => ?_⟩
      obtain ⟨k1, k2, k3, k4⟩ := datA_ok (areV_one F x y)
      refine ⟨_, _, rfl, k1 _ _, k2, k3, k4, _, _, rfl, k1 _ _, k2, k3, k4, ?_⟩
      refine ⟨_, rfl, ?_⟩
      rw [decide_eq_true rfl]
      exact iteF ⟨_, _, rfl, e3.trans e4⟩
  · rintro σ H2 ⟨o5, o6, rfl, e2⟩
    exact q _ (e1.trans e2)
end MC
namespace MC
open PySem PySem.Spec PyProof.Rows L2

theorem ok_l_told {K : PySem.W.Frag} {mg : Str → Option Value} {base : Heap} {A : Ad} {fd : FuncData} (F : Fun K "_law_told" "_law_told" s_l_told A.f_l_told fd) (T : Txt K mg A)
    (O_Sames_same : Ok A.P A.w K mg base 5 A.f_Sames_same ["self", "one", "other"] (sp_Sames_same K A))
    (O_Sames_apart : Ok A.P A.w K mg base 5 A.f_Sames_apart ["self", "one", "other"] (sp_Sames_apart K A)) :
    FnG A.P A.w K mg base 6 A.f_l_told fd ["_law_house", "_law_kind", "_law_one", "_law_other"] (sp_l_told K A) := by
  have sc := sc_l_told
  refine F.okG sc (fun vs H Q E h => by obtain ⟨_, _, _, _, _, _, _, rfl, _⟩ := h; rfl) (fun cdv Ar outer s H vs Q E hr hgd h => ?_)
  have hu := hu_of hr
  have hu64 : (Ar.deeper (envOfC "_law_told" (defScope s_l_told) s.heap.objs.size A.f_l_told cdv)).units + 64 < cLine := hr.units
  have hu65 : (Ar.deeper (envOfC "_law_told" (defScope s_l_told) s.heap.objs.size A.f_l_told cdv)).units + 65 < cLine := by have := hr.un; omega
  refine ⟨_, (pss_one (ps_tryA rfl rfl (takes_of rfl rfl rfl rfl) (fun W pn xe tk pw_own => (pss_one (ps_ret (pe_ifExp (pt_cmpR (kOp (r := rEqU) (K := K) (op_eqU hu64)) (pvU 1) pe_str (nomark _)) (pe_methO (pvU 0) T.cl_Sames T.m_Sames_same O_Sames_same hr hgd (by decide) (fun σ => passT tk σ) (pa_cons (pvU 2) (pa_cons (pvU 3) pa_nil))) (pe_methO (pvU 0) T.cl_Sames T.m_Sames_apart O_Sames_apart hr hgd (by decide) (fun σ => passT tk σ) (pa_cons (pvU 2) (pa_cons (pvU 3) pa_nil))))))) (.cons (hd_as (i := 4) sc.nd rfl rfl ⟨by rfl, by decide, .inl T.g_Clash⟩ (fun a oe cls d pn hz hf => (pss_one (ps_ret (pe_lst (pa_cons pe_str (pa_cons (pe_xf T.xf_Clash T.xn_Clash_numbers hz hf (pvU 4)) pa_nil))))))) (.cons (hd_plain ⟨by rfl, by decide, .inl T.g_CustomsError⟩ (fun a oe cls d pn hz hf => (pss_one (ps_ret pe_non)))) .nil)))), ?_⟩
  obtain ⟨p, fl, x, y, ap, F, told, rfl, hH, few, gx, gy, q1, q2⟩ := h
  obtain ⟨dxp, hp⟩ := hH.ob
  have esame : decide (V.str (kindS ap) = V.str "same") = !ap := by cases ap <;> decide
  refine ⟨_, rfl, ?_⟩
  rw [esame]
  refine iteB (fun ha => ?_) (fun ha => ?_)
  · have : ap = false := by cases ap <;> simp at ha ⊢
    subst this
    refine ⟨⟨p, dxp, _, rfl, hp, rfl⟩, p, fl, x, y, F, told, rfl, hH, few, gx, gy, q1, fun H' d l ns e1 hd hl pth mn => ?_⟩
    refine ⟨true, T.te_Clash_Clash, fun a ha => ?_⟩
    refine ⟨rfl, rfl, d, _, _, rfl, hd, rfl, by show 2 ≤ sizeLine; decide, fun r hr => ?_⟩
    exact q2 _ r l ns (e1.trans (Ex.new hr)) upd_same (upd_new hl hr) pth mn
  · have : ap = true := by cases ap <;> simp at ha ⊢
    subst this
    refine ⟨⟨p, dxp, _, rfl, hp, rfl⟩, p, fl, x, y, F, told, rfl, hH, few, gx, gy, q1, fun H' d l ns e1 hd hl pth mn => ?_⟩
    refine ⟨true, T.te_Clash_Clash, fun a ha => ?_⟩
    refine ⟨rfl, rfl, d, _, _, rfl, hd, rfl, by show 2 ≤ sizeLine; decide, fun r hr => ?_⟩
    exact q2 _ r l ns (e1.trans (Ex.new hr)) upd_same (upd_new hl hr) pth mn
end MC
namespace MC
open PySem PySem.Spec PyProof.Rows L2

theorem ok_l_deed {K : PySem.W.Frag} {mg : Str → Option Value} {base : Heap} {A : Ad} {fd : FuncData} (F : Fun K "_law_deed" "_law_deed" s_l_deed A.f_l_deed fd) (T : Txt K mg A)
    (O_l_take : Ok A.P A.w K mg base 1 A.f_l_take ["_law_box_here", "_law_many"] (sp_l_take K A))
    (O_Sames_take_back : Ok A.P A.w K mg base 3 A.f_Sames_take_back ["self", "number"] (sp_Sames_take_back K A))
    (O_l_fewest_right : Ok A.P A.w K mg base 3 A.f_l_fewest_right ["_law_facts", "_law_one", "_law_other", "_law_numbers", "_law_apart"] (sp_l_fewest_right K A))
    (O_l_due : Ok A.P A.w K mg base 4 A.f_l_due ["_law_facts", "_law_kind", "_law_one", "_law_other"] (sp_l_due K A))
    (O_l_told : Ok A.P A.w K mg base 6 A.f_l_told ["_law_house", "_law_kind", "_law_one", "_law_other"] (sp_l_told K A)) :
    FnG A.P A.w K mg base 7 A.f_l_deed fd ["_law_box_here", "_law_house", "_law_pool_here", "_law_facts", "_law_told_here"] (sp_l_deed K A) := by
  have sc := sc_l_deed
  refine F.okG sc (fun vs H Q E h => by obtain ⟨_, _, _, _, _, _, _, _, _, rfl, _⟩ := h; rfl) (fun cdv Ar outer s H vs Q E hr hgd h => ?_)
  have hu := hu_of hr
  have hu64 : (Ar.deeper (envOfC "_law_deed" (defScope s_l_deed) s.heap.objs.size A.f_l_deed cdv)).units + 64 < cLine := hr.units
  have hu65 : (Ar.deeper (envOfC "_law_deed" (defScope s_l_deed) s.heap.objs.size A.f_l_deed cdv)).units + 65 < cLine := by have := hr.un; omega
  refine ⟨_, (pss_cons (ps_par (i := 5) (j := 6) rfl sc.nd rfl rfl (by decide) rfl rfl (pa_cons (pe_ix ix_U (pvU 2) (pe_callO O_l_take hr hgd (by decide) (by rfl) T.g_l_take (fun _ => passN) (pa_cons (pvU 0) (pa_cons (pe_callB call_lenU (by rfl) T.b_len (by decide +kernel) (pa_cons (pvU 2) pa_nil)) pa_nil))) (fun _ _ => rfl)) (pa_cons (pe_ix ix_U (pvU 2) (pe_callO O_l_take hr hgd (by decide) (by rfl) T.g_l_take (fun _ => passN) (pa_cons (pvU 0) (pa_cons (pe_callB call_lenU (by rfl) T.b_len (by decide +kernel) (pa_cons (pvU 2) pa_nil)) pa_nil))) (fun _ _ => rfl)) pa_nil)) (by rfl)) (pss_cons (ps_set (i := 7) sc.nd rfl (Or.inl rfl) (pe_callO O_l_take hr hgd (by decide) (by rfl) T.g_l_take (fun _ => passN) (pa_cons (pvU 0) (pa_cons pe_int pa_nil)))) (pss_cons (ps_if (PW.pt (pw_and (pt_cmpR op_ltU (pvU 7) pe_int (nomark _)) (pw_and1 (pt_cmpR (op_neU hu64) (pvU 3) (pe_lst pa_nil) (nomark _))))) (pss_cons (ps_set (i := 8) sc.nd rfl (Or.inr rfl) (pe_ix ix_U (pe_ix ix_U (pvU 3) (pe_callO O_l_take hr hgd (by decide) (by rfl) T.g_l_take (fun _ => passN) (pa_cons (pvU 0) (pa_cons (pe_callB call_lenU (by rfl) T.b_len (by decide +kernel) (pa_cons (pvU 3) pa_nil)) pa_nil))) (fun _ _ => rfl)) pe_int (fun _ _ => rfl))) (pss_one (ps_ret (pe_ifExp (pt_cmpR op_isN (pe_methO (pvU 1) T.cl_Sames T.m_Sames_take_back O_Sames_take_back hr hgd (by decide) (fun _ => passN) (pa_cons (pvU 8) pa_nil)) pe_non (nomark _)) (pe_lc (own := [("_law_fact", 11)]) (g := (gName 11)) (by rfl) sc.nd (pi_list (pvU 3)) (blkOk_by (own := [("_law_fact", 11)]) (N := ["_law_box_here", "_law_house", "_law_pool_here", "_law_facts", "_law_told_here", "_law_one", "_law_other", "_law_way", "_law_number", "_law_kind", "_law_found", "_law_fact"]) (sc := defScope s_l_deed) (by decide +kernel)) (fun _ _ _ _ _ => (pg_name (i := 11) sc.nd rfl (Or.inl rfl))) (fun _ _ _ _ _ => (pts_one (pt_cmpR (kOp (r := rNeU) (K := K) (op_neU hu64)) (pe_ix (kIx (K := K)) (pvU 11) pe_int (fun _ _ => rfl)) (pvU 8) (nomark _)))) (fun _ _ _ _ _ => (pvU 11))) pe_non)))) pss_nil) (pss_cons (ps_set (i := 9) sc.nd rfl (Or.inl rfl) (pe_ifExp (pt_cmpR op_ltU (pvU 7) pe_int (nomark _)) pe_str pe_str)) (pss_cons (ps_set (i := 10) sc.nd rfl (Or.inl rfl) (pe_callO O_l_told hr hgd (by decide) (by rfl) T.g_l_told (fun _ => passN) (pa_cons (pvU 1) (pa_cons (pvU 9) (pa_cons (pvU 5) (pa_cons (pvU 6) pa_nil)))))) (pss_cons (ps_if (pt_val (pe_callO O_l_due hr hgd (by decide) (by rfl) T.g_l_due (fun _ => passN) (pa_cons (pvU 3) (pa_cons (pvU 9) (pa_cons (pvU 5) (pa_cons (pvU 6) pa_nil)))))) (pss_one (ps_ret (pe_ifExp (pt_cmpR (op_eqU hu64) (pe_callB (call_reprU hu64 hgd) (by rfl) T.b_repr (by decide +kernel) (pa_cons (pvU 10) pa_nil)) (pe_callB (call_reprU hu64 hgd) (by rfl) T.b_repr (by decide +kernel) (pa_cons (pvU 4) pa_nil)) (nomark _)) (pe_op op_addU (pvU 3) (pe_lst (pa_cons (pe_tup (pa_cons (pvU 4) (pa_cons (pvU 9) (pa_cons (pvU 5) (pa_cons (pvU 6) pa_nil))))) pa_nil))) pe_non))) pss_nil) (pss_cons (ps_if (PW.pt (pw_or (pt_not (pt_val (pe_callB call_isi (by rfl) T.b_isinstance (by decide +kernel) (pa_cons (pvU 10) (pa_cons (pe_bltn (v := .ty "list") (by rfl) T.b_list (by decide +kernel) rfl) pa_nil))))) (pw_or1 (pt_not (pt_val (pe_callO O_l_fewest_right hr hgd (by decide) (by rfl) T.g_l_fewest_right (fun _ => passN) (pa_cons (pvU 3) (pa_cons (pvU 5) (pa_cons (pvU 6) (pa_cons (pe_ix ix_U (pvU 10) pe_int (fun _ _ => rfl)) (pa_cons (pe_callTy call_int1 (by rfl) T.b_int (by decide +kernel) (pa_cons (pe_cmpR (op_eqU hu64) (pvU 9) pe_str (nomark _)) pa_nil)) pa_nil))))))))))) (pss_one (ps_ret pe_non)) pss_nil) (pss_one (ps_ret (pvU 3)))))))))), ?_⟩
  obtain ⟨b, p, pp, fl, q, n, ws, F, told, rfl, hB, hn, hpp, gws, l2, l12, bo, few, tl, K0⟩ := h
  have npb := pool_box hB hpp l2
  have pick : ∀ d : Int, 0 ≤ d → d < ((ws.map V.str).length : Int) → ∃ z, atI (ws.map V.str) d = some (.str z) ∧ GoodW z := by
    intro d h0 h1
    rw [List.length_map] at h1
    obtain ⟨k, rfl⟩ : ∃ k : Nat, d = k := ⟨d.toNat, by omega⟩
    have hk : k < ws.length := by omega
    exact ⟨ws[k], atI_nat (by rw [List.getElem?_map, List.getElem?_eq_getElem hk]; rfl), gws _ (List.getElem_mem hk)⟩
  have lw : ((ws.map V.str).length : Int) = ws.length := by rw [List.length_map]
  -- one, other
  refine .inl ⟨_, .inl (.inl (.inl hpp)), b, _, n, rfl, hB, by omega, by omega, by omega, fun d1 H1 g1 g1' hB1 kp1 => ?_⟩
  obtain ⟨x, hx, gx⟩ := pick d1 g1 g1'
  have hpp1 := kp1 _ _ hpp npb
  refine ⟨_, .str x, .inl (.inl (.inl hpp1)), hx, ?_⟩
  refine .inl ⟨_, .inl (.inl (.inl hpp1)), b, _, n + 1, rfl, hB1, by omega, by omega, by omega, fun d2 H2 g2 g2' hB2 kp2 => ?_⟩
  obtain ⟨y, hy, gy⟩ := pick d2 g2 g2'
  have hpp2 := kp2 _ _ hpp1 npb
  refine ⟨_, .str y, .inl (.inl (.inl hpp2)), hy, ?_⟩
  -- way
  refine ⟨_, _, rfl, b, 8, n + 1 + 1, rfl, hB2, by decide, by decide, by omega, fun way H3 g3 g3' hB3 kp3 => ?_⟩
  have kp03 := kp1.trans (kp2.trans kp3)
  have bo3 := bo.keep kp03 hB
  have hpp3 := kp3 _ _ hpp2 npb
  dsimp only [gN_ap]
  have few' : F.length ≤ 1000 := by omega
  refine seqJ (fun σ' H' => σ' = [some (.ref b), some (.ref p), some (.ref pp), some (.ref q), some (.int told), some (.str x), some (.str y), some (.int way), none, none, none, none] ∧ Ex H3 H') (fun N hN => ?_) ?_
  · refine ⟨_, rfl, iteD (fun hlt => ?_) (fun hge => iteF (hN _ _ ⟨rfl, Ex.refl _⟩))⟩
    obtain ⟨xq, hq3, prq3⟩ := bo3.fs
    refine ⟨by show 0 ≤ sizeLine; decide, fun p2 hp2 => .inl ⟨q, p2, xq, rfl, rfl, .inl (.inl (upd_new hq3 hp2)), .inl (.inl upd_same), _, rfl, iteB (b := !xq.isEmpty) (fun hne => ?_) (fun he => hN _ _ ⟨rfl, Ex.new hp2⟩)⟩⟩
    have e3 : Ex H3 (upd H3 p2 (.lst [])) := Ex.new hp2
    have bo4 := bo3.ex e3
    have hB4 := hB3.new (o := .lst []) hp2
    have lx : xq.length = F.length := Paired.length prq3
    have lpos : 1 ≤ xq.length := by
      cases xq with
      | nil => cases hne
      | cons _ _ => simp
    -- the number
    refine .inl ⟨xq, .inl (.inl (.inl (e3 _ _ hq3))), b, _, n + 3, rfl, hB4, by omega, by omega, by omega, fun d5 H5 g5 g5' hB5 kp5 => ?_⟩
    have bo5 := bo4.keep kp5 hB4
    obtain ⟨xq5, hq5, prq5⟩ := bo5.fs
    have lx5 : xq5.length = F.length := Paired.length prq5
    obtain ⟨k, rfl⟩ : ∃ k : Nat, d5 = k := ⟨d5.toNat, by omega⟩
    have hk : k < F.length := by omega
    obtain ⟨v5, hv5, ga, rfl, hga⟩ := pair_at prq5 (List.getElem?_eq_getElem hk)
    have hgF : F[k] ∈ F := List.getElem_mem hk
    refine ⟨_, .ref ga, .inl (.inl (.inl hq5)), atI_nat hv5, _, .int F[k].n, .inr (.inl (.inl hga)), atI_nat (j := 0) rfl, ?_⟩
    obtain ⟨dx5, hp5⟩ := bo5.hs.ob
    refine ⟨⟨p, dx5, _, rfl, hp5, rfl⟩, p, fl, F[k].n, F, told, rfl, bo5.hs, few', ⟨_, hgF, rfl⟩, fun H6 fl6 kp6 hs6 => ⟨rfl, _, rfl, ?_⟩⟩
    rw [decide_eq_true rfl]
    refine iteT ?_
    have nqp : q ≠ p := fun e => by rw [e, hp5] at hq5; cases hq5
    have hq6 := kp6 _ _ hq5 nqp
    have prq6 : Paired (FactV H6) xq5 F := facts_keep prq5 kp6 fun a vs ha e => by rw [show a = p from e, hp5] at ha; cases ha
    refine ⟨q, rfl, ⟨_, .inl (.inl hq6)⟩, fun D hD => lc_list (fun i H' => ∃ acc, H' = upd H6 D (.lst acc) ∧ Paired (FactV H6) acc ((F.take i).filter fun g => !decide (g.n = F[k].n))) ⟨[], rfl, .nil⟩ (fun i H' hi ⟨acc, e, _⟩ => .inl (.inl (by rw [e]; exact upd_new hq6 hD))) ?_ ?_⟩
    · rintro j z H7 hz ⟨acc, rfl, pa⟩
      obtain ⟨g, hg, gb, rfl, hgb0⟩ := pair_of prq6 hz
      have hgb : (upd H6 D (.lst acc)) gb = some (.tup (factVs g)) := upd_new hgb0 hD
      have lacc : acc.length < sizeLine := by
        rw [Paired.length pa, sizeLine_eq]
        have h1 := List.length_filter_le (fun g => !decide (g.n = F[k].n)) (F.take j)
        rw [List.length_take] at h1
        omega
      have etk : ((F.take (j + 1)).filter fun g => !decide (g.n = F[k].n)) = ((F.take j).filter fun g => !decide (g.n = F[k].n)) ++ [g].filter fun g => !decide (g.n = F[k].n) := by
        rw [List.take_succ, hg, List.filter_append]; rfl
      refine ⟨rfl, _, .int g.n, .inr (.inl (.inl hgb)), atI_nat (j := 0) rfl, _, rfl, ?_⟩
      refine iteB (b := !decide (V.int g.n = V.int F[k].n)) (fun he => ?_) (fun he => ?_)
      · refine ⟨acc, upd_same, lacc, acc ++ [.ref gb], upd_upd, ?_⟩
        have he' : ¬ g.n = F[k].n := fun z => by rw [z, decide_eq_true rfl] at he; cases he
        rw [etk, List.filter_cons_of_pos (by simpa using he')]
        exact Paired.snoc pa ⟨gb, rfl, hgb0⟩
      · refine ⟨acc, rfl, ?_⟩
        have he' : g.n = F[k].n := Classical.byContradiction fun z => by
          rw [decide_eq_false (fun e => z (V.int.inj e))] at he; cases he
        rw [etk, List.filter_cons_of_neg (by simpa using he'), List.filter_nil, List.append_nil]
        exact pa
    · rintro H7 ⟨acc, rfl, pa⟩
      rw [show (F.take xq5.length) = F from List.take_of_length_le (by rw [lx5]; exact Nat.le_refl _)] at pa
      have eD : Ex H6 (upd H6 D (.lst acc)) := Ex.new hD
      obtain ⟨_, hf6, _⟩ := hs6.ls
      have nbp : b ≠ p := by
        obtain ⟨x0, y0, z0, hb, _⟩ := hB5
        intro e; rw [e, hp5] at hb; cases hb
      refine K0 _ fl6 D _ told ?_ (((hB5.keep kp6 nbp).ex eD).le (by omega)) ⟨hs6.ex eD, ⟨acc, upd_same, Paired.imp pa fun v f h => h.mono eD⟩, (ne_of_none hf6 hD).symm, ?_, bo.ag.sub fun f hf => (List.mem_filter.mp hf).1, fun g hg => bo.lt g (List.mem_filter.mp hg).1, fun g hg => bo.nn g (List.mem_filter.mp hg).1, bo.t0, fun g hg => bo.gw g (List.mem_filter.mp hg).1⟩ (by have := List.length_filter_le (fun g => !decide (g.n = F[k].n)) F; omega) (.inl rfl)
      · refine (((kp03.imp fun a h => .inl h).trans (Keep.of e3)).trans (kp5.imp fun a h => .inl h)).trans ((kp6.imp fun a h => .inr (.inl h)).trans (Keep.of eD))
      · exact List.Nodup.sublist (List.Sublist.map _ List.filter_sublist) bo.uq
  · rintro σ' H4 ⟨rfl, e4⟩
    have bo4 := bo3.ex e4
    have hB4 : BoxAt H4 b (n + 3) := hB3.ex e4
    have kp04 : Keep (Three b p fl) H H4 := (kp03.imp fun a h => .inl h).trans (Keep.of e4)
    refine sA (fun v H' => ∃ ap, v = .str (kindS ap) ∧ H' = H4) (fun Q' hQ' => ⟨_, rfl, iteD (fun _ => hQ' _ _ ⟨true, rfl, rfl⟩) (fun _ => hQ' _ _ ⟨false, rfl, rfl⟩)⟩) ?_
    rintro v H' ⟨ap, rfl, rfl⟩
    have esame : decide (V.str (kindS ap) = V.str "same") = !ap := by cases ap <;> decide
    refine ⟨p, fl, x, y, ap, F, told, rfl, bo4.hs, by omega, gx, gy, fun nn H5 kk hs5 => ?_, fun H5 r l ns e5 hr hl pth mn => ?_⟩
    · -- taken up
      obtain ⟨dx4, hp4⟩ := bo4.hs.ob
      obtain ⟨xq, hq4, prq4⟩ := bo4.fs
      have nq : ¬ Two p fl q := fun e => by
        rcases e with e | e
        · rw [e, hp4] at hq4; cases hq4
        · exact bo4.ne e
      have hq5 := kk _ _ hq4 nq
      obtain ⟨xfl, hfl4, _⟩ := bo4.hs.ls
      have prq5 : Paired (FactV H5) xq F := facts_keep prq4 kk fun a vs ha e => by
        rcases e with e | e
        · rw [show a = p from e, hp4] at ha; cases ha
        · rw [show a = fl from e, hfl4] at ha; cases ha
      have hnd : areV F x y ≠ .bl ap := fun e => nn (areV_not e)
      refine ⟨.ref q, x, y, ap, F, rfl, ⟨q, xq, rfl, hq5, prq5⟩, few', fun H6 e6 => ⟨_, rfl, ?_⟩⟩
      rw [decide_eq_false hnd]
      refine iteT ?_
      obtain ⟨t1, t2, t3⟩ := datI bo.t0 (show told ≤ 100000 by omega)
      refine ⟨_, _, rfl, .int told, t1, t2, t3, _, _, rfl, .int told, t1, t2, t3, _, rfl, ?_⟩
      rw [decide_eq_true rfl]
      refine iteT ⟨by show 4 ≤ sizeLine; decide, fun t ht => ⟨by show 1 ≤ sizeLine; decide, fun p1 hp1 => .inl ⟨q, p1, xq, _, rfl, rfl, ?_, upd_same, ?_, fun r hr => ?_⟩⟩⟩
      · exact upd_new (upd_new (e6 _ _ hq5) ht) hp1
      · rw [Paired.length prq4, sizeLine_eq]; show _ + 1 ≤ _; omega
      have e7 : Ex H6 (upd H6 t (.tup [.int told, .str (kindS ap), .str x, .str y])) := Ex.new ht
      have e8 : Ex (upd H6 t (.tup [.int told, .str (kindS ap), .str x, .str y])) (upd (upd H6 t (.tup [.int told, .str (kindS ap), .str x, .str y])) p1 (.lst [.ref t])) := Ex.new hp1
      have e9 := (e6.trans (e7.trans e8)).trans (Ex.new (o := .lst (xq ++ [.ref t])) hr)
      have hs9 := hs5.ex e9
      have nbp : b ≠ p := by
        obtain ⟨x0, y0, z0, hb, _⟩ := hB4
        intro e; rw [e, hp4] at hb; cases hb
      have nbf : b ≠ fl := by
        obtain ⟨x0, y0, z0, hb, _⟩ := hB4
        intro e
        obtain ⟨xf, h2, h3⟩ := bo4.hs.ls
        rw [e, h2] at hb
        injection hb with hb
        injection hb with hb
        rw [hb] at h3
        cases h3 with
        | cons q _ => obtain ⟨a, dx, e, _⟩ := q; cases e
      refine K0 _ fl r (F ++ [⟨told, ap, x, y⟩]) (told + 1) ?_ ((hB4.keep kk (fun e => by rcases e with e | e; exact nbp e; exact nbf e)).ex e9 |>.le (by omega)) ⟨hs9, ⟨xq ++ [.ref t], upd_same, Paired.snoc (Paired.imp prq5 fun v f h => h.mono e9) ⟨t, rfl, upd_new (upd_new upd_same hp1) hr⟩⟩, ?_, ?_, bo.ag.add nn, ?_, ?_, by have := bo.t0; omega, ?_⟩ (by simp) (.inr ⟨rfl, ⟨told, ap, x, y⟩, List.mem_append_right _ List.mem_cons_self, rfl⟩)
      · exact kp04.trans ((kk.imp fun a h => .inr h).trans (Keep.of e9))
      · obtain ⟨_, hf9, _⟩ := (hs5.ex (e6.trans (e7.trans e8))).ls
        exact (ne_of_none hf9 hr).symm
      · show ((F ++ [(⟨told, ap, x, y⟩ : Fc)]).map (fun g => g.n)).Nodup
        rw [List.map_append, List.nodup_append]
        refine ⟨bo.uq, by simp, fun a ha c hc => ?_⟩
        obtain ⟨g, hg, rfl⟩ := List.mem_map.mp ha
        rw [List.mem_singleton.mp hc]
        have := bo.lt g hg
        show g.n ≠ told
        omega
      · intro g hg
        rcases List.mem_append.mp hg with h | h
        · have := bo.lt g h; omega
        · rw [List.mem_singleton.mp h]; show told < told + 1; omega
      · intro g hg
        rcases List.mem_append.mp hg with h | h
        · exact bo.nn g h
        · rw [List.mem_singleton.mp h]; exact bo.t0
      · intro g hg
        rcases List.mem_append.mp hg with h | h
        · exact bo.gw g h
        · rw [List.mem_singleton.mp h]; exact ⟨gx, gy⟩
    · -- refused
      have bo5 := bo4.ex e5
      have hdue : areV F x y = .bl ap := areV_of bo.ag ⟨_, pth⟩
      refine ⟨.ref q, x, y, ap, F, rfl, bo5.fv, few', fun H6 e6 => ⟨_, rfl, ?_⟩⟩
      rw [decide_eq_true hdue]
      refine iteF ?_
      have hr6 := e6 _ _ hr
      refine ⟨_, _, .type "list", _, true, rfl, .ty "list", .base (.lst hr6), kit_ty (by decide +kernel), true, rfl, iteF ?_⟩
      refine ⟨_, .ref l, .inl (.inl (.inl hr6)), atI_nat (j := 1) rfl, .inr ⟨_, rfl, ?_⟩⟩
      rw [esame]
      refine ⟨l, .ref q, x, y, !ap, ns, F, ?_, (bo5.ex e6).fv, few', bo.uq, e6 _ _ hl, pth, mn, fun H7 e7 => ⟨_, rfl, iteF ?_⟩⟩
      · cases ap <;> rfl
      · have e47 := (e5.trans e6).trans e7
        exact K0 _ fl q F told (kp04.trans (Keep.of e47)) ((hB4.ex e47).le (by omega)) (bo4.ex e47) (by omega) (.inl rfl)
end MC
namespace MC
open PySem PySem.Spec PyProof.Rows L2

theorem ok_law {K : PySem.W.Frag} {mg : Str → Option Value} {base : Heap} {A : Ad} {fd : FuncData} (F : Fun K "law" "law" s_law A.f_law fd) (T : Txt K mg A)
    (O_Sames_init : Ok A.P A.w K mg base 1 A.f_Sames_init ["self"] (sp_Sames_init K A))
    (O_l_cell : Ok A.P A.w K mg base 1 A.f_l_cell ["_law_script", "_law_k"] (sp_l_cell K A))
    (O_l_box : Ok A.P A.w K mg base 1 A.f_l_box ["_law_cell_here"] (sp_l_box K A))
    (O_l_take : Ok A.P A.w K mg base 1 A.f_l_take ["_law_box_here", "_law_many"] (sp_l_take K A))
    (O_Sames_facts : Ok A.P A.w K mg base 2 A.f_Sames_facts ["self"] (sp_Sames_facts K A))
    (O_l_cased : Ok A.P A.w K mg base 2 A.f_l_cased ["_law_box_here", "_law_pool_here"] (sp_l_cased K A))
    (O_l_pool : Ok A.P A.w K mg base 3 A.f_l_pool ["_law_box_here"] (sp_l_pool K A))
    (O_l_row_right : Ok A.P A.w K mg base 5 A.f_l_row_right ["_law_house", "_law_facts", "_law_one", "_law_pool_here"] (sp_l_row_right K A))
    (O_l_deed : Ok A.P A.w K mg base 7 A.f_l_deed ["_law_box_here", "_law_house", "_law_pool_here", "_law_facts", "_law_told_here"] (sp_l_deed K A)) :
    FnG A.P A.w K mg base 8 A.f_law fd ["_law_script"] (sp_law K A) := by
  have sc := sc_law
  refine F.okG sc (fun vs H Q E h => by obtain ⟨_, _, rfl, _⟩ := h; rfl) (fun cdv Ar outer s H vs Q E hr hgd h => ?_)
  have hu := hu_of hr
  have hu64 : (Ar.deeper (envOfC "law" (defScope s_law) s.heap.objs.size A.f_law cdv)).units + 64 < cLine := hr.units
  have hu65 : (Ar.deeper (envOfC "law" (defScope s_law) s.heap.objs.size A.f_law cdv)).units + 65 < cLine := by have := hr.un; omega
  refine ⟨_, (pss_cons (ps_for (passes_of rfl) rfl (pi_range1 (by rfl) T.b_range (pa_cons (pe_callB (call_max2 rfl) (by rfl) T.b_max (by decide +kernel) (pa_cons pe_int (pa_cons (pe_callB (call_min2 rfl) (by rfl) T.b_min (by decide +kernel) (pa_cons pe_int (pa_cons (pe_callB call_lenU (by rfl) T.b_len (by decide +kernel) (pa_cons (pvU 0) pa_nil)) pa_nil))) pa_nil))) pa_nil)) (pg_name (i := 1) sc.nd rfl (Or.inl rfl)) (pss_cons (ps_set (i := 2) sc.nd rfl (Or.inl rfl) (pe_callO O_l_box hr hgd (by decide) (by rfl) T.g_l_box (fun _ => passN) (pa_cons (pe_callO O_l_cell hr hgd (by decide) (by rfl) T.g_l_cell (fun _ => passN) (pa_cons (pvU 0) (pa_cons (pvU 1) pa_nil))) pa_nil))) (pss_cons (ps_set (i := 3) sc.nd rfl (Or.inr rfl) (pe_callO O_l_cased hr hgd (by decide) (by rfl) T.g_l_cased (fun _ => passN) (pa_cons (pvU 2) (pa_cons (pe_callO O_l_pool hr hgd (by decide) (by rfl) T.g_l_pool (fun _ => passN) (pa_cons (pvU 2) pa_nil)) pa_nil)))) (pss_cons (ps_set (i := 4) sc.nd rfl (Or.inr rfl) (pe_makeO0 T.mk_Sames O_Sames_init hr hgd (by decide) (by rfl) T.g_Sames (fun _ => passN))) (pss_cons (ps_set (i := 5) sc.nd rfl (Or.inr rfl) (pe_lst pa_nil)) (pss_cons (ps_set (i := 6) sc.nd rfl (Or.inl rfl) pe_int) (pss_cons (ps_for (passes_of rfl) rfl (pi_range1 (by rfl) T.b_range (pa_cons (pe_op op_addU pe_int (pe_callO O_l_take hr hgd (by decide) (by rfl) T.g_l_take (fun _ => passN) (pa_cons (pvU 2) (pa_cons pe_int pa_nil)))) pa_nil)) (pg_name (i := 7) sc.nd rfl (Or.inl rfl)) (pss_cons (ps_set (i := 5) sc.nd rfl (Or.inr rfl) (pe_callO O_l_deed hr hgd (by decide) (by rfl) T.g_l_deed (fun _ => passN) (pa_cons (pvU 2) (pa_cons (pvU 4) (pa_cons (pvU 3) (pa_cons (pvU 5) (pa_cons (pvU 6) pa_nil))))))) (pss_cons (ps_if (pt_cmpR op_isN (pvU 5) pe_non (nomark _)) (pss_one (ps_ret pe_bl)) pss_nil) (pss_cons (ps_set (i := 6) sc.nd rfl (Or.inl rfl) (pe_callB (call_max2 rfl) (by rfl) T.b_max (by decide +kernel) (pa_cons (pvU 6) (pa_cons (pe_op op_addU (pe_maxD hu64 rfl (by rfl) T.b_max (pe_lc (own := [("_law_fact", 8)]) (g := (gName 8)) (tt := tYes) (by rfl) sc.nd (pi_list (pvU 5)) (blkOk_by (own := [("_law_fact", 8)]) (N := ["_law_script", "_law_k", "_law_box_here", "_law_pool_here", "_law_house", "_law_facts", "_law_count", "_law_turn", "_law_fact", "_law_one"]) (sc := defScope s_law) (by decide +kernel)) (fun _ _ _ _ _ => (pg_name (i := 8) sc.nd rfl (Or.inl rfl))) (fun _ _ _ _ _ => pts_nil) (fun _ _ _ _ _ => (pe_ix (kIx (K := K)) (pvU 8) pe_int (fun _ _ => rfl)))) pe_negc) pe_int) pa_nil)))) (pss_cons (ps_if (pt_cmpR (op_neU hu64) (pe_callB (call_reprU hu64 hgd) (by rfl) T.b_repr (by decide +kernel) (pa_cons (pe_methO0 (pvU 4) T.cl_Sames T.m_Sames_facts O_Sames_facts hr hgd (by decide) (fun _ => passN)) pa_nil)) (pe_callB (call_reprU hu64 hgd) (by rfl) T.b_repr (by decide +kernel) (pa_cons (pvU 5) pa_nil)) (nomark _)) (pss_one (ps_ret pe_bl)) pss_nil) (pss_one (ps_if (pt_not (pt_val (pe_callO O_l_row_right hr hgd (by decide) (by rfl) T.g_l_row_right (fun _ => passN) (pa_cons (pvU 4) (pa_cons (pvU 5) (pa_cons (pe_ix ix_U (pvU 3) (pe_callO O_l_take hr hgd (by decide) (by rfl) T.g_l_take (fun _ => passN) (pa_cons (pvU 2) (pa_cons (pe_callB call_lenU (by rfl) T.b_len (by decide +kernel) (pa_cons (pvU 3) pa_nil)) pa_nil))) (fun _ _ => rfl)) (pa_cons (pvU 3) pa_nil))))))) (pss_one (ps_ret pe_bl)) pss_nil))))))) (pss_one (ps_if (pt_cmpR (op_neU hu64) (pe_lc (own := [("_law_one", 9)]) (g := (gName 9)) (by rfl) sc.nd (pi_list (pvU 3)) (blkOk_by (own := [("_law_one", 9)]) (N := ["_law_script", "_law_k", "_law_box_here", "_law_pool_here", "_law_house", "_law_facts", "_law_count", "_law_turn", "_law_fact", "_law_one"]) (sc := defScope s_law) (by decide +kernel)) (fun _ _ _ _ _ => (pg_name (i := 9) sc.nd rfl (Or.inl rfl))) (fun _ _ _ _ _ => (pts_one (pt_not (pt_val (pe_callO O_l_row_right hr hgd (by decide) (by rfl) T.g_l_row_right (fun _ => passN) (pa_cons (pvU 4) (pa_cons (pvU 5) (pa_cons (pvU 9) (pa_cons (pvU 3) pa_nil))))))))) (fun _ _ _ _ _ => (pvU 9))) (pe_lst pa_nil) (nomark _)) (pss_one (ps_ret pe_bl)) pss_nil))))))))) (pss_one (ps_ret pe_bl))), ?_⟩
  obtain ⟨a, ns, rfl, hO, hS, l63, q⟩ := h
  have old : ∀ {H' : Hp} {x : Addr} {o : HO}, Ex H H' → H' x = some o → (∀ ob xs, o ≠ .frz ob (.lst xs)) → H x = none := by
    intro H' x o e hx nf
    rcases hO x with h | ⟨ob, xs, h⟩
    · exact h
    · have := e _ _ h
      rw [hx] at this
      exact absurd (Option.some.inj this) (nf ob xs)
  refine .inl ⟨_, .inl hS, 4, _, rfl, 2, _, rfl, ?_⟩
  generalize hm : (if (if (((ns.map V.int).length : Nat) : Int) < 4 then (((ns.map V.int).length : Nat) : Int) else 4) > 2 then (if (((ns.map V.int).length : Nat) : Int) < 4 then (((ns.map V.int).length : Nat) : Int) else 4) else 2) = mm
  have mm0 : 0 ≤ mm ∧ mm ≤ 4 := by
    rw [← hm]
    split <;> split <;> omega
  refine ⟨mm, rfl, by omega, by omega, for_range (lo := 0) (n := mm.toNat) (fun i σ H1 => ∃ o1 o2 o3 o4 o5 o6 o7 : Option V, σ = [some (.ref a), o1, o2, o3, o4, o5, o6, o7, none, none] ∧ Ex H H1) ⟨none, none, none, none, none, none, none, rfl, Ex.refl _⟩ ?_ (fun σ H1 _ => q H1)⟩
  rintro i σ H1 hi ⟨o1, o2, o3, o4, o5, o6, o7, rfl, e1⟩
  -- the box
  refine ⟨a, ns, i, ?_, sqL_ex hS e1, l63, fun c => ⟨c, rfl, fun b H2 hb e2 hB2 => ?_⟩⟩
  · rw [Int.zero_add]
  have hb0 : H b = none := Ex.fresh e1 hb
  -- the pool
  refine ⟨b, 0, rfl, hB2, by decide, fun pq H3 ws0 hpq kp3 hB3 hq3 gw0 l2 l12 => ?_⟩
  refine ⟨b, pq, 0 + 200, ws0, rfl, hB3, by decide, hq3, gw0, l2, l12, fun pp H4 ws hpp kp4 hB4 h4 gw l2' l12' => ?_⟩
  have toEx : ∀ {Ha Hb : Hp}, Ex H Ha → Keep (One b) Ha Hb → Ex H Hb := fun e k x o hx => k _ _ (e _ _ hx) (fun z => by rw [show x = b from z, hb0] at hx; cases hx)
  have e4 : Ex H H4 := toEx (toEx (e1.trans e2) kp3) kp4
  -- the house
  intro p dx hp hdx npd
  refine ⟨p, dx, rfl, upd_same, fun fl H5 hfl kp5 hs5 => ⟨rfl, ?_⟩⟩
  have hp0 : H p = none := Ex.fresh e4 hp
  have e45 : Ex H4 (upd (upd H4 dx (.own p)) p (.ins A.Sames dx [])) := (Ex.new hdx).trans (Ex.new (by rw [upd_ne npd.symm]; exact hp))
  have k45 : ∀ x o, H4 x = some o → H5 x = some o := fun x o hx => kp5 _ _ (e45 _ _ hx) (fun z => by rw [show x = p from z, hp] at hx; cases hx)
  have e5 : Ex H H5 := e4.trans k45
  have hB5 := hB4.ex k45
  have hpp5 := k45 _ _ h4
  have atW : ∀ d : Int, 0 ≤ d → d < ((ws.map V.str).length : Int) → ∃ z, atI (ws.map V.str) d = some (.str z) ∧ GoodW z := by
    intro d h0 h1
    rw [List.length_map] at h1
    obtain ⟨k, rfl⟩ : ∃ k : Nat, d = k := ⟨d.toNat, by omega⟩
    have hk : k < ws.length := by omega
    exact ⟨ws[k], atI_nat (by rw [List.getElem?_map, List.getElem?_eq_getElem hk]; rfl), gw _ (List.getElem_mem hk)⟩
  have lw : ((ws.map V.str).length : Int) = ws.length := by rw [List.length_map]
  refine ⟨by show 0 ≤ sizeLine; decide, fun q0 hq0 => ?_⟩
  have bo0 : Both A.Fact A.Sames (upd H5 q0 (.lst [])) p fl q0 [] 0 := by
    have e6 : Ex H5 (upd H5 q0 (.lst [])) := Ex.new hq0
    obtain ⟨_, hf5, _⟩ := hs5.ls
    exact ⟨hs5.ex e6, ⟨[], upd_same, .nil⟩, (ne_of_none hf5 hq0).symm, List.nodup_nil, Agree.nil, fun g hg => (by cases hg), fun g hg => (by cases hg), (by decide), fun g hg => (by cases hg)⟩
  have e6 : Ex H (upd H5 q0 (.lst [])) := e5.trans (Ex.new hq0)
  have hB6 : BoxAt (upd H5 q0 (.lst [])) b 400 := (hB5.new hq0).le (by omega)
  have hpp6 := upd_new (u := .lst []) hpp5 hq0
  -- the deeds
  refine ⟨b, 20, 400, rfl, hB6, by decide, by decide, by decide, fun d7 H7 g7 g7' hB7 kp7 => ?_⟩
  have bo7 := bo0.keep kp7 hB6
  have e7 : Ex H H7 := toEx e6 kp7
  have hpp7 := kp7 _ _ hpp6 (pool_box hB6 hpp6 l2')
  refine ⟨2 + d7, rfl, by omega, by omega, for_range (lo := 0) (n := (2 + d7).toNat) (fun j σ H1 => ∃ (fl q : Addr) (F : List Fc) (told : Int) (o7 : Option V), σ = [some (.ref a), some (.int (0 + (i : Int))), some (.ref b), some (.ref pp), some (.ref p), some (.ref q), some (.int told), o7, none, none] ∧ Ex H H1 ∧ BoxAt H1 b (401 + 20 * j) ∧ H1 pp = some (.lst (ws.map V.str)) ∧ Both A.Fact A.Sames H1 p fl q F told ∧ F.length ≤ j ∧ told ≤ j) ⟨fl, q0, [], 0, o7, rfl, e7, hB7, hpp7, bo7, Nat.le_refl _, by decide⟩ ?_ ?_⟩
  · rintro j σ H1 hj ⟨fl, q, F, told, o7, rfl, e1, hB1, hpp1, bo1, lF, lt⟩
    have hj' : j < 21 := by omega
    have hb1 := hb0
    have hfl0 : H fl = none := by
      obtain ⟨xs, hf, _⟩ := bo1.hs.ls
      exact old e1 hf (fun ob xs z => by cases z)
    refine ⟨b, p, pp, fl, q, 401 + 20 * j, ws, F, told, rfl, hB1, by omega, hpp1, gw, l2', l12', bo1, by omega, by omega, fun H2 fl2 q2 F2 told2 kp2 hB2 bo2 lF2 ht => ?_⟩
    have e2 : Ex H H2 := fun x o hx => kp2 _ _ (e1 _ _ hx) (fun z => by
      rcases z with z | z | z
      · rw [z, hb0] at hx; cases hx
      · rw [z, hp0] at hx; cases hx
      · rw [z, hfl0] at hx; cases hx)
    have hpp2 := kp2 _ _ hpp1 (fun z => by
      have n := pool_ne bo1.hs hpp1 l2'
      rcases z with z | z | z
      · exact pool_box hB1 hpp1 l2' z
      · exact n.1 z
      · exact n.2 z)
    refine ⟨rfl, _, rfl, iteD (fun h => by cases h) (fun _ => ?_)⟩
    dsimp only [nextAp]
    have few2 : F2.length ≤ 1000 := by omega
    have tl2 : told2 ≤ 1000 := by rcases ht with h | ⟨h, _⟩ <;> omega
    obtain ⟨xq, hq2, prq2⟩ := bo2.fs
    have lxq : xq.length = F2.length := Paired.length prq2
    refine sA (fun v H' => v = .int told2 ∧ Ex H2 H') (fun Q' hQ' => ?_) ?_
    · refine ⟨q2, rfl, ⟨_, .inl (.inl hq2)⟩, fun D hD => lc_list (fun i H' => H' = upd H2 D (.lst ((F2.take i).map fun g => V.int g.n))) rfl (fun i H' hi e => .inl (.inl (by rw [e]; exact upd_new hq2 hD))) ?_ ?_⟩
      · rintro k z H' hz rfl
        obtain ⟨g, hg, gb, rfl, hgb0⟩ := pair_of prq2 hz
        refine ⟨rfl, yesT ⟨_, .int g.n, .inr (.inl (.inl (upd_new hgb0 hD))), atI_nat (j := 0) rfl, _, upd_same, ?_, ?_⟩⟩
        · rw [List.length_map, List.length_take, sizeLine_eq]; omega
        · rw [upd_upd, List.take_succ, hg, List.map_append]; rfl
      · rintro H' rfl
        have eD : Ex H2 (upd H2 D (.lst ((F2.take xq.length).map fun g => V.int g.n))) := Ex.new hD
        have et : (F2.take xq.length) = F2 := List.take_of_length_le (by rw [lxq]; exact Nat.le_refl _)
        refine ⟨D, F2.map (·.n), -1, rfl, rfl, .inl (.inl (by rw [upd_same, et, List.map_map]; rfl)), fun he => ⟨told, _, rfl, ?_⟩, fun m hm hle => ⟨told, _, rfl, ?_⟩⟩
        · have hF : F2 = [] := List.map_eq_nil_iff.mp he
          have t0 := bo1.t0
          have e : (if (-1 : Int) + 1 > told then (-1 : Int) + 1 else told) = told2 := by
            rcases ht with h | ⟨h, g, hg, _⟩
            · rw [h, if_neg (by omega)]
            · rw [hF] at hg; cases hg
          rw [e]
          exact hQ' _ _ ⟨rfl, eD⟩
        · obtain ⟨g, hg, eg⟩ := List.mem_map.mp hm
          have h1 := bo2.lt g hg
          have eg' : g.n = m := eg
          have e : (if m + 1 > told then m + 1 else told) = told2 := by
            rcases ht with h | ⟨h, g', hg', eg2⟩
            · rw [h, if_neg (by omega)]
            · have h3 := hle g'.n (List.mem_map.mpr ⟨g', hg', rfl⟩)
              rw [if_pos (by omega)]; omega
          rw [e]
          exact hQ' _ _ ⟨rfl, eD⟩
    rintro v H3 ⟨rfl, e3⟩
    have bo3 := bo2.ex e3
    have hB3 := hB2.ex e3
    have hpp3 := e3 _ _ hpp2
    -- the facts shown
    obtain ⟨dxp, hp3⟩ := bo3.hs.ob
    obtain ⟨s1, s2, s3⟩ := facts_show (bo2.show tl2) few2
    refine ⟨⟨p, dxp, _, rfl, hp3, rfl⟩, p, fl2, F2, told2, rfl, bo3.hs, few2, fun H4 v e4 hv => ?_⟩
    obtain ⟨vp, vx, rfl, hv4, prv4⟩ := hv
    have bo4 := bo3.ex e4
    obtain ⟨xq4, hq4, prq4⟩ := bo4.fs
    refine ⟨_, factsD F2, rfl, .lst (.inl (.inl hv4)) (facts_dp prv4), s1, s2, s3, _, factsD F2, rfl, .lst (.inl (.inl hq4)) (facts_dp prq4), s1, s2, s3, _, rfl, ?_⟩
    rw [decide_eq_true rfl]
    refine iteF ?_
    -- a row
    have hB4 := hB3.ex e4
    have hpp4 := e4 _ _ hpp3
    refine .inl ⟨_, .inl (.inl (.inl hpp4)), b, _, 401 + 20 * j + 10, rfl, hB4, by omega, by omega, by omega, fun d5 H5 g5 g5' hB5 kp5 => ?_⟩
    obtain ⟨z, hz, gz⟩ := atW d5 g5 g5'
    have hpp5 := kp5 _ _ hpp4 (pool_box hB4 hpp4 l2')
    have bo5 := bo4.keep kp5 hB4
    have e5 : Ex H H5 := toEx ((e2.trans e3).trans e4) kp5
    refine ⟨_, .str z, .inl (.inl (.inl hpp5)), hz, p, fl2, pp, .ref q2, z, ws, F2, told2, rfl, bo5.hs, bo5.fv, few2, hpp5, gz, gw, fun H6 e6 => ⟨_, rfl, iteF ?_⟩⟩
    refine ⟨fl2, q2, F2, told2, _, rfl, e5.trans e6, (hB5.ex e6).le (by omega), e6 _ _ hpp5, bo5.ex e6, by omega, ?_⟩
    rcases ht with h | ⟨h, _⟩ <;> omega
  · rintro σ H1 ⟨fl, q, F, told, o7, rfl, e1, hB1, hpp1, bo1, lF, lt⟩
    have few1 : F.length ≤ 1000 := by omega
    refine ⟨pp, rfl, ⟨_, .inl (.inl hpp1)⟩, fun D hD => lc_list (fun i H' => H' D = some (.lst []) ∧ Ex H1 H') ⟨upd_same, Ex.new hD⟩ (fun i H' hi ⟨_, e⟩ => .inl (.inl (e _ _ hpp1))) ?_ ?_⟩
    · rintro k z H2 hz ⟨hD2, e2⟩
      rw [List.getElem?_map] at hz
      obtain ⟨y, hy, rfl⟩ := Option.map_eq_some_iff.mp hz
      have bo2 := bo1.ex e2
      refine ⟨rfl, p, fl, pp, .ref q, y, ws, F, told, rfl, bo2.hs, bo2.fv, few1, e2 _ _ hpp1, gw y (List.mem_of_getElem? hy), gw, fun H3 e3 => ⟨_, rfl, iteF ⟨e3 _ _ hD2, e2.trans e3⟩⟩⟩
    · rintro H2 ⟨hD2, e2⟩
      refine ⟨by show 0 ≤ sizeLine; decide, fun p2 hp2 => .inl ⟨D, p2, [], rfl, rfl, .inl (.inl (upd_new hD2 hp2)), .inl (.inl upd_same), _, rfl, iteF ?_⟩⟩
      exact ⟨_, _, _, _, _, _, _, rfl, (e1.trans e2).trans (Ex.new hp2)⟩
end MC
namespace MC
open PySem PySem.Spec PyProof.Rows L2
theorem all_mk {l : PySem.W.OpenLaw} {w : World} {K : PySem.W.Frag} {h : Heap} {mg : Str → Option Value} {fa c_CustomsError c_Clash c_Fact c_Sames f_Clash_init f_letters_in f_Fact_init f_Fact_beyond f_Fact_shown f_Sames_init f_l_cell f_l_box f_l_take f_l_beyond f_is_word f_Sames_led f_Sames_facts f_l_word_letters f_l_cased f_l_levels f_l_walk_right f_need_words f_Sames_take_back f_l_pool f_l_are f_l_fewest_right f_Sames_taken_up f_Sames_are f_l_due f_Sames_same f_Sames_apart f_l_row_right f_l_told f_l_deed f_law : Addr} (X : K.In h) (G : h.Ns mainGlobals mg) (hfa : mg "law" = some (.ref fa))
    {od0 an0 od1 an1 od2 an2 od3 an3 od4 an4 od5 an5 od6 an6 od7 an7 od8 an8 od9 an9 od10 an10 od11 an11 od12 an12 od13 an13 od14 an14 od15 an15 od16 an16 od17 an17 od18 an18 od19 an19 od20 an20 od21 an21 od22 an22 od23 an23 od24 an24 od25 an25 od26 an26 od27 an27 od28 an28 od29 an29 od30 an30 : Option Addr} {sl0 sl1 sl2 sl3 sl4 sl5 sl6 sl7 sl8 sl9 sl10 sl11 sl12 sl13 sl14 sl15 sl16 sl17 sl18 sl19 sl20 sl21 sl22 sl23 sl24 sl25 sl26 sl27 sl28 sl29 sl30 : Array (Option Value)} {oc0 kV0 dc0 pm0 cd0 ct0 oc1 kV1 dc1 pm1 cd1 ct1 oc2 kV2 dc2 pm2 cd2 ct2 oc3 kV3 dc3 pm3 cd3 ct3 oc4 kV4 dc4 pm4 cd4 ct4 oc5 kV5 dc5 pm5 cd5 ct5 oc6 kV6 dc6 pm6 cd6 ct6 oc7 kV7 dc7 pm7 cd7 ct7 oc8 kV8 dc8 pm8 cd8 ct8 oc9 kV9 dc9 pm9 cd9 ct9 oc10 kV10 dc10 pm10 cd10 ct10 oc11 kV11 dc11 pm11 cd11 ct11 oc12 kV12 dc12 pm12 cd12 ct12 oc13 kV13 dc13 pm13 cd13 ct13 oc14 kV14 dc14 pm14 cd14 ct14 oc15 kV15 dc15 pm15 cd15 ct15 oc16 kV16 dc16 pm16 cd16 ct16 oc17 kV17 dc17 pm17 cd17 ct17 oc18 kV18 dc18 pm18 cd18 ct18 oc19 kV19 dc19 pm19 cd19 ct19 oc20 kV20 dc20 pm20 cd20 ct20 oc21 kV21 dc21 pm21 cd21 ct21 oc22 kV22 dc22 pm22 cd22 ct22 oc23 kV23 dc23 pm23 cd23 ct23 oc24 kV24 dc24 pm24 cd24 ct24 oc25 kV25 dc25 pm25 cd25 ct25 oc26 kV26 dc26 pm26 cd26 ct26 oc27 kV27 dc27 pm27 cd27 ct27 oc28 kV28 dc28 pm28 cd28 ct28 oc29 kV29 dc29 pm29 cd29 ct29 oc30 kV30 dc30 pm30 cd30 ct30 : Value}
    {xn_Clash xq_Clash : Str} {xN_Clash : Addr} {xb_Clash : List Value} {xs_Clash : List Str} {xu_Clash : List Value} {xa_Clash : Bool} {xc_Clash : Option Bool} {xd_Clash : Option Addr} {x0_Clash x1_Clash x2_Clash x3_Clash x5_Clash : Option Value}
    {u_SMALL : Value}
    {u_CAPITALS : Value}
    {u_MARKS : Value}
    {u_MOST_LETTERS : Value}
    (n_CustomsError : PySem.W.nsIn K mainGlobals "CustomsError" = some (some (.ref c_CustomsError)))
    (n_Clash : PySem.W.nsIn K mainGlobals "Clash" = some (some (.ref c_Clash)))
    (n_Fact : PySem.W.nsIn K mainGlobals "Fact" = some (some (.ref c_Fact)))
    (n_Sames : PySem.W.nsIn K mainGlobals "Sames" = some (some (.ref c_Sames)))
    (a0 : PySem.W.findIn K (.ref c_Clash) "__init__" = some (some (.ref f_Clash_init)))
    (t0 : PySem.W.typeIn K (.ref f_Clash_init) = some (.type "function"))
    (l0 : K.lookup f_Clash_init = some ⟨oc0, od0, .func (PySem.W.fnOf "__init__" "Clash.__init__" (defArgs s_Clash_init) (defBody s_Clash_init) (defScope s_Clash_init) .none kV0 dc0 pm0 an0 cd0 ct0), sl0⟩)
    (c0 : PySem.W.codeIn K cd0 "Clash.__init__" = true)
    (k0 : PySem.W.keepIn K (.ref f_Clash_init) = true)
    (a1 : PySem.W.nsIn K mainGlobals "letters_in" = some (some (.ref f_letters_in)))
    (l1 : K.lookup f_letters_in = some ⟨oc1, od1, .func (PySem.W.fnOf "letters_in" "letters_in" (defArgs s_letters_in) (defBody s_letters_in) (defScope s_letters_in) .none kV1 dc1 pm1 an1 cd1 ct1), sl1⟩)
    (c1 : PySem.W.codeIn K cd1 "letters_in" = true)
    (k1 : PySem.W.keepIn K (.ref f_letters_in) = true)
    (a2 : PySem.W.findIn K (.ref c_Fact) "__init__" = some (some (.ref f_Fact_init)))
    (i2 : PySem.W.isFn K (.ref f_Fact_init) = true)
    (l2 : K.lookup f_Fact_init = some ⟨oc2, od2, .func (PySem.W.fnOf "__init__" "Fact.__init__" (defArgs s_Fact_init) (defBody s_Fact_init) (defScope s_Fact_init) .none kV2 dc2 pm2 an2 cd2 ct2), sl2⟩)
    (c2 : PySem.W.codeIn K cd2 "Fact.__init__" = true)
    (k2 : PySem.W.keepIn K (.ref f_Fact_init) = true)
    (a3 : PySem.W.findIn K (.ref c_Fact) "beyond" = some (some (.ref f_Fact_beyond)))
    (i3 : PySem.W.isFn K (.ref f_Fact_beyond) = true)
    (l3 : K.lookup f_Fact_beyond = some ⟨oc3, od3, .func (PySem.W.fnOf "beyond" "Fact.beyond" (defArgs s_Fact_beyond) (defBody s_Fact_beyond) (defScope s_Fact_beyond) .none kV3 dc3 pm3 an3 cd3 ct3), sl3⟩)
    (c3 : PySem.W.codeIn K cd3 "Fact.beyond" = true)
    (k3 : PySem.W.keepIn K (.ref f_Fact_beyond) = true)
    (a4 : PySem.W.findIn K (.ref c_Fact) "shown" = some (some (.ref f_Fact_shown)))
    (i4 : PySem.W.isFn K (.ref f_Fact_shown) = true)
    (l4 : K.lookup f_Fact_shown = some ⟨oc4, od4, .func (PySem.W.fnOf "shown" "Fact.shown" (defArgs s_Fact_shown) (defBody s_Fact_shown) (defScope s_Fact_shown) .none kV4 dc4 pm4 an4 cd4 ct4), sl4⟩)
    (c4 : PySem.W.codeIn K cd4 "Fact.shown" = true)
    (k4 : PySem.W.keepIn K (.ref f_Fact_shown) = true)
    (a5 : PySem.W.findIn K (.ref c_Sames) "__init__" = some (some (.ref f_Sames_init)))
    (i5 : PySem.W.isFn K (.ref f_Sames_init) = true)
    (l5 : K.lookup f_Sames_init = some ⟨oc5, od5, .func (PySem.W.fnOf "__init__" "Sames.__init__" (defArgs s_Sames_init) (defBody s_Sames_init) (defScope s_Sames_init) .none kV5 dc5 pm5 an5 cd5 ct5), sl5⟩)
    (c5 : PySem.W.codeIn K cd5 "Sames.__init__" = true)
    (k5 : PySem.W.keepIn K (.ref f_Sames_init) = true)
    (a6 : PySem.W.nsIn K mainGlobals "_law_cell" = some (some (.ref f_l_cell)))
    (l6 : K.lookup f_l_cell = some ⟨oc6, od6, .func (PySem.W.fnOf "_law_cell" "_law_cell" (defArgs s_l_cell) (defBody s_l_cell) (defScope s_l_cell) .none kV6 dc6 pm6 an6 cd6 ct6), sl6⟩)
    (c6 : PySem.W.codeIn K cd6 "_law_cell" = true)
    (k6 : PySem.W.keepIn K (.ref f_l_cell) = true)
    (a7 : PySem.W.nsIn K mainGlobals "_law_box" = some (some (.ref f_l_box)))
    (l7 : K.lookup f_l_box = some ⟨oc7, od7, .func (PySem.W.fnOf "_law_box" "_law_box" (defArgs s_l_box) (defBody s_l_box) (defScope s_l_box) .none kV7 dc7 pm7 an7 cd7 ct7), sl7⟩)
    (c7 : PySem.W.codeIn K cd7 "_law_box" = true)
    (k7 : PySem.W.keepIn K (.ref f_l_box) = true)
    (a8 : PySem.W.nsIn K mainGlobals "_law_take" = some (some (.ref f_l_take)))
    (l8 : K.lookup f_l_take = some ⟨oc8, od8, .func (PySem.W.fnOf "_law_take" "_law_take" (defArgs s_l_take) (defBody s_l_take) (defScope s_l_take) .none kV8 dc8 pm8 an8 cd8 ct8), sl8⟩)
    (c8 : PySem.W.codeIn K cd8 "_law_take" = true)
    (k8 : PySem.W.keepIn K (.ref f_l_take) = true)
    (a9 : PySem.W.nsIn K mainGlobals "_law_beyond" = some (some (.ref f_l_beyond)))
    (l9 : K.lookup f_l_beyond = some ⟨oc9, od9, .func (PySem.W.fnOf "_law_beyond" "_law_beyond" (defArgs s_l_beyond) (defBody s_l_beyond) (defScope s_l_beyond) .none kV9 dc9 pm9 an9 cd9 ct9), sl9⟩)
    (c9 : PySem.W.codeIn K cd9 "_law_beyond" = true)
    (k9 : PySem.W.keepIn K (.ref f_l_beyond) = true)
    (a10 : PySem.W.nsIn K mainGlobals "is_word" = some (some (.ref f_is_word)))
    (l10 : K.lookup f_is_word = some ⟨oc10, od10, .func (PySem.W.fnOf "is_word" "is_word" (defArgs s_is_word) (defBody s_is_word) (defScope s_is_word) .none kV10 dc10 pm10 an10 cd10 ct10), sl10⟩)
    (c10 : PySem.W.codeIn K cd10 "is_word" = true)
    (k10 : PySem.W.keepIn K (.ref f_is_word) = true)
    (a11 : PySem.W.findIn K (.ref c_Sames) "led" = some (some (.ref f_Sames_led)))
    (i11 : PySem.W.isFn K (.ref f_Sames_led) = true)
    (l11 : K.lookup f_Sames_led = some ⟨oc11, od11, .func (PySem.W.fnOf "led" "Sames.led" (defArgs s_Sames_led) (defBody s_Sames_led) (defScope s_Sames_led) .none kV11 dc11 pm11 an11 cd11 ct11), sl11⟩)
    (c11 : PySem.W.codeIn K cd11 "Sames.led" = true)
    (k11 : PySem.W.keepIn K (.ref f_Sames_led) = true)
    (a12 : PySem.W.findIn K (.ref c_Sames) "facts" = some (some (.ref f_Sames_facts)))
    (i12 : PySem.W.isFn K (.ref f_Sames_facts) = true)
    (l12 : K.lookup f_Sames_facts = some ⟨oc12, od12, .func (PySem.W.fnOf "facts" "Sames.facts" (defArgs s_Sames_facts) (defBody s_Sames_facts) (defScope s_Sames_facts) .none kV12 dc12 pm12 an12 cd12 ct12), sl12⟩)
    (c12 : PySem.W.codeIn K cd12 "Sames.facts" = true)
    (k12 : PySem.W.keepIn K (.ref f_Sames_facts) = true)
    (a13 : PySem.W.nsIn K mainGlobals "_law_word_letters" = some (some (.ref f_l_word_letters)))
    (l13 : K.lookup f_l_word_letters = some ⟨oc13, od13, .func (PySem.W.fnOf "_law_word_letters" "_law_word_letters" (defArgs s_l_word_letters) (defBody s_l_word_letters) (defScope s_l_word_letters) .none kV13 dc13 pm13 an13 cd13 ct13), sl13⟩)
    (c13 : PySem.W.codeIn K cd13 "_law_word_letters" = true)
    (k13 : PySem.W.keepIn K (.ref f_l_word_letters) = true)
    (a14 : PySem.W.nsIn K mainGlobals "_law_cased" = some (some (.ref f_l_cased)))
    (l14 : K.lookup f_l_cased = some ⟨oc14, od14, .func (PySem.W.fnOf "_law_cased" "_law_cased" (defArgs s_l_cased) (defBody s_l_cased) (defScope s_l_cased) .none kV14 dc14 pm14 an14 cd14 ct14), sl14⟩)
    (c14 : PySem.W.codeIn K cd14 "_law_cased" = true)
    (k14 : PySem.W.keepIn K (.ref f_l_cased) = true)
    (a15 : PySem.W.nsIn K mainGlobals "_law_levels" = some (some (.ref f_l_levels)))
    (l15 : K.lookup f_l_levels = some ⟨oc15, od15, .func (PySem.W.fnOf "_law_levels" "_law_levels" (defArgs s_l_levels) (defBody s_l_levels) (defScope s_l_levels) .none kV15 dc15 pm15 an15 cd15 ct15), sl15⟩)
    (c15 : PySem.W.codeIn K cd15 "_law_levels" = true)
    (k15 : PySem.W.keepIn K (.ref f_l_levels) = true)
    (a16 : PySem.W.nsIn K mainGlobals "_law_walk_right" = some (some (.ref f_l_walk_right)))
    (l16 : K.lookup f_l_walk_right = some ⟨oc16, od16, .func (PySem.W.fnOf "_law_walk_right" "_law_walk_right" (defArgs s_l_walk_right) (defBody s_l_walk_right) (defScope s_l_walk_right) .none kV16 dc16 pm16 an16 cd16 ct16), sl16⟩)
    (c16 : PySem.W.codeIn K cd16 "_law_walk_right" = true)
    (k16 : PySem.W.keepIn K (.ref f_l_walk_right) = true)
    (a17 : PySem.W.nsIn K mainGlobals "need_words" = some (some (.ref f_need_words)))
    (l17 : K.lookup f_need_words = some ⟨oc17, od17, .func (PySem.W.fnOf "need_words" "need_words" (defArgs s_need_words) (defBody s_need_words) (defScope s_need_words) .none kV17 dc17 pm17 an17 cd17 ct17), sl17⟩)
    (c17 : PySem.W.codeIn K cd17 "need_words" = true)
    (k17 : PySem.W.keepIn K (.ref f_need_words) = true)
    (a18 : PySem.W.findIn K (.ref c_Sames) "take_back" = some (some (.ref f_Sames_take_back)))
    (i18 : PySem.W.isFn K (.ref f_Sames_take_back) = true)
    (l18 : K.lookup f_Sames_take_back = some ⟨oc18, od18, .func (PySem.W.fnOf "take_back" "Sames.take_back" (defArgs s_Sames_take_back) (defBody s_Sames_take_back) (defScope s_Sames_take_back) .none kV18 dc18 pm18 an18 cd18 ct18), sl18⟩)
    (c18 : PySem.W.codeIn K cd18 "Sames.take_back" = true)
    (k18 : PySem.W.keepIn K (.ref f_Sames_take_back) = true)
    (a19 : PySem.W.nsIn K mainGlobals "_law_pool" = some (some (.ref f_l_pool)))
    (l19 : K.lookup f_l_pool = some ⟨oc19, od19, .func (PySem.W.fnOf "_law_pool" "_law_pool" (defArgs s_l_pool) (defBody s_l_pool) (defScope s_l_pool) .none kV19 dc19 pm19 an19 cd19 ct19), sl19⟩)
    (c19 : PySem.W.codeIn K cd19 "_law_pool" = true)
    (k19 : PySem.W.keepIn K (.ref f_l_pool) = true)
    (a20 : PySem.W.nsIn K mainGlobals "_law_are" = some (some (.ref f_l_are)))
    (l20 : K.lookup f_l_are = some ⟨oc20, od20, .func (PySem.W.fnOf "_law_are" "_law_are" (defArgs s_l_are) (defBody s_l_are) (defScope s_l_are) .none kV20 dc20 pm20 an20 cd20 ct20), sl20⟩)
    (c20 : PySem.W.codeIn K cd20 "_law_are" = true)
    (k20 : PySem.W.keepIn K (.ref f_l_are) = true)
    (a21 : PySem.W.nsIn K mainGlobals "_law_fewest_right" = some (some (.ref f_l_fewest_right)))
    (l21 : K.lookup f_l_fewest_right = some ⟨oc21, od21, .func (PySem.W.fnOf "_law_fewest_right" "_law_fewest_right" (defArgs s_l_fewest_right) (defBody s_l_fewest_right) (defScope s_l_fewest_right) .none kV21 dc21 pm21 an21 cd21 ct21), sl21⟩)
    (c21 : PySem.W.codeIn K cd21 "_law_fewest_right" = true)
    (k21 : PySem.W.keepIn K (.ref f_l_fewest_right) = true)
    (a22 : PySem.W.findIn K (.ref c_Sames) "taken_up" = some (some (.ref f_Sames_taken_up)))
    (i22 : PySem.W.isFn K (.ref f_Sames_taken_up) = true)
    (l22 : K.lookup f_Sames_taken_up = some ⟨oc22, od22, .func (PySem.W.fnOf "taken_up" "Sames.taken_up" (defArgs s_Sames_taken_up) (defBody s_Sames_taken_up) (defScope s_Sames_taken_up) .none kV22 dc22 pm22 an22 cd22 ct22), sl22⟩)
    (c22 : PySem.W.codeIn K cd22 "Sames.taken_up" = true)
    (k22 : PySem.W.keepIn K (.ref f_Sames_taken_up) = true)
    (a23 : PySem.W.findIn K (.ref c_Sames) "are" = some (some (.ref f_Sames_are)))
    (i23 : PySem.W.isFn K (.ref f_Sames_are) = true)
    (l23 : K.lookup f_Sames_are = some ⟨oc23, od23, .func (PySem.W.fnOf "are" "Sames.are" (defArgs s_Sames_are) (defBody s_Sames_are) (defScope s_Sames_are) .none kV23 dc23 pm23 an23 cd23 ct23), sl23⟩)
    (c23 : PySem.W.codeIn K cd23 "Sames.are" = true)
    (k23 : PySem.W.keepIn K (.ref f_Sames_are) = true)
    (a24 : PySem.W.nsIn K mainGlobals "_law_due" = some (some (.ref f_l_due)))
    (l24 : K.lookup f_l_due = some ⟨oc24, od24, .func (PySem.W.fnOf "_law_due" "_law_due" (defArgs s_l_due) (defBody s_l_due) (defScope s_l_due) .none kV24 dc24 pm24 an24 cd24 ct24), sl24⟩)
    (c24 : PySem.W.codeIn K cd24 "_law_due" = true)
    (k24 : PySem.W.keepIn K (.ref f_l_due) = true)
    (a25 : PySem.W.findIn K (.ref c_Sames) "same" = some (some (.ref f_Sames_same)))
    (i25 : PySem.W.isFn K (.ref f_Sames_same) = true)
    (l25 : K.lookup f_Sames_same = some ⟨oc25, od25, .func (PySem.W.fnOf "same" "Sames.same" (defArgs s_Sames_same) (defBody s_Sames_same) (defScope s_Sames_same) .none kV25 dc25 pm25 an25 cd25 ct25), sl25⟩)
    (c25 : PySem.W.codeIn K cd25 "Sames.same" = true)
    (k25 : PySem.W.keepIn K (.ref f_Sames_same) = true)
    (a26 : PySem.W.findIn K (.ref c_Sames) "apart" = some (some (.ref f_Sames_apart)))
    (i26 : PySem.W.isFn K (.ref f_Sames_apart) = true)
    (l26 : K.lookup f_Sames_apart = some ⟨oc26, od26, .func (PySem.W.fnOf "apart" "Sames.apart" (defArgs s_Sames_apart) (defBody s_Sames_apart) (defScope s_Sames_apart) .none kV26 dc26 pm26 an26 cd26 ct26), sl26⟩)
    (c26 : PySem.W.codeIn K cd26 "Sames.apart" = true)
    (k26 : PySem.W.keepIn K (.ref f_Sames_apart) = true)
    (a27 : PySem.W.nsIn K mainGlobals "_law_row_right" = some (some (.ref f_l_row_right)))
    (l27 : K.lookup f_l_row_right = some ⟨oc27, od27, .func (PySem.W.fnOf "_law_row_right" "_law_row_right" (defArgs s_l_row_right) (defBody s_l_row_right) (defScope s_l_row_right) .none kV27 dc27 pm27 an27 cd27 ct27), sl27⟩)
    (c27 : PySem.W.codeIn K cd27 "_law_row_right" = true)
    (k27 : PySem.W.keepIn K (.ref f_l_row_right) = true)
    (a28 : PySem.W.nsIn K mainGlobals "_law_told" = some (some (.ref f_l_told)))
    (l28 : K.lookup f_l_told = some ⟨oc28, od28, .func (PySem.W.fnOf "_law_told" "_law_told" (defArgs s_l_told) (defBody s_l_told) (defScope s_l_told) .none kV28 dc28 pm28 an28 cd28 ct28), sl28⟩)
    (c28 : PySem.W.codeIn K cd28 "_law_told" = true)
    (k28 : PySem.W.keepIn K (.ref f_l_told) = true)
    (a29 : PySem.W.nsIn K mainGlobals "_law_deed" = some (some (.ref f_l_deed)))
    (l29 : K.lookup f_l_deed = some ⟨oc29, od29, .func (PySem.W.fnOf "_law_deed" "_law_deed" (defArgs s_l_deed) (defBody s_l_deed) (defScope s_l_deed) .none kV29 dc29 pm29 an29 cd29 ct29), sl29⟩)
    (c29 : PySem.W.codeIn K cd29 "_law_deed" = true)
    (k29 : PySem.W.keepIn K (.ref f_l_deed) = true)
    (a30 : PySem.W.nsIn K mainGlobals "law" = some (some (.ref f_law)))
    (l30 : K.lookup f_law = some ⟨oc30, od30, .func (PySem.W.fnOf "law" "law" (defArgs s_law) (defBody s_law) (defScope s_law) .none kV30 dc30 pm30 an30 cd30 ct30), sl30⟩)
    (c30 : PySem.W.codeIn K cd30 "law" = true)
    (k30 : PySem.W.keepIn K (.ref f_law) = true)
    (pg_Fact : PySem.W.plainGet K c_Fact Str.empty = true)
    (hd_Fact : PySem.W.hasDictIn K c_Fact = true)
    (po_Fact : PySem.W.plainOver K c_Fact = true)
    (sa_Fact : PySem.W.findIn K (.ref c_Fact) "__setattr__" = some (some (.builtin "object.__setattr__")))
    (mk_Fact : PySem.W.makesIn K c_Fact = true)
    (kc_Fact : PySem.W.keepIn K (.ref c_Fact) = true)
    (pg_Sames : PySem.W.plainGet K c_Sames Str.empty = true)
    (hd_Sames : PySem.W.hasDictIn K c_Sames = true)
    (po_Sames : PySem.W.plainOver K c_Sames = true)
    (sa_Sames : PySem.W.findIn K (.ref c_Sames) "__setattr__" = some (some (.builtin "object.__setattr__")))
    (mk_Sames : PySem.W.makesIn K c_Sames = true)
    (kc_Sames : PySem.W.keepIn K (.ref c_Sames) = true)
    (na_Fact_kept_number : PySem.W.findIn K (.ref c_Fact) "kept_number" = some none)
    (na_Fact_kept_kind : PySem.W.findIn K (.ref c_Fact) "kept_kind" = some none)
    (na_Fact_kept_one : PySem.W.findIn K (.ref c_Fact) "kept_one" = some none)
    (na_Fact_kept_other : PySem.W.findIn K (.ref c_Fact) "kept_other" = some none)
    (na_Sames_kept_facts : PySem.W.findIn K (.ref c_Sames) "kept_facts" = some none)
    (na_Sames_kept_told : PySem.W.findIn K (.ref c_Sames) "kept_told" = some none)
    (xL_Clash : K.lookup c_Clash = some (excClassObj xn_Clash xq_Clash c_Clash xN_Clash xb_Clash [.ref c_CustomsError, .type "ValueError", .type "Exception", .type "BaseException", .type "object"] true xs_Clash xu_Clash xa_Clash xc_Clash xd_Clash x0_Clash x1_Clash x2_Clash x3_Clash x5_Clash "ValueError.__new__"))
    (sa_Clash : PySem.W.findIn K (.ref c_Clash) "__setattr__" = some (some (.builtin "object.__setattr__")))
    (eC_Clash : PySem.W.subIn K (.ref c_Clash) (.type "BaseException") = some true)
    (tC_Clash : PySem.W.typeIn K (.ref c_Clash) = some (.type "type"))
    (kC_Clash : PySem.W.keepIn K (.ref c_Clash) = true)
    (ga_Clash : PySem.W.findIn K (.ref c_Clash) "__getattribute__" = some (some (.builtin "BaseException.__getattribute__")))
    (gg_Clash : PySem.W.findIn K (.ref c_Clash) "__getattr__" = some none)
    (hC_Clash : PySem.W.hasDictIn K c_Clash = true)
    (nb_Clash : PySem.W.findIn K (.ref c_Clash) "numbers" = some none)
    (rd_CustomsError : PySem.W.readsIn K c_CustomsError (.type "type") = true)
    (gs_CustomsError : PySem.W.specialIn K (.ref c_CustomsError) "__getattribute__" = some (some (.builtin "type.__getattribute__")))
    (it_CustomsError : PySem.W.findCls K (.ref c_CustomsError) (.type "type") "__init__" = some (.val (.builtin "ValueError.__init__")))
    (ei_Clash : PySem.W.isClsIn K c_Clash = true)
    (es_Clash_Clash : PySem.W.subIn K (.ref c_Clash) (.ref c_Clash) = some true)
    (z_bool : PySem.W.nsIn K mainGlobals "bool" = some none)
    (z_int : PySem.W.nsIn K mainGlobals "int" = some none)
    (z_isinstance : PySem.W.nsIn K mainGlobals "isinstance" = some none)
    (z_len : PySem.W.nsIn K mainGlobals "len" = some none)
    (z_list : PySem.W.nsIn K mainGlobals "list" = some none)
    (z_max : PySem.W.nsIn K mainGlobals "max" = some none)
    (z_min : PySem.W.nsIn K mainGlobals "min" = some none)
    (z_range : PySem.W.nsIn K mainGlobals "range" = some none)
    (z_repr : PySem.W.nsIn K mainGlobals "repr" = some none)
    (z_str : PySem.W.nsIn K mainGlobals "str" = some none)
    (d_SMALL : PySem.W.nsIn K mainGlobals "SMALL" = some (some u_SMALL))
    (r_SMALL : RelV (.str "abcdefghijklmnopqrstuvwxyz") u_SMALL)
    (d_CAPITALS : PySem.W.nsIn K mainGlobals "CAPITALS" = some (some u_CAPITALS))
    (r_CAPITALS : RelV (.str "ABCDEFGHIJKLMNOPQRSTUVWXYZ") u_CAPITALS)
    (d_MARKS : PySem.W.nsIn K mainGlobals "MARKS" = some (some u_MARKS))
    (r_MARKS : RelV (.str "'`^~:") u_MARKS)
    (d_MOST_LETTERS : PySem.W.nsIn K mainGlobals "MOST_LETTERS" = some (some u_MOST_LETTERS))
    (r_MOST_LETTERS : RelV (.int 8) u_MOST_LETTERS) :
    ∃ fd : FuncData, (∀ (s : Shared) (v : Value), BindsTo s fd ⟨[v], []⟩ [("_law_script", v)]) ∧ ∀ base : Heap, K.In base → base.Ns mainGlobals mg → FnG l.prog w K mg base 8 fa fd ["_law_script"] (lawSp K) := by
  have e := hfa.symm.trans (PySem.W.mg_of X G a30)
  cases e
  let A : Ad := { P := l.prog, w := w, f_Clash_init := f_Clash_init, f_letters_in := f_letters_in, f_Fact_init := f_Fact_init, f_Fact_beyond := f_Fact_beyond, f_Fact_shown := f_Fact_shown, f_Sames_init := f_Sames_init, f_l_cell := f_l_cell, f_l_box := f_l_box, f_l_take := f_l_take, f_l_beyond := f_l_beyond, f_is_word := f_is_word, f_Sames_led := f_Sames_led, f_Sames_facts := f_Sames_facts, f_l_word_letters := f_l_word_letters, f_l_cased := f_l_cased, f_l_levels := f_l_levels, f_l_walk_right := f_l_walk_right, f_need_words := f_need_words, f_Sames_take_back := f_Sames_take_back, f_l_pool := f_l_pool, f_l_are := f_l_are, f_l_fewest_right := f_l_fewest_right, f_Sames_taken_up := f_Sames_taken_up, f_Sames_are := f_Sames_are, f_l_due := f_l_due, f_Sames_same := f_Sames_same, f_Sames_apart := f_Sames_apart, f_l_row_right := f_l_row_right, f_l_told := f_l_told, f_l_deed := f_l_deed, f_law := fa, CustomsError := c_CustomsError, Clash := c_Clash, Fact := c_Fact, Sames := c_Sames }
  have T : Txt K mg A := { g_letters_in := PySem.W.mg_of X G a1, g_is_word := PySem.W.mg_of X G a10, g_need_words := PySem.W.mg_of X G a17, g_l_cell := PySem.W.mg_of X G a6, g_l_box := PySem.W.mg_of X G a7, g_l_take := PySem.W.mg_of X G a8, g_l_word_letters := PySem.W.mg_of X G a13, g_l_pool := PySem.W.mg_of X G a19, g_l_cased := PySem.W.mg_of X G a14, g_l_beyond := PySem.W.mg_of X G a9, g_l_levels := PySem.W.mg_of X G a15, g_l_are := PySem.W.mg_of X G a20, g_l_walk_right := PySem.W.mg_of X G a16, g_l_fewest_right := PySem.W.mg_of X G a21, g_l_due := PySem.W.mg_of X G a24, g_l_told := PySem.W.mg_of X G a28, g_l_deed := PySem.W.mg_of X G a29, g_l_row_right := PySem.W.mg_of X G a27, g_law := PySem.W.mg_of X G a30, g_CustomsError := PySem.W.mg_of X G n_CustomsError, g_Clash := PySem.W.mg_of X G n_Clash, g_Fact := PySem.W.mg_of X G n_Fact, g_Sames := PySem.W.mg_of X G n_Sames, b_bool := PySem.W.mg_none_of X G z_bool, b_int := PySem.W.mg_none_of X G z_int, b_isinstance := PySem.W.mg_none_of X G z_isinstance, b_len := PySem.W.mg_none_of X G z_len, b_list := PySem.W.mg_none_of X G z_list, b_max := PySem.W.mg_none_of X G z_max, b_min := PySem.W.mg_none_of X G z_min, b_range := PySem.W.mg_none_of X G z_range, b_repr := PySem.W.mg_none_of X G z_repr, b_str := PySem.W.mg_none_of X G z_str, c_SMALL := ⟨_, PySem.W.mg_of X G d_SMALL, r_SMALL⟩, c_CAPITALS := ⟨_, PySem.W.mg_of X G d_CAPITALS, r_CAPITALS⟩, c_MARKS := ⟨_, PySem.W.mg_of X G d_MARKS, r_MARKS⟩, c_MOST_LETTERS := ⟨_, PySem.W.mg_of X G d_MOST_LETTERS, r_MOST_LETTERS⟩, cl_Fact := ⟨pg_Fact, hd_Fact, po_Fact, sa_Fact⟩, mk_Fact := ⟨mk_Fact, a2, i2, kc_Fact⟩, cl_Sames := ⟨pg_Sames, hd_Sames, po_Sames, sa_Sames⟩, mk_Sames := ⟨mk_Sames, a5, i5, kc_Sames⟩, na_Fact_kept_number := na_Fact_kept_number, na_Fact_kept_kind := na_Fact_kept_kind, na_Fact_kept_one := na_Fact_kept_one, na_Fact_kept_other := na_Fact_kept_other, na_Sames_kept_facts := na_Sames_kept_facts, na_Sames_kept_told := na_Sames_kept_told, m_Fact_beyond := ⟨a3, i3, k3⟩, m_Fact_shown := ⟨a4, i4, k4⟩, m_Sames_led := ⟨a11, i11, k11⟩, m_Sames_taken_up := ⟨a22, i22, k22⟩, m_Sames_same := ⟨a25, i25, k25⟩, m_Sames_apart := ⟨a26, i26, k26⟩, m_Sames_are := ⟨a23, i23, k23⟩, m_Sames_take_back := ⟨a18, i18, k18⟩, m_Sames_facts := ⟨a12, i12, k12⟩, ox_Clash := ⟨⟨⟨_, _, _, _, _, _, _, _, _, _, _, _, _, _, _, xL_Clash, (by decide +kernel : PySem.HandSPX.refsVE [.type "ValueError", .type "Exception", .type "BaseException", .type "object"] = true)⟩, sa_Clash, eC_Clash, tC_Clash, kC_Clash⟩, a0, t0⟩, xf_Clash := ⟨ga_Clash, gg_Clash, eC_Clash, hC_Clash⟩, xn_Clash_numbers := nb_Clash, bc_CustomsError := ⟨rd_CustomsError, gs_CustomsError, it_CustomsError⟩, te_Clash_Clash := exm_own eC_Clash ei_Clash tC_Clash es_Clash_Clash }
  have F0 := fun_mk (st := s_Clash_init) l0 c0 k0
  have b0 := F0.binds (ps := ["self", "numbers"]) fun _ _ _ _ _ _ us hl => match us, hl with | [_, _], _ => rfl
  have F1 := fun_mk (st := s_letters_in) l1 c1 k1
  have b1 := F1.binds (ps := ["text"]) fun _ _ _ _ _ _ us hl => match us, hl with | [_], _ => rfl
  have F2 := fun_mk (st := s_Fact_init) l2 c2 k2
  have b2 := F2.binds (ps := ["self", "number", "kind", "one", "other"]) fun _ _ _ _ _ _ us hl => match us, hl with | [_, _, _, _, _], _ => rfl
  have F3 := fun_mk (st := s_Fact_beyond) l3 c3 k3
  have b3 := F3.binds (ps := ["self", "word"]) fun _ _ _ _ _ _ us hl => match us, hl with | [_, _], _ => rfl
  have F4 := fun_mk (st := s_Fact_shown) l4 c4 k4
  have b4 := F4.binds (ps := ["self"]) fun _ _ _ _ _ _ us hl => match us, hl with | [_], _ => rfl
  have F5 := fun_mk (st := s_Sames_init) l5 c5 k5
  have b5 := F5.binds (ps := ["self"]) fun _ _ _ _ _ _ us hl => match us, hl with | [_], _ => rfl
  have F6 := fun_mk (st := s_l_cell) l6 c6 k6
  have b6 := F6.binds (ps := ["_law_script", "_law_k"]) fun _ _ _ _ _ _ us hl => match us, hl with | [_, _], _ => rfl
  have F7 := fun_mk (st := s_l_box) l7 c7 k7
  have b7 := F7.binds (ps := ["_law_cell_here"]) fun _ _ _ _ _ _ us hl => match us, hl with | [_], _ => rfl
  have F8 := fun_mk (st := s_l_take) l8 c8 k8
  have b8 := F8.binds (ps := ["_law_box_here", "_law_many"]) fun _ _ _ _ _ _ us hl => match us, hl with | [_, _], _ => rfl
  have F9 := fun_mk (st := s_l_beyond) l9 c9 k9
  have b9 := F9.binds (ps := ["_law_fact", "_law_word"]) fun _ _ _ _ _ _ us hl => match us, hl with | [_, _], _ => rfl
  have F10 := fun_mk (st := s_is_word) l10 c10 k10
  have b10 := F10.binds (ps := ["thing"]) fun _ _ _ _ _ _ us hl => match us, hl with | [_], _ => rfl
  have F11 := fun_mk (st := s_Sames_led) l11 c11 k11
  have b11 := F11.binds (ps := ["self", "word"]) fun _ _ _ _ _ _ us hl => match us, hl with | [_, _], _ => rfl
  have F12 := fun_mk (st := s_Sames_facts) l12 c12 k12
  have b12 := F12.binds (ps := ["self"]) fun _ _ _ _ _ _ us hl => match us, hl with | [_], _ => rfl
  have F13 := fun_mk (st := s_l_word_letters) l13 c13 k13
  have b13 := F13.binds (ps := ["_law_box_here", "_law_size"]) fun _ _ _ _ _ _ us hl => match us, hl with | [_, _], _ => rfl
  have F14 := fun_mk (st := s_l_cased) l14 c14 k14
  have b14 := F14.binds (ps := ["_law_box_here", "_law_pool_here"]) fun _ _ _ _ _ _ us hl => match us, hl with | [_, _], _ => rfl
  have F15 := fun_mk (st := s_l_levels) l15 c15 k15
  have b15 := F15.binds (ps := ["_law_facts", "_law_one"]) fun _ _ _ _ _ _ us hl => match us, hl with | [_, _], _ => rfl
  have F16 := fun_mk (st := s_l_walk_right) l16 c16 k16
  have b16 := F16.binds (ps := ["_law_facts", "_law_one", "_law_other", "_law_numbers", "_law_apart"]) fun _ _ _ _ _ _ us hl => match us, hl with | [_, _, _, _, _], _ => rfl
  have F17 := fun_mk (st := s_need_words) l17 c17 k17
  have b17 := F17.binds (ps := ["one", "other"]) fun _ _ _ _ _ _ us hl => match us, hl with | [_, _], _ => rfl
  have F18 := fun_mk (st := s_Sames_take_back) l18 c18 k18
  have b18 := F18.binds (ps := ["self", "number"]) fun _ _ _ _ _ _ us hl => match us, hl with | [_, _], _ => rfl
  have F19 := fun_mk (st := s_l_pool) l19 c19 k19
  have b19 := F19.binds (ps := ["_law_box_here"]) fun _ _ _ _ _ _ us hl => match us, hl with | [_], _ => rfl
  have F20 := fun_mk (st := s_l_are) l20 c20 k20
  have b20 := F20.binds (ps := ["_law_facts", "_law_one", "_law_other"]) fun _ _ _ _ _ _ us hl => match us, hl with | [_, _, _], _ => rfl
  have F21 := fun_mk (st := s_l_fewest_right) l21 c21 k21
  have b21 := F21.binds (ps := ["_law_facts", "_law_one", "_law_other", "_law_numbers", "_law_apart"]) fun _ _ _ _ _ _ us hl => match us, hl with | [_, _, _, _, _], _ => rfl
  have F22 := fun_mk (st := s_Sames_taken_up) l22 c22 k22
  have b22 := F22.binds (ps := ["self", "kind", "one", "other"]) fun _ _ _ _ _ _ us hl => match us, hl with | [_, _, _, _], _ => rfl
  have F23 := fun_mk (st := s_Sames_are) l23 c23 k23
  have b23 := F23.binds (ps := ["self", "one", "other"]) fun _ _ _ _ _ _ us hl => match us, hl with | [_, _, _], _ => rfl
  have F24 := fun_mk (st := s_l_due) l24 c24 k24
  have b24 := F24.binds (ps := ["_law_facts", "_law_kind", "_law_one", "_law_other"]) fun _ _ _ _ _ _ us hl => match us, hl with | [_, _, _, _], _ => rfl
  have F25 := fun_mk (st := s_Sames_same) l25 c25 k25
  have b25 := F25.binds (ps := ["self", "one", "other"]) fun _ _ _ _ _ _ us hl => match us, hl with | [_, _, _], _ => rfl
  have F26 := fun_mk (st := s_Sames_apart) l26 c26 k26
  have b26 := F26.binds (ps := ["self", "one", "other"]) fun _ _ _ _ _ _ us hl => match us, hl with | [_, _, _], _ => rfl
  have F27 := fun_mk (st := s_l_row_right) l27 c27 k27
  have b27 := F27.binds (ps := ["_law_house", "_law_facts", "_law_one", "_law_pool_here"]) fun _ _ _ _ _ _ us hl => match us, hl with | [_, _, _, _], _ => rfl
  have F28 := fun_mk (st := s_l_told) l28 c28 k28
  have b28 := F28.binds (ps := ["_law_house", "_law_kind", "_law_one", "_law_other"]) fun _ _ _ _ _ _ us hl => match us, hl with | [_, _, _, _], _ => rfl
  have F29 := fun_mk (st := s_l_deed) l29 c29 k29
  have b29 := F29.binds (ps := ["_law_box_here", "_law_house", "_law_pool_here", "_law_facts", "_law_told_here"]) fun _ _ _ _ _ _ us hl => match us, hl with | [_, _, _, _, _], _ => rfl
  have F30 := fun_mk (st := s_law) l30 c30 k30
  refine ⟨PySem.W.fnOf "law" "law" (defArgs s_law) (defBody s_law) (defScope s_law) .none kV30 dc30 pm30 an30 cd30 ct30, fun s v => .of_eq rfl, fun base _ _ => ?_⟩
  have O_Clash_init := Ok.of F0 b0 (ok_Clash_init (base := base) (A := A) F0 T )
  have O_letters_in := Ok.of F1 b1 (ok_letters_in (base := base) (A := A) F1 T )
  have O_Fact_init := Ok.of F2 b2 (ok_Fact_init (base := base) (A := A) F2 T )
  have O_Fact_beyond := Ok.of F3 b3 (ok_Fact_beyond (base := base) (A := A) F3 T )
  have O_Fact_shown := Ok.of F4 b4 (ok_Fact_shown (base := base) (A := A) F4 T )
  have O_Sames_init := Ok.of F5 b5 (ok_Sames_init (base := base) (A := A) F5 T )
  have O_l_cell := Ok.of F6 b6 (ok_l_cell (base := base) (A := A) F6 T )
  have O_l_box := Ok.of F7 b7 (ok_l_box (base := base) (A := A) F7 T )
  have O_l_take := Ok.of F8 b8 (ok_l_take (base := base) (A := A) F8 T )
  have O_l_beyond := Ok.of F9 b9 (ok_l_beyond (base := base) (A := A) F9 T )
  have O_is_word := Ok.of F10 b10 (ok_is_word (base := base) (A := A) F10 T O_letters_in)
  have O_Sames_led := Ok.of F11 b11 (ok_Sames_led (base := base) (A := A) F11 T O_Fact_beyond)
  have O_Sames_facts := Ok.of F12 b12 (ok_Sames_facts (base := base) (A := A) F12 T O_Fact_shown)
  have O_l_word_letters := Ok.of F13 b13 (ok_l_word_letters (base := base) (A := A) F13 T O_l_take)
  have O_l_cased := Ok.of F14 b14 (ok_l_cased (base := base) (A := A) F14 T O_l_take)
  have O_l_levels := Ok.of F15 b15 (ok_l_levels (base := base) (A := A) F15 T O_l_beyond)
  have O_l_walk_right := Ok.of F16 b16 (ok_l_walk_right (base := base) (A := A) F16 T O_l_beyond)
  have O_need_words := Ok.of F17 b17 (ok_need_words (base := base) (A := A) F17 T O_is_word)
  have O_Sames_take_back := Ok.of F18 b18 (ok_Sames_take_back (base := base) (A := A) F18 T )
  have O_l_pool := Ok.of F19 b19 (ok_l_pool (base := base) (A := A) F19 T O_l_take O_l_word_letters)
  have O_l_are := Ok.of F20 b20 (ok_l_are (base := base) (A := A) F20 T O_l_levels)
  have O_l_fewest_right := Ok.of F21 b21 (ok_l_fewest_right (base := base) (A := A) F21 T O_l_levels O_l_walk_right)
  have O_Sames_taken_up := Ok.of F22 b22 (ok_Sames_taken_up (base := base) (A := A) F22 T O_Clash_init O_Fact_init O_Sames_led O_need_words)
  have O_Sames_are := Ok.of F23 b23 (ok_Sames_are (base := base) (A := A) F23 T O_Sames_led O_need_words)
  have O_l_due := Ok.of F24 b24 (ok_l_due (base := base) (A := A) F24 T O_l_are)
  have O_Sames_same := Ok.of F25 b25 (ok_Sames_same (base := base) (A := A) F25 T O_Sames_taken_up)
  have O_Sames_apart := Ok.of F26 b26 (ok_Sames_apart (base := base) (A := A) F26 T O_Sames_taken_up)
  have O_l_row_right := Ok.of F27 b27 (ok_l_row_right (base := base) (A := A) F27 T O_l_levels O_Sames_are)
  have O_l_told := Ok.of F28 b28 (ok_l_told (base := base) (A := A) F28 T O_Sames_same O_Sames_apart)
  have O_l_deed := Ok.of F29 b29 (ok_l_deed (base := base) (A := A) F29 T O_l_take O_Sames_take_back O_l_fewest_right O_l_due O_l_told)
  exact ok_law (A := A) F30 T O_Sames_init O_l_cell O_l_box O_l_take O_Sames_facts O_l_cased O_l_pool O_l_row_right O_l_deed
end MC
open PySem PySem.W PyProof.Rows
set_option maxRecDepth 100000 in
set_option maxHeartbeats 0 in
theorem PySem.Challenge.cw_manycustoms_k72_same_apart_or_open_holds : PySem.Challenge.rw_manycustoms_k72_same_apart_or_open.Holds := by
  w_on; o_law; k_head; (case hw => w_witness2)
  k_fill
  refine MC.walk_G (l := PySem.Challenge.rw_manycustoms_k72_same_apart_or_open) (n := 63) (k := 8) (x := "_law_script") (sp := fun K => MC.lawSp K) rfl (by decide) rfl ⟨rfl, by decide, by decide⟩ (fun w h Y => PySem.W.kIn_of Y) ?F (fun K H a ns hl hO hS => ⟨a, ns, rfl, hO, hS, hl, fun _ => rfl⟩)
  case F =>
    intro w mg fa h KX G hmg
    refine' MC.all_mk KX G hmg ?n_CustomsError ?n_Clash ?n_Fact ?n_Sames ?a0 ?t0 ?l0 ?c0 ?k0 ?a1 ?l1 ?c1 ?k1 ?a2 ?i2 ?l2 ?c2 ?k2 ?a3 ?i3 ?l3 ?c3 ?k3 ?a4 ?i4 ?l4 ?c4 ?k4 ?a5 ?i5 ?l5 ?c5 ?k5 ?a6 ?l6 ?c6 ?k6 ?a7 ?l7 ?c7 ?k7 ?a8 ?l8 ?c8 ?k8 ?a9 ?l9 ?c9 ?k9 ?a10 ?l10 ?c10 ?k10 ?a11 ?i11 ?l11 ?c11 ?k11 ?a12 ?i12 ?l12 ?c12 ?k12 ?a13 ?l13 ?c13 ?k13 ?a14 ?l14 ?c14 ?k14 ?a15 ?l15 ?c15 ?k15 ?a16 ?l16 ?c16 ?k16 ?a17 ?l17 ?c17 ?k17 ?a18 ?i18 ?l18 ?c18 ?k18 ?a19 ?l19 ?c19 ?k19 ?a20 ?l20 ?c20 ?k20 ?a21 ?l21 ?c21 ?k21 ?a22 ?i22 ?l22 ?c22 ?k22 ?a23 ?i23 ?l23 ?c23 ?k23 ?a24 ?l24 ?c24 ?k24 ?a25 ?i25 ?l25 ?c25 ?k25 ?a26 ?i26 ?l26 ?c26 ?k26 ?a27 ?l27 ?c27 ?k27 ?a28 ?l28 ?c28 ?k28 ?a29 ?l29 ?c29 ?k29 ?a30 ?l30 ?c30 ?k30 ?pg_Fact ?hd_Fact ?po_Fact ?sa_Fact ?mk_Fact ?kc_Fact ?pg_Sames ?hd_Sames ?po_Sames ?sa_Sames ?mk_Sames ?kc_Sames ?na_Fact_kept_number ?na_Fact_kept_kind ?na_Fact_kept_one ?na_Fact_kept_other ?na_Sames_kept_facts ?na_Sames_kept_told ?xL_Clash ?sa_Clash ?eC_Clash ?tC_Clash ?kC_Clash ?ga_Clash ?gg_Clash ?hC_Clash ?nb_Clash ?rd_CustomsError ?gs_CustomsError ?it_CustomsError ?ei_Clash ?es_Clash_Clash ?z_bool ?z_int ?z_isinstance ?z_len ?z_list ?z_max ?z_min ?z_range ?z_repr ?z_str ?d_SMALL ?r_SMALL ?d_CAPITALS ?r_CAPITALS ?d_MARKS ?r_MARKS ?d_MOST_LETTERS ?r_MOST_LETTERS
    (case n_CustomsError => k_is)
    (case n_Clash => k_is)
    (case n_Fact => k_is)
    (case n_Sames => k_is)
    (case a0 => k_is)
    (case t0 => k_is)
    (case l0 => k_is)
    (case c0 => k_is)
    (case k0 => k_is)
    (case a1 => k_is)
    (case l1 => k_is)
    (case c1 => k_is)
    (case k1 => k_is)
    (case a2 => k_is)
    (case i2 => k_is)
    (case l2 => k_is)
    (case c2 => k_is)
    (case k2 => k_is)
    (case a3 => k_is)
    (case i3 => k_is)
    (case l3 => k_is)
    (case c3 => k_is)
    (case k3 => k_is)
    (case a4 => k_is)
    (case i4 => k_is)
    (case l4 => k_is)
    (case c4 => k_is)
    (case k4 => k_is)
    (case a5 => k_is)
    (case i5 => k_is)
    (case l5 => k_is)
    (case c5 => k_is)
    (case k5 => k_is)
    (case a6 => k_is)
    (case l6 => k_is)
    (case c6 => k_is)
    (case k6 => k_is)
    (case a7 => k_is)
    (case l7 => k_is)
    (case c7 => k_is)
    (case k7 => k_is)
    (case a8 => k_is)
    (case l8 => k_is)
    (case c8 => k_is)
    (case k8 => k_is)
    (case a9 => k_is)
    (case l9 => k_is)
    (case c9 => k_is)
    (case k9 => k_is)
    (case a10 => k_is)
    (case l10 => k_is)
    (case c10 => k_is)
    (case k10 => k_is)
    (case a11 => k_is)
    (case i11 => k_is)
    (case l11 => k_is)
    (case c11 => k_is)
    (case k11 => k_is)
    (case a12 => k_is)
    (case i12 => k_is)
    (case l12 => k_is)
    (case c12 => k_is)
    (case k12 => k_is)
    (case a13 => k_is)
    (case l13 => k_is)
    (case c13 => k_is)
    (case k13 => k_is)
    (case a14 => k_is)
    (case l14 => k_is)
    (case c14 => k_is)
    (case k14 => k_is)
    (case a15 => k_is)
    (case l15 => k_is)
    (case c15 => k_is)
    (case k15 => k_is)
    (case a16 => k_is)
    (case l16 => k_is)
    (case c16 => k_is)
    (case k16 => k_is)
    (case a17 => k_is)
    (case l17 => k_is)
    (case c17 => k_is)
    (case k17 => k_is)
    (case a18 => k_is)
    (case i18 => k_is)
    (case l18 => k_is)
    (case c18 => k_is)
    (case k18 => k_is)
    (case a19 => k_is)
    (case l19 => k_is)
    (case c19 => k_is)
    (case k19 => k_is)
    (case a20 => k_is)
    (case l20 => k_is)
    (case c20 => k_is)
    (case k20 => k_is)
    (case a21 => k_is)
    (case l21 => k_is)
    (case c21 => k_is)
    (case k21 => k_is)
    (case a22 => k_is)
    (case i22 => k_is)
    (case l22 => k_is)
    (case c22 => k_is)
    (case k22 => k_is)
    (case a23 => k_is)
    (case i23 => k_is)
    (case l23 => k_is)
    (case c23 => k_is)
    (case k23 => k_is)
    (case a24 => k_is)
    (case l24 => k_is)
    (case c24 => k_is)
    (case k24 => k_is)
    (case a25 => k_is)
    (case i25 => k_is)
    (case l25 => k_is)
    (case c25 => k_is)
    (case k25 => k_is)
    (case a26 => k_is)
    (case i26 => k_is)
    (case l26 => k_is)
    (case c26 => k_is)
    (case k26 => k_is)
    (case a27 => k_is)
    (case l27 => k_is)
    (case c27 => k_is)
    (case k27 => k_is)
    (case a28 => k_is)
    (case l28 => k_is)
    (case c28 => k_is)
    (case k28 => k_is)
    (case a29 => k_is)
    (case l29 => k_is)
    (case c29 => k_is)
    (case k29 => k_is)
    (case a30 => k_is)
    (case l30 => k_is)
    (case c30 => k_is)
    (case k30 => k_is)
    (case pg_Fact => k_is)
    (case hd_Fact => k_is)
    (case po_Fact => k_is)
    (case sa_Fact => k_is)
    (case mk_Fact => k_is)
    (case kc_Fact => k_is)
    (case pg_Sames => k_is)
    (case hd_Sames => k_is)
    (case po_Sames => k_is)
    (case sa_Sames => k_is)
    (case mk_Sames => k_is)
    (case kc_Sames => k_is)
    (case na_Fact_kept_number => k_is)
    (case na_Fact_kept_kind => k_is)
    (case na_Fact_kept_one => k_is)
    (case na_Fact_kept_other => k_is)
    (case na_Sames_kept_facts => k_is)
    (case na_Sames_kept_told => k_is)
    (case xL_Clash => k_is)
    (case sa_Clash => k_is)
    (case eC_Clash => k_is)
    (case tC_Clash => k_is)
    (case kC_Clash => k_is)
    (case ga_Clash => k_is)
    (case gg_Clash => k_is)
    (case hC_Clash => k_is)
    (case nb_Clash => k_is)
    (case rd_CustomsError => k_is)
    (case gs_CustomsError => k_is)
    (case it_CustomsError => k_is)
    (case ei_Clash => k_is)
    (case es_Clash_Clash => first | k_is | rfl)
    (case z_bool => k_is)
    (case z_int => k_is)
    (case z_isinstance => k_is)
    (case z_len => k_is)
    (case z_list => k_is)
    (case z_max => k_is)
    (case z_min => k_is)
    (case z_range => k_is)
    (case z_repr => k_is)
    (case z_str => k_is)
    (case d_SMALL => k_is)
    (case r_SMALL => exact ⟨_, rfl⟩)
    (case d_CAPITALS => k_is)
    (case r_CAPITALS => exact ⟨_, rfl⟩)
    (case d_MARKS => k_is)
    (case r_MARKS => exact ⟨_, rfl⟩)
    (case d_MOST_LETTERS => k_is)
    (case r_MOST_LETTERS => exact ⟨_, rfl⟩)
#print axioms PySem.Challenge.cw_manycustoms_k72_same_apart_or_open_holds
