import PyProof.Rows.All
import Wide.All
import OpenK.AllK
import Wide.FinOn
import PyProof.ReprRoads
import HandS.ForMost
import HandS.ForExc
import HandS.IsInst
import HandS.StrMore
import HandS.RaiseMore
import HandS.Wide
import HandS.Defaults
import HandS.Codes
import HandS.Evl
import PyProof.Rows.RegStrFacts
import PyProof.Rows.ReprOcc
import HandS.ExcInit
import HandS.ExcField
import HandS.ExcIs
import HandS.ExcValue
import KE.KExcInit
import KE.KExcIs
import KE.KDictZip
import HandS.Iter
import HandS.Conv
import PySem.Challenge.RW_evenends_k01_errors_and_their_fields
set_option Elab.async false
set_option linter.all false
set_option maxRecDepth 100000
set_option maxHeartbeats 4000000
/-! Own layer: one-step readings, heaps that grow, repr of data, guards. -/
namespace EE
open PySem PySem.Spec PyProof.Rows L2

/-! ### heaps -/
/-- all but what stands at p is as it was -/
def But (p : Addr) (H H' : Hp) : Prop := ∀ b o, b ≠ p → H b = some o → H' b = some o
theorem But.refl (p : Addr) (H : Hp) : But p H H := fun _ _ _ h => h
theorem _root_.L2.Same.but {H H' : Hp} (p : Addr) (s : Same H H') : But p H H' := fun b o _ h => s b o h
theorem But.trans {p : Addr} {H H1 H2 : Hp} (a : But p H H1) (b : But p H1 H2) : But p H H2 := fun c o n h => b c o n (a c o n h)
theorem But.then {p : Addr} {H H1 H2 : Hp} (a : But p H H1) (b : Same H1 H2) : But p H H2 := fun c o n h => b c o (a c o n h)
theorem _root_.L2.Same.thenBut {p : Addr} {H H1 H2 : Hp} (a : Same H H1) (b : But p H1 H2) : But p H H2 := fun c o n h => b c o n (a c o h)
theorem same_new {H : Hp} {p : Addr} {o : HO} (h : H p = none) : Same H (upd H p o) := fun b x e => by
  rw [upd_ne (ne_of_none e h)]
  exact e
theorem but_upd {H : Hp} {p : Addr} {o : HO} : But p H (upd H p o) := fun b x n e => by
  rw [upd_ne n]
  exact e
theorem But.seq {K : PySem.W.Frag} {p a : Addr} {H H' : Hp} {xs : List V} (e : But p H H') (n : a ≠ p) (h : SqL K H a xs) : SqL K H' a xs := by
  rcases h with (h | ⟨o, h⟩) | h
  · exact .inl (.inl (e _ _ n h))
  · exact .inl (.inr ⟨o, e _ _ n h⟩)
  · exact .inr h

/-! ### one step of a reading -/
/-- a new list, a new tuple -/
def NewL (xs : List V) (H : Hp) (Q : VK) : Prop := xs.length ≤ sizeLine ∧ ∀ p, H p = none → Q (.ref p) (upd H p (.lst xs))
def NewT (xs : List V) (H : Hp) (Q : VK) : Prop := xs.length ≤ sizeLine ∧ ∀ p, H p = none → Q (.ref p) (upd H p (.tup xs))
theorem new_lst {xs : List V} {H : Hp} {Q : VK} (hl : xs.length ≤ sizeLine) (h : ∀ p H2, H p = none → Same H H2 → H2 p = some (.lst xs) → Q (.ref p) H2) : NewL xs H Q := ⟨hl, fun p hp => h p _ hp (same_new hp) upd_same⟩
theorem new_tup {xs : List V} {H : Hp} {Q : VK} (hl : xs.length ≤ sizeLine) (h : ∀ p H2, H p = none → Same H H2 → H2 p = some (.tup xs) → Q (.ref p) H2) : NewT xs H Q := ⟨hl, fun p hp => h p _ hp (same_new hp) upd_same⟩
section
variable {K : PySem.W.Frag} {σ : L2.St} {H : Hp} {Q : VK} {D : Ends} {ta tb tc te : TE} {t u : TS} {c d : TT} {r r' : R2} {v w : V}
theorem rd_var {i : Nat} (h : σ[i]? = some (some v)) (q : Q v H) : tVar i σ H Q := ⟨v, h, q⟩
theorem rd_c (q : Q v H) : tC v σ H Q := q
theorem rd_op (h : ta σ H fun x H1 => tb σ H1 fun y H2 => r x y H2 Q) : tOp r ta tb σ H Q := h
theorem rd_un {r : V → Hp → VK → Prop} (h : ta σ H fun x H1 => r x H1 Q) : tUn r ta σ H Q := h
theorem rd_chain (h : ta σ H fun x H1 => tb σ H1 fun y H2 => r x y H2 fun z H3 => ∃ k, z = .bl k ∧ (if k = true then tc σ H3 fun w' H4 => r' y w' H4 Q else Q (.bl false) H3)) : tChain r r' ta tb tc σ H Q := h
theorem rd_seq (h : t { D with nx := u D } σ H) : tSeq t u D σ H := h
theorem rd_asg {g : TG} (h : te σ H fun x H1 => g x σ H1 D.nx) : tAsg te g D σ H := h
theorem rd_name {i : Nat} {Q : L2.St → Hp → Prop} (h : Q (σ.set i (some v)) H) : gName i v σ H Q := h
theorem rd_ret (h : te σ H D.rt) : tRet te D σ H := h
theorem rd_retN (h : D.rt .non H) : tRetN D σ H := h
theorem rd_drop (h : te σ H fun _ H1 => D.nx σ H1) : tDrop te D σ H := h
theorem rd_next (h : D.nx σ H) : tNext D σ H := h
theorem rd_ifS (h : c σ H fun b H1 => if b = true then t D σ H1 else u D σ H1) : tIfS c t u D σ H := h
theorem rd_ifE (h : c σ H fun b H1 => if b = true then ta σ H1 Q else tb σ H1 Q) : tIf c ta tb σ H Q := h
theorem rd_test {Q : Bool → Hp → Prop} (h : te σ H fun x H' => ∃ k, x = .bl k ∧ Q k H') : tTest te σ H Q := h
theorem rd_B {Q : Bool → Hp → Prop} (h : te σ H fun x H' => ∃ k, x = .bl k ∧ Q k H') : tB te σ H Q := h
theorem rd_and {Q : Bool → Hp → Prop} (h : c σ H fun k H1 => if k = true then d σ H1 Q else Q false H1) : tAnd c d σ H Q := h
theorem rd_or {Q : Bool → Hp → Prop} (h : c σ H fun k H1 => if k = true then Q true H1 else d σ H1 Q) : tOr c d σ H Q := h
theorem rd_not {Q : Bool → Hp → Prop} (h : c σ H fun k H1 => Q (!k) H1) : tNot c σ H Q := h
theorem rd_andV (h : ta σ H fun x H1 => ∃ c, x = .bl c ∧ if c = true then tb σ H1 Q else Q (.bl false) H1) : tAndV ta tb σ H Q := h
theorem rd_orV (h : ta σ H fun x H1 => ∃ c, x = .bl c ∧ if c = true then Q (.bl true) H1 else tb σ H1 Q) : tOrV ta tb σ H Q := h
theorem rd_notV (h : ta σ H fun x H1 => ∃ c, x = .bl c ∧ Q (.bl (!c)) H1) : tNotV ta σ H Q := h
theorem rd_nil {Q : List V → Hp → Prop} (h : Q [] H) : tNil σ H Q := h
theorem rd_cons {tr : TA} {Q : List V → Hp → Prop} (h : ta σ H fun x H1 => tr σ H1 fun xs H2 => Q (x :: xs) H2) : tCons ta tr σ H Q := h
theorem rd_call {sp : Sp} {dvs : List V} {E : XK} {tr : TA} (h : tr σ H fun vs H1 => sp (vs ++ dvs) H1 Q E) : tCall sp dvs E tr σ H Q := h
theorem rd_CB {r : List V → Hp → VK → Prop} {tr : TA} (h : tr σ H fun vs H1 => r vs H1 Q) : tCB r tr σ H Q := h
theorem rd_bl {b : Bool} {P : Bool → Prop} (h : P b) : ∃ k, V.bl b = V.bl k ∧ P k := ⟨b, rfl, h⟩
theorem rd_gsub {to ti : TE} {ts : TSet} {Q : L2.St → Hp → Prop} (h : to σ H fun o H1 => ti σ H1 fun i H2 => ts o i v H2 fun H3 => Q σ H3) : gSub to ti ts v σ H Q := h
theorem rd_part {Q : Option Int → Hp → Prop} (h : te σ H fun x H1 => ∃ i, x = .int i ∧ Q (some i) H1) : tPart te σ H Q := h
theorem rd_noPart {Q : Option Int → Hp → Prop} (h : Q none H) : tNoPart σ H Q := h
theorem rd_sl {r : V → Option Int → Option Int → Hp → VK → Prop} {tl th : TO} (h : te σ H fun x H1 => tl σ H1 fun l H2 => th σ H2 fun u H3 => r x l u H3 Q) : tSl r te tl th σ H Q := h
theorem rd_tup {tr : TA} (h : tr σ H fun xs H1 => NewT xs H1 Q) : tTup tr σ H Q := h
theorem rd_lst {tr : TA} (h : tr σ H fun xs H1 => NewL xs H1 Q) : tLst tr σ H Q := h
theorem rd_bm {T : String} {r : V → List V → Hp → VK → Prop} {tr : TA} (h : ta σ H fun x H1 => tyV K T x H1 ∧ tr σ H1 fun xs H2 => r x xs H2 Q) : tBM K T r ta tr σ H Q := h
/-! operators on values -/
theorem rd_I0 {g : Int → Int → V} {i j : Int} (q : Q (g i j) H) : rI0 g (.int i) (.int j) H Q := ⟨i, j, rfl, rfl, q⟩
theorem rd_I {C : Int → Int → Prop} {g : Int → Int → V} {i j : Int} (hc : C i j) (q : Q (g i j) H) : rI C g (.int i) (.int j) H Q := ⟨i, j, rfl, rfl, hc, q⟩
theorem rd_eqI {i j : Int} (q : Q (.bl (decide (i = j))) H) : rEq (.int i) (.int j) H Q := ⟨rfl, by
  have e : decide (V.int i = V.int j) = decide (i = j) := by simp
  rw [e]; exact q⟩
theorem rd_neI {i j : Int} (q : Q (.bl (!decide (i = j))) H) : rNe (.int i) (.int j) H Q := ⟨rfl, by
  have e : decide (V.int i = V.int j) = decide (i = j) := by simp
  rw [e]; exact q⟩
theorem rd_eqS {i j : Str} (q : Q (.bl (decide (i = j))) H) : rEq (.str i) (.str j) H Q := ⟨rfl, by
  have e : decide (V.str i = V.str j) = decide (i = j) := by simp
  rw [e]; exact q⟩
theorem rd_neS {i j : Str} (q : Q (.bl (!decide (i = j))) H) : rNe (.str i) (.str j) H Q := ⟨rfl, by
  have e : decide (V.str i = V.str j) = decide (i = j) := by simp
  rw [e]; exact q⟩
theorem rd_neg {i : Int} (q : Q (.int (-i)) H) : rU (fun i => V.int (-i)) (.int i) H Q := ⟨i, rfl, q⟩
theorem rd_ite {b : Bool} {A B : Prop} (h1 : b = true → A) (h2 : b = false → B) : if b = true then A else B := by
  cases b with
  | true => exact iteT (h1 rfl)
  | false => exact iteF (h2 rfl)
theorem rd_iteT {b : Bool} {A B : Prop} (hb : b = true) (h1 : A) : if b = true then A else B := by rw [hb]; exact iteT h1
theorem rd_iteF {b : Bool} {A B : Prop} (hb : b = false) (h1 : B) : if b = true then A else B := by rw [hb]; exact iteF h1
end

/-! ### guards: repr asks that nothing is being shown. A promise at such places alone -/
structure RoomG (k : Nat) (A : Around) : Prop where
  r : Room k A
  g : A.guards = some []
theorem RoomG.mono {j k : Nat} {A : Around} (r : RoomG k A) (h : j ≤ k) : RoomG j A := ⟨r.r.mono h, r.g⟩
theorem RoomG.deeper {k : Nat} {A : Around} (r : RoomG (k + 1) A) (env : Env) : RoomG k (A.deeper env) := ⟨r.r.deeper env, r.g⟩
section
variable {P : Program} {w : World} {K : PySem.W.Frag} {mg : Str → Option Value} {base : Heap}
/-- the run of a def, as a promise tells it, around A -/
def RunsAt (P : Program) (w : World) (K : PySem.W.Frag) (mg : Str → Option Value) (base : Heap) (CX : CXT) (f : Addr) (fd : FuncData) (ps : List Str) (sp : Sp) (A : Around) : Prop :=
  ∀ (out : List Env) (sh : Shared) (H : Hp) (ar : Args) (ws : List Value) (vs : List V) (Q : VK) (E : XK), Env0 P w K mg base A out sh H → BindsTo sh fd ar (ps.zip ws) → Vals vs ws → sp vs H Q E →
    codeAny (model P w) A (Code.call (Value.ref f) ar) (CR CX out P w H sh Q E) sh
structure FnG (P : Program) (w : World) (K : PySem.W.Frag) (mg : Str → Option Value) (base : Heap) (CX : CXT) (k : Nat) (f : Addr) (fd : FuncData) (ps : List Str) (sp : Sp) : Prop where
  many : ∀ vs H Q E, sp vs H Q E → vs.length = ps.length
  runs : ∀ A : Around, RoomG k A → RunsAt P w K mg base CX f fd ps sp A
theorem FnG.of {CX : CXT} {k : Nat} {f : Addr} {fd : FuncData} {ps : List Str} {sp : Sp} (F : FnOk P w K mg base CX k f fd ps sp) : FnG P w K mg base CX k f fd ps sp :=
  ⟨F.len, fun A g out sh H ar ws vs Q E => F.run A out sh H ar ws vs Q E g.r⟩
/-- what a body's end is to the caller -/
theorem body_end {CX : CXT} {N : List Str} {qual : Str} {scope : Scope} {f : Addr} {cd : Value} {A : Around} {out : List Env} {sh t : Shared} {H : Hp} {Q : VK} {E : XK} {fl : Flow}
    (h : SP (cxOf CX P w K mg base N qual scope f cd A out sh H E) [] { nx := fun _ H' => Q .non H', rt := Q } fl t) : CR CX out P w H sh Q E (.ok (.ret (match fl with | .ret v => v | _ => Value.none))) t := by
  match fl, h with
  | .ret u, ⟨v, _, H1, J, rv, q⟩ => exact ⟨v, H1, J.os, J.bare, J.base, J.hok, rv, q⟩
  | .next, ⟨_, H1, J, q⟩ => exact ⟨.non, H1, J.os, J.bare, J.base, J.hok, rfl, q⟩
  | .brk, ⟨_, _, _, q⟩ => exact q.elim
  | .cont, ⟨_, _, _, q⟩ => exact q.elim
theorem okG {x qual : Str} {st : Stmt} {f : Addr} {fd : FuncData} {N ps : List Str} {k : Nat} {sp : Sp} (F : Fun K x qual st f fd) (S : FnScope N ps (defScope st)) (many : ∀ vs H Q E, sp vs H Q E → vs.length = ps.length)
    (hb : ∀ (cdv : Value) (A : Around) (out : List Env) (sh : Shared) (H : Hp) (vs : List V) (Q : VK) (E : XK), RoomG k (A.deeper (envOfC qual (defScope st) sh.heap.objs.size f cdv)) → sp vs H Q E →
      ∃ t, PSs (cxOf CX0 P w K mg base N qual (defScope st) f cdv A out sh H E).nox (defBody st) t ∧ t { nx := fun _ H' => Q .non H', rt := Q } (start N vs) H) : FnG P w K mg base CX0 (k + 1) f fd ps sp := by
  obtain ⟨_, _, kV, doc, pm, an, cdv, ct, _, rfl, hf, hcode⟩ := F.ex
  refine ⟨many, fun A room out sh H ar ws vs Q E e0 bd rel hp => ?_⟩
  have kin : K.In sh.heap := e0.mod.kin.keeps fun b o z => (e0.bs b o z).1
  have nol := e0.mod.nolimit.keeps (h' := sh.heap) fun b o z => (e0.bs b o z).1
  refine codeAny_call_function room.r.depth (kin _ _ hf) rfl S.co S.gen rfl (PySem.W.codeRec_of kin hcode) (bd _ _ _ _ ?_)
  have kinds : ∀ y ∈ ps.zip ws, (defScope st).names.lookup y.1 = some .local ∨ ((defScope st).names.lookup y.1 = some .cell ∧ ((cellsFrom (sh.heap.objs.size + 1) (defScope st).names []).lookup y.1).isSome = true) := by
    rintro ⟨n, v⟩ hy
    exact (S.par n (List.of_mem_zip hy).1).imp id fun q => ⟨q, PySem.W.cellsFrom_some _ _ _ (Or.inl q)⟩
  refine wpAny_newFunctionEnv_cells S.kind kinds fun env henv t1 x1 => ?_
  cases henv
  refine ⟨nol.keeps x1.toInCall.keep, codeAny_func ?_⟩
  obtain ⟨rd, der, hq⟩ := hb cdv A out sh H vs Q E (room.deeper _) hp
  refine wpAny_mono (der.nox.run [] t1 (start N vs) H _ (inv_start S room.r.hd e0 (many _ _ _ _ hp) rel x1) hq) (fun fl t h => ?_) fun _ _ z => z
  cases fl with
  | ret u => exact body_end h
  | next => exact body_end h
  | brk => exact body_end h
  | cont => exact body_end h
end
section
variable {X : Cx} {CX : CXT} {k : Nat} {f : Addr} {fd : FuncData} {ps : List Str} {sp : Sp} {dvs : List V} {ds : List Value} {E : XK} {x : Str} {p pos : Pos} {e : Expr} {es : List Expr} {t : TA}
/-- f(e, ..), f's promise one at places where nothing is being shown -/
theorem pe_callG (F : FnG X.prog X.w X.K X.mg X.base CX k f fd ps sp) (room : RoomG k X.A) (hg : Gl X x) (hm : X.mg x = some (.ref f)) (hk : PySem.W.keepIn X.K (.ref f) = true) (hb : Binds X.K fd ps ds) (hd : Vals dvs ds) (hx : Passes CX X E)
    (ar : PA X (e :: es) t) (ndb : (x == ("__debug__" : Str)) = false := by decide) (hst : starEach (e :: es) X.env = (false, eval e X.env) :: starEach es X.env := by rfl) (plain : (backTo pos (starEach es X.env)).any (·.1) = false := by rfl) :
    PE X (.Call (.Name x p) (e :: es) [] pos) (tCall sp dvs E t) := ⟨fun pins sh σ H Q I h => by
  refine wpAny_Call_Name_kw (ld_glob I hg hm (PySem.W.callWith_K (h₀ := X.base) I.ok.mod.kin hk (thn (ar.run pos pins sh σ H _ I h) ?_) hst plain) ndb)
  rintro ws t1 ⟨vs, H1, I1, rel, hp⟩
  have rel2 := rel.append hd
  refine ⟨I1.kIn, wpAny_call (codeAny_mono (F.runs X.A room X.stack t1 H1 ⟨ws, []⟩ (ws ++ ds) (vs ++ dvs) Q E I1.env0 (hb t1 ws I1.kIn (rel2.length.symm.trans (F.many _ _ _ _ hp))) rel2 hp) fun r t2 z => ?_)⟩
  match r, z with
  | .error _, z => exact hx pins σ H1 t1 _ t2 I1 z
  | .ok (.ret _), z => exact I1.after z
  | .ok .next, z => exact z.elim
  | .ok .brk, z => exact z.elim
  | .ok .cont, z => exact z.elim⟩
end

/-! ### repr of data -/
theorem call_repr {X : Cx} (hg : X.A.guards = some []) (hu : X.A.units + 64 < cLine) : CallR X (.builtin "repr") (fun xs H Q => ∃ (a : Addr) (d : PyData), xs = [.ref a] ∧ Dp X.K H (.ref a) d ∧ d.showable = true ∧ d.hasDict = false ∧ d.depth ≤ 60 ∧ d.shown.length ≤ sizeLine ∧ Q (.str d.shown) H) := by
  intro pins s σ H xs us Q I r h
  obtain ⟨a, d, rfl, hd, h1, h2, h3, h4, q⟩ := h
  obtain ⟨u, rfl, hu'⟩ := vals1 r
  obtain rfl : u = Value.ref a := hu'
  obtain ⟨as, rr⟩ := Dp.reads I d (.ref a) (.ref a) hd rfl
  refine repr_of_reads' (h₀ := s.heap) rr h1 (fun e => absurd e (by rw [h2]; decide)) hg (by omega) (fun _ _ e => e) (fun h' u' tk k => ?_) h4
  exact ⟨.str _, H, I.kept (t' := tk) k, ⟨_, rfl⟩, q⟩
end EE

namespace EE
open PySem PySem.Spec PyProof.Rows L2
section
variable {K : PySem.W.Frag} {σ : L2.St} {H : Hp} {Q : VK}
theorem rd_add {i j : Int} (q : Q (.int (i + j)) H) : rI0 (fun i j => .int (i + j)) (.int i) (.int j) H Q := ⟨i, j, rfl, rfl, q⟩
theorem rd_sub {i j : Int} (q : Q (.int (i - j)) H) : rI0 (fun i j => .int (i - j)) (.int i) (.int j) H Q := ⟨i, j, rfl, rfl, q⟩
theorem rd_lt {i j : Int} (q : Q (.bl (decide (i < j))) H) : rI0 (fun i j => .bl (decide (i < j))) (.int i) (.int j) H Q := ⟨i, j, rfl, rfl, q⟩
theorem rd_le {i j : Int} (q : Q (.bl (decide (i ≤ j))) H) : rI0 (fun i j => .bl (decide (i ≤ j))) (.int i) (.int j) H Q := ⟨i, j, rfl, rfl, q⟩
theorem rd_gt {i j : Int} (q : Q (.bl (decide (j < i))) H) : rI0 (fun i j => .bl (decide (j < i))) (.int i) (.int j) H Q := ⟨i, j, rfl, rfl, q⟩
theorem rd_ge {i j : Int} (q : Q (.bl (decide (j ≤ i))) H) : rI0 (fun i j => .bl (decide (j ≤ i))) (.int i) (.int j) H Q := ⟨i, j, rfl, rfl, q⟩
theorem rd_mul {i j : Int} (q : Q (.int (i * j)) H) (c : CMul i j) : rI CMul (fun i j => .int (i * j)) (.int i) (.int j) H Q := ⟨i, j, rfl, rfl, c, q⟩
theorem rd_mod {i j : Int} (q : Q (.int (i % j)) H) (c : 0 < j) : rI (fun _ j => 0 < j) (fun i j => .int (i % j)) (.int i) (.int j) H Q := ⟨i, j, rfl, rfl, c, q⟩
theorem rd_fdiv {i j : Int} (q : Q (.int (i / j)) H) (c : CDiv i j) : rI CDiv (fun i j => .int (i / j)) (.int i) (.int j) H Q := ⟨i, j, rfl, rfl, c, q⟩
theorem rd_pow {i j : Int} (q : Q (.int (i ^ j.toNat)) H) (c : CPow i j) : rI CPow (fun i j => .int (i ^ j.toNat)) (.int i) (.int j) H Q := ⟨i, j, rfl, rfl, c, q⟩
theorem rd_ixL {p : Addr} {xs : List V} {i : Int} {v : V} (h : SqL K H p xs) (e : atI xs i = some v) (q : Q v H) : rIxL K (.ref p) (.int i) H Q := ⟨p, xs, i, v, rfl, rfl, h, e, q⟩
theorem rd_setL {p : Addr} {xs : List V} {k : Int} {j : Nat} {v : V} {Q : Hp → Prop} (h : H p = some (.lst xs)) (e : ixN xs.length k = some j) (q : Q (upd H p (.lst (xs.set j v)))) : rSetL (.ref p) (.int k) v H Q := ⟨p, xs, k, j, rfl, rfl, h, e, q⟩
theorem sqL_of {p : Addr} {xs : List V} (h : H p = some (.lst xs)) : SqL K H p xs := .inl (.inl h)
theorem sqT_of {p : Addr} {xs : List V} (h : H p = some (.tup xs)) : SqT K H p xs := .inl (.inl h)
theorem atI_lt {xs : List V} {i : Int} (h0 : 0 ≤ i) (h : i < xs.length) : ∃ (j : Nat) (hj : j < xs.length), (j : Int) = i ∧ atI xs i = some (xs[j]) := by
  refine ⟨i.toNat, by omega, by omega, ?_⟩
  unfold atI ixN
  rw [if_pos h0, if_pos h]
  show xs[i.toNat]? = _
  exact List.getElem?_eq_getElem (by omega)
theorem dp_nil {p : Addr} (h : H p = some (.lst [])) : Dp K H (.ref p) (.list []) := .lst (sqL_of h) .nil
theorem dp_ints : ∀ {ns : List Int}, DpAll K H (ns.map V.int) (ns.map PyData.int)
  | [] => .nil
  | n :: ns => .cons (.int n) dp_ints
end
/-- a pen at p, its cells at q: the index of the next one (at most n), what is left of a great one -/
def PenAt (n : Nat) (H : Hp) (p q : Addr) : Prop := ∃ (ns : List Int) (a r : Int), H p = some (.lst [.ref q, .int a, .int r]) ∧ H q = some (.lst (ns.map V.int)) ∧ 0 ≤ a ∧ a ≤ n ∧ ns.length ≤ 63
theorem PenAt.keep {n : Nat} {H H' : Hp} {p q : Addr} (h : PenAt n H p q) (s : Same H H') : PenAt n H' p q := by
  obtain ⟨ns, a, r, h1, h2, h3⟩ := h
  exact ⟨ns, a, r, s _ _ h1, s _ _ h2, h3⟩
theorem PenAt.mono {n m : Nat} {H : Hp} {p q : Addr} (h : PenAt n H p q) (s : n ≤ m) : PenAt m H p q := by
  obtain ⟨ns, a, r, h1, h2, h3, h4, h5⟩ := h
  exact ⟨ns, a, r, h1, h2, h3, by omega, h5⟩
theorem PenAt.off {n : Nat} {H : Hp} {p q D : Addr} (h : PenAt n H p q) (hD : H D = none) : D ≠ p ∧ D ≠ q := by
  obtain ⟨ns, a, r, h1, h2, h3⟩ := h
  exact ⟨(ne_of_none h1 hD).symm, (ne_of_none h2 hD).symm⟩
theorem PenAt.upd {n : Nat} {H : Hp} {p q D : Addr} {o : HO} (h : PenAt n H p q) (hD : D ≠ p ∧ D ≠ q) : PenAt n (upd H D o) p q := by
  obtain ⟨ns, a, r, h1, h2, h3⟩ := h
  exact ⟨ns, a, r, by rw [upd_ne hD.1.symm]; exact h1, by rw [upd_ne hD.2.symm]; exact h2, h3⟩
def spDraw : Sp := fun vs H Q _ => ∃ (p q : Addr) (many : Int) (n : Nat), vs = [.ref p, .int many] ∧ 0 < many ∧ many < 1073741824 ∧ n ≤ 1000000 ∧ PenAt n H p q ∧
  ∀ (d : Int) (H' : Hp), 0 ≤ d → d < many → But p H H' → PenAt (n + 1) H' p q → Q (.int d) H'
end EE
namespace EE
open PySem PySem.Spec PyProof.Rows L2
theorem canLay_ints : ∀ ns : List Int, PyData.canLayAll0 (ns.map PyData.int) = true
  | [] => rfl
  | n :: ns => by
    show (PyData.canLay0 (.int n) && PyData.canLayAll0 (ns.map PyData.int)) = true
    rw [canLay_ints ns]; rfl
theorem depth_ints : ∀ ns : List Int, PyData.depthAll (ns.map PyData.int) = 0
  | [] => rfl
  | n :: ns => by
    show max (PyData.depth (.int n)) (PyData.depthAll (ns.map PyData.int)) = 0
    rw [depth_ints ns]; rfl
theorem shaped_ints (ns : List Int) : SeqAt.shaped (.list (ns.map PyData.int)) = true := by
  unfold SeqAt.shaped
  have h1 : PyData.canLay0 (.list (ns.map PyData.int)) = true := canLay_ints ns
  have h2 : PyData.depth (.list (ns.map PyData.int)) = 1 := by
    show PyData.depthAll (ns.map PyData.int) + 1 = 1
    rw [depth_ints]
  rw [h1, h2]; rfl
section
variable {K : PySem.W.Frag} {σ : L2.St} {H : Hp} {Q : VK}
/-- ns != [] -/
theorem rd_neNil {q o : Addr} {ns : List Int} (h1 : SqL K H q (ns.map V.int)) (h2 : H o = some (.lst [])) (k : Q (.bl (decide (ns ≠ []))) H) : rNeD K (.ref q) (.ref o) H Q := by
  refine ⟨.list (ns.map PyData.int), .list [], .lst h1 dp_ints, dp_nil h2, shaped_ints ns, rfl, ?_⟩
  cases ns with
  | nil => exact k
  | cons n ns => exact k
theorem sto_lst {p : Addr} {xs : List V} {k : Int} {j : Nat} {v : V} {Q : Hp → Prop} (h : H p = some (.lst xs)) (e : ixN xs.length k = some j) (q : ∀ H1, But p H H1 → H1 p = some (.lst (xs.set j v)) → Q H1) : rSetL (.ref p) (.int k) v H Q := ⟨p, xs, k, j, rfl, rfl, h, e, q _ but_upd upd_same⟩
end
theorem small_sz {n : Nat} (h : n ≤ 1000) : n ≤ sizeLine := Nat.le_of_lt (small1000 h)
end EE

/-! ### relations by name -/
namespace EE
open PySem PySem.Spec PyProof.Rows L2
abbrev LR := List V → Hp → VK → Prop
def rInt1 : LR := fun xs H Q => (∃ i, xs = [.int i] ∧ Q (.int i) H) ∨ ∃ k, xs = [.bl k] ∧ Q (.int (if k then 1 else 0)) H
def rAbs : LR := fun xs H Q => ∃ i, xs = [.int i] ∧ Q (.int (if i < 0 then -i else i)) H
def rLenQ (K : PySem.W.Frag) : LR := fun xs H Q => ∃ p ys, xs = [.ref p] ∧ (SqL K H p ys ∨ SqT K H p ys) ∧ Q (.int ys.length) H
def rLenS : LR := fun xs H Q => ∃ z, xs = [.str z] ∧ z.length ≤ sizeLine ∧ Q (.int z.length) H
def rListOf (K : PySem.W.Frag) : LR := fun xs H Q => ∃ p ys, xs = [.ref p] ∧ (SqL K H p ys ∨ SqT K H p ys) ∧ ∀ l, H l = none → Q (.ref l) (upd H l (.lst ys))
def rTupOf (K : PySem.W.Frag) : LR := fun xs H Q => ∃ p ys, xs = [.ref p] ∧ ((SqL K H p ys ∧ ∀ l, H l = none → Q (.ref l) (upd H l (.tup ys))) ∨ (SqT K H p ys ∧ Q (.ref p) H))
def rStrI : LR := fun xs H Q => ∃ i, xs = [.int i] ∧ i.natAbs.log2 < 1920 ∧ Q (.str (toString i)) H
def rReprD (K : PySem.W.Frag) : LR := fun xs H Q => ∃ (a : Addr) (d : PyData), xs = [.ref a] ∧ Dp K H (.ref a) d ∧ d.showable = true ∧ d.hasDict = false ∧ d.depth ≤ 60 ∧ d.shown.length ≤ sizeLine ∧ Q (.str d.shown) H
def rAddS : R2 := fun x y H Q => ∃ i j, x = .str i ∧ y = .str j ∧ i.length + j.length ≤ sizeLine ∧ Q (.str (i ++ j)) H
def rInS : R2 := fun x y H Q => ∃ (c : Nat) (z : Str), x = .str ⟨#[c]⟩ ∧ y = .str z ∧ Q (.bl (decide (c ∈ z.cps.toList))) H
def rNotInS : R2 := fun x y H Q => ∃ (c : Nat) (z : Str), x = .str ⟨#[c]⟩ ∧ y = .str z ∧ Q (.bl (!decide (c ∈ z.cps.toList))) H
def rIsN : R2 := fun x y H Q => y = .non ∧ Q (.bl (decide (x = .non))) H
def rNotN : R2 := fun x y H Q => y = .non ∧ Q (.bl (!decide (x = .non))) H
section
variable {X : Cx}
theorem cr_int1 : CallR X (.type "int") rInt1 := call_int1
theorem cr_abs : CallR X (.builtin "abs") rAbs := call_abs
theorem cr_lenQ : CallR X (.builtin "len") (rLenQ X.K) := call_len_seq
theorem cr_lenS : CallR X (.builtin "len") rLenS := call_len_str
theorem cr_listOf : CallR X (.type "list") (rListOf X.K) := call_list_of
theorem cr_tupOf : CallR X (.type "tuple") (rTupOf X.K) := call_tuple_of
theorem cr_strI : CallR X (.type "str") rStrI := call_str_int
theorem cr_repr (hg : X.A.guards = some []) (hu : X.A.units + 64 < cLine) : CallR X (.builtin "repr") (rReprD X.K) := call_repr hg hu
theorem or_addS : OpR X (binaryOp .Add) rAddS := op_add_str
theorem or_inS : OpR X (compareOp .In) rInS := op_in_sign
theorem or_notInS : OpR X (compareOp .NotIn) rNotInS := op_notIn_sign
theorem or_isN : OpR X (compareOp .Is) rIsN := op_isN
theorem or_notN : OpR X (compareOp .IsNot) rNotN := op_notN
end
section
variable {K : PySem.W.Frag} {σ : L2.St} {H : Hp} {Q : VK}
theorem rd_int1 {i : Int} (q : Q (.int i) H) : rInt1 [.int i] H Q := .inl ⟨i, rfl, q⟩
theorem rd_int1b {b : Bool} (q : Q (.int (if b then 1 else 0)) H) : rInt1 [.bl b] H Q := .inr ⟨b, rfl, q⟩
theorem rd_abs {i : Int} (q : Q (.int (if i < 0 then -i else i)) H) : rAbs [.int i] H Q := ⟨i, rfl, q⟩
theorem rd_len {p : Addr} {ys : List V} (h : SqL K H p ys) (q : Q (.int ys.length) H) : rLenQ K [.ref p] H Q := ⟨p, ys, rfl, .inl h, q⟩
theorem rd_lenT {p : Addr} {ys : List V} (h : SqT K H p ys) (q : Q (.int ys.length) H) : rLenQ K [.ref p] H Q := ⟨p, ys, rfl, .inr h, q⟩
theorem rd_lenS {z : Str} (q : Q (.int z.length) H) (h : z.length ≤ sizeLine) : rLenS [.str z] H Q := ⟨z, rfl, h, q⟩
theorem rd_strI {i : Int} (q : Q (.str (toString i)) H) (h : i.natAbs.log2 < 1920) : rStrI [.int i] H Q := ⟨i, rfl, h, q⟩
theorem rd_addS {i j : Str} (q : Q (.str (i ++ j)) H) (h : i.length + j.length ≤ sizeLine) : rAddS (.str i) (.str j) H Q := ⟨i, j, rfl, rfl, h, q⟩
theorem rd_inS {c : Nat} {z : Str} (q : Q (.bl (decide (c ∈ z.cps.toList))) H) : rInS (.str ⟨#[c]⟩) (.str z) H Q := ⟨c, z, rfl, rfl, q⟩
theorem rd_notInS {c : Nat} {z : Str} (q : Q (.bl (!decide (c ∈ z.cps.toList))) H) : rNotInS (.str ⟨#[c]⟩) (.str z) H Q := ⟨c, z, rfl, rfl, q⟩
theorem rd_isN {x : V} (q : Q (.bl (decide (x = .non))) H) : rIsN x .non H Q := ⟨rfl, q⟩
theorem rd_notN {x : V} (q : Q (.bl (!decide (x = .non))) H) : rNotN x .non H Q := ⟨rfl, q⟩
end
end EE

namespace EE
open PySem PySem.Spec PyProof.Rows L2
theorem mixOk {m a c1 c2 c3 : Int} (m0 : 0 ≤ m) (m1 : m < 2147483648) (a0 : 0 ≤ a) (a1 : a ≤ 1000000) (h1 : 0 ≤ c1) (h1' : c1 ≤ 1000000) (h2 : 0 ≤ c2) (h2' : c2 ≤ 1000000) (h3 : 0 ≤ c3) (h3' : c3 ≤ 1000000) :
    CPow (m * (2 * a + c1) + c2 * a * a + c3) 3 := by
  refine ⟨by decide, by decide, ?_⟩
  have e1 : m * (2 * a + c1) ≤ 2147483648 * 3000000 := Int.mul_le_mul (by omega) (by omega) (by omega) (by omega)
  have e0 : 0 ≤ m * (2 * a + c1) := Int.mul_nonneg m0 (by omega)
  have f1 : c2 * a ≤ 1000000 * 1000000 := Int.mul_le_mul h2' a1 a0 (by omega)
  have f0 : 0 ≤ c2 * a := Int.mul_nonneg h2 a0
  have g1 : c2 * a * a ≤ (1000000 * 1000000) * 1000000 := Int.mul_le_mul f1 a1 a0 (by omega)
  have g0 : 0 ≤ c2 * a * a := Int.mul_nonneg f0 a0
  omega
theorem mixMul {c2 a : Int} (a0 : 0 ≤ a) (a1 : a ≤ 1000000) (h2 : 0 ≤ c2) (h2' : c2 ≤ 1000000) : CMul (c2 * a) a := by
  have f1 : c2 * a ≤ 1000000 * 1000000 := Int.mul_le_mul h2' a1 a0 (by omega)
  have f0 : 0 ≤ c2 * a := Int.mul_nonneg h2 a0
  exact .inl (by omega)
theorem modLo {x m : Int} (h : 0 < m) : 0 ≤ x % m := Int.emod_nonneg _ (by omega)
theorem modHi {x m : Int} (h : 0 < m) : x % m < m := Int.emod_lt_of_pos _ h
end EE

/-! Own layer: texts, comprehensions, isinstance. -/
namespace EE
open PySem PySem.Spec PyProof.Rows L2
/-! ### texts of plain signs -/
def Asc (z : Str) : Prop := ∀ c ∈ z.cps.toList, c < 128
instance (z : Str) : Decidable (Asc z) := by unfold Asc; infer_instance
theorem Asc.ok {z : Str} (h : Asc z) : PyData.strOk z = true := by
  unfold PyData.strOk
  rw [← Array.all_toList, List.all_eq_true]
  intro c hc
  exact decide_eq_true (Nat.lt_trans (h c hc) (by decide))
theorem asc_append {x y : Str} (hx : Asc x) (hy : Asc y) : Asc (x ++ y) := by
  intro c hc
  have e : (x ++ y).cps.toList = x.cps.toList ++ y.cps.toList := Array.toList_append
  rw [e, List.mem_append] at hc
  rcases hc with hc | hc
  · exact hx c hc
  · exact hy c hc
theorem len_append (x y : Str) : (x ++ y).length = x.length + y.length := Array.size_append
theorem asc_cut {z : Str} (h : Asc z) (lo hi : Option Int) : Asc (cutS z lo hi) := by
  intro c hc
  have e : (cutS z lo hi).cps.toList = (z.cps.toList.drop (HT.sIx z.length 0 lo)).take (HT.sIx z.length z.length hi - HT.sIx z.length 0 lo) := rfl
  rw [e] at hc
  exact h c (List.mem_of_mem_drop (List.mem_of_mem_take hc))
theorem asc_one {c : Nat} (h : c < 128) : Asc ⟨#[c]⟩ := by
  intro d hd
  have e : d = c := by simpa using hd
  omega
theorem asc_join {sep : Str} (hs : Asc sep) : ∀ {ys : List Str}, (∀ y ∈ ys, Asc y) → Asc (Str.join sep ys)
  | [], _ => fun c hc => absurd hc (by show ¬ c ∈ ([] : List Nat); simp)
  | [x], h => h x (by simp)
  | x :: y :: r, h => by
    show Asc (x ++ sep ++ Str.join sep (y :: r))
    exact asc_append (asc_append (h x (by simp)) hs) (asc_join hs fun z hz => h z (List.mem_cons_of_mem _ hz))
theorem len_join (sep : Str) : ∀ ys : List Str, (Str.join sep ys).length ≤ (ys.map (·.length)).sum + ys.length * sep.length
  | [] => Nat.zero_le _
  | [x] => by simp [Str.join]
  | x :: y :: r => by
    show (x ++ sep ++ Str.join sep (y :: r)).length ≤ _
    rw [len_append, len_append]
    have ih := len_join sep (y :: r)
    simp only [List.map_cons, List.sum_cons, List.length_cons] at ih ⊢
    rw [Nat.add_mul (r.length + 1) 1]
    omega
theorem asc_int (i : Int) : Asc (toString i : String) := by
  intro c hc
  have e : (Str.ofString (toString i)).cps.toList = (toString i).toList.map Char.toNat := signs_ofString _
  have hc' : c ∈ (toString i).toList.map Char.toNat := by
    rw [← e]; exact hc
  obtain ⟨ch, h1, rfl⟩ := List.mem_map.mp hc'
  rcases int_sign i ch h1 with h | h
  · unfold Char.isDigit at h
    simp at h
    have := h.2
    show ch.val.toNat < 128
    have h2 : ch.val.toNat ≤ 57 := this
    omega
  · rw [h]; decide
theorem len_int {i : Int} {k : Nat} (hk : 0 < k) (h : i.natAbs < 10 ^ k) : (Str.ofString (toString i)).length ≤ k + 1 := by
  have := int_text_length_le10 hk h
  have e : (Str.ofString (toString i)).length = (toString i).length := by
    show (Str.ofString (toString i)).cps.size = (toString i).length
    rw [← Array.length_toList, signs_ofString, List.length_map]
    rfl
  omega
theorem log2_lt {n k : Nat} (h : n < 2 ^ k) (hk : 0 < k) : n.log2 < k := by
  rcases Nat.eq_zero_or_pos n with e | e
  · subst e; exact hk
  · exact (Nat.log2_lt (by omega)).mpr h
section
variable {K : PySem.W.Frag} {σ : L2.St} {H : Hp} {Q : VK}
theorem rd_slS {z : Str} {lo hi : Option Int} (q : Q (.str (cutS z lo hi)) H) (h : z.length ≤ sizeLine) : rSlS (.str z) lo hi H Q := ⟨z, rfl, h, q⟩
theorem rd_slL {a : Addr} {xs : List V} {lo hi : Option Int} (h : SqL K H a xs) (q : ∀ p H2, H p = none → Same H H2 → H2 p = some (.lst (cutV xs lo hi)) → Q (.ref p) H2) : rSlL K (.ref a) lo hi H Q :=
  ⟨a, xs, rfl, h, fun p hp => q p _ hp (same_new hp) upd_same⟩
theorem rd_listOf {a : Addr} {xs : List V} (h : SqL K H a xs) (q : ∀ p H2, H p = none → Same H H2 → H2 p = some (.lst xs) → Q (.ref p) H2) : rListOf K [.ref a] H Q := ⟨a, xs, rfl, .inl h, fun p hp => q p _ hp (same_new hp) upd_same⟩
theorem rd_listOfT {a : Addr} {xs : List V} (h : SqT K H a xs) (q : ∀ p H2, H p = none → Same H H2 → H2 p = some (.lst xs) → Q (.ref p) H2) : rListOf K [.ref a] H Q := ⟨a, xs, rfl, .inr h, fun p hp => q p _ hp (same_new hp) upd_same⟩
theorem rd_exI {i : Int} {P : Int → Prop} (h : P i) : ∃ j, V.int i = V.int j ∧ P j := ⟨i, rfl, h⟩
theorem rd_ixS {z : Str} {i : Int} {c : Nat} (e : atI z.cps.toList i = some c) (q : Q (.str ⟨#[c]⟩) H) (h : z.length ≤ sizeLine) : rIxS (.str z) (.int i) H Q := ⟨z, i, c, rfl, rfl, h, e, q⟩
/-- join, by name -/
def rJoin (K : PySem.W.Frag) : V → List V → Hp → VK → Prop := fun x xs H Q => ∃ a p, ∃ ys : List Str, x = .str a ∧ xs = [.ref p] ∧ (SqL K H p (ys.map V.str) ∨ SqT K H p (ys.map V.str)) ∧ (ys.map (·.length)).sum + ys.length * a.length ≤ 16777216 ∧ Q (.str (Txt.join a ys)) H
theorem mt_joinN {X : Cx} : MtR X "str.join" (rJoin X.K) := mt_join
theorem rd_M1 {r : V → List V → Hp → VK → Prop} {to te : TE} (h : to σ H fun x H1 => (∃ a, x = .str a) ∧ te σ H1 fun y H2 => r x [y] H2 Q) : tM1 r to te σ H Q := h
theorem rd_M0 {r : V → List V → Hp → VK → Prop} {to : TE} (h : to σ H fun x H1 => (∃ a, x = .str a) ∧ r x [] H1 Q) : tM0 r to σ H Q := h
theorem rd_isS {a : Str} {P : Prop} (h : P) : (∃ b, V.str a = V.str b) ∧ P := ⟨⟨a, rfl⟩, h⟩
theorem rd_joinL {a : Str} {p : Addr} {ys : List Str} (h : H p = some (.lst (ys.map V.str))) (hs : (ys.map (·.length)).sum + ys.length * a.length ≤ 16777216) (q : Q (.str (Str.join a ys)) H) : rJoin K (.str a) [.ref p] H Q := ⟨a, p, ys, rfl, rfl, .inl (sqL_of h), hs, by rw [TL.join_eq]; exact q⟩
/-- isinstance with a built-in class -/
theorem rd_isi {x : V} {a c : String} {b : Bool} (ty : TyX K H x (.type a)) (e : kitB a c = some b) (q : Q (.bl b) H) : rIsi K [x, .ty c] H Q := ⟨x, .ty c, .type a, .type c, b, rfl, .ty c, ty, kit_ty e, q⟩
end
/-! ### comprehensions: what is made so far is a filterMap -/
structure LcI {α : Type} (l : List α) (F : α → Option V) (D : Addr) (H0 : Hp) (i : Nat) (H : Hp) : Prop where
  same : Same H0 H
  at_ : H D = some (.lst ((l.take i).filterMap F))
theorem LcI.zero {α : Type} {l : List α} {F : α → Option V} {D : Addr} {H0 : Hp} (hD : H0 D = none) : LcI l F D H0 0 (upd H0 D (.lst [])) := ⟨same_new hD, upd_same⟩
theorem LcI.some {α : Type} {l : List α} {F : α → Option V} {D : Addr} {H0 H H4 : Hp} {i : Nat} {a : α} {y : V} (I : LcI l F D H0 i H) (hD : H0 D = none) (hi : l[i]? = some a) (hF : F a = some y) (s : Same H H4) (hl : l.length ≤ 1000000) :
    ∃ acc, H4 D = some (.lst acc) ∧ acc.length < sizeLine ∧ LcI l F D H0 (i + 1) (upd H4 D (.lst (acc ++ [y]))) := by
  refine ⟨_, s _ _ I.at_, ?_, ?_, ?_⟩
  · have h1 := List.length_filterMap_le F (l.take i)
    have h2 : (l.take i).length ≤ l.length := by rw [List.length_take]; exact Nat.min_le_right _ _
    exact Nat.lt_of_le_of_lt (Nat.le_trans h1 (Nat.le_trans h2 hl)) (by decide)
  · intro b o e
    rw [upd_ne (ne_of_none e hD)]
    exact s _ _ (I.same _ _ e)
  · rw [upd_same, List.take_add_one, hi, List.filterMap_append]
    simp [hF]
theorem LcI.none {α : Type} {l : List α} {F : α → Option V} {D : Addr} {H0 H H4 : Hp} {i : Nat} {a : α} (I : LcI l F D H0 i H) (hi : l[i]? = .some a) (hF : F a = .none) (s : Same H H4) : LcI l F D H0 (i + 1) H4 := by
  refine ⟨fun b o e => s _ _ (I.same _ _ e), ?_⟩
  rw [s _ _ I.at_, List.take_add_one, hi, List.filterMap_append]
  simp [hF]
theorem LcI.done {α : Type} {l : List α} {F : α → Option V} {D : Addr} {H0 H : Hp} (I : LcI l F D H0 l.length H) : H D = Option.some (HO.lst (l.filterMap F)) := by
  rw [I.at_, List.take_length]
/-- over a text -/
theorem lc_str {x : Str} {g : TG} {tt : TT} {te : TE} {vs : List Nat} {σ : L2.St} {H1 : Hp} {D : Addr} {Qd : Hp → Prop} (Pv : Nat → Hp → Prop) (h0 : Pv 0 (upd H1 D (.lst [])))
    (hs : ∀ i c H, x.cps.toList[i]? = some c → Pv i H → g (.str ⟨#[c]⟩) (wipe σ vs) H fun σ2 H2 => wipe σ2 vs = wipe σ vs ∧ tt σ2 H2 fun b H3 =>
      if b = true then te σ2 H3 fun y H4 => ∃ acc, H4 D = some (.lst acc) ∧ acc.length < sizeLine ∧ Pv (i + 1) (upd H4 D (.lst (acc ++ [y]))) else Pv (i + 1) H3) (hd : ∀ H, Pv x.cps.toList.length H → Qd H) :
    ∃ W : Nat → Nat → Hp → Prop, (∃ m, W 0 m (upd H1 D (.lst []))) ∧ ∀ i m H, W i m H →
      ((Its x).stop i H ∧ Qd H) ∨ ((Its x).go i H ∧ ∃ Nx : Hp → Prop, (∀ H', Nx H' → ∃ m', m' < m ∧ W (i + 1) m' H') ∧ ∀ y H', (Its x).yld i H y H' → g y (wipe σ vs) H' fun σ2 H2 => wipe σ2 vs = wipe σ vs ∧ tt σ2 H2 fun b H3 =>
        if b = true then te σ2 H3 fun y H4 => ∃ acc, H4 D = some (.lst acc) ∧ acc.length < sizeLine ∧ Nx (upd H4 D (.lst (acc ++ [y]))) else Nx H3) := by
  have en : x.cps.toList.length = x.cps.size := Array.length_toList
  refine ⟨fun i m H => m = x.cps.size - i ∧ i ≤ x.cps.size ∧ Pv i H, ⟨x.cps.size, by simp, Nat.zero_le _, h0⟩, ?_⟩
  rintro i m H ⟨rfl, hi, p⟩
  by_cases hlt : i < x.cps.size
  · refine .inr ⟨hlt, Pv (i + 1), fun H' p' => ⟨x.cps.size - (i + 1), by omega, rfl, hlt, p'⟩, fun y H' q => ?_⟩
    obtain ⟨e, c, hc, rfl⟩ := q
    subst e
    exact hs i c H' (by rw [Array.getElem?_toList]; exact hc) p
  · have e : i = x.cps.size := by omega
    subst e
    rw [en] at hd
    exact .inl ⟨Nat.le_refl _, hd H p⟩
section
variable {K : PySem.W.Frag} {σ : L2.St} {H : Hp} {Q : VK}
/-- the comprehension's reading: what is walked, then the loop at a new list -/
def LcAt (g : TG) (tt : TT) (te : TE) (vs : List Nat) (σ : L2.St) (Q : VK) (J : It) (H1 : Hp) : Prop := ∀ D, H1 D = none → ∃ W : Nat → Nat → Hp → Prop, (∃ m, W 0 m (upd H1 D (.lst []))) ∧ ∀ i m H, W i m H →
  (J.stop i H ∧ Q (.ref D) H) ∨ (J.go i H ∧ ∃ Nx : Hp → Prop, (∀ H', Nx H' → ∃ m', m' < m ∧ W (i + 1) m' H') ∧ ∀ x H', J.yld i H x H' → g x (wipe σ vs) H' fun σ2 H2 => wipe σ2 vs = wipe σ vs ∧ tt σ2 H2 fun b H3 =>
    if b = true then te σ2 H3 fun y H4 => ∃ acc, H4 D = some (.lst acc) ∧ acc.length < sizeLine ∧ Nx (upd H4 D (.lst (acc ++ [y]))) else Nx H3)
theorem rd_lc {wi : TI} {g : TG} {tt : TT} {te : TE} {vs : List Nat} (h : wi σ H (LcAt g tt te vs σ Q)) : tLc wi g tt te vs σ H Q := h
theorem rd_iStr {te : TE} {R : It → Hp → Prop} (h : te σ H fun v H1 => ∃ x, v = .str x ∧ R (Its x) H1) : iStr te σ H R := h
theorem rd_exS {z : Str} {P : Str → Prop} (h : P z) : ∃ x, V.str z = .str x ∧ P x := ⟨z, rfl, h⟩
/-- pure: each sign gives a value or none -/
theorem lcat_str {g : TG} {tt : TT} {te : TE} {vs : List Nat} {x : Str} (F : Nat → Option V) (hl : x.length ≤ 1000000)
    (hs : ∀ D i c H', H D = none → x.cps.toList[i]? = some c → LcI x.cps.toList F D H i H' → g (.str ⟨#[c]⟩) (wipe σ vs) H' fun σ2 H2 => wipe σ2 vs = wipe σ vs ∧ tt σ2 H2 fun b H3 =>
      if b = true then te σ2 H3 fun y H4 => ∃ acc, H4 D = some (.lst acc) ∧ acc.length < sizeLine ∧ LcI x.cps.toList F D H (i + 1) (upd H4 D (.lst (acc ++ [y]))) else LcI x.cps.toList F D H (i + 1) H3)
    (hd : ∀ D H', H D = none → Same H H' → H' D = some (.lst (x.cps.toList.filterMap F)) → Q (.ref D) H') : LcAt g tt te vs σ Q (Its x) H := fun D hD =>
  lc_str (LcI x.cps.toList F D H) (LcI.zero hD) (fun i c H' hc I => hs D i c H' hD hc I) fun H' I => hd D H' hD I.same I.done
theorem rd_all {a : Addr} {bs : List Bool} (h : SqL K H a (bs.map V.bl)) (q : Q (.bl (bs.all id)) H) : rAll K [.ref a] H Q := ⟨a, bs, rfl, h, q⟩
theorem rd_any {a : Addr} {bs : List Bool} (h : SqL K H a (bs.map V.bl)) (q : Q (.bl (bs.any id)) H) : rAny K [.ref a] H Q := ⟨a, bs, rfl, h, q⟩
theorem dp_strs : ∀ {zs : List Str}, DpAll K H (zs.map V.str) (zs.map PyData.str)
  | [] => .nil
  | z :: zs => .cons (.str z) dp_strs
theorem dp_bls : ∀ {zs : List Bool}, DpAll K H (zs.map V.bl) (zs.map PyData.bool)
  | [] => .nil
  | z :: zs => .cons (.bl z) dp_bls
end
theorem shaped_flat {ds : List PyData} (h : ∀ d ∈ ds, PyData.canLay0 d = true ∧ PyData.depth d = 0) : SeqAt.shaped (.list ds) = true ∧ SeqAt.shaped (.tuple ds) = true := by
  have h1 : ∀ ds : List PyData, (∀ d ∈ ds, PyData.canLay0 d = true ∧ PyData.depth d = 0) → PyData.canLayAll0 ds = true ∧ PyData.depthAll ds = 0 := by
    intro ds
    induction ds with
    | nil => intro _; exact ⟨rfl, rfl⟩
    | cons d ds ih =>
      intro h
      obtain ⟨i1, i2⟩ := ih fun x hx => h x (List.mem_cons_of_mem _ hx)
      obtain ⟨j1, j2⟩ := h d List.mem_cons_self
      constructor
      · show (PyData.canLay0 d && PyData.canLayAll0 ds) = true
        rw [i1, j1]; rfl
      · show max (PyData.depth d) (PyData.depthAll ds) = 0
        rw [i2, j2]; rfl
  obtain ⟨a, b⟩ := h1 ds h
  constructor
  · unfold SeqAt.shaped
    rw [show PyData.canLay0 (.list ds) = true from a, show PyData.depth (.list ds) = 1 by show PyData.depthAll ds + 1 = 1; rw [b]]
    rfl
  · unfold SeqAt.shaped
    rw [show PyData.canLay0 (.tuple ds) = true from a, show PyData.depth (.tuple ds) = 1 by show PyData.depthAll ds + 1 = 1; rw [b]]
    rfl
section
variable {K : PySem.W.Frag} {σ : L2.St} {H : Hp} {Q : VK}
/-- zs == [] of texts -/
theorem rd_eqNilS {q o : Addr} {zs : List Str} (h1 : SqL K H q (zs.map V.str)) (h2 : H o = some (.lst [])) (ha : ∀ z ∈ zs, Asc z) (k : Q (.bl (decide (zs = []))) H) : rEqD K (.ref q) (.ref o) H Q := by
  refine ⟨.list (zs.map PyData.str), .list [], .lst h1 dp_strs, dp_nil h2, (shaped_flat fun d hd => ?_).1, rfl, ?_⟩
  · obtain ⟨z, hz, rfl⟩ := List.mem_map.mp hd
    exact ⟨(ha z hz).ok, rfl⟩
  · cases zs with
    | nil => exact k
    | cons n ns => exact k
end
end EE
namespace EE
open PySem PySem.Spec PyProof.Rows L2
/-! ### values of the plain kinds -/
def isStrV : V → Bool | .str _ => true | _ => false
def isBoolV : V → Bool | .bl _ => true | _ => false
def isIntV : V → Bool | .int _ => true | .bl _ => true | _ => false
inductive Th (H : Hp) : V → Prop where
  | non : Th H .non
  | bl (b : Bool) : Th H (.bl b)
  | int (i : Int) : Th H (.int i)
  | str (z : Str) (hl : z.length ≤ 1000) (ha : Asc z) : Th H (.str z)
  | lst {a : Addr} {xs : List V} (h : H a = some (.lst xs)) : Th H (.ref a)
  | tup {a : Addr} {xs : List V} (h : H a = some (.tup xs)) : Th H (.ref a)
  | dK {a : Addr} {kvs : List (Key × V)} (h : H a = some (.dK kvs)) : Th H (.ref a)
theorem Th.ty {K : PySem.W.Frag} {H : Hp} {x : V} (h : Th H x) : ∃ t, TyX K H x (.type t) ∧ kitB t "str" = some (isStrV x) ∧ kitB t "int" = some (isIntV x) ∧ kitB t "bool" = some (isBoolV x) := by
  cases h with
  | non => exact ⟨"NoneType", .base .non, (show kitB "NoneType" "str" = some false by decide +kernel), (show kitB "NoneType" "int" = some false by decide +kernel), (show kitB "NoneType" "bool" = some false by decide +kernel)⟩
  | bl b => exact ⟨"bool", .base (.bl b), (show kitB "bool" "str" = some false by decide +kernel), (show kitB "bool" "int" = some true by decide +kernel), (show kitB "bool" "bool" = some true by decide +kernel)⟩
  | int i => exact ⟨"int", .base (.int i), (show kitB "int" "str" = some false by decide +kernel), (show kitB "int" "int" = some true by decide +kernel), (show kitB "int" "bool" = some false by decide +kernel)⟩
  | str z _ _ => exact ⟨"str", .base (.str z), (show kitB "str" "str" = some true by decide +kernel), (show kitB "str" "int" = some false by decide +kernel), (show kitB "str" "bool" = some false by decide +kernel)⟩
  | lst h => exact ⟨"list", .base (.lst h), (show kitB "list" "str" = some false by decide +kernel), (show kitB "list" "int" = some false by decide +kernel), (show kitB "list" "bool" = some false by decide +kernel)⟩
  | tup h => exact ⟨"tuple", .base (.tup h), (show kitB "tuple" "str" = some false by decide +kernel), (show kitB "tuple" "int" = some false by decide +kernel), (show kitB "tuple" "bool" = some false by decide +kernel)⟩
  | dK h => exact ⟨"dict", .base (.dK h), (show kitB "dict" "str" = some false by decide +kernel), (show kitB "dict" "int" = some false by decide +kernel), (show kitB "dict" "bool" = some false by decide +kernel)⟩
theorem Th.keep {H H' : Hp} {x : V} (h : Th H x) (s : Same H H') : Th H' x := by
  cases h with
  | non => exact .non
  | bl b => exact .bl b
  | int i => exact .int i
  | str z a b => exact .str z a b
  | lst h => exact .lst (s _ _ h)
  | tup h => exact .tup (s _ _ h)
  | dK h => exact .dK (s _ _ h)
def offV (p : Addr) : V → Prop | .ref a => a ≠ p | _ => True
theorem Th.but {H H' : Hp} {p : Addr} {x : V} (h : Th H x) (n : offV p x) (s : But p H H') : Th H' x := by
  cases h with
  | non => exact .non
  | bl b => exact .bl b
  | int i => exact .int i
  | str z a b => exact .str z a b
  | lst h => exact .lst (s _ _ n h)
  | tup h => exact .tup (s _ _ n h)
  | dK h => exact .dK (s _ _ n h)
end EE

namespace EE
open PySem PySem.Spec PyProof.Rows L2
section
variable {A B p : Prop}
theorem rd_yes {σ : L2.St} {H : Hp} {Q : Bool → Hp → Prop} (h : Q true H) : tYes σ H Q := h
theorem iteNT (h : B) : if (!true) = true then A else B := iteF h
theorem iteNF (h : A) : if (!false) = true then A else B := iteT h
theorem rd_dec [Decidable p] (h1 : p → A) (h2 : ¬ p → B) : if decide p = true then A else B := by
  by_cases h : p
  · rw [decide_eq_true h]; exact iteT (h1 h)
  · rw [decide_eq_false h]; exact iteF (h2 h)
theorem rd_decN [Decidable p] (h1 : ¬ p → A) (h2 : p → B) : if (!decide p) = true then A else B := by
  by_cases h : p
  · rw [decide_eq_true h]; exact iteF (h2 h)
  · rw [decide_eq_false h]; exact iteT (h1 h)
theorem filterMap_some {α β : Type} (f : α → β) : ∀ l : List α, l.filterMap (fun a => some (f a)) = l.map f
  | [] => rfl
  | a :: l => by
    rw [List.filterMap_cons, filterMap_some f l]
    rfl
end
end EE
namespace EE
open PySem PySem.Spec PyProof.Rows L2
theorem mixL {x m j : Int} (h : 0 < m) (h2 : m < 2147483648) : CMul (x % m) j := .inl ⟨by have := modLo (x := x) h; omega, by have := modHi (x := x) h; omega⟩
theorem cutV_ints (ns : List Int) (lo hi : Option Int) : cutV (ns.map V.int) lo hi = ((ns.drop (HT.sIx ns.length 0 lo)).take (HT.sIx ns.length ns.length hi - HT.sIx ns.length 0 lo)).map V.int := by
  unfold cutV
  rw [List.length_map, List.map_take, List.map_drop]
theorem len_cutI (ns : List Int) (i j : Nat) : ((ns.drop i).take j).length ≤ ns.length := by
  rw [List.length_take, List.length_drop]
  omega
/-- a new pen for the script -/
def spPen (K : PySem.W.Frag) : Sp := fun vs H Q _ => ∃ (a : Addr) (ns : List Int), vs = [.ref a] ∧ SqL K H a (ns.map V.int) ∧ ns.length ≤ 63 ∧ ∀ p q H', H p = none → Same H H' → PenAt 0 H' p q → Q (.ref p) H'
/-- one of a list's items -/
def spPickL : Sp := fun vs H Q _ => ∃ (p q l : Addr) (xs : List V) (n : Nat), vs = [.ref p, .ref l] ∧ H l = some (.lst xs) ∧ l ≠ p ∧ 0 < xs.length ∧ xs.length ≤ 1000 ∧ n ≤ 1000000 ∧ PenAt n H p q ∧
  ∀ x H', x ∈ xs → But p H H' → PenAt (n + 1) H' p q → Q x H'
end EE

/-! Own layer: calls by keywords alone. -/
namespace EE
open PySem PySem.Spec PyProof.Rows L2
section
variable {X : Cx} {CX : CXT} {k n : Nat} {f C : Addr} {fd : FuncData} {ps ks : List Str} {sp : Sp} {E : XK} {x : Str} {p pos : Pos} {e : Expr} {es : List Expr} {kws : List Keyword} {t tk : TA} {g : List Value → List Value → List Value} {gV : List V → List V → List V}
/-- f(k = v, ..) -/
theorem pe_callN0 (F : FnOk X.prog X.w X.K X.mg X.base CX k f fd ps sp) (hr : Room k X.A) (hg : Gl X x) (hm : X.mg x = some (.ref f)) (hk : PySem.W.keepIn X.K (.ref f) = true) (hb : KBn X.K fd ps 0 ks g gV) (hx : Passes CX X E)
    (hkw : PK X kws tk) (hall : (backToKw pos (keywordEach kws X.env)).all (·.1.isSome) = true := by rfl) (hks : (backToKw pos (keywordEach kws X.env)).filterMap (·.1) = ks := by rfl)
    (hdb : (x == ("__debug__" : Str)) = false := by decide)
    (hpl : ((backTo pos (starEach [] X.env)).any (·.1) || (backToKw pos (keywordEach kws X.env)).any (·.1.isNone)) = false := by rfl) :
    PE X (.Call (.Name x p) [] kws pos) (tCallN 0 ks.length sp gV E tNil tk) := by
  refine ⟨fun pins s σ H Q I h => ?_⟩
  refine wpAny_Call_Name_kw (ld_glob I hg hm ?_ hdb)
  refine PySem.W.callWith_KW0 (h₀ := X.base) I.ok.mod.kin hk hall ?_ hpl
  refine thn (hkw.run pos pins s σ H _ I h) fun ws s2 ⟨zs, H2, I2, rz, l1, l2, q2⟩ => ⟨I2.kIn, ?_⟩
  rw [hks]
  exact run_fnN (us := []) (vs := []) F hr hb hx I2 .nil rz rfl l2 q2
end
section
variable {σ : L2.St} {H : Hp} {Q : VK}
theorem rd_callN {n m : Nat} {sp : Sp} {gV : List V → List V → List V} {E : XK} {t tk : TA} (h : t σ H fun vs H1 => tk σ H1 fun zs H2 => vs.length = n ∧ zs.length = m ∧ sp (gV vs zs) H2 Q E) : tCallN n m sp gV E t tk σ H Q := h
theorem rd_iRng1 {ta : TA} {R : It → Hp → Prop} (h : ta σ H fun vs H1 => ∃ j : Int, vs = [.int j] ∧ -(2 ^ 62) ≤ j ∧ j < 2 ^ 62 ∧ R (Itr 0 j.toNat) H1) : iRng1 ta σ H R := h
theorem rd_iRng2 {ta : TA} {R : It → Hp → Prop} (h : ta σ H fun vs H1 => ∃ i j : Int, vs = [.int i, .int j] ∧ (-(2 ^ 62) ≤ i ∧ i < 2 ^ 62 ∧ -(2 ^ 62) ≤ j ∧ j < 2 ^ 62) ∧ R (Itr i (j - i).toNat) H1) : iRng2 ta σ H R := h
theorem rd_exIs {i : Int} {P : Int → Prop} (h : P i) : ∃ j, [V.int i] = [V.int j] ∧ P j := ⟨i, rfl, h⟩
theorem rd_iList {K : PySem.W.Frag} {te : TE} {R : It → Hp → Prop} (h : te σ H fun x H1 => ∃ a, x = .ref a ∧ (∃ xs, SqL K H1 a xs) ∧ R (Itl K a) H1) : iList K te σ H R := h
theorem rd_iTup {K : PySem.W.Frag} {te : TE} {R : It → Hp → Prop} (h : te σ H fun x H1 => ∃ a, x = .ref a ∧ (∃ xs, SqT K H1 a xs) ∧ R (Itt K a) H1) : iTup K te σ H R := h
theorem rd_exR {a : Addr} {P : Addr → Prop} (h : P a) : ∃ b, V.ref a = V.ref b ∧ P b := ⟨a, rfl, h⟩
/-- an item at a drawn place -/
theorem rd_pickL {K : PySem.W.Frag} {p : Addr} {xs : List V} {d : Int} (h : H p = some (.lst xs)) (d0 : 0 ≤ d) (d1 : d < (xs.length : Nat)) (k : ∀ x, x ∈ xs → Q x H) : rIxL K (.ref p) (.int d) H Q := by
  obtain ⟨j, hj, _, hat⟩ := atI_lt d0 d1
  exact rd_ixL (sqL_of h) hat (k _ (List.getElem_mem hj))
/-- a for loop at its walked thing -/
def ForAt (g : TG) (tb : TS) (D : Ends) (σ : L2.St) (J : It) (H1 : Hp) : Prop := ∃ W : Nat → Nat → L2.St → Hp → Prop, (∃ m, W 0 m σ H1) ∧ ∀ i m σ H, W i m σ H →
  (J.stop i H ∧ D.nx σ H) ∨ (J.go i H ∧ ∃ N : L2.St → Hp → Prop, (∀ σ' H', N σ' H' → ∃ m', m' < m ∧ W (i + 1) m' σ' H') ∧ ∀ x H', J.yld i H x H' → g x σ H' fun σ2 H2 => tb { D with nx := N, ct := N, bk := D.nx } σ2 H2)
theorem rd_for {wi : TI} {g : TG} {tb : TS} {D : Ends} (h : wi σ H (ForAt g tb D σ)) : tFor wi g tb D σ H := h
theorem rd_two {A : Prop} {a b : Nat} (h : A) (ha : a = b := by rfl) {c d : Nat} (hc : c = d := by rfl) : a = b ∧ c = d ∧ A := ⟨ha, hc, h⟩
theorem ent_range {n : Nat} {g : TG} {tt : TT} {te : TE} {vs : List Nat} (Pv : Addr → Nat → Hp → Prop) (h0 : ∀ D, H D = none → Pv D 0 (upd H D (.lst [])))
    (hs : ∀ D i H', H D = none → i < n → Pv D i H' → g (.int (0 + i)) (wipe σ vs) H' fun σ2 H2 => wipe σ2 vs = wipe σ vs ∧ tt σ2 H2 fun b H3 =>
      if b = true then te σ2 H3 fun y H4 => ∃ acc, H4 D = some (.lst acc) ∧ acc.length < sizeLine ∧ Pv D (i + 1) (upd H4 D (.lst (acc ++ [y]))) else Pv D (i + 1) H3)
    (hd : ∀ D H', H D = none → Pv D n H' → Q (.ref D) H') : LcAt g tt te vs σ Q (Itr 0 n) H := fun D hD =>
  lc_range (lo := 0) (Pv D) (h0 D hD) (fun i H' hi I => hs D i H' hD hi I) fun H' I => hd D H' hD I
end
/-- a def that others call: where it stands, its promise -/
structure Cal (P : Program) (w : World) (K : PySem.W.Frag) (mg : Str → Option Value) (base : Heap) (k : Nat) (x : Str) (st : Stmt) (ps : List Str) (sp : Sp) (f : Addr) (fd : FuncData) : Prop where
  F : Fun K x x st f fd
  G : FnOk P w K mg base CX0 k f fd ps sp
  g : mg x = some (.ref f)
  b : Binds K fd ps []
/-- the binding of one keyword to the one parameter -/
theorem kbn_one {K : PySem.W.Frag} {x qual : Str} {st : Stmt} {f : Addr} {fd : FuncData} {p : Str} (F : Fun K x qual st f fd)
    (h : ∀ (kV doc pm : Value) (an : Option Addr) (cdv ct : Value) (u : Value), bindArgs (PySem.W.fnOf x qual (defArgs st) (defBody st) (defScope st) .none kV doc pm an cdv ct) ⟨[], [(p, u)]⟩ = pure [(p, u)]) :
    KBn K fd [p] 0 [p] (fun us ws => us ++ ws) (fun us ws => us ++ ws) := by
  obtain ⟨oc, od, kV, doc, pm, an, cdv, ct, osl, rfl, lk, hcd⟩ := F.ex
  refine ⟨fun s us ws _ l1 l2 => ?_, fun r1 r2 => r1.append r2⟩
  match us, ws, l1, l2 with
  | [], [w], _, _ => exact .of_eq (h kV doc pm an cdv ct w)
end EE

namespace EE
open PySem PySem.Spec PyProof.Rows L2
theorem but_new {D p : Addr} {H H' : Hp} {o : HO} (hD : H D = none) (n : D ≠ p) : But D H' (upd H' D o) := but_upd
/-- a change at an address that was new ahead is no change of what stood there -/
theorem But.grow {D p : Addr} {H0 H : Hp} {o : HO} (hD : H0 D = none) (h : But p H0 H) : But p H0 (upd H D o) := fun b u n e => by
  rw [upd_ne (ne_of_none e hD)]
  exact h b u n e
theorem Same.grow {D : Addr} {H0 H : Hp} {o : HO} (hD : H0 D = none) (h : Same H0 H) : Same H0 (upd H D o) := fun b u e => by
  rw [upd_ne (ne_of_none e hD)]
  exact h b u e
theorem lets_at {d : Int} (d0 : 0 ≤ d) (d1 : d < 26) : ∃ c, atI (Str.ofString "abcdefghijklmnopqrstuvwxyz").cps.toList d = some c ∧ c < 128 := by
  have e : (Str.ofString "abcdefghijklmnopqrstuvwxyz").cps.toList = (List.range 26).map (· + 97) := by decide +kernel
  rw [e]
  unfold atI ixN
  rw [if_pos d0, if_pos (by rw [List.length_map, List.length_range]; exact d1)]
  refine ⟨d.toNat + 97, ?_, by omega⟩
  show ((List.range 26).map (· + 97))[d.toNat]? = _
  rw [List.getElem?_map, List.getElem?_range (by omega)]
  rfl
end EE

namespace EE
open PySem PySem.Spec PyProof.Rows L2
section
variable {K : PySem.W.Frag} {σ : L2.St} {H : Hp} {Q : VK}
theorem rd_dnewK (h : ∀ p H2, H p = none → Same H H2 → H2 p = some (.dK []) → Q (.ref p) H2) : tDNewK σ H Q := fun p hp => h p _ hp (same_new hp) upd_same
/-- a displayed dict behind its pairs -/
def DispAt (p : Addr) (ps : List (V × V)) (H : Hp) (Q : VK) : Prop := H p = some (.dK []) ∧ ∃ kvs : List (Key × V), ps = kvs.map (fun kv => (kV kv.1, kv.2)) ∧ kvs.length ≤ 15 ∧ Q (.ref p) (upd H p (.dK (mergeK [] kvs)))
theorem rd_disp {trs : List (TE × TE)} (h : ∀ p H1, H p = none → Same H H1 → H1 p = some (.dK []) → tPairs trs σ H1 fun ps H2 => DispAt p ps H2 Q) : tDisp trs σ H Q := fun p hp => h p _ hp (same_new hp) upd_same
theorem rd_pnil {R : List (V × V) → Hp → Prop} (h : R [] H) : tPairs [] σ H R := h
theorem rd_pcons {tk tv : TE} {r : List (TE × TE)} {R : List (V × V) → Hp → Prop} (h : tk σ H fun x H1 => tv σ H1 fun y H2 => tPairs r σ H2 fun ps H3 => R ((x, y) :: ps) H3) : tPairs ((tk, tv) :: r) σ H R := h
theorem disp_done {p : Addr} {ps : List (V × V)} (kvs : List (Key × V)) (h : H p = some (.dK [])) (e : ps = kvs.map (fun kv => (kV kv.1, kv.2))) (l : kvs.length ≤ 15) (q : ∀ H3, But p H H3 → H3 p = some (.dK (mergeK [] kvs)) → Q (.ref p) H3) : DispAt p ps H Q := ⟨h, kvs, e, l, q _ but_upd upd_same⟩
theorem _root_.L2.Same.disp {p : Addr} {H H1 H2 : Hp} (n : H p = none) (s : Same H H1) (e : But p H1 H2) : Same H H2 := fun b o h => e _ _ (ne_of_none h n) (s _ _ h)
theorem two_bools (b : Bool) : (PyData.list [.bool b, .bool b]).shown.length ≤ sizeLine := by cases b <;> decide +kernel
theorem dp_two {a : Addr} {b c : Bool} (h : H a = some (.lst [.bl b, .bl c])) : Dp K H (.ref a) (.list [.bool b, .bool c]) := .lst (sqL_of h) (.cons (.bl b) (.cons (.bl c) .nil))
theorem rd_rep {l : Addr} {k : Int} {xs : List V} (h : H l = some (.lst xs)) (k0 : 0 ≤ k) (k1 : k ≤ 1000) (hx : xs.length ≤ 1000) (q : ∀ p H2, H p = none → Same H H2 → H2 p = some (.lst (List.replicate k.toNat xs).flatten) → Q (.ref p) H2) : rRep (.ref l) (.int k) H Q := by
  refine ⟨l, k, xs, rfl, rfl, h, by omega, by omega, ?_, fun p hp => q p _ hp (same_new hp) upd_same⟩
  have : xs.length * k.toNat ≤ 1000 * 1000 := Nat.mul_le_mul hx (by omega)
  exact Nat.le_trans this (by decide)
theorem rd_cat {l b : Addr} {xs zs : List V} (h1 : H l = some (.lst xs)) (h2 : H b = some (.lst zs)) (hl : xs.length + zs.length ≤ 100000) (q : ∀ p H2, H p = none → Same H H2 → H2 p = some (.lst (xs ++ zs)) → Q (.ref p) H2) : rCat (.ref l) (.ref b) H Q :=
  ⟨l, b, xs, zs, rfl, rfl, h1, h2, Nat.le_trans hl (by decide), fun p hp => q p _ hp (same_new hp) upd_same⟩
theorem rd_repr {a : Addr} {d : PyData} (h : Dp K H (.ref a) d) (h1 : d.showable = true) (h2 : d.hasDict = false) (h3 : d.depth ≤ 60) (h4 : d.shown.length ≤ sizeLine) (q : Q (.str d.shown) H) : rReprD K [.ref a] H Q := ⟨a, d, rfl, h, h1, h2, h3, h4, q⟩
theorem rd_eqD {x y : V} {d e : PyData} (h1 : Dp K H x d) (h2 : Dp K H y e) (s1 : SeqAt.shaped d = true) (s2 : SeqAt.shaped e = true) (q : Q (.bl (PyData.eqv d e)) H) : rEqD K x y H Q := ⟨d, e, h1, h2, s1, s2, q⟩
theorem rd_neD {x y : V} {d e : PyData} (h1 : Dp K H x d) (h2 : Dp K H y e) (s1 : SeqAt.shaped d = true) (s2 : SeqAt.shaped e = true) (q : Q (.bl (!PyData.eqv d e)) H) : rNeD K x y H Q := ⟨d, e, h1, h2, s1, s2, q⟩
theorem lcat_tup {g : TG} {tt : TT} {te : TE} {vs : List Nat} {a : Addr} {xs : List V} (F : V → Option V) (hl : xs.length ≤ 1000000) (hx : H a = some (.tup xs))
    (hs : ∀ D i x H', H D = none → xs[i]? = some x → LcI xs F D H i H' → g x (wipe σ vs) H' fun σ2 H2 => wipe σ2 vs = wipe σ vs ∧ tt σ2 H2 fun b H3 =>
      if b = true then te σ2 H3 fun y H4 => ∃ acc, H4 D = some (.lst acc) ∧ acc.length < sizeLine ∧ LcI xs F D H (i + 1) (upd H4 D (.lst (acc ++ [y]))) else LcI xs F D H (i + 1) H3)
    (hd : ∀ D H', H D = none → Same H H' → H' D = some (.lst (xs.filterMap F)) → Q (.ref D) H') : LcAt g tt te vs σ Q (Itt K a) H := fun D hD =>
  lc_tup (K := K) (xs := xs) (LcI xs F D H) (LcI.zero hD) (fun i H' _ I => sqT_of (I.same _ _ hx)) (fun i x H' hc I => hs D i x H' hD hc I) fun H' I => hd D H' hD I.same I.done
theorem lcat_list {g : TG} {tt : TT} {te : TE} {vs : List Nat} {a : Addr} {xs : List V} (F : V → Option V) (hl : xs.length ≤ 1000000) (hx : H a = some (.lst xs))
    (hs : ∀ D i x H', H D = none → xs[i]? = some x → LcI xs F D H i H' → g x (wipe σ vs) H' fun σ2 H2 => wipe σ2 vs = wipe σ vs ∧ tt σ2 H2 fun b H3 =>
      if b = true then te σ2 H3 fun y H4 => ∃ acc, H4 D = some (.lst acc) ∧ acc.length < sizeLine ∧ LcI xs F D H (i + 1) (upd H4 D (.lst (acc ++ [y]))) else LcI xs F D H (i + 1) H3)
    (hd : ∀ D H', H D = none → Same H H' → H' D = some (.lst (xs.filterMap F)) → Q (.ref D) H') : LcAt g tt te vs σ Q (Itl K a) H := fun D hD =>
  lc_list (K := K) (xs := xs) (LcI xs F D H) (LcI.zero hD) (fun i H' _ I => sqL_of (I.same _ _ hx)) (fun i x H' hc I => hs D i x H' hD hc I) fun H' I => hd D H' hD I.same I.done
end
end EE

/-! Own layer: the end of a law whose def has a promise at places where nothing is being shown. -/
namespace EE
open PySem PySem.Spec PyProof.Rows L2
section
variable {P : Program} {w : World} {K : PySem.W.Frag} {mg mb : Str → Option Value} {CX : CXT} {k : Nat} {fa a : Addr} {fd : FuncData} {x : Str} {sp : Sp} {S : Shared} {us : List Value} {ns : List Int}
/-- the heap that tracks the script alone (nothing, if the module holds it) -/
def scrH (K : PySem.W.Frag) (a : Addr) (us : List Value) (ns : List Int) : Hp := fun b => if b = a ∧ K.lookup a = none then some (.frz { cls := .type "list", data := .seq us.toArray } (.lst (ns.map V.int))) else none
theorem scrH_some {b : Addr} {u : HO} (h : scrH K a us ns b = some u) : b = a ∧ K.lookup a = none ∧ u = .frz { cls := .type "list", data := .seq us.toArray } (.lst (ns.map V.int)) := by
  unfold scrH at h
  by_cases c : b = a ∧ K.lookup a = none
  · rw [if_pos c] at h
    exact ⟨c.1, c.2, (Option.some.inj h).symm⟩
  · rw [if_neg c] at h
    cases h
theorem scrH_only : Only (scrH K a us ns) := fun b => by
  cases q : scrH K a us ns b with
  | none => exact Or.inl rfl
  | some u =>
    obtain ⟨_, _, rfl⟩ := scrH_some q
    exact Or.inr ⟨_, _, rfl⟩
theorem end_law (kin : K.In S.heap) (gl : S.heap.Ns mainGlobals mg) (bl : S.heap.Ns builtinsNs mb) (bb : ∀ y : Str, y ≠ "__name__" → mb y = bootBuiltins y) (nol : S.heap.NoLimit) (gens : S.gens = #[])
    (scr : S.heap.get? a = some { cls := .type "list", data := .seq us.toArray }) (are : IntsAre us ns) (few : ns.length ≤ sizeLine) (room : RoomG k callerA)
    (F : ∀ base : Heap, K.In base → base.Ns mainGlobals mg → FnG P w K mg base CX k fa fd [x] sp) (bd : ∀ (t : Shared) (u : Value), BindsTo t fd ⟨[u], []⟩ [(x, u)])
    (hsp : ∀ H : Hp, Only H → SqL K H a (ns.map V.int) → sp [.ref a] H (fun v _ => v = .bl true) fun _ _ _ => False) (out : ∀ H e t, CX [] H S (fun _ _ _ => False) e t → False) :
    codeAny (model P w) callerA (Code.call (Value.ref fa) ⟨[.ref a], []⟩) (fun r t => r = .ok (.ret (.bool true)) ∧ OldK S.heap t.heap ∧ t.os = S.os ∧ AllBare t.gens) S := by
  have rel := vals_ints are
  have lens : us.length = ns.length := are.length
  let H := scrH K a us ns
  have one : ∀ {b : Addr} {u : HO}, H b = some u → b = a ∧ K.lookup a = none ∧ u = .frz { cls := .type "list", data := .seq us.toArray } (.lst (ns.map V.int)) := fun h => scrH_some h
  have ok : HOk P w H S.heap := fun b u h => by
    obtain ⟨rfl, _, rfl⟩ := one h
    exact ⟨scr, (by rw [List.length_map]; exact few), us, 0, rel, scr⟩
  -- dicts are not the script
  have ns_of : ∀ {b : Addr} {m : Str → Option Value}, S.heap.Ns b m → (hidT S.heap H).Ns b m := by
    rintro b m ⟨o, es, ep, e, d, r⟩
    refine ⟨o, es, ep, hidT_get e ?_, d, r⟩
    cases q : H b with
    | none => rfl
    | some u =>
      obtain ⟨rfl, _, _⟩ := one q
      rw [scr] at e
      cases e
      cases (show Data.seq us.toArray _ = Data.dict es ep from d)
  have kin0 : K.In (hidT S.heap H) := fun b o e => hidT_get (kin b o e) (by
    cases q : H b with
    | none => rfl
    | some u =>
      obtain ⟨rfl, nk, _⟩ := one q
      rw [nk] at e
      cases e)
  have gl0 := ns_of gl
  obtain ⟨mc, l1, l2⟩ := nol
  have e0 : Env0 P w K mg (hidT S.heap H) callerA [] S H := by
    refine ⟨rfl, ⟨kin0, gl0, ⟨mb, ns_of bl, bb⟩, ⟨mc, ns_of l1, l2⟩⟩, fun b o e => of_hidT e, ?_, trivial, ?_, ok, AllBare.of_eq gens⟩
    · rw [hidT_size]
      exact Nat.le_refl _
    · intro b hb
      cases (show b ∈ ([] : List Addr) from hb)
  have sq : SqL K H a (ns.map V.int) := by
    cases hk : K.lookup a with
    | none => exact Or.inl (Or.inr ⟨_, if_pos ⟨rfl, hk⟩⟩)
    | some o =>
      have e := kin a o hk
      rw [scr] at e
      cases e
      exact Or.inr ⟨_, us.toArray, _, hk, rfl, rfl, rfl, (by rw [List.size_toArray, lens]; exact few), (by simpa using rel)⟩
  refine codeAny_mono ((F _ kin0 gl0).runs callerA room [] S H ⟨[.ref a], []⟩ [.ref a] [.ref a] _ _ e0 (bd S (.ref a)) (Paired.cons rfl .nil) (hsp H scrH_only sq)) fun r t h => ?_
  match r, h with
  | .error e, h => exact (out H e t h).elim
  | .ok .next, h => exact h.elim
  | .ok .brk, h => exact h.elim
  | .ok .cont, h => exact h.elim
  | .ok (.ret u), ⟨v, H1, os, bare, un, ok1, rv, q⟩ =>
    have q1 : v = .bl true := q
    subst q1
    cases (show u = Value.bool true from rv)
    refine ⟨rfl, OldK.of_keep fun b o e => ?_, os, bare⟩
    cases z : H b with
    | none => exact un.keep b o e z (fun m => nomatch (show b ∈ ([] : List Addr) from m)) (fun m => nomatch m)
    | some u =>
      obtain ⟨rfl, _, rfl⟩ := one z
      obtain ⟨e2, _⟩ := ok1 b _ (un.frzs b _ _ z)
      rw [scr] at e
      cases e
      exact e2
end
/-- the goal that k_head leaves, from the law's promise -/
theorem walk_ofG {l : PySem.W.OpenLaw} {n k : Nat} {q : Program} {loose : List Str} {XP : (Str → Option Value) → Heap → Prop} {YP : World → Heap → Prop} {d : DefRec} {K : Params → PySem.W.Frag} {sp : PySem.W.Frag → Sp} {x : Str}
    (hn : l.most = some n) (hn2 : n ≤ sizeLine) (hdf : d.params.defaults = []) (room : RoomG k callerA) (hY : ∀ (w : World) (h : Heap), YP w h → (K w.params).In h)
    (F : ∀ (w : World) (mg : Str → Option Value) (fa : Addr) (h : Heap), (K w.params).In h → h.Ns mainGlobals mg → mg d.name = some (.ref fa) →
      ∃ fd : FuncData, (∀ (s : Shared) (u : Value), BindsTo s fd ⟨[u], []⟩ [(x, u)]) ∧ ∀ base : Heap, (K w.params).In base → base.Ns mainGlobals mg → FnG l.prog w (K w.params) mg base CX0 k fa fd [x] (sp (K w.params)))
    (hsp : ∀ (K : PySem.W.Frag) (H : Hp) (a : Addr) (ns : List Int), ns.length ≤ n → Only H → SqL K H a (ns.map V.int) → sp K [.ref a] H (fun v _ => v = .bl true) fun _ _ _ => False) :
    PySem.W.WalkO q loose XP YP l.row.toRowW d [] (fun f vs => PySem.call f vs) :=
  Att.attach_call hn hdf fun w s0 s1 mg mb fa o pm cd doc a us ns G Y ho hd hcd hmg hobj hints hlen hg => by
    have kin := hY w _ Y
    obtain ⟨fd, bd, hF⟩ := F w mg fa _ kin G.T.g hmg
    exact end_law kin G.T.g G.T.b G.T.builtins G.T.nolimit hg hobj hints (Nat.le_trans hlen hn2) room hF bd (fun H ho hs => hsp (K w.params) H a ns hlen ho hs) fun _ _ _ z => z
end EE

/-! Own layer: own exceptions as values: made, their fields stored and read, isinstance. -/
namespace EE
open PySem PySem.Spec PyProof.Rows L2
/-- what the written part says of an own exception class, as one test -/
def exB (K : PySem.W.Frag) (C : Addr) (bmB : List Value) (newId : String) : Bool :=
  PySem.W.excInitIn K C bmB newId && (PySem.W.excOver K C bmB && (decide (PySem.W.findIn K (.ref C) "__setattr__" = some (some (.builtin "object.__setattr__"))) && (decide (PySem.W.subIn K (.ref C) (.type "BaseException") = some true) &&
  (decide (PySem.W.typeIn K (.ref C) = some (.type "type")) && (PySem.W.keepIn K (.ref C) && (xfB K C && (decide (PySem.W.findIn K (.ref C) "__class__" = some (some (.builtin "object.__class__"))) &&
  (decide (PySem.W.specialIn K (.builtin "object.__class__") "__get__" = some (some (.builtin "getset_descriptor.__get__"))) && (decide (PySem.W.takesIn K (.builtin "object.__class__") = some true) && decide (PySem.W.mroIn K C (.type "object") = some true))))))))))
/-- an own exception class at C -/
structure ExK (K : PySem.W.Frag) (C : Addr) : Prop where
  ini : ∃ (B newId initId : String) (bmB : List Value), ExcBaseFacts B newId initId bmB ∧ StoreFacts B bmB "object.__setattr__" "object" ∧ PySem.W.excInitIn K C bmB newId = true ∧ PySem.W.excOver K C bmB = true
  sa : PySem.W.findIn K (.ref C) "__setattr__" = some (some (.builtin "object.__setattr__"))
  exC : PySem.W.subIn K (.ref C) (.type "BaseException") = some true
  tyC : PySem.W.typeIn K (.ref C) = some (.type "type")
  kC : PySem.W.keepIn K (.ref C) = true
  xf : XfC K C
  ha : PySem.W.findIn K (.ref C) "__class__" = some (some (.builtin "object.__class__"))
  hn : PySem.W.specialIn K (.builtin "object.__class__") "__get__" = some (some (.builtin "getset_descriptor.__get__"))
  ht : PySem.W.takesIn K (.builtin "object.__class__") = some true
  hm : PySem.W.mroIn K C (.type "object") = some true
theorem exB_ok {K : PySem.W.Frag} {C : Addr} {B newId initId : String} {bmB : List Value} (F : ExcBaseFacts B newId initId bmB) (S : StoreFacts B bmB "object.__setattr__" "object") (h : exB K C bmB newId = true) : ExK K C := by
  obtain ⟨h1, h⟩ := Bool.and_eq_true_iff.mp h
  obtain ⟨h2, h⟩ := Bool.and_eq_true_iff.mp h
  obtain ⟨h3, h⟩ := Bool.and_eq_true_iff.mp h
  obtain ⟨h4, h⟩ := Bool.and_eq_true_iff.mp h
  obtain ⟨h5, h⟩ := Bool.and_eq_true_iff.mp h
  obtain ⟨h6, h⟩ := Bool.and_eq_true_iff.mp h
  obtain ⟨h7, h⟩ := Bool.and_eq_true_iff.mp h
  obtain ⟨h8, h⟩ := Bool.and_eq_true_iff.mp h
  obtain ⟨h9, h⟩ := Bool.and_eq_true_iff.mp h
  obtain ⟨ha, hb⟩ := Bool.and_eq_true_iff.mp h
  exact ⟨⟨B, newId, initId, bmB, F, S, h1, h2⟩, of_decide_eq_true h3, of_decide_eq_true h4, of_decide_eq_true h5, h6, xfB_ok h7, of_decide_eq_true h8, of_decide_eq_true h9, of_decide_eq_true ha, of_decide_eq_true hb⟩
theorem exV {K : PySem.W.Frag} {C : Addr} (h : exB K C [.type "ValueError", .type "Exception", .type "BaseException", .type "object"] "ValueError.__new__" = true) : ExK K C := exB_ok F.excBase_ValueError F.store_ValueError h
theorem exL {K : PySem.W.Frag} {C : Addr} (h : exB K C [.type "LookupError", .type "Exception", .type "BaseException", .type "object"] "LookupError.__new__" = true) : ExK K C := exB_ok F.excBase_LookupError F.store_LookupError h
theorem exO {K : PySem.W.Frag} {C : Addr} (h : exB K C [.type "OverflowError", .type "ArithmeticError", .type "Exception", .type "BaseException", .type "object"] "OverflowError.__new__" = true) : ExK K C := exB_ok F.excBase_OverflowError F.store_OverflowError h
theorem exI {K : PySem.W.Frag} {C : Addr} (h : exB K C [.type "IndexError", .type "LookupError", .type "Exception", .type "BaseException", .type "object"] "IndexError.__new__" = true) : ExK K C := exB_ok F.excBase_IndexError F.store_IndexError h
/-! ### the store `self.f = v` -/
section
variable {X : Cx} {pins : List (Addr × Obj)} {σ : L2.St} {H : Hp} {s : Shared} {a C dx : Addr} {f : Str} {y : V} {u : Value} {fs : List (Str × V)} {Q : Unit → Shared → Prop} {E : Value → Shared → Prop} {A : Around}
theorem taker_none {K : PySem.W.Frag} (h : PySem.W.findIn K (.ref C) f = some none) : PySem.W.takerIn K C f = some none := by
  unfold PySem.W.takerIn
  rw [h]
  rfl
theorem st_new (T : ExK X.K C) (I : Inv X pins σ H s) (e : H a = some (exo a C none)) (hno : PySem.W.findIn X.K (.ref C) f = some none) (ry : RelV y u)
    (h : ∀ (dx : Addr) (H' : Hp) s', H dx = none → dx ≠ a → H' a = some (exo a C (some dx)) → H' dx = some (exd dx [(f, y)]) → (∀ b, b ≠ a → b ≠ dx → H' b = H b) → Inv X pins σ H' s' → Q () s') : wpAny (model X.prog X.w) A (setAttr (.ref a) f u) Q E s := by
  obtain ⟨B, newId, initId, bmB, FB, SF, q1, q2⟩ := T.ini
  obtain ⟨cd, hcd, hh⟩ := PySem.W.any_some T.xf.hdC
  obtain ⟨t1, ho⟩ := exo_at I.hok e
  refine PySem.W.set_plain I.kIn (ox := { cls := .ref C, dict := none, data := .fields #[.ref t1, .none, .none, .none, .bool false, .none] }) (od := none) ⟨ho, rfl, rfl, trivial⟩ T.sa ?_
  refine PySem.W.osa_openX (s := { s with toks := s.toks + 1 }) (od := none) SF I.kIn ⟨ho, rfl, rfl, trivial⟩ q2 (taker_none hno) fun b => ?_
  have hxs : a < s.heap.objs.size := Heap.lt_size ho
  have hnd : H s.heap.objs.size = none := I.hok.fresh (Nat.le_refl _)
  refine wpAny_bind (wpAny_pure (wpAny_bind (PySem.W.instanceDict_exc ho (PySem.W.looks_clsIn I.kIn hcd) hh ?_)))
  have hx1 : (s.heap.push (PySem.W.dictOf [] 0)).get? a = some { cls := .ref C, dict := none, data := .fields #[.ref t1, .none, .none, .none, .bool false, .none] } := Heap.get?_push_of_some _ ho
  have hx2 := Heap.get?_update_self (fun o : Obj => { o with dict := some s.heap.objs.size }) hx1 rfl
  have hd1 : (s.heap.push (PySem.W.dictOf [] 0)).get? s.heap.objs.size = some (PySem.W.dictOf [] 0) := Heap.get?_push_size _ rfl
  have ne : s.heap.objs.size ≠ a := Nat.ne_of_gt hxs
  have hd2 : ((s.heap.push (PySem.W.dictOf [] 0)).update a fun o => { o with dict := some s.heap.objs.size }).get? s.heap.objs.size = some (PySem.W.dictOf [] 0) := (Heap.get?_update_ne _ _ _ _ ne).trans hd1
  have hns : ∀ {h : Heap}, h.get? s.heap.objs.size = some (PySem.W.dictOf [] 0) → h.Ns s.heap.objs.size (fun _ => none) := fun hd => ⟨_, #[], _, hd, rfl, fun e he => absurd he (by simp), fun _ => rfl⟩
  have I1 := I.laid (t' := s.toks + 1) (a := s.heap.objs.size) (o := exd s.heap.objs.size []) (h' := s.heap.push (PySem.W.dictOf [] 0)) (fun b o z => Heap.get?_push_of_some _ z) (Nat.le_refl _) (exd_ok (Heap.Ns1.of_empty (hns hd1)) fun g => True.intro)
  have e1 : upd H s.heap.objs.size (exd s.heap.objs.size []) a = some (exo a C none) := (upd_ne (Ne.symm ne)).trans e
  have I2 := I1.write (t' := s.toks + 1) (x := a) (e := a) (o := exo a C (some s.heap.objs.size)) (h' := (s.heap.push (PySem.W.dictOf [] 0)).update a fun o => { o with dict := some s.heap.objs.size }) (by rw [e1]; exact True.intro) (.inl rfl) (fun b o hb z => (Heap.get?_update_ne _ _ _ _ hb).trans z) ⟨_, hx2⟩ (exo_ok hx2)
  refine PySem.HandSPX.store_in_new (hns hd2) fun h' tk' hn' hs => ?_
  have ed : upd (upd H s.heap.objs.size (exd s.heap.objs.size [])) a (exo a C (some s.heap.objs.size)) s.heap.objs.size = some (exd s.heap.objs.size []) := (upd_ne ne).trans upd_same
  have I3 := I2.write (t' := tk') (x := s.heap.objs.size) (e := s.heap.objs.size) (o := exd s.heap.objs.size [(f, y)]) (h' := h') (by rw [ed]; exact True.intro) (.inl rfl) (fun b o hb z => (hs.2 b hb).trans z) (by obtain ⟨o, _, _, z, _⟩ := hn'; exact ⟨o, z⟩) (exd_ok hn' (relO_put (fs := []) ry fun g => True.intro))
  exact h _ _ _ hnd ne ((upd_ne (Ne.symm ne)).trans upd_same) upd_same (fun b n1 n2 => (upd_ne n2).trans ((upd_ne n1).trans (upd_ne n2))) I3
theorem st_old (T : ExK X.K C) (I : Inv X pins σ H s) (e : H a = some (exo a C (some dx))) (ed : H dx = some (exd dx fs)) (hl : fs.length ≤ 900) (hno : PySem.W.findIn X.K (.ref C) f = some none) (ry : RelV y u)
    (h : ∀ s', Inv X pins σ (upd H dx (exd dx ((f, y) :: fs))) s' → Q () s') : wpAny (model X.prog X.w) A (setAttr (.ref a) f u) Q E s := by
  obtain ⟨B, newId, initId, bmB, FB, SF, q1, q2⟩ := T.ini
  obtain ⟨cd, hcd, hh⟩ := PySem.W.any_some T.xf.hdC
  obtain ⟨t1, ho⟩ := exo_at I.hok e
  obtain ⟨mA, hns, rel⟩ := exd_at I.hok ed
  have hw := within_of rel
  obtain ⟨oD, _, _, hoD, _, _⟩ := hns.count hw
  refine PySem.W.set_plain I.kIn (ox := { cls := .ref C, dict := some dx, data := .fields #[.ref t1, .none, .none, .none, .bool false, .none] }) (od := some oD) ⟨ho, rfl, rfl, hoD⟩ T.sa ?_
  refine PySem.W.osa_openX (s := { s with toks := s.toks + 1 }) (od := some oD) SF I.kIn ⟨ho, rfl, rfl, hoD⟩ q2 (taker_none hno) fun b => ?_
  refine wpAny_bind (wpAny_pure (wpAny_bind (wpAny_bind (wpAny_loadPart ho (wpAny_bind ((PySem.W.looks_clsIn I.kIn hcd).at ?_))))))
  rw [hh]
  refine wpAny_pure (a := some dx) ?_
  refine PySem.OEX.store_in_old hns hw (by rw [List.length_map]; omega) fun h' tk' hn' hs => ?_
  exact h _ (I.write (t' := tk') (x := dx) (e := dx) (o := exd dx ((f, y) :: fs)) (by rw [ed]; exact True.intro) (.inl rfl) (fun b o hb z => (hs.2 b hb).trans z) (by obtain ⟨o, _, _, z, _⟩ := hn'; exact ⟨o, z⟩) (exd_ok hn' (relO_put ry rel)))
end
/-- `self.f = e` on an exception that is being made -/
def tStX (K : PySem.W.Frag) (f : Str) (to te : TE) : TS := fun D σ H => te σ H fun y H1 => to σ H1 fun x H2 => ∃ a C : Addr, x = .ref a ∧ ExK K C ∧ PySem.W.findIn K (.ref C) f = some none ∧
  ((H2 a = some (exo a C none) ∧ ∀ dx H', H2 dx = none → dx ≠ a → H' a = some (exo a C (some dx)) → H' dx = some (exd dx [(f, y)]) → (∀ b, b ≠ a → b ≠ dx → H' b = H2 b) → D.nx σ H') ∨
    ∃ (dx : Addr) (fs : List (Str × V)), H2 a = some (exo a C (some dx)) ∧ H2 dx = some (exd dx fs) ∧ fs.length ≤ 900 ∧ D.nx σ (upd H2 dx (exd dx ((f, y) :: fs))))
theorem ps_stx {X : Cx} {o e : Expr} {to te : TE} {f : Str} {p' pos : Pos} (ho : PE X o to) (he : PE X e te) (hs : swapsWith e (some (.Attribute o f p')) pos.line X.env = pure false := by rfl) : PS X (.Assign [.Attribute o f p'] e pos) (tStX X.K f to te) := by
  refine ⟨fun pins s σ H D I h => plainObj_wpAny_Assign_Attribute (thn (he.run pins s σ H _ I h) fun v s1 ⟨y, H1, I1, r1, z1⟩ => thn (ho.run pins s1 σ H1 _ I1 z1) fun u s2 ⟨x, H2, I2, r2, a, C, ex, T, hno, z⟩ => ?_) hs⟩
  subst ex
  obtain rfl : u = Value.ref a := r2
  rcases z with ⟨ea, z⟩ | ⟨dx, fs, ea, ed, hl, z⟩
  · exact st_new T I2 ea hno r1 fun dx H' s' n ne e1 e2 e3 J => ⟨σ, _, J, z dx H' n ne e1 e2 e3⟩
  · exact st_old T I2 ea ed hl hno r1 fun s' J => ⟨σ, _, J, z⟩
end EE
namespace EE
open PySem PySem.Spec
section
variable {prog : Program} {w : World} {M : Model} {A : Around} {E : Value → Shared → Prop} {R : Result → Shared → Prop} {h : Heap} {gs : Array GenState} {dn : Drawn} {tk : Nat} {os : OsState}
variable {nm qn : Str} {C N : Addr} {bs bm bmB : List Value} {hdct : Bool} {sn : List Str} {sub : List Value} {ab : Bool} {col : Option Bool} {dd : Option Addr} {k0 k1 k2 k3 k5 : Option Value} {B newId initId : String} {kws : List (Str × Value)}
theorem kw_check (FB : ExcBaseFacts B newId initId bmB) (hT : ∀ X : String, bm.contains (.type X) = bmB.contains (.type X)) {Q : Unit → Shared → Prop}
    (hC : h.get? C = some (excClassObj nm qn C N bs bm hdct sn sub ab col dd k0 k1 k2 k3 k5 newId)) (done : Q () ⟨h, gs, dn, tk, os⟩) : wpAny M A (checkBuiltinCall newId ⟨[.ref C], kws⟩) Q E ⟨h, gs, dn, tk, os⟩ := by
  have star := FB.noStar
  have hB : (Value.ref C :: bm).contains (.type B) = true := by rw [List.contains_cons, hT, FB.hasB, Bool.or_true]
  simp only [checkBuiltinCall, FB.newKind, FB.newSplit, FB.newRow]
  repeat (first | refine wpAny_loadPart_at hC ?_ | (refine wpAny_isSubtype_exc hC ?_; rw [hB]) | refine wpAny_staticBase_exc hC ?_ | refine wpAny_madeBy_exc hC ?_ | simp only [bne_self_eq_false, Bool.false_eq_true, if_false] | wp_step)
  exact done
theorem kw_new (FB : ExcBaseFacts B newId initId bmB) (hT : ∀ X : String, bm.contains (.type X) = bmB.contains (.type X))
    (hC : h.get? C = some (excClassObj nm qn C N bs bm hdct sn sub ab col dd k0 k1 k2 k3 k5 newId))
    (done : R (.ok (.ret (.ref (h.objs.size + 1)))) ⟨(h.push (PySem.W.kdv_tup [])).push (PySem.HandSPX.excO C h.objs.size), gs, dn, tk, os⟩) :
    codeAny (model prog w) A (.builtin newId ⟨[.ref C], kws⟩) R ⟨h, gs, dn, tk, os⟩ := by
  have ends := FB.ends
  have hB : (Value.ref C :: bm).contains (.type B) = true := by rw [List.contains_cons, hT, FB.hasB, Bool.or_true]
  have hA : (Value.ref C :: bm).contains (.type "AttributeError") = false := by rw [List.contains_cons, hT, FB.noAttr]; rfl
  have hN : (Value.ref C :: bm).contains (.type "NameError") = false := by rw [List.contains_cons, hT, FB.noName]; rfl
  refine codeAny_builtinAt FB.entry ?_
  unfold Builtin.«BaseException.__new__»
  refine wpAt_bind ?_
  show wpAt _ _ _ (stack >>= _) _ _ _
  refine wpAt_bind (wpAt_stack fun p below => wpAt_of_wpAny ?_)
  wp_walk
  refine wpAt_of_wpAny ?_
  rw [FB.owner]
  repeat (first | with_reducible refine wpAny_madeHere_exc FB.canon hC ?_ | with_reducible refine wpAny_loadPart_at hC ?_ | (with_reducible refine wpAny_isSubtype_exc hC ?_; first | rw [hB] | rw [hA] | rw [hN]) | wp_step)
  show R _ _
  rw [Heap.size_push]
  exact done
theorem kw_type_call (FB : ExcBaseFacts B newId initId bmB) (hT : ∀ X : String, bm.contains (.type X) = bmB.contains (.type X)) {fI : Addr} {Q : Fin → Shared → Prop}
    (hC : h.get? C = some (excClassObj nm qn C N bs bm hdct sn sub ab col dd k0 k1 k2 k3 k5 newId))
    (li : PySem.W.Looks (model prog w) h (typeLookup (.ref C) "__init__") (some (.ref fI))) (lb : ∀ self, PySem.W.Looks (model prog w) h (bindSpecial (.ref fI) self) (.ref fI, [self]))
    (go : codeAny (model prog w) A (.call (.ref fI) ⟨[.ref (h.objs.size + 1)], kws⟩)
      (fun r s' => match r with | .ok (.ret v) => v = .none ∧ Q (.done (.ret (.ref (h.objs.size + 1)))) s' | .ok _ => False | .error e => E e s') ⟨(h.push (PySem.W.kdv_tup [])).push (PySem.HandSPX.excO C h.objs.size), gs, dn, tk, os⟩) :
    wpAny (model prog w) A (Builtin.«type.__call__» ⟨[.ref C], kws⟩) Q E ⟨h, gs, dn, tk, os⟩ := by
  repeat (first | with_reducible refine wpAny_loadPart_at hC ?_ | with_reducible refine wpAny_madeBy_exc hC ?_ | wp_step)
  refine codeAny_call_builtin_code (Code.quiet_builtin _ FB.quiet) (kw_check FB hT hC ?_)
  refine kw_new FB hT hC ?_
  show wpAny _ _ _ _ _ _
  have kp : ∀ b o, h.get? b = some o → ((h.push (PySem.W.kdv_tup [])).push (PySem.HandSPX.excO C h.objs.size)).get? b = some o := fun b o e => Heap.get?_push_of_some _ (Heap.get?_push_of_some _ e)
  have hC1 := kp _ _ hC
  have hx : ((h.push (PySem.W.kdv_tup [])).push (PySem.HandSPX.excO C h.objs.size)).get? (h.objs.size + 1) = some (PySem.HandSPX.excO C h.objs.size) := by heap_get
  have hCC : (Value.ref C :: bm).contains (.ref C) = true := by simp
  have i1 := li.keeps kp
  have b1 := (lb (.ref (h.objs.size + 1))).keeps kp
  unfold isInstance
  repeat (first | with_reducible refine wpAny_loadPart_at hx ?_ | (with_reducible refine wpAny_isSubtype_exc hC1 ?_; rw [hCC]) | wp_step)
  show wpAny _ _ (typeLookup (.ref C) _) _ _ _
  refine i1.at ?_
  refine wpAny_holding (wpAny_bind (b1.at ?_))
  refine wpAny_bind (wpAny_call (codeAny_mono go fun r s' z => ?_))
  rcases r with e | (v | _ | _ | _) <;> first | exact z | exact z.elim | skip
  obtain ⟨rfl, z⟩ := z
  first
    | exact wpAny_pure (wpAny_pure z)
    | (wp_walk; exact z)
theorem kw_call (FB : ExcBaseFacts B newId initId bmB) (hT : ∀ X : String, bm.contains (.type X) = bmB.contains (.type X)) {fI : Addr}
    (hC : h.get? C = some (excClassObj nm qn C N bs bm hdct sn sub ab col dd k0 k1 k2 k3 k5 newId))
    (li : PySem.W.Looks (model prog w) h (typeLookup (.ref C) "__init__") (some (.ref fI))) (lb : ∀ self, PySem.W.Looks (model prog w) h (bindSpecial (.ref fI) self) (.ref fI, [self]))
    (go : codeAny (model prog w) (A.under (.builtin "type.__call__" ⟨[.ref C], kws⟩)) (.call (.ref fI) ⟨[.ref (h.objs.size + 1)], kws⟩) (PySem.W.InitBack (h.objs.size + 1) R) ⟨(h.push (PySem.W.kdv_tup [])).push (PySem.HandSPX.excO C h.objs.size), gs, dn, tk, os⟩) :
    codeAny (model prog w) A (.call (.ref C) ⟨[], kws⟩) R ⟨h, gs, dn, tk, os⟩ := by
  have f1 := PySem.tc_lookup
  have f2 := PySem.tc_bind (.ref C)
  have isT : (⟨h, gs, dn, tk, os⟩ : Shared).TypeIs (.ref C) "type" := ⟨_, hC, rfl⟩
  refine codeAny_of_tree ?_
  show wpAny _ _ (callAny (.ref C) _) _ _ _
  repeat (any_goals (first | assumption | with_reducible refine wpAny_loadPart_at hC ?_ | wp_step))
  refine ⟨rfl, ?_⟩
  refine codeAny_call_builtin_at (Code.quiet_builtin _ (by decide +kernel)) PySem.entry_typeCall (wpAny_check_type_call_sub hC (kw_type_call FB hT hC li lb ?_))
  refine codeAny_mono go fun r s' z => ?_
  rcases r with e | (v | _ | _ | _) <;> exact z
end
end EE
namespace EE
open PySem PySem.Spec PyProof.Rows L2
/-- what stands at an exception that was made: its class, its fields -/
def ExV (H : Hp) (C : Addr) (v : V) (fs : List (Str × V)) : Prop := ∃ a dx : Addr, v = .ref a ∧ H a = some (exo a C (some dx)) ∧ H dx = some (exd dx fs)
/-- one that was made of no fields -/
def ExN (H : Hp) (C : Addr) (v : V) : Prop := ∃ a : Addr, v = .ref a ∧ H a = some (exo a C none)
theorem ExV.keep {H H' : Hp} {C : Addr} {v : V} {fs : List (Str × V)} (h : ExV H C v fs) (s : Same H H') : ExV H' C v fs := by
  obtain ⟨a, dx, e, e1, e2⟩ := h
  exact ⟨a, dx, e, s _ _ e1, s _ _ e2⟩
theorem ExN.keep {H H' : Hp} {C : Addr} {v : V} (h : ExN H C v) (s : Same H H') : ExN H' C v := by
  obtain ⟨a, e, e1⟩ := h
  exact ⟨a, e, s _ _ e1⟩
theorem ExV.but {H H' : Hp} {C p : Addr} {v : V} {fs : List (Str × V)} {xs : List V} (h : ExV H C v fs) (hp : H p = some (.lst xs)) (s : But p H H') : ExV H' C v fs := by
  obtain ⟨a, dx, e, e1, e2⟩ := h
  have n1 : a ≠ p := fun z => by
    rw [z, hp] at e1
    cases (show HO.lst xs = HO.ext _ from Option.some.inj e1)
  have n2 : dx ≠ p := fun z => by
    rw [z, hp] at e2
    cases (show HO.lst xs = HO.ext _ from Option.some.inj e2)
  exact ⟨a, dx, e, s _ _ n1 e1, s _ _ n2 e2⟩
/-- C(e, ..), the exception a value; sp is what its __init__ promises -/
def tMkV (C : Addr) (sp : Sp) (ta : TA) : TE := fun σ H Q => ta σ H fun vs H1 => vs.length ≤ 1000 ∧ ∀ a, H1 a = none → sp (.ref a :: vs) (upd H1 a (exo a C none)) (fun v H2 => v = .non ∧ Q (.ref a) H2) (fun _ _ _ => False)
/-- C(k = v, ..), likewise -/
def tMkN (C : Addr) (n : Nat) (sp : Sp) (gV : List V → List V → List V) (tk : TA) : TE := fun σ H Q => tk σ H fun zs H1 => zs.length = n ∧ ∀ a, H1 a = none → sp (gV [.ref a] zs) (upd H1 a (exo a C none)) (fun v H2 => v = .non ∧ Q (.ref a) H2) (fun _ _ _ => False)
/-- C(), no __init__ of its own -/
def tMk0 (C : Addr) : TE := fun σ H Q => ∀ a, H a = none → Q (.ref a) (upd H a (exo a C none))
section
variable {X : Cx} {CX : CXT} {x : Str} {C fI : Addr} {k : Nat} {fd : FuncData} {ps ks : List Str} {sp : Sp} {e : Expr} {es : List Expr} {kws : List Keyword} {ta tk : TA} {p pos : Pos} {g : List Value → List Value → List Value} {gV : List V → List V → List V}
theorem init_of {K : PySem.W.Frag} {h : Heap} {C : Addr} (T : ExK K C) (X : K.In h) : ∃ (B newId initId : String) (bmB : List Value) (nm : Str) (N : Addr) (qn : Str) (bs bm : List Value) (hdct : Bool) (sn : List Str) (sub : List Value) (ab : Bool) (col : Option Bool) (dd : Option Addr) (k0 k1 k2 k3 k5 : Option Value),
    ExcBaseFacts B newId initId bmB ∧ h.get? C = some (excClassObj nm qn C N bs bm hdct sn sub ab col dd k0 k1 k2 k3 k5 newId) ∧ ∀ X : String, bm.contains (.type X) = bmB.contains (.type X) := by
  obtain ⟨B, newId, initId, bmB, FB, SF, q1, q2⟩ := T.ini
  obtain ⟨nm, N, qn, bs, bm, hdct, sn, sub, ab, col, dd, k0, k1, k2, k3, k5, hC, hT⟩ := PySem.W.excInit_of X q1
  exact ⟨B, newId, initId, bmB, nm, N, qn, bs, bm, hdct, sn, sub, ab, col, dd, k0, k1, k2, k3, k5, FB, hC, hT⟩
theorem pe_mkV (T : ExK X.K C) (iC : PySem.W.findIn X.K (.ref C) "__init__" = some (some (.ref fI))) (tI : PySem.W.typeIn X.K (.ref fI) = some (.type "function"))
    (FI : FnOk X.prog X.w X.K X.mg X.base CX k fI fd ps sp) (hr : Room (k + 1) X.A) (hb : Binds X.K fd ps []) (hx : Passes CX X (fun _ _ _ => False)) (hg : Gl X x) (hm : X.mg x = some (.ref C)) (ha : PA X (e :: es) ta)
    (ndb : (x == ("__debug__" : Str)) = false := by decide) (hst : starEach (e :: es) X.env = (false, eval e X.env) :: starEach es X.env := by rfl) (plain : (backTo pos (starEach es X.env)).any (·.1) = false := by rfl) :
    PE X (.Call (.Name x p) (e :: es) [] pos) (tMkV C sp ta) := by
  refine ⟨fun pins s σ H Q I h => wpAny_Call_Name_kw (ld_glob I hg hm ?_ ndb)⟩
  refine PySem.W.callWith_K (h₀ := X.base) I.ok.mod.kin T.kC (thn (ha.run pos pins s σ H _ I h) fun us s1 ⟨vs, H1, I1, r1, hz, q1⟩ => ⟨I1.kIn, ?_⟩) hst plain
  obtain ⟨B, newId, initId, bmB, nm, N, qn, bs, bm, hdct, sn, sub, ab, col, dd, k0, k1, k2, k3, k5, FB, hC, hT⟩ := init_of T I1.kIn
  obtain ⟨hp, gs, dn, tk, os⟩ := s1
  have up : hp.objs.size ≤ hp.objs.size + 1 := Nat.le_succ _
  have q2 := q1 (hp.objs.size + 1) (I1.hok.fresh up)
  have I2 := I1.laid (t' := tk) (a := hp.objs.size + 1) (o := exo (hp.objs.size + 1) C none) (h' := (hp.push (PySem.W.kdv_tup us)).push (PySem.HandSPX.excO C hp.objs.size)) (fun b o z => Heap.get?_push_of_some _ (Heap.get?_push_of_some _ z)) up (exo_ok (t1 := hp.objs.size) (by heap_get))
  have r2 : Vals (V.ref (hp.objs.size + 1) :: vs) (Value.ref (hp.objs.size + 1) :: us) := .cons rfl r1
  have ln : (Value.ref (hp.objs.size + 1) :: us ++ []).length = ps.length := by rw [List.append_nil, ← r2.length, FI.len _ _ _ _ q2]
  have few : us.length ≤ sizeLine := Nat.le_trans (Nat.le_of_eq r1.length.symm) (Nat.le_trans hz (by decide))
  have bd := hb _ (Value.ref (hp.objs.size + 1) :: us) I2.kIn ln
  rw [List.append_nil] at bd
  refine wpAny_call (PySem.HandSPX.call_own FB hT hC (PySem.W.looks_findIn I1.kIn iC) (fun self => PySem.W.bind_fn I1.kIn self tI) few (codeAny_mono (FI.run _ X.stack _ _ ⟨Value.ref (hp.objs.size + 1) :: us, []⟩ _ _ _ _ (hr.make C us []) (I2.env0.make C us []) bd r2 q2) fun r s' z => ?_))
  match r, z with
  | .error er, z => exact hx pins σ _ _ er s' I2 z
  | .ok (.ret u), z =>
    obtain ⟨v, H2, J, rv, ev, q⟩ := I2.after z
    subst ev
    exact ⟨rv, .ref (hp.objs.size + 1), H2, J, rfl, q⟩
  | .ok .next, z => exact z.elim
  | .ok .brk, z => exact z.elim
  | .ok .cont, z => exact z.elim
theorem pe_mkN (T : ExK X.K C) (iC : PySem.W.findIn X.K (.ref C) "__init__" = some (some (.ref fI))) (tI : PySem.W.typeIn X.K (.ref fI) = some (.type "function"))
    (FI : FnOk X.prog X.w X.K X.mg X.base CX k fI fd ps sp) (hr : Room (k + 1) X.A) (hb : KBn X.K fd ps 1 ks g gV) (hx : Passes CX X (fun _ _ _ => False)) (hg : Gl X x) (hm : X.mg x = some (.ref C))
    (hkw : PK X kws tk) (hall : (backToKw pos (keywordEach kws X.env)).all (·.1.isSome) = true := by rfl) (hks : (backToKw pos (keywordEach kws X.env)).filterMap (·.1) = ks := by rfl)
    (ndb : (x == ("__debug__" : Str)) = false := by decide) (plain : ((backTo pos (starEach [] X.env)).any (·.1) || (backToKw pos (keywordEach kws X.env)).any (·.1.isNone)) = false := by rfl) :
    PE X (.Call (.Name x p) [] kws pos) (tMkN C ks.length sp gV tk) := by
  refine ⟨fun pins s σ H Q I h => wpAny_Call_Name_kw (ld_glob I hg hm ?_ ndb)⟩
  refine PySem.W.callWith_KW0 (h₀ := X.base) I.ok.mod.kin T.kC hall (thn (hkw.run pos pins s σ H _ I h) fun us s1 ⟨vs, H1, I1, r1, hz, q1⟩ => ⟨I1.kIn, ?_⟩) plain
  rw [hks]
  obtain ⟨B, newId, initId, bmB, nm, N, qn, bs, bm, hdct, sn, sub, ab, col, dd, k0, k1, k2, k3, k5, FB, hC, hT⟩ := init_of T I1.kIn
  obtain ⟨hp, gs, dn, tk, os⟩ := s1
  have up : hp.objs.size ≤ hp.objs.size + 1 := Nat.le_succ _
  have q2 := q1 (hp.objs.size + 1) (I1.hok.fresh up)
  have I2 := I1.laid (t' := tk) (a := hp.objs.size + 1) (o := exo (hp.objs.size + 1) C none) (h' := (hp.push (PySem.W.kdv_tup [])).push (PySem.HandSPX.excO C hp.objs.size)) (fun b o z => Heap.get?_push_of_some _ (Heap.get?_push_of_some _ z)) up (exo_ok (t1 := hp.objs.size) (by heap_get))
  have r2 := hb.rel (vs := [V.ref (hp.objs.size + 1)]) (us := [Value.ref (hp.objs.size + 1)]) (.cons rfl .nil) r1
  have bd := hb.to ⟨(hp.push (PySem.W.kdv_tup [])).push (PySem.HandSPX.excO C hp.objs.size), gs, dn, tk, os⟩ [Value.ref (hp.objs.size + 1)] us I2.kIn rfl (r1.length.symm.trans hz)
  refine wpAny_call (kw_call FB hT hC (PySem.W.looks_findIn I1.kIn iC) (fun self => PySem.W.bind_fn I1.kIn self tI) (codeAny_mono (FI.run _ X.stack _ _ ⟨[Value.ref (hp.objs.size + 1)], ks.zip us⟩ _ _ _ _ (hr.make C [] _) (I2.env0.make C [] _) bd r2 q2) fun r s' z => ?_))
  match r, z with
  | .error er, z => exact hx pins σ _ _ er s' I2 z
  | .ok (.ret u), z =>
    obtain ⟨v, H2, J, rv, ev, q⟩ := I2.after z
    subst ev
    exact ⟨rv, .ref (hp.objs.size + 1), H2, J, rfl, q⟩
  | .ok .next, z => exact z.elim
  | .ok .brk, z => exact z.elim
  | .ok .cont, z => exact z.elim
end
end EE

/-! Own layer: repr of data with dicts in it. -/
namespace EE
open PySem PySem.Spec PyProof.Rows L2

def keyD : Key → PyData | .inl i => .int i | .inr x => .str x
mutual
/-- v reads as d: dicts of texts and ints too -/
inductive Dq (K : PySem.W.Frag) (H : Hp) : V → PyData → Prop
  | non : Dq K H .non .none
  | bl (b : Bool) : Dq K H (.bl b) (.bool b)
  | int (i : Int) : Dq K H (.int i) (.int i)
  | str (x : Str) : Dq K H (.str x) (.str x)
  | lst {a : Addr} {xs : List V} {ds : List PyData} : SqL K H a xs → DqAll K H xs ds → Dq K H (.ref a) (.list ds)
  | tup {a : Addr} {xs : List V} {ds : List PyData} : SqT K H a xs → DqAll K H xs ds → Dq K H (.ref a) (.tuple ds)
  | dK {a : Addr} {kvs : List (Key × V)} {ds : List PyData} : H a = some (.dK kvs) → DqAll K H (kvs.map (·.2)) ds → Dq K H (.ref a) (.dict (List.zip (kvs.map fun p => keyD p.1) ds))
inductive DqAll (K : PySem.W.Frag) (H : Hp) : List V → List PyData → Prop
  | nil : DqAll K H [] []
  | cons {v : V} {vs : List V} {d : PyData} {ds : List PyData} : Dq K H v d → DqAll K H vs ds → DqAll K H (v :: vs) (d :: ds)
end
theorem DqAll.len {K : PySem.W.Frag} {H : Hp} : ∀ {vs : List V} {ds : List PyData}, DqAll K H vs ds → vs.length = ds.length
  | [], _, h => by cases h; rfl
  | _ :: vs, _, h => by
    cases h with
    | cons _ t => rw [List.length_cons, List.length_cons, DqAll.len t]
section
variable {P : Program} {w : World} {h0 : Heap}
def Shown (P : Program) (w : World) (h0 : Heap) (u : Value) (d : PyData) : Prop := ∃ as bs, Reads h0 u d as ∧ ReadAtMost h0 d.depth bs ∧ ReprK P w bs h0 d.depth u d.shown
def ShownAll (P : Program) (w : World) (h0 : Heap) (us : List Value) (ds : List PyData) : Prop := ∃ as bs, ReadsAll h0 us ds as ∧ ReadAtMost h0 (PyData.depthAll ds) bs ∧ ReprAllK P w bs h0 (PyData.depthAll ds) us (PyData.shownAll ds)
theorem ShownAll.nil : ShownAll P w h0 [] [] := ⟨[], [], .nil, (fun _ z => nomatch z), by simp only [PyData.shownAll]; exact .nil⟩
theorem ShownAll.cons {u : Value} {us : List Value} {d : PyData} {ds : List PyData} (h : Shown P w h0 u d) (t : ShownAll P w h0 us ds) : ShownAll P w h0 (u :: us) (d :: ds) := by
  obtain ⟨as, b1, r, m1, k1⟩ := h
  obtain ⟨cs, b2, rs, m2, k2⟩ := t
  refine ⟨as ++ cs, b1 ++ b2, .cons r rs, (m1.mono (m := PyData.depthAll (d :: ds)) ?_).append (m2.mono ?_), ?_⟩
  · simp only [PyData.depthAll]; exact Nat.le_max_left _ _
  · simp only [PyData.depthAll]; exact Nat.le_max_right _ _
  · simp only [PyData.depthAll, PyData.shownAll]
    exact .cons ((k1.more fun b z => List.mem_append_left _ z).level_le (Nat.le_max_left _ _)) (k2.more_le (fun b z => List.mem_append_right _ z) (Nat.le_max_right _ _))
theorem shown_list {a : Addr} {o : Obj} {l : List Value} {n : Nat} {ds : List PyData} (h1 : h0.get? a = some o) (h2 : o.cls = .type "list") (h3 : o.data = .seq l.toArray n) (t : ShownAll P w h0 l ds) : Shown P w h0 (.ref a) (.list ds) := by
  obtain ⟨as, bs, rs, m, k⟩ := t
  have r : Reads h0 (.ref a) (.list ds) _ := .list h1 h2 h3 rs
  have out : a ∉ bs := not_mem_of_deeper r (by simp only [PyData.depth]; omega) m
  refine ⟨_, a :: bs, r, ReadAtMost.cons r (by simp only [PyData.depth]; omega) m, ?_⟩
  simp only [PyData.depth, PyData.shown]
  cases l with
  | nil =>
    cases rs
    simp only [PyData.shownAll, listText_nil]
    exact ReprK.listEmpty h1 h2 h3
  | cons x l => exact ReprK.list h1 h2 h3 out (by simpa using k.length_eq) (fun i y e => k.item i y (by simpa using e))
theorem shown_tuple {a : Addr} {o : Obj} {l : List Value} {n : Nat} {ds : List PyData} (h1 : h0.get? a = some o) (h2 : o.cls = .type "tuple") (h3 : o.data = .seq l.toArray n) (t : ShownAll P w h0 l ds) : Shown P w h0 (.ref a) (.tuple ds) := by
  obtain ⟨as, bs, rs, m, k⟩ := t
  have r : Reads h0 (.ref a) (.tuple ds) _ := .tuple h1 h2 h3 rs
  have out : a ∉ bs := not_mem_of_deeper r (by simp only [PyData.depth]; omega) m
  refine ⟨_, a :: bs, r, ReadAtMost.cons r (by simp only [PyData.depth]; omega) m, ?_⟩
  simp only [PyData.depth, PyData.shown]
  exact ReprK.tuple h1 h2 h3 out k
theorem shown_dict {a : Addr} {o : Obj} {es : Array DictEntry} {n : Nat} {kvs : List (PyData × PyData)} (h1 : h0.get? a = some o) (h2 : o.cls = .type "dict") (h3 : o.data = .dict es n) (ns : (a == sysModules) = false)
    (t1 : ShownAll P w h0 (es.toList.map (·.key)) (kvs.map (·.1))) (t2 : ShownAll P w h0 (es.toList.map (·.val)) (kvs.map (·.2))) : Shown P w h0 (.ref a) (.dict kvs) := by
  obtain ⟨as, b1, r1, m1, k1⟩ := t1
  obtain ⟨cs, b2, r2, m2, k2⟩ := t2
  have r : Reads h0 (.ref a) (.dict kvs) _ := .dict h1 h2 h3 r1 r2
  have m : ReadAtMost h0 (PyData.depthKv kvs) (b1 ++ b2) := (m1.mono (PyData.depthAll_keys_le kvs)).append (m2.mono (PyData.depthAll_vals_le kvs))
  have out : a ∉ b1 ++ b2 := not_mem_of_deeper r (by simp only [PyData.depth]; omega) m
  refine ⟨_, a :: (b1 ++ b2), r, ReadAtMost.cons r (by simp only [PyData.depth]; omega) m, ?_⟩
  simp only [PyData.depth, PyData.shown, PyData.shownKv_eq]
  exact ReprK.dict h1 h2 h3 ns out (ReprEntriesK.of_two es.toList _ _ (k1.more_le (fun b z => List.mem_append_left _ z) (PyData.depthAll_keys_le kvs)) (k2.more_le (fun b z => List.mem_append_right _ z) (PyData.depthAll_vals_le kvs)))
end
section
variable {X : Cx} {pins : List (Addr × Obj)} {σ : L2.St} {H : Hp} {s : Shared}
theorem keys_shown : ∀ {es : List DictEntry} {kvs : List (Key × Value)}, Pairs (mixKind X.prog X.w) es kvs → PyData.showableAll (kvs.map fun p => keyD p.1) = true → (∀ t ∈ PyData.shownAll (kvs.map fun p => keyD p.1), t.length ≤ sizeLine) → ShownAll X.prog X.w s.heap (es.map (·.key)) (kvs.map fun p => keyD p.1)
  | _, _, .nil, _, _ => ShownAll.nil
  | _, _, .cons (e := e) (kv := kv) (kvs := kvs) k _ t, h, z => by
    have h' : (keyD kv.1).showable = true ∧ PyData.showableAll (kvs.map fun p => keyD p.1) = true := by simpa [PyData.showableAll] using h
    refine ShownAll.cons ?_ (keys_shown t h'.2 fun x hx => z x (by simp only [List.map_cons, PyData.shownAll]; exact List.mem_cons_of_mem _ hx))
    have z0 := z (keyD kv.1).shown (by simp only [List.map_cons, PyData.shownAll]; exact List.mem_cons_self ..)
    show Shown X.prog X.w s.heap e.key (keyD kv.1)
    rcases keyIs_shape k with ⟨i, t, e1, e2⟩ | ⟨x, t, e1, e2⟩
    · rw [e1] at h' ⊢
      rw [e2]
      exact ⟨_, [], Reads.int i t, (fun _ y => nomatch y), by simp only [keyD, PyData.shown]; exact .of_is (ReprIs.int t (by simpa [keyD, PyData.showable] using h'.1)) _ _ _⟩
    · rw [e1] at z0 ⊢
      rw [e2]
      exact ⟨_, [], Reads.str x t, (fun _ y => nomatch y), by simp only [keyD, PyData.shown]; exact .of_is (ReprIs.str x t (by simpa only [keyD, PyData.shown] using z0)) _ _ _⟩
theorem vals_of_pairs : ∀ {es : List DictEntry} {kvs : List (Key × Value)}, Pairs (L2.mixKind X.prog X.w) es kvs → es.map (·.val) = kvs.map (·.2)
  | _, _, .nil => rfl
  | _, _, .cons _ e t => by
    rw [List.map_cons, List.map_cons, e, vals_of_pairs t]
theorem kv_split : ∀ {kvs : List (Key × V)} {vs : List (Key × Value)}, L2.KV kvs vs → kvs.map (·.1) = vs.map (·.1) ∧ Vals (kvs.map (·.2)) (vs.map (·.2))
  | _, _, .nil => ⟨rfl, .nil⟩
  | _, _, .cons h t => by
    obtain ⟨i, j⟩ := kv_split t
    exact ⟨by rw [List.map_cons, List.map_cons, h.1, i], .cons h.2 j⟩
theorem Dq.shown (I : Inv X pins σ H s) {v : V} {d : PyData} (h : Dq X.K H v d) : ∀ u, RelV v u → d.showable = true → d.shown.length ≤ sizeLine → Shown X.prog X.w s.heap u d := by
  refine Dq.rec (motive_1 := fun v d _ => ∀ u, RelV v u → d.showable = true → d.shown.length ≤ sizeLine → Shown X.prog X.w s.heap u d)
    (motive_2 := fun vs ds _ => ∀ us, Vals vs us → PyData.showableAll ds = true → (∀ t ∈ PyData.shownAll ds, t.length ≤ sizeLine) → ShownAll X.prog X.w s.heap us ds) ?_ ?_ ?_ ?_ ?_ ?_ ?_ ?_ ?_ h
  · intro u r _ _
    cases (show u = Value.none from r)
    exact ⟨_, [], Reads.none, (fun _ z => nomatch z), by simp only [PyData.shown]; exact .of_is ReprIs.none _ _ _⟩
  · intro b u r _ _
    cases (show u = Value.bool b from r)
    exact ⟨_, [], Reads.bool b, (fun _ z => nomatch z), by simp only [PyData.shown]; exact .of_is (ReprIs.bool b) _ _ _⟩
  · intro i u r hs _
    obtain ⟨t, rfl⟩ := (show ∃ t, u = Value.int i t from r)
    exact ⟨_, [], Reads.int i t, (fun _ z => nomatch z), by simp only [PyData.shown]; exact .of_is (ReprIs.int t (by simpa [PyData.showable] using hs)) _ _ _⟩
  · intro x u r _ hz
    obtain ⟨t, rfl⟩ := (show ∃ t, u = Value.str x t from r)
    exact ⟨_, [], Reads.str x t, (fun _ z => nomatch z), by simp only [PyData.shown]; exact .of_is (ReprIs.str x t (by simpa only [PyData.shown] using hz)) _ _ _⟩
  · intro a xs ds hq _ ih u r hs hz
    cases (show u = Value.ref a from r)
    have hz' : (listText (PyData.shownAll ds)).length ≤ sizeLine := by simpa only [PyData.shown] using hz
    obtain ⟨its, rv, ⟨o, n, ho, hc, _, hd⟩, _⟩ := I.list hq
    exact shown_list ho hc hd (ih its rv (by simpa [PyData.showable] using hs) fun t ht => Nat.le_trans (listText_mem_le ht) hz')
  · intro a xs ds hq _ ih u r hs hz
    cases (show u = Value.ref a from r)
    have hz' : (tupleText (PyData.shownAll ds)).length ≤ sizeLine := by simpa only [PyData.shown] using hz
    obtain ⟨its, rv, ⟨o, ho, hc, n, hd⟩, _⟩ := I.tuple hq
    exact shown_tuple ho hc hd (ih its rv (by simpa [PyData.showable] using hs) fun t ht => Nat.le_trans (tupleText_mem_le ht) hz')
  · intro a kvs ds hk hall ih u r hs hz
    cases (show u = Value.ref a from r)
    obtain ⟨_, ns, vs, kv, o, es, ep, ho, he, hd, _, hp, _⟩ := (show L2.ObjOk X.prog X.w H s.heap a (.dK kvs) from I.hok a _ hk)
    obtain ⟨ks, rv⟩ := kv_split kv
    have e1 : kvs.map (fun p => keyD p.1) = vs.map fun p => keyD p.1 := by
      have := congrArg (List.map keyD) ks
      simpa [List.map_map, Function.comp_def] using this
    have ln : ds.length = (kvs.map fun p => keyD p.1).length := by rw [List.length_map, ← hall.len, List.length_map]
    have f1 : (List.zip (kvs.map fun p => keyD p.1) ds).map (·.1) = kvs.map fun p => keyD p.1 := List.map_fst_zip (Nat.le_of_eq ln.symm)
    have f2 : (List.zip (kvs.map fun p => keyD p.1) ds).map (·.2) = ds := List.map_snd_zip (Nat.le_of_eq ln)
    have hz' : (dictText (PyData.shownKv (List.zip (kvs.map fun p => keyD p.1) ds))).length ≤ sizeLine := by simpa only [PyData.shown] using hz
    obtain ⟨s1, s2⟩ := PyData.showableKv_split _ (by simpa [PyData.showable] using hs)
    refine shown_dict ho he.1 hd ns ?_ ?_
    · rw [f1, e1]
      rw [f1, e1] at s1
      refine keys_shown hp s1 fun t ht => ?_
      obtain ⟨p, hp1, hp2⟩ := PyData.shownKv_key_le (List.zip (kvs.map fun p => keyD p.1) ds) t (by rw [f1, e1]; exact ht)
      exact Nat.le_trans hp2 (Nat.le_trans (dictText_mem_le hp1) hz')
    · rw [f2, vals_of_pairs hp]
      rw [f2] at s2
      refine ih _ rv s2 fun t ht => ?_
      obtain ⟨p, hp1, hp2⟩ := PyData.shownKv_val_le (List.zip (kvs.map fun p => keyD p.1) ds) t (by rw [f2]; exact ht)
      exact Nat.le_trans hp2 (Nat.le_trans (dictText_mem_le hp1) hz')
  · intro us r _ _
    cases r
    exact ShownAll.nil
  · intro v vs d ds _ _ i1 i2 us r hs hz
    cases r with
    | cons r1 r2 =>
      have hs' : d.showable = true ∧ PyData.showableAll ds = true := by simpa [PyData.showableAll] using hs
      exact ShownAll.cons (i1 _ r1 hs'.1 (hz _ (by simp only [PyData.shownAll]; exact List.mem_cons_self ..))) (i2 _ r2 hs'.2 fun t ht => hz t (by simp only [PyData.shownAll]; exact List.mem_cons_of_mem _ ht))
theorem DqAll.shown (I : Inv X pins σ H s) : ∀ {vs : List V} {ds : List PyData} {us : List Value}, DqAll X.K H vs ds → Vals vs us → PyData.showableAll ds = true → (∀ t ∈ PyData.shownAll ds, t.length ≤ sizeLine) → ShownAll X.prog X.w s.heap us ds
  | [], _, _, h, r, _, _ => by
    cases h
    cases r
    exact ShownAll.nil
  | _ :: vs, _, _, h, r, hs, hz => by
    cases h with
    | @cons _ _ d ds h1 h2 =>
      cases r with
      | cons r1 r2 =>
        have hs' : d.showable = true ∧ PyData.showableAll ds = true := by simpa [PyData.showableAll] using hs
        exact ShownAll.cons (Dq.shown I h1 _ r1 hs'.1 (hz _ (by simp only [PyData.shownAll]; exact List.mem_cons_self ..))) (DqAll.shown I h2 r2 hs'.2 fun t ht => hz t (by simp only [PyData.shownAll]; exact List.mem_cons_of_mem _ ht))
theorem dict_shown (I : Inv X pins σ H s) {a : Addr} {kvs : List (Key × V)} {ds : List PyData} (hk : H a = some (.dK kvs)) (hall : DqAll X.K H (kvs.map (·.2)) ds) (hs : (PyData.dict (List.zip (kvs.map fun p => keyD p.1) ds)).showable = true)
    (hz : (PyData.dict (List.zip (kvs.map fun p => keyD p.1) ds)).shown.length ≤ sizeLine) : ∃ (o : Obj) (es : Array DictEntry) (n : Nat), s.heap.get? a = some o ∧ o.cls = .type "dict" ∧ o.data = .dict es n ∧ (a == sysModules) = false ∧
      ShownAll X.prog X.w s.heap (es.toList.map (·.key)) ((List.zip (kvs.map fun p => keyD p.1) ds).map (·.1)) ∧ ShownAll X.prog X.w s.heap (es.toList.map (·.val)) ((List.zip (kvs.map fun p => keyD p.1) ds).map (·.2)) := by
  obtain ⟨_, ns, vs, kv, o, es, ep, ho, he, hd, _, hp, _⟩ := (show L2.ObjOk X.prog X.w H s.heap a (.dK kvs) from I.hok a _ hk)
  obtain ⟨ks, rv⟩ := kv_split kv
  have e1 : kvs.map (fun p => keyD p.1) = vs.map fun p => keyD p.1 := by
    have := congrArg (List.map keyD) ks
    simpa [List.map_map, Function.comp_def] using this
  have ln : ds.length = (kvs.map fun p => keyD p.1).length := by rw [List.length_map, ← hall.len, List.length_map]
  have f1 : (List.zip (kvs.map fun p => keyD p.1) ds).map (·.1) = kvs.map fun p => keyD p.1 := List.map_fst_zip (Nat.le_of_eq ln.symm)
  have f2 : (List.zip (kvs.map fun p => keyD p.1) ds).map (·.2) = ds := List.map_snd_zip (Nat.le_of_eq ln)
  have hz' : (dictText (PyData.shownKv (List.zip (kvs.map fun p => keyD p.1) ds))).length ≤ sizeLine := by simpa only [PyData.shown] using hz
  obtain ⟨s1, s2⟩ := PyData.showableKv_split _ (by simpa [PyData.showable] using hs)
  refine ⟨o, es, ep, ho, he.1, hd, ns, ?_, ?_⟩
  · rw [f1, e1]
    rw [f1, e1] at s1
    refine keys_shown hp s1 fun t ht => ?_
    obtain ⟨p, hp1, hp2⟩ := PyData.shownKv_key_le (List.zip (kvs.map fun p => keyD p.1) ds) t (by rw [f1, e1]; exact ht)
    exact Nat.le_trans hp2 (Nat.le_trans (dictText_mem_le hp1) hz')
  · rw [f2, vals_of_pairs hp]
    rw [f2] at s2
    refine DqAll.shown I hall rv s2 fun t ht => ?_
    obtain ⟨p, hp1, hp2⟩ := PyData.shownKv_val_le (List.zip (kvs.map fun p => keyD p.1) ds) t (by rw [f2]; exact ht)
    exact Nat.le_trans hp2 (Nat.le_trans (dictText_mem_le hp1) hz')
theorem shows_dq (I : Inv X pins σ H s) {a : Addr} {d : PyData} (h : Dq X.K H (.ref a) d) (hs : d.showable = true) (hz : d.shown.length ≤ sizeLine) : ∃ T idr, ShowsBy X.prog X.w s.heap a d T idr := by
  cases h with
  | @lst _ xs ds hq ha =>
    have hz' : (listText (PyData.shownAll ds)).length ≤ sizeLine := by simpa only [PyData.shown] using hz
    obtain ⟨its, rv, ⟨o, n, h1, h2, _, h3⟩, _⟩ := I.list hq
    obtain ⟨as, bs, rs, m, k⟩ := DqAll.shown I ha rv (by simpa [PyData.showable] using hs) fun t ht => Nat.le_trans (listText_mem_le ht) hz'
    have out : a ∉ bs := not_mem_of_deeper (.list h1 h2 h3 rs) (by simp only [PyData.depth]; omega) m
    refine ⟨"list", "list.__repr__", F.slot_list_repr.toG, F.slot_list_str, F.slot_list_format, fun s hk0 => ⟨o, hk0 _ _ h1, h2⟩, fun A E s Q hg hu hk0 hQ => ?_⟩
    simp only [PyData.depth] at hu
    simp only [PyData.shown] at hQ
    cases its with
    | nil =>
      cases rs
      simp only [PyData.shownAll, listText_nil] at hQ
      exact call_list_repr_empty ⟨o, hk0 _ _ h1, h2⟩ (hk0 _ _ h1) h3 (hQ s.heap _ _ fun _ _ e => e)
    | cons x l => exact call_list_reprK h1 h2 h3 out (by simpa using k.length_eq) (fun i y e => k.item i y (by simpa using e)) hg (fun b _ => Clear.nil b) hu hk0 hQ hz'
  | @tup _ xs ds hq ha =>
    have hz' : (tupleText (PyData.shownAll ds)).length ≤ sizeLine := by simpa only [PyData.shown] using hz
    obtain ⟨its, rv, ⟨o, h1, h2, n, h3⟩, _⟩ := I.tuple hq
    obtain ⟨as, bs, rs, m, k⟩ := DqAll.shown I ha rv (by simpa [PyData.showable] using hs) fun t ht => Nat.le_trans (tupleText_mem_le ht) hz'
    have out : a ∉ bs := not_mem_of_deeper (.tuple h1 h2 h3 rs) (by simp only [PyData.depth]; omega) m
    refine ⟨"tuple", "tuple.__repr__", F.slot_tuple_repr, F.slot_tuple_str, F.slot_tuple_format, fun s hk0 => ⟨o, hk0 _ _ h1, h2⟩, fun A E s Q hg hu hk0 hQ => ?_⟩
    simp only [PyData.depth] at hu
    simp only [PyData.shown] at hQ
    exact call_tuple_reprK h1 h2 h3 out k hg (fun b _ => Clear.nil b) hu hk0 hQ hz'
  | @dK _ kvs ds hk ha =>
    obtain ⟨o, es, n, h1, h2, h3, ns, t1, t2⟩ := dict_shown I hk ha hs hz
    obtain ⟨as, b1, r1, m1, k1⟩ := t1
    obtain ⟨cs, b2, r2, m2, k2⟩ := t2
    generalize List.zip (kvs.map fun p => keyD p.1) ds = ps at hs hz r1 m1 k1 r2 m2 k2 ⊢
    have m : ReadAtMost s.heap (PyData.depthKv ps) (b1 ++ b2) := (m1.mono (PyData.depthAll_keys_le ps)).append (m2.mono (PyData.depthAll_vals_le ps))
    have out : a ∉ b1 ++ b2 := not_mem_of_deeper (.dict h1 h2 h3 r1 r2) (by simp only [PyData.depth]; omega) m
    have hz' : (dictText (PyData.shownKv ps)).length ≤ sizeLine := by simpa only [PyData.shown] using hz
    refine ⟨"dict", "dict.__repr__", F.slot_dict_repr, F.slot_dict_str, F.slot_dict_format, fun s hk0 => ⟨o, hk0 _ _ h1, h2⟩, fun A E s Q hg hu hk0 hQ => ?_⟩
    simp only [PyData.depth] at hu
    simp only [PyData.shown, PyData.shownKv_eq] at hQ
    exact call_dict_reprK h1 h2 h3 ns out (ReprEntriesK.of_two es.toList _ _ (k1.more_le (fun b z => List.mem_append_left _ z) (PyData.depthAll_keys_le ps)) (k2.more_le (fun b z => List.mem_append_right _ z) (PyData.depthAll_vals_le ps))) hg (fun b _ => Clear.nil b) hu hk0 hQ (by rw [← PyData.shownKv_eq]; exact hz')
end
/-- repr(x), x a list, a tuple, a dict -/
def rReprQ (K : PySem.W.Frag) : List V → Hp → VK → Prop := fun xs H Q => ∃ (a : Addr) (d : PyData), xs = [.ref a] ∧ Dq K H (.ref a) d ∧ d.showable = true ∧ d.depth ≤ 60 ∧ d.shown.length ≤ sizeLine ∧ Q (.str d.shown) H
theorem cr_reprQ {X : Cx} (hg : X.A.guards = some []) (hu : X.A.units + 64 < cLine) : CallR X (.builtin "repr") (rReprQ X.K) := by
  intro pins s σ H xs us Q I r h
  obtain ⟨a, d, rfl, hd, h1, h3, h4, q⟩ := h
  obtain ⟨u, rfl, hu'⟩ := vals1 r
  obtain rfl : u = Value.ref a := hu'
  obtain ⟨T, idr, S⟩ := shows_dq I hd h1 h4
  refine call_repr_slot (by omega) (S.typeIs s fun _ _ e => e) S.slotRepr (S.call X.A.in1 _ s _ hg (by show X.A.units + 1 + d.depth < cLine; omega) (fun _ _ e => e) fun h' u tk k => ⟨_, _, rfl, ⟨.str _, H, I.kept (t' := tk) k, ⟨_, rfl⟩, q⟩⟩)
end EE

/-! Own layer: list(enumerate(x)), x a list. -/
namespace EE
open PySem PySem.Spec PyProof.Rows L2
theorem enum_len : typeLookup (.type "enumerate") "__len__" = pure none := by rw [typeLookup_type, builtinLookup_eq_fast]; kernel_rfl
theorem enum_hint : typeLookup (.type "enumerate") "__length_hint__" = pure none := by rw [typeLookup_type, builtinLookup_eq_fast]; kernel_rfl
section
variable {M : Model} {prog : Program} {w : World} {A : Around} {E : Value → Shared → Prop} {s : Shared} {r : Addr}
theorem hint_enum {Q : Bool → Shared → Prop} (hT : s.TypeIs (.ref r) "enumerate") (h : Q true s) : wpAny M A (Builtin.List.listLengthHint (.ref r)) Q E s := by
  unfold Builtin.List.listLengthHint
  refine wpAny_bind (wpAny_specialOf hT enum_len ?_)
  wp_walk
  rw [show typeLookup (.type "enumerate") (Str.ofString "__length_hint__") = pure none from enum_hint]
  exact wpAny_pure (wpAny_pure h)
end
/-- the pairs that enumerate gives of xs, the first j of them -/
def EnumVs (H : Hp) (xs vs : List V) : Prop := ∀ j v, vs[j]? = some v → ∃ T x, v = .ref T ∧ xs[j]? = some x ∧ H T = some (.tup [.int (j : Nat), x])
theorem EnumVs.keep {H H' : Hp} {xs vs : List V} (h : EnumVs H xs vs) (k : ∀ a ys, H a = some (.tup ys) → H' a = some (.tup ys)) : EnumVs H' xs vs := fun j v e => by
  obtain ⟨T, x, e1, e2, e3⟩ := h j v e
  exact ⟨T, x, e1, e2, k _ _ e3⟩
/-- the enumerate object at e behind i turns -/
def EnSt (h : Heap) (e it S : Addr) (i : Nat) : Prop := (∃ old, IsEnum h e it (i : Nat) old) ∨ ∃ old T f oT, IsEnumHeld h e it (i : Nat) old T f ∧ h.get? T = some oT ∧ T ≠ e ∧ T ≠ it ∧ T ≠ S
theorem EnSt.keep {h h' : Heap} {e it S : Addr} {i : Nat} (x : EnSt h e it S i) (ne : e ≠ S) (k : ∀ b o, b ≠ S → h.get? b = some o → h'.get? b = some o) : EnSt h' e it S i := by
  rcases x with ⟨old, z⟩ | ⟨old, T, f, oT, z, z2, n1, n2, n3⟩
  · exact .inl ⟨old, k _ _ ne z⟩
  · exact .inr ⟨old, T, f, oT, k _ _ ne z, k _ _ n3 z2, n1, n2, n3⟩
theorem iter_keep {h h' : Heap} {it l S : Addr} {i : Nat} (x : h.IsListIter it l i) (ne : it ≠ S) (k : ∀ b o, b ≠ S → h.get? b = some o → h'.get? b = some o) : h'.IsListIter it l i := by
  obtain ⟨o, z, r⟩ := x
  exact ⟨o, k _ _ ne z, r⟩
section
variable {X : Cx} {pins : List (Addr × Obj)} {σ : L2.St} {A : Around} {R : Result → Shared → Prop} {l e it S : Addr} {xs : List V} {res : Value} {H0 : Hp} {g : Array GenState} {dn : Drawn} {os : OsState}
/-- one step of enumerate, the last pair held or let go -/
theorem enum_next {H : Hp} {s : Shared} {i : Nat} {E : Value → Shared → Prop} {Q : Option Value → Shared → Prop} (st : EnSt s.heap e it S i) (hit : s.heap.IsListIter it l i) (hne : e ≠ it) {its : Array Value} {u : Value} (hl : s.heap.IsList l its) (hu : its[i]? = some u) (hS : S < s.heap.objs.size)
    (h : ∀ h' t, EnSt h' e it S (i + 1) → h'.IsListIter it l (i + 1) → h'.get? s.heap.objs.size = some { cls := .type "tuple", data := .seq #[.int i t, u] } → h'.objs.size = s.heap.objs.size + 1 → (∀ b o, b ≠ e → b ≠ it → s.heap.get? b = some o → h'.get? b = some o) →
      Q (some (.ref s.heap.objs.size)) { s with heap := h', toks := s.toks + 1 }) : wpAny (model X.prog X.w) A (pyNext (.ref e)) Q E s := by
  have e1 : (((i + 1 : Nat) : Nat) : Int) = (i : Int) + 1 := by omega
  obtain ⟨oi, hoi, _⟩ := id hit
  have li : it < s.heap.objs.size := Heap.lt_size hoi
  rcases st with ⟨old, z⟩ | ⟨old, T, f, oT, z, z2, n1, n2, n3⟩
  · have le : e < s.heap.objs.size := Heap.lt_size z
    exact wpAny_pyNext_enum_item z hit hl hu hne fun h' a1 a2 a3 a4 a5 => h h' _ (.inr ⟨u, s.heap.objs.size, false, _, by rw [e1]; exact a1, a3, Nat.ne_of_gt le, Nat.ne_of_gt li, Nat.ne_of_gt hS⟩) a2 a3 a4 a5
  · exact wpAny_pyNext_enum_item_held z z2 n1 n2 hit hl hu hne fun h' a1 a2 a3 a4 a5 => h h' _ (.inr ⟨old, T, true, oT, by rw [e1]; exact a1, a5 _ _ n1 n2 z2, n1, n2, n3⟩) a2 a3 a4 a5
theorem enum_end {s : Shared} {i : Nat} {E : Value → Shared → Prop} {Q : Option Value → Shared → Prop} (hh : A.handled = none) (st : EnSt s.heap e it S i) (hit : s.heap.IsListIter it l i) {its : Array Value} (hl : s.heap.IsList l its) (hu : its[i]? = none)
    (h : ∀ h', Heap.ExtBut it s.heap h' → Q none { s with heap := h' }) : wpAny (model X.prog X.w) A (pyNext (.ref e)) Q E s := by
  rcases st with ⟨old, z⟩ | ⟨old, T, f, oT, z, _⟩
  · exact wpAny_pyNext_enum_end hh z hit hl hu h
  · exact wpAny_pyNext_enum_end_held hh z hit hl hu h
theorem enum_loop (hh : A.handled = none) (few : xs.length ≤ 100000)
    (hR : ∀ H' s' vs, Inv X pins σ H' s' → Same H0 H' → H' S = some (.lst vs) → vs.length = xs.length → EnumVs H' xs vs → R (.ok (.ret res)) s') :
    ∀ (k i : Nat) (H : Hp) (s : Shared) (vs : List V), xs.length - i = k → i ≤ xs.length → Inv X pins σ H s → Same H0 H → H0 S = none → H S = some (.lst vs) → vs.length = i → EnumVs H xs vs → SqL X.K H l xs → EnSt s.heap e it S i → s.heap.IsListIter it l i → e ≠ it → e ≠ S → it ≠ S → l ≠ S →
      FpOk X pins H e → FpOk X pins H it → codeAny (model X.prog X.w) A (.builtin "list.extend.loop" ⟨[.ref S, .ref e, res], []⟩) R s := by
  intro k
  induction k with
  | zero =>
    intro i H s vs hk hi I sm hS0 hS hv en hq st hit n1 n2 n3 n4 f1 f2
    refine codeAny_builtin PySem.F.entry_extend_loop ?_
    rw [Around.under_plainId PySem.F.plain_extend_loop _]
    show wpAny _ A.in1 (pyNext (.ref e) >>= _) _ _ _
    obtain ⟨its, rv, p, hz⟩ := I.list hq
    have hl := rv.length
    refine wpAny_bind (enum_end (X := X) (A := A.in1) hh st hit p.isList (by simp; omega) fun h' eb => ?_)
    obtain ⟨f20, f21, f22, f23, f24, f25⟩ := f2
    exact wpAny_pure (hR H _ vs (I.turned (t' := s.toks) (fun b o hb q => eb b o hb q) f20 f21 f23 f24 f25) sm hS (by omega) en)
  | succ k ih =>
    intro i H s vs hk hi I sm hS0 hS hv en hq st hit n1 n2 n3 n4 f1 f2
    have hlt : i < xs.length := by omega
    refine codeAny_builtin PySem.F.entry_extend_loop ?_
    rw [Around.under_plainId PySem.F.plain_extend_loop _]
    show wpAny _ A.in1 (pyNext (.ref e) >>= _) _ _ _
    obtain ⟨its, rv, p, hz⟩ := I.list hq
    obtain ⟨u, hu, ru⟩ := rv.get (List.getElem?_eq_getElem hlt)
    obtain ⟨_, its0, n0, rv0, hS1⟩ := (show ObjOk X.prog X.w H s.heap S (.lst vs) from I.hok S _ hS)
    have hSl : S < s.heap.objs.size := Heap.lt_size hS1
    refine wpAny_bind (enum_next (X := X) (A := A.in1) (H := H) st hit n1 p.isList (u := u) (by simpa using hu) hSl fun h' t st' hit' hT hsz hk2 => ?_)
    have new : ObjOk X.prog X.w (upd H s.heap.objs.size (.tup [.int (i : Nat), xs[i]])) h' s.heap.objs.size (.tup [.int (i : Nat), xs[i]]) := ⟨by show 2 ≤ sizeLine; decide, [.int i t, u], .cons ⟨_, rfl⟩ (.cons ru .nil), ⟨_, hT, rfl, _, rfl⟩⟩
    have hf : ∀ b ∈ [e, it], FpOk X pins H b := fun b hb => by
      rcases List.mem_cons.mp hb with z | hb
      · rw [z]; exact f1
      · rw [List.mem_singleton.mp hb]; exact f2
    have I1 := I.turnedNew (t' := s.toks + 1) (ch := [e, it]) (fun b ob hb q => hk2 b ob (fun z => hb (by simp [z])) (fun z => hb (by simp [z])) q) hf (Nat.le_refl _) new
    have hnew : H s.heap.objs.size = none := I.hok.fresh (Nat.le_refl _)
    have sT : Same H (upd H s.heap.objs.size (.tup [.int (i : Nat), xs[i]])) := same_new hnew
    have hST := sT _ _ hS
    have hS2 := hk2 S _ (Ne.symm n2) (Ne.symm n3) hS1
    show wpAny _ A.in1 (updateSeq S (·.push (Value.ref s.heap.objs.size)) >>= _) _ _ _
    refine wpAny_bind (wpAny_updateSeq hS2 rfl (wpAny_pure ⟨plainId_quiet PySem.F.plain_extend_loop _, ?_⟩) ?_ ?_)
    · have up : ∀ b o, b ≠ S → h'.get? b = some o → (h'.update S (Obj.mapSeq (·.push (Value.ref s.heap.objs.size)))).get? b = some o := fun b o hb z => (Heap.get?_update_other _ _ (Ne.symm hb)).trans z
      have hS3 := Heap.get?_update_self (Obj.mapSeq (·.push (Value.ref s.heap.objs.size))) hS2 rfl
      have I2 := I1.write (t' := s.toks + 1) (x := S) (e := S) (o := .lst (vs ++ [.ref s.heap.objs.size])) (h' := h'.update S (Obj.mapSeq (·.push (Value.ref s.heap.objs.size)))) (by rw [hST]; exact True.intro) (.inl rfl) up ⟨_, hS3⟩
        ⟨by rw [List.length_append, hv]; show i + 1 ≤ sizeLine; rw [sizeLine_eq]; omega, its0 ++ [Value.ref s.heap.objs.size], n0 + 1, rv0.append (Paired.cons (show RelV (.ref s.heap.objs.size) (.ref s.heap.objs.size) from rfl) .nil), by rw [hS3, Obj.mapSeq_push_plain]; simp⟩
      have hTS : s.heap.objs.size ≠ S := Nat.ne_of_gt hSl
      have kt : ∀ a ys, upd H s.heap.objs.size (.tup [.int (i : Nat), xs[i]]) a = some (.tup ys) → upd (upd H s.heap.objs.size (.tup [.int (i : Nat), xs[i]])) S (.lst (vs ++ [.ref s.heap.objs.size])) a = some (.tup ys) := fun a ys z => by
        have ne : a ≠ S := fun y => by
          rw [y, hST] at z
          cases z
        rw [upd_ne ne]
        exact z
      refine ih (i + 1) _ _ (vs ++ [.ref s.heap.objs.size]) (by omega) hlt I2 (Same.grow hS0 (fun b o z => sT _ _ (sm _ _ z))) hS0 upd_same (by rw [List.length_append, hv]; rfl) ?_ ?_ (st'.keep n2 up) (iter_keep hit' n3 up) n1 n2 n3 n4 ?_ ?_
      · intro j v hj
        rcases Nat.lt_trichotomy j vs.length with z | z | z
        · rw [List.getElem?_append_left z] at hj
          obtain ⟨T, x, e1, e2, e3⟩ := en j v hj
          exact ⟨T, x, e1, e2, kt _ _ (sT _ _ e3)⟩
        · subst z
          have hv2 : V.ref s.heap.objs.size = v := by simpa using hj
          subst hv2
          subst hv
          exact ⟨_, _, rfl, List.getElem?_eq_getElem hlt, kt _ _ upd_same⟩
        · rw [List.getElem?_eq_none (by rw [List.length_append, List.length_singleton]; omega)] at hj
          cases hj
      · exact (but_upd (p := S) (o := .lst (vs ++ [.ref s.heap.objs.size]))).seq n4 (Same.seq sT hq)
      · obtain ⟨a1, a2⟩ := f1
        refine ⟨?_, a2⟩
        rw [upd_ne n2, upd_ne]
        · exact a1
        · intro z
          rcases st with ⟨old, y⟩ | ⟨old, T, f, oT, y, _⟩ <;> exact absurd (Heap.lt_size y) (by rw [z]; exact Nat.lt_irrefl _)
      · obtain ⟨a1, a2⟩ := f2
        refine ⟨?_, a2⟩
        rw [upd_ne n3, upd_ne]
        · exact a1
        · intro z
          obtain ⟨oi, hoi, _⟩ := hit
          exact absurd (Heap.lt_size hoi) (by rw [z]; exact Nat.lt_irrefl _)
    · have := rv0.length
      simp
      rw [← this, hv, sizeLine_eq]
      omega
    · have := rv0.length
      simp
      rw [← this, hv, sizeLine_eq]
      omega
/-- list.__init__(S, e) -/
theorem enum_init {H : Hp} {s : Shared} (hh : A.handled = none) (few : xs.length ≤ 100000) (I : Inv X pins σ H s) (sm : Same H0 H) (hS0 : H0 S = none) (hS : H S = some (.lst [])) (hS1 : s.heap.get? S = some { cls := .type "list", data := .seq #[] }) (hq : SqL X.K H l xs)
    (he : IsEnum s.heap e it 0 .none) (hit : s.heap.IsListIter it l 0) (n1 : e ≠ it) (n2 : e ≠ S) (n3 : it ≠ S) (n4 : l ≠ S) (f1 : FpOk X pins H e) (f2 : FpOk X pins H it)
    (hR : ∀ H' s' vs, Inv X pins σ H' s' → Same H0 H' → H' S = some (.lst vs) → vs.length = xs.length → EnumVs H' xs vs → R (.ok (.ret .none)) s') :
    wpAny (model X.prog X.w) A.in1 (Builtin.«list.__init__» ⟨[.ref S, .ref e], []⟩)
      (fun fin s' => match fin with | .done f => R (.ok f) s' | .again c' => c'.quiet = true ∧ codeAny (model X.prog X.w) A c' R s') (fun e s' => R (.error e) s') s := by
  show wpAny _ _ (do let old ← Builtin.List.listItems (.ref S); Builtin.List.listUpdate (.ref S) (fun _ => #[]); letGo old.toList.reverse; Builtin.List.listExtendWith (.ref S) (.ref e) .none) _ _ s
  refine wpAny_bind ?_
  unfold Builtin.List.listItems
  refine wpAny_bind (wpAny_seqItems hS1 rfl (wpAny_pure ?_))
  show wpAny _ _ (updateSeq S (fun _ => #[]) >>= fun _ => letGo (#[] : Array Value).toList.reverse >>= fun _ => Builtin.List.listExtendWith (.ref S) (.ref e) .none) _ _ s
  refine wpAny_bind (wpAny_updateSeq hS1 rfl ?_)
  have hS2 := Heap.get?_update_self (Obj.mapSeq (fun _ => (#[] : Array Value))) hS1 rfl
  have k2 : ∀ b o, b ≠ S → s.heap.get? b = some o → (s.heap.update S (Obj.mapSeq (fun _ => (#[] : Array Value)))).get? b = some o := fun b o hb z => (Heap.get?_update_other _ _ (Ne.symm hb)).trans z
  refine wpAny_bind (wpAny_letGo ?_)
  have he2 : IsEnum (s.heap.update S (Obj.mapSeq (fun _ => (#[] : Array Value)))) e it 0 .none := k2 _ _ n2 he
  unfold Builtin.List.listExtendWith
  refine wpAny_bind (wpAny_typeOf (T := "enumerate") ⟨_, he2, rfl⟩ ?_)
  have h1 : Builtin.List.listSameRef (.ref S) (.ref e) = false := by simp [Builtin.List.listSameRef, Ne.symm n2]
  have h2 : (Value.type "enumerate" == Value.type "list") = false := by decide
  have h3 : (Value.type "enumerate" == Value.type "tuple") = false := by decide
  simp only [h1, h2, h3, Bool.or_false, Bool.false_eq_true, if_false]
  refine wpAny_bind (wpAny_pyIter_enum he2 ?_)
  refine wpAny_bind (wpAny_holding (hint_enum ⟨_, he2, rfl⟩ ?_))
  refine wpAny_ite_split (fun _ => ?_) (fun z => absurd rfl z)
  refine wpAny_bind (wpAny_rule (wpAny_bind ?_))
  show wpAny _ _ (updateSeq S (·.push .none) >>= fun _ => updateSeq S (·.pop)) _ _ _
  refine wpAny_bind (wpAny_updateSeq hS2 rfl ?_)
  have hS3 := Heap.get?_update_self (Obj.mapSeq (·.push Value.none)) hS2 rfl
  refine wpAny_updateSeq (hz := by seq_fits) hS3 rfl ?_
  have hS4 := Heap.get?_update_self (Obj.mapSeq (·.pop)) hS3 rfl
  have kp : ∀ b o, b ≠ S → s.heap.get? b = some o → (((s.heap.update S (Obj.mapSeq (fun _ => (#[] : Array Value)))).update S (Obj.mapSeq (·.push Value.none))).update S (Obj.mapSeq (·.pop))).get? b = some o :=
    fun b o hb z => (Heap.get?_update_other _ _ (Ne.symm hb)).trans ((Heap.get?_update_other _ _ (Ne.symm hb)).trans (k2 b o hb z))
  have I2 := I.write (t' := s.toks) (x := S) (e := S) (o := .lst []) (h' := ((s.heap.update S (Obj.mapSeq (fun _ => (#[] : Array Value)))).update S (Obj.mapSeq (·.push Value.none))).update S (Obj.mapSeq (·.pop))) (by rw [hS]; exact True.intro) (.inl rfl) kp ⟨_, hS4⟩
    ⟨Nat.zero_le _, [], _, .nil, hS4⟩
  have eu : upd H S (.lst []) = H := by
    funext b
    by_cases hb : b = S
    · rw [hb, upd_same, hS]
    · rw [upd_ne hb]
  rw [eu] at I2
  exact wpAny_pure ⟨plainId_quiet PySem.F.plain_extend_loop _, enum_loop (A := A) hh few hR xs.length 0 H _ [] (Nat.sub_zero _) (Nat.zero_le _) I2 sm hS0 hS rfl (fun j v z => by simp at z) hq (.inl ⟨.none, kp _ _ n2 he⟩) (iter_keep hit n3 kp) n1 n2 n3 n4 f1 f2⟩
end
/-- list(enumerate(e)) -/
def tLenum (K : PySem.W.Frag) (ta : TE) : TE := fun σ H Q => ta σ H fun x H1 => ∃ a xs, x = .ref a ∧ SqL K H1 a xs ∧ xs.length ≤ 100000 ∧ ∀ S vs H', H1 S = none → Same H1 H' → H' S = some (.lst vs) → vs.length = xs.length → EnumVs H' xs vs → Q (.ref S) H'
theorem pe_lenum {X : Cx} {a : Expr} {ta : TE} {p1 p2 q1 q2 : Pos} (hc : X.calm = true) (hg : Gl X "list") (hm : X.mg "list" = none) (hg2 : Gl X "enumerate") (hm2 : X.mg "enumerate" = none) (ha : PE X a ta) (na : starEach [a] X.env = (false, eval a X.env) :: starEach [] X.env := by rfl)
    (nb : starEach [.Call (.Name "enumerate" p2) [a] [] q2] X.env = (false, eval (.Call (.Name "enumerate" p2) [a] [] q2) X.env) :: starEach [] X.env := by rfl) :
    PE X (.Call (.Name "list" p1) [.Call (.Name "enumerate" p2) [a] [] q2] [] q1) (tLenum X.K ta) := by
  refine ⟨fun pins s σ H Q I h => ?_⟩
  refine Call_ (ld_blt I hg hm boot_list (PyProof.Rows.callWith_type1 (args_cons ?_ nb) nb))
  refine Call_ (ld_blt I hg2 hm2 boot_enumerate (PyProof.Rows.callWith_type1 (one_arg ha I h (fun v s2 x H2 I2 r q => ?_) na) na))
  obtain ⟨l, xs, rfl, hq, few, q⟩ := q
  obtain rfl : v = .ref l := r
  obtain ⟨its, rv, pl, hz⟩ := I2.list hq
  refine call_enumerate_list pl.isList fun h' he hit hsz hk => args_nil ?_
  obtain ⟨hp, g, d, tk, os⟩ := s2
  have lll : l < hp.objs.size := pl.lt
  have I3 : Inv X pins σ H2 ⟨h', g, d, tk, os⟩ := I2.kept (t' := tk) hk
  refine callType_codes (Q₁ := fun obj s1 => obj = .ref h'.objs.size ∧ s1 = ⟨h'.push { cls := .type "list", data := .seq #[] }, g, d, tk, os⟩) PySem.F.called_list (PySem.F.typeCall_list_1 _) PySem.F.entry_list_init (code_list_new _ ⟨rfl, rfl⟩) fun obj s1 h1 => ?_
  obtain ⟨rfl, rfl⟩ := h1
  have hS : (h'.push { cls := .type "list", data := .seq #[] }).get? h'.objs.size = some { cls := .type "list", data := .seq #[] } := Heap.get?_push_size _ rfl
  have hn : H2 h'.objs.size = none := I3.hok.fresh (Nat.le_refl _)
  have I4 := I3.laid (t' := tk) (a := h'.objs.size) (o := .lst []) (h' := h'.push { cls := .type "list", data := .seq #[] }) (fun b o z => Heap.get?_push_of_some _ z) (Nat.le_refl _) ⟨Nat.zero_le _, [], 0, .nil, hS⟩
  have fp : ∀ b, hp.objs.size ≤ b → b ≠ h'.objs.size → FpOk X pins (upd H2 h'.objs.size (.lst [])) b := fun b hb n => I2.fpOk hb (by rw [upd_ne n]; exact I2.hok.fresh hb)
  have z1 : hp.objs.size + 1 ≠ h'.objs.size := by rw [hsz]; exact Nat.ne_of_lt (Nat.lt_succ_self _)
  have z2 : hp.objs.size ≠ h'.objs.size := by rw [hsz]; exact Nat.ne_of_lt (Nat.lt_add_of_pos_right (by decide))
  have z3 : l ≠ h'.objs.size := Nat.ne_of_lt (Nat.lt_of_lt_of_le lll (by rw [hsz]; exact Nat.le_add_right _ _))
  refine ⟨⟨_, hS, rfl⟩, PySem.F.args_list_init_2 _ _, enum_init (A := X.A.in1) (H0 := H2) (I3.ok.hd hc) few I4 (same_new hn) hn upd_same hS (Same.seq (same_new hn) hq) (Heap.get?_push_of_some _ he) ?_ (Nat.succ_ne_self _) z1 z2 z3 (fp _ (Nat.le_succ _) z1) (fp _ (Nat.le_refl _) z2) fun H' s' vs J sm eS lv en => ⟨rfl, ?_⟩⟩
  · obtain ⟨o, z, r⟩ := hit
    exact ⟨o, Heap.get?_push_of_some _ z, r⟩
  · exact ⟨.ref h'.objs.size, H', J, rfl, q _ vs H' hn sm eS lv en⟩
theorem rd_lenum {K : PySem.W.Frag} {ta : TE} {σ : L2.St} {H : Hp} {Q : VK} (h : ta σ H fun x H1 => ∃ a xs, x = .ref a ∧ SqL K H1 a xs ∧ xs.length ≤ 100000 ∧ ∀ S vs H', H1 S = none → Same H1 H' → H' S = some (.lst vs) → vs.length = xs.length → EnumVs H' xs vs → Q (.ref S) H') : tLenum K ta σ H Q := h
end EE

/-! Own layer: exception values read. -/
namespace EE
open PySem PySem.Spec PyProof.Rows L2
/-- x.f, x an exception that was made -/
def tXv (K : PySem.W.Frag) (f : Str) (te : TE) : TE := fun σ H Q => te σ H fun x H1 => ∃ (a dx C : Addr) (fs : List (Str × V)) (v : V), x = .ref a ∧ H1 a = some (exo a C (some dx)) ∧ H1 dx = some (exd dx fs) ∧ ExK K C ∧ PySem.W.findIn K (.ref C) f = some none ∧ fs.lookup f = some v ∧ Q v H1
/-- isinstance(x, c), x an exception that was made -/
def rIsX (K : PySem.W.Frag) : List V → Hp → VK → Prop := fun xs H Q => ∃ (a C : Addr) (d : Option Addr) (c : V) (cv : Value) (b : Bool), xs = [.ref a, c] ∧ H a = some (exo a C d) ∧ (∀ dx, d = some dx → ∃ fs, H dx = some (exd dx fs)) ∧ ClsV c cv ∧ ExK K C ∧ PySem.W.kitOne K (.ref C) cv = some b ∧ Q (.bl b) H
section
variable {X : Cx} {e : Expr} {te : TE} {pos : Pos} {n : Str}
theorem pe_xv (he : PE X e te) (hb : attributeBase e n X.env (eval e X.env) = eval e X.env := by rfl) : PE X (.Attribute e n pos) (tXv X.K n te) := by
  refine ⟨fun pins s σ H Q I h => attr_of hb (thn (he.run pins s σ H _ I h) fun u s1 ⟨x, H1, I1, rx, a, dx, C, fs, v, ex, ea, ed, T, hno, hl, q⟩ => ?_)⟩
  subst ex
  obtain rfl : u = Value.ref a := rx
  obtain ⟨t1, ho⟩ := exo_at I1.hok ea
  obtain ⟨mA, hns, rel⟩ := exd_at I1.hok ed
  obtain ⟨od, hod, look⟩ := lookIn_ns hns
  obtain ⟨u, hu, ru⟩ := RelO.some_of (v := v) (o := mA n) (by rw [← hl]; exact rel n)
  exact HandSPX.exc_get I1.kIn (od := some od) ⟨ho, rfl, rfl, hod⟩ T.xf.ga T.xf.gg T.xf.exC (PySem.W.findObj_own T.xf.hdC hno rfl (by rw [look, hu])) (handed_of ru) ⟨v, H1, I1.tok _, ru, q⟩
theorem call_isX : CallR X (.builtin "isinstance") (rIsX X.K) := by
  intro pins s σ H xs us Q I r h
  obtain ⟨a, C, d, c, cv, b, rfl, ea, ed, k, T, e, q⟩ := h
  obtain ⟨u1, u2, rfl, r1, r2⟩ := vals2 r
  obtain rfl : u1 = Value.ref a := r1
  have e2 := k.eq r2
  subst e2
  obtain ⟨t1, ho⟩ := exo_at I.hok ea
  obtain ⟨cd, hcd, _⟩ := PySem.W.any_some T.xf.hdC
  have J : ∃ od, PySem.W.InstAt s.heap a { cls := .ref C, dict := d, data := .fields #[.ref t1, .none, .none, .none, .bool false, .none] } C od := by
    cases d with
    | none => exact ⟨none, ho, rfl, rfl, trivial⟩
    | some dx =>
      obtain ⟨fs, z⟩ := ed dx rfl
      obtain ⟨mA, hns, _⟩ := exd_at I.hok z
      obtain ⟨od, hod, _⟩ := lookIn_ns hns
      exact ⟨some od, ho, rfl, rfl, hod⟩
  obtain ⟨od, J⟩ := J
  exact PySem.W.kia_one (PySem.W.kitx_exc (by rw [hcd]; rfl) T.xf.ga T.xf.gg T.xf.exC T.ha T.hn T.ht T.hm) I.kIn J e (fun z => nomatch z) fun tk => ⟨.bl b, H, I.tok tk, rfl, q⟩
theorem pe_mk0 {C : Addr} {bmB : List Value} {B newId initId : String} {x : Str} {p : Pos} (FB : ExcBaseFacts B newId initId bmB) (q : PySem.W.excIn X.K C bmB newId = true) (kC : PySem.W.keepIn X.K (.ref C) = true) (hg : Gl X x) (hm : X.mg x = some (.ref C)) (ndb : (x == ("__debug__" : Str)) = false := by decide) :
    PE X (.Call (.Name x p) [] [] pos) (tMk0 C) := by
  refine ⟨fun pins s σ H Q I h => wpAny_Call_Name_kw (ld_glob I hg hm (PySem.W.callWith_K0 I.kIn kC ?_) ndb)⟩
  obtain ⟨bm, N, nm, qn, bs, hdct, sn, sub, ab, col, dd, k0, k1, k2, k3, k5, mN, hC, hN, hni, T⟩ := exc_obj I.kIn q
  refine wpAny_call_exc_subT FB T hC hN hni (fun h' a hm => ?_) (Nat.zero_le _)
  have hn : H a = none := I.hok.gone hm.new
  obtain ⟨t, ht, _, _⟩ := hm.there
  exact ⟨.ref a, upd H a (exo a C none), I.laidN hm.keeps hm.new hn (exo_ok ht), rfl, h a hn⟩
end
section
variable {K : PySem.W.Frag} {σ : L2.St} {H : Hp} {Q : VK} {C : Addr}
theorem rd_xv {f : Str} {te : TE} (h : te σ H fun x H1 => ∃ (a dx C : Addr) (fs : List (Str × V)) (v : V), x = .ref a ∧ H1 a = some (exo a C (some dx)) ∧ H1 dx = some (exd dx fs) ∧ ExK K C ∧ PySem.W.findIn K (.ref C) f = some none ∧ fs.lookup f = some v ∧ Q v H1) : tXv K f te σ H Q := h
theorem rd_isX {C : Addr} {x c : V} {cv : Value} {fs : List (Str × V)} {b : Bool} (h : ExV H C x fs) (k : ClsV c cv) (T : ExK K C) (e : PySem.W.kitOne K (.ref C) cv = some b) (q : Q (.bl b) H) : rIsX K [x, c] H Q := by
  obtain ⟨a, dx, rfl, e1, e2⟩ := h
  exact ⟨a, C, some dx, c, cv, b, rfl, e1, fun d z => by cases z; exact ⟨fs, e2⟩, k, T, e, q⟩
theorem rd_isX0 {C : Addr} {x c : V} {cv : Value} {b : Bool} (h : ExN H C x) (k : ClsV c cv) (T : ExK K C) (e : PySem.W.kitOne K (.ref C) cv = some b) (q : Q (.bl b) H) : rIsX K [x, c] H Q := by
  obtain ⟨a, rfl, e1⟩ := h
  exact ⟨a, C, none, c, cv, b, rfl, e1, (fun d z => nomatch z), k, T, e, q⟩
theorem rd_mk0 (h : ∀ v H', Same H H' → ExN H' C v → Q v H') : tMk0 C σ H Q := fun a ha => h _ _ (same_new ha) ⟨a, rfl, upd_same⟩
/-- what an __init__ of one field promises -/
def spI1 (K : PySem.W.Frag) (C : Addr) (f : Str) : Sp := fun vs H Q _ => ∃ (a : Addr) (y : V), vs = [.ref a, y] ∧ H a = some (exo a C none) ∧ ∀ (dx : Addr) (H' : Hp), H dx = none → dx ≠ a → H' a = some (exo a C (some dx)) → H' dx = some (exd dx [(f, y)]) → (∀ b, b ≠ a → b ≠ dx → H' b = H b) → Q .non H'
/-- of two -/
def spI2 (K : PySem.W.Frag) (C : Addr) (f g : Str) : Sp := fun vs H Q _ => ∃ (a : Addr) (y z : V), vs = [.ref a, y, z] ∧ H a = some (exo a C none) ∧ ∀ (dx : Addr) (H' : Hp), H dx = none → dx ≠ a → H' a = some (exo a C (some dx)) → H' dx = some (exd dx [(g, z), (f, y)]) → (∀ b, b ≠ a → b ≠ dx → H' b = H b) → Q .non H'
/-- an exception of the class at C is made of vs -/
def MkSp (C : Addr) (sp : Sp) (vs : List V) (H1 : Hp) (Q : VK) : Prop := vs.length ≤ 1000 ∧ ∀ a, H1 a = none → sp (.ref a :: vs) (upd H1 a (exo a C none)) (fun v H2 => v = .non ∧ Q (.ref a) H2) (fun _ _ _ => False)
def MkSpN (C : Addr) (n : Nat) (sp : Sp) (gV : List V → List V → List V) (zs : List V) (H1 : Hp) (Q : VK) : Prop := zs.length = n ∧ ∀ a, H1 a = none → sp (gV [.ref a] zs) (upd H1 a (exo a C none)) (fun v H2 => v = .non ∧ Q (.ref a) H2) (fun _ _ _ => False)
theorem rd_mkV {ta : TA} {sp : Sp} (h : ta σ H fun vs H1 => MkSp C sp vs H1 Q) : tMkV C sp ta σ H Q := h
theorem rd_mkN {n : Nat} {sp : Sp} {gV : List V → List V → List V} {tk : TA} (h : tk σ H fun zs H1 => MkSpN C n sp gV zs H1 Q) : tMkN C n sp gV tk σ H Q := h
theorem same_made {H H' : Hp} {a dx : Addr} {o : HO} (ha : H a = none) (hd : upd H a o dx = none) (k : ∀ b, b ≠ a → b ≠ dx → H' b = upd H a o b) : Same H H' := fun b u e => by
  have n1 : b ≠ a := ne_of_none e ha
  have n2 : b ≠ dx := fun z => by
    rw [z] at e
    rw [z] at n1
    rw [upd_ne n1, e] at hd
    cases hd
  rw [k b n1 n2, upd_ne n1]
  exact e
/-- behind the one value -/
theorem mk1_at {f : Str} {y : V} (k : ∀ v H', Same H H' → ExV H' C v [(f, y)] → Q v H') : MkSp C (spI1 K C f) [y] H Q :=
  ⟨show 1 ≤ 1000 by decide, fun a ha => ⟨a, y, rfl, upd_same, fun dx H' d1 d2 d3 d4 d5 => ⟨rfl, k _ _ (same_made ha d1 d5) ⟨a, dx, rfl, d3, d4⟩⟩⟩⟩
theorem mk2_at {f g : Str} {y z : V} (k : ∀ v H', Same H H' → ExV H' C v [(g, z), (f, y)] → Q v H') : MkSp C (spI2 K C f g) [y, z] H Q :=
  ⟨show 2 ≤ 1000 by decide, fun a ha => ⟨a, y, z, rfl, upd_same, fun dx H' d1 d2 d3 d4 d5 => ⟨rfl, k _ _ (same_made ha d1 d5) ⟨a, dx, rfl, d3, d4⟩⟩⟩⟩
theorem mkn1_at {f : Str} {y : V} (k : ∀ v H', Same H H' → ExV H' C v [(f, y)] → Q v H') : MkSpN C 1 (spI1 K C f) (fun us ws => us ++ ws) [y] H Q := ⟨rfl, (mk1_at (K := K) k).2⟩
theorem mkn2_at {f g : Str} {y z : V} (k : ∀ v H', Same H H' → ExV H' C v [(g, z), (f, y)] → Q v H') : MkSpN C 2 (spI2 K C f g) (fun us ws => us ++ ws.reverse) [z, y] H Q := ⟨rfl, (mk2_at (K := K) k).2⟩
end
end EE

/-! Own layer: flat data, more readings. -/
namespace EE
open PySem PySem.Spec PyProof.Rows L2
theorem gone_of {H H' : Hp} {p : Addr} (s : Same H H') (h : H' p = none) : H p = none := by
  cases q : H p with
  | none => rfl
  | some o =>
    rw [s _ _ q] at h
    cases h
/-! ### flat data: a scalar, or a list, a tuple, a dict of scalars -/
inductive Sc : V → PyData → Prop
  | non : Sc .non .none
  | bl (b : Bool) : Sc (.bl b) (.bool b)
  | int (i : Int) : Sc (.int i) (.int i)
  | str (x : Str) : Sc (.str x) (.str x)
inductive Fl (H : Hp) : V → PyData → Prop
  | sc {v : V} {d : PyData} (h : Sc v d) : Fl H v d
  | lst {a : Addr} {xs : List V} {ds : List PyData} (h : H a = some (.lst xs)) (s : Paired Sc xs ds) : Fl H (.ref a) (.list ds)
  | tup {a : Addr} {xs : List V} {ds : List PyData} (h : H a = some (.tup xs)) (s : Paired Sc xs ds) : Fl H (.ref a) (.tuple ds)
  | dK {a : Addr} {kvs : List (Key × V)} {ds : List PyData} (h : H a = some (.dK kvs)) (s : Paired Sc (kvs.map (·.2)) ds) : Fl H (.ref a) (.dict (List.zip (kvs.map fun p => keyD p.1) ds))
theorem Fl.keep {H H' : Hp} {v : V} {d : PyData} (h : Fl H v d) (s : Same H H') : Fl H' v d := by
  cases h with
  | sc h => exact .sc h
  | lst h t => exact .lst (s _ _ h) t
  | tup h t => exact .tup (s _ _ h) t
  | dK h t => exact .dK (s _ _ h) t
theorem Fl.but {H H' : Hp} {p : Addr} {v : V} {d : PyData} (h : Fl H v d) (n : offV p v) (s : But p H H') : Fl H' v d := by
  cases h with
  | sc h => exact .sc h
  | lst h t => exact .lst (s _ _ n h) t
  | tup h t => exact .tup (s _ _ n h) t
  | dK h t => exact .dK (s _ _ n h) t
theorem Sc.dq {K : PySem.W.Frag} {H : Hp} {v : V} {d : PyData} (h : Sc v d) : Dq K H v d := by
  cases h with
  | non => exact .non
  | bl b => exact .bl b
  | int i => exact .int i
  | str x => exact .str x
theorem scs_dq {K : PySem.W.Frag} {H : Hp} {vs : List V} {ds : List PyData} (h : Paired Sc vs ds) : DqAll K H vs ds := by
  induction h with
  | nil => exact .nil
  | cons h _ ih => exact .cons h.dq ih
theorem Fl.dq {K : PySem.W.Frag} {H : Hp} {v : V} {d : PyData} (h : Fl H v d) : Dq K H v d := by
  cases h with
  | sc h => exact h.dq
  | lst h s => exact .lst (sqL_of h) (scs_dq s)
  | tup h s => exact .tup (sqT_of h) (scs_dq s)
  | dK h s => exact .dK h (scs_dq s)
section
variable {K : PySem.W.Frag} {σ : L2.St} {H : Hp} {Q : VK}
/-- what `self.f = e` asks of its two values -/
def StAt (K : PySem.W.Frag) (f : Str) (y x : V) (D : Ends) (σ : L2.St) (H2 : Hp) : Prop := ∃ a C : Addr, x = .ref a ∧ ExK K C ∧ PySem.W.findIn K (.ref C) f = some none ∧
  ((H2 a = some (exo a C none) ∧ ∀ dx H', H2 dx = none → dx ≠ a → H' a = some (exo a C (some dx)) → H' dx = some (exd dx [(f, y)]) → (∀ b, b ≠ a → b ≠ dx → H' b = H2 b) → D.nx σ H') ∨
    ∃ (dx : Addr) (fs : List (Str × V)), H2 a = some (exo a C (some dx)) ∧ H2 dx = some (exd dx fs) ∧ fs.length ≤ 900 ∧ D.nx σ (upd H2 dx (exd dx ((f, y) :: fs))))
theorem rd_stx {f : Str} {to te : TE} {D : Ends} (h : te σ H fun y H1 => to σ H1 fun x H2 => StAt K f y x D σ H2) : tStX K f to te D σ H := h
theorem rd_par {i j : Nat} {ta : TA} {D : Ends} (h : ta σ H fun vs H1 => ∃ v w, vs = [v, w] ∧ D.nx ((σ.set i (some v)).set j (some w)) H1) : tPar i j ta D σ H := h
theorem rd_exP {v w : V} {P : V → V → Prop} (h : P v w) : ∃ a b, [v, w] = [a, b] ∧ P a b := ⟨v, w, rfl, h⟩
theorem rd_inT {x : V} {p : Addr} {xs : List V} (h : H p = some (.tup xs)) (f1 : flatV x = true) (f2 : xs.all flatV = true) (q : Q (.bl (inV x xs)) H) : rIn K false x (.ref p) H Q := ⟨p, xs, rfl, .inr (sqT_of h), f1, f2, q⟩
theorem rd_neB {b c : Bool} (q : Q (.bl (!decide (b = c))) H) : rNe (.bl b) (.bl c) H Q := ⟨rfl, by
  have e : decide (V.bl b = V.bl c) = decide (b = c) := by simp
  rw [e]; exact q⟩
theorem rd_gtup {n : Nat} {t : TGs} {a : Addr} {xs : List V} {Q : L2.St → Hp → Prop} (h : H a = some (.tup xs)) (hl : xs.length = n) (q : t xs σ H Q) : gTup K n t (.ref a) σ H Q := ⟨a, xs, rfl, sqT_of h, hl, q⟩
theorem rd_gcons {t : TG} {u : TGs} {v : V} {r : List V} {Q : L2.St → Hp → Prop} (h : t v σ H fun σ' H' => u r σ' H' Q) : gCons t u (v :: r) σ H Q := ⟨v, r, rfl, h⟩
theorem rd_gnil {Q : L2.St → Hp → Prop} (h : Q σ H) : gNil [] σ H Q := ⟨rfl, h⟩
theorem rd_app {l : Addr} {xs : List V} {y : V} (h : H l = some (.lst xs)) (hl : xs.length ≤ 1000) (q : ∀ H1, But l H H1 → H1 l = some (.lst (xs ++ [y])) → Q .non H1) : rAppend (.ref l) [y] H Q := ⟨l, xs, y, rfl, rfl, h, small1000 hl, q _ but_upd upd_same⟩
theorem rd_reprQ {a : Addr} {d : PyData} (h : Dq K H (.ref a) d) (h1 : d.showable = true) (h3 : d.depth ≤ 60) (h4 : d.shown.length ≤ sizeLine) (q : Q (.str d.shown) H) : rReprQ K [.ref a] H Q := ⟨a, d, rfl, h, h1, h3, h4, q⟩
end
theorem inV_int {i : Int} : ∀ {ns : List Int}, inV (.int i) (ns.map V.int) = decide (i ∈ ns)
  | [] => rfl
  | n :: ns => by
    have e : inV (.int i) ((n :: ns).map V.int) = ((n == i) || inV (.int i) (ns.map V.int)) := rfl
    rw [e, inV_int (ns := ns)]
    by_cases h : n = i
    · subst h; simp
    · have h2 : ¬ i = n := fun z => h z.symm
      simp [h, h2]
theorem rd_inI {K : PySem.W.Frag} {H : Hp} {Q : VK} {i : Int} {p : Addr} (ns : List Int) (h : H p = some (.tup (ns.map V.int))) (q : Q (.bl (decide (i ∈ ns))) H) : rIn K false (.int i) (.ref p) H Q := by
  refine rd_inT h rfl ?_ ?_
  · clear h q
    induction ns with
    | nil => rfl
    | cons n ns ih => exact ih
  · rw [inV_int]
    exact q
/-- a field is read -/
def XvAt (K : PySem.W.Frag) (f : Str) (x : V) (H1 : Hp) (Q : VK) : Prop := ∃ (a dx C : Addr) (fs : List (Str × V)) (v : V), x = .ref a ∧ H1 a = some (exo a C (some dx)) ∧ H1 dx = some (exd dx fs) ∧ ExK K C ∧ PySem.W.findIn K (.ref C) f = some none ∧ fs.lookup f = some v ∧ Q v H1
theorem rd_xvA {K : PySem.W.Frag} {σ : L2.St} {H : Hp} {Q : VK} {f : Str} {te : TE} (h : te σ H fun x H1 => XvAt K f x H1 Q) : tXv K f te σ H Q := h
theorem xv_at {K : PySem.W.Frag} {f : Str} {x v : V} {H : Hp} {Q : VK} {C : Addr} {fs : List (Str × V)} (h : ExV H C x fs) (T : ExK K C) (n : PySem.W.findIn K (.ref C) f = some none) (l : fs.lookup f = some v) (q : Q v H) : XvAt K f x H Q := by
  obtain ⟨a, dx, e, e1, e2⟩ := h
  exact ⟨a, dx, C, fs, v, e, e1, e2, T, n, l, q⟩
/-- an exception of the class at C, of fields or of none -/
def ExAny (H : Hp) (C : Addr) (v : V) : Prop := ExN H C v ∨ ∃ fs, ExV H C v fs
theorem ExAny.keep {H H' : Hp} {C : Addr} {v : V} (h : ExAny H C v) (s : Same H H') : ExAny H' C v := h.imp (fun z => z.keep s) fun ⟨fs, z⟩ => ⟨fs, z.keep s⟩
theorem isx_at {K : PySem.W.Frag} {H : Hp} {Q : VK} {C D : Addr} {x : V} {b : Bool} (h : ExAny H C x) (T : ExK K C) (e : PySem.W.kitOne K (.ref C) (.ref D) = some b) (q : Q (.bl b) H) : rIsX K [x, .ref D] H Q := by
  rcases h with h | ⟨fs, h⟩
  · exact rd_isX0 h (.own D) T e q
  · exact rd_isX h (.own D) T e q
theorem isx_ty {K : PySem.W.Frag} {H : Hp} {Q : VK} {C : Addr} {x : V} {n : String} {b : Bool} (h : ExAny H C x) (T : ExK K C) (e : PySem.W.kitOne K (.ref C) (.type n) = some b) (q : Q (.bl b) H) : rIsX K [x, .ty n] H Q := by
  rcases h with h | ⟨fs, h⟩
  · exact rd_isX0 h (.ty n) T e q
  · exact rd_isX h (.ty n) T e q
theorem atI_nat {xs : List V} {i : Nat} {v : V} (h : xs[i]? = some v) : atI xs (0 + (i : Int)) = some v := by
  have hi := (List.getElem?_eq_some_iff.mp h).1
  unfold atI ixN
  rw [if_pos (by omega), if_pos (by omega), Option.bind_some, show (0 + (i : Int)).toNat = i by omega]
  exact h
theorem ix_listK {X : Cx} {K : PySem.W.Frag} (e : X.K = K) : IxR X (rIxL K) := by
  subst e
  exact ix_list
/-- both ways of a conditional expression give what R tells, and the walk goes on once -/
theorem rd_ifJ {σ : L2.St} {H : Hp} {Q : VK} {b : Bool} {ta tb : TE} (R : V → Hp → Prop) (h1 : ∀ Q1 : VK, (∀ v H', R v H' → Q1 v H') → b = true → ta σ H Q1) (h2 : ∀ Q1 : VK, (∀ v H', R v H' → Q1 v H') → b = false → tb σ H Q1) (hq : ∀ v H', R v H' → Q v H') : if b = true then ta σ H Q else tb σ H Q :=
  rd_ite (h1 Q hq) (h2 Q hq)
/-! ### error classes as the law's texts need them -/
structure Err (P : Program) (w : World) (K : PySem.W.Frag) (mg : Str → Option Value) (base : Heap) (x : Str) (C fI : Addr) (fd : FuncData) (ps : List Str) (sp : Sp) : Prop where
  T : ExK K C
  g : mg x = some (.ref C)
  iC : PySem.W.findIn K (.ref C) "__init__" = some (some (.ref fI))
  tI : PySem.W.typeIn K (.ref fI) = some (.type "function")
  G : FnOk P w K mg base CX0 1 fI fd ("self" :: ps) sp
  b : Binds K fd ("self" :: ps) []
  n : ∀ f ∈ ps, PySem.W.findIn K (.ref C) f = some none
structure Err0 (K : PySem.W.Frag) (mg : Str → Option Value) (x : Str) (C : Addr) (bm : List Value) (newId : String) : Prop where
  T : ExK K C
  g : mg x = some (.ref C)
  q : PySem.W.excIn K C bm newId = true
  k : PySem.W.keepIn K (.ref C) = true
/-- one keyword behind self -/
theorem kbn_self {K : PySem.W.Frag} {x qual : Str} {st : Stmt} {f : Addr} {fd : FuncData} {p : Str} (F : Fun K x qual st f fd)
    (h : ∀ (kV doc pm : Value) (an : Option Addr) (cdv ct : Value) (u v : Value), bindArgs (PySem.W.fnOf x qual (defArgs st) (defBody st) (defScope st) .none kV doc pm an cdv ct) ⟨[v], [(p, u)]⟩ = pure [(("self" : Str), v), (p, u)]) :
    KBn K fd ["self", p] 1 [p] (fun us ws => us ++ ws) (fun us ws => us ++ ws) := by
  obtain ⟨oc, od, kV, doc, pm, an, cdv, ct, osl, rfl, lk, hcd⟩ := F.ex
  refine ⟨fun s us ws _ l1 l2 => ?_, fun r1 r2 => r1.append r2⟩
  match us, ws, l1, l2 with
  | [v], [w], _, _ => exact .of_eq (h kV doc pm an cdv ct w v)
theorem vals_rev : ∀ {xs : List V} {us : List Value}, Vals xs us → Vals xs.reverse us.reverse
  | _, _, .nil => .nil
  | _, _, .cons r t => by
    rw [List.reverse_cons, List.reverse_cons]
    exact (vals_rev t).append (.cons r .nil)
/-- two keywords behind self, the other way round -/
theorem kbn_self2 {K : PySem.W.Frag} {x qual : Str} {st : Stmt} {f : Addr} {fd : FuncData} {p q : Str} (F : Fun K x qual st f fd)
    (h : ∀ (kV doc pm : Value) (an : Option Addr) (cdv ct : Value) (u v w : Value), bindArgs (PySem.W.fnOf x qual (defArgs st) (defBody st) (defScope st) .none kV doc pm an cdv ct) ⟨[w], [(q, u), (p, v)]⟩ = pure [(("self" : Str), w), (p, v), (q, u)]) :
    KBn K fd ["self", p, q] 1 [q, p] (fun us ws => us ++ ws.reverse) (fun us ws => us ++ ws.reverse) := by
  obtain ⟨oc, od, kV, doc, pm, an, cdv, ct, osl, rfl, lk, hcd⟩ := F.ex
  refine ⟨fun s us ws _ l1 l2 => ?_, fun r1 r2 => r1.append (vals_rev r2)⟩
  match us, ws, l1, l2 with
  | [w], [u, v], _, _ => exact .of_eq (h kV doc pm an cdv ct u v w)
/-! ### tables of subclass tests -/
theorem tab_at {K : PySem.W.Frag} {L : List Addr} {c : Value} {T : List (Option Bool)} (h : L.map (fun i => PySem.W.kitOne K (.ref i) c) = T) {i : Nat} (hi : i < L.length) : PySem.W.kitOne K (.ref (L.getD i 0)) c = T.getD i none := by
  rw [← h, List.getD_eq_getElem?_getD, List.getD_eq_getElem?_getD, List.getElem?_map, List.getElem?_eq_getElem hi]
  rfl
end EE

namespace My
open PySem PySem.Spec PyProof.Rows L2 EE
def topS (i : Nat) : Stmt := PySem.Challenge.pw_evenends_k01_errors_and_their_fields.main.body.getD i (.Pass ⟨0, 0, 0, 0⟩)
abbrev s_InvalidBook___init__ : Stmt := (inClass (topS 3) 0)
abbrev s_InvalidPart___init__ : Stmt := (inClass (topS 4) 0)
abbrev s_InvalidNet___init__ : Stmt := (inClass (topS 5) 0)
abbrev s_InvalidCourse___init__ : Stmt := (inClass (topS 6) 0)
abbrev s_InvalidWeighting___init__ : Stmt := (inClass (topS 7) 0)
abbrev s_InvalidDeed___init__ : Stmt := (inClass (topS 8) 0)
abbrev s_InvalidItem___init__ : Stmt := (inClass (topS 9) 0)
abbrev s_InvalidCosts___init__ : Stmt := (inClass (topS 10) 0)
abbrev s_InvalidCount___init__ : Stmt := (inClass (topS 11) 0)
abbrev s_NotComparable___init__ : Stmt := (inClass (topS 12) 0)
abbrev s_InvalidText___init__ : Stmt := (inClass (topS 13) 0)
abbrev s_UnknownCommand___init__ : Stmt := (inClass (topS 14) 0)
abbrev s_UnknownName___init__ : Stmt := (inClass (topS 16) 0)
abbrev s_NoItem___init__ : Stmt := (inClass (topS 17) 0)
abbrev s_TooMany___init__ : Stmt := (inClass (topS 18) 0)
abbrev s_NothingToUndo___init__ : Stmt := (inClass (topS 19) 0)
abbrev s__law_pen : Stmt := (topS 21)
abbrev s__law_draw : Stmt := (topS 22)
abbrev s__law_pick : Stmt := (topS 23)
abbrev s__law_thing : Stmt := (topS 24)
abbrev s__law_made : Stmt := (topS 25)
abbrev s__law_named : Stmt := (topS 26)
abbrev s__law_fields : Stmt := (topS 27)
abbrev s__law_own : Stmt := (topS 28)
abbrev s__law_is_based : Stmt := (topS 29)
abbrev s_law : Stmt := (topS 30)
theorem sc_InvalidBook___init__ : FnScope ["self", "reason"] ["self", "reason"] (defScope s_InvalidBook___init__) := ⟨rfl, rfl, rfl, by decide +kernel, rfl, by decide +kernel, by decide +kernel⟩
theorem sc_InvalidPart___init__ : FnScope ["self", "reason"] ["self", "reason"] (defScope s_InvalidPart___init__) := ⟨rfl, rfl, rfl, by decide +kernel, rfl, by decide +kernel, by decide +kernel⟩
theorem sc_InvalidNet___init__ : FnScope ["self", "reason", "name"] ["self", "reason", "name"] (defScope s_InvalidNet___init__) := ⟨rfl, rfl, rfl, by decide +kernel, rfl, by decide +kernel, by decide +kernel⟩
theorem sc_InvalidCourse___init__ : FnScope ["self", "reason"] ["self", "reason"] (defScope s_InvalidCourse___init__) := ⟨rfl, rfl, rfl, by decide +kernel, rfl, by decide +kernel, by decide +kernel⟩
theorem sc_InvalidWeighting___init__ : FnScope ["self", "reason"] ["self", "reason"] (defScope s_InvalidWeighting___init__) := ⟨rfl, rfl, rfl, by decide +kernel, rfl, by decide +kernel, by decide +kernel⟩
theorem sc_InvalidDeed___init__ : FnScope ["self", "reason"] ["self", "reason"] (defScope s_InvalidDeed___init__) := ⟨rfl, rfl, rfl, by decide +kernel, rfl, by decide +kernel, by decide +kernel⟩
theorem sc_InvalidItem___init__ : FnScope ["self", "index"] ["self", "index"] (defScope s_InvalidItem___init__) := ⟨rfl, rfl, rfl, by decide +kernel, rfl, by decide +kernel, by decide +kernel⟩
theorem sc_InvalidCosts___init__ : FnScope ["self", "name"] ["self", "name"] (defScope s_InvalidCosts___init__) := ⟨rfl, rfl, rfl, by decide +kernel, rfl, by decide +kernel, by decide +kernel⟩
theorem sc_InvalidCount___init__ : FnScope ["self", "name"] ["self", "name"] (defScope s_InvalidCount___init__) := ⟨rfl, rfl, rfl, by decide +kernel, rfl, by decide +kernel, by decide +kernel⟩
theorem sc_NotComparable___init__ : FnScope ["self", "reason"] ["self", "reason"] (defScope s_NotComparable___init__) := ⟨rfl, rfl, rfl, by decide +kernel, rfl, by decide +kernel, by decide +kernel⟩
theorem sc_InvalidText___init__ : FnScope ["self", "line", "word"] ["self", "line", "word"] (defScope s_InvalidText___init__) := ⟨rfl, rfl, rfl, by decide +kernel, rfl, by decide +kernel, by decide +kernel⟩
theorem sc_UnknownCommand___init__ : FnScope ["self", "word"] ["self", "word"] (defScope s_UnknownCommand___init__) := ⟨rfl, rfl, rfl, by decide +kernel, rfl, by decide +kernel, by decide +kernel⟩
theorem sc_UnknownName___init__ : FnScope ["self", "name"] ["self", "name"] (defScope s_UnknownName___init__) := ⟨rfl, rfl, rfl, by decide +kernel, rfl, by decide +kernel, by decide +kernel⟩
theorem sc_NoItem___init__ : FnScope ["self", "number"] ["self", "number"] (defScope s_NoItem___init__) := ⟨rfl, rfl, rfl, by decide +kernel, rfl, by decide +kernel, by decide +kernel⟩
theorem sc_TooMany___init__ : FnScope ["self", "limit"] ["self", "limit"] (defScope s_TooMany___init__) := ⟨rfl, rfl, rfl, by decide +kernel, rfl, by decide +kernel, by decide +kernel⟩
theorem sc_NothingToUndo___init__ : FnScope ["self", "count"] ["self", "count"] (defScope s_NothingToUndo___init__) := ⟨rfl, rfl, rfl, by decide +kernel, rfl, by decide +kernel, by decide +kernel⟩
theorem sc__law_pen : FnScope ["_law_script"] ["_law_script"] (defScope s__law_pen) := ⟨rfl, rfl, rfl, by decide +kernel, rfl, by decide +kernel, by decide +kernel⟩
theorem sc__law_draw : FnScope ["_law_pen_here", "_law_many", "_law_digit", "_law_at", "_law_cell", "_law_great", "_law_mixed"] ["_law_pen_here", "_law_many"] (defScope s__law_draw) := ⟨rfl, rfl, rfl, by decide +kernel, rfl, by decide +kernel, by decide +kernel⟩
theorem sc__law_pick : FnScope ["_law_pen_here", "_law_some"] ["_law_pen_here", "_law_some"] (defScope s__law_pick) := ⟨rfl, rfl, rfl, by decide +kernel, rfl, by decide +kernel, by decide +kernel⟩
theorem sc__law_thing : FnScope ["_law_pen_here", "_law_some"] ["_law_pen_here"] (defScope s__law_thing) := ⟨rfl, rfl, rfl, by decide +kernel, rfl, by decide +kernel, by decide +kernel⟩
theorem sc__law_made : FnScope ["_law_one", "_law_two", "_law_found"] ["_law_one", "_law_two"] (defScope s__law_made) := ⟨rfl, rfl, rfl, by decide +kernel, rfl, by decide +kernel, by decide +kernel⟩
theorem sc__law_named : FnScope ["_law_one", "_law_two", "_law_found"] ["_law_one", "_law_two"] (defScope s__law_named) := ⟨rfl, rfl, rfl, by decide +kernel, rfl, by decide +kernel, by decide +kernel⟩
theorem sc__law_fields : FnScope ["_law_k", "_law_caught"] ["_law_k", "_law_caught"] (defScope s__law_fields) := ⟨rfl, rfl, rfl, by decide +kernel, rfl, by decide +kernel, by decide +kernel⟩
theorem sc__law_own : FnScope ["_law_caught", "_law_flags", "_law_k"] ["_law_caught"] (defScope s__law_own) := ⟨rfl, rfl, rfl, by decide +kernel, rfl, by decide +kernel, by decide +kernel⟩
theorem sc__law_is_based : FnScope ["_law_k", "_law_caught"] ["_law_k", "_law_caught"] (defScope s__law_is_based) := ⟨rfl, rfl, rfl, by decide +kernel, rfl, by decide +kernel, by decide +kernel⟩
theorem sc_law : FnScope ["_law_script", "_law_pen_here", "_law_turn", "_law_one", "_law_two", "_law_k", "_law_caught", "_law_due", "_law_plain", "_law_gone"] ["_law_script"] (defScope s_law) := ⟨rfl, rfl, rfl, by decide +kernel, rfl, by decide +kernel, by decide +kernel⟩
local macro_rules | `(tactic| walk_at "sq") => `(tactic| first | assumption | exact sqL_of (by assumption) | exact sqT_of (by assumption))
local macro_rules | `(tactic| walk_at "r") => `(tactic| first
  | ((with_reducible show tVar _ _ _ _); refine ⟨_, rfl, ?_⟩)
  | (with_reducible refine rd_c ?_)
  | (with_reducible refine rd_op ?_)
  | (with_reducible refine rd_yes ?_)
  | (with_reducible refine iteT ?_)
  | (with_reducible refine iteF ?_)
  | (with_reducible refine iteNT ?_)
  | (with_reducible refine iteNF ?_)
  | (with_reducible refine rd_seq ?_)
  | (with_reducible refine rd_asg ?_)
  | (with_reducible refine rd_name ?_)
  | (with_reducible refine rd_ret ?_)
  | (with_reducible refine rd_retN ?_)
  | (with_reducible refine rd_drop ?_)
  | (with_reducible refine rd_next ?_)
  | (with_reducible refine rd_ifS ?_)
  | (with_reducible refine rd_ifE ?_)
  | (with_reducible refine rd_test ?_)
  | (with_reducible refine rd_B ?_)
  | (with_reducible refine rd_and ?_)
  | (with_reducible refine rd_or ?_)
  | (with_reducible refine rd_not ?_)
  | (with_reducible refine rd_andV ?_)
  | (with_reducible refine rd_orV ?_)
  | (with_reducible refine rd_notV ?_)
  | (with_reducible refine rd_nil ?_)
  | (with_reducible refine rd_cons ?_)
  | (with_reducible refine rd_call ?_)
  | (with_reducible refine rd_CB ?_)
  | (with_reducible refine rd_chain ?_)
  | (with_reducible refine rd_gsub ?_)
  | (with_reducible refine rd_part ?_)
  | (with_reducible refine rd_noPart ?_)
  | (with_reducible refine rd_sl ?_)
  | (with_reducible refine rd_tup ?_)
  | (with_reducible refine rd_lst ?_)
  | (with_reducible refine rd_bl ?_)
  | (with_reducible refine rd_exI ?_)
  | (with_reducible refine rd_exIs ?_)
  | (with_reducible refine rd_exR ?_)
  | (with_reducible refine rd_iRng1 ?_)
  | (with_reducible refine rd_iRng2 ?_)
  | (with_reducible refine rd_iList ?_)
  | (with_reducible refine rd_iTup ?_)
  | (with_reducible refine rd_callN ?_)
  | (with_reducible refine rd_pnil ?_)
  | (with_reducible refine rd_pcons ?_)
  | (with_reducible refine rd_exS ?_)
  | (with_reducible refine rd_isS ?_)
  | (with_reducible refine rd_add ?_)
  | (with_reducible refine rd_sub ?_)
  | (with_reducible refine rd_lt ?_)
  | (with_reducible refine rd_le ?_)
  | (with_reducible refine rd_gt ?_)
  | (with_reducible refine rd_ge ?_)
  | (with_reducible refine rd_eqI ?_)
  | (with_reducible refine rd_neI ?_)
  | (with_reducible refine rd_eqS ?_)
  | (with_reducible refine rd_neS ?_)
  | (with_reducible refine rd_mul ?_ ?_)
  | (with_reducible refine rd_mod ?_ ?_)
  | (with_reducible refine rd_fdiv ?_ ?_)
  | (with_reducible refine rd_pow ?_ ?_)
  | (with_reducible refine rd_int1 ?_)
  | (with_reducible refine rd_int1b ?_)
  | (with_reducible refine rd_abs ?_)
  | (with_reducible refine rd_strI ?_ ?_)
  | (with_reducible refine rd_addS ?_ ?_)
  | (with_reducible refine rd_inS ?_)
  | (with_reducible refine rd_notInS ?_)
  | (with_reducible refine rd_isN ?_)
  | (with_reducible refine rd_notN ?_)
  | (with_reducible refine rd_lenS ?_ ?_)
  | (with_reducible refine rd_slS ?_ ?_)
  | (with_reducible refine rd_lc ?_)
  | (with_reducible refine rd_for ?_)
  | (with_reducible refine rd_iStr ?_)
  | (with_reducible refine rd_M1 ?_)
  | (with_reducible refine rd_M0 ?_)
  | (with_reducible refine rd_un ?_)
  | (with_reducible refine rd_neg ?_)
  | (with_reducible refine rd_stx ?_)
  | (with_reducible refine rd_par ?_)
  | (with_reducible refine rd_exP ?_)
  | (with_reducible refine rd_neB ?_)
  | (with_reducible refine rd_gcons ?_)
  | (with_reducible refine rd_gnil ?_)
  | (with_reducible refine rd_mkV ?_)
  | (with_reducible refine rd_mkN ?_)
  | (with_reducible refine rd_lenum ?_)
  | (with_reducible refine rd_xvA ?_)
  | (with_reducible refine rd_bm ?_))

structure Tx (K : PySem.W.Frag) (mg : Str → Option Value) : Prop where
  b_int : mg "int" = none
  b_len : mg "len" = none
  b_abs : mg "abs" = none
  b_list : mg "list" = none
  b_isinstance : mg "isinstance" = none
  b_range : mg "range" = none
  b_repr : mg "repr" = none
  b_enumerate : mg "enumerate" = none
  b_ValueError : mg "ValueError" = none
  b_LookupError : mg "LookupError" = none
  b_OverflowError : mg "OverflowError" = none
  b_IndexError : mg "IndexError" = none
def fs01 (k : Nat) (one two : V) : List (Str × V) := match k with
  | 1 => [("reason", one)]
  | 2 => [("reason", one)]
  | 3 => [("name", two), ("reason", one)]
  | 4 => [("reason", one)]
  | 5 => [("reason", one)]
  | 6 => [("reason", one)]
  | 7 => [("index", one)]
  | 8 => [("name", one)]
  | 9 => [("name", one)]
  | 10 => [("reason", one)]
  | 11 => [("word", two), ("line", one)]
  | 12 => [("word", one)]
  | 13 => [("name", one)]
  | 14 => [("number", one)]
  | 15 => [("limit", one)]
  | 16 => [("count", one)]
  | _ => []
def due01 (k : Nat) (one two : V) : List V := if k = 3 ∨ k = 11 then [one, two] else if k = 0 then [] else [one]
section
variable {P : Program} {w : World} {K : PySem.W.Frag} {mg : Str → Option Value} {base : Heap}
theorem ok_InvalidBook {f C : Addr} {fd : FuncData} (F : Fun K "__init__" "InvalidBook.__init__" s_InvalidBook___init__ f fd) (T : ExK K C) (n : PySem.W.findIn K (.ref C) "reason" = some none) : FnOk P w K mg base CX0 1 f fd ["self", "reason"] (spI1 K C "reason") := by
  refine F.ok sc_InvalidBook___init__ (fun vs H Q E h => ?_) (fun cdv A outer s H vs Q E hr h => ?_)
  · obtain ⟨a, y, rfl, _⟩ := h
    rfl
  · obtain ⟨a, y, rfl, ea, k⟩ := h
    refine ⟨_, (pss_one (ps_stx (pv 0) (pv 1))), ?_⟩
    repeat walk_at "r"
    exact ⟨a, C, rfl, T, n, .inl ⟨ea, fun dx H' h1 h2 h3 h4 h5 => k dx H' h1 h2 h3 h4 h5⟩⟩
theorem ok_InvalidPart {f C : Addr} {fd : FuncData} (F : Fun K "__init__" "InvalidPart.__init__" s_InvalidPart___init__ f fd) (T : ExK K C) (n : PySem.W.findIn K (.ref C) "reason" = some none) : FnOk P w K mg base CX0 1 f fd ["self", "reason"] (spI1 K C "reason") := by
  refine F.ok sc_InvalidPart___init__ (fun vs H Q E h => ?_) (fun cdv A outer s H vs Q E hr h => ?_)
  · obtain ⟨a, y, rfl, _⟩ := h
    rfl
  · obtain ⟨a, y, rfl, ea, k⟩ := h
    refine ⟨_, (pss_one (ps_stx (pv 0) (pv 1))), ?_⟩
    repeat walk_at "r"
    exact ⟨a, C, rfl, T, n, .inl ⟨ea, fun dx H' h1 h2 h3 h4 h5 => k dx H' h1 h2 h3 h4 h5⟩⟩
theorem ok_InvalidNet {f C : Addr} {fd : FuncData} (F : Fun K "__init__" "InvalidNet.__init__" s_InvalidNet___init__ f fd) (T : ExK K C) (n : PySem.W.findIn K (.ref C) "reason" = some none) (n2 : PySem.W.findIn K (.ref C) "name" = some none) : FnOk P w K mg base CX0 1 f fd ["self", "reason", "name"] (spI2 K C "reason" "name") := by
  refine F.ok sc_InvalidNet___init__ (fun vs H Q E h => ?_) (fun cdv A outer s H vs Q E hr h => ?_)
  · obtain ⟨a, y, z, rfl, _⟩ := h
    rfl
  · obtain ⟨a, y, z, rfl, ea, k⟩ := h
    refine ⟨_, (pss_cons (ps_stx (pv 0) (pv 1))
      (pss_one (ps_stx (pv 0) (pv 2)))), ?_⟩
    repeat walk_at "r"
    refine ⟨a, C, rfl, T, n, .inl ⟨ea, fun dx H' h1 h2 h3 h4 h5 => ?_⟩⟩
    repeat walk_at "r"
    exact ⟨a, C, rfl, T, n2, .inr ⟨dx, _, h3, h4, (show 1 ≤ 900 by decide), k dx _ h1 h2 ((upd_ne (Ne.symm h2)).trans h3) upd_same fun b q1 q2 => (upd_ne q2).trans (h5 b q1 q2)⟩⟩
theorem ok_InvalidCourse {f C : Addr} {fd : FuncData} (F : Fun K "__init__" "InvalidCourse.__init__" s_InvalidCourse___init__ f fd) (T : ExK K C) (n : PySem.W.findIn K (.ref C) "reason" = some none) : FnOk P w K mg base CX0 1 f fd ["self", "reason"] (spI1 K C "reason") := by
  refine F.ok sc_InvalidCourse___init__ (fun vs H Q E h => ?_) (fun cdv A outer s H vs Q E hr h => ?_)
  · obtain ⟨a, y, rfl, _⟩ := h
    rfl
  · obtain ⟨a, y, rfl, ea, k⟩ := h
    refine ⟨_, (pss_one (ps_stx (pv 0) (pv 1))), ?_⟩
    repeat walk_at "r"
    exact ⟨a, C, rfl, T, n, .inl ⟨ea, fun dx H' h1 h2 h3 h4 h5 => k dx H' h1 h2 h3 h4 h5⟩⟩
theorem ok_InvalidWeighting {f C : Addr} {fd : FuncData} (F : Fun K "__init__" "InvalidWeighting.__init__" s_InvalidWeighting___init__ f fd) (T : ExK K C) (n : PySem.W.findIn K (.ref C) "reason" = some none) : FnOk P w K mg base CX0 1 f fd ["self", "reason"] (spI1 K C "reason") := by
  refine F.ok sc_InvalidWeighting___init__ (fun vs H Q E h => ?_) (fun cdv A outer s H vs Q E hr h => ?_)
  · obtain ⟨a, y, rfl, _⟩ := h
    rfl
  · obtain ⟨a, y, rfl, ea, k⟩ := h
    refine ⟨_, (pss_one (ps_stx (pv 0) (pv 1))), ?_⟩
    repeat walk_at "r"
    exact ⟨a, C, rfl, T, n, .inl ⟨ea, fun dx H' h1 h2 h3 h4 h5 => k dx H' h1 h2 h3 h4 h5⟩⟩
theorem ok_InvalidDeed {f C : Addr} {fd : FuncData} (F : Fun K "__init__" "InvalidDeed.__init__" s_InvalidDeed___init__ f fd) (T : ExK K C) (n : PySem.W.findIn K (.ref C) "reason" = some none) : FnOk P w K mg base CX0 1 f fd ["self", "reason"] (spI1 K C "reason") := by
  refine F.ok sc_InvalidDeed___init__ (fun vs H Q E h => ?_) (fun cdv A outer s H vs Q E hr h => ?_)
  · obtain ⟨a, y, rfl, _⟩ := h
    rfl
  · obtain ⟨a, y, rfl, ea, k⟩ := h
    refine ⟨_, (pss_one (ps_stx (pv 0) (pv 1))), ?_⟩
    repeat walk_at "r"
    exact ⟨a, C, rfl, T, n, .inl ⟨ea, fun dx H' h1 h2 h3 h4 h5 => k dx H' h1 h2 h3 h4 h5⟩⟩
theorem ok_InvalidItem {f C : Addr} {fd : FuncData} (F : Fun K "__init__" "InvalidItem.__init__" s_InvalidItem___init__ f fd) (T : ExK K C) (n : PySem.W.findIn K (.ref C) "index" = some none) : FnOk P w K mg base CX0 1 f fd ["self", "index"] (spI1 K C "index") := by
  refine F.ok sc_InvalidItem___init__ (fun vs H Q E h => ?_) (fun cdv A outer s H vs Q E hr h => ?_)
  · obtain ⟨a, y, rfl, _⟩ := h
    rfl
  · obtain ⟨a, y, rfl, ea, k⟩ := h
    refine ⟨_, (pss_one (ps_stx (pv 0) (pv 1))), ?_⟩
    repeat walk_at "r"
    exact ⟨a, C, rfl, T, n, .inl ⟨ea, fun dx H' h1 h2 h3 h4 h5 => k dx H' h1 h2 h3 h4 h5⟩⟩
theorem ok_InvalidCosts {f C : Addr} {fd : FuncData} (F : Fun K "__init__" "InvalidCosts.__init__" s_InvalidCosts___init__ f fd) (T : ExK K C) (n : PySem.W.findIn K (.ref C) "name" = some none) : FnOk P w K mg base CX0 1 f fd ["self", "name"] (spI1 K C "name") := by
  refine F.ok sc_InvalidCosts___init__ (fun vs H Q E h => ?_) (fun cdv A outer s H vs Q E hr h => ?_)
  · obtain ⟨a, y, rfl, _⟩ := h
    rfl
  · obtain ⟨a, y, rfl, ea, k⟩ := h
    refine ⟨_, (pss_one (ps_stx (pv 0) (pv 1))), ?_⟩
    repeat walk_at "r"
    exact ⟨a, C, rfl, T, n, .inl ⟨ea, fun dx H' h1 h2 h3 h4 h5 => k dx H' h1 h2 h3 h4 h5⟩⟩
theorem ok_InvalidCount {f C : Addr} {fd : FuncData} (F : Fun K "__init__" "InvalidCount.__init__" s_InvalidCount___init__ f fd) (T : ExK K C) (n : PySem.W.findIn K (.ref C) "name" = some none) : FnOk P w K mg base CX0 1 f fd ["self", "name"] (spI1 K C "name") := by
  refine F.ok sc_InvalidCount___init__ (fun vs H Q E h => ?_) (fun cdv A outer s H vs Q E hr h => ?_)
  · obtain ⟨a, y, rfl, _⟩ := h
    rfl
  · obtain ⟨a, y, rfl, ea, k⟩ := h
    refine ⟨_, (pss_one (ps_stx (pv 0) (pv 1))), ?_⟩
    repeat walk_at "r"
    exact ⟨a, C, rfl, T, n, .inl ⟨ea, fun dx H' h1 h2 h3 h4 h5 => k dx H' h1 h2 h3 h4 h5⟩⟩
theorem ok_NotComparable {f C : Addr} {fd : FuncData} (F : Fun K "__init__" "NotComparable.__init__" s_NotComparable___init__ f fd) (T : ExK K C) (n : PySem.W.findIn K (.ref C) "reason" = some none) : FnOk P w K mg base CX0 1 f fd ["self", "reason"] (spI1 K C "reason") := by
  refine F.ok sc_NotComparable___init__ (fun vs H Q E h => ?_) (fun cdv A outer s H vs Q E hr h => ?_)
  · obtain ⟨a, y, rfl, _⟩ := h
    rfl
  · obtain ⟨a, y, rfl, ea, k⟩ := h
    refine ⟨_, (pss_one (ps_stx (pv 0) (pv 1))), ?_⟩
    repeat walk_at "r"
    exact ⟨a, C, rfl, T, n, .inl ⟨ea, fun dx H' h1 h2 h3 h4 h5 => k dx H' h1 h2 h3 h4 h5⟩⟩
theorem ok_InvalidText {f C : Addr} {fd : FuncData} (F : Fun K "__init__" "InvalidText.__init__" s_InvalidText___init__ f fd) (T : ExK K C) (n : PySem.W.findIn K (.ref C) "line" = some none) (n2 : PySem.W.findIn K (.ref C) "word" = some none) : FnOk P w K mg base CX0 1 f fd ["self", "line", "word"] (spI2 K C "line" "word") := by
  refine F.ok sc_InvalidText___init__ (fun vs H Q E h => ?_) (fun cdv A outer s H vs Q E hr h => ?_)
  · obtain ⟨a, y, z, rfl, _⟩ := h
    rfl
  · obtain ⟨a, y, z, rfl, ea, k⟩ := h
    refine ⟨_, (pss_cons (ps_stx (pv 0) (pv 1))
      (pss_one (ps_stx (pv 0) (pv 2)))), ?_⟩
    repeat walk_at "r"
    refine ⟨a, C, rfl, T, n, .inl ⟨ea, fun dx H' h1 h2 h3 h4 h5 => ?_⟩⟩
    repeat walk_at "r"
    exact ⟨a, C, rfl, T, n2, .inr ⟨dx, _, h3, h4, (show 1 ≤ 900 by decide), k dx _ h1 h2 ((upd_ne (Ne.symm h2)).trans h3) upd_same fun b q1 q2 => (upd_ne q2).trans (h5 b q1 q2)⟩⟩
theorem ok_UnknownCommand {f C : Addr} {fd : FuncData} (F : Fun K "__init__" "UnknownCommand.__init__" s_UnknownCommand___init__ f fd) (T : ExK K C) (n : PySem.W.findIn K (.ref C) "word" = some none) : FnOk P w K mg base CX0 1 f fd ["self", "word"] (spI1 K C "word") := by
  refine F.ok sc_UnknownCommand___init__ (fun vs H Q E h => ?_) (fun cdv A outer s H vs Q E hr h => ?_)
  · obtain ⟨a, y, rfl, _⟩ := h
    rfl
  · obtain ⟨a, y, rfl, ea, k⟩ := h
    refine ⟨_, (pss_one (ps_stx (pv 0) (pv 1))), ?_⟩
    repeat walk_at "r"
    exact ⟨a, C, rfl, T, n, .inl ⟨ea, fun dx H' h1 h2 h3 h4 h5 => k dx H' h1 h2 h3 h4 h5⟩⟩
theorem ok_UnknownName {f C : Addr} {fd : FuncData} (F : Fun K "__init__" "UnknownName.__init__" s_UnknownName___init__ f fd) (T : ExK K C) (n : PySem.W.findIn K (.ref C) "name" = some none) : FnOk P w K mg base CX0 1 f fd ["self", "name"] (spI1 K C "name") := by
  refine F.ok sc_UnknownName___init__ (fun vs H Q E h => ?_) (fun cdv A outer s H vs Q E hr h => ?_)
  · obtain ⟨a, y, rfl, _⟩ := h
    rfl
  · obtain ⟨a, y, rfl, ea, k⟩ := h
    refine ⟨_, (pss_one (ps_stx (pv 0) (pv 1))), ?_⟩
    repeat walk_at "r"
    exact ⟨a, C, rfl, T, n, .inl ⟨ea, fun dx H' h1 h2 h3 h4 h5 => k dx H' h1 h2 h3 h4 h5⟩⟩
theorem ok_NoItem {f C : Addr} {fd : FuncData} (F : Fun K "__init__" "NoItem.__init__" s_NoItem___init__ f fd) (T : ExK K C) (n : PySem.W.findIn K (.ref C) "number" = some none) : FnOk P w K mg base CX0 1 f fd ["self", "number"] (spI1 K C "number") := by
  refine F.ok sc_NoItem___init__ (fun vs H Q E h => ?_) (fun cdv A outer s H vs Q E hr h => ?_)
  · obtain ⟨a, y, rfl, _⟩ := h
    rfl
  · obtain ⟨a, y, rfl, ea, k⟩ := h
    refine ⟨_, (pss_one (ps_stx (pv 0) (pv 1))), ?_⟩
    repeat walk_at "r"
    exact ⟨a, C, rfl, T, n, .inl ⟨ea, fun dx H' h1 h2 h3 h4 h5 => k dx H' h1 h2 h3 h4 h5⟩⟩
theorem ok_TooMany {f C : Addr} {fd : FuncData} (F : Fun K "__init__" "TooMany.__init__" s_TooMany___init__ f fd) (T : ExK K C) (n : PySem.W.findIn K (.ref C) "limit" = some none) : FnOk P w K mg base CX0 1 f fd ["self", "limit"] (spI1 K C "limit") := by
  refine F.ok sc_TooMany___init__ (fun vs H Q E h => ?_) (fun cdv A outer s H vs Q E hr h => ?_)
  · obtain ⟨a, y, rfl, _⟩ := h
    rfl
  · obtain ⟨a, y, rfl, ea, k⟩ := h
    refine ⟨_, (pss_one (ps_stx (pv 0) (pv 1))), ?_⟩
    repeat walk_at "r"
    exact ⟨a, C, rfl, T, n, .inl ⟨ea, fun dx H' h1 h2 h3 h4 h5 => k dx H' h1 h2 h3 h4 h5⟩⟩
theorem ok_NothingToUndo {f C : Addr} {fd : FuncData} (F : Fun K "__init__" "NothingToUndo.__init__" s_NothingToUndo___init__ f fd) (T : ExK K C) (n : PySem.W.findIn K (.ref C) "count" = some none) : FnOk P w K mg base CX0 1 f fd ["self", "count"] (spI1 K C "count") := by
  refine F.ok sc_NothingToUndo___init__ (fun vs H Q E h => ?_) (fun cdv A outer s H vs Q E hr h => ?_)
  · obtain ⟨a, y, rfl, _⟩ := h
    rfl
  · obtain ⟨a, y, rfl, ea, k⟩ := h
    refine ⟨_, (pss_one (ps_stx (pv 0) (pv 1))), ?_⟩
    repeat walk_at "r"
    exact ⟨a, C, rfl, T, n, .inl ⟨ea, fun dx H' h1 h2 h3 h4 h5 => k dx H' h1 h2 h3 h4 h5⟩⟩
end
structure Z01 (P : Program) (w : World) (K : PySem.W.Frag) (mg : Str → Option Value) (base : Heap) (C fI : Nat → Addr) (CN CM : Addr) (fd : Nat → FuncData) : Prop where
  e0 : Err0 K mg "InvalidVector" (C 0) [.type "ValueError", .type "Exception", .type "BaseException", .type "object"] "ValueError.__new__"
  eN : Err0 K mg "NetError" CN [.type "ValueError", .type "Exception", .type "BaseException", .type "object"] "ValueError.__new__"
  eM : Err0 K mg "MissingError" CM [.type "LookupError", .type "Exception", .type "BaseException", .type "object"] "LookupError.__new__"
  e1 : Err P w K mg base "InvalidBook" (C 1) (fI 1) (fd 1) ["reason"] (spI1 K (C 1) "reason")
  kb1 : KBn K (fd 1) ("self" :: ["reason"]) 1 ["reason"] (fun us ws => us ++ ws) (fun us ws => us ++ ws)
  e2 : Err P w K mg base "InvalidPart" (C 2) (fI 2) (fd 2) ["reason"] (spI1 K (C 2) "reason")
  kb2 : KBn K (fd 2) ("self" :: ["reason"]) 1 ["reason"] (fun us ws => us ++ ws) (fun us ws => us ++ ws)
  e3 : Err P w K mg base "InvalidNet" (C 3) (fI 3) (fd 3) ["reason", "name"] (spI2 K (C 3) "reason" "name")
  kb3 : KBn K (fd 3) ("self" :: ["reason", "name"]) 1 ["name", "reason"] (fun us ws => us ++ ws.reverse) (fun us ws => us ++ ws.reverse)
  e4 : Err P w K mg base "InvalidCourse" (C 4) (fI 4) (fd 4) ["reason"] (spI1 K (C 4) "reason")
  kb4 : KBn K (fd 4) ("self" :: ["reason"]) 1 ["reason"] (fun us ws => us ++ ws) (fun us ws => us ++ ws)
  e5 : Err P w K mg base "InvalidWeighting" (C 5) (fI 5) (fd 5) ["reason"] (spI1 K (C 5) "reason")
  kb5 : KBn K (fd 5) ("self" :: ["reason"]) 1 ["reason"] (fun us ws => us ++ ws) (fun us ws => us ++ ws)
  e6 : Err P w K mg base "InvalidDeed" (C 6) (fI 6) (fd 6) ["reason"] (spI1 K (C 6) "reason")
  kb6 : KBn K (fd 6) ("self" :: ["reason"]) 1 ["reason"] (fun us ws => us ++ ws) (fun us ws => us ++ ws)
  e7 : Err P w K mg base "InvalidItem" (C 7) (fI 7) (fd 7) ["index"] (spI1 K (C 7) "index")
  kb7 : KBn K (fd 7) ("self" :: ["index"]) 1 ["index"] (fun us ws => us ++ ws) (fun us ws => us ++ ws)
  e8 : Err P w K mg base "InvalidCosts" (C 8) (fI 8) (fd 8) ["name"] (spI1 K (C 8) "name")
  kb8 : KBn K (fd 8) ("self" :: ["name"]) 1 ["name"] (fun us ws => us ++ ws) (fun us ws => us ++ ws)
  e9 : Err P w K mg base "InvalidCount" (C 9) (fI 9) (fd 9) ["name"] (spI1 K (C 9) "name")
  kb9 : KBn K (fd 9) ("self" :: ["name"]) 1 ["name"] (fun us ws => us ++ ws) (fun us ws => us ++ ws)
  e10 : Err P w K mg base "NotComparable" (C 10) (fI 10) (fd 10) ["reason"] (spI1 K (C 10) "reason")
  kb10 : KBn K (fd 10) ("self" :: ["reason"]) 1 ["reason"] (fun us ws => us ++ ws) (fun us ws => us ++ ws)
  e11 : Err P w K mg base "InvalidText" (C 11) (fI 11) (fd 11) ["line", "word"] (spI2 K (C 11) "line" "word")
  kb11 : KBn K (fd 11) ("self" :: ["line", "word"]) 1 ["word", "line"] (fun us ws => us ++ ws.reverse) (fun us ws => us ++ ws.reverse)
  e12 : Err P w K mg base "UnknownCommand" (C 12) (fI 12) (fd 12) ["word"] (spI1 K (C 12) "word")
  kb12 : KBn K (fd 12) ("self" :: ["word"]) 1 ["word"] (fun us ws => us ++ ws) (fun us ws => us ++ ws)
  e13 : Err P w K mg base "UnknownName" (C 13) (fI 13) (fd 13) ["name"] (spI1 K (C 13) "name")
  kb13 : KBn K (fd 13) ("self" :: ["name"]) 1 ["name"] (fun us ws => us ++ ws) (fun us ws => us ++ ws)
  e14 : Err P w K mg base "NoItem" (C 14) (fI 14) (fd 14) ["number"] (spI1 K (C 14) "number")
  kb14 : KBn K (fd 14) ("self" :: ["number"]) 1 ["number"] (fun us ws => us ++ ws) (fun us ws => us ++ ws)
  e15 : Err P w K mg base "TooMany" (C 15) (fI 15) (fd 15) ["limit"] (spI1 K (C 15) "limit")
  kb15 : KBn K (fd 15) ("self" :: ["limit"]) 1 ["limit"] (fun us ws => us ++ ws) (fun us ws => us ++ ws)
  e16 : Err P w K mg base "NothingToUndo" (C 16) (fI 16) (fd 16) ["count"] (spI1 K (C 16) "count")
  kb16 : KBn K (fd 16) ("self" :: ["count"]) 1 ["count"] (fun us ws => us ++ ws) (fun us ws => us ++ ws)
  kk : ∀ i j, i < 17 → j < 17 → PySem.W.kitOne K (.ref (C i)) (.ref (C j)) = some (decide (i = j))
  kN : ∀ i, i < 17 → PySem.W.kitOne K (.ref (C i)) (.ref CN) = some (decide (i < 13))
  kM : ∀ i, i < 17 → PySem.W.kitOne K (.ref (C i)) (.ref CM) = some (decide (i = 13 ∨ i = 14))
  kV : ∀ i, i < 13 → PySem.W.kitOne K (.ref (C i)) (.type "ValueError") = some true
  kL : ∀ i, i = 13 ∨ i = 14 → PySem.W.kitOne K (.ref (C i)) (.type "LookupError") = some true
  kO : PySem.W.kitOne K (.ref (C 15)) (.type "OverflowError") = some true
  kI : PySem.W.kitOne K (.ref (C 16)) (.type "IndexError") = some true
  kNn : ∀ j, j < 17 → PySem.W.kitOne K (.ref CN) (.ref (C j)) = some false
  kMn : ∀ j, j < 17 → PySem.W.kitOne K (.ref CM) (.ref (C j)) = some false
  kNV : PySem.W.kitOne K (.ref CN) (.type "ValueError") = some true
  kML : PySem.W.kitOne K (.ref CM) (.type "LookupError") = some true
/-- the exception of the k-th class, made of one (and two) -/
def Is01 (C : Nat → Addr) (H : Hp) (k : Nat) (v one two : V) : Prop := k < 17 ∧ (k = 0 → ExN H (C 0) v) ∧ (k ≠ 0 → ExV H (C k) v (fs01 k one two))
theorem Is01.keep {C : Nat → Addr} {H H' : Hp} {k : Nat} {v one two : V} (h : Is01 C H k v one two) (s : Same H H') : Is01 C H' k v one two := ⟨h.1, fun z => (h.2.1 z).keep s, fun z => (h.2.2 z).keep s⟩

end My

namespace My
open PySem PySem.Spec PyProof.Rows L2 EE

local macro_rules | `(tactic| walk_at "sq") => `(tactic| first | assumption | exact sqL_of (by assumption) | exact sqT_of (by assumption))
local macro_rules | `(tactic| walk_at "r") => `(tactic| first
  | ((with_reducible show tVar _ _ _ _); refine ⟨_, rfl, ?_⟩)
  | (with_reducible refine rd_c ?_)
  | (with_reducible refine rd_op ?_)
  | (with_reducible refine rd_yes ?_)
  | (with_reducible refine iteT ?_)
  | (with_reducible refine iteF ?_)
  | (with_reducible refine iteNT ?_)
  | (with_reducible refine iteNF ?_)
  | (with_reducible refine rd_seq ?_)
  | (with_reducible refine rd_asg ?_)
  | (with_reducible refine rd_name ?_)
  | (with_reducible refine rd_ret ?_)
  | (with_reducible refine rd_retN ?_)
  | (with_reducible refine rd_drop ?_)
  | (with_reducible refine rd_next ?_)
  | (with_reducible refine rd_ifS ?_)
  | (with_reducible refine rd_ifE ?_)
  | (with_reducible refine rd_test ?_)
  | (with_reducible refine rd_B ?_)
  | (with_reducible refine rd_and ?_)
  | (with_reducible refine rd_or ?_)
  | (with_reducible refine rd_not ?_)
  | (with_reducible refine rd_andV ?_)
  | (with_reducible refine rd_orV ?_)
  | (with_reducible refine rd_notV ?_)
  | (with_reducible refine rd_nil ?_)
  | (with_reducible refine rd_cons ?_)
  | (with_reducible refine rd_call ?_)
  | (with_reducible refine rd_CB ?_)
  | (with_reducible refine rd_chain ?_)
  | (with_reducible refine rd_gsub ?_)
  | (with_reducible refine rd_part ?_)
  | (with_reducible refine rd_noPart ?_)
  | (with_reducible refine rd_sl ?_)
  | (with_reducible refine rd_tup ?_)
  | (with_reducible refine rd_lst ?_)
  | (with_reducible refine rd_bl ?_)
  | (with_reducible refine rd_exI ?_)
  | (with_reducible refine rd_exIs ?_)
  | (with_reducible refine rd_exR ?_)
  | (with_reducible refine rd_iRng1 ?_)
  | (with_reducible refine rd_iRng2 ?_)
  | (with_reducible refine rd_iList ?_)
  | (with_reducible refine rd_iTup ?_)
  | (with_reducible refine rd_callN ?_)
  | (with_reducible refine rd_pnil ?_)
  | (with_reducible refine rd_pcons ?_)
  | (with_reducible refine rd_exS ?_)
  | (with_reducible refine rd_isS ?_)
  | (with_reducible refine rd_add ?_)
  | (with_reducible refine rd_sub ?_)
  | (with_reducible refine rd_lt ?_)
  | (with_reducible refine rd_le ?_)
  | (with_reducible refine rd_gt ?_)
  | (with_reducible refine rd_ge ?_)
  | (with_reducible refine rd_eqI ?_)
  | (with_reducible refine rd_neI ?_)
  | (with_reducible refine rd_eqS ?_)
  | (with_reducible refine rd_neS ?_)
  | (with_reducible refine rd_mul ?_ ?_)
  | (with_reducible refine rd_mod ?_ ?_)
  | (with_reducible refine rd_fdiv ?_ ?_)
  | (with_reducible refine rd_pow ?_ ?_)
  | (with_reducible refine rd_int1 ?_)
  | (with_reducible refine rd_int1b ?_)
  | (with_reducible refine rd_abs ?_)
  | (with_reducible refine rd_strI ?_ ?_)
  | (with_reducible refine rd_addS ?_ ?_)
  | (with_reducible refine rd_inS ?_)
  | (with_reducible refine rd_notInS ?_)
  | (with_reducible refine rd_isN ?_)
  | (with_reducible refine rd_notN ?_)
  | (with_reducible refine rd_lenS ?_ ?_)
  | (with_reducible refine rd_slS ?_ ?_)
  | (with_reducible refine rd_lc ?_)
  | (with_reducible refine rd_for ?_)
  | (with_reducible refine rd_iStr ?_)
  | (with_reducible refine rd_M1 ?_)
  | (with_reducible refine rd_M0 ?_)
  | (with_reducible refine rd_un ?_)
  | (with_reducible refine rd_neg ?_)
  | (with_reducible refine rd_stx ?_)
  | (with_reducible refine rd_par ?_)
  | (with_reducible refine rd_exP ?_)
  | (with_reducible refine rd_neB ?_)
  | (with_reducible refine rd_gcons ?_)
  | (with_reducible refine rd_gnil ?_)
  | (with_reducible refine rd_mkV ?_)
  | (with_reducible refine rd_mkN ?_)
  | (with_reducible refine rd_lenum ?_)
  | (with_reducible refine rd_xvA ?_)
  | (with_reducible refine rd_bm ?_))

section
variable {P : Program} {w : World} {K : PySem.W.Frag} {mg : Str → Option Value} {base : Heap} {C fI : Nat → Addr} {CN CM : Addr} {fd : Nat → FuncData}
def spMade (C : Nat → Addr) : Sp := fun vs H Q _ => ∃ one two : V, vs = [one, two] ∧ ∀ (p : Addr) (H' : Hp) (xs : List V), H p = none → Same H H' → H' p = some (.lst xs) → xs.length = 17 → (∀ k v, xs[k]? = some v → Is01 C H' k v one two) → Q (.ref p) H'
theorem ok__law_made {f : Addr} {fd0 : FuncData} (F : Fun K "_law_made" "_law_made" s__law_made f fd0) (T : Tx K mg) (Z : Z01 P w K mg base C fI CN CM fd) : FnOk P w K mg base CX0 4 f fd0 ["_law_one", "_law_two"] (spMade C) := by
  refine F.ok sc__law_made (fun vs H Q E h => ?_) (fun cdv A outer s H vs Q E hr h => ?_)
  · obtain ⟨one, two, rfl, _⟩ := h
    rfl
  · obtain ⟨one, two, rfl, k⟩ := h
    have E_NetError := Z.eN
    have E_MissingError := Z.eM
    have E_InvalidVector := Z.e0
    have E_InvalidBook := Z.e1
    have E_InvalidPart := Z.e2
    have E_InvalidNet := Z.e3
    have E_InvalidCourse := Z.e4
    have E_InvalidWeighting := Z.e5
    have E_InvalidDeed := Z.e6
    have E_InvalidItem := Z.e7
    have E_InvalidCosts := Z.e8
    have E_InvalidCount := Z.e9
    have E_NotComparable := Z.e10
    have E_InvalidText := Z.e11
    have E_UnknownCommand := Z.e12
    have E_UnknownName := Z.e13
    have E_NoItem := Z.e14
    have E_TooMany := Z.e15
    have E_NothingToUndo := Z.e16
    have kb_InvalidBook_reason := Z.kb1
    have kb_InvalidPart_reason := Z.kb2
    have kb_InvalidNet_name_reason := Z.kb3
    have kb_InvalidCourse_reason := Z.kb4
    have kb_InvalidWeighting_reason := Z.kb5
    have kb_InvalidDeed_reason := Z.kb6
    have kb_InvalidItem_index := Z.kb7
    have kb_InvalidCosts_name := Z.kb8
    have kb_InvalidCount_name := Z.kb9
    have kb_NotComparable_reason := Z.kb10
    have kb_InvalidText_word_line := Z.kb11
    have kb_UnknownCommand_word := Z.kb12
    have kb_UnknownName_name := Z.kb13
    have kb_NoItem_number := Z.kb14
    have kb_TooMany_limit := Z.kb15
    have kb_NothingToUndo_count := Z.kb16
    refine ⟨_, (pss_cons (ps_set (i := 2) sc__law_made.nd rfl (by first | exact Or.inl rfl | exact Or.inr rfl) (pe_lst (pa_cons (pe_mk0 PySem.F.excBase_ValueError E_InvalidVector.q E_InvalidVector.k (by rfl) E_InvalidVector.g) (pa_cons (pe_mkV E_InvalidBook.T E_InvalidBook.iC E_InvalidBook.tI E_InvalidBook.G (hr.mono (by decide)) E_InvalidBook.b pass0 (by rfl) E_InvalidBook.g (pa_cons (pv 0) pa_nil)) (pa_cons (pe_mkV E_InvalidPart.T E_InvalidPart.iC E_InvalidPart.tI E_InvalidPart.G (hr.mono (by decide)) E_InvalidPart.b pass0 (by rfl) E_InvalidPart.g (pa_cons (pv 0) pa_nil)) (pa_cons (pe_mkV E_InvalidNet.T E_InvalidNet.iC E_InvalidNet.tI E_InvalidNet.G (hr.mono (by decide)) E_InvalidNet.b pass0 (by rfl) E_InvalidNet.g (pa_cons (pv 0) (pa_cons (pv 1) pa_nil))) (pa_cons (pe_mkV E_InvalidCourse.T E_InvalidCourse.iC E_InvalidCourse.tI E_InvalidCourse.G (hr.mono (by decide)) E_InvalidCourse.b pass0 (by rfl) E_InvalidCourse.g (pa_cons (pv 0) pa_nil)) pa_nil)))))))
      (pss_cons (ps_set (i := 2) sc__law_made.nd rfl (by first | exact Or.inl rfl | exact Or.inr rfl) (pe_op op_cat (pv 2) (pe_lst (pa_cons (pe_mkV E_InvalidWeighting.T E_InvalidWeighting.iC E_InvalidWeighting.tI E_InvalidWeighting.G (hr.mono (by decide)) E_InvalidWeighting.b pass0 (by rfl) E_InvalidWeighting.g (pa_cons (pv 0) pa_nil)) (pa_cons (pe_mkV E_InvalidDeed.T E_InvalidDeed.iC E_InvalidDeed.tI E_InvalidDeed.G (hr.mono (by decide)) E_InvalidDeed.b pass0 (by rfl) E_InvalidDeed.g (pa_cons (pv 0) pa_nil)) (pa_cons (pe_mkV E_InvalidItem.T E_InvalidItem.iC E_InvalidItem.tI E_InvalidItem.G (hr.mono (by decide)) E_InvalidItem.b pass0 (by rfl) E_InvalidItem.g (pa_cons (pv 0) pa_nil)) (pa_cons (pe_mkV E_InvalidCosts.T E_InvalidCosts.iC E_InvalidCosts.tI E_InvalidCosts.G (hr.mono (by decide)) E_InvalidCosts.b pass0 (by rfl) E_InvalidCosts.g (pa_cons (pv 0) pa_nil)) (pa_cons (pe_mkV E_InvalidCount.T E_InvalidCount.iC E_InvalidCount.tI E_InvalidCount.G (hr.mono (by decide)) E_InvalidCount.b pass0 (by rfl) E_InvalidCount.g (pa_cons (pv 0) pa_nil)) pa_nil))))))))
      (pss_cons (ps_set (i := 2) sc__law_made.nd rfl (by first | exact Or.inl rfl | exact Or.inr rfl) (pe_op op_cat (pv 2) (pe_lst (pa_cons (pe_mkV E_NotComparable.T E_NotComparable.iC E_NotComparable.tI E_NotComparable.G (hr.mono (by decide)) E_NotComparable.b pass0 (by rfl) E_NotComparable.g (pa_cons (pv 0) pa_nil)) (pa_cons (pe_mkV E_InvalidText.T E_InvalidText.iC E_InvalidText.tI E_InvalidText.G (hr.mono (by decide)) E_InvalidText.b pass0 (by rfl) E_InvalidText.g (pa_cons (pv 0) (pa_cons (pv 1) pa_nil))) (pa_cons (pe_mkV E_UnknownCommand.T E_UnknownCommand.iC E_UnknownCommand.tI E_UnknownCommand.G (hr.mono (by decide)) E_UnknownCommand.b pass0 (by rfl) E_UnknownCommand.g (pa_cons (pv 0) pa_nil)) (pa_cons (pe_mkV E_UnknownName.T E_UnknownName.iC E_UnknownName.tI E_UnknownName.G (hr.mono (by decide)) E_UnknownName.b pass0 (by rfl) E_UnknownName.g (pa_cons (pv 0) pa_nil)) (pa_cons (pe_mkV E_NoItem.T E_NoItem.iC E_NoItem.tI E_NoItem.G (hr.mono (by decide)) E_NoItem.b pass0 (by rfl) E_NoItem.g (pa_cons (pv 0) pa_nil)) pa_nil))))))))
      (pss_one (ps_ret (pe_op op_cat (pv 2) (pe_lst (pa_cons (pe_mkV E_TooMany.T E_TooMany.iC E_TooMany.tI E_TooMany.G (hr.mono (by decide)) E_TooMany.b pass0 (by rfl) E_TooMany.g (pa_cons (pv 0) pa_nil)) (pa_cons (pe_mkV E_NothingToUndo.T E_NothingToUndo.iC E_NothingToUndo.tI E_NothingToUndo.G (hr.mono (by decide)) E_NothingToUndo.b pass0 (by rfl) E_NothingToUndo.g (pa_cons (pv 0) pa_nil)) pa_nil))))))))), ?_⟩
    repeat walk_at "r"
    refine rd_mk0 fun v0 H0 s0 e0 => ?_
    repeat walk_at "r"
    refine mk1_at fun v1 H1 s1 e1 => ?_
    repeat walk_at "r"
    refine mk1_at fun v2 H2 s2 e2 => ?_
    repeat walk_at "r"
    refine mk2_at fun v3 H3 s3 e3 => ?_
    repeat walk_at "r"
    refine mk1_at fun v4 H4 s4 e4 => ?_
    repeat walk_at "r"
    refine new_lst (by show 5 ≤ sizeLine; decide) fun l0 G0 n0 t0 h0 => ?_
    repeat walk_at "r"
    refine mk1_at fun v5 H5 s5 e5 => ?_
    repeat walk_at "r"
    refine mk1_at fun v6 H6 s6 e6 => ?_
    repeat walk_at "r"
    refine mk1_at fun v7 H7 s7 e7 => ?_
    repeat walk_at "r"
    refine mk1_at fun v8 H8 s8 e8 => ?_
    repeat walk_at "r"
    refine mk1_at fun v9 H9 s9 e9 => ?_
    repeat walk_at "r"
    refine new_lst (by show 5 ≤ sizeLine; decide) fun l1 G1 n1 t1 h1 => ?_
    repeat walk_at "r"
    refine rd_cat ((s5.trans (s6.trans (s7.trans (s8.trans (s9.trans t1))))) _ _ h0) h1 (by simp) fun m1 M1 o1 u1 k1 => ?_
    repeat walk_at "r"
    refine mk1_at fun v10 H10 s10 e10 => ?_
    repeat walk_at "r"
    refine mk2_at fun v11 H11 s11 e11 => ?_
    repeat walk_at "r"
    refine mk1_at fun v12 H12 s12 e12 => ?_
    repeat walk_at "r"
    refine mk1_at fun v13 H13 s13 e13 => ?_
    repeat walk_at "r"
    refine mk1_at fun v14 H14 s14 e14 => ?_
    repeat walk_at "r"
    refine new_lst (by show 5 ≤ sizeLine; decide) fun l2 G2 n2 t2 h2 => ?_
    repeat walk_at "r"
    refine rd_cat ((s10.trans (s11.trans (s12.trans (s13.trans (s14.trans t2))))) _ _ k1) h2 (by simp) fun m2 M2 o2 u2 k2 => ?_
    repeat walk_at "r"
    refine mk1_at fun v15 H15 s15 e15 => ?_
    repeat walk_at "r"
    refine mk1_at fun v16 H16 s16 e16 => ?_
    repeat walk_at "r"
    refine new_lst (by show 2 ≤ sizeLine; decide) fun l3 G3 n3 t3 h3 => ?_
    repeat walk_at "r"
    refine rd_cat ((s15.trans (s16.trans t3)) _ _ k2) h3 (by simp) fun m3 M3 o3 u3 k3 => ?_
    repeat walk_at "r"
    have S : Same H M3 := s0.trans (s1.trans (s2.trans (s3.trans (s4.trans (t0.trans (s5.trans (s6.trans (s7.trans (s8.trans (s9.trans (t1.trans (u1.trans (s10.trans (s11.trans (s12.trans (s13.trans (s14.trans (t2.trans (u2.trans (s15.trans (s16.trans (t3.trans u3))))))))))))))))))))))
    have E0 := e0.keep (s1.trans (s2.trans (s3.trans (s4.trans (t0.trans (s5.trans (s6.trans (s7.trans (s8.trans (s9.trans (t1.trans (u1.trans (s10.trans (s11.trans (s12.trans (s13.trans (s14.trans (t2.trans (u2.trans (s15.trans (s16.trans (t3.trans u3))))))))))))))))))))))
    have E1 := e1.keep (s2.trans (s3.trans (s4.trans (t0.trans (s5.trans (s6.trans (s7.trans (s8.trans (s9.trans (t1.trans (u1.trans (s10.trans (s11.trans (s12.trans (s13.trans (s14.trans (t2.trans (u2.trans (s15.trans (s16.trans (t3.trans u3)))))))))))))))))))))
    have E2 := e2.keep (s3.trans (s4.trans (t0.trans (s5.trans (s6.trans (s7.trans (s8.trans (s9.trans (t1.trans (u1.trans (s10.trans (s11.trans (s12.trans (s13.trans (s14.trans (t2.trans (u2.trans (s15.trans (s16.trans (t3.trans u3))))))))))))))))))))
    have E3 := e3.keep (s4.trans (t0.trans (s5.trans (s6.trans (s7.trans (s8.trans (s9.trans (t1.trans (u1.trans (s10.trans (s11.trans (s12.trans (s13.trans (s14.trans (t2.trans (u2.trans (s15.trans (s16.trans (t3.trans u3)))))))))))))))))))
    have E4 := e4.keep (t0.trans (s5.trans (s6.trans (s7.trans (s8.trans (s9.trans (t1.trans (u1.trans (s10.trans (s11.trans (s12.trans (s13.trans (s14.trans (t2.trans (u2.trans (s15.trans (s16.trans (t3.trans u3))))))))))))))))))
    have E5 := e5.keep (s6.trans (s7.trans (s8.trans (s9.trans (t1.trans (u1.trans (s10.trans (s11.trans (s12.trans (s13.trans (s14.trans (t2.trans (u2.trans (s15.trans (s16.trans (t3.trans u3))))))))))))))))
    have E6 := e6.keep (s7.trans (s8.trans (s9.trans (t1.trans (u1.trans (s10.trans (s11.trans (s12.trans (s13.trans (s14.trans (t2.trans (u2.trans (s15.trans (s16.trans (t3.trans u3)))))))))))))))
    have E7 := e7.keep (s8.trans (s9.trans (t1.trans (u1.trans (s10.trans (s11.trans (s12.trans (s13.trans (s14.trans (t2.trans (u2.trans (s15.trans (s16.trans (t3.trans u3))))))))))))))
    have E8 := e8.keep (s9.trans (t1.trans (u1.trans (s10.trans (s11.trans (s12.trans (s13.trans (s14.trans (t2.trans (u2.trans (s15.trans (s16.trans (t3.trans u3)))))))))))))
    have E9 := e9.keep (t1.trans (u1.trans (s10.trans (s11.trans (s12.trans (s13.trans (s14.trans (t2.trans (u2.trans (s15.trans (s16.trans (t3.trans u3))))))))))))
    have E10 := e10.keep (s11.trans (s12.trans (s13.trans (s14.trans (t2.trans (u2.trans (s15.trans (s16.trans (t3.trans u3)))))))))
    have E11 := e11.keep (s12.trans (s13.trans (s14.trans (t2.trans (u2.trans (s15.trans (s16.trans (t3.trans u3))))))))
    have E12 := e12.keep (s13.trans (s14.trans (t2.trans (u2.trans (s15.trans (s16.trans (t3.trans u3)))))))
    have E13 := e13.keep (s14.trans (t2.trans (u2.trans (s15.trans (s16.trans (t3.trans u3))))))
    have E14 := e14.keep (t2.trans (u2.trans (s15.trans (s16.trans (t3.trans u3)))))
    have E15 := e15.keep (s16.trans (t3.trans u3))
    have E16 := e16.keep (t3.trans u3)
    refine k m3 M3 _ (gone_of (s0.trans (s1.trans (s2.trans (s3.trans (s4.trans (t0.trans (s5.trans (s6.trans (s7.trans (s8.trans (s9.trans (t1.trans (u1.trans (s10.trans (s11.trans (s12.trans (s13.trans (s14.trans (t2.trans (u2.trans (s15.trans (s16.trans t3)))))))))))))))))))))) o3) S k3 rfl (fun j v hj => ?_)
    match j, hj with
    | 0, z => cases z; exact ⟨by decide, fun _ => E0, fun z => absurd rfl z⟩
    | 1, z => cases z; exact ⟨by decide, (fun z => nomatch z), fun _ => E1⟩
    | 2, z => cases z; exact ⟨by decide, (fun z => nomatch z), fun _ => E2⟩
    | 3, z => cases z; exact ⟨by decide, (fun z => nomatch z), fun _ => E3⟩
    | 4, z => cases z; exact ⟨by decide, (fun z => nomatch z), fun _ => E4⟩
    | 5, z => cases z; exact ⟨by decide, (fun z => nomatch z), fun _ => E5⟩
    | 6, z => cases z; exact ⟨by decide, (fun z => nomatch z), fun _ => E6⟩
    | 7, z => cases z; exact ⟨by decide, (fun z => nomatch z), fun _ => E7⟩
    | 8, z => cases z; exact ⟨by decide, (fun z => nomatch z), fun _ => E8⟩
    | 9, z => cases z; exact ⟨by decide, (fun z => nomatch z), fun _ => E9⟩
    | 10, z => cases z; exact ⟨by decide, (fun z => nomatch z), fun _ => E10⟩
    | 11, z => cases z; exact ⟨by decide, (fun z => nomatch z), fun _ => E11⟩
    | 12, z => cases z; exact ⟨by decide, (fun z => nomatch z), fun _ => E12⟩
    | 13, z => cases z; exact ⟨by decide, (fun z => nomatch z), fun _ => E13⟩
    | 14, z => cases z; exact ⟨by decide, (fun z => nomatch z), fun _ => E14⟩
    | 15, z => cases z; exact ⟨by decide, (fun z => nomatch z), fun _ => E15⟩
    | 16, z => cases z; exact ⟨by decide, (fun z => nomatch z), fun _ => E16⟩
    | n + 17, z => exact absurd z (by simp)
/-- the pairs of the number k and the k-th class's exception -/
def PairAt (C : Nat → Addr) (H : Hp) (k : Nat) (t one two : V) : Prop := ∃ (T : Addr) (v : V), t = .ref T ∧ H T = some (.tup [.int (k : Nat), v]) ∧ Is01 C H k v one two
def spNamed (C : Nat → Addr) : Sp := fun vs H Q _ => ∃ one two : V, vs = [one, two] ∧ ∀ (p : Addr) (H' : Hp) (xs : List V), H p = none → Same H H' → H' p = some (.lst xs) → xs.length = 16 → (∀ j t, xs[j]? = some t → PairAt C H' (j + 1) t one two) → Q (.ref p) H'
theorem ok__law_named {f : Addr} {fd0 : FuncData} (F : Fun K "_law_named" "_law_named" s__law_named f fd0) (T : Tx K mg) (Z : Z01 P w K mg base C fI CN CM fd) : FnOk P w K mg base CX0 4 f fd0 ["_law_one", "_law_two"] (spNamed C) := by
  refine F.ok sc__law_named (fun vs H Q E h => ?_) (fun cdv A outer s H vs Q E hr h => ?_)
  · obtain ⟨one, two, rfl, _⟩ := h
    rfl
  · obtain ⟨one, two, rfl, k⟩ := h
    have E_NetError := Z.eN
    have E_MissingError := Z.eM
    have E_InvalidVector := Z.e0
    have E_InvalidBook := Z.e1
    have E_InvalidPart := Z.e2
    have E_InvalidNet := Z.e3
    have E_InvalidCourse := Z.e4
    have E_InvalidWeighting := Z.e5
    have E_InvalidDeed := Z.e6
    have E_InvalidItem := Z.e7
    have E_InvalidCosts := Z.e8
    have E_InvalidCount := Z.e9
    have E_NotComparable := Z.e10
    have E_InvalidText := Z.e11
    have E_UnknownCommand := Z.e12
    have E_UnknownName := Z.e13
    have E_NoItem := Z.e14
    have E_TooMany := Z.e15
    have E_NothingToUndo := Z.e16
    have kb_InvalidBook_reason := Z.kb1
    have kb_InvalidPart_reason := Z.kb2
    have kb_InvalidNet_name_reason := Z.kb3
    have kb_InvalidCourse_reason := Z.kb4
    have kb_InvalidWeighting_reason := Z.kb5
    have kb_InvalidDeed_reason := Z.kb6
    have kb_InvalidItem_index := Z.kb7
    have kb_InvalidCosts_name := Z.kb8
    have kb_InvalidCount_name := Z.kb9
    have kb_NotComparable_reason := Z.kb10
    have kb_InvalidText_word_line := Z.kb11
    have kb_UnknownCommand_word := Z.kb12
    have kb_UnknownName_name := Z.kb13
    have kb_NoItem_number := Z.kb14
    have kb_TooMany_limit := Z.kb15
    have kb_NothingToUndo_count := Z.kb16
    refine ⟨_, (pss_cons (ps_set (i := 2) sc__law_named.nd rfl (by first | exact Or.inl rfl | exact Or.inr rfl) (pe_lst (pa_cons (pe_tup (pa_cons pe_int (pa_cons (pe_mkN E_InvalidBook.T E_InvalidBook.iC E_InvalidBook.tI E_InvalidBook.G (hr.mono (by decide)) kb_InvalidBook_reason pass0 (by rfl) E_InvalidBook.g (pk_cons (pv 0) pk_nil)) pa_nil))) (pa_cons (pe_tup (pa_cons pe_int (pa_cons (pe_mkN E_InvalidPart.T E_InvalidPart.iC E_InvalidPart.tI E_InvalidPart.G (hr.mono (by decide)) kb_InvalidPart_reason pass0 (by rfl) E_InvalidPart.g (pk_cons (pv 0) pk_nil)) pa_nil))) (pa_cons (pe_tup (pa_cons pe_int (pa_cons (pe_mkN E_InvalidNet.T E_InvalidNet.iC E_InvalidNet.tI E_InvalidNet.G (hr.mono (by decide)) kb_InvalidNet_name_reason pass0 (by rfl) E_InvalidNet.g (pk_cons (pv 1) (pk_cons (pv 0) pk_nil))) pa_nil))) pa_nil)))))
      (pss_cons (ps_set (i := 2) sc__law_named.nd rfl (by first | exact Or.inl rfl | exact Or.inr rfl) (pe_op op_cat (pv 2) (pe_lst (pa_cons (pe_tup (pa_cons pe_int (pa_cons (pe_mkN E_InvalidCourse.T E_InvalidCourse.iC E_InvalidCourse.tI E_InvalidCourse.G (hr.mono (by decide)) kb_InvalidCourse_reason pass0 (by rfl) E_InvalidCourse.g (pk_cons (pv 0) pk_nil)) pa_nil))) (pa_cons (pe_tup (pa_cons pe_int (pa_cons (pe_mkN E_InvalidWeighting.T E_InvalidWeighting.iC E_InvalidWeighting.tI E_InvalidWeighting.G (hr.mono (by decide)) kb_InvalidWeighting_reason pass0 (by rfl) E_InvalidWeighting.g (pk_cons (pv 0) pk_nil)) pa_nil))) (pa_cons (pe_tup (pa_cons pe_int (pa_cons (pe_mkN E_InvalidDeed.T E_InvalidDeed.iC E_InvalidDeed.tI E_InvalidDeed.G (hr.mono (by decide)) kb_InvalidDeed_reason pass0 (by rfl) E_InvalidDeed.g (pk_cons (pv 0) pk_nil)) pa_nil))) pa_nil))))))
      (pss_cons (ps_set (i := 2) sc__law_named.nd rfl (by first | exact Or.inl rfl | exact Or.inr rfl) (pe_op op_cat (pv 2) (pe_lst (pa_cons (pe_tup (pa_cons pe_int (pa_cons (pe_mkN E_InvalidItem.T E_InvalidItem.iC E_InvalidItem.tI E_InvalidItem.G (hr.mono (by decide)) kb_InvalidItem_index pass0 (by rfl) E_InvalidItem.g (pk_cons (pv 0) pk_nil)) pa_nil))) (pa_cons (pe_tup (pa_cons pe_int (pa_cons (pe_mkN E_InvalidCosts.T E_InvalidCosts.iC E_InvalidCosts.tI E_InvalidCosts.G (hr.mono (by decide)) kb_InvalidCosts_name pass0 (by rfl) E_InvalidCosts.g (pk_cons (pv 0) pk_nil)) pa_nil))) (pa_cons (pe_tup (pa_cons pe_int (pa_cons (pe_mkN E_InvalidCount.T E_InvalidCount.iC E_InvalidCount.tI E_InvalidCount.G (hr.mono (by decide)) kb_InvalidCount_name pass0 (by rfl) E_InvalidCount.g (pk_cons (pv 0) pk_nil)) pa_nil))) pa_nil))))))
      (pss_cons (ps_set (i := 2) sc__law_named.nd rfl (by first | exact Or.inl rfl | exact Or.inr rfl) (pe_op op_cat (pv 2) (pe_lst (pa_cons (pe_tup (pa_cons pe_int (pa_cons (pe_mkN E_NotComparable.T E_NotComparable.iC E_NotComparable.tI E_NotComparable.G (hr.mono (by decide)) kb_NotComparable_reason pass0 (by rfl) E_NotComparable.g (pk_cons (pv 0) pk_nil)) pa_nil))) (pa_cons (pe_tup (pa_cons pe_int (pa_cons (pe_mkN E_InvalidText.T E_InvalidText.iC E_InvalidText.tI E_InvalidText.G (hr.mono (by decide)) kb_InvalidText_word_line pass0 (by rfl) E_InvalidText.g (pk_cons (pv 1) (pk_cons (pv 0) pk_nil))) pa_nil))) pa_nil)))))
      (pss_cons (ps_set (i := 2) sc__law_named.nd rfl (by first | exact Or.inl rfl | exact Or.inr rfl) (pe_op op_cat (pv 2) (pe_lst (pa_cons (pe_tup (pa_cons pe_int (pa_cons (pe_mkN E_UnknownCommand.T E_UnknownCommand.iC E_UnknownCommand.tI E_UnknownCommand.G (hr.mono (by decide)) kb_UnknownCommand_word pass0 (by rfl) E_UnknownCommand.g (pk_cons (pv 0) pk_nil)) pa_nil))) (pa_cons (pe_tup (pa_cons pe_int (pa_cons (pe_mkN E_UnknownName.T E_UnknownName.iC E_UnknownName.tI E_UnknownName.G (hr.mono (by decide)) kb_UnknownName_name pass0 (by rfl) E_UnknownName.g (pk_cons (pv 0) pk_nil)) pa_nil))) (pa_cons (pe_tup (pa_cons pe_int (pa_cons (pe_mkN E_NoItem.T E_NoItem.iC E_NoItem.tI E_NoItem.G (hr.mono (by decide)) kb_NoItem_number pass0 (by rfl) E_NoItem.g (pk_cons (pv 0) pk_nil)) pa_nil))) pa_nil))))))
      (pss_one (ps_ret (pe_op op_cat (pv 2) (pe_lst (pa_cons (pe_tup (pa_cons pe_int (pa_cons (pe_mkN E_TooMany.T E_TooMany.iC E_TooMany.tI E_TooMany.G (hr.mono (by decide)) kb_TooMany_limit pass0 (by rfl) E_TooMany.g (pk_cons (pv 0) pk_nil)) pa_nil))) (pa_cons (pe_tup (pa_cons pe_int (pa_cons (pe_mkN E_NothingToUndo.T E_NothingToUndo.iC E_NothingToUndo.tI E_NothingToUndo.G (hr.mono (by decide)) kb_NothingToUndo_count pass0 (by rfl) E_NothingToUndo.g (pk_cons (pv 0) pk_nil)) pa_nil))) pa_nil))))))))))), ?_⟩
    repeat walk_at "r"
    refine mkn1_at fun v1 H1 s1 e1 => ?_
    repeat walk_at "r"
    refine new_tup (by show 2 ≤ sizeLine; decide) fun p1 P1 q1 r1 x1 => ?_
    repeat walk_at "r"
    refine mkn1_at fun v2 H2 s2 e2 => ?_
    repeat walk_at "r"
    refine new_tup (by show 2 ≤ sizeLine; decide) fun p2 P2 q2 r2 x2 => ?_
    repeat walk_at "r"
    refine mkn2_at fun v3 H3 s3 e3 => ?_
    repeat walk_at "r"
    refine new_tup (by show 2 ≤ sizeLine; decide) fun p3 P3 q3 r3 x3 => ?_
    repeat walk_at "r"
    refine new_lst (by show 3 ≤ sizeLine; decide) fun l0 G0 n0 t0 h0 => ?_
    repeat walk_at "r"
    refine mkn1_at fun v4 H4 s4 e4 => ?_
    repeat walk_at "r"
    refine new_tup (by show 2 ≤ sizeLine; decide) fun p4 P4 q4 r4 x4 => ?_
    repeat walk_at "r"
    refine mkn1_at fun v5 H5 s5 e5 => ?_
    repeat walk_at "r"
    refine new_tup (by show 2 ≤ sizeLine; decide) fun p5 P5 q5 r5 x5 => ?_
    repeat walk_at "r"
    refine mkn1_at fun v6 H6 s6 e6 => ?_
    repeat walk_at "r"
    refine new_tup (by show 2 ≤ sizeLine; decide) fun p6 P6 q6 r6 x6 => ?_
    repeat walk_at "r"
    refine new_lst (by show 3 ≤ sizeLine; decide) fun l1 G1 n1 t1 h1 => ?_
    repeat walk_at "r"
    refine rd_cat ((s4.trans (r4.trans (s5.trans (r5.trans (s6.trans (r6.trans t1)))))) _ _ h0) h1 (by simp) fun m1 M1 o1 u1 k1 => ?_
    repeat walk_at "r"
    refine mkn1_at fun v7 H7 s7 e7 => ?_
    repeat walk_at "r"
    refine new_tup (by show 2 ≤ sizeLine; decide) fun p7 P7 q7 r7 x7 => ?_
    repeat walk_at "r"
    refine mkn1_at fun v8 H8 s8 e8 => ?_
    repeat walk_at "r"
    refine new_tup (by show 2 ≤ sizeLine; decide) fun p8 P8 q8 r8 x8 => ?_
    repeat walk_at "r"
    refine mkn1_at fun v9 H9 s9 e9 => ?_
    repeat walk_at "r"
    refine new_tup (by show 2 ≤ sizeLine; decide) fun p9 P9 q9 r9 x9 => ?_
    repeat walk_at "r"
    refine new_lst (by show 3 ≤ sizeLine; decide) fun l2 G2 n2 t2 h2 => ?_
    repeat walk_at "r"
    refine rd_cat ((s7.trans (r7.trans (s8.trans (r8.trans (s9.trans (r9.trans t2)))))) _ _ k1) h2 (by simp) fun m2 M2 o2 u2 k2 => ?_
    repeat walk_at "r"
    refine mkn1_at fun v10 H10 s10 e10 => ?_
    repeat walk_at "r"
    refine new_tup (by show 2 ≤ sizeLine; decide) fun p10 P10 q10 r10 x10 => ?_
    repeat walk_at "r"
    refine mkn2_at fun v11 H11 s11 e11 => ?_
    repeat walk_at "r"
    refine new_tup (by show 2 ≤ sizeLine; decide) fun p11 P11 q11 r11 x11 => ?_
    repeat walk_at "r"
    refine new_lst (by show 2 ≤ sizeLine; decide) fun l3 G3 n3 t3 h3 => ?_
    repeat walk_at "r"
    refine rd_cat ((s10.trans (r10.trans (s11.trans (r11.trans t3)))) _ _ k2) h3 (by simp) fun m3 M3 o3 u3 k3 => ?_
    repeat walk_at "r"
    refine mkn1_at fun v12 H12 s12 e12 => ?_
    repeat walk_at "r"
    refine new_tup (by show 2 ≤ sizeLine; decide) fun p12 P12 q12 r12 x12 => ?_
    repeat walk_at "r"
    refine mkn1_at fun v13 H13 s13 e13 => ?_
    repeat walk_at "r"
    refine new_tup (by show 2 ≤ sizeLine; decide) fun p13 P13 q13 r13 x13 => ?_
    repeat walk_at "r"
    refine mkn1_at fun v14 H14 s14 e14 => ?_
    repeat walk_at "r"
    refine new_tup (by show 2 ≤ sizeLine; decide) fun p14 P14 q14 r14 x14 => ?_
    repeat walk_at "r"
    refine new_lst (by show 3 ≤ sizeLine; decide) fun l4 G4 n4 t4 h4 => ?_
    repeat walk_at "r"
    refine rd_cat ((s12.trans (r12.trans (s13.trans (r13.trans (s14.trans (r14.trans t4)))))) _ _ k3) h4 (by simp) fun m4 M4 o4 u4 k4 => ?_
    repeat walk_at "r"
    refine mkn1_at fun v15 H15 s15 e15 => ?_
    repeat walk_at "r"
    refine new_tup (by show 2 ≤ sizeLine; decide) fun p15 P15 q15 r15 x15 => ?_
    repeat walk_at "r"
    refine mkn1_at fun v16 H16 s16 e16 => ?_
    repeat walk_at "r"
    refine new_tup (by show 2 ≤ sizeLine; decide) fun p16 P16 q16 r16 x16 => ?_
    repeat walk_at "r"
    refine new_lst (by show 2 ≤ sizeLine; decide) fun l5 G5 n5 t5 h5 => ?_
    repeat walk_at "r"
    refine rd_cat ((s15.trans (r15.trans (s16.trans (r16.trans t5)))) _ _ k4) h5 (by simp) fun m5 M5 o5 u5 k5 => ?_
    repeat walk_at "r"
    have S : Same H M5 := s1.trans (r1.trans (s2.trans (r2.trans (s3.trans (r3.trans (t0.trans (s4.trans (r4.trans (s5.trans (r5.trans (s6.trans (r6.trans (t1.trans (u1.trans (s7.trans (r7.trans (s8.trans (r8.trans (s9.trans (r9.trans (t2.trans (u2.trans (s10.trans (r10.trans (s11.trans (r11.trans (t3.trans (u3.trans (s12.trans (r12.trans (s13.trans (r13.trans (s14.trans (r14.trans (t4.trans (u4.trans (s15.trans (r15.trans (s16.trans (r16.trans (t5.trans u5)))))))))))))))))))))))))))))))))))))))))
    have E1 := e1.keep (r1.trans (s2.trans (r2.trans (s3.trans (r3.trans (t0.trans (s4.trans (r4.trans (s5.trans (r5.trans (s6.trans (r6.trans (t1.trans (u1.trans (s7.trans (r7.trans (s8.trans (r8.trans (s9.trans (r9.trans (t2.trans (u2.trans (s10.trans (r10.trans (s11.trans (r11.trans (t3.trans (u3.trans (s12.trans (r12.trans (s13.trans (r13.trans (s14.trans (r14.trans (t4.trans (u4.trans (s15.trans (r15.trans (s16.trans (r16.trans (t5.trans u5)))))))))))))))))))))))))))))))))))))))))
    have X1 := (s2.trans (r2.trans (s3.trans (r3.trans (t0.trans (s4.trans (r4.trans (s5.trans (r5.trans (s6.trans (r6.trans (t1.trans (u1.trans (s7.trans (r7.trans (s8.trans (r8.trans (s9.trans (r9.trans (t2.trans (u2.trans (s10.trans (r10.trans (s11.trans (r11.trans (t3.trans (u3.trans (s12.trans (r12.trans (s13.trans (r13.trans (s14.trans (r14.trans (t4.trans (u4.trans (s15.trans (r15.trans (s16.trans (r16.trans (t5.trans u5)))))))))))))))))))))))))))))))))))))))) _ _ x1
    have E2 := e2.keep (r2.trans (s3.trans (r3.trans (t0.trans (s4.trans (r4.trans (s5.trans (r5.trans (s6.trans (r6.trans (t1.trans (u1.trans (s7.trans (r7.trans (s8.trans (r8.trans (s9.trans (r9.trans (t2.trans (u2.trans (s10.trans (r10.trans (s11.trans (r11.trans (t3.trans (u3.trans (s12.trans (r12.trans (s13.trans (r13.trans (s14.trans (r14.trans (t4.trans (u4.trans (s15.trans (r15.trans (s16.trans (r16.trans (t5.trans u5)))))))))))))))))))))))))))))))))))))))
    have X2 := (s3.trans (r3.trans (t0.trans (s4.trans (r4.trans (s5.trans (r5.trans (s6.trans (r6.trans (t1.trans (u1.trans (s7.trans (r7.trans (s8.trans (r8.trans (s9.trans (r9.trans (t2.trans (u2.trans (s10.trans (r10.trans (s11.trans (r11.trans (t3.trans (u3.trans (s12.trans (r12.trans (s13.trans (r13.trans (s14.trans (r14.trans (t4.trans (u4.trans (s15.trans (r15.trans (s16.trans (r16.trans (t5.trans u5)))))))))))))))))))))))))))))))))))))) _ _ x2
    have E3 := e3.keep (r3.trans (t0.trans (s4.trans (r4.trans (s5.trans (r5.trans (s6.trans (r6.trans (t1.trans (u1.trans (s7.trans (r7.trans (s8.trans (r8.trans (s9.trans (r9.trans (t2.trans (u2.trans (s10.trans (r10.trans (s11.trans (r11.trans (t3.trans (u3.trans (s12.trans (r12.trans (s13.trans (r13.trans (s14.trans (r14.trans (t4.trans (u4.trans (s15.trans (r15.trans (s16.trans (r16.trans (t5.trans u5)))))))))))))))))))))))))))))))))))))
    have X3 := (t0.trans (s4.trans (r4.trans (s5.trans (r5.trans (s6.trans (r6.trans (t1.trans (u1.trans (s7.trans (r7.trans (s8.trans (r8.trans (s9.trans (r9.trans (t2.trans (u2.trans (s10.trans (r10.trans (s11.trans (r11.trans (t3.trans (u3.trans (s12.trans (r12.trans (s13.trans (r13.trans (s14.trans (r14.trans (t4.trans (u4.trans (s15.trans (r15.trans (s16.trans (r16.trans (t5.trans u5)))))))))))))))))))))))))))))))))))) _ _ x3
    have E4 := e4.keep (r4.trans (s5.trans (r5.trans (s6.trans (r6.trans (t1.trans (u1.trans (s7.trans (r7.trans (s8.trans (r8.trans (s9.trans (r9.trans (t2.trans (u2.trans (s10.trans (r10.trans (s11.trans (r11.trans (t3.trans (u3.trans (s12.trans (r12.trans (s13.trans (r13.trans (s14.trans (r14.trans (t4.trans (u4.trans (s15.trans (r15.trans (s16.trans (r16.trans (t5.trans u5))))))))))))))))))))))))))))))))))
    have X4 := (s5.trans (r5.trans (s6.trans (r6.trans (t1.trans (u1.trans (s7.trans (r7.trans (s8.trans (r8.trans (s9.trans (r9.trans (t2.trans (u2.trans (s10.trans (r10.trans (s11.trans (r11.trans (t3.trans (u3.trans (s12.trans (r12.trans (s13.trans (r13.trans (s14.trans (r14.trans (t4.trans (u4.trans (s15.trans (r15.trans (s16.trans (r16.trans (t5.trans u5))))))))))))))))))))))))))))))))) _ _ x4
    have E5 := e5.keep (r5.trans (s6.trans (r6.trans (t1.trans (u1.trans (s7.trans (r7.trans (s8.trans (r8.trans (s9.trans (r9.trans (t2.trans (u2.trans (s10.trans (r10.trans (s11.trans (r11.trans (t3.trans (u3.trans (s12.trans (r12.trans (s13.trans (r13.trans (s14.trans (r14.trans (t4.trans (u4.trans (s15.trans (r15.trans (s16.trans (r16.trans (t5.trans u5))))))))))))))))))))))))))))))))
    have X5 := (s6.trans (r6.trans (t1.trans (u1.trans (s7.trans (r7.trans (s8.trans (r8.trans (s9.trans (r9.trans (t2.trans (u2.trans (s10.trans (r10.trans (s11.trans (r11.trans (t3.trans (u3.trans (s12.trans (r12.trans (s13.trans (r13.trans (s14.trans (r14.trans (t4.trans (u4.trans (s15.trans (r15.trans (s16.trans (r16.trans (t5.trans u5))))))))))))))))))))))))))))))) _ _ x5
    have E6 := e6.keep (r6.trans (t1.trans (u1.trans (s7.trans (r7.trans (s8.trans (r8.trans (s9.trans (r9.trans (t2.trans (u2.trans (s10.trans (r10.trans (s11.trans (r11.trans (t3.trans (u3.trans (s12.trans (r12.trans (s13.trans (r13.trans (s14.trans (r14.trans (t4.trans (u4.trans (s15.trans (r15.trans (s16.trans (r16.trans (t5.trans u5))))))))))))))))))))))))))))))
    have X6 := (t1.trans (u1.trans (s7.trans (r7.trans (s8.trans (r8.trans (s9.trans (r9.trans (t2.trans (u2.trans (s10.trans (r10.trans (s11.trans (r11.trans (t3.trans (u3.trans (s12.trans (r12.trans (s13.trans (r13.trans (s14.trans (r14.trans (t4.trans (u4.trans (s15.trans (r15.trans (s16.trans (r16.trans (t5.trans u5))))))))))))))))))))))))))))) _ _ x6
    have E7 := e7.keep (r7.trans (s8.trans (r8.trans (s9.trans (r9.trans (t2.trans (u2.trans (s10.trans (r10.trans (s11.trans (r11.trans (t3.trans (u3.trans (s12.trans (r12.trans (s13.trans (r13.trans (s14.trans (r14.trans (t4.trans (u4.trans (s15.trans (r15.trans (s16.trans (r16.trans (t5.trans u5))))))))))))))))))))))))))
    have X7 := (s8.trans (r8.trans (s9.trans (r9.trans (t2.trans (u2.trans (s10.trans (r10.trans (s11.trans (r11.trans (t3.trans (u3.trans (s12.trans (r12.trans (s13.trans (r13.trans (s14.trans (r14.trans (t4.trans (u4.trans (s15.trans (r15.trans (s16.trans (r16.trans (t5.trans u5))))))))))))))))))))))))) _ _ x7
    have E8 := e8.keep (r8.trans (s9.trans (r9.trans (t2.trans (u2.trans (s10.trans (r10.trans (s11.trans (r11.trans (t3.trans (u3.trans (s12.trans (r12.trans (s13.trans (r13.trans (s14.trans (r14.trans (t4.trans (u4.trans (s15.trans (r15.trans (s16.trans (r16.trans (t5.trans u5))))))))))))))))))))))))
    have X8 := (s9.trans (r9.trans (t2.trans (u2.trans (s10.trans (r10.trans (s11.trans (r11.trans (t3.trans (u3.trans (s12.trans (r12.trans (s13.trans (r13.trans (s14.trans (r14.trans (t4.trans (u4.trans (s15.trans (r15.trans (s16.trans (r16.trans (t5.trans u5))))))))))))))))))))))) _ _ x8
    have E9 := e9.keep (r9.trans (t2.trans (u2.trans (s10.trans (r10.trans (s11.trans (r11.trans (t3.trans (u3.trans (s12.trans (r12.trans (s13.trans (r13.trans (s14.trans (r14.trans (t4.trans (u4.trans (s15.trans (r15.trans (s16.trans (r16.trans (t5.trans u5))))))))))))))))))))))
    have X9 := (t2.trans (u2.trans (s10.trans (r10.trans (s11.trans (r11.trans (t3.trans (u3.trans (s12.trans (r12.trans (s13.trans (r13.trans (s14.trans (r14.trans (t4.trans (u4.trans (s15.trans (r15.trans (s16.trans (r16.trans (t5.trans u5))))))))))))))))))))) _ _ x9
    have E10 := e10.keep (r10.trans (s11.trans (r11.trans (t3.trans (u3.trans (s12.trans (r12.trans (s13.trans (r13.trans (s14.trans (r14.trans (t4.trans (u4.trans (s15.trans (r15.trans (s16.trans (r16.trans (t5.trans u5))))))))))))))))))
    have X10 := (s11.trans (r11.trans (t3.trans (u3.trans (s12.trans (r12.trans (s13.trans (r13.trans (s14.trans (r14.trans (t4.trans (u4.trans (s15.trans (r15.trans (s16.trans (r16.trans (t5.trans u5))))))))))))))))) _ _ x10
    have E11 := e11.keep (r11.trans (t3.trans (u3.trans (s12.trans (r12.trans (s13.trans (r13.trans (s14.trans (r14.trans (t4.trans (u4.trans (s15.trans (r15.trans (s16.trans (r16.trans (t5.trans u5))))))))))))))))
    have X11 := (t3.trans (u3.trans (s12.trans (r12.trans (s13.trans (r13.trans (s14.trans (r14.trans (t4.trans (u4.trans (s15.trans (r15.trans (s16.trans (r16.trans (t5.trans u5))))))))))))))) _ _ x11
    have E12 := e12.keep (r12.trans (s13.trans (r13.trans (s14.trans (r14.trans (t4.trans (u4.trans (s15.trans (r15.trans (s16.trans (r16.trans (t5.trans u5))))))))))))
    have X12 := (s13.trans (r13.trans (s14.trans (r14.trans (t4.trans (u4.trans (s15.trans (r15.trans (s16.trans (r16.trans (t5.trans u5))))))))))) _ _ x12
    have E13 := e13.keep (r13.trans (s14.trans (r14.trans (t4.trans (u4.trans (s15.trans (r15.trans (s16.trans (r16.trans (t5.trans u5))))))))))
    have X13 := (s14.trans (r14.trans (t4.trans (u4.trans (s15.trans (r15.trans (s16.trans (r16.trans (t5.trans u5))))))))) _ _ x13
    have E14 := e14.keep (r14.trans (t4.trans (u4.trans (s15.trans (r15.trans (s16.trans (r16.trans (t5.trans u5))))))))
    have X14 := (t4.trans (u4.trans (s15.trans (r15.trans (s16.trans (r16.trans (t5.trans u5))))))) _ _ x14
    have E15 := e15.keep (r15.trans (s16.trans (r16.trans (t5.trans u5))))
    have X15 := (s16.trans (r16.trans (t5.trans u5))) _ _ x15
    have E16 := e16.keep (r16.trans (t5.trans u5))
    have X16 := (t5.trans u5) _ _ x16
    refine k m5 M5 _ (gone_of (s1.trans (r1.trans (s2.trans (r2.trans (s3.trans (r3.trans (t0.trans (s4.trans (r4.trans (s5.trans (r5.trans (s6.trans (r6.trans (t1.trans (u1.trans (s7.trans (r7.trans (s8.trans (r8.trans (s9.trans (r9.trans (t2.trans (u2.trans (s10.trans (r10.trans (s11.trans (r11.trans (t3.trans (u3.trans (s12.trans (r12.trans (s13.trans (r13.trans (s14.trans (r14.trans (t4.trans (u4.trans (s15.trans (r15.trans (s16.trans (r16.trans t5))))))))))))))))))))))))))))))))))))))))) o5) S k5 rfl (fun j t hj => ?_)
    match j, hj with
    | 0, z => cases z; exact ⟨p1, v1, rfl, X1, ⟨by decide, (fun z => nomatch z), fun _ => E1⟩⟩
    | 1, z => cases z; exact ⟨p2, v2, rfl, X2, ⟨by decide, (fun z => nomatch z), fun _ => E2⟩⟩
    | 2, z => cases z; exact ⟨p3, v3, rfl, X3, ⟨by decide, (fun z => nomatch z), fun _ => E3⟩⟩
    | 3, z => cases z; exact ⟨p4, v4, rfl, X4, ⟨by decide, (fun z => nomatch z), fun _ => E4⟩⟩
    | 4, z => cases z; exact ⟨p5, v5, rfl, X5, ⟨by decide, (fun z => nomatch z), fun _ => E5⟩⟩
    | 5, z => cases z; exact ⟨p6, v6, rfl, X6, ⟨by decide, (fun z => nomatch z), fun _ => E6⟩⟩
    | 6, z => cases z; exact ⟨p7, v7, rfl, X7, ⟨by decide, (fun z => nomatch z), fun _ => E7⟩⟩
    | 7, z => cases z; exact ⟨p8, v8, rfl, X8, ⟨by decide, (fun z => nomatch z), fun _ => E8⟩⟩
    | 8, z => cases z; exact ⟨p9, v9, rfl, X9, ⟨by decide, (fun z => nomatch z), fun _ => E9⟩⟩
    | 9, z => cases z; exact ⟨p10, v10, rfl, X10, ⟨by decide, (fun z => nomatch z), fun _ => E10⟩⟩
    | 10, z => cases z; exact ⟨p11, v11, rfl, X11, ⟨by decide, (fun z => nomatch z), fun _ => E11⟩⟩
    | 11, z => cases z; exact ⟨p12, v12, rfl, X12, ⟨by decide, (fun z => nomatch z), fun _ => E12⟩⟩
    | 12, z => cases z; exact ⟨p13, v13, rfl, X13, ⟨by decide, (fun z => nomatch z), fun _ => E13⟩⟩
    | 13, z => cases z; exact ⟨p14, v14, rfl, X14, ⟨by decide, (fun z => nomatch z), fun _ => E14⟩⟩
    | 14, z => cases z; exact ⟨p15, v15, rfl, X15, ⟨by decide, (fun z => nomatch z), fun _ => E15⟩⟩
    | 15, z => cases z; exact ⟨p16, v16, rfl, X16, ⟨by decide, (fun z => nomatch z), fun _ => E16⟩⟩
    | n + 16, z => exact absurd z (by simp)
end

end My

namespace My
open PySem PySem.Spec PyProof.Rows L2 EE

local macro_rules | `(tactic| walk_at "sq") => `(tactic| first | assumption | exact sqL_of (by assumption) | exact sqT_of (by assumption))
local macro_rules | `(tactic| walk_at "r") => `(tactic| first
  | ((with_reducible show tVar _ _ _ _); refine ⟨_, rfl, ?_⟩)
  | (with_reducible refine rd_c ?_)
  | (with_reducible refine rd_op ?_)
  | (with_reducible refine rd_yes ?_)
  | (with_reducible refine iteT ?_)
  | (with_reducible refine iteF ?_)
  | (with_reducible refine iteNT ?_)
  | (with_reducible refine iteNF ?_)
  | (with_reducible refine rd_seq ?_)
  | (with_reducible refine rd_asg ?_)
  | (with_reducible refine rd_name ?_)
  | (with_reducible refine rd_ret ?_)
  | (with_reducible refine rd_retN ?_)
  | (with_reducible refine rd_drop ?_)
  | (with_reducible refine rd_next ?_)
  | (with_reducible refine rd_ifS ?_)
  | (with_reducible refine rd_ifE ?_)
  | (with_reducible refine rd_test ?_)
  | (with_reducible refine rd_B ?_)
  | (with_reducible refine rd_and ?_)
  | (with_reducible refine rd_or ?_)
  | (with_reducible refine rd_not ?_)
  | (with_reducible refine rd_andV ?_)
  | (with_reducible refine rd_orV ?_)
  | (with_reducible refine rd_notV ?_)
  | (with_reducible refine rd_nil ?_)
  | (with_reducible refine rd_cons ?_)
  | (with_reducible refine rd_call ?_)
  | (with_reducible refine rd_CB ?_)
  | (with_reducible refine rd_chain ?_)
  | (with_reducible refine rd_gsub ?_)
  | (with_reducible refine rd_part ?_)
  | (with_reducible refine rd_noPart ?_)
  | (with_reducible refine rd_sl ?_)
  | (with_reducible refine rd_tup ?_)
  | (with_reducible refine rd_lst ?_)
  | (with_reducible refine rd_bl ?_)
  | (with_reducible refine rd_exI ?_)
  | (with_reducible refine rd_exIs ?_)
  | (with_reducible refine rd_exR ?_)
  | (with_reducible refine rd_iRng1 ?_)
  | (with_reducible refine rd_iRng2 ?_)
  | (with_reducible refine rd_iList ?_)
  | (with_reducible refine rd_iTup ?_)
  | (with_reducible refine rd_callN ?_)
  | (with_reducible refine rd_pnil ?_)
  | (with_reducible refine rd_pcons ?_)
  | (with_reducible refine rd_exS ?_)
  | (with_reducible refine rd_isS ?_)
  | (with_reducible refine rd_add ?_)
  | (with_reducible refine rd_sub ?_)
  | (with_reducible refine rd_lt ?_)
  | (with_reducible refine rd_le ?_)
  | (with_reducible refine rd_gt ?_)
  | (with_reducible refine rd_ge ?_)
  | (with_reducible refine rd_eqI ?_)
  | (with_reducible refine rd_neI ?_)
  | (with_reducible refine rd_eqS ?_)
  | (with_reducible refine rd_neS ?_)
  | (with_reducible refine rd_mul ?_ ?_)
  | (with_reducible refine rd_mod ?_ ?_)
  | (with_reducible refine rd_fdiv ?_ ?_)
  | (with_reducible refine rd_pow ?_ ?_)
  | (with_reducible refine rd_int1 ?_)
  | (with_reducible refine rd_int1b ?_)
  | (with_reducible refine rd_abs ?_)
  | (with_reducible refine rd_strI ?_ ?_)
  | (with_reducible refine rd_addS ?_ ?_)
  | (with_reducible refine rd_inS ?_)
  | (with_reducible refine rd_notInS ?_)
  | (with_reducible refine rd_isN ?_)
  | (with_reducible refine rd_notN ?_)
  | (with_reducible refine rd_lenS ?_ ?_)
  | (with_reducible refine rd_slS ?_ ?_)
  | (with_reducible refine rd_lc ?_)
  | (with_reducible refine rd_for ?_)
  | (with_reducible refine rd_iStr ?_)
  | (with_reducible refine rd_M1 ?_)
  | (with_reducible refine rd_M0 ?_)
  | (with_reducible refine rd_un ?_)
  | (with_reducible refine rd_neg ?_)
  | (with_reducible refine rd_stx ?_)
  | (with_reducible refine rd_par ?_)
  | (with_reducible refine rd_exP ?_)
  | (with_reducible refine rd_neB ?_)
  | (with_reducible refine rd_gcons ?_)
  | (with_reducible refine rd_gnil ?_)
  | (with_reducible refine rd_mkV ?_)
  | (with_reducible refine rd_mkN ?_)
  | (with_reducible refine rd_lenum ?_)
  | (with_reducible refine rd_xvA ?_)
  | (with_reducible refine rd_bm ?_))

section
variable {P : Program} {w : World} {K : PySem.W.Frag} {mg : Str → Option Value} {base : Heap} {C fI : Nat → Addr} {CN CM : Addr} {fd : Nat → FuncData}
theorem Z01.T (Z : Z01 P w K mg base C fI CN CM fd) : ∀ k, k < 17 → ExK K (C k)
  | 0, _ => Z.e0.T
  | 1, _ => Z.e1.T
  | 2, _ => Z.e2.T
  | 3, _ => Z.e3.T
  | 4, _ => Z.e4.T
  | 5, _ => Z.e5.T
  | 6, _ => Z.e6.T
  | 7, _ => Z.e7.T
  | 8, _ => Z.e8.T
  | 9, _ => Z.e9.T
  | 10, _ => Z.e10.T
  | 11, _ => Z.e11.T
  | 12, _ => Z.e12.T
  | 13, _ => Z.e13.T
  | 14, _ => Z.e14.T
  | 15, _ => Z.e15.T
  | 16, _ => Z.e16.T
  | n + 17, h => absurd h (by omega)
def spFields (C : Nat → Addr) : Sp := fun vs H Q _ => ∃ (k : Nat) (v one two : V), vs = [.int (k : Nat), v] ∧ Is01 C H k v one two ∧ ∀ (p : Addr) (H' : Hp), H p = none → Same H H' → H' p = some (.lst (due01 k one two)) → Q (.ref p) H'
/-- a class of one field f -/
theorem one_at (Z : Z01 P w K mg base C fI CN CM fd) {H : Hp} {k : Nat} {v one two : V} (h : Is01 C H k v one two) (k0 : k ≠ 0) {f : Str} (e : fs01 k one two = [(f, one)]) (n : PySem.W.findIn K (.ref (C k)) f = some none) (Q : VK) (q : Q one H) : XvAt K f v H Q := by
  have x := h.2.2 k0
  rw [e] at x
  exact xv_at x (Z.T k h.1) n (by simp) q
theorem two_at1 (Z : Z01 P w K mg base C fI CN CM fd) {H : Hp} {k : Nat} {v one two : V} (h : Is01 C H k v one two) (k0 : k ≠ 0) {f g : Str} (e : fs01 k one two = [(g, two), (f, one)]) (ne : (g == f) = false) (ne2 : (f == g) = false) (n : PySem.W.findIn K (.ref (C k)) f = some none) (Q : VK) (q : Q one H) : XvAt K f v H Q := by
  have x := h.2.2 k0
  rw [e] at x
  exact xv_at x (Z.T k h.1) n (by simp [List.lookup, ne, ne2]) q
theorem two_at2 (Z : Z01 P w K mg base C fI CN CM fd) {H : Hp} {k : Nat} {v one two : V} (h : Is01 C H k v one two) (k0 : k ≠ 0) {f g : Str} (e : fs01 k one two = [(g, two), (f, one)]) (n : PySem.W.findIn K (.ref (C k)) g = some none) (Q : VK) (q : Q two H) : XvAt K g v H Q := by
  have x := h.2.2 k0
  rw [e] at x
  exact xv_at x (Z.T k h.1) n (by simp) q
theorem ok__law_fields {f : Addr} {fd0 : FuncData} (F : Fun K "_law_fields" "_law_fields" s__law_fields f fd0) (T : Tx K mg) (Z : Z01 P w K mg base C fI CN CM fd) : FnOk P w K mg base CX0 2 f fd0 ["_law_k", "_law_caught"] (spFields C) := by
  refine F.ok sc__law_fields (fun vs H Q E h => ?_) (fun cdv A outer s H vs Q E hr h => ?_)
  · obtain ⟨k, v, one, two, rfl, _⟩ := h
    rfl
  · obtain ⟨k, v, one, two, rfl, hv, q⟩ := h
    have k17 := hv.1
    refine ⟨_, (pss_cons (ps_if (pt_cmpR op_in_seq (pv 0) (pe_tup (pa_cons pe_int (pa_cons pe_int (pa_cons pe_int (pa_cons pe_int (pa_cons pe_int (pa_cons pe_int pa_nil))))))) rfl) (pss_one (ps_ret (pe_lst (pa_cons (pe_xv (pv 1)) pa_nil)))) pss_nil)
      (pss_cons (ps_if (pt_cmpR op_in_seq (pv 0) (pe_tup (pa_cons pe_int (pa_cons pe_int (pa_cons pe_int pa_nil)))) rfl) (pss_one (ps_ret (pe_lst (pa_cons (pe_xv (pv 1)) pa_nil)))) pss_nil)
      (pss_cons (ps_if (pt_cmpR op_eq (pv 0) pe_int (nomark _)) (pss_one (ps_ret (pe_lst (pa_cons (pe_xv (pv 1)) (pa_cons (pe_xv (pv 1)) pa_nil))))) pss_nil)
      (pss_cons (ps_if (pt_cmpR op_eq (pv 0) pe_int (nomark _)) (pss_one (ps_ret (pe_lst (pa_cons (pe_xv (pv 1)) pa_nil)))) pss_nil)
      (pss_cons (ps_if (pt_cmpR op_eq (pv 0) pe_int (nomark _)) (pss_one (ps_ret (pe_lst (pa_cons (pe_xv (pv 1)) (pa_cons (pe_xv (pv 1)) pa_nil))))) pss_nil)
      (pss_cons (ps_if (pt_cmpR op_eq (pv 0) pe_int (nomark _)) (pss_one (ps_ret (pe_lst (pa_cons (pe_xv (pv 1)) pa_nil)))) pss_nil)
      (pss_cons (ps_if (pt_cmpR op_eq (pv 0) pe_int (nomark _)) (pss_one (ps_ret (pe_lst (pa_cons (pe_xv (pv 1)) pa_nil)))) pss_nil)
      (pss_cons (ps_if (pt_cmpR op_eq (pv 0) pe_int (nomark _)) (pss_one (ps_ret (pe_lst (pa_cons (pe_xv (pv 1)) pa_nil)))) pss_nil)
      (pss_one (ps_ret (pe_ifExp (pt_cmpR op_eq (pv 0) pe_int (nomark _)) (pe_lst (pa_cons (pe_xv (pv 1)) pa_nil)) (pe_lst pa_nil)))))))))))), ?_⟩
    repeat walk_at "r"
    refine new_tup (by show 6 ≤ sizeLine; decide) fun t1 H1 n1 s1 h1 => ?_
    repeat walk_at "r"
    refine rd_inI [1, 2, 4, 5, 6, 10] h1 ?_
    repeat walk_at "r"
    refine rd_dec (fun c => ?_) (fun c => ?_)
    · simp only [List.mem_cons, List.not_mem_nil, or_false] at c
      obtain ⟨k0, hfs, hno, hdu⟩ : k ≠ 0 ∧ fs01 k one two = [(("reason" : Str), one)] ∧ PySem.W.findIn K (.ref (C k)) "reason" = some none ∧ due01 k one two = [one] := by
        rcases c with c | c | c | c | c | c <;> (obtain rfl : k = _ := Int.ofNat.inj c)
        · exact ⟨by decide, rfl, Z.e1.n _ (by simp), rfl⟩
        · exact ⟨by decide, rfl, Z.e2.n _ (by simp), rfl⟩
        · exact ⟨by decide, rfl, Z.e4.n _ (by simp), rfl⟩
        · exact ⟨by decide, rfl, Z.e5.n _ (by simp), rfl⟩
        · exact ⟨by decide, rfl, Z.e6.n _ (by simp), rfl⟩
        · exact ⟨by decide, rfl, Z.e10.n _ (by simp), rfl⟩
      repeat walk_at "r"
      refine one_at Z (hv.keep s1) k0 hfs hno _ ?_
      repeat walk_at "r"
      refine new_lst (by show 1 ≤ sizeLine; decide) fun l2 H2 n2 s2 h2 => ?_
      repeat walk_at "r"
      exact q l2 H2 (gone_of s1 n2) (s1.trans s2) (by rw [hdu]; exact h2)
    · simp only [List.mem_cons, List.not_mem_nil, or_false, not_or] at c
      repeat walk_at "r"
      refine new_tup (by show 3 ≤ sizeLine; decide) fun t3 H3 n3 s3 h3 => ?_
      have S3 := s1.trans s3
      repeat walk_at "r"
      refine rd_inI [8, 9, 13] h3 ?_
      repeat walk_at "r"
      refine rd_dec (fun d => ?_) (fun d => ?_)
      · simp only [List.mem_cons, List.not_mem_nil, or_false] at d
        obtain ⟨k0, hfs, hno, hdu⟩ : k ≠ 0 ∧ fs01 k one two = [(("name" : Str), one)] ∧ PySem.W.findIn K (.ref (C k)) "name" = some none ∧ due01 k one two = [one] := by
          rcases d with d | d | d <;> (obtain rfl : k = _ := Int.ofNat.inj d)
          · exact ⟨by decide, rfl, Z.e8.n _ (by simp), rfl⟩
          · exact ⟨by decide, rfl, Z.e9.n _ (by simp), rfl⟩
          · exact ⟨by decide, rfl, Z.e13.n _ (by simp), rfl⟩
        repeat walk_at "r"
        refine one_at Z (hv.keep S3) k0 hfs hno _ ?_
        repeat walk_at "r"
        refine new_lst (by show 1 ≤ sizeLine; decide) fun l2 H2 n2 s2 h2 => ?_
        repeat walk_at "r"
        exact q l2 H2 (gone_of S3 n2) (S3.trans s2) (by rw [hdu]; exact h2)
      · simp only [List.mem_cons, List.not_mem_nil, or_false, not_or] at d
        repeat walk_at "r"
        refine rd_dec (fun e => ?_) (fun e3 => ?_)
        · obtain rfl : k = 3 := Int.ofNat.inj e
          repeat walk_at "r"
          refine two_at1 Z (hv.keep S3) (by decide) (f := "reason") (g := "name") rfl (by decide) (by decide) (Z.e3.n _ (by simp)) _ ?_
          repeat walk_at "r"
          refine two_at2 Z (hv.keep S3) (by decide) (f := "reason") (g := "name") rfl (Z.e3.n _ (by simp)) _ ?_
          repeat walk_at "r"
          refine new_lst (by show 2 ≤ sizeLine; decide) fun l2 H2 n2 s2 h2 => ?_
          repeat walk_at "r"
          exact q l2 H2 (gone_of S3 n2) (S3.trans s2) h2
        · repeat walk_at "r"
          refine rd_dec (fun e => ?_) (fun e7 => ?_)
          · obtain rfl : k = 7 := Int.ofNat.inj e
            repeat walk_at "r"
            refine one_at Z (hv.keep S3) (by decide) rfl (Z.e7.n _ (by simp)) _ ?_
            repeat walk_at "r"
            refine new_lst (by show 1 ≤ sizeLine; decide) fun l2 H2 n2 s2 h2 => ?_
            repeat walk_at "r"
            exact q l2 H2 (gone_of S3 n2) (S3.trans s2) h2
          · repeat walk_at "r"
            refine rd_dec (fun e => ?_) (fun e11 => ?_)
            · obtain rfl : k = 11 := Int.ofNat.inj e
              repeat walk_at "r"
              refine two_at1 Z (hv.keep S3) (by decide) (f := "line") (g := "word") rfl (by decide) (by decide) (Z.e11.n _ (by simp)) _ ?_
              repeat walk_at "r"
              refine two_at2 Z (hv.keep S3) (by decide) (f := "line") (g := "word") rfl (Z.e11.n _ (by simp)) _ ?_
              repeat walk_at "r"
              refine new_lst (by show 2 ≤ sizeLine; decide) fun l2 H2 n2 s2 h2 => ?_
              repeat walk_at "r"
              exact q l2 H2 (gone_of S3 n2) (S3.trans s2) h2
            · repeat walk_at "r"
              refine rd_dec (fun e => ?_) (fun e12 => ?_)
              · obtain rfl : k = 12 := Int.ofNat.inj e
                repeat walk_at "r"
                refine one_at Z (hv.keep S3) (by decide) rfl (Z.e12.n _ (by simp)) _ ?_
                repeat walk_at "r"
                refine new_lst (by show 1 ≤ sizeLine; decide) fun l2 H2 n2 s2 h2 => ?_
                repeat walk_at "r"
                exact q l2 H2 (gone_of S3 n2) (S3.trans s2) h2
              · repeat walk_at "r"
                refine rd_dec (fun e => ?_) (fun e14 => ?_)
                · obtain rfl : k = 14 := Int.ofNat.inj e
                  repeat walk_at "r"
                  refine one_at Z (hv.keep S3) (by decide) rfl (Z.e14.n _ (by simp)) _ ?_
                  repeat walk_at "r"
                  refine new_lst (by show 1 ≤ sizeLine; decide) fun l2 H2 n2 s2 h2 => ?_
                  repeat walk_at "r"
                  exact q l2 H2 (gone_of S3 n2) (S3.trans s2) h2
                · repeat walk_at "r"
                  refine rd_dec (fun e => ?_) (fun e15 => ?_)
                  · obtain rfl : k = 15 := Int.ofNat.inj e
                    repeat walk_at "r"
                    refine one_at Z (hv.keep S3) (by decide) rfl (Z.e15.n _ (by simp)) _ ?_
                    repeat walk_at "r"
                    refine new_lst (by show 1 ≤ sizeLine; decide) fun l2 H2 n2 s2 h2 => ?_
                    repeat walk_at "r"
                    exact q l2 H2 (gone_of S3 n2) (S3.trans s2) h2
                  · repeat walk_at "r"
                    refine rd_dec (fun e => ?_) (fun e16 => ?_)
                    · obtain rfl : k = 16 := Int.ofNat.inj e
                      repeat walk_at "r"
                      refine one_at Z (hv.keep S3) (by decide) rfl (Z.e16.n _ (by simp)) _ ?_
                      repeat walk_at "r"
                      refine new_lst (by show 1 ≤ sizeLine; decide) fun l2 H2 n2 s2 h2 => ?_
                      repeat walk_at "r"
                      exact q l2 H2 (gone_of S3 n2) (S3.trans s2) h2
                    · repeat walk_at "r"
                      refine new_lst (by decide) fun l2 H2 n2 s2 h2 => ?_
                      repeat walk_at "r"
                      obtain rfl : k = 0 := by omega
                      exact q l2 H2 (gone_of S3 n2) (S3.trans s2) h2
def spOwn (K : PySem.W.Frag) (C : Nat → Addr) : Sp := fun vs H Q _ => ∃ (v : V) (D : Addr) (g : Nat → Bool), vs = [v] ∧ ExAny H D v ∧ ExK K D ∧ (∀ j, j < 17 → PySem.W.kitOne K (.ref D) (.ref (C j)) = some (g j)) ∧
  ∀ (p : Addr) (H' : Hp), H p = none → Same H H' → H' p = some (.lst ((List.range 17).filterMap fun j => if g j = true then some (V.int (j : Nat)) else none)) → Q (.ref p) H'
theorem ok__law_own {f : Addr} {fd0 : FuncData} (F : Fun K "_law_own" "_law_own" s__law_own f fd0) (T : Tx K mg) (Z : Z01 P w K mg base C fI CN CM fd) : FnOk P w K mg base CX0 2 f fd0 ["_law_caught"] (spOwn K C) := by
  refine F.ok sc__law_own (fun vs H Q E h => ?_) (fun cdv A outer s H vs Q E hr h => ?_)
  · obtain ⟨v, D, g, rfl, _⟩ := h
    rfl
  · obtain ⟨v, D, g, rfl, hx, TD, hk, q⟩ := h
    have E_NetError := Z.eN
    have E_MissingError := Z.eM
    have E_InvalidVector := Z.e0
    have E_InvalidBook := Z.e1
    have E_InvalidPart := Z.e2
    have E_InvalidNet := Z.e3
    have E_InvalidCourse := Z.e4
    have E_InvalidWeighting := Z.e5
    have E_InvalidDeed := Z.e6
    have E_InvalidItem := Z.e7
    have E_InvalidCosts := Z.e8
    have E_InvalidCount := Z.e9
    have E_NotComparable := Z.e10
    have E_InvalidText := Z.e11
    have E_UnknownCommand := Z.e12
    have E_UnknownName := Z.e13
    have E_NoItem := Z.e14
    have E_TooMany := Z.e15
    have E_NothingToUndo := Z.e16
    have kb_InvalidBook_reason := Z.kb1
    have kb_InvalidPart_reason := Z.kb2
    have kb_InvalidNet_name_reason := Z.kb3
    have kb_InvalidCourse_reason := Z.kb4
    have kb_InvalidWeighting_reason := Z.kb5
    have kb_InvalidDeed_reason := Z.kb6
    have kb_InvalidItem_index := Z.kb7
    have kb_InvalidCosts_name := Z.kb8
    have kb_InvalidCount_name := Z.kb9
    have kb_NotComparable_reason := Z.kb10
    have kb_InvalidText_word_line := Z.kb11
    have kb_UnknownCommand_word := Z.kb12
    have kb_UnknownName_name := Z.kb13
    have kb_NoItem_number := Z.kb14
    have kb_TooMany_limit := Z.kb15
    have kb_NothingToUndo_count := Z.kb16
    refine ⟨_, (pss_cons (ps_set (i := 1) sc__law_own.nd rfl (by first | exact Or.inl rfl | exact Or.inr rfl) (pe_lst (pa_cons (pe_callB call_isX (by rfl) T.b_isinstance (by decide +kernel) (pa_cons (pv 0) (pa_cons (pe_glob (v := .ref _) (by rfl) E_InvalidVector.g rfl) pa_nil))) (pa_cons (pe_callB call_isX (by rfl) T.b_isinstance (by decide +kernel) (pa_cons (pv 0) (pa_cons (pe_glob (v := .ref _) (by rfl) E_InvalidBook.g rfl) pa_nil))) (pa_cons (pe_callB call_isX (by rfl) T.b_isinstance (by decide +kernel) (pa_cons (pv 0) (pa_cons (pe_glob (v := .ref _) (by rfl) E_InvalidPart.g rfl) pa_nil))) pa_nil)))))
      (pss_cons (ps_set (i := 1) sc__law_own.nd rfl (by first | exact Or.inl rfl | exact Or.inr rfl) (pe_op op_cat (pv 1) (pe_lst (pa_cons (pe_callB call_isX (by rfl) T.b_isinstance (by decide +kernel) (pa_cons (pv 0) (pa_cons (pe_glob (v := .ref _) (by rfl) E_InvalidNet.g rfl) pa_nil))) (pa_cons (pe_callB call_isX (by rfl) T.b_isinstance (by decide +kernel) (pa_cons (pv 0) (pa_cons (pe_glob (v := .ref _) (by rfl) E_InvalidCourse.g rfl) pa_nil))) pa_nil)))))
      (pss_cons (ps_set (i := 1) sc__law_own.nd rfl (by first | exact Or.inl rfl | exact Or.inr rfl) (pe_op op_cat (pv 1) (pe_lst (pa_cons (pe_callB call_isX (by rfl) T.b_isinstance (by decide +kernel) (pa_cons (pv 0) (pa_cons (pe_glob (v := .ref _) (by rfl) E_InvalidWeighting.g rfl) pa_nil))) (pa_cons (pe_callB call_isX (by rfl) T.b_isinstance (by decide +kernel) (pa_cons (pv 0) (pa_cons (pe_glob (v := .ref _) (by rfl) E_InvalidDeed.g rfl) pa_nil))) pa_nil)))))
      (pss_cons (ps_set (i := 1) sc__law_own.nd rfl (by first | exact Or.inl rfl | exact Or.inr rfl) (pe_op op_cat (pv 1) (pe_lst (pa_cons (pe_callB call_isX (by rfl) T.b_isinstance (by decide +kernel) (pa_cons (pv 0) (pa_cons (pe_glob (v := .ref _) (by rfl) E_InvalidItem.g rfl) pa_nil))) (pa_cons (pe_callB call_isX (by rfl) T.b_isinstance (by decide +kernel) (pa_cons (pv 0) (pa_cons (pe_glob (v := .ref _) (by rfl) E_InvalidCosts.g rfl) pa_nil))) pa_nil)))))
      (pss_cons (ps_set (i := 1) sc__law_own.nd rfl (by first | exact Or.inl rfl | exact Or.inr rfl) (pe_op op_cat (pv 1) (pe_lst (pa_cons (pe_callB call_isX (by rfl) T.b_isinstance (by decide +kernel) (pa_cons (pv 0) (pa_cons (pe_glob (v := .ref _) (by rfl) E_InvalidCount.g rfl) pa_nil))) (pa_cons (pe_callB call_isX (by rfl) T.b_isinstance (by decide +kernel) (pa_cons (pv 0) (pa_cons (pe_glob (v := .ref _) (by rfl) E_NotComparable.g rfl) pa_nil))) pa_nil)))))
      (pss_cons (ps_set (i := 1) sc__law_own.nd rfl (by first | exact Or.inl rfl | exact Or.inr rfl) (pe_op op_cat (pv 1) (pe_lst (pa_cons (pe_callB call_isX (by rfl) T.b_isinstance (by decide +kernel) (pa_cons (pv 0) (pa_cons (pe_glob (v := .ref _) (by rfl) E_InvalidText.g rfl) pa_nil))) (pa_cons (pe_callB call_isX (by rfl) T.b_isinstance (by decide +kernel) (pa_cons (pv 0) (pa_cons (pe_glob (v := .ref _) (by rfl) E_UnknownCommand.g rfl) pa_nil))) pa_nil)))))
      (pss_cons (ps_set (i := 1) sc__law_own.nd rfl (by first | exact Or.inl rfl | exact Or.inr rfl) (pe_op op_cat (pv 1) (pe_lst (pa_cons (pe_callB call_isX (by rfl) T.b_isinstance (by decide +kernel) (pa_cons (pv 0) (pa_cons (pe_glob (v := .ref _) (by rfl) E_UnknownName.g rfl) pa_nil))) (pa_cons (pe_callB call_isX (by rfl) T.b_isinstance (by decide +kernel) (pa_cons (pv 0) (pa_cons (pe_glob (v := .ref _) (by rfl) E_NoItem.g rfl) pa_nil))) (pa_cons (pe_callB call_isX (by rfl) T.b_isinstance (by decide +kernel) (pa_cons (pv 0) (pa_cons (pe_glob (v := .ref _) (by rfl) E_TooMany.g rfl) pa_nil))) pa_nil))))))
      (pss_cons (ps_expr (pe_bm PySem.F.plainAttrs_list PySem.F.slot_list_append PySem.F.type_list_append mt_append (pv 1) (pa_cons (pe_callB call_isX (by rfl) T.b_isinstance (by decide +kernel) (pa_cons (pv 0) (pa_cons (pe_glob (v := .ref _) (by rfl) E_NothingToUndo.g rfl) pa_nil))) pa_nil)))
      (pss_one (ps_ret (pe_lc (own := [("_law_k", 2)]) rfl sc__law_own.nd (pi_range1 (by rfl) T.b_range (pa_cons pe_int pa_nil)) (blkOk_by (own := [("_law_k", 2)]) (N := ["_law_caught", "_law_flags", "_law_k"]) (sc := defScope s__law_own) (by decide +kernel)) (fun _ _ _ _ _ => (pg_name (i := 2) sc__law_own.nd rfl (by first | exact Or.inl rfl | exact Or.inr rfl))) (fun _ _ _ _ _ => (pts_one (pt_val (pe_ix (ix_listK (K := K) rfl) (pv 1) (pv 2) (fun _ _ => rfl))))) (fun _ _ _ _ _ => (pv 2))))))))))))), ?_⟩
    repeat walk_at "r"
    have S0 := Same.refl H
    refine isx_at (hx.keep S0) TD (hk 0 (by decide)) ?_
    repeat walk_at "r"
    refine isx_at (hx.keep S0) TD (hk 1 (by decide)) ?_
    repeat walk_at "r"
    refine isx_at (hx.keep S0) TD (hk 2 (by decide)) ?_
    repeat walk_at "r"
    refine new_lst (by show 3 ≤ sizeLine; decide) fun l0 G0 n0 t0 h0 => ?_
    repeat walk_at "r"
    have S1 := S0.trans t0
    refine isx_at (hx.keep S1) TD (hk 3 (by decide)) ?_
    repeat walk_at "r"
    refine isx_at (hx.keep S1) TD (hk 4 (by decide)) ?_
    repeat walk_at "r"
    refine new_lst (by show 2 ≤ sizeLine; decide) fun l1 G1 n1 t1 h1 => ?_
    repeat walk_at "r"
    refine rd_cat (t1 _ _ h0) h1 (by simp) fun m1 M1 o1 u1 k1 => ?_
    repeat walk_at "r"
    have S2 := (S1.trans t1).trans u1
    refine isx_at (hx.keep S2) TD (hk 5 (by decide)) ?_
    repeat walk_at "r"
    refine isx_at (hx.keep S2) TD (hk 6 (by decide)) ?_
    repeat walk_at "r"
    refine new_lst (by show 2 ≤ sizeLine; decide) fun l2 G2 n2 t2 h2 => ?_
    repeat walk_at "r"
    refine rd_cat (t2 _ _ k1) h2 (by simp) fun m2 M2 o2 u2 k2 => ?_
    repeat walk_at "r"
    have S3 := (S2.trans t2).trans u2
    refine isx_at (hx.keep S3) TD (hk 7 (by decide)) ?_
    repeat walk_at "r"
    refine isx_at (hx.keep S3) TD (hk 8 (by decide)) ?_
    repeat walk_at "r"
    refine new_lst (by show 2 ≤ sizeLine; decide) fun l3 G3 n3 t3 h3 => ?_
    repeat walk_at "r"
    refine rd_cat (t3 _ _ k2) h3 (by simp) fun m3 M3 o3 u3 k3 => ?_
    repeat walk_at "r"
    have S4 := (S3.trans t3).trans u3
    refine isx_at (hx.keep S4) TD (hk 9 (by decide)) ?_
    repeat walk_at "r"
    refine isx_at (hx.keep S4) TD (hk 10 (by decide)) ?_
    repeat walk_at "r"
    refine new_lst (by show 2 ≤ sizeLine; decide) fun l4 G4 n4 t4 h4 => ?_
    repeat walk_at "r"
    refine rd_cat (t4 _ _ k3) h4 (by simp) fun m4 M4 o4 u4 k4 => ?_
    repeat walk_at "r"
    have S5 := (S4.trans t4).trans u4
    refine isx_at (hx.keep S5) TD (hk 11 (by decide)) ?_
    repeat walk_at "r"
    refine isx_at (hx.keep S5) TD (hk 12 (by decide)) ?_
    repeat walk_at "r"
    refine new_lst (by show 2 ≤ sizeLine; decide) fun l5 G5 n5 t5 h5 => ?_
    repeat walk_at "r"
    refine rd_cat (t5 _ _ k4) h5 (by simp) fun m5 M5 o5 u5 k5 => ?_
    repeat walk_at "r"
    have S6 := (S5.trans t5).trans u5
    refine isx_at (hx.keep S6) TD (hk 13 (by decide)) ?_
    repeat walk_at "r"
    refine isx_at (hx.keep S6) TD (hk 14 (by decide)) ?_
    repeat walk_at "r"
    refine isx_at (hx.keep S6) TD (hk 15 (by decide)) ?_
    repeat walk_at "r"
    refine new_lst (by show 3 ≤ sizeLine; decide) fun l6 G6 n6 t6 h6 => ?_
    repeat walk_at "r"
    refine rd_cat (t6 _ _ k5) h6 (by simp) fun m6 M6 o6 u6 k6 => ?_
    repeat walk_at "r"
    have S7 := (S6.trans t6).trans u6
    refine ⟨.inl ⟨rfl, _, sqL_of k6⟩, ?_⟩
    repeat walk_at "r"
    refine isx_at (hx.keep S7) TD (hk 16 (by decide)) ?_
    repeat walk_at "r"
    refine rd_app k6 (by simp) fun H8 b8 k8 => ?_
    have S8 : Same H H8 := fun b o z => b8 _ _ (ne_of_none ((S6.trans t6) _ _ z) o6) (S7 _ _ z)
    repeat walk_at "r"
    refine ⟨by decide, by decide, ?_⟩
    refine ent_range (fun D i H' => LcI (List.range 17) (fun j => if g j = true then some (V.int (j : Nat)) else none) D H8 i H') (fun D hD => LcI.zero hD) (fun D i H' hD hi I => ?_) (fun D H' hD I => ?_)
    · have hi17 : i < 17 := hi
      have hri : (List.range 17)[i]? = some i := List.getElem?_range hi17
      repeat walk_at "r"
      refine ⟨rfl, ?_⟩
      repeat walk_at "r"
      have hat : ((List.range 17).map fun j => V.bl (g j))[i]? = some (.bl (g i)) := by
        rw [List.getElem?_map, hri]
        rfl
      refine rd_ixL (sqL_of (xs := (List.range 17).map fun j => V.bl (g j)) (I.same _ _ k8)) (atI_nat hat) ?_
      repeat walk_at "r"
      refine rd_ite (fun c => ?_) (fun c => ?_)
      · repeat walk_at "r"
        rw [Int.zero_add]
        exact I.some hD hri (by simp [c]) (Same.refl _) (by simp)
      · repeat walk_at "r"
        exact I.none hri (by simp [c]) (Same.refl _)
    · have e := I.done
      repeat walk_at "r"
      exact q D H' (gone_of S8 hD) (S8.trans I.same) (by rw [← e])
def spBased (C : Nat → Addr) : Sp := fun vs H Q _ => ∃ (k : Nat) (v one two : V), vs = [.int (k : Nat), v] ∧ Is01 C H k v one two ∧ ∀ (H' : Hp), Same H H' → Q (.bl true) H'
theorem Is01.any {C : Nat → Addr} {H : Hp} {k : Nat} {v one two : V} (h : Is01 C H k v one two) : ExAny H (C k) v := by
  by_cases z : k = 0
  · subst z
    exact .inl (h.2.1 rfl)
  · exact .inr ⟨_, h.2.2 z⟩
theorem ok__law_is_based {f : Addr} {fd0 : FuncData} (F : Fun K "_law_is_based" "_law_is_based" s__law_is_based f fd0) (T : Tx K mg) (Z : Z01 P w K mg base C fI CN CM fd) : FnOk P w K mg base CX0 2 f fd0 ["_law_k", "_law_caught"] (spBased C) := by
  refine F.ok sc__law_is_based (fun vs H Q E h => ?_) (fun cdv A outer s H vs Q E hr h => ?_)
  · obtain ⟨k, v, one, two, rfl, _⟩ := h
    rfl
  · obtain ⟨k, v, one, two, rfl, hv, q⟩ := h
    have k17 := hv.1
    have TD := Z.T k k17
    have E_NetError := Z.eN
    have E_MissingError := Z.eM
    have E_InvalidVector := Z.e0
    have E_InvalidBook := Z.e1
    have E_InvalidPart := Z.e2
    have E_InvalidNet := Z.e3
    have E_InvalidCourse := Z.e4
    have E_InvalidWeighting := Z.e5
    have E_InvalidDeed := Z.e6
    have E_InvalidItem := Z.e7
    have E_InvalidCosts := Z.e8
    have E_InvalidCount := Z.e9
    have E_NotComparable := Z.e10
    have E_InvalidText := Z.e11
    have E_UnknownCommand := Z.e12
    have E_UnknownName := Z.e13
    have E_NoItem := Z.e14
    have E_TooMany := Z.e15
    have E_NothingToUndo := Z.e16
    have kb_InvalidBook_reason := Z.kb1
    have kb_InvalidPart_reason := Z.kb2
    have kb_InvalidNet_name_reason := Z.kb3
    have kb_InvalidCourse_reason := Z.kb4
    have kb_InvalidWeighting_reason := Z.kb5
    have kb_InvalidDeed_reason := Z.kb6
    have kb_InvalidItem_index := Z.kb7
    have kb_InvalidCosts_name := Z.kb8
    have kb_InvalidCount_name := Z.kb9
    have kb_NotComparable_reason := Z.kb10
    have kb_InvalidText_word_line := Z.kb11
    have kb_UnknownCommand_word := Z.kb12
    have kb_UnknownName_name := Z.kb13
    have kb_NoItem_number := Z.kb14
    have kb_TooMany_limit := Z.kb15
    have kb_NothingToUndo_count := Z.kb16
    refine ⟨_, (pss_cons (ps_if (PW.pt (pw_or (pt_cmpR op_ne (pe_callB call_isX (by rfl) T.b_isinstance (by decide +kernel) (pa_cons (pv 1) (pa_cons (pe_glob (v := .ref _) (by rfl) E_NetError.g rfl) pa_nil))) (pe_cmpR op_lt (pv 0) pe_int (nomark _)) (nomark _)) (pw_or1 (pt_cmpR op_ne (pe_callB call_isX (by rfl) T.b_isinstance (by decide +kernel) (pa_cons (pv 1) (pa_cons (pe_glob (v := .ref _) (by rfl) E_MissingError.g rfl) pa_nil))) (pe_cmpR op_in_seq (pv 0) (pe_tup (pa_cons pe_int (pa_cons pe_int pa_nil))) rfl) (nomark _))))) (pss_one (ps_ret pe_bl)) pss_nil)
      (pss_cons (ps_if (pt_cmpR op_lt (pv 0) pe_int (nomark _)) (pss_one (ps_ret (pe_callB call_isX (by rfl) T.b_isinstance (by decide +kernel) (pa_cons (pv 1) (pa_cons (pe_bltn (v := .ty "ValueError") (by rfl) T.b_ValueError (by decide +kernel) rfl) pa_nil))))) pss_nil)
      (pss_cons (ps_if (pt_cmpR op_lt (pv 0) pe_int (nomark _)) (pss_one (ps_ret (pe_callB call_isX (by rfl) T.b_isinstance (by decide +kernel) (pa_cons (pv 1) (pa_cons (pe_bltn (v := .ty "LookupError") (by rfl) T.b_LookupError (by decide +kernel) rfl) pa_nil))))) pss_nil)
      (pss_one (ps_ret (pe_ifExp (pt_cmpR op_eq (pv 0) pe_int (nomark _)) (pe_callB call_isX (by rfl) T.b_isinstance (by decide +kernel) (pa_cons (pv 1) (pa_cons (pe_bltn (v := .ty "OverflowError") (by rfl) T.b_OverflowError (by decide +kernel) rfl) pa_nil))) (pe_callB call_isX (by rfl) T.b_isinstance (by decide +kernel) (pa_cons (pv 1) (pa_cons (pe_bltn (v := .ty "IndexError") (by rfl) T.b_IndexError (by decide +kernel) rfl) pa_nil))))))))), ?_⟩
    repeat walk_at "r"
    refine isx_at hv.any TD (Z.kN k k17) ?_
    repeat walk_at "r"
    refine rd_decN (fun c => absurd (decide_eq_decide.mpr (by omega)) c) (fun _ => ?_)
    repeat walk_at "r"
    refine isx_at hv.any TD (Z.kM k k17) ?_
    repeat walk_at "r"
    refine new_tup (by show 2 ≤ sizeLine; decide) fun t1 H1 n1 s1 h1 => ?_
    repeat walk_at "r"
    refine rd_inI [13, 14] h1 ?_
    repeat walk_at "r"
    refine rd_decN (fun c => absurd (decide_eq_decide.mpr (by simp only [List.mem_cons, List.not_mem_nil, or_false]; omega)) c) (fun _ => ?_)
    repeat walk_at "r"
    have hx := hv.any.keep s1
    refine rd_dec (fun c => ?_) (fun c => ?_)
    · repeat walk_at "r"
      refine isx_ty hx TD (Z.kV k (by omega)) ?_
      repeat walk_at "r"
      exact q H1 s1
    · repeat walk_at "r"
      refine rd_dec (fun d => ?_) (fun d => ?_)
      · repeat walk_at "r"
        refine isx_ty hx TD (Z.kL k (by omega)) ?_
        repeat walk_at "r"
        exact q H1 s1
      · repeat walk_at "r"
        refine rd_dec (fun e => ?_) (fun e => ?_)
        · obtain rfl : k = 15 := Int.ofNat.inj e
          repeat walk_at "r"
          refine isx_ty hx TD Z.kO ?_
          repeat walk_at "r"
          exact q H1 s1
        · obtain rfl : k = 16 := by omega
          repeat walk_at "r"
          refine isx_ty hx TD Z.kI ?_
          repeat walk_at "r"
          exact q H1 s1
end

end My

namespace My
open PySem PySem.Spec PyProof.Rows L2 EE

local macro_rules | `(tactic| walk_at "sq") => `(tactic| first | assumption | exact sqL_of (by assumption) | exact sqT_of (by assumption))
local macro_rules | `(tactic| walk_at "r") => `(tactic| first
  | ((with_reducible show tVar _ _ _ _); refine ⟨_, rfl, ?_⟩)
  | (with_reducible refine rd_c ?_)
  | (with_reducible refine rd_op ?_)
  | (with_reducible refine rd_yes ?_)
  | (with_reducible refine iteT ?_)
  | (with_reducible refine iteF ?_)
  | (with_reducible refine iteNT ?_)
  | (with_reducible refine iteNF ?_)
  | (with_reducible refine rd_seq ?_)
  | (with_reducible refine rd_asg ?_)
  | (with_reducible refine rd_name ?_)
  | (with_reducible refine rd_ret ?_)
  | (with_reducible refine rd_retN ?_)
  | (with_reducible refine rd_drop ?_)
  | (with_reducible refine rd_next ?_)
  | (with_reducible refine rd_ifS ?_)
  | (with_reducible refine rd_ifE ?_)
  | (with_reducible refine rd_test ?_)
  | (with_reducible refine rd_B ?_)
  | (with_reducible refine rd_and ?_)
  | (with_reducible refine rd_or ?_)
  | (with_reducible refine rd_not ?_)
  | (with_reducible refine rd_andV ?_)
  | (with_reducible refine rd_orV ?_)
  | (with_reducible refine rd_notV ?_)
  | (with_reducible refine rd_nil ?_)
  | (with_reducible refine rd_cons ?_)
  | (with_reducible refine rd_call ?_)
  | (with_reducible refine rd_CB ?_)
  | (with_reducible refine rd_chain ?_)
  | (with_reducible refine rd_gsub ?_)
  | (with_reducible refine rd_part ?_)
  | (with_reducible refine rd_noPart ?_)
  | (with_reducible refine rd_sl ?_)
  | (with_reducible refine rd_tup ?_)
  | (with_reducible refine rd_lst ?_)
  | (with_reducible refine rd_bl ?_)
  | (with_reducible refine rd_exI ?_)
  | (with_reducible refine rd_exIs ?_)
  | (with_reducible refine rd_exR ?_)
  | (with_reducible refine rd_iRng1 ?_)
  | (with_reducible refine rd_iRng2 ?_)
  | (with_reducible refine rd_iList ?_)
  | (with_reducible refine rd_iTup ?_)
  | (with_reducible refine rd_callN ?_)
  | (with_reducible refine rd_pnil ?_)
  | (with_reducible refine rd_pcons ?_)
  | (with_reducible refine rd_exS ?_)
  | (with_reducible refine rd_isS ?_)
  | (with_reducible refine rd_add ?_)
  | (with_reducible refine rd_sub ?_)
  | (with_reducible refine rd_lt ?_)
  | (with_reducible refine rd_le ?_)
  | (with_reducible refine rd_gt ?_)
  | (with_reducible refine rd_ge ?_)
  | (with_reducible refine rd_eqI ?_)
  | (with_reducible refine rd_neI ?_)
  | (with_reducible refine rd_eqS ?_)
  | (with_reducible refine rd_neS ?_)
  | (with_reducible refine rd_mul ?_ ?_)
  | (with_reducible refine rd_mod ?_ ?_)
  | (with_reducible refine rd_fdiv ?_ ?_)
  | (with_reducible refine rd_pow ?_ ?_)
  | (with_reducible refine rd_int1 ?_)
  | (with_reducible refine rd_int1b ?_)
  | (with_reducible refine rd_abs ?_)
  | (with_reducible refine rd_strI ?_ ?_)
  | (with_reducible refine rd_addS ?_ ?_)
  | (with_reducible refine rd_inS ?_)
  | (with_reducible refine rd_notInS ?_)
  | (with_reducible refine rd_isN ?_)
  | (with_reducible refine rd_notN ?_)
  | (with_reducible refine rd_lenS ?_ ?_)
  | (with_reducible refine rd_slS ?_ ?_)
  | (with_reducible refine rd_lc ?_)
  | (with_reducible refine rd_for ?_)
  | (with_reducible refine rd_iStr ?_)
  | (with_reducible refine rd_M1 ?_)
  | (with_reducible refine rd_M0 ?_)
  | (with_reducible refine rd_un ?_)
  | (with_reducible refine rd_neg ?_)
  | (with_reducible refine rd_stx ?_)
  | (with_reducible refine rd_par ?_)
  | (with_reducible refine rd_exP ?_)
  | (with_reducible refine rd_neB ?_)
  | (with_reducible refine rd_gcons ?_)
  | (with_reducible refine rd_gnil ?_)
  | (with_reducible refine rd_mkV ?_)
  | (with_reducible refine rd_mkN ?_)
  | (with_reducible refine rd_lenum ?_)
  | (with_reducible refine rd_xvA ?_)
  | (with_reducible refine rd_bm ?_))

section
variable {P : Program} {w : World} {K : PySem.W.Frag} {mg : Str → Option Value} {base : Heap}
theorem ok__law_draw {f : Addr} {fd : FuncData} (F : Fun K "_law_draw" "_law_draw" s__law_draw f fd) (T : Tx K mg) : FnOk P w K mg base CX0 1 f fd ["_law_pen_here", "_law_many"] spDraw := by
  refine F.ok sc__law_draw (fun vs H Q E h => ?_) (fun cdv A outer s H vs Q E hr h => ?_)
  · obtain ⟨p, q, many, n, rfl, _⟩ := h
    rfl
  · obtain ⟨p, q, many, n, rfl, h0, h1, hn, hp, k⟩ := h
    have hu := hu_of hr
    refine ⟨_, (pss_cons (ps_if (pt_cmpR op_gt (pe_ix (ix_listK (K := K) rfl) (pv 0) pe_int (fun _ _ => rfl)) pe_int (nomark _)) (pss_cons (ps_set (i := 2) sc__law_draw.nd rfl (by first | exact Or.inl rfl | exact Or.inr rfl) (pe_op op_mod (pe_callTy cr_int1 (by rfl) T.b_int (by decide +kernel) (pa_cons (pe_ix (ix_listK (K := K) rfl) (pv 0) pe_int (fun _ _ => rfl)) pa_nil)) (pv 1)))
      (pss_cons (ps_asg (pe_op op_fdiv (pe_callTy cr_int1 (by rfl) T.b_int (by decide +kernel) (pa_cons (pe_ix (ix_listK (K := K) rfl) (pv 0) pe_int (fun _ _ => rfl)) pa_nil)) (pv 1)) (pg_sub (pv 0) pe_int set_list))
      (pss_one (ps_ret (pv 2))))) pss_nil)
      (pss_cons (ps_set (i := 3) sc__law_draw.nd rfl (by first | exact Or.inl rfl | exact Or.inr rfl) (pe_ix (ix_listK (K := K) rfl) (pv 0) pe_int (fun _ _ => rfl)))
      (pss_cons (ps_asg (pe_op op_add (pv 3) pe_int) (pg_sub (pv 0) pe_int set_list))
      (pss_cons (ps_set (i := 4) sc__law_draw.nd rfl (by first | exact Or.inl rfl | exact Or.inr rfl) (pe_op op_add (pe_op op_mul pe_int (pv 3)) pe_int))
      (Evl.pss_cut (ps_if (pt_cmpR (op_neD hr.units) (pe_ix (ix_listK (K := K) rfl) (pv 0) pe_int (fun _ _ => rfl)) (pe_lst pa_nil) (nomark _)) (pss_one (ps_set (i := 4) sc__law_draw.nd rfl (by first | exact Or.inl rfl | exact Or.inr rfl) (pe_ix (ix_listK (K := K) rfl) (pe_ix (ix_listK (K := K) rfl) (pv 0) pe_int (fun _ _ => rfl)) (pe_op op_mod (pe_callTy cr_int1 (by rfl) T.b_int (by decide +kernel) (pa_cons (pv 3) pa_nil)) (pe_callB cr_lenQ (by rfl) T.b_len (by decide +kernel) (pa_cons (pe_ix (ix_listK (K := K) rfl) (pv 0) pe_int (fun _ _ => rfl)) pa_nil))) (fun _ _ => rfl)))) pss_nil)
      (Evl.pss_cut (ps_if (PW.pt (pw_and (pt_cmpR op_lt (pv 3) (pe_callB cr_lenQ (by rfl) T.b_len (by decide +kernel) (pa_cons (pe_ix (ix_listK (K := K) rfl) (pv 0) pe_int (fun _ _ => rfl)) pa_nil)) (nomark _)) (pw_and1 (pt_cmpR op_ge (pe_callB cr_abs (by rfl) T.b_abs (by decide +kernel) (pa_cons (pv 4) pa_nil)) (pe_op op_pow pe_int pe_int) (nomark _))))) (pss_cons (ps_set (i := 5) sc__law_draw.nd rfl (by first | exact Or.inl rfl | exact Or.inr rfl) (pe_op op_add (pe_op op_mul pe_int (pe_op op_sub (pe_callB cr_abs (by rfl) T.b_abs (by decide +kernel) (pa_cons (pv 4) pa_nil)) (pe_op op_pow pe_int pe_int))) (pe_callTy cr_int1 (by rfl) T.b_int (by decide +kernel) (pa_cons (pe_cmpR op_lt (pv 4) pe_int (nomark _)) pa_nil))))
      (pss_cons (ps_asg (pe_op op_fdiv (pv 5) (pv 1)) (pg_sub (pv 0) pe_int set_list))
      (pss_one (ps_ret (pe_op op_mod (pe_callTy cr_int1 (by rfl) T.b_int (by decide +kernel) (pa_cons (pv 5) pa_nil)) (pv 1)))))) pss_nil)
      (pss_cons (ps_set (i := 6) sc__law_draw.nd rfl (by first | exact Or.inl rfl | exact Or.inr rfl) (pe_op op_mod (pe_callTy cr_int1 (by rfl) T.b_int (by decide +kernel) (pa_cons (pe_op op_pow (pe_op op_add (pe_op op_add (pe_op op_mod (pe_callTy cr_int1 (by rfl) T.b_int (by decide +kernel) (pa_cons (pv 4) pa_nil)) pe_int) (pe_op op_mul pe_int (pv 3))) pe_int) pe_int) pa_nil)) pe_int))
      (pss_cons (ps_set (i := 6) sc__law_draw.nd rfl (by first | exact Or.inl rfl | exact Or.inr rfl) (pe_op op_mod (pe_callTy cr_int1 (by rfl) T.b_int (by decide +kernel) (pa_cons (pe_op op_pow (pe_op op_add (pe_op op_add (pe_op op_mul (pv 6) (pe_op op_add (pe_op op_mul pe_int (pv 3)) pe_int)) (pe_op op_mul (pe_op op_mul pe_int (pv 3)) (pv 3))) pe_int) pe_int) pa_nil)) pe_int))
      (pss_one (ps_ret (pe_op op_mod (pe_callTy cr_int1 (by rfl) T.b_int (by decide +kernel) (pa_cons (pe_op op_fdiv (pv 6) pe_int) pa_nil)) (pv 1)))))))))))), ?_⟩
    obtain ⟨ns, a, r, hp, hq, ha0, han, hl⟩ := hp
    have nqp : q ≠ p := ne_of hq hp (by intro z; injection z with z; cases ns with
      | nil => cases z
      | cons m ms => cases z)
    repeat walk_at "r"
    refine rd_ixL (sqL_of hp) rfl ?_
    repeat walk_at "r"
    refine rd_dec (fun c => ?_) (fun c => ?_)
    · repeat walk_at "r"
      refine rd_ixL (sqL_of hp) rfl ?_
      repeat walk_at "r"
      · refine rd_ixL (sqL_of hp) rfl ?_
        repeat walk_at "r"
        · refine sto_lst hp rfl (fun H1 e1 p1 => ?_)
          repeat walk_at "r"
          exact k _ _ (modLo h0) (modHi h0) e1 ⟨ns, a, _, p1, e1 _ _ nqp hq, ha0, by omega, hl⟩
        · exact ⟨h0, h1⟩
      · exact h0
    · repeat walk_at "r"
      refine rd_ixL (sqL_of hp) rfl ?_
      repeat walk_at "r"
      refine sto_lst hp rfl (fun H1 e1 p1 => ?_)
      have q1 := e1 _ _ nqp hq
      repeat walk_at "r"
      · refine ⟨fun σ' H' => ∃ cell : Int, σ' = [some (.ref p), some (.int many), none, some (.int a), some (.int cell), none, none] ∧ H' p = some (.lst [.ref q, .int (a + 1), .int r]) ∧ H' q = some (.lst (ns.map V.int)) ∧ But p H H', ?_, ?_⟩
        · repeat walk_at "r"
          refine rd_ixL (sqL_of p1) rfl ?_
          repeat walk_at "r"
          refine new_lst (by decide) fun o H2 ho e2 o2 => ?_
          have p2 := e2 _ _ p1
          have q2 := e2 _ _ q1
          have e12 := e1.then e2
          refine rd_neNil (sqL_of q2) o2 ?_
          repeat walk_at "r"
          refine rd_dec (fun hne => ?_) (fun c2 => ?_)
          · have hpos : 0 < (ns.map V.int).length := by rw [List.length_map]; exact List.length_pos_iff.mpr hne
            repeat walk_at "r"
            refine rd_ixL (sqL_of p2) rfl ?_
            repeat walk_at "r"
            refine rd_ixL (sqL_of p2) rfl ?_
            repeat walk_at "r"
            refine rd_len (sqL_of q2) ?_
            repeat walk_at "r"
            · obtain ⟨j, hj, _, hat⟩ := atI_lt (xs := ns.map V.int) (i := a % ((ns.map V.int).length : Nat)) (modLo (by omega)) (modHi (by omega))
              rw [List.getElem_map] at hat
              refine rd_ixL (sqL_of q2) hat ?_
              repeat walk_at "r"
              exact ⟨_, rfl, p2, q2, e12⟩
            · omega
          · repeat walk_at "r"
            exact ⟨_, rfl, p2, q2, e12⟩
        · rintro σ' H2 ⟨cell, rfl, p2, q2, e2⟩
          repeat walk_at "r"
          refine ⟨fun σ' H' => σ' = [some (.ref p), some (.int many), none, some (.int a), some (.int cell), none, none] ∧ H' = H2, ?_, ?_⟩
          · repeat walk_at "r"
            refine rd_ixL (sqL_of p2) rfl ?_
            repeat walk_at "r"
            refine rd_len (sqL_of q2) ?_
            repeat walk_at "r"
            refine rd_dec (fun c3 => ?_) (fun c3 => ⟨rfl, rfl⟩)
            repeat walk_at "r"
            · refine rd_dec (fun c4 => ?_) (fun c4 => ⟨rfl, rfl⟩)
              repeat walk_at "r"
              · refine sto_lst p2 rfl (fun H3 e3 p3 => ?_)
                repeat walk_at "r"
                · exact k _ _ (modLo h0) (modHi h0) (e2.trans e3) ⟨ns, a + 1, _, p3, e3 _ _ nqp q2, by omega, by omega, hl⟩
                · exact h0
              all_goals first
                | exact ⟨h0, h1⟩
                | exact .inl (by decide)
                | exact ⟨by decide, by decide, by decide⟩
            · exact ⟨by decide, by decide, by decide⟩
          · rintro σ' H' ⟨rfl, rfl⟩
            have hb0 : 0 ≤ cell % 2147483549 := modLo (by decide)
            have hb1 : cell % 2147483549 < 2147483549 := modHi (by decide)
            repeat walk_at "r"
            · exact k _ _ (modLo h0) (modHi h0) e2 ⟨ns, a + 1, r, p2, q2, by omega, by omega, hl⟩
            all_goals first
              | exact h0
              | decide
              | exact ⟨by decide, by decide⟩
              | exact .inl (by omega)
              | exact mixMul ha0 (by omega) (by decide) (by decide)
              | exact mixL (by decide) (by decide)
              | exact ⟨by decide, by decide, by omega⟩
              | exact mixOk (modLo (by decide)) (Int.lt_trans (modHi (by decide)) (by decide)) ha0 (by omega) (by decide) (by decide) (by decide) (by decide) (by decide) (by decide)
      · exact .inl (by decide)
theorem ok__law_pen {f : Addr} {fd : FuncData} (F : Fun K "_law_pen" "_law_pen" s__law_pen f fd) (T : Tx K mg) : FnOk P w K mg base CX0 1 f fd ["_law_script"] (spPen K) := by
  refine F.ok sc__law_pen (fun vs H Q E h => ?_) (fun cdv A outer s H vs Q E hr h => ?_)
  · obtain ⟨a, ns, rfl, _⟩ := h
    rfl
  · obtain ⟨a, ns, rfl, hs, hl, k⟩ := h
    refine ⟨_, (pss_one (ps_ret (pe_lst (pa_cons (pe_callTy cr_listOf (by rfl) T.b_list (by decide +kernel) (pa_cons (pe_slice sl_list (pv 0) po_none (po_some pe_int)) pa_nil)) (pa_cons pe_int (pa_cons pe_int pa_nil)))))), ?_⟩
    repeat walk_at "r"
    refine rd_slL hs fun p1 H1 n1 s1 h1 => ?_
    repeat walk_at "r"
    rw [cutV_ints] at h1
    refine rd_listOf (sqL_of h1) fun p2 H2 n2 s2 h2 => ?_
    repeat walk_at "r"
    refine new_lst (by show 3 ≤ sizeLine; decide) fun p3 H3 n3 s3 h3 => ?_
    refine k p3 p2 H3 (Same.free (s1.trans s2) n3) ((s1.trans s2).trans s3) ⟨_, 0, 0, h3, s3 _ _ h2, Int.le_refl _, Int.le_refl _, ?_⟩
    exact Nat.le_trans (len_cutI _ _ _) hl
theorem ok__law_pick {f fD : Addr} {fd fdD : FuncData} (F : Fun K "_law_pick" "_law_pick" s__law_pick f fd) (T : Tx K mg) (C__law_draw : Cal P w K mg base 1 "_law_draw" s__law_draw ["_law_pen_here", "_law_many"] spDraw fD fdD) : FnOk P w K mg base CX0 2 f fd ["_law_pen_here", "_law_some"] spPickL := by
  refine F.ok sc__law_pick (fun vs H Q E h => ?_) (fun cdv A outer s H vs Q E hr h => ?_)
  · obtain ⟨p, q, l, xs, n, rfl, _⟩ := h
    rfl
  · obtain ⟨p, q, l, xs, n, rfl, hx, hlp, h0, h1, hn, hp, k⟩ := h
    refine ⟨_, (pss_one (ps_ret (pe_ix (ix_listK (K := K) rfl) (pv 1) (pe_call C__law_draw.G (hr.mono (by decide)) (by rfl) C__law_draw.g C__law_draw.F.kp C__law_draw.b .nil pass0 (pa_cons (pv 0) (pa_cons (pe_callB cr_lenQ (by rfl) T.b_len (by decide +kernel) (pa_cons (pv 1) pa_nil)) pa_nil))) (fun _ _ => rfl)))), ?_⟩
    repeat walk_at "r"
    refine rd_len (sqL_of hx) ?_
    repeat walk_at "r"
    refine ⟨p, q, _, n, rfl, by omega, by omega, hn, hp, fun d H' d0 d1 sm hp' => ?_⟩
    obtain ⟨j, hj, _, hat⟩ := atI_lt (xs := xs) (i := d) d0 d1
    refine rd_ixL (sqL_of (sm _ _ hlp hx)) hat ?_
    exact k _ _ (List.getElem_mem hj) sm hp'

def menu01 : List PyData := [.none, .bool true, .bool false, .int 0, .int 1, .int (-1), .int (10 ^ 60 - 1), .str "", .str "a", .str "name", .tuple [], .tuple [.str "a", .int 0], .list [], .list [.int 0, .int 1], .dict [], .dict [(.str "a", .int 1)]]
def spThing : Sp := fun vs H Q _ => ∃ (p q : Addr) (n : Nat), vs = [.ref p] ∧ n ≤ 900000 ∧ PenAt n H p q ∧ ∀ (v : V) (d : PyData) H', Fl H' v d → offV p v → d ∈ menu01 → But p H H' → PenAt (n + 1) H' p q → Q v H'
theorem ok__law_thing {f fP : Addr} {fd0 fdP : FuncData} (F : Fun K "_law_thing" "_law_thing" s__law_thing f fd0) (T : Tx K mg) (C__law_pick : Cal P w K mg base 2 "_law_pick" s__law_pick ["_law_pen_here", "_law_some"] spPickL fP fdP) : FnOk P w K mg base CX0 3 f fd0 ["_law_pen_here"] spThing := by
  refine F.ok sc__law_thing (fun vs H Q E h => ?_) (fun cdv A outer s H vs Q E hr h => ?_)
  · obtain ⟨p, q, n, rfl, _⟩ := h
    rfl
  · obtain ⟨p, q, n, rfl, hn, hp, k⟩ := h
    refine ⟨_, (pss_cons (ps_set (i := 1) sc__law_thing.nd rfl (by first | exact Or.inl rfl | exact Or.inr rfl) (pe_lst (pa_cons pe_non (pa_cons pe_bl (pa_cons pe_bl (pa_cons pe_int (pa_cons pe_int (pa_cons (pe_un un_neg pe_int) (pa_cons (pe_op op_sub (pe_op op_pow pe_int pe_int) pe_int) (pa_cons pe_str (pa_cons pe_str (pa_cons pe_str (pa_cons (pe_tup pa_nil) (pa_cons (pe_tup (pa_cons pe_str (pa_cons pe_int pa_nil))) (pa_cons (pe_lst pa_nil) (pa_cons (pe_lst (pa_cons pe_int (pa_cons pe_int pa_nil))) (pa_cons pe_dnewK (pa_cons (pe_disp (pps_cons pe_str pe_int pps_nil) (by rfl) (by rfl) (fun z => by cases z) (by decide)) pa_nil))))))))))))))))))
      (pss_one (ps_ret (pe_call C__law_pick.G (hr.mono (by decide)) (by rfl) C__law_pick.g C__law_pick.F.kp C__law_pick.b .nil pass0 (pa_cons (pv 0) (pa_cons (pv 1) pa_nil)))))), ?_⟩
    repeat walk_at "r"
    · refine new_tup (by decide) fun t1 H1 n1 s1 h1 => ?_
      have hp1 := hp.keep s1
      repeat walk_at "r"
      refine new_tup (by show 2 ≤ sizeLine; decide) fun t2 H2 n2 s2 h2 => ?_
      have hp2 := hp1.keep s2
      repeat walk_at "r"
      refine new_lst (by decide) fun t3 H3 n3 s3 h3 => ?_
      have hp3 := hp2.keep s3
      repeat walk_at "r"
      refine new_lst (by show 2 ≤ sizeLine; decide) fun t4 H4 n4 s4 h4 => ?_
      have hp4 := hp3.keep s4
      repeat walk_at "r"
      refine rd_dnewK fun t5 H5 n5 s5 h5 => ?_
      have hp5 := hp4.keep s5
      repeat walk_at "r"
      refine rd_disp fun t6 H6 n6 s6 h6 => ?_
      repeat walk_at "r"
      refine disp_done [(Sum.inr (Str.ofString "a"), V.int 1)] h6 rfl (by decide) fun H7 e7 h7 => ?_
      have s7 : Same H5 H7 := Same.disp n6 s6 e7
      rw [show mergeK [] [(Sum.inr (Str.ofString "a"), V.int 1)] = [(Sum.inr (Str.ofString "a"), V.int 1)] from rfl] at h7
      have hp7 := hp5.keep s7
      repeat walk_at "r"
      refine new_lst (by show 16 ≤ sizeLine; decide) fun l8 H8 n8 s8 h8 => ?_
      have hp8 := hp7.keep s8
      have S7 := s7.trans s8
      have S5 := s5.trans S7
      have S4 := s4.trans S5
      have S3 := s3.trans S4
      have S2 := s2.trans S3
      repeat walk_at "r"
      refine ⟨p, q, l8, _, n, rfl, h8, (hp7.off n8).1, by simp, by simp, by omega, hp8, fun x H9 hx s9 hp9 => ?_⟩
      have th : ∃ d, Fl H8 x d ∧ offV p x ∧ d ∈ menu01 := by
        simp only [List.mem_cons, List.not_mem_nil, or_false] at hx
        rcases hx with e | e | e | e | e | e | e | e | e | e | e | e | e | e | e | e <;> subst e
        · exact ⟨_, .sc .non, trivial, by simp [menu01]⟩
        · exact ⟨_, .sc (.bl _), trivial, by simp [menu01]⟩
        · exact ⟨_, .sc (.bl _), trivial, by simp [menu01]⟩
        · exact ⟨_, .sc (.int _), trivial, by simp [menu01]⟩
        · exact ⟨_, .sc (.int _), trivial, by simp [menu01]⟩
        · exact ⟨_, .sc (.int _), trivial, by simp [menu01]⟩
        · exact ⟨_, .sc (.int _), trivial, by simp [menu01]⟩
        · exact ⟨_, .sc (.str _), trivial, by simp [menu01]⟩
        · exact ⟨_, .sc (.str _), trivial, by simp [menu01]⟩
        · exact ⟨_, .sc (.str _), trivial, by simp [menu01]⟩
        · exact ⟨_, .tup (S2 _ _ h1) .nil, (hp.off n1).1, by simp [menu01]⟩
        · exact ⟨_, .tup (S3 _ _ h2) (.cons (.str _) (.cons (.int _) .nil)), (hp1.off n2).1, by simp [menu01]⟩
        · exact ⟨_, .lst (S4 _ _ h3) .nil, (hp2.off n3).1, by simp [menu01]⟩
        · exact ⟨_, .lst (S5 _ _ h4) (.cons (.int _) (.cons (.int _) .nil)), (hp3.off n4).1, by simp [menu01]⟩
        · exact ⟨_, .dK (S7 _ _ h5) .nil, (hp4.off n5).1, by simp [menu01]⟩
        · exact ⟨_, .dK (s8 _ _ h7) (.cons (.int 1) .nil), (hp5.off n6).1, by simp [menu01, keyD]⟩
      obtain ⟨d, hd, off, hm⟩ := th
      exact k x d H9 (hd.but off s9) off hm (Same.thenBut (s1.trans S2) s9) hp9
    · exact ⟨by decide, by decide, by decide⟩
end

end My

namespace My
open PySem PySem.Spec PyProof.Rows L2 EE

local macro_rules | `(tactic| walk_at "sq") => `(tactic| first | assumption | exact sqL_of (by assumption) | exact sqT_of (by assumption))
local macro_rules | `(tactic| walk_at "r") => `(tactic| first
  | ((with_reducible show tVar _ _ _ _); refine ⟨_, rfl, ?_⟩)
  | (with_reducible refine rd_c ?_)
  | (with_reducible refine rd_op ?_)
  | (with_reducible refine rd_yes ?_)
  | (with_reducible refine iteT ?_)
  | (with_reducible refine iteF ?_)
  | (with_reducible refine iteNT ?_)
  | (with_reducible refine iteNF ?_)
  | (with_reducible refine rd_seq ?_)
  | (with_reducible refine rd_asg ?_)
  | (with_reducible refine rd_name ?_)
  | (with_reducible refine rd_ret ?_)
  | (with_reducible refine rd_retN ?_)
  | (with_reducible refine rd_drop ?_)
  | (with_reducible refine rd_next ?_)
  | (with_reducible refine rd_ifS ?_)
  | (with_reducible refine rd_ifE ?_)
  | (with_reducible refine rd_test ?_)
  | (with_reducible refine rd_B ?_)
  | (with_reducible refine rd_and ?_)
  | (with_reducible refine rd_or ?_)
  | (with_reducible refine rd_not ?_)
  | (with_reducible refine rd_andV ?_)
  | (with_reducible refine rd_orV ?_)
  | (with_reducible refine rd_notV ?_)
  | (with_reducible refine rd_nil ?_)
  | (with_reducible refine rd_cons ?_)
  | (with_reducible refine rd_call ?_)
  | (with_reducible refine rd_CB ?_)
  | (with_reducible refine rd_chain ?_)
  | (with_reducible refine rd_gsub ?_)
  | (with_reducible refine rd_part ?_)
  | (with_reducible refine rd_noPart ?_)
  | (with_reducible refine rd_sl ?_)
  | (with_reducible refine rd_tup ?_)
  | (with_reducible refine rd_lst ?_)
  | (with_reducible refine rd_bl ?_)
  | (with_reducible refine rd_exI ?_)
  | (with_reducible refine rd_exIs ?_)
  | (with_reducible refine rd_exR ?_)
  | (with_reducible refine rd_iRng1 ?_)
  | (with_reducible refine rd_iRng2 ?_)
  | (with_reducible refine rd_iList ?_)
  | (with_reducible refine rd_iTup ?_)
  | (with_reducible refine rd_callN ?_)
  | (with_reducible refine rd_pnil ?_)
  | (with_reducible refine rd_pcons ?_)
  | (with_reducible refine rd_exS ?_)
  | (with_reducible refine rd_isS ?_)
  | (with_reducible refine rd_add ?_)
  | (with_reducible refine rd_sub ?_)
  | (with_reducible refine rd_lt ?_)
  | (with_reducible refine rd_le ?_)
  | (with_reducible refine rd_gt ?_)
  | (with_reducible refine rd_ge ?_)
  | (with_reducible refine rd_eqI ?_)
  | (with_reducible refine rd_neI ?_)
  | (with_reducible refine rd_eqS ?_)
  | (with_reducible refine rd_neS ?_)
  | (with_reducible refine rd_mul ?_ ?_)
  | (with_reducible refine rd_mod ?_ ?_)
  | (with_reducible refine rd_fdiv ?_ ?_)
  | (with_reducible refine rd_pow ?_ ?_)
  | (with_reducible refine rd_int1 ?_)
  | (with_reducible refine rd_int1b ?_)
  | (with_reducible refine rd_abs ?_)
  | (with_reducible refine rd_strI ?_ ?_)
  | (with_reducible refine rd_addS ?_ ?_)
  | (with_reducible refine rd_inS ?_)
  | (with_reducible refine rd_notInS ?_)
  | (with_reducible refine rd_isN ?_)
  | (with_reducible refine rd_notN ?_)
  | (with_reducible refine rd_lenS ?_ ?_)
  | (with_reducible refine rd_slS ?_ ?_)
  | (with_reducible refine rd_lc ?_)
  | (with_reducible refine rd_for ?_)
  | (with_reducible refine rd_iStr ?_)
  | (with_reducible refine rd_M1 ?_)
  | (with_reducible refine rd_M0 ?_)
  | (with_reducible refine rd_un ?_)
  | (with_reducible refine rd_neg ?_)
  | (with_reducible refine rd_stx ?_)
  | (with_reducible refine rd_par ?_)
  | (with_reducible refine rd_exP ?_)
  | (with_reducible refine rd_neB ?_)
  | (with_reducible refine rd_gcons ?_)
  | (with_reducible refine rd_gnil ?_)
  | (with_reducible refine rd_mkV ?_)
  | (with_reducible refine rd_mkN ?_)
  | (with_reducible refine rd_lenum ?_)
  | (with_reducible refine rd_xvA ?_)
  | (with_reducible refine rd_bm ?_))

section
variable {P : Program} {w : World} {K : PySem.W.Frag} {mg : Str → Option Value} {base : Heap} {C fI : Nat → Addr} {CN CM : Addr} {fd : Nat → FuncData}
def okD (d : PyData) : Bool := d.showable && (decide (d.depth ≤ 60) && decide (d.shown.length ≤ sizeLine))
def dueD (k : Nat) (d e : PyData) : List PyData := if k = 3 ∨ k = 11 then [d, e] else if k = 0 then [] else [d]
theorem menu_ok : (menu01.all fun d => menu01.all fun e => okD (.list [d, e]) && (okD (.list [d]) && okD (.list []))) = true := by decide +kernel
theorem due_ok {d e : PyData} (h1 : d ∈ menu01) (h2 : e ∈ menu01) (k : Nat) : okD (.list (dueD k d e)) = true := by
  have h := List.all_eq_true.mp (List.all_eq_true.mp menu_ok d h1) e h2
  obtain ⟨a, h⟩ := Bool.and_eq_true_iff.mp h
  obtain ⟨b, c⟩ := Bool.and_eq_true_iff.mp h
  unfold dueD
  by_cases z : k = 3 ∨ k = 11
  · rw [if_pos z]; exact a
  · rw [if_neg z]
    by_cases y : k = 0
    · rw [if_pos y]; exact c
    · rw [if_neg y]; exact b
theorem okD_of {d : PyData} (h : okD d = true) : d.showable = true ∧ d.depth ≤ 60 ∧ d.shown.length ≤ sizeLine := by
  obtain ⟨a, h⟩ := Bool.and_eq_true_iff.mp h
  obtain ⟨b, c⟩ := Bool.and_eq_true_iff.mp h
  exact ⟨a, of_decide_eq_true b, of_decide_eq_true c⟩
theorem due_dq {H : Hp} {a : Addr} {k : Nat} {one two : V} {d e : PyData} (h : H a = some (.lst (due01 k one two))) (f1 : Fl H one d) (f2 : Fl H two e) : Dq K H (.ref a) (.list (dueD k d e)) := by
  refine .lst (sqL_of h) ?_
  unfold due01 dueD
  by_cases z : k = 3 ∨ k = 11
  · rw [if_pos z, if_pos z]; exact .cons f1.dq (.cons f2.dq .nil)
  · rw [if_neg z, if_neg z]
    by_cases y : k = 0
    · rw [if_pos y, if_pos y]; exact .nil
    · rw [if_neg y, if_neg y]; exact .cons f1.dq .nil
theorem PairAt.keep {H H' : Hp} {k : Nat} {t one two : V} (h : PairAt C H k t one two) (s : Same H H') : PairAt C H' k t one two := by
  obtain ⟨T, v, e, e1, e2⟩ := h
  exact ⟨T, v, e, s _ _ e1, e2.keep s⟩
theorem own_list {k : Nat} (h : k < 17) : (List.range 17).filterMap (fun j => if decide (k = j) = true then some (V.int (j : Nat)) else none) = [V.int (k : Nat)] := by
  have : ∀ k, k < 17 → (List.range 17).filterMap (fun j => if decide (k = j) = true then some (V.int (j : Nat)) else none) = [V.int (k : Nat)] := by
    intro k hk
    match k, hk with
    | 0, _ => rfl
    | 1, _ => rfl
    | 2, _ => rfl
    | 3, _ => rfl
    | 4, _ => rfl
    | 5, _ => rfl
    | 6, _ => rfl
    | 7, _ => rfl
    | 8, _ => rfl
    | 9, _ => rfl
    | 10, _ => rfl
    | 11, _ => rfl
    | 12, _ => rfl
    | 13, _ => rfl
    | 14, _ => rfl
    | 15, _ => rfl
    | 16, _ => rfl
    | n + 17, h => exact absurd h (by omega)
  exact this k h
def spLaw (K : PySem.W.Frag) : Sp := fun vs H Q _ => ∃ (a : Addr) (ns : List Int), vs = [.ref a] ∧ SqL K H a (ns.map V.int) ∧ ns.length ≤ 63 ∧ ∀ H', Q (.bl true) H'
theorem ok_law {f f1 f2 f3 f4 f5 f6 f7 : Addr} {fd0 fd1 fd2 fd3 fd4 fd5 fd6 fd7 : FuncData} (F : Fun K "law" "law" s_law f fd0) (T : Tx K mg) (Z : Z01 P w K mg base C fI CN CM fd)
    (C__law_pen : Cal P w K mg base 1 "_law_pen" s__law_pen ["_law_script"] (spPen K) f1 fd1)
    (C__law_thing : Cal P w K mg base 3 "_law_thing" s__law_thing ["_law_pen_here"] spThing f2 fd2)
    (C__law_made : Cal P w K mg base 4 "_law_made" s__law_made ["_law_one", "_law_two"] (spMade C) f3 fd3)
    (C__law_named : Cal P w K mg base 4 "_law_named" s__law_named ["_law_one", "_law_two"] (spNamed C) f4 fd4)
    (C__law_fields : Cal P w K mg base 2 "_law_fields" s__law_fields ["_law_k", "_law_caught"] (spFields C) f5 fd5)
    (C__law_own : Cal P w K mg base 2 "_law_own" s__law_own ["_law_caught"] (spOwn K C) f6 fd6)
    (C__law_is_based : Cal P w K mg base 2 "_law_is_based" s__law_is_based ["_law_k", "_law_caught"] (spBased C) f7 fd7) :
    FnG P w K mg base CX0 5 f fd0 ["_law_script"] (spLaw K) := by
  refine okG F sc_law (fun vs H Q E h => ?_) (fun cdv A outer s H vs Q E hrG h => ?_)
  · obtain ⟨a, ns, rfl, _⟩ := h
    rfl
  · obtain ⟨a, ns, rfl, hs, hl, k⟩ := h
    have hg := hrG.g
    have hr := hrG.r
    have E_NetError := Z.eN
    have E_MissingError := Z.eM
    refine ⟨_, (pss_cons (ps_set (i := 1) sc_law.nd rfl (by first | exact Or.inl rfl | exact Or.inr rfl) (pe_call C__law_pen.G (hr.mono (by decide)) (by rfl) C__law_pen.g C__law_pen.F.kp C__law_pen.b .nil pass0 (pa_cons (pv 0) pa_nil)))
      (pss_cons (ps_for PassesOwn.never rfl (pi_range1 (by rfl) T.b_range (pa_cons pe_int pa_nil)) (pg_name (i := 2) sc_law.nd rfl (by first | exact Or.inl rfl | exact Or.inr rfl))
      (pss_cons (ps_par (i := 3) (j := 4) rfl sc_law.nd rfl rfl (by decide) rfl rfl (pa_cons (pe_call C__law_thing.G (hr.mono (by decide)) (by rfl) C__law_thing.g C__law_thing.F.kp C__law_thing.b .nil pass0 (pa_cons (pv 1) pa_nil)) (pa_cons (pe_call C__law_thing.G (hr.mono (by decide)) (by rfl) C__law_thing.g C__law_thing.F.kp C__law_thing.b .nil pass0 (pa_cons (pv 1) pa_nil)) pa_nil)) rfl)
      (pss_one (ps_for PassesOwn.never rfl (pi_list (pe_op op_cat (pe_lenum rfl (by rfl) T.b_list (by rfl) T.b_enumerate (pe_call C__law_made.G (hr.mono (by decide)) (by rfl) C__law_made.g C__law_made.F.kp C__law_made.b .nil pass0 (pa_cons (pv 3) (pa_cons (pv 4) pa_nil)))) (pe_call C__law_named.G (hr.mono (by decide)) (by rfl) C__law_named.g C__law_named.F.kp C__law_named.b .nil pass0 (pa_cons (pv 3) (pa_cons (pv 4) pa_nil))))) (pg_tup rfl (pgs_cons (pg_name (i := 5) sc_law.nd rfl (by first | exact Or.inl rfl | exact Or.inr rfl)) (pgs_cons (pg_name (i := 6) sc_law.nd rfl (by first | exact Or.inl rfl | exact Or.inr rfl)) pgs_nil)))
      (pss_cons (ps_set (i := 7) sc_law.nd rfl (by first | exact Or.inl rfl | exact Or.inr rfl) (pe_ifExp (pt_cmpR op_in_seq (pv 5) (pe_tup (pa_cons pe_int (pa_cons pe_int pa_nil))) rfl) (pe_lst (pa_cons (pv 3) (pa_cons (pv 4) pa_nil))) (pe_op op_rep (pe_lst (pa_cons (pv 3) pa_nil)) (pe_callTy cr_int1 (by rfl) T.b_int (by decide +kernel) (pa_cons (pe_cmpR op_gt (pv 5) pe_int (nomark _)) pa_nil)))))
      (pss_cons (ps_if (pt_cmpR op_ne (pe_callB (cr_reprQ hg hr.units) (by rfl) T.b_repr (by decide +kernel) (pa_cons (pe_call C__law_fields.G (hr.mono (by decide)) (by rfl) C__law_fields.g C__law_fields.F.kp C__law_fields.b .nil pass0 (pa_cons (pv 5) (pa_cons (pv 6) pa_nil))) pa_nil)) (pe_callB (cr_reprQ hg hr.units) (by rfl) T.b_repr (by decide +kernel) (pa_cons (pv 7) pa_nil)) (nomark _)) (pss_one (ps_ret pe_bl)) pss_nil)
      (pss_one (ps_if (PW.pt (pw_or (pt_cmpR (op_neD hr.units) (pe_call C__law_own.G (hr.mono (by decide)) (by rfl) C__law_own.g C__law_own.F.kp C__law_own.b .nil pass0 (pa_cons (pv 6) pa_nil)) (pe_lst (pa_cons (pv 5) pa_nil)) (nomark _)) (pw_or1 (pt_not (pt_val (pe_call C__law_is_based.G (hr.mono (by decide)) (by rfl) C__law_is_based.g C__law_is_based.F.kp C__law_is_based.b .nil pass0 (pa_cons (pv 5) (pa_cons (pv 6) pa_nil)))))))) (pss_one (ps_ret pe_bl)) pss_nil))))))))
      (pss_cons (ps_par (i := 8) (j := 9) rfl sc_law.nd rfl rfl (by decide) rfl rfl (pa_cons (pe_mk0 PySem.F.excBase_ValueError E_NetError.q E_NetError.k (by rfl) E_NetError.g) (pa_cons (pe_mk0 PySem.F.excBase_LookupError E_MissingError.q E_MissingError.k (by rfl) E_MissingError.g) pa_nil)) rfl)
      (pss_cons (ps_if (PW.pt (pw_or (pt_not (pt_val (pe_callB call_isX (by rfl) T.b_isinstance (by decide +kernel) (pa_cons (pv 8) (pa_cons (pe_bltn (v := .ty "ValueError") (by rfl) T.b_ValueError (by decide +kernel) rfl) pa_nil))))) (pw_or1 (pt_not (pt_val (pe_callB call_isX (by rfl) T.b_isinstance (by decide +kernel) (pa_cons (pv 9) (pa_cons (pe_bltn (v := .ty "LookupError") (by rfl) T.b_LookupError (by decide +kernel) rfl) pa_nil)))))))) (pss_one (ps_ret pe_bl)) pss_nil)
      (pss_one (ps_ret (pe_and (pe_cmpR (op_eqD hr.units) (pe_call C__law_own.G (hr.mono (by decide)) (by rfl) C__law_own.g C__law_own.F.kp C__law_own.b .nil pass0 (pa_cons (pv 8) pa_nil)) (pe_lst pa_nil) (nomark _)) (pe_one (pe_cmpR (op_eqD hr.units) (pe_call C__law_own.G (hr.mono (by decide)) (by rfl) C__law_own.g C__law_own.F.kp C__law_own.b .nil pass0 (pa_cons (pv 9) pa_nil)) (pe_lst pa_nil) (nomark _)))))))))), ?_⟩
    repeat walk_at "r"
    refine ⟨a, ns, rfl, hs, hl, fun p q H1 n1 s1 hp1 => ?_⟩
    repeat walk_at "r"
    refine ⟨by decide, by decide, ?_⟩
    refine for_range (lo := 0) (fun i σ' H' => ∃ v2 v3 v4 v5 v6 v7, σ' = [some (.ref a), some (.ref p), v2, v3, v4, v5, v6, v7, none, none] ∧ PenAt (2 * i) H' p q) ⟨none, none, none, none, none, none, rfl, hp1⟩ (fun i σ' H2 hi I => ?_) (fun σ' H2 I => ?_)
    · obtain ⟨v2, v3, v4, v5, v6, v7, rfl, hp2⟩ := I
      have hi4 : i < 4 := hi
      repeat walk_at "r"
      refine ⟨p, q, 2 * i, rfl, by omega, hp2, fun one d1 H3 fl1 of1 m1 b3 hp3 => ?_⟩
      repeat walk_at "r"
      refine ⟨p, q, _, rfl, by omega, hp3, fun two d2 H4 fl2 of2 m2 b4 hp4 => ?_⟩
      have fl1' := fl1.but of1 b4
      repeat walk_at "r"
      refine ⟨one, two, rfl, fun pm H5 xs n5 s5 h5 l5 x5 => ?_⟩
      repeat walk_at "r"
      refine ⟨pm, xs, rfl, sqL_of h5, by omega, fun S vs H6 n6 s6 h6 l6 en => ?_⟩
      repeat walk_at "r"
      refine ⟨one, two, rfl, fun pn H7 ts n7 s7 h7 l7 x7 => ?_⟩
      repeat walk_at "r"
      refine rd_cat (s7 _ _ h6) h7 (by omega) fun py H8 n8 s8 h8 => ?_
      repeat walk_at "r"
      refine ⟨⟨_, sqL_of h8⟩, ?_⟩
      have S8 : Same H4 H8 := ((s5.trans s6).trans s7).trans s8
      have hp8 := hp4.keep S8
      have F1 := fl1'.keep S8
      have F2 := fl2.keep S8
      have pairs : ∀ t ∈ vs ++ ts, ∃ k, PairAt C H8 k t one two := by
        intro t ht
        rcases List.mem_append.mp ht with ht | ht
        · obtain ⟨j, hj⟩ := List.mem_iff_getElem?.mp ht
          obtain ⟨T, x, e1, e2, e3⟩ := en j t hj
          exact ⟨j, T, x, e1, (s7.trans s8) _ _ e3, ((x5 j x e2).keep s6).keep (s7.trans s8)⟩
        · obtain ⟨j, hj⟩ := List.mem_iff_getElem?.mp ht
          exact ⟨j + 1, (x7 j t hj).keep s8⟩
      refine for_list (K := K) (a := py) (xs := vs ++ ts)
        (fun j σ' H' => ∃ v5 v6 v7, σ' = [some (.ref a), some (.ref p), some (.int (0 + (i : Int))), some one, some two, v5, v6, v7, none, none] ∧ Same H8 H')
        ⟨_, _, _, rfl, Same.refl _⟩ (fun j σ' H' _ I => ?_) (fun j t σ' H9 ht I => ?_) (fun σ' H9 I => ?_)
      · obtain ⟨_, _, _, _, sm⟩ := I
        exact sqL_of (sm _ _ h8)
      · obtain ⟨v5, v6, v7, rfl, sm⟩ := I
        obtain ⟨kk, TT, v, rfl, hT, hv⟩ := pairs t (List.mem_of_getElem? ht)
        have hv9 := hv.keep sm
        have k17 := hv.1
        refine rd_gtup (sm _ _ hT) rfl ?_
        repeat walk_at "r"
        refine new_tup (by show 2 ≤ sizeLine; decide) fun t1 H10 n10 s10 h10 => ?_
        repeat walk_at "r"
        refine rd_inI [3, 11] h10 ?_
        repeat walk_at "r"
        refine rd_ifJ (fun x Hd => ∃ pd, x = .ref pd ∧ Same H9 Hd ∧ Hd pd = some (.lst (due01 kk one two))) (fun Q1 hQ c => ?_) (fun Q1 hQ c => ?_) (fun x Hd hd => ?_)
        · have c' := of_decide_eq_true c
          simp only [List.mem_cons, List.not_mem_nil, or_false] at c'
          repeat walk_at "r"
          refine new_lst (by show 2 ≤ sizeLine; decide) fun pd H11 n11 s11 h11 => ?_
          refine hQ _ _ ⟨pd, rfl, s10.trans s11, ?_⟩
          rw [h11]
          unfold due01
          rw [if_pos (by omega)]
        · have c' := of_decide_eq_false c
          simp only [List.mem_cons, List.not_mem_nil, or_false, not_or] at c'
          repeat walk_at "r"
          refine new_lst (by show 1 ≤ sizeLine; decide) fun pa H11 n11 s11 h11 => ?_
          repeat walk_at "r"
          by_cases z : kk = 0
          · subst z
            refine rd_rep h11 (by decide) (by decide) (by simp) fun pd H12 n12 s12 h12 => ?_
            exact hQ _ _ ⟨pd, rfl, (s10.trans s11).trans s12, h12⟩
          · have e1 : (if decide ((0 : Int) < (kk : Int)) = true then (1 : Int) else 0) = 1 := if_pos (decide_eq_true (by omega))
            rw [e1]
            refine rd_rep h11 (by decide) (by decide) (by simp) fun pd H12 n12 s12 h12 => ?_
            refine hQ _ _ ⟨pd, rfl, (s10.trans s11).trans s12, ?_⟩
            rw [h12]
            unfold due01
            rw [if_neg (by omega), if_neg z]
            rfl
        · obtain ⟨pd, rfl, sd, hd⟩ := hd
          repeat walk_at "r"
          refine ⟨kk, v, one, two, rfl, hv9.keep sd, fun pf Hf nf sf hf => ?_⟩
          have fa := (F1.keep sm).keep (sd.trans sf)
          have fb := (F2.keep sm).keep (sd.trans sf)
          obtain ⟨o1, o2, o3⟩ := okD_of (due_ok m1 m2 kk)
          repeat walk_at "r"
          refine rd_reprQ (due_dq hf fa fb) o1 o2 o3 ?_
          repeat walk_at "r"
          refine rd_reprQ (due_dq (sf _ _ hd) fa fb) o1 o2 o3 ?_
          repeat walk_at "r"
          refine rd_decN (fun c => absurd rfl c) fun _ => ?_
          have Sf := sd.trans sf
          repeat walk_at "r"
          refine ⟨v, C kk, fun j => decide (kk = j), rfl, (hv9.keep Sf).any, Z.T kk k17, fun j hj => Z.kk kk j k17 hj, fun po Ho no so ho => ?_⟩
          rw [own_list k17] at ho
          repeat walk_at "r"
          refine new_lst (by show 1 ≤ sizeLine; decide) fun pz Hz nz sz hz => ?_
          refine rd_neD (d := .list [.int kk]) (e := .list [.int kk]) (.lst (sqL_of (sz _ _ ho)) (.cons (.int _) .nil)) (.lst (sqL_of hz) (.cons (.int _) .nil)) rfl rfl ?_
          have ev : PyData.eqv (.list [.int (kk : Nat)]) (.list [.int (kk : Nat)]) = true := by simp [PyData.eqv, PyData.eqvAll]
          rw [ev]
          repeat walk_at "r"
          have Sz := ((Sf.trans so).trans sz)
          refine ⟨kk, v, one, two, rfl, hv9.keep Sz, fun Hw sw => ?_⟩
          repeat walk_at "r"
          exact ⟨_, _, _, rfl, sm.trans (Sz.trans sw)⟩
      · obtain ⟨v5, v6, v7, rfl, sm⟩ := I
        exact ⟨_, _, _, _, _, _, rfl, (hp8.keep sm).mono (by omega)⟩
    · obtain ⟨v2, v3, v4, v5, v6, v7, rfl, hp2⟩ := I
      repeat walk_at "r"
      refine rd_mk0 fun vp H3 s3 e3 => ?_
      repeat walk_at "r"
      refine rd_mk0 fun vg H4 s4 e4 => ?_
      have e3' := e3.keep s4
      repeat walk_at "r"
      refine isx_ty (.inl e3') Z.eN.T Z.kNV ?_
      repeat walk_at "r"
      refine isx_ty (.inl e4) Z.eM.T Z.kML ?_
      repeat walk_at "r"
      refine ⟨vp, CN, fun _ => false, rfl, .inl e3', Z.eN.T, Z.kNn, fun p5 H5 n5 s5 h5 => ?_⟩
      repeat walk_at "r"
      refine new_lst (by decide) fun p6 H6 n6 s6 h6 => ?_
      refine rd_eqD (d := .list []) (e := .list []) (dp_nil (s6 _ _ h5)) (dp_nil h6) rfl rfl ?_
      refine ⟨_, rfl, ?_⟩
      refine rd_iteT rfl ?_
      repeat walk_at "r"
      refine ⟨vg, CM, fun _ => false, rfl, .inl ((e4.keep s5).keep s6), Z.eM.T, Z.kMn, fun p7 H7 n7 s7 h7 => ?_⟩
      repeat walk_at "r"
      refine new_lst (by decide) fun p8 H8 n8 s8 h8 => ?_
      refine rd_eqD (d := .list []) (e := .list []) (dp_nil (s8 _ _ h7)) (dp_nil h8) rfl rfl ?_
      exact k H8
end

end My

namespace My
open PySem PySem.Spec PyProof.Rows L2 EE
theorem row_at {K : PySem.W.Frag} {L : List Addr} {c : Value} {T : List (Option Bool)} (h : L.map (fun i => PySem.W.kitOne K c (.ref i)) = T) {i : Nat} (hi : i < L.length) : PySem.W.kitOne K c (.ref (L.getD i 0)) = T.getD i none := by
  rw [← h, List.getD_eq_getElem?_getD, List.getD_eq_getElem?_getD, List.getElem?_map, List.getElem?_eq_getElem hi]
  rfl
theorem all_mk {P : Program} {w : World} {K : PySem.W.Frag} {h : Heap} {mg : Str → Option Value} {fa : Addr} (X : K.In h) (G : h.Ns mainGlobals mg) (hfa : mg "law" = some (.ref fa))
    {CN CM : Addr} {C0 : Addr} {C1 : Addr} {fC1 : Addr} {odC1 anC1 : Option Addr} {slC1 : Array (Option Value)} {ocC1 kVC1 dcC1 pmC1 cdC1 ctC1 : Value} {C2 : Addr} {fC2 : Addr} {odC2 anC2 : Option Addr} {slC2 : Array (Option Value)} {ocC2 kVC2 dcC2 pmC2 cdC2 ctC2 : Value} {C3 : Addr} {fC3 : Addr} {odC3 anC3 : Option Addr} {slC3 : Array (Option Value)} {ocC3 kVC3 dcC3 pmC3 cdC3 ctC3 : Value} {C4 : Addr} {fC4 : Addr} {odC4 anC4 : Option Addr} {slC4 : Array (Option Value)} {ocC4 kVC4 dcC4 pmC4 cdC4 ctC4 : Value} {C5 : Addr} {fC5 : Addr} {odC5 anC5 : Option Addr} {slC5 : Array (Option Value)} {ocC5 kVC5 dcC5 pmC5 cdC5 ctC5 : Value} {C6 : Addr} {fC6 : Addr} {odC6 anC6 : Option Addr} {slC6 : Array (Option Value)} {ocC6 kVC6 dcC6 pmC6 cdC6 ctC6 : Value} {C7 : Addr} {fC7 : Addr} {odC7 anC7 : Option Addr} {slC7 : Array (Option Value)} {ocC7 kVC7 dcC7 pmC7 cdC7 ctC7 : Value} {C8 : Addr} {fC8 : Addr} {odC8 anC8 : Option Addr} {slC8 : Array (Option Value)} {ocC8 kVC8 dcC8 pmC8 cdC8 ctC8 : Value} {C9 : Addr} {fC9 : Addr} {odC9 anC9 : Option Addr} {slC9 : Array (Option Value)} {ocC9 kVC9 dcC9 pmC9 cdC9 ctC9 : Value} {C10 : Addr} {fC10 : Addr} {odC10 anC10 : Option Addr} {slC10 : Array (Option Value)} {ocC10 kVC10 dcC10 pmC10 cdC10 ctC10 : Value} {C11 : Addr} {fC11 : Addr} {odC11 anC11 : Option Addr} {slC11 : Array (Option Value)} {ocC11 kVC11 dcC11 pmC11 cdC11 ctC11 : Value} {C12 : Addr} {fC12 : Addr} {odC12 anC12 : Option Addr} {slC12 : Array (Option Value)} {ocC12 kVC12 dcC12 pmC12 cdC12 ctC12 : Value} {C13 : Addr} {fC13 : Addr} {odC13 anC13 : Option Addr} {slC13 : Array (Option Value)} {ocC13 kVC13 dcC13 pmC13 cdC13 ctC13 : Value} {C14 : Addr} {fC14 : Addr} {odC14 anC14 : Option Addr} {slC14 : Array (Option Value)} {ocC14 kVC14 dcC14 pmC14 cdC14 ctC14 : Value} {C15 : Addr} {fC15 : Addr} {odC15 anC15 : Option Addr} {slC15 : Array (Option Value)} {ocC15 kVC15 dcC15 pmC15 cdC15 ctC15 : Value} {C16 : Addr} {fC16 : Addr} {odC16 anC16 : Option Addr} {slC16 : Array (Option Value)} {ocC16 kVC16 dcC16 pmC16 cdC16 ctC16 : Value} {f0 : Addr} {od0 an0 : Option Addr} {sl0 : Array (Option Value)} {oc0 kV0 dc0 pm0 cd0 ct0 : Value} {f1 : Addr} {od1 an1 : Option Addr} {sl1 : Array (Option Value)} {oc1 kV1 dc1 pm1 cd1 ct1 : Value} {f2 : Addr} {od2 an2 : Option Addr} {sl2 : Array (Option Value)} {oc2 kV2 dc2 pm2 cd2 ct2 : Value} {f3 : Addr} {od3 an3 : Option Addr} {sl3 : Array (Option Value)} {oc3 kV3 dc3 pm3 cd3 ct3 : Value} {f4 : Addr} {od4 an4 : Option Addr} {sl4 : Array (Option Value)} {oc4 kV4 dc4 pm4 cd4 ct4 : Value} {f5 : Addr} {od5 an5 : Option Addr} {sl5 : Array (Option Value)} {oc5 kV5 dc5 pm5 cd5 ct5 : Value} {f6 : Addr} {od6 an6 : Option Addr} {sl6 : Array (Option Value)} {oc6 kV6 dc6 pm6 cd6 ct6 : Value} {f7 : Addr} {od7 an7 : Option Addr} {sl7 : Array (Option Value)} {oc7 kV7 dc7 pm7 cd7 ct7 : Value} {f8 : Addr} {od8 an8 : Option Addr} {sl8 : Array (Option Value)} {oc8 kV8 dc8 pm8 cd8 ct8 : Value} {f9 : Addr} {od9 an9 : Option Addr} {sl9 : Array (Option Value)} {oc9 kV9 dc9 pm9 cd9 ct9 : Value}
        (a0 : PySem.W.nsIn K mainGlobals "_law_pen" = some (some (.ref f0)))
    (l0 : K.lookup f0 = some ⟨oc0, od0, .func (PySem.W.fnOf "_law_pen" "_law_pen" (defArgs s__law_pen) (defBody s__law_pen) (defScope s__law_pen) .none kV0 dc0 pm0 an0 cd0 ct0), sl0⟩)
    (c0 : PySem.W.codeIn K cd0 "_law_pen" = true)
    (k0 : PySem.W.keepIn K (.ref f0) = true)
    (a1 : PySem.W.nsIn K mainGlobals "_law_draw" = some (some (.ref f1)))
    (l1 : K.lookup f1 = some ⟨oc1, od1, .func (PySem.W.fnOf "_law_draw" "_law_draw" (defArgs s__law_draw) (defBody s__law_draw) (defScope s__law_draw) .none kV1 dc1 pm1 an1 cd1 ct1), sl1⟩)
    (c1 : PySem.W.codeIn K cd1 "_law_draw" = true)
    (k1 : PySem.W.keepIn K (.ref f1) = true)
    (a2 : PySem.W.nsIn K mainGlobals "_law_pick" = some (some (.ref f2)))
    (l2 : K.lookup f2 = some ⟨oc2, od2, .func (PySem.W.fnOf "_law_pick" "_law_pick" (defArgs s__law_pick) (defBody s__law_pick) (defScope s__law_pick) .none kV2 dc2 pm2 an2 cd2 ct2), sl2⟩)
    (c2 : PySem.W.codeIn K cd2 "_law_pick" = true)
    (k2 : PySem.W.keepIn K (.ref f2) = true)
    (a3 : PySem.W.nsIn K mainGlobals "_law_thing" = some (some (.ref f3)))
    (l3 : K.lookup f3 = some ⟨oc3, od3, .func (PySem.W.fnOf "_law_thing" "_law_thing" (defArgs s__law_thing) (defBody s__law_thing) (defScope s__law_thing) .none kV3 dc3 pm3 an3 cd3 ct3), sl3⟩)
    (c3 : PySem.W.codeIn K cd3 "_law_thing" = true)
    (k3 : PySem.W.keepIn K (.ref f3) = true)
    (a4 : PySem.W.nsIn K mainGlobals "_law_made" = some (some (.ref f4)))
    (l4 : K.lookup f4 = some ⟨oc4, od4, .func (PySem.W.fnOf "_law_made" "_law_made" (defArgs s__law_made) (defBody s__law_made) (defScope s__law_made) .none kV4 dc4 pm4 an4 cd4 ct4), sl4⟩)
    (c4 : PySem.W.codeIn K cd4 "_law_made" = true)
    (k4 : PySem.W.keepIn K (.ref f4) = true)
    (a5 : PySem.W.nsIn K mainGlobals "_law_named" = some (some (.ref f5)))
    (l5 : K.lookup f5 = some ⟨oc5, od5, .func (PySem.W.fnOf "_law_named" "_law_named" (defArgs s__law_named) (defBody s__law_named) (defScope s__law_named) .none kV5 dc5 pm5 an5 cd5 ct5), sl5⟩)
    (c5 : PySem.W.codeIn K cd5 "_law_named" = true)
    (k5 : PySem.W.keepIn K (.ref f5) = true)
    (a6 : PySem.W.nsIn K mainGlobals "_law_fields" = some (some (.ref f6)))
    (l6 : K.lookup f6 = some ⟨oc6, od6, .func (PySem.W.fnOf "_law_fields" "_law_fields" (defArgs s__law_fields) (defBody s__law_fields) (defScope s__law_fields) .none kV6 dc6 pm6 an6 cd6 ct6), sl6⟩)
    (c6 : PySem.W.codeIn K cd6 "_law_fields" = true)
    (k6 : PySem.W.keepIn K (.ref f6) = true)
    (a7 : PySem.W.nsIn K mainGlobals "_law_own" = some (some (.ref f7)))
    (l7 : K.lookup f7 = some ⟨oc7, od7, .func (PySem.W.fnOf "_law_own" "_law_own" (defArgs s__law_own) (defBody s__law_own) (defScope s__law_own) .none kV7 dc7 pm7 an7 cd7 ct7), sl7⟩)
    (c7 : PySem.W.codeIn K cd7 "_law_own" = true)
    (k7 : PySem.W.keepIn K (.ref f7) = true)
    (a8 : PySem.W.nsIn K mainGlobals "_law_is_based" = some (some (.ref f8)))
    (l8 : K.lookup f8 = some ⟨oc8, od8, .func (PySem.W.fnOf "_law_is_based" "_law_is_based" (defArgs s__law_is_based) (defBody s__law_is_based) (defScope s__law_is_based) .none kV8 dc8 pm8 an8 cd8 ct8), sl8⟩)
    (c8 : PySem.W.codeIn K cd8 "_law_is_based" = true)
    (k8 : PySem.W.keepIn K (.ref f8) = true)
    (a9 : PySem.W.nsIn K mainGlobals "law" = some (some (.ref f9)))
    (l9 : K.lookup f9 = some ⟨oc9, od9, .func (PySem.W.fnOf "law" "law" (defArgs s_law) (defBody s_law) (defScope s_law) .none kV9 dc9 pm9 an9 cd9 ct9), sl9⟩)
    (c9 : PySem.W.codeIn K cd9 "law" = true)
    (k9 : PySem.W.keepIn K (.ref f9) = true)
    (z0 : PySem.W.nsIn K mainGlobals "int" = some none)
    (z1 : PySem.W.nsIn K mainGlobals "len" = some none)
    (z2 : PySem.W.nsIn K mainGlobals "abs" = some none)
    (z3 : PySem.W.nsIn K mainGlobals "list" = some none)
    (z4 : PySem.W.nsIn K mainGlobals "isinstance" = some none)
    (z5 : PySem.W.nsIn K mainGlobals "range" = some none)
    (z6 : PySem.W.nsIn K mainGlobals "repr" = some none)
    (z7 : PySem.W.nsIn K mainGlobals "enumerate" = some none)
    (z8 : PySem.W.nsIn K mainGlobals "ValueError" = some none)
    (z9 : PySem.W.nsIn K mainGlobals "LookupError" = some none)
    (z10 : PySem.W.nsIn K mainGlobals "OverflowError" = some none)
    (z11 : PySem.W.nsIn K mainGlobals "IndexError" = some none)
    (gCN : PySem.W.nsIn K mainGlobals "NetError" = some (some (.ref CN)))
    (xCN : exB K CN [.type "ValueError", .type "Exception", .type "BaseException", .type "object"] "ValueError.__new__" = true)
    (qCN : PySem.W.excIn K CN [.type "ValueError", .type "Exception", .type "BaseException", .type "object"] "ValueError.__new__" = true)
    (gCM : PySem.W.nsIn K mainGlobals "MissingError" = some (some (.ref CM)))
    (xCM : exB K CM [.type "LookupError", .type "Exception", .type "BaseException", .type "object"] "LookupError.__new__" = true)
    (qCM : PySem.W.excIn K CM [.type "LookupError", .type "Exception", .type "BaseException", .type "object"] "LookupError.__new__" = true)
    (gC0 : PySem.W.nsIn K mainGlobals "InvalidVector" = some (some (.ref C0)))
    (xC0 : exB K C0 [.type "ValueError", .type "Exception", .type "BaseException", .type "object"] "ValueError.__new__" = true)
    (qC0 : PySem.W.excIn K C0 [.type "ValueError", .type "Exception", .type "BaseException", .type "object"] "ValueError.__new__" = true)
    (gC1 : PySem.W.nsIn K mainGlobals "InvalidBook" = some (some (.ref C1)))
    (xC1 : exB K C1 [.type "ValueError", .type "Exception", .type "BaseException", .type "object"] "ValueError.__new__" = true)
    (iC1 : PySem.W.findIn K (.ref C1) "__init__" = some (some (.ref fC1)))
    (tC1 : PySem.W.typeIn K (.ref fC1) = some (.type "function"))
    (lC1 : K.lookup fC1 = some ⟨ocC1, odC1, .func (PySem.W.fnOf "__init__" "InvalidBook.__init__" (defArgs s_InvalidBook___init__) (defBody s_InvalidBook___init__) (defScope s_InvalidBook___init__) .none kVC1 dcC1 pmC1 anC1 cdC1 ctC1), slC1⟩)
    (cC1 : PySem.W.codeIn K cdC1 "InvalidBook.__init__" = true)
    (kC1 : PySem.W.keepIn K (.ref fC1) = true)
    (n1reason : PySem.W.findIn K (.ref C1) "reason" = some none)
    (gC2 : PySem.W.nsIn K mainGlobals "InvalidPart" = some (some (.ref C2)))
    (xC2 : exB K C2 [.type "ValueError", .type "Exception", .type "BaseException", .type "object"] "ValueError.__new__" = true)
    (iC2 : PySem.W.findIn K (.ref C2) "__init__" = some (some (.ref fC2)))
    (tC2 : PySem.W.typeIn K (.ref fC2) = some (.type "function"))
    (lC2 : K.lookup fC2 = some ⟨ocC2, odC2, .func (PySem.W.fnOf "__init__" "InvalidPart.__init__" (defArgs s_InvalidPart___init__) (defBody s_InvalidPart___init__) (defScope s_InvalidPart___init__) .none kVC2 dcC2 pmC2 anC2 cdC2 ctC2), slC2⟩)
    (cC2 : PySem.W.codeIn K cdC2 "InvalidPart.__init__" = true)
    (kC2 : PySem.W.keepIn K (.ref fC2) = true)
    (n2reason : PySem.W.findIn K (.ref C2) "reason" = some none)
    (gC3 : PySem.W.nsIn K mainGlobals "InvalidNet" = some (some (.ref C3)))
    (xC3 : exB K C3 [.type "ValueError", .type "Exception", .type "BaseException", .type "object"] "ValueError.__new__" = true)
    (iC3 : PySem.W.findIn K (.ref C3) "__init__" = some (some (.ref fC3)))
    (tC3 : PySem.W.typeIn K (.ref fC3) = some (.type "function"))
    (lC3 : K.lookup fC3 = some ⟨ocC3, odC3, .func (PySem.W.fnOf "__init__" "InvalidNet.__init__" (defArgs s_InvalidNet___init__) (defBody s_InvalidNet___init__) (defScope s_InvalidNet___init__) .none kVC3 dcC3 pmC3 anC3 cdC3 ctC3), slC3⟩)
    (cC3 : PySem.W.codeIn K cdC3 "InvalidNet.__init__" = true)
    (kC3 : PySem.W.keepIn K (.ref fC3) = true)
    (n3reason : PySem.W.findIn K (.ref C3) "reason" = some none)
    (n3name : PySem.W.findIn K (.ref C3) "name" = some none)
    (gC4 : PySem.W.nsIn K mainGlobals "InvalidCourse" = some (some (.ref C4)))
    (xC4 : exB K C4 [.type "ValueError", .type "Exception", .type "BaseException", .type "object"] "ValueError.__new__" = true)
    (iC4 : PySem.W.findIn K (.ref C4) "__init__" = some (some (.ref fC4)))
    (tC4 : PySem.W.typeIn K (.ref fC4) = some (.type "function"))
    (lC4 : K.lookup fC4 = some ⟨ocC4, odC4, .func (PySem.W.fnOf "__init__" "InvalidCourse.__init__" (defArgs s_InvalidCourse___init__) (defBody s_InvalidCourse___init__) (defScope s_InvalidCourse___init__) .none kVC4 dcC4 pmC4 anC4 cdC4 ctC4), slC4⟩)
    (cC4 : PySem.W.codeIn K cdC4 "InvalidCourse.__init__" = true)
    (kC4 : PySem.W.keepIn K (.ref fC4) = true)
    (n4reason : PySem.W.findIn K (.ref C4) "reason" = some none)
    (gC5 : PySem.W.nsIn K mainGlobals "InvalidWeighting" = some (some (.ref C5)))
    (xC5 : exB K C5 [.type "ValueError", .type "Exception", .type "BaseException", .type "object"] "ValueError.__new__" = true)
    (iC5 : PySem.W.findIn K (.ref C5) "__init__" = some (some (.ref fC5)))
    (tC5 : PySem.W.typeIn K (.ref fC5) = some (.type "function"))
    (lC5 : K.lookup fC5 = some ⟨ocC5, odC5, .func (PySem.W.fnOf "__init__" "InvalidWeighting.__init__" (defArgs s_InvalidWeighting___init__) (defBody s_InvalidWeighting___init__) (defScope s_InvalidWeighting___init__) .none kVC5 dcC5 pmC5 anC5 cdC5 ctC5), slC5⟩)
    (cC5 : PySem.W.codeIn K cdC5 "InvalidWeighting.__init__" = true)
    (kC5 : PySem.W.keepIn K (.ref fC5) = true)
    (n5reason : PySem.W.findIn K (.ref C5) "reason" = some none)
    (gC6 : PySem.W.nsIn K mainGlobals "InvalidDeed" = some (some (.ref C6)))
    (xC6 : exB K C6 [.type "ValueError", .type "Exception", .type "BaseException", .type "object"] "ValueError.__new__" = true)
    (iC6 : PySem.W.findIn K (.ref C6) "__init__" = some (some (.ref fC6)))
    (tC6 : PySem.W.typeIn K (.ref fC6) = some (.type "function"))
    (lC6 : K.lookup fC6 = some ⟨ocC6, odC6, .func (PySem.W.fnOf "__init__" "InvalidDeed.__init__" (defArgs s_InvalidDeed___init__) (defBody s_InvalidDeed___init__) (defScope s_InvalidDeed___init__) .none kVC6 dcC6 pmC6 anC6 cdC6 ctC6), slC6⟩)
    (cC6 : PySem.W.codeIn K cdC6 "InvalidDeed.__init__" = true)
    (kC6 : PySem.W.keepIn K (.ref fC6) = true)
    (n6reason : PySem.W.findIn K (.ref C6) "reason" = some none)
    (gC7 : PySem.W.nsIn K mainGlobals "InvalidItem" = some (some (.ref C7)))
    (xC7 : exB K C7 [.type "ValueError", .type "Exception", .type "BaseException", .type "object"] "ValueError.__new__" = true)
    (iC7 : PySem.W.findIn K (.ref C7) "__init__" = some (some (.ref fC7)))
    (tC7 : PySem.W.typeIn K (.ref fC7) = some (.type "function"))
    (lC7 : K.lookup fC7 = some ⟨ocC7, odC7, .func (PySem.W.fnOf "__init__" "InvalidItem.__init__" (defArgs s_InvalidItem___init__) (defBody s_InvalidItem___init__) (defScope s_InvalidItem___init__) .none kVC7 dcC7 pmC7 anC7 cdC7 ctC7), slC7⟩)
    (cC7 : PySem.W.codeIn K cdC7 "InvalidItem.__init__" = true)
    (kC7 : PySem.W.keepIn K (.ref fC7) = true)
    (n7index : PySem.W.findIn K (.ref C7) "index" = some none)
    (gC8 : PySem.W.nsIn K mainGlobals "InvalidCosts" = some (some (.ref C8)))
    (xC8 : exB K C8 [.type "ValueError", .type "Exception", .type "BaseException", .type "object"] "ValueError.__new__" = true)
    (iC8 : PySem.W.findIn K (.ref C8) "__init__" = some (some (.ref fC8)))
    (tC8 : PySem.W.typeIn K (.ref fC8) = some (.type "function"))
    (lC8 : K.lookup fC8 = some ⟨ocC8, odC8, .func (PySem.W.fnOf "__init__" "InvalidCosts.__init__" (defArgs s_InvalidCosts___init__) (defBody s_InvalidCosts___init__) (defScope s_InvalidCosts___init__) .none kVC8 dcC8 pmC8 anC8 cdC8 ctC8), slC8⟩)
    (cC8 : PySem.W.codeIn K cdC8 "InvalidCosts.__init__" = true)
    (kC8 : PySem.W.keepIn K (.ref fC8) = true)
    (n8name : PySem.W.findIn K (.ref C8) "name" = some none)
    (gC9 : PySem.W.nsIn K mainGlobals "InvalidCount" = some (some (.ref C9)))
    (xC9 : exB K C9 [.type "ValueError", .type "Exception", .type "BaseException", .type "object"] "ValueError.__new__" = true)
    (iC9 : PySem.W.findIn K (.ref C9) "__init__" = some (some (.ref fC9)))
    (tC9 : PySem.W.typeIn K (.ref fC9) = some (.type "function"))
    (lC9 : K.lookup fC9 = some ⟨ocC9, odC9, .func (PySem.W.fnOf "__init__" "InvalidCount.__init__" (defArgs s_InvalidCount___init__) (defBody s_InvalidCount___init__) (defScope s_InvalidCount___init__) .none kVC9 dcC9 pmC9 anC9 cdC9 ctC9), slC9⟩)
    (cC9 : PySem.W.codeIn K cdC9 "InvalidCount.__init__" = true)
    (kC9 : PySem.W.keepIn K (.ref fC9) = true)
    (n9name : PySem.W.findIn K (.ref C9) "name" = some none)
    (gC10 : PySem.W.nsIn K mainGlobals "NotComparable" = some (some (.ref C10)))
    (xC10 : exB K C10 [.type "ValueError", .type "Exception", .type "BaseException", .type "object"] "ValueError.__new__" = true)
    (iC10 : PySem.W.findIn K (.ref C10) "__init__" = some (some (.ref fC10)))
    (tC10 : PySem.W.typeIn K (.ref fC10) = some (.type "function"))
    (lC10 : K.lookup fC10 = some ⟨ocC10, odC10, .func (PySem.W.fnOf "__init__" "NotComparable.__init__" (defArgs s_NotComparable___init__) (defBody s_NotComparable___init__) (defScope s_NotComparable___init__) .none kVC10 dcC10 pmC10 anC10 cdC10 ctC10), slC10⟩)
    (cC10 : PySem.W.codeIn K cdC10 "NotComparable.__init__" = true)
    (kC10 : PySem.W.keepIn K (.ref fC10) = true)
    (n10reason : PySem.W.findIn K (.ref C10) "reason" = some none)
    (gC11 : PySem.W.nsIn K mainGlobals "InvalidText" = some (some (.ref C11)))
    (xC11 : exB K C11 [.type "ValueError", .type "Exception", .type "BaseException", .type "object"] "ValueError.__new__" = true)
    (iC11 : PySem.W.findIn K (.ref C11) "__init__" = some (some (.ref fC11)))
    (tC11 : PySem.W.typeIn K (.ref fC11) = some (.type "function"))
    (lC11 : K.lookup fC11 = some ⟨ocC11, odC11, .func (PySem.W.fnOf "__init__" "InvalidText.__init__" (defArgs s_InvalidText___init__) (defBody s_InvalidText___init__) (defScope s_InvalidText___init__) .none kVC11 dcC11 pmC11 anC11 cdC11 ctC11), slC11⟩)
    (cC11 : PySem.W.codeIn K cdC11 "InvalidText.__init__" = true)
    (kC11 : PySem.W.keepIn K (.ref fC11) = true)
    (n11line : PySem.W.findIn K (.ref C11) "line" = some none)
    (n11word : PySem.W.findIn K (.ref C11) "word" = some none)
    (gC12 : PySem.W.nsIn K mainGlobals "UnknownCommand" = some (some (.ref C12)))
    (xC12 : exB K C12 [.type "ValueError", .type "Exception", .type "BaseException", .type "object"] "ValueError.__new__" = true)
    (iC12 : PySem.W.findIn K (.ref C12) "__init__" = some (some (.ref fC12)))
    (tC12 : PySem.W.typeIn K (.ref fC12) = some (.type "function"))
    (lC12 : K.lookup fC12 = some ⟨ocC12, odC12, .func (PySem.W.fnOf "__init__" "UnknownCommand.__init__" (defArgs s_UnknownCommand___init__) (defBody s_UnknownCommand___init__) (defScope s_UnknownCommand___init__) .none kVC12 dcC12 pmC12 anC12 cdC12 ctC12), slC12⟩)
    (cC12 : PySem.W.codeIn K cdC12 "UnknownCommand.__init__" = true)
    (kC12 : PySem.W.keepIn K (.ref fC12) = true)
    (n12word : PySem.W.findIn K (.ref C12) "word" = some none)
    (gC13 : PySem.W.nsIn K mainGlobals "UnknownName" = some (some (.ref C13)))
    (xC13 : exB K C13 [.type "LookupError", .type "Exception", .type "BaseException", .type "object"] "LookupError.__new__" = true)
    (iC13 : PySem.W.findIn K (.ref C13) "__init__" = some (some (.ref fC13)))
    (tC13 : PySem.W.typeIn K (.ref fC13) = some (.type "function"))
    (lC13 : K.lookup fC13 = some ⟨ocC13, odC13, .func (PySem.W.fnOf "__init__" "UnknownName.__init__" (defArgs s_UnknownName___init__) (defBody s_UnknownName___init__) (defScope s_UnknownName___init__) .none kVC13 dcC13 pmC13 anC13 cdC13 ctC13), slC13⟩)
    (cC13 : PySem.W.codeIn K cdC13 "UnknownName.__init__" = true)
    (kC13 : PySem.W.keepIn K (.ref fC13) = true)
    (n13name : PySem.W.findIn K (.ref C13) "name" = some none)
    (gC14 : PySem.W.nsIn K mainGlobals "NoItem" = some (some (.ref C14)))
    (xC14 : exB K C14 [.type "LookupError", .type "Exception", .type "BaseException", .type "object"] "LookupError.__new__" = true)
    (iC14 : PySem.W.findIn K (.ref C14) "__init__" = some (some (.ref fC14)))
    (tC14 : PySem.W.typeIn K (.ref fC14) = some (.type "function"))
    (lC14 : K.lookup fC14 = some ⟨ocC14, odC14, .func (PySem.W.fnOf "__init__" "NoItem.__init__" (defArgs s_NoItem___init__) (defBody s_NoItem___init__) (defScope s_NoItem___init__) .none kVC14 dcC14 pmC14 anC14 cdC14 ctC14), slC14⟩)
    (cC14 : PySem.W.codeIn K cdC14 "NoItem.__init__" = true)
    (kC14 : PySem.W.keepIn K (.ref fC14) = true)
    (n14number : PySem.W.findIn K (.ref C14) "number" = some none)
    (gC15 : PySem.W.nsIn K mainGlobals "TooMany" = some (some (.ref C15)))
    (xC15 : exB K C15 [.type "OverflowError", .type "ArithmeticError", .type "Exception", .type "BaseException", .type "object"] "OverflowError.__new__" = true)
    (iC15 : PySem.W.findIn K (.ref C15) "__init__" = some (some (.ref fC15)))
    (tC15 : PySem.W.typeIn K (.ref fC15) = some (.type "function"))
    (lC15 : K.lookup fC15 = some ⟨ocC15, odC15, .func (PySem.W.fnOf "__init__" "TooMany.__init__" (defArgs s_TooMany___init__) (defBody s_TooMany___init__) (defScope s_TooMany___init__) .none kVC15 dcC15 pmC15 anC15 cdC15 ctC15), slC15⟩)
    (cC15 : PySem.W.codeIn K cdC15 "TooMany.__init__" = true)
    (kC15 : PySem.W.keepIn K (.ref fC15) = true)
    (n15limit : PySem.W.findIn K (.ref C15) "limit" = some none)
    (gC16 : PySem.W.nsIn K mainGlobals "NothingToUndo" = some (some (.ref C16)))
    (xC16 : exB K C16 [.type "IndexError", .type "LookupError", .type "Exception", .type "BaseException", .type "object"] "IndexError.__new__" = true)
    (iC16 : PySem.W.findIn K (.ref C16) "__init__" = some (some (.ref fC16)))
    (tC16 : PySem.W.typeIn K (.ref fC16) = some (.type "function"))
    (lC16 : K.lookup fC16 = some ⟨ocC16, odC16, .func (PySem.W.fnOf "__init__" "NothingToUndo.__init__" (defArgs s_NothingToUndo___init__) (defBody s_NothingToUndo___init__) (defScope s_NothingToUndo___init__) .none kVC16 dcC16 pmC16 anC16 cdC16 ctC16), slC16⟩)
    (cC16 : PySem.W.codeIn K cdC16 "NothingToUndo.__init__" = true)
    (kC16 : PySem.W.keepIn K (.ref fC16) = true)
    (n16count : PySem.W.findIn K (.ref C16) "count" = some none)
    (r0 : ([C0, C1, C2, C3, C4, C5, C6, C7, C8, C9, C10, C11, C12, C13, C14, C15, C16] : List Addr).map (fun i => PySem.W.kitOne K (.ref i) (.ref C0)) = [some true, some false, some false, some false, some false, some false, some false, some false, some false, some false, some false, some false, some false, some false, some false, some false, some false])
    (r1 : ([C0, C1, C2, C3, C4, C5, C6, C7, C8, C9, C10, C11, C12, C13, C14, C15, C16] : List Addr).map (fun i => PySem.W.kitOne K (.ref i) (.ref C1)) = [some false, some true, some false, some false, some false, some false, some false, some false, some false, some false, some false, some false, some false, some false, some false, some false, some false])
    (r2 : ([C0, C1, C2, C3, C4, C5, C6, C7, C8, C9, C10, C11, C12, C13, C14, C15, C16] : List Addr).map (fun i => PySem.W.kitOne K (.ref i) (.ref C2)) = [some false, some false, some true, some false, some false, some false, some false, some false, some false, some false, some false, some false, some false, some false, some false, some false, some false])
    (r3 : ([C0, C1, C2, C3, C4, C5, C6, C7, C8, C9, C10, C11, C12, C13, C14, C15, C16] : List Addr).map (fun i => PySem.W.kitOne K (.ref i) (.ref C3)) = [some false, some false, some false, some true, some false, some false, some false, some false, some false, some false, some false, some false, some false, some false, some false, some false, some false])
    (r4 : ([C0, C1, C2, C3, C4, C5, C6, C7, C8, C9, C10, C11, C12, C13, C14, C15, C16] : List Addr).map (fun i => PySem.W.kitOne K (.ref i) (.ref C4)) = [some false, some false, some false, some false, some true, some false, some false, some false, some false, some false, some false, some false, some false, some false, some false, some false, some false])
    (r5 : ([C0, C1, C2, C3, C4, C5, C6, C7, C8, C9, C10, C11, C12, C13, C14, C15, C16] : List Addr).map (fun i => PySem.W.kitOne K (.ref i) (.ref C5)) = [some false, some false, some false, some false, some false, some true, some false, some false, some false, some false, some false, some false, some false, some false, some false, some false, some false])
    (r6 : ([C0, C1, C2, C3, C4, C5, C6, C7, C8, C9, C10, C11, C12, C13, C14, C15, C16] : List Addr).map (fun i => PySem.W.kitOne K (.ref i) (.ref C6)) = [some false, some false, some false, some false, some false, some false, some true, some false, some false, some false, some false, some false, some false, some false, some false, some false, some false])
    (r7 : ([C0, C1, C2, C3, C4, C5, C6, C7, C8, C9, C10, C11, C12, C13, C14, C15, C16] : List Addr).map (fun i => PySem.W.kitOne K (.ref i) (.ref C7)) = [some false, some false, some false, some false, some false, some false, some false, some true, some false, some false, some false, some false, some false, some false, some false, some false, some false])
    (r8 : ([C0, C1, C2, C3, C4, C5, C6, C7, C8, C9, C10, C11, C12, C13, C14, C15, C16] : List Addr).map (fun i => PySem.W.kitOne K (.ref i) (.ref C8)) = [some false, some false, some false, some false, some false, some false, some false, some false, some true, some false, some false, some false, some false, some false, some false, some false, some false])
    (r9 : ([C0, C1, C2, C3, C4, C5, C6, C7, C8, C9, C10, C11, C12, C13, C14, C15, C16] : List Addr).map (fun i => PySem.W.kitOne K (.ref i) (.ref C9)) = [some false, some false, some false, some false, some false, some false, some false, some false, some false, some true, some false, some false, some false, some false, some false, some false, some false])
    (r10 : ([C0, C1, C2, C3, C4, C5, C6, C7, C8, C9, C10, C11, C12, C13, C14, C15, C16] : List Addr).map (fun i => PySem.W.kitOne K (.ref i) (.ref C10)) = [some false, some false, some false, some false, some false, some false, some false, some false, some false, some false, some true, some false, some false, some false, some false, some false, some false])
    (r11 : ([C0, C1, C2, C3, C4, C5, C6, C7, C8, C9, C10, C11, C12, C13, C14, C15, C16] : List Addr).map (fun i => PySem.W.kitOne K (.ref i) (.ref C11)) = [some false, some false, some false, some false, some false, some false, some false, some false, some false, some false, some false, some true, some false, some false, some false, some false, some false])
    (r12 : ([C0, C1, C2, C3, C4, C5, C6, C7, C8, C9, C10, C11, C12, C13, C14, C15, C16] : List Addr).map (fun i => PySem.W.kitOne K (.ref i) (.ref C12)) = [some false, some false, some false, some false, some false, some false, some false, some false, some false, some false, some false, some false, some true, some false, some false, some false, some false])
    (r13 : ([C0, C1, C2, C3, C4, C5, C6, C7, C8, C9, C10, C11, C12, C13, C14, C15, C16] : List Addr).map (fun i => PySem.W.kitOne K (.ref i) (.ref C13)) = [some false, some false, some false, some false, some false, some false, some false, some false, some false, some false, some false, some false, some false, some true, some false, some false, some false])
    (r14 : ([C0, C1, C2, C3, C4, C5, C6, C7, C8, C9, C10, C11, C12, C13, C14, C15, C16] : List Addr).map (fun i => PySem.W.kitOne K (.ref i) (.ref C14)) = [some false, some false, some false, some false, some false, some false, some false, some false, some false, some false, some false, some false, some false, some false, some true, some false, some false])
    (r15 : ([C0, C1, C2, C3, C4, C5, C6, C7, C8, C9, C10, C11, C12, C13, C14, C15, C16] : List Addr).map (fun i => PySem.W.kitOne K (.ref i) (.ref C15)) = [some false, some false, some false, some false, some false, some false, some false, some false, some false, some false, some false, some false, some false, some false, some false, some true, some false])
    (r16 : ([C0, C1, C2, C3, C4, C5, C6, C7, C8, C9, C10, C11, C12, C13, C14, C15, C16] : List Addr).map (fun i => PySem.W.kitOne K (.ref i) (.ref C16)) = [some false, some false, some false, some false, some false, some false, some false, some false, some false, some false, some false, some false, some false, some false, some false, some false, some true])
    (rN : ([C0, C1, C2, C3, C4, C5, C6, C7, C8, C9, C10, C11, C12, C13, C14, C15, C16] : List Addr).map (fun i => PySem.W.kitOne K (.ref i) (.ref CN)) = [some true, some true, some true, some true, some true, some true, some true, some true, some true, some true, some true, some true, some true, some false, some false, some false, some false])
    (rM : ([C0, C1, C2, C3, C4, C5, C6, C7, C8, C9, C10, C11, C12, C13, C14, C15, C16] : List Addr).map (fun i => PySem.W.kitOne K (.ref i) (.ref CM)) = [some false, some false, some false, some false, some false, some false, some false, some false, some false, some false, some false, some false, some false, some true, some true, some false, some false])
    (rV : ([C0, C1, C2, C3, C4, C5, C6, C7, C8, C9, C10, C11, C12] : List Addr).map (fun i => PySem.W.kitOne K (.ref i) (.type "ValueError")) = [some true, some true, some true, some true, some true, some true, some true, some true, some true, some true, some true, some true, some true])
    (rL13 : PySem.W.kitOne K (.ref C13) (.type "LookupError") = some true)
    (rL14 : PySem.W.kitOne K (.ref C14) (.type "LookupError") = some true)
    (rO : PySem.W.kitOne K (.ref C15) (.type "OverflowError") = some true)
    (rI : PySem.W.kitOne K (.ref C16) (.type "IndexError") = some true)
    (rNn : ([C0, C1, C2, C3, C4, C5, C6, C7, C8, C9, C10, C11, C12, C13, C14, C15, C16] : List Addr).map (fun j => PySem.W.kitOne K (.ref CN) (.ref j)) = [some false, some false, some false, some false, some false, some false, some false, some false, some false, some false, some false, some false, some false, some false, some false, some false, some false])
    (rMn : ([C0, C1, C2, C3, C4, C5, C6, C7, C8, C9, C10, C11, C12, C13, C14, C15, C16] : List Addr).map (fun j => PySem.W.kitOne K (.ref CM) (.ref j)) = [some false, some false, some false, some false, some false, some false, some false, some false, some false, some false, some false, some false, some false, some false, some false, some false, some false])
    (rNV : PySem.W.kitOne K (.ref CN) (.type "ValueError") = some true)
    (rML : PySem.W.kitOne K (.ref CM) (.type "LookupError") = some true) :
    ∃ fd : FuncData, (∀ (s : Shared) (u : Value), BindsTo s fd ⟨[u], []⟩ [("_law_script", u)]) ∧ ∀ base : Heap, K.In base → base.Ns mainGlobals mg → FnG P w K mg base CX0 5 fa fd ["_law_script"] (spLaw K) := by
  cases hfa.symm.trans (PySem.W.mg_of X G a9)
  have T : Tx K mg := ⟨PySem.W.mg_none_of X G z0, PySem.W.mg_none_of X G z1, PySem.W.mg_none_of X G z2, PySem.W.mg_none_of X G z3, PySem.W.mg_none_of X G z4, PySem.W.mg_none_of X G z5, PySem.W.mg_none_of X G z6, PySem.W.mg_none_of X G z7, PySem.W.mg_none_of X G z8, PySem.W.mg_none_of X G z9, PySem.W.mg_none_of X G z10, PySem.W.mg_none_of X G z11⟩
  have F0 := fun_mk (st := s__law_pen) l0 c0 k0
  have b0 := F0.binds (ps := ["_law_script"]) fun _ _ _ _ _ _ us hl => match us, hl with | [_], _ => rfl
  have g0 := PySem.W.mg_of X G a0
  have F1 := fun_mk (st := s__law_draw) l1 c1 k1
  have b1 := F1.binds (ps := ["_law_pen_here", "_law_many"]) fun _ _ _ _ _ _ us hl => match us, hl with | [_, _], _ => rfl
  have g1 := PySem.W.mg_of X G a1
  have F2 := fun_mk (st := s__law_pick) l2 c2 k2
  have b2 := F2.binds (ps := ["_law_pen_here", "_law_some"]) fun _ _ _ _ _ _ us hl => match us, hl with | [_, _], _ => rfl
  have g2 := PySem.W.mg_of X G a2
  have F3 := fun_mk (st := s__law_thing) l3 c3 k3
  have b3 := F3.binds (ps := ["_law_pen_here"]) fun _ _ _ _ _ _ us hl => match us, hl with | [_], _ => rfl
  have g3 := PySem.W.mg_of X G a3
  have F4 := fun_mk (st := s__law_made) l4 c4 k4
  have b4 := F4.binds (ps := ["_law_one", "_law_two"]) fun _ _ _ _ _ _ us hl => match us, hl with | [_, _], _ => rfl
  have g4 := PySem.W.mg_of X G a4
  have F5 := fun_mk (st := s__law_named) l5 c5 k5
  have b5 := F5.binds (ps := ["_law_one", "_law_two"]) fun _ _ _ _ _ _ us hl => match us, hl with | [_, _], _ => rfl
  have g5 := PySem.W.mg_of X G a5
  have F6 := fun_mk (st := s__law_fields) l6 c6 k6
  have b6 := F6.binds (ps := ["_law_k", "_law_caught"]) fun _ _ _ _ _ _ us hl => match us, hl with | [_, _], _ => rfl
  have g6 := PySem.W.mg_of X G a6
  have F7 := fun_mk (st := s__law_own) l7 c7 k7
  have b7 := F7.binds (ps := ["_law_caught"]) fun _ _ _ _ _ _ us hl => match us, hl with | [_], _ => rfl
  have g7 := PySem.W.mg_of X G a7
  have F8 := fun_mk (st := s__law_is_based) l8 c8 k8
  have b8 := F8.binds (ps := ["_law_k", "_law_caught"]) fun _ _ _ _ _ _ us hl => match us, hl with | [_, _], _ => rfl
  have g8 := PySem.W.mg_of X G a8
  have F9 := fun_mk (st := s_law) l9 c9 k9
  have b9 := F9.binds (ps := ["_law_script"]) fun _ _ _ _ _ _ us hl => match us, hl with | [_], _ => rfl
  have g9 := PySem.W.mg_of X G a9
  refine ⟨PySem.W.fnOf "law" "law" (defArgs s_law) (defBody s_law) (defScope s_law) .none kV9 dc9 pm9 an9 cd9 ct9, fun s u => .of_eq rfl, fun base _ _ => ?_⟩
  have FC1 := fun_mk (st := s_InvalidBook___init__) lC1 cC1 kC1
  have bC1 := FC1.binds (ps := ["self", "reason"]) fun _ _ _ _ _ _ us hl => match us, hl with | [_, _], _ => rfl
  have TC1 : ExK K C1 := exV xC1
  have GC1 : FnOk P w K mg base CX0 1 fC1 _ ["self", "reason"] _ := ok_InvalidBook FC1 TC1 n1reason
  have kb1 := kbn_self (p := "reason") FC1 (fun _ _ _ _ _ _ _ _ => rfl)
  have FC2 := fun_mk (st := s_InvalidPart___init__) lC2 cC2 kC2
  have bC2 := FC2.binds (ps := ["self", "reason"]) fun _ _ _ _ _ _ us hl => match us, hl with | [_, _], _ => rfl
  have TC2 : ExK K C2 := exV xC2
  have GC2 : FnOk P w K mg base CX0 1 fC2 _ ["self", "reason"] _ := ok_InvalidPart FC2 TC2 n2reason
  have kb2 := kbn_self (p := "reason") FC2 (fun _ _ _ _ _ _ _ _ => rfl)
  have FC3 := fun_mk (st := s_InvalidNet___init__) lC3 cC3 kC3
  have bC3 := FC3.binds (ps := ["self", "reason", "name"]) fun _ _ _ _ _ _ us hl => match us, hl with | [_, _, _], _ => rfl
  have TC3 : ExK K C3 := exV xC3
  have GC3 : FnOk P w K mg base CX0 1 fC3 _ ["self", "reason", "name"] _ := ok_InvalidNet FC3 TC3 n3reason n3name
  have kb3 := kbn_self2 (p := "reason") (q := "name") FC3 (fun _ _ _ _ _ _ _ _ _ => rfl)
  have FC4 := fun_mk (st := s_InvalidCourse___init__) lC4 cC4 kC4
  have bC4 := FC4.binds (ps := ["self", "reason"]) fun _ _ _ _ _ _ us hl => match us, hl with | [_, _], _ => rfl
  have TC4 : ExK K C4 := exV xC4
  have GC4 : FnOk P w K mg base CX0 1 fC4 _ ["self", "reason"] _ := ok_InvalidCourse FC4 TC4 n4reason
  have kb4 := kbn_self (p := "reason") FC4 (fun _ _ _ _ _ _ _ _ => rfl)
  have FC5 := fun_mk (st := s_InvalidWeighting___init__) lC5 cC5 kC5
  have bC5 := FC5.binds (ps := ["self", "reason"]) fun _ _ _ _ _ _ us hl => match us, hl with | [_, _], _ => rfl
  have TC5 : ExK K C5 := exV xC5
  have GC5 : FnOk P w K mg base CX0 1 fC5 _ ["self", "reason"] _ := ok_InvalidWeighting FC5 TC5 n5reason
  have kb5 := kbn_self (p := "reason") FC5 (fun _ _ _ _ _ _ _ _ => rfl)
  have FC6 := fun_mk (st := s_InvalidDeed___init__) lC6 cC6 kC6
  have bC6 := FC6.binds (ps := ["self", "reason"]) fun _ _ _ _ _ _ us hl => match us, hl with | [_, _], _ => rfl
  have TC6 : ExK K C6 := exV xC6
  have GC6 : FnOk P w K mg base CX0 1 fC6 _ ["self", "reason"] _ := ok_InvalidDeed FC6 TC6 n6reason
  have kb6 := kbn_self (p := "reason") FC6 (fun _ _ _ _ _ _ _ _ => rfl)
  have FC7 := fun_mk (st := s_InvalidItem___init__) lC7 cC7 kC7
  have bC7 := FC7.binds (ps := ["self", "index"]) fun _ _ _ _ _ _ us hl => match us, hl with | [_, _], _ => rfl
  have TC7 : ExK K C7 := exV xC7
  have GC7 : FnOk P w K mg base CX0 1 fC7 _ ["self", "index"] _ := ok_InvalidItem FC7 TC7 n7index
  have kb7 := kbn_self (p := "index") FC7 (fun _ _ _ _ _ _ _ _ => rfl)
  have FC8 := fun_mk (st := s_InvalidCosts___init__) lC8 cC8 kC8
  have bC8 := FC8.binds (ps := ["self", "name"]) fun _ _ _ _ _ _ us hl => match us, hl with | [_, _], _ => rfl
  have TC8 : ExK K C8 := exV xC8
  have GC8 : FnOk P w K mg base CX0 1 fC8 _ ["self", "name"] _ := ok_InvalidCosts FC8 TC8 n8name
  have kb8 := kbn_self (p := "name") FC8 (fun _ _ _ _ _ _ _ _ => rfl)
  have FC9 := fun_mk (st := s_InvalidCount___init__) lC9 cC9 kC9
  have bC9 := FC9.binds (ps := ["self", "name"]) fun _ _ _ _ _ _ us hl => match us, hl with | [_, _], _ => rfl
  have TC9 : ExK K C9 := exV xC9
  have GC9 : FnOk P w K mg base CX0 1 fC9 _ ["self", "name"] _ := ok_InvalidCount FC9 TC9 n9name
  have kb9 := kbn_self (p := "name") FC9 (fun _ _ _ _ _ _ _ _ => rfl)
  have FC10 := fun_mk (st := s_NotComparable___init__) lC10 cC10 kC10
  have bC10 := FC10.binds (ps := ["self", "reason"]) fun _ _ _ _ _ _ us hl => match us, hl with | [_, _], _ => rfl
  have TC10 : ExK K C10 := exV xC10
  have GC10 : FnOk P w K mg base CX0 1 fC10 _ ["self", "reason"] _ := ok_NotComparable FC10 TC10 n10reason
  have kb10 := kbn_self (p := "reason") FC10 (fun _ _ _ _ _ _ _ _ => rfl)
  have FC11 := fun_mk (st := s_InvalidText___init__) lC11 cC11 kC11
  have bC11 := FC11.binds (ps := ["self", "line", "word"]) fun _ _ _ _ _ _ us hl => match us, hl with | [_, _, _], _ => rfl
  have TC11 : ExK K C11 := exV xC11
  have GC11 : FnOk P w K mg base CX0 1 fC11 _ ["self", "line", "word"] _ := ok_InvalidText FC11 TC11 n11line n11word
  have kb11 := kbn_self2 (p := "line") (q := "word") FC11 (fun _ _ _ _ _ _ _ _ _ => rfl)
  have FC12 := fun_mk (st := s_UnknownCommand___init__) lC12 cC12 kC12
  have bC12 := FC12.binds (ps := ["self", "word"]) fun _ _ _ _ _ _ us hl => match us, hl with | [_, _], _ => rfl
  have TC12 : ExK K C12 := exV xC12
  have GC12 : FnOk P w K mg base CX0 1 fC12 _ ["self", "word"] _ := ok_UnknownCommand FC12 TC12 n12word
  have kb12 := kbn_self (p := "word") FC12 (fun _ _ _ _ _ _ _ _ => rfl)
  have FC13 := fun_mk (st := s_UnknownName___init__) lC13 cC13 kC13
  have bC13 := FC13.binds (ps := ["self", "name"]) fun _ _ _ _ _ _ us hl => match us, hl with | [_, _], _ => rfl
  have TC13 : ExK K C13 := exL xC13
  have GC13 : FnOk P w K mg base CX0 1 fC13 _ ["self", "name"] _ := ok_UnknownName FC13 TC13 n13name
  have kb13 := kbn_self (p := "name") FC13 (fun _ _ _ _ _ _ _ _ => rfl)
  have FC14 := fun_mk (st := s_NoItem___init__) lC14 cC14 kC14
  have bC14 := FC14.binds (ps := ["self", "number"]) fun _ _ _ _ _ _ us hl => match us, hl with | [_, _], _ => rfl
  have TC14 : ExK K C14 := exL xC14
  have GC14 : FnOk P w K mg base CX0 1 fC14 _ ["self", "number"] _ := ok_NoItem FC14 TC14 n14number
  have kb14 := kbn_self (p := "number") FC14 (fun _ _ _ _ _ _ _ _ => rfl)
  have FC15 := fun_mk (st := s_TooMany___init__) lC15 cC15 kC15
  have bC15 := FC15.binds (ps := ["self", "limit"]) fun _ _ _ _ _ _ us hl => match us, hl with | [_, _], _ => rfl
  have TC15 : ExK K C15 := exO xC15
  have GC15 : FnOk P w K mg base CX0 1 fC15 _ ["self", "limit"] _ := ok_TooMany FC15 TC15 n15limit
  have kb15 := kbn_self (p := "limit") FC15 (fun _ _ _ _ _ _ _ _ => rfl)
  have FC16 := fun_mk (st := s_NothingToUndo___init__) lC16 cC16 kC16
  have bC16 := FC16.binds (ps := ["self", "count"]) fun _ _ _ _ _ _ us hl => match us, hl with | [_, _], _ => rfl
  have TC16 : ExK K C16 := exI xC16
  have GC16 : FnOk P w K mg base CX0 1 fC16 _ ["self", "count"] _ := ok_NothingToUndo FC16 TC16 n16count
  have kb16 := kbn_self (p := "count") FC16 (fun _ _ _ _ _ _ _ _ => rfl)
  have TC0 : ExK K C0 := exV xC0
  have TCN : ExK K CN := exV xCN
  have TCM : ExK K CM := exL xCM
  have Z : Z01 P w K mg base (fun i => ([C0, C1, C2, C3, C4, C5, C6, C7, C8, C9, C10, C11, C12, C13, C14, C15, C16] : List Addr).getD i 0) (fun i => match i with | 1 => fC1 | 2 => fC2 | 3 => fC3 | 4 => fC4 | 5 => fC5 | 6 => fC6 | 7 => fC7 | 8 => fC8 | 9 => fC9 | 10 => fC10 | 11 => fC11 | 12 => fC12 | 13 => fC13 | 14 => fC14 | 15 => fC15 | 16 => fC16 | _ => fC1) CN CM (fun i => match i with | 1 => PySem.W.fnOf "__init__" "InvalidBook.__init__" (defArgs s_InvalidBook___init__) (defBody s_InvalidBook___init__) (defScope s_InvalidBook___init__) .none kVC1 dcC1 pmC1 anC1 cdC1 ctC1 | 2 => PySem.W.fnOf "__init__" "InvalidPart.__init__" (defArgs s_InvalidPart___init__) (defBody s_InvalidPart___init__) (defScope s_InvalidPart___init__) .none kVC2 dcC2 pmC2 anC2 cdC2 ctC2 | 3 => PySem.W.fnOf "__init__" "InvalidNet.__init__" (defArgs s_InvalidNet___init__) (defBody s_InvalidNet___init__) (defScope s_InvalidNet___init__) .none kVC3 dcC3 pmC3 anC3 cdC3 ctC3 | 4 => PySem.W.fnOf "__init__" "InvalidCourse.__init__" (defArgs s_InvalidCourse___init__) (defBody s_InvalidCourse___init__) (defScope s_InvalidCourse___init__) .none kVC4 dcC4 pmC4 anC4 cdC4 ctC4 | 5 => PySem.W.fnOf "__init__" "InvalidWeighting.__init__" (defArgs s_InvalidWeighting___init__) (defBody s_InvalidWeighting___init__) (defScope s_InvalidWeighting___init__) .none kVC5 dcC5 pmC5 anC5 cdC5 ctC5 | 6 => PySem.W.fnOf "__init__" "InvalidDeed.__init__" (defArgs s_InvalidDeed___init__) (defBody s_InvalidDeed___init__) (defScope s_InvalidDeed___init__) .none kVC6 dcC6 pmC6 anC6 cdC6 ctC6 | 7 => PySem.W.fnOf "__init__" "InvalidItem.__init__" (defArgs s_InvalidItem___init__) (defBody s_InvalidItem___init__) (defScope s_InvalidItem___init__) .none kVC7 dcC7 pmC7 anC7 cdC7 ctC7 | 8 => PySem.W.fnOf "__init__" "InvalidCosts.__init__" (defArgs s_InvalidCosts___init__) (defBody s_InvalidCosts___init__) (defScope s_InvalidCosts___init__) .none kVC8 dcC8 pmC8 anC8 cdC8 ctC8 | 9 => PySem.W.fnOf "__init__" "InvalidCount.__init__" (defArgs s_InvalidCount___init__) (defBody s_InvalidCount___init__) (defScope s_InvalidCount___init__) .none kVC9 dcC9 pmC9 anC9 cdC9 ctC9 | 10 => PySem.W.fnOf "__init__" "NotComparable.__init__" (defArgs s_NotComparable___init__) (defBody s_NotComparable___init__) (defScope s_NotComparable___init__) .none kVC10 dcC10 pmC10 anC10 cdC10 ctC10 | 11 => PySem.W.fnOf "__init__" "InvalidText.__init__" (defArgs s_InvalidText___init__) (defBody s_InvalidText___init__) (defScope s_InvalidText___init__) .none kVC11 dcC11 pmC11 anC11 cdC11 ctC11 | 12 => PySem.W.fnOf "__init__" "UnknownCommand.__init__" (defArgs s_UnknownCommand___init__) (defBody s_UnknownCommand___init__) (defScope s_UnknownCommand___init__) .none kVC12 dcC12 pmC12 anC12 cdC12 ctC12 | 13 => PySem.W.fnOf "__init__" "UnknownName.__init__" (defArgs s_UnknownName___init__) (defBody s_UnknownName___init__) (defScope s_UnknownName___init__) .none kVC13 dcC13 pmC13 anC13 cdC13 ctC13 | 14 => PySem.W.fnOf "__init__" "NoItem.__init__" (defArgs s_NoItem___init__) (defBody s_NoItem___init__) (defScope s_NoItem___init__) .none kVC14 dcC14 pmC14 anC14 cdC14 ctC14 | 15 => PySem.W.fnOf "__init__" "TooMany.__init__" (defArgs s_TooMany___init__) (defBody s_TooMany___init__) (defScope s_TooMany___init__) .none kVC15 dcC15 pmC15 anC15 cdC15 ctC15 | 16 => PySem.W.fnOf "__init__" "NothingToUndo.__init__" (defArgs s_NothingToUndo___init__) (defBody s_NothingToUndo___init__) (defScope s_NothingToUndo___init__) .none kVC16 dcC16 pmC16 anC16 cdC16 ctC16 | _ => PySem.W.fnOf "__init__" "InvalidBook.__init__" (defArgs s_InvalidBook___init__) (defBody s_InvalidBook___init__) (defScope s_InvalidBook___init__) .none kVC1 dcC1 pmC1 anC1 cdC1 ctC1) := {
    e0 := ⟨TC0, PySem.W.mg_of X G gC0, qC0, TC0.kC⟩,
    eN := ⟨TCN, PySem.W.mg_of X G gCN, qCN, TCN.kC⟩,
    eM := ⟨TCM, PySem.W.mg_of X G gCM, qCM, TCM.kC⟩,
    e1 := ⟨TC1, PySem.W.mg_of X G gC1, iC1, tC1, GC1, bC1, (fun g hg => by cases List.mem_singleton.mp hg; exact n1reason)⟩,
    kb1 := kb1,
    e2 := ⟨TC2, PySem.W.mg_of X G gC2, iC2, tC2, GC2, bC2, (fun g hg => by cases List.mem_singleton.mp hg; exact n2reason)⟩,
    kb2 := kb2,
    e3 := ⟨TC3, PySem.W.mg_of X G gC3, iC3, tC3, GC3, bC3, (fun g hg => by rcases List.mem_cons.mp hg with z | z; (cases z; exact n3reason); (cases List.mem_singleton.mp z; exact n3name))⟩,
    kb3 := kb3,
    e4 := ⟨TC4, PySem.W.mg_of X G gC4, iC4, tC4, GC4, bC4, (fun g hg => by cases List.mem_singleton.mp hg; exact n4reason)⟩,
    kb4 := kb4,
    e5 := ⟨TC5, PySem.W.mg_of X G gC5, iC5, tC5, GC5, bC5, (fun g hg => by cases List.mem_singleton.mp hg; exact n5reason)⟩,
    kb5 := kb5,
    e6 := ⟨TC6, PySem.W.mg_of X G gC6, iC6, tC6, GC6, bC6, (fun g hg => by cases List.mem_singleton.mp hg; exact n6reason)⟩,
    kb6 := kb6,
    e7 := ⟨TC7, PySem.W.mg_of X G gC7, iC7, tC7, GC7, bC7, (fun g hg => by cases List.mem_singleton.mp hg; exact n7index)⟩,
    kb7 := kb7,
    e8 := ⟨TC8, PySem.W.mg_of X G gC8, iC8, tC8, GC8, bC8, (fun g hg => by cases List.mem_singleton.mp hg; exact n8name)⟩,
    kb8 := kb8,
    e9 := ⟨TC9, PySem.W.mg_of X G gC9, iC9, tC9, GC9, bC9, (fun g hg => by cases List.mem_singleton.mp hg; exact n9name)⟩,
    kb9 := kb9,
    e10 := ⟨TC10, PySem.W.mg_of X G gC10, iC10, tC10, GC10, bC10, (fun g hg => by cases List.mem_singleton.mp hg; exact n10reason)⟩,
    kb10 := kb10,
    e11 := ⟨TC11, PySem.W.mg_of X G gC11, iC11, tC11, GC11, bC11, (fun g hg => by rcases List.mem_cons.mp hg with z | z; (cases z; exact n11line); (cases List.mem_singleton.mp z; exact n11word))⟩,
    kb11 := kb11,
    e12 := ⟨TC12, PySem.W.mg_of X G gC12, iC12, tC12, GC12, bC12, (fun g hg => by cases List.mem_singleton.mp hg; exact n12word)⟩,
    kb12 := kb12,
    e13 := ⟨TC13, PySem.W.mg_of X G gC13, iC13, tC13, GC13, bC13, (fun g hg => by cases List.mem_singleton.mp hg; exact n13name)⟩,
    kb13 := kb13,
    e14 := ⟨TC14, PySem.W.mg_of X G gC14, iC14, tC14, GC14, bC14, (fun g hg => by cases List.mem_singleton.mp hg; exact n14number)⟩,
    kb14 := kb14,
    e15 := ⟨TC15, PySem.W.mg_of X G gC15, iC15, tC15, GC15, bC15, (fun g hg => by cases List.mem_singleton.mp hg; exact n15limit)⟩,
    kb15 := kb15,
    e16 := ⟨TC16, PySem.W.mg_of X G gC16, iC16, tC16, GC16, bC16, (fun g hg => by cases List.mem_singleton.mp hg; exact n16count)⟩,
    kb16 := kb16,
    kk := fun i j hi hj => match j, hj with | 0, _ => (tab_at (L := ([C0, C1, C2, C3, C4, C5, C6, C7, C8, C9, C10, C11, C12, C13, C14, C15, C16] : List Addr)) r0 hi).trans ((by decide : ∀ i, i < 17 → ([some true, some false, some false, some false, some false, some false, some false, some false, some false, some false, some false, some false, some false, some false, some false, some false, some false] : List (Option Bool)).getD i none = some (decide (i = 0))) i hi) | 1, _ => (tab_at (L := ([C0, C1, C2, C3, C4, C5, C6, C7, C8, C9, C10, C11, C12, C13, C14, C15, C16] : List Addr)) r1 hi).trans ((by decide : ∀ i, i < 17 → ([some false, some true, some false, some false, some false, some false, some false, some false, some false, some false, some false, some false, some false, some false, some false, some false, some false] : List (Option Bool)).getD i none = some (decide (i = 1))) i hi) | 2, _ => (tab_at (L := ([C0, C1, C2, C3, C4, C5, C6, C7, C8, C9, C10, C11, C12, C13, C14, C15, C16] : List Addr)) r2 hi).trans ((by decide : ∀ i, i < 17 → ([some false, some false, some true, some false, some false, some false, some false, some false, some false, some false, some false, some false, some false, some false, some false, some false, some false] : List (Option Bool)).getD i none = some (decide (i = 2))) i hi) | 3, _ => (tab_at (L := ([C0, C1, C2, C3, C4, C5, C6, C7, C8, C9, C10, C11, C12, C13, C14, C15, C16] : List Addr)) r3 hi).trans ((by decide : ∀ i, i < 17 → ([some false, some false, some false, some true, some false, some false, some false, some false, some false, some false, some false, some false, some false, some false, some false, some false, some false] : List (Option Bool)).getD i none = some (decide (i = 3))) i hi) | 4, _ => (tab_at (L := ([C0, C1, C2, C3, C4, C5, C6, C7, C8, C9, C10, C11, C12, C13, C14, C15, C16] : List Addr)) r4 hi).trans ((by decide : ∀ i, i < 17 → ([some false, some false, some false, some false, some true, some false, some false, some false, some false, some false, some false, some false, some false, some false, some false, some false, some false] : List (Option Bool)).getD i none = some (decide (i = 4))) i hi) | 5, _ => (tab_at (L := ([C0, C1, C2, C3, C4, C5, C6, C7, C8, C9, C10, C11, C12, C13, C14, C15, C16] : List Addr)) r5 hi).trans ((by decide : ∀ i, i < 17 → ([some false, some false, some false, some false, some false, some true, some false, some false, some false, some false, some false, some false, some false, some false, some false, some false, some false] : List (Option Bool)).getD i none = some (decide (i = 5))) i hi) | 6, _ => (tab_at (L := ([C0, C1, C2, C3, C4, C5, C6, C7, C8, C9, C10, C11, C12, C13, C14, C15, C16] : List Addr)) r6 hi).trans ((by decide : ∀ i, i < 17 → ([some false, some false, some false, some false, some false, some false, some true, some false, some false, some false, some false, some false, some false, some false, some false, some false, some false] : List (Option Bool)).getD i none = some (decide (i = 6))) i hi) | 7, _ => (tab_at (L := ([C0, C1, C2, C3, C4, C5, C6, C7, C8, C9, C10, C11, C12, C13, C14, C15, C16] : List Addr)) r7 hi).trans ((by decide : ∀ i, i < 17 → ([some false, some false, some false, some false, some false, some false, some false, some true, some false, some false, some false, some false, some false, some false, some false, some false, some false] : List (Option Bool)).getD i none = some (decide (i = 7))) i hi) | 8, _ => (tab_at (L := ([C0, C1, C2, C3, C4, C5, C6, C7, C8, C9, C10, C11, C12, C13, C14, C15, C16] : List Addr)) r8 hi).trans ((by decide : ∀ i, i < 17 → ([some false, some false, some false, some false, some false, some false, some false, some false, some true, some false, some false, some false, some false, some false, some false, some false, some false] : List (Option Bool)).getD i none = some (decide (i = 8))) i hi) | 9, _ => (tab_at (L := ([C0, C1, C2, C3, C4, C5, C6, C7, C8, C9, C10, C11, C12, C13, C14, C15, C16] : List Addr)) r9 hi).trans ((by decide : ∀ i, i < 17 → ([some false, some false, some false, some false, some false, some false, some false, some false, some false, some true, some false, some false, some false, some false, some false, some false, some false] : List (Option Bool)).getD i none = some (decide (i = 9))) i hi) | 10, _ => (tab_at (L := ([C0, C1, C2, C3, C4, C5, C6, C7, C8, C9, C10, C11, C12, C13, C14, C15, C16] : List Addr)) r10 hi).trans ((by decide : ∀ i, i < 17 → ([some false, some false, some false, some false, some false, some false, some false, some false, some false, some false, some true, some false, some false, some false, some false, some false, some false] : List (Option Bool)).getD i none = some (decide (i = 10))) i hi) | 11, _ => (tab_at (L := ([C0, C1, C2, C3, C4, C5, C6, C7, C8, C9, C10, C11, C12, C13, C14, C15, C16] : List Addr)) r11 hi).trans ((by decide : ∀ i, i < 17 → ([some false, some false, some false, some false, some false, some false, some false, some false, some false, some false, some false, some true, some false, some false, some false, some false, some false] : List (Option Bool)).getD i none = some (decide (i = 11))) i hi) | 12, _ => (tab_at (L := ([C0, C1, C2, C3, C4, C5, C6, C7, C8, C9, C10, C11, C12, C13, C14, C15, C16] : List Addr)) r12 hi).trans ((by decide : ∀ i, i < 17 → ([some false, some false, some false, some false, some false, some false, some false, some false, some false, some false, some false, some false, some true, some false, some false, some false, some false] : List (Option Bool)).getD i none = some (decide (i = 12))) i hi) | 13, _ => (tab_at (L := ([C0, C1, C2, C3, C4, C5, C6, C7, C8, C9, C10, C11, C12, C13, C14, C15, C16] : List Addr)) r13 hi).trans ((by decide : ∀ i, i < 17 → ([some false, some false, some false, some false, some false, some false, some false, some false, some false, some false, some false, some false, some false, some true, some false, some false, some false] : List (Option Bool)).getD i none = some (decide (i = 13))) i hi) | 14, _ => (tab_at (L := ([C0, C1, C2, C3, C4, C5, C6, C7, C8, C9, C10, C11, C12, C13, C14, C15, C16] : List Addr)) r14 hi).trans ((by decide : ∀ i, i < 17 → ([some false, some false, some false, some false, some false, some false, some false, some false, some false, some false, some false, some false, some false, some false, some true, some false, some false] : List (Option Bool)).getD i none = some (decide (i = 14))) i hi) | 15, _ => (tab_at (L := ([C0, C1, C2, C3, C4, C5, C6, C7, C8, C9, C10, C11, C12, C13, C14, C15, C16] : List Addr)) r15 hi).trans ((by decide : ∀ i, i < 17 → ([some false, some false, some false, some false, some false, some false, some false, some false, some false, some false, some false, some false, some false, some false, some false, some true, some false] : List (Option Bool)).getD i none = some (decide (i = 15))) i hi) | 16, _ => (tab_at (L := ([C0, C1, C2, C3, C4, C5, C6, C7, C8, C9, C10, C11, C12, C13, C14, C15, C16] : List Addr)) r16 hi).trans ((by decide : ∀ i, i < 17 → ([some false, some false, some false, some false, some false, some false, some false, some false, some false, some false, some false, some false, some false, some false, some false, some false, some true] : List (Option Bool)).getD i none = some (decide (i = 16))) i hi) | n + 17, h => absurd h (by omega),
    kN := fun i hi => (tab_at (L := ([C0, C1, C2, C3, C4, C5, C6, C7, C8, C9, C10, C11, C12, C13, C14, C15, C16] : List Addr)) rN hi).trans ((by decide : ∀ i, i < 17 → ([some true, some true, some true, some true, some true, some true, some true, some true, some true, some true, some true, some true, some true, some false, some false, some false, some false] : List (Option Bool)).getD i none = some (decide (i < 13))) i hi),
    kM := fun i hi => (tab_at (L := ([C0, C1, C2, C3, C4, C5, C6, C7, C8, C9, C10, C11, C12, C13, C14, C15, C16] : List Addr)) rM hi).trans ((by decide : ∀ i, i < 17 → ([some false, some false, some false, some false, some false, some false, some false, some false, some false, some false, some false, some false, some false, some true, some true, some false, some false] : List (Option Bool)).getD i none = some (decide (i = 13 ∨ i = 14))) i hi),
    kV := fun i hi => match i, hi with | 0, _ => (tab_at (L := [C0, C1, C2, C3, C4, C5, C6, C7, C8, C9, C10, C11, C12]) rV (i := 0) (by simp)) | 1, _ => (tab_at (L := [C0, C1, C2, C3, C4, C5, C6, C7, C8, C9, C10, C11, C12]) rV (i := 1) (by simp)) | 2, _ => (tab_at (L := [C0, C1, C2, C3, C4, C5, C6, C7, C8, C9, C10, C11, C12]) rV (i := 2) (by simp)) | 3, _ => (tab_at (L := [C0, C1, C2, C3, C4, C5, C6, C7, C8, C9, C10, C11, C12]) rV (i := 3) (by simp)) | 4, _ => (tab_at (L := [C0, C1, C2, C3, C4, C5, C6, C7, C8, C9, C10, C11, C12]) rV (i := 4) (by simp)) | 5, _ => (tab_at (L := [C0, C1, C2, C3, C4, C5, C6, C7, C8, C9, C10, C11, C12]) rV (i := 5) (by simp)) | 6, _ => (tab_at (L := [C0, C1, C2, C3, C4, C5, C6, C7, C8, C9, C10, C11, C12]) rV (i := 6) (by simp)) | 7, _ => (tab_at (L := [C0, C1, C2, C3, C4, C5, C6, C7, C8, C9, C10, C11, C12]) rV (i := 7) (by simp)) | 8, _ => (tab_at (L := [C0, C1, C2, C3, C4, C5, C6, C7, C8, C9, C10, C11, C12]) rV (i := 8) (by simp)) | 9, _ => (tab_at (L := [C0, C1, C2, C3, C4, C5, C6, C7, C8, C9, C10, C11, C12]) rV (i := 9) (by simp)) | 10, _ => (tab_at (L := [C0, C1, C2, C3, C4, C5, C6, C7, C8, C9, C10, C11, C12]) rV (i := 10) (by simp)) | 11, _ => (tab_at (L := [C0, C1, C2, C3, C4, C5, C6, C7, C8, C9, C10, C11, C12]) rV (i := 11) (by simp)) | 12, _ => (tab_at (L := [C0, C1, C2, C3, C4, C5, C6, C7, C8, C9, C10, C11, C12]) rV (i := 12) (by simp)) | n + 13, h => absurd h (by omega),
    kL := fun i hi => match i, hi with | 13, _ => rL13 | 14, _ => rL14 | 0, h => absurd h (by decide) | 1, h => absurd h (by decide) | 2, h => absurd h (by decide) | 3, h => absurd h (by decide) | 4, h => absurd h (by decide) | 5, h => absurd h (by decide) | 6, h => absurd h (by decide) | 7, h => absurd h (by decide) | 8, h => absurd h (by decide) | 9, h => absurd h (by decide) | 10, h => absurd h (by decide) | 11, h => absurd h (by decide) | 12, h => absurd h (by decide) | n + 15, h => absurd h (by omega),
    kO := rO,
    kI := rI,
    kNn := fun j hj => (row_at (L := ([C0, C1, C2, C3, C4, C5, C6, C7, C8, C9, C10, C11, C12, C13, C14, C15, C16] : List Addr)) (c := .ref CN) rNn hj).trans ((by decide : ∀ i, i < 17 → ([some false, some false, some false, some false, some false, some false, some false, some false, some false, some false, some false, some false, some false, some false, some false, some false, some false] : List (Option Bool)).getD i none = some false) j hj),
    kMn := fun j hj => (row_at (L := ([C0, C1, C2, C3, C4, C5, C6, C7, C8, C9, C10, C11, C12, C13, C14, C15, C16] : List Addr)) (c := .ref CM) rMn hj).trans ((by decide : ∀ i, i < 17 → ([some false, some false, some false, some false, some false, some false, some false, some false, some false, some false, some false, some false, some false, some false, some false, some false, some false] : List (Option Bool)).getD i none = some false) j hj),
    kNV := rNV,
    kML := rML }
  have c_draw : Cal P w K mg base 1 "_law_draw" s__law_draw ["_law_pen_here", "_law_many"] spDraw _ _ := ⟨F1, ok__law_draw F1 T, g1, b1⟩
  have c_pick : Cal P w K mg base 2 "_law_pick" s__law_pick ["_law_pen_here", "_law_some"] spPickL _ _ := ⟨F2, ok__law_pick F2 T c_draw, g2, b2⟩
  exact ok_law F9 T Z ⟨F0, ok__law_pen F0 T, g0, b0⟩ ⟨F3, ok__law_thing F3 T c_pick, g3, b3⟩ ⟨F4, ok__law_made F4 T Z, g4, b4⟩ ⟨F5, ok__law_named F5 T Z, g5, b5⟩
    ⟨F6, ok__law_fields F6 T Z, g6, b6⟩ ⟨F7, ok__law_own F7 T Z, g7, b7⟩ ⟨F8, ok__law_is_based F8 T Z, g8, b8⟩

end My
open PySem PySem.W PyProof.Rows
set_option maxRecDepth 100000 in
set_option maxHeartbeats 0 in
theorem PySem.Challenge.cw_evenends_k01_errors_and_their_fields_holds : PySem.Challenge.rw_evenends_k01_errors_and_their_fields.Holds := by
  w_on; o_law; k_head; (case hw => w_witness2)
  k_fill
  refine EE.walk_ofG (l := PySem.Challenge.rw_evenends_k01_errors_and_their_fields) (n := 63) (k := 5) (x := "_law_script") (sp := My.spLaw) rfl (by decide) rfl ⟨⟨rfl, by decide, by decide⟩, rfl⟩ (fun w h Y => PySem.W.kIn_of Y) ?F (fun _ _ a ns hl _ hS => ⟨a, ns, rfl, hS, hl, fun _ => rfl⟩)
  case F =>
    intro w mg fa h KX G hmg
    refine' My.all_mk KX G hmg ?a0 ?l0 ?c0 ?k0 ?a1 ?l1 ?c1 ?k1 ?a2 ?l2 ?c2 ?k2 ?a3 ?l3 ?c3 ?k3 ?a4 ?l4 ?c4 ?k4 ?a5 ?l5 ?c5 ?k5 ?a6 ?l6 ?c6 ?k6 ?a7 ?l7 ?c7 ?k7 ?a8 ?l8 ?c8 ?k8 ?a9 ?l9 ?c9 ?k9 ?z0 ?z1 ?z2 ?z3 ?z4 ?z5 ?z6 ?z7 ?z8 ?z9 ?z10 ?z11 ?gCN ?xCN ?qCN ?gCM ?xCM ?qCM ?gC0 ?xC0 ?qC0 ?gC1 ?xC1 ?iC1 ?tC1 ?lC1 ?cC1 ?kC1 ?n1reason ?gC2 ?xC2 ?iC2 ?tC2 ?lC2 ?cC2 ?kC2 ?n2reason ?gC3 ?xC3 ?iC3 ?tC3 ?lC3 ?cC3 ?kC3 ?n3reason ?n3name ?gC4 ?xC4 ?iC4 ?tC4 ?lC4 ?cC4 ?kC4 ?n4reason ?gC5 ?xC5 ?iC5 ?tC5 ?lC5 ?cC5 ?kC5 ?n5reason ?gC6 ?xC6 ?iC6 ?tC6 ?lC6 ?cC6 ?kC6 ?n6reason ?gC7 ?xC7 ?iC7 ?tC7 ?lC7 ?cC7 ?kC7 ?n7index ?gC8 ?xC8 ?iC8 ?tC8 ?lC8 ?cC8 ?kC8 ?n8name ?gC9 ?xC9 ?iC9 ?tC9 ?lC9 ?cC9 ?kC9 ?n9name ?gC10 ?xC10 ?iC10 ?tC10 ?lC10 ?cC10 ?kC10 ?n10reason ?gC11 ?xC11 ?iC11 ?tC11 ?lC11 ?cC11 ?kC11 ?n11line ?n11word ?gC12 ?xC12 ?iC12 ?tC12 ?lC12 ?cC12 ?kC12 ?n12word ?gC13 ?xC13 ?iC13 ?tC13 ?lC13 ?cC13 ?kC13 ?n13name ?gC14 ?xC14 ?iC14 ?tC14 ?lC14 ?cC14 ?kC14 ?n14number ?gC15 ?xC15 ?iC15 ?tC15 ?lC15 ?cC15 ?kC15 ?n15limit ?gC16 ?xC16 ?iC16 ?tC16 ?lC16 ?cC16 ?kC16 ?n16count ?r0 ?r1 ?r2 ?r3 ?r4 ?r5 ?r6 ?r7 ?r8 ?r9 ?r10 ?r11 ?r12 ?r13 ?r14 ?r15 ?r16 ?rN ?rM ?rV ?rL13 ?rL14 ?rO ?rI ?rNn ?rMn ?rNV ?rML
    (case a0 => k_is)
    (case l0 => k_is)
    (case c0 => k_is)
    (case k0 => k_is)
    (case a1 => k_is)
    (case l1 => k_is)
    (case c1 => k_is)
    (case k1 => k_is)
    (case a2 => k_is)
    (case l2 => k_is)
    (case c2 => k_is)
    (case k2 => k_is)
    (case a3 => k_is)
    (case l3 => k_is)
    (case c3 => k_is)
    (case k3 => k_is)
    (case a4 => k_is)
    (case l4 => k_is)
    (case c4 => k_is)
    (case k4 => k_is)
    (case a5 => k_is)
    (case l5 => k_is)
    (case c5 => k_is)
    (case k5 => k_is)
    (case a6 => k_is)
    (case l6 => k_is)
    (case c6 => k_is)
    (case k6 => k_is)
    (case a7 => k_is)
    (case l7 => k_is)
    (case c7 => k_is)
    (case k7 => k_is)
    (case a8 => k_is)
    (case l8 => k_is)
    (case c8 => k_is)
    (case k8 => k_is)
    (case a9 => k_is)
    (case l9 => k_is)
    (case c9 => k_is)
    (case k9 => k_is)
    (case z0 => k_is)
    (case z1 => k_is)
    (case z2 => k_is)
    (case z3 => k_is)
    (case z4 => k_is)
    (case z5 => k_is)
    (case z6 => k_is)
    (case z7 => k_is)
    (case z8 => k_is)
    (case z9 => k_is)
    (case z10 => k_is)
    (case z11 => k_is)
    (case gCN => k_is)
    (case xCN => kernel_rfl)
    (case qCN => kernel_rfl)
    (case gCM => k_is)
    (case xCM => kernel_rfl)
    (case qCM => kernel_rfl)
    (case gC0 => k_is)
    (case xC0 => kernel_rfl)
    (case qC0 => kernel_rfl)
    (case gC1 => k_is)
    (case xC1 => kernel_rfl)
    (case iC1 => k_is)
    (case tC1 => k_is)
    (case lC1 => k_is)
    (case cC1 => k_is)
    (case kC1 => k_is)
    (case n1reason => k_is)
    (case gC2 => k_is)
    (case xC2 => kernel_rfl)
    (case iC2 => k_is)
    (case tC2 => k_is)
    (case lC2 => k_is)
    (case cC2 => k_is)
    (case kC2 => k_is)
    (case n2reason => k_is)
    (case gC3 => k_is)
    (case xC3 => kernel_rfl)
    (case iC3 => k_is)
    (case tC3 => k_is)
    (case lC3 => k_is)
    (case cC3 => k_is)
    (case kC3 => k_is)
    (case n3reason => k_is)
    (case n3name => k_is)
    (case gC4 => k_is)
    (case xC4 => kernel_rfl)
    (case iC4 => k_is)
    (case tC4 => k_is)
    (case lC4 => k_is)
    (case cC4 => k_is)
    (case kC4 => k_is)
    (case n4reason => k_is)
    (case gC5 => k_is)
    (case xC5 => kernel_rfl)
    (case iC5 => k_is)
    (case tC5 => k_is)
    (case lC5 => k_is)
    (case cC5 => k_is)
    (case kC5 => k_is)
    (case n5reason => k_is)
    (case gC6 => k_is)
    (case xC6 => kernel_rfl)
    (case iC6 => k_is)
    (case tC6 => k_is)
    (case lC6 => k_is)
    (case cC6 => k_is)
    (case kC6 => k_is)
    (case n6reason => k_is)
    (case gC7 => k_is)
    (case xC7 => kernel_rfl)
    (case iC7 => k_is)
    (case tC7 => k_is)
    (case lC7 => k_is)
    (case cC7 => k_is)
    (case kC7 => k_is)
    (case n7index => k_is)
    (case gC8 => k_is)
    (case xC8 => kernel_rfl)
    (case iC8 => k_is)
    (case tC8 => k_is)
    (case lC8 => k_is)
    (case cC8 => k_is)
    (case kC8 => k_is)
    (case n8name => k_is)
    (case gC9 => k_is)
    (case xC9 => kernel_rfl)
    (case iC9 => k_is)
    (case tC9 => k_is)
    (case lC9 => k_is)
    (case cC9 => k_is)
    (case kC9 => k_is)
    (case n9name => k_is)
    (case gC10 => k_is)
    (case xC10 => kernel_rfl)
    (case iC10 => k_is)
    (case tC10 => k_is)
    (case lC10 => k_is)
    (case cC10 => k_is)
    (case kC10 => k_is)
    (case n10reason => k_is)
    (case gC11 => k_is)
    (case xC11 => kernel_rfl)
    (case iC11 => k_is)
    (case tC11 => k_is)
    (case lC11 => k_is)
    (case cC11 => k_is)
    (case kC11 => k_is)
    (case n11line => k_is)
    (case n11word => k_is)
    (case gC12 => k_is)
    (case xC12 => kernel_rfl)
    (case iC12 => k_is)
    (case tC12 => k_is)
    (case lC12 => k_is)
    (case cC12 => k_is)
    (case kC12 => k_is)
    (case n12word => k_is)
    (case gC13 => k_is)
    (case xC13 => kernel_rfl)
    (case iC13 => k_is)
    (case tC13 => k_is)
    (case lC13 => k_is)
    (case cC13 => k_is)
    (case kC13 => k_is)
    (case n13name => k_is)
    (case gC14 => k_is)
    (case xC14 => kernel_rfl)
    (case iC14 => k_is)
    (case tC14 => k_is)
    (case lC14 => k_is)
    (case cC14 => k_is)
    (case kC14 => k_is)
    (case n14number => k_is)
    (case gC15 => k_is)
    (case xC15 => kernel_rfl)
    (case iC15 => k_is)
    (case tC15 => k_is)
    (case lC15 => k_is)
    (case cC15 => k_is)
    (case kC15 => k_is)
    (case n15limit => k_is)
    (case gC16 => k_is)
    (case xC16 => kernel_rfl)
    (case iC16 => k_is)
    (case tC16 => k_is)
    (case lC16 => k_is)
    (case cC16 => k_is)
    (case kC16 => k_is)
    (case n16count => k_is)
    (case r0 => kernel_rfl)
    (case r1 => kernel_rfl)
    (case r2 => kernel_rfl)
    (case r3 => kernel_rfl)
    (case r4 => kernel_rfl)
    (case r5 => kernel_rfl)
    (case r6 => kernel_rfl)
    (case r7 => kernel_rfl)
    (case r8 => kernel_rfl)
    (case r9 => kernel_rfl)
    (case r10 => kernel_rfl)
    (case r11 => kernel_rfl)
    (case r12 => kernel_rfl)
    (case r13 => kernel_rfl)
    (case r14 => kernel_rfl)
    (case r15 => kernel_rfl)
    (case r16 => kernel_rfl)
    (case rN => kernel_rfl)
    (case rM => kernel_rfl)
    (case rV => kernel_rfl)
    (case rL13 => kernel_rfl)
    (case rL14 => kernel_rfl)
    (case rO => kernel_rfl)
    (case rI => kernel_rfl)
    (case rNn => kernel_rfl)
    (case rMn => kernel_rfl)
    (case rNV => kernel_rfl)
    (case rML => kernel_rfl)

