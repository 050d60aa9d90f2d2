import PyProof.Rows.All
import Wide.All
import OpenK.AllK
import Wide.FinOn
import PyProof.ReprRoads
import HandS.ForMost
import HandS.ForExc
import HandS.IsInst
import HandS.StrMore
import HandS.RaiseMore
import HandS.Wide
import HandS.Defaults
import HandS.Codes
import HandS.Evl
import PyProof.Rows.RegStrFacts
import PyProof.Rows.ReprOcc
import HandS.ExcInit
import HandS.ExcField
import HandS.ExcIs
import HandS.ExcValue
import KE.KExcInit
import KE.KExcIs
import KE.KDictZip
import HandS.Iter
import HandS.Conv
import KE.KTryMore
import HandS.WordsExc
import HandS.Comp
import KE.GoesComp
import HandS.Lambda
import HandS.Nested
import HandS.EndTab
import HandS.Property
import HandS.Star
import HandS.More
import HandS.Small
import HandS.Style
import KE.IntTextLaws
import PySem.Challenge.RW_evenends_k24_texts_of_stories
set_option Elab.async false
set_option linter.all false
set_option maxRecDepth 100000
set_option maxHeartbeats 4000000
/-! Own layer: one-step readings, heaps that grow, repr of data, guards. -/
namespace EE
open PySem PySem.Spec PyProof.Rows L2

/-! ### heaps -/
/-- all but what stands at p is as it was -/
def But (p : Addr) (H H' : Hp) : Prop := ∀ b o, b ≠ p → H b = some o → H' b = some o
theorem But.refl (p : Addr) (H : Hp) : But p H H := fun _ _ _ h => h
theorem _root_.L2.Same.but {H H' : Hp} (p : Addr) (s : Same H H') : But p H H' := fun b o _ h => s b o h
theorem But.trans {p : Addr} {H H1 H2 : Hp} (a : But p H H1) (b : But p H1 H2) : But p H H2 := fun c o n h => b c o n (a c o n h)
theorem But.then {p : Addr} {H H1 H2 : Hp} (a : But p H H1) (b : Same H1 H2) : But p H H2 := fun c o n h => b c o (a c o n h)
theorem _root_.L2.Same.thenBut {p : Addr} {H H1 H2 : Hp} (a : Same H H1) (b : But p H1 H2) : But p H H2 := fun c o n h => b c o n (a c o h)
theorem same_new {H : Hp} {p : Addr} {o : HO} (h : H p = none) : Same H (upd H p o) := fun b x e => by
  rw [upd_ne (ne_of_none e h)]
  exact e
theorem but_upd {H : Hp} {p : Addr} {o : HO} : But p H (upd H p o) := fun b x n e => by
  rw [upd_ne n]
  exact e
theorem But.seq {K : PySem.W.Frag} {p a : Addr} {H H' : Hp} {xs : List V} (e : But p H H') (n : a ≠ p) (h : SqL K H a xs) : SqL K H' a xs := by
  rcases h with (h | ⟨o, h⟩) | h
  · exact .inl (.inl (e _ _ n h))
  · exact .inl (.inr ⟨o, e _ _ n h⟩)
  · exact .inr h

/-! ### one step of a reading -/
/-- a new list, a new tuple -/
def NewL (xs : List V) (H : Hp) (Q : VK) : Prop := xs.length ≤ sizeLine ∧ ∀ p, H p = none → Q (.ref p) (upd H p (.lst xs))
def NewT (xs : List V) (H : Hp) (Q : VK) : Prop := xs.length ≤ sizeLine ∧ ∀ p, H p = none → Q (.ref p) (upd H p (.tup xs))
theorem new_lst {xs : List V} {H : Hp} {Q : VK} (hl : xs.length ≤ sizeLine) (h : ∀ p H2, H p = none → Same H H2 → H2 p = some (.lst xs) → Q (.ref p) H2) : NewL xs H Q := ⟨hl, fun p hp => h p _ hp (same_new hp) upd_same⟩
theorem new_tup {xs : List V} {H : Hp} {Q : VK} (hl : xs.length ≤ sizeLine) (h : ∀ p H2, H p = none → Same H H2 → H2 p = some (.tup xs) → Q (.ref p) H2) : NewT xs H Q := ⟨hl, fun p hp => h p _ hp (same_new hp) upd_same⟩
section
variable {K : PySem.W.Frag} {σ : L2.St} {H : Hp} {Q : VK} {D : Ends} {ta tb tc te : TE} {t u : TS} {c d : TT} {r r' : R2} {v w : V}
theorem rd_var {i : Nat} (h : σ[i]? = some (some v)) (q : Q v H) : tVar i σ H Q := ⟨v, h, q⟩
theorem rd_c (q : Q v H) : tC v σ H Q := q
theorem rd_op (h : ta σ H fun x H1 => tb σ H1 fun y H2 => r x y H2 Q) : tOp r ta tb σ H Q := h
theorem rd_un {r : V → Hp → VK → Prop} (h : ta σ H fun x H1 => r x H1 Q) : tUn r ta σ H Q := h
theorem rd_chain (h : ta σ H fun x H1 => tb σ H1 fun y H2 => r x y H2 fun z H3 => ∃ k, z = .bl k ∧ (if k = true then tc σ H3 fun w' H4 => r' y w' H4 Q else Q (.bl false) H3)) : tChain r r' ta tb tc σ H Q := h
theorem rd_seq (h : t { D with nx := u D } σ H) : tSeq t u D σ H := h
theorem rd_asg {g : TG} (h : te σ H fun x H1 => g x σ H1 D.nx) : tAsg te g D σ H := h
theorem rd_name {i : Nat} {Q : L2.St → Hp → Prop} (h : Q (σ.set i (some v)) H) : gName i v σ H Q := h
theorem rd_ret (h : te σ H D.rt) : tRet te D σ H := h
theorem rd_retN (h : D.rt .non H) : tRetN D σ H := h
theorem rd_drop (h : te σ H fun _ H1 => D.nx σ H1) : tDrop te D σ H := h
theorem rd_next (h : D.nx σ H) : tNext D σ H := h
theorem rd_ifS (h : c σ H fun b H1 => if b = true then t D σ H1 else u D σ H1) : tIfS c t u D σ H := h
theorem rd_ifE (h : c σ H fun b H1 => if b = true then ta σ H1 Q else tb σ H1 Q) : tIf c ta tb σ H Q := h
theorem rd_test {Q : Bool → Hp → Prop} (h : te σ H fun x H' => ∃ k, x = .bl k ∧ Q k H') : tTest te σ H Q := h
theorem rd_B {Q : Bool → Hp → Prop} (h : te σ H fun x H' => ∃ k, x = .bl k ∧ Q k H') : tB te σ H Q := h
theorem rd_and {Q : Bool → Hp → Prop} (h : c σ H fun k H1 => if k = true then d σ H1 Q else Q false H1) : tAnd c d σ H Q := h
theorem rd_or {Q : Bool → Hp → Prop} (h : c σ H fun k H1 => if k = true then Q true H1 else d σ H1 Q) : tOr c d σ H Q := h
theorem rd_not {Q : Bool → Hp → Prop} (h : c σ H fun k H1 => Q (!k) H1) : tNot c σ H Q := h
theorem rd_andV (h : ta σ H fun x H1 => ∃ c, x = .bl c ∧ if c = true then tb σ H1 Q else Q (.bl false) H1) : tAndV ta tb σ H Q := h
theorem rd_orV (h : ta σ H fun x H1 => ∃ c, x = .bl c ∧ if c = true then Q (.bl true) H1 else tb σ H1 Q) : tOrV ta tb σ H Q := h
theorem rd_notV (h : ta σ H fun x H1 => ∃ c, x = .bl c ∧ Q (.bl (!c)) H1) : tNotV ta σ H Q := h
theorem rd_nil {Q : List V → Hp → Prop} (h : Q [] H) : tNil σ H Q := h
theorem rd_cons {tr : TA} {Q : List V → Hp → Prop} (h : ta σ H fun x H1 => tr σ H1 fun xs H2 => Q (x :: xs) H2) : tCons ta tr σ H Q := h
theorem rd_call {sp : Sp} {dvs : List V} {E : XK} {tr : TA} (h : tr σ H fun vs H1 => sp (vs ++ dvs) H1 Q E) : tCall sp dvs E tr σ H Q := h
theorem rd_CB {r : List V → Hp → VK → Prop} {tr : TA} (h : tr σ H fun vs H1 => r vs H1 Q) : tCB r tr σ H Q := h
theorem rd_bl {b : Bool} {P : Bool → Prop} (h : P b) : ∃ k, V.bl b = V.bl k ∧ P k := ⟨b, rfl, h⟩
theorem rd_gsub {to ti : TE} {ts : TSet} {Q : L2.St → Hp → Prop} (h : to σ H fun o H1 => ti σ H1 fun i H2 => ts o i v H2 fun H3 => Q σ H3) : gSub to ti ts v σ H Q := h
theorem rd_part {Q : Option Int → Hp → Prop} (h : te σ H fun x H1 => ∃ i, x = .int i ∧ Q (some i) H1) : tPart te σ H Q := h
theorem rd_noPart {Q : Option Int → Hp → Prop} (h : Q none H) : tNoPart σ H Q := h
theorem rd_sl {r : V → Option Int → Option Int → Hp → VK → Prop} {tl th : TO} (h : te σ H fun x H1 => tl σ H1 fun l H2 => th σ H2 fun u H3 => r x l u H3 Q) : tSl r te tl th σ H Q := h
theorem rd_tup {tr : TA} (h : tr σ H fun xs H1 => NewT xs H1 Q) : tTup tr σ H Q := h
theorem rd_lst {tr : TA} (h : tr σ H fun xs H1 => NewL xs H1 Q) : tLst tr σ H Q := h
theorem rd_bm {T : String} {r : V → List V → Hp → VK → Prop} {tr : TA} (h : ta σ H fun x H1 => tyV K T x H1 ∧ tr σ H1 fun xs H2 => r x xs H2 Q) : tBM K T r ta tr σ H Q := h
/-! operators on values -/
theorem rd_I0 {g : Int → Int → V} {i j : Int} (q : Q (g i j) H) : rI0 g (.int i) (.int j) H Q := ⟨i, j, rfl, rfl, q⟩
theorem rd_I {C : Int → Int → Prop} {g : Int → Int → V} {i j : Int} (hc : C i j) (q : Q (g i j) H) : rI C g (.int i) (.int j) H Q := ⟨i, j, rfl, rfl, hc, q⟩
theorem rd_eqI {i j : Int} (q : Q (.bl (decide (i = j))) H) : rEq (.int i) (.int j) H Q := ⟨rfl, by
  have e : decide (V.int i = V.int j) = decide (i = j) := by simp
  rw [e]; exact q⟩
theorem rd_neI {i j : Int} (q : Q (.bl (!decide (i = j))) H) : rNe (.int i) (.int j) H Q := ⟨rfl, by
  have e : decide (V.int i = V.int j) = decide (i = j) := by simp
  rw [e]; exact q⟩
theorem rd_eqS {i j : Str} (q : Q (.bl (decide (i = j))) H) : rEq (.str i) (.str j) H Q := ⟨rfl, by
  have e : decide (V.str i = V.str j) = decide (i = j) := by simp
  rw [e]; exact q⟩
theorem rd_neS {i j : Str} (q : Q (.bl (!decide (i = j))) H) : rNe (.str i) (.str j) H Q := ⟨rfl, by
  have e : decide (V.str i = V.str j) = decide (i = j) := by simp
  rw [e]; exact q⟩
theorem rd_neg {i : Int} (q : Q (.int (-i)) H) : rU (fun i => V.int (-i)) (.int i) H Q := ⟨i, rfl, q⟩
theorem rd_ite {b : Bool} {A B : Prop} (h1 : b = true → A) (h2 : b = false → B) : if b = true then A else B := by
  cases b with
  | true => exact iteT (h1 rfl)
  | false => exact iteF (h2 rfl)
theorem rd_iteT {b : Bool} {A B : Prop} (hb : b = true) (h1 : A) : if b = true then A else B := by rw [hb]; exact iteT h1
theorem rd_iteF {b : Bool} {A B : Prop} (hb : b = false) (h1 : B) : if b = true then A else B := by rw [hb]; exact iteF h1
end

/-! ### guards: repr asks that nothing is being shown. A promise at such places alone -/
structure RoomG (k : Nat) (A : Around) : Prop where
  r : Room k A
  g : A.guards = some []
theorem RoomG.mono {j k : Nat} {A : Around} (r : RoomG k A) (h : j ≤ k) : RoomG j A := ⟨r.r.mono h, r.g⟩
theorem RoomG.deeper {k : Nat} {A : Around} (r : RoomG (k + 1) A) (env : Env) : RoomG k (A.deeper env) := ⟨r.r.deeper env, r.g⟩
section
variable {P : Program} {w : World} {K : PySem.W.Frag} {mg : Str → Option Value} {base : Heap}
/-- the run of a def, as a promise tells it, around A -/
def RunsAt (P : Program) (w : World) (K : PySem.W.Frag) (mg : Str → Option Value) (base : Heap) (CX : CXT) (f : Addr) (fd : FuncData) (ps : List Str) (sp : Sp) (A : Around) : Prop :=
  ∀ (out : List Env) (sh : Shared) (H : Hp) (ar : Args) (ws : List Value) (vs : List V) (Q : VK) (E : XK), Env0 P w K mg base A out sh H → BindsTo sh fd ar (ps.zip ws) → Vals vs ws → sp vs H Q E →
    codeAny (model P w) A (Code.call (Value.ref f) ar) (CR CX out P w H sh Q E) sh
structure FnG (P : Program) (w : World) (K : PySem.W.Frag) (mg : Str → Option Value) (base : Heap) (CX : CXT) (k : Nat) (f : Addr) (fd : FuncData) (ps : List Str) (sp : Sp) : Prop where
  many : ∀ vs H Q E, sp vs H Q E → vs.length = ps.length
  runs : ∀ A : Around, RoomG k A → RunsAt P w K mg base CX f fd ps sp A
theorem FnG.of {CX : CXT} {k : Nat} {f : Addr} {fd : FuncData} {ps : List Str} {sp : Sp} (F : FnOk P w K mg base CX k f fd ps sp) : FnG P w K mg base CX k f fd ps sp :=
  ⟨F.len, fun A g out sh H ar ws vs Q E => F.run A out sh H ar ws vs Q E g.r⟩
/-- what a body's end is to the caller -/
theorem body_end {CX : CXT} {N : List Str} {qual : Str} {scope : Scope} {f : Addr} {cd : Value} {A : Around} {out : List Env} {sh t : Shared} {H : Hp} {Q : VK} {E : XK} {fl : Flow}
    (h : SP (cxOf CX P w K mg base N qual scope f cd A out sh H E) [] { nx := fun _ H' => Q .non H', rt := Q } fl t) : CR CX out P w H sh Q E (.ok (.ret (match fl with | .ret v => v | _ => Value.none))) t := by
  match fl, h with
  | .ret u, ⟨v, _, H1, J, rv, q⟩ => exact ⟨v, H1, J.os, J.bare, J.base, J.hok, rv, q⟩
  | .next, ⟨_, H1, J, q⟩ => exact ⟨.non, H1, J.os, J.bare, J.base, J.hok, rfl, q⟩
  | .brk, ⟨_, _, _, q⟩ => exact q.elim
  | .cont, ⟨_, _, _, q⟩ => exact q.elim
theorem okG {x qual : Str} {st : Stmt} {f : Addr} {fd : FuncData} {N ps : List Str} {k : Nat} {sp : Sp} (F : Fun K x qual st f fd) (S : FnScope N ps (defScope st)) (many : ∀ vs H Q E, sp vs H Q E → vs.length = ps.length)
    (hb : ∀ (cdv : Value) (A : Around) (out : List Env) (sh : Shared) (H : Hp) (vs : List V) (Q : VK) (E : XK), RoomG k (A.deeper (envOfC qual (defScope st) sh.heap.objs.size f cdv)) → sp vs H Q E →
      ∃ t, PSs (cxOf CX0 P w K mg base N qual (defScope st) f cdv A out sh H E).nox (defBody st) t ∧ t { nx := fun _ H' => Q .non H', rt := Q } (start N vs) H) : FnG P w K mg base CX0 (k + 1) f fd ps sp := by
  obtain ⟨_, _, kV, doc, pm, an, cdv, ct, _, rfl, hf, hcode⟩ := F.ex
  refine ⟨many, fun A room out sh H ar ws vs Q E e0 bd rel hp => ?_⟩
  have kin : K.In sh.heap := e0.mod.kin.keeps fun b o z => (e0.bs b o z).1
  have nol := e0.mod.nolimit.keeps (h' := sh.heap) fun b o z => (e0.bs b o z).1
  refine codeAny_call_function room.r.depth (kin _ _ hf) rfl S.co S.gen rfl (PySem.W.codeRec_of kin hcode) (bd _ _ _ _ ?_)
  have kinds : ∀ y ∈ ps.zip ws, (defScope st).names.lookup y.1 = some .local ∨ ((defScope st).names.lookup y.1 = some .cell ∧ ((cellsFrom (sh.heap.objs.size + 1) (defScope st).names []).lookup y.1).isSome = true) := by
    rintro ⟨n, v⟩ hy
    exact (S.par n (List.of_mem_zip hy).1).imp id fun q => ⟨q, PySem.W.cellsFrom_some _ _ _ (Or.inl q)⟩
  refine wpAny_newFunctionEnv_cells S.kind kinds fun env henv t1 x1 => ?_
  cases henv
  refine ⟨nol.keeps x1.toInCall.keep, codeAny_func ?_⟩
  obtain ⟨rd, der, hq⟩ := hb cdv A out sh H vs Q E (room.deeper _) hp
  refine wpAny_mono (der.nox.run [] t1 (start N vs) H _ (inv_start S room.r.hd e0 (many _ _ _ _ hp) rel x1) hq) (fun fl t h => ?_) fun _ _ z => z
  cases fl with
  | ret u => exact body_end h
  | next => exact body_end h
  | brk => exact body_end h
  | cont => exact body_end h
end
section
variable {X : Cx} {CX : CXT} {k : Nat} {f : Addr} {fd : FuncData} {ps : List Str} {sp : Sp} {dvs : List V} {ds : List Value} {E : XK} {x : Str} {p pos : Pos} {e : Expr} {es : List Expr} {t : TA}
/-- f(e, ..), f's promise one at places where nothing is being shown -/
theorem pe_callG (F : FnG X.prog X.w X.K X.mg X.base CX k f fd ps sp) (room : RoomG k X.A) (hg : Gl X x) (hm : X.mg x = some (.ref f)) (hk : PySem.W.keepIn X.K (.ref f) = true) (hb : Binds X.K fd ps ds) (hd : Vals dvs ds) (hx : Passes CX X E)
    (ar : PA X (e :: es) t) (ndb : (x == ("__debug__" : Str)) = false := by decide) (hst : starEach (e :: es) X.env = (false, eval e X.env) :: starEach es X.env := by rfl) (plain : (backTo pos (starEach es X.env)).any (·.1) = false := by rfl) :
    PE X (.Call (.Name x p) (e :: es) [] pos) (tCall sp dvs E t) := ⟨fun pins sh σ H Q I h => by
  refine wpAny_Call_Name_kw (ld_glob I hg hm (PySem.W.callWith_K (h₀ := X.base) I.ok.mod.kin hk (thn (ar.run pos pins sh σ H _ I h) ?_) hst plain) ndb)
  rintro ws t1 ⟨vs, H1, I1, rel, hp⟩
  have rel2 := rel.append hd
  refine ⟨I1.kIn, wpAny_call (codeAny_mono (F.runs X.A room X.stack t1 H1 ⟨ws, []⟩ (ws ++ ds) (vs ++ dvs) Q E I1.env0 (hb t1 ws I1.kIn (rel2.length.symm.trans (F.many _ _ _ _ hp))) rel2 hp) fun r t2 z => ?_)⟩
  match r, z with
  | .error _, z => exact hx pins σ H1 t1 _ t2 I1 z
  | .ok (.ret _), z => exact I1.after z
  | .ok .next, z => exact z.elim
  | .ok .brk, z => exact z.elim
  | .ok .cont, z => exact z.elim⟩
end

/-! ### repr of data -/
theorem call_repr {X : Cx} (hg : X.A.guards = some []) (hu : X.A.units + 64 < cLine) : CallR X (.builtin "repr") (fun xs H Q => ∃ (a : Addr) (d : PyData), xs = [.ref a] ∧ Dp X.K H (.ref a) d ∧ d.showable = true ∧ d.hasDict = false ∧ d.depth ≤ 60 ∧ d.shown.length ≤ sizeLine ∧ Q (.str d.shown) H) := by
  intro pins s σ H xs us Q I r h
  obtain ⟨a, d, rfl, hd, h1, h2, h3, h4, q⟩ := h
  obtain ⟨u, rfl, hu'⟩ := vals1 r
  obtain rfl : u = Value.ref a := hu'
  obtain ⟨as, rr⟩ := Dp.reads I d (.ref a) (.ref a) hd rfl
  refine repr_of_reads' (h₀ := s.heap) rr h1 (fun e => absurd e (by rw [h2]; decide)) hg (by omega) (fun _ _ e => e) (fun h' u' tk k => ?_) h4
  exact ⟨.str _, H, I.kept (t' := tk) k, ⟨_, rfl⟩, q⟩
end EE

namespace EE
open PySem PySem.Spec PyProof.Rows L2
section
variable {K : PySem.W.Frag} {σ : L2.St} {H : Hp} {Q : VK}
theorem rd_add {i j : Int} (q : Q (.int (i + j)) H) : rI0 (fun i j => .int (i + j)) (.int i) (.int j) H Q := ⟨i, j, rfl, rfl, q⟩
theorem rd_sub {i j : Int} (q : Q (.int (i - j)) H) : rI0 (fun i j => .int (i - j)) (.int i) (.int j) H Q := ⟨i, j, rfl, rfl, q⟩
theorem rd_lt {i j : Int} (q : Q (.bl (decide (i < j))) H) : rI0 (fun i j => .bl (decide (i < j))) (.int i) (.int j) H Q := ⟨i, j, rfl, rfl, q⟩
theorem rd_le {i j : Int} (q : Q (.bl (decide (i ≤ j))) H) : rI0 (fun i j => .bl (decide (i ≤ j))) (.int i) (.int j) H Q := ⟨i, j, rfl, rfl, q⟩
theorem rd_gt {i j : Int} (q : Q (.bl (decide (j < i))) H) : rI0 (fun i j => .bl (decide (j < i))) (.int i) (.int j) H Q := ⟨i, j, rfl, rfl, q⟩
theorem rd_ge {i j : Int} (q : Q (.bl (decide (j ≤ i))) H) : rI0 (fun i j => .bl (decide (j ≤ i))) (.int i) (.int j) H Q := ⟨i, j, rfl, rfl, q⟩
theorem rd_mul {i j : Int} (q : Q (.int (i * j)) H) (c : CMul i j) : rI CMul (fun i j => .int (i * j)) (.int i) (.int j) H Q := ⟨i, j, rfl, rfl, c, q⟩
theorem rd_mod {i j : Int} (q : Q (.int (i % j)) H) (c : 0 < j) : rI (fun _ j => 0 < j) (fun i j => .int (i % j)) (.int i) (.int j) H Q := ⟨i, j, rfl, rfl, c, q⟩
theorem rd_fdiv {i j : Int} (q : Q (.int (i / j)) H) (c : CDiv i j) : rI CDiv (fun i j => .int (i / j)) (.int i) (.int j) H Q := ⟨i, j, rfl, rfl, c, q⟩
theorem rd_pow {i j : Int} (q : Q (.int (i ^ j.toNat)) H) (c : CPow i j) : rI CPow (fun i j => .int (i ^ j.toNat)) (.int i) (.int j) H Q := ⟨i, j, rfl, rfl, c, q⟩
theorem rd_ixL {p : Addr} {xs : List V} {i : Int} {v : V} (h : SqL K H p xs) (e : atI xs i = some v) (q : Q v H) : rIxL K (.ref p) (.int i) H Q := ⟨p, xs, i, v, rfl, rfl, h, e, q⟩
theorem rd_setL {p : Addr} {xs : List V} {k : Int} {j : Nat} {v : V} {Q : Hp → Prop} (h : H p = some (.lst xs)) (e : ixN xs.length k = some j) (q : Q (upd H p (.lst (xs.set j v)))) : rSetL (.ref p) (.int k) v H Q := ⟨p, xs, k, j, rfl, rfl, h, e, q⟩
theorem sqL_of {p : Addr} {xs : List V} (h : H p = some (.lst xs)) : SqL K H p xs := .inl (.inl h)
theorem sqT_of {p : Addr} {xs : List V} (h : H p = some (.tup xs)) : SqT K H p xs := .inl (.inl h)
theorem atI_lt {xs : List V} {i : Int} (h0 : 0 ≤ i) (h : i < xs.length) : ∃ (j : Nat) (hj : j < xs.length), (j : Int) = i ∧ atI xs i = some (xs[j]) := by
  refine ⟨i.toNat, by omega, by omega, ?_⟩
  unfold atI ixN
  rw [if_pos h0, if_pos h]
  show xs[i.toNat]? = _
  exact List.getElem?_eq_getElem (by omega)
theorem dp_nil {p : Addr} (h : H p = some (.lst [])) : Dp K H (.ref p) (.list []) := .lst (sqL_of h) .nil
theorem dp_ints : ∀ {ns : List Int}, DpAll K H (ns.map V.int) (ns.map PyData.int)
  | [] => .nil
  | n :: ns => .cons (.int n) dp_ints
end
/-- a pen at p, its cells at q: the index of the next one (at most n), what is left of a great one -/
def PenAt (n : Nat) (H : Hp) (p q : Addr) : Prop := ∃ (ns : List Int) (a r : Int), H p = some (.lst [.ref q, .int a, .int r]) ∧ H q = some (.lst (ns.map V.int)) ∧ 0 ≤ a ∧ a ≤ n ∧ ns.length ≤ 63
theorem PenAt.keep {n : Nat} {H H' : Hp} {p q : Addr} (h : PenAt n H p q) (s : Same H H') : PenAt n H' p q := by
  obtain ⟨ns, a, r, h1, h2, h3⟩ := h
  exact ⟨ns, a, r, s _ _ h1, s _ _ h2, h3⟩
theorem PenAt.mono {n m : Nat} {H : Hp} {p q : Addr} (h : PenAt n H p q) (s : n ≤ m) : PenAt m H p q := by
  obtain ⟨ns, a, r, h1, h2, h3, h4, h5⟩ := h
  exact ⟨ns, a, r, h1, h2, h3, by omega, h5⟩
theorem PenAt.off {n : Nat} {H : Hp} {p q D : Addr} (h : PenAt n H p q) (hD : H D = none) : D ≠ p ∧ D ≠ q := by
  obtain ⟨ns, a, r, h1, h2, h3⟩ := h
  exact ⟨(ne_of_none h1 hD).symm, (ne_of_none h2 hD).symm⟩
theorem PenAt.upd {n : Nat} {H : Hp} {p q D : Addr} {o : HO} (h : PenAt n H p q) (hD : D ≠ p ∧ D ≠ q) : PenAt n (upd H D o) p q := by
  obtain ⟨ns, a, r, h1, h2, h3⟩ := h
  exact ⟨ns, a, r, by rw [upd_ne hD.1.symm]; exact h1, by rw [upd_ne hD.2.symm]; exact h2, h3⟩
def spDraw : Sp := fun vs H Q _ => ∃ (p q : Addr) (many : Int) (n : Nat), vs = [.ref p, .int many] ∧ 0 < many ∧ many < 1073741824 ∧ n ≤ 1000000 ∧ PenAt n H p q ∧
  ∀ (d : Int) (H' : Hp), 0 ≤ d → d < many → But p H H' → PenAt (n + 1) H' p q → Q (.int d) H'
end EE
namespace EE
open PySem PySem.Spec PyProof.Rows L2
theorem canLay_ints : ∀ ns : List Int, PyData.canLayAll0 (ns.map PyData.int) = true
  | [] => rfl
  | n :: ns => by
    show (PyData.canLay0 (.int n) && PyData.canLayAll0 (ns.map PyData.int)) = true
    rw [canLay_ints ns]; rfl
theorem depth_ints : ∀ ns : List Int, PyData.depthAll (ns.map PyData.int) = 0
  | [] => rfl
  | n :: ns => by
    show max (PyData.depth (.int n)) (PyData.depthAll (ns.map PyData.int)) = 0
    rw [depth_ints ns]; rfl
theorem shaped_ints (ns : List Int) : SeqAt.shaped (.list (ns.map PyData.int)) = true := by
  unfold SeqAt.shaped
  have h1 : PyData.canLay0 (.list (ns.map PyData.int)) = true := canLay_ints ns
  have h2 : PyData.depth (.list (ns.map PyData.int)) = 1 := by
    show PyData.depthAll (ns.map PyData.int) + 1 = 1
    rw [depth_ints]
  rw [h1, h2]; rfl
section
variable {K : PySem.W.Frag} {σ : L2.St} {H : Hp} {Q : VK}
/-- ns != [] -/
theorem rd_neNil {q o : Addr} {ns : List Int} (h1 : SqL K H q (ns.map V.int)) (h2 : H o = some (.lst [])) (k : Q (.bl (decide (ns ≠ []))) H) : rNeD K (.ref q) (.ref o) H Q := by
  refine ⟨.list (ns.map PyData.int), .list [], .lst h1 dp_ints, dp_nil h2, shaped_ints ns, rfl, ?_⟩
  cases ns with
  | nil => exact k
  | cons n ns => exact k
theorem sto_lst {p : Addr} {xs : List V} {k : Int} {j : Nat} {v : V} {Q : Hp → Prop} (h : H p = some (.lst xs)) (e : ixN xs.length k = some j) (q : ∀ H1, But p H H1 → H1 p = some (.lst (xs.set j v)) → Q H1) : rSetL (.ref p) (.int k) v H Q := ⟨p, xs, k, j, rfl, rfl, h, e, q _ but_upd upd_same⟩
end
theorem small_sz {n : Nat} (h : n ≤ 1000) : n ≤ sizeLine := Nat.le_of_lt (small1000 h)
end EE

/-! ### relations by name -/
namespace EE
open PySem PySem.Spec PyProof.Rows L2
abbrev LR := List V → Hp → VK → Prop
def rInt1 : LR := fun xs H Q => (∃ i, xs = [.int i] ∧ Q (.int i) H) ∨ ∃ k, xs = [.bl k] ∧ Q (.int (if k then 1 else 0)) H
def rAbs : LR := fun xs H Q => ∃ i, xs = [.int i] ∧ Q (.int (if i < 0 then -i else i)) H
def rLenQ (K : PySem.W.Frag) : LR := fun xs H Q => ∃ p ys, xs = [.ref p] ∧ (SqL K H p ys ∨ SqT K H p ys) ∧ Q (.int ys.length) H
def rLenS : LR := fun xs H Q => ∃ z, xs = [.str z] ∧ z.length ≤ sizeLine ∧ Q (.int z.length) H
def rListOf (K : PySem.W.Frag) : LR := fun xs H Q => ∃ p ys, xs = [.ref p] ∧ (SqL K H p ys ∨ SqT K H p ys) ∧ ∀ l, H l = none → Q (.ref l) (upd H l (.lst ys))
def rTupOf (K : PySem.W.Frag) : LR := fun xs H Q => ∃ p ys, xs = [.ref p] ∧ ((SqL K H p ys ∧ ∀ l, H l = none → Q (.ref l) (upd H l (.tup ys))) ∨ (SqT K H p ys ∧ Q (.ref p) H))
def rStrI : LR := fun xs H Q => ∃ i, xs = [.int i] ∧ i.natAbs.log2 < 1920 ∧ Q (.str (toString i)) H
def rReprD (K : PySem.W.Frag) : LR := fun xs H Q => ∃ (a : Addr) (d : PyData), xs = [.ref a] ∧ Dp K H (.ref a) d ∧ d.showable = true ∧ d.hasDict = false ∧ d.depth ≤ 60 ∧ d.shown.length ≤ sizeLine ∧ Q (.str d.shown) H
def rAddS : R2 := fun x y H Q => ∃ i j, x = .str i ∧ y = .str j ∧ i.length + j.length ≤ sizeLine ∧ Q (.str (i ++ j)) H
def rInS : R2 := fun x y H Q => ∃ (c : Nat) (z : Str), x = .str ⟨#[c]⟩ ∧ y = .str z ∧ Q (.bl (decide (c ∈ z.cps.toList))) H
def rNotInS : R2 := fun x y H Q => ∃ (c : Nat) (z : Str), x = .str ⟨#[c]⟩ ∧ y = .str z ∧ Q (.bl (!decide (c ∈ z.cps.toList))) H
def rIsN : R2 := fun x y H Q => y = .non ∧ Q (.bl (decide (x = .non))) H
def rNotN : R2 := fun x y H Q => y = .non ∧ Q (.bl (!decide (x = .non))) H
section
variable {X : Cx}
theorem cr_int1 : CallR X (.type "int") rInt1 := call_int1
theorem cr_abs : CallR X (.builtin "abs") rAbs := call_abs
theorem cr_lenQ : CallR X (.builtin "len") (rLenQ X.K) := call_len_seq
theorem cr_lenS : CallR X (.builtin "len") rLenS := call_len_str
theorem cr_listOf : CallR X (.type "list") (rListOf X.K) := call_list_of
theorem cr_tupOf : CallR X (.type "tuple") (rTupOf X.K) := call_tuple_of
theorem cr_strI : CallR X (.type "str") rStrI := call_str_int
theorem cr_repr (hg : X.A.guards = some []) (hu : X.A.units + 64 < cLine) : CallR X (.builtin "repr") (rReprD X.K) := call_repr hg hu
theorem or_addS : OpR X (binaryOp .Add) rAddS := op_add_str
theorem or_inS : OpR X (compareOp .In) rInS := op_in_sign
theorem or_notInS : OpR X (compareOp .NotIn) rNotInS := op_notIn_sign
theorem or_isN : OpR X (compareOp .Is) rIsN := op_isN
theorem or_notN : OpR X (compareOp .IsNot) rNotN := op_notN
end
section
variable {K : PySem.W.Frag} {σ : L2.St} {H : Hp} {Q : VK}
theorem rd_int1 {i : Int} (q : Q (.int i) H) : rInt1 [.int i] H Q := .inl ⟨i, rfl, q⟩
theorem rd_int1b {b : Bool} (q : Q (.int (if b then 1 else 0)) H) : rInt1 [.bl b] H Q := .inr ⟨b, rfl, q⟩
theorem rd_abs {i : Int} (q : Q (.int (if i < 0 then -i else i)) H) : rAbs [.int i] H Q := ⟨i, rfl, q⟩
theorem rd_len {p : Addr} {ys : List V} (h : SqL K H p ys) (q : Q (.int ys.length) H) : rLenQ K [.ref p] H Q := ⟨p, ys, rfl, .inl h, q⟩
theorem rd_lenT {p : Addr} {ys : List V} (h : SqT K H p ys) (q : Q (.int ys.length) H) : rLenQ K [.ref p] H Q := ⟨p, ys, rfl, .inr h, q⟩
theorem rd_lenS {z : Str} (q : Q (.int z.length) H) (h : z.length ≤ sizeLine) : rLenS [.str z] H Q := ⟨z, rfl, h, q⟩
theorem rd_strI {i : Int} (q : Q (.str (toString i)) H) (h : i.natAbs.log2 < 1920) : rStrI [.int i] H Q := ⟨i, rfl, h, q⟩
theorem rd_addS {i j : Str} (q : Q (.str (i ++ j)) H) (h : i.length + j.length ≤ sizeLine) : rAddS (.str i) (.str j) H Q := ⟨i, j, rfl, rfl, h, q⟩
theorem rd_inS {c : Nat} {z : Str} (q : Q (.bl (decide (c ∈ z.cps.toList))) H) : rInS (.str ⟨#[c]⟩) (.str z) H Q := ⟨c, z, rfl, rfl, q⟩
theorem rd_notInS {c : Nat} {z : Str} (q : Q (.bl (!decide (c ∈ z.cps.toList))) H) : rNotInS (.str ⟨#[c]⟩) (.str z) H Q := ⟨c, z, rfl, rfl, q⟩
theorem rd_isN {x : V} (q : Q (.bl (decide (x = .non))) H) : rIsN x .non H Q := ⟨rfl, q⟩
theorem rd_notN {x : V} (q : Q (.bl (!decide (x = .non))) H) : rNotN x .non H Q := ⟨rfl, q⟩
end
end EE

namespace EE
open PySem PySem.Spec PyProof.Rows L2
theorem mixOk {m a c1 c2 c3 : Int} (m0 : 0 ≤ m) (m1 : m < 2147483648) (a0 : 0 ≤ a) (a1 : a ≤ 1000000) (h1 : 0 ≤ c1) (h1' : c1 ≤ 1000000) (h2 : 0 ≤ c2) (h2' : c2 ≤ 1000000) (h3 : 0 ≤ c3) (h3' : c3 ≤ 1000000) :
    CPow (m * (2 * a + c1) + c2 * a * a + c3) 3 := by
  refine ⟨by decide, by decide, ?_⟩
  have e1 : m * (2 * a + c1) ≤ 2147483648 * 3000000 := Int.mul_le_mul (by omega) (by omega) (by omega) (by omega)
  have e0 : 0 ≤ m * (2 * a + c1) := Int.mul_nonneg m0 (by omega)
  have f1 : c2 * a ≤ 1000000 * 1000000 := Int.mul_le_mul h2' a1 a0 (by omega)
  have f0 : 0 ≤ c2 * a := Int.mul_nonneg h2 a0
  have g1 : c2 * a * a ≤ (1000000 * 1000000) * 1000000 := Int.mul_le_mul f1 a1 a0 (by omega)
  have g0 : 0 ≤ c2 * a * a := Int.mul_nonneg f0 a0
  omega
theorem mixMul {c2 a : Int} (a0 : 0 ≤ a) (a1 : a ≤ 1000000) (h2 : 0 ≤ c2) (h2' : c2 ≤ 1000000) : CMul (c2 * a) a := by
  have f1 : c2 * a ≤ 1000000 * 1000000 := Int.mul_le_mul h2' a1 a0 (by omega)
  have f0 : 0 ≤ c2 * a := Int.mul_nonneg h2 a0
  exact .inl (by omega)
theorem modLo {x m : Int} (h : 0 < m) : 0 ≤ x % m := Int.emod_nonneg _ (by omega)
theorem modHi {x m : Int} (h : 0 < m) : x % m < m := Int.emod_lt_of_pos _ h
end EE

/-! Own layer: texts, comprehensions, isinstance. -/
namespace EE
open PySem PySem.Spec PyProof.Rows L2
/-! ### texts of plain signs -/
def Asc (z : Str) : Prop := ∀ c ∈ z.cps.toList, c < 128
instance (z : Str) : Decidable (Asc z) := by unfold Asc; infer_instance
theorem Asc.ok {z : Str} (h : Asc z) : PyData.strOk z = true := by
  unfold PyData.strOk
  rw [← Array.all_toList, List.all_eq_true]
  intro c hc
  exact decide_eq_true (Nat.lt_trans (h c hc) (by decide))
theorem asc_append {x y : Str} (hx : Asc x) (hy : Asc y) : Asc (x ++ y) := by
  intro c hc
  have e : (x ++ y).cps.toList = x.cps.toList ++ y.cps.toList := Array.toList_append
  rw [e, List.mem_append] at hc
  rcases hc with hc | hc
  · exact hx c hc
  · exact hy c hc
theorem len_append (x y : Str) : (x ++ y).length = x.length + y.length := Array.size_append
theorem asc_cut {z : Str} (h : Asc z) (lo hi : Option Int) : Asc (cutS z lo hi) := by
  intro c hc
  have e : (cutS z lo hi).cps.toList = (z.cps.toList.drop (HT.sIx z.length 0 lo)).take (HT.sIx z.length z.length hi - HT.sIx z.length 0 lo) := rfl
  rw [e] at hc
  exact h c (List.mem_of_mem_drop (List.mem_of_mem_take hc))
theorem asc_one {c : Nat} (h : c < 128) : Asc ⟨#[c]⟩ := by
  intro d hd
  have e : d = c := by simpa using hd
  omega
theorem asc_join {sep : Str} (hs : Asc sep) : ∀ {ys : List Str}, (∀ y ∈ ys, Asc y) → Asc (Str.join sep ys)
  | [], _ => fun c hc => absurd hc (by show ¬ c ∈ ([] : List Nat); simp)
  | [x], h => h x (by simp)
  | x :: y :: r, h => by
    show Asc (x ++ sep ++ Str.join sep (y :: r))
    exact asc_append (asc_append (h x (by simp)) hs) (asc_join hs fun z hz => h z (List.mem_cons_of_mem _ hz))
theorem len_join (sep : Str) : ∀ ys : List Str, (Str.join sep ys).length ≤ (ys.map (·.length)).sum + ys.length * sep.length
  | [] => Nat.zero_le _
  | [x] => by simp [Str.join]
  | x :: y :: r => by
    show (x ++ sep ++ Str.join sep (y :: r)).length ≤ _
    rw [len_append, len_append]
    have ih := len_join sep (y :: r)
    simp only [List.map_cons, List.sum_cons, List.length_cons] at ih ⊢
    rw [Nat.add_mul (r.length + 1) 1]
    omega
theorem asc_int (i : Int) : Asc (toString i : String) := by
  intro c hc
  have e : (Str.ofString (toString i)).cps.toList = (toString i).toList.map Char.toNat := signs_ofString _
  have hc' : c ∈ (toString i).toList.map Char.toNat := by
    rw [← e]; exact hc
  obtain ⟨ch, h1, rfl⟩ := List.mem_map.mp hc'
  rcases int_sign i ch h1 with h | h
  · unfold Char.isDigit at h
    simp at h
    have := h.2
    show ch.val.toNat < 128
    have h2 : ch.val.toNat ≤ 57 := this
    omega
  · rw [h]; decide
theorem len_int {i : Int} {k : Nat} (hk : 0 < k) (h : i.natAbs < 10 ^ k) : (Str.ofString (toString i)).length ≤ k + 1 := by
  have := int_text_length_le10 hk h
  have e : (Str.ofString (toString i)).length = (toString i).length := by
    show (Str.ofString (toString i)).cps.size = (toString i).length
    rw [← Array.length_toList, signs_ofString, List.length_map]
    rfl
  omega
theorem log2_lt {n k : Nat} (h : n < 2 ^ k) (hk : 0 < k) : n.log2 < k := by
  rcases Nat.eq_zero_or_pos n with e | e
  · subst e; exact hk
  · exact (Nat.log2_lt (by omega)).mpr h
section
variable {K : PySem.W.Frag} {σ : L2.St} {H : Hp} {Q : VK}
theorem rd_slS {z : Str} {lo hi : Option Int} (q : Q (.str (cutS z lo hi)) H) (h : z.length ≤ sizeLine) : rSlS (.str z) lo hi H Q := ⟨z, rfl, h, q⟩
theorem rd_slL {a : Addr} {xs : List V} {lo hi : Option Int} (h : SqL K H a xs) (q : ∀ p H2, H p = none → Same H H2 → H2 p = some (.lst (cutV xs lo hi)) → Q (.ref p) H2) : rSlL K (.ref a) lo hi H Q :=
  ⟨a, xs, rfl, h, fun p hp => q p _ hp (same_new hp) upd_same⟩
theorem rd_listOf {a : Addr} {xs : List V} (h : SqL K H a xs) (q : ∀ p H2, H p = none → Same H H2 → H2 p = some (.lst xs) → Q (.ref p) H2) : rListOf K [.ref a] H Q := ⟨a, xs, rfl, .inl h, fun p hp => q p _ hp (same_new hp) upd_same⟩
theorem rd_listOfT {a : Addr} {xs : List V} (h : SqT K H a xs) (q : ∀ p H2, H p = none → Same H H2 → H2 p = some (.lst xs) → Q (.ref p) H2) : rListOf K [.ref a] H Q := ⟨a, xs, rfl, .inr h, fun p hp => q p _ hp (same_new hp) upd_same⟩
theorem rd_exI {i : Int} {P : Int → Prop} (h : P i) : ∃ j, V.int i = V.int j ∧ P j := ⟨i, rfl, h⟩
theorem rd_ixS {z : Str} {i : Int} {c : Nat} (e : atI z.cps.toList i = some c) (q : Q (.str ⟨#[c]⟩) H) (h : z.length ≤ sizeLine) : rIxS (.str z) (.int i) H Q := ⟨z, i, c, rfl, rfl, h, e, q⟩
/-- join, by name -/
def rJoin (K : PySem.W.Frag) : V → List V → Hp → VK → Prop := fun x xs H Q => ∃ a p, ∃ ys : List Str, x = .str a ∧ xs = [.ref p] ∧ (SqL K H p (ys.map V.str) ∨ SqT K H p (ys.map V.str)) ∧ (ys.map (·.length)).sum + ys.length * a.length ≤ 16777216 ∧ Q (.str (Txt.join a ys)) H
theorem mt_joinN {X : Cx} : MtR X "str.join" (rJoin X.K) := mt_join
theorem rd_M1 {r : V → List V → Hp → VK → Prop} {to te : TE} (h : to σ H fun x H1 => (∃ a, x = .str a) ∧ te σ H1 fun y H2 => r x [y] H2 Q) : tM1 r to te σ H Q := h
theorem rd_M0 {r : V → List V → Hp → VK → Prop} {to : TE} (h : to σ H fun x H1 => (∃ a, x = .str a) ∧ r x [] H1 Q) : tM0 r to σ H Q := h
theorem rd_isS {a : Str} {P : Prop} (h : P) : (∃ b, V.str a = V.str b) ∧ P := ⟨⟨a, rfl⟩, h⟩
theorem rd_joinL {a : Str} {p : Addr} {ys : List Str} (h : H p = some (.lst (ys.map V.str))) (hs : (ys.map (·.length)).sum + ys.length * a.length ≤ 16777216) (q : Q (.str (Str.join a ys)) H) : rJoin K (.str a) [.ref p] H Q := ⟨a, p, ys, rfl, rfl, .inl (sqL_of h), hs, by rw [TL.join_eq]; exact q⟩
/-- isinstance with a built-in class -/
theorem rd_isi {x : V} {a c : String} {b : Bool} (ty : TyX K H x (.type a)) (e : kitB a c = some b) (q : Q (.bl b) H) : rIsi K [x, .ty c] H Q := ⟨x, .ty c, .type a, .type c, b, rfl, .ty c, ty, kit_ty e, q⟩
end
/-! ### comprehensions: what is made so far is a filterMap -/
structure LcI {α : Type} (l : List α) (F : α → Option V) (D : Addr) (H0 : Hp) (i : Nat) (H : Hp) : Prop where
  same : Same H0 H
  at_ : H D = some (.lst ((l.take i).filterMap F))
theorem LcI.zero {α : Type} {l : List α} {F : α → Option V} {D : Addr} {H0 : Hp} (hD : H0 D = none) : LcI l F D H0 0 (upd H0 D (.lst [])) := ⟨same_new hD, upd_same⟩
theorem LcI.some {α : Type} {l : List α} {F : α → Option V} {D : Addr} {H0 H H4 : Hp} {i : Nat} {a : α} {y : V} (I : LcI l F D H0 i H) (hD : H0 D = none) (hi : l[i]? = some a) (hF : F a = some y) (s : Same H H4) (hl : l.length ≤ 1000000) :
    ∃ acc, H4 D = some (.lst acc) ∧ acc.length < sizeLine ∧ LcI l F D H0 (i + 1) (upd H4 D (.lst (acc ++ [y]))) := by
  refine ⟨_, s _ _ I.at_, ?_, ?_, ?_⟩
  · have h1 := List.length_filterMap_le F (l.take i)
    have h2 : (l.take i).length ≤ l.length := by rw [List.length_take]; exact Nat.min_le_right _ _
    exact Nat.lt_of_le_of_lt (Nat.le_trans h1 (Nat.le_trans h2 hl)) (by decide)
  · intro b o e
    rw [upd_ne (ne_of_none e hD)]
    exact s _ _ (I.same _ _ e)
  · rw [upd_same, List.take_add_one, hi, List.filterMap_append]
    simp [hF]
theorem LcI.none {α : Type} {l : List α} {F : α → Option V} {D : Addr} {H0 H H4 : Hp} {i : Nat} {a : α} (I : LcI l F D H0 i H) (hi : l[i]? = .some a) (hF : F a = .none) (s : Same H H4) : LcI l F D H0 (i + 1) H4 := by
  refine ⟨fun b o e => s _ _ (I.same _ _ e), ?_⟩
  rw [s _ _ I.at_, List.take_add_one, hi, List.filterMap_append]
  simp [hF]
theorem LcI.done {α : Type} {l : List α} {F : α → Option V} {D : Addr} {H0 H : Hp} (I : LcI l F D H0 l.length H) : H D = Option.some (HO.lst (l.filterMap F)) := by
  rw [I.at_, List.take_length]
/-- over a text -/
theorem lc_str {x : Str} {g : TG} {tt : TT} {te : TE} {vs : List Nat} {σ : L2.St} {H1 : Hp} {D : Addr} {Qd : Hp → Prop} (Pv : Nat → Hp → Prop) (h0 : Pv 0 (upd H1 D (.lst [])))
    (hs : ∀ i c H, x.cps.toList[i]? = some c → Pv i H → g (.str ⟨#[c]⟩) (wipe σ vs) H fun σ2 H2 => wipe σ2 vs = wipe σ vs ∧ tt σ2 H2 fun b H3 =>
      if b = true then te σ2 H3 fun y H4 => ∃ acc, H4 D = some (.lst acc) ∧ acc.length < sizeLine ∧ Pv (i + 1) (upd H4 D (.lst (acc ++ [y]))) else Pv (i + 1) H3) (hd : ∀ H, Pv x.cps.toList.length H → Qd H) :
    ∃ W : Nat → Nat → Hp → Prop, (∃ m, W 0 m (upd H1 D (.lst []))) ∧ ∀ i m H, W i m H →
      ((Its x).stop i H ∧ Qd H) ∨ ((Its x).go i H ∧ ∃ Nx : Hp → Prop, (∀ H', Nx H' → ∃ m', m' < m ∧ W (i + 1) m' H') ∧ ∀ y H', (Its x).yld i H y H' → g y (wipe σ vs) H' fun σ2 H2 => wipe σ2 vs = wipe σ vs ∧ tt σ2 H2 fun b H3 =>
        if b = true then te σ2 H3 fun y H4 => ∃ acc, H4 D = some (.lst acc) ∧ acc.length < sizeLine ∧ Nx (upd H4 D (.lst (acc ++ [y]))) else Nx H3) := by
  have en : x.cps.toList.length = x.cps.size := Array.length_toList
  refine ⟨fun i m H => m = x.cps.size - i ∧ i ≤ x.cps.size ∧ Pv i H, ⟨x.cps.size, by simp, Nat.zero_le _, h0⟩, ?_⟩
  rintro i m H ⟨rfl, hi, p⟩
  by_cases hlt : i < x.cps.size
  · refine .inr ⟨hlt, Pv (i + 1), fun H' p' => ⟨x.cps.size - (i + 1), by omega, rfl, hlt, p'⟩, fun y H' q => ?_⟩
    obtain ⟨e, c, hc, rfl⟩ := q
    subst e
    exact hs i c H' (by rw [Array.getElem?_toList]; exact hc) p
  · have e : i = x.cps.size := by omega
    subst e
    rw [en] at hd
    exact .inl ⟨Nat.le_refl _, hd H p⟩
section
variable {K : PySem.W.Frag} {σ : L2.St} {H : Hp} {Q : VK}
/-- the comprehension's reading: what is walked, then the loop at a new list -/
def LcAt (g : TG) (tt : TT) (te : TE) (vs : List Nat) (σ : L2.St) (Q : VK) (J : It) (H1 : Hp) : Prop := ∀ D, H1 D = none → ∃ W : Nat → Nat → Hp → Prop, (∃ m, W 0 m (upd H1 D (.lst []))) ∧ ∀ i m H, W i m H →
  (J.stop i H ∧ Q (.ref D) H) ∨ (J.go i H ∧ ∃ Nx : Hp → Prop, (∀ H', Nx H' → ∃ m', m' < m ∧ W (i + 1) m' H') ∧ ∀ x H', J.yld i H x H' → g x (wipe σ vs) H' fun σ2 H2 => wipe σ2 vs = wipe σ vs ∧ tt σ2 H2 fun b H3 =>
    if b = true then te σ2 H3 fun y H4 => ∃ acc, H4 D = some (.lst acc) ∧ acc.length < sizeLine ∧ Nx (upd H4 D (.lst (acc ++ [y]))) else Nx H3)
theorem rd_lc {wi : TI} {g : TG} {tt : TT} {te : TE} {vs : List Nat} (h : wi σ H (LcAt g tt te vs σ Q)) : tLc wi g tt te vs σ H Q := h
theorem rd_iStr {te : TE} {R : It → Hp → Prop} (h : te σ H fun v H1 => ∃ x, v = .str x ∧ R (Its x) H1) : iStr te σ H R := h
theorem rd_exS {z : Str} {P : Str → Prop} (h : P z) : ∃ x, V.str z = .str x ∧ P x := ⟨z, rfl, h⟩
/-- pure: each sign gives a value or none -/
theorem lcat_str {g : TG} {tt : TT} {te : TE} {vs : List Nat} {x : Str} (F : Nat → Option V) (hl : x.length ≤ 1000000)
    (hs : ∀ D i c H', H D = none → x.cps.toList[i]? = some c → LcI x.cps.toList F D H i H' → g (.str ⟨#[c]⟩) (wipe σ vs) H' fun σ2 H2 => wipe σ2 vs = wipe σ vs ∧ tt σ2 H2 fun b H3 =>
      if b = true then te σ2 H3 fun y H4 => ∃ acc, H4 D = some (.lst acc) ∧ acc.length < sizeLine ∧ LcI x.cps.toList F D H (i + 1) (upd H4 D (.lst (acc ++ [y]))) else LcI x.cps.toList F D H (i + 1) H3)
    (hd : ∀ D H', H D = none → Same H H' → H' D = some (.lst (x.cps.toList.filterMap F)) → Q (.ref D) H') : LcAt g tt te vs σ Q (Its x) H := fun D hD =>
  lc_str (LcI x.cps.toList F D H) (LcI.zero hD) (fun i c H' hc I => hs D i c H' hD hc I) fun H' I => hd D H' hD I.same I.done
theorem rd_all {a : Addr} {bs : List Bool} (h : SqL K H a (bs.map V.bl)) (q : Q (.bl (bs.all id)) H) : rAll K [.ref a] H Q := ⟨a, bs, rfl, h, q⟩
theorem rd_any {a : Addr} {bs : List Bool} (h : SqL K H a (bs.map V.bl)) (q : Q (.bl (bs.any id)) H) : rAny K [.ref a] H Q := ⟨a, bs, rfl, h, q⟩
theorem dp_strs : ∀ {zs : List Str}, DpAll K H (zs.map V.str) (zs.map PyData.str)
  | [] => .nil
  | z :: zs => .cons (.str z) dp_strs
theorem dp_bls : ∀ {zs : List Bool}, DpAll K H (zs.map V.bl) (zs.map PyData.bool)
  | [] => .nil
  | z :: zs => .cons (.bl z) dp_bls
end
theorem shaped_flat {ds : List PyData} (h : ∀ d ∈ ds, PyData.canLay0 d = true ∧ PyData.depth d = 0) : SeqAt.shaped (.list ds) = true ∧ SeqAt.shaped (.tuple ds) = true := by
  have h1 : ∀ ds : List PyData, (∀ d ∈ ds, PyData.canLay0 d = true ∧ PyData.depth d = 0) → PyData.canLayAll0 ds = true ∧ PyData.depthAll ds = 0 := by
    intro ds
    induction ds with
    | nil => intro _; exact ⟨rfl, rfl⟩
    | cons d ds ih =>
      intro h
      obtain ⟨i1, i2⟩ := ih fun x hx => h x (List.mem_cons_of_mem _ hx)
      obtain ⟨j1, j2⟩ := h d List.mem_cons_self
      constructor
      · show (PyData.canLay0 d && PyData.canLayAll0 ds) = true
        rw [i1, j1]; rfl
      · show max (PyData.depth d) (PyData.depthAll ds) = 0
        rw [i2, j2]; rfl
  obtain ⟨a, b⟩ := h1 ds h
  constructor
  · unfold SeqAt.shaped
    rw [show PyData.canLay0 (.list ds) = true from a, show PyData.depth (.list ds) = 1 by show PyData.depthAll ds + 1 = 1; rw [b]]
    rfl
  · unfold SeqAt.shaped
    rw [show PyData.canLay0 (.tuple ds) = true from a, show PyData.depth (.tuple ds) = 1 by show PyData.depthAll ds + 1 = 1; rw [b]]
    rfl
section
variable {K : PySem.W.Frag} {σ : L2.St} {H : Hp} {Q : VK}
/-- zs == [] of texts -/
theorem rd_eqNilS {q o : Addr} {zs : List Str} (h1 : SqL K H q (zs.map V.str)) (h2 : H o = some (.lst [])) (ha : ∀ z ∈ zs, Asc z) (k : Q (.bl (decide (zs = []))) H) : rEqD K (.ref q) (.ref o) H Q := by
  refine ⟨.list (zs.map PyData.str), .list [], .lst h1 dp_strs, dp_nil h2, (shaped_flat fun d hd => ?_).1, rfl, ?_⟩
  · obtain ⟨z, hz, rfl⟩ := List.mem_map.mp hd
    exact ⟨(ha z hz).ok, rfl⟩
  · cases zs with
    | nil => exact k
    | cons n ns => exact k
end
end EE
namespace EE
open PySem PySem.Spec PyProof.Rows L2
/-! ### values of the plain kinds -/
def isStrV : V → Bool | .str _ => true | _ => false
def isBoolV : V → Bool | .bl _ => true | _ => false
def isIntV : V → Bool | .int _ => true | .bl _ => true | _ => false
inductive Th (H : Hp) : V → Prop where
  | non : Th H .non
  | bl (b : Bool) : Th H (.bl b)
  | int (i : Int) : Th H (.int i)
  | str (z : Str) (hl : z.length ≤ 1000) (ha : Asc z) : Th H (.str z)
  | lst {a : Addr} {xs : List V} (h : H a = some (.lst xs)) : Th H (.ref a)
  | tup {a : Addr} {xs : List V} (h : H a = some (.tup xs)) : Th H (.ref a)
  | dK {a : Addr} {kvs : List (Key × V)} (h : H a = some (.dK kvs)) : Th H (.ref a)
theorem Th.ty {K : PySem.W.Frag} {H : Hp} {x : V} (h : Th H x) : ∃ t, TyX K H x (.type t) ∧ kitB t "str" = some (isStrV x) ∧ kitB t "int" = some (isIntV x) ∧ kitB t "bool" = some (isBoolV x) := by
  cases h with
  | non => exact ⟨"NoneType", .base .non, (show kitB "NoneType" "str" = some false by decide +kernel), (show kitB "NoneType" "int" = some false by decide +kernel), (show kitB "NoneType" "bool" = some false by decide +kernel)⟩
  | bl b => exact ⟨"bool", .base (.bl b), (show kitB "bool" "str" = some false by decide +kernel), (show kitB "bool" "int" = some true by decide +kernel), (show kitB "bool" "bool" = some true by decide +kernel)⟩
  | int i => exact ⟨"int", .base (.int i), (show kitB "int" "str" = some false by decide +kernel), (show kitB "int" "int" = some true by decide +kernel), (show kitB "int" "bool" = some false by decide +kernel)⟩
  | str z _ _ => exact ⟨"str", .base (.str z), (show kitB "str" "str" = some true by decide +kernel), (show kitB "str" "int" = some false by decide +kernel), (show kitB "str" "bool" = some false by decide +kernel)⟩
  | lst h => exact ⟨"list", .base (.lst h), (show kitB "list" "str" = some false by decide +kernel), (show kitB "list" "int" = some false by decide +kernel), (show kitB "list" "bool" = some false by decide +kernel)⟩
  | tup h => exact ⟨"tuple", .base (.tup h), (show kitB "tuple" "str" = some false by decide +kernel), (show kitB "tuple" "int" = some false by decide +kernel), (show kitB "tuple" "bool" = some false by decide +kernel)⟩
  | dK h => exact ⟨"dict", .base (.dK h), (show kitB "dict" "str" = some false by decide +kernel), (show kitB "dict" "int" = some false by decide +kernel), (show kitB "dict" "bool" = some false by decide +kernel)⟩
theorem Th.keep {H H' : Hp} {x : V} (h : Th H x) (s : Same H H') : Th H' x := by
  cases h with
  | non => exact .non
  | bl b => exact .bl b
  | int i => exact .int i
  | str z a b => exact .str z a b
  | lst h => exact .lst (s _ _ h)
  | tup h => exact .tup (s _ _ h)
  | dK h => exact .dK (s _ _ h)
def offV (p : Addr) : V → Prop | .ref a => a ≠ p | _ => True
theorem Th.but {H H' : Hp} {p : Addr} {x : V} (h : Th H x) (n : offV p x) (s : But p H H') : Th H' x := by
  cases h with
  | non => exact .non
  | bl b => exact .bl b
  | int i => exact .int i
  | str z a b => exact .str z a b
  | lst h => exact .lst (s _ _ n h)
  | tup h => exact .tup (s _ _ n h)
  | dK h => exact .dK (s _ _ n h)
end EE

namespace EE
open PySem PySem.Spec PyProof.Rows L2
section
variable {A B p : Prop}
theorem rd_yes {σ : L2.St} {H : Hp} {Q : Bool → Hp → Prop} (h : Q true H) : tYes σ H Q := h
theorem iteNT (h : B) : if (!true) = true then A else B := iteF h
theorem iteNF (h : A) : if (!false) = true then A else B := iteT h
theorem rd_dec [Decidable p] (h1 : p → A) (h2 : ¬ p → B) : if decide p = true then A else B := by
  by_cases h : p
  · rw [decide_eq_true h]; exact iteT (h1 h)
  · rw [decide_eq_false h]; exact iteF (h2 h)
theorem rd_decN [Decidable p] (h1 : ¬ p → A) (h2 : p → B) : if (!decide p) = true then A else B := by
  by_cases h : p
  · rw [decide_eq_true h]; exact iteF (h2 h)
  · rw [decide_eq_false h]; exact iteT (h1 h)
theorem filterMap_some {α β : Type} (f : α → β) : ∀ l : List α, l.filterMap (fun a => some (f a)) = l.map f
  | [] => rfl
  | a :: l => by
    rw [List.filterMap_cons, filterMap_some f l]
    rfl
end
end EE
namespace EE
open PySem PySem.Spec PyProof.Rows L2
theorem mixL {x m j : Int} (h : 0 < m) (h2 : m < 2147483648) : CMul (x % m) j := .inl ⟨by have := modLo (x := x) h; omega, by have := modHi (x := x) h; omega⟩
theorem cutV_ints (ns : List Int) (lo hi : Option Int) : cutV (ns.map V.int) lo hi = ((ns.drop (HT.sIx ns.length 0 lo)).take (HT.sIx ns.length ns.length hi - HT.sIx ns.length 0 lo)).map V.int := by
  unfold cutV
  rw [List.length_map, List.map_take, List.map_drop]
theorem len_cutI (ns : List Int) (i j : Nat) : ((ns.drop i).take j).length ≤ ns.length := by
  rw [List.length_take, List.length_drop]
  omega
/-- a new pen for the script -/
def spPen (K : PySem.W.Frag) : Sp := fun vs H Q _ => ∃ (a : Addr) (ns : List Int), vs = [.ref a] ∧ SqL K H a (ns.map V.int) ∧ ns.length ≤ 63 ∧ ∀ p q H', H p = none → Same H H' → PenAt 0 H' p q → Q (.ref p) H'
/-- one of a list's items -/
def spPickL : Sp := fun vs H Q _ => ∃ (p q l : Addr) (xs : List V) (n : Nat), vs = [.ref p, .ref l] ∧ H l = some (.lst xs) ∧ l ≠ p ∧ 0 < xs.length ∧ xs.length ≤ 1000 ∧ n ≤ 1000000 ∧ PenAt n H p q ∧
  ∀ x H', x ∈ xs → But p H H' → PenAt (n + 1) H' p q → Q x H'
end EE

/-! Own layer: calls by keywords alone. -/
namespace EE
open PySem PySem.Spec PyProof.Rows L2
section
variable {X : Cx} {CX : CXT} {k n : Nat} {f C : Addr} {fd : FuncData} {ps ks : List Str} {sp : Sp} {E : XK} {x : Str} {p pos : Pos} {e : Expr} {es : List Expr} {kws : List Keyword} {t tk : TA} {g : List Value → List Value → List Value} {gV : List V → List V → List V}
/-- f(k = v, ..) -/
theorem pe_callN0 (F : FnOk X.prog X.w X.K X.mg X.base CX k f fd ps sp) (hr : Room k X.A) (hg : Gl X x) (hm : X.mg x = some (.ref f)) (hk : PySem.W.keepIn X.K (.ref f) = true) (hb : KBn X.K fd ps 0 ks g gV) (hx : Passes CX X E)
    (hkw : PK X kws tk) (hall : (backToKw pos (keywordEach kws X.env)).all (·.1.isSome) = true := by rfl) (hks : (backToKw pos (keywordEach kws X.env)).filterMap (·.1) = ks := by rfl)
    (hdb : (x == ("__debug__" : Str)) = false := by decide)
    (hpl : ((backTo pos (starEach [] X.env)).any (·.1) || (backToKw pos (keywordEach kws X.env)).any (·.1.isNone)) = false := by rfl) :
    PE X (.Call (.Name x p) [] kws pos) (tCallN 0 ks.length sp gV E tNil tk) := by
  refine ⟨fun pins s σ H Q I h => ?_⟩
  refine wpAny_Call_Name_kw (ld_glob I hg hm ?_ hdb)
  refine PySem.W.callWith_KW0 (h₀ := X.base) I.ok.mod.kin hk hall ?_ hpl
  refine thn (hkw.run pos pins s σ H _ I h) fun ws s2 ⟨zs, H2, I2, rz, l1, l2, q2⟩ => ⟨I2.kIn, ?_⟩
  rw [hks]
  exact run_fnN (us := []) (vs := []) F hr hb hx I2 .nil rz rfl l2 q2
end
section
variable {σ : L2.St} {H : Hp} {Q : VK}
theorem rd_callN {n m : Nat} {sp : Sp} {gV : List V → List V → List V} {E : XK} {t tk : TA} (h : t σ H fun vs H1 => tk σ H1 fun zs H2 => vs.length = n ∧ zs.length = m ∧ sp (gV vs zs) H2 Q E) : tCallN n m sp gV E t tk σ H Q := h
theorem rd_iRng1 {ta : TA} {R : It → Hp → Prop} (h : ta σ H fun vs H1 => ∃ j : Int, vs = [.int j] ∧ -(2 ^ 62) ≤ j ∧ j < 2 ^ 62 ∧ R (Itr 0 j.toNat) H1) : iRng1 ta σ H R := h
theorem rd_iRng2 {ta : TA} {R : It → Hp → Prop} (h : ta σ H fun vs H1 => ∃ i j : Int, vs = [.int i, .int j] ∧ (-(2 ^ 62) ≤ i ∧ i < 2 ^ 62 ∧ -(2 ^ 62) ≤ j ∧ j < 2 ^ 62) ∧ R (Itr i (j - i).toNat) H1) : iRng2 ta σ H R := h
theorem rd_exIs {i : Int} {P : Int → Prop} (h : P i) : ∃ j, [V.int i] = [V.int j] ∧ P j := ⟨i, rfl, h⟩
theorem rd_iList {K : PySem.W.Frag} {te : TE} {R : It → Hp → Prop} (h : te σ H fun x H1 => ∃ a, x = .ref a ∧ (∃ xs, SqL K H1 a xs) ∧ R (Itl K a) H1) : iList K te σ H R := h
theorem rd_iTup {K : PySem.W.Frag} {te : TE} {R : It → Hp → Prop} (h : te σ H fun x H1 => ∃ a, x = .ref a ∧ (∃ xs, SqT K H1 a xs) ∧ R (Itt K a) H1) : iTup K te σ H R := h
theorem rd_exR {a : Addr} {P : Addr → Prop} (h : P a) : ∃ b, V.ref a = V.ref b ∧ P b := ⟨a, rfl, h⟩
/-- an item at a drawn place -/
theorem rd_pickL {K : PySem.W.Frag} {p : Addr} {xs : List V} {d : Int} (h : H p = some (.lst xs)) (d0 : 0 ≤ d) (d1 : d < (xs.length : Nat)) (k : ∀ x, x ∈ xs → Q x H) : rIxL K (.ref p) (.int d) H Q := by
  obtain ⟨j, hj, _, hat⟩ := atI_lt d0 d1
  exact rd_ixL (sqL_of h) hat (k _ (List.getElem_mem hj))
/-- a for loop at its walked thing -/
def ForAt (g : TG) (tb : TS) (D : Ends) (σ : L2.St) (J : It) (H1 : Hp) : Prop := ∃ W : Nat → Nat → L2.St → Hp → Prop, (∃ m, W 0 m σ H1) ∧ ∀ i m σ H, W i m σ H →
  (J.stop i H ∧ D.nx σ H) ∨ (J.go i H ∧ ∃ N : L2.St → Hp → Prop, (∀ σ' H', N σ' H' → ∃ m', m' < m ∧ W (i + 1) m' σ' H') ∧ ∀ x H', J.yld i H x H' → g x σ H' fun σ2 H2 => tb { D with nx := N, ct := N, bk := D.nx } σ2 H2)
theorem rd_for {wi : TI} {g : TG} {tb : TS} {D : Ends} (h : wi σ H (ForAt g tb D σ)) : tFor wi g tb D σ H := h
theorem rd_two {A : Prop} {a b : Nat} (h : A) (ha : a = b := by rfl) {c d : Nat} (hc : c = d := by rfl) : a = b ∧ c = d ∧ A := ⟨ha, hc, h⟩
theorem ent_range {n : Nat} {g : TG} {tt : TT} {te : TE} {vs : List Nat} (Pv : Addr → Nat → Hp → Prop) (h0 : ∀ D, H D = none → Pv D 0 (upd H D (.lst [])))
    (hs : ∀ D i H', H D = none → i < n → Pv D i H' → g (.int (0 + i)) (wipe σ vs) H' fun σ2 H2 => wipe σ2 vs = wipe σ vs ∧ tt σ2 H2 fun b H3 =>
      if b = true then te σ2 H3 fun y H4 => ∃ acc, H4 D = some (.lst acc) ∧ acc.length < sizeLine ∧ Pv D (i + 1) (upd H4 D (.lst (acc ++ [y]))) else Pv D (i + 1) H3)
    (hd : ∀ D H', H D = none → Pv D n H' → Q (.ref D) H') : LcAt g tt te vs σ Q (Itr 0 n) H := fun D hD =>
  lc_range (lo := 0) (Pv D) (h0 D hD) (fun i H' hi I => hs D i H' hD hi I) fun H' I => hd D H' hD I
end
/-- a def that others call: where it stands, its promise -/
structure Cal (P : Program) (w : World) (K : PySem.W.Frag) (mg : Str → Option Value) (base : Heap) (k : Nat) (x : Str) (st : Stmt) (ps : List Str) (sp : Sp) (f : Addr) (fd : FuncData) : Prop where
  F : Fun K x x st f fd
  G : FnOk P w K mg base CX0 k f fd ps sp
  g : mg x = some (.ref f)
  b : Binds K fd ps []
/-- the binding of one keyword to the one parameter -/
theorem kbn_one {K : PySem.W.Frag} {x qual : Str} {st : Stmt} {f : Addr} {fd : FuncData} {p : Str} (F : Fun K x qual st f fd)
    (h : ∀ (kV doc pm : Value) (an : Option Addr) (cdv ct : Value) (u : Value), bindArgs (PySem.W.fnOf x qual (defArgs st) (defBody st) (defScope st) .none kV doc pm an cdv ct) ⟨[], [(p, u)]⟩ = pure [(p, u)]) :
    KBn K fd [p] 0 [p] (fun us ws => us ++ ws) (fun us ws => us ++ ws) := by
  obtain ⟨oc, od, kV, doc, pm, an, cdv, ct, osl, rfl, lk, hcd⟩ := F.ex
  refine ⟨fun s us ws _ l1 l2 => ?_, fun r1 r2 => r1.append r2⟩
  match us, ws, l1, l2 with
  | [], [w], _, _ => exact .of_eq (h kV doc pm an cdv ct w)
end EE

namespace EE
open PySem PySem.Spec PyProof.Rows L2
theorem but_new {D p : Addr} {H H' : Hp} {o : HO} (hD : H D = none) (n : D ≠ p) : But D H' (upd H' D o) := but_upd
/-- a change at an address that was new ahead is no change of what stood there -/
theorem But.grow {D p : Addr} {H0 H : Hp} {o : HO} (hD : H0 D = none) (h : But p H0 H) : But p H0 (upd H D o) := fun b u n e => by
  rw [upd_ne (ne_of_none e hD)]
  exact h b u n e
theorem Same.grow {D : Addr} {H0 H : Hp} {o : HO} (hD : H0 D = none) (h : Same H0 H) : Same H0 (upd H D o) := fun b u e => by
  rw [upd_ne (ne_of_none e hD)]
  exact h b u e
theorem lets_at {d : Int} (d0 : 0 ≤ d) (d1 : d < 26) : ∃ c, atI (Str.ofString "abcdefghijklmnopqrstuvwxyz").cps.toList d = some c ∧ c < 128 := by
  have e : (Str.ofString "abcdefghijklmnopqrstuvwxyz").cps.toList = (List.range 26).map (· + 97) := by decide +kernel
  rw [e]
  unfold atI ixN
  rw [if_pos d0, if_pos (by rw [List.length_map, List.length_range]; exact d1)]
  refine ⟨d.toNat + 97, ?_, by omega⟩
  show ((List.range 26).map (· + 97))[d.toNat]? = _
  rw [List.getElem?_map, List.getElem?_range (by omega)]
  rfl
end EE

namespace EE
open PySem PySem.Spec PyProof.Rows L2
section
variable {K : PySem.W.Frag} {σ : L2.St} {H : Hp} {Q : VK}
theorem rd_dnewK (h : ∀ p H2, H p = none → Same H H2 → H2 p = some (.dK []) → Q (.ref p) H2) : tDNewK σ H Q := fun p hp => h p _ hp (same_new hp) upd_same
/-- a displayed dict behind its pairs -/
def DispAt (p : Addr) (ps : List (V × V)) (H : Hp) (Q : VK) : Prop := H p = some (.dK []) ∧ ∃ kvs : List (Key × V), ps = kvs.map (fun kv => (kV kv.1, kv.2)) ∧ kvs.length ≤ 15 ∧ Q (.ref p) (upd H p (.dK (mergeK [] kvs)))
theorem rd_disp {trs : List (TE × TE)} (h : ∀ p H1, H p = none → Same H H1 → H1 p = some (.dK []) → tPairs trs σ H1 fun ps H2 => DispAt p ps H2 Q) : tDisp trs σ H Q := fun p hp => h p _ hp (same_new hp) upd_same
theorem rd_pnil {R : List (V × V) → Hp → Prop} (h : R [] H) : tPairs [] σ H R := h
theorem rd_pcons {tk tv : TE} {r : List (TE × TE)} {R : List (V × V) → Hp → Prop} (h : tk σ H fun x H1 => tv σ H1 fun y H2 => tPairs r σ H2 fun ps H3 => R ((x, y) :: ps) H3) : tPairs ((tk, tv) :: r) σ H R := h
theorem disp_done {p : Addr} {ps : List (V × V)} (kvs : List (Key × V)) (h : H p = some (.dK [])) (e : ps = kvs.map (fun kv => (kV kv.1, kv.2))) (l : kvs.length ≤ 15) (q : ∀ H3, But p H H3 → H3 p = some (.dK (mergeK [] kvs)) → Q (.ref p) H3) : DispAt p ps H Q := ⟨h, kvs, e, l, q _ but_upd upd_same⟩
theorem _root_.L2.Same.disp {p : Addr} {H H1 H2 : Hp} (n : H p = none) (s : Same H H1) (e : But p H1 H2) : Same H H2 := fun b o h => e _ _ (ne_of_none h n) (s _ _ h)
theorem two_bools (b : Bool) : (PyData.list [.bool b, .bool b]).shown.length ≤ sizeLine := by cases b <;> decide +kernel
theorem dp_two {a : Addr} {b c : Bool} (h : H a = some (.lst [.bl b, .bl c])) : Dp K H (.ref a) (.list [.bool b, .bool c]) := .lst (sqL_of h) (.cons (.bl b) (.cons (.bl c) .nil))
theorem rd_rep {l : Addr} {k : Int} {xs : List V} (h : H l = some (.lst xs)) (k0 : 0 ≤ k) (k1 : k ≤ 1000) (hx : xs.length ≤ 1000) (q : ∀ p H2, H p = none → Same H H2 → H2 p = some (.lst (List.replicate k.toNat xs).flatten) → Q (.ref p) H2) : rRep (.ref l) (.int k) H Q := by
  refine ⟨l, k, xs, rfl, rfl, h, by omega, by omega, ?_, fun p hp => q p _ hp (same_new hp) upd_same⟩
  have : xs.length * k.toNat ≤ 1000 * 1000 := Nat.mul_le_mul hx (by omega)
  exact Nat.le_trans this (by decide)
theorem rd_cat {l b : Addr} {xs zs : List V} (h1 : H l = some (.lst xs)) (h2 : H b = some (.lst zs)) (hl : xs.length + zs.length ≤ 100000) (q : ∀ p H2, H p = none → Same H H2 → H2 p = some (.lst (xs ++ zs)) → Q (.ref p) H2) : rCat (.ref l) (.ref b) H Q :=
  ⟨l, b, xs, zs, rfl, rfl, h1, h2, Nat.le_trans hl (by decide), fun p hp => q p _ hp (same_new hp) upd_same⟩
theorem rd_repr {a : Addr} {d : PyData} (h : Dp K H (.ref a) d) (h1 : d.showable = true) (h2 : d.hasDict = false) (h3 : d.depth ≤ 60) (h4 : d.shown.length ≤ sizeLine) (q : Q (.str d.shown) H) : rReprD K [.ref a] H Q := ⟨a, d, rfl, h, h1, h2, h3, h4, q⟩
theorem rd_eqD {x y : V} {d e : PyData} (h1 : Dp K H x d) (h2 : Dp K H y e) (s1 : SeqAt.shaped d = true) (s2 : SeqAt.shaped e = true) (q : Q (.bl (PyData.eqv d e)) H) : rEqD K x y H Q := ⟨d, e, h1, h2, s1, s2, q⟩
theorem rd_neD {x y : V} {d e : PyData} (h1 : Dp K H x d) (h2 : Dp K H y e) (s1 : SeqAt.shaped d = true) (s2 : SeqAt.shaped e = true) (q : Q (.bl (!PyData.eqv d e)) H) : rNeD K x y H Q := ⟨d, e, h1, h2, s1, s2, q⟩
theorem lcat_tup {g : TG} {tt : TT} {te : TE} {vs : List Nat} {a : Addr} {xs : List V} (F : V → Option V) (hl : xs.length ≤ 1000000) (hx : H a = some (.tup xs))
    (hs : ∀ D i x H', H D = none → xs[i]? = some x → LcI xs F D H i H' → g x (wipe σ vs) H' fun σ2 H2 => wipe σ2 vs = wipe σ vs ∧ tt σ2 H2 fun b H3 =>
      if b = true then te σ2 H3 fun y H4 => ∃ acc, H4 D = some (.lst acc) ∧ acc.length < sizeLine ∧ LcI xs F D H (i + 1) (upd H4 D (.lst (acc ++ [y]))) else LcI xs F D H (i + 1) H3)
    (hd : ∀ D H', H D = none → Same H H' → H' D = some (.lst (xs.filterMap F)) → Q (.ref D) H') : LcAt g tt te vs σ Q (Itt K a) H := fun D hD =>
  lc_tup (K := K) (xs := xs) (LcI xs F D H) (LcI.zero hD) (fun i H' _ I => sqT_of (I.same _ _ hx)) (fun i x H' hc I => hs D i x H' hD hc I) fun H' I => hd D H' hD I.same I.done
theorem lcat_list {g : TG} {tt : TT} {te : TE} {vs : List Nat} {a : Addr} {xs : List V} (F : V → Option V) (hl : xs.length ≤ 1000000) (hx : H a = some (.lst xs))
    (hs : ∀ D i x H', H D = none → xs[i]? = some x → LcI xs F D H i H' → g x (wipe σ vs) H' fun σ2 H2 => wipe σ2 vs = wipe σ vs ∧ tt σ2 H2 fun b H3 =>
      if b = true then te σ2 H3 fun y H4 => ∃ acc, H4 D = some (.lst acc) ∧ acc.length < sizeLine ∧ LcI xs F D H (i + 1) (upd H4 D (.lst (acc ++ [y]))) else LcI xs F D H (i + 1) H3)
    (hd : ∀ D H', H D = none → Same H H' → H' D = some (.lst (xs.filterMap F)) → Q (.ref D) H') : LcAt g tt te vs σ Q (Itl K a) H := fun D hD =>
  lc_list (K := K) (xs := xs) (LcI xs F D H) (LcI.zero hD) (fun i H' _ I => sqL_of (I.same _ _ hx)) (fun i x H' hc I => hs D i x H' hD hc I) fun H' I => hd D H' hD I.same I.done
end
end EE

/-! Own layer: the end of a law whose def has a promise at places where nothing is being shown. -/
namespace EE
open PySem PySem.Spec PyProof.Rows L2
section
variable {P : Program} {w : World} {K : PySem.W.Frag} {mg mb : Str → Option Value} {CX : CXT} {k : Nat} {fa a : Addr} {fd : FuncData} {x : Str} {sp : Sp} {S : Shared} {us : List Value} {ns : List Int}
/-- the heap that tracks the script alone (nothing, if the module holds it) -/
def scrH (K : PySem.W.Frag) (a : Addr) (us : List Value) (ns : List Int) : Hp := fun b => if b = a ∧ K.lookup a = none then some (.frz { cls := .type "list", data := .seq us.toArray } (.lst (ns.map V.int))) else none
theorem scrH_some {b : Addr} {u : HO} (h : scrH K a us ns b = some u) : b = a ∧ K.lookup a = none ∧ u = .frz { cls := .type "list", data := .seq us.toArray } (.lst (ns.map V.int)) := by
  unfold scrH at h
  by_cases c : b = a ∧ K.lookup a = none
  · rw [if_pos c] at h
    exact ⟨c.1, c.2, (Option.some.inj h).symm⟩
  · rw [if_neg c] at h
    cases h
theorem scrH_only : Only (scrH K a us ns) := fun b => by
  cases q : scrH K a us ns b with
  | none => exact Or.inl rfl
  | some u =>
    obtain ⟨_, _, rfl⟩ := scrH_some q
    exact Or.inr ⟨_, _, rfl⟩
theorem end_law (kin : K.In S.heap) (gl : S.heap.Ns mainGlobals mg) (bl : S.heap.Ns builtinsNs mb) (bb : ∀ y : Str, y ≠ "__name__" → mb y = bootBuiltins y) (nol : S.heap.NoLimit) (gens : S.gens = #[])
    (scr : S.heap.get? a = some { cls := .type "list", data := .seq us.toArray }) (are : IntsAre us ns) (few : ns.length ≤ sizeLine) (room : RoomG k callerA)
    (F : ∀ base : Heap, K.In base → base.Ns mainGlobals mg → FnG P w K mg base CX k fa fd [x] sp) (bd : ∀ (t : Shared) (u : Value), BindsTo t fd ⟨[u], []⟩ [(x, u)])
    (hsp : ∀ H : Hp, Only H → SqL K H a (ns.map V.int) → sp [.ref a] H (fun v _ => v = .bl true) fun _ _ _ => False) (out : ∀ H e t, CX [] H S (fun _ _ _ => False) e t → False) :
    codeAny (model P w) callerA (Code.call (Value.ref fa) ⟨[.ref a], []⟩) (fun r t => r = .ok (.ret (.bool true)) ∧ OldK S.heap t.heap ∧ t.os = S.os ∧ AllBare t.gens) S := by
  have rel := vals_ints are
  have lens : us.length = ns.length := are.length
  let H := scrH K a us ns
  have one : ∀ {b : Addr} {u : HO}, H b = some u → b = a ∧ K.lookup a = none ∧ u = .frz { cls := .type "list", data := .seq us.toArray } (.lst (ns.map V.int)) := fun h => scrH_some h
  have ok : HOk P w H S.heap := fun b u h => by
    obtain ⟨rfl, _, rfl⟩ := one h
    exact ⟨scr, (by rw [List.length_map]; exact few), us, 0, rel, scr⟩
  -- dicts are not the script
  have ns_of : ∀ {b : Addr} {m : Str → Option Value}, S.heap.Ns b m → (hidT S.heap H).Ns b m := by
    rintro b m ⟨o, es, ep, e, d, r⟩
    refine ⟨o, es, ep, hidT_get e ?_, d, r⟩
    cases q : H b with
    | none => rfl
    | some u =>
      obtain ⟨rfl, _, _⟩ := one q
      rw [scr] at e
      cases e
      cases (show Data.seq us.toArray _ = Data.dict es ep from d)
  have kin0 : K.In (hidT S.heap H) := fun b o e => hidT_get (kin b o e) (by
    cases q : H b with
    | none => rfl
    | some u =>
      obtain ⟨rfl, nk, _⟩ := one q
      rw [nk] at e
      cases e)
  have gl0 := ns_of gl
  obtain ⟨mc, l1, l2⟩ := nol
  have e0 : Env0 P w K mg (hidT S.heap H) callerA [] S H := by
    refine ⟨rfl, ⟨kin0, gl0, ⟨mb, ns_of bl, bb⟩, ⟨mc, ns_of l1, l2⟩⟩, fun b o e => of_hidT e, ?_, trivial, ?_, ok, AllBare.of_eq gens⟩
    · rw [hidT_size]
      exact Nat.le_refl _
    · intro b hb
      cases (show b ∈ ([] : List Addr) from hb)
  have sq : SqL K H a (ns.map V.int) := by
    cases hk : K.lookup a with
    | none => exact Or.inl (Or.inr ⟨_, if_pos ⟨rfl, hk⟩⟩)
    | some o =>
      have e := kin a o hk
      rw [scr] at e
      cases e
      exact Or.inr ⟨_, us.toArray, _, hk, rfl, rfl, rfl, (by rw [List.size_toArray, lens]; exact few), (by simpa using rel)⟩
  refine codeAny_mono ((F _ kin0 gl0).runs callerA room [] S H ⟨[.ref a], []⟩ [.ref a] [.ref a] _ _ e0 (bd S (.ref a)) (Paired.cons rfl .nil) (hsp H scrH_only sq)) fun r t h => ?_
  match r, h with
  | .error e, h => exact (out H e t h).elim
  | .ok .next, h => exact h.elim
  | .ok .brk, h => exact h.elim
  | .ok .cont, h => exact h.elim
  | .ok (.ret u), ⟨v, H1, os, bare, un, ok1, rv, q⟩ =>
    have q1 : v = .bl true := q
    subst q1
    cases (show u = Value.bool true from rv)
    refine ⟨rfl, OldK.of_keep fun b o e => ?_, os, bare⟩
    cases z : H b with
    | none => exact un.keep b o e z (fun m => nomatch (show b ∈ ([] : List Addr) from m)) (fun m => nomatch m)
    | some u =>
      obtain ⟨rfl, _, rfl⟩ := one z
      obtain ⟨e2, _⟩ := ok1 b _ (un.frzs b _ _ z)
      rw [scr] at e
      cases e
      exact e2
end
/-- the goal that k_head leaves, from the law's promise -/
theorem walk_ofG {l : PySem.W.OpenLaw} {n k : Nat} {q : Program} {loose : List Str} {XP : (Str → Option Value) → Heap → Prop} {YP : World → Heap → Prop} {d : DefRec} {K : Params → PySem.W.Frag} {sp : PySem.W.Frag → Sp} {x : Str}
    (hn : l.most = some n) (hn2 : n ≤ sizeLine) (hdf : d.params.defaults = []) (room : RoomG k callerA) (hY : ∀ (w : World) (h : Heap), YP w h → (K w.params).In h)
    (F : ∀ (w : World) (mg : Str → Option Value) (fa : Addr) (h : Heap), (K w.params).In h → h.Ns mainGlobals mg → mg d.name = some (.ref fa) →
      ∃ fd : FuncData, (∀ (s : Shared) (u : Value), BindsTo s fd ⟨[u], []⟩ [(x, u)]) ∧ ∀ base : Heap, (K w.params).In base → base.Ns mainGlobals mg → FnG l.prog w (K w.params) mg base CX0 k fa fd [x] (sp (K w.params)))
    (hsp : ∀ (K : PySem.W.Frag) (H : Hp) (a : Addr) (ns : List Int), ns.length ≤ n → Only H → SqL K H a (ns.map V.int) → sp K [.ref a] H (fun v _ => v = .bl true) fun _ _ _ => False) :
    PySem.W.WalkO q loose XP YP l.row.toRowW d [] (fun f vs => PySem.call f vs) :=
  Att.attach_call hn hdf fun w s0 s1 mg mb fa o pm cd doc a us ns G Y ho hd hcd hmg hobj hints hlen hg => by
    have kin := hY w _ Y
    obtain ⟨fd, bd, hF⟩ := F w mg fa _ kin G.T.g hmg
    exact end_law kin G.T.g G.T.b G.T.builtins G.T.nolimit hg hobj hints (Nat.le_trans hlen hn2) room hF bd (fun H ho hs => hsp (K w.params) H a ns hlen ho hs) fun _ _ _ z => z
end EE

/-! Own layer: own exceptions as values: made, their fields stored and read, isinstance. -/
namespace EE
open PySem PySem.Spec PyProof.Rows L2
/-- what the written part says of an own exception class, as one test -/
def exB (K : PySem.W.Frag) (C : Addr) (bmB : List Value) (newId : String) : Bool :=
  PySem.W.excInitIn K C bmB newId && (PySem.W.excOver K C bmB && (decide (PySem.W.findIn K (.ref C) "__setattr__" = some (some (.builtin "object.__setattr__"))) && (decide (PySem.W.subIn K (.ref C) (.type "BaseException") = some true) &&
  (decide (PySem.W.typeIn K (.ref C) = some (.type "type")) && (PySem.W.keepIn K (.ref C) && (xfB K C && (decide (PySem.W.findIn K (.ref C) "__class__" = some (some (.builtin "object.__class__"))) &&
  (decide (PySem.W.specialIn K (.builtin "object.__class__") "__get__" = some (some (.builtin "getset_descriptor.__get__"))) && (decide (PySem.W.takesIn K (.builtin "object.__class__") = some true) && decide (PySem.W.mroIn K C (.type "object") = some true))))))))))
/-- an own exception class at C -/
structure ExK (K : PySem.W.Frag) (C : Addr) : Prop where
  ini : ∃ (B newId initId : String) (bmB : List Value), ExcBaseFacts B newId initId bmB ∧ StoreFacts B bmB "object.__setattr__" "object" ∧ PySem.W.excInitIn K C bmB newId = true ∧ PySem.W.excOver K C bmB = true
  sa : PySem.W.findIn K (.ref C) "__setattr__" = some (some (.builtin "object.__setattr__"))
  exC : PySem.W.subIn K (.ref C) (.type "BaseException") = some true
  tyC : PySem.W.typeIn K (.ref C) = some (.type "type")
  kC : PySem.W.keepIn K (.ref C) = true
  xf : XfC K C
  ha : PySem.W.findIn K (.ref C) "__class__" = some (some (.builtin "object.__class__"))
  hn : PySem.W.specialIn K (.builtin "object.__class__") "__get__" = some (some (.builtin "getset_descriptor.__get__"))
  ht : PySem.W.takesIn K (.builtin "object.__class__") = some true
  hm : PySem.W.mroIn K C (.type "object") = some true
theorem exB_ok {K : PySem.W.Frag} {C : Addr} {B newId initId : String} {bmB : List Value} (F : ExcBaseFacts B newId initId bmB) (S : StoreFacts B bmB "object.__setattr__" "object") (h : exB K C bmB newId = true) : ExK K C := by
  obtain ⟨h1, h⟩ := Bool.and_eq_true_iff.mp h
  obtain ⟨h2, h⟩ := Bool.and_eq_true_iff.mp h
  obtain ⟨h3, h⟩ := Bool.and_eq_true_iff.mp h
  obtain ⟨h4, h⟩ := Bool.and_eq_true_iff.mp h
  obtain ⟨h5, h⟩ := Bool.and_eq_true_iff.mp h
  obtain ⟨h6, h⟩ := Bool.and_eq_true_iff.mp h
  obtain ⟨h7, h⟩ := Bool.and_eq_true_iff.mp h
  obtain ⟨h8, h⟩ := Bool.and_eq_true_iff.mp h
  obtain ⟨h9, h⟩ := Bool.and_eq_true_iff.mp h
  obtain ⟨ha, hb⟩ := Bool.and_eq_true_iff.mp h
  exact ⟨⟨B, newId, initId, bmB, F, S, h1, h2⟩, of_decide_eq_true h3, of_decide_eq_true h4, of_decide_eq_true h5, h6, xfB_ok h7, of_decide_eq_true h8, of_decide_eq_true h9, of_decide_eq_true ha, of_decide_eq_true hb⟩
theorem exV {K : PySem.W.Frag} {C : Addr} (h : exB K C [.type "ValueError", .type "Exception", .type "BaseException", .type "object"] "ValueError.__new__" = true) : ExK K C := exB_ok F.excBase_ValueError F.store_ValueError h
theorem exL {K : PySem.W.Frag} {C : Addr} (h : exB K C [.type "LookupError", .type "Exception", .type "BaseException", .type "object"] "LookupError.__new__" = true) : ExK K C := exB_ok F.excBase_LookupError F.store_LookupError h
theorem exO {K : PySem.W.Frag} {C : Addr} (h : exB K C [.type "OverflowError", .type "ArithmeticError", .type "Exception", .type "BaseException", .type "object"] "OverflowError.__new__" = true) : ExK K C := exB_ok F.excBase_OverflowError F.store_OverflowError h
theorem exI {K : PySem.W.Frag} {C : Addr} (h : exB K C [.type "IndexError", .type "LookupError", .type "Exception", .type "BaseException", .type "object"] "IndexError.__new__" = true) : ExK K C := exB_ok F.excBase_IndexError F.store_IndexError h
/-! ### the store `self.f = v` -/
section
variable {X : Cx} {pins : List (Addr × Obj)} {σ : L2.St} {H : Hp} {s : Shared} {a C dx : Addr} {f : Str} {y : V} {u : Value} {fs : List (Str × V)} {Q : Unit → Shared → Prop} {E : Value → Shared → Prop} {A : Around}
theorem taker_none {K : PySem.W.Frag} (h : PySem.W.findIn K (.ref C) f = some none) : PySem.W.takerIn K C f = some none := by
  unfold PySem.W.takerIn
  rw [h]
  rfl
theorem st_new (T : ExK X.K C) (I : Inv X pins σ H s) (e : H a = some (exo a C none)) (hno : PySem.W.findIn X.K (.ref C) f = some none) (ry : RelV y u)
    (h : ∀ (dx : Addr) (H' : Hp) s', H dx = none → dx ≠ a → H' a = some (exo a C (some dx)) → H' dx = some (exd dx [(f, y)]) → (∀ b, b ≠ a → b ≠ dx → H' b = H b) → Inv X pins σ H' s' → Q () s') : wpAny (model X.prog X.w) A (setAttr (.ref a) f u) Q E s := by
  obtain ⟨B, newId, initId, bmB, FB, SF, q1, q2⟩ := T.ini
  obtain ⟨cd, hcd, hh⟩ := PySem.W.any_some T.xf.hdC
  obtain ⟨t1, ho⟩ := exo_at I.hok e
  refine PySem.W.set_plain I.kIn (ox := { cls := .ref C, dict := none, data := .fields #[.ref t1, .none, .none, .none, .bool false, .none] }) (od := none) ⟨ho, rfl, rfl, trivial⟩ T.sa ?_
  refine PySem.W.osa_openX (s := { s with toks := s.toks + 1 }) (od := none) SF I.kIn ⟨ho, rfl, rfl, trivial⟩ q2 (taker_none hno) fun b => ?_
  have hxs : a < s.heap.objs.size := Heap.lt_size ho
  have hnd : H s.heap.objs.size = none := I.hok.fresh (Nat.le_refl _)
  refine wpAny_bind (wpAny_pure (wpAny_bind (PySem.W.instanceDict_exc ho (PySem.W.looks_clsIn I.kIn hcd) hh ?_)))
  have hx1 : (s.heap.push (PySem.W.dictOf [] 0)).get? a = some { cls := .ref C, dict := none, data := .fields #[.ref t1, .none, .none, .none, .bool false, .none] } := Heap.get?_push_of_some _ ho
  have hx2 := Heap.get?_update_self (fun o : Obj => { o with dict := some s.heap.objs.size }) hx1 rfl
  have hd1 : (s.heap.push (PySem.W.dictOf [] 0)).get? s.heap.objs.size = some (PySem.W.dictOf [] 0) := Heap.get?_push_size _ rfl
  have ne : s.heap.objs.size ≠ a := Nat.ne_of_gt hxs
  have hd2 : ((s.heap.push (PySem.W.dictOf [] 0)).update a fun o => { o with dict := some s.heap.objs.size }).get? s.heap.objs.size = some (PySem.W.dictOf [] 0) := (Heap.get?_update_ne _ _ _ _ ne).trans hd1
  have hns : ∀ {h : Heap}, h.get? s.heap.objs.size = some (PySem.W.dictOf [] 0) → h.Ns s.heap.objs.size (fun _ => none) := fun hd => ⟨_, #[], _, hd, rfl, fun e he => absurd he (by simp), fun _ => rfl⟩
  have I1 := I.laid (t' := s.toks + 1) (a := s.heap.objs.size) (o := exd s.heap.objs.size []) (h' := s.heap.push (PySem.W.dictOf [] 0)) (fun b o z => Heap.get?_push_of_some _ z) (Nat.le_refl _) (exd_ok (Heap.Ns1.of_empty (hns hd1)) fun g => True.intro)
  have e1 : upd H s.heap.objs.size (exd s.heap.objs.size []) a = some (exo a C none) := (upd_ne (Ne.symm ne)).trans e
  have I2 := I1.write (t' := s.toks + 1) (x := a) (e := a) (o := exo a C (some s.heap.objs.size)) (h' := (s.heap.push (PySem.W.dictOf [] 0)).update a fun o => { o with dict := some s.heap.objs.size }) (by rw [e1]; exact True.intro) (.inl rfl) (fun b o hb z => (Heap.get?_update_ne _ _ _ _ hb).trans z) ⟨_, hx2⟩ (exo_ok hx2)
  refine PySem.HandSPX.store_in_new (hns hd2) fun h' tk' hn' hs => ?_
  have ed : upd (upd H s.heap.objs.size (exd s.heap.objs.size [])) a (exo a C (some s.heap.objs.size)) s.heap.objs.size = some (exd s.heap.objs.size []) := (upd_ne ne).trans upd_same
  have I3 := I2.write (t' := tk') (x := s.heap.objs.size) (e := s.heap.objs.size) (o := exd s.heap.objs.size [(f, y)]) (h' := h') (by rw [ed]; exact True.intro) (.inl rfl) (fun b o hb z => (hs.2 b hb).trans z) (by obtain ⟨o, _, _, z, _⟩ := hn'; exact ⟨o, z⟩) (exd_ok hn' (relO_put (fs := []) ry fun g => True.intro))
  exact h _ _ _ hnd ne ((upd_ne (Ne.symm ne)).trans upd_same) upd_same (fun b n1 n2 => (upd_ne n2).trans ((upd_ne n1).trans (upd_ne n2))) I3
theorem st_old (T : ExK X.K C) (I : Inv X pins σ H s) (e : H a = some (exo a C (some dx))) (ed : H dx = some (exd dx fs)) (hl : fs.length ≤ 900) (hno : PySem.W.findIn X.K (.ref C) f = some none) (ry : RelV y u)
    (h : ∀ s', Inv X pins σ (upd H dx (exd dx ((f, y) :: fs))) s' → Q () s') : wpAny (model X.prog X.w) A (setAttr (.ref a) f u) Q E s := by
  obtain ⟨B, newId, initId, bmB, FB, SF, q1, q2⟩ := T.ini
  obtain ⟨cd, hcd, hh⟩ := PySem.W.any_some T.xf.hdC
  obtain ⟨t1, ho⟩ := exo_at I.hok e
  obtain ⟨mA, hns, rel⟩ := exd_at I.hok ed
  have hw := within_of rel
  obtain ⟨oD, _, _, hoD, _, _⟩ := hns.count hw
  refine PySem.W.set_plain I.kIn (ox := { cls := .ref C, dict := some dx, data := .fields #[.ref t1, .none, .none, .none, .bool false, .none] }) (od := some oD) ⟨ho, rfl, rfl, hoD⟩ T.sa ?_
  refine PySem.W.osa_openX (s := { s with toks := s.toks + 1 }) (od := some oD) SF I.kIn ⟨ho, rfl, rfl, hoD⟩ q2 (taker_none hno) fun b => ?_
  refine wpAny_bind (wpAny_pure (wpAny_bind (wpAny_bind (wpAny_loadPart ho (wpAny_bind ((PySem.W.looks_clsIn I.kIn hcd).at ?_))))))
  rw [hh]
  refine wpAny_pure (a := some dx) ?_
  refine PySem.OEX.store_in_old hns hw (by rw [List.length_map]; omega) fun h' tk' hn' hs => ?_
  exact h _ (I.write (t' := tk') (x := dx) (e := dx) (o := exd dx ((f, y) :: fs)) (by rw [ed]; exact True.intro) (.inl rfl) (fun b o hb z => (hs.2 b hb).trans z) (by obtain ⟨o, _, _, z, _⟩ := hn'; exact ⟨o, z⟩) (exd_ok hn' (relO_put ry rel)))
end
/-- `self.f = e` on an exception that is being made -/
def tStX (K : PySem.W.Frag) (f : Str) (to te : TE) : TS := fun D σ H => te σ H fun y H1 => to σ H1 fun x H2 => ∃ a C : Addr, x = .ref a ∧ ExK K C ∧ PySem.W.findIn K (.ref C) f = some none ∧
  ((H2 a = some (exo a C none) ∧ ∀ dx H', H2 dx = none → dx ≠ a → H' a = some (exo a C (some dx)) → H' dx = some (exd dx [(f, y)]) → (∀ b, b ≠ a → b ≠ dx → H' b = H2 b) → D.nx σ H') ∨
    ∃ (dx : Addr) (fs : List (Str × V)), H2 a = some (exo a C (some dx)) ∧ H2 dx = some (exd dx fs) ∧ fs.length ≤ 900 ∧ D.nx σ (upd H2 dx (exd dx ((f, y) :: fs))))
theorem ps_stx {X : Cx} {o e : Expr} {to te : TE} {f : Str} {p' pos : Pos} (ho : PE X o to) (he : PE X e te) (hs : swapsWith e (some (.Attribute o f p')) pos.line X.env = pure false := by rfl) : PS X (.Assign [.Attribute o f p'] e pos) (tStX X.K f to te) := by
  refine ⟨fun pins s σ H D I h => plainObj_wpAny_Assign_Attribute (thn (he.run pins s σ H _ I h) fun v s1 ⟨y, H1, I1, r1, z1⟩ => thn (ho.run pins s1 σ H1 _ I1 z1) fun u s2 ⟨x, H2, I2, r2, a, C, ex, T, hno, z⟩ => ?_) hs⟩
  subst ex
  obtain rfl : u = Value.ref a := r2
  rcases z with ⟨ea, z⟩ | ⟨dx, fs, ea, ed, hl, z⟩
  · exact st_new T I2 ea hno r1 fun dx H' s' n ne e1 e2 e3 J => ⟨σ, _, J, z dx H' n ne e1 e2 e3⟩
  · exact st_old T I2 ea ed hl hno r1 fun s' J => ⟨σ, _, J, z⟩
end EE
namespace EE
open PySem PySem.Spec
section
variable {prog : Program} {w : World} {M : Model} {A : Around} {E : Value → Shared → Prop} {R : Result → Shared → Prop} {h : Heap} {gs : Array GenState} {dn : Drawn} {tk : Nat} {os : OsState}
variable {nm qn : Str} {C N : Addr} {bs bm bmB : List Value} {hdct : Bool} {sn : List Str} {sub : List Value} {ab : Bool} {col : Option Bool} {dd : Option Addr} {k0 k1 k2 k3 k5 : Option Value} {B newId initId : String} {kws : List (Str × Value)}
theorem kw_check (FB : ExcBaseFacts B newId initId bmB) (hT : ∀ X : String, bm.contains (.type X) = bmB.contains (.type X)) {Q : Unit → Shared → Prop}
    (hC : h.get? C = some (excClassObj nm qn C N bs bm hdct sn sub ab col dd k0 k1 k2 k3 k5 newId)) (done : Q () ⟨h, gs, dn, tk, os⟩) : wpAny M A (checkBuiltinCall newId ⟨[.ref C], kws⟩) Q E ⟨h, gs, dn, tk, os⟩ := by
  have star := FB.noStar
  have hB : (Value.ref C :: bm).contains (.type B) = true := by rw [List.contains_cons, hT, FB.hasB, Bool.or_true]
  simp only [checkBuiltinCall, FB.newKind, FB.newSplit, FB.newRow]
  repeat (first | refine wpAny_loadPart_at hC ?_ | (refine wpAny_isSubtype_exc hC ?_; rw [hB]) | refine wpAny_staticBase_exc hC ?_ | refine wpAny_madeBy_exc hC ?_ | simp only [bne_self_eq_false, Bool.false_eq_true, if_false] | wp_step)
  exact done
theorem kw_new (FB : ExcBaseFacts B newId initId bmB) (hT : ∀ X : String, bm.contains (.type X) = bmB.contains (.type X))
    (hC : h.get? C = some (excClassObj nm qn C N bs bm hdct sn sub ab col dd k0 k1 k2 k3 k5 newId))
    (done : R (.ok (.ret (.ref (h.objs.size + 1)))) ⟨(h.push (PySem.W.kdv_tup [])).push (PySem.HandSPX.excO C h.objs.size), gs, dn, tk, os⟩) :
    codeAny (model prog w) A (.builtin newId ⟨[.ref C], kws⟩) R ⟨h, gs, dn, tk, os⟩ := by
  have ends := FB.ends
  have hB : (Value.ref C :: bm).contains (.type B) = true := by rw [List.contains_cons, hT, FB.hasB, Bool.or_true]
  have hA : (Value.ref C :: bm).contains (.type "AttributeError") = false := by rw [List.contains_cons, hT, FB.noAttr]; rfl
  have hN : (Value.ref C :: bm).contains (.type "NameError") = false := by rw [List.contains_cons, hT, FB.noName]; rfl
  refine codeAny_builtinAt FB.entry ?_
  unfold Builtin.«BaseException.__new__»
  refine wpAt_bind ?_
  show wpAt _ _ _ (stack >>= _) _ _ _
  refine wpAt_bind (wpAt_stack fun p below => wpAt_of_wpAny ?_)
  wp_walk
  refine wpAt_of_wpAny ?_
  rw [FB.owner]
  repeat (first | with_reducible refine wpAny_madeHere_exc FB.canon hC ?_ | with_reducible refine wpAny_loadPart_at hC ?_ | (with_reducible refine wpAny_isSubtype_exc hC ?_; first | rw [hB] | rw [hA] | rw [hN]) | wp_step)
  show R _ _
  rw [Heap.size_push]
  exact done
theorem kw_type_call (FB : ExcBaseFacts B newId initId bmB) (hT : ∀ X : String, bm.contains (.type X) = bmB.contains (.type X)) {fI : Addr} {Q : Fin → Shared → Prop}
    (hC : h.get? C = some (excClassObj nm qn C N bs bm hdct sn sub ab col dd k0 k1 k2 k3 k5 newId))
    (li : PySem.W.Looks (model prog w) h (typeLookup (.ref C) "__init__") (some (.ref fI))) (lb : ∀ self, PySem.W.Looks (model prog w) h (bindSpecial (.ref fI) self) (.ref fI, [self]))
    (go : codeAny (model prog w) A (.call (.ref fI) ⟨[.ref (h.objs.size + 1)], kws⟩)
      (fun r s' => match r with | .ok (.ret v) => v = .none ∧ Q (.done (.ret (.ref (h.objs.size + 1)))) s' | .ok _ => False | .error e => E e s') ⟨(h.push (PySem.W.kdv_tup [])).push (PySem.HandSPX.excO C h.objs.size), gs, dn, tk, os⟩) :
    wpAny (model prog w) A (Builtin.«type.__call__» ⟨[.ref C], kws⟩) Q E ⟨h, gs, dn, tk, os⟩ := by
  repeat (first | with_reducible refine wpAny_loadPart_at hC ?_ | with_reducible refine wpAny_madeBy_exc hC ?_ | wp_step)
  refine codeAny_call_builtin_code (Code.quiet_builtin _ FB.quiet) (kw_check FB hT hC ?_)
  refine kw_new FB hT hC ?_
  show wpAny _ _ _ _ _ _
  have kp : ∀ b o, h.get? b = some o → ((h.push (PySem.W.kdv_tup [])).push (PySem.HandSPX.excO C h.objs.size)).get? b = some o := fun b o e => Heap.get?_push_of_some _ (Heap.get?_push_of_some _ e)
  have hC1 := kp _ _ hC
  have hx : ((h.push (PySem.W.kdv_tup [])).push (PySem.HandSPX.excO C h.objs.size)).get? (h.objs.size + 1) = some (PySem.HandSPX.excO C h.objs.size) := by heap_get
  have hCC : (Value.ref C :: bm).contains (.ref C) = true := by simp
  have i1 := li.keeps kp
  have b1 := (lb (.ref (h.objs.size + 1))).keeps kp
  unfold isInstance
  repeat (first | with_reducible refine wpAny_loadPart_at hx ?_ | (with_reducible refine wpAny_isSubtype_exc hC1 ?_; rw [hCC]) | wp_step)
  show wpAny _ _ (typeLookup (.ref C) _) _ _ _
  refine i1.at ?_
  refine wpAny_holding (wpAny_bind (b1.at ?_))
  refine wpAny_bind (wpAny_call (codeAny_mono go fun r s' z => ?_))
  rcases r with e | (v | _ | _ | _) <;> first | exact z | exact z.elim | skip
  obtain ⟨rfl, z⟩ := z
  first
    | exact wpAny_pure (wpAny_pure z)
    | (wp_walk; exact z)
theorem kw_call (FB : ExcBaseFacts B newId initId bmB) (hT : ∀ X : String, bm.contains (.type X) = bmB.contains (.type X)) {fI : Addr}
    (hC : h.get? C = some (excClassObj nm qn C N bs bm hdct sn sub ab col dd k0 k1 k2 k3 k5 newId))
    (li : PySem.W.Looks (model prog w) h (typeLookup (.ref C) "__init__") (some (.ref fI))) (lb : ∀ self, PySem.W.Looks (model prog w) h (bindSpecial (.ref fI) self) (.ref fI, [self]))
    (go : codeAny (model prog w) (A.under (.builtin "type.__call__" ⟨[.ref C], kws⟩)) (.call (.ref fI) ⟨[.ref (h.objs.size + 1)], kws⟩) (PySem.W.InitBack (h.objs.size + 1) R) ⟨(h.push (PySem.W.kdv_tup [])).push (PySem.HandSPX.excO C h.objs.size), gs, dn, tk, os⟩) :
    codeAny (model prog w) A (.call (.ref C) ⟨[], kws⟩) R ⟨h, gs, dn, tk, os⟩ := by
  have f1 := PySem.tc_lookup
  have f2 := PySem.tc_bind (.ref C)
  have isT : (⟨h, gs, dn, tk, os⟩ : Shared).TypeIs (.ref C) "type" := ⟨_, hC, rfl⟩
  refine codeAny_of_tree ?_
  show wpAny _ _ (callAny (.ref C) _) _ _ _
  repeat (any_goals (first | assumption | with_reducible refine wpAny_loadPart_at hC ?_ | wp_step))
  refine ⟨rfl, ?_⟩
  refine codeAny_call_builtin_at (Code.quiet_builtin _ (by decide +kernel)) PySem.entry_typeCall (wpAny_check_type_call_sub hC (kw_type_call FB hT hC li lb ?_))
  refine codeAny_mono go fun r s' z => ?_
  rcases r with e | (v | _ | _ | _) <;> exact z
end
end EE
namespace EE
open PySem PySem.Spec PyProof.Rows L2
/-- what stands at an exception that was made: its class, its fields -/
def ExV (H : Hp) (C : Addr) (v : V) (fs : List (Str × V)) : Prop := ∃ a dx : Addr, v = .ref a ∧ H a = some (exo a C (some dx)) ∧ H dx = some (exd dx fs)
/-- one that was made of no fields -/
def ExN (H : Hp) (C : Addr) (v : V) : Prop := ∃ a : Addr, v = .ref a ∧ H a = some (exo a C none)
theorem ExV.keep {H H' : Hp} {C : Addr} {v : V} {fs : List (Str × V)} (h : ExV H C v fs) (s : Same H H') : ExV H' C v fs := by
  obtain ⟨a, dx, e, e1, e2⟩ := h
  exact ⟨a, dx, e, s _ _ e1, s _ _ e2⟩
theorem ExN.keep {H H' : Hp} {C : Addr} {v : V} (h : ExN H C v) (s : Same H H') : ExN H' C v := by
  obtain ⟨a, e, e1⟩ := h
  exact ⟨a, e, s _ _ e1⟩
theorem ExV.but {H H' : Hp} {C p : Addr} {v : V} {fs : List (Str × V)} {xs : List V} (h : ExV H C v fs) (hp : H p = some (.lst xs)) (s : But p H H') : ExV H' C v fs := by
  obtain ⟨a, dx, e, e1, e2⟩ := h
  have n1 : a ≠ p := fun z => by
    rw [z, hp] at e1
    cases (show HO.lst xs = HO.ext _ from Option.some.inj e1)
  have n2 : dx ≠ p := fun z => by
    rw [z, hp] at e2
    cases (show HO.lst xs = HO.ext _ from Option.some.inj e2)
  exact ⟨a, dx, e, s _ _ n1 e1, s _ _ n2 e2⟩
/-- C(e, ..), the exception a value; sp is what its __init__ promises -/
def tMkV (C : Addr) (sp : Sp) (ta : TA) : TE := fun σ H Q => ta σ H fun vs H1 => vs.length ≤ 1000 ∧ ∀ a, H1 a = none → sp (.ref a :: vs) (upd H1 a (exo a C none)) (fun v H2 => v = .non ∧ Q (.ref a) H2) (fun _ _ _ => False)
/-- C(k = v, ..), likewise -/
def tMkN (C : Addr) (n : Nat) (sp : Sp) (gV : List V → List V → List V) (tk : TA) : TE := fun σ H Q => tk σ H fun zs H1 => zs.length = n ∧ ∀ a, H1 a = none → sp (gV [.ref a] zs) (upd H1 a (exo a C none)) (fun v H2 => v = .non ∧ Q (.ref a) H2) (fun _ _ _ => False)
/-- C(), no __init__ of its own -/
def tMk0 (C : Addr) : TE := fun σ H Q => ∀ a, H a = none → Q (.ref a) (upd H a (exo a C none))
section
variable {X : Cx} {CX : CXT} {x : Str} {C fI : Addr} {k : Nat} {fd : FuncData} {ps ks : List Str} {sp : Sp} {e : Expr} {es : List Expr} {kws : List Keyword} {ta tk : TA} {p pos : Pos} {g : List Value → List Value → List Value} {gV : List V → List V → List V}
theorem init_of {K : PySem.W.Frag} {h : Heap} {C : Addr} (T : ExK K C) (X : K.In h) : ∃ (B newId initId : String) (bmB : List Value) (nm : Str) (N : Addr) (qn : Str) (bs bm : List Value) (hdct : Bool) (sn : List Str) (sub : List Value) (ab : Bool) (col : Option Bool) (dd : Option Addr) (k0 k1 k2 k3 k5 : Option Value),
    ExcBaseFacts B newId initId bmB ∧ h.get? C = some (excClassObj nm qn C N bs bm hdct sn sub ab col dd k0 k1 k2 k3 k5 newId) ∧ ∀ X : String, bm.contains (.type X) = bmB.contains (.type X) := by
  obtain ⟨B, newId, initId, bmB, FB, SF, q1, q2⟩ := T.ini
  obtain ⟨nm, N, qn, bs, bm, hdct, sn, sub, ab, col, dd, k0, k1, k2, k3, k5, hC, hT⟩ := PySem.W.excInit_of X q1
  exact ⟨B, newId, initId, bmB, nm, N, qn, bs, bm, hdct, sn, sub, ab, col, dd, k0, k1, k2, k3, k5, FB, hC, hT⟩
theorem pe_mkV (T : ExK X.K C) (iC : PySem.W.findIn X.K (.ref C) "__init__" = some (some (.ref fI))) (tI : PySem.W.typeIn X.K (.ref fI) = some (.type "function"))
    (FI : FnOk X.prog X.w X.K X.mg X.base CX k fI fd ps sp) (hr : Room (k + 1) X.A) (hb : Binds X.K fd ps []) (hx : Passes CX X (fun _ _ _ => False)) (hg : Gl X x) (hm : X.mg x = some (.ref C)) (ha : PA X (e :: es) ta)
    (ndb : (x == ("__debug__" : Str)) = false := by decide) (hst : starEach (e :: es) X.env = (false, eval e X.env) :: starEach es X.env := by rfl) (plain : (backTo pos (starEach es X.env)).any (·.1) = false := by rfl) :
    PE X (.Call (.Name x p) (e :: es) [] pos) (tMkV C sp ta) := by
  refine ⟨fun pins s σ H Q I h => wpAny_Call_Name_kw (ld_glob I hg hm ?_ ndb)⟩
  refine PySem.W.callWith_K (h₀ := X.base) I.ok.mod.kin T.kC (thn (ha.run pos pins s σ H _ I h) fun us s1 ⟨vs, H1, I1, r1, hz, q1⟩ => ⟨I1.kIn, ?_⟩) hst plain
  obtain ⟨B, newId, initId, bmB, nm, N, qn, bs, bm, hdct, sn, sub, ab, col, dd, k0, k1, k2, k3, k5, FB, hC, hT⟩ := init_of T I1.kIn
  obtain ⟨hp, gs, dn, tk, os⟩ := s1
  have up : hp.objs.size ≤ hp.objs.size + 1 := Nat.le_succ _
  have q2 := q1 (hp.objs.size + 1) (I1.hok.fresh up)
  have I2 := I1.laid (t' := tk) (a := hp.objs.size + 1) (o := exo (hp.objs.size + 1) C none) (h' := (hp.push (PySem.W.kdv_tup us)).push (PySem.HandSPX.excO C hp.objs.size)) (fun b o z => Heap.get?_push_of_some _ (Heap.get?_push_of_some _ z)) up (exo_ok (t1 := hp.objs.size) (by heap_get))
  have r2 : Vals (V.ref (hp.objs.size + 1) :: vs) (Value.ref (hp.objs.size + 1) :: us) := .cons rfl r1
  have ln : (Value.ref (hp.objs.size + 1) :: us ++ []).length = ps.length := by rw [List.append_nil, ← r2.length, FI.len _ _ _ _ q2]
  have few : us.length ≤ sizeLine := Nat.le_trans (Nat.le_of_eq r1.length.symm) (Nat.le_trans hz (by decide))
  have bd := hb _ (Value.ref (hp.objs.size + 1) :: us) I2.kIn ln
  rw [List.append_nil] at bd
  refine wpAny_call (PySem.HandSPX.call_own FB hT hC (PySem.W.looks_findIn I1.kIn iC) (fun self => PySem.W.bind_fn I1.kIn self tI) few (codeAny_mono (FI.run _ X.stack _ _ ⟨Value.ref (hp.objs.size + 1) :: us, []⟩ _ _ _ _ (hr.make C us []) (I2.env0.make C us []) bd r2 q2) fun r s' z => ?_))
  match r, z with
  | .error er, z => exact hx pins σ _ _ er s' I2 z
  | .ok (.ret u), z =>
    obtain ⟨v, H2, J, rv, ev, q⟩ := I2.after z
    subst ev
    exact ⟨rv, .ref (hp.objs.size + 1), H2, J, rfl, q⟩
  | .ok .next, z => exact z.elim
  | .ok .brk, z => exact z.elim
  | .ok .cont, z => exact z.elim
theorem pe_mkN (T : ExK X.K C) (iC : PySem.W.findIn X.K (.ref C) "__init__" = some (some (.ref fI))) (tI : PySem.W.typeIn X.K (.ref fI) = some (.type "function"))
    (FI : FnOk X.prog X.w X.K X.mg X.base CX k fI fd ps sp) (hr : Room (k + 1) X.A) (hb : KBn X.K fd ps 1 ks g gV) (hx : Passes CX X (fun _ _ _ => False)) (hg : Gl X x) (hm : X.mg x = some (.ref C))
    (hkw : PK X kws tk) (hall : (backToKw pos (keywordEach kws X.env)).all (·.1.isSome) = true := by rfl) (hks : (backToKw pos (keywordEach kws X.env)).filterMap (·.1) = ks := by rfl)
    (ndb : (x == ("__debug__" : Str)) = false := by decide) (plain : ((backTo pos (starEach [] X.env)).any (·.1) || (backToKw pos (keywordEach kws X.env)).any (·.1.isNone)) = false := by rfl) :
    PE X (.Call (.Name x p) [] kws pos) (tMkN C ks.length sp gV tk) := by
  refine ⟨fun pins s σ H Q I h => wpAny_Call_Name_kw (ld_glob I hg hm ?_ ndb)⟩
  refine PySem.W.callWith_KW0 (h₀ := X.base) I.ok.mod.kin T.kC hall (thn (hkw.run pos pins s σ H _ I h) fun us s1 ⟨vs, H1, I1, r1, hz, q1⟩ => ⟨I1.kIn, ?_⟩) plain
  rw [hks]
  obtain ⟨B, newId, initId, bmB, nm, N, qn, bs, bm, hdct, sn, sub, ab, col, dd, k0, k1, k2, k3, k5, FB, hC, hT⟩ := init_of T I1.kIn
  obtain ⟨hp, gs, dn, tk, os⟩ := s1
  have up : hp.objs.size ≤ hp.objs.size + 1 := Nat.le_succ _
  have q2 := q1 (hp.objs.size + 1) (I1.hok.fresh up)
  have I2 := I1.laid (t' := tk) (a := hp.objs.size + 1) (o := exo (hp.objs.size + 1) C none) (h' := (hp.push (PySem.W.kdv_tup [])).push (PySem.HandSPX.excO C hp.objs.size)) (fun b o z => Heap.get?_push_of_some _ (Heap.get?_push_of_some _ z)) up (exo_ok (t1 := hp.objs.size) (by heap_get))
  have r2 := hb.rel (vs := [V.ref (hp.objs.size + 1)]) (us := [Value.ref (hp.objs.size + 1)]) (.cons rfl .nil) r1
  have bd := hb.to ⟨(hp.push (PySem.W.kdv_tup [])).push (PySem.HandSPX.excO C hp.objs.size), gs, dn, tk, os⟩ [Value.ref (hp.objs.size + 1)] us I2.kIn rfl (r1.length.symm.trans hz)
  refine wpAny_call (kw_call FB hT hC (PySem.W.looks_findIn I1.kIn iC) (fun self => PySem.W.bind_fn I1.kIn self tI) (codeAny_mono (FI.run _ X.stack _ _ ⟨[Value.ref (hp.objs.size + 1)], ks.zip us⟩ _ _ _ _ (hr.make C [] _) (I2.env0.make C [] _) bd r2 q2) fun r s' z => ?_))
  match r, z with
  | .error er, z => exact hx pins σ _ _ er s' I2 z
  | .ok (.ret u), z =>
    obtain ⟨v, H2, J, rv, ev, q⟩ := I2.after z
    subst ev
    exact ⟨rv, .ref (hp.objs.size + 1), H2, J, rfl, q⟩
  | .ok .next, z => exact z.elim
  | .ok .brk, z => exact z.elim
  | .ok .cont, z => exact z.elim
end
end EE

/-! Own layer: repr of data with dicts in it. -/
namespace EE
open PySem PySem.Spec PyProof.Rows L2

def keyD : Key → PyData | .inl i => .int i | .inr x => .str x
mutual
/-- v reads as d: dicts of texts and ints too -/
inductive Dq (K : PySem.W.Frag) (H : Hp) : V → PyData → Prop
  | non : Dq K H .non .none
  | bl (b : Bool) : Dq K H (.bl b) (.bool b)
  | int (i : Int) : Dq K H (.int i) (.int i)
  | str (x : Str) : Dq K H (.str x) (.str x)
  | lst {a : Addr} {xs : List V} {ds : List PyData} : SqL K H a xs → DqAll K H xs ds → Dq K H (.ref a) (.list ds)
  | tup {a : Addr} {xs : List V} {ds : List PyData} : SqT K H a xs → DqAll K H xs ds → Dq K H (.ref a) (.tuple ds)
  | dK {a : Addr} {kvs : List (Key × V)} {ds : List PyData} : H a = some (.dK kvs) → DqAll K H (kvs.map (·.2)) ds → Dq K H (.ref a) (.dict (List.zip (kvs.map fun p => keyD p.1) ds))
inductive DqAll (K : PySem.W.Frag) (H : Hp) : List V → List PyData → Prop
  | nil : DqAll K H [] []
  | cons {v : V} {vs : List V} {d : PyData} {ds : List PyData} : Dq K H v d → DqAll K H vs ds → DqAll K H (v :: vs) (d :: ds)
end
theorem DqAll.len {K : PySem.W.Frag} {H : Hp} : ∀ {vs : List V} {ds : List PyData}, DqAll K H vs ds → vs.length = ds.length
  | [], _, h => by cases h; rfl
  | _ :: vs, _, h => by
    cases h with
    | cons _ t => rw [List.length_cons, List.length_cons, DqAll.len t]
section
variable {P : Program} {w : World} {h0 : Heap}
def Shown (P : Program) (w : World) (h0 : Heap) (u : Value) (d : PyData) : Prop := ∃ as bs, Reads h0 u d as ∧ ReadAtMost h0 d.depth bs ∧ ReprK P w bs h0 d.depth u d.shown
def ShownAll (P : Program) (w : World) (h0 : Heap) (us : List Value) (ds : List PyData) : Prop := ∃ as bs, ReadsAll h0 us ds as ∧ ReadAtMost h0 (PyData.depthAll ds) bs ∧ ReprAllK P w bs h0 (PyData.depthAll ds) us (PyData.shownAll ds)
theorem ShownAll.nil : ShownAll P w h0 [] [] := ⟨[], [], .nil, (fun _ z => nomatch z), by simp only [PyData.shownAll]; exact .nil⟩
theorem ShownAll.cons {u : Value} {us : List Value} {d : PyData} {ds : List PyData} (h : Shown P w h0 u d) (t : ShownAll P w h0 us ds) : ShownAll P w h0 (u :: us) (d :: ds) := by
  obtain ⟨as, b1, r, m1, k1⟩ := h
  obtain ⟨cs, b2, rs, m2, k2⟩ := t
  refine ⟨as ++ cs, b1 ++ b2, .cons r rs, (m1.mono (m := PyData.depthAll (d :: ds)) ?_).append (m2.mono ?_), ?_⟩
  · simp only [PyData.depthAll]; exact Nat.le_max_left _ _
  · simp only [PyData.depthAll]; exact Nat.le_max_right _ _
  · simp only [PyData.depthAll, PyData.shownAll]
    exact .cons ((k1.more fun b z => List.mem_append_left _ z).level_le (Nat.le_max_left _ _)) (k2.more_le (fun b z => List.mem_append_right _ z) (Nat.le_max_right _ _))
theorem shown_list {a : Addr} {o : Obj} {l : List Value} {n : Nat} {ds : List PyData} (h1 : h0.get? a = some o) (h2 : o.cls = .type "list") (h3 : o.data = .seq l.toArray n) (t : ShownAll P w h0 l ds) : Shown P w h0 (.ref a) (.list ds) := by
  obtain ⟨as, bs, rs, m, k⟩ := t
  have r : Reads h0 (.ref a) (.list ds) _ := .list h1 h2 h3 rs
  have out : a ∉ bs := not_mem_of_deeper r (by simp only [PyData.depth]; omega) m
  refine ⟨_, a :: bs, r, ReadAtMost.cons r (by simp only [PyData.depth]; omega) m, ?_⟩
  simp only [PyData.depth, PyData.shown]
  cases l with
  | nil =>
    cases rs
    simp only [PyData.shownAll, listText_nil]
    exact ReprK.listEmpty h1 h2 h3
  | cons x l => exact ReprK.list h1 h2 h3 out (by simpa using k.length_eq) (fun i y e => k.item i y (by simpa using e))
theorem shown_tuple {a : Addr} {o : Obj} {l : List Value} {n : Nat} {ds : List PyData} (h1 : h0.get? a = some o) (h2 : o.cls = .type "tuple") (h3 : o.data = .seq l.toArray n) (t : ShownAll P w h0 l ds) : Shown P w h0 (.ref a) (.tuple ds) := by
  obtain ⟨as, bs, rs, m, k⟩ := t
  have r : Reads h0 (.ref a) (.tuple ds) _ := .tuple h1 h2 h3 rs
  have out : a ∉ bs := not_mem_of_deeper r (by simp only [PyData.depth]; omega) m
  refine ⟨_, a :: bs, r, ReadAtMost.cons r (by simp only [PyData.depth]; omega) m, ?_⟩
  simp only [PyData.depth, PyData.shown]
  exact ReprK.tuple h1 h2 h3 out k
theorem shown_dict {a : Addr} {o : Obj} {es : Array DictEntry} {n : Nat} {kvs : List (PyData × PyData)} (h1 : h0.get? a = some o) (h2 : o.cls = .type "dict") (h3 : o.data = .dict es n) (ns : (a == sysModules) = false)
    (t1 : ShownAll P w h0 (es.toList.map (·.key)) (kvs.map (·.1))) (t2 : ShownAll P w h0 (es.toList.map (·.val)) (kvs.map (·.2))) : Shown P w h0 (.ref a) (.dict kvs) := by
  obtain ⟨as, b1, r1, m1, k1⟩ := t1
  obtain ⟨cs, b2, r2, m2, k2⟩ := t2
  have r : Reads h0 (.ref a) (.dict kvs) _ := .dict h1 h2 h3 r1 r2
  have m : ReadAtMost h0 (PyData.depthKv kvs) (b1 ++ b2) := (m1.mono (PyData.depthAll_keys_le kvs)).append (m2.mono (PyData.depthAll_vals_le kvs))
  have out : a ∉ b1 ++ b2 := not_mem_of_deeper r (by simp only [PyData.depth]; omega) m
  refine ⟨_, a :: (b1 ++ b2), r, ReadAtMost.cons r (by simp only [PyData.depth]; omega) m, ?_⟩
  simp only [PyData.depth, PyData.shown, PyData.shownKv_eq]
  exact ReprK.dict h1 h2 h3 ns out (ReprEntriesK.of_two es.toList _ _ (k1.more_le (fun b z => List.mem_append_left _ z) (PyData.depthAll_keys_le kvs)) (k2.more_le (fun b z => List.mem_append_right _ z) (PyData.depthAll_vals_le kvs)))
end
section
variable {X : Cx} {pins : List (Addr × Obj)} {σ : L2.St} {H : Hp} {s : Shared}
theorem keys_shown : ∀ {es : List DictEntry} {kvs : List (Key × Value)}, Pairs (mixKind X.prog X.w) es kvs → PyData.showableAll (kvs.map fun p => keyD p.1) = true → (∀ t ∈ PyData.shownAll (kvs.map fun p => keyD p.1), t.length ≤ sizeLine) → ShownAll X.prog X.w s.heap (es.map (·.key)) (kvs.map fun p => keyD p.1)
  | _, _, .nil, _, _ => ShownAll.nil
  | _, _, .cons (e := e) (kv := kv) (kvs := kvs) k _ t, h, z => by
    have h' : (keyD kv.1).showable = true ∧ PyData.showableAll (kvs.map fun p => keyD p.1) = true := by simpa [PyData.showableAll] using h
    refine ShownAll.cons ?_ (keys_shown t h'.2 fun x hx => z x (by simp only [List.map_cons, PyData.shownAll]; exact List.mem_cons_of_mem _ hx))
    have z0 := z (keyD kv.1).shown (by simp only [List.map_cons, PyData.shownAll]; exact List.mem_cons_self ..)
    show Shown X.prog X.w s.heap e.key (keyD kv.1)
    rcases keyIs_shape k with ⟨i, t, e1, e2⟩ | ⟨x, t, e1, e2⟩
    · rw [e1] at h' ⊢
      rw [e2]
      exact ⟨_, [], Reads.int i t, (fun _ y => nomatch y), by simp only [keyD, PyData.shown]; exact .of_is (ReprIs.int t (by simpa [keyD, PyData.showable] using h'.1)) _ _ _⟩
    · rw [e1] at z0 ⊢
      rw [e2]
      exact ⟨_, [], Reads.str x t, (fun _ y => nomatch y), by simp only [keyD, PyData.shown]; exact .of_is (ReprIs.str x t (by simpa only [keyD, PyData.shown] using z0)) _ _ _⟩
theorem vals_of_pairs : ∀ {es : List DictEntry} {kvs : List (Key × Value)}, Pairs (L2.mixKind X.prog X.w) es kvs → es.map (·.val) = kvs.map (·.2)
  | _, _, .nil => rfl
  | _, _, .cons _ e t => by
    rw [List.map_cons, List.map_cons, e, vals_of_pairs t]
theorem kv_split : ∀ {kvs : List (Key × V)} {vs : List (Key × Value)}, L2.KV kvs vs → kvs.map (·.1) = vs.map (·.1) ∧ Vals (kvs.map (·.2)) (vs.map (·.2))
  | _, _, .nil => ⟨rfl, .nil⟩
  | _, _, .cons h t => by
    obtain ⟨i, j⟩ := kv_split t
    exact ⟨by rw [List.map_cons, List.map_cons, h.1, i], .cons h.2 j⟩
theorem Dq.shown (I : Inv X pins σ H s) {v : V} {d : PyData} (h : Dq X.K H v d) : ∀ u, RelV v u → d.showable = true → d.shown.length ≤ sizeLine → Shown X.prog X.w s.heap u d := by
  refine Dq.rec (motive_1 := fun v d _ => ∀ u, RelV v u → d.showable = true → d.shown.length ≤ sizeLine → Shown X.prog X.w s.heap u d)
    (motive_2 := fun vs ds _ => ∀ us, Vals vs us → PyData.showableAll ds = true → (∀ t ∈ PyData.shownAll ds, t.length ≤ sizeLine) → ShownAll X.prog X.w s.heap us ds) ?_ ?_ ?_ ?_ ?_ ?_ ?_ ?_ ?_ h
  · intro u r _ _
    cases (show u = Value.none from r)
    exact ⟨_, [], Reads.none, (fun _ z => nomatch z), by simp only [PyData.shown]; exact .of_is ReprIs.none _ _ _⟩
  · intro b u r _ _
    cases (show u = Value.bool b from r)
    exact ⟨_, [], Reads.bool b, (fun _ z => nomatch z), by simp only [PyData.shown]; exact .of_is (ReprIs.bool b) _ _ _⟩
  · intro i u r hs _
    obtain ⟨t, rfl⟩ := (show ∃ t, u = Value.int i t from r)
    exact ⟨_, [], Reads.int i t, (fun _ z => nomatch z), by simp only [PyData.shown]; exact .of_is (ReprIs.int t (by simpa [PyData.showable] using hs)) _ _ _⟩
  · intro x u r _ hz
    obtain ⟨t, rfl⟩ := (show ∃ t, u = Value.str x t from r)
    exact ⟨_, [], Reads.str x t, (fun _ z => nomatch z), by simp only [PyData.shown]; exact .of_is (ReprIs.str x t (by simpa only [PyData.shown] using hz)) _ _ _⟩
  · intro a xs ds hq _ ih u r hs hz
    cases (show u = Value.ref a from r)
    have hz' : (listText (PyData.shownAll ds)).length ≤ sizeLine := by simpa only [PyData.shown] using hz
    obtain ⟨its, rv, ⟨o, n, ho, hc, _, hd⟩, _⟩ := I.list hq
    exact shown_list ho hc hd (ih its rv (by simpa [PyData.showable] using hs) fun t ht => Nat.le_trans (listText_mem_le ht) hz')
  · intro a xs ds hq _ ih u r hs hz
    cases (show u = Value.ref a from r)
    have hz' : (tupleText (PyData.shownAll ds)).length ≤ sizeLine := by simpa only [PyData.shown] using hz
    obtain ⟨its, rv, ⟨o, ho, hc, n, hd⟩, _⟩ := I.tuple hq
    exact shown_tuple ho hc hd (ih its rv (by simpa [PyData.showable] using hs) fun t ht => Nat.le_trans (tupleText_mem_le ht) hz')
  · intro a kvs ds hk hall ih u r hs hz
    cases (show u = Value.ref a from r)
    obtain ⟨_, ns, vs, kv, o, es, ep, ho, he, hd, _, hp, _⟩ := (show L2.ObjOk X.prog X.w H s.heap a (.dK kvs) from I.hok a _ hk)
    obtain ⟨ks, rv⟩ := kv_split kv
    have e1 : kvs.map (fun p => keyD p.1) = vs.map fun p => keyD p.1 := by
      have := congrArg (List.map keyD) ks
      simpa [List.map_map, Function.comp_def] using this
    have ln : ds.length = (kvs.map fun p => keyD p.1).length := by rw [List.length_map, ← hall.len, List.length_map]
    have f1 : (List.zip (kvs.map fun p => keyD p.1) ds).map (·.1) = kvs.map fun p => keyD p.1 := List.map_fst_zip (Nat.le_of_eq ln.symm)
    have f2 : (List.zip (kvs.map fun p => keyD p.1) ds).map (·.2) = ds := List.map_snd_zip (Nat.le_of_eq ln)
    have hz' : (dictText (PyData.shownKv (List.zip (kvs.map fun p => keyD p.1) ds))).length ≤ sizeLine := by simpa only [PyData.shown] using hz
    obtain ⟨s1, s2⟩ := PyData.showableKv_split _ (by simpa [PyData.showable] using hs)
    refine shown_dict ho he.1 hd ns ?_ ?_
    · rw [f1, e1]
      rw [f1, e1] at s1
      refine keys_shown hp s1 fun t ht => ?_
      obtain ⟨p, hp1, hp2⟩ := PyData.shownKv_key_le (List.zip (kvs.map fun p => keyD p.1) ds) t (by rw [f1, e1]; exact ht)
      exact Nat.le_trans hp2 (Nat.le_trans (dictText_mem_le hp1) hz')
    · rw [f2, vals_of_pairs hp]
      rw [f2] at s2
      refine ih _ rv s2 fun t ht => ?_
      obtain ⟨p, hp1, hp2⟩ := PyData.shownKv_val_le (List.zip (kvs.map fun p => keyD p.1) ds) t (by rw [f2]; exact ht)
      exact Nat.le_trans hp2 (Nat.le_trans (dictText_mem_le hp1) hz')
  · intro us r _ _
    cases r
    exact ShownAll.nil
  · intro v vs d ds _ _ i1 i2 us r hs hz
    cases r with
    | cons r1 r2 =>
      have hs' : d.showable = true ∧ PyData.showableAll ds = true := by simpa [PyData.showableAll] using hs
      exact ShownAll.cons (i1 _ r1 hs'.1 (hz _ (by simp only [PyData.shownAll]; exact List.mem_cons_self ..))) (i2 _ r2 hs'.2 fun t ht => hz t (by simp only [PyData.shownAll]; exact List.mem_cons_of_mem _ ht))
theorem DqAll.shown (I : Inv X pins σ H s) : ∀ {vs : List V} {ds : List PyData} {us : List Value}, DqAll X.K H vs ds → Vals vs us → PyData.showableAll ds = true → (∀ t ∈ PyData.shownAll ds, t.length ≤ sizeLine) → ShownAll X.prog X.w s.heap us ds
  | [], _, _, h, r, _, _ => by
    cases h
    cases r
    exact ShownAll.nil
  | _ :: vs, _, _, h, r, hs, hz => by
    cases h with
    | @cons _ _ d ds h1 h2 =>
      cases r with
      | cons r1 r2 =>
        have hs' : d.showable = true ∧ PyData.showableAll ds = true := by simpa [PyData.showableAll] using hs
        exact ShownAll.cons (Dq.shown I h1 _ r1 hs'.1 (hz _ (by simp only [PyData.shownAll]; exact List.mem_cons_self ..))) (DqAll.shown I h2 r2 hs'.2 fun t ht => hz t (by simp only [PyData.shownAll]; exact List.mem_cons_of_mem _ ht))
theorem dict_shown (I : Inv X pins σ H s) {a : Addr} {kvs : List (Key × V)} {ds : List PyData} (hk : H a = some (.dK kvs)) (hall : DqAll X.K H (kvs.map (·.2)) ds) (hs : (PyData.dict (List.zip (kvs.map fun p => keyD p.1) ds)).showable = true)
    (hz : (PyData.dict (List.zip (kvs.map fun p => keyD p.1) ds)).shown.length ≤ sizeLine) : ∃ (o : Obj) (es : Array DictEntry) (n : Nat), s.heap.get? a = some o ∧ o.cls = .type "dict" ∧ o.data = .dict es n ∧ (a == sysModules) = false ∧
      ShownAll X.prog X.w s.heap (es.toList.map (·.key)) ((List.zip (kvs.map fun p => keyD p.1) ds).map (·.1)) ∧ ShownAll X.prog X.w s.heap (es.toList.map (·.val)) ((List.zip (kvs.map fun p => keyD p.1) ds).map (·.2)) := by
  obtain ⟨_, ns, vs, kv, o, es, ep, ho, he, hd, _, hp, _⟩ := (show L2.ObjOk X.prog X.w H s.heap a (.dK kvs) from I.hok a _ hk)
  obtain ⟨ks, rv⟩ := kv_split kv
  have e1 : kvs.map (fun p => keyD p.1) = vs.map fun p => keyD p.1 := by
    have := congrArg (List.map keyD) ks
    simpa [List.map_map, Function.comp_def] using this
  have ln : ds.length = (kvs.map fun p => keyD p.1).length := by rw [List.length_map, ← hall.len, List.length_map]
  have f1 : (List.zip (kvs.map fun p => keyD p.1) ds).map (·.1) = kvs.map fun p => keyD p.1 := List.map_fst_zip (Nat.le_of_eq ln.symm)
  have f2 : (List.zip (kvs.map fun p => keyD p.1) ds).map (·.2) = ds := List.map_snd_zip (Nat.le_of_eq ln)
  have hz' : (dictText (PyData.shownKv (List.zip (kvs.map fun p => keyD p.1) ds))).length ≤ sizeLine := by simpa only [PyData.shown] using hz
  obtain ⟨s1, s2⟩ := PyData.showableKv_split _ (by simpa [PyData.showable] using hs)
  refine ⟨o, es, ep, ho, he.1, hd, ns, ?_, ?_⟩
  · rw [f1, e1]
    rw [f1, e1] at s1
    refine keys_shown hp s1 fun t ht => ?_
    obtain ⟨p, hp1, hp2⟩ := PyData.shownKv_key_le (List.zip (kvs.map fun p => keyD p.1) ds) t (by rw [f1, e1]; exact ht)
    exact Nat.le_trans hp2 (Nat.le_trans (dictText_mem_le hp1) hz')
  · rw [f2, vals_of_pairs hp]
    rw [f2] at s2
    refine DqAll.shown I hall rv s2 fun t ht => ?_
    obtain ⟨p, hp1, hp2⟩ := PyData.shownKv_val_le (List.zip (kvs.map fun p => keyD p.1) ds) t (by rw [f2]; exact ht)
    exact Nat.le_trans hp2 (Nat.le_trans (dictText_mem_le hp1) hz')
theorem shows_dq (I : Inv X pins σ H s) {a : Addr} {d : PyData} (h : Dq X.K H (.ref a) d) (hs : d.showable = true) (hz : d.shown.length ≤ sizeLine) : ∃ T idr, ShowsBy X.prog X.w s.heap a d T idr := by
  cases h with
  | @lst _ xs ds hq ha =>
    have hz' : (listText (PyData.shownAll ds)).length ≤ sizeLine := by simpa only [PyData.shown] using hz
    obtain ⟨its, rv, ⟨o, n, h1, h2, _, h3⟩, _⟩ := I.list hq
    obtain ⟨as, bs, rs, m, k⟩ := DqAll.shown I ha rv (by simpa [PyData.showable] using hs) fun t ht => Nat.le_trans (listText_mem_le ht) hz'
    have out : a ∉ bs := not_mem_of_deeper (.list h1 h2 h3 rs) (by simp only [PyData.depth]; omega) m
    refine ⟨"list", "list.__repr__", F.slot_list_repr.toG, F.slot_list_str, F.slot_list_format, fun s hk0 => ⟨o, hk0 _ _ h1, h2⟩, fun A E s Q hg hu hk0 hQ => ?_⟩
    simp only [PyData.depth] at hu
    simp only [PyData.shown] at hQ
    cases its with
    | nil =>
      cases rs
      simp only [PyData.shownAll, listText_nil] at hQ
      exact call_list_repr_empty ⟨o, hk0 _ _ h1, h2⟩ (hk0 _ _ h1) h3 (hQ s.heap _ _ fun _ _ e => e)
    | cons x l => exact call_list_reprK h1 h2 h3 out (by simpa using k.length_eq) (fun i y e => k.item i y (by simpa using e)) hg (fun b _ => Clear.nil b) hu hk0 hQ hz'
  | @tup _ xs ds hq ha =>
    have hz' : (tupleText (PyData.shownAll ds)).length ≤ sizeLine := by simpa only [PyData.shown] using hz
    obtain ⟨its, rv, ⟨o, h1, h2, n, h3⟩, _⟩ := I.tuple hq
    obtain ⟨as, bs, rs, m, k⟩ := DqAll.shown I ha rv (by simpa [PyData.showable] using hs) fun t ht => Nat.le_trans (tupleText_mem_le ht) hz'
    have out : a ∉ bs := not_mem_of_deeper (.tuple h1 h2 h3 rs) (by simp only [PyData.depth]; omega) m
    refine ⟨"tuple", "tuple.__repr__", F.slot_tuple_repr, F.slot_tuple_str, F.slot_tuple_format, fun s hk0 => ⟨o, hk0 _ _ h1, h2⟩, fun A E s Q hg hu hk0 hQ => ?_⟩
    simp only [PyData.depth] at hu
    simp only [PyData.shown] at hQ
    exact call_tuple_reprK h1 h2 h3 out k hg (fun b _ => Clear.nil b) hu hk0 hQ hz'
  | @dK _ kvs ds hk ha =>
    obtain ⟨o, es, n, h1, h2, h3, ns, t1, t2⟩ := dict_shown I hk ha hs hz
    obtain ⟨as, b1, r1, m1, k1⟩ := t1
    obtain ⟨cs, b2, r2, m2, k2⟩ := t2
    generalize List.zip (kvs.map fun p => keyD p.1) ds = ps at hs hz r1 m1 k1 r2 m2 k2 ⊢
    have m : ReadAtMost s.heap (PyData.depthKv ps) (b1 ++ b2) := (m1.mono (PyData.depthAll_keys_le ps)).append (m2.mono (PyData.depthAll_vals_le ps))
    have out : a ∉ b1 ++ b2 := not_mem_of_deeper (.dict h1 h2 h3 r1 r2) (by simp only [PyData.depth]; omega) m
    have hz' : (dictText (PyData.shownKv ps)).length ≤ sizeLine := by simpa only [PyData.shown] using hz
    refine ⟨"dict", "dict.__repr__", F.slot_dict_repr, F.slot_dict_str, F.slot_dict_format, fun s hk0 => ⟨o, hk0 _ _ h1, h2⟩, fun A E s Q hg hu hk0 hQ => ?_⟩
    simp only [PyData.depth] at hu
    simp only [PyData.shown, PyData.shownKv_eq] at hQ
    exact call_dict_reprK h1 h2 h3 ns out (ReprEntriesK.of_two es.toList _ _ (k1.more_le (fun b z => List.mem_append_left _ z) (PyData.depthAll_keys_le ps)) (k2.more_le (fun b z => List.mem_append_right _ z) (PyData.depthAll_vals_le ps))) hg (fun b _ => Clear.nil b) hu hk0 hQ (by rw [← PyData.shownKv_eq]; exact hz')
end
/-- repr(x), x a list, a tuple, a dict -/
def rReprQ (K : PySem.W.Frag) : List V → Hp → VK → Prop := fun xs H Q => ∃ (a : Addr) (d : PyData), xs = [.ref a] ∧ Dq K H (.ref a) d ∧ d.showable = true ∧ d.depth ≤ 60 ∧ d.shown.length ≤ sizeLine ∧ Q (.str d.shown) H
theorem cr_reprQ {X : Cx} (hg : X.A.guards = some []) (hu : X.A.units + 64 < cLine) : CallR X (.builtin "repr") (rReprQ X.K) := by
  intro pins s σ H xs us Q I r h
  obtain ⟨a, d, rfl, hd, h1, h3, h4, q⟩ := h
  obtain ⟨u, rfl, hu'⟩ := vals1 r
  obtain rfl : u = Value.ref a := hu'
  obtain ⟨T, idr, S⟩ := shows_dq I hd h1 h4
  refine call_repr_slot (by omega) (S.typeIs s fun _ _ e => e) S.slotRepr (S.call X.A.in1 _ s _ hg (by show X.A.units + 1 + d.depth < cLine; omega) (fun _ _ e => e) fun h' u tk k => ⟨_, _, rfl, ⟨.str _, H, I.kept (t' := tk) k, ⟨_, rfl⟩, q⟩⟩)
end EE

/-! Own layer: list(enumerate(x)), x a list. -/
namespace EE
open PySem PySem.Spec PyProof.Rows L2
theorem enum_len : typeLookup (.type "enumerate") "__len__" = pure none := by rw [typeLookup_type, builtinLookup_eq_fast]; kernel_rfl
theorem enum_hint : typeLookup (.type "enumerate") "__length_hint__" = pure none := by rw [typeLookup_type, builtinLookup_eq_fast]; kernel_rfl
section
variable {M : Model} {prog : Program} {w : World} {A : Around} {E : Value → Shared → Prop} {s : Shared} {r : Addr}
theorem hint_enum {Q : Bool → Shared → Prop} (hT : s.TypeIs (.ref r) "enumerate") (h : Q true s) : wpAny M A (Builtin.List.listLengthHint (.ref r)) Q E s := by
  unfold Builtin.List.listLengthHint
  refine wpAny_bind (wpAny_specialOf hT enum_len ?_)
  wp_walk
  rw [show typeLookup (.type "enumerate") (Str.ofString "__length_hint__") = pure none from enum_hint]
  exact wpAny_pure (wpAny_pure h)
end
/-- the pairs that enumerate gives of xs, the first j of them -/
def EnumVs (H : Hp) (xs vs : List V) : Prop := ∀ j v, vs[j]? = some v → ∃ T x, v = .ref T ∧ xs[j]? = some x ∧ H T = some (.tup [.int (j : Nat), x])
theorem EnumVs.keep {H H' : Hp} {xs vs : List V} (h : EnumVs H xs vs) (k : ∀ a ys, H a = some (.tup ys) → H' a = some (.tup ys)) : EnumVs H' xs vs := fun j v e => by
  obtain ⟨T, x, e1, e2, e3⟩ := h j v e
  exact ⟨T, x, e1, e2, k _ _ e3⟩
/-- the enumerate object at e behind i turns -/
def EnSt (h : Heap) (e it S : Addr) (i : Nat) : Prop := (∃ old, IsEnum h e it (i : Nat) old) ∨ ∃ old T f oT, IsEnumHeld h e it (i : Nat) old T f ∧ h.get? T = some oT ∧ T ≠ e ∧ T ≠ it ∧ T ≠ S
theorem EnSt.keep {h h' : Heap} {e it S : Addr} {i : Nat} (x : EnSt h e it S i) (ne : e ≠ S) (k : ∀ b o, b ≠ S → h.get? b = some o → h'.get? b = some o) : EnSt h' e it S i := by
  rcases x with ⟨old, z⟩ | ⟨old, T, f, oT, z, z2, n1, n2, n3⟩
  · exact .inl ⟨old, k _ _ ne z⟩
  · exact .inr ⟨old, T, f, oT, k _ _ ne z, k _ _ n3 z2, n1, n2, n3⟩
theorem iter_keep {h h' : Heap} {it l S : Addr} {i : Nat} (x : h.IsListIter it l i) (ne : it ≠ S) (k : ∀ b o, b ≠ S → h.get? b = some o → h'.get? b = some o) : h'.IsListIter it l i := by
  obtain ⟨o, z, r⟩ := x
  exact ⟨o, k _ _ ne z, r⟩
section
variable {X : Cx} {pins : List (Addr × Obj)} {σ : L2.St} {A : Around} {R : Result → Shared → Prop} {l e it S : Addr} {xs : List V} {res : Value} {H0 : Hp} {g : Array GenState} {dn : Drawn} {os : OsState}
/-- one step of enumerate, the last pair held or let go -/
theorem enum_next {H : Hp} {s : Shared} {i : Nat} {E : Value → Shared → Prop} {Q : Option Value → Shared → Prop} (st : EnSt s.heap e it S i) (hit : s.heap.IsListIter it l i) (hne : e ≠ it) {its : Array Value} {u : Value} (hl : s.heap.IsList l its) (hu : its[i]? = some u) (hS : S < s.heap.objs.size)
    (h : ∀ h' t, EnSt h' e it S (i + 1) → h'.IsListIter it l (i + 1) → h'.get? s.heap.objs.size = some { cls := .type "tuple", data := .seq #[.int i t, u] } → h'.objs.size = s.heap.objs.size + 1 → (∀ b o, b ≠ e → b ≠ it → s.heap.get? b = some o → h'.get? b = some o) →
      Q (some (.ref s.heap.objs.size)) { s with heap := h', toks := s.toks + 1 }) : wpAny (model X.prog X.w) A (pyNext (.ref e)) Q E s := by
  have e1 : (((i + 1 : Nat) : Nat) : Int) = (i : Int) + 1 := by omega
  obtain ⟨oi, hoi, _⟩ := id hit
  have li : it < s.heap.objs.size := Heap.lt_size hoi
  rcases st with ⟨old, z⟩ | ⟨old, T, f, oT, z, z2, n1, n2, n3⟩
  · have le : e < s.heap.objs.size := Heap.lt_size z
    exact wpAny_pyNext_enum_item z hit hl hu hne fun h' a1 a2 a3 a4 a5 => h h' _ (.inr ⟨u, s.heap.objs.size, false, _, by rw [e1]; exact a1, a3, Nat.ne_of_gt le, Nat.ne_of_gt li, Nat.ne_of_gt hS⟩) a2 a3 a4 a5
  · exact wpAny_pyNext_enum_item_held z z2 n1 n2 hit hl hu hne fun h' a1 a2 a3 a4 a5 => h h' _ (.inr ⟨old, T, true, oT, by rw [e1]; exact a1, a5 _ _ n1 n2 z2, n1, n2, n3⟩) a2 a3 a4 a5
theorem enum_end {s : Shared} {i : Nat} {E : Value → Shared → Prop} {Q : Option Value → Shared → Prop} (hh : A.handled = none) (st : EnSt s.heap e it S i) (hit : s.heap.IsListIter it l i) {its : Array Value} (hl : s.heap.IsList l its) (hu : its[i]? = none)
    (h : ∀ h', Heap.ExtBut it s.heap h' → Q none { s with heap := h' }) : wpAny (model X.prog X.w) A (pyNext (.ref e)) Q E s := by
  rcases st with ⟨old, z⟩ | ⟨old, T, f, oT, z, _⟩
  · exact wpAny_pyNext_enum_end hh z hit hl hu h
  · exact wpAny_pyNext_enum_end_held hh z hit hl hu h
theorem enum_loop (hh : A.handled = none) (few : xs.length ≤ 100000)
    (hR : ∀ H' s' vs, Inv X pins σ H' s' → Same H0 H' → H' S = some (.lst vs) → vs.length = xs.length → EnumVs H' xs vs → R (.ok (.ret res)) s') :
    ∀ (k i : Nat) (H : Hp) (s : Shared) (vs : List V), xs.length - i = k → i ≤ xs.length → Inv X pins σ H s → Same H0 H → H0 S = none → H S = some (.lst vs) → vs.length = i → EnumVs H xs vs → SqL X.K H l xs → EnSt s.heap e it S i → s.heap.IsListIter it l i → e ≠ it → e ≠ S → it ≠ S → l ≠ S →
      FpOk X pins H e → FpOk X pins H it → codeAny (model X.prog X.w) A (.builtin "list.extend.loop" ⟨[.ref S, .ref e, res], []⟩) R s := by
  intro k
  induction k with
  | zero =>
    intro i H s vs hk hi I sm hS0 hS hv en hq st hit n1 n2 n3 n4 f1 f2
    refine codeAny_builtin PySem.F.entry_extend_loop ?_
    rw [Around.under_plainId PySem.F.plain_extend_loop _]
    show wpAny _ A.in1 (pyNext (.ref e) >>= _) _ _ _
    obtain ⟨its, rv, p, hz⟩ := I.list hq
    have hl := rv.length
    refine wpAny_bind (enum_end (X := X) (A := A.in1) hh st hit p.isList (by simp; omega) fun h' eb => ?_)
    obtain ⟨f20, f21, f22, f23, f24, f25⟩ := f2
    exact wpAny_pure (hR H _ vs (I.turned (t' := s.toks) (fun b o hb q => eb b o hb q) f20 f21 f23 f24 f25) sm hS (by omega) en)
  | succ k ih =>
    intro i H s vs hk hi I sm hS0 hS hv en hq st hit n1 n2 n3 n4 f1 f2
    have hlt : i < xs.length := by omega
    refine codeAny_builtin PySem.F.entry_extend_loop ?_
    rw [Around.under_plainId PySem.F.plain_extend_loop _]
    show wpAny _ A.in1 (pyNext (.ref e) >>= _) _ _ _
    obtain ⟨its, rv, p, hz⟩ := I.list hq
    obtain ⟨u, hu, ru⟩ := rv.get (List.getElem?_eq_getElem hlt)
    obtain ⟨_, its0, n0, rv0, hS1⟩ := (show ObjOk X.prog X.w H s.heap S (.lst vs) from I.hok S _ hS)
    have hSl : S < s.heap.objs.size := Heap.lt_size hS1
    refine wpAny_bind (enum_next (X := X) (A := A.in1) (H := H) st hit n1 p.isList (u := u) (by simpa using hu) hSl fun h' t st' hit' hT hsz hk2 => ?_)
    have new : ObjOk X.prog X.w (upd H s.heap.objs.size (.tup [.int (i : Nat), xs[i]])) h' s.heap.objs.size (.tup [.int (i : Nat), xs[i]]) := ⟨by show 2 ≤ sizeLine; decide, [.int i t, u], .cons ⟨_, rfl⟩ (.cons ru .nil), ⟨_, hT, rfl, _, rfl⟩⟩
    have hf : ∀ b ∈ [e, it], FpOk X pins H b := fun b hb => by
      rcases List.mem_cons.mp hb with z | hb
      · rw [z]; exact f1
      · rw [List.mem_singleton.mp hb]; exact f2
    have I1 := I.turnedNew (t' := s.toks + 1) (ch := [e, it]) (fun b ob hb q => hk2 b ob (fun z => hb (by simp [z])) (fun z => hb (by simp [z])) q) hf (Nat.le_refl _) new
    have hnew : H s.heap.objs.size = none := I.hok.fresh (Nat.le_refl _)
    have sT : Same H (upd H s.heap.objs.size (.tup [.int (i : Nat), xs[i]])) := same_new hnew
    have hST := sT _ _ hS
    have hS2 := hk2 S _ (Ne.symm n2) (Ne.symm n3) hS1
    show wpAny _ A.in1 (updateSeq S (·.push (Value.ref s.heap.objs.size)) >>= _) _ _ _
    refine wpAny_bind (wpAny_updateSeq hS2 rfl (wpAny_pure ⟨plainId_quiet PySem.F.plain_extend_loop _, ?_⟩) ?_ ?_)
    · have up : ∀ b o, b ≠ S → h'.get? b = some o → (h'.update S (Obj.mapSeq (·.push (Value.ref s.heap.objs.size)))).get? b = some o := fun b o hb z => (Heap.get?_update_other _ _ (Ne.symm hb)).trans z
      have hS3 := Heap.get?_update_self (Obj.mapSeq (·.push (Value.ref s.heap.objs.size))) hS2 rfl
      have I2 := I1.write (t' := s.toks + 1) (x := S) (e := S) (o := .lst (vs ++ [.ref s.heap.objs.size])) (h' := h'.update S (Obj.mapSeq (·.push (Value.ref s.heap.objs.size)))) (by rw [hST]; exact True.intro) (.inl rfl) up ⟨_, hS3⟩
        ⟨by rw [List.length_append, hv]; show i + 1 ≤ sizeLine; rw [sizeLine_eq]; omega, its0 ++ [Value.ref s.heap.objs.size], n0 + 1, rv0.append (Paired.cons (show RelV (.ref s.heap.objs.size) (.ref s.heap.objs.size) from rfl) .nil), by rw [hS3, Obj.mapSeq_push_plain]; simp⟩
      have hTS : s.heap.objs.size ≠ S := Nat.ne_of_gt hSl
      have kt : ∀ a ys, upd H s.heap.objs.size (.tup [.int (i : Nat), xs[i]]) a = some (.tup ys) → upd (upd H s.heap.objs.size (.tup [.int (i : Nat), xs[i]])) S (.lst (vs ++ [.ref s.heap.objs.size])) a = some (.tup ys) := fun a ys z => by
        have ne : a ≠ S := fun y => by
          rw [y, hST] at z
          cases z
        rw [upd_ne ne]
        exact z
      refine ih (i + 1) _ _ (vs ++ [.ref s.heap.objs.size]) (by omega) hlt I2 (Same.grow hS0 (fun b o z => sT _ _ (sm _ _ z))) hS0 upd_same (by rw [List.length_append, hv]; rfl) ?_ ?_ (st'.keep n2 up) (iter_keep hit' n3 up) n1 n2 n3 n4 ?_ ?_
      · intro j v hj
        rcases Nat.lt_trichotomy j vs.length with z | z | z
        · rw [List.getElem?_append_left z] at hj
          obtain ⟨T, x, e1, e2, e3⟩ := en j v hj
          exact ⟨T, x, e1, e2, kt _ _ (sT _ _ e3)⟩
        · subst z
          have hv2 : V.ref s.heap.objs.size = v := by simpa using hj
          subst hv2
          subst hv
          exact ⟨_, _, rfl, List.getElem?_eq_getElem hlt, kt _ _ upd_same⟩
        · rw [List.getElem?_eq_none (by rw [List.length_append, List.length_singleton]; omega)] at hj
          cases hj
      · exact (but_upd (p := S) (o := .lst (vs ++ [.ref s.heap.objs.size]))).seq n4 (Same.seq sT hq)
      · obtain ⟨a1, a2⟩ := f1
        refine ⟨?_, a2⟩
        rw [upd_ne n2, upd_ne]
        · exact a1
        · intro z
          rcases st with ⟨old, y⟩ | ⟨old, T, f, oT, y, _⟩ <;> exact absurd (Heap.lt_size y) (by rw [z]; exact Nat.lt_irrefl _)
      · obtain ⟨a1, a2⟩ := f2
        refine ⟨?_, a2⟩
        rw [upd_ne n3, upd_ne]
        · exact a1
        · intro z
          obtain ⟨oi, hoi, _⟩ := hit
          exact absurd (Heap.lt_size hoi) (by rw [z]; exact Nat.lt_irrefl _)
    · have := rv0.length
      simp
      rw [← this, hv, sizeLine_eq]
      omega
    · have := rv0.length
      simp
      rw [← this, hv, sizeLine_eq]
      omega
/-- list.__init__(S, e) -/
theorem enum_init {H : Hp} {s : Shared} (hh : A.handled = none) (few : xs.length ≤ 100000) (I : Inv X pins σ H s) (sm : Same H0 H) (hS0 : H0 S = none) (hS : H S = some (.lst [])) (hS1 : s.heap.get? S = some { cls := .type "list", data := .seq #[] }) (hq : SqL X.K H l xs)
    (he : IsEnum s.heap e it 0 .none) (hit : s.heap.IsListIter it l 0) (n1 : e ≠ it) (n2 : e ≠ S) (n3 : it ≠ S) (n4 : l ≠ S) (f1 : FpOk X pins H e) (f2 : FpOk X pins H it)
    (hR : ∀ H' s' vs, Inv X pins σ H' s' → Same H0 H' → H' S = some (.lst vs) → vs.length = xs.length → EnumVs H' xs vs → R (.ok (.ret .none)) s') :
    wpAny (model X.prog X.w) A.in1 (Builtin.«list.__init__» ⟨[.ref S, .ref e], []⟩)
      (fun fin s' => match fin with | .done f => R (.ok f) s' | .again c' => c'.quiet = true ∧ codeAny (model X.prog X.w) A c' R s') (fun e s' => R (.error e) s') s := by
  show wpAny _ _ (do let old ← Builtin.List.listItems (.ref S); Builtin.List.listUpdate (.ref S) (fun _ => #[]); letGo old.toList.reverse; Builtin.List.listExtendWith (.ref S) (.ref e) .none) _ _ s
  refine wpAny_bind ?_
  unfold Builtin.List.listItems
  refine wpAny_bind (wpAny_seqItems hS1 rfl (wpAny_pure ?_))
  show wpAny _ _ (updateSeq S (fun _ => #[]) >>= fun _ => letGo (#[] : Array Value).toList.reverse >>= fun _ => Builtin.List.listExtendWith (.ref S) (.ref e) .none) _ _ s
  refine wpAny_bind (wpAny_updateSeq hS1 rfl ?_)
  have hS2 := Heap.get?_update_self (Obj.mapSeq (fun _ => (#[] : Array Value))) hS1 rfl
  have k2 : ∀ b o, b ≠ S → s.heap.get? b = some o → (s.heap.update S (Obj.mapSeq (fun _ => (#[] : Array Value)))).get? b = some o := fun b o hb z => (Heap.get?_update_other _ _ (Ne.symm hb)).trans z
  refine wpAny_bind (wpAny_letGo ?_)
  have he2 : IsEnum (s.heap.update S (Obj.mapSeq (fun _ => (#[] : Array Value)))) e it 0 .none := k2 _ _ n2 he
  unfold Builtin.List.listExtendWith
  refine wpAny_bind (wpAny_typeOf (T := "enumerate") ⟨_, he2, rfl⟩ ?_)
  have h1 : Builtin.List.listSameRef (.ref S) (.ref e) = false := by simp [Builtin.List.listSameRef, Ne.symm n2]
  have h2 : (Value.type "enumerate" == Value.type "list") = false := by decide
  have h3 : (Value.type "enumerate" == Value.type "tuple") = false := by decide
  simp only [h1, h2, h3, Bool.or_false, Bool.false_eq_true, if_false]
  refine wpAny_bind (wpAny_pyIter_enum he2 ?_)
  refine wpAny_bind (wpAny_holding (hint_enum ⟨_, he2, rfl⟩ ?_))
  refine wpAny_ite_split (fun _ => ?_) (fun z => absurd rfl z)
  refine wpAny_bind (wpAny_rule (wpAny_bind ?_))
  show wpAny _ _ (updateSeq S (·.push .none) >>= fun _ => updateSeq S (·.pop)) _ _ _
  refine wpAny_bind (wpAny_updateSeq hS2 rfl ?_)
  have hS3 := Heap.get?_update_self (Obj.mapSeq (·.push Value.none)) hS2 rfl
  refine wpAny_updateSeq (hz := by seq_fits) hS3 rfl ?_
  have hS4 := Heap.get?_update_self (Obj.mapSeq (·.pop)) hS3 rfl
  have kp : ∀ b o, b ≠ S → s.heap.get? b = some o → (((s.heap.update S (Obj.mapSeq (fun _ => (#[] : Array Value)))).update S (Obj.mapSeq (·.push Value.none))).update S (Obj.mapSeq (·.pop))).get? b = some o :=
    fun b o hb z => (Heap.get?_update_other _ _ (Ne.symm hb)).trans ((Heap.get?_update_other _ _ (Ne.symm hb)).trans (k2 b o hb z))
  have I2 := I.write (t' := s.toks) (x := S) (e := S) (o := .lst []) (h' := ((s.heap.update S (Obj.mapSeq (fun _ => (#[] : Array Value)))).update S (Obj.mapSeq (·.push Value.none))).update S (Obj.mapSeq (·.pop))) (by rw [hS]; exact True.intro) (.inl rfl) kp ⟨_, hS4⟩
    ⟨Nat.zero_le _, [], _, .nil, hS4⟩
  have eu : upd H S (.lst []) = H := by
    funext b
    by_cases hb : b = S
    · rw [hb, upd_same, hS]
    · rw [upd_ne hb]
  rw [eu] at I2
  exact wpAny_pure ⟨plainId_quiet PySem.F.plain_extend_loop _, enum_loop (A := A) hh few hR xs.length 0 H _ [] (Nat.sub_zero _) (Nat.zero_le _) I2 sm hS0 hS rfl (fun j v z => by simp at z) hq (.inl ⟨.none, kp _ _ n2 he⟩) (iter_keep hit n3 kp) n1 n2 n3 n4 f1 f2⟩
end
/-- list(enumerate(e)) -/
def tLenum (K : PySem.W.Frag) (ta : TE) : TE := fun σ H Q => ta σ H fun x H1 => ∃ a xs, x = .ref a ∧ SqL K H1 a xs ∧ xs.length ≤ 100000 ∧ ∀ S vs H', H1 S = none → Same H1 H' → H' S = some (.lst vs) → vs.length = xs.length → EnumVs H' xs vs → Q (.ref S) H'
theorem pe_lenum {X : Cx} {a : Expr} {ta : TE} {p1 p2 q1 q2 : Pos} (hc : X.calm = true) (hg : Gl X "list") (hm : X.mg "list" = none) (hg2 : Gl X "enumerate") (hm2 : X.mg "enumerate" = none) (ha : PE X a ta) (na : starEach [a] X.env = (false, eval a X.env) :: starEach [] X.env := by rfl)
    (nb : starEach [.Call (.Name "enumerate" p2) [a] [] q2] X.env = (false, eval (.Call (.Name "enumerate" p2) [a] [] q2) X.env) :: starEach [] X.env := by rfl) :
    PE X (.Call (.Name "list" p1) [.Call (.Name "enumerate" p2) [a] [] q2] [] q1) (tLenum X.K ta) := by
  refine ⟨fun pins s σ H Q I h => ?_⟩
  refine Call_ (ld_blt I hg hm boot_list (PyProof.Rows.callWith_type1 (args_cons ?_ nb) nb))
  refine Call_ (ld_blt I hg2 hm2 boot_enumerate (PyProof.Rows.callWith_type1 (one_arg ha I h (fun v s2 x H2 I2 r q => ?_) na) na))
  obtain ⟨l, xs, rfl, hq, few, q⟩ := q
  obtain rfl : v = .ref l := r
  obtain ⟨its, rv, pl, hz⟩ := I2.list hq
  refine call_enumerate_list pl.isList fun h' he hit hsz hk => args_nil ?_
  obtain ⟨hp, g, d, tk, os⟩ := s2
  have lll : l < hp.objs.size := pl.lt
  have I3 : Inv X pins σ H2 ⟨h', g, d, tk, os⟩ := I2.kept (t' := tk) hk
  refine callType_codes (Q₁ := fun obj s1 => obj = .ref h'.objs.size ∧ s1 = ⟨h'.push { cls := .type "list", data := .seq #[] }, g, d, tk, os⟩) PySem.F.called_list (PySem.F.typeCall_list_1 _) PySem.F.entry_list_init (code_list_new _ ⟨rfl, rfl⟩) fun obj s1 h1 => ?_
  obtain ⟨rfl, rfl⟩ := h1
  have hS : (h'.push { cls := .type "list", data := .seq #[] }).get? h'.objs.size = some { cls := .type "list", data := .seq #[] } := Heap.get?_push_size _ rfl
  have hn : H2 h'.objs.size = none := I3.hok.fresh (Nat.le_refl _)
  have I4 := I3.laid (t' := tk) (a := h'.objs.size) (o := .lst []) (h' := h'.push { cls := .type "list", data := .seq #[] }) (fun b o z => Heap.get?_push_of_some _ z) (Nat.le_refl _) ⟨Nat.zero_le _, [], 0, .nil, hS⟩
  have fp : ∀ b, hp.objs.size ≤ b → b ≠ h'.objs.size → FpOk X pins (upd H2 h'.objs.size (.lst [])) b := fun b hb n => I2.fpOk hb (by rw [upd_ne n]; exact I2.hok.fresh hb)
  have z1 : hp.objs.size + 1 ≠ h'.objs.size := by rw [hsz]; exact Nat.ne_of_lt (Nat.lt_succ_self _)
  have z2 : hp.objs.size ≠ h'.objs.size := by rw [hsz]; exact Nat.ne_of_lt (Nat.lt_add_of_pos_right (by decide))
  have z3 : l ≠ h'.objs.size := Nat.ne_of_lt (Nat.lt_of_lt_of_le lll (by rw [hsz]; exact Nat.le_add_right _ _))
  refine ⟨⟨_, hS, rfl⟩, PySem.F.args_list_init_2 _ _, enum_init (A := X.A.in1) (H0 := H2) (I3.ok.hd hc) few I4 (same_new hn) hn upd_same hS (Same.seq (same_new hn) hq) (Heap.get?_push_of_some _ he) ?_ (Nat.succ_ne_self _) z1 z2 z3 (fp _ (Nat.le_succ _) z1) (fp _ (Nat.le_refl _) z2) fun H' s' vs J sm eS lv en => ⟨rfl, ?_⟩⟩
  · obtain ⟨o, z, r⟩ := hit
    exact ⟨o, Heap.get?_push_of_some _ z, r⟩
  · exact ⟨.ref h'.objs.size, H', J, rfl, q _ vs H' hn sm eS lv en⟩
theorem rd_lenum {K : PySem.W.Frag} {ta : TE} {σ : L2.St} {H : Hp} {Q : VK} (h : ta σ H fun x H1 => ∃ a xs, x = .ref a ∧ SqL K H1 a xs ∧ xs.length ≤ 100000 ∧ ∀ S vs H', H1 S = none → Same H1 H' → H' S = some (.lst vs) → vs.length = xs.length → EnumVs H' xs vs → Q (.ref S) H') : tLenum K ta σ H Q := h
end EE

/-! Own layer: exception values read. -/
namespace EE
open PySem PySem.Spec PyProof.Rows L2
/-- x.f, x an exception that was made -/
def tXv (K : PySem.W.Frag) (f : Str) (te : TE) : TE := fun σ H Q => te σ H fun x H1 => ∃ (a dx C : Addr) (fs : List (Str × V)) (v : V), x = .ref a ∧ H1 a = some (exo a C (some dx)) ∧ H1 dx = some (exd dx fs) ∧ ExK K C ∧ PySem.W.findIn K (.ref C) f = some none ∧ fs.lookup f = some v ∧ Q v H1
/-- isinstance(x, c), x an exception that was made -/
def rIsX (K : PySem.W.Frag) : List V → Hp → VK → Prop := fun xs H Q => ∃ (a C : Addr) (d : Option Addr) (c : V) (cv : Value) (b : Bool), xs = [.ref a, c] ∧ H a = some (exo a C d) ∧ (∀ dx, d = some dx → ∃ fs, H dx = some (exd dx fs)) ∧ ClsV c cv ∧ ExK K C ∧ PySem.W.kitOne K (.ref C) cv = some b ∧ Q (.bl b) H
section
variable {X : Cx} {e : Expr} {te : TE} {pos : Pos} {n : Str}
theorem pe_xv (he : PE X e te) (hb : attributeBase e n X.env (eval e X.env) = eval e X.env := by rfl) : PE X (.Attribute e n pos) (tXv X.K n te) := by
  refine ⟨fun pins s σ H Q I h => attr_of hb (thn (he.run pins s σ H _ I h) fun u s1 ⟨x, H1, I1, rx, a, dx, C, fs, v, ex, ea, ed, T, hno, hl, q⟩ => ?_)⟩
  subst ex
  obtain rfl : u = Value.ref a := rx
  obtain ⟨t1, ho⟩ := exo_at I1.hok ea
  obtain ⟨mA, hns, rel⟩ := exd_at I1.hok ed
  obtain ⟨od, hod, look⟩ := lookIn_ns hns
  obtain ⟨u, hu, ru⟩ := RelO.some_of (v := v) (o := mA n) (by rw [← hl]; exact rel n)
  exact HandSPX.exc_get I1.kIn (od := some od) ⟨ho, rfl, rfl, hod⟩ T.xf.ga T.xf.gg T.xf.exC (PySem.W.findObj_own T.xf.hdC hno rfl (by rw [look, hu])) (handed_of ru) ⟨v, H1, I1.tok _, ru, q⟩
theorem call_isX : CallR X (.builtin "isinstance") (rIsX X.K) := by
  intro pins s σ H xs us Q I r h
  obtain ⟨a, C, d, c, cv, b, rfl, ea, ed, k, T, e, q⟩ := h
  obtain ⟨u1, u2, rfl, r1, r2⟩ := vals2 r
  obtain rfl : u1 = Value.ref a := r1
  have e2 := k.eq r2
  subst e2
  obtain ⟨t1, ho⟩ := exo_at I.hok ea
  obtain ⟨cd, hcd, _⟩ := PySem.W.any_some T.xf.hdC
  have J : ∃ od, PySem.W.InstAt s.heap a { cls := .ref C, dict := d, data := .fields #[.ref t1, .none, .none, .none, .bool false, .none] } C od := by
    cases d with
    | none => exact ⟨none, ho, rfl, rfl, trivial⟩
    | some dx =>
      obtain ⟨fs, z⟩ := ed dx rfl
      obtain ⟨mA, hns, _⟩ := exd_at I.hok z
      obtain ⟨od, hod, _⟩ := lookIn_ns hns
      exact ⟨some od, ho, rfl, rfl, hod⟩
  obtain ⟨od, J⟩ := J
  exact PySem.W.kia_one (PySem.W.kitx_exc (by rw [hcd]; rfl) T.xf.ga T.xf.gg T.xf.exC T.ha T.hn T.ht T.hm) I.kIn J e (fun z => nomatch z) fun tk => ⟨.bl b, H, I.tok tk, rfl, q⟩
theorem pe_mk0 {C : Addr} {bmB : List Value} {B newId initId : String} {x : Str} {p : Pos} (FB : ExcBaseFacts B newId initId bmB) (q : PySem.W.excIn X.K C bmB newId = true) (kC : PySem.W.keepIn X.K (.ref C) = true) (hg : Gl X x) (hm : X.mg x = some (.ref C)) (ndb : (x == ("__debug__" : Str)) = false := by decide) :
    PE X (.Call (.Name x p) [] [] pos) (tMk0 C) := by
  refine ⟨fun pins s σ H Q I h => wpAny_Call_Name_kw (ld_glob I hg hm (PySem.W.callWith_K0 I.kIn kC ?_) ndb)⟩
  obtain ⟨bm, N, nm, qn, bs, hdct, sn, sub, ab, col, dd, k0, k1, k2, k3, k5, mN, hC, hN, hni, T⟩ := exc_obj I.kIn q
  refine wpAny_call_exc_subT FB T hC hN hni (fun h' a hm => ?_) (Nat.zero_le _)
  have hn : H a = none := I.hok.gone hm.new
  obtain ⟨t, ht, _, _⟩ := hm.there
  exact ⟨.ref a, upd H a (exo a C none), I.laidN hm.keeps hm.new hn (exo_ok ht), rfl, h a hn⟩
end
section
variable {K : PySem.W.Frag} {σ : L2.St} {H : Hp} {Q : VK} {C : Addr}
theorem rd_xv {f : Str} {te : TE} (h : te σ H fun x H1 => ∃ (a dx C : Addr) (fs : List (Str × V)) (v : V), x = .ref a ∧ H1 a = some (exo a C (some dx)) ∧ H1 dx = some (exd dx fs) ∧ ExK K C ∧ PySem.W.findIn K (.ref C) f = some none ∧ fs.lookup f = some v ∧ Q v H1) : tXv K f te σ H Q := h
theorem rd_isX {C : Addr} {x c : V} {cv : Value} {fs : List (Str × V)} {b : Bool} (h : ExV H C x fs) (k : ClsV c cv) (T : ExK K C) (e : PySem.W.kitOne K (.ref C) cv = some b) (q : Q (.bl b) H) : rIsX K [x, c] H Q := by
  obtain ⟨a, dx, rfl, e1, e2⟩ := h
  exact ⟨a, C, some dx, c, cv, b, rfl, e1, fun d z => by cases z; exact ⟨fs, e2⟩, k, T, e, q⟩
theorem rd_isX0 {C : Addr} {x c : V} {cv : Value} {b : Bool} (h : ExN H C x) (k : ClsV c cv) (T : ExK K C) (e : PySem.W.kitOne K (.ref C) cv = some b) (q : Q (.bl b) H) : rIsX K [x, c] H Q := by
  obtain ⟨a, rfl, e1⟩ := h
  exact ⟨a, C, none, c, cv, b, rfl, e1, (fun d z => nomatch z), k, T, e, q⟩
theorem rd_mk0 (h : ∀ v H', Same H H' → ExN H' C v → Q v H') : tMk0 C σ H Q := fun a ha => h _ _ (same_new ha) ⟨a, rfl, upd_same⟩
/-- what an __init__ of one field promises -/
def spI1 (K : PySem.W.Frag) (C : Addr) (f : Str) : Sp := fun vs H Q _ => ∃ (a : Addr) (y : V), vs = [.ref a, y] ∧ H a = some (exo a C none) ∧ ∀ (dx : Addr) (H' : Hp), H dx = none → dx ≠ a → H' a = some (exo a C (some dx)) → H' dx = some (exd dx [(f, y)]) → (∀ b, b ≠ a → b ≠ dx → H' b = H b) → Q .non H'
/-- of two -/
def spI2 (K : PySem.W.Frag) (C : Addr) (f g : Str) : Sp := fun vs H Q _ => ∃ (a : Addr) (y z : V), vs = [.ref a, y, z] ∧ H a = some (exo a C none) ∧ ∀ (dx : Addr) (H' : Hp), H dx = none → dx ≠ a → H' a = some (exo a C (some dx)) → H' dx = some (exd dx [(g, z), (f, y)]) → (∀ b, b ≠ a → b ≠ dx → H' b = H b) → Q .non H'
/-- an exception of the class at C is made of vs -/
def MkSp (C : Addr) (sp : Sp) (vs : List V) (H1 : Hp) (Q : VK) : Prop := vs.length ≤ 1000 ∧ ∀ a, H1 a = none → sp (.ref a :: vs) (upd H1 a (exo a C none)) (fun v H2 => v = .non ∧ Q (.ref a) H2) (fun _ _ _ => False)
def MkSpN (C : Addr) (n : Nat) (sp : Sp) (gV : List V → List V → List V) (zs : List V) (H1 : Hp) (Q : VK) : Prop := zs.length = n ∧ ∀ a, H1 a = none → sp (gV [.ref a] zs) (upd H1 a (exo a C none)) (fun v H2 => v = .non ∧ Q (.ref a) H2) (fun _ _ _ => False)
theorem rd_mkV {ta : TA} {sp : Sp} (h : ta σ H fun vs H1 => MkSp C sp vs H1 Q) : tMkV C sp ta σ H Q := h
theorem rd_mkN {n : Nat} {sp : Sp} {gV : List V → List V → List V} {tk : TA} (h : tk σ H fun zs H1 => MkSpN C n sp gV zs H1 Q) : tMkN C n sp gV tk σ H Q := h
theorem same_made {H H' : Hp} {a dx : Addr} {o : HO} (ha : H a = none) (hd : upd H a o dx = none) (k : ∀ b, b ≠ a → b ≠ dx → H' b = upd H a o b) : Same H H' := fun b u e => by
  have n1 : b ≠ a := ne_of_none e ha
  have n2 : b ≠ dx := fun z => by
    rw [z] at e
    rw [z] at n1
    rw [upd_ne n1, e] at hd
    cases hd
  rw [k b n1 n2, upd_ne n1]
  exact e
/-- behind the one value -/
theorem mk1_at {f : Str} {y : V} (k : ∀ v H', Same H H' → ExV H' C v [(f, y)] → Q v H') : MkSp C (spI1 K C f) [y] H Q :=
  ⟨show 1 ≤ 1000 by decide, fun a ha => ⟨a, y, rfl, upd_same, fun dx H' d1 d2 d3 d4 d5 => ⟨rfl, k _ _ (same_made ha d1 d5) ⟨a, dx, rfl, d3, d4⟩⟩⟩⟩
theorem mk2_at {f g : Str} {y z : V} (k : ∀ v H', Same H H' → ExV H' C v [(g, z), (f, y)] → Q v H') : MkSp C (spI2 K C f g) [y, z] H Q :=
  ⟨show 2 ≤ 1000 by decide, fun a ha => ⟨a, y, z, rfl, upd_same, fun dx H' d1 d2 d3 d4 d5 => ⟨rfl, k _ _ (same_made ha d1 d5) ⟨a, dx, rfl, d3, d4⟩⟩⟩⟩
theorem mkn1_at {f : Str} {y : V} (k : ∀ v H', Same H H' → ExV H' C v [(f, y)] → Q v H') : MkSpN C 1 (spI1 K C f) (fun us ws => us ++ ws) [y] H Q := ⟨rfl, (mk1_at (K := K) k).2⟩
theorem mkn2_at {f g : Str} {y z : V} (k : ∀ v H', Same H H' → ExV H' C v [(g, z), (f, y)] → Q v H') : MkSpN C 2 (spI2 K C f g) (fun us ws => us ++ ws.reverse) [z, y] H Q := ⟨rfl, (mk2_at (K := K) k).2⟩
end
end EE

/-! Own layer: flat data, more readings. -/
namespace EE
open PySem PySem.Spec PyProof.Rows L2
theorem gone_of {H H' : Hp} {p : Addr} (s : Same H H') (h : H' p = none) : H p = none := by
  cases q : H p with
  | none => rfl
  | some o =>
    rw [s _ _ q] at h
    cases h
/-! ### flat data: a scalar, or a list, a tuple, a dict of scalars -/
inductive Sc : V → PyData → Prop
  | non : Sc .non .none
  | bl (b : Bool) : Sc (.bl b) (.bool b)
  | int (i : Int) : Sc (.int i) (.int i)
  | str (x : Str) : Sc (.str x) (.str x)
inductive Fl (H : Hp) : V → PyData → Prop
  | sc {v : V} {d : PyData} (h : Sc v d) : Fl H v d
  | lst {a : Addr} {xs : List V} {ds : List PyData} (h : H a = some (.lst xs)) (s : Paired Sc xs ds) : Fl H (.ref a) (.list ds)
  | tup {a : Addr} {xs : List V} {ds : List PyData} (h : H a = some (.tup xs)) (s : Paired Sc xs ds) : Fl H (.ref a) (.tuple ds)
  | dK {a : Addr} {kvs : List (Key × V)} {ds : List PyData} (h : H a = some (.dK kvs)) (s : Paired Sc (kvs.map (·.2)) ds) : Fl H (.ref a) (.dict (List.zip (kvs.map fun p => keyD p.1) ds))
theorem Fl.keep {H H' : Hp} {v : V} {d : PyData} (h : Fl H v d) (s : Same H H') : Fl H' v d := by
  cases h with
  | sc h => exact .sc h
  | lst h t => exact .lst (s _ _ h) t
  | tup h t => exact .tup (s _ _ h) t
  | dK h t => exact .dK (s _ _ h) t
theorem Fl.but {H H' : Hp} {p : Addr} {v : V} {d : PyData} (h : Fl H v d) (n : offV p v) (s : But p H H') : Fl H' v d := by
  cases h with
  | sc h => exact .sc h
  | lst h t => exact .lst (s _ _ n h) t
  | tup h t => exact .tup (s _ _ n h) t
  | dK h t => exact .dK (s _ _ n h) t
theorem Sc.dq {K : PySem.W.Frag} {H : Hp} {v : V} {d : PyData} (h : Sc v d) : Dq K H v d := by
  cases h with
  | non => exact .non
  | bl b => exact .bl b
  | int i => exact .int i
  | str x => exact .str x
theorem scs_dq {K : PySem.W.Frag} {H : Hp} {vs : List V} {ds : List PyData} (h : Paired Sc vs ds) : DqAll K H vs ds := by
  induction h with
  | nil => exact .nil
  | cons h _ ih => exact .cons h.dq ih
theorem Fl.dq {K : PySem.W.Frag} {H : Hp} {v : V} {d : PyData} (h : Fl H v d) : Dq K H v d := by
  cases h with
  | sc h => exact h.dq
  | lst h s => exact .lst (sqL_of h) (scs_dq s)
  | tup h s => exact .tup (sqT_of h) (scs_dq s)
  | dK h s => exact .dK h (scs_dq s)
section
variable {K : PySem.W.Frag} {σ : L2.St} {H : Hp} {Q : VK}
/-- what `self.f = e` asks of its two values -/
def StAt (K : PySem.W.Frag) (f : Str) (y x : V) (D : Ends) (σ : L2.St) (H2 : Hp) : Prop := ∃ a C : Addr, x = .ref a ∧ ExK K C ∧ PySem.W.findIn K (.ref C) f = some none ∧
  ((H2 a = some (exo a C none) ∧ ∀ dx H', H2 dx = none → dx ≠ a → H' a = some (exo a C (some dx)) → H' dx = some (exd dx [(f, y)]) → (∀ b, b ≠ a → b ≠ dx → H' b = H2 b) → D.nx σ H') ∨
    ∃ (dx : Addr) (fs : List (Str × V)), H2 a = some (exo a C (some dx)) ∧ H2 dx = some (exd dx fs) ∧ fs.length ≤ 900 ∧ D.nx σ (upd H2 dx (exd dx ((f, y) :: fs))))
theorem rd_stx {f : Str} {to te : TE} {D : Ends} (h : te σ H fun y H1 => to σ H1 fun x H2 => StAt K f y x D σ H2) : tStX K f to te D σ H := h
theorem rd_par {i j : Nat} {ta : TA} {D : Ends} (h : ta σ H fun vs H1 => ∃ v w, vs = [v, w] ∧ D.nx ((σ.set i (some v)).set j (some w)) H1) : tPar i j ta D σ H := h
theorem rd_exP {v w : V} {P : V → V → Prop} (h : P v w) : ∃ a b, [v, w] = [a, b] ∧ P a b := ⟨v, w, rfl, h⟩
theorem rd_inT {x : V} {p : Addr} {xs : List V} (h : H p = some (.tup xs)) (f1 : flatV x = true) (f2 : xs.all flatV = true) (q : Q (.bl (inV x xs)) H) : rIn K false x (.ref p) H Q := ⟨p, xs, rfl, .inr (sqT_of h), f1, f2, q⟩
theorem rd_neB {b c : Bool} (q : Q (.bl (!decide (b = c))) H) : rNe (.bl b) (.bl c) H Q := ⟨rfl, by
  have e : decide (V.bl b = V.bl c) = decide (b = c) := by simp
  rw [e]; exact q⟩
theorem rd_gtup {n : Nat} {t : TGs} {a : Addr} {xs : List V} {Q : L2.St → Hp → Prop} (h : H a = some (.tup xs)) (hl : xs.length = n) (q : t xs σ H Q) : gTup K n t (.ref a) σ H Q := ⟨a, xs, rfl, sqT_of h, hl, q⟩
theorem rd_gcons {t : TG} {u : TGs} {v : V} {r : List V} {Q : L2.St → Hp → Prop} (h : t v σ H fun σ' H' => u r σ' H' Q) : gCons t u (v :: r) σ H Q := ⟨v, r, rfl, h⟩
theorem rd_gnil {Q : L2.St → Hp → Prop} (h : Q σ H) : gNil [] σ H Q := ⟨rfl, h⟩
theorem rd_app {l : Addr} {xs : List V} {y : V} (h : H l = some (.lst xs)) (hl : xs.length ≤ 1000) (q : ∀ H1, But l H H1 → H1 l = some (.lst (xs ++ [y])) → Q .non H1) : rAppend (.ref l) [y] H Q := ⟨l, xs, y, rfl, rfl, h, small1000 hl, q _ but_upd upd_same⟩
theorem rd_reprQ {a : Addr} {d : PyData} (h : Dq K H (.ref a) d) (h1 : d.showable = true) (h3 : d.depth ≤ 60) (h4 : d.shown.length ≤ sizeLine) (q : Q (.str d.shown) H) : rReprQ K [.ref a] H Q := ⟨a, d, rfl, h, h1, h3, h4, q⟩
end
theorem inV_int {i : Int} : ∀ {ns : List Int}, inV (.int i) (ns.map V.int) = decide (i ∈ ns)
  | [] => rfl
  | n :: ns => by
    have e : inV (.int i) ((n :: ns).map V.int) = ((n == i) || inV (.int i) (ns.map V.int)) := rfl
    rw [e, inV_int (ns := ns)]
    by_cases h : n = i
    · subst h; simp
    · have h2 : ¬ i = n := fun z => h z.symm
      simp [h, h2]
theorem rd_inI {K : PySem.W.Frag} {H : Hp} {Q : VK} {i : Int} {p : Addr} (ns : List Int) (h : H p = some (.tup (ns.map V.int))) (q : Q (.bl (decide (i ∈ ns))) H) : rIn K false (.int i) (.ref p) H Q := by
  refine rd_inT h rfl ?_ ?_
  · clear h q
    induction ns with
    | nil => rfl
    | cons n ns ih => exact ih
  · rw [inV_int]
    exact q
/-- a field is read -/
def XvAt (K : PySem.W.Frag) (f : Str) (x : V) (H1 : Hp) (Q : VK) : Prop := ∃ (a dx C : Addr) (fs : List (Str × V)) (v : V), x = .ref a ∧ H1 a = some (exo a C (some dx)) ∧ H1 dx = some (exd dx fs) ∧ ExK K C ∧ PySem.W.findIn K (.ref C) f = some none ∧ fs.lookup f = some v ∧ Q v H1
theorem rd_xvA {K : PySem.W.Frag} {σ : L2.St} {H : Hp} {Q : VK} {f : Str} {te : TE} (h : te σ H fun x H1 => XvAt K f x H1 Q) : tXv K f te σ H Q := h
theorem xv_at {K : PySem.W.Frag} {f : Str} {x v : V} {H : Hp} {Q : VK} {C : Addr} {fs : List (Str × V)} (h : ExV H C x fs) (T : ExK K C) (n : PySem.W.findIn K (.ref C) f = some none) (l : fs.lookup f = some v) (q : Q v H) : XvAt K f x H Q := by
  obtain ⟨a, dx, e, e1, e2⟩ := h
  exact ⟨a, dx, C, fs, v, e, e1, e2, T, n, l, q⟩
/-- an exception of the class at C, of fields or of none -/
def ExAny (H : Hp) (C : Addr) (v : V) : Prop := ExN H C v ∨ ∃ fs, ExV H C v fs
theorem ExAny.keep {H H' : Hp} {C : Addr} {v : V} (h : ExAny H C v) (s : Same H H') : ExAny H' C v := h.imp (fun z => z.keep s) fun ⟨fs, z⟩ => ⟨fs, z.keep s⟩
theorem isx_at {K : PySem.W.Frag} {H : Hp} {Q : VK} {C D : Addr} {x : V} {b : Bool} (h : ExAny H C x) (T : ExK K C) (e : PySem.W.kitOne K (.ref C) (.ref D) = some b) (q : Q (.bl b) H) : rIsX K [x, .ref D] H Q := by
  rcases h with h | ⟨fs, h⟩
  · exact rd_isX0 h (.own D) T e q
  · exact rd_isX h (.own D) T e q
theorem isx_ty {K : PySem.W.Frag} {H : Hp} {Q : VK} {C : Addr} {x : V} {n : String} {b : Bool} (h : ExAny H C x) (T : ExK K C) (e : PySem.W.kitOne K (.ref C) (.type n) = some b) (q : Q (.bl b) H) : rIsX K [x, .ty n] H Q := by
  rcases h with h | ⟨fs, h⟩
  · exact rd_isX0 h (.ty n) T e q
  · exact rd_isX h (.ty n) T e q
theorem atI_nat {xs : List V} {i : Nat} {v : V} (h : xs[i]? = some v) : atI xs (0 + (i : Int)) = some v := by
  have hi := (List.getElem?_eq_some_iff.mp h).1
  unfold atI ixN
  rw [if_pos (by omega), if_pos (by omega), Option.bind_some, show (0 + (i : Int)).toNat = i by omega]
  exact h
theorem ix_listK {X : Cx} {K : PySem.W.Frag} (e : X.K = K) : IxR X (rIxL K) := by
  subst e
  exact ix_list
/-- both ways of a conditional expression give what R tells, and the walk goes on once -/
theorem rd_ifJ {σ : L2.St} {H : Hp} {Q : VK} {b : Bool} {ta tb : TE} (R : V → Hp → Prop) (h1 : ∀ Q1 : VK, (∀ v H', R v H' → Q1 v H') → b = true → ta σ H Q1) (h2 : ∀ Q1 : VK, (∀ v H', R v H' → Q1 v H') → b = false → tb σ H Q1) (hq : ∀ v H', R v H' → Q v H') : if b = true then ta σ H Q else tb σ H Q :=
  rd_ite (h1 Q hq) (h2 Q hq)
/-! ### error classes as the law's texts need them -/
structure Err (P : Program) (w : World) (K : PySem.W.Frag) (mg : Str → Option Value) (base : Heap) (x : Str) (C fI : Addr) (fd : FuncData) (ps : List Str) (sp : Sp) : Prop where
  T : ExK K C
  g : mg x = some (.ref C)
  iC : PySem.W.findIn K (.ref C) "__init__" = some (some (.ref fI))
  tI : PySem.W.typeIn K (.ref fI) = some (.type "function")
  G : FnOk P w K mg base CX0 1 fI fd ("self" :: ps) sp
  b : Binds K fd ("self" :: ps) []
  n : ∀ f ∈ ps, PySem.W.findIn K (.ref C) f = some none
structure Err0 (K : PySem.W.Frag) (mg : Str → Option Value) (x : Str) (C : Addr) (bm : List Value) (newId : String) : Prop where
  T : ExK K C
  g : mg x = some (.ref C)
  q : PySem.W.excIn K C bm newId = true
  k : PySem.W.keepIn K (.ref C) = true
/-- one keyword behind self -/
theorem kbn_self {K : PySem.W.Frag} {x qual : Str} {st : Stmt} {f : Addr} {fd : FuncData} {p : Str} (F : Fun K x qual st f fd)
    (h : ∀ (kV doc pm : Value) (an : Option Addr) (cdv ct : Value) (u v : Value), bindArgs (PySem.W.fnOf x qual (defArgs st) (defBody st) (defScope st) .none kV doc pm an cdv ct) ⟨[v], [(p, u)]⟩ = pure [(("self" : Str), v), (p, u)]) :
    KBn K fd ["self", p] 1 [p] (fun us ws => us ++ ws) (fun us ws => us ++ ws) := by
  obtain ⟨oc, od, kV, doc, pm, an, cdv, ct, osl, rfl, lk, hcd⟩ := F.ex
  refine ⟨fun s us ws _ l1 l2 => ?_, fun r1 r2 => r1.append r2⟩
  match us, ws, l1, l2 with
  | [v], [w], _, _ => exact .of_eq (h kV doc pm an cdv ct w v)
theorem vals_rev : ∀ {xs : List V} {us : List Value}, Vals xs us → Vals xs.reverse us.reverse
  | _, _, .nil => .nil
  | _, _, .cons r t => by
    rw [List.reverse_cons, List.reverse_cons]
    exact (vals_rev t).append (.cons r .nil)
/-- two keywords behind self, the other way round -/
theorem kbn_self2 {K : PySem.W.Frag} {x qual : Str} {st : Stmt} {f : Addr} {fd : FuncData} {p q : Str} (F : Fun K x qual st f fd)
    (h : ∀ (kV doc pm : Value) (an : Option Addr) (cdv ct : Value) (u v w : Value), bindArgs (PySem.W.fnOf x qual (defArgs st) (defBody st) (defScope st) .none kV doc pm an cdv ct) ⟨[w], [(q, u), (p, v)]⟩ = pure [(("self" : Str), w), (p, v), (q, u)]) :
    KBn K fd ["self", p, q] 1 [q, p] (fun us ws => us ++ ws.reverse) (fun us ws => us ++ ws.reverse) := by
  obtain ⟨oc, od, kV, doc, pm, an, cdv, ct, osl, rfl, lk, hcd⟩ := F.ex
  refine ⟨fun s us ws _ l1 l2 => ?_, fun r1 r2 => r1.append (vals_rev r2)⟩
  match us, ws, l1, l2 with
  | [w], [u, v], _, _ => exact .of_eq (h kV doc pm an cdv ct u v w)
/-! ### tables of subclass tests -/
theorem tab_at {K : PySem.W.Frag} {L : List Addr} {c : Value} {T : List (Option Bool)} (h : L.map (fun i => PySem.W.kitOne K (.ref i) c) = T) {i : Nat} (hi : i < L.length) : PySem.W.kitOne K (.ref (L.getD i 0)) c = T.getD i none := by
  rw [← h, List.getD_eq_getElem?_getD, List.getD_eq_getElem?_getD, List.getElem?_map, List.getElem?_eq_getElem hi]
  rfl
end EE

/-! Own layer: except (A, B) as e, the caught exception kept as a value. -/
namespace EE
open PySem PySem.Spec PyProof.Rows L2
/-- at e: an exception that has flown, its class and its dict alone told -/
def exw (e : Addr) (cls : Value) (d : Option Addr) : HO := .ext fun h => ∃ (o : Obj) (vs : Array Value), h.get? e = some o ∧ o.cls = cls ∧ o.dict = d ∧ o.data = .fields vs
theorem exw_ok {P : Program} {w : World} {H : Hp} {h : Heap} {e : Addr} {cls : Value} {d : Option Addr} {o : Obj} {vs : Array Value} (he : h.get? e = some o) (z : Zc cls d o) (hd : o.data = .fields vs) : ObjOk P w H h e (exw e cls d) :=
  ⟨⟨o, vs, he, z.1, z.2, hd⟩, ⟨o, he⟩, fun h1 h2 ⟨o', vs', q, r⟩ k => ⟨o', vs', k _ q, r⟩⟩
theorem exw_at {P : Program} {w : World} {H : Hp} {h : Heap} {e : Addr} {cls : Value} {d : Option Addr} (hok : HOk P w H h) (he : H e = some (exw e cls d)) : ∃ (o : Obj) (vs : Array Value), h.get? e = some o ∧ o.cls = cls ∧ o.dict = d ∧ o.data = .fields vs := by
  have x : ObjOk P w H h e (.ext fun h => ∃ (o : Obj) (vs : Array Value), h.get? e = some o ∧ o.cls = cls ∧ o.dict = d ∧ o.data = .fields vs) := hok e _ he
  exact x.1
section
variable {X : Cx} {pins : List (Addr × Obj)} {σ : L2.St} {H : Hp} {s : Shared}
/-- an object of ours that stands there untracked is tracked from now on -/
theorem _root_.L2.Inv.adopt {a : Addr} {o : Obj} {ob : HO} (I : Inv X pins σ H s) (ha : s.heap.get? a = some o) (nc : ∀ v, o.data ≠ .cell v) (na : H a = none) (n0 : X.s_0.heap.get? a = none) (nL : a ≠ X.env.locals) (nP : ∀ p ∈ X.pn ++ pins, p.1 ≠ a)
    (new : ObjOk X.prog X.w (upd H a ob) s.heap a ob) : Inv X pins σ (upd H a ob) s := by
  have n0' : ∀ b u, X.s_0.heap.get? b = some u → b ≠ a := fun b u e z => by
    rw [z, n0] at e
    cases e
  have nH : ∀ b u, H b = some u → b ≠ a := fun b u e => ne_of_none e na
  refine ⟨I.ok, I.os, I.bare, ⟨I.base.keep, I.base.slot, fun b u e n hx => ?_, I.base.there, fun b xs e => ?_, fun b u v e => ?_, fun b ps e => ?_⟩, I.loc, I.cell, ?_, fun x c e => ?_, fun p hp => ?_, fun b u e => ?_, I.len⟩
  · rw [upd_ne (n0' b u e)]
    exact I.base.free b u e n hx
  · have q := I.base.tups b xs e
    rw [upd_ne (nH _ _ q)]
    exact q
  · have q := I.base.frzs b u v e
    rw [upd_ne (nH _ _ q)]
    exact q
  · obtain ⟨m, q⟩ := I.base.tbls b ps e
    exact ⟨m, by rw [upd_ne (nH _ _ q)]; exact q⟩
  · rw [upd_ne (Ne.symm nL)]
    exact I.free
  · have ne : c ≠ a := fun z => by
      obtain ⟨v, o', h1, h2⟩ := I.cell x c e
      rw [z, ha] at h1
      cases h1
      exact nc _ h2
    rw [upd_ne ne]
    exact I.freeC x c e
  · obtain ⟨q1, q2, q3⟩ := I.pin p hp
    exact ⟨q1, by rw [upd_ne (nP p hp)]; exact q2, q3⟩
  · by_cases hb : b = a
    · subst hb
      rw [upd_same] at e
      cases e
      exact new
    · rw [upd_ne hb] at e
      refine (I.hok b u e).stay (fun c v _ z => z) (fun c z => ?_) fun c xs z => ?_
      · rw [upd_ne (nH _ _ z)]
        exact z
      · rw [upd_ne (nH _ _ z)]
        exact z
theorem fly_keeps {B h h' : Heap} {l : List Env} {e : Addr} {Z : Obj → Prop} (x : HandSPX.FlyingZ B l e Z h) (k : ∀ b o, h.get? b = some o → h'.get? b = some o) : HandSPX.FlyingZ B l e Z h' := by
  obtain ⟨q1, q2, q3, oe, vs, T, oT, ts, h1, h2, h3, h4, h5, h6, h7, h8, h9⟩ := x
  exact ⟨fun b o z => k _ _ (q1 b o z), q2, Heap.FunFrames.of_keeps (fun b o z _ => ⟨o, k b o z, rfl⟩) q3, oe, vs, T, oT, ts, k _ _ h1, h2, h3, h4, h5, h6, k _ _ h7, h8, h9⟩
end
/-- a global name that means the class -/
def NameIs (X : Cx) (x : Str) (c : Value) : Prop := Names X x c
/-- what `except (A, B) as n: suite` wishes of an exception of the body: slot i is n's; behind the suite the exception is a value at a -/
def wVal (K : PySem.W.Frag) (c1 c2 : Value) (i : Nat) (ts : Addr → Value → Option Addr → TS) (Wout : WX) (D : Ends) : WX := fun cls d σ H =>
  ∃ b, PySem.W.exmAny K cls [c1, c2] = some b ∧ (b = true → ∀ a, H a = none → ts a cls d
    { nx := fun σ' H' => H' a = none → D.nx (σ'.set i none) (upd H' a (exw a cls d)), rt := fun v H' => H' a = none → D.rt v (upd H' a (exw a cls d)), bk := fun σ' H' => H' a = none → D.bk (σ'.set i none) (upd H' a (exw a cls d)), ct := fun σ' H' => H' a = none → D.ct (σ'.set i none) (upd H' a (exw a cls d)) } (σ.set i (some (.ref a))) H) ∧
    (b = false → Wout cls d σ H)
section
variable {X : Cx} {x1 x2 n : Str} {c1 c2 : Value} {i kk : Nat} {body suite : List Stmt} {b0 : Stmt} {p1 p2 pt pos pos' : Pos} {tb : WX → TS} {ts : Addr → Value → Option Addr → TS} {Wout : WX}
theorem ps_tryV (hs : X.stack = X.env :: X.outer) (hf : X.env.frame = some X.env.locals) (hex : X.ex = []) (hN : X.N.Nodup) (hi : X.N[i]? = some n) (hln : X.env.kindOf n = some .local) (hc1 : Names X x1 c1) (hc2 : Names X x2 c2) (tk : Takes X Wout)
    (hb : ∀ (W : WX) (pn : List (Addr × Obj)) (xe : Value → Shared → Prop), Takes (X.tr pn xe) W → PassesOwn (model X.prog X.w) X.A X.env xe → PSs (X.tr pn xe) body (tb W))
    (hsu : ∀ (a : Addr) (oe : Obj) (cls : Value) (d : Option Addr) (pn : List (Addr × Obj)), Zc cls d oe → (∃ vs, oe.data = .fields vs) → PSs (X.suite a ((a, oe) :: pn)) (b0 :: suite) (ts a cls d)) :
    PS X (.Try body [.ExceptHandler (some (.Tuple [.Name x1 p1, .Name x2 p2] kk pt)) (some n) (b0 :: suite) pos'] [] [] pos) (fun D σ H => tb (wVal X.K c1 c2 i ts Wout D) D σ H) := by
  refine ⟨fun pins s σ H D I h => ?_⟩
  have ok := I.ok
  have hfr : X.A.frames = some (X.env :: X.outer) := by rw [ok.frames, hs]
  have hloc : Loc X.env.scope n := .inl hln
  refine wpAny_Try_except ?_
  refine wpAny_mono ((hb (wVal X.K c1 c2 i ts Wout D) (X.pn ++ pins) (fun e z1 => wpAny (model X.prog X.w) X.A (noteFrame e X.env) (fun _ z2 => wpAny (model X.prog X.w) X.A (setFlight e none) (fun _ z3 =>
    wpAny (model X.prog X.w) X.A (handleBy e X.env [.ExceptHandler (some (.Tuple [.Name x1 p1, .Name x2 p2] kk pt)) (some n) (b0 :: suite) pos']) (SP X pins D) X.xe z3) X.xe z2) X.xe z1) (fun u s' xx => ?_) PassesOwn.looking).run [] s σ H D (I.toTry _) h) (fun f s1 hsp => ?_) (fun e s1 he => he)
  · obtain ⟨a, B, sI, pins', σ', H', cls, d, rfl, J', nb, up, sky, na, os, ag, b, hb1, hyes, hno⟩ := xx
    have J : Inv X pins σ' H' sI := J'.ofTry ok
    have sky' : Sky B (X.env :: X.outer) a (Zc cls d) X.env.locals s'.heap := by rw [← hs]; exact sky
    show wpAny (model X.prog X.w) X.A (noteFrame (.ref a) X.env) _ _ _
    refine Sky.land Zc.steady hfr hf sky' fun h3 fl3 up3 => ?_
    have J3 : Inv X pins σ' H' { s' with heap := h3 } := J.landed nb fl3.1 (up.trans up3) os ag
    obtain ⟨oe3, vs3, he3, hz3, hd3⟩ := fl3.there
    have notFr : ∀ {h : Heap} {o : Obj} {vs : Array Value}, h.FunFrames B (X.env :: X.outer) → h.get? a = some o → o.data = .fields vs → a ∉ frs (X.env :: X.outer) := fun {h o vs} ff e dd hm => by
      obtain ⟨_, o', e', hnf⟩ := ff.mem hm
      rw [e] at e'; cases e'
      exact hnf _ dd
    have nfr := notFr fl3.2.2.1 he3 hd3
    have nL : a ≠ X.env.locals := fun z => nfr (List.mem_filterMap.mpr ⟨X.env, List.mem_cons_self, by rw [hf, z]⟩)
    have nF : a ∉ X.fs := fun hm => by
      obtain ⟨e, he, q⟩ := List.mem_filterMap.mp hm
      exact nfr (List.mem_filterMap.mpr ⟨e, List.mem_cons_of_mem _ he, q⟩)
    have nI : ∀ b o, sI.heap.get? b = some o → b ≠ a := fun b o e z => by
      rw [z] at e
      have q := nb a o e (by rw [hs]; exact nfr)
      rw [fl3.2.1] at q
      cases q
    have n0 : X.s_0.heap.get? a = none := by
      cases q : X.s_0.heap.get? a with
      | none => rfl
      | some o =>
        obtain ⟨o', z⟩ := J.base.there a o q (by rw [hex]; exact fun z => nomatch z)
        exact absurd rfl (nI a o' z)
    have nP : ∀ p ∈ X.pn ++ pins, p.1 ≠ a := fun p hp => nI _ _ (J.pin p hp).1
    have S3 := J3.suite he3 hd3 na nL nF
    refine wpAny_handleBy_cons (codeAny_handlers_test ?_) (by intro q; cases q)
    have LT : PySem.W.Looks (model X.prog X.w) h3 (typeOf (.ref a)) cls := fun A Q E s k q => wpAny_typeOf_ref (k _ _ he3) (by rw [hz3.1]; exact q)
    have nm : ∀ {x : Str} {c : Value} {p : Pos}, Names X x c → ∀ {Q : Value → Shared → Prop} {E : Value → Shared → Prop}, Q c { s' with heap := h3 } → wpAny (model X.prog X.w) (X.A.mark (some (.ref a))) (eval (.Name x p) X.env) Q E { s' with heap := h3 } := fun {x c p} hc {Q E} q => by
      obtain ⟨hg, hdbg, hm | ⟨hm, hv, hnn⟩⟩ := hc
      · exact ld_glob (X := X.suite a ((a, oe3) :: (X.pn ++ pins))) S3 hg hm q hdbg
      · exact ld_blt (X := X.suite a ((a, oe3) :: (X.pn ++ pins))) S3 hg hm hv q hnn hdbg
    refine wpAny_Tuple ?_
    refine wpAny_items_cons (nm hc1 ?_)
    refine wpAny_items_cons (nm hc2 ?_)
    refine wpAny_items_nil ⟨by size_fits, ?_⟩
    have kp : ∀ q o, h3.get? q = some o → (h3.push { cls := .type "tuple", data := .seq [c1, c2].toArray }).get? q = some o := fun _ _ z => Heap.get?_push_of_some _ z
    have fl3' := fly_keeps fl3 kp
    have up3' : h3.UpToSlots (h3.push { cls := .type "tuple", data := .seq [c1, c2].toArray }) := Heap.UpToSlots.of_keeps kp
    refine (PySem.W.exm_tup2 (M := model X.prog X.w) (J3.kIn.keeps kp) (LT.keeps kp) (Heap.get?_push_size h3 rfl) hb1).here ?_
    cases b with
    | true =>
      refine codeAny_handlers_suite_as ?_
      refine HandSPX.lands_againZ fl3' fun h4 fl4 up4 => ?_
      have J4 : Inv X pins σ' H' { s' with heap := h4 } := J.landed nb fl4.1 (((up.trans up3).trans up3').trans up4) os ag
      obtain ⟨oe4, vs4, he4, hz4, hd4⟩ := fl4.there
      have S4 := J4.suite he4 hd4 na nL nF
      refine store_ok (X := X.suite a ((a, oe4) :: (X.pn ++ pins))) (v := .ref a) S4 hN hi hloc rfl (fun s5 S5 => ?_) (.inr hln)
      refine wpAny_mono ((hsu a oe4 cls d (X.pn ++ pins) hz4 ⟨_, hd4⟩).run [] s5 _ H' _ S5 (hyes rfl a na)) (fun f s6 hsp => ?_) (fun _ _ z => False.elim z)
      have end_ : ∀ {σ6 : L2.St} {H6 : Hp} {Q : Shared → Prop}, Inv (X.suite a ((a, oe4) :: (X.pn ++ pins))) [] σ6 H6 s6 → (∀ s7, H6 a = none → Inv X pins (σ6.set i none) (upd H6 a (exw a cls d)) s7 → Q s7) →
          wpAny (model X.prog X.w) X.A (do bindName X.env n .none; unbindBehindTheSuite X.env n pos') (fun _ s7 => Q s7) X.xe s6 := fun {σ6 H6 Q} S6 hq => by
        obtain ⟨q1, q2, _⟩ := S6.pin (a, oe4) (List.mem_append_left _ List.mem_cons_self)
        have J6 := (S6.unsuite ok).adopt q1 (fun v z => by rw [hd4] at z; cases z) q2 n0 nL nP (exw_ok (P := X.prog) (w := X.w) q1 hz4 hd4)
        exact gone_ok J6 hN hi hln fun s7 J7 => hq s7 q2 J7
      cases f with
      | next =>
        obtain ⟨σ6, H6, S6, q6⟩ := hsp
        exact end_ S6 fun s7 na6 J7 => ⟨_, _, J7, q6 na6⟩
      | brk =>
        obtain ⟨σ6, H6, S6, q6⟩ := hsp
        exact end_ S6 fun s7 na6 J7 => ⟨_, _, J7, q6 na6⟩
      | cont =>
        obtain ⟨σ6, H6, S6, q6⟩ := hsp
        exact end_ S6 fun s7 na6 J7 => ⟨_, _, J7, q6 na6⟩
      | ret u =>
        obtain ⟨v6, σ6, H6, S6, r6, q6⟩ := hsp
        exact end_ S6 fun s7 na6 J7 => ⟨_, _, _, J7, r6, q6 na6⟩
    | false =>
      show wpAny _ X.A (handleBy (.ref a) X.env []) _ _ _
      refine wpAny_handleBy_nil ?_
      obtain ⟨k1, k2, k3, oe, vs, T, oT, ts', he, hz, hd, h1, hr⟩ := id fl3'
      unfold PySem.passOn
      refine wpAny_bind (wpAny_field he hd h1 ?_)
      rw [if_neg (show ¬ ((Value.ref T == Value.none) = true) from by simp)]
      have fin : wpAny (model X.prog X.w) X.A (setFlight (.ref a) X.env.frame) (fun _ z4 => wpAny (model X.prog X.w) X.A (throw (.ref a) : Sem Flow) (SP X pins D) X.xe z4) X.xe { s' with heap := h3.push { cls := .type "tuple", data := .seq [c1, c2].toArray } } := by
        rw [hf]
        refine HandSPX.setFlight_upZ fl3' fun h4 hh4 up4 => wpAny_throw (tk _ _ ?_)
        exact ⟨a, B, sI, pins, σ', H', cls, d, rfl, J, nb, ((up.trans up3).trans up3').trans up4, .inr (.inr (by rw [hs]; exact hh4)), na, os, ag, hno rfl⟩
      first
        | exact wpAny_bind (wpAny_pure (wpAny_bind fin))
        | exact wpAny_bind fin
  · cases f with
    | next =>
      obtain ⟨σ', H', J', q⟩ := hsp
      exact wpAny_execs_nil ⟨σ', H', J'.ofTry ok, q⟩
    | brk =>
      obtain ⟨σ', H', J', q⟩ := hsp
      exact ⟨σ', H', J'.ofTry ok, q⟩
    | cont =>
      obtain ⟨σ', H', J', q⟩ := hsp
      exact ⟨σ', H', J'.ofTry ok, q⟩
    | ret u =>
      obtain ⟨v, σ', H', J', r, q⟩ := hsp
      exact ⟨v, σ', H', J'.ofTry ok, r, q⟩
end
end EE
namespace EE
open PySem PySem.Spec PyProof.Rows L2
/-! ### raise C(e, ..), C an own class with an __init__ of its own -/
def MkR (C : Addr) (sp : Sp) (vs : List V) (H1 : Hp) (Q : XK) : Prop := vs.length ≤ 1000 ∧ ∀ a, H1 a = none → sp (.ref a :: vs) (upd H1 a (exo a C none))
  (fun v H2 => v = .non ∧ ∃ (d : Addr) (fs : List (Str × V)), H2 a = some (exo a C (some d)) ∧ H2 d = some (exd d fs) ∧ H1 d = none ∧ Q (.ref C) (some d) (upd (L2.del H2 a) d (.xd fs))) (fun _ _ _ => False)
def tMkR (C : Addr) (sp : Sp) (ta : TA) : L2.St → Hp → XK → Prop := fun σ H Q => ta σ H fun vs H1 => MkR C sp vs H1 Q
theorem rd_mkR {C : Addr} {sp : Sp} {ta : TA} {σ : L2.St} {H : Hp} {Q : XK} (h : ta σ H fun vs H1 => MkR C sp vs H1 Q) : tMkR C sp ta σ H Q := h
section
variable {X : Cx} {CX : CXT} {x : Str} {C fI : Addr} {k : Nat} {fd : FuncData} {ps : List Str} {sp : Sp} {e : Expr} {es : List Expr} {ta : TA} {p pos : Pos}
theorem pmk_x (T : ExK X.K C) (iC : PySem.W.findIn X.K (.ref C) "__init__" = some (some (.ref fI))) (tI : PySem.W.typeIn X.K (.ref fI) = some (.type "function"))
    (FI : FnOk X.prog X.w X.K X.mg X.base CX k fI fd ps sp) (hr : Room (k + 1) X.A) (hb : Binds X.K fd ps []) (hx : Passes CX X (fun _ _ _ => False)) (hg : Gl X x) (hm : X.mg x = some (.ref C)) (ha : PA X (e :: es) ta)
    (ndb : (x == ("__debug__" : Str)) = false := by decide) (hst : starEach (e :: es) X.env = (false, eval e X.env) :: starEach es X.env := by rfl) (plain : (backTo pos (starEach es X.env)).any (·.1) = false := by rfl) :
    PMk X (.Call (.Name x p) (e :: es) [] pos) (tMkR C sp ta) := by
  intro pins s σ H Q I h
  refine wpAny_Call_Name_kw (ld_glob I hg hm ?_ ndb)
  refine PySem.W.callWith_K (h₀ := X.base) I.ok.mod.kin T.kC (thn (ha.run pos pins s σ H _ I h) fun us s1 ⟨vs, H1, I1, r1, hz, q1⟩ => ⟨I1.kIn, ?_⟩) hst plain
  obtain ⟨B, newId, initId, bmB, nm, N, qn, bs, bm, hdct, sn, sub, ab, col, dd, k0, k1, k2, k3, k5, FB, hC, hT⟩ := init_of T I1.kIn
  obtain ⟨hp, gs, dn, tk, os⟩ := s1
  have up : hp.objs.size ≤ hp.objs.size + 1 := Nat.le_succ _
  have kk : ∀ b o, hp.get? b = some o → ((hp.push (PySem.W.kdv_tup us)).push (PySem.HandSPX.excO C hp.objs.size)).get? b = some o := fun b o z => Heap.get?_push_of_some _ (Heap.get?_push_of_some _ z)
  have q2 := q1 (hp.objs.size + 1) (I1.hok.fresh up)
  have I2 := I1.laid (t' := tk) (a := hp.objs.size + 1) (o := exo (hp.objs.size + 1) C none) (h' := (hp.push (PySem.W.kdv_tup us)).push (PySem.HandSPX.excO C hp.objs.size)) kk up (exo_ok (t1 := hp.objs.size) (by heap_get))
  have r2 : Vals (V.ref (hp.objs.size + 1) :: vs) (Value.ref (hp.objs.size + 1) :: us) := .cons rfl r1
  have ln : (Value.ref (hp.objs.size + 1) :: us ++ []).length = ps.length := by rw [List.append_nil, ← r2.length, FI.len _ _ _ _ q2]
  have few : us.length ≤ sizeLine := Nat.le_trans (Nat.le_of_eq r1.length.symm) (Nat.le_trans hz (by decide))
  have bd := hb _ (Value.ref (hp.objs.size + 1) :: us) I2.kIn ln
  rw [List.append_nil] at bd
  refine wpAny_call (PySem.HandSPX.call_own FB hT hC (PySem.W.looks_findIn I1.kIn iC) (fun self => PySem.W.bind_fn I1.kIn self tI) few (codeAny_mono (FI.run _ X.stack _ _ ⟨Value.ref (hp.objs.size + 1) :: us, []⟩ _ _ _ _ (hr.make C us []) (I2.env0.make C us []) bd r2 q2) fun r s' z => ?_))
  match r, z with
  | .error er, z => exact hx pins σ _ _ er s' I2 z
  | .ok (.ret u), ⟨v, H2, os2, bare2, un2, hok2, rv, ev, d, fs, ea, ed, hd1, q3⟩ =>
    subst ev
    obtain ⟨h2, g2, d2, t2, os'⟩ := s'
    exact ⟨rv, mk_end (raises_own T.exC T.tyC) I1 up kk un2 hok2 os2 bare2 ea ed hd1 q3⟩
  | .ok .next, z => exact z.elim
  | .ok .brk, z => exact z.elim
  | .ok .cont, z => exact z.elim
end
theorem same_raised {H1 H' : Hp} {a dx : Addr} {o u : HO} (ha : H1 a = none) (hd : upd H1 a o dx = none) (k : ∀ b, b ≠ a → b ≠ dx → H' b = upd H1 a o b) : Same H1 (upd (L2.del H' a) dx u) := fun b w e => by
  have n1 : b ≠ a := ne_of_none e ha
  have n2 : b ≠ dx := fun z => by
    rw [z] at e n1
    rw [upd_ne n1, e] at hd
    cases hd
  rw [upd_ne n2, del_ne n1, k b n1 n2, upd_ne n1]
  exact e
theorem none_new {H1 : Hp} {a dx : Addr} {o : HO} (hn : dx ≠ a) (hd : upd H1 a o dx = none) : H1 dx = none := by rw [upd_ne hn] at hd; exact hd
section
variable {K : PySem.W.Frag} {C : Addr} {H : Hp} {Q : XK}
theorem raise1_at {f : Str} {y : V} (k : ∀ d H', Same H H' → H d = none → H' d = some (.xd [(f, y)]) → Q (.ref C) (some d) H') : MkR C (spI1 K C f) [y] H Q :=
  ⟨show 1 ≤ 1000 by decide, fun a ha => ⟨a, y, rfl, upd_same, fun dx H' d1 d2 d3 d4 d5 => ⟨rfl, dx, _, d3, d4, none_new d2 d1, k _ _ (same_raised ha d1 d5) (none_new d2 d1) upd_same⟩⟩⟩
theorem raise2_at {f g : Str} {y z : V} (k : ∀ d H', Same H H' → H d = none → H' d = some (.xd [(g, z), (f, y)]) → Q (.ref C) (some d) H') : MkR C (spI2 K C f g) [y, z] H Q :=
  ⟨show 2 ≤ 1000 by decide, fun a ha => ⟨a, y, z, rfl, upd_same, fun dx H' d1 d2 d3 d4 d5 => ⟨rfl, dx, _, d3, d4, none_new d2 d1, k _ _ (same_raised ha d1 d5) (none_new d2 d1) upd_same⟩⟩⟩
end
/-! ### what was caught, read -/
/-- an exception that was caught: its class, its fields -/
def ExW (H : Hp) (C : Addr) (v : V) (fs : List (Str × V)) : Prop := ∃ a dx : Addr, v = .ref a ∧ H a = some (exw a (.ref C) (some dx)) ∧ H dx = some (.xd fs)
theorem ExW.keep {H H' : Hp} {C : Addr} {v : V} {fs : List (Str × V)} (h : ExW H C v fs) (s : Same H H') : ExW H' C v fs := by
  obtain ⟨a, dx, e, e1, e2⟩ := h
  exact ⟨a, dx, e, s _ _ e1, s _ _ e2⟩
def XwAt (K : PySem.W.Frag) (f : Str) (x : V) (H1 : Hp) (Q : VK) : Prop := ∃ (C : Addr) (fs : List (Str × V)) (v : V), ExW H1 C x fs ∧ ExK K C ∧ PySem.W.findIn K (.ref C) f = some none ∧ fs.lookup f = some v ∧ Q v H1
def tXw (K : PySem.W.Frag) (f : Str) (te : TE) : TE := fun σ H Q => te σ H fun x H1 => XwAt K f x H1 Q
def rIsW (K : PySem.W.Frag) : List V → Hp → VK → Prop := fun xs H Q => ∃ (x c : V) (C : Addr) (fs : List (Str × V)) (cv : Value) (b : Bool), xs = [x, c] ∧ ExW H C x fs ∧ ClsV c cv ∧ ExK K C ∧ PySem.W.kitOne K (.ref C) cv = some b ∧ Q (.bl b) H
def rIsWT (K : PySem.W.Frag) : List V → Hp → VK → Prop := fun xs H Q => ∃ (x : V) (tp C : Addr) (cs : List V) (fs : List (Str × V)) (us : List Value) (b : Bool), xs = [x, .ref tp] ∧ ExW H C x fs ∧ H tp = some (.tup cs) ∧ Paired ClsV cs us ∧ ExK K C ∧ PySem.W.kitAny K (.ref C) us = some b ∧ Q (.bl b) H
section
variable {X : Cx} {pins : List (Addr × Obj)} {σ : L2.St} {H : Hp} {s : Shared} {C : Addr} {v : V} {fs : List (Str × V)}
theorem exw_inst (I : Inv X pins σ H s) (h : ExW H C v fs) : ∃ (a : Addr) (o od : Obj) (mA : Str → Option Value), v = .ref a ∧ PySem.W.InstAt s.heap a o C (some od) ∧ (∀ f, RelO (fs.lookup f) (mA f)) ∧ ∀ name, PySem.W.lookIn name od = some (mA name) := by
  obtain ⟨a, dx, e, e1, e2⟩ := h
  obtain ⟨o, vs, ho, hc, hd, hv⟩ := exw_at I.hok e1
  obtain ⟨mA, hns, rel⟩ := (show ObjOk X.prog X.w H s.heap dx (.xd fs) from I.hok dx _ e2)
  obtain ⟨od, hod, look⟩ := lookIn_ns hns
  exact ⟨a, o, od, mA, e, ⟨ho, hc, by unfold PySem.W.notCls; rw [hv], by rw [hd]; exact hod⟩, rel, look⟩
theorem pe_xw {e : Expr} {te : TE} {pos : Pos} {n : Str} (he : PE X e te) (hb : attributeBase e n X.env (eval e X.env) = eval e X.env := by rfl) : PE X (.Attribute e n pos) (tXw X.K n te) := by
  refine ⟨fun pins s σ H Q I h => attr_of hb (thn (he.run pins s σ H _ I h) fun u s1 ⟨x, H1, I1, rx, C, fs, v, hx, T, hno, hl, q⟩ => ?_)⟩
  obtain ⟨a, o, od, mA, rfl, J, rel, look⟩ := exw_inst I1 hx
  obtain rfl : u = Value.ref a := rx
  obtain ⟨u, hu, ru⟩ := RelO.some_of (v := v) (o := mA n) (by rw [← hl]; exact rel n)
  exact HandSPX.exc_get I1.kIn J T.xf.ga T.xf.gg T.xf.exC (PySem.W.findObj_own T.xf.hdC hno rfl (by rw [look, hu])) (handed_of ru) ⟨v, H1, I1.tok _, ru, q⟩
theorem kitx_of {K : PySem.W.Frag} {a C : Addr} {o od : Obj} (T : ExK K C) : PySem.W.KitX K (.ref a) (.ref C) (fun h => PySem.W.InstAt h a o C (some od)) := by
  obtain ⟨cd, hcd, _⟩ := PySem.W.any_some T.xf.hdC
  exact PySem.W.kitx_exc (by rw [hcd]; rfl) T.xf.ga T.xf.gg T.xf.exC T.ha T.hn T.ht T.hm
theorem call_isW : CallR X (.builtin "isinstance") (rIsW X.K) := by
  intro pins s σ H xs us Q I r h
  obtain ⟨x, c, C, fs, cv, b, rfl, hx, k, T, e, q⟩ := h
  obtain ⟨u1, u2, rfl, r1, r2⟩ := vals2 r
  obtain ⟨a, o, od, mA, rfl, J, _, _⟩ := exw_inst I hx
  obtain rfl : u1 = Value.ref a := r1
  have e2 := k.eq r2
  subst e2
  exact PySem.W.kia_one (kitx_of T) I.kIn J e (fun z => nomatch z) fun tk => ⟨.bl b, H, I.tok tk, rfl, q⟩
theorem call_isWT : CallR X (.builtin "isinstance") (rIsWT X.K) := by
  intro pins s σ H xs us Q I r h
  obtain ⟨x, tp, C, cs, fs, ws, b, rfl, hx, hT, k, T, e, q⟩ := h
  obtain ⟨u1, u2, rfl, r1, r2⟩ := vals2 r
  obtain ⟨a, o, od, mA, rfl, J, _, _⟩ := exw_inst I hx
  obtain rfl : u1 = Value.ref a := r1
  cases (show u2 = Value.ref tp from r2)
  obtain ⟨_, its, rv, o2, h1, h2, n, h3⟩ := (show ObjOk X.prog X.w H s.heap tp (.tup cs) from I.hok tp _ hT)
  have e3 := ClsV.all k rv
  subst e3
  obtain ⟨oc, od2, dt, sl⟩ := o2
  simp only at h2 h3
  subst h2 h3
  exact PySem.W.kia_tup (kitx_of T) I.kIn J h1 e (fun z => nomatch z) fun tk => ⟨.bl b, H, I.tok tk, rfl, q⟩
end
theorem rd_xw {K : PySem.W.Frag} {f : Str} {te : TE} {σ : L2.St} {H : Hp} {Q : VK} (h : te σ H fun x H1 => XwAt K f x H1 Q) : tXw K f te σ H Q := h
end EE

/-! Own layer: a list comprehension whose element may raise. -/
namespace EE
open PySem PySem.Spec PyProof.Rows L2
section
variable {X : Cx} {pins : List (Addr × Obj)} {σ : L2.St} {H : Hp} {s : Shared}
/-- an object that none tracks may be left out of sight -/
theorem _root_.L2.Inv.hide {c : Addr} {G : Heap} (I : Inv X pins σ H s) (g1 : ∀ b, b ≠ c → G.get? b = s.heap.get? b) (n0 : X.s_0.heap.get? c = none) (hn : H c = none) (nL : c ≠ X.env.locals) (nC : ∀ x d, X.env.cells.lookup x = some d → d ≠ c) (nP : ∀ p ∈ X.pn ++ pins, p.1 ≠ c) :
    Inv X pins σ H { s with heap := G } := by
  have gk : ∀ b o, b ≠ c → s.heap.get? b = some o → G.get? b = some o := fun b o n e => (g1 b n).trans e
  have n0' : ∀ b u, X.s_0.heap.get? b = some u → b ≠ c := fun b u e z => by
    rw [z, n0] at e
    cases e
  have nH : ∀ b u, H b = some u → b ≠ c := fun b u e => ne_of_none e hn
  refine ⟨I.ok, I.os, I.bare, ⟨fun b o e n hb hq => gk b o (n0' b o e) (I.base.keep b o e n hb hq), fun b o e n hb hq => ?_, I.base.free, fun b o e hq => ?_, I.base.tups, I.base.frzs, I.base.tbls⟩, ?_, fun x d e => ?_, I.free, I.freeC, fun p hp => ?_, fun b u e => ?_, I.len⟩
  · obtain ⟨sl, q⟩ := I.base.slot b o e n hb hq
    exact ⟨sl, gk b _ (n0' b o e) q⟩
  · obtain ⟨o', q⟩ := I.base.there b o e hq
    exact ⟨o', gk b o' (n0' b o e) q⟩
  · obtain ⟨m, ⟨o, es, ep, ho, r⟩, hl⟩ := I.loc
    refine ⟨m, ⟨o, es, ep, gk _ _ (Ne.symm nL) ho, r⟩, fun i x v e1 e2 e3 => ?_⟩
    obtain ⟨u, r', l⟩ := hl i x v e1 e2 e3
    refine ⟨u, r', ?_⟩
    rcases l with l | ⟨k, d, ed, o', ho', hd'⟩
    · exact .inl l
    · exact .inr ⟨k, d, ed, o', gk d o' (nC x d ed) ho', hd'⟩
  · obtain ⟨v, o', ho', hd'⟩ := I.cell x d e
    exact ⟨v, o', gk d o' (nC x d e) ho', hd'⟩
  · obtain ⟨e, r⟩ := I.pin p hp
    exact ⟨gk _ _ (nP p hp) e, r⟩
  · refine (I.hok b u e).stay (fun d v hd q => gk d v ?_ q) (fun _ z => z) fun _ _ z => z
    rcases hd with z | z
    · rw [z]; exact nH _ _ e
    · exact nH _ _ z
theorem ff_move {h h' B B' : Heap} {c : Addr} : ∀ {l : List Env}, h.FunFrames B l → c ∉ frs l → (∀ b o, b ≠ c → h.get? b = some o → h'.get? b = some o) → (∀ b o, B'.get? b = some o → B.get? b = some o) → h'.FunFrames B' l
  | [], _, _, _, _ => trivial
  | env :: l, x, n, k, q => by
    obtain ⟨hk, ⟨L, o, hf, hn, ho, hd⟩, hr⟩ := x
    have ne : L ≠ c := fun z => n (List.mem_filterMap.mpr ⟨env, List.mem_cons_self, by rw [hf, z]⟩)
    refine ⟨hk, ⟨L, o, hf, ?_, k _ _ ne ho, hd⟩, ff_move hr (fun hm => ?_) k q⟩
    · cases e : B'.get? L with
      | none => rfl
      | some u =>
        rw [q _ _ e] at hn
        cases hn
    · obtain ⟨e, he, z⟩ := List.mem_filterMap.mp hm
      exact n (List.mem_filterMap.mpr ⟨e, List.mem_cons_of_mem _ he, z⟩)
/-- a block's context with a wish about exceptions of its own -/
abbrev _root_.L2.Cx.blkX (X : Cx) (s : Shared) (H : Hp) (scope : Scope) (cenv : Env) (fp : List Addr) (xe : Value → Shared → Prop) : Cx := { X.blk s H scope cenv fp with xe := xe }
/-- what a block is to do with an exception -/
def blkXe (X : Cx) (cenv : Env) : Value → Shared → Prop := notedBy (model X.prog X.w) X.A cenv (CompFails (model X.prog X.w) X.A X.xe cenv)
theorem blk_passes {E0 : XK} {scope : Scope} {cl : List (Str × Addr)} {fp : List Addr} (tk : Takes X (fun cls d _ H => E0 cls d H)) (hs : X.stack = X.env :: X.outer) (hf : X.env.frame = some X.env.locals) (I : Inv X pins σ H s) (hfp : ∀ b ∈ fp, FpOk X pins H b) :
    Passes (L2.CX X.prog X.w) (X.blkX s H scope (compEnvC scope cl s.heap.objs.size X.env) fp (blkXe X (compEnvC scope cl s.heap.objs.size X.env))) E0 := by
  intro pinsB σB HB sB e s' IB c
  have hfr : X.A.frames = some (X.env :: X.outer) := by rw [I.ok.frames, hs]
  have cc := c
  obtain ⟨a0, B0, _, cls0, d0, rfl, fl0, _⟩ := cc
  obtain ⟨a, B, sI, pinsI, σI, HI, cls, d, ea, II, nb, up, sky, na, os, ag, hE⟩ := XE.of_call (W := fun cls d _ H => E0 cls d H) IB (fun _ _ _ z => z) c
  cases ea
  have nb : ∀ b o, sI.heap.get? b = some o → b ∉ frs X.stack → B.get? b = some o := nb
  have sky : Sky B X.stack a0 (Zc cls d) s.heap.objs.size s'.heap := sky
  -- the exception flies
  have fl : HandSPX.FlyingZ B X.stack a0 (Zc cls d) s'.heap := by
    obtain ⟨_, _, _, oe, vs, T, oT, ts, h1, h2, h3, h4, h5, h6, h7, h8, h9⟩ := fl0
    rcases sky with ⟨_, _, _, oe', vs', k1, k2, k3, k4⟩ | fl | ⟨_, _, _, oe', vs', T', oT', ts', k1, k2, k3, k4, k5, k6, k7, k8, k9⟩
    · rw [h1] at k1
      cases k1
      rw [h3] at k3
      cases k3
      rw [h4] at k4
      cases k4
    · exact fl
    · rw [h1] at k1
      cases k1
      rw [h3] at k3
      cases k3
      rw [h4] at k4
      cases k4
      rw [h7] at k7
      cases k7
      rw [h8] at k8
      cases k8
      rw [h9] at k9
      cases k9
  -- the names' block, as the loop left it
  obtain ⟨mI, hnI, _⟩ := II.loc
  have hnI : sI.heap.Ns s.heap.objs.size mI := hnI
  have hCf : HI s.heap.objs.size = none := II.free
  have cFr : s.heap.objs.size ∉ frs X.stack := fun hm => by
    obtain ⟨_, o, ho, _⟩ := I.stack.mem hm
    exact absurd (Heap.lt_size ho) (Nat.lt_irrefl _)
  show wpAny _ _ (noteFrame (.ref a0) X.env) _ _ _
  have fl2 : HandSPX.FlyingZ B (X.env :: X.outer) a0 (Zc cls d) s'.heap := by rw [← hs]; exact fl
  refine HandSPX.looks_onZ Zc.steady hfr hf fl2 fun h2 held up2 => ?_
  have hn2 : h2.Ns s.heap.objs.size mI := up2.ns (up.ns hnI)
  refine ⟨mI, hn2, fun h4 m4 hn4 sb => ?_⟩
  have sb : Heap.SameBut s.heap.objs.size h2 h4 := sb
  obtain ⟨oC, esC, epC, hoC, hdC, _⟩ := id hn2
  -- the ground without the names' block
  obtain ⟨B', b1, b2⟩ := restrict B fun b => decide (b ≠ s.heap.objs.size)
  have bk : ∀ b, b ≠ s.heap.objs.size → B'.get? b = B.get? b := fun b hb => b1 b (decide_eq_true hb)
  have bC : B'.get? s.heap.objs.size = none := b2 _ (decide_eq_false fun z => z rfl)
  have bsub : ∀ b o, B'.get? b = some o → B.get? b = some o ∧ b ≠ s.heap.objs.size := fun b o z => by
    have n : b ≠ s.heap.objs.size := fun y => by
      rw [y, bC] at z
      cases z
    exact ⟨(bk b n).symm.trans z, n⟩
  obtain ⟨G, g1, g2⟩ := restrict sI.heap fun b => decide (b ≠ s.heap.objs.size)
  have gk : ∀ b, b ≠ s.heap.objs.size → G.get? b = sI.heap.get? b := fun b hb => g1 b (decide_eq_true hb)
  have gC : G.get? s.heap.objs.size = none := g2 _ (decide_eq_false fun z => z rfl)
  obtain ⟨q1, q2, q3, oe, vs, T, oT, ts, h1, hz, h3, h4', h5, h6, h7, h8, h9⟩ := held
  have dd : ∀ {b : Addr} {o : Obj} {vs : Array Value}, h2.get? b = some o → o.data = .fields vs → b ≠ s.heap.objs.size := fun {b o vs} e1 e2 z => by
    rw [z, hoC] at e1
    cases e1
    rw [hdC] at e2
    cases e2
  have k4 : ∀ b o, b ≠ s.heap.objs.size → h2.get? b = some o → h4.get? b = some o := fun b o n z => (sb.2 b n).trans z
  have nA := dd h1 h3
  have nT := dd h7 h8
  have cFr' : s.heap.objs.size ∉ frs (X.env :: X.outer) := by rw [← hs]; exact cFr
  have b0 : ∀ {b : Addr}, B.get? b = none → B'.get? b = none := fun {b} z => by
    cases e : B'.get? b with
    | none => rfl
    | some u =>
      rw [(bsub _ _ e).1] at z
      cases z
  have held4 : HandSPX.HeldZ B' (X.env :: X.outer) a0 (Zc cls d) X.env.locals h4 := ⟨fun b o z => k4 b o (bsub b o z).2 (q1 b o (bsub b o z).1), b0 q2, ff_move q3 cFr' k4 (fun b o z => (bsub b o z).1), oe, vs, T, oT, ts, k4 _ _ nA h1, hz, h3, h4', b0 h5, h6, k4 _ _ nT h7, h8, h9⟩
  unfold PySem.passOn
  refine wpAny_bind (wpAny_field (k4 _ _ nA h1) h3 h4' ?_)
  rw [if_neg (show ¬ ((Value.ref T == Value.none) = true) from by simp)]
  have IX : Inv X pins σ HI sI := I.call' (ch := fp) II.os II.base II.hok II.bare fun b hb => ⟨(hfp b hb).2.2.2.1, (hfp b hb).2.1, (hfp b hb).2.2.2.2.1, (hfp b hb).2.2.2.2.2⟩
  have n0 : X.s_0.heap.get? s.heap.objs.size = none := by
    cases e : X.s_0.heap.get? s.heap.objs.size with
    | none => rfl
    | some o => exact absurd (Nat.lt_of_lt_of_le (Heap.lt_size e) I.sz) (Nat.lt_irrefl _)
  have IG : Inv X pins σ HI { sI with heap := G } := IX.hide gk n0 hCf (Nat.ne_of_gt I.lt) (fun x c e z => by
      obtain ⟨v, q⟩ := I.cell x c e
      exact absurd (z ▸ q.lt) (Nat.lt_irrefl _)) fun p hp z => absurd (z ▸ Heap.lt_size (I.pin p hp).1) (Nat.lt_irrefl _)
  have fin : wpAny (model X.prog X.w) X.A (setFlight (.ref a0) X.env.frame) (fun _ z4 => wpAny (model X.prog X.w) X.A (throw (.ref a0) : Sem Value) (fun _ _ => False) X.xe z4) X.xe { s' with heap := h4 } := by
    rw [hf]
    refine HandSPX.setFlight_onZ held4 fun h5 hh5 up5 => wpAny_throw (tk _ _ ?_)
    refine ⟨a0, B', { sI with heap := G }, pins, σ, HI, cls, d, rfl, IG, fun b o z hb => ?_, ?_, .inr (.inr (by rw [hs]; exact hh5)), na, os, ag, hE⟩
    · have n : b ≠ s.heap.objs.size := fun y => by
        have z' : G.get? b = some o := z
        rw [y, gC] at z'
        cases z'
      rw [bk b n]
      exact nb b o ((gk b n).symm.trans z) hb
    · refine Heap.UpToSlots.trans (h₂ := h4) (fun b o z hd => ?_) up5
      have n : b ≠ s.heap.objs.size := fun y => by
        have z' : G.get? b = some o := z
        rw [y, gC] at z'
        cases z'
      obtain ⟨sl, e⟩ := up b o ((gk b n).symm.trans z) hd
      obtain ⟨sl2, e2⟩ := up2 b _ e hd
      exact ⟨sl2, k4 b _ n e2⟩
  first
    | exact wpAny_bind (wpAny_pure (wpAny_bind fin))
    | exact wpAny_bind fin
end
end EE
namespace EE
open PySem PySem.Spec PyProof.Rows L2
section
variable {X : Cx}
theorem pe_lcX {elt tg iter : Expr} {scope : Scope} {own : List (Str × Nat)} {pos : Pos} {wi : TI} {g : TG} {te : TE} {E0 : XK} (tk : Takes X (fun cls d _ H => E0 cls d H)) (hs : X.stack = X.env :: X.outer) (hf : X.env.frame = some X.env.locals) (hc : X.calm = true) (hN : X.N.Nodup) (hi : PI X tg iter wi) (ok : BlkOk X.N X.env.scope scope own)
    (hg : ∀ (s : Shared) (H : Hp) (C : Addr) (cl : List (Str × Addr)) (fp : List Addr), PG (X.blk s H scope (compEnvC scope cl C X.env) fp) tg g)
    (he : ∀ (s : Shared) (H : Hp) (C : Addr) (cl : List (Str × Addr)) (fp : List Addr) (xe : Value → Shared → Prop), Passes (L2.CX X.prog X.w) (X.blkX s H scope (compEnvC scope cl C X.env) fp xe) E0 → PE (X.blkX s H scope (compEnvC scope cl C X.env) fp xe) elt te) (hfd : ∀ x, foldedSetIterable iter X.env x = pure x := by intro _; rfl) :
    PE X (.ListComp elt [⟨tg, iter, [], 0⟩] scope pos) (tLc wi g tYes te (own.map (·.2))) := by
  refine ⟨fun pins s σ H Q I h => ?_⟩
  rw [eval_ListComp]
  have hfree : ∀ y ∈ scope.names, y.2 = .free → ∃ c, X.env.cells.lookup y.1 = some c := fun y hy e => (ok.free y hy e).elim (fun k => I.ok.has _ (.inl k)) fun k => I.ok.has _ (.inr k)
  refine comprehension_at (use := none) rfl hfd (closure_ok hfree) ok.kind (fun y hy e => by rw [ok.uniq y hy, e]) (thn (hi.run pins s σ H _ I h) fun xv s1 hx => thn hx fun itv s2 h2 => ?_)
  obtain ⟨it, fp, tn, J, H2, e, I2, T, st2, f2, q⟩ := h2
  subst e
  refine wpAny_newObj_type (newEnv_comp ?_) (by show 0 ≤ sizeLine; decide)
  generalize hD : s2.heap.objs.size = D
  have hDn : H2 D = none := I2.hok.fresh (Nat.le_of_eq hD)
  obtain ⟨W, ⟨m0, w0⟩, turn⟩ := q D hDn
  generalize hs3 : ({ s2 with heap := s2.heap.push { cls := .type "list", data := .seq ([] : List Value).toArray } } : Shared) = s3
  have I3 : Inv X pins σ (upd H2 D (.lst [])) s3 := by
    rw [← hs3]
    refine I2.laid (t' := s2.toks) (fun b o e => Heap.get?_push_of_some _ e) (Nat.le_of_eq hD) ⟨Nat.zero_le _, [], 0, .nil, ?_⟩
    rw [← hD]
    exact Heap.get?_push_size _ rfl
  have h3 : s3.heap = s2.heap.push { cls := .type "list", data := .seq ([] : List Value).toArray } := by rw [← hs3]
  have sz : ∀ b ∈ fp, b < s2.heap.objs.size := fun b hb => let ⟨_, e, _⟩ := T.obj _ _ st2 b hb; Heap.lt_size e
  have f3 : ∀ b ∈ fp, FpOk X pins (upd H2 D (.lst [])) b ∧ b < s3.heap.objs.size := fun b hb =>
    ⟨⟨by rw [upd_ne (by rw [← hD]; exact Nat.ne_of_lt (sz b hb))]; exact (f2 b hb).1, (f2 b hb).2⟩, by rw [h3, Heap.size_push]; exact Nat.lt_succ_of_lt (sz b hb)⟩
  have st3 : tn 0 s3.heap := T.keep _ _ _ st2 fun b _ o e => by rw [h3]; exact Heap.get?_push_of_some _ e
  have I4 := block_start I3 ok hN f3
  have pg := hg s3 (upd H2 D (.lst [])) s3.heap.objs.size (cellsFrom (s3.heap.objs.size + 1) scope.names (cloFrom X.env.cells scope.names [])) fp
  have ps := blk_passes (scope := scope) (cl := cellsFrom (s3.heap.objs.size + 1) scope.names (cloFrom X.env.cells scope.names [])) tk hs hf I3 (fun b hb => (f3 b hb).1)
  have pe := he s3 (upd H2 D (.lst [])) s3.heap.objs.size (cellsFrom (s3.heap.objs.size + 1) scope.names (cloFrom X.env.cells scope.names [])) fp _ ps
  show codeAny _ _ (.compStart (.ListComp elt [⟨tg, iter, [], 0⟩] scope pos) 0 (.ref it) (.ref D) (compEnvC scope (cellsFrom (s3.heap.objs.size + 1) scope.names (cloFrom X.env.cells scope.names [])) s3.heap.objs.size X.env))
    (compEnds (model X.prog X.w) X.A X.xe none (EP X pins σ Q) (.ref D) (compEnvC scope (cellsFrom (s3.heap.objs.size + 1) scope.names (cloFrom X.env.cells scope.names [])) s3.heap.objs.size X.env)) { s3 with heap := pushCells (s3.heap.push { cls := .type "dict", data := .dict #[] }) scope.names }
  have nfp : ∀ b ∈ fp, (upd H2 D (.lst [])) b = none := fun b hb => (f3 b hb).1.1
  generalize hce : compEnvC scope (cellsFrom (s3.heap.objs.size + 1) scope.names (cloFrom X.env.cells scope.names [])) s3.heap.objs.size X.env = ce at I4 pg pe ⊢
  have cL : ce.locals = s3.heap.objs.size := by subst hce; rfl
  generalize hH3 : upd H2 D (.lst []) = H3 at I3 I4 pg pe w0 nfp f3
  generalize hs4 : ({ s3 with heap := pushCells (s3.heap.push { cls := .type "dict", data := .dict #[] }) scope.names } : Shared) = s4 at I4 ⊢
  have st4 : tn 0 s4.heap := T.keep _ _ _ st3 fun b _ o e => by rw [← hs4]; exact pushCells_keeps _ _ _ _ (Heap.get?_push_of_some _ e)
  have stat : ∀ {σ' : L2.St} {H' : Hp} {s' : Shared}, Inv (X.blk s3 H3 scope ce fp) [] σ' H' s' → (∀ b ∈ fp, H' b = none) → ∀ b ∈ fp, FpOk (X.blk s3 H3 scope ce fp) [] H' b := fun {σ' H' s'} I' hn b hb =>
    ⟨hn b hb, (I'.ok.exf b hb).1, I'.ok.exfs b hb, .inl hb, fun x c e => (I'.ok.exf b hb).2 x c e, fun p hp => absurd (show p ∈ ([] : List (Addr × Obj)) ++ [] from hp) (by simp)⟩
  have loop : codeAny (model X.prog X.w) X.A (.compLoop (.ListComp elt [⟨tg, iter, [], 0⟩] scope pos) 0 (.ref it) (.ref D) ce) (compEnds (model X.prog X.w) X.A X.xe none (EP X pins σ Q) (.ref D) ce) s4 := by
    refine compLoop_any (fun n s' => ∃ i H', Inv (X.blk s3 H3 scope ce fp) [] (wipe σ (own.map (·.2))) H' s' ∧ tn i s'.heap ∧ (∀ b ∈ fp, H' b = none) ∧ W i n H') ?_ m0 ⟨0, H3, I4, st4, nfp, w0⟩
    rintro n s5 ⟨i, H5, I5, st5, n5, w5⟩
    rcases turn i n H5 w5 with ⟨stop, qq⟩ | ⟨go, Nx, hNx, step⟩
    · refine thnF (T.done (X.blk s3 H3 scope ce fp) rfl rfl rfl hc i [] s5 _ H5 (fun _ _ => False) I5 (stat I5 n5) st5 stop) fun r s6 ⟨hr, I6⟩ => ?_
      subst hr
      have I7 : Inv X pins σ H5 s6 := I3.call' (ch := fp) I6.os I6.base I6.hok I6.bare fun b hb => ⟨(f3 b hb).1.2.2.2.1, (f3 b hb).1.2.1, (f3 b hb).1.2.2.2.2.1, (f3 b hb).1.2.2.2.2.2⟩
      have nC : H5 s3.heap.objs.size = none := by
        have z : H5 ce.locals = none := I6.free
        rw [cL] at z
        exact z
      obtain ⟨m, hn, _⟩ := I6.loc
      have hn : s6.heap.Ns ce.locals m := hn
      obtain ⟨k0, k1, k2, k3, k4, k5⟩ := I3.fpOk (Nat.le_refl _) nC
      refine ⟨m, hn, fun h' sb => ?_⟩
      rw [cL] at sb
      exact ⟨.ref D, H5, I7.turned (t' := s6.toks) (fun b o hb e => (sb.2 b hb).trans e) k0 k1 k3 k4 k5, rfl, qq⟩
    · refine thnF (T.item (X.blk s3 H3 scope ce fp) rfl rfl rfl hc i [] s5 _ H5 (fun _ _ => False) I5 (stat I5 n5) st5 go) fun r s6 ⟨u, hr, h6⟩ => ?_
      subst hr
      refine thnF h6 fun _ s7 ⟨x, H7, I7, r7, y7, st7, n7⟩ => ?_
      have I7' := I7.pinned (stat I7 n7) (T.obj _ _ st7)
      refine thnF (pg.run _ s7 _ H7 x u _ I7' r7 (step x H7 y7)) fun _ s8 ⟨σ8, H8, I8, hw8, q8⟩ => wpAny_tests_nil ?_
      have fin : ∀ {s' : Shared} {H' : Hp}, Inv (X.blk s3 H3 scope ce fp) ([] ++ pinsAt fp s7.heap) σ8 H' s' → Nx H' → ∃ m, m < n ∧ ∃ i H', Inv (X.blk s3 H3 scope ce fp) [] (wipe σ (own.map (·.2))) H' s' ∧ tn i s'.heap ∧ (∀ b ∈ fp, H' b = none) ∧ W i m H' := fun {s' H'} I' nx => by
        obtain ⟨m', hm, w'⟩ := hNx H' nx
        have pin' : ∀ b ∈ fp, ∀ o, s7.heap.get? b = some o → s'.heap.get? b = some o ∧ H' b = none := fun b hb o e =>
          let z := I'.pin (b, o) (List.mem_append_right _ (List.mem_append_right _ (mem_pinsAt hb e)))
          ⟨z.1, z.2.1⟩
        have hl : (wipe σ (own.map (·.2))).length = σ8.length := by rw [← hw8, wipe_length]
        refine ⟨m', hm, i + 1, H', (I'.unpinned (pins := [])).weak hl (fun j v e => ?_), T.keep _ _ _ st7 fun b hb o e => (pin' b hb o e).1, fun b hb => ?_, w'⟩
        · rw [← hw8] at e
          exact (wipe_some e).1
        · obtain ⟨o, e, _⟩ := T.obj _ _ st7 b hb
          exact (pin' b hb o e).2
      simp only [if_true]
      have q8 : te σ8 H8 (fun y H4 => ∃ acc, H4 D = some (.lst acc) ∧ acc.length < sizeLine ∧ Nx (upd H4 D (.lst (acc ++ [y])))) := by
        have z : (if true = true then te σ8 H8 (fun y H4 => ∃ acc, H4 D = some (.lst acc) ∧ acc.length < sizeLine ∧ Nx (upd H4 D (.lst (acc ++ [y])))) else Nx H8) := q8
        rw [if_pos rfl] at z
        exact z
      refine wpAny_mono (pe.run _ s8 σ8 H8 _ (I8.wish _) q8) (fun z s10 ⟨yv, H10, I10, r10, acc, hD10, hz10, nx⟩ => ?_) (fun e s' z => ?_)
      · exact app_ok (X := X.blk s3 H3 scope ce fp) (I10.wish (fun _ _ => False)) hD10 hz10 r10 fun s11 I11 => fin I11 nx
      · subst hce
        exact z
  exact codeAny_compStart_list loop (T.self X.A 0 _ _ _ st4 loop)
end
end EE

/-! Own layer: lambdas as values; functions that a local holds, called. -/
namespace EE
open PySem PySem.Spec PyProof.Rows L2 LamX
/-- at f: a lambda -/
def LamO (f : Addr) (q : Str) (params : Arguments) (body : Expr) (scope : Scope) (cl : List (Str × Addr)) (c : Addr) : HO := .ext fun h => ∃ pm ctv : Value, h.get? f = some (PySem.W.kla_obj "<lambda>" q params body scope cl pm c ctv)
theorem lamO_at {P : Program} {w : World} {H : Hp} {h : Heap} {f c : Addr} {q : Str} {params : Arguments} {body : Expr} {scope : Scope} {cl : List (Str × Addr)} (hok : HOk P w H h) (e : H f = some (LamO f q params body scope cl c)) : ∃ pm ctv : Value, h.get? f = some (PySem.W.kla_obj "<lambda>" q params body scope cl pm c ctv) := by
  obtain ⟨z, _, _⟩ := hok f _ e
  exact z
theorem lamO_ok {P : Program} {w : World} {H : Hp} {h : Heap} {f c : Addr} {q : Str} {params : Arguments} {body : Expr} {scope : Scope} {cl : List (Str × Addr)} {pm ctv : Value} (e : h.get? f = some (PySem.W.kla_obj "<lambda>" q params body scope cl pm c ctv)) : ObjOk P w H h f (LamO f q params body scope cl c) :=
  ⟨⟨pm, ctv, e⟩, ⟨_, e⟩, fun h1 h2 ⟨p, t, z⟩ k => ⟨p, t, k _ z⟩⟩
section
variable {X : Cx} {pins : List (Addr × Obj)} {σ : L2.St} {H : Hp} {s : Shared}
/-- lambda ..: body, its object tracked -/
def tLamV (X : Cx) (T : List (Addr × Str)) (params : Arguments) (body : Expr) (scope : Scope) : TE := fun _ H Q => Tabs T H ∧ ∀ (f c : Addr) (H1 : Hp), ExtN H H1 → Tabs T H1 → H f = none → H1 f = some (LamO f (X.env.qual ++ "<lambda>") params body scope (cloFrom X.env.cells scope.names []) c) → H1 c = some (CodeO c (X.env.qual ++ "<lambda>")) → Q (.ref f) H1
theorem pe_lam {T : List (Addr × Str)} {c P : Addr} {params : Arguments} {body : Expr} {scope : Scope} {pos : Pos} (TB : TabB X.base X.mg c P) (hcode : X.env.code = .ref c) (hm : (P, X.env.qual ++ "<lambda>") ∈ T) (hu : ∀ p ∈ T, p.1 = P → p.2 = X.env.qual ++ "<lambda>") (hdef : defaultsOf params X.env = ([], []))
    (hfree : X.Ok → ∀ y ∈ scope.names, y.2 = .free → ∃ c, X.env.cells.lookup y.1 = some c) : PE X (.Lambda params body scope pos) (tLamV X T params body scope) := by
  refine ⟨fun pins s σ H Q I h => ?_⟩
  obtain ⟨hT, h⟩ := h
  obtain ⟨ps, hP, ht, ha⟩ := hT _ hm
  have bP : s.heap.BuiltinsAt X.mg P := TB.bm.keeps I.bk
  have hP' : s.heap.get? P = some { cls := .none, data := .fields ps } := I.hok P _ hP
  refine PySem.W.kla_eval hdef ?_
  cases hc : codeAmong pos ps.toList with
  | none =>
    refine PySem.W.kla_makeFunction (mg := X.mg) (c := c) (P := P) (ps := ps) (closure_ok (hfree I.ok)) I.ok.glob (I.mod.glob.keeps I.bk) hcode (TB.code.keeps I.bk) hP' ht hc TB.gP bP fun c' ctv h' tk hx hge hlt hrec htb => ?_
    obtain ⟨c2, oc, vs, t, e2, hoc, hd, hv⟩ := hrec
    cases e2
    have nC : H c' = none := I.hok.fresh hge
    have I1 := inv_table (t' := tk) (more := #[rawInt pos.line, rawInt pos.col, .ref c']) (h' := h') I hP (fun b o hb e => hx b o hb e) htb hge ⟨oc, vs, t, hoc, hd, hv⟩
    have hE : ExtN H (upd (upd H P (.tbl (ps ++ #[rawInt pos.line, rawInt pos.col, .ref c']))) c' (CodeO c' (X.env.qual ++ "<lambda>"))) := fun b o e n => by
      rw [upd_ne (ne_of_none e nC), upd_ne (fun z => n ps (Option.some.inj (e.symm.trans (by rw [z]; exact hP))))]
      exact e
    have eL : (ps ++ #[rawInt pos.line, rawInt pos.col, .ref c']).toList = ps.toList ++ [rawInt pos.line, rawInt pos.col, .ref c'] := by simp
    have T1 : Tabs T (upd (upd H P (.tbl (ps ++ #[rawInt pos.line, rawInt pos.col, .ref c']))) c' (CodeO c' (X.env.qual ++ "<lambda>"))) := fun p hp => by
      by_cases hb : p.1 = P
      · rw [hu p hp hb, hb]
        refine ⟨_, by rw [upd_ne (ne_of_none hP nC), upd_same], by rw [eL]; exact PySem.TriplesOk_snoc _ _ _ _ ht, fun p' cv hcv => ?_⟩
        rw [eL] at hcv
        rcases among_app _ ht hcv with z | z
        · obtain ⟨c0, e1, e2⟩ := ha p' cv z
          exact ⟨c0, e1, hE _ _ e2 codeO_ne⟩
        · exact ⟨c', z, upd_same⟩
      · obtain ⟨ps', a1, a2, a3⟩ := hT p hp
        refine ⟨ps', by rw [upd_ne (ne_of_none a1 nC), upd_ne hb]; exact a1, a2, fun p' cv hcv => ?_⟩
        obtain ⟨c0, e1, e2⟩ := a3 p' cv hcv
        exact ⟨c0, e1, hE _ _ e2 codeO_ne⟩
    have hsz : s.heap.objs.size ≤ h'.objs.size := Nat.le_trans hge (Nat.le_of_lt hlt)
    have hf : (h'.push (PySem.W.kla_obj "<lambda>" (X.env.qual ++ "<lambda>") params body scope (cloFrom X.env.cells scope.names []) ((X.mg "__name__").getD .none) c' ctv)).get? h'.objs.size = some (PySem.W.kla_obj "<lambda>" (X.env.qual ++ "<lambda>") params body scope (cloFrom X.env.cells scope.names []) ((X.mg "__name__").getD .none) c' ctv) := Heap.get?_push_size _ rfl
    have I2 := I1.laid (t' := tk) (a := h'.objs.size) (o := LamO h'.objs.size (X.env.qual ++ "<lambda>") params body scope (cloFrom X.env.cells scope.names []) c') (fun b o z => Heap.get?_push_of_some _ z) (Nat.le_refl _) (lamO_ok hf)
    have nf := I1.hok.fresh (Nat.le_refl _)
    have sm := same_new (o := LamO h'.objs.size (X.env.qual ++ "<lambda>") params body scope (cloFrom X.env.cells scope.names []) c') nf
    exact ⟨.ref h'.objs.size, _, I2, rfl, h _ c' _ (fun b o e n => sm _ _ (hE b o e n)) (T1.ext sm) (I.hok.fresh hsz) upd_same (sm _ _ upd_same)⟩
  | some cv =>
    obtain ⟨c', e, hco⟩ := ha pos cv hc
    subst e
    refine PySem.W.kla_makeFunctionHit (mg := X.mg) (c := c) (P := P) (ps := ps) (closure_ok (hfree I.ok)) I.ok.glob (I.mod.glob.keeps I.bk) hcode (TB.code.keeps I.bk) hP' ht hc bP fun ctv h' tk hx hsz => ?_
    have I1 : Inv X pins σ H { s with heap := h', toks := tk } := I.kept hx
    have hf : (h'.push (PySem.W.kla_obj "<lambda>" (X.env.qual ++ "<lambda>") params body scope (cloFrom X.env.cells scope.names []) ((X.mg "__name__").getD .none) c' ctv)).get? h'.objs.size = some (PySem.W.kla_obj "<lambda>" (X.env.qual ++ "<lambda>") params body scope (cloFrom X.env.cells scope.names []) ((X.mg "__name__").getD .none) c' ctv) := Heap.get?_push_size _ rfl
    have I2 := I1.laid (t' := tk) (a := h'.objs.size) (o := LamO h'.objs.size (X.env.qual ++ "<lambda>") params body scope (cloFrom X.env.cells scope.names []) c') (fun b o z => Heap.get?_push_of_some _ z) (Nat.le_refl _) (lamO_ok hf)
    have nf := I1.hok.fresh (Nat.le_refl _)
    have sm := same_new (o := LamO h'.objs.size (X.env.qual ++ "<lambda>") params body scope (cloFrom X.env.cells scope.names []) c') nf
    exact ⟨.ref h'.objs.size, _, I2, rfl, h _ c' _ (ExtN.of sm) (hT.ext sm) (I.hok.fresh hsz) upd_same (sm _ _ hco)⟩
end
section
variable {P : Program} {w : World} {K : PySem.W.Frag} {mg : Str → Option Value} {base : Heap}
/-- a lambda without captured names, called -/
theorem lam_call {CX : CXT} {A : Around} {outer : List Env} {s : Shared} {H : Hp} {Q : VK} {E : XK} {k : Nat} {f c : Addr} {q : Str} {params : Arguments} {body : Expr} {scope : Scope} {N ps : List Str} {vs : List V} {us : List Value} (hr : Room (k + 1) A) (e0 : Env0 P w K mg base A outer s H)
    (hf : H f = some (LamO f q params body scope [] c)) (hc : H c = some (CodeO c q)) (S : FnScope N ps scope) (hb : ∀ (pm ctv : Value) (us : List Value), us.length = ps.length → bindArgs (PySem.W.kla_fn "<lambda>" q params body scope [] pm (.ref c) ctv) ⟨us, []⟩ = pure (ps.zip us)) (r : Vals vs us) (hl : vs.length = ps.length)
    (hbody : Room k (A.deeper (envOfC q scope s.heap.objs.size f (.ref c))) → ∃ t, PE (cxOf CX P w K mg base N q scope f (.ref c) A outer s H E) body t ∧ t (start N vs) H Q) : codeAny (model P w) A (.call (.ref f) ⟨us, []⟩) (CR CX outer P w H s Q E) s := by
  obtain ⟨pm, ctv, of1⟩ := lamO_at e0.hok hf
  have nol := e0.mod.nolimit.keeps (h' := s.heap) fun b o z => (e0.bs b o z).1
  have kinds : ∀ y ∈ ps.zip us, scope.names.lookup y.1 = some .local ∨ (scope.names.lookup y.1 = some .cell ∧ ((cellsFrom (s.heap.objs.size + 1) scope.names []).lookup y.1).isSome = true) := by
    rintro ⟨n, v⟩ hy
    exact (S.par n (List.of_mem_zip hy).1).imp id fun z => ⟨z, PySem.W.cellsFrom_some _ _ _ (Or.inl z)⟩
  refine PySem.W.kla_callFunE hr.depth of1 rfl S.co S.gen rfl (NdefX.codeO_at e0.hok hc) ?_
  rw [hb pm ctv us (r.length.symm.trans hl)]
  refine wpAny_pure (wpAny_newFunctionEnv_cells S.kind kinds fun env henv t1 x1 => ?_)
  cases henv
  refine ⟨nol.keeps x1.toInCall.keep, ?_⟩
  obtain ⟨t, ht, hq⟩ := hbody (hr.deeper _)
  have I := inv_start (CX := CX) (E := E) S hr.hd e0 hl r x1
  refine PySem.W.kla_codeExpr (wpAny_mono (ht.run [] t1 (start N vs) H Q I hq) (fun v s' hv => ?_) fun e s' z => z)
  obtain ⟨w', H', J', rv, q'⟩ := hv
  exact ⟨w', H', J'.os, J'.bare, J'.base, J'.hok, rv, q'⟩
/-- what a call of the function at f does -/
def CallsAt (P : Program) (w : World) (K : PySem.W.Frag) (mg : Str → Option Value) (base : Heap) (CX : CXT) (k : Nat) (f : Addr) (vs : List V) (H : Hp) (Q : VK) (E : XK) : Prop :=
  ∀ (A : Around) (outer : List Env) (s : Shared) (us : List Value), Room k A → Env0 P w K mg base A outer s H → Vals vs us → codeAny (model P w) A (.call (.ref f) ⟨us, []⟩) (CR CX outer P w H s Q E) s
theorem calls_fn {CX : CXT} {k : Nat} {f : Addr} {fd : FuncData} {ps : List Str} {sp : Sp} {vs : List V} {H : Hp} {Q : VK} {E : XK} (F : FnOk P w K mg base CX k f fd ps sp) (hb : Binds K fd ps []) (h : sp vs H Q E) : CallsAt P w K mg base CX k f vs H Q E := fun A outer s us hr e0 r => by
  have kin : K.In s.heap := e0.mod.kin.keeps fun b o z => (e0.bs b o z).1
  have bd := hb s us kin (by rw [List.append_nil, ← r.length, F.len _ _ _ _ h])
  rw [List.append_nil] at bd
  exact F.run A outer s H ⟨us, []⟩ us vs Q E hr e0 bd r h
/-- a function stands at f -/
def FnV (K : PySem.W.Frag) (H : Hp) (f : Addr) : Prop := (∃ (oc : Value) (od : Option Addr) (fd : FuncData) (sl : Array (Option Value)), K.lookup f = some ⟨oc, od, .func fd, sl⟩) ∨ ∃ q params body scope cl c, H f = some (LamO f q params body scope cl c)
theorem FnV.at {H : Hp} {h : Heap} {f : Addr} (hok : HOk P w H h) (kin : K.In h) (v : FnV K H f) : PySem.W.FnAt f h := by
  rcases v with ⟨oc, od, fd, sl, lk⟩ | ⟨q, params, body, scope, cl, c, e⟩
  · exact ⟨oc, od, fd, sl, kin _ _ lk⟩
  · obtain ⟨pm, ctv, z⟩ := lamO_at hok e
    exact ⟨_, _, _, _, z⟩
theorem FnV.keep {H H' : Hp} {f : Addr} (v : FnV K H f) (e : ExtN H H') : FnV K H' f := v.imp id fun ⟨q, params, body, scope, cl, c, z⟩ => ⟨q, params, body, scope, cl, c, e _ _ z fun ps y => by
  unfold LamO at y
  cases y⟩
end
section
variable {X : Cx} {CX : CXT} {k i : Nat} {E : XK} {a : Str} {e : Expr} {es : List Expr} {ta : TA} {p1 p2 : Pos}
/-- a(e, ..), a function in the local a -/
def tCallV (X : Cx) (CX : CXT) (k i : Nat) (E : XK) (ta : TA) : TE := fun σ H Q => ∃ f, σ[i]? = some (some (.ref f)) ∧ FnV X.K H f ∧ ta σ H fun vs H1 => FnV X.K H1 f ∧ CallsAt X.prog X.w X.K X.mg X.base CX k f vs H1 Q E
theorem pe_callV (hr : Room k X.A) (hx : Passes CX X E) (hN : X.N[i]? = some a) (hv : Vis X.env.scope a) (ha : PA X (e :: es) ta) (hd : (a == ("__debug__" : Str)) = false := by decide) (hcd : (a == ("__classdict__" : Str)) = false := by decide)
    (hst : starEach (e :: es) X.env = (false, eval e X.env) :: starEach es X.env := by rfl) (plain : (backTo p2 (starEach es X.env)).any (·.1) = false := by rfl) : PE X (.Call (.Name a p1) (e :: es) [] p2) (tCallV X CX k i E ta) := by
  refine ⟨fun pins s σ H Q I h => ?_⟩
  obtain ⟨f, hs, fv, h⟩ := h
  refine wpAny_Call_Name_kw (thn ((pe_var (pos := p1) (i := i) hN hv hd hcd).run pins s σ H (fun v H1 => v = .ref f ∧ H1 = H) I ⟨.ref f, hs, rfl, rfl⟩) fun u s1 ⟨v, H1, I1, r1, ev, eH⟩ => ?_)
  subst ev eH
  obtain rfl : u = Value.ref f := r1
  refine PySem.W.callWith_F (fv.at I1.hok I1.kIn) (thn (ha.run p2 pins s1 σ _ _ I1 h) fun us s2 ⟨vs, H2, I2, r2, fv2, q⟩ => ⟨fv2.at I2.hok I2.kIn, ?_⟩) hst plain
  refine wpAny_call (codeAny_mono (q X.A X.stack s2 us hr I2.env0 r2) fun r s' z => ?_)
  match r, z with
  | .error er, z => exact hx pins σ H2 s2 er s' I2 z
  | .ok (.ret u), z => exact I2.after z
  | .ok .next, z => exact z.elim
  | .ok .brk, z => exact z.elim
  | .ok .cont, z => exact z.elim
end
end EE

/-! Own layer: the end of a law whose defs make lambdas. -/
namespace EE
open PySem PySem.Spec PyProof.Rows L2 LamX
section
variable {P : Program} {w : World} {K : PySem.W.Frag} {mg mb : Str → Option Value} {CX : CXT} {k : Nat} {fa a : Addr} {fd : FuncData} {x : Str} {sp : Sp} {S : Shared} {us : List Value} {ns : List Int} {cs : List (Addr × Addr)}
/-- the heap that tracks the tables, and the script unless the module holds it -/
def scrT (K : PySem.W.Frag) (a : Addr) (us : List Value) (ns : List Int) (cs : List (Addr × Addr)) : Hp := fun b => if b ∈ cs.map (·.2) then some (.tbl #[]) else scrH K a us ns b
theorem scrT_some {b : Addr} {u : HO} (h : scrT K a us ns cs b = some u) : (b ∈ cs.map (·.2) ∧ u = .tbl #[]) ∨ (b ∉ cs.map (·.2) ∧ b = a ∧ K.lookup a = none ∧ u = .frz { cls := .type "list", data := .seq us.toArray } (.lst (ns.map V.int))) := by
  unfold scrT at h
  by_cases c : b ∈ cs.map (·.2)
  · rw [if_pos c] at h
    exact .inl ⟨c, (Option.some.inj h).symm⟩
  · rw [if_neg c] at h
    exact .inr ⟨c, scrH_some h⟩
theorem end_lawT (kin : K.In S.heap) (gl : S.heap.Ns mainGlobals mg) (bl : S.heap.Ns builtinsNs mb) (bb : ∀ y : Str, y ≠ "__name__" → mb y = bootBuiltins y) (nol : S.heap.NoLimit) (gens : S.gens = #[])
    (hT : ∀ p ∈ cs, S.heap.get? p.2 = some { cls := .none, data := .fields #[] }) (nT : ∀ p ∈ cs, K.lookup p.2 = none) (hC : ∀ p ∈ cs, PySem.W.CodeHd S.heap p.1 p.2)
    (hbm : ∃ (bm : Addr) (ob : Obj), mg "__builtins__" = some (.ref bm) ∧ bm ≠ builtinsNs ∧ S.heap.get? bm = some ob ∧ ob.cls = .type "module" ∧ ob.dict = some builtinsNs ∧ ob.data = .plain)
    (scr : S.heap.get? a = some { cls := .type "list", data := .seq us.toArray }) (are : IntsAre us ns) (few : ns.length ≤ sizeLine) (room : RoomG k callerA)
    (F : ∀ base : Heap, K.In base → base.Ns mainGlobals mg → (∀ p ∈ cs, TabB base mg p.1 p.2) → FnG P w K mg base CX k fa fd [x] sp) (bd : ∀ (t : Shared) (u : Value), BindsTo t fd ⟨[u], []⟩ [(x, u)])
    (hsp : ∀ H : Hp, (∀ p ∈ cs, H p.2 = some (.tbl #[])) → SqL K H a (ns.map V.int) → sp [.ref a] H (fun v _ => v = .bl true) fun _ _ _ => False) (out : ∀ H e t, CX [] H S (fun _ _ _ => False) e t → False) :
    codeAny (model P w) callerA (Code.call (Value.ref fa) ⟨[.ref a], []⟩) (fun r t => r = .ok (.ret (.bool true)) ∧ OldK S.heap t.heap ∧ t.os = S.os ∧ AllBare t.gens) S := by
  have rel := vals_ints are
  have lens : us.length = ns.length := are.length
  have isT : ∀ b, b ∈ cs.map (·.2) → S.heap.get? b = some { cls := .none, data := .fields #[] } := fun b hb => by
    obtain ⟨p, hp, e⟩ := List.mem_map.mp hb
    rw [← e]
    exact hT p hp
  have kT : ∀ b, b ∈ cs.map (·.2) → K.lookup b = none := fun b hb => by
    obtain ⟨p, hp, e⟩ := List.mem_map.mp hb
    rw [← e]
    exact nT p hp
  have aT : a ∉ cs.map (·.2) := fun z => by
    have q := isT a z
    rw [scr] at q
    cases (show Data.seq us.toArray _ = Data.fields #[] from congrArg Obj.data (Option.some.inj q))
  let H := scrT K a us ns cs
  have one : ∀ {b : Addr} {u : HO}, H b = some u → (b ∈ cs.map (·.2) ∧ u = .tbl #[]) ∨ (b ∉ cs.map (·.2) ∧ b = a ∧ K.lookup a = none ∧ u = .frz { cls := .type "list", data := .seq us.toArray } (.lst (ns.map V.int))) := fun h => scrT_some h
  have tabH : ∀ p ∈ cs, H p.2 = some (.tbl #[]) := fun p hp => if_pos (List.mem_map.mpr ⟨p, hp, rfl⟩)
  have ok : HOk P w H S.heap := fun b u h => by
    rcases one h with ⟨hb, rfl⟩ | ⟨_, rfl, _, rfl⟩
    · exact isT b hb
    · exact ⟨scr, (by rw [List.length_map]; exact few), us, 0, rel, scr⟩
  -- what is neither a list nor an empty table is untracked
  have free : ∀ {b : Addr} {o : Obj}, S.heap.get? b = some o → (∀ vs n, o.data ≠ .seq vs n) → o.data ≠ .fields #[] → H b = none := fun {b o} e h1 h2 => by
    cases q : H b with
    | none => rfl
    | some u =>
      rcases one q with ⟨hb, _⟩ | ⟨_, rfl, _, _⟩
      · rw [isT b hb] at e
        cases e
        exact (h2 rfl).elim
      · rw [scr] at e
        cases e
        exact (h1 _ _ rfl).elim
  have ns_of : ∀ {b : Addr} {m : Str → Option Value}, S.heap.Ns b m → (hidT S.heap H).Ns b m := by
    rintro b m ⟨o, es, ep, e, d, r⟩
    exact ⟨o, es, ep, hidT_get e (free e (fun vs n z => by rw [d] at z; cases z) fun z => by rw [d] at z; cases z), d, r⟩
  have kin0 : K.In (hidT S.heap H) := fun b o e => hidT_get (kin b o e) (by
    cases q : H b with
    | none => rfl
    | some u =>
      rcases one q with ⟨hb, _⟩ | ⟨_, rfl, nk, _⟩
      · rw [kT b hb] at e
        cases e
      · rw [nk] at e
        cases e)
  have gl0 := ns_of gl
  have TB : ∀ p ∈ cs, TabB (hidT S.heap H) mg p.1 p.2 := fun p hp => by
    have hTp := hT p hp
    refine ⟨?_, ?_, fun z => ?_⟩
    · obtain ⟨o, vs, file, tf, flags, tg, inF, text, tt, e1, r1, r2, r3, r⟩ := hC p hp
      refine ⟨o, vs, file, tf, flags, tg, inF, text, tt, hidT_get e1 (free e1 (fun vs n z => by rw [r2] at z; cases z) fun z => ?_), r1, r2, r3, r⟩
      rw [r2] at z
      cases z
      simp at r3
    · obtain ⟨bm, ob, b1, b2, b3, b4, b5, b6⟩ := hbm
      have nG : bm ≠ mainGlobals := fun q => by
        obtain ⟨o, es, ep, e, hd, _⟩ := gl
        rw [q, e] at b3
        cases b3
        rw [hd] at b6
        cases b6
      have nP : bm ≠ p.2 := fun q => by
        rw [q, hTp] at b3
        cases b3
        cases b6
      exact ⟨bm, ob, b1, b2, nG, nP, hidT_get b3 (free b3 (fun vs n z => by rw [b6] at z; cases z) fun z => by rw [b6] at z; cases z), b4, b5, b6⟩
    · obtain ⟨o, es, ep, e, hd, _⟩ := gl
      rw [z, hTp] at e
      cases e
      cases hd
  obtain ⟨mc, l1, l2⟩ := nol
  have e0 : Env0 P w K mg (hidT S.heap H) callerA [] S H := by
    refine ⟨rfl, ⟨kin0, gl0, ⟨mb, ns_of bl, bb⟩, ⟨mc, ns_of l1, l2⟩⟩, fun b o e => of_hidT e, ?_, trivial, ?_, ok, AllBare.of_eq gens⟩
    · rw [hidT_size]
      exact Nat.le_refl _
    · intro b hb
      cases (show b ∈ ([] : List Addr) from hb)
  have sq : SqL K H a (ns.map V.int) := by
    cases hk : K.lookup a with
    | none => exact Or.inl (Or.inr ⟨_, (if_neg aT).trans (if_pos ⟨rfl, hk⟩)⟩)
    | some o =>
      have e := kin a o hk
      rw [scr] at e
      cases e
      exact Or.inr ⟨_, us.toArray, _, hk, rfl, rfl, rfl, (by rw [List.size_toArray, lens]; exact few), (by simpa using rel)⟩
  refine codeAny_mono ((F _ kin0 gl0 TB).runs callerA room [] S H ⟨[.ref a], []⟩ [.ref a] [.ref a] _ _ e0 (bd S (.ref a)) (Paired.cons rfl .nil) (hsp H tabH sq)) fun r t h => ?_
  match r, h with
  | .error e, h => exact (out H e t h).elim
  | .ok .next, h => exact h.elim
  | .ok .brk, h => exact h.elim
  | .ok .cont, h => exact h.elim
  | .ok (.ret u), ⟨v, H1, os, bare, un, ok1, rv, q⟩ =>
    have q1 : v = .bl true := q
    subst q1
    cases (show u = Value.bool true from rv)
    have key : ∀ b o, b ∉ cs.map (·.2) → S.heap.get? b = some o → t.heap.get? b = some o := fun b o nb e => by
      cases z : H b with
      | none => exact un.keep b o e z (fun m => nomatch (show b ∈ ([] : List Addr) from m)) (fun m => nomatch m)
      | some u =>
        rcases one z with ⟨hb, _⟩ | ⟨_, rfl, _, rfl⟩
        · exact absurd hb nb
        · obtain ⟨e2, _⟩ := ok1 b _ (un.frzs b _ _ z)
          rw [scr] at e
          cases e
          exact e2
    have grown : ∀ p ∈ cs, ∃ more : Array Value, t.heap.get? p.2 = some { cls := .none, data := .fields more } := fun p hp => by
      obtain ⟨more, z⟩ := un.tbls p.2 #[] (tabH p hp)
      exact ⟨_, ok1 p.2 _ z⟩
    refine ⟨rfl, ⟨fun b o e => ?_, fun b o e => ?_⟩, os, bare⟩
    · by_cases hb : b ∈ cs.map (·.2)
      · obtain ⟨p, hp, ep⟩ := List.mem_map.mp hb
        obtain ⟨more, hm⟩ := grown p hp
        rw [← ep] at e ⊢
        rw [hT p hp] at e
        cases e
        exact .inr (.inl ⟨((hC p hp).tab (hT p hp)).isCodeTable, rfl, #[], more, rfl, by rw [Array.empty_append]; exact hm⟩)
      · exact .inl (key b o hb e)
    · by_cases hb : b ∈ cs.map (·.2)
      · obtain ⟨p, hp, ep⟩ := List.mem_map.mp hb
        obtain ⟨more, hm⟩ := grown p hp
        rw [← ep]
        exact ⟨_, hm⟩
      · exact ⟨o, key b o hb e⟩
end
/-- what is known of the law's promise at the head's heap -/
def LawAtG (l : PySem.W.OpenLaw) (w : World) (K : PySem.W.Frag) (k n : Nat) (x : Str) (mg : Str → Option Value) (fa : Addr) (h : Heap) : Prop :=
  ∃ (fd : FuncData) (cs : List (Addr × Addr)) (sp : Sp), (∀ p ∈ cs, h.get? p.2 = some { cls := .none, data := .fields #[] }) ∧ (∀ p ∈ cs, K.lookup p.2 = none) ∧ (∀ p ∈ cs, PySem.W.CodeHd h p.1 p.2) ∧ (∀ (s : Shared) (u : Value), BindsTo s fd ⟨[u], []⟩ [(x, u)]) ∧
    (∀ (H : Hp) (a : Addr) (ns : List Int), ns.length ≤ n → (∀ p ∈ cs, H p.2 = some (.tbl #[])) → SqL K H a (ns.map V.int) → sp [.ref a] H (fun v _ => v = .bl true) fun _ _ _ => False) ∧
    ∀ base : Heap, K.In base → base.Ns mainGlobals mg → (∀ p ∈ cs, TabB base mg p.1 p.2) → FnG l.prog w K mg base CX0 k fa fd [x] sp
theorem walk_ofGT {l : PySem.W.OpenLaw} {n k : Nat} {q : Program} {loose : List Str} {XP : (Str → Option Value) → Heap → Prop} {YP : World → Heap → Prop} {d : DefRec} {K : Params → PySem.W.Frag} {x : Str}
    (hn : l.most = some n) (hn2 : n ≤ sizeLine) (hdf : d.params.defaults = []) (room : RoomG k callerA) (hY : ∀ (w : World) (h : Heap), YP w h → (K w.params).In h)
    (F : ∀ (w : World) (mg : Str → Option Value) (fa : Addr) (h : Heap), YP w h → (K w.params).In h → h.Ns mainGlobals mg → mg d.name = some (.ref fa) → LawAtG l w (K w.params) k n x mg fa h) :
    PySem.W.WalkO q loose XP YP l.row.toRowW d [] (fun f vs => PySem.call f vs) :=
  Att.attach_call hn hdf fun w s0 s1 mg mb fa o pm cd doc a us ns G Y ho hd hcd hmg hobj hints hlen hg => by
    have kin := hY w _ Y
    obtain ⟨fd, cs, sp, hT, nT, hC, bd, hsp, hF⟩ := F w mg fa _ Y kin G.T.g hmg
    exact end_lawT kin G.T.g G.T.b G.T.builtins G.T.nolimit hg hT nT hC G.T.bmain hobj hints (Nat.le_trans hlen hn2) room hF bd (fun H ht hs => hsp H a ns hlen ht hs) fun _ _ _ z => z
end EE

/-! Own layer: objects of own classes, one step each. -/
namespace EE
open PySem PySem.Spec PyProof.Rows L2 LamX
section
variable {K : PySem.W.Frag} {C : Addr} {f m : Str} {σ : L2.St} {H : Hp} {Q : VK} {E : XK} {ta te : TE} {t : TA} {sp : Sp} {dvs : List V} {D : Ends} {a dx : Addr} {fs : List (Str × V)} {v y : V}
def FldAt (K : PySem.W.Frag) (f : Str) (x : V) (H1 : Hp) (Q : VK) : Prop := ∃ a C dx fs v, x = .ref a ∧ H1 a = some (.ins C dx fs) ∧ Cls K C ∧ NoAttr K C f ∧ fs.lookup f = some v ∧ Q v H1
theorem rd_fld (h : ta σ H fun x H1 => FldAt K f x H1 Q) : tFld K ta f σ H Q := h
theorem fld_at (h : H a = some (.ins C dx fs)) (c : Cls K C) (n : NoAttr K C f) (l : fs.lookup f = some v) (q : Q v H) : FldAt K f (.ref a) H Q := ⟨a, C, dx, fs, v, rfl, h, c, n, l, q⟩
def SFldAt (K : PySem.W.Frag) (f : Str) (y x : V) (D : Ends) (σ : L2.St) (H2 : Hp) : Prop := ∃ a C dx fs, x = .ref a ∧ H2 a = some (.ins C dx fs) ∧ Cls K C ∧ NoAttr K C f ∧ fs.length < 1000 ∧ D.nx σ (upd H2 a (.ins C dx (putF f y fs)))
theorem rd_sfld (h : te σ H fun y H1 => ta σ H1 fun x H2 => SFldAt K f y x D σ H2) : sFld K ta te f D σ H := h
theorem sfld_at (h : H a = some (.ins C dx fs)) (c : Cls K C) (n : NoAttr K C f) (hl : fs.length < 1000) (q : ∀ H', But a H H' → H' a = some (.ins C dx (putF f y fs)) → D.nx σ H') : SFldAt K f y (.ref a) D σ H := ⟨a, C, dx, fs, rfl, h, c, n, hl, q _ but_upd upd_same⟩
def SAugAt (K : PySem.W.Frag) (tv : TE) (rd : V → V → Hp → VK → Prop) (f : Str) (x : V) (D : Ends) (σ : L2.St) (H1 : Hp) : Prop := ∃ a C dx fs v, x = .ref a ∧ H1 a = some (.ins C dx fs) ∧ Cls K C ∧ NoAttr K C f ∧ fs.lookup f = some v ∧
  tv σ H1 fun y H2 => rd v y H2 fun z H3 => ∃ dx' fs', H3 a = some (.ins C dx' fs') ∧ fs'.length < 1000 ∧ D.nx σ (upd H3 a (.ins C dx' (putF f z fs')))
theorem rd_saug {rd : V → V → Hp → VK → Prop} (h : ta σ H fun x H1 => SAugAt K te rd f x D σ H1) : sFldAug K ta te rd f D σ H := h
/-- o.f += j, numbers -/
theorem saug_at {i j : Int} (h : H a = some (.ins C dx fs)) (c : Cls K C) (n : NoAttr K C f) (hl : fs.length < 1000) (l : fs.lookup f = some (.int i)) (q : ∀ H', But a H H' → H' a = some (.ins C dx (putF f (.int (i + j)) fs)) → D.nx σ H') : SAugAt K (tC (.int j)) rAdd f (.ref a) D σ H :=
  ⟨a, C, dx, fs, _, rfl, h, c, n, l, i, j, rfl, rfl, dx, fs, h, hl, q _ but_upd upd_same⟩
def PropAt (C : Addr) (sp : Sp) (dvs : List V) (E : XK) (x : V) (H1 : Hp) (Q : VK) : Prop := ∃ a dx fs, x = .ref a ∧ H1 a = some (.ins C dx fs) ∧ sp (.ref a :: dvs) H1 Q E
theorem rd_prop (h : ta σ H fun x H1 => PropAt C sp dvs E x H1 Q) : tProp C sp dvs E ta σ H Q := h
theorem prop_at (h : H a = some (.ins C dx fs)) (q : sp (.ref a :: dvs) H Q E) : PropAt C sp dvs E (.ref a) H Q := ⟨a, dx, fs, rfl, h, q⟩
def MethAt (C : Addr) (m : Str) (sp : Sp) (dvs : List V) (E : XK) (t : TA) (σ : L2.St) (x : V) (H1 : Hp) (Q : VK) : Prop := ∃ a dx fs, x = .ref a ∧ H1 a = some (.ins C dx fs) ∧ fs.lookup m = none ∧ t σ H1 fun vs H2 => sp (x :: (vs ++ dvs)) H2 Q E
theorem rd_meth (h : ta σ H fun x H1 => MethAt C m sp dvs E t σ x H1 Q) : tMeth C m sp dvs E ta t σ H Q := h
theorem meth_at (h : H a = some (.ins C dx fs)) (l : fs.lookup m = none) (q : t σ H fun vs H2 => sp (.ref a :: (vs ++ dvs)) H2 Q E) : MethAt C m sp dvs E t σ (.ref a) H Q := ⟨a, dx, fs, rfl, h, l, q⟩
def MakeAt (C : Addr) (sp : Sp) (dvs : List V) (E : XK) (vs : List V) (H1 : Hp) (Q : VK) : Prop := ∀ x dx, H1 x = none → H1 dx = none → dx ≠ x → sp (.ref x :: (vs ++ dvs)) (upd (upd H1 dx (.own x)) x (.ins C dx [])) (fun v H2 => v = .non ∧ Q (.ref x) H2) E
theorem rd_make (h : t σ H fun vs H1 => MakeAt C sp dvs E vs H1 Q) : tMake C sp dvs E t σ H Q := h
theorem make_at {vs : List V} (q : ∀ x dx H2, H x = none → Same H H2 → H2 x = some (.ins C dx []) → sp (.ref x :: (vs ++ dvs)) H2 (fun v H3 => v = .non ∧ Q (.ref x) H3) E) : MakeAt C sp dvs E vs H Q := fun x dx nx nd ne => by
  refine q x dx _ nx (fun b o e => ?_) upd_same
  rw [upd_ne (ne_of_none e nx), upd_ne (ne_of_none e nd)]
  exact e
theorem rd_split {z b : Str} (hz : z.length ≤ 1000000) (hb : (b.length == 0) = false) (q : ∀ p H2, H p = none → Same H H2 → H2 p = some (.lst ((Txt.split z b).map V.str)) → Q (.ref p) H2) :
    (fun x xs H Q => ∃ a b, x = V.str a ∧ xs = [V.str b] ∧ (b.length == 0) = false ∧ a.length + 2 ≤ sizeLine ∧ rNewStrs (Txt.split a b) H Q) (V.str z) [V.str b] H Q :=
  ⟨z, b, rfl, rfl, hb, Nat.le_trans (Nat.add_le_add_right hz 2) (by decide), fun p hp => q p _ hp (same_new hp) upd_same⟩
end
/-- a text's split, as rd_M1 leaves it -/
def SplitAt (z b : Str) (H : Hp) (Q : VK) : Prop := ∃ a c, V.str z = V.str a ∧ [V.str b] = [V.str c] ∧ (c.length == 0) = false ∧ a.length + 2 ≤ sizeLine ∧ rNewStrs (Txt.split a c) H Q
theorem split_at {z b : Str} {H : Hp} {Q : VK} (hz : z.length ≤ 1000000) (hb : (b.length == 0) = false) (q : ∀ p H2, H p = none → Same H H2 → H2 p = some (.lst ((Txt.split z b).map V.str)) → Q (.ref p) H2) : SplitAt z b H Q :=
  ⟨z, b, rfl, rfl, hb, Nat.le_trans (Nat.add_le_add_right hz 2) (by decide), fun p hp => q p _ hp (same_new hp) upd_same⟩
/-! ### all but one object and the tables stay -/
def ExB (p : Addr) (H H' : Hp) : Prop := ∀ b o, b ≠ p → H b = some o → (∀ ps, o ≠ .tbl ps) → H' b = some o
theorem ExB.refl (p : Addr) (H : Hp) : ExB p H H := fun _ _ _ h _ => h
theorem ExB.trans {p : Addr} {H H1 H2 : Hp} (a : ExB p H H1) (b : ExB p H1 H2) : ExB p H H2 := fun c o n h z => b c o n (a c o n h z) z
theorem _root_.L2.But.exB {p : Addr} {H H' : Hp} (a : But p H H') : ExB p H H' := fun c o n h _ => a c o n h
theorem _root_.EE.But.exB {p : Addr} {H H' : Hp} (a : But p H H') : ExB p H H' := fun c o n h _ => a c o n h
theorem _root_.L2.Same.exB {p : Addr} {H H' : Hp} (a : Same H H') : ExB p H H' := fun c o _ h _ => a c o h
theorem _root_.L2.Same.exN {H H' : Hp} (a : Same H H') : ExtN H H' := fun c o h _ => a c o h
theorem _root_.LamX.ExtN.exB {p : Addr} {H H' : Hp} (a : ExtN H H') : ExB p H H' := fun c o _ h z => a c o h z
theorem ExB.exN {p : Addr} {H H' : Hp} (a : ExB p H H') (n : H p = none) : ExtN H H' := fun c o h z => a c o (ne_of_none h n) h z
theorem _root_.LamX.Tabs.but {T : List (Addr × Str)} {p : Addr} {H H' : Hp} (t : Tabs T H) (s : But p H H') (o : HO) (ho : H p = some o) (n1 : ∀ ps, o ≠ .tbl ps) (n2 : ∀ c q, o ≠ CodeO c q) : Tabs T H' := fun x hx => by
  obtain ⟨ps, h1, h2, h3⟩ := t x hx
  refine ⟨ps, s _ _ (fun z => ?_) h1, h2, fun pos cv hc => ?_⟩
  · rw [z, ho] at h1
    exact n1 ps (Option.some.inj h1)
  · obtain ⟨c, e1, e2⟩ := h3 pos cv hc
    refine ⟨c, e1, s _ _ (fun z => ?_) e2⟩
    rw [z, ho] at e2
    exact n2 _ _ (Option.some.inj e2)
/-- a call that raises nothing, by a weaker wish -/
theorem CallsAt.mono {P : Program} {w : World} {K : PySem.W.Frag} {mg : Str → Option Value} {base : Heap} {CX : CXT} {k : Nat} {f : Addr} {vs : List V} {H : Hp} {Q Q' : VK} {E E' : XK} (h : CallsAt P w K mg base C8.CX0 k f vs H Q E) (hQ : ∀ v H', Q v H' → Q' v H') : CallsAt P w K mg base CX k f vs H Q' E' :=
  fun A outer s us hr e0 r => codeAny_mono (h A outer s us hr e0 r) fun r s' z => match r, z with
    | .error _, z => z.elim
    | .ok (.ret u), ⟨w', H', a1, a2, a3, a4, a5, q⟩ => ⟨w', H', a1, a2, a3, a4, a5, hQ _ _ q⟩
    | .ok .next, z => z.elim
    | .ok .brk, z => z.elim
    | .ok .cont, z => z.elim
end EE

/-! Own layer: comprehensions by a property of the heap (elements that make objects). -/
namespace EE
open PySem PySem.Spec PyProof.Rows L2 LamX
section
variable {K : PySem.W.Frag} {σ : L2.St} {H : Hp} {Q : VK} {g : TG} {tt : TT} {te : TE} {vs : List Nat} {a : Addr} {xs : List V}
theorem lcat_enumP (Pv : Addr → Nat → Hp → Prop) (hq : ∀ D i H', H D = none → Pv D i H' → SqL K H' a xs) (h0 : ∀ D, H D = none → Pv D 0 (upd H D (.lst [])))
    (hs : ∀ D i x T H' H2, H D = none → xs[i]? = some x → Pv D i H' → H' T = none → Same H' H2 → H2 T = some (.tup [.int (i : Nat), x]) → g (.ref T) (wipe σ vs) H2 fun σ2 H3 => wipe σ2 vs = wipe σ vs ∧ tt σ2 H3 fun b H4 =>
      if b = true then te σ2 H4 fun y H5 => ∃ acc, H5 D = some (.lst acc) ∧ acc.length < sizeLine ∧ Pv D (i + 1) (upd H5 D (.lst (acc ++ [y]))) else Pv D (i + 1) H4)
    (hd : ∀ D H', H D = none → Pv D xs.length H' → Q (.ref D) H') : LcAt g tt te vs σ Q (Ite K a) H := fun D hD => by
  refine ⟨fun i m H' => m = xs.length - i ∧ i ≤ xs.length ∧ Pv D i H', ⟨xs.length, by simp, Nat.zero_le _, h0 D hD⟩, ?_⟩
  rintro i m H' ⟨rfl, hi, p⟩
  by_cases hlt : i < xs.length
  · refine .inr ⟨⟨xs, xs[i], hq D i H' hD p, List.getElem?_eq_getElem hlt⟩, Pv D (i + 1), fun H2 p' => ⟨xs.length - (i + 1), by omega, rfl, hlt, p'⟩, fun y H2 q => ?_⟩
    obtain ⟨T, x, rfl, hT, rfl, hx⟩ := q
    exact hs D i x T H' _ hD (hx xs (hq D i H' hD p)) p hT (same_new hT) upd_same
  · have e : i = xs.length := by omega
    subst e
    exact .inl ⟨⟨xs, hq D _ H' hD p, Nat.le_refl _⟩, hd D H' hD p⟩
theorem lcat_tupP (Pv : Addr → Nat → Hp → Prop) (hq : ∀ D i H', H D = none → Pv D i H' → SqT K H' a xs) (h0 : ∀ D, H D = none → Pv D 0 (upd H D (.lst [])))
    (hs : ∀ D i x H', H D = none → xs[i]? = some x → Pv D i H' → g x (wipe σ vs) H' fun σ2 H2 => wipe σ2 vs = wipe σ vs ∧ tt σ2 H2 fun b H3 =>
      if b = true then te σ2 H3 fun y H4 => ∃ acc, H4 D = some (.lst acc) ∧ acc.length < sizeLine ∧ Pv D (i + 1) (upd H4 D (.lst (acc ++ [y]))) else Pv D (i + 1) H3)
    (hd : ∀ D H', H D = none → Pv D xs.length H' → Q (.ref D) H') : LcAt g tt te vs σ Q (Itt K a) H := fun D hD =>
  lc_tup (K := K) (xs := xs) (Pv D) (h0 D hD) (fun i H' _ p => hq D i H' hD p) (fun i x H' hc p => hs D i x H' hD hc p) fun H' p => hd D H' hD p
theorem lcat_listP (Pv : Addr → Nat → Hp → Prop) (hq : ∀ D i H', H D = none → Pv D i H' → SqL K H' a xs) (h0 : ∀ D, H D = none → Pv D 0 (upd H D (.lst [])))
    (hs : ∀ D i x H', H D = none → xs[i]? = some x → Pv D i H' → g x (wipe σ vs) H' fun σ2 H2 => wipe σ2 vs = wipe σ vs ∧ tt σ2 H2 fun b H3 =>
      if b = true then te σ2 H3 fun y H4 => ∃ acc, H4 D = some (.lst acc) ∧ acc.length < sizeLine ∧ Pv D (i + 1) (upd H4 D (.lst (acc ++ [y]))) else Pv D (i + 1) H3)
    (hd : ∀ D H', H D = none → Pv D xs.length H' → Q (.ref D) H') : LcAt g tt te vs σ Q (Itl K a) H := fun D hD =>
  lc_list (K := K) (xs := xs) (Pv D) (h0 D hD) (fun i H' _ p => hq D i H' hD p) (fun i x H' hc p => hs D i x H' hD hc p) fun H' p => hd D H' hD p
theorem rd_iEnum {ta : TA} {R : It → Hp → Prop} (h : ta σ H fun vs H1 => ∃ a, vs = [.ref a] ∧ (∃ xs, SqL K H1 a xs) ∧ R (Ite K a) H1) : iEnum K ta σ H R := by
  show ta σ H fun vs H1 => ∃ a xs, vs = [.ref a] ∧ SqL K H1 a xs ∧ R (Ite K a) H1
  have e : (fun (vs : List V) H1 => ∃ a, vs = [.ref a] ∧ (∃ xs, SqL K H1 a xs) ∧ R (Ite K a) H1) = fun (vs : List V) H1 => ∃ a xs, vs = [.ref a] ∧ SqL K H1 a xs ∧ R (Ite K a) H1 := by
    funext vs H1
    exact propext ⟨fun ⟨a, e, ⟨xs, h⟩, r⟩ => ⟨a, xs, e, h, r⟩, fun ⟨a, xs, e, h, r⟩ => ⟨a, e, ⟨xs, h⟩, r⟩⟩
  rw [← e]
  exact h
theorem rd_exRs {a : Addr} {P : Addr → Prop} (h : P a) : ∃ b, [V.ref a] = [V.ref b] ∧ P b := ⟨a, rfl, h⟩
end
theorem pg_tupK {X : Cx} {K : PySem.W.Frag} {pos : Pos} {es : List Expr} {k : Nat} {t : TGs} {n : Nat} (e : X.K = K) (hc : X.calm = true) (h : PGs X es t)
    (hn : (assignEach es X.env).length = n := by rfl) (hst : (assignEach es X.env).findIdx? (·.1) = none := by rfl) : PG X (.Tuple es k pos) (gTup K n t) := by
  subst e
  exact pg_tup hc h hn hst
theorem pe_fldK {X : Cx} {K : PySem.W.Frag} {o : Expr} {f : Str} {pos : Pos} {ta : TE} (e : X.K = K) (he : PE X o ta) (hb : attributeBase o f X.env (eval o X.env) = eval o X.env) : PE X (.Attribute o f pos) (tFld K ta f) := by
  subst e
  exact pe_fld he hb
def StarAt (K : PySem.W.Frag) (t : TA) (σ : L2.St) (Q : List V → Hp → Prop) (x : V) (H1 : Hp) : Prop := ∃ p xs, x = V.ref p ∧ (SqT K H1 p xs ∨ SqL K H1 p xs) ∧ t σ H1 fun ys H2 => Q (xs ++ ys) H2
theorem rd_star {K : PySem.W.Frag} {σ : L2.St} {H : Hp} {te : TE} {t : TA} {Q : List V → Hp → Prop} (h : te σ H fun x H1 => StarAt K t σ Q x H1) : StX.tStar K te t σ H Q := h
theorem star_lst {K : PySem.W.Frag} {σ : L2.St} {H : Hp} {t : TA} {Q : List V → Hp → Prop} {p : Addr} {xs : List V} (h : H p = some (.lst xs)) (q : t σ H fun ys H2 => Q (xs ++ ys) H2) : StarAt K t σ Q (.ref p) H := ⟨p, xs, rfl, .inr (sqL_of h), q⟩
theorem ExB.grow {p D : Addr} {H0 H : Hp} {o : HO} (hD : H0 D = none) (h : ExB p H0 H) : ExB p H0 (upd H D o) := fun b u n e z => by
  rw [upd_ne (ne_of_none e hD)]
  exact h b u n e z
theorem _root_.LamX.Tabs.lst {T : List (Addr × Str)} {p : Addr} {H H' : Hp} {xs : List V} (t : LamX.Tabs T H) (s : But p H H') (ho : H p = some (.lst xs)) : LamX.Tabs T H' := t.but s _ ho (fun ps z => by cases z) fun c q z => by
  unfold LamX.CodeO at z
  cases z
theorem _root_.LamX.Tabs.ins {T : List (Addr × Str)} {p C dx : Addr} {H H' : Hp} {fs : List (Str × V)} (t : LamX.Tabs T H) (s : But p H H') (ho : H p = some (.ins C dx fs)) : LamX.Tabs T H' := t.but s _ ho (fun ps z => by cases z) fun c q z => by
  unfold LamX.CodeO at z
  cases z
end EE

/-! Own layer: a module's dict with text keys, asked for any text. -/
namespace EE
open PySem PySem.Spec PyProof.Rows L2 LamX
def keyOfE (e : DictEntry) : Option Str × Value := (match e.key with | .str x _ => some x | _ => none, e.val)
theorem isStr_key {v : Value} {x z : Str} {t : Tok} (h : v = .str x t) : v.isStr z = decide (z = x) := by
  subst h
  show (x == z) = _
  by_cases e : z = x
  · rw [decide_eq_true e, e]
    exact beq_iff_eq.mpr rfl
  · rw [decide_eq_false e]
    exact beq_eq_false_iff_ne.mpr fun q => e q.symm
theorem find_lit : ∀ {es : List DictEntry} {kv : List (Str × Value)} (z : Str), es.map keyOfE = kv.map (fun p => (some p.1, p.2)) →
    (match es.find? (·.key.isStr z) with | some e => some (some e.val) | none => if es.any (·.refKey) then none else some none) = some (kv.lookup z)
  | [], [], z, _ => rfl
  | [], _ :: _, z, h => by cases h
  | _ :: _, [], z, h => by cases h
  | e :: es, (k, u) :: kv, z, h => by
    rw [List.map_cons, List.map_cons] at h
    injection h with h1 h2
    have ih := find_lit z h2
    obtain ⟨t, hk⟩ : ∃ t, e.key = .str k t := by
      unfold keyOfE at h1
      injection h1 with q1 q2
      split at q1
      · rename_i x t q
        cases q1
        exact ⟨t, q⟩
      · cases q1
    have hv : e.val = u := by
      unfold keyOfE at h1
      injection h1
    rw [List.find?_cons, isStr_key hk]
    by_cases c : z = k
    · rw [decide_eq_true c]
      subst c
      simp only [List.lookup, beq_self_eq_true]
      rw [hv]
    · rw [decide_eq_false c]
      have hb : (z == k) = false := beq_eq_false_iff_ne.mpr c
      simp only [List.lookup, hb]
      rw [← ih]
      have hr : e.refKey = false := by
        unfold DictEntry.refKey
        rw [hk]
      have ea : (e :: es).any (·.refKey) = es.any (·.refKey) := by
        rw [List.any_cons, hr, Bool.false_or]
      rw [ea]
/-- what a look for any text tells -/
theorem nsIn_lit {K : PySem.W.Frag} {d : Addr} {es : Array DictEntry} {n : Nat} {kv : List (Str × Value)} (l : K.lookup d = some ⟨.type "dict", none, .dict es n, #[]⟩) (h : es.toList.map keyOfE = kv.map (fun p => (some p.1, p.2))) (z : Str) : PySem.W.nsIn K d z = some (kv.lookup z) := by
  unfold PySem.W.nsIn
  rw [l]
  exact find_lit z h
theorem sqT_K {K : PySem.W.Frag} {H : Hp} {p : Addr} {its : Array Value} {n : Nat} {xs : List V} (l : K.lookup p = some ⟨.type "tuple", none, .seq its n, #[]⟩) (hs : its.size ≤ sizeLine) (r : Vals xs its.toList) : SqT K H p xs := .inr ⟨_, its, n, l, rfl, rfl, hs, r⟩
end EE

/-! Own layer: str of a text or a number. -/
namespace EE
open PySem PySem.Spec PyProof.Rows L2
def strV : V → Str | .str z => z | .int i => (toString i : String) | _ => ""
def rStrV : List V → Hp → VK → Prop := fun xs H Q => ∃ v, xs = [v] ∧ ((∃ z, v = .str z) ∨ ∃ i : Int, v = .int i ∧ i.natAbs.log2 < 1920) ∧ Q (.str (strV v)) H
theorem cr_strV {X : Cx} : CallR X (.type "str") rStrV := by
  rintro pins s σ H xs us Q I r ⟨v, rfl, h, q⟩
  rcases h with ⟨z, rfl⟩ | ⟨i, rfl, hi⟩
  · exact SkE.call_str_str pins s σ H _ us Q I r ⟨z, rfl, q⟩
  · exact call_str_int pins s σ H _ us Q I r ⟨i, rfl, hi, q⟩
theorem pi_tupK {X : Cx} {K : PySem.W.Frag} {tg e : Expr} {te : TE} (h : X.K = K) (ha : PI X tg e (iTup X.K te)) : PI X tg e (iTup K te) := by
  subst h
  exact ha
theorem pi_listK {X : Cx} {K : PySem.W.Frag} {tg e : Expr} {te : TE} (h : X.K = K) (ha : PI X tg e (iList X.K te)) : PI X tg e (iList K te) := by
  subst h
  exact ha
theorem mtK {X : Cx} {K : PySem.W.Frag} {id : String} (r : PySem.W.Frag → V → List V → Hp → VK → Prop) (h : X.K = K) (c : MtR X id (r X.K)) : MtR X id (r K) := by
  subst h
  exact c
theorem crK {X : Cx} {K : PySem.W.Frag} {f : Value} (r : PySem.W.Frag → List V → Hp → VK → Prop) (h : X.K = K) (c : CallR X f (r X.K)) : CallR X f (r K) := by
  subst h
  exact c
theorem opK {X : Cx} {K : PySem.W.Frag} {op : Value → Value → Sem Value} (r : PySem.W.Frag → V → V → Hp → VK → Prop) (h : X.K = K) (c : OpR X op (r X.K)) : OpR X op (r K) := by
  subst h
  exact c
end EE

/-! Own layer: dicts one step each; looks along a row of heaps. -/
namespace EE
open PySem PySem.Spec PyProof.Rows L2
section
variable {K : PySem.W.Frag} {σ : L2.St} {H : Hp} {Q : VK} {D : Ends} {td ty tv : TE} {a : Addr} {kvs : List (Key × V)}
theorem rd_app2 {H : Hp} {Q : VK} {l : Addr} {xs : List V} {y : V} (h : H l = some (.lst xs)) (hl : xs.length ≤ 1000000) (q : ∀ H1, But l H H1 → H1 l = some (.lst (xs ++ [y])) → Q .non H1) : rAppend (.ref l) [y] H Q := ⟨l, xs, y, rfl, rfl, h, Nat.lt_of_le_of_lt hl (by decide), q _ but_upd upd_same⟩
def DGetAt (x y : V) (H2 : Hp) (Q : VK) : Prop := ∃ a v, x = .ref a ∧ DGet H2 a y (some v) ∧ Q v H2
theorem rd_dget (h : td σ H fun x H1 => ty σ H1 fun y H2 => DGetAt x y H2 Q) : tDGet td ty σ H Q := h
def DInAt (y x : V) (H2 : Hp) (Q : VK) : Prop := ∃ a o, x = .ref a ∧ DGet H2 a y o ∧ Q (.bl o.isSome) H2
theorem rd_din (h : ty σ H fun y H1 => td σ H1 fun x H2 => DInAt y x H2 Q) : tDIn ty td σ H Q := h
def DNotInAt (y x : V) (H2 : Hp) (Q : VK) : Prop := ∃ a o, x = .ref a ∧ DGet H2 a y o ∧ Q (.bl (!o.isSome)) H2
theorem rd_dnotin (h : ty σ H fun y H1 => td σ H1 fun x H2 => DNotInAt y x H2 Q) : tDNotIn ty td σ H Q := h
def DPutAt (x y v : V) (D : Ends) (σ : L2.St) (H3 : Hp) : Prop := ∃ a H4, x = .ref a ∧ DPut H3 a y v H4 ∧ D.nx σ H4
theorem rd_dput (h : tv σ H fun v H1 => td σ H1 fun x H2 => ty σ H2 fun y H3 => DPutAt x y v D σ H3) : sDPut td ty tv D σ H := h
theorem dget_s {z : Str} {v : V} (h : H a = some (.dK kvs)) (e : valV kvs (.inr z) = some v) (q : Q v H) : DGetAt (.ref a) (.str z) H Q := ⟨a, v, rfl, by rw [← e]; exact DGet.k (k := .inr z) h, q⟩
theorem dget_i {i : Int} {v : V} (h : H a = some (.dK kvs)) (e : valV kvs (.inl i) = some v) (q : Q v H) : DGetAt (.ref a) (.int i) H Q := ⟨a, v, rfl, by rw [← e]; exact DGet.k (k := .inl i) h, q⟩
theorem din_s {z : Str} (h : H a = some (.dK kvs)) (q : Q (.bl (valV kvs (.inr z)).isSome) H) : DInAt (.str z) (.ref a) H Q := ⟨a, _, rfl, DGet.k (k := .inr z) h, q⟩
theorem dnotin_s {z : Str} (h : H a = some (.dK kvs)) (q : Q (.bl (!(valV kvs (.inr z)).isSome)) H) : DNotInAt (.str z) (.ref a) H Q := ⟨a, _, rfl, DGet.k (k := .inr z) h, q⟩
theorem dput_s {z : Str} {v : V} (h : H a = some (.dK kvs)) (l : kvs.length ≤ 1000) (q : ∀ H1, But a H H1 → H1 a = some (.dK (putK kvs (.inr z) v)) → D.nx σ H1) : DPutAt (.ref a) (.str z) v D σ H :=
  ⟨a, _, rfl, DPut.k (k := .inr z) h (Nat.lt_of_le_of_lt l (by decide)), q _ but_upd upd_same⟩
theorem dput_i {i : Int} {v : V} (h : H a = some (.dK kvs)) (l : kvs.length ≤ 1000) (q : ∀ H1, But a H H1 → H1 a = some (.dK (putK kvs (.inl i) v)) → D.nx σ H1) : DPutAt (.ref a) (.int i) v D σ H :=
  ⟨a, _, rfl, DPut.k (k := .inl i) h (Nat.lt_of_le_of_lt l (by decide)), q _ but_upd upd_same⟩
theorem setD_s {z : Str} {v : V} {Q : Hp → Prop} (h : H a = some (.dK kvs)) (l : kvs.length ≤ 1000) (q : ∀ H1, But a H H1 → H1 a = some (.dK (putK kvs (.inr z) v)) → Q H1) : rSetD (.ref a) (.str z) v H Q :=
  ⟨a, _, rfl, DPut.k (k := .inr z) h (Nat.lt_of_le_of_lt l (by decide)), q _ but_upd upd_same⟩
end
theorem atI_of {α : Type} {xs : List α} {i : Int} {n : Nat} {v : α} (e : i = n) (h : xs[n]? = some v) : atI xs i = some v := by
  have hi := (List.getElem?_eq_some_iff.mp h).1
  subst e
  unfold atI ixN
  rw [if_pos (by omega), if_pos (by omega), Option.bind_some, Int.toNat_natCast]
  exact h
theorem atI_map {α β : Type} {xs : List α} {f : α → β} {i : Int} {n : Nat} {v : α} (e : i = n) (h : xs[n]? = some v) : atI (xs.map f) i = some (f v) := atI_of e (by rw [List.getElem?_map, h]; rfl)
theorem rd_callS {sp : Sp} {E : L2.St → XK} {t : TA} {σ : L2.St} {H : Hp} {Q : VK} (h : t σ H fun vs H1 => sp vs H1 Q (E σ)) : tCallS sp E t σ H Q := h
theorem xw_at {K : PySem.W.Frag} {f : Str} {x v : V} {H : Hp} {Q : VK} {C : Addr} {fs : List (Str × V)} (h : ExW H C x fs) (T : ExK K C) (n : PySem.W.findIn K (.ref C) f = some none) (l : fs.lookup f = some v) (q : Q v H) : XwAt K f x H Q := ⟨C, fs, v, h, T, n, l, q⟩
theorem isw_at {K : PySem.W.Frag} {H : Hp} {Q : VK} {C D : Addr} {x : V} {fs : List (Str × V)} {b : Bool} (h : ExW H C x fs) (T : ExK K C) (e : PySem.W.kitOne K (.ref C) (.ref D) = some b) (q : Q (.bl b) H) : rIsW K [x, .ref D] H Q := ⟨x, .ref D, C, fs, .ref D, b, rfl, h, .own D, T, e, q⟩
theorem isw_ty {K : PySem.W.Frag} {H : Hp} {Q : VK} {C : Addr} {n : String} {x : V} {fs : List (Str × V)} {b : Bool} (h : ExW H C x fs) (T : ExK K C) (e : PySem.W.kitOne K (.ref C) (.type n) = some b) (q : Q (.bl b) H) : rIsW K [x, .ty n] H Q := ⟨x, .ty n, C, fs, .type n, b, rfl, h, .ty n, T, e, q⟩
theorem iswt_two {K : PySem.W.Frag} {H : Hp} {Q : VK} {C D1 D2 tp : Addr} {x : V} {fs : List (Str × V)} {b : Bool} (h : ExW H C x fs) (ht : H tp = some (.tup [.ref D1, .ref D2])) (T : ExK K C) (e : PySem.W.kitAny K (.ref C) [.ref D1, .ref D2] = some b) (q : Q (.bl b) H) : rIsWT K [x, .ref tp] H Q :=
  ⟨x, tp, C, _, fs, _, b, rfl, h, ht, .cons (.own D1) (.cons (.own D2) .nil), T, e, q⟩
theorem rd_par3 {i j l : Nat} {ta : TA} {D : Ends} {σ : L2.St} {H : Hp} (h : ta σ H fun vs H1 => ∃ u v w, vs = [u, v, w] ∧ D.nx (((σ.set i (some u)).set j (some v)).set l (some w)) H1) : tPar3 i j l ta D σ H := h
theorem rd_exP3 {u v w : V} {P : V → V → V → Prop} (h : P u v w) : ∃ a b c, [u, v, w] = [a, b, c] ∧ P a b c := ⟨u, v, w, rfl, h⟩
theorem cut_take {xs : List V} (k : Nat) : cutV xs none (some (k : Int)) = xs.take k := by
  unfold cutV
  rw [HT.sIx_none, HT.sIx_nat, List.drop_zero, Nat.sub_zero]
  by_cases h : k ≤ xs.length
  · rw [Nat.min_eq_left h]
  · rw [Nat.min_eq_right (by omega), List.take_length, List.take_of_length_le (by omega)]
theorem cut_drop {xs : List V} (k : Nat) : cutV xs (some (k : Int)) none = xs.drop k := by
  unfold cutV
  rw [HT.sIx_none, HT.sIx_nat]
  by_cases h : k ≤ xs.length
  · rw [Nat.min_eq_left h]
    exact List.take_of_length_le (by rw [List.length_drop]; exact Nat.le_refl _)
  · rw [Nat.min_eq_right (by omega), List.drop_length, List.drop_of_length_le (by omega)]
    exact List.take_nil
section
variable {K : PySem.W.Frag} {H : Hp} {Q : VK} {a b : Addr} {xs ys : List Str}
/-! lists of texts, cut and put together -/
theorem rd_slTake {k : Nat} (h : SqL K H a (ys.map V.str)) (q : ∀ p H2, H p = none → Same H H2 → H2 p = some (.lst ((ys.take k).map V.str)) → Q (.ref p) H2) : rSlL K (.ref a) none (some (k : Int)) H Q := rd_slL h fun p H2 n s e => q p H2 n s (by rw [e, cut_take, List.map_take])
theorem rd_slDrop {k : Nat} (h : SqL K H a (ys.map V.str)) (q : ∀ p H2, H p = none → Same H H2 → H2 p = some (.lst ((ys.drop k).map V.str)) → Q (.ref p) H2) : rSlL K (.ref a) (some (k : Int)) none H Q := rd_slL h fun p H2 n s e => q p H2 n s (by rw [e, cut_drop, List.map_drop])
theorem rd_slDrop1 {k : Nat} (h : SqL K H a (ys.map V.str)) (q : ∀ p H2, H p = none → Same H H2 → H2 p = some (.lst ((ys.drop (k + 1)).map V.str)) → Q (.ref p) H2) : rSlL K (.ref a) (some ((k : Int) + 1)) none H Q := rd_slL h fun p H2 n s e => q p H2 n s (by rw [e, show (k : Int) + 1 = ((k + 1 : Nat) : Int) by omega, cut_drop, List.map_drop])
theorem rd_catS (h1 : H a = some (.lst (xs.map V.str))) (h2 : H b = some (.lst (ys.map V.str))) (hl : xs.length + ys.length ≤ 100000) (q : ∀ p H2, H p = none → Same H H2 → H2 p = some (.lst ((xs ++ ys).map V.str)) → Q (.ref p) H2) : rCat (.ref a) (.ref b) H Q :=
  rd_cat h1 h2 (by rw [List.length_map, List.length_map]; exact hl) fun p H2 n s e => q p H2 n s (by rw [e, List.map_append])
theorem new_lstS {z : Str} (q : ∀ p H2, H p = none → Same H H2 → H2 p = some (.lst ([z].map V.str)) → Q (.ref p) H2) : NewL [V.str z] H Q := new_lst (by show 1 ≤ sizeLine; decide) q
end
/-- a class by its global name -/
structure GlC (mg : Str → Option Value) (x : Str) (C : Addr) : Prop where
  g : mg x = some (.ref C)
/-- a def that others call, which may raise -/
structure CalX (P : Program) (w : World) (K : PySem.W.Frag) (mg : Str → Option Value) (base : Heap) (k : Nat) (x : Str) (st : Stmt) (ps : List Str) (sp : Sp) (f : Addr) (fd : FuncData) : Prop where
  F : Fun K x x st f fd
  G : FnOk P w K mg base (L2.CX P w) k f fd ps sp
  g : mg x = some (.ref f)
  b : Binds K fd ps []
/-! ### what stands where, along a row of heaps -/
theorem get_same {H H' : Hp} {a : Addr} {o : HO} (s : Same H H') (h : H a = some o) : H' a = some o := s _ _ h
theorem get_but {p : Addr} {H H' : Hp} {a : Addr} {o : HO} (s : But p H H') (n : a ≠ p) (h : H a = some o) : H' a = some o := s _ _ n h
def Has (H : Hp) (a : Addr) : Prop := ∃ o, H a = some o
theorem has_same {H H' : Hp} {a : Addr} (s : Same H H') (h : Has H a) : Has H' a := let ⟨o, e⟩ := h; ⟨o, s _ _ e⟩
theorem has_but {p : Addr} {H H' : Hp} {a : Addr} (s : But p H H') (n : a ≠ p) (h : Has H a) : Has H' a := let ⟨o, e⟩ := h; ⟨o, s _ _ n e⟩
theorem ne_free {H : Hp} {a p : Addr} (n : H p = none) (h : Has H a) : a ≠ p := let ⟨o, e⟩ := h; ne_of_none e n
theorem ne_free' {H : Hp} {a p : Addr} (n : H a = none) (h : Has H p) : a ≠ p := let ⟨o, e⟩ := h; (ne_of_none e n).symm
/-- a pen, its cells -/
def HasPen (H : Hp) (p : Addr) : Prop := ∃ n q, PenAt n H p q
def HasCells (H : Hp) (q : Addr) : Prop := ∃ n p, PenAt n H p q
theorem hasPen_same {H H' : Hp} {p : Addr} (s : Same H H') (h : HasPen H p) : HasPen H' p := let ⟨n, q, e⟩ := h; ⟨n, q, e.keep s⟩
theorem hasCells_same {H H' : Hp} {p : Addr} (s : Same H H') (h : HasCells H p) : HasCells H' p := let ⟨n, q, e⟩ := h; ⟨n, q, e.keep s⟩
theorem none_same {H H' : Hp} {a : Addr} (s : Same H H') (h : H' a = none) : H a = none := s.free h
theorem none_but {p : Addr} {H H' : Hp} {a : Addr} (s : But p H H') (n : a ≠ p) (h : H' a = none) : H a = none := by
  cases q : H a with
  | none => rfl
  | some o => rw [s _ _ n q] at h; cases h
theorem pen_off {H : Hp} {p D : Addr} (hD : H D = none) (h : HasPen H p) : D ≠ p := let ⟨n, q, e⟩ := h; (e.off hD).1
theorem pen_off' {H : Hp} {q D : Addr} (hD : H D = none) (h : HasCells H q) : D ≠ q := let ⟨n, p, e⟩ := h; (e.off hD).2
theorem same_past {p : Addr} {H H1 H2 : Hp} (s : Same H H1) (b : But p H1 H2) (n : H p = none) : Same H H2 := Same.disp n s b
theorem but_past {p q : Addr} {H H1 H2 : Hp} (s : But p H H1) (b : But q H1 H2) (n : H q = none) : But p H H2 := fun c o z e => b _ _ (ne_of_none e n) (s _ _ z e)
theorem pen_le {n m : Nat} {H : Hp} {p q : Addr} (h : PenAt n H p q) (s : n ≤ m) : PenAt m H p q := h.mono s
end EE

set_option autoImplicit true
set_option relaxedAutoImplicit true
/-! Own layer: one step of a reading, found by its head. -/
namespace EE
open PySem PySem.Spec PyProof.Rows L2
class Go (P : Prop) (R : outParam Prop) : Prop where
  go : R → P
theorem go {P R : Prop} [g : Go P R] (h : R) : P := g.go h
/-! slots -/
class Slot (s : List (Option V)) (i : Nat) (v : outParam V) : Prop where
  e : s[i]? = some (some v)
instance slot_zero {v : V} {s : List (Option V)} : Slot (some v :: s) 0 v := ⟨rfl⟩
instance slot_succ {v : V} {x : Option V} {s : List (Option V)} {i : Nat} [k : Slot s i v] : Slot (x :: s) (i + 1) v := ⟨k.e⟩
class Sets (s : List (Option V)) (i : Nat) (x : Option V) (t : outParam (List (Option V))) : Prop where
  e : s.set i x = t
instance sets_zero {x y : Option V} {s : List (Option V)} : Sets (y :: s) 0 x (x :: s) := ⟨rfl⟩
instance sets_succ {x y : Option V} {s t : List (Option V)} {i : Nat} [k : Sets s i x t] : Sets (y :: s) (i + 1) x (y :: t) := ⟨congrArg (y :: ·) k.e⟩
class StartS (N : List Str) (vs : List V) (s : outParam (List (Option V))) : Prop where
  e : L2.start N vs = s
instance startS_nil : StartS [] [] [] := ⟨rfl⟩
instance startS_none {n : Str} {N : List Str} {s : List (Option V)} [k : StartS N [] s] : StartS (n :: N) [] (none :: s) := ⟨by
  rw [← k.e]
  show List.replicate (N.length + 1) none = none :: List.replicate N.length none
  rfl⟩
instance startS_cons {n : Str} {N : List Str} {v : V} {vs : List V} {s : List (Option V)} [k : StartS N vs s] : StartS (n :: N) (v :: vs) (some v :: s) := ⟨by
  rw [← k.e]
  show some v :: (vs.map some ++ List.replicate ((N.length + 1) - (vs.length + 1)) none) = some v :: (vs.map some ++ List.replicate (N.length - vs.length) none)
  rw [Nat.add_sub_add_right]⟩
instance slot_start {N : List Str} {vs : List V} {s : List (Option V)} {i : Nat} {v : V} [k : StartS N vs s] [q : Slot s i v] : Slot (L2.start N vs) i v := ⟨by rw [k.e]; exact q.e⟩
instance sets_start {N : List Str} {vs : List V} {s t : List (Option V)} {i : Nat} {x : Option V} [k : StartS N vs s] [q : Sets s i x t] : Sets (L2.start N vs) i x t := ⟨by rw [k.e]; exact q.e⟩
instance slot_set {s t : List (Option V)} {j i : Nat} {x : Option V} {v : V} [k : Sets s j x t] [q : Slot t i v] : Slot (List.set s j x) i v := ⟨by rw [k.e]; exact q.e⟩
instance sets_set {s t u : List (Option V)} {j i : Nat} {x y : Option V} [k : Sets s j x t] [q : Sets t i y u] : Sets (List.set s j x) i y u := ⟨by rw [k.e]; exact q.e⟩
class WipeS (s : List (Option V)) (is : List Nat) (t : outParam (List (Option V))) : Prop where
  e : wipe s is = t
instance wipe1 {s t : List (Option V)} {n : Str} {j : Nat} [k : Sets s j none t] : WipeS s (List.map (fun x => x.snd) [(n, j)]) t := ⟨k.e⟩
instance wipe2 {s t u : List (Option V)} {n m : Str} {i j : Nat} [k : Sets s j none t] [q : Sets t i none u] : WipeS s (List.map (fun x => x.snd) [(n, i), (m, j)]) u := ⟨by
  show (s.set j none).set i none = u
  rw [k.e]; exact q.e⟩
instance slot_wipe {s t : List (Option V)} {is : List Nat} {i : Nat} {v : V} [k : WipeS s is t] [q : Slot t i v] : Slot (wipe s is) i v := ⟨by rw [k.e]; exact q.e⟩
instance sets_wipe {s t u : List (Option V)} {is : List Nat} {i : Nat} {x : Option V} [k : WipeS s is t] [q : Sets t i x u] : Sets (wipe s is) i x u := ⟨by rw [k.e]; exact q.e⟩
instance go_var {i : Nat} {s : L2.St} {H : Hp} {Q : VK} {v : V} [k : Slot s i v] : Go (tVar i s H Q) (Q v H) := ⟨fun h => ⟨v, k.e, h⟩⟩
instance go_name {i : Nat} {s s' : L2.St} {H : Hp} {v : V} {Q : L2.St → Hp → Prop} [k : Sets s i (some v) s'] : Go (gName i v s H Q) (Q s' H) := ⟨fun h => by
  have e : s.set i (some v) = s' := k.e
  show Q (s.set i (some v)) H
  rw [e]
  exact h⟩
def Par2 (i j : Nat) (s : L2.St) (H : Hp) (Q : L2.St → Hp → Prop) (vs : List V) : Prop := ∃ v w, vs = [v, w] ∧ Q ((s.set i (some v)).set j (some w)) H
theorem go_par {i j : Nat} {ta : TA} {D : Ends} {s : L2.St} {H : Hp} (h : ta s H fun vs H1 => Par2 i j s H1 D.nx vs) : tPar i j ta D s H := h
instance go_par_i {i j : Nat} {ta : TA} {D : Ends} {s : L2.St} {H : Hp} : Go (tPar i j ta D s H) (ta s H fun vs H1 => Par2 i j s H1 D.nx vs) := ⟨go_par⟩
instance go_par2 {i j : Nat} {s s1 s2 : L2.St} {H : Hp} {Q : L2.St → Hp → Prop} {v w : V} [k1 : Sets s i (some v) s1] [k2 : Sets s1 j (some w) s2] : Go (Par2 i j s H Q [v, w]) (Q s2 H) := ⟨fun h => by
  have e1 : s.set i (some v) = s1 := k1.e
  have e2 : s1.set j (some w) = s2 := k2.e
  exact ⟨v, w, rfl, by rw [e1, e2]; exact h⟩⟩
def Par3 (i j l : Nat) (s : L2.St) (H : Hp) (Q : L2.St → Hp → Prop) (vs : List V) : Prop := ∃ u v w, vs = [u, v, w] ∧ Q (((s.set i (some u)).set j (some v)).set l (some w)) H
instance go_par3_i {i j l : Nat} {ta : TA} {D : Ends} {s : L2.St} {H : Hp} : Go (tPar3 i j l ta D s H) (ta s H fun vs H1 => Par3 i j l s H1 D.nx vs) := ⟨fun h => h⟩
instance go_par3 {i j l : Nat} {s s1 s2 s3 : L2.St} {H : Hp} {Q : L2.St → Hp → Prop} {u v w : V} [k1 : Sets s i (some u) s1] [k2 : Sets s1 j (some v) s2] [k3 : Sets s2 l (some w) s3] : Go (Par3 i j l s H Q [u, v, w]) (Q s3 H) := ⟨fun h => by
  have e1 : s.set i (some u) = s1 := k1.e
  have e2 : s1.set j (some v) = s2 := k2.e
  have e3 : s2.set l (some w) = s3 := k3.e
  exact ⟨u, v, w, rfl, by rw [e1, e2, e3]; exact h⟩⟩
instance go_yes {s : L2.St} {H : Hp} {Q : Bool → Hp → Prop} : Go (tYes s H Q) (Q true H) := ⟨rd_yes⟩
instance go_iteT {A B : Prop} : Go (if true = true then A else B) A := ⟨fun h => iteT h⟩
instance go_iteF {A B : Prop} : Go (if false = true then A else B) B := ⟨fun h => iteF h⟩
instance go_c   : Go (tC v σ H Q) (Q v H) := ⟨rd_c⟩
instance go_op   : Go (tOp r ta tb σ H Q) (ta σ H fun x H1 => tb σ H1 fun y H2 => r x y H2 Q) := ⟨rd_op⟩
instance go_iteNT   : Go (if (!true) = true then A else B) (B) := ⟨iteNT⟩
instance go_iteNF   : Go (if (!false) = true then A else B) (A) := ⟨iteNF⟩
instance go_seq  {t u : TS} : Go (tSeq t u D σ H) (t { D with nx := u D } σ H) := ⟨rd_seq⟩
instance go_asg {g : TG}  {te : TE} : Go (tAsg te g D σ H) (te σ H fun x H1 => g x σ H1 D.nx) := ⟨rd_asg⟩
instance go_ret   {te : TE} : Go (tRet te D σ H) (te σ H D.rt) := ⟨rd_ret⟩
instance go_retN   : Go (tRetN D σ H) (D.rt .non H) := ⟨rd_retN⟩
instance go_drop   {te : TE} : Go (tDrop te D σ H) (te σ H fun _ H1 => D.nx σ H1) := ⟨rd_drop⟩
instance go_next   : Go (tNext D σ H) (D.nx σ H) := ⟨rd_next⟩
instance go_ifS  {c : TT} {t u : TS} : Go (tIfS c t u D σ H) (c σ H fun b H1 => if b = true then t D σ H1 else u D σ H1) := ⟨rd_ifS⟩
instance go_ifE  {c : TT} {ta tb : TE} : Go (tIf c ta tb σ H Q) (c σ H fun b H1 => if b = true then ta σ H1 Q else tb σ H1 Q) := ⟨rd_ifE⟩
instance go_test {Q : Bool → Hp → Prop}  {te : TE} : Go (tTest te σ H Q) (te σ H fun x H' => ∃ k, x = .bl k ∧ Q k H') := ⟨rd_test⟩
instance go_B {Q : Bool → Hp → Prop}  {te : TE} : Go (tB te σ H Q) (te σ H fun x H' => ∃ k, x = .bl k ∧ Q k H') := ⟨rd_B⟩
instance go_and {Q : Bool → Hp → Prop} {c d : TT} : Go (tAnd c d σ H Q) (c σ H fun k H1 => if k = true then d σ H1 Q else Q false H1) := ⟨rd_and⟩
instance go_or {Q : Bool → Hp → Prop} {c d : TT} : Go (tOr c d σ H Q) (c σ H fun k H1 => if k = true then Q true H1 else d σ H1 Q) := ⟨rd_or⟩
instance go_not {Q : Bool → Hp → Prop} {c : TT} : Go (tNot c σ H Q) (c σ H fun k H1 => Q (!k) H1) := ⟨rd_not⟩
instance go_andV   : Go (tAndV ta tb σ H Q) (ta σ H fun x H1 => ∃ c, x = .bl c ∧ if c = true then tb σ H1 Q else Q (.bl false) H1) := ⟨rd_andV⟩
instance go_orV   : Go (tOrV ta tb σ H Q) (ta σ H fun x H1 => ∃ c, x = .bl c ∧ if c = true then Q (.bl true) H1 else tb σ H1 Q) := ⟨rd_orV⟩
instance go_notV   : Go (tNotV ta σ H Q) (ta σ H fun x H1 => ∃ c, x = .bl c ∧ Q (.bl (!c)) H1) := ⟨rd_notV⟩
instance go_nil {Q : List V → Hp → Prop}  : Go (tNil σ H Q) (Q [] H) := ⟨rd_nil⟩
instance go_cons {tr : TA} {Q : List V → Hp → Prop}  : Go (tCons ta tr σ H Q) (ta σ H fun x H1 => tr σ H1 fun xs H2 => Q (x :: xs) H2) := ⟨rd_cons⟩
instance go_call {sp : Sp} {dvs : List V} {E : XK} {tr : TA}  : Go (tCall sp dvs E tr σ H Q) (tr σ H fun vs H1 => sp (vs ++ dvs) H1 Q E) := ⟨rd_call⟩
instance go_CB {r : List V → Hp → VK → Prop} {tr : TA}  : Go (tCB r tr σ H Q) (tr σ H fun vs H1 => r vs H1 Q) := ⟨rd_CB⟩
instance go_chain  {ta tb tc : TE} {r r' : R2} : Go (tChain r r' ta tb tc σ H Q) (ta σ H fun x H1 => tb σ H1 fun y H2 => r x y H2 fun z H3 => ∃ k, z = .bl k ∧ (if k = true then tc σ H3 fun w' H4 => r' y w' H4 Q else Q (.bl false) H3)) := ⟨rd_chain⟩
instance go_gsub {to ti : TE} {ts : TSet} {Q : L2.St → Hp → Prop}  : Go (gSub to ti ts v σ H Q) (to σ H fun o H1 => ti σ H1 fun i H2 => ts o i v H2 fun H3 => Q σ H3) := ⟨rd_gsub⟩
instance go_part {Q : Option Int → Hp → Prop}  {te : TE} : Go (tPart te σ H Q) (te σ H fun x H1 => ∃ i, x = .int i ∧ Q (some i) H1) := ⟨rd_part⟩
instance go_noPart {Q : Option Int → Hp → Prop}  : Go (tNoPart σ H Q) (Q none H) := ⟨rd_noPart⟩
instance go_sl {r : V → Option Int → Option Int → Hp → VK → Prop} {tl th : TO}  {te : TE} : Go (tSl r te tl th σ H Q) (te σ H fun x H1 => tl σ H1 fun l H2 => th σ H2 fun u H3 => r x l u H3 Q) := ⟨rd_sl⟩
instance go_tup {tr : TA}  : Go (tTup tr σ H Q) (tr σ H fun xs H1 => NewT xs H1 Q) := ⟨rd_tup⟩
instance go_lst {tr : TA}  : Go (tLst tr σ H Q) (tr σ H fun xs H1 => NewL xs H1 Q) := ⟨rd_lst⟩
instance go_bl {b : Bool} {P : Bool → Prop}  : Go (∃ k, V.bl b = V.bl k ∧ P k) (P b) := ⟨rd_bl⟩
instance go_exI {i : Int} {P : Int → Prop}  : Go (∃ j, V.int i = V.int j ∧ P j) (P i) := ⟨rd_exI⟩
instance go_exIs {i : Int} {P : Int → Prop}  : Go (∃ j, [V.int i] = [V.int j] ∧ P j) (P i) := ⟨rd_exIs⟩
instance go_exR {a : Addr} {P : Addr → Prop}  : Go (∃ b, V.ref a = V.ref b ∧ P b) (P a) := ⟨rd_exR⟩
instance go_iRng1 {ta : TA} {R : It → Hp → Prop}  : Go (iRng1 ta σ H R) (ta σ H fun vs H1 => ∃ j : Int, vs = [.int j] ∧ -(2 ^ 62) ≤ j ∧ j < 2 ^ 62 ∧ R (Itr 0 j.toNat) H1) := ⟨rd_iRng1⟩
instance go_iRng2 {ta : TA} {R : It → Hp → Prop}  : Go (iRng2 ta σ H R) (ta σ H fun vs H1 => ∃ i j : Int, vs = [.int i, .int j] ∧ (-(2 ^ 62) ≤ i ∧ i < 2 ^ 62 ∧ -(2 ^ 62) ≤ j ∧ j < 2 ^ 62) ∧ R (Itr i (j - i).toNat) H1) := ⟨rd_iRng2⟩
instance go_iList {K : PySem.W.Frag} {te : TE} {R : It → Hp → Prop}  : Go (iList K te σ H R) (te σ H fun x H1 => ∃ a, x = .ref a ∧ (∃ xs, SqL K H1 a xs) ∧ R (Itl K a) H1) := ⟨rd_iList⟩
instance go_iTup {K : PySem.W.Frag} {te : TE} {R : It → Hp → Prop}  : Go (iTup K te σ H R) (te σ H fun x H1 => ∃ a, x = .ref a ∧ (∃ xs, SqT K H1 a xs) ∧ R (Itt K a) H1) := ⟨rd_iTup⟩
instance go_callN {n m : Nat} {sp : Sp} {gV : List V → List V → List V} {E : XK} {t tk : TA}  : Go (tCallN n m sp gV E t tk σ H Q) (t σ H fun vs H1 => tk σ H1 fun zs H2 => vs.length = n ∧ zs.length = m ∧ sp (gV vs zs) H2 Q E) := ⟨rd_callN⟩
instance go_pnil {R : List (V × V) → Hp → Prop}  : Go (tPairs [] σ H R) (R [] H) := ⟨rd_pnil⟩
instance go_pcons {tk tv : TE} {r : List (TE × TE)} {R : List (V × V) → Hp → Prop} {σ : L2.St} {H : Hp} : Go (tPairs ((tk, tv) :: r) σ H R) (tk σ H fun x H1 => tv σ H1 fun y H2 => tPairs r σ H2 fun ps H3 => R ((x, y) :: ps) H3) := ⟨rd_pcons⟩
instance go_exS {z : Str} {P : Str → Prop}  : Go (∃ x, V.str z = .str x ∧ P x) (P z) := ⟨rd_exS⟩
instance go_isS {a : Str} {P : Prop}  : Go ((∃ b, V.str a = V.str b) ∧ P) (P) := ⟨rd_isS⟩
instance go_add {i j : Int}  : Go (rI0 (fun i j => .int (i + j)) (.int i) (.int j) H Q) (Q (.int (i + j)) H) := ⟨rd_add⟩
instance go_sub {i j : Int}  : Go (rI0 (fun i j => .int (i - j)) (.int i) (.int j) H Q) (Q (.int (i - j)) H) := ⟨rd_sub⟩
instance go_lt {i j : Int}  : Go (rI0 (fun i j => .bl (decide (i < j))) (.int i) (.int j) H Q) (Q (.bl (decide (i < j))) H) := ⟨rd_lt⟩
instance go_le {i j : Int}  : Go (rI0 (fun i j => .bl (decide (i ≤ j))) (.int i) (.int j) H Q) (Q (.bl (decide (i ≤ j))) H) := ⟨rd_le⟩
instance go_gt {i j : Int}  : Go (rI0 (fun i j => .bl (decide (j < i))) (.int i) (.int j) H Q) (Q (.bl (decide (j < i))) H) := ⟨rd_gt⟩
instance go_ge {i j : Int}  : Go (rI0 (fun i j => .bl (decide (j ≤ i))) (.int i) (.int j) H Q) (Q (.bl (decide (j ≤ i))) H) := ⟨rd_ge⟩
instance go_eqI {i j : Int}  : Go (rEq (.int i) (.int j) H Q) (Q (.bl (decide (i = j))) H) := ⟨rd_eqI⟩
instance go_neI {i j : Int}  : Go (rNe (.int i) (.int j) H Q) (Q (.bl (!decide (i = j))) H) := ⟨rd_neI⟩
instance go_eqS {i j : Str}  : Go (rEq (.str i) (.str j) H Q) (Q (.bl (decide (i = j))) H) := ⟨rd_eqS⟩
instance go_neS {i j : Str}  : Go (rNe (.str i) (.str j) H Q) (Q (.bl (!decide (i = j))) H) := ⟨rd_neS⟩
instance go_int1 {i : Int}  : Go (rInt1 [.int i] H Q) (Q (.int i) H) := ⟨rd_int1⟩
instance go_int1b {b : Bool}  : Go (rInt1 [.bl b] H Q) (Q (.int (if b then 1 else 0)) H) := ⟨rd_int1b⟩
instance go_abs {i : Int}  : Go (rAbs [.int i] H Q) (Q (.int (if i < 0 then -i else i)) H) := ⟨rd_abs⟩
instance go_inS {c : Nat} {z : Str}  : Go (rInS (.str ⟨#[c]⟩) (.str z) H Q) (Q (.bl (decide (c ∈ z.cps.toList))) H) := ⟨rd_inS⟩
instance go_notInS {c : Nat} {z : Str}  : Go (rNotInS (.str ⟨#[c]⟩) (.str z) H Q) (Q (.bl (!decide (c ∈ z.cps.toList))) H) := ⟨rd_notInS⟩
instance go_isN {x : V}  : Go (rIsN x .non H Q) (Q (.bl (decide (x = .non))) H) := ⟨rd_isN⟩
instance go_notN {x : V}  : Go (rNotN x .non H Q) (Q (.bl (!decide (x = .non))) H) := ⟨rd_notN⟩
instance go_lc {wi : TI} {g : TG} {tt : TT} {te : TE} {vs : List Nat}  : Go (tLc wi g tt te vs σ H Q) (wi σ H (LcAt g tt te vs σ Q)) := ⟨rd_lc⟩
instance go_for {wi : TI} {g : TG} {tb : TS} {D : Ends}  : Go (tFor wi g tb D σ H) (wi σ H (ForAt g tb D σ)) := ⟨rd_for⟩
instance go_iStr {te : TE} {R : It → Hp → Prop}  : Go (iStr te σ H R) (te σ H fun v H1 => ∃ x, v = .str x ∧ R (Its x) H1) := ⟨rd_iStr⟩
instance go_M1 {r : V → List V → Hp → VK → Prop} {to te : TE}  : Go (tM1 r to te σ H Q) (to σ H fun x H1 => (∃ a, x = .str a) ∧ te σ H1 fun y H2 => r x [y] H2 Q) := ⟨rd_M1⟩
instance go_M0 {r : V → List V → Hp → VK → Prop} {to : TE}  : Go (tM0 r to σ H Q) (to σ H fun x H1 => (∃ a, x = .str a) ∧ r x [] H1 Q) := ⟨rd_M0⟩
instance go_un {r : V → Hp → VK → Prop}  : Go (tUn r ta σ H Q) (ta σ H fun x H1 => r x H1 Q) := ⟨rd_un⟩
instance go_neg {i : Int}  : Go (rU (fun i => V.int (-i)) (.int i) H Q) (Q (.int (-i)) H) := ⟨rd_neg⟩
instance go_stx {f : Str} {to te : TE} {D : Ends}  {K : PySem.W.Frag} : Go (tStX K f to te D σ H) (te σ H fun y H1 => to σ H1 fun x H2 => StAt K f y x D σ H2) := ⟨rd_stx⟩
instance go_exP {v w : V} {P : V → V → Prop}  : Go (∃ a b, [v, w] = [a, b] ∧ P a b) (P v w) := ⟨rd_exP⟩
instance go_neB {b c : Bool}  : Go (rNe (.bl b) (.bl c) H Q) (Q (.bl (!decide (b = c))) H) := ⟨rd_neB⟩
instance go_gcons {t : TG} {u : TGs} {v : V} {r : List V} {Q : L2.St → Hp → Prop}  : Go (gCons t u (v :: r) σ H Q) (t v σ H fun σ' H' => u r σ' H' Q) := ⟨rd_gcons⟩
instance go_gnil {Q : L2.St → Hp → Prop}  : Go (gNil [] σ H Q) (Q σ H) := ⟨rd_gnil⟩
instance go_mkV {ta : TA} {sp : Sp}  : Go (tMkV C sp ta σ H Q) (ta σ H fun vs H1 => MkSp C sp vs H1 Q) := ⟨rd_mkV⟩
instance go_mkN {n : Nat} {sp : Sp} {gV : List V → List V → List V} {tk : TA}  : Go (tMkN C n sp gV tk σ H Q) (tk σ H fun zs H1 => MkSpN C n sp gV zs H1 Q) := ⟨rd_mkN⟩
instance go_lenum {K : PySem.W.Frag} {ta : TE} {σ : L2.St} {H : Hp} {Q : VK}  : Go (tLenum K ta σ H Q) (ta σ H fun x H1 => ∃ a xs, x = .ref a ∧ SqL K H1 a xs ∧ xs.length ≤ 100000 ∧ ∀ S vs H', H1 S = none → Same H1 H' → H' S = some (.lst vs) → vs.length = xs.length → EnumVs H' xs vs → Q (.ref S) H') := ⟨rd_lenum⟩
instance go_xvA {K : PySem.W.Frag} {σ : L2.St} {H : Hp} {Q : VK} {f : Str} {te : TE}  : Go (tXv K f te σ H Q) (te σ H fun x H1 => XvAt K f x H1 Q) := ⟨rd_xvA⟩
instance go_fld   {K : PySem.W.Frag} : Go (tFld K ta f σ H Q) (ta σ H fun x H1 => FldAt K f x H1 Q) := ⟨rd_fld⟩
instance go_sfld   {K : PySem.W.Frag} {te : TE} : Go (sFld K ta te f D σ H) (te σ H fun y H1 => ta σ H1 fun x H2 => SFldAt K f y x D σ H2) := ⟨rd_sfld⟩
instance go_saug {rd : V → V → Hp → VK → Prop}  {K : PySem.W.Frag} : Go (sFldAug K ta te rd f D σ H) (ta σ H fun x H1 => SAugAt K te rd f x D σ H1) := ⟨rd_saug⟩
instance go_prop   : Go (tProp C sp dvs E ta σ H Q) (ta σ H fun x H1 => PropAt C sp dvs E x H1 Q) := ⟨rd_prop⟩
instance go_meth  {t : TA} : Go (tMeth C m sp dvs E ta t σ H Q) (ta σ H fun x H1 => MethAt C m sp dvs E t σ x H1 Q) := ⟨rd_meth⟩
instance go_make  {t : TA} : Go (tMake C sp dvs E t σ H Q) (t σ H fun vs H1 => MakeAt C sp dvs E vs H1 Q) := ⟨rd_make⟩
instance go_mkR {C : Addr} {sp : Sp} {ta : TA} {σ : L2.St} {H : Hp} {Q : XK}  : Go (tMkR C sp ta σ H Q) (ta σ H fun vs H1 => MkR C sp vs H1 Q) := ⟨rd_mkR⟩
instance go_iEnum {ta : TA} {R : It → Hp → Prop}  {K : PySem.W.Frag} : Go (iEnum K ta σ H R) (ta σ H fun vs H1 => ∃ a, vs = [.ref a] ∧ (∃ xs, SqL K H1 a xs) ∧ R (Ite K a) H1) := ⟨rd_iEnum⟩
instance go_exRs {a : Addr} {P : Addr → Prop}  : Go (∃ b, [V.ref a] = [V.ref b] ∧ P b) (P a) := ⟨rd_exRs⟩
instance go_star {K : PySem.W.Frag} {σ : L2.St} {H : Hp} {te : TE} {t : TA} {Q : List V → Hp → Prop}  : Go (StX.tStar K te t σ H Q) (te σ H fun x H1 => StarAt K t σ Q x H1) := ⟨rd_star⟩
instance go_dget   : Go (tDGet td ty σ H Q) (td σ H fun x H1 => ty σ H1 fun y H2 => DGetAt x y H2 Q) := ⟨rd_dget⟩
instance go_din   : Go (tDIn ty td σ H Q) (ty σ H fun y H1 => td σ H1 fun x H2 => DInAt y x H2 Q) := ⟨rd_din⟩
instance go_dnotin   : Go (tDNotIn ty td σ H Q) (ty σ H fun y H1 => td σ H1 fun x H2 => DNotInAt y x H2 Q) := ⟨rd_dnotin⟩
instance go_dput   : Go (sDPut td ty tv D σ H) (tv σ H fun v H1 => td σ H1 fun x H2 => ty σ H2 fun y H3 => DPutAt x y v D σ H3) := ⟨rd_dput⟩
instance go_callS {sp : Sp} {E : L2.St → XK} {t : TA} {σ : L2.St} {H : Hp} {Q : VK}  : Go (tCallS sp E t σ H Q) (t σ H fun vs H1 => sp vs H1 Q (E σ)) := ⟨rd_callS⟩
instance go_xw {K : PySem.W.Frag} {f : Str} {te : TE} {σ : L2.St} {H : Hp} {Q : VK}  : Go (tXw K f te σ H Q) (te σ H fun x H1 => XwAt K f x H1 Q) := ⟨rd_xw⟩
instance go_bm {T : String} {r : V → List V → Hp → VK → Prop} {tr : TA}  {K : PySem.W.Frag} : Go (tBM K T r ta tr σ H Q) (ta σ H fun x H1 => tyV K T x H1 ∧ tr σ H1 fun xs H2 => r x xs H2 Q) := ⟨rd_bm⟩
/-! steps that look at the heap: the goal first, then the look -/
class AtN {α : Type} (xs : List α) (n : Nat) (v : outParam α) : Prop where
  e : xs[n]? = some v
instance atN_zero {α : Type} {x : α} {xs : List α} : AtN (x :: xs) 0 x := ⟨rfl⟩
instance atN_succ {α : Type} {x v : α} {xs : List α} {n : Nat} [k : AtN xs n v] : AtN (x :: xs) (n + 1) v := ⟨k.e⟩
theorem atI_lit {α : Type} {xs : List α} {n : Nat} {v : α} [k : AtN xs n v] : atI xs (OfNat.ofNat n) = some v := EE.atI_of (n := n) rfl k.e
section
variable {K : PySem.W.Frag} {H : Hp} {Q : VK} {p a b : Addr} {k : Nat}
def LenGo (K : PySem.W.Frag) (p : Addr) (H : Hp) (Q : VK) : Prop := (∃ ys, SqL K H p ys ∧ Q (.int ys.length) H) ∨ ∃ ys, SqT K H p ys ∧ Q (.int ys.length) H
theorem len_go (h : LenGo K p H Q) : rLenQ K [.ref p] H Q := h.elim (fun ⟨_, e, q⟩ => rd_len e q) fun ⟨_, e, q⟩ => rd_lenT e q
def SlTGo (K : PySem.W.Frag) (a : Addr) (k : Nat) (H : Hp) (Q : VK) : Prop := ∃ ys : List Str, SqL K H a (ys.map V.str) ∧ ∀ p H2, H p = none → Same H H2 → H2 p = some (.lst ((ys.take k).map V.str)) → Q (.ref p) H2
theorem slT_go (h : SlTGo K a k H Q) : rSlL K (.ref a) none (some (k : Int)) H Q := let ⟨_, e, q⟩ := h; rd_slTake e q
def SlDGo (K : PySem.W.Frag) (a : Addr) (k : Nat) (H : Hp) (Q : VK) : Prop := ∃ ys : List Str, SqL K H a (ys.map V.str) ∧ ∀ p H2, H p = none → Same H H2 → H2 p = some (.lst ((ys.drop k).map V.str)) → Q (.ref p) H2
theorem slD_go (h : SlDGo K a k H Q) : rSlL K (.ref a) (some (k : Int)) none H Q := let ⟨_, e, q⟩ := h; rd_slDrop e q
theorem slD1_go (h : SlDGo K a (k + 1) H Q) : rSlL K (.ref a) (some ((k : Int) + 1)) none H Q := let ⟨_, e, q⟩ := h; rd_slDrop1 e q
def SlGo (K : PySem.W.Frag) (a : Addr) (lo hi : Option Int) (H : Hp) (Q : VK) : Prop := ∃ xs : List V, SqL K H a xs ∧ ∀ p H2, H p = none → Same H H2 → H2 p = some (.lst (cutV xs lo hi)) → Q (.ref p) H2
theorem sl_go {lo hi : Option Int} (h : SlGo K a lo hi H Q) : rSlL K (.ref a) lo hi H Q := let ⟨_, e, q⟩ := h; rd_slL e q
def CatGo (a b : Addr) (H : Hp) (Q : VK) : Prop := ∃ xs zs : List V, H a = some (.lst xs) ∧ H b = some (.lst zs) ∧ xs.length + zs.length ≤ 100000 ∧ ∀ p H2, H p = none → Same H H2 → H2 p = some (.lst (xs ++ zs)) → Q (.ref p) H2
theorem cat_go (h : CatGo a b H Q) : rCat (.ref a) (.ref b) H Q := let ⟨_, _, h1, h2, l, q⟩ := h; rd_cat h1 h2 l q
theorem catS_go {xs ys : List Str} (h1 : H a = some (.lst (xs.map V.str))) (h2 : H b = some (.lst (ys.map V.str))) (hl : xs.length + ys.length ≤ 100000) (q : ∀ p H2, H p = none → Same H H2 → H2 p = some (.lst ((xs ++ ys).map V.str)) → Q (.ref p) H2) : CatGo a b H Q :=
  ⟨_, _, h1, h2, by rw [List.length_map, List.length_map]; exact hl, fun p H2 n s e => q p H2 n s (by rw [e, List.map_append])⟩
theorem catV_go {xs zs : List V} (h1 : H a = some (.lst xs)) (h2 : H b = some (.lst zs)) (hl : xs.length + zs.length ≤ 100000) (q : ∀ p H2, H p = none → Same H H2 → H2 p = some (.lst (xs ++ zs)) → Q (.ref p) H2) : CatGo a b H Q := ⟨_, _, h1, h2, hl, q⟩
def IxLGo (K : PySem.W.Frag) (p : Addr) (i : Int) (H : Hp) (Q : VK) : Prop := ∃ xs, SqL K H p xs ∧ ∃ v, atI xs i = some v ∧ Q v H
theorem ixL_go {i : Int} (h : IxLGo K p i H Q) : rIxL K (.ref p) (.int i) H Q := let ⟨_, e, _, hv, q⟩ := h; rd_ixL e hv q
end
/-- the slots at a def's start -/
theorem rd_start {N : List Str} {vs : List V} {s : L2.St} {t : TS} {D : Ends} {H : Hp} (e : L2.start N vs = s) (h : t D s H) : t D (L2.start N vs) H := by rw [e]; exact h
end EE

/-! Own layer: data in the heap, small data. -/
namespace EE
open PySem PySem.Spec PyProof.Rows L2 LamX
theorem _root_.L2.Same.seqT {K : PySem.W.Frag} {H H' : Hp} {a : Addr} {xs : List V} (e : Same H H') (h : SqT K H a xs) : SqT K H' a xs := by
  rcases h with (h | ⟨o, h⟩) | h
  · exact .inl (.inl (e _ _ h))
  · exact .inl (.inr ⟨o, e _ _ h⟩)
  · exact .inr h
section
variable {K : PySem.W.Frag} {H H' : Hp}
mutual
theorem dp_same (s : Same H H') : ∀ (d : PyData) (v : V), Dp K H v d → Dp K H' v d
  | .none, _, h => by cases h; exact .non
  | .bool b, _, h => by cases h; exact .bl b
  | .int i, _, h => by cases h; exact .int i
  | .str x, _, h => by cases h; exact .str x
  | .list ds, _, h => by
    cases h with
    | lst a b => exact .lst (L2.Same.seq s a) (dpAll_same s ds _ b)
  | .tuple ds, _, h => by
    cases h with
    | tup a b => exact .tup (L2.Same.seqT s a) (dpAll_same s ds _ b)
  | .dict _, _, h => by cases h
theorem dpAll_same (s : Same H H') : ∀ (ds : List PyData) (vs : List V), DpAll K H vs ds → DpAll K H' vs ds
  | [], _, h => by cases h; exact .nil
  | d :: ds, _, h => by
    cases h with
    | cons a b => exact .cons (dp_same s d _ a) (dpAll_same s ds _ b)
end
mutual
theorem dp_dq : ∀ (d : PyData) (v : V), Dp K H v d → Dq K H v d
  | .none, _, h => by cases h; exact .non
  | .bool b, _, h => by cases h; exact .bl b
  | .int i, _, h => by cases h; exact .int i
  | .str x, _, h => by cases h; exact .str x
  | .list ds, _, h => by
    cases h with
    | lst a b => exact .lst a (dpAll_dq ds _ b)
  | .tuple ds, _, h => by
    cases h with
    | tup a b => exact .tup a (dpAll_dq ds _ b)
  | .dict _, _, h => by cases h
theorem dpAll_dq : ∀ (ds : List PyData) (vs : List V), DpAll K H vs ds → DqAll K H vs ds
  | [], _, h => by cases h; exact .nil
  | d :: ds, _, h => by
    cases h with
    | cons a b => exact .cons (dp_dq d _ a) (dpAll_dq ds _ b)
end
theorem _root_.L2.Dp.keep {v : V} {d : PyData} (h : Dp K H v d) (s : Same H H') : Dp K H' v d := dp_same s d v h
theorem _root_.L2.Dp.dq {v : V} {d : PyData} (h : Dp K H v d) : Dq K H v d := dp_dq d v h
def flD : V → PyData | .bl b => .bool b | .int i => .int i | .str z => .str z | _ => .none
def isFl : V → Prop | .non => True | .bl _ => True | .int _ => True | .str _ => True | _ => False
theorem dp_fl : ∀ {v : V}, isFl v → Dp K H v (flD v)
  | .non, _ => .non
  | .bl b, _ => .bl b
  | .int i, _ => .int i
  | .str z, _ => .str z
theorem dpAll_fl : ∀ {vs : List V}, (∀ v ∈ vs, isFl v) → DpAll K H vs (vs.map flD)
  | [], _ => .nil
  | v :: vs, h => .cons (dp_fl (h v List.mem_cons_self)) (dpAll_fl fun x hx => h x (List.mem_cons_of_mem _ hx))
theorem dpAll_map {α : Type} {f : α → V} {g : α → PyData} : ∀ {l : List α}, (∀ x ∈ l, Dp K H (f x) (g x)) → DpAll K H (l.map f) (l.map g)
  | [], _ => .nil
  | x :: l, h => .cons (h x List.mem_cons_self) (dpAll_map fun y hy => h y (List.mem_cons_of_mem _ hy))
end
/-! ### small data -/
structure Sm (n k : Nat) (d : PyData) : Prop where
  l : d.leavesShort 13 = true
  s : d.showable = true
  c : d.canLay0 = true
  b : d.bulk ≤ n
  d : d.depth ≤ k
structure SmAll (n k : Nat) (ds : List PyData) : Prop where
  l : PyData.leavesShortAll 13 ds = true
  s : PyData.showableAll ds = true
  c : PyData.canLayAll0 ds = true
  b : PyData.bulkAll ds ≤ n
  d : PyData.depthAll ds ≤ k
theorem Sm.mono {n m k j : Nat} {d : PyData} (h : Sm n k d) (h1 : n ≤ m) (h2 : k ≤ j) : Sm m j d := ⟨h.l, h.s, h.c, Nat.le_trans h.b h1, Nat.le_trans h.d h2⟩
theorem SmAll.mono {n m k j : Nat} {d : List PyData} (h : SmAll n k d) (h1 : n ≤ m) (h2 : k ≤ j) : SmAll m j d := ⟨h.l, h.s, h.c, Nat.le_trans h.b h1, Nat.le_trans h.d h2⟩
theorem smAll_nil {k : Nat} : SmAll 0 k [] := ⟨rfl, rfl, rfl, Nat.le_refl _, Nat.zero_le _⟩
theorem smAll_cons {n m k : Nat} {d : PyData} {ds : List PyData} (h : Sm n k d) (t : SmAll m k ds) : SmAll (n + 1 + m) k (d :: ds) := by
  refine ⟨?_, ?_, ?_, ?_, ?_⟩
  · show (d.leavesShort 13 && PyData.leavesShortAll 13 ds) = true
    rw [h.l, t.l]; rfl
  · show (d.showable && PyData.showableAll ds) = true
    rw [h.s, t.s]; rfl
  · show (d.canLay0 && PyData.canLayAll0 ds) = true
    rw [h.c, t.c]; rfl
  · show d.bulk + 1 + PyData.bulkAll ds ≤ _
    have := h.b; have := t.b; omega
  · show max d.depth (PyData.depthAll ds) ≤ k
    exact Nat.max_le.mpr ⟨h.d, t.d⟩
theorem smAll_of {n k : Nat} : ∀ {ds : List PyData}, (∀ d ∈ ds, Sm n k d) → SmAll (ds.length * (n + 1)) k ds
  | [], _ => smAll_nil.mono (Nat.zero_le _) (Nat.le_refl _)
  | d :: ds, h => (smAll_cons (h d List.mem_cons_self) (smAll_of fun x hx => h x (List.mem_cons_of_mem _ hx))).mono (by rw [List.length_cons, Nat.succ_mul]; omega) (Nat.le_refl _)
theorem SmAll.list {n k : Nat} {ds : List PyData} (h : SmAll n k ds) : Sm n (k + 1) (.list ds) := ⟨h.l, h.s, h.c, h.b, Nat.succ_le_succ h.d⟩
theorem SmAll.tuple {n k : Nat} {ds : List PyData} (h : SmAll n k ds) : Sm n (k + 1) (.tuple ds) := ⟨h.l, h.s, h.c, h.b, Nat.succ_le_succ h.d⟩
theorem sm_str {z : Str} {n : Nat} (ha : Asc z) (h : z.length ≤ n) : Sm n 0 (.str z) := by
  refine ⟨List.all_eq_true.mpr fun c hc => decide_eq_true (Nat.lt_trans (ha c hc) (by decide)), rfl, ha.ok, h, Nat.le_refl _⟩
theorem sm_int {i : Int} (h : i.natAbs < 10 ^ 12) : Sm 0 0 (.int i) := by
  refine ⟨decide_eq_true (PyData.shown_int_le h), decide_eq_true (log2_lt (Nat.lt_trans h (by decide : 10 ^ 12 < 2 ^ 1920)) (by decide)), rfl, Nat.le_refl _, Nat.le_refl _⟩
theorem sm_bool {b : Bool} : Sm 0 0 (.bool b) := ⟨rfl, rfl, rfl, Nat.le_refl _, Nat.le_refl _⟩
theorem sm_none : Sm 0 0 .none := ⟨rfl, rfl, rfl, Nat.le_refl _, Nat.le_refl _⟩
theorem Sm.shown {n k : Nat} {d : PyData} (h : Sm n k d) (hn : n ≤ 1000000) (hk : k ≤ 60) : d.showable = true ∧ d.depth ≤ 60 ∧ d.shown.length ≤ sizeLine := by
  refine ⟨h.s, Nat.le_trans h.d hk, ?_⟩
  have := PyData.shown_le_bulk 13 (by decide) d h.l
  have := h.b
  have e : (sizeLine : Nat) = 16777216 := by decide
  rw [e]
  omega
theorem Sm.shaped {n k : Nat} {d : PyData} (h : Sm n k d) (hk : k ≤ 60) : SeqAt.shaped d = true := by
  unfold SeqAt.shaped
  rw [h.c, decide_eq_true (Nat.le_trans h.d (Nat.le_trans hk (by decide)))]
  rfl
theorem Sm.self {n k : Nat} {d : PyData} (h : Sm n k d) : PyData.eqv d d = true := PySem.SeqAt.eqv_refl d h.c
section
variable {K : PySem.W.Frag} {H : Hp} {Q : VK}
/-- repr, d == d, d != d of small data -/
theorem rd_reprS {n k : Nat} {a : Addr} {d : PyData} (h : Dp K H (.ref a) d) (s : Sm n k d) (hn : n ≤ 1000000) (hk : k ≤ 60) (q : Q (.str d.shown) H) : rReprQ K [.ref a] H Q := let ⟨h1, h2, h3⟩ := s.shown hn hk; rd_reprQ h.dq h1 h2 h3 q
theorem rd_eqSm {n k : Nat} {x y : V} {d : PyData} (h1 : Dp K H x d) (h2 : Dp K H y d) (s : Sm n k d) (hk : k ≤ 60) (q : Q (.bl true) H) : rEqD K x y H Q := rd_eqD h1 h2 (s.shaped hk) (s.shaped hk) (by rw [s.self]; exact q)
theorem rd_neSm {n k : Nat} {x y : V} {d : PyData} (h1 : Dp K H x d) (h2 : Dp K H y d) (s : Sm n k d) (hk : k ≤ 60) (q : Q (.bl false) H) : rNeD K x y H Q := rd_neD h1 h2 (s.shaped hk) (s.shaped hk) (by rw [s.self]; exact q)
end
/-! ### all but tables kept -/
theorem get_ext {H H' : Hp} {a : Addr} {o : HO} (s : ExtN H H') (n : ∀ ps, o ≠ .tbl ps) (h : H a = some o) : H' a = some o := s _ _ h n
theorem PenAt.ext {n : Nat} {H H' : Hp} {p q : Addr} (h : PenAt n H p q) (s : ExtN H H') : PenAt n H' p q := by
  obtain ⟨ns, a, r, h1, h2, h3⟩ := h
  exact ⟨ns, a, r, s _ _ h1 (fun _ z => by cases z), s _ _ h2 (fun _ z => by cases z), h3⟩
theorem tabs_pen {T : List (Addr × Str)} {n : Nat} {H H' : Hp} {p q : Addr} (t : Tabs T H) (h : PenAt n H p q) (b : But p H H') : Tabs T H' := by
  obtain ⟨ns, a, r, h1, _⟩ := h
  exact t.lst b h1
end EE
namespace EE
open PySem PySem.Spec PyProof.Rows L2 LamX
/-! ### rows of objects -/
structure ObjsAt (H : Hp) (os : List HO) (vs : List V) : Prop where
  len : vs.length = os.length
  at_ : ∀ (j : Nat) (o : HO), os[j]? = some o → ∃ q : Addr, vs[j]? = some (V.ref q) ∧ H q = some o
theorem ObjsAt.nil {H : Hp} : ObjsAt H [] [] := ⟨rfl, fun j o e => by cases e⟩
theorem ObjsAt.to {H H' : Hp} {os : List HO} {vs : List V} (h : ObjsAt H os vs) (k : ∀ q o, o ∈ os → H q = some o → H' q = some o) : ObjsAt H' os vs := ⟨h.len, fun j o e => let ⟨q, e1, e2⟩ := h.at_ j o e; ⟨q, e1, k _ _ (List.mem_of_getElem? e) e2⟩⟩
theorem ObjsAt.snoc {H : Hp} {os : List HO} {vs : List V} {o : HO} {q : Addr} (h : ObjsAt H os vs) (hq : H q = some o) : ObjsAt H (os ++ [o]) (vs ++ [.ref q]) := by
  refine ⟨by simp [h.len], fun j u e => ?_⟩
  by_cases hj : j < os.length
  · rw [List.getElem?_append_left hj] at e
    obtain ⟨p, e1, e2⟩ := h.at_ j u e
    exact ⟨p, by rw [List.getElem?_append_left (by rw [h.len]; exact hj)]; exact e1, e2⟩
  · have : j = os.length := by
      rw [List.getElem?_append_right (by omega)] at e
      have := (List.getElem?_eq_some_iff.mp e).1
      simp at this
      omega
    subst this
    rw [List.getElem?_append_right (Nat.le_refl _), Nat.sub_self] at e
    cases e
    exact ⟨q, by rw [← h.len, List.getElem?_append_right (Nat.le_refl _), Nat.sub_self]; rfl, hq⟩
theorem ObjsAt.cons {H : Hp} {os : List HO} {vs : List V} {o : HO} {q : Addr} (h : ObjsAt H os vs) (hq : H q = some o) : ObjsAt H (o :: os) (.ref q :: vs) := by
  refine ⟨by simp [h.len], fun j u e => ?_⟩
  cases j with
  | zero => cases e; exact ⟨q, rfl, hq⟩
  | succ j => exact h.at_ j u e
def objD : HO → PyData | .lst xs => .list (xs.map flD) | .tup xs => .tuple (xs.map flD) | _ => .none
def objFl : HO → Prop | .lst xs => ∀ v ∈ xs, isFl v | .tup xs => ∀ v ∈ xs, isFl v | _ => False
theorem ObjsAt.tail {H : Hp} {o : HO} {os : List HO} {v : V} {vs : List V} (h : ObjsAt H (o :: os) (v :: vs)) : ObjsAt H os vs := ⟨Nat.succ.inj h.len, fun j u e => h.at_ (j + 1) u e⟩
theorem obj_dp {K : PySem.W.Frag} {H : Hp} {q : Addr} {o : HO} (f : objFl o) (h : H q = some o) : Dp K H (.ref q) (objD o) := by
  cases o with
  | lst xs => exact .lst (sqL_of h) (dpAll_fl f)
  | tup xs => exact .tup (sqT_of h) (dpAll_fl f)
  | _ => exact f.elim
theorem ObjsAt.dp {K : PySem.W.Frag} {H : Hp} : ∀ {os : List HO} {vs : List V}, ObjsAt H os vs → (∀ o ∈ os, objFl o) → DpAll K H vs (os.map objD)
  | [], [], _, _ => .nil
  | [], _ :: _, h, _ => by have := h.len; cases this
  | _ :: _, [], h, _ => by have := h.len; cases this
  | o :: os, v :: vs, h, f => by
    obtain ⟨q, e1, e2⟩ := h.at_ 0 o rfl
    cases e1
    exact .cons (obj_dp (f o List.mem_cons_self) e2) (h.tail.dp fun u hu => f u (List.mem_cons_of_mem _ hu))
/-- off all that stands in H, tables apart -/
def NewX (H : Hp) (p : Addr) : Prop := ∀ b o, H b = some o → (∀ ps, o ≠ .tbl ps) → b ≠ p
end EE

namespace My
open PySem PySem.Spec PyProof.Rows L2 EE
def topS (i : Nat) : Stmt := PySem.Challenge.pw_evenends_k24_texts_of_stories.main.body.getD i (.Pass ⟨0, 0, 0, 0⟩)
abbrev s__wall : Stmt := (topS 0)
abbrev s_InvalidDeed___init__ : Stmt := (inClass (topS 3) 0)
abbrev s_InvalidText___init__ : Stmt := (inClass (topS 4) 0)
abbrev s_is_name : Stmt := (topS 10)
abbrev s_name_in : Stmt := (topS 14)
abbrev s_number_in : Stmt := (topS 15)
abbrev s_Line___init__ : Stmt := (inClass (topS 16) 0)
abbrev s_Line_is_over : Stmt := (inClass (topS 16) 1)
abbrev s_Line_next_word : Stmt := (inClass (topS 16) 2)
abbrev s_Line_refuse : Stmt := (inClass (topS 16) 3)
abbrev s_Line_take : Stmt := (inClass (topS 16) 4)
abbrev s_Line_skips : Stmt := (inClass (topS 16) 5)
abbrev s_Line_close : Stmt := (inClass (topS 16) 6)
abbrev s_lines_of : Stmt := (topS 17)
abbrev s_item_in : Stmt := (topS 19)
abbrev s_deed_from : Stmt := (topS 21)
abbrev s_deeds_in : Stmt := (topS 22)
abbrev s_story_text : Stmt := (topS 24)
abbrev s_read_story : Stmt := (topS 25)
abbrev s__law_pen : Stmt := (topS 27)
abbrev s__law_draw : Stmt := (topS 28)
abbrev s__law_pick : Stmt := (topS 29)
abbrev s__law_word : Stmt := (topS 30)
abbrev s__law_names : Stmt := (topS 31)
abbrev s__law_tag : Stmt := (topS 32)
abbrev s__law_deed : Stmt := (topS 33)
abbrev s__law_text : Stmt := (topS 34)
abbrev s__law_is_right : Stmt := (topS 35)
abbrev s__law_wrong_line : Stmt := (topS 36)
abbrev s__law_due : Stmt := (topS 37)
abbrev s__law_heard : Stmt := (topS 38)
abbrev s__law_bent : Stmt := (topS 39)
abbrev s_law : Stmt := (topS 40)
theorem sc__wall : FnScope ["k"] ["k"] (defScope s__wall) := ⟨rfl, rfl, rfl, by decide +kernel, rfl, by decide +kernel, by decide +kernel⟩
theorem sc_InvalidDeed___init__ : FnScope ["self", "reason"] ["self", "reason"] (defScope s_InvalidDeed___init__) := ⟨rfl, rfl, rfl, by decide +kernel, rfl, by decide +kernel, by decide +kernel⟩
theorem sc_InvalidText___init__ : FnScope ["self", "line", "word"] ["self", "line", "word"] (defScope s_InvalidText___init__) := ⟨rfl, rfl, rfl, by decide +kernel, rfl, by decide +kernel, by decide +kernel⟩
theorem sc_is_name : FnScope ["value", "sign"] ["value"] (defScope s_is_name) := ⟨rfl, rfl, rfl, by decide +kernel, rfl, by decide +kernel, by decide +kernel⟩
theorem sc_name_in : FnScope ["word"] ["word"] (defScope s_name_in) := ⟨rfl, rfl, rfl, by decide +kernel, rfl, by decide +kernel, by decide +kernel⟩
theorem sc_number_in : FnScope ["word", "most", "digits", "sign"] ["word", "most"] (defScope s_number_in) := ⟨rfl, rfl, rfl, by decide +kernel, rfl, by decide +kernel, by decide +kernel⟩
theorem sc_Line___init__ : FnScope ["self", "text", "index"] ["self", "text", "index"] (defScope s_Line___init__) := ⟨rfl, rfl, rfl, by decide +kernel, rfl, by decide +kernel, by decide +kernel⟩
theorem sc_Line_is_over : FnScope ["self"] ["self"] (defScope s_Line_is_over) := ⟨rfl, rfl, rfl, by decide +kernel, rfl, by decide +kernel, by decide +kernel⟩
theorem sc_Line_next_word : FnScope ["self"] ["self"] (defScope s_Line_next_word) := ⟨rfl, rfl, rfl, by decide +kernel, rfl, by decide +kernel, by decide +kernel⟩
theorem sc_Line_refuse : FnScope ["self", "back"] ["self", "back"] (defScope s_Line_refuse) := ⟨rfl, rfl, rfl, by decide +kernel, rfl, by decide +kernel, by decide +kernel⟩
theorem sc_Line_take : FnScope ["self", "meaning", "found"] ["self", "meaning"] (defScope s_Line_take) := ⟨rfl, rfl, rfl, by decide +kernel, rfl, by decide +kernel, by decide +kernel⟩
theorem sc_Line_skips : FnScope ["self", "words"] ["self", "words"] (defScope s_Line_skips) := ⟨rfl, rfl, rfl, by decide +kernel, rfl, by decide +kernel, by decide +kernel⟩
theorem sc_Line_close : FnScope ["self"] ["self"] (defScope s_Line_close) := ⟨rfl, rfl, rfl, by decide +kernel, rfl, by decide +kernel, by decide +kernel⟩
theorem sc_lines_of : FnScope ["text", "index", "row"] ["text"] (defScope s_lines_of) := ⟨rfl, rfl, rfl, by decide +kernel, rfl, by decide +kernel, by decide +kernel⟩
theorem sc_item_in : FnScope ["word", "number"] ["word"] (defScope s_item_in) := ⟨rfl, rfl, rfl, by decide +kernel, rfl, by decide +kernel, by decide +kernel⟩
theorem sc_deed_from : FnScope ["line", "word", "deed", "meaning"] ["line"] (defScope s_deed_from) := ⟨rfl, rfl, rfl, by decide +kernel, rfl, by decide +kernel, by decide +kernel⟩
theorem sc_deeds_in : FnScope ["text", "line"] ["text"] (defScope s_deeds_in) := ⟨rfl, rfl, rfl, by decide +kernel, rfl, by decide +kernel, by decide +kernel⟩
theorem sc_story_text : FnScope ["deeds", "part", "deed"] ["deeds"] (defScope s_story_text) := ⟨rfl, rfl, rfl, by decide +kernel, rfl, by decide +kernel, by decide +kernel⟩
theorem sc_read_story : FnScope ["text"] ["text"] (defScope s_read_story) := ⟨rfl, rfl, rfl, by decide +kernel, rfl, by decide +kernel, by decide +kernel⟩
theorem sc__law_pen : FnScope ["_law_script"] ["_law_script"] (defScope s__law_pen) := ⟨rfl, rfl, rfl, by decide +kernel, rfl, by decide +kernel, by decide +kernel⟩
theorem sc__law_draw : FnScope ["_law_pen_here", "_law_many", "_law_digit", "_law_at", "_law_cell", "_law_great", "_law_mixed"] ["_law_pen_here", "_law_many"] (defScope s__law_draw) := ⟨rfl, rfl, rfl, by decide +kernel, rfl, by decide +kernel, by decide +kernel⟩
theorem sc__law_pick : FnScope ["_law_pen_here", "_law_some"] ["_law_pen_here", "_law_some"] (defScope s__law_pick) := ⟨rfl, rfl, rfl, by decide +kernel, rfl, by decide +kernel, by decide +kernel⟩
theorem sc__law_word : FnScope ["_law_pen_here", "_law_many", "_law_k"] ["_law_pen_here"] (defScope s__law_word) := ⟨rfl, rfl, rfl, by decide +kernel, rfl, by decide +kernel, by decide +kernel⟩
theorem sc__law_names : FnScope ["_law_pen_here", "_law_many", "_law_found", "_law_signs", "_law_spare", "_law_k", "_law_tag_here", "_law_one"] ["_law_pen_here", "_law_many"] (defScope s__law_names) := ⟨rfl, rfl, rfl, by decide +kernel, rfl, by decide +kernel, by decide +kernel⟩
theorem sc__law_tag : FnScope ["_law_pen_here"] ["_law_pen_here"] (defScope s__law_tag) := ⟨rfl, rfl, rfl, by decide +kernel, rfl, by decide +kernel, by decide +kernel⟩
theorem sc__law_deed : FnScope ["_law_pen_here", "_law_word_here"] ["_law_pen_here"] (defScope s__law_deed) := ⟨rfl, rfl, rfl, by decide +kernel, rfl, by decide +kernel, by decide +kernel⟩
theorem sc__law_text : FnScope ["_law_some", "_law_part", "_law_deed_here"] ["_law_some"] (defScope s__law_text) := ⟨rfl, rfl, rfl, by decide +kernel, rfl, by decide +kernel, by decide +kernel⟩
theorem sc__law_is_right : FnScope ["_law_sort", "_law_word_here", "_law_signs", "_law_sign"] ["_law_sort", "_law_word_here"] (defScope s__law_is_right) := ⟨rfl, rfl, rfl, by decide +kernel, rfl, by decide +kernel, by decide +kernel⟩
theorem sc__law_wrong_line : FnScope ["_law_words", "_law_sorts", "_law_some", "_law_k"] ["_law_words"] (defScope s__law_wrong_line) := ⟨rfl, rfl, rfl, by decide +kernel, rfl, by decide +kernel, by decide +kernel⟩
theorem sc__law_due : FnScope ["_law_page", "_law_found", "_law_lines_so", "_law_k", "_law_words", "_law_wrong"] ["_law_page"] (defScope s__law_due) := ⟨rfl, rfl, rfl, by decide +kernel, rfl, by decide +kernel, by decide +kernel⟩
theorem sc__law_heard : FnScope ["_law_value", "_law_caught", "_law_told", "error"] ["_law_value"] (defScope s__law_heard) := ⟨rfl, rfl, rfl, by decide +kernel, rfl, by decide +kernel, by decide +kernel⟩
theorem sc__law_bent : FnScope ["_law_pen_here", "_law_lines_so", "_law_some", "_law_odd", "_law_at", "_law_other", "_law_way", "_law_words", "_law_k", "_law_ways"] ["_law_pen_here", "_law_lines_so"] (defScope s__law_bent) := ⟨rfl, rfl, rfl, by decide +kernel, rfl, by decide +kernel, by decide +kernel⟩
theorem sc_law : FnScope ["_law_script", "_law_pen_here", "_law_turn", "_law_row_so", "_law_page", "_law_lines_so", "_law_again", "_law_some", "_law_bent_here", "_law_odd", "_law_told", "_law_k"] ["_law_script"] (defScope s_law) := ⟨rfl, rfl, rfl, by decide +kernel, rfl, by decide +kernel, by decide +kernel⟩
local macro_rules | `(tactic| walk_at "sq") => `(tactic| first | assumption | exact sqL_of (by assumption) | exact sqT_of (by assumption))
local macro_rules | `(tactic| walk_at "same") => `(tactic| first
  | assumption
  | exact Same.refl _
  | (refine Same.trans ?_ (by assumption); walk_at "same")
  | (refine same_past ?_ (by assumption) ?_; (walk_at "same"); (walk_at "no")))
local macro_rules | `(tactic| walk_at "no") => `(tactic| first
  | assumption
  | (refine none_same ?_ (by assumption); walk_at "same")
  | (refine none_same (by assumption) ?_; walk_at "no")
  | (refine none_but (by assumption) ?_ ?_; (walk_at "n"); (walk_at "no")))
local macro_rules | `(tactic| walk_at "but") => `(tactic| first
  | assumption
  | exact But.refl _ _
  | (refine But.then ?_ (by assumption); walk_at "but")
  | (refine But.trans ?_ (by assumption); walk_at "but")
  | (refine but_past ?_ (by assumption) ?_; (walk_at "but"); (walk_at "no")))
local macro_rules | `(tactic| walk_at "hasp") => `(tactic| (repeat (first | exact ⟨_, _, by assumption⟩ | (refine hasPen_same (by assumption) ?_))))
local macro_rules | `(tactic| walk_at "hasc") => `(tactic| (repeat (first | exact ⟨_, _, by assumption⟩ | (refine hasCells_same (by assumption) ?_))))
local macro_rules | `(tactic| walk_at "pen") => `(tactic| (repeat (first | assumption | (refine PenAt.keep ?_ (by assumption)))))
local macro_rules | `(tactic| walk_at "has") => `(tactic| first
  | exact ⟨_, by assumption⟩
  | (refine has_same (by assumption) ?_; walk_at "has")
  | (refine has_but (by assumption) ?_ ?_; (walk_at "n"); (walk_at "has")))
local macro_rules | `(tactic| walk_at "n") => `(tactic| first
  | assumption
  | exact Ne.symm (by assumption)
  | (refine ne_free (by assumption) ?_; walk_at "has")
  | (refine ne_free' (by assumption) ?_; walk_at "has")
  | (refine pen_off (by assumption) ?_; walk_at "hasp"; done)
  | (refine Ne.symm (pen_off (by assumption) ?_); walk_at "hasp"; done)
  | (refine pen_off' (by assumption) ?_; walk_at "hasc"; done)
  | (refine Ne.symm (pen_off' (by assumption) ?_); walk_at "hasc"; done))
local macro_rules | `(tactic| walk_at "hh") => `(tactic| first
  | assumption
  | (refine get_same (by assumption) ?_; walk_at "hh")
  | (refine get_but (by assumption) (by walk_at "n") ?_; walk_at "hh"))
local macro_rules | `(tactic| walk_at "h") => `(tactic| first
  | ((repeat (first | assumption | (refine get_same (by assumption) ?_) | (refine get_but (by assumption) (by walk_at "n") ?_))); done)
  | walk_at "hh")
local macro_rules | `(tactic| walk_at "r") => `(tactic| repeat (first
  | (refine go ?_)
  | (with_reducible refine rd_mul ?_ ?_)
  | (with_reducible refine rd_mod ?_ ?_)
  | (with_reducible refine rd_fdiv ?_ ?_)
  | (with_reducible refine rd_pow ?_ ?_)
  | (with_reducible refine rd_strI ?_ ?_)
  | (with_reducible refine rd_addS ?_ ?_)
  | (with_reducible refine rd_lenS ?_ ?_)
  | (with_reducible refine rd_slS ?_ ?_)))
local macro_rules | `(tactic| walk_at "R") => `(tactic| repeat (first
  | (refine go ?_)
  | (with_reducible refine new_lstS fun _ _ _ _ _ => ?_)
  | (with_reducible refine new_lst (Nat.le_of_ble_eq_true rfl) fun _ _ _ _ _ => ?_)
  | (with_reducible refine new_tup (Nat.le_of_ble_eq_true rfl) fun _ _ _ _ _ => ?_)
  | ((with_reducible refine len_go ?_); first | (refine Or.inl ⟨_, sqL_of (by walk_at "h"), ?_⟩) | (refine Or.inr ⟨_, sqT_of (by walk_at "h"), ?_⟩))
  | ((with_reducible refine slT_go ?_); refine ⟨_, sqL_of (by walk_at "h"), fun _ _ _ _ _ => ?_⟩)
  | ((with_reducible refine slD_go ?_); refine ⟨_, sqL_of (by walk_at "h"), fun _ _ _ _ _ => ?_⟩)
  | ((with_reducible refine slD1_go ?_); refine ⟨_, sqL_of (by walk_at "h"), fun _ _ _ _ _ => ?_⟩)
  | ((with_reducible refine sl_go ?_); refine ⟨_, sqL_of (by walk_at "h"), fun _ _ _ _ _ => ?_⟩)
  | ((with_reducible refine cat_go ?_); refine catS_go (by walk_at "h") (by walk_at "h") ?_ fun _ _ _ _ _ => ?_; rotate_left)
  | ((with_reducible refine cat_go ?_); refine catV_go (by walk_at "h") (by walk_at "h") (Nat.le_of_ble_eq_true rfl) fun _ _ _ _ _ => ?_)
  | ((with_reducible refine cat_go ?_); refine catV_go (by walk_at "h") (by walk_at "h") ?_ fun _ _ _ _ _ => ?_; rotate_left)
  | ((with_reducible refine ixL_go ?_); refine ⟨_, sqL_of (by walk_at "h"), ?_⟩; refine ⟨_, atI_lit, ?_⟩)
  | (with_reducible refine rd_mul ?_ ?_; rotate_left)
  | (with_reducible refine rd_mod ?_ ?_; rotate_left)
  | (with_reducible refine rd_fdiv ?_ ?_; rotate_left)
  | (with_reducible refine rd_pow ?_ ?_; rotate_left)
  | (with_reducible refine rd_strI ?_ ?_; rotate_left)
  | (with_reducible refine rd_addS ?_ ?_; rotate_left)
  | (with_reducible refine rd_lenS ?_ ?_; rotate_left)
  | (with_reducible refine rd_slS ?_ ?_; rotate_left)))

structure Tx (K : PySem.W.Frag) (mg : Str → Option Value) : Prop where
  b_int : mg "int" = none
  b_len : mg "len" = none
  b_abs : mg "abs" = none
  b_str : mg "str" = none
  b_list : mg "list" = none
  b_tuple : mg "tuple" = none
  b_isinstance : mg "isinstance" = none
  b_all : mg "all" = none
  b_range : mg "range" = none
  b_repr : mg "repr" = none
  b_enumerate : mg "enumerate" = none
  c_LETTERS : ∃ u, mg "LETTERS" = some u ∧ RelV (.str "abcdefghijklmnopqrstuvwxyz") u
  c_MOST_LETTERS : ∃ u, mg "MOST_LETTERS" = some u ∧ RelV (.int 8) u
  c_OWN : ∃ u, mg "OWN" = some u ∧ RelV (.str "self") u
  c_DIGITS : ∃ u, mg "DIGITS" = some u ∧ RelV (.str "0123456789") u
  c_MOST_SHORT : ∃ u, mg "MOST_SHORT" = some u ∧ RelV (.int 6) u
def lets : Str := "abcdefghijklmnopqrstuvwxyz"
def nameS (z : Str) : Bool := decide (1 ≤ z.length ∧ z.length ≤ 8 ∧ z ≠ "self") && z.cps.toList.all (fun c => decide (c ∈ lets.cps.toList))
/-- a def of one text that tells a value and changes nothing -/
def spS (f : Str → V) : Sp := fun vs H Q _ => ∃ z : Str, vs = [.str z] ∧ z.length ≤ 1000 ∧ Asc z ∧ ∀ H', Same H H' → Q (f z) H'
def digs : Str := "0123456789"
def isDg (c : Nat) : Bool := decide (48 ≤ c ∧ c ≤ 57)
theorem mem_digs (c : Nat) : decide (c ∈ digs.cps.toList) = isDg c := by
  have e : digs.cps.toList = [48, 49, 50, 51, 52, 53, 54, 55, 56, 57] := by decide +kernel
  rw [e]
  unfold isDg
  refine decide_eq_decide.mpr ?_
  simp only [List.mem_cons, List.not_mem_nil, or_false]
  omega
/-- digits, not too many, no 0 ahead -/
def okD (m : Nat) (ds : List Nat) : Bool := decide (1 ≤ ds.length ∧ ds.length ≤ m) && ds.all isDg
def numR (m : Nat) (z : Str) : Option Int :=
  match z.cps.toList with
  | 45 :: ds => if okD m ds && !decide (ds.head? = some 48) then some (-((NumText.digitsVal ds : Nat) : Int)) else none
  | ds => if okD m ds && (!decide (ds.head? = some 48) || decide (ds = [48])) then some ((NumText.digitsVal ds : Nat) : Int) else none
def optI : Option Int → V | some i => .int i | none => .non
def itemR (z : Str) : Option Int := match numR 6 z with | some i => if 0 ≤ i then some i else none | none => none
section
variable {P : Program} {w : World} {K : PySem.W.Frag} {mg : Str → Option Value} {base : Heap}
theorem ok_is_name {f : Addr} {fd : FuncData} (F : Fun K "is_name" "is_name" s_is_name f fd) (T : Tx K mg) : FnOk P w K mg base CX0 1 f fd ["value"] (spS fun z => .bl (nameS z)) := by
  refine F.ok sc_is_name (fun vs H Q E h => ?_) (fun cdv A outer s H vs Q E hr h => ?_)
  · obtain ⟨z, rfl, _⟩ := h
    rfl
  · obtain ⟨z, rfl, hl, ha, k⟩ := h
    refine ⟨_, (pss_cons (ps_if (PW.pt (pw_or (pt_not (pt_val (pe_callB call_isi (by rfl) T.b_isinstance (by decide +kernel) (pa_cons (pv 0) (pa_cons (pe_bltn (v := .ty "str") (by rfl) T.b_str (by decide +kernel) rfl) pa_nil))))) (pw_or (pt_not (pt_chain op_le op_le pe_int (pe_callB cr_lenS (by rfl) T.b_len (by decide +kernel) (pa_cons (pv 0) pa_nil)) (C8.pe_gc (by rfl) T.c_MOST_LETTERS))) (pw_or1 (pt_cmpR op_eq (pv 0) (C8.pe_gc (by rfl) T.c_OWN) (nomark _)))))) (pss_one (ps_ret pe_bl)) pss_nil)
      (pss_one (ps_ret (pe_callB (cr_all rfl) (by rfl) T.b_all (by decide +kernel) (pa_cons (pe_lc (own := [("sign", 1)]) rfl sc_is_name.nd (pi_str (pv 0)) (blkOk_by (own := [("sign", 1)]) (N := ["value", "sign"]) (sc := defScope s_is_name) (by decide +kernel)) (fun _ _ _ _ _ => (pg_name (i := 1) sc_is_name.nd rfl (by first | exact Or.inl rfl | exact Or.inr rfl))) (fun _ _ _ _ _ => pts_nil) (fun _ _ _ _ _ => (pe_cmpR or_inS (pv 1) (C8.pe_gc (by rfl) T.c_LETTERS) rfl))) pa_nil))))), ?_⟩
    obtain ⟨t, ty, e1, _, _⟩ := (Th.str (H := H) z hl ha).ty (K := K)
    walk_at "r"
    refine rd_isi ty e1 ?_
    walk_at "r"
    refine rd_iteF rfl ?_
    walk_at "r"
    · refine rd_dec (fun c1 => ?_) (fun c1 => ?_)
      · walk_at "r"
        refine rd_decN (fun c2 => ?_) (fun c2 => ?_)
        · walk_at "r"
          have e : nameS z = false := by
            unfold nameS
            rw [decide_eq_false (by omega), Bool.false_and]
          rw [← e]
          exact k _ (Same.refl _)
        · walk_at "r"
          refine rd_dec (fun c3 => ?_) (fun c3 => ?_)
          · walk_at "r"
            have e : nameS z = false := by
              unfold nameS
              rw [decide_eq_false (fun q => q.2.2 c3), Bool.false_and]
            rw [← e]
            exact k _ (Same.refl _)
          · walk_at "r"
            refine lcat_str (fun c => some (V.bl (decide (c ∈ lets.cps.toList)))) (by omega) (fun D i c H' hD hc I => ?_) (fun D H' hD sm hl2 => ?_)
            · walk_at "r"
              refine ⟨rfl, ?_⟩
              walk_at "r"
              exact I.some hD hc rfl (Same.refl _) (by rw [Array.length_toList]; exact Nat.le_trans hl (by decide))
            · walk_at "r"
              rw [filterMap_some (fun c => V.bl (decide (c ∈ lets.cps.toList)))] at hl2
              refine rd_all (bs := z.cps.toList.map fun c => decide (c ∈ lets.cps.toList)) (sqL_of (by rw [List.map_map]; exact hl2)) ?_
              have e : nameS z = (z.cps.toList.map fun c => decide (c ∈ lets.cps.toList)).all id := by
                unfold nameS
                rw [decide_eq_true ⟨by omega, by omega, c3⟩, Bool.true_and, List.all_map]
                rfl
              rw [← e]
              exact k _ sm
      · walk_at "r"
        have e : nameS z = false := by
          unfold nameS
          rw [decide_eq_false (by omega), Bool.false_and]
        rw [← e]
        exact k _ (Same.refl _)
    · exact small_sz hl
theorem str_nil {z : Str} (h : z.cps.toList = []) (c : Nat) : z ≠ ⟨#[c]⟩ := fun e => by
  rw [e] at h
  cases h
theorem str_eq {z : Str} {l : List Nat} : z = ⟨l.toArray⟩ ↔ z.cps.toList = l := ⟨fun e => by rw [e], fun e => by
  rw [← e]⟩
theorem cut_tail (z : Str) : (cutS z (some 1) none).cps.toList = z.cps.toList.drop 1 := by
  show (((z.cps.toList.drop _).take _).toArray).toList = _
  have e1 : HT.sIx z.length 0 (some 1) = min 1 z.length := by unfold HT.sIx; simp
  have e2 : HT.sIx z.length z.length none = z.length := rfl
  have el : z.cps.toList.length = z.length := Array.length_toList
  rw [e1, e2]
  by_cases h : 1 ≤ z.length
  · rw [Nat.min_eq_left h]
    exact List.take_of_length_le (by rw [List.length_drop, el]; exact Nat.le_refl _)
  · have : z.cps.toList = [] := List.length_eq_zero_iff.mp (by omega)
    rw [this]
    simp
theorem cut_head (z : Str) : (cutS z none (some 1)).cps.toList = z.cps.toList.take 1 := by
  show (((z.cps.toList.drop _).take _).toArray).toList = _
  have e1 : HT.sIx z.length z.length (some 1) = min 1 z.length := by unfold HT.sIx; simp
  have e2 : HT.sIx z.length 0 none = 0 := rfl
  have el : z.cps.toList.length = z.length := Array.length_toList
  rw [e1, e2]
  show (z.cps.toList.drop 0).take _ = _
  rw [List.drop_zero, Nat.sub_zero]
  by_cases h : 1 ≤ z.length
  · rw [Nat.min_eq_left h]
  · have : z.cps.toList = [] := List.length_eq_zero_iff.mp (by omega)
    rw [this]
    simp
def digL : List Nat → List Nat | 45 :: ds => ds | ds => ds
theorem numR_bad {m : Nat} {z : Str} (h : okD m (digL z.cps.toList) = false) : numR m z = none := by
  unfold numR
  unfold digL at h
  split at h
  · rw [h, Bool.false_and]
    exact if_neg Bool.false_ne_true
  · rw [h, Bool.false_and]
    exact if_neg Bool.false_ne_true
theorem numR_zero {m : Nat} {z : Str} (h : (digL z.cps.toList).head? = some 48) (n : z.cps.toList ≠ [48]) : numR m z = none := by
  unfold numR
  unfold digL at h
  split at h
  · rw [decide_eq_true h, Bool.not_true, Bool.and_false]
    exact if_neg Bool.false_ne_true
  · rw [decide_eq_true h, decide_eq_false n, Bool.not_true, Bool.or_false, Bool.and_false]
    exact if_neg Bool.false_ne_true
theorem allDg {ds : List Nat} (h : ds.all isDg = true) : ∀ c ∈ ds, 48 ≤ c ∧ c ≤ 57 := fun c hc => by
  have z := List.all_eq_true.mp h c hc
  exact of_decide_eq_true z
theorem numR_good {m : Nat} {z : Str} (hm : m ≤ 600) (h : okD m (digL z.cps.toList) = true) (n : (digL z.cps.toList).head? = some 48 → z.cps.toList = [48]) : ∃ i, numR m z = some i ∧ intText? z = some i ∧ z.length ≤ 640 := by
  have el : z.cps.toList.length = z.length := Array.length_toList
  have h' := h
  unfold okD at h
  rw [Bool.and_eq_true, decide_eq_true_eq] at h
  obtain ⟨⟨h1, h2⟩, h3⟩ := h
  unfold numR
  cases hz : z.cps.toList with
  | nil => rw [hz] at h1; exact absurd h1 (by decide)
  | cons c ds =>
    rw [hz] at h' h1 h2 h3 n el
    by_cases hc : c = 45
    · subst hc
      have nh : ds.head? ≠ some 48 := fun q => by have := n q; cases this
      have h'' : okD m ds = true := h'
      have e : z.length ≤ 640 := by
        have : ds.length ≤ m := h2
        simp only [List.length_cons] at el
        omega
      refine ⟨-((NumText.digitsVal ds : Nat) : Int), ?_, intText_neg hz (allDg h3) (fun q => by rw [q] at h1; exact absurd h1 (by decide)) (by omega), e⟩
      simp only [h'', decide_eq_false nh, Bool.not_false, Bool.and_self]
      rfl
    · have ed : digL (c :: ds) = c :: ds := by
        unfold digL
        split
        · rename_i q; injection q with q1 q2; exact absurd q1 hc
        · rfl
      rw [ed] at h' h1 h2 h3 n
      have e : z.length ≤ 640 := by omega
      refine ⟨((NumText.digitsVal (c :: ds) : Nat) : Int), ?_, by have q := intText_digits (x := z) (by rw [hz]; exact allDg h3) (by rw [hz]; exact List.cons_ne_nil _ _) (by omega); rw [hz] at q; exact q, e⟩
      split
      · rename_i q; injection q with q1 q2; exact absurd q1 hc
      · have hh : (!decide ((c :: ds).head? = some 48) || decide (c :: ds = [48])) = true := by
          by_cases q : (c :: ds).head? = some 48
          · rw [decide_eq_true (n q), Bool.or_true]
          · rw [decide_eq_false q]; rfl
        rw [h', hh]
        rfl
theorem dash {z : Str} : cutS z none (some 1) = ("-" : Str) ↔ ∃ ds, z.cps.toList = 45 :: ds := by
  have e1 : ("-" : Str) = ⟨[45].toArray⟩ := by decide +kernel
  rw [e1, str_eq, cut_head]
  cases z.cps.toList with
  | nil => simp
  | cons c ds => simp
theorem digL_cut {z : Str} (h : cutS z none (some 1) = ("-" : Str)) : (cutS z (some 1) none).cps.toList = digL z.cps.toList := by
  obtain ⟨ds, e⟩ := dash.mp h
  rw [cut_tail, e]
  rfl
theorem digL_not {z : Str} (h : ¬ cutS z none (some 1) = ("-" : Str)) : z.cps.toList = digL z.cps.toList := by
  unfold digL
  split
  · rename_i ds e
    exact absurd (dash.mpr ⟨ds, e⟩) h
  · rfl
theorem atI_zero {α : Type} (c : α) (cs : List α) : atI (c :: cs) 0 = some c := by
  unfold atI ixN
  simp
  all_goals omega
def spNum : Sp := fun vs H Q _ => ∃ (z : Str) (m : Nat), vs = [.str z, .int m] ∧ z.length ≤ 1000 ∧ Asc z ∧ m ≤ 600 ∧ ∀ H', Same H H' → Q (optI (numR m z)) H'
theorem ok_number_in {f : Addr} {fd : FuncData} (F : Fun K "number_in" "number_in" s_number_in f fd) (T : Tx K mg) : FnOk P w K mg base CX0 1 f fd ["word", "most"] spNum := by
  refine F.ok sc_number_in (fun vs H Q E h => ?_) (fun cdv A outer s H vs Q E hr h => ?_)
  · obtain ⟨z, m, rfl, _⟩ := h
    rfl
  · obtain ⟨z, m, rfl, hl, ha, hm, k⟩ := h
    refine ⟨_, (pss_cons (ps_set (i := 2) sc_number_in.nd rfl (by first | exact Or.inl rfl | exact Or.inr rfl) (pe_ifExp (pt_cmpR op_eq (pe_slice sl_str (pv 0) po_none (po_some pe_int)) pe_str (nomark _)) (pe_slice sl_str (pv 0) (po_some pe_int) po_none) (pv 0)))
      (pss_cons (ps_if (PW.pt (pw_or (pt_not (pt_chain op_le op_le pe_int (pe_callB cr_lenS (by rfl) T.b_len (by decide +kernel) (pa_cons (pv 2) pa_nil)) (pv 1))) (pw_or1 (pt_not (pt_val (pe_callB (cr_all rfl) (by rfl) T.b_all (by decide +kernel) (pa_cons (pe_lc (own := [("sign", 3)]) rfl sc_number_in.nd (pi_str (pv 2)) (blkOk_by (own := [("sign", 3)]) (N := ["word", "most", "digits", "sign"]) (sc := defScope s_number_in) (by decide +kernel)) (fun _ _ _ _ _ => (pg_name (i := 3) sc_number_in.nd rfl (by first | exact Or.inl rfl | exact Or.inr rfl))) (fun _ _ _ _ _ => pts_nil) (fun _ _ _ _ _ => (pe_cmpR or_inS (pv 3) (C8.pe_gc (by rfl) T.c_DIGITS) rfl))) pa_nil))))))) (pss_one (ps_ret pe_non)) pss_nil)
      (pss_one (ps_ret (pe_ifExp (PW.pt (pw_and (pt_cmpR op_eq (pe_ix ix_str (pv 2) pe_int (fun _ _ => rfl)) pe_str (nomark _)) (pw_and1 (pt_cmpR op_ne (pv 0) pe_str (nomark _))))) pe_non (pe_callTy call_int_str (by rfl) T.b_int (by decide +kernel) (pa_cons (pv 0) pa_nil))))))), ?_⟩
    have el : z.cps.toList.length = z.length := Array.length_toList
    walk_at "r"
    rotate_left
    · exact small_sz hl
    refine rd_ifJ (fun v H' => H' = H ∧ ∃ d : Str, v = .str d ∧ d.cps.toList = digL z.cps.toList ∧ d.length ≤ 1000) (fun Q1 hQ c => ?_) (fun Q1 hQ c => ?_) ?_
    · walk_at "r"
      · have e := digL_cut (of_decide_eq_true c)
        refine hQ _ _ ⟨rfl, _, rfl, e, ?_⟩
        have e2 : (cutS z (some 1) none).cps.toList.length = (cutS z (some 1) none).length := Array.length_toList
        rw [cut_tail, List.length_drop] at e2
        omega
      · exact small_sz hl
    · walk_at "r"
      exact hQ _ _ ⟨rfl, _, rfl, digL_not (of_decide_eq_false c), hl⟩
    · rintro v H' ⟨rfl, d, rfl, ed, dl⟩
      have ed2 : d.cps.toList.length = d.length := Array.length_toList
      have bad : okD m d.cps.toList = false → ∀ H2, Same H' H2 → Q .non H2 := fun q H2 s2 => by
        have e := numR_bad (m := m) (z := z) (by rw [← ed]; exact q)
        have := k H2 s2
        rw [e] at this
        exact this
      walk_at "r"
      rotate_left
      · exact small_sz dl
      refine rd_dec (fun c1 => ?_) (fun c1 => ?_)
      · walk_at "r"
        refine rd_decN (fun c2 => ?_) (fun c2 => ?_)
        · walk_at "r"
          refine bad ?_ _ (Same.refl _)
          unfold okD
          rw [decide_eq_false (by omega), Bool.false_and]
        · walk_at "r"
          refine lcat_str (fun c => some (V.bl (decide (c ∈ digs.cps.toList)))) (Nat.le_trans dl (by decide)) (fun D i c H2 hD hc I => ?_) (fun D H2 hD sm hl2 => ?_)
          · walk_at "r"
            refine ⟨rfl, ?_⟩
            walk_at "r"
            exact I.some hD hc rfl (Same.refl _) (by rw [Array.length_toList]; exact Nat.le_trans dl (by decide))
          · walk_at "r"
            rw [filterMap_some (fun c => V.bl (decide (c ∈ digs.cps.toList)))] at hl2
            refine rd_all (bs := d.cps.toList.map isDg) (sqL_of (by rw [List.map_map]; rw [hl2]; congr 2; refine List.map_congr_left fun c _ => ?_; rw [mem_digs c]; rfl)) ?_
            rw [List.all_map]
            walk_at "r"
            refine rd_ite (fun c3 => ?_) (fun c3 => ?_)
            · walk_at "r"
              refine bad ?_ _ sm
              unfold okD
              rw [Bool.and_eq_false_iff]
              rw [Bool.not_eq_true'] at c3
              exact .inr c3
            · walk_at "r"
              rw [Bool.not_eq_false'] at c3
              have hok : okD m d.cps.toList = true := by
                unfold okD
                rw [decide_eq_true (by omega), Bool.true_and]
                exact c3
              obtain ⟨c0, cs, e0⟩ : ∃ c0 cs, d.cps.toList = c0 :: cs := by
                cases q : d.cps.toList with
                | nil => rw [q] at ed2; simp only [List.length_nil] at ed2; omega
                | cons c0 cs => exact ⟨c0, cs, rfl⟩
              refine rd_ixS (c := c0) (by rw [e0]; exact atI_zero _ _) ?_ (small_sz dl)
              walk_at "r"
              have one : (⟨#[c0]⟩ : Str) = Str.ofString "0" ↔ c0 = 48 := by
                have e1 : Str.ofString "0" = ⟨[48].toArray⟩ := by decide +kernel
                rw [e1, str_eq]
                exact ⟨fun q => by injection q, fun q => by rw [q]⟩
              have zer : z = Str.ofString "0" ↔ z.cps.toList = [48] := by
                have e1 : Str.ofString "0" = ⟨[48].toArray⟩ := by decide +kernel
                rw [e1, str_eq]
              have good : ((digL z.cps.toList).head? = some 48 → z.cps.toList = [48]) → ∃ a n, [V.str z] = [V.str a] ∧ intText? a = some n ∧ a.length ≤ 640 ∧ Q (V.int n) H2 := fun q => by
                obtain ⟨i, q1, q2, q3⟩ := numR_good hm (by rw [← ed]; exact hok) q
                refine ⟨z, i, rfl, q2, q3, ?_⟩
                have q4 := k H2 sm
                rw [q1] at q4
                exact q4
              refine rd_dec (fun c4 => ?_) (fun c4 => ?_)
              · walk_at "r"
                refine rd_decN (fun c5 => ?_) (fun c5 => ?_)
                · walk_at "r"
                  have q := k H2 sm
                  rw [numR_zero (by rw [← ed, e0, one.mp c4]; rfl) (fun q => c5 (zer.mpr q))] at q
                  exact q
                · walk_at "r"
                  exact good fun _ => zer.mp c5
              · walk_at "r"
                exact good fun q => absurd (one.mpr (by rw [← ed, e0] at q; exact Option.some.inj q)) c4
      · walk_at "r"
        refine bad ?_ _ (Same.refl _)
        unfold okD
        rw [decide_eq_false (by omega), Bool.false_and]
end

end My

namespace My
open PySem PySem.Spec PyProof.Rows L2 EE

local macro_rules | `(tactic| walk_at "sq") => `(tactic| first | assumption | exact sqL_of (by assumption) | exact sqT_of (by assumption))
local macro_rules | `(tactic| walk_at "same") => `(tactic| first
  | assumption
  | exact Same.refl _
  | (refine Same.trans ?_ (by assumption); walk_at "same")
  | (refine same_past ?_ (by assumption) ?_; (walk_at "same"); (walk_at "no")))
local macro_rules | `(tactic| walk_at "no") => `(tactic| first
  | assumption
  | (refine none_same ?_ (by assumption); walk_at "same")
  | (refine none_same (by assumption) ?_; walk_at "no")
  | (refine none_but (by assumption) ?_ ?_; (walk_at "n"); (walk_at "no")))
local macro_rules | `(tactic| walk_at "but") => `(tactic| first
  | assumption
  | exact But.refl _ _
  | (refine But.then ?_ (by assumption); walk_at "but")
  | (refine But.trans ?_ (by assumption); walk_at "but")
  | (refine but_past ?_ (by assumption) ?_; (walk_at "but"); (walk_at "no")))
local macro_rules | `(tactic| walk_at "hasp") => `(tactic| (repeat (first | exact ⟨_, _, by assumption⟩ | (refine hasPen_same (by assumption) ?_))))
local macro_rules | `(tactic| walk_at "hasc") => `(tactic| (repeat (first | exact ⟨_, _, by assumption⟩ | (refine hasCells_same (by assumption) ?_))))
local macro_rules | `(tactic| walk_at "pen") => `(tactic| (repeat (first | assumption | (refine PenAt.keep ?_ (by assumption)))))
local macro_rules | `(tactic| walk_at "has") => `(tactic| first
  | exact ⟨_, by assumption⟩
  | (refine has_same (by assumption) ?_; walk_at "has")
  | (refine has_but (by assumption) ?_ ?_; (walk_at "n"); (walk_at "has")))
local macro_rules | `(tactic| walk_at "n") => `(tactic| first
  | assumption
  | exact Ne.symm (by assumption)
  | (refine ne_free (by assumption) ?_; walk_at "has")
  | (refine ne_free' (by assumption) ?_; walk_at "has")
  | (refine pen_off (by assumption) ?_; walk_at "hasp"; done)
  | (refine Ne.symm (pen_off (by assumption) ?_); walk_at "hasp"; done)
  | (refine pen_off' (by assumption) ?_; walk_at "hasc"; done)
  | (refine Ne.symm (pen_off' (by assumption) ?_); walk_at "hasc"; done))
local macro_rules | `(tactic| walk_at "hh") => `(tactic| first
  | assumption
  | (refine get_same (by assumption) ?_; walk_at "hh")
  | (refine get_but (by assumption) (by walk_at "n") ?_; walk_at "hh"))
local macro_rules | `(tactic| walk_at "h") => `(tactic| first
  | ((repeat (first | assumption | (refine get_same (by assumption) ?_) | (refine get_but (by assumption) (by walk_at "n") ?_))); done)
  | walk_at "hh")
local macro_rules | `(tactic| walk_at "r") => `(tactic| repeat (first
  | (refine go ?_)
  | (with_reducible refine rd_mul ?_ ?_)
  | (with_reducible refine rd_mod ?_ ?_)
  | (with_reducible refine rd_fdiv ?_ ?_)
  | (with_reducible refine rd_pow ?_ ?_)
  | (with_reducible refine rd_strI ?_ ?_)
  | (with_reducible refine rd_addS ?_ ?_)
  | (with_reducible refine rd_lenS ?_ ?_)
  | (with_reducible refine rd_slS ?_ ?_)))
local macro_rules | `(tactic| walk_at "R") => `(tactic| repeat (first
  | (refine go ?_)
  | (with_reducible refine new_lstS fun _ _ _ _ _ => ?_)
  | (with_reducible refine new_lst (Nat.le_of_ble_eq_true rfl) fun _ _ _ _ _ => ?_)
  | (with_reducible refine new_tup (Nat.le_of_ble_eq_true rfl) fun _ _ _ _ _ => ?_)
  | ((with_reducible refine len_go ?_); first | (refine Or.inl ⟨_, sqL_of (by walk_at "h"), ?_⟩) | (refine Or.inr ⟨_, sqT_of (by walk_at "h"), ?_⟩))
  | ((with_reducible refine slT_go ?_); refine ⟨_, sqL_of (by walk_at "h"), fun _ _ _ _ _ => ?_⟩)
  | ((with_reducible refine slD_go ?_); refine ⟨_, sqL_of (by walk_at "h"), fun _ _ _ _ _ => ?_⟩)
  | ((with_reducible refine slD1_go ?_); refine ⟨_, sqL_of (by walk_at "h"), fun _ _ _ _ _ => ?_⟩)
  | ((with_reducible refine sl_go ?_); refine ⟨_, sqL_of (by walk_at "h"), fun _ _ _ _ _ => ?_⟩)
  | ((with_reducible refine cat_go ?_); refine catS_go (by walk_at "h") (by walk_at "h") ?_ fun _ _ _ _ _ => ?_; rotate_left)
  | ((with_reducible refine cat_go ?_); refine catV_go (by walk_at "h") (by walk_at "h") (Nat.le_of_ble_eq_true rfl) fun _ _ _ _ _ => ?_)
  | ((with_reducible refine cat_go ?_); refine catV_go (by walk_at "h") (by walk_at "h") ?_ fun _ _ _ _ _ => ?_; rotate_left)
  | ((with_reducible refine ixL_go ?_); refine ⟨_, sqL_of (by walk_at "h"), ?_⟩; refine ⟨_, atI_lit, ?_⟩)
  | (with_reducible refine rd_mul ?_ ?_; rotate_left)
  | (with_reducible refine rd_mod ?_ ?_; rotate_left)
  | (with_reducible refine rd_fdiv ?_ ?_; rotate_left)
  | (with_reducible refine rd_pow ?_ ?_; rotate_left)
  | (with_reducible refine rd_strI ?_ ?_; rotate_left)
  | (with_reducible refine rd_addS ?_ ?_; rotate_left)
  | (with_reducible refine rd_lenS ?_ ?_; rotate_left)
  | (with_reducible refine rd_slS ?_ ?_; rotate_left)))

def nameV (z : Str) : V := if nameS z = true then .str z else .non
def itemV (z : Str) : V := optI (itemR z)
section
variable {P : Program} {w : World} {K : PySem.W.Frag} {mg : Str → Option Value} {base : Heap}
theorem ok_name_in {f fN : Addr} {fd fdN : FuncData} (F : Fun K "name_in" "name_in" s_name_in f fd) (T : Tx K mg) (C_is_name : Cal P w K mg base 1 "is_name" s_is_name ["value"] (spS fun z => .bl (nameS z)) fN fdN) : FnOk P w K mg base CX0 2 f fd ["word"] (spS nameV) := by
  refine F.ok sc_name_in (fun vs H Q E h => ?_) (fun cdv A outer s H vs Q E hr h => ?_)
  · obtain ⟨z, rfl, _⟩ := h
    rfl
  · obtain ⟨z, rfl, hl, ha, k⟩ := h
    refine ⟨_, (pss_one (ps_ret (pe_ifExp (pt_val (pe_call C_is_name.G (hr.mono (by decide)) (by rfl) C_is_name.g C_is_name.F.kp C_is_name.b .nil pass0 (pa_cons (pv 0) pa_nil))) (pv 0) pe_non))), ?_⟩
    walk_at "r"
    refine ⟨z, rfl, hl, ha, fun H1 s1 => ?_⟩
    have k1 := k H1 s1
    unfold nameV at k1
    walk_at "r"
    refine rd_ite (fun c => ?_) (fun c => ?_)
    · rw [if_pos c] at k1
      walk_at "r"
      exact k1
    · rw [if_neg (by rw [c]; exact Bool.false_ne_true)] at k1
      walk_at "r"
      exact k1
theorem ok_item_in {f fN : Addr} {fd fdN : FuncData} (F : Fun K "item_in" "item_in" s_item_in f fd) (T : Tx K mg) (C_number_in : Cal P w K mg base 1 "number_in" s_number_in ["word", "most"] spNum fN fdN) : FnOk P w K mg base CX0 2 f fd ["word"] (spS itemV) := by
  refine F.ok sc_item_in (fun vs H Q E h => ?_) (fun cdv A outer s H vs Q E hr h => ?_)
  · obtain ⟨z, rfl, _⟩ := h
    rfl
  · obtain ⟨z, rfl, hl, ha, k⟩ := h
    refine ⟨_, (pss_cons (ps_set (i := 1) sc_item_in.nd rfl (by first | exact Or.inl rfl | exact Or.inr rfl) (pe_call C_number_in.G (hr.mono (by decide)) (by rfl) C_number_in.g C_number_in.F.kp C_number_in.b .nil pass0 (pa_cons (pv 0) (pa_cons (C8.pe_gc (by rfl) T.c_MOST_SHORT) pa_nil))))
      (pss_one (ps_ret (pe_ifExp (PW.pt (pw_and (pt_cmpR or_notN (pv 1) pe_non (nomark _)) (pw_and1 (pt_cmpR op_ge (pv 1) pe_int (nomark _))))) (pv 1) pe_non)))), ?_⟩
    walk_at "r"
    refine ⟨z, 6, rfl, hl, ha, by decide, fun H1 s1 => ?_⟩
    have k1 := k H1 s1
    unfold itemV itemR at k1
    cases hn : numR 6 z with
    | none =>
      rw [hn] at k1
      walk_at "r"
      refine rd_iteF rfl ?_
      walk_at "r"
      exact k1
    | some i =>
      rw [hn] at k1
      walk_at "r"
      refine rd_iteT rfl ?_
      walk_at "r"
      refine rd_ge (i := i) ?_
      walk_at "r"
      refine rd_dec (fun c => ?_) (fun c => ?_)
      · walk_at "r"
        have e : (if 0 ≤ i then some i else none) = some i := if_pos c
        simp only [e] at k1
        exact k1
      · walk_at "r"
        have e : (if 0 ≤ i then some i else none) = none := if_neg c
        simp only [e] at k1
        exact k1
end

end My

namespace My
open PySem PySem.Spec PyProof.Rows L2 EE

local macro_rules | `(tactic| walk_at "sq") => `(tactic| first | assumption | exact sqL_of (by assumption) | exact sqT_of (by assumption))
local macro_rules | `(tactic| walk_at "same") => `(tactic| first
  | assumption
  | exact Same.refl _
  | (refine Same.trans ?_ (by assumption); walk_at "same")
  | (refine same_past ?_ (by assumption) ?_; (walk_at "same"); (walk_at "no")))
local macro_rules | `(tactic| walk_at "no") => `(tactic| first
  | assumption
  | (refine none_same ?_ (by assumption); walk_at "same")
  | (refine none_same (by assumption) ?_; walk_at "no")
  | (refine none_but (by assumption) ?_ ?_; (walk_at "n"); (walk_at "no")))
local macro_rules | `(tactic| walk_at "but") => `(tactic| first
  | assumption
  | exact But.refl _ _
  | (refine But.then ?_ (by assumption); walk_at "but")
  | (refine But.trans ?_ (by assumption); walk_at "but")
  | (refine but_past ?_ (by assumption) ?_; (walk_at "but"); (walk_at "no")))
local macro_rules | `(tactic| walk_at "hasp") => `(tactic| (repeat (first | exact ⟨_, _, by assumption⟩ | (refine hasPen_same (by assumption) ?_))))
local macro_rules | `(tactic| walk_at "hasc") => `(tactic| (repeat (first | exact ⟨_, _, by assumption⟩ | (refine hasCells_same (by assumption) ?_))))
local macro_rules | `(tactic| walk_at "pen") => `(tactic| (repeat (first | assumption | (refine PenAt.keep ?_ (by assumption)))))
local macro_rules | `(tactic| walk_at "has") => `(tactic| first
  | exact ⟨_, by assumption⟩
  | (refine has_same (by assumption) ?_; walk_at "has")
  | (refine has_but (by assumption) ?_ ?_; (walk_at "n"); (walk_at "has")))
local macro_rules | `(tactic| walk_at "n") => `(tactic| first
  | assumption
  | exact Ne.symm (by assumption)
  | (refine ne_free (by assumption) ?_; walk_at "has")
  | (refine ne_free' (by assumption) ?_; walk_at "has")
  | (refine pen_off (by assumption) ?_; walk_at "hasp"; done)
  | (refine Ne.symm (pen_off (by assumption) ?_); walk_at "hasp"; done)
  | (refine pen_off' (by assumption) ?_; walk_at "hasc"; done)
  | (refine Ne.symm (pen_off' (by assumption) ?_); walk_at "hasc"; done))
local macro_rules | `(tactic| walk_at "hh") => `(tactic| first
  | assumption
  | (refine get_same (by assumption) ?_; walk_at "hh")
  | (refine get_but (by assumption) (by walk_at "n") ?_; walk_at "hh"))
local macro_rules | `(tactic| walk_at "h") => `(tactic| first
  | ((repeat (first | assumption | (refine get_same (by assumption) ?_) | (refine get_but (by assumption) (by walk_at "n") ?_))); done)
  | walk_at "hh")
local macro_rules | `(tactic| walk_at "r") => `(tactic| repeat (first
  | (refine go ?_)
  | (with_reducible refine rd_mul ?_ ?_)
  | (with_reducible refine rd_mod ?_ ?_)
  | (with_reducible refine rd_fdiv ?_ ?_)
  | (with_reducible refine rd_pow ?_ ?_)
  | (with_reducible refine rd_strI ?_ ?_)
  | (with_reducible refine rd_addS ?_ ?_)
  | (with_reducible refine rd_lenS ?_ ?_)
  | (with_reducible refine rd_slS ?_ ?_)))
local macro_rules | `(tactic| walk_at "R") => `(tactic| repeat (first
  | (refine go ?_)
  | (with_reducible refine new_lstS fun _ _ _ _ _ => ?_)
  | (with_reducible refine new_lst (Nat.le_of_ble_eq_true rfl) fun _ _ _ _ _ => ?_)
  | (with_reducible refine new_tup (Nat.le_of_ble_eq_true rfl) fun _ _ _ _ _ => ?_)
  | ((with_reducible refine len_go ?_); first | (refine Or.inl ⟨_, sqL_of (by walk_at "h"), ?_⟩) | (refine Or.inr ⟨_, sqT_of (by walk_at "h"), ?_⟩))
  | ((with_reducible refine slT_go ?_); refine ⟨_, sqL_of (by walk_at "h"), fun _ _ _ _ _ => ?_⟩)
  | ((with_reducible refine slD_go ?_); refine ⟨_, sqL_of (by walk_at "h"), fun _ _ _ _ _ => ?_⟩)
  | ((with_reducible refine slD1_go ?_); refine ⟨_, sqL_of (by walk_at "h"), fun _ _ _ _ _ => ?_⟩)
  | ((with_reducible refine sl_go ?_); refine ⟨_, sqL_of (by walk_at "h"), fun _ _ _ _ _ => ?_⟩)
  | ((with_reducible refine cat_go ?_); refine catS_go (by walk_at "h") (by walk_at "h") ?_ fun _ _ _ _ _ => ?_; rotate_left)
  | ((with_reducible refine cat_go ?_); refine catV_go (by walk_at "h") (by walk_at "h") (Nat.le_of_ble_eq_true rfl) fun _ _ _ _ _ => ?_)
  | ((with_reducible refine cat_go ?_); refine catV_go (by walk_at "h") (by walk_at "h") ?_ fun _ _ _ _ _ => ?_; rotate_left)
  | ((with_reducible refine ixL_go ?_); refine ⟨_, sqL_of (by walk_at "h"), ?_⟩; refine ⟨_, atI_lit, ?_⟩)
  | (with_reducible refine rd_mul ?_ ?_; rotate_left)
  | (with_reducible refine rd_mod ?_ ?_; rotate_left)
  | (with_reducible refine rd_fdiv ?_ ?_; rotate_left)
  | (with_reducible refine rd_pow ?_ ?_; rotate_left)
  | (with_reducible refine rd_strI ?_ ?_; rotate_left)
  | (with_reducible refine rd_addS ?_ ?_; rotate_left)
  | (with_reducible refine rd_lenS ?_ ?_; rotate_left)
  | (with_reducible refine rd_slS ?_ ?_; rotate_left)))

/-- the class Line in K -/
structure LnK (K : PySem.W.Frag) (mg : Str → Option Value) (C : Addr) : Prop where
  cl : Cls K C
  g : mg "Line" = some (.ref C)
  nW : NoAttr K C "line_words"
  nI : NoAttr K C "line_index"
  nT : NoAttr K C "taken"
def lnF (l : Addr) (i t : Nat) : List (Str × V) := [("line_words", .ref l), ("line_index", .int i), ("taken", .int t)]
/-- at a: a Line of the words ws (the i-th line), t of them taken -/
structure LineAt (C : Addr) (H : Hp) (a dx l : Addr) (ws : List Str) (i t : Nat) : Prop where
  at_ : H a = some (.ins C dx (lnF l i t))
  ws_ : H l = some (.lst (ws.map V.str))
theorem put_taken (l : Addr) (i t u : Nat) : putF "taken" (.int u) (lnF l i t) = lnF l i u := by
  unfold lnF
  simp only [putF]
  rw [if_neg (by decide +kernel), if_neg (by decide +kernel)]
  simp
def spInit (C : Addr) : Sp := fun vs H Q _ => ∃ (a dx : Addr) (z : Str) (i : Nat), vs = [.ref a, .str z, .int i] ∧ H a = some (.ins C dx []) ∧ z.length ≤ 1000 ∧
  ∀ l H', H l = none → But a H H' → LineAt C H' a dx l (Txt.split z " ") i 0 → Q .non H'
def spOver (C : Addr) : Sp := fun vs H Q _ => ∃ (a dx l : Addr) (ws : List Str) (i t : Nat), vs = [.ref a] ∧ LineAt C H a dx l ws i t ∧ Q (.bl (decide (t = ws.length))) H
/-- InvalidText(i, t) is raised -/
def Rz (CT : Addr) (E : XK) (i t : Nat) (H : Hp) : Prop := ∀ d H', Same H H' → H d = none → H' d = some (.xd [("word", .int t), ("line", .int i)]) → E (.ref CT) (some d) H'
def spRefuse (C CT : Addr) : Sp := fun vs H _ E => ∃ (a dx l : Addr) (ws : List Str) (i t : Nat), vs = [.ref a, .int 0] ∧ LineAt C H a dx l ws i t ∧ Rz CT E i t H
section
variable {P : Program} {w : World} {K : PySem.W.Frag} {mg : Str → Option Value} {base : Heap} {C CT fIT : Addr} {fdIT : FuncData}
theorem ok_Line_init {dvs : List V} {f : Addr} {fd : FuncData} (F : FunD K "__init__" "Line.__init__" (defArgs s_Line___init__) (defBody s_Line___init__) (defScope s_Line___init__) dvs [] f fd) (L : LnK K mg C) : FnOk P w K mg base CX0 1 f fd ["self", "text", "index"] (spInit C) := by
  refine F.ok sc_Line___init__ (fun vs H Q E h => ?_) (fun cdv A outer s H vs Q E hr h => ?_)
  · obtain ⟨a, dx, z, i, rfl, _⟩ := h
    rfl
  · obtain ⟨a, dx, z, i, rfl, ha, hz, k⟩ := h
    refine ⟨_, (pss_cons (ps_fld (pv 0) (pe_split (pv 1) pe_str) rfl)
      (pss_cons (ps_fld (pv 0) (pv 2) rfl)
      (pss_one (ps_fld (pv 0) pe_int rfl)))), ?_⟩
    walk_at "r"
    refine split_at (Nat.le_trans hz (by decide)) (by decide +kernel) fun l H1 n1 s1 h1 => ?_
    walk_at "r"
    refine sfld_at (s1 _ _ ha) L.cl L.nW (by decide) fun H2 b2 h2 => ?_
    walk_at "r"
    refine sfld_at h2 L.cl L.nI (by show 1 < 1000; decide) fun H3 b3 h3 => ?_
    walk_at "r"
    refine sfld_at h3 L.cl L.nT (by show 2 < 1000; decide) fun H4 b4 h4 => ?_
    walk_at "r"
    have nl : l ≠ a := fun z => by rw [z, ha] at n1; cases n1
    exact k l H4 n1 (((s1.but a).trans b2).trans (b3.trans b4)) ⟨h4, b4 _ _ nl (b3 _ _ nl (b2 _ _ nl h1))⟩
theorem ok_is_over {f : Addr} {fd : FuncData} (F : Fun K "is_over" "Line.is_over" s_Line_is_over f fd) (T : Tx K mg) (L : LnK K mg C) : FnOk P w K mg base CX0 1 f fd ["self"] (spOver C) := by
  refine F.ok sc_Line_is_over (fun vs H Q E h => ?_) (fun cdv A outer s H vs Q E hr h => ?_)
  · obtain ⟨a, dx, l, ws, i, t, rfl, _⟩ := h
    rfl
  · obtain ⟨a, dx, l, ws, i, t, rfl, A1, k⟩ := h
    refine ⟨_, (pss_one (ps_ret (pe_cmpR op_eq (pe_fld (pv 0) rfl) (pe_callB cr_lenQ (by rfl) T.b_len (by decide +kernel) (pa_cons (pe_fld (pv 0) rfl) pa_nil)) (nomark _)))), ?_⟩
    walk_at "r"
    refine fld_at A1.at_ L.cl L.nT rfl ?_
    walk_at "r"
    refine fld_at A1.at_ L.cl L.nW rfl ?_
    walk_at "r"
    refine rd_len (sqL_of A1.ws_) ?_
    walk_at "r"
    rw [List.length_map]
    have e : decide ((t : Int) = (ws.length : Nat)) = decide (t = ws.length) := decide_eq_decide.mpr (by omega)
    rw [e]
    exact k
theorem ok_refuse {f : Addr} {fd : FuncData} (F : FunD K "refuse" "Line.refuse" (defArgs s_Line_refuse) (defBody s_Line_refuse) (defScope s_Line_refuse) [.int 0] [] f fd) (L : LnK K mg C) (E_InvalidText : Err P w K mg base "InvalidText" CT fIT fdIT ["line", "word"] (spI2 K CT "line" "word")) :
    FnOk P w K mg base (L2.CX P w) 3 f fd ["self", "back"] (spRefuse C CT) := by
  refine F.ok sc_Line_refuse (fun vs H Q E h => ?_) (fun cdv A outer s H vs Q E hr h => ?_)
  · obtain ⟨a, dx, l, ws, i, t, rfl, _⟩ := h
    rfl
  · obtain ⟨a, dx, l, ws, i, t, rfl, A1, k⟩ := h
    have tk : Takes (cxOf (L2.CX P w) P w K mg base ["self", "back"] "Line.refuse" (defScope s_Line_refuse) f cdv A outer s H E) (fun cls d _ H => E cls d H) := takes_of rfl rfl rfl rfl
    refine ⟨_, (pss_one (ps_raise rfl tk (pmk_x E_InvalidText.T E_InvalidText.iC E_InvalidText.tI E_InvalidText.G (hr.mono (by decide)) E_InvalidText.b pass0 (by rfl) E_InvalidText.g (pa_cons (pe_fld (pv 0) rfl) (pa_cons (pe_op op_sub (pe_fld (pv 0) rfl) (pv 1)) pa_nil))))), ?_⟩
    walk_at "r"
    refine fld_at A1.at_ L.cl L.nI rfl ?_
    walk_at "r"
    refine fld_at A1.at_ L.cl L.nT rfl ?_
    walk_at "r"
    rw [Int.sub_zero]
    exact raise2_at fun d H' s1 n1 h1 => k d H' s1 n1 h1
end

end My

namespace My
open PySem PySem.Spec PyProof.Rows L2 EE

local macro_rules | `(tactic| walk_at "sq") => `(tactic| first | assumption | exact sqL_of (by assumption) | exact sqT_of (by assumption))
local macro_rules | `(tactic| walk_at "same") => `(tactic| first
  | assumption
  | exact Same.refl _
  | (refine Same.trans ?_ (by assumption); walk_at "same")
  | (refine same_past ?_ (by assumption) ?_; (walk_at "same"); (walk_at "no")))
local macro_rules | `(tactic| walk_at "no") => `(tactic| first
  | assumption
  | (refine none_same ?_ (by assumption); walk_at "same")
  | (refine none_same (by assumption) ?_; walk_at "no")
  | (refine none_but (by assumption) ?_ ?_; (walk_at "n"); (walk_at "no")))
local macro_rules | `(tactic| walk_at "but") => `(tactic| first
  | assumption
  | exact But.refl _ _
  | (refine But.then ?_ (by assumption); walk_at "but")
  | (refine But.trans ?_ (by assumption); walk_at "but")
  | (refine but_past ?_ (by assumption) ?_; (walk_at "but"); (walk_at "no")))
local macro_rules | `(tactic| walk_at "hasp") => `(tactic| (repeat (first | exact ⟨_, _, by assumption⟩ | (refine hasPen_same (by assumption) ?_))))
local macro_rules | `(tactic| walk_at "hasc") => `(tactic| (repeat (first | exact ⟨_, _, by assumption⟩ | (refine hasCells_same (by assumption) ?_))))
local macro_rules | `(tactic| walk_at "pen") => `(tactic| (repeat (first | assumption | (refine PenAt.keep ?_ (by assumption)))))
local macro_rules | `(tactic| walk_at "has") => `(tactic| first
  | exact ⟨_, by assumption⟩
  | (refine has_same (by assumption) ?_; walk_at "has")
  | (refine has_but (by assumption) ?_ ?_; (walk_at "n"); (walk_at "has")))
local macro_rules | `(tactic| walk_at "n") => `(tactic| first
  | assumption
  | exact Ne.symm (by assumption)
  | (refine ne_free (by assumption) ?_; walk_at "has")
  | (refine ne_free' (by assumption) ?_; walk_at "has")
  | (refine pen_off (by assumption) ?_; walk_at "hasp"; done)
  | (refine Ne.symm (pen_off (by assumption) ?_); walk_at "hasp"; done)
  | (refine pen_off' (by assumption) ?_; walk_at "hasc"; done)
  | (refine Ne.symm (pen_off' (by assumption) ?_); walk_at "hasc"; done))
local macro_rules | `(tactic| walk_at "hh") => `(tactic| first
  | assumption
  | (refine get_same (by assumption) ?_; walk_at "hh")
  | (refine get_but (by assumption) (by walk_at "n") ?_; walk_at "hh"))
local macro_rules | `(tactic| walk_at "h") => `(tactic| first
  | ((repeat (first | assumption | (refine get_same (by assumption) ?_) | (refine get_but (by assumption) (by walk_at "n") ?_))); done)
  | walk_at "hh")
local macro_rules | `(tactic| walk_at "r") => `(tactic| repeat (first
  | (refine go ?_)
  | (with_reducible refine rd_mul ?_ ?_)
  | (with_reducible refine rd_mod ?_ ?_)
  | (with_reducible refine rd_fdiv ?_ ?_)
  | (with_reducible refine rd_pow ?_ ?_)
  | (with_reducible refine rd_strI ?_ ?_)
  | (with_reducible refine rd_addS ?_ ?_)
  | (with_reducible refine rd_lenS ?_ ?_)
  | (with_reducible refine rd_slS ?_ ?_)))
local macro_rules | `(tactic| walk_at "R") => `(tactic| repeat (first
  | (refine go ?_)
  | (with_reducible refine new_lstS fun _ _ _ _ _ => ?_)
  | (with_reducible refine new_lst (Nat.le_of_ble_eq_true rfl) fun _ _ _ _ _ => ?_)
  | (with_reducible refine new_tup (Nat.le_of_ble_eq_true rfl) fun _ _ _ _ _ => ?_)
  | ((with_reducible refine len_go ?_); first | (refine Or.inl ⟨_, sqL_of (by walk_at "h"), ?_⟩) | (refine Or.inr ⟨_, sqT_of (by walk_at "h"), ?_⟩))
  | ((with_reducible refine slT_go ?_); refine ⟨_, sqL_of (by walk_at "h"), fun _ _ _ _ _ => ?_⟩)
  | ((with_reducible refine slD_go ?_); refine ⟨_, sqL_of (by walk_at "h"), fun _ _ _ _ _ => ?_⟩)
  | ((with_reducible refine slD1_go ?_); refine ⟨_, sqL_of (by walk_at "h"), fun _ _ _ _ _ => ?_⟩)
  | ((with_reducible refine sl_go ?_); refine ⟨_, sqL_of (by walk_at "h"), fun _ _ _ _ _ => ?_⟩)
  | ((with_reducible refine cat_go ?_); refine catS_go (by walk_at "h") (by walk_at "h") ?_ fun _ _ _ _ _ => ?_; rotate_left)
  | ((with_reducible refine cat_go ?_); refine catV_go (by walk_at "h") (by walk_at "h") (Nat.le_of_ble_eq_true rfl) fun _ _ _ _ _ => ?_)
  | ((with_reducible refine cat_go ?_); refine catV_go (by walk_at "h") (by walk_at "h") ?_ fun _ _ _ _ _ => ?_; rotate_left)
  | ((with_reducible refine ixL_go ?_); refine ⟨_, sqL_of (by walk_at "h"), ?_⟩; refine ⟨_, atI_lit, ?_⟩)
  | (with_reducible refine rd_mul ?_ ?_; rotate_left)
  | (with_reducible refine rd_mod ?_ ?_; rotate_left)
  | (with_reducible refine rd_fdiv ?_ ?_; rotate_left)
  | (with_reducible refine rd_pow ?_ ?_; rotate_left)
  | (with_reducible refine rd_strI ?_ ?_; rotate_left)
  | (with_reducible refine rd_addS ?_ ?_; rotate_left)
  | (with_reducible refine rd_lenS ?_ ?_; rotate_left)
  | (with_reducible refine rd_slS ?_ ?_; rotate_left)))

def spTake (P : Program) (w : World) (K : PySem.W.Frag) (mg : Str → Option Value) (base : Heap) (C CT : Addr) : Sp := fun vs H Q E => ∃ (a dx l fm : Addr) (ws : List Str) (i t : Nat), vs = [.ref a, .ref fm] ∧ LineAt C H a dx l ws i t ∧ t ≤ ws.length ∧ FnV K H fm ∧
  (t = ws.length → Rz CT E i t H) ∧ ∀ w', ws[t]? = some w' → CallsAt P w K mg base CX0 2 fm [.str w'] H (fun v H1 => Same H H1 ∧ (v = .non → Rz CT E i t H1) ∧ (v ≠ .non → ∀ H', But a H1 H' → LineAt C H' a dx l ws i (t + 1) → Q v H')) (fun _ _ _ => False)
def spClose (C CT : Addr) : Sp := fun vs H Q E => ∃ (a dx l : Addr) (ws : List Str) (i t : Nat), vs = [.ref a] ∧ LineAt C H a dx l ws i t ∧ (t ≠ ws.length → Rz CT E i t H) ∧ (t = ws.length → Q .non H)
theorem LineAt.keep {C a dx l : Addr} {H H' : Hp} {ws : List Str} {i t : Nat} (h : LineAt C H a dx l ws i t) (s : Same H H') : LineAt C H' a dx l ws i t := ⟨s _ _ h.at_, s _ _ h.ws_⟩
section
variable {P : Program} {w : World} {K : PySem.W.Frag} {mg : Str → Option Value} {base : Heap} {C CT : Addr} {fO pO fR : Addr} {fdO fdR : FuncData} {dsR : List Value}
theorem ok_take {f : Addr} {fd : FuncData} (F : Fun K "take" "Line.take" s_Line_take f fd) (L : LnK K mg C) (PO : PropOf K C "is_over" pO fO) (GO : FnOk P w K mg base CX0 1 fO fdO ["self"] (spOver C)) (bO : Binds K fdO ["self"] [])
    (mR : Meth K C "refuse" fR) (GR : FnOk P w K mg base (L2.CX P w) 3 fR fdR ["self", "back"] (spRefuse C CT)) (bR : Binds K fdR ["self", "back"] dsR) (dR : Vals [.int 0] dsR) : FnOk P w K mg base (L2.CX P w) 4 f fd ["self", "meaning"] (spTake P w K mg base C CT) := by
  refine F.okX sc_Line_take (fun vs H Q E h => ?_) (fun cdv A outer s H vs Q E hr h => ?_)
  · obtain ⟨a, dx, l, fm, ws, i, t, rfl, _⟩ := h
    rfl
  · obtain ⟨a, dx, l, fm, ws, i, t, rfl, A1, ht, fv, kOver, kCall⟩ := h
    have tk : Takes (cxOf (L2.CX P w) P w K mg base ["self", "meaning", "found"] "Line.take" (defScope s_Line_take) f cdv A outer s H E) (fun cls d _ H => E cls d H) := takes_of rfl rfl rfl rfl
    refine ⟨_, (pss_cons (ps_set (i := 2) sc_Line_take.nd rfl (by first | exact Or.inl rfl | exact Or.inr rfl) (pe_ifExp (pt_val (pe_prop (pv 0) L.cl PO GO (hr.mono (by decide)) bO .nil pass0 rfl)) pe_non (pe_callV (k := 2) (hr.mono (by decide)) (passes_call tk fun _ _ _ _ z => z) (i := 1) rfl (Or.inl rfl) (pa_cons (pe_ix (ix_listK (K := K) rfl) (pe_fld (pv 0) rfl) (pe_fld (pv 0) rfl) (fun _ _ => rfl)) pa_nil))))
      (pss_cons (ps_if (pt_cmpR or_isN (pv 2) pe_non (nomark _)) (pss_one (ps_expr (pe_meth0 (pv 0) L.cl mR GR (hr.mono (by decide)) bR dR (passes_call tk fun _ _ _ _ z => z)))) pss_nil)
      (pss_cons (ps_fldaug (pv 0) pe_int in_add)
      (pss_one (ps_ret (pv 2)))))), ?_⟩
    walk_at "r"
    refine prop_at A1.at_ ⟨a, dx, l, ws, i, t, rfl, A1, ?_⟩
    walk_at "r"
    refine rd_dec (fun c => ?_) (fun c => ?_)
    · walk_at "r"
      refine rd_iteT rfl ?_
      walk_at "r"
      refine meth_at A1.at_ rfl ?_
      walk_at "r"
      exact ⟨a, dx, l, ws, i, t, rfl, A1, kOver c⟩
    · obtain ⟨w', hw⟩ : ∃ w', ws[t]? = some w' := ⟨_, List.getElem?_eq_getElem (by omega)⟩
      refine ⟨fm, rfl, fv, ?_⟩
      walk_at "r"
      refine fld_at A1.at_ L.cl L.nW rfl ?_
      walk_at "r"
      refine fld_at A1.at_ L.cl L.nT rfl ?_
      walk_at "r"
      refine rd_ixL (v := .str w') (sqL_of A1.ws_) (by have e := atI_nat (xs := ws.map V.str) (i := t) (v := .str w') (by rw [List.getElem?_map, hw]; rfl); rw [Int.zero_add] at e; exact e) ?_
      walk_at "r"
      refine ⟨fv, (kCall w' hw).mono fun v H1 ⟨s1, k1, k2⟩ => ?_⟩
      have A2 := A1.keep s1
      walk_at "r"
      refine rd_dec (fun c => ?_) (fun c => ?_)
      · walk_at "r"
        refine meth_at A2.at_ rfl ?_
        walk_at "r"
        exact ⟨a, dx, l, ws, i, t, rfl, A2, k1 c⟩
      · walk_at "r"
        refine saug_at A2.at_ L.cl L.nT (by show 3 < 1000; decide) rfl fun H2 b2 h2 => ?_
        walk_at "r"
        have nl : l ≠ a := fun z => by
          have e1 := A2.ws_
          rw [z, A2.at_] at e1
          cases e1
        refine k2 c H2 b2 ⟨?_, b2 _ _ nl A2.ws_⟩
        rw [h2]
        have e : (t : Int) + 1 = ((t + 1 : Nat) : Int) := by omega
        rw [e, put_taken]
theorem ok_close {f : Addr} {fd : FuncData} (F : Fun K "close" "Line.close" s_Line_close f fd) (L : LnK K mg C) (PO : PropOf K C "is_over" pO fO) (GO : FnOk P w K mg base CX0 1 fO fdO ["self"] (spOver C)) (bO : Binds K fdO ["self"] [])
    (mR : Meth K C "refuse" fR) (GR : FnOk P w K mg base (L2.CX P w) 3 fR fdR ["self", "back"] (spRefuse C CT)) (bR : Binds K fdR ["self", "back"] dsR) (dR : Vals [.int 0] dsR) : FnOk P w K mg base (L2.CX P w) 4 f fd ["self"] (spClose C CT) := by
  refine F.okX sc_Line_close (fun vs H Q E h => ?_) (fun cdv A outer s H vs Q E hr h => ?_)
  · obtain ⟨a, dx, l, ws, i, t, rfl, _⟩ := h
    rfl
  · obtain ⟨a, dx, l, ws, i, t, rfl, A1, k1, k2⟩ := h
    have tk : Takes (cxOf (L2.CX P w) P w K mg base ["self"] "Line.close" (defScope s_Line_close) f cdv A outer s H E) (fun cls d _ H => E cls d H) := takes_of rfl rfl rfl rfl
    refine ⟨_, (pss_one (ps_if (pt_not (pt_val (pe_prop (pv 0) L.cl PO GO (hr.mono (by decide)) bO .nil pass0 rfl))) (pss_one (ps_expr (pe_meth0 (pv 0) L.cl mR GR (hr.mono (by decide)) bR dR (passes_call tk fun _ _ _ _ z => z)))) pss_nil)), ?_⟩
    walk_at "r"
    refine prop_at A1.at_ ⟨a, dx, l, ws, i, t, rfl, A1, ?_⟩
    walk_at "r"
    refine rd_decN (fun c => ?_) (fun c => ?_)
    · walk_at "r"
      refine meth_at A1.at_ rfl ?_
      walk_at "r"
      exact ⟨a, dx, l, ws, i, t, rfl, A1, k1 c⟩
    · walk_at "r"
      exact k2 c
end

end My

namespace My
open PySem PySem.Spec PyProof.Rows L2 EE

local macro_rules | `(tactic| walk_at "sq") => `(tactic| first | assumption | exact sqL_of (by assumption) | exact sqT_of (by assumption))
local macro_rules | `(tactic| walk_at "same") => `(tactic| first
  | assumption
  | exact Same.refl _
  | (refine Same.trans ?_ (by assumption); walk_at "same")
  | (refine same_past ?_ (by assumption) ?_; (walk_at "same"); (walk_at "no")))
local macro_rules | `(tactic| walk_at "no") => `(tactic| first
  | assumption
  | (refine none_same ?_ (by assumption); walk_at "same")
  | (refine none_same (by assumption) ?_; walk_at "no")
  | (refine none_but (by assumption) ?_ ?_; (walk_at "n"); (walk_at "no")))
local macro_rules | `(tactic| walk_at "but") => `(tactic| first
  | assumption
  | exact But.refl _ _
  | (refine But.then ?_ (by assumption); walk_at "but")
  | (refine But.trans ?_ (by assumption); walk_at "but")
  | (refine but_past ?_ (by assumption) ?_; (walk_at "but"); (walk_at "no")))
local macro_rules | `(tactic| walk_at "hasp") => `(tactic| (repeat (first | exact ⟨_, _, by assumption⟩ | (refine hasPen_same (by assumption) ?_))))
local macro_rules | `(tactic| walk_at "hasc") => `(tactic| (repeat (first | exact ⟨_, _, by assumption⟩ | (refine hasCells_same (by assumption) ?_))))
local macro_rules | `(tactic| walk_at "pen") => `(tactic| (repeat (first | assumption | (refine PenAt.keep ?_ (by assumption)))))
local macro_rules | `(tactic| walk_at "has") => `(tactic| first
  | exact ⟨_, by assumption⟩
  | (refine has_same (by assumption) ?_; walk_at "has")
  | (refine has_but (by assumption) ?_ ?_; (walk_at "n"); (walk_at "has")))
local macro_rules | `(tactic| walk_at "n") => `(tactic| first
  | assumption
  | exact Ne.symm (by assumption)
  | (refine ne_free (by assumption) ?_; walk_at "has")
  | (refine ne_free' (by assumption) ?_; walk_at "has")
  | (refine pen_off (by assumption) ?_; walk_at "hasp"; done)
  | (refine Ne.symm (pen_off (by assumption) ?_); walk_at "hasp"; done)
  | (refine pen_off' (by assumption) ?_; walk_at "hasc"; done)
  | (refine Ne.symm (pen_off' (by assumption) ?_); walk_at "hasc"; done))
local macro_rules | `(tactic| walk_at "hh") => `(tactic| first
  | assumption
  | (refine get_same (by assumption) ?_; walk_at "hh")
  | (refine get_but (by assumption) (by walk_at "n") ?_; walk_at "hh"))
local macro_rules | `(tactic| walk_at "h") => `(tactic| first
  | ((repeat (first | assumption | (refine get_same (by assumption) ?_) | (refine get_but (by assumption) (by walk_at "n") ?_))); done)
  | walk_at "hh")
local macro_rules | `(tactic| walk_at "r") => `(tactic| repeat (first
  | (refine go ?_)
  | (with_reducible refine rd_mul ?_ ?_)
  | (with_reducible refine rd_mod ?_ ?_)
  | (with_reducible refine rd_fdiv ?_ ?_)
  | (with_reducible refine rd_pow ?_ ?_)
  | (with_reducible refine rd_strI ?_ ?_)
  | (with_reducible refine rd_addS ?_ ?_)
  | (with_reducible refine rd_lenS ?_ ?_)
  | (with_reducible refine rd_slS ?_ ?_)))
local macro_rules | `(tactic| walk_at "R") => `(tactic| repeat (first
  | (refine go ?_)
  | (with_reducible refine new_lstS fun _ _ _ _ _ => ?_)
  | (with_reducible refine new_lst (Nat.le_of_ble_eq_true rfl) fun _ _ _ _ _ => ?_)
  | (with_reducible refine new_tup (Nat.le_of_ble_eq_true rfl) fun _ _ _ _ _ => ?_)
  | ((with_reducible refine len_go ?_); first | (refine Or.inl ⟨_, sqL_of (by walk_at "h"), ?_⟩) | (refine Or.inr ⟨_, sqT_of (by walk_at "h"), ?_⟩))
  | ((with_reducible refine slT_go ?_); refine ⟨_, sqL_of (by walk_at "h"), fun _ _ _ _ _ => ?_⟩)
  | ((with_reducible refine slD_go ?_); refine ⟨_, sqL_of (by walk_at "h"), fun _ _ _ _ _ => ?_⟩)
  | ((with_reducible refine slD1_go ?_); refine ⟨_, sqL_of (by walk_at "h"), fun _ _ _ _ _ => ?_⟩)
  | ((with_reducible refine sl_go ?_); refine ⟨_, sqL_of (by walk_at "h"), fun _ _ _ _ _ => ?_⟩)
  | ((with_reducible refine cat_go ?_); refine catS_go (by walk_at "h") (by walk_at "h") ?_ fun _ _ _ _ _ => ?_; rotate_left)
  | ((with_reducible refine cat_go ?_); refine catV_go (by walk_at "h") (by walk_at "h") (Nat.le_of_ble_eq_true rfl) fun _ _ _ _ _ => ?_)
  | ((with_reducible refine cat_go ?_); refine catV_go (by walk_at "h") (by walk_at "h") ?_ fun _ _ _ _ _ => ?_; rotate_left)
  | ((with_reducible refine ixL_go ?_); refine ⟨_, sqL_of (by walk_at "h"), ?_⟩; refine ⟨_, atI_lit, ?_⟩)
  | (with_reducible refine rd_mul ?_ ?_; rotate_left)
  | (with_reducible refine rd_mod ?_ ?_; rotate_left)
  | (with_reducible refine rd_fdiv ?_ ?_; rotate_left)
  | (with_reducible refine rd_pow ?_ ?_; rotate_left)
  | (with_reducible refine rd_strI ?_ ?_; rotate_left)
  | (with_reducible refine rd_addS ?_ ?_; rotate_left)
  | (with_reducible refine rd_lenS ?_ ?_; rotate_left)
  | (with_reducible refine rd_slS ?_ ?_; rotate_left)))

def rowsOf (z : Str) : List (List Str) := if z = "" then [] else (Txt.split z "\n").map fun r => Txt.split r " "
/-- fresh Lines, none of their words taken -/
structure LinesAt (C : Addr) (H0 H : Hp) (rows : List (List Str)) (xs : List V) : Prop where
  len : xs.length = rows.length
  at_ : ∀ j ws, rows[j]? = some ws → ∃ a dx l, xs[j]? = some (.ref a) ∧ H0 a = none ∧ LineAt C H a dx l ws j 0
  nd : xs.Nodup
theorem LinesAt.keep {C : Addr} {H0 H H' : Hp} {rows : List (List Str)} {xs : List V} (h : LinesAt C H0 H rows xs) (s : Same H H') : LinesAt C H0 H' rows xs :=
  ⟨h.len, fun j ws e => let ⟨a, dx, l, e1, e2, e3⟩ := h.at_ j ws e; ⟨a, dx, l, e1, e2, e3.keep s⟩, h.nd⟩
theorem LinesAt.nil {C : Addr} {H0 H : Hp} : LinesAt C H0 H [] [] := ⟨rfl, (fun j ws e => by cases e), List.nodup_nil⟩
theorem LinesAt.snoc {C : Addr} {H0 H H' : Hp} {rows : List (List Str)} {ws : List Str} {xs : List V} {a dx l : Addr} (h : LinesAt C H0 H rows xs) (s : Same H H') (na : H a = none) (n0 : H0 a = none) (hl : LineAt C H' a dx l ws rows.length 0) : LinesAt C H0 H' (rows ++ [ws]) (xs ++ [.ref a]) := by
  refine ⟨by simp [h.len], fun j vs e => ?_, ?_⟩
  · by_cases hj : j < rows.length
    · rw [List.getElem?_append_left hj] at e
      obtain ⟨b, dx', l', e1, e2, e3⟩ := h.at_ j vs e
      exact ⟨b, dx', l', by rw [List.getElem?_append_left (by rw [h.len]; exact hj)]; exact e1, e2, e3.keep s⟩
    · have : j = rows.length := by
        rw [List.getElem?_append_right (by omega)] at e
        have := (List.getElem?_eq_some_iff.mp e).1
        simp at this
        omega
      subst this
      rw [List.getElem?_append_right (Nat.le_refl _), Nat.sub_self] at e
      cases e
      exact ⟨a, dx, l, by rw [← h.len, List.getElem?_append_right (Nat.le_refl _), Nat.sub_self]; rfl, n0, hl⟩
  · refine List.nodup_append.mpr ⟨h.nd, by simp, fun x hx y hy => ?_⟩
    cases List.mem_singleton.mp hy
    rintro rfl
    obtain ⟨j, hj, e⟩ := List.mem_iff_getElem.mp hx
    obtain ⟨b, dx', l', e1, e2, e3⟩ := h.at_ j _ (List.getElem?_eq_getElem (by rw [← h.len]; exact hj))
    rw [List.getElem?_eq_getElem hj, e] at e1
    cases e1
    rw [e3.at_] at na
    cases na
theorem LinesAt.refs {C : Addr} {H0 H : Hp} {rows : List (List Str)} {xs : List V} (h : LinesAt C H0 H rows xs) : ∀ x ∈ xs, ∀ z, x ≠ .str z := fun x hx z e => by
  obtain ⟨j, hj, e1⟩ := List.mem_iff_getElem.mp hx
  obtain ⟨b, dx', l', e2, _⟩ := h.at_ j _ (List.getElem?_eq_getElem (by rw [← h.len]; exact hj))
  rw [List.getElem?_eq_getElem hj, e1, e] at e2
  cases e2
theorem LineAt.off {C a dx l D : Addr} {H H' : Hp} {ws : List Str} {i t : Nat} {xs : List V} (h : LineAt C H a dx l ws i t) (s : But D H H') (hD : H D = some (.lst xs)) (hx : ∀ x ∈ xs, ∀ z, x ≠ .str z) (nw : ws ≠ []) : LineAt C H' a dx l ws i t := by
  refine ⟨s _ _ (fun z => ?_) h.at_, s _ _ (fun z => ?_) h.ws_⟩
  · have e := h.at_
    rw [z, hD] at e
    cases e
  · have e := h.ws_
    rw [z, hD] at e
    cases ws with
    | nil => exact nw rfl
    | cons y ys =>
      have e1 : xs = V.str y :: ys.map V.str := by injection e with e; injection e
      exact hx _ (by rw [e1]; exact List.mem_cons_self) y rfl
theorem LinesAt.off {C D : Addr} {H0 H H' : Hp} {rows : List (List Str)} {ys xs : List V} (h : LinesAt C H0 H rows ys) (s : But D H H') (hD : H D = some (.lst xs)) (hx : ∀ x ∈ xs, ∀ z, x ≠ .str z) (nw : ∀ ws ∈ rows, ws ≠ []) : LinesAt C H0 H' rows ys :=
  ⟨h.len, fun j ws e => let ⟨a, dx, l, e1, e2, e3⟩ := h.at_ j ws e; ⟨a, dx, l, e1, e2, e3.off s hD hx (nw ws (List.mem_of_getElem? e))⟩, h.nd⟩
theorem split_ne (x y : Str) : Txt.split x y ≠ [] := fun e => by
  have := split_pos x y
  rw [e] at this
  exact absurd this (by decide)
theorem rows_ne {z : Str} : ∀ ws ∈ rowsOf z, ws ≠ [] := fun ws h => by
  unfold rowsOf at h
  split at h
  · cases h
  · obtain ⟨r, _, rfl⟩ := List.mem_map.mp h
    exact split_ne _ _
def spLines (C CT : Addr) : Sp := fun vs H Q E => ∃ x, vs = [x] ∧ Th H x ∧ (isStrV x = false → Rz CT E 0 0 H) ∧
  ∀ z, x = .str z → ∀ p H' xs, H p = none → Same H H' → H' p = some (.lst xs) → LinesAt C H H' (rowsOf z) xs → Q (.ref p) H'
section
variable {P : Program} {w : World} {K : PySem.W.Frag} {mg : Str → Option Value} {base : Heap} {C CT fI fIT : Addr} {fdI fdIT : FuncData}
theorem ok_lines_of {f : Addr} {fd : FuncData} (F : Fun K "lines_of" "lines_of" s_lines_of f fd) (T : Tx K mg) (L : LnK K mg C) (mkL : Mk K C fI) (GI : FnOk P w K mg base CX0 1 fI fdI ["self", "text", "index"] (spInit C)) (bI : Binds K fdI ["self", "text", "index"] [])
    (E_InvalidText : Err P w K mg base "InvalidText" CT fIT fdIT ["line", "word"] (spI2 K CT "line" "word")) : FnOk P w K mg base (L2.CX P w) 3 f fd ["text"] (spLines C CT) := by
  refine F.okX sc_lines_of (fun vs H Q E h => ?_) (fun cdv A outer s H vs Q E hr h => ?_)
  · obtain ⟨x, rfl, _⟩ := h
    rfl
  · obtain ⟨x, rfl, hx, k1, k2⟩ := h
    have tk : Takes (cxOf (L2.CX P w) P w K mg base ["text", "index", "row"] "lines_of" (defScope s_lines_of) f cdv A outer s H E) (fun cls d _ H => E cls d H) := takes_of rfl rfl rfl rfl
    refine ⟨_, (pss_cons (ps_if (pt_not (pt_val (pe_callB call_isi (by rfl) T.b_isinstance (by decide +kernel) (pa_cons (pv 0) (pa_cons (pe_bltn (v := .ty "str") (by rfl) T.b_str (by decide +kernel) rfl) pa_nil))))) (pss_one (ps_raise rfl tk (pmk_x E_InvalidText.T E_InvalidText.iC E_InvalidText.tI E_InvalidText.G (hr.mono (by decide)) E_InvalidText.b pass0 (by rfl) E_InvalidText.g (pa_cons pe_int (pa_cons pe_int pa_nil))))) pss_nil)
      (pss_one (ps_ret (pe_ifExp (pt_cmpR op_ne (pv 0) pe_str (nomark _)) (pe_lc (own := [("index", 1), ("row", 2)]) rfl sc_lines_of.nd (pi_enum (by rfl) T.b_enumerate (pa_cons (pe_split (pv 0) pe_str) pa_nil)) (blkOk_by (own := [("index", 1), ("row", 2)]) (N := ["text", "index", "row"]) (sc := defScope s_lines_of) (by decide +kernel)) (fun _ _ _ _ _ => (pg_tupK (K := K) (n := 2) rfl rfl (pgs_cons (pg_name (i := 1) sc_lines_of.nd rfl (by first | exact Or.inl rfl | exact Or.inr rfl)) (pgs_cons (pg_name (i := 2) sc_lines_of.nd rfl (by first | exact Or.inl rfl | exact Or.inr rfl)) pgs_nil)))) (fun _ _ _ _ _ => pts_nil) (fun _ _ _ _ _ => (pe_make mkL GI (hr.mono (by decide)) (by rfl) L.g bI .nil pass0 (pa_cons (pv 2) (pa_cons (pv 1) pa_nil))))) (pe_lst pa_nil))))), ?_⟩
    obtain ⟨t, ty, e1, _, _⟩ := hx.ty (K := K)
    walk_at "r"
    refine rd_isi ty e1 ?_
    walk_at "r"
    cases hx with
    | str z hl ha =>
      refine rd_iteF rfl ?_
      walk_at "r"
      refine rd_decN (fun c => ?_) (fun c => ?_)
      · walk_at "r"
        refine split_at (Nat.le_trans hl (by decide)) (by decide +kernel) fun l H1 n1 s1 h1 => ?_
        walk_at "r"
        refine ⟨⟨_, sqL_of h1⟩, ?_⟩
        have er : rowsOf z = (Txt.split z "\n").map fun r => Txt.split r " " := if_neg c
        have nr := rows_ne (z := z)
        generalize hp : Txt.split z "\n" = parts at *
        have few : parts.length ≤ 2000 := by rw [← hp]; have := split_le z "\n"; omega
        have short : ∀ r ∈ parts, r.length ≤ 1000 := fun r hr => by rw [← hp] at hr; exact Nat.le_trans (part_short hr) hl
        refine lcat_enumP (xs := parts.map V.str) (fun D i H' => Same H1 H' ∧ ∃ xs, H' D = some (.lst xs) ∧ LinesAt C H H' ((rowsOf z).take i) xs) (fun D i H' hD ⟨s2, _⟩ => sqL_of (s2 _ _ h1)) (fun D hD => ⟨same_new hD, [], upd_same, by rw [List.take_zero]; exact .nil⟩)
          (fun D i x T' H' H2 hD hx ⟨s2, xs, hx2, la⟩ nT s3 hT => ?_) (fun D H' hD ⟨s2, xs, hx2, la⟩ => ?_)
        · obtain ⟨r, hr, rfl⟩ : ∃ r, parts[i]? = some r ∧ x = .str r := by
            rw [List.getElem?_map] at hx
            cases q : parts[i]? with
            | none => rw [q] at hx; cases hx
            | some r => rw [q] at hx; exact ⟨r, rfl, (Option.some.inj hx).symm⟩
          refine rd_gtup hT rfl ?_
          walk_at "r"
          refine ⟨rfl, ?_⟩
          walk_at "r"
          refine make_at fun b dx H3 nb s4 hb => ⟨b, dx, r, i, rfl, hb, short r (List.mem_of_getElem? hr), fun l' H4 nl b4 hl' => ⟨rfl, ?_⟩⟩
          have s5 : Same H' H4 := s3.trans (Same.disp nb s4 b4)
          have hi : i < parts.length := (List.getElem?_eq_some_iff.mp hr).1
          have et : (rowsOf z).take (i + 1) = (rowsOf z).take i ++ [Txt.split r " "] := by
            rw [List.take_add_one, er, List.getElem?_map, hr]
            rfl
          have ei : ((rowsOf z).take i).length = i := by rw [er, List.length_take, List.length_map]; omega
          have nb' : H' b = none := s3.free nb
          have nbH : H b = none := (s1.trans (s2.trans s3)).free nb
          have L2 := la.snoc (ws := Txt.split r " ") s5 nb' nbH (by rw [ei]; exact hl')
          refine ⟨xs, s5 _ _ hx2, ?_, ?_, _, upd_same, ?_⟩
          · rw [la.len, ei]
            exact Nat.lt_of_le_of_lt (Nat.le_trans (Nat.le_of_lt hi) few) (by decide)
          · exact Same.grow hD (s2.trans s5)
          · rw [et]
            refine L2.off but_upd (s5 _ _ hx2) la.refs ?_
            rw [← et]
            exact fun ws h => nr ws (List.mem_of_mem_take h)
        · refine k2 z rfl D H' xs (s1.free hD) (s1.trans s2) hx2 ?_
          have e : (rowsOf z).take (parts.map V.str).length = rowsOf z := List.take_of_length_le (by rw [er, List.length_map, List.length_map]; exact Nat.le_refl _)
          rw [e] at la
          exact la
      · walk_at "r"
        refine new_lst (by decide) fun p H1 n1 s1 h1 => ?_
        refine k2 z rfl p H1 [] n1 s1 h1 ?_
        rw [show rowsOf z = [] from if_pos c]
        exact .nil
    | _ =>
      refine rd_iteT rfl ?_
      walk_at "r"
      exact raise2_at fun d H' s1 n1 h1 => k1 rfl d H' s1 n1 h1
end

end My

namespace My
open PySem PySem.Spec PyProof.Rows L2 EE

local macro_rules | `(tactic| walk_at "sq") => `(tactic| first | assumption | exact sqL_of (by assumption) | exact sqT_of (by assumption))
local macro_rules | `(tactic| walk_at "same") => `(tactic| first
  | assumption
  | exact Same.refl _
  | (refine Same.trans ?_ (by assumption); walk_at "same")
  | (refine same_past ?_ (by assumption) ?_; (walk_at "same"); (walk_at "no")))
local macro_rules | `(tactic| walk_at "no") => `(tactic| first
  | assumption
  | (refine none_same ?_ (by assumption); walk_at "same")
  | (refine none_same (by assumption) ?_; walk_at "no")
  | (refine none_but (by assumption) ?_ ?_; (walk_at "n"); (walk_at "no")))
local macro_rules | `(tactic| walk_at "but") => `(tactic| first
  | assumption
  | exact But.refl _ _
  | (refine But.then ?_ (by assumption); walk_at "but")
  | (refine But.trans ?_ (by assumption); walk_at "but")
  | (refine but_past ?_ (by assumption) ?_; (walk_at "but"); (walk_at "no")))
local macro_rules | `(tactic| walk_at "hasp") => `(tactic| (repeat (first | exact ⟨_, _, by assumption⟩ | (refine hasPen_same (by assumption) ?_))))
local macro_rules | `(tactic| walk_at "hasc") => `(tactic| (repeat (first | exact ⟨_, _, by assumption⟩ | (refine hasCells_same (by assumption) ?_))))
local macro_rules | `(tactic| walk_at "pen") => `(tactic| (repeat (first | assumption | (refine PenAt.keep ?_ (by assumption)))))
local macro_rules | `(tactic| walk_at "has") => `(tactic| first
  | exact ⟨_, by assumption⟩
  | (refine has_same (by assumption) ?_; walk_at "has")
  | (refine has_but (by assumption) ?_ ?_; (walk_at "n"); (walk_at "has")))
local macro_rules | `(tactic| walk_at "n") => `(tactic| first
  | assumption
  | exact Ne.symm (by assumption)
  | (refine ne_free (by assumption) ?_; walk_at "has")
  | (refine ne_free' (by assumption) ?_; walk_at "has")
  | (refine pen_off (by assumption) ?_; walk_at "hasp"; done)
  | (refine Ne.symm (pen_off (by assumption) ?_); walk_at "hasp"; done)
  | (refine pen_off' (by assumption) ?_; walk_at "hasc"; done)
  | (refine Ne.symm (pen_off' (by assumption) ?_); walk_at "hasc"; done))
local macro_rules | `(tactic| walk_at "hh") => `(tactic| first
  | assumption
  | (refine get_same (by assumption) ?_; walk_at "hh")
  | (refine get_but (by assumption) (by walk_at "n") ?_; walk_at "hh"))
local macro_rules | `(tactic| walk_at "h") => `(tactic| first
  | ((repeat (first | assumption | (refine get_same (by assumption) ?_) | (refine get_but (by assumption) (by walk_at "n") ?_))); done)
  | walk_at "hh")
local macro_rules | `(tactic| walk_at "r") => `(tactic| repeat (first
  | (refine go ?_)
  | (with_reducible refine rd_mul ?_ ?_)
  | (with_reducible refine rd_mod ?_ ?_)
  | (with_reducible refine rd_fdiv ?_ ?_)
  | (with_reducible refine rd_pow ?_ ?_)
  | (with_reducible refine rd_strI ?_ ?_)
  | (with_reducible refine rd_addS ?_ ?_)
  | (with_reducible refine rd_lenS ?_ ?_)
  | (with_reducible refine rd_slS ?_ ?_)))
local macro_rules | `(tactic| walk_at "R") => `(tactic| repeat (first
  | (refine go ?_)
  | (with_reducible refine new_lstS fun _ _ _ _ _ => ?_)
  | (with_reducible refine new_lst (Nat.le_of_ble_eq_true rfl) fun _ _ _ _ _ => ?_)
  | (with_reducible refine new_tup (Nat.le_of_ble_eq_true rfl) fun _ _ _ _ _ => ?_)
  | ((with_reducible refine len_go ?_); first | (refine Or.inl ⟨_, sqL_of (by walk_at "h"), ?_⟩) | (refine Or.inr ⟨_, sqT_of (by walk_at "h"), ?_⟩))
  | ((with_reducible refine slT_go ?_); refine ⟨_, sqL_of (by walk_at "h"), fun _ _ _ _ _ => ?_⟩)
  | ((with_reducible refine slD_go ?_); refine ⟨_, sqL_of (by walk_at "h"), fun _ _ _ _ _ => ?_⟩)
  | ((with_reducible refine slD1_go ?_); refine ⟨_, sqL_of (by walk_at "h"), fun _ _ _ _ _ => ?_⟩)
  | ((with_reducible refine sl_go ?_); refine ⟨_, sqL_of (by walk_at "h"), fun _ _ _ _ _ => ?_⟩)
  | ((with_reducible refine cat_go ?_); refine catS_go (by walk_at "h") (by walk_at "h") ?_ fun _ _ _ _ _ => ?_; rotate_left)
  | ((with_reducible refine cat_go ?_); refine catV_go (by walk_at "h") (by walk_at "h") (Nat.le_of_ble_eq_true rfl) fun _ _ _ _ _ => ?_)
  | ((with_reducible refine cat_go ?_); refine catV_go (by walk_at "h") (by walk_at "h") ?_ fun _ _ _ _ _ => ?_; rotate_left)
  | ((with_reducible refine ixL_go ?_); refine ⟨_, sqL_of (by walk_at "h"), ?_⟩; refine ⟨_, atI_lit, ?_⟩)
  | (with_reducible refine rd_mul ?_ ?_; rotate_left)
  | (with_reducible refine rd_mod ?_ ?_; rotate_left)
  | (with_reducible refine rd_fdiv ?_ ?_; rotate_left)
  | (with_reducible refine rd_pow ?_ ?_; rotate_left)
  | (with_reducible refine rd_strI ?_ ?_; rotate_left)
  | (with_reducible refine rd_addS ?_ ?_; rotate_left)
  | (with_reducible refine rd_lenS ?_ ?_; rotate_left)
  | (with_reducible refine rd_slS ?_ ?_; rotate_left)))

def kindsOf (z : Str) : Option (List Bool) := if z = "open" then some [true, true] else if z = "close" then some [false] else if z = "move" then some [true] else if z = "book" then some [true, true] else if z = "restart" then some [true] else if z = "settle" then some [] else none
def okW (b : Bool) (z : Str) : Bool := if b then nameS z else (itemR z).isSome
def argV (b : Bool) (z : Str) : V := if b then .str z else itemV z
def wrongW : List Bool → List Str → Nat → Option Nat
  | [], [], _ => none
  | [], _ :: _, k => some k
  | _ :: _, [], k => some k
  | b :: bs, z :: zs, k => if okW b z then wrongW bs zs (k + 1) else some k
def wrongL : List Str → Option Nat
  | [] => some 0
  | z :: zs => match kindsOf z with
    | none => some 0
    | some bs => wrongW bs zs 1
def argsL (bs : List Bool) (zs : List Str) : List V := List.zipWith argV bs zs
def deedL : List Str → List V
  | [] => []
  | z :: zs => .str z :: argsL ((kindsOf z).getD []) zs
def tabT (P1 : Addr) : List (Addr × Str) := [(P1, "deed_from.<locals>.<lambda>")]
theorem tab_mem {P1 : Addr} {q : Str} (h : q = "deed_from.<locals>.<lambda>") : (P1, q) ∈ tabT P1 := by
  rw [h]
  exact List.mem_singleton.mpr rfl
theorem tab_uniq {P1 : Addr} {q : Str} (h : q = "deed_from.<locals>.<lambda>") : ∀ p ∈ tabT P1, p.1 = P1 → p.2 = q := fun p hp _ => by
  rw [h, List.mem_singleton.mp hp]
theorem no_free {names : List (Str × NameKind)} (h : names.all (fun y => !decide (y.2 = .free)) = true) : ∀ y ∈ names, y.2 = .free → False := fun y hy e => by
  have z := List.all_eq_true.mp h y hy
  rw [decide_eq_true e] at z
  cases z
open LamX
def valW (b : Bool) (z : Str) : V := if b then nameV z else itemV z
theorem val_non {b : Bool} {z : Str} : valW b z = .non → okW b z = false := by
  cases b with
  | true =>
    intro h
    show nameS z = false
    cases q : nameS z with
    | false => rfl
    | true =>
      have e : nameV z = .str z := if_pos q
      rw [show valW true z = nameV z from rfl, e] at h
      cases h
  | false =>
    intro h
    show (itemR z).isSome = false
    cases q : itemR z with
    | none => rfl
    | some i =>
      rw [show valW false z = itemV z from rfl, show itemV z = optI (itemR z) from rfl, q] at h
      cases h
theorem val_ok {b : Bool} {z : Str} (h : valW b z ≠ .non) : okW b z = true ∧ valW b z = argV b z := by
  cases b with
  | true =>
    cases q : nameS z with
    | true => exact ⟨q, (show nameV z = .str z from if_pos q)⟩
    | false => exact absurd (show nameV z = .non from if_neg (by rw [q]; exact Bool.false_ne_true)) h
  | false =>
    refine ⟨?_, rfl⟩
    show (itemR z).isSome = true
    cases q : itemR z with
    | some i => rfl
    | none => exact absurd (show optI (itemR z) = .non by rw [q]; rfl) h
theorem wrong_bad {b : Bool} {bs : List Bool} {z : Str} {zs : List Str} {k : Nat} (h : okW b z = false) : wrongW (b :: bs) (z :: zs) k = some k := by
  unfold wrongW
  rw [h]
  exact if_neg Bool.false_ne_true
theorem wrong_go {b : Bool} {bs : List Bool} {z : Str} {zs : List Str} {k : Nat} (h : okW b z = true) : wrongW (b :: bs) (z :: zs) k = wrongW bs zs (k + 1) := by
  rw [wrongW, h]
  exact if_pos rfl
/-- the dict DEEDS in K -/
structure DdK (K : PySem.W.Frag) (w : World) (mg : Str → Option Value) (d fN fI : Addr) : Prop where
  g : ∃ u, mg "DEEDS" = some u ∧ RelV (.ref d) u
  dic : ∃ es n, KDict K w d es n
  yes : ∀ z bs, kindsOf z = some bs → ∃ tp, PySem.W.nsIn K d z = some (some (.ref tp)) ∧ ∀ H, SqT K H tp (bs.map fun b => .ref (if b then fN else fI))
  no : ∀ z, kindsOf z = none → PySem.W.nsIn K d z = some none
/-- InvalidText(i, t) is raised, behind code tables and the line's object changed -/
def RzX (T : List (Addr × Str)) (CT : Addr) (E : XK) (a : Addr) (i t : Nat) (H : Hp) : Prop := ∀ d H', ExB a H H' → Tabs T H' → H' d = some (.xd [("word", .int t), ("line", .int i)]) → E (.ref CT) (some d) H'
def spDeed (C CT P1 : Addr) : Sp := fun vs H Q E => ∃ (a dx l : Addr) (ws : List Str) (i : Nat), vs = [.ref a] ∧ LineAt C H a dx l ws i 0 ∧ ws ≠ [] ∧ ws.length ≤ 2000 ∧ (∀ z ∈ ws, z.length ≤ 1000 ∧ Asc z) ∧ Tabs (tabT P1) H ∧
  (∀ k, wrongL ws = some k → RzX (tabT P1) CT E a i k H) ∧ (wrongL ws = none → ∀ p H', ExB a H H' → Tabs (tabT P1) H' → H' p = some (.tup (deedL ws)) → Q (.ref p) H')
section
variable {P : Program} {w : World} {K : PySem.W.Frag} {mg : Str → Option Value} {base : Heap} {C CT d fN fI fT fC P1 : Addr} {fdN fdI fdT fdC : FuncData}
theorem ok_deed_from {f c : Addr} {oc : Value} {od an : Option Addr} {kV doc pm ct : Value} {osl : Array (Option Value)}
    (lk : K.lookup f = some ⟨oc, od, .func (PySem.W.fnOf "deed_from" "deed_from" (defArgs s_deed_from) (defBody s_deed_from) (defScope s_deed_from) .none kV doc pm an (.ref c) ct), osl⟩) (hcd : PySem.W.codeIn K (.ref c) "deed_from" = true) (TB : TabB base mg c P1)
    (L : LnK K mg C) (DD : DdK K w mg d fN fI) (GN : FnOk P w K mg base CX0 2 fN fdN ["word"] (spS nameV)) (bN : Binds K fdN ["word"] []) (GI : FnOk P w K mg base CX0 2 fI fdI ["word"] (spS itemV)) (bI : Binds K fdI ["word"] [])
    (kN : ∃ oc od fd sl, K.lookup fN = some ⟨oc, od, .func fd, sl⟩) (kI : ∃ oc od fd sl, K.lookup fI = some ⟨oc, od, .func fd, sl⟩)
    (mT : Meth K C "take" fT) (GT : FnOk P w K mg base (L2.CX P w) 4 fT fdT ["self", "meaning"] (spTake P w K mg base C CT)) (bT : Binds K fdT ["self", "meaning"] [])
    (mC : Meth K C "close" fC) (GC : FnOk P w K mg base (L2.CX P w) 4 fC fdC ["self"] (spClose C CT)) (bC : Binds K fdC ["self"] []) :
    FnOk P w K mg base (L2.CX P w) 5 f (PySem.W.fnOf "deed_from" "deed_from" (defArgs s_deed_from) (defBody s_deed_from) (defScope s_deed_from) .none kV doc pm an (.ref c) ct) ["line"] (spDeed C CT P1) := by
  refine fn_of lk hcd sc_deed_from (fun vs H Q E h => ?_) (fun A outer s H vs Q E hr h => ?_)
  · obtain ⟨a, dx, l, ws, i, rfl, _⟩ := h
    rfl
  · obtain ⟨a, dx, l, ws, i, rfl, A1, nw, lw, aw, tT, kBad, kGood⟩ := h
    have tk : Takes (cxOf (L2.CX P w) P w K mg base ["line", "word", "deed", "meaning"] "deed_from" (defScope s_deed_from) f (.ref c) A outer s H E) (fun cls d _ H => E cls d H) := takes_of rfl rfl rfl rfl
    refine ⟨_, (pss_cons (ps_set (i := 1) sc_deed_from.nd rfl (by first | exact Or.inl rfl | exact Or.inr rfl) (pe_meth (pv 0) L.cl mT GT (hr.mono (by decide)) bT .nil (passes_call tk fun _ _ _ _ z => z) (pa_cons (pe_lam (T := tabT P1) TB rfl (tab_mem (by kernel_rfl)) (tab_uniq (by kernel_rfl)) rfl (fun _ y hy e => (no_free (by decide +kernel) y hy e).elim)) pa_nil)))
      (pss_cons (ps_set (i := 2) sc_deed_from.nd rfl (by first | exact Or.inl rfl | exact Or.inr rfl) (pe_tup (pa_cons (pv 1) (StX.pa_star (pe_lcX (own := [("meaning", 3)]) tk rfl rfl rfl sc_deed_from.nd (pi_tup (pe_ix ix_kdict (C8.pe_gc (by rfl) DD.g) (pv 1) (fun _ _ => rfl))) (blkOk_by (own := [("meaning", 3)]) (N := ["line", "word", "deed", "meaning"]) (sc := defScope s_deed_from) (by decide +kernel)) (fun _ _ _ _ _ => (pg_name (i := 3) sc_deed_from.nd rfl (by first | exact Or.inl rfl | exact Or.inr rfl))) (fun _ _ _ _ _ _ px => (pe_meth (pv 0) L.cl mT GT (hr.mono (by decide)) bT .nil px (pa_cons (pv 3) pa_nil)))) pa_nil))))
      (pss_cons (ps_expr (pe_meth0 (pv 0) L.cl mC GC (hr.mono (by decide)) bC .nil (passes_call tk fun _ _ _ _ z => z)))
      (pss_one (ps_ret (pv 2)))))), ?_⟩
    walk_at "r"
    refine meth_at A1.at_ rfl ?_
    walk_at "r"
    refine ⟨tT, fun fl cl' H1 e1 t1 nf hf hc => ?_⟩
    walk_at "r"
    have A2 : LineAt C H1 a dx l ws i 0 := ⟨e1 _ _ A1.at_ (fun ps z => by cases z), e1 _ _ A1.ws_ (fun ps z => by cases z)⟩
    obtain ⟨w0, rest, rfl⟩ : ∃ w0 rest, ws = w0 :: rest := by
      cases ws with
      | nil => exact absurd rfl nw
      | cons w0 rest => exact ⟨w0, rest, rfl⟩
    obtain ⟨es, n, dic⟩ := DD.dic
    refine ⟨a, dx, l, fl, w0 :: rest, i, 0, rfl, A2, Nat.zero_le _, .inr ⟨_, _, _, _, _, _, hf⟩, (fun z => nomatch z), fun w' hw => ?_⟩
    cases hw
    intro A' outer' s' us hr' e0 r
    refine lam_call hr' e0 hf hc (N := ["word"]) (ps := ["word"]) ⟨rfl, rfl, rfl, by decide +kernel, rfl, by decide +kernel, by decide +kernel⟩ (fun pm ctv us hl => match us, hl with | [_], _ => rfl) r rfl (fun hr2 => ⟨_, pe_ifExp (pt_cmpR (op_in_kd dic) (pv 0) (C8.pe_gc (by rfl) DD.g) rfl) (pv 0) pe_non, ?_⟩)
    walk_at "r"
    cases hk : kindsOf w0 with
    | none =>
      refine ⟨w0, none, rfl, rfl, DD.no _ hk, ?_⟩
      walk_at "r"
      refine ⟨Same.refl _, (fun _ d' H' s1 _ h1 => ?_), (fun z => absurd rfl z)⟩
      exact kBad 0 (by simp only [wrongL, hk]) d' H' (e1.exB.trans s1.exB) (t1.ext s1) h1
    | some bs =>
      obtain ⟨tp, yes, sq⟩ := DD.yes _ _ hk
      have ew : wrongL (w0 :: rest) = wrongW bs rest 1 := by simp only [wrongL, hk]
      have ed : deedL (w0 :: rest) = .str w0 :: argsL bs rest := by simp only [deedL, hk]; rfl
      refine ⟨w0, _, rfl, rfl, yes, ?_⟩
      walk_at "r"
      refine ⟨_, rfl, ?_⟩
      refine ⟨Same.refl _, (fun z => by cases z), (fun _ H2 b2 A3 => ?_)⟩
      have t2 : Tabs (tabT P1) H2 := t1.ins b2 A2.at_
      have x2 : ExB a H H2 := e1.exB.trans b2.exB
      walk_at "r"
      refine ⟨d, w0, .ref tp, rfl, rfl, ⟨es, n, _, dic.at_, dic.lit, yes, rfl⟩, ?_⟩
      walk_at "r"
      refine ⟨⟨_, sq _⟩, ?_⟩
      refine lcat_tupP (xs := bs.map fun b => .ref (if b then fN else fI)) (fun D j H' => ExB a H2 H' ∧ Tabs (tabT P1) H' ∧ LineAt C H' a dx l (w0 :: rest) i (j + 1) ∧ j ≤ rest.length ∧ wrongW (bs.drop j) (rest.drop j) (j + 1) = wrongW bs rest 1 ∧ H' D = some (.lst ((argsL bs rest).take j)))
        (fun D j H' hD _ => sq _) (fun D hD => ?_) (fun D j x H' hD hx ⟨x3, t3, A4, hj, hw, hac⟩ => ?_) (fun D H' hD ⟨x3, t3, A4, hj, hw, hac⟩ => ?_)
      · exact ⟨same_new hD |>.exB, t2.ext (same_new hD), A3.keep (same_new hD), Nat.zero_le _, rfl, upd_same⟩
      · obtain ⟨b, hb, rfl⟩ : ∃ b, bs[j]? = some b ∧ x = .ref (if b then fN else fI) := by
          rw [List.getElem?_map] at hx
          cases q : bs[j]? with
          | none => rw [q] at hx; cases hx
          | some b => rw [q] at hx; exact ⟨b, rfl, (Option.some.inj hx).symm⟩
        have nDa : D ≠ a := fun z => by rw [z, A3.at_] at hD; cases hD
        have nDl : D ≠ l := fun z => by rw [z, A3.ws_] at hD; cases hD
        have hbd : bs.drop j = b :: bs.drop (j + 1) := by
          have hj2 := (List.getElem?_eq_some_iff.mp hb)
          rw [List.drop_eq_getElem_cons hj2.1, hj2.2]
        have bad : ∀ {k : Nat} {H3 : Hp}, Same H' H3 → wrongW (bs.drop j) (rest.drop j) (j + 1) = some k → Rz CT E i k H3 := fun {k H3} s3 hk2 d' H5 s5 _ h5 =>
          kBad k (by rw [ew, ← hw]; exact hk2) d' H5 ((x2.trans x3).trans (s3.trans s5).exB) (t3.ext (s3.trans s5)) h5
        walk_at "r"
        refine ⟨rfl, ?_⟩
        walk_at "r"
        refine meth_at A4.at_ rfl ?_
        walk_at "r"
        refine ⟨a, dx, l, _, w0 :: rest, i, j + 1, rfl, A4, Nat.succ_le_succ hj, .inl (by cases b; exact kI; exact kN), (fun z => ?_), fun w' hw' => ?_⟩
        · refine bad (Same.refl _) ?_
          have e : rest.drop j = [] := List.drop_eq_nil_of_le (by have : j + 1 = rest.length + 1 := z; omega)
          rw [hbd, e]
          rfl
        · have hr : rest[j]? = some w' := hw'
          have hrd : rest.drop j = w' :: rest.drop (j + 1) := by
            have hj2 := (List.getElem?_eq_some_iff.mp hr)
            rw [List.drop_eq_getElem_cons hj2.1, hj2.2]
          have hm := aw w' (List.mem_cons_of_mem _ (List.mem_of_getElem? hr))
          have core : ∀ H3, Same H' H3 → Same H' H3 ∧ (valW b w' = .non → Rz CT E i (j + 1) H3) ∧ (valW b w' ≠ .non → ∀ H5, But a H3 H5 → LineAt C H5 a dx l (w0 :: rest) i (j + 1 + 1) →
              ∃ acc, H5 D = some (.lst acc) ∧ acc.length < sizeLine ∧ (ExB a H2 (upd H5 D (.lst (acc ++ [valW b w']))) ∧ Tabs (tabT P1) (upd H5 D (.lst (acc ++ [valW b w']))) ∧ LineAt C (upd H5 D (.lst (acc ++ [valW b w']))) a dx l (w0 :: rest) i (j + 1 + 1) ∧ j + 1 ≤ rest.length ∧
                wrongW (bs.drop (j + 1)) (rest.drop (j + 1)) (j + 1 + 1) = wrongW bs rest 1 ∧ (upd H5 D (.lst (acc ++ [valW b w']))) D = some (.lst ((argsL bs rest).take (j + 1))))) := fun H3 s3 => by
            refine ⟨s3, fun z => bad s3 ?_, fun z H5 b5 A5 => ?_⟩
            · rw [hbd, hrd]
              exact wrong_bad (val_non z)
            · obtain ⟨ok, ev⟩ := val_ok z
              have h5 : H5 D = some (.lst ((argsL bs rest).take j)) := b5 _ _ nDa (s3 _ _ hac)
              have hjl : j < rest.length := (List.getElem?_eq_some_iff.mp hr).1
              refine ⟨_, h5, ?_, ExB.grow hD ((x3.trans s3.exB).trans b5.exB), ((t3.ext s3).ins b5 (s3 _ _ A4.at_)).lst but_upd h5, ⟨by rw [upd_ne (Ne.symm nDa)]; exact A5.at_, by rw [upd_ne (Ne.symm nDl)]; exact A5.ws_⟩, hjl, ?_, ?_⟩
              · refine Nat.lt_of_le_of_lt (List.length_take_le _ _) (Nat.lt_of_lt_of_le hjl (Nat.le_trans (Nat.le_trans (Nat.le_succ _) lw) (by decide)))
              · rw [← hw, hbd, hrd, wrong_go ok]
              · rw [upd_same, List.take_add_one]
                have e : (argsL bs rest)[j]? = some (argV b w') := by
                  unfold argsL
                  rw [List.getElem?_zipWith, hb, hr]
                rw [e, ev]
                rfl
          cases b with
          | true => exact calls_fn GN bN ⟨w', rfl, hm.1, hm.2, core⟩
          | false => exact calls_fn GI bI ⟨w', rfl, hm.1, hm.2, core⟩
      · have el : (bs.map fun b => V.ref (if b then fN else fI)).length = bs.length := List.length_map _
        rw [el] at A4 hj hw hac
        have eA : (argsL bs rest).take bs.length = argsL bs rest := List.take_of_length_le (by unfold argsL; rw [List.length_zipWith]; exact Nat.min_le_left _ _)
        rw [eA] at hac
        rw [List.drop_length] at hw
        walk_at "r"
        refine star_lst hac ?_
        walk_at "r"
        have nA : (argsL bs rest).length ≤ rest.length := by unfold argsL; rw [List.length_zipWith]; exact Nat.min_le_right _ _
        refine new_tup (by
          rw [List.append_nil]
          exact Nat.le_trans (Nat.succ_le_succ nA) (Nat.le_trans lw (by decide))) fun p H5 n5 s5 h5 => ?_
        walk_at "r"
        have A5 := A4.keep s5
        refine meth_at A5.at_ rfl ?_
        walk_at "r"
        refine ⟨a, dx, l, w0 :: rest, i, bs.length + 1, rfl, A5, (fun z d' H6 s6 _ h6 => ?_), (fun z => ?_)⟩
        · refine kBad (bs.length + 1) ?_ d' H6 ((x2.trans x3).trans (s5.trans s6).exB) (t3.ext (s5.trans s6)) h6
          rw [ew, ← hw]
          cases q : rest.drop bs.length with
          | nil =>
            have : rest.length ≤ bs.length := List.drop_eq_nil_iff.mp q
            exact absurd (by show bs.length + 1 = rest.length + 1; omega) z
          | cons y ys => rfl
        · walk_at "r"
          have e0 : rest.drop bs.length = [] := List.drop_eq_nil_of_le (by have : bs.length + 1 = rest.length + 1 := z; omega)
          rw [e0] at hw
          refine kGood (by rw [ew, ← hw]; rfl) p H5 ((x2.trans x3).trans s5.exB) (t3.ext s5) (by rw [h5, ed, List.append_nil])
end

end My

namespace My
open PySem PySem.Spec PyProof.Rows L2 EE

local macro_rules | `(tactic| walk_at "sq") => `(tactic| first | assumption | exact sqL_of (by assumption) | exact sqT_of (by assumption))
local macro_rules | `(tactic| walk_at "same") => `(tactic| first
  | assumption
  | exact Same.refl _
  | (refine Same.trans ?_ (by assumption); walk_at "same")
  | (refine same_past ?_ (by assumption) ?_; (walk_at "same"); (walk_at "no")))
local macro_rules | `(tactic| walk_at "no") => `(tactic| first
  | assumption
  | (refine none_same ?_ (by assumption); walk_at "same")
  | (refine none_same (by assumption) ?_; walk_at "no")
  | (refine none_but (by assumption) ?_ ?_; (walk_at "n"); (walk_at "no")))
local macro_rules | `(tactic| walk_at "but") => `(tactic| first
  | assumption
  | exact But.refl _ _
  | (refine But.then ?_ (by assumption); walk_at "but")
  | (refine But.trans ?_ (by assumption); walk_at "but")
  | (refine but_past ?_ (by assumption) ?_; (walk_at "but"); (walk_at "no")))
local macro_rules | `(tactic| walk_at "hasp") => `(tactic| (repeat (first | exact ⟨_, _, by assumption⟩ | (refine hasPen_same (by assumption) ?_))))
local macro_rules | `(tactic| walk_at "hasc") => `(tactic| (repeat (first | exact ⟨_, _, by assumption⟩ | (refine hasCells_same (by assumption) ?_))))
local macro_rules | `(tactic| walk_at "pen") => `(tactic| (repeat (first | assumption | (refine PenAt.keep ?_ (by assumption)))))
local macro_rules | `(tactic| walk_at "has") => `(tactic| first
  | exact ⟨_, by assumption⟩
  | (refine has_same (by assumption) ?_; walk_at "has")
  | (refine has_but (by assumption) ?_ ?_; (walk_at "n"); (walk_at "has")))
local macro_rules | `(tactic| walk_at "n") => `(tactic| first
  | assumption
  | exact Ne.symm (by assumption)
  | (refine ne_free (by assumption) ?_; walk_at "has")
  | (refine ne_free' (by assumption) ?_; walk_at "has")
  | (refine pen_off (by assumption) ?_; walk_at "hasp"; done)
  | (refine Ne.symm (pen_off (by assumption) ?_); walk_at "hasp"; done)
  | (refine pen_off' (by assumption) ?_; walk_at "hasc"; done)
  | (refine Ne.symm (pen_off' (by assumption) ?_); walk_at "hasc"; done))
local macro_rules | `(tactic| walk_at "hh") => `(tactic| first
  | assumption
  | (refine get_same (by assumption) ?_; walk_at "hh")
  | (refine get_but (by assumption) (by walk_at "n") ?_; walk_at "hh"))
local macro_rules | `(tactic| walk_at "h") => `(tactic| first
  | ((repeat (first | assumption | (refine get_same (by assumption) ?_) | (refine get_but (by assumption) (by walk_at "n") ?_))); done)
  | walk_at "hh")
local macro_rules | `(tactic| walk_at "r") => `(tactic| repeat (first
  | (refine go ?_)
  | (with_reducible refine rd_mul ?_ ?_)
  | (with_reducible refine rd_mod ?_ ?_)
  | (with_reducible refine rd_fdiv ?_ ?_)
  | (with_reducible refine rd_pow ?_ ?_)
  | (with_reducible refine rd_strI ?_ ?_)
  | (with_reducible refine rd_addS ?_ ?_)
  | (with_reducible refine rd_lenS ?_ ?_)
  | (with_reducible refine rd_slS ?_ ?_)))
local macro_rules | `(tactic| walk_at "R") => `(tactic| repeat (first
  | (refine go ?_)
  | (with_reducible refine new_lstS fun _ _ _ _ _ => ?_)
  | (with_reducible refine new_lst (Nat.le_of_ble_eq_true rfl) fun _ _ _ _ _ => ?_)
  | (with_reducible refine new_tup (Nat.le_of_ble_eq_true rfl) fun _ _ _ _ _ => ?_)
  | ((with_reducible refine len_go ?_); first | (refine Or.inl ⟨_, sqL_of (by walk_at "h"), ?_⟩) | (refine Or.inr ⟨_, sqT_of (by walk_at "h"), ?_⟩))
  | ((with_reducible refine slT_go ?_); refine ⟨_, sqL_of (by walk_at "h"), fun _ _ _ _ _ => ?_⟩)
  | ((with_reducible refine slD_go ?_); refine ⟨_, sqL_of (by walk_at "h"), fun _ _ _ _ _ => ?_⟩)
  | ((with_reducible refine slD1_go ?_); refine ⟨_, sqL_of (by walk_at "h"), fun _ _ _ _ _ => ?_⟩)
  | ((with_reducible refine sl_go ?_); refine ⟨_, sqL_of (by walk_at "h"), fun _ _ _ _ _ => ?_⟩)
  | ((with_reducible refine cat_go ?_); refine catS_go (by walk_at "h") (by walk_at "h") ?_ fun _ _ _ _ _ => ?_; rotate_left)
  | ((with_reducible refine cat_go ?_); refine catV_go (by walk_at "h") (by walk_at "h") (Nat.le_of_ble_eq_true rfl) fun _ _ _ _ _ => ?_)
  | ((with_reducible refine cat_go ?_); refine catV_go (by walk_at "h") (by walk_at "h") ?_ fun _ _ _ _ _ => ?_; rotate_left)
  | ((with_reducible refine ixL_go ?_); refine ⟨_, sqL_of (by walk_at "h"), ?_⟩; refine ⟨_, atI_lit, ?_⟩)
  | (with_reducible refine rd_mul ?_ ?_; rotate_left)
  | (with_reducible refine rd_mod ?_ ?_; rotate_left)
  | (with_reducible refine rd_fdiv ?_ ?_; rotate_left)
  | (with_reducible refine rd_pow ?_ ?_; rotate_left)
  | (with_reducible refine rd_strI ?_ ?_; rotate_left)
  | (with_reducible refine rd_addS ?_ ?_; rotate_left)
  | (with_reducible refine rd_lenS ?_ ?_; rotate_left)
  | (with_reducible refine rd_slS ?_ ?_; rotate_left)))

open LamX
def read1 : List (List Str) → Nat → Option (Nat × Nat)
  | [], _ => none
  | ws :: r, i => match wrongL ws with
    | some k => some (i, k)
    | none => read1 r (i + 1)
theorem read1_bad {ws : List Str} {r : List (List Str)} {i k : Nat} (h : wrongL ws = some k) : read1 (ws :: r) i = some (i, k) := by simp only [read1, h]
theorem read1_go {ws : List Str} {r : List (List Str)} {i : Nat} (h : wrongL ws = none) : read1 (ws :: r) i = read1 r (i + 1) := by simp only [read1, h]
theorem _root_.LamX.ExtN.past {a : Addr} {H H' H5 : Hp} (x3 : ExtN H H') (x5 : ExB a H' H5) (q2 : H a = none) : ExtN H H5 := fun b o e n => x5 b o (ne_of_none e q2) (x3 b o e n) n
structure DeedsAt (H : Hp) (rows : List (List Str)) (ds : List V) : Prop where
  len : ds.length = rows.length
  at_ : ∀ (j : Nat) (ws : List Str), rows[j]? = some ws → ∃ q : Addr, ds[j]? = some (V.ref q) ∧ H q = some (.tup (deedL ws))
theorem DeedsAt.nil {H : Hp} : DeedsAt H [] [] := ⟨rfl, fun j ws e => by cases e⟩
theorem DeedsAt.to {H H' : Hp} {rows : List (List Str)} {ds : List V} (h : DeedsAt H rows ds) (k : ∀ q xs, H q = some (.tup xs) → H' q = some (.tup xs)) : DeedsAt H' rows ds := ⟨h.len, fun j ws e => let ⟨q, e1, e2⟩ := h.at_ j ws e; ⟨q, e1, k _ _ e2⟩⟩
theorem DeedsAt.snoc {H : Hp} {rows : List (List Str)} {ds : List V} {ws : List Str} {q : Addr} (h : DeedsAt H rows ds) (hq : H q = some (.tup (deedL ws))) : DeedsAt H (rows ++ [ws]) (ds ++ [.ref q]) := by
  refine ⟨by simp [h.len], fun j vs e => ?_⟩
  by_cases hj : j < rows.length
  · rw [List.getElem?_append_left hj] at e
    obtain ⟨p, e1, e2⟩ := h.at_ j vs e
    exact ⟨p, by rw [List.getElem?_append_left (by rw [h.len]; exact hj)]; exact e1, e2⟩
  · have : j = rows.length := by
      rw [List.getElem?_append_right (by omega)] at e
      have := (List.getElem?_eq_some_iff.mp e).1
      simp at this
      omega
    subst this
    rw [List.getElem?_append_right (Nat.le_refl _), Nat.sub_self] at e
    cases e
    exact ⟨q, by rw [← h.len, List.getElem?_append_right (Nat.le_refl _), Nat.sub_self]; rfl, hq⟩
def RzN (T : List (Addr × Str)) (CT : Addr) (E : XK) (i t : Nat) (H : Hp) : Prop := ∀ d H', ExtN H H' → Tabs T H' → H' d = some (.xd [("word", .int t), ("line", .int i)]) → E (.ref CT) (some d) H'
def spRead (CT P1 : Addr) : Sp := fun vs H Q E => ∃ x, vs = [x] ∧ Th H x ∧ Tabs (tabT P1) H ∧ (isStrV x = false → RzN (tabT P1) CT E 0 0 H) ∧
  ∀ z, x = .str z → (∀ i k, read1 (rowsOf z) 0 = some (i, k) → RzN (tabT P1) CT E i k H) ∧ (read1 (rowsOf z) 0 = none → ∀ p ds H', ExtN H H' → Tabs (tabT P1) H' → H' p = some (.tup ds) → DeedsAt H' (rowsOf z) ds → Q (.ref p) H')
theorem mem_joinL {S p : List Nat} {c : Nat} : ∀ {ys : List (List Nat)}, p ∈ ys → c ∈ p → c ∈ TL.joinL S ys
  | [], h, _ => by cases h
  | [y], h, hc => by
    cases List.mem_singleton.mp h
    exact hc
  | y :: y2 :: r, h, hc => by
    show c ∈ y ++ (S ++ TL.joinL S (y2 :: r))
    rcases List.mem_cons.mp h with e | e
    · exact List.mem_append_left _ (by rw [← e]; exact hc)
    · exact List.mem_append_right _ (List.mem_append_right _ (mem_joinL e hc))
theorem mem_join {sep p : Str} {c : Nat} : ∀ {ys : List Str}, p ∈ ys → c ∈ p.cps.toList → c ∈ (Str.join sep ys).cps.toList := fun {ys} hp hc => by
  have e : (Str.join sep ys).cps.toList = TL.joinL (TL.tl sep) (ys.map TL.tl) := TL.tl_join sep ys
  rw [e]
  exact mem_joinL (List.mem_map.mpr ⟨p, hp, rfl⟩) hc
theorem asc_part {x y p : Str} (h : Asc x) (hp : p ∈ Txt.split x y) : Asc p := fun c hc => h c (by
  have e := mem_join (sep := y) hp hc
  rw [PySem.StrLaws.join_split] at e
  exact e)
theorem rows_words {z : Str} (hl : z.length ≤ 1000) (ha : Asc z) : ∀ ws ∈ rowsOf z, ws.length ≤ 2000 ∧ ∀ q ∈ ws, q.length ≤ 1000 ∧ Asc q := fun ws h => by
  unfold rowsOf at h
  split at h
  · cases h
  · obtain ⟨r, hr, rfl⟩ := List.mem_map.mp h
    have l1 : r.length ≤ 1000 := Nat.le_trans (part_short hr) hl
    have a1 : Asc r := asc_part ha hr
    refine ⟨by have := split_le r " "; omega, fun q hq => ⟨Nat.le_trans (part_short hq) l1, asc_part a1 hq⟩⟩
theorem rows_few {z : Str} (hl : z.length ≤ 1000) : (rowsOf z).length ≤ 2000 := by
  unfold rowsOf
  split
  · exact Nat.zero_le _
  · rw [List.length_map]
    have := split_le z "\n"
    omega
section
variable {P : Program} {w : World} {K : PySem.W.Frag} {mg : Str → Option Value} {base : Heap} {C CT P1 fL fD : Addr} {fdL fdD : FuncData}
theorem ok_deeds_in {f : Addr} {fd : FuncData} (F : Fun K "deeds_in" "deeds_in" s_deeds_in f fd) (T : Tx K mg) (GL : FnOk P w K mg base (L2.CX P w) 3 fL fdL ["text"] (spLines C CT)) (gL : mg "lines_of" = some (.ref fL)) (kL : PySem.W.keepIn K (.ref fL) = true) (bL : Binds K fdL ["text"] [])
    (GD : FnOk P w K mg base (L2.CX P w) 5 fD fdD ["line"] (spDeed C CT P1)) (gD : mg "deed_from" = some (.ref fD)) (kD : PySem.W.keepIn K (.ref fD) = true) (bD : Binds K fdD ["line"] []) : FnOk P w K mg base (L2.CX P w) 6 f fd ["text"] (spRead CT P1) := by
  refine F.okX sc_deeds_in (fun vs H Q E h => ?_) (fun cdv A outer s H vs Q E hr h => ?_)
  · obtain ⟨x, rfl, _⟩ := h
    rfl
  · obtain ⟨x, rfl, hx, tT, kOdd, kStr⟩ := h
    have tk : Takes (cxOf (L2.CX P w) P w K mg base ["text", "line"] "deeds_in" (defScope s_deeds_in) f cdv A outer s H E) (fun cls d _ H => E cls d H) := takes_of rfl rfl rfl rfl
    refine ⟨_, (pss_one (ps_ret (pe_callTy cr_tupOf (by rfl) T.b_tuple (by decide +kernel) (pa_cons (pe_lcX (own := [("line", 1)]) tk rfl rfl rfl sc_deeds_in.nd (pi_list (pe_call GL (hr.mono (by decide)) (by rfl) gL kL bL .nil (passes_call tk fun _ _ _ _ z => z) (pa_cons (pv 0) pa_nil))) (blkOk_by (own := [("line", 1)]) (N := ["text", "line"]) (sc := defScope s_deeds_in) (by decide +kernel)) (fun _ _ _ _ _ => (pg_name (i := 1) sc_deeds_in.nd rfl (by first | exact Or.inl rfl | exact Or.inr rfl))) (fun _ _ _ _ _ _ px => (pe_call GD (hr.mono (by decide)) (by rfl) gD kD bD .nil px (pa_cons (pv 1) pa_nil)))) pa_nil)))), ?_⟩
    walk_at "r"
    refine ⟨x, rfl, hx, (fun z d' H' s1 _ h1 => kOdd z d' H' s1.exN (tT.ext s1) h1), fun z ez lp H1 xs n1 s1 h1 la => ?_⟩
    walk_at "r"
    refine ⟨⟨_, sqL_of h1⟩, ?_⟩
    subst ez
    obtain ⟨kBad, kGood⟩ := kStr z rfl
    obtain ⟨hl, ha⟩ : z.length ≤ 1000 ∧ Asc z := by
      cases hx with
      | str _ hl ha => exact ⟨hl, ha⟩
    have few := rows_few hl
    have rw0 := rows_words hl ha
    have rn := rows_ne (z := z)
    generalize rowsOf z = rows at *
    refine lcat_listP (xs := xs) (fun D j H' => ExtN H H' ∧ Tabs (tabT P1) H' ∧ H' lp = some (.lst xs) ∧ (∀ (j' : Nat) (ws : List Str), j ≤ j' → rows[j']? = some ws → ∃ a dx l : Addr, xs[j']? = some (V.ref a) ∧ H a = none ∧ LineAt C H1 a dx l ws j' 0 ∧ LineAt C H' a dx l ws j' 0) ∧
        read1 (rows.drop j) j = read1 rows 0 ∧ ∃ ds, H' D = some (.lst ds) ∧ DeedsAt H' (rows.take j) ds)
      (fun D j H' hD ⟨_, _, q, _⟩ => sqL_of q) (fun D hD => ?_) (fun D j x H' hD hx ⟨x3, t3, hp, hli, hr, ds, hds, da⟩ => ?_) (fun D H' hD ⟨x3, t3, hp, hli, hr, ds, hds, da⟩ => ?_)
    · have s2 := same_new (o := .lst []) hD
      exact ⟨(s1.trans s2).exN, tT.ext (s1.trans s2), s2 _ _ h1, fun j' ws _ e => let ⟨a, dx, l, q1, q2, q3⟩ := la.at_ j' ws e; ⟨a, dx, l, q1, q2, q3, q3.keep s2⟩, rfl, [], upd_same, .nil⟩
    · obtain ⟨ws, hws⟩ : ∃ ws, rows[j]? = some ws := ⟨_, List.getElem?_eq_getElem (by rw [← la.len]; exact (List.getElem?_eq_some_iff.mp hx).1)⟩
      obtain ⟨a, dx, l, q1, q2, q3, q4⟩ := hli j ws (Nat.le_refl _) hws
      cases hx.symm.trans q1
      have hdr : rows.drop j = ws :: rows.drop (j + 1) := by
        have hj2 := (List.getElem?_eq_some_iff.mp hws)
        rw [List.drop_eq_getElem_cons hj2.1, hj2.2]
      have hm := List.mem_of_getElem? hws
      walk_at "r"
      refine ⟨rfl, ?_⟩
      walk_at "r"
      refine ⟨a, dx, l, ws, j, rfl, q4, rn ws hm, (rw0 ws hm).1, (rw0 ws hm).2, t3, (fun k hk d' H5 x5 t5 h5 => ?_), fun hk p H5 x5 t5 h5 => ?_⟩
      · exact kBad j k (by rw [← hr, hdr]; exact read1_bad hk) d' H5 (x3.past x5 q2) t5 h5
      · have nDa : D ≠ a := fun z => by rw [z, q3.at_] at hD; cases hD
        have nDp : lp ≠ D := fun z => by rw [← z, h1] at hD; cases hD
        have nap : lp ≠ a := fun z => by rw [z, q4.at_] at hp; cases hp
        have h6 : H5 D = some (.lst ds) := x5 _ _ nDa hds (fun ps z => by cases z)
        have hj : j < rows.length := (List.getElem?_eq_some_iff.mp hws).1
        refine ⟨ds, h6, ?_, fun b o e n => ?_, t5.lst but_upd h6, ?_, fun j' ws' hj' e => ?_, ?_, _, upd_same, ?_⟩
        · rw [da.len]
          exact Nat.lt_of_le_of_lt (Nat.le_trans (List.length_take_le' _ _) few) (by decide)
        · rw [upd_ne (ne_of_none e (s1.free hD))]
          exact x3.past x5 q2 b o e n
        · rw [upd_ne nDp]
          exact x5 _ _ nap hp (fun ps z => by cases z)
        · obtain ⟨a', dx', l', p1, p2, p3, p4⟩ := hli j' ws' (by omega) e
          have naa : a' ≠ a := fun z => by
            obtain ⟨i1, e1⟩ := List.getElem?_eq_some_iff.mp q1
            obtain ⟨i2, e2⟩ := List.getElem?_eq_some_iff.mp p1
            exact List.pairwise_iff_getElem.mp la.nd j j' i1 i2 (by omega) (by rw [e1, e2, z])
          have nla : l' ≠ a := fun z => by
            have := p4.ws_
            rw [z, q4.at_] at this
            cases this
          refine ⟨a', dx', l', p1, p2, p3, ?_, ?_⟩
          · rw [upd_ne (fun z => by have := p3.at_; rw [z, hD] at this; cases this)]
            exact x5 _ _ naa p4.at_ (fun ps z => by cases z)
          · rw [upd_ne (fun z => by have := p3.ws_; rw [z, hD] at this; cases this)]
            exact x5 _ _ nla p4.ws_ (fun ps z => by cases z)
        · rw [← hr, hdr, read1_go hk]
        · rw [List.take_add_one, hws]
          have off : ∀ q us, H5 q = some (.tup us) → upd H5 D (.lst (ds ++ [V.ref p])) q = some (.tup us) := fun q us e => by
            rw [upd_ne (fun z => by rw [z, h6] at e; cases e)]
            exact e
          exact (da.to fun q us e => off q us (x5 _ _ (fun z => by rw [z, q4.at_] at e; cases e) e (fun ps z => by cases z))).snoc (off _ _ h5)
    · rw [la.len, List.drop_length] at hr
      rw [la.len, List.take_length] at da
      walk_at "r"
      refine ⟨D, ds, rfl, .inl ⟨sqL_of hds, fun p hp2 => ?_⟩⟩
      have s9 := same_new (o := .tup ds) hp2
      exact kGood hr.symm p ds _ (x3.trans s9.exN) (t3.ext s9) upd_same (da.to fun q us e => s9 _ _ e)
theorem ok_read_story {fI : Addr} {fdI : FuncData} {f : Addr} {fd : FuncData} (F : Fun K "read_story" "read_story" s_read_story f fd) (T : Tx K mg) (GI : FnOk P w K mg base (L2.CX P w) 6 fI fdI ["text"] (spRead CT P1)) (gI : mg "deeds_in" = some (.ref fI)) (kI : PySem.W.keepIn K (.ref fI) = true) (bI : Binds K fdI ["text"] []) :
    FnOk P w K mg base (L2.CX P w) 7 f fd ["text"] (spRead CT P1) := by
  refine F.okX sc_read_story (fun vs H Q E h => ?_) (fun cdv A outer s H vs Q E hr h => ?_)
  · obtain ⟨x, rfl, _⟩ := h
    rfl
  · obtain ⟨x, rfl, h⟩ := h
    have tk : Takes (cxOf (L2.CX P w) P w K mg base ["text"] "read_story" (defScope s_read_story) f cdv A outer s H E) (fun cls d _ H => E cls d H) := takes_of rfl rfl rfl rfl
    refine ⟨_, (pss_one (ps_ret (pe_call GI (hr.mono (by decide)) (by rfl) gI kI bI .nil (passes_call tk fun _ _ _ _ z => z) (pa_cons (pv 0) pa_nil)))), ?_⟩
    walk_at "r"
    exact ⟨x, rfl, h⟩
end

end My

namespace My
open PySem PySem.Spec PyProof.Rows L2 EE

local macro_rules | `(tactic| walk_at "sq") => `(tactic| first | assumption | exact sqL_of (by assumption) | exact sqT_of (by assumption))
local macro_rules | `(tactic| walk_at "same") => `(tactic| first
  | assumption
  | exact Same.refl _
  | (refine Same.trans ?_ (by assumption); walk_at "same")
  | (refine same_past ?_ (by assumption) ?_; (walk_at "same"); (walk_at "no")))
local macro_rules | `(tactic| walk_at "no") => `(tactic| first
  | assumption
  | (refine none_same ?_ (by assumption); walk_at "same")
  | (refine none_same (by assumption) ?_; walk_at "no")
  | (refine none_but (by assumption) ?_ ?_; (walk_at "n"); (walk_at "no")))
local macro_rules | `(tactic| walk_at "but") => `(tactic| first
  | assumption
  | exact But.refl _ _
  | (refine But.then ?_ (by assumption); walk_at "but")
  | (refine But.trans ?_ (by assumption); walk_at "but")
  | (refine but_past ?_ (by assumption) ?_; (walk_at "but"); (walk_at "no")))
local macro_rules | `(tactic| walk_at "hasp") => `(tactic| (repeat (first | exact ⟨_, _, by assumption⟩ | (refine hasPen_same (by assumption) ?_))))
local macro_rules | `(tactic| walk_at "hasc") => `(tactic| (repeat (first | exact ⟨_, _, by assumption⟩ | (refine hasCells_same (by assumption) ?_))))
local macro_rules | `(tactic| walk_at "pen") => `(tactic| (repeat (first | assumption | (refine PenAt.keep ?_ (by assumption)))))
local macro_rules | `(tactic| walk_at "has") => `(tactic| first
  | exact ⟨_, by assumption⟩
  | (refine has_same (by assumption) ?_; walk_at "has")
  | (refine has_but (by assumption) ?_ ?_; (walk_at "n"); (walk_at "has")))
local macro_rules | `(tactic| walk_at "n") => `(tactic| first
  | assumption
  | exact Ne.symm (by assumption)
  | (refine ne_free (by assumption) ?_; walk_at "has")
  | (refine ne_free' (by assumption) ?_; walk_at "has")
  | (refine pen_off (by assumption) ?_; walk_at "hasp"; done)
  | (refine Ne.symm (pen_off (by assumption) ?_); walk_at "hasp"; done)
  | (refine pen_off' (by assumption) ?_; walk_at "hasc"; done)
  | (refine Ne.symm (pen_off' (by assumption) ?_); walk_at "hasc"; done))
local macro_rules | `(tactic| walk_at "hh") => `(tactic| first
  | assumption
  | (refine get_same (by assumption) ?_; walk_at "hh")
  | (refine get_but (by assumption) (by walk_at "n") ?_; walk_at "hh"))
local macro_rules | `(tactic| walk_at "h") => `(tactic| first
  | ((repeat (first | assumption | (refine get_same (by assumption) ?_) | (refine get_but (by assumption) (by walk_at "n") ?_))); done)
  | walk_at "hh")
local macro_rules | `(tactic| walk_at "r") => `(tactic| repeat (first
  | (refine go ?_)
  | (with_reducible refine rd_mul ?_ ?_)
  | (with_reducible refine rd_mod ?_ ?_)
  | (with_reducible refine rd_fdiv ?_ ?_)
  | (with_reducible refine rd_pow ?_ ?_)
  | (with_reducible refine rd_strI ?_ ?_)
  | (with_reducible refine rd_addS ?_ ?_)
  | (with_reducible refine rd_lenS ?_ ?_)
  | (with_reducible refine rd_slS ?_ ?_)))
local macro_rules | `(tactic| walk_at "R") => `(tactic| repeat (first
  | (refine go ?_)
  | (with_reducible refine new_lstS fun _ _ _ _ _ => ?_)
  | (with_reducible refine new_lst (Nat.le_of_ble_eq_true rfl) fun _ _ _ _ _ => ?_)
  | (with_reducible refine new_tup (Nat.le_of_ble_eq_true rfl) fun _ _ _ _ _ => ?_)
  | ((with_reducible refine len_go ?_); first | (refine Or.inl ⟨_, sqL_of (by walk_at "h"), ?_⟩) | (refine Or.inr ⟨_, sqT_of (by walk_at "h"), ?_⟩))
  | ((with_reducible refine slT_go ?_); refine ⟨_, sqL_of (by walk_at "h"), fun _ _ _ _ _ => ?_⟩)
  | ((with_reducible refine slD_go ?_); refine ⟨_, sqL_of (by walk_at "h"), fun _ _ _ _ _ => ?_⟩)
  | ((with_reducible refine slD1_go ?_); refine ⟨_, sqL_of (by walk_at "h"), fun _ _ _ _ _ => ?_⟩)
  | ((with_reducible refine sl_go ?_); refine ⟨_, sqL_of (by walk_at "h"), fun _ _ _ _ _ => ?_⟩)
  | ((with_reducible refine cat_go ?_); refine catS_go (by walk_at "h") (by walk_at "h") ?_ fun _ _ _ _ _ => ?_; rotate_left)
  | ((with_reducible refine cat_go ?_); refine catV_go (by walk_at "h") (by walk_at "h") (Nat.le_of_ble_eq_true rfl) fun _ _ _ _ _ => ?_)
  | ((with_reducible refine cat_go ?_); refine catV_go (by walk_at "h") (by walk_at "h") ?_ fun _ _ _ _ _ => ?_; rotate_left)
  | ((with_reducible refine ixL_go ?_); refine ⟨_, sqL_of (by walk_at "h"), ?_⟩; refine ⟨_, atI_lit, ?_⟩)
  | (with_reducible refine rd_mul ?_ ?_; rotate_left)
  | (with_reducible refine rd_mod ?_ ?_; rotate_left)
  | (with_reducible refine rd_fdiv ?_ ?_; rotate_left)
  | (with_reducible refine rd_pow ?_ ?_; rotate_left)
  | (with_reducible refine rd_strI ?_ ?_; rotate_left)
  | (with_reducible refine rd_addS ?_ ?_; rotate_left)
  | (with_reducible refine rd_lenS ?_ ?_; rotate_left)
  | (with_reducible refine rd_slS ?_ ?_; rotate_left)))

open LamX
/-- the words of a right line, as the law draws them -/
structure GoodD (ws : List Str) : Prop where
  ne : ws ≠ []
  few : ws.length ≤ 3
  ok : wrongL ws = none
  str : (deedL ws).map strV = ws
  flat : ∀ v ∈ deedL ws, (∃ z, v = .str z) ∨ ∃ i : Int, v = .int i ∧ 0 ≤ i ∧ i < 1000000
  short : ∀ z ∈ ws, z.length ≤ 8
  asc : ∀ z ∈ ws, Asc z
  free : ∀ z ∈ ws, 32 ∉ z.cps.toList ∧ 10 ∉ z.cps.toList
def lineR (ws : List Str) : Str := Str.join " " ws
def textR (rows : List (List Str)) : Str := Str.join "\n" (rows.map lineR)
theorem filterMap_pt {α β γ : Type} {F : α → Option β} {g : γ → β} : ∀ {l : List α} {r : List γ}, l.length = r.length → (∀ (j : Nat) c, r[j]? = some c → ∃ a, l[j]? = some a ∧ F a = some (g c)) → l.filterMap F = r.map g
  | [], [], _, _ => rfl
  | [], _ :: _, h, _ => by cases h
  | _ :: _, [], h, _ => by cases h
  | a :: l, c :: r, h, k => by
    obtain ⟨a', e1, e2⟩ := k 0 c rfl
    cases e1
    rw [List.filterMap_cons, e2, List.map_cons]
    exact congrArg _ (filterMap_pt (Nat.succ.inj h) fun j d e => k (j + 1) d e)
/-- the text of the tuple that a value means in H -/
def lineF (H : Hp) : V → Option V
  | .ref q => match H q with
    | some (.tup d) => some (.str (Str.join " " (d.map strV)))
    | _ => none
  | _ => none
theorem lineF_at {H : Hp} {q : Addr} {d : List V} (h : H q = some (.tup d)) : lineF H (.ref q) = some (.str (Str.join " " (d.map strV))) := by
  unfold lineF
  simp only [h]
theorem log_small {i : Int} (h0 : 0 ≤ i) (h1 : i < 1000000) : i.natAbs.log2 < 1920 := log2_lt (Nat.lt_of_lt_of_le (show i.natAbs < 2 ^ 20 by omega) (Nat.pow_le_pow_right (by decide) (by decide))) (by decide)
theorem deed_len {ws : List Str} (g : GoodD ws) : (deedL ws).length = ws.length := by
  have e := congrArg List.length g.str
  rw [List.length_map] at e
  exact e
theorem sum_le {k : Nat} : ∀ {l : List Nat}, (∀ x ∈ l, x ≤ k) → l.sum ≤ l.length * k
  | [], _ => by simp
  | x :: l, h => by
    have := sum_le (l := l) fun y hy => h y (List.mem_cons_of_mem _ hy)
    have := h x List.mem_cons_self
    rw [List.sum_cons, List.length_cons, Nat.succ_mul]
    omega
theorem line_len {ws : List Str} (g : GoodD ws) : (ws.map (·.length)).sum + ws.length * 1 ≤ 27 := by
  have := sum_le (k := 8) (l := ws.map (·.length)) fun x hx => by
    obtain ⟨z, hz, rfl⟩ := List.mem_map.mp hx
    exact g.short z hz
  rw [List.length_map] at this
  have := g.few
  omega
theorem lineR_len {ws : List Str} (g : GoodD ws) : (lineR ws).length ≤ 27 := Nat.le_trans (len_join " " ws) (line_len g)
def spText (K : PySem.W.Frag) (T : Bool) : Sp := fun vs H Q _ => ∃ (p : Addr) (ds : List V) (rows : List (List Str)), vs = [.ref p] ∧ H p = some (if T then .tup ds else .lst ds) ∧ DeedsAt H rows ds ∧ rows.length ≤ 100 ∧ (∀ ws ∈ rows, GoodD ws) ∧ ∀ H', Same H H' → Q (.str (textR rows)) H'
section
variable {P : Program} {w : World} {K : PySem.W.Frag} {mg : Str → Option Value} {base : Heap}
theorem ok__law_text {f : Addr} {fd : FuncData} (F : Fun K "_law_text" "_law_text" s__law_text f fd) (T : Tx K mg) : FnOk P w K mg base CX0 1 f fd ["_law_some"] (spText K false) := by
  refine F.ok sc__law_text (fun vs H Q E h => ?_) (fun cdv A outer s H vs Q E hr h => ?_)
  · obtain ⟨p, ds, rows, rfl, _⟩ := h
    rfl
  · obtain ⟨p, ds, rows, rfl, hp, da, few, gd, k⟩ := h
    refine ⟨_, (pss_one (ps_ret (pe_m1 PySem.F.slot_str_join PySem.F.type_str_join mt_joinN pe_str (pe_lc (own := [("_law_deed_here", 2)]) rfl sc__law_text.nd (pi_list (pv 0)) (blkOk_by (own := [("_law_deed_here", 2)]) (N := ["_law_some", "_law_part", "_law_deed_here"]) (sc := defScope s__law_text) (by decide +kernel)) (fun _ _ _ _ _ => (pg_name (i := 2) sc__law_text.nd rfl (by first | exact Or.inl rfl | exact Or.inr rfl))) (fun _ _ _ _ _ => pts_nil) (fun _ _ _ _ _ => (pe_m1 PySem.F.slot_str_join PySem.F.type_str_join (mtK rJoin (K := K) rfl mt_joinN) pe_str (pe_lc (own := [("_law_part", 1)]) rfl sc__law_text.nd (pi_tupK (K := K) rfl (pi_tup (pv 2))) (blkOk_by (own := [("_law_part", 1)]) (N := ["_law_some", "_law_part", "_law_deed_here"]) (by kernel_rfl)) (fun _ _ _ _ _ => (pg_name (i := 1) sc__law_text.nd rfl (by first | exact Or.inl rfl | exact Or.inr rfl))) (fun _ _ _ _ _ => pts_nil) (fun _ _ _ _ _ => (pe_callTy cr_strV (by rfl) T.b_str (by decide +kernel) (pa_cons (pv 1) pa_nil)))))))))), ?_⟩
    walk_at "r"
    have hp' : H p = some (.lst ds) := hp
    refine ⟨⟨_, sqL_of hp'⟩, ?_⟩
    refine lcat_list (xs := ds) (lineF H) (by rw [da.len]; omega) hp' (fun D i x H' hD hx I => ?_) (fun D H' hD sm hl2 => ?_)
    · obtain ⟨ws, hws⟩ : ∃ ws, rows[i]? = some ws := ⟨_, List.getElem?_eq_getElem (by rw [← da.len]; exact (List.getElem?_eq_some_iff.mp hx).1)⟩
      obtain ⟨q, q1, q2⟩ := da.at_ i ws hws
      cases hx.symm.trans q1
      have g := gd ws (List.mem_of_getElem? hws)
      walk_at "r"
      refine ⟨rfl, ?_⟩
      walk_at "r"
      refine ⟨⟨_, sqT_of (I.same _ _ q2)⟩, ?_⟩
      refine EE.lcat_tup (xs := deedL ws) (fun v => some (.str (strV v))) (by rw [deed_len g]; have := g.few; omega) (I.same _ _ q2) (fun D2 i2 v H2 hD2 hv I2 => ?_) (fun D2 H2 hD2 sm2 hl3 => ?_)
      · walk_at "r"
        refine ⟨rfl, ?_⟩
        walk_at "r"
        refine ⟨v, rfl, ?_, ?_⟩
        · rcases g.flat v (List.mem_of_getElem? hv) with z | ⟨n, z, z0, z1⟩
          · exact .inl z
          · exact .inr ⟨n, z, log_small z0 z1⟩
        · exact I2.some hD2 hv rfl (Same.refl _) (by rw [deed_len g]; have := g.few; omega)
      · rw [filterMap_some (fun v => V.str (strV v))] at hl3
        have e3 : (deedL ws).map (fun v => V.str (strV v)) = ws.map V.str := by
          conv => rhs; rw [← g.str]
          rw [List.map_map]
          rfl
        rw [e3] at hl3
        refine rd_joinL hl3 ?_ ?_
        · have := line_len g
          have e : (" " : Str).length = 1 := by decide +kernel
          rw [e]
          omega
        · refine I.some hD q1 (by rw [lineF_at q2, g.str]) sm2 (by rw [da.len]; omega)
    · walk_at "r"
      have e : ds.filterMap (lineF H) = (rows.map lineR).map V.str := by
        rw [List.map_map]
        refine filterMap_pt da.len fun j ws e => ?_
        obtain ⟨q, q1, q2⟩ := da.at_ j ws e
        refine ⟨_, q1, ?_⟩
        rw [lineF_at q2, (gd ws (List.mem_of_getElem? e)).str]
        rfl
      rw [e] at hl2
      refine rd_joinL hl2 ?_ ?_
      · have := sum_le (k := 27) (l := (rows.map lineR).map (·.length)) fun x hx => by
          obtain ⟨z, hz, rfl⟩ := List.mem_map.mp hx
          obtain ⟨ws, hw, rfl⟩ := List.mem_map.mp hz
          exact lineR_len (gd ws hw)
        rw [List.length_map, List.length_map] at this
        have e : ("\n" : Str).length = 1 := by decide +kernel
        rw [e, List.length_map]
        omega
      · exact k H' sm
def spTextB (K : PySem.W.Frag) : Sp := fun vs H Q E => spText K false vs H Q E ∨ spText K true vs H Q E
theorem ok_story_text {f : Addr} {fd : FuncData} (F : Fun K "story_text" "story_text" s_story_text f fd) (T : Tx K mg) : FnOk P w K mg base CX0 1 f fd ["deeds"] (spTextB K) := by
  refine F.ok sc_story_text (fun vs H Q E h => ?_) (fun cdv A outer s H vs Q E hr h => ?_)
  · rcases h with h | h
    · obtain ⟨p, ds, rows, rfl, _⟩ := h
      rfl
    · obtain ⟨p, ds, rows, rfl, _⟩ := h
      rfl
  · rcases h with h | h
    · obtain ⟨p, ds, rows, rfl, hp, da, few, gd, k⟩ := h
      refine ⟨_, (pss_one (ps_ret (pe_m1 PySem.F.slot_str_join PySem.F.type_str_join mt_joinN pe_str (pe_lc (own := [("deed", 2)]) rfl sc_story_text.nd (pi_list (pv 0)) (blkOk_by (own := [("deed", 2)]) (N := ["deeds", "part", "deed"]) (sc := defScope s_story_text) (by decide +kernel)) (fun _ _ _ _ _ => (pg_name (i := 2) sc_story_text.nd rfl (by first | exact Or.inl rfl | exact Or.inr rfl))) (fun _ _ _ _ _ => pts_nil) (fun _ _ _ _ _ => (pe_m1 PySem.F.slot_str_join PySem.F.type_str_join (mtK rJoin (K := K) rfl mt_joinN) pe_str (pe_lc (own := [("part", 1)]) rfl sc_story_text.nd (pi_tupK (K := K) rfl (pi_tup (pv 2))) (blkOk_by (own := [("part", 1)]) (N := ["deeds", "part", "deed"]) (by kernel_rfl)) (fun _ _ _ _ _ => (pg_name (i := 1) sc_story_text.nd rfl (by first | exact Or.inl rfl | exact Or.inr rfl))) (fun _ _ _ _ _ => pts_nil) (fun _ _ _ _ _ => (pe_callTy cr_strV (by rfl) T.b_str (by decide +kernel) (pa_cons (pv 1) pa_nil)))))))))), ?_⟩
      walk_at "r"
      have hp' : H p = some (.lst ds) := hp
      refine ⟨⟨_, sqL_of hp'⟩, ?_⟩
      refine lcat_list (xs := ds) (lineF H) (by rw [da.len]; omega) hp' (fun D i x H' hD hx I => ?_) (fun D H' hD sm hl2 => ?_)
      · obtain ⟨ws, hws⟩ : ∃ ws, rows[i]? = some ws := ⟨_, List.getElem?_eq_getElem (by rw [← da.len]; exact (List.getElem?_eq_some_iff.mp hx).1)⟩
        obtain ⟨q, q1, q2⟩ := da.at_ i ws hws
        cases hx.symm.trans q1
        have g := gd ws (List.mem_of_getElem? hws)
        walk_at "r"
        refine ⟨rfl, ?_⟩
        walk_at "r"
        refine ⟨⟨_, sqT_of (I.same _ _ q2)⟩, ?_⟩
        refine EE.lcat_tup (xs := deedL ws) (fun v => some (.str (strV v))) (by rw [deed_len g]; have := g.few; omega) (I.same _ _ q2) (fun D2 i2 v H2 hD2 hv I2 => ?_) (fun D2 H2 hD2 sm2 hl3 => ?_)
        · walk_at "r"
          refine ⟨rfl, ?_⟩
          walk_at "r"
          refine ⟨v, rfl, ?_, ?_⟩
          · rcases g.flat v (List.mem_of_getElem? hv) with z | ⟨n, z, z0, z1⟩
            · exact .inl z
            · exact .inr ⟨n, z, log_small z0 z1⟩
          · exact I2.some hD2 hv rfl (Same.refl _) (by rw [deed_len g]; have := g.few; omega)
        · rw [filterMap_some (fun v => V.str (strV v))] at hl3
          have e3 : (deedL ws).map (fun v => V.str (strV v)) = ws.map V.str := by
            conv => rhs; rw [← g.str]
            rw [List.map_map]
            rfl
          rw [e3] at hl3
          refine rd_joinL hl3 ?_ ?_
          · have := line_len g
            have e : (" " : Str).length = 1 := by decide +kernel
            rw [e]
            omega
          · refine I.some hD q1 (by rw [lineF_at q2, g.str]) sm2 (by rw [da.len]; omega)
      · walk_at "r"
        have e : ds.filterMap (lineF H) = (rows.map lineR).map V.str := by
          rw [List.map_map]
          refine filterMap_pt da.len fun j ws e => ?_
          obtain ⟨q, q1, q2⟩ := da.at_ j ws e
          refine ⟨_, q1, ?_⟩
          rw [lineF_at q2, (gd ws (List.mem_of_getElem? e)).str]
          rfl
        rw [e] at hl2
        refine rd_joinL hl2 ?_ ?_
        · have := sum_le (k := 27) (l := (rows.map lineR).map (·.length)) fun x hx => by
            obtain ⟨z, hz, rfl⟩ := List.mem_map.mp hx
            obtain ⟨ws, hw, rfl⟩ := List.mem_map.mp hz
            exact lineR_len (gd ws hw)
          rw [List.length_map, List.length_map] at this
          have e : ("\n" : Str).length = 1 := by decide +kernel
          rw [e, List.length_map]
          omega
        · exact k H' sm
    · obtain ⟨p, ds, rows, rfl, hp, da, few, gd, k⟩ := h
      refine ⟨_, (pss_one (ps_ret (pe_m1 PySem.F.slot_str_join PySem.F.type_str_join mt_joinN pe_str (pe_lc (own := [("deed", 2)]) rfl sc_story_text.nd (pi_tup (pv 0)) (blkOk_by (own := [("deed", 2)]) (N := ["deeds", "part", "deed"]) (sc := defScope s_story_text) (by decide +kernel)) (fun _ _ _ _ _ => (pg_name (i := 2) sc_story_text.nd rfl (by first | exact Or.inl rfl | exact Or.inr rfl))) (fun _ _ _ _ _ => pts_nil) (fun _ _ _ _ _ => (pe_m1 PySem.F.slot_str_join PySem.F.type_str_join (mtK rJoin (K := K) rfl mt_joinN) pe_str (pe_lc (own := [("part", 1)]) rfl sc_story_text.nd (pi_tupK (K := K) rfl (pi_tup (pv 2))) (blkOk_by (own := [("part", 1)]) (N := ["deeds", "part", "deed"]) (by kernel_rfl)) (fun _ _ _ _ _ => (pg_name (i := 1) sc_story_text.nd rfl (by first | exact Or.inl rfl | exact Or.inr rfl))) (fun _ _ _ _ _ => pts_nil) (fun _ _ _ _ _ => (pe_callTy cr_strV (by rfl) T.b_str (by decide +kernel) (pa_cons (pv 1) pa_nil)))))))))), ?_⟩
      walk_at "r"
      have hp' : H p = some (.tup ds) := hp
      refine ⟨⟨_, sqT_of hp'⟩, ?_⟩
      refine EE.lcat_tup (xs := ds) (lineF H) (by rw [da.len]; omega) hp' (fun D i x H' hD hx I => ?_) (fun D H' hD sm hl2 => ?_)
      · obtain ⟨ws, hws⟩ : ∃ ws, rows[i]? = some ws := ⟨_, List.getElem?_eq_getElem (by rw [← da.len]; exact (List.getElem?_eq_some_iff.mp hx).1)⟩
        obtain ⟨q, q1, q2⟩ := da.at_ i ws hws
        cases hx.symm.trans q1
        have g := gd ws (List.mem_of_getElem? hws)
        walk_at "r"
        refine ⟨rfl, ?_⟩
        walk_at "r"
        refine ⟨⟨_, sqT_of (I.same _ _ q2)⟩, ?_⟩
        refine EE.lcat_tup (xs := deedL ws) (fun v => some (.str (strV v))) (by rw [deed_len g]; have := g.few; omega) (I.same _ _ q2) (fun D2 i2 v H2 hD2 hv I2 => ?_) (fun D2 H2 hD2 sm2 hl3 => ?_)
        · walk_at "r"
          refine ⟨rfl, ?_⟩
          walk_at "r"
          refine ⟨v, rfl, ?_, ?_⟩
          · rcases g.flat v (List.mem_of_getElem? hv) with z | ⟨n, z, z0, z1⟩
            · exact .inl z
            · exact .inr ⟨n, z, log_small z0 z1⟩
          · exact I2.some hD2 hv rfl (Same.refl _) (by rw [deed_len g]; have := g.few; omega)
        · rw [filterMap_some (fun v => V.str (strV v))] at hl3
          have e3 : (deedL ws).map (fun v => V.str (strV v)) = ws.map V.str := by
            conv => rhs; rw [← g.str]
            rw [List.map_map]
            rfl
          rw [e3] at hl3
          refine rd_joinL hl3 ?_ ?_
          · have := line_len g
            have e : (" " : Str).length = 1 := by decide +kernel
            rw [e]
            omega
          · refine I.some hD q1 (by rw [lineF_at q2, g.str]) sm2 (by rw [da.len]; omega)
      · walk_at "r"
        have e : ds.filterMap (lineF H) = (rows.map lineR).map V.str := by
          rw [List.map_map]
          refine filterMap_pt da.len fun j ws e => ?_
          obtain ⟨q, q1, q2⟩ := da.at_ j ws e
          refine ⟨_, q1, ?_⟩
          rw [lineF_at q2, (gd ws (List.mem_of_getElem? e)).str]
          rfl
        rw [e] at hl2
        refine rd_joinL hl2 ?_ ?_
        · have := sum_le (k := 27) (l := (rows.map lineR).map (·.length)) fun x hx => by
            obtain ⟨z, hz, rfl⟩ := List.mem_map.mp hx
            obtain ⟨ws, hw, rfl⟩ := List.mem_map.mp hz
            exact lineR_len (gd ws hw)
          rw [List.length_map, List.length_map] at this
          have e : ("\n" : Str).length = 1 := by decide +kernel
          rw [e, List.length_map]
          omega
        · exact k H' sm
end

end My

namespace My
open PySem PySem.Spec PyProof.Rows L2 EE

local macro_rules | `(tactic| walk_at "sq") => `(tactic| first | assumption | exact sqL_of (by assumption) | exact sqT_of (by assumption))
local macro_rules | `(tactic| walk_at "same") => `(tactic| first
  | assumption
  | exact Same.refl _
  | (refine Same.trans ?_ (by assumption); walk_at "same")
  | (refine same_past ?_ (by assumption) ?_; (walk_at "same"); (walk_at "no")))
local macro_rules | `(tactic| walk_at "no") => `(tactic| first
  | assumption
  | (refine none_same ?_ (by assumption); walk_at "same")
  | (refine none_same (by assumption) ?_; walk_at "no")
  | (refine none_but (by assumption) ?_ ?_; (walk_at "n"); (walk_at "no")))
local macro_rules | `(tactic| walk_at "but") => `(tactic| first
  | assumption
  | exact But.refl _ _
  | (refine But.then ?_ (by assumption); walk_at "but")
  | (refine But.trans ?_ (by assumption); walk_at "but")
  | (refine but_past ?_ (by assumption) ?_; (walk_at "but"); (walk_at "no")))
local macro_rules | `(tactic| walk_at "hasp") => `(tactic| (repeat (first | exact ⟨_, _, by assumption⟩ | (refine hasPen_same (by assumption) ?_))))
local macro_rules | `(tactic| walk_at "hasc") => `(tactic| (repeat (first | exact ⟨_, _, by assumption⟩ | (refine hasCells_same (by assumption) ?_))))
local macro_rules | `(tactic| walk_at "pen") => `(tactic| (repeat (first | assumption | (refine PenAt.keep ?_ (by assumption)))))
local macro_rules | `(tactic| walk_at "has") => `(tactic| first
  | exact ⟨_, by assumption⟩
  | (refine has_same (by assumption) ?_; walk_at "has")
  | (refine has_but (by assumption) ?_ ?_; (walk_at "n"); (walk_at "has")))
local macro_rules | `(tactic| walk_at "n") => `(tactic| first
  | assumption
  | exact Ne.symm (by assumption)
  | (refine ne_free (by assumption) ?_; walk_at "has")
  | (refine ne_free' (by assumption) ?_; walk_at "has")
  | (refine pen_off (by assumption) ?_; walk_at "hasp"; done)
  | (refine Ne.symm (pen_off (by assumption) ?_); walk_at "hasp"; done)
  | (refine pen_off' (by assumption) ?_; walk_at "hasc"; done)
  | (refine Ne.symm (pen_off' (by assumption) ?_); walk_at "hasc"; done))
local macro_rules | `(tactic| walk_at "hh") => `(tactic| first
  | assumption
  | (refine get_same (by assumption) ?_; walk_at "hh")
  | (refine get_but (by assumption) (by walk_at "n") ?_; walk_at "hh"))
local macro_rules | `(tactic| walk_at "h") => `(tactic| first
  | ((repeat (first | assumption | (refine get_same (by assumption) ?_) | (refine get_but (by assumption) (by walk_at "n") ?_))); done)
  | walk_at "hh")
local macro_rules | `(tactic| walk_at "r") => `(tactic| repeat (first
  | (refine go ?_)
  | (with_reducible refine rd_mul ?_ ?_)
  | (with_reducible refine rd_mod ?_ ?_)
  | (with_reducible refine rd_fdiv ?_ ?_)
  | (with_reducible refine rd_pow ?_ ?_)
  | (with_reducible refine rd_strI ?_ ?_)
  | (with_reducible refine rd_addS ?_ ?_)
  | (with_reducible refine rd_lenS ?_ ?_)
  | (with_reducible refine rd_slS ?_ ?_)))
local macro_rules | `(tactic| walk_at "R") => `(tactic| repeat (first
  | (refine go ?_)
  | (with_reducible refine new_lstS fun _ _ _ _ _ => ?_)
  | (with_reducible refine new_lst (Nat.le_of_ble_eq_true rfl) fun _ _ _ _ _ => ?_)
  | (with_reducible refine new_tup (Nat.le_of_ble_eq_true rfl) fun _ _ _ _ _ => ?_)
  | ((with_reducible refine len_go ?_); first | (refine Or.inl ⟨_, sqL_of (by walk_at "h"), ?_⟩) | (refine Or.inr ⟨_, sqT_of (by walk_at "h"), ?_⟩))
  | ((with_reducible refine slT_go ?_); refine ⟨_, sqL_of (by walk_at "h"), fun _ _ _ _ _ => ?_⟩)
  | ((with_reducible refine slD_go ?_); refine ⟨_, sqL_of (by walk_at "h"), fun _ _ _ _ _ => ?_⟩)
  | ((with_reducible refine slD1_go ?_); refine ⟨_, sqL_of (by walk_at "h"), fun _ _ _ _ _ => ?_⟩)
  | ((with_reducible refine sl_go ?_); refine ⟨_, sqL_of (by walk_at "h"), fun _ _ _ _ _ => ?_⟩)
  | ((with_reducible refine cat_go ?_); refine catS_go (by walk_at "h") (by walk_at "h") ?_ fun _ _ _ _ _ => ?_; rotate_left)
  | ((with_reducible refine cat_go ?_); refine catV_go (by walk_at "h") (by walk_at "h") (Nat.le_of_ble_eq_true rfl) fun _ _ _ _ _ => ?_)
  | ((with_reducible refine cat_go ?_); refine catV_go (by walk_at "h") (by walk_at "h") ?_ fun _ _ _ _ _ => ?_; rotate_left)
  | ((with_reducible refine ixL_go ?_); refine ⟨_, sqL_of (by walk_at "h"), ?_⟩; refine ⟨_, atI_lit, ?_⟩)
  | (with_reducible refine rd_mul ?_ ?_; rotate_left)
  | (with_reducible refine rd_mod ?_ ?_; rotate_left)
  | (with_reducible refine rd_fdiv ?_ ?_; rotate_left)
  | (with_reducible refine rd_pow ?_ ?_; rotate_left)
  | (with_reducible refine rd_strI ?_ ?_; rotate_left)
  | (with_reducible refine rd_addS ?_ ?_; rotate_left)
  | (with_reducible refine rd_lenS ?_ ?_; rotate_left)
  | (with_reducible refine rd_slS ?_ ?_; rotate_left)))

section
variable {P : Program} {w : World} {K : PySem.W.Frag} {mg : Str → Option Value} {base : Heap}
theorem ok__law_draw {f : Addr} {fd : FuncData} (F : Fun K "_law_draw" "_law_draw" s__law_draw f fd) (T : Tx K mg) : FnOk P w K mg base CX0 1 f fd ["_law_pen_here", "_law_many"] spDraw := by
  refine F.ok sc__law_draw (fun vs H Q E h => ?_) (fun cdv A outer s H vs Q E hr h => ?_)
  · obtain ⟨p, q, many, n, rfl, _⟩ := h
    rfl
  · obtain ⟨p, q, many, n, rfl, h0, h1, hn, hp, k⟩ := h
    have hu := hu_of hr
    refine ⟨_, (pss_cons (ps_if (pt_cmpR op_gt (pe_ix (ix_listK (K := K) rfl) (pv 0) pe_int (fun _ _ => rfl)) pe_int (nomark _)) (pss_cons (ps_set (i := 2) sc__law_draw.nd rfl (by first | exact Or.inl rfl | exact Or.inr rfl) (pe_op op_mod (pe_callTy cr_int1 (by rfl) T.b_int (by decide +kernel) (pa_cons (pe_ix (ix_listK (K := K) rfl) (pv 0) pe_int (fun _ _ => rfl)) pa_nil)) (pv 1)))
      (pss_cons (ps_asg (pe_op op_fdiv (pe_callTy cr_int1 (by rfl) T.b_int (by decide +kernel) (pa_cons (pe_ix (ix_listK (K := K) rfl) (pv 0) pe_int (fun _ _ => rfl)) pa_nil)) (pv 1)) (pg_sub (pv 0) pe_int set_list))
      (pss_one (ps_ret (pv 2))))) pss_nil)
      (pss_cons (ps_set (i := 3) sc__law_draw.nd rfl (by first | exact Or.inl rfl | exact Or.inr rfl) (pe_ix (ix_listK (K := K) rfl) (pv 0) pe_int (fun _ _ => rfl)))
      (pss_cons (ps_asg (pe_op op_add (pv 3) pe_int) (pg_sub (pv 0) pe_int set_list))
      (pss_cons (ps_set (i := 4) sc__law_draw.nd rfl (by first | exact Or.inl rfl | exact Or.inr rfl) (pe_op op_add (pe_op op_mul pe_int (pv 3)) pe_int))
      (Evl.pss_cut (ps_if (pt_cmpR (op_neD hr.units) (pe_ix (ix_listK (K := K) rfl) (pv 0) pe_int (fun _ _ => rfl)) (pe_lst pa_nil) (nomark _)) (pss_one (ps_set (i := 4) sc__law_draw.nd rfl (by first | exact Or.inl rfl | exact Or.inr rfl) (pe_ix (ix_listK (K := K) rfl) (pe_ix (ix_listK (K := K) rfl) (pv 0) pe_int (fun _ _ => rfl)) (pe_op op_mod (pe_callTy cr_int1 (by rfl) T.b_int (by decide +kernel) (pa_cons (pv 3) pa_nil)) (pe_callB cr_lenQ (by rfl) T.b_len (by decide +kernel) (pa_cons (pe_ix (ix_listK (K := K) rfl) (pv 0) pe_int (fun _ _ => rfl)) pa_nil))) (fun _ _ => rfl)))) pss_nil)
      (Evl.pss_cut (ps_if (PW.pt (pw_and (pt_cmpR op_lt (pv 3) (pe_callB cr_lenQ (by rfl) T.b_len (by decide +kernel) (pa_cons (pe_ix (ix_listK (K := K) rfl) (pv 0) pe_int (fun _ _ => rfl)) pa_nil)) (nomark _)) (pw_and1 (pt_cmpR op_ge (pe_callB cr_abs (by rfl) T.b_abs (by decide +kernel) (pa_cons (pv 4) pa_nil)) (pe_op op_pow pe_int pe_int) (nomark _))))) (pss_cons (ps_set (i := 5) sc__law_draw.nd rfl (by first | exact Or.inl rfl | exact Or.inr rfl) (pe_op op_add (pe_op op_mul pe_int (pe_op op_sub (pe_callB cr_abs (by rfl) T.b_abs (by decide +kernel) (pa_cons (pv 4) pa_nil)) (pe_op op_pow pe_int pe_int))) (pe_callTy cr_int1 (by rfl) T.b_int (by decide +kernel) (pa_cons (pe_cmpR op_lt (pv 4) pe_int (nomark _)) pa_nil))))
      (pss_cons (ps_asg (pe_op op_fdiv (pe_callTy cr_int1 (by rfl) T.b_int (by decide +kernel) (pa_cons (pv 5) pa_nil)) (pv 1)) (pg_sub (pv 0) pe_int set_list))
      (pss_one (ps_ret (pe_op op_mod (pe_callTy cr_int1 (by rfl) T.b_int (by decide +kernel) (pa_cons (pv 5) pa_nil)) (pv 1)))))) pss_nil)
      (pss_cons (ps_set (i := 6) sc__law_draw.nd rfl (by first | exact Or.inl rfl | exact Or.inr rfl) (pe_op op_mod (pe_callTy cr_int1 (by rfl) T.b_int (by decide +kernel) (pa_cons (pe_op op_pow (pe_op op_add (pe_op op_add (pe_op op_mod (pe_callTy cr_int1 (by rfl) T.b_int (by decide +kernel) (pa_cons (pv 4) pa_nil)) pe_int) (pe_op op_mul pe_int (pv 3))) pe_int) pe_int) pa_nil)) pe_int))
      (pss_cons (ps_set (i := 6) sc__law_draw.nd rfl (by first | exact Or.inl rfl | exact Or.inr rfl) (pe_op op_mod (pe_callTy cr_int1 (by rfl) T.b_int (by decide +kernel) (pa_cons (pe_op op_pow (pe_op op_add (pe_op op_add (pe_op op_mul (pv 6) (pe_op op_add (pe_op op_mul pe_int (pv 3)) pe_int)) (pe_op op_mul (pe_op op_mul pe_int (pv 3)) (pv 3))) pe_int) pe_int) pa_nil)) pe_int))
      (pss_one (ps_ret (pe_op op_mod (pe_callTy cr_int1 (by rfl) T.b_int (by decide +kernel) (pa_cons (pe_op op_fdiv (pv 6) pe_int) pa_nil)) (pv 1)))))))))))), ?_⟩
    obtain ⟨ns, a, r, hp, hq, ha0, han, hl⟩ := hp
    have nqp : q ≠ p := ne_of hq hp (by intro z; injection z with z; cases ns with
      | nil => cases z
      | cons m ms => cases z)
    walk_at "r"
    refine rd_ixL (sqL_of hp) rfl ?_
    walk_at "r"
    refine rd_dec (fun c => ?_) (fun c => ?_)
    · walk_at "r"
      refine rd_ixL (sqL_of hp) rfl ?_
      walk_at "r"
      · refine rd_ixL (sqL_of hp) rfl ?_
        walk_at "r"
        · refine sto_lst hp rfl (fun H1 e1 p1 => ?_)
          walk_at "r"
          exact k _ _ (modLo h0) (modHi h0) e1 ⟨ns, a, _, p1, e1 _ _ nqp hq, ha0, by omega, hl⟩
        · exact ⟨h0, h1⟩
      · exact h0
    · walk_at "r"
      refine rd_ixL (sqL_of hp) rfl ?_
      walk_at "r"
      refine sto_lst hp rfl (fun H1 e1 p1 => ?_)
      have q1 := e1 _ _ nqp hq
      walk_at "r"
      · refine ⟨fun σ' H' => ∃ cell : Int, σ' = [some (.ref p), some (.int many), none, some (.int a), some (.int cell), none, none] ∧ H' p = some (.lst [.ref q, .int (a + 1), .int r]) ∧ H' q = some (.lst (ns.map V.int)) ∧ But p H H', ?_, ?_⟩
        · walk_at "r"
          refine rd_ixL (sqL_of p1) rfl ?_
          walk_at "r"
          refine new_lst (by decide) fun o H2 ho e2 o2 => ?_
          have p2 := e2 _ _ p1
          have q2 := e2 _ _ q1
          have e12 := e1.then e2
          refine rd_neNil (sqL_of q2) o2 ?_
          walk_at "r"
          refine rd_dec (fun hne => ?_) (fun c2 => ?_)
          · have hpos : 0 < (ns.map V.int).length := by rw [List.length_map]; exact List.length_pos_iff.mpr hne
            walk_at "r"
            refine rd_ixL (sqL_of p2) rfl ?_
            walk_at "r"
            refine rd_ixL (sqL_of p2) rfl ?_
            walk_at "r"
            refine rd_len (sqL_of q2) ?_
            walk_at "r"
            · obtain ⟨j, hj, _, hat⟩ := atI_lt (xs := ns.map V.int) (i := a % ((ns.map V.int).length : Nat)) (modLo (by omega)) (modHi (by omega))
              rw [List.getElem_map] at hat
              refine rd_ixL (sqL_of q2) hat ?_
              walk_at "r"
              exact ⟨_, rfl, p2, q2, e12⟩
            · omega
          · walk_at "r"
            exact ⟨_, rfl, p2, q2, e12⟩
        · rintro σ' H2 ⟨cell, rfl, p2, q2, e2⟩
          walk_at "r"
          refine ⟨fun σ' H' => σ' = [some (.ref p), some (.int many), none, some (.int a), some (.int cell), none, none] ∧ H' = H2, ?_, ?_⟩
          · walk_at "r"
            refine rd_ixL (sqL_of p2) rfl ?_
            walk_at "r"
            refine rd_len (sqL_of q2) ?_
            walk_at "r"
            refine rd_dec (fun c3 => ?_) (fun c3 => ⟨rfl, rfl⟩)
            walk_at "r"
            · refine rd_dec (fun c4 => ?_) (fun c4 => ⟨rfl, rfl⟩)
              walk_at "r"
              · refine sto_lst p2 rfl (fun H3 e3 p3 => ?_)
                walk_at "r"
                · exact k _ _ (modLo h0) (modHi h0) (e2.trans e3) ⟨ns, a + 1, _, p3, e3 _ _ nqp q2, by omega, by omega, hl⟩
                · exact h0
              all_goals first
                | exact ⟨h0, h1⟩
                | exact .inl (by decide)
                | exact ⟨by decide, by decide, by decide⟩
            · exact ⟨by decide, by decide, by decide⟩
          · rintro σ' H' ⟨rfl, rfl⟩
            have hb0 : 0 ≤ cell % 2147483549 := modLo (by decide)
            have hb1 : cell % 2147483549 < 2147483549 := modHi (by decide)
            walk_at "r"
            · exact k _ _ (modLo h0) (modHi h0) e2 ⟨ns, a + 1, r, p2, q2, by omega, by omega, hl⟩
            all_goals first
              | exact h0
              | decide
              | exact ⟨by decide, by decide⟩
              | exact .inl (by omega)
              | exact mixMul ha0 (by omega) (by decide) (by decide)
              | exact mixL (by decide) (by decide)
              | exact ⟨by decide, by decide, by omega⟩
              | exact mixOk (modLo (by decide)) (Int.lt_trans (modHi (by decide)) (by decide)) ha0 (by omega) (by decide) (by decide) (by decide) (by decide) (by decide) (by decide)
      · exact .inl (by decide)
theorem ok__law_pen {f : Addr} {fd : FuncData} (F : Fun K "_law_pen" "_law_pen" s__law_pen f fd) (T : Tx K mg) : FnOk P w K mg base CX0 1 f fd ["_law_script"] (spPen K) := by
  refine F.ok sc__law_pen (fun vs H Q E h => ?_) (fun cdv A outer s H vs Q E hr h => ?_)
  · obtain ⟨a, ns, rfl, _⟩ := h
    rfl
  · obtain ⟨a, ns, rfl, hs, hl, k⟩ := h
    refine ⟨_, (pss_one (ps_ret (pe_lst (pa_cons (pe_callTy cr_listOf (by rfl) T.b_list (by decide +kernel) (pa_cons (pe_slice sl_list (pv 0) po_none (po_some pe_int)) pa_nil)) (pa_cons pe_int (pa_cons pe_int pa_nil)))))), ?_⟩
    walk_at "r"
    refine rd_slL hs fun p1 H1 n1 s1 h1 => ?_
    walk_at "r"
    rw [cutV_ints] at h1
    refine rd_listOf (sqL_of h1) fun p2 H2 n2 s2 h2 => ?_
    walk_at "r"
    refine new_lst (by show 3 ≤ sizeLine; decide) fun p3 H3 n3 s3 h3 => ?_
    refine k p3 p2 H3 (Same.free (s1.trans s2) n3) ((s1.trans s2).trans s3) ⟨_, 0, 0, h3, s3 _ _ h2, Int.le_refl _, Int.le_refl _, ?_⟩
    exact Nat.le_trans (len_cutI _ _ _) hl
def spPickS : Sp := fun vs H Q _ => ∃ (p q : Addr) (z : Str) (n : Nat), vs = [.ref p, .str z] ∧ 0 < z.length ∧ z.length ≤ 1000 ∧ n ≤ 1000000 ∧ PenAt n H p q ∧ ∀ c H', c ∈ z.cps.toList → But p H H' → PenAt (n + 1) H' p q → Q (.str ⟨#[c]⟩) H'
def spPickB : Sp := fun vs H Q E => spPickL vs H Q E ∨ spPickS vs H Q E
theorem atI_str {xs : List Nat} {i : Int} (h0 : 0 ≤ i) (h : i < (xs.length : Nat)) : ∃ c, atI xs i = some c ∧ c ∈ xs := by
  obtain ⟨k, rfl⟩ := Int.eq_ofNat_of_zero_le h0
  have hk : k < xs.length := by omega
  refine ⟨xs[k], ?_, List.getElem_mem hk⟩
  unfold atI ixN
  rw [if_pos h0, if_pos h]
  exact List.getElem?_eq_getElem hk
theorem ok__law_pick {f fD : Addr} {fd fdD : FuncData} (F : Fun K "_law_pick" "_law_pick" s__law_pick f fd) (T : Tx K mg) (C__law_draw : Cal P w K mg base 1 "_law_draw" s__law_draw ["_law_pen_here", "_law_many"] spDraw fD fdD) : FnOk P w K mg base CX0 2 f fd ["_law_pen_here", "_law_some"] spPickB := by
  refine F.ok sc__law_pick (fun vs H Q E h => ?_) (fun cdv A outer s H vs Q E hr h => ?_)
  · rcases h with h | h
    · obtain ⟨p, q, l, xs, n, rfl, _⟩ := h
      rfl
    · obtain ⟨p, q, z, n, rfl, _⟩ := h
      rfl
  · rcases h with h | h
    · obtain ⟨p, q, l, xs, n, rfl, hx, hlp, h0, h1, hn, hp, k⟩ := h
      refine ⟨_, (pss_one (ps_ret (pe_ix (ix_listK (K := K) rfl) (pv 1) (pe_call C__law_draw.G (hr.mono (by decide)) (by rfl) C__law_draw.g C__law_draw.F.kp C__law_draw.b .nil pass0 (pa_cons (pv 0) (pa_cons (pe_callB cr_lenQ (by rfl) T.b_len (by decide +kernel) (pa_cons (pv 1) pa_nil)) pa_nil))) (fun _ _ => rfl)))), ?_⟩
      walk_at "r"
      refine rd_len (sqL_of hx) ?_
      walk_at "r"
      refine ⟨p, q, _, n, rfl, by omega, by omega, hn, hp, fun d H' d0 d1 sm hp' => ?_⟩
      obtain ⟨j, hj, _, hat⟩ := atI_lt (xs := xs) (i := d) d0 d1
      refine rd_ixL (sqL_of (sm _ _ hlp hx)) hat ?_
      exact k _ _ (List.getElem_mem hj) sm hp'
    · obtain ⟨p, q, z, n, rfl, h0, h1, hn, hp, k⟩ := h
      refine ⟨_, (pss_one (ps_ret (pe_ix ix_str (pv 1) (pe_call C__law_draw.G (hr.mono (by decide)) (by rfl) C__law_draw.g C__law_draw.F.kp C__law_draw.b .nil pass0 (pa_cons (pv 0) (pa_cons (pe_callB cr_lenS (by rfl) T.b_len (by decide +kernel) (pa_cons (pv 1) pa_nil)) pa_nil))) (fun _ _ => rfl)))), ?_⟩
      have el : z.cps.toList.length = z.length := Array.length_toList
      walk_at "r"
      · refine ⟨p, q, _, n, rfl, by omega, by omega, hn, hp, fun d H' d0 d1 sm hp' => ?_⟩
        obtain ⟨c, hc, cm⟩ := atI_str (xs := z.cps.toList) d0 (by rw [el]; exact d1)
        refine rd_ixS hc ?_ (small_sz h1)
        exact k _ _ cm sm hp'
      · exact small_sz h1
/-- a drawn word: a name -/
structure WordR (z : Str) : Prop where
  name : nameS z = true
  short : z.length ≤ 8
  asc : Asc z
  free : 32 ∉ z.cps.toList ∧ 10 ∉ z.cps.toList
theorem lets_range {c : Nat} (h : c ∈ lets.cps.toList) : 97 ≤ c ∧ c ≤ 122 := by
  have e : ∀ c ∈ lets.cps.toList, 97 ≤ c ∧ c ≤ 122 := by decide +kernel
  exact e c h
theorem wordR_of {z : Str} (h1 : 1 ≤ z.length) (h2 : z.length ≤ 8) (h3 : z.length ≠ 4) (h : ∀ c ∈ z.cps.toList, c ∈ lets.cps.toList) : WordR z := by
  refine ⟨?_, h2, fun c hc => ?_, fun q => ?_, fun q => ?_⟩
  · unfold nameS
    rw [decide_eq_true ⟨h1, h2, fun e => h3 (by rw [e]; decide +kernel)⟩, Bool.true_and]
    exact List.all_eq_true.mpr fun c hc => decide_eq_true (h c hc)
  · have := lets_range (h c hc); omega
  · have := lets_range (h _ q); omega
  · have := lets_range (h _ q); omega
theorem joinL_nil : ∀ ys : List (List Nat), TL.joinL [] ys = ys.flatten
  | [] => rfl
  | [y] => by simp [TL.joinL]
  | y :: y2 :: r => by
    show y ++ ([] ++ TL.joinL [] (y2 :: r)) = _
    rw [joinL_nil (y2 :: r)]
    rfl
theorem join_ones {zs : List Str} (h : ∀ z ∈ zs, ∃ c, z = ⟨#[c]⟩ ∧ c ∈ lets.cps.toList) : (Str.join (Str.ofString "") zs).length = zs.length ∧ ∀ c ∈ (Str.join (Str.ofString "") zs).cps.toList, c ∈ lets.cps.toList := by
  have e : (Str.join (Str.ofString "") zs).cps.toList = (zs.map TL.tl).flatten := (TL.tl_join _ zs).trans (joinL_nil _)
  constructor
  · have e1 : (Str.join (Str.ofString "") zs).cps.toList.length = (Str.join (Str.ofString "") zs).length := Array.length_toList
    rw [← e1, e]
    clear e e1
    induction zs with
    | nil => rfl
    | cons z zs ih =>
      obtain ⟨c, rfl, _⟩ := h z List.mem_cons_self
      rw [List.map_cons, List.flatten_cons, List.length_append, ih fun z hz => h z (List.mem_cons_of_mem _ hz)]
      show 1 + zs.length = zs.length + 1
      omega
  · intro c hc
    rw [e] at hc
    obtain ⟨l, hl, hcl⟩ := List.mem_flatten.mp hc
    obtain ⟨z, hz, rfl⟩ := List.mem_map.mp hl
    obtain ⟨c', rfl, hm⟩ := h z hz
    cases List.mem_singleton.mp (show c ∈ [c'] from hcl)
    exact hm
def spWord : Sp := fun vs H Q _ => ∃ (p q : Addr) (n : Nat), vs = [.ref p] ∧ n ≤ 900000 ∧ PenAt n H p q ∧ ∀ (z : Str) H', WordR z → But p H H' → PenAt (n + 9) H' p q → Q (.str z) H'
theorem ok__law_word {f fD fP : Addr} {fd fdD fdP : FuncData} (F : Fun K "_law_word" "_law_word" s__law_word f fd) (T : Tx K mg) (C__law_draw : Cal P w K mg base 1 "_law_draw" s__law_draw ["_law_pen_here", "_law_many"] spDraw fD fdD)
    (C__law_pick : Cal P w K mg base 2 "_law_pick" s__law_pick ["_law_pen_here", "_law_some"] spPickB fP fdP) : FnOk P w K mg base CX0 3 f fd ["_law_pen_here"] spWord := by
  refine F.ok sc__law_word (fun vs H Q E h => ?_) (fun cdv A outer s H vs Q E hr h => ?_)
  · obtain ⟨p, q, n, rfl, _⟩ := h
    rfl
  · obtain ⟨p, q, n, rfl, hn, hp, k⟩ := h
    refine ⟨_, (pss_cons (ps_set (i := 1) sc__law_word.nd rfl (by first | exact Or.inl rfl | exact Or.inr rfl) (pe_ix (ix_listK (K := K) rfl) (pe_lst (pa_cons pe_int (pa_cons pe_int (pa_cons pe_int (pa_cons pe_int (pa_cons pe_int pa_nil)))))) (pe_call C__law_draw.G (hr.mono (by decide)) (by rfl) C__law_draw.g C__law_draw.F.kp C__law_draw.b .nil pass0 (pa_cons (pv 0) (pa_cons pe_int pa_nil))) (fun _ _ => rfl)))
      (pss_one (ps_ret (pe_m1 PySem.F.slot_str_join PySem.F.type_str_join mt_joinN pe_str (pe_lc (own := [("_law_k", 2)]) rfl sc__law_word.nd (pi_range1 (by rfl) T.b_range (pa_cons (pv 1) pa_nil)) (blkOk_by (own := [("_law_k", 2)]) (N := ["_law_pen_here", "_law_many", "_law_k"]) (sc := defScope s__law_word) (by decide +kernel)) (fun _ _ _ _ _ => (pg_name (i := 2) sc__law_word.nd rfl (by first | exact Or.inl rfl | exact Or.inr rfl))) (fun _ _ _ _ _ => pts_nil) (fun _ _ _ _ _ => (pe_call C__law_pick.G (hr.mono (by decide)) (by rfl) C__law_pick.g C__law_pick.F.kp C__law_pick.b .nil pass0 (pa_cons (pv 0) (pa_cons pe_str pa_nil))))))))), ?_⟩
    walk_at "r"
    refine new_lst (by show 5 ≤ sizeLine; decide) fun l H2 n2 s2 h2 => ?_
    have hp2 := hp.keep s2
    have lp := (hp.off n2).1
    walk_at "r"
    refine ⟨p, q, _, n, rfl, by decide, by decide, by omega, hp2, fun d2 H3 d20 d21 s3 hp3 => ?_⟩
    have s13 := (s2.but p).trans s3
    obtain ⟨j, hj, _, hat⟩ := atI_lt (xs := [V.int 1, .int 1, .int 2, .int 3, .int 8]) (i := d2) d20 d21
    refine rd_ixL (sqL_of (s3 _ _ lp h2)) hat ?_
    obtain ⟨m, em, m0, m9, m4⟩ : ∃ m : Int, [V.int 1, .int 1, .int 2, .int 3, .int 8][j] = .int m ∧ 1 ≤ m ∧ m ≤ 8 ∧ m ≠ 4 := by
      have hm := List.getElem_mem hj
      simp only [List.mem_cons, List.not_mem_nil, or_false] at hm
      rcases hm with e | e | e | e | e <;> exact ⟨_, e, by omega, by omega, by omega⟩
    rw [em]
    walk_at "r"
    refine ⟨by omega, by omega, ?_⟩
    refine ent_range (fun D i H' => ∃ zs : List Str, H' D = some (.lst (zs.map V.str)) ∧ zs.length = i ∧ (∀ z ∈ zs, ∃ c, z = ⟨#[c]⟩ ∧ c ∈ lets.cps.toList) ∧ But p H3 H' ∧ PenAt (n + 1 + i) H' p q) (fun D hD => ?_) (fun D i H' hD hi I => ?_) (fun D H' hD I => ?_)
    · exact ⟨[], upd_same, rfl, (fun z hz => nomatch hz), (same_new hD).but p, hp3.keep (same_new hD)⟩
    · obtain ⟨zs, h1, h2, h3, h4, h5⟩ := I
      have Dp := hp3.off hD
      walk_at "r"
      refine ⟨rfl, ?_⟩
      walk_at "r"
      refine .inr ⟨p, q, _, n + 1 + i, rfl, by decide, by decide, by omega, h5, fun c H5 hc s5 hp5 => ?_⟩
      refine ⟨_, s5 _ _ Dp.1 h1, small1000 (by rw [List.length_map]; omega), zs ++ [⟨#[c]⟩], ?_, ?_, ?_, ?_, ?_⟩
      · rw [upd_same, List.map_append]; rfl
      · rw [List.length_append, h2]; rfl
      · intro z hz
        rcases List.mem_append.mp hz with hz | hz
        · exact h3 z hz
        · rw [List.mem_singleton] at hz
          exact ⟨c, hz, hc⟩
      · exact (h4.trans s5).grow hD
      · exact hp5.upd Dp
    · obtain ⟨zs, h1, h2, h3, h4, h5⟩ := I
      obtain ⟨j1, j2⟩ := join_ones h3
      have e0 : (Str.ofString "").length = 0 := rfl
      have hs : (zs.map (·.length)).sum ≤ zs.length * 1 := by
        have := sum_le (k := 1) (l := zs.map (·.length)) fun x hx => by
          obtain ⟨z, hz, rfl⟩ := List.mem_map.mp hx
          obtain ⟨c, rfl, _⟩ := h3 z hz
          exact Nat.le_refl _
        rw [List.length_map] at this
        exact this
      walk_at "r"
      refine rd_joinL h1 (by rw [e0]; omega) ?_
      exact k _ _ (wordR_of (by omega) (by omega) (by omega) j2) (s13.trans h4) (h5.mono (by omega))
end

end My

namespace My
open PySem PySem.Spec PyProof.Rows L2 EE

local macro_rules | `(tactic| walk_at "sq") => `(tactic| first | assumption | exact sqL_of (by assumption) | exact sqT_of (by assumption))
local macro_rules | `(tactic| walk_at "same") => `(tactic| first
  | assumption
  | exact Same.refl _
  | (refine Same.trans ?_ (by assumption); walk_at "same")
  | (refine same_past ?_ (by assumption) ?_; (walk_at "same"); (walk_at "no")))
local macro_rules | `(tactic| walk_at "no") => `(tactic| first
  | assumption
  | (refine none_same ?_ (by assumption); walk_at "same")
  | (refine none_same (by assumption) ?_; walk_at "no")
  | (refine none_but (by assumption) ?_ ?_; (walk_at "n"); (walk_at "no")))
local macro_rules | `(tactic| walk_at "but") => `(tactic| first
  | assumption
  | exact But.refl _ _
  | (refine But.then ?_ (by assumption); walk_at "but")
  | (refine But.trans ?_ (by assumption); walk_at "but")
  | (refine but_past ?_ (by assumption) ?_; (walk_at "but"); (walk_at "no")))
local macro_rules | `(tactic| walk_at "hasp") => `(tactic| (repeat (first | exact ⟨_, _, by assumption⟩ | (refine hasPen_same (by assumption) ?_))))
local macro_rules | `(tactic| walk_at "hasc") => `(tactic| (repeat (first | exact ⟨_, _, by assumption⟩ | (refine hasCells_same (by assumption) ?_))))
local macro_rules | `(tactic| walk_at "pen") => `(tactic| (repeat (first | assumption | (refine PenAt.keep ?_ (by assumption)))))
local macro_rules | `(tactic| walk_at "has") => `(tactic| first
  | exact ⟨_, by assumption⟩
  | (refine has_same (by assumption) ?_; walk_at "has")
  | (refine has_but (by assumption) ?_ ?_; (walk_at "n"); (walk_at "has")))
local macro_rules | `(tactic| walk_at "n") => `(tactic| first
  | assumption
  | exact Ne.symm (by assumption)
  | (refine ne_free (by assumption) ?_; walk_at "has")
  | (refine ne_free' (by assumption) ?_; walk_at "has")
  | (refine pen_off (by assumption) ?_; walk_at "hasp"; done)
  | (refine Ne.symm (pen_off (by assumption) ?_); walk_at "hasp"; done)
  | (refine pen_off' (by assumption) ?_; walk_at "hasc"; done)
  | (refine Ne.symm (pen_off' (by assumption) ?_); walk_at "hasc"; done))
local macro_rules | `(tactic| walk_at "hh") => `(tactic| first
  | assumption
  | (refine get_same (by assumption) ?_; walk_at "hh")
  | (refine get_but (by assumption) (by walk_at "n") ?_; walk_at "hh"))
local macro_rules | `(tactic| walk_at "h") => `(tactic| first
  | ((repeat (first | assumption | (refine get_same (by assumption) ?_) | (refine get_but (by assumption) (by walk_at "n") ?_))); done)
  | walk_at "hh")
local macro_rules | `(tactic| walk_at "r") => `(tactic| repeat (first
  | (refine go ?_)
  | (with_reducible refine rd_mul ?_ ?_)
  | (with_reducible refine rd_mod ?_ ?_)
  | (with_reducible refine rd_fdiv ?_ ?_)
  | (with_reducible refine rd_pow ?_ ?_)
  | (with_reducible refine rd_strI ?_ ?_)
  | (with_reducible refine rd_addS ?_ ?_)
  | (with_reducible refine rd_lenS ?_ ?_)
  | (with_reducible refine rd_slS ?_ ?_)))
local macro_rules | `(tactic| walk_at "R") => `(tactic| repeat (first
  | (refine go ?_)
  | (with_reducible refine new_lstS fun _ _ _ _ _ => ?_)
  | (with_reducible refine new_lst (Nat.le_of_ble_eq_true rfl) fun _ _ _ _ _ => ?_)
  | (with_reducible refine new_tup (Nat.le_of_ble_eq_true rfl) fun _ _ _ _ _ => ?_)
  | ((with_reducible refine len_go ?_); first | (refine Or.inl ⟨_, sqL_of (by walk_at "h"), ?_⟩) | (refine Or.inr ⟨_, sqT_of (by walk_at "h"), ?_⟩))
  | ((with_reducible refine slT_go ?_); refine ⟨_, sqL_of (by walk_at "h"), fun _ _ _ _ _ => ?_⟩)
  | ((with_reducible refine slD_go ?_); refine ⟨_, sqL_of (by walk_at "h"), fun _ _ _ _ _ => ?_⟩)
  | ((with_reducible refine slD1_go ?_); refine ⟨_, sqL_of (by walk_at "h"), fun _ _ _ _ _ => ?_⟩)
  | ((with_reducible refine sl_go ?_); refine ⟨_, sqL_of (by walk_at "h"), fun _ _ _ _ _ => ?_⟩)
  | ((with_reducible refine cat_go ?_); refine catS_go (by walk_at "h") (by walk_at "h") ?_ fun _ _ _ _ _ => ?_; rotate_left)
  | ((with_reducible refine cat_go ?_); refine catV_go (by walk_at "h") (by walk_at "h") (Nat.le_of_ble_eq_true rfl) fun _ _ _ _ _ => ?_)
  | ((with_reducible refine cat_go ?_); refine catV_go (by walk_at "h") (by walk_at "h") ?_ fun _ _ _ _ _ => ?_; rotate_left)
  | ((with_reducible refine ixL_go ?_); refine ⟨_, sqL_of (by walk_at "h"), ?_⟩; refine ⟨_, atI_lit, ?_⟩)
  | (with_reducible refine rd_mul ?_ ?_; rotate_left)
  | (with_reducible refine rd_mod ?_ ?_; rotate_left)
  | (with_reducible refine rd_fdiv ?_ ?_; rotate_left)
  | (with_reducible refine rd_pow ?_ ?_; rotate_left)
  | (with_reducible refine rd_strI ?_ ?_; rotate_left)
  | (with_reducible refine rd_addS ?_ ?_; rotate_left)
  | (with_reducible refine rd_lenS ?_ ?_; rotate_left)
  | (with_reducible refine rd_slS ?_ ?_; rotate_left)))

theorem wordR_lit {s : Str} (h : nameS s = true) (h2 : s.length ≤ 8) (h3 : Asc s) (h4 : 32 ∉ s.cps.toList ∧ 10 ∉ s.cps.toList) : WordR s := ⟨h, h2, h3, h4⟩
def spTag : Sp := fun vs H Q _ => ∃ (p q : Addr) (n : Nat), vs = [.ref p] ∧ n ≤ 800000 ∧ PenAt n H p q ∧ ∀ (z : Str) H', WordR z → But p H H' → PenAt (n + 30) H' p q → Q (.str z) H'
def spDeedL : Sp := fun vs H Q _ => ∃ (p q : Addr) (n : Nat), vs = [.ref p] ∧ n ≤ 700000 ∧ PenAt n H p q ∧ ∀ (a : Addr) (ws : List Str) H', GoodD ws → H' a = some (.tup (deedL ws)) → But p H H' → PenAt (n + 70) H' p q → Q (.ref a) H'
section
variable {P : Program} {w : World} {K : PySem.W.Frag} {mg : Str → Option Value} {base : Heap}
theorem ok__law_tag {f fW fP : Addr} {fd fdW fdP : FuncData} (F : Fun K "_law_tag" "_law_tag" s__law_tag f fd) (T : Tx K mg) (C__law_word : Cal P w K mg base 3 "_law_word" s__law_word ["_law_pen_here"] spWord fW fdW)
    (C__law_pick : Cal P w K mg base 2 "_law_pick" s__law_pick ["_law_pen_here", "_law_some"] spPickB fP fdP) : FnOk P w K mg base CX0 4 f fd ["_law_pen_here"] spTag := by
  refine F.ok sc__law_tag (fun vs H Q E h => ?_) (fun cdv A outer s H vs Q E hr h => ?_)
  · obtain ⟨p, q, n, rfl, _⟩ := h
    rfl
  · obtain ⟨p, q, n, rfl, hn, hp, k⟩ := h
    refine ⟨_, (pss_one (ps_ret (pe_call C__law_pick.G (hr.mono (by decide)) (by rfl) C__law_pick.g C__law_pick.F.kp C__law_pick.b .nil pass0 (pa_cons (pv 0) (pa_cons (pe_lst (pa_cons pe_str (pa_cons pe_str (pa_cons pe_str (pa_cons pe_str (pa_cons (pe_call C__law_word.G (hr.mono (by decide)) (by rfl) C__law_word.g C__law_word.F.kp C__law_word.b .nil pass0 (pa_cons (pv 0) pa_nil)) (pa_cons (pe_call C__law_word.G (hr.mono (by decide)) (by rfl) C__law_word.g C__law_word.F.kp C__law_word.b .nil pass0 (pa_cons (pv 0) pa_nil)) (pa_cons (pe_call C__law_word.G (hr.mono (by decide)) (by rfl) C__law_word.g C__law_word.F.kp C__law_word.b .nil pass0 (pa_cons (pv 0) pa_nil)) pa_nil)))))))) pa_nil))))), ?_⟩
    walk_at "r"
    refine ⟨p, q, n, rfl, by omega, hp, fun z1 H1 r1 s1 hp1 => ?_⟩
    walk_at "r"
    refine ⟨p, q, n + 9, rfl, by omega, hp1, fun z2 H2 r2 s2 hp2 => ?_⟩
    walk_at "r"
    refine ⟨p, q, n + 9 + 9, rfl, by omega, hp2, fun z3 H3 r3 s3 hp3 => ?_⟩
    walk_at "r"
    refine new_lst (by show 7 ≤ sizeLine; decide) fun l H4 n4 s4 h4 => ?_
    walk_at "r"
    refine .inl ⟨p, q, l, _, n + 9 + 9 + 9, rfl, h4, (hp3.off n4).1, (show 0 < 7 by decide), (show 7 ≤ 1000 by decide), by omega, hp3.keep s4, fun x H5 hx s5 hp5 => ?_⟩
    have sm := (s1.trans (s2.trans s3)).trans ((s4.but p).trans s5)
    have fin : ∀ z, WordR z → Q (.str z) H5 := fun z hz => k z H5 hz sm (hp5.mono (by omega))
    simp only [List.mem_cons, List.not_mem_nil, or_false] at hx
    rcases hx with rfl | rfl | rfl | rfl | rfl | rfl | rfl
    · exact fin _ (wordR_lit (by decide +kernel) (by decide +kernel) (by decide +kernel) (by decide +kernel))
    · exact fin _ (wordR_lit (by decide +kernel) (by decide +kernel) (by decide +kernel) (by decide +kernel))
    · exact fin _ (wordR_lit (by decide +kernel) (by decide +kernel) (by decide +kernel) (by decide +kernel))
    · exact fin _ (wordR_lit (by decide +kernel) (by decide +kernel) (by decide +kernel) (by decide +kernel))
    · exact fin _ r1
    · exact fin _ r2
    · exact fin _ r3
theorem num_head : ∀ (n : Nat), (TL.numL n).head? = some 48 → n = 0 := fun n => by
  induction n using Nat.strongRecOn with
  | ind n ih =>
    intro h
    by_cases c : n < 10
    · rw [TL.numL_lt c] at h
      have := Option.some.inj h
      omega
    · rw [TL.numL_step (by omega)] at h
      have h : (TL.numL (n / 10)).head? = some 48 := by
        cases q : TL.numL (n / 10) with
        | nil => exact absurd q (TL.numL_ne _)
        | cons a b =>
          rw [q] at h
          exact h
      have := ih (n / 10) (by omega) h
      omega
theorem num_text (n : Nat) : (Str.ofString (toString ((n : Nat) : Int))).cps.toList = TL.numL n := TL.tl_num n
theorem digL_num (n : Nat) : digL (TL.numL n) = TL.numL n := by
  unfold digL
  split
  · rename_i ds e
    have := TL.numL_digits n 45 (by rw [e]; exact List.mem_cons_self)
    omega
  · rfl
theorem itemR_num {i : Int} (h0 : 0 ≤ i) (h1 : i < 1000000) : itemR (Str.ofString (toString i)) = some i := by
  obtain ⟨n, rfl⟩ := Int.eq_ofNat_of_zero_le h0
  have hl : (TL.numL n).length ≤ 6 := TL.numL_len (by decide) (by omega)
  have hp : 1 ≤ (TL.numL n).length := by
    cases q : TL.numL n with
    | nil => exact absurd q (TL.numL_ne n)
    | cons a b => exact Nat.succ_le_succ (Nat.zero_le _)
  obtain ⟨i, e1, e2, _⟩ := numR_good (m := 6) (z := Str.ofString (toString ((n : Nat) : Int))) (by decide) (by
    rw [num_text, digL_num]
    unfold okD
    rw [decide_eq_true ⟨hp, hl⟩, Bool.true_and]
    exact List.all_eq_true.mpr fun c hc => decide_eq_true (TL.numL_digits n c hc)) (fun q => by
    rw [num_text, digL_num] at q
    rw [num_text, num_head n q]
    exact TL.numL_lt (by decide))
  have e3 := TL.int_num (n := n) (by omega)
  have e4 : i = n := Option.some.inj (e2.symm.trans e3)
  unfold itemR
  rw [e1, e4]
  exact if_pos (Int.ofNat_nonneg n)
theorem num_word {i : Int} (h0 : 0 ≤ i) (h1 : i < 1000000) : (Str.ofString (toString i)).length ≤ 8 ∧ Asc (Str.ofString (toString i)) ∧ 32 ∉ (Str.ofString (toString i)).cps.toList ∧ 10 ∉ (Str.ofString (toString i)).cps.toList := by
  obtain ⟨n, rfl⟩ := Int.eq_ofNat_of_zero_le h0
  have hl : (TL.numL n).length ≤ 6 := TL.numL_len (by decide) (by omega)
  have el : (Str.ofString (toString ((n : Nat) : Int))).cps.toList.length = (Str.ofString (toString ((n : Nat) : Int))).length := Array.length_toList
  rw [num_text] at el
  refine ⟨by omega, fun c hc => ?_, ?_, ?_⟩
  · rw [num_text] at hc
    have := TL.numL_digits n c hc
    omega
  · rw [num_text]
    exact TL.numL_free (.inl (by decide))
  · rw [num_text]
    exact TL.numL_free (.inl (by decide))
theorem good_num {i : Int} (h0 : 0 ≤ i) (h1 : i < 1000000) : GoodD [Str.ofString "close", Str.ofString (toString i)] ∧ deedL [Str.ofString "close", Str.ofString (toString i)] = [.str "close", .int i] := by
  have hk : kindsOf (Str.ofString "close") = some [false] := by decide +kernel
  have e := itemR_num h0 h1
  have ed : deedL [Str.ofString "close", Str.ofString (toString i)] = [.str "close", .int i] := by
    simp only [deedL, hk, Option.getD_some, argsL, List.zipWith_cons_cons, List.zipWith_nil_left]
    show [V.str "close", optI (itemR (Str.ofString (toString i)))] = _
    rw [e]
    rfl
  have hn := num_word h0 h1
  refine ⟨⟨List.cons_ne_nil _ _, (show 2 ≤ 3 by decide), ?_, ?_, ?_, ?_, ?_, ?_⟩, ed⟩
  · simp only [wrongL, hk]
    refine wrong_go (b := false) ?_
    show (itemR _).isSome = true
    rw [e]
    rfl
  · rw [ed]
    rfl
  · intro v hv
    rw [ed] at hv
    simp only [List.mem_cons, List.not_mem_nil, or_false] at hv
    rcases hv with rfl | rfl
    · exact .inl ⟨_, rfl⟩
    · exact .inr ⟨i, rfl, h0, h1⟩
  · intro z hz
    simp only [List.mem_cons, List.not_mem_nil, or_false] at hz
    rcases hz with rfl | rfl
    · decide +kernel
    · exact hn.1
  · intro z hz
    simp only [List.mem_cons, List.not_mem_nil, or_false] at hz
    rcases hz with rfl | rfl
    · decide +kernel
    · exact hn.2.1
  · intro z hz
    simp only [List.mem_cons, List.not_mem_nil, or_false] at hz
    rcases hz with rfl | rfl
    · decide +kernel
    · exact hn.2.2
theorem good_names {z0 : Str} {ts : List Str} (hk : kindsOf z0 = some (ts.map fun _ => true)) (h0 : z0.length ≤ 8 ∧ Asc z0 ∧ 32 ∉ z0.cps.toList ∧ 10 ∉ z0.cps.toList) (hl : ts.length ≤ 2) (h : ∀ t ∈ ts, WordR t) : GoodD (z0 :: ts) ∧ deedL (z0 :: ts) = .str z0 :: ts.map V.str := by
  have hw : ∀ (k : Nat) (ts : List Str), (∀ t ∈ ts, WordR t) → wrongW (ts.map fun _ => true) ts k = none := fun k ts => by
    induction ts generalizing k with
    | nil => intro _; rfl
    | cons t ts ih =>
      intro h
      exact (wrong_go (b := true) (h t List.mem_cons_self).name).trans (ih (k + 1) fun x hx => h x (List.mem_cons_of_mem _ hx))
  have ha : ∀ ts : List Str, argsL (ts.map fun _ => true) ts = ts.map V.str := fun ts => by
    induction ts with
    | nil => rfl
    | cons t ts ih =>
      unfold argsL at ih ⊢
      rw [List.map_cons, List.zipWith_cons_cons, ih]
      rfl
  have ed : deedL (z0 :: ts) = .str z0 :: ts.map V.str := by
    simp only [deedL, hk, Option.getD_some]
    rw [ha]
  refine ⟨⟨List.cons_ne_nil _ _, by rw [List.length_cons]; omega, by simp only [wrongL, hk]; exact hw 1 ts h, ?_, ?_, ?_, ?_, ?_⟩, ed⟩
  · rw [ed, List.map_cons, List.map_map]
    show z0 :: ts.map (fun z => z) = _
    rw [List.map_id']
  · intro v hv
    rw [ed] at hv
    rcases List.mem_cons.mp hv with rfl | hv
    · exact .inl ⟨_, rfl⟩
    · obtain ⟨t, _, rfl⟩ := List.mem_map.mp hv
      exact .inl ⟨_, rfl⟩
  · intro z hz
    rcases List.mem_cons.mp hz with rfl | hz
    · exact h0.1
    · exact (h z hz).short
  · intro z hz
    rcases List.mem_cons.mp hz with rfl | hz
    · exact h0.2.1
    · exact (h z hz).asc
  · intro z hz
    rcases List.mem_cons.mp hz with rfl | hz
    · exact h0.2.2
    · exact (h z hz).free
end

end My

namespace My
open PySem PySem.Spec PyProof.Rows L2 EE

local macro_rules | `(tactic| walk_at "sq") => `(tactic| first | assumption | exact sqL_of (by assumption) | exact sqT_of (by assumption))
local macro_rules | `(tactic| walk_at "same") => `(tactic| first
  | assumption
  | exact Same.refl _
  | (refine Same.trans ?_ (by assumption); walk_at "same")
  | (refine same_past ?_ (by assumption) ?_; (walk_at "same"); (walk_at "no")))
local macro_rules | `(tactic| walk_at "no") => `(tactic| first
  | assumption
  | (refine none_same ?_ (by assumption); walk_at "same")
  | (refine none_same (by assumption) ?_; walk_at "no")
  | (refine none_but (by assumption) ?_ ?_; (walk_at "n"); (walk_at "no")))
local macro_rules | `(tactic| walk_at "but") => `(tactic| first
  | assumption
  | exact But.refl _ _
  | (refine But.then ?_ (by assumption); walk_at "but")
  | (refine But.trans ?_ (by assumption); walk_at "but")
  | (refine but_past ?_ (by assumption) ?_; (walk_at "but"); (walk_at "no")))
local macro_rules | `(tactic| walk_at "hasp") => `(tactic| (repeat (first | exact ⟨_, _, by assumption⟩ | (refine hasPen_same (by assumption) ?_))))
local macro_rules | `(tactic| walk_at "hasc") => `(tactic| (repeat (first | exact ⟨_, _, by assumption⟩ | (refine hasCells_same (by assumption) ?_))))
local macro_rules | `(tactic| walk_at "pen") => `(tactic| (repeat (first | assumption | (refine PenAt.keep ?_ (by assumption)))))
local macro_rules | `(tactic| walk_at "has") => `(tactic| first
  | exact ⟨_, by assumption⟩
  | (refine has_same (by assumption) ?_; walk_at "has")
  | (refine has_but (by assumption) ?_ ?_; (walk_at "n"); (walk_at "has")))
local macro_rules | `(tactic| walk_at "n") => `(tactic| first
  | assumption
  | exact Ne.symm (by assumption)
  | (refine ne_free (by assumption) ?_; walk_at "has")
  | (refine ne_free' (by assumption) ?_; walk_at "has")
  | (refine pen_off (by assumption) ?_; walk_at "hasp"; done)
  | (refine Ne.symm (pen_off (by assumption) ?_); walk_at "hasp"; done)
  | (refine pen_off' (by assumption) ?_; walk_at "hasc"; done)
  | (refine Ne.symm (pen_off' (by assumption) ?_); walk_at "hasc"; done))
local macro_rules | `(tactic| walk_at "hh") => `(tactic| first
  | assumption
  | (refine get_same (by assumption) ?_; walk_at "hh")
  | (refine get_but (by assumption) (by walk_at "n") ?_; walk_at "hh"))
local macro_rules | `(tactic| walk_at "h") => `(tactic| first
  | ((repeat (first | assumption | (refine get_same (by assumption) ?_) | (refine get_but (by assumption) (by walk_at "n") ?_))); done)
  | walk_at "hh")
local macro_rules | `(tactic| walk_at "r") => `(tactic| repeat (first
  | (refine go ?_)
  | (with_reducible refine rd_mul ?_ ?_)
  | (with_reducible refine rd_mod ?_ ?_)
  | (with_reducible refine rd_fdiv ?_ ?_)
  | (with_reducible refine rd_pow ?_ ?_)
  | (with_reducible refine rd_strI ?_ ?_)
  | (with_reducible refine rd_addS ?_ ?_)
  | (with_reducible refine rd_lenS ?_ ?_)
  | (with_reducible refine rd_slS ?_ ?_)))
local macro_rules | `(tactic| walk_at "R") => `(tactic| repeat (first
  | (refine go ?_)
  | (with_reducible refine new_lstS fun _ _ _ _ _ => ?_)
  | (with_reducible refine new_lst (Nat.le_of_ble_eq_true rfl) fun _ _ _ _ _ => ?_)
  | (with_reducible refine new_tup (Nat.le_of_ble_eq_true rfl) fun _ _ _ _ _ => ?_)
  | ((with_reducible refine len_go ?_); first | (refine Or.inl ⟨_, sqL_of (by walk_at "h"), ?_⟩) | (refine Or.inr ⟨_, sqT_of (by walk_at "h"), ?_⟩))
  | ((with_reducible refine slT_go ?_); refine ⟨_, sqL_of (by walk_at "h"), fun _ _ _ _ _ => ?_⟩)
  | ((with_reducible refine slD_go ?_); refine ⟨_, sqL_of (by walk_at "h"), fun _ _ _ _ _ => ?_⟩)
  | ((with_reducible refine slD1_go ?_); refine ⟨_, sqL_of (by walk_at "h"), fun _ _ _ _ _ => ?_⟩)
  | ((with_reducible refine sl_go ?_); refine ⟨_, sqL_of (by walk_at "h"), fun _ _ _ _ _ => ?_⟩)
  | ((with_reducible refine cat_go ?_); refine catS_go (by walk_at "h") (by walk_at "h") ?_ fun _ _ _ _ _ => ?_; rotate_left)
  | ((with_reducible refine cat_go ?_); refine catV_go (by walk_at "h") (by walk_at "h") (Nat.le_of_ble_eq_true rfl) fun _ _ _ _ _ => ?_)
  | ((with_reducible refine cat_go ?_); refine catV_go (by walk_at "h") (by walk_at "h") ?_ fun _ _ _ _ _ => ?_; rotate_left)
  | ((with_reducible refine ixL_go ?_); refine ⟨_, sqL_of (by walk_at "h"), ?_⟩; refine ⟨_, atI_lit, ?_⟩)
  | (with_reducible refine rd_mul ?_ ?_; rotate_left)
  | (with_reducible refine rd_mod ?_ ?_; rotate_left)
  | (with_reducible refine rd_fdiv ?_ ?_; rotate_left)
  | (with_reducible refine rd_pow ?_ ?_; rotate_left)
  | (with_reducible refine rd_strI ?_ ?_; rotate_left)
  | (with_reducible refine rd_addS ?_ ?_; rotate_left)
  | (with_reducible refine rd_lenS ?_ ?_; rotate_left)
  | (with_reducible refine rd_slS ?_ ?_; rotate_left)))

section
variable {P : Program} {w : World} {K : PySem.W.Frag} {mg : Str → Option Value} {base : Heap}
theorem ok__law_deed {f fD fT fP : Addr} {fd fdD fdT fdP : FuncData} (F : Fun K "_law_deed" "_law_deed" s__law_deed f fd) (T : Tx K mg) (C__law_draw : Cal P w K mg base 1 "_law_draw" s__law_draw ["_law_pen_here", "_law_many"] spDraw fD fdD)
    (C__law_tag : Cal P w K mg base 4 "_law_tag" s__law_tag ["_law_pen_here"] spTag fT fdT)
    (C__law_pick : Cal P w K mg base 2 "_law_pick" s__law_pick ["_law_pen_here", "_law_some"] spPickB fP fdP) : FnOk P w K mg base CX0 5 f fd ["_law_pen_here"] spDeedL := by
  refine F.ok sc__law_deed (fun vs H Q E h => ?_) (fun cdv A outer s H vs Q E hr h => ?_)
  · obtain ⟨p, q, n, rfl, _⟩ := h
    rfl
  · obtain ⟨p, q, n, rfl, hn, hp, k⟩ := h
    refine ⟨_, (pss_cons (ps_set (i := 1) sc__law_deed.nd rfl (by first | exact Or.inl rfl | exact Or.inr rfl) (pe_call C__law_pick.G (hr.mono (by decide)) (by rfl) C__law_pick.g C__law_pick.F.kp C__law_pick.b .nil pass0 (pa_cons (pv 0) (pa_cons (pe_lst (pa_cons pe_str (pa_cons pe_str (pa_cons pe_str (pa_cons pe_str (pa_cons pe_str (pa_cons pe_str pa_nil))))))) pa_nil))))
      (pss_cons (ps_if (pt_cmpR op_in_seq (pv 1) (pe_tup (pa_cons pe_str (pa_cons pe_str pa_nil))) rfl) (pss_one (ps_ret (pe_tup (pa_cons (pv 1) (pa_cons (pe_call C__law_tag.G (hr.mono (by decide)) (by rfl) C__law_tag.g C__law_tag.F.kp C__law_tag.b .nil pass0 (pa_cons (pv 0) pa_nil)) (pa_cons (pe_call C__law_tag.G (hr.mono (by decide)) (by rfl) C__law_tag.g C__law_tag.F.kp C__law_tag.b .nil pass0 (pa_cons (pv 0) pa_nil)) pa_nil)))))) pss_nil)
      (pss_cons (ps_if (pt_cmpR op_eq (pv 1) pe_str (nomark _)) (pss_one (ps_ret (pe_tup (pa_cons (pv 1) (pa_cons (pe_ix (ix_listK (K := K) rfl) (pe_lst (pa_cons (pe_call C__law_draw.G (hr.mono (by decide)) (by rfl) C__law_draw.g C__law_draw.F.kp C__law_draw.b .nil pass0 (pa_cons (pv 0) (pa_cons pe_int pa_nil))) (pa_cons (pe_call C__law_draw.G (hr.mono (by decide)) (by rfl) C__law_draw.g C__law_draw.F.kp C__law_draw.b .nil pass0 (pa_cons (pv 0) (pa_cons (pe_op op_pow pe_int pe_int) pa_nil))) pa_nil))) (pe_call C__law_draw.G (hr.mono (by decide)) (by rfl) C__law_draw.g C__law_draw.F.kp C__law_draw.b .nil pass0 (pa_cons (pv 0) (pa_cons pe_int pa_nil))) (fun _ _ => rfl)) pa_nil))))) pss_nil)
      (pss_one (ps_ret (pe_ifExp (pt_cmpR op_eq (pv 1) pe_str (nomark _)) (pe_tup (pa_cons (pv 1) pa_nil)) (pe_tup (pa_cons (pv 1) (pa_cons (pe_call C__law_tag.G (hr.mono (by decide)) (by rfl) C__law_tag.g C__law_tag.F.kp C__law_tag.b .nil pass0 (pa_cons (pv 0) pa_nil)) pa_nil))))))))), ?_⟩
    walk_at "r"
    refine new_lst (by show 6 ≤ sizeLine; decide) fun l H1 n1 s1 h1 => ?_
    walk_at "r"
    refine .inl ⟨p, q, l, _, n, rfl, h1, (hp.off n1).1, (show 0 < 6 by decide), (show 6 ≤ 1000 by decide), by omega, hp.keep s1, fun x H2 hx s2 hp2 => ?_⟩
    have s12 := (s1.but p).trans s2
    simp only [List.mem_cons, List.not_mem_nil, or_false] at hx
    rcases hx with rfl | rfl | rfl | rfl | rfl | rfl
    · walk_at "r"
      refine new_tup (by show 2 ≤ sizeLine; decide) fun t1 H3 n3 s3 h3 => ?_
      have s13 := s12.then s3
      have hp3 := hp2.keep s3
      walk_at "r"
      refine rd_inT h3 rfl rfl ?_
      rw [show inV (.str "open") [.str "open", .str "book"] = true by decide +kernel]
      walk_at "r"
      refine ⟨p, q, n + 1, rfl, by omega, hp3, fun z1 H4 r1 s4 hp4 => ?_⟩
      walk_at "r"
      refine ⟨p, q, n + 1 + 30, rfl, by omega, hp4, fun z2 H5 r2 s5 hp5 => ?_⟩
      walk_at "r"
      obtain ⟨g, ed⟩ := good_names (z0 := "open") (ts := [z1, z2]) (show kindsOf _ = some [true, true] by decide +kernel) ⟨by decide +kernel, by decide +kernel, by decide +kernel, by decide +kernel⟩ (show 2 ≤ 2 by decide) (fun t ht => by
        simp only [List.mem_cons, List.not_mem_nil, or_false] at ht
        rcases ht with rfl | rfl
        · exact r1
        · exact r2)
      refine new_tup (by show 3 ≤ sizeLine; decide) fun a H6 n6 s6 h6 => ?_
      have sA := (s13.trans (s4.trans s5))
      exact k a _ H6 g (by rw [h6, ed]; rfl) (sA.then s6) ((hp5.keep s6).mono (by omega))
    · walk_at "r"
      refine new_tup (by show 2 ≤ sizeLine; decide) fun t1 H3 n3 s3 h3 => ?_
      have s13 := s12.then s3
      have hp3 := hp2.keep s3
      walk_at "r"
      refine rd_inT h3 rfl rfl ?_
      rw [show inV (.str "close") [.str "open", .str "book"] = false by decide +kernel]
      walk_at "r"
      refine rd_iteT (by decide +kernel) ?_
      walk_at "r"
      refine ⟨p, q, _, n + 1, rfl, by decide, by decide, by omega, hp3, fun d1 H4 d10 d11 s4 hp4 => ?_⟩
      walk_at "r"
      · refine ⟨p, q, _, n + 1 + 1, rfl, by decide, by decide, by omega, hp4, fun d2 H5 d20 d21 s5 hp5 => ?_⟩
        walk_at "r"
        refine new_lst (by show 2 ≤ sizeLine; decide) fun l2 H6 n6 s6 h6 => ?_
        walk_at "r"
        refine ⟨p, q, _, n + 1 + 1 + 1, rfl, by decide, by decide, by omega, hp5.keep s6, fun d3 H7 d30 d31 s7 hp7 => ?_⟩
        obtain ⟨j, hj, _, hat⟩ := atI_lt (xs := [V.int d1, .int d2]) (i := d3) d30 d31
        refine rd_ixL (sqL_of (s7 _ _ (hp5.off n6).1 h6)) hat ?_
        obtain ⟨m, em, m0, m9⟩ : ∃ m : Int, [V.int d1, .int d2][j] = .int m ∧ 0 ≤ m ∧ m < 1000000 := by
          have hm := List.getElem_mem hj
          simp only [List.mem_cons, List.not_mem_nil, or_false] at hm
          have e6 : (10 : Int) ^ (6 : Int).toNat = 1000000 := by decide
          rw [e6] at d21
          rcases hm with e | e <;> exact ⟨_, e, by omega, by omega⟩
        rw [em]
        walk_at "r"
        obtain ⟨g, ed⟩ := good_num m0 m9
        refine new_tup (by show 2 ≤ sizeLine; decide) fun a H8 n8 s8 h8 => ?_
        have sA := (s13.trans (s4.trans s5)).trans ((s6.but p).trans s7)
        exact k a _ H8 g (by rw [h8, ed]) (sA.then s8) ((hp7.keep s8).mono (by omega))
      · exact ⟨by decide, by decide, by decide⟩
    · walk_at "r"
      refine new_tup (by show 2 ≤ sizeLine; decide) fun t1 H3 n3 s3 h3 => ?_
      have s13 := s12.then s3
      have hp3 := hp2.keep s3
      walk_at "r"
      refine rd_inT h3 rfl rfl ?_
      rw [show inV (.str "move") [.str "open", .str "book"] = false by decide +kernel]
      walk_at "r"
      refine rd_iteF (by decide +kernel) ?_
      walk_at "r"
      refine rd_iteF (by decide +kernel) ?_
      walk_at "r"
      refine ⟨p, q, n + 1, rfl, by omega, hp3, fun z1 H4 r1 s4 hp4 => ?_⟩
      walk_at "r"
      obtain ⟨g, ed⟩ := good_names (z0 := "move") (ts := [z1]) (show kindsOf _ = some [true] by decide +kernel) ⟨by decide +kernel, by decide +kernel, by decide +kernel, by decide +kernel⟩ (show 1 ≤ 2 by decide) (fun t ht => by
        cases List.mem_singleton.mp ht
        exact r1)
      refine new_tup (by show 2 ≤ sizeLine; decide) fun a H6 n6 s6 h6 => ?_
      have sA := s13.trans s4
      exact k a _ H6 g (by rw [h6, ed]; rfl) (sA.then s6) ((hp4.keep s6).mono (by omega))
    · walk_at "r"
      refine new_tup (by show 2 ≤ sizeLine; decide) fun t1 H3 n3 s3 h3 => ?_
      have s13 := s12.then s3
      have hp3 := hp2.keep s3
      walk_at "r"
      refine rd_inT h3 rfl rfl ?_
      rw [show inV (.str "book") [.str "open", .str "book"] = true by decide +kernel]
      walk_at "r"
      refine ⟨p, q, n + 1, rfl, by omega, hp3, fun z1 H4 r1 s4 hp4 => ?_⟩
      walk_at "r"
      refine ⟨p, q, n + 1 + 30, rfl, by omega, hp4, fun z2 H5 r2 s5 hp5 => ?_⟩
      walk_at "r"
      obtain ⟨g, ed⟩ := good_names (z0 := "book") (ts := [z1, z2]) (show kindsOf _ = some [true, true] by decide +kernel) ⟨by decide +kernel, by decide +kernel, by decide +kernel, by decide +kernel⟩ (show 2 ≤ 2 by decide) (fun t ht => by
        simp only [List.mem_cons, List.not_mem_nil, or_false] at ht
        rcases ht with rfl | rfl
        · exact r1
        · exact r2)
      refine new_tup (by show 3 ≤ sizeLine; decide) fun a H6 n6 s6 h6 => ?_
      have sA := (s13.trans (s4.trans s5))
      exact k a _ H6 g (by rw [h6, ed]; rfl) (sA.then s6) ((hp5.keep s6).mono (by omega))
    · walk_at "r"
      refine new_tup (by show 2 ≤ sizeLine; decide) fun t1 H3 n3 s3 h3 => ?_
      have s13 := s12.then s3
      have hp3 := hp2.keep s3
      walk_at "r"
      refine rd_inT h3 rfl rfl ?_
      rw [show inV (.str "restart") [.str "open", .str "book"] = false by decide +kernel]
      walk_at "r"
      refine rd_iteF (by decide +kernel) ?_
      walk_at "r"
      refine rd_iteF (by decide +kernel) ?_
      walk_at "r"
      refine ⟨p, q, n + 1, rfl, by omega, hp3, fun z1 H4 r1 s4 hp4 => ?_⟩
      walk_at "r"
      obtain ⟨g, ed⟩ := good_names (z0 := "restart") (ts := [z1]) (show kindsOf _ = some [true] by decide +kernel) ⟨by decide +kernel, by decide +kernel, by decide +kernel, by decide +kernel⟩ (show 1 ≤ 2 by decide) (fun t ht => by
        cases List.mem_singleton.mp ht
        exact r1)
      refine new_tup (by show 2 ≤ sizeLine; decide) fun a H6 n6 s6 h6 => ?_
      have sA := s13.trans s4
      exact k a _ H6 g (by rw [h6, ed]; rfl) (sA.then s6) ((hp4.keep s6).mono (by omega))
    · walk_at "r"
      refine new_tup (by show 2 ≤ sizeLine; decide) fun t1 H3 n3 s3 h3 => ?_
      have s13 := s12.then s3
      have hp3 := hp2.keep s3
      walk_at "r"
      refine rd_inT h3 rfl rfl ?_
      rw [show inV (.str "settle") [.str "open", .str "book"] = false by decide +kernel]
      walk_at "r"
      refine rd_iteF (by decide +kernel) ?_
      walk_at "r"
      refine rd_iteT (by decide +kernel) ?_
      walk_at "r"
      obtain ⟨g, ed⟩ := good_names (z0 := "settle") (ts := []) (by decide +kernel) ⟨by decide +kernel, by decide +kernel, by decide +kernel, by decide +kernel⟩ (by decide) (fun t ht => by cases ht)
      refine new_tup (by show 1 ≤ sizeLine; decide) fun a H6 n6 s6 h6 => ?_
      exact k a _ H6 g (by rw [h6, ed]; rfl) (s13.then s6) ((hp3.keep s6).mono (by omega))
end

end My

namespace My
open PySem PySem.Spec PyProof.Rows L2 EE

local macro_rules | `(tactic| walk_at "sq") => `(tactic| first | assumption | exact sqL_of (by assumption) | exact sqT_of (by assumption))
local macro_rules | `(tactic| walk_at "same") => `(tactic| first
  | assumption
  | exact Same.refl _
  | (refine Same.trans ?_ (by assumption); walk_at "same")
  | (refine same_past ?_ (by assumption) ?_; (walk_at "same"); (walk_at "no")))
local macro_rules | `(tactic| walk_at "no") => `(tactic| first
  | assumption
  | (refine none_same ?_ (by assumption); walk_at "same")
  | (refine none_same (by assumption) ?_; walk_at "no")
  | (refine none_but (by assumption) ?_ ?_; (walk_at "n"); (walk_at "no")))
local macro_rules | `(tactic| walk_at "but") => `(tactic| first
  | assumption
  | exact But.refl _ _
  | (refine But.then ?_ (by assumption); walk_at "but")
  | (refine But.trans ?_ (by assumption); walk_at "but")
  | (refine but_past ?_ (by assumption) ?_; (walk_at "but"); (walk_at "no")))
local macro_rules | `(tactic| walk_at "hasp") => `(tactic| (repeat (first | exact ⟨_, _, by assumption⟩ | (refine hasPen_same (by assumption) ?_))))
local macro_rules | `(tactic| walk_at "hasc") => `(tactic| (repeat (first | exact ⟨_, _, by assumption⟩ | (refine hasCells_same (by assumption) ?_))))
local macro_rules | `(tactic| walk_at "pen") => `(tactic| (repeat (first | assumption | (refine PenAt.keep ?_ (by assumption)))))
local macro_rules | `(tactic| walk_at "has") => `(tactic| first
  | exact ⟨_, by assumption⟩
  | (refine has_same (by assumption) ?_; walk_at "has")
  | (refine has_but (by assumption) ?_ ?_; (walk_at "n"); (walk_at "has")))
local macro_rules | `(tactic| walk_at "n") => `(tactic| first
  | assumption
  | exact Ne.symm (by assumption)
  | (refine ne_free (by assumption) ?_; walk_at "has")
  | (refine ne_free' (by assumption) ?_; walk_at "has")
  | (refine pen_off (by assumption) ?_; walk_at "hasp"; done)
  | (refine Ne.symm (pen_off (by assumption) ?_); walk_at "hasp"; done)
  | (refine pen_off' (by assumption) ?_; walk_at "hasc"; done)
  | (refine Ne.symm (pen_off' (by assumption) ?_); walk_at "hasc"; done))
local macro_rules | `(tactic| walk_at "hh") => `(tactic| first
  | assumption
  | (refine get_same (by assumption) ?_; walk_at "hh")
  | (refine get_but (by assumption) (by walk_at "n") ?_; walk_at "hh"))
local macro_rules | `(tactic| walk_at "h") => `(tactic| first
  | ((repeat (first | assumption | (refine get_same (by assumption) ?_) | (refine get_but (by assumption) (by walk_at "n") ?_))); done)
  | walk_at "hh")
local macro_rules | `(tactic| walk_at "r") => `(tactic| repeat (first
  | (refine go ?_)
  | (with_reducible refine rd_mul ?_ ?_)
  | (with_reducible refine rd_mod ?_ ?_)
  | (with_reducible refine rd_fdiv ?_ ?_)
  | (with_reducible refine rd_pow ?_ ?_)
  | (with_reducible refine rd_strI ?_ ?_)
  | (with_reducible refine rd_addS ?_ ?_)
  | (with_reducible refine rd_lenS ?_ ?_)
  | (with_reducible refine rd_slS ?_ ?_)))
local macro_rules | `(tactic| walk_at "R") => `(tactic| repeat (first
  | (refine go ?_)
  | (with_reducible refine new_lstS fun _ _ _ _ _ => ?_)
  | (with_reducible refine new_lst (Nat.le_of_ble_eq_true rfl) fun _ _ _ _ _ => ?_)
  | (with_reducible refine new_tup (Nat.le_of_ble_eq_true rfl) fun _ _ _ _ _ => ?_)
  | ((with_reducible refine len_go ?_); first | (refine Or.inl ⟨_, sqL_of (by walk_at "h"), ?_⟩) | (refine Or.inr ⟨_, sqT_of (by walk_at "h"), ?_⟩))
  | ((with_reducible refine slT_go ?_); refine ⟨_, sqL_of (by walk_at "h"), fun _ _ _ _ _ => ?_⟩)
  | ((with_reducible refine slD_go ?_); refine ⟨_, sqL_of (by walk_at "h"), fun _ _ _ _ _ => ?_⟩)
  | ((with_reducible refine slD1_go ?_); refine ⟨_, sqL_of (by walk_at "h"), fun _ _ _ _ _ => ?_⟩)
  | ((with_reducible refine sl_go ?_); refine ⟨_, sqL_of (by walk_at "h"), fun _ _ _ _ _ => ?_⟩)
  | ((with_reducible refine cat_go ?_); refine catS_go (by walk_at "h") (by walk_at "h") ?_ fun _ _ _ _ _ => ?_; rotate_left)
  | ((with_reducible refine cat_go ?_); refine catV_go (by walk_at "h") (by walk_at "h") (Nat.le_of_ble_eq_true rfl) fun _ _ _ _ _ => ?_)
  | ((with_reducible refine cat_go ?_); refine catV_go (by walk_at "h") (by walk_at "h") ?_ fun _ _ _ _ _ => ?_; rotate_left)
  | ((with_reducible refine ixL_go ?_); refine ⟨_, sqL_of (by walk_at "h"), ?_⟩; refine ⟨_, atI_lit, ?_⟩)
  | (with_reducible refine rd_mul ?_ ?_; rotate_left)
  | (with_reducible refine rd_mod ?_ ?_; rotate_left)
  | (with_reducible refine rd_fdiv ?_ ?_; rotate_left)
  | (with_reducible refine rd_pow ?_ ?_; rotate_left)
  | (with_reducible refine rd_strI ?_ ?_; rotate_left)
  | (with_reducible refine rd_addS ?_ ?_; rotate_left)
  | (with_reducible refine rd_lenS ?_ ?_; rotate_left)
  | (with_reducible refine rd_slS ?_ ?_; rotate_left)))

theorem numR_nonneg {z : Str} {i : Int} (h : numR 6 z = some i) (h0 : 0 ≤ i) : okD 6 z.cps.toList = true ∧ (z.cps.toList.head? = some 48 → z.cps.toList = [48]) := by
  have q1 : okD 6 (digL z.cps.toList) = true := by
    cases q : okD 6 (digL z.cps.toList) with
    | true => rfl
    | false => rw [numR_bad q] at h; cases h
  have q2 : (digL z.cps.toList).head? = some 48 → z.cps.toList = [48] := fun q => by
    by_cases c : z.cps.toList = [48]
    · exact c
    · rw [numR_zero q c] at h; cases h
  by_cases hd : ∃ ds, z.cps.toList = 45 :: ds
  · exfalso
    obtain ⟨ds, e⟩ := hd
    have ed : digL z.cps.toList = ds := by rw [e]; rfl
    rw [ed] at q1 q2
    have h1 : numR 6 z = some (-((NumText.digitsVal ds : Nat) : Int)) := by
      obtain ⟨i', e1, e2, _⟩ := numR_good (m := 6) (z := z) (by decide) (by rw [ed]; exact q1) (by rw [ed]; exact q2)
      have ne : ds ≠ [] := fun q => by rw [q] at q1; exact absurd q1 (by decide)
      unfold okD at q1
      rw [Bool.and_eq_true, decide_eq_true_eq] at q1
      have e3 := intText_neg e (allDg q1.2) ne (by
        have e4 : z.cps.toList.length = z.length := Array.length_toList
        rw [e, List.length_cons] at e4
        omega)
      rw [e1, Option.some.inj (e2.symm.trans e3)]
    rw [h1] at h
    have hi := Option.some.inj h
    have h2 : NumText.digitsVal ds = 0 := by omega
    cases ds with
    | nil => exact absurd q1 (by decide)
    | cons c cs =>
      have hc : c ≠ 48 := fun z1 => by
        have := q2 (by rw [z1]; rfl)
        rw [e] at this
        cases this
      unfold okD at q1
      rw [Bool.and_eq_true, decide_eq_true_eq] at q1
      have hr := allDg q1.2 c List.mem_cons_self
      have mono : ∀ (l : List Nat) (a : Nat), a ≤ l.foldl (fun acc c => acc * 10 + (c - 48)) a := fun l => by
        induction l with
        | nil => intro a; exact Nat.le_refl _
        | cons b l ih => intro a; exact Nat.le_trans (show a ≤ a * 10 + (b - 48) by omega) (ih _)
      have := mono cs (0 * 10 + (c - 48))
      have e5 : NumText.digitsVal (c :: cs) = cs.foldl (fun acc c => acc * 10 + (c - 48)) (0 * 10 + (c - 48)) := rfl
      omega
  · have ed : digL z.cps.toList = z.cps.toList := by
      unfold digL
      split
      · rename_i ds e
        exact absurd ⟨ds, e⟩ hd
      · rfl
    rw [ed] at q1 q2
    exact ⟨q1, q2⟩
theorem item_some {z : Str} : (itemR z).isSome = decide (okD 6 z.cps.toList = true ∧ (z.cps.toList.head? = some 48 → z.cps.toList = [48])) := by
  unfold itemR
  by_cases c : okD 6 z.cps.toList = true ∧ (z.cps.toList.head? = some 48 → z.cps.toList = [48])
  · rw [decide_eq_true c]
    have ed : digL z.cps.toList = z.cps.toList := by
      unfold digL
      split
      · rename_i ds e
        have c1 := c.1
        rw [e] at c1
        unfold okD at c1
        rw [Bool.and_eq_true] at c1
        have := allDg c1.2 45 List.mem_cons_self
        omega
      · rfl
    obtain ⟨i, e1, e2, _⟩ := numR_good (m := 6) (z := z) (by decide) (by rw [ed]; exact c.1) (by rw [ed]; exact c.2)
    have c1 := c.1
    unfold okD at c1
    rw [Bool.and_eq_true, decide_eq_true_eq] at c1
    have e4 : z.cps.toList.length = z.length := Array.length_toList
    have e3 := intText_digits (x := z) (allDg c1.2) (fun q => by rw [q] at c1; exact absurd c1.1.1 (by decide)) (by omega)
    rw [e1, Option.some.inj (e2.symm.trans e3)]
    show (if (0 : Int) ≤ _ then _ else _ : Option Int).isSome = true
    rw [if_pos (Int.ofNat_nonneg _)]
    rfl
  · rw [decide_eq_false c]
    cases h : numR 6 z with
    | none => rfl
    | some i =>
      show (if 0 ≤ i then some i else none).isSome = false
      by_cases h0 : 0 ≤ i
      · exact absurd (numR_nonneg h h0) c
      · rw [if_neg h0]
        rfl
theorem fm_filter (S : List Nat) : ∀ l : List Nat, l.filterMap (fun c => if c ∈ S then none else some (V.str ⟨#[c]⟩)) = ((l.filter (fun c => !decide (c ∈ S))).map (fun c => (⟨#[c]⟩ : Str))).map V.str
  | [] => rfl
  | c :: l => by
    by_cases h : c ∈ S
    · rw [List.filterMap_cons_none (by exact if_pos h), List.filter_cons_of_neg (by rw [decide_eq_true h]; decide)]
      exact fm_filter S l
    · rw [List.filterMap_cons_some (b := V.str ⟨#[c]⟩) (by exact if_neg h), List.filter_cons_of_pos (by rw [decide_eq_false h]; rfl), fm_filter S l]
      rfl
theorem fm_nil (S l : List Nat) : decide ((l.filter (fun c => !decide (c ∈ S))).map (fun c => (⟨#[c]⟩ : Str)) = []) = l.all (fun c => decide (c ∈ S)) := by
  by_cases h : l.all (fun c => decide (c ∈ S)) = true
  · rw [h]
    refine decide_eq_true (List.map_eq_nil_iff.mpr (List.filter_eq_nil_iff.mpr fun c hc => ?_))
    rw [List.all_eq_true.mp h c hc]
    decide
  · rw [Bool.not_eq_true] at h
    rw [h]
    refine decide_eq_false fun q => ?_
    have : l.all (fun c => decide (c ∈ S)) = true := List.all_eq_true.mpr fun c hc => by
      have := List.filter_eq_nil_iff.mp (List.map_eq_nil_iff.mp q) c hc
      simpa using this
    rw [h] at this
    cases this
def spRight : Sp := fun vs H Q _ => ∃ (b : Bool) (z : Str), vs = [.str (if b then "name" else "number"), .str z] ∧ z.length ≤ 1000 ∧ Asc z ∧ ∀ H', Same H H' → Q (.bl (okW b z)) H'
section
variable {P : Program} {w : World} {K : PySem.W.Frag} {mg : Str → Option Value} {base : Heap}
theorem ok__law_is_right {f : Addr} {fd : FuncData} (F : Fun K "_law_is_right" "_law_is_right" s__law_is_right f fd) (T : Tx K mg) : FnOk P w K mg base CX0 1 f fd ["_law_sort", "_law_word_here"] spRight := by
  refine F.ok sc__law_is_right (fun vs H Q E h => ?_) (fun cdv A outer s H vs Q E hr h => ?_)
  · obtain ⟨b, z, rfl, _⟩ := h
    rfl
  · obtain ⟨b, z, rfl, hl, ha, k⟩ := h
    refine ⟨_, (pss_cons (ps_if (pt_cmpR op_eq (pv 0) pe_str (nomark _)) (pss_cons (ps_setLc (i := 2) (own := [("_law_sign", 3)]) rfl sc__law_is_right.nd rfl rfl (sw_true rfl rfl rfl (by decide +kernel)) (pi_str (pv 1)) (blkOk_by (own := [("_law_sign", 3)]) (N := ["_law_sort", "_law_word_here", "_law_signs", "_law_sign"]) (sc := defScope s__law_is_right) (by decide +kernel)) (fun _ _ _ _ _ => (pg_name (i := 3) sc__law_is_right.nd rfl (by first | exact Or.inl rfl | exact Or.inr rfl))) (fun _ _ _ _ _ => (pts_one (pt_cmpR or_notInS (pv 3) pe_str rfl))) (fun _ _ _ _ _ => (pv 3)))
      (pss_one (ps_ret (pe_and (pe_chain op_lt op_lt pe_int (pe_callB cr_lenS (by rfl) T.b_len (by decide +kernel) (pa_cons (pv 1) pa_nil)) pe_int) (pe_and (pe_cmpR (op_eqD hr.units) (pv 2) (pe_lst pa_nil) (nomark _)) (pe_one (pe_cmpR op_ne (pv 1) pe_str (nomark _)))))))) pss_nil)
      (pss_cons (ps_if (PW.pt (pw_or (pt_not (pt_chain op_lt op_lt pe_int (pe_callB cr_lenS (by rfl) T.b_len (by decide +kernel) (pa_cons (pv 1) pa_nil)) pe_int)) (pw_or1 (PW.pt (pw_and (pt_cmpR op_eq (pe_ix ix_str (pv 1) pe_int (fun _ _ => rfl)) pe_str (nomark _)) (pw_and1 (pt_cmpR op_ne (pv 1) pe_str (nomark _)))))))) (pss_one (ps_ret pe_bl)) pss_nil)
      (pss_one (ps_ret (pe_cmpR (op_eqD hr.units) (pe_lc (own := [("_law_sign", 3)]) rfl sc__law_is_right.nd (pi_str (pv 1)) (blkOk_by (own := [("_law_sign", 3)]) (N := ["_law_sort", "_law_word_here", "_law_signs", "_law_sign"]) (sc := defScope s__law_is_right) (by decide +kernel)) (fun _ _ _ _ _ => (pg_name (i := 3) sc__law_is_right.nd rfl (by first | exact Or.inl rfl | exact Or.inr rfl))) (fun _ _ _ _ _ => (pts_one (pt_cmpR or_notInS (pv 3) pe_str rfl))) (fun _ _ _ _ _ => (pv 3))) (pe_lst pa_nil) (nomark _)))))), ?_⟩
    have el : z.cps.toList.length = z.length := Array.length_toList
    cases b with
    | true =>
      walk_at "r"
      refine rd_iteT (by decide +kernel) ?_
      walk_at "r"
      refine lcat_str (fun c => if c ∈ lets.cps.toList then none else some (V.str ⟨#[c]⟩)) (by omega) (fun D i c H' hD hc I => ?_) (fun D H' hD sm hl2 => ?_)
      · walk_at "r"
        refine ⟨rfl, ?_⟩
        walk_at "r"
        refine rd_decN (fun c1 => ?_) (fun c1 => ?_)
        · walk_at "r"
          exact I.some hD hc (if_neg c1) (Same.refl _) (by omega)
        · exact I.none hc (if_pos c1) (Same.refl _)
      · walk_at "r"
        rotate_left
        · exact small_sz hl
        rw [fm_filter] at hl2
        have nope : ¬ (1 ≤ z.length ∧ z.length ≤ 8) → okW true z = false := fun q => by
          show nameS z = false
          unfold nameS
          rw [decide_eq_false (fun r => q ⟨r.1, r.2.1⟩), Bool.false_and]
        refine rd_dec (fun c1 => ?_) (fun c1 => ?_)
        · walk_at "r"
          refine rd_dec (fun c2 => ?_) (fun c2 => ?_)
          · walk_at "r"
            refine new_lst (by decide) fun o H2 n2 s2 h2 => ?_
            refine rd_eqNilS (sqL_of (s2 _ _ hl2)) h2 (fun y hy => by
              obtain ⟨c, hc, rfl⟩ := List.mem_map.mp hy
              exact asc_one (ha c (List.mem_filter.mp hc).1)) ?_
            rw [fm_nil]
            walk_at "r"
            have e : okW true z = (z.cps.toList.all (fun c => decide (c ∈ lets.cps.toList)) && !decide (z = "self")) := by
              show nameS z = _
              unfold nameS
              by_cases q : z = "self"
              · rw [decide_eq_false (fun r => r.2.2 q), decide_eq_true q, Bool.false_and, Bool.not_true, Bool.and_false]
              · rw [decide_eq_true ⟨by omega, by omega, q⟩, decide_eq_false q, Bool.true_and, Bool.not_false, Bool.and_true]
            have kk := k H2 (sm.trans s2)
            rw [e] at kk
            refine rd_ite (fun c3 => ?_) (fun c3 => ?_)
            · walk_at "r"
              rw [c3, Bool.true_and] at kk
              exact kk
            · rw [c3, Bool.false_and] at kk
              exact kk
          · have kk := k H' sm
            rw [nope (by omega)] at kk
            exact kk
        · walk_at "r"
          have kk := k H' sm
          rw [nope (by omega)] at kk
          exact kk
    | false =>
      walk_at "r"
      refine rd_iteF (by decide +kernel) ?_
      walk_at "r"
      rotate_left
      · exact small_sz hl
      have nope : ¬ (okD 6 z.cps.toList = true ∧ (z.cps.toList.head? = some 48 → z.cps.toList = [48])) → ∀ H', Same H H' → Q (.bl false) H' := fun q H' s' => by
        have e : okW false z = false := (show okW false z = (itemR z).isSome from rfl).trans (item_some.trans (decide_eq_false q))
        rw [← e]
        exact k H' s'
      have short : ¬ (1 ≤ z.length ∧ z.length ≤ 6) → ∀ H', Same H H' → Q (.bl false) H' := fun q => nope fun r => by
        have r1 := r.1
        unfold okD at r1
        rw [Bool.and_eq_true, decide_eq_true_eq, el] at r1
        exact q r1.1
      have one : ∀ c0 : Nat, (⟨#[c0]⟩ : Str) = Str.ofString "0" ↔ c0 = 48 := fun c0 => by
        have e1 : Str.ofString "0" = ⟨[48].toArray⟩ := by decide +kernel
        rw [e1, str_eq]
        exact ⟨fun q => by injection q, fun q => by rw [q]⟩
      have zer : z = Str.ofString "0" ↔ z.cps.toList = [48] := by
        have e1 : Str.ofString "0" = ⟨[48].toArray⟩ := by decide +kernel
        rw [e1, str_eq]
      refine rd_dec (fun c1 => ?_) (fun c1 => ?_)
      · walk_at "r"
        refine rd_decN (fun c2 => ?_) (fun c2 => ?_)
        · walk_at "r"
          exact short (by omega) _ (Same.refl _)
        · walk_at "r"
          obtain ⟨c0, cs, e0⟩ : ∃ c0 cs, z.cps.toList = c0 :: cs := by
            cases q : z.cps.toList with
            | nil => rw [q] at el; simp only [List.length_nil] at el; omega
            | cons c0 cs => exact ⟨c0, cs, rfl⟩
          refine rd_ixS (c := c0) (by rw [e0]; exact atI_zero _ _) ?_ (small_sz hl)
          walk_at "r"
          refine rd_dec (fun c3 => ?_) (fun c3 => ?_)
          · walk_at "r"
            refine rd_decN (fun c4 => ?_) (fun c4 => ?_)
            · walk_at "r"
              exact nope (fun r => c4 (zer.mpr (r.2 (by rw [e0, (one c0).mp c3]; rfl)))) _ (Same.refl _)
            · walk_at "r"
              have hz0 : z.cps.toList.head? = some 48 → z.cps.toList = [48] := fun _ => zer.mp c4
              refine lcat_str (fun c => if c ∈ digs.cps.toList then none else some (V.str ⟨#[c]⟩)) (by omega) (fun D i c H' hD hc I => ?_) (fun D H' hD sm hl2 => ?_)
              · walk_at "r"
                refine ⟨rfl, ?_⟩
                walk_at "r"
                refine rd_decN (fun c1 => ?_) (fun c1 => ?_)
                · walk_at "r"
                  exact I.some hD hc (if_neg c1) (Same.refl _) (by omega)
                · exact I.none hc (if_pos c1) (Same.refl _)
              · walk_at "r"
                rw [fm_filter] at hl2
                refine new_lst (by decide) fun o H2 n2 s2 h2 => ?_
                refine rd_eqNilS (sqL_of (s2 _ _ hl2)) h2 (fun y hy => by
                  obtain ⟨c, hc, rfl⟩ := List.mem_map.mp hy
                  exact asc_one (ha c (List.mem_filter.mp hc).1)) ?_
                rw [fm_nil]
                have ea : z.cps.toList.all (fun c => decide (c ∈ digs.cps.toList)) = z.cps.toList.all isDg := by
                  congr 1
                  funext c
                  exact mem_digs c
                have e : okW false z = z.cps.toList.all (fun c => decide (c ∈ digs.cps.toList)) := by
                  rw [show okW false z = (itemR z).isSome from rfl, item_some, ea]
                  unfold okD
                  rw [decide_eq_true (show 1 ≤ z.cps.toList.length ∧ z.cps.toList.length ≤ 6 by omega), Bool.true_and]
                  cases z.cps.toList.all isDg with
                  | true => exact decide_eq_true ⟨rfl, hz0⟩
                  | false => exact decide_eq_false fun q => Bool.noConfusion q.1
                rw [← e]
                exact k H2 (sm.trans s2)
          · walk_at "r"
            have hz0 : z.cps.toList.head? = some 48 → z.cps.toList = [48] := fun q => absurd ((one c0).mpr (by rw [e0] at q; exact Option.some.inj q)) c3
            refine lcat_str (fun c => if c ∈ digs.cps.toList then none else some (V.str ⟨#[c]⟩)) (by omega) (fun D i c H' hD hc I => ?_) (fun D H' hD sm hl2 => ?_)
            · walk_at "r"
              refine ⟨rfl, ?_⟩
              walk_at "r"
              refine rd_decN (fun c1 => ?_) (fun c1 => ?_)
              · walk_at "r"
                exact I.some hD hc (if_neg c1) (Same.refl _) (by omega)
              · exact I.none hc (if_pos c1) (Same.refl _)
            · walk_at "r"
              rw [fm_filter] at hl2
              refine new_lst (by decide) fun o H2 n2 s2 h2 => ?_
              refine rd_eqNilS (sqL_of (s2 _ _ hl2)) h2 (fun y hy => by
                obtain ⟨c, hc, rfl⟩ := List.mem_map.mp hy
                exact asc_one (ha c (List.mem_filter.mp hc).1)) ?_
              rw [fm_nil]
              have ea : z.cps.toList.all (fun c => decide (c ∈ digs.cps.toList)) = z.cps.toList.all isDg := by
                congr 1
                funext c
                exact mem_digs c
              have e : okW false z = z.cps.toList.all (fun c => decide (c ∈ digs.cps.toList)) := by
                rw [show okW false z = (itemR z).isSome from rfl, item_some, ea]
                unfold okD
                rw [decide_eq_true (show 1 ≤ z.cps.toList.length ∧ z.cps.toList.length ≤ 6 by omega), Bool.true_and]
                cases z.cps.toList.all isDg with
                | true => exact decide_eq_true ⟨rfl, hz0⟩
                | false => exact decide_eq_false fun q => Bool.noConfusion q.1
              rw [← e]
              exact k H2 (sm.trans s2)
      · walk_at "r"
        exact short (by omega) _ (Same.refl _)
end

end My

namespace My
open PySem PySem.Spec PyProof.Rows L2 EE

local macro_rules | `(tactic| walk_at "sq") => `(tactic| first | assumption | exact sqL_of (by assumption) | exact sqT_of (by assumption))
local macro_rules | `(tactic| walk_at "same") => `(tactic| first
  | assumption
  | exact Same.refl _
  | (refine Same.trans ?_ (by assumption); walk_at "same")
  | (refine same_past ?_ (by assumption) ?_; (walk_at "same"); (walk_at "no")))
local macro_rules | `(tactic| walk_at "no") => `(tactic| first
  | assumption
  | (refine none_same ?_ (by assumption); walk_at "same")
  | (refine none_same (by assumption) ?_; walk_at "no")
  | (refine none_but (by assumption) ?_ ?_; (walk_at "n"); (walk_at "no")))
local macro_rules | `(tactic| walk_at "but") => `(tactic| first
  | assumption
  | exact But.refl _ _
  | (refine But.then ?_ (by assumption); walk_at "but")
  | (refine But.trans ?_ (by assumption); walk_at "but")
  | (refine but_past ?_ (by assumption) ?_; (walk_at "but"); (walk_at "no")))
local macro_rules | `(tactic| walk_at "hasp") => `(tactic| (repeat (first | exact ⟨_, _, by assumption⟩ | (refine hasPen_same (by assumption) ?_))))
local macro_rules | `(tactic| walk_at "hasc") => `(tactic| (repeat (first | exact ⟨_, _, by assumption⟩ | (refine hasCells_same (by assumption) ?_))))
local macro_rules | `(tactic| walk_at "pen") => `(tactic| (repeat (first | assumption | (refine PenAt.keep ?_ (by assumption)))))
local macro_rules | `(tactic| walk_at "has") => `(tactic| first
  | exact ⟨_, by assumption⟩
  | (refine has_same (by assumption) ?_; walk_at "has")
  | (refine has_but (by assumption) ?_ ?_; (walk_at "n"); (walk_at "has")))
local macro_rules | `(tactic| walk_at "n") => `(tactic| first
  | assumption
  | exact Ne.symm (by assumption)
  | (refine ne_free (by assumption) ?_; walk_at "has")
  | (refine ne_free' (by assumption) ?_; walk_at "has")
  | (refine pen_off (by assumption) ?_; walk_at "hasp"; done)
  | (refine Ne.symm (pen_off (by assumption) ?_); walk_at "hasp"; done)
  | (refine pen_off' (by assumption) ?_; walk_at "hasc"; done)
  | (refine Ne.symm (pen_off' (by assumption) ?_); walk_at "hasc"; done))
local macro_rules | `(tactic| walk_at "hh") => `(tactic| first
  | assumption
  | (refine get_same (by assumption) ?_; walk_at "hh")
  | (refine get_but (by assumption) (by walk_at "n") ?_; walk_at "hh"))
local macro_rules | `(tactic| walk_at "h") => `(tactic| first
  | ((repeat (first | assumption | (refine get_same (by assumption) ?_) | (refine get_but (by assumption) (by walk_at "n") ?_))); done)
  | walk_at "hh")
local macro_rules | `(tactic| walk_at "r") => `(tactic| repeat (first
  | (refine go ?_)
  | (with_reducible refine rd_mul ?_ ?_)
  | (with_reducible refine rd_mod ?_ ?_)
  | (with_reducible refine rd_fdiv ?_ ?_)
  | (with_reducible refine rd_pow ?_ ?_)
  | (with_reducible refine rd_strI ?_ ?_)
  | (with_reducible refine rd_addS ?_ ?_)
  | (with_reducible refine rd_lenS ?_ ?_)
  | (with_reducible refine rd_slS ?_ ?_)))
local macro_rules | `(tactic| walk_at "R") => `(tactic| repeat (first
  | (refine go ?_)
  | (with_reducible refine new_lstS fun _ _ _ _ _ => ?_)
  | (with_reducible refine new_lst (Nat.le_of_ble_eq_true rfl) fun _ _ _ _ _ => ?_)
  | (with_reducible refine new_tup (Nat.le_of_ble_eq_true rfl) fun _ _ _ _ _ => ?_)
  | ((with_reducible refine len_go ?_); first | (refine Or.inl ⟨_, sqL_of (by walk_at "h"), ?_⟩) | (refine Or.inr ⟨_, sqT_of (by walk_at "h"), ?_⟩))
  | ((with_reducible refine slT_go ?_); refine ⟨_, sqL_of (by walk_at "h"), fun _ _ _ _ _ => ?_⟩)
  | ((with_reducible refine slD_go ?_); refine ⟨_, sqL_of (by walk_at "h"), fun _ _ _ _ _ => ?_⟩)
  | ((with_reducible refine slD1_go ?_); refine ⟨_, sqL_of (by walk_at "h"), fun _ _ _ _ _ => ?_⟩)
  | ((with_reducible refine sl_go ?_); refine ⟨_, sqL_of (by walk_at "h"), fun _ _ _ _ _ => ?_⟩)
  | ((with_reducible refine cat_go ?_); refine catS_go (by walk_at "h") (by walk_at "h") ?_ fun _ _ _ _ _ => ?_; rotate_left)
  | ((with_reducible refine cat_go ?_); refine catV_go (by walk_at "h") (by walk_at "h") (Nat.le_of_ble_eq_true rfl) fun _ _ _ _ _ => ?_)
  | ((with_reducible refine cat_go ?_); refine catV_go (by walk_at "h") (by walk_at "h") ?_ fun _ _ _ _ _ => ?_; rotate_left)
  | ((with_reducible refine ixL_go ?_); refine ⟨_, sqL_of (by walk_at "h"), ?_⟩; refine ⟨_, atI_lit, ?_⟩)
  | (with_reducible refine rd_mul ?_ ?_; rotate_left)
  | (with_reducible refine rd_mod ?_ ?_; rotate_left)
  | (with_reducible refine rd_fdiv ?_ ?_; rotate_left)
  | (with_reducible refine rd_pow ?_ ?_; rotate_left)
  | (with_reducible refine rd_strI ?_ ?_; rotate_left)
  | (with_reducible refine rd_addS ?_ ?_; rotate_left)
  | (with_reducible refine rd_lenS ?_ ?_; rotate_left)
  | (with_reducible refine rd_slS ?_ ?_; rotate_left)))

def sortV (b : Bool) : V := .str (if b then "name" else "number")
def optN : Option Nat → V | some i => .int i | none => .non
def spWrong : Sp := fun vs H Q _ => ∃ (l : Addr) (ws : List Str), vs = [.ref l] ∧ H l = some (.lst (ws.map V.str)) ∧ ws ≠ [] ∧ ws.length ≤ 2000 ∧ (∀ z ∈ ws, z.length ≤ 1000 ∧ Asc z) ∧ ∀ H', Same H H' → Q (optN (wrongL ws)) H'
section
variable {P : Program} {w : World} {K : PySem.W.Frag} {mg : Str → Option Value} {base : Heap}
theorem ok__law_wrong_line {f fR : Addr} {fd fdR : FuncData} (F : Fun K "_law_wrong_line" "_law_wrong_line" s__law_wrong_line f fd) (T : Tx K mg)
    (C__law_is_right : Cal P w K mg base 1 "_law_is_right" s__law_is_right ["_law_sort", "_law_word_here"] spRight fR fdR) : FnOk P w K mg base CX0 2 f fd ["_law_words"] spWrong := by
  refine F.ok sc__law_wrong_line (fun vs H Q E h => ?_) (fun cdv A outer s H vs Q E hr h => ?_)
  · obtain ⟨l, ws, rfl, _⟩ := h
    rfl
  · obtain ⟨l, ws, rfl, hl, nw, lw, aw, k⟩ := h
    have hu := hu_of hr
    refine ⟨_, (pss_cons (ps_set (i := 1) sc__law_wrong_line.nd rfl (by first | exact Or.inl rfl | exact Or.inr rfl) (pe_disp (pps_cons pe_str (pe_lst (pa_cons pe_str (pa_cons pe_str pa_nil))) (pps_cons pe_str (pe_lst (pa_cons pe_str pa_nil)) (pps_cons pe_str (pe_lst (pa_cons pe_str pa_nil)) (pps_cons pe_str (pe_lst (pa_cons pe_str (pa_cons pe_str pa_nil))) pps_nil)))) (by rfl) (by rfl) (fun z => by cases z) (by decide)))
      (pss_cons (ps_asg (pe_tup (pa_cons (pe_lst (pa_cons pe_str pa_nil)) (pa_cons (pe_lst pa_nil) pa_nil))) (pg_tup rfl (pgs_cons (pg_sub (pv 1) pe_str (set_dict hu)) (pgs_cons (pg_sub (pv 1) pe_str (set_dict hu)) pgs_nil))))
      (pss_cons (ps_if (pt_cmp (pc_dnotin hu (pe_ix (ix_listK (K := K) rfl) (pv 0) pe_int (fun _ _ => rfl)) (pv 1))) (pss_one (ps_ret pe_int)) pss_nil)
      (pss_cons (ps_set (i := 2) sc__law_wrong_line.nd rfl (by first | exact Or.inl rfl | exact Or.inr rfl) (pe_dget hu (pv 1) (pe_ix (ix_listK (K := K) rfl) (pv 0) pe_int (fun _ _ => rfl)) (fun _ _ => rfl)))
      (pss_cons (ps_for PassesOwn.never rfl (pi_range1 (by rfl) T.b_range (pa_cons (pe_callB cr_lenQ (by rfl) T.b_len (by decide +kernel) (pa_cons (pv 2) pa_nil)) pa_nil)) (pg_name (i := 3) sc__law_wrong_line.nd rfl (by first | exact Or.inl rfl | exact Or.inr rfl))
      (pss_one (ps_if (PW.pt (pw_or (pt_cmpR op_eq (pe_op op_add (pv 3) pe_int) (pe_callB cr_lenQ (by rfl) T.b_len (by decide +kernel) (pa_cons (pv 0) pa_nil)) (nomark _)) (pw_or1 (pt_not (pt_val (pe_call C__law_is_right.G (hr.mono (by decide)) (by rfl) C__law_is_right.g C__law_is_right.F.kp C__law_is_right.b .nil pass0 (pa_cons (pe_ix (ix_listK (K := K) rfl) (pv 2) (pv 3) (fun _ _ => rfl)) (pa_cons (pe_ix (ix_listK (K := K) rfl) (pv 0) (pe_op op_add (pv 3) pe_int) (fun _ _ => rfl)) pa_nil)))))))) (pss_one (ps_ret (pe_op op_add (pv 3) pe_int))) pss_nil)))
      (pss_one (ps_ret (pe_ifExp (pt_cmpR op_eq (pe_callB cr_lenQ (by rfl) T.b_len (by decide +kernel) (pa_cons (pv 0) pa_nil)) (pe_op op_add (pe_callB cr_lenQ (by rfl) T.b_len (by decide +kernel) (pa_cons (pv 2) pa_nil)) pe_int) (nomark _)) pe_non (pe_op op_add (pe_callB cr_lenQ (by rfl) T.b_len (by decide +kernel) (pa_cons (pv 2) pa_nil)) pe_int))))))))), ?_⟩
    walk_at "r"
    refine rd_disp fun d H1 n1 s1 h1 => ?_
    walk_at "r"
    refine new_lst (by decide) fun l2 H2 n2 s2 h2 => ?_
    walk_at "r"
    refine new_lst (by decide) fun l3 H3 n3 s3 h3 => ?_
    walk_at "r"
    refine new_lst (by decide) fun l4 H4 n4 s4 h4 => ?_
    walk_at "r"
    refine new_lst (by decide) fun l5 H5 n5 s5 h5 => ?_
    walk_at "r"
    refine disp_done [(.inr "open", .ref l2), (.inr "close", .ref l3), (.inr "move", .ref l4), (.inr "book", .ref l5)] (by walk_at "h") rfl (Nat.le_of_ble_eq_true rfl) fun H6 b6 h6 => ?_
    walk_at "r"
    refine new_lst (by decide) fun l7 H7 n7 s7 h7 => ?_
    walk_at "r"
    refine new_lst (by decide) fun l8 H8 n8 s8 h8 => ?_
    walk_at "r"
    refine new_tup (Nat.le_of_ble_eq_true rfl) fun t9 H9 n9 s9 h9 => ?_
    walk_at "r"
    refine rd_gtup h9 rfl ?_
    walk_at "r"
    refine setD_s (by walk_at "h") (Nat.le_of_ble_eq_true rfl) fun H10 b10 h10 => ?_
    walk_at "r"
    refine setD_s h10 (Nat.le_of_ble_eq_true rfl) fun H11 b11 h11 => ?_
    walk_at "r"
    have sA : Same H H11 := by walk_at "same"
    have hl11 : H11 l = some (.lst (ws.map V.str)) := by walk_at "h"
    obtain ⟨w0, rest, rfl⟩ : ∃ w0 rest, ws = w0 :: rest := by
      cases ws with
      | nil => exact absurd rfl nw
      | cons w0 rest => exact ⟨w0, rest, rfl⟩
    refine rd_ixL (sqL_of hl11) (atI_zero _ _) ?_
    walk_at "r"
    refine dnotin_s h11 ?_
    have kk : valV (putK (putK (mergeK [] [((Sum.inr "open" : Key), V.ref l2), (.inr "close", .ref l3), (.inr "move", .ref l4), (.inr "book", .ref l5)]) (.inr "restart") (.ref l7)) (.inr "settle") (.ref l8)) (.inr w0) = none ∧ kindsOf w0 = none ∨
        ∃ a bs, valV (putK (putK (mergeK [] [((Sum.inr "open" : Key), V.ref l2), (.inr "close", .ref l3), (.inr "move", .ref l4), (.inr "book", .ref l5)]) (.inr "restart") (.ref l7)) (.inr "settle") (.ref l8)) (.inr w0) = some (.ref a) ∧ kindsOf w0 = some bs ∧ H11 a = some (.lst (bs.map sortV)) ∧ bs.length ≤ 2 := by
      by_cases c1 : w0 = "open"
      · subst c1
        exact .inr ⟨l2, [true, true], by kernel_rfl, by decide +kernel, (show H11 l2 = some (.lst [V.str "name", V.str "name"]) by walk_at "h"), by decide⟩
      by_cases c2 : w0 = "close"
      · subst c2
        exact .inr ⟨l3, [false], by kernel_rfl, by decide +kernel, (show H11 l3 = some (.lst [V.str "number"]) by walk_at "h"), by decide⟩
      by_cases c3 : w0 = "move"
      · subst c3
        exact .inr ⟨l4, [true], by kernel_rfl, by decide +kernel, (show H11 l4 = some (.lst [V.str "name"]) by walk_at "h"), by decide⟩
      by_cases c4 : w0 = "book"
      · subst c4
        exact .inr ⟨l5, [true, true], by kernel_rfl, by decide +kernel, (show H11 l5 = some (.lst [V.str "name", V.str "name"]) by walk_at "h"), by decide⟩
      by_cases c5 : w0 = "restart"
      · subst c5
        exact .inr ⟨l7, [true], by kernel_rfl, by decide +kernel, (show H11 l7 = some (.lst [V.str "name"]) by walk_at "h"), by decide⟩
      by_cases c6 : w0 = "settle"
      · subst c6
        exact .inr ⟨l8, [], by kernel_rfl, by decide +kernel, (show H11 l8 = some (.lst []) by walk_at "h"), by decide⟩
      refine .inl ⟨?_, ?_⟩
      · have n : ∀ {x y : Str}, ¬ x = y → ¬ (Sum.inr x : Key) = .inr y := fun h z => h (by injection z)
        simp only [valV_put, mergeK, List.foldl, n c1, n c2, n c3, n c4, n c5, n c6, if_false, valV_nil]
      · simp only [kindsOf, c1, c2, c3, c4, c5, c6, if_false]
    rcases kk with ⟨e1, e2⟩ | ⟨a, bs, e1, e2, ha, hb2⟩
    · rw [e1]
      walk_at "r"
      refine rd_iteT rfl ?_
      walk_at "r"
      have e : wrongL (w0 :: rest) = some 0 := by simp only [wrongL, e2]
      have k1 := k H11 sA
      rw [e] at k1
      exact k1
    · rw [e1]
      walk_at "r"
      refine rd_iteF rfl ?_
      walk_at "r"
      refine rd_ixL (sqL_of hl11) (atI_zero _ _) ?_
      walk_at "r"
      refine dget_s h11 e1 ?_
      walk_at "R"
      have eb : (bs.map sortV).length = bs.length := List.length_map _
      refine ⟨by omega, by omega, ?_⟩
      have ew : wrongL (w0 :: rest) = wrongW bs rest 1 := by simp only [wrongL, e2]
      refine for_range (lo := 0) (fun i σ' H' => ∃ v3, σ' = [some (.ref l), some (.ref d), some (.ref a), v3] ∧ Same H11 H' ∧ i ≤ rest.length ∧ wrongW (bs.drop i) (rest.drop i) (i + 1) = wrongW bs rest 1) ⟨none, rfl, Same.refl _, Nat.zero_le _, rfl⟩ (fun i σ' H2 hi I => ?_) (fun σ' H2 I => ?_)
      · obtain ⟨v3, rfl, sB, hir, hw⟩ := I
        have hi : i < bs.length := by omega
        have hbd : bs.drop i = bs[i] :: bs.drop (i + 1) := List.drop_eq_getElem_cons hi
        walk_at "R"
        have e1 : (w0 :: rest).length = rest.length + 1 := rfl
        have ek : (0 : Int) + (i : Int) + 1 = ((i + 1 : Nat) : Int) := by omega
        refine rd_dec (fun c1 => ?_) (fun c1 => ?_)
        · walk_at "r"
          rw [List.length_map, e1] at c1
          have e0 : rest.drop i = [] := List.drop_eq_nil_of_le (by omega)
          rw [hbd, e0] at hw
          have k2 := k H2 (by walk_at "same")
          rw [ew, ← hw] at k2
          rw [ek]
          exact k2
        · walk_at "r"
          rw [List.length_map, e1] at c1
          have hr2 : i < rest.length := by omega
          have hrd : rest.drop i = rest[i] :: rest.drop (i + 1) := List.drop_eq_getElem_cons hr2
          have hz := aw rest[i] (List.mem_cons_of_mem _ (List.getElem_mem hr2))
          refine rd_ixL (sqL_of (by walk_at "h")) (atI_map (f := sortV) (n := i) (by omega) (List.getElem?_eq_getElem hi)) ?_
          walk_at "r"
          refine rd_ixL (sqL_of (by walk_at "h")) (atI_map (f := V.str) (n := i + 1) (by omega) (show (w0 :: rest)[i + 1]? = some rest[i] from List.getElem?_eq_getElem hr2)) ?_
          walk_at "r"
          refine ⟨bs[i], rest[i], rfl, hz.1, hz.2, fun H3 s3 => ?_⟩
          walk_at "r"
          rw [hbd, hrd] at hw
          refine rd_ite (fun c2 => ?_) (fun c2 => ?_)
          · walk_at "r"
            rw [Bool.not_eq_true'] at c2
            rw [wrong_bad c2] at hw
            have k2 := k H3 (by walk_at "same")
            rw [ew, ← hw] at k2
            rw [ek]
            exact k2
          · walk_at "r"
            rw [Bool.not_eq_false'] at c2
            rw [wrong_go c2] at hw
            exact ⟨_, rfl, by walk_at "same", hr2, hw⟩
      · obtain ⟨v3, rfl, sB, hir, hw⟩ := I
        walk_at "R"
        have en : (((w0 :: rest).map V.str).length : Int) = ((rest.length + 1 : Nat) : Int) := by simp
        have en2 : ((bs.map sortV).length : Int) + 1 = ((bs.length + 1 : Nat) : Int) := by simp
        rw [show ((bs.map sortV).length : Int).toNat = bs.length by simp, List.drop_length] at hw
        have k2 := k H2 (by walk_at "same")
        rw [ew, ← hw] at k2
        rw [show ((bs.map sortV).length : Int).toNat = bs.length by simp] at hir
        refine rd_dec (fun c1 => ?_) (fun c1 => ?_)
        · walk_at "R"
          rw [en, en2] at c1
          have e0 : rest.drop bs.length = [] := List.drop_eq_nil_of_le (by omega)
          rw [e0] at k2
          exact k2
        · walk_at "R"
          rw [en, en2] at c1
          have hlt : bs.length < rest.length := by omega
          rw [List.drop_eq_getElem_cons hlt] at k2
          rw [en2]
          exact k2
end

end My

namespace My
open PySem PySem.Spec PyProof.Rows L2 EE

local macro_rules | `(tactic| walk_at "sq") => `(tactic| first | assumption | exact sqL_of (by assumption) | exact sqT_of (by assumption))
local macro_rules | `(tactic| walk_at "same") => `(tactic| first
  | assumption
  | exact Same.refl _
  | (refine Same.trans ?_ (by assumption); walk_at "same")
  | (refine same_past ?_ (by assumption) ?_; (walk_at "same"); (walk_at "no")))
local macro_rules | `(tactic| walk_at "no") => `(tactic| first
  | assumption
  | (refine none_same ?_ (by assumption); walk_at "same")
  | (refine none_same (by assumption) ?_; walk_at "no")
  | (refine none_but (by assumption) ?_ ?_; (walk_at "n"); (walk_at "no")))
local macro_rules | `(tactic| walk_at "but") => `(tactic| first
  | assumption
  | exact But.refl _ _
  | (refine But.then ?_ (by assumption); walk_at "but")
  | (refine But.trans ?_ (by assumption); walk_at "but")
  | (refine but_past ?_ (by assumption) ?_; (walk_at "but"); (walk_at "no")))
local macro_rules | `(tactic| walk_at "hasp") => `(tactic| (repeat (first | exact ⟨_, _, by assumption⟩ | (refine hasPen_same (by assumption) ?_))))
local macro_rules | `(tactic| walk_at "hasc") => `(tactic| (repeat (first | exact ⟨_, _, by assumption⟩ | (refine hasCells_same (by assumption) ?_))))
local macro_rules | `(tactic| walk_at "pen") => `(tactic| (repeat (first | assumption | (refine PenAt.keep ?_ (by assumption)))))
local macro_rules | `(tactic| walk_at "has") => `(tactic| first
  | exact ⟨_, by assumption⟩
  | (refine has_same (by assumption) ?_; walk_at "has")
  | (refine has_but (by assumption) ?_ ?_; (walk_at "n"); (walk_at "has")))
local macro_rules | `(tactic| walk_at "n") => `(tactic| first
  | assumption
  | exact Ne.symm (by assumption)
  | (refine ne_free (by assumption) ?_; walk_at "has")
  | (refine ne_free' (by assumption) ?_; walk_at "has")
  | (refine pen_off (by assumption) ?_; walk_at "hasp"; done)
  | (refine Ne.symm (pen_off (by assumption) ?_); walk_at "hasp"; done)
  | (refine pen_off' (by assumption) ?_; walk_at "hasc"; done)
  | (refine Ne.symm (pen_off' (by assumption) ?_); walk_at "hasc"; done))
local macro_rules | `(tactic| walk_at "hh") => `(tactic| first
  | assumption
  | (refine get_same (by assumption) ?_; walk_at "hh")
  | (refine get_but (by assumption) (by walk_at "n") ?_; walk_at "hh"))
local macro_rules | `(tactic| walk_at "h") => `(tactic| first
  | ((repeat (first | assumption | (refine get_same (by assumption) ?_) | (refine get_but (by assumption) (by walk_at "n") ?_))); done)
  | walk_at "hh")
local macro_rules | `(tactic| walk_at "r") => `(tactic| repeat (first
  | (refine go ?_)
  | (with_reducible refine rd_mul ?_ ?_)
  | (with_reducible refine rd_mod ?_ ?_)
  | (with_reducible refine rd_fdiv ?_ ?_)
  | (with_reducible refine rd_pow ?_ ?_)
  | (with_reducible refine rd_strI ?_ ?_)
  | (with_reducible refine rd_addS ?_ ?_)
  | (with_reducible refine rd_lenS ?_ ?_)
  | (with_reducible refine rd_slS ?_ ?_)))
local macro_rules | `(tactic| walk_at "R") => `(tactic| repeat (first
  | (refine go ?_)
  | (with_reducible refine new_lstS fun _ _ _ _ _ => ?_)
  | (with_reducible refine new_lst (Nat.le_of_ble_eq_true rfl) fun _ _ _ _ _ => ?_)
  | (with_reducible refine new_tup (Nat.le_of_ble_eq_true rfl) fun _ _ _ _ _ => ?_)
  | ((with_reducible refine len_go ?_); first | (refine Or.inl ⟨_, sqL_of (by walk_at "h"), ?_⟩) | (refine Or.inr ⟨_, sqT_of (by walk_at "h"), ?_⟩))
  | ((with_reducible refine slT_go ?_); refine ⟨_, sqL_of (by walk_at "h"), fun _ _ _ _ _ => ?_⟩)
  | ((with_reducible refine slD_go ?_); refine ⟨_, sqL_of (by walk_at "h"), fun _ _ _ _ _ => ?_⟩)
  | ((with_reducible refine slD1_go ?_); refine ⟨_, sqL_of (by walk_at "h"), fun _ _ _ _ _ => ?_⟩)
  | ((with_reducible refine sl_go ?_); refine ⟨_, sqL_of (by walk_at "h"), fun _ _ _ _ _ => ?_⟩)
  | ((with_reducible refine cat_go ?_); refine catS_go (by walk_at "h") (by walk_at "h") ?_ fun _ _ _ _ _ => ?_; rotate_left)
  | ((with_reducible refine cat_go ?_); refine catV_go (by walk_at "h") (by walk_at "h") (Nat.le_of_ble_eq_true rfl) fun _ _ _ _ _ => ?_)
  | ((with_reducible refine cat_go ?_); refine catV_go (by walk_at "h") (by walk_at "h") ?_ fun _ _ _ _ _ => ?_; rotate_left)
  | ((with_reducible refine ixL_go ?_); refine ⟨_, sqL_of (by walk_at "h"), ?_⟩; refine ⟨_, atI_lit, ?_⟩)
  | (with_reducible refine rd_mul ?_ ?_; rotate_left)
  | (with_reducible refine rd_mod ?_ ?_; rotate_left)
  | (with_reducible refine rd_fdiv ?_ ?_; rotate_left)
  | (with_reducible refine rd_pow ?_ ?_; rotate_left)
  | (with_reducible refine rd_strI ?_ ?_; rotate_left)
  | (with_reducible refine rd_addS ?_ ?_; rotate_left)
  | (with_reducible refine rd_lenS ?_ ?_; rotate_left)
  | (with_reducible refine rd_slS ?_ ?_; rotate_left)))

def spDue : Sp := fun vs H Q _ => ∃ z : Str, vs = [.str z] ∧ z.length ≤ 1000 ∧ Asc z ∧ (∀ i k, read1 (rowsOf z) 0 = some (i, k) → ∀ p H', Same H H' → H' p = some (.tup [.int (i : Nat), .int (k : Nat)]) → Q (.ref p) H') ∧
  (read1 (rowsOf z) 0 = none → ∀ p ds H', Same H H' → H' p = some (.lst ds) → DeedsAt H' (rowsOf z) ds → Q (.ref p) H')
theorem item_int {z : Str} {i : Int} (h : itemR z = some i) : intText? z = some i ∧ z.length ≤ 640 := by
  unfold itemR at h
  cases hn : numR 6 z with
  | none => rw [hn] at h; cases h
  | some j =>
    rw [hn] at h
    have h : (if 0 ≤ j then some j else none) = some i := h
    by_cases h0 : 0 ≤ j
    · rw [if_pos h0] at h
      cases h
      obtain ⟨q1, q2⟩ := numR_nonneg hn h0
      have ed : digL z.cps.toList = z.cps.toList := by
        unfold digL
        split
        · rename_i ds e
          rw [e] at q1
          unfold okD at q1
          rw [Bool.and_eq_true] at q1
          have := allDg q1.2 45 List.mem_cons_self
          omega
        · rfl
      obtain ⟨i', e1, e2, e3⟩ := numR_good (m := 6) (z := z) (by decide) (by rw [ed]; exact q1) (by rw [ed]; exact q2)
      rw [hn] at e1
      cases e1
      exact ⟨e2, e3⟩
    · rw [if_neg h0] at h
      cases h
theorem wrongW_len : ∀ {bs : List Bool} {zs : List Str} {k : Nat}, wrongW bs zs k = none → bs.length = zs.length
  | [], [], _, _ => rfl
  | [], _ :: _, _, h => by cases h
  | _ :: _, [], _, h => by cases h
  | b :: bs, z :: zs, k, h => by
    cases c : okW b z with
    | true =>
      rw [wrong_go c] at h
      exact congrArg Nat.succ (wrongW_len h)
    | false =>
      rw [wrong_bad c] at h
      cases h
theorem kinds_all {z : Str} {bs : List Bool} (h : kindsOf z = some bs) : z = "close" ∧ bs = [false] ∨ ¬ z = "close" ∧ bs = bs.map fun _ => true := by
  unfold kindsOf at h
  by_cases c2 : z = "close"
  · subst c2
    rw [if_neg (by decide +kernel), if_pos rfl] at h
    cases h
    exact .inl ⟨rfl, rfl⟩
  · refine .inr ⟨c2, ?_⟩
    rw [if_neg c2] at h
    split at h
    · cases h; rfl
    · split at h
      · cases h; rfl
      · split at h
        · cases h; rfl
        · split at h
          · cases h; rfl
          · split at h
            · cases h; rfl
            · cases h
theorem args_plain : ∀ {bs : List Bool} {zs : List Str}, bs = bs.map (fun _ => true) → bs.length = zs.length → argsL bs zs = zs.map V.str
  | [], [], _, _ => rfl
  | [], _ :: _, _, h => by cases h
  | _ :: _, [], _, h => by cases h
  | b :: bs, z :: zs, e, h => by
    rw [List.map_cons] at e
    injection e with e1 e2
    subst e1
    have ih := args_plain e2 (Nat.succ.inj h)
    unfold argsL at ih ⊢
    rw [List.zipWith_cons_cons, ih]
    rfl
theorem deed_cases {w0 : Str} {rest : List Str} (h : wrongL (w0 :: rest) = none) : (∃ z1 i, w0 = "close" ∧ rest = [z1] ∧ itemR z1 = some i ∧ deedL (w0 :: rest) = [.str w0, .int i]) ∨ ¬ w0 = "close" ∧ deedL (w0 :: rest) = (w0 :: rest).map V.str := by
  unfold wrongL at h
  cases hk : kindsOf w0 with
  | none => simp only [hk] at h; cases h
  | some bs =>
    simp only [hk] at h
    have hl := wrongW_len h
    have ed : deedL (w0 :: rest) = .str w0 :: argsL bs rest := by simp only [deedL, hk, Option.getD_some]
    rcases kinds_all hk with ⟨e1, rfl⟩ | ⟨e1, e2⟩
    · match rest, hl with
      | [z1], _ =>
        have c : okW false z1 = true := by
          cases c : okW false z1 with
          | true => rfl
          | false => rw [wrong_bad c] at h; cases h
        obtain ⟨i, hi⟩ := Option.isSome_iff_exists.mp (show (itemR z1).isSome = true from c)
        refine .inl ⟨z1, i, e1, rfl, hi, ?_⟩
        rw [ed]
        show [V.str w0, optI (itemR z1)] = _
        rw [hi]
        rfl
    · exact .inr ⟨e1, by rw [ed, args_plain e2 hl]; rfl⟩
section
variable {P : Program} {w : World} {K : PySem.W.Frag} {mg : Str → Option Value} {base : Heap}
theorem ok__law_due {f fR : Addr} {fd fdR : FuncData} (F : Fun K "_law_due" "_law_due" s__law_due f fd) (T : Tx K mg)
    (C__law_wrong_line : Cal P w K mg base 2 "_law_wrong_line" s__law_wrong_line ["_law_words"] spWrong fR fdR) : FnOk P w K mg base CX0 3 f fd ["_law_page"] spDue := by
  refine F.ok sc__law_due (fun vs H Q E h => ?_) (fun cdv A outer s H vs Q E hr h => ?_)
  · obtain ⟨z, rfl, _⟩ := h
    rfl
  · obtain ⟨z, rfl, zl, za, kBad, kGood⟩ := h
    have hu := hu_of hr
    refine ⟨_, (pss_cons (ps_par (i := 1) (j := 2) rfl sc__law_due.nd rfl rfl (by decide) rfl rfl (pa_cons (pe_lst pa_nil) (pa_cons (pe_ifExp (pt_cmpR op_ne (pv 0) pe_str (nomark _)) (pe_split (pv 0) pe_str) (pe_lst pa_nil)) pa_nil)) rfl)
      (pss_cons (ps_for PassesOwn.never rfl (pi_range1 (by rfl) T.b_range (pa_cons (pe_callB cr_lenQ (by rfl) T.b_len (by decide +kernel) (pa_cons (pv 2) pa_nil)) pa_nil)) (pg_name (i := 3) sc__law_due.nd rfl (by first | exact Or.inl rfl | exact Or.inr rfl))
      (pss_cons (ps_set (i := 4) sc__law_due.nd rfl (by first | exact Or.inl rfl | exact Or.inr rfl) (pe_split (pe_ix (ix_listK (K := K) rfl) (pv 2) (pv 3) (fun _ _ => rfl)) pe_str))
      (pss_cons (ps_set (i := 5) sc__law_due.nd rfl (by first | exact Or.inl rfl | exact Or.inr rfl) (pe_call C__law_wrong_line.G (hr.mono (by decide)) (by rfl) C__law_wrong_line.g C__law_wrong_line.F.kp C__law_wrong_line.b .nil pass0 (pa_cons (pv 4) pa_nil)))
      (pss_cons (ps_if (pt_cmpR or_notN (pv 5) pe_non (nomark _)) (pss_one (ps_ret (pe_tup (pa_cons (pv 3) (pa_cons (pv 5) pa_nil))))) pss_nil)
      (pss_one (ps_expr (pe_bm PySem.F.plainAttrs_list PySem.F.slot_list_append PySem.F.type_list_append mt_append (pv 1) (pa_cons (pe_ifExp (pt_cmpR op_eq (pe_ix (ix_listK (K := K) rfl) (pv 4) pe_int (fun _ _ => rfl)) pe_str (nomark _)) (pe_tup (pa_cons (pe_ix (ix_listK (K := K) rfl) (pv 4) pe_int (fun _ _ => rfl)) (pa_cons (pe_callTy call_int_str (by rfl) T.b_int (by decide +kernel) (pa_cons (pe_ix (ix_listK (K := K) rfl) (pv 4) pe_int (fun _ _ => rfl)) pa_nil)) pa_nil))) (pe_callTy cr_tupOf (by rfl) T.b_tuple (by decide +kernel) (pa_cons (pv 4) pa_nil))) pa_nil))))))))
      (pss_one (ps_ret (pv 1))))), ?_⟩
    walk_at "r"
    refine new_lst (by decide) fun fo H1 n1 s1 h1 => ?_
    walk_at "r"
    refine rd_ifJ (fun v H' => ∃ (l : Addr) (lines : List Str), v = .ref l ∧ Same H1 H' ∧ H1 l = none ∧ H' l = some (.lst (lines.map V.str)) ∧ rowsOf z = lines.map (fun r => Txt.split r " ") ∧ lines.length ≤ 2000 ∧ ∀ r ∈ lines, r.length ≤ 1000 ∧ Asc r) (fun Q1 hQ c => ?_) (fun Q1 hQ c => ?_) ?_
    · walk_at "r"
      refine split_at (Nat.le_trans zl (by decide)) (by decide +kernel) fun l H2 n2 s2 h2 => ?_
      refine hQ _ _ ⟨l, _, rfl, s2, n2, h2, if_neg (by simpa using c), by have := split_le z "\n"; omega, fun r hr => ⟨Nat.le_trans (part_short hr) zl, asc_part za hr⟩⟩
    · walk_at "r"
      refine new_lst (by decide) fun l H2 n2 s2 h2 => ?_
      exact hQ _ _ ⟨l, [], rfl, s2, n2, h2, if_pos (by simpa using c), by decide, fun r hr => by cases hr⟩
    · rintro v H2 ⟨l, lines, rfl, s2, n2, h2, er, few, short⟩
      walk_at "R"
      have el : (lines.map V.str).length = lines.length := List.length_map _
      have elr : (rowsOf z).length = lines.length := by rw [er, List.length_map]
      refine ⟨by omega, by omega, ?_⟩
      refine for_range (lo := 0) (fun i σ' H' => ∃ v3 v4 v5 ds, σ' = [some (.str z), some (.ref fo), some (.ref l), v3, v4, v5] ∧ But fo H2 H' ∧ H' fo = some (.lst ds) ∧ DeedsAt H' ((rowsOf z).take i) ds ∧ read1 ((rowsOf z).drop i) i = read1 (rowsOf z) 0) ⟨none, none, none, [], rfl, But.refl _ _, by walk_at "h", .nil, rfl⟩ (fun i σ' H3 hi I => ?_) (fun σ' H3 I => ?_)
      · obtain ⟨v3, v4, v5, ds, rfl, b3, h3, da, hr3⟩ := I
        have hi : i < lines.length := by omega
        have hi2 : i < (rowsOf z).length := by omega
        have hrow : (rowsOf z)[i]? = some (Txt.split lines[i] " ") := by rw [er, List.getElem?_map, List.getElem?_eq_getElem hi]; rfl
        have hdr : (rowsOf z).drop i = Txt.split lines[i] " " :: (rowsOf z).drop (i + 1) := by
          rw [List.drop_eq_getElem_cons hi2, (List.getElem?_eq_some_iff.mp hrow).2]
        obtain ⟨sl, sa⟩ := short lines[i] (List.getElem_mem hi)
        rw [hdr] at hr3
        walk_at "r"
        refine rd_ixL (sqL_of (by walk_at "h")) (atI_map (f := V.str) (n := i) (by omega) (List.getElem?_eq_getElem hi)) ?_
        walk_at "r"
        refine split_at (Nat.le_trans sl (by decide)) (by decide +kernel) fun wl H4 n4 s4 h4 => ?_
        walk_at "r"
        have hw : ∀ q ∈ Txt.split lines[i] " ", q.length ≤ 1000 ∧ Asc q := fun q hq => ⟨Nat.le_trans (part_short hq) sl, asc_part sa hq⟩
        have nw := split_ne lines[i] " "
        have lw : (Txt.split lines[i] " ").length ≤ 2000 := by have := split_le lines[i] " "; omega
        refine ⟨wl, _, rfl, h4, nw, lw, hw, fun H5 s5 => ?_⟩
        generalize Txt.split lines[i] " " = ws at *
        cases hwl : wrongL ws with
        | some kw =>
          walk_at "r"
          refine rd_iteT rfl ?_
          walk_at "r"
          refine new_tup (by show 2 ≤ sizeLine; decide) fun p H6 n6 s6 h6 => ?_
          rw [read1_bad hwl] at hr3
          refine kBad i kw hr3.symm p H6 (by walk_at "same") ?_
          rw [h6, Int.zero_add]
          rfl
        | none =>
          walk_at "r"
          refine rd_iteF rfl ?_
          walk_at "r"
          obtain ⟨w0, rest, rfl⟩ : ∃ w0 rest, ws = w0 :: rest := by
            cases ws with
            | nil => exact absurd rfl nw
            | cons w0 rest => exact ⟨w0, rest, rfl⟩
          refine ⟨.inl ⟨rfl, _, .inl (.inl (show H5 fo = some (.lst ds) by walk_at "h"))⟩, ?_⟩
          walk_at "r"
          refine rd_ixL (sqL_of (show H5 wl = some (.lst ((w0 :: rest).map V.str)) by walk_at "h")) (atI_zero _ _) ?_
          walk_at "r"
          refine rd_ifJ (fun v H' => ∃ q, v = .ref q ∧ Same H5 H' ∧ H' q = some (.tup (deedL (w0 :: rest)))) (fun Q1 hQ c => ?_) (fun Q1 hQ c => ?_) ?_
          · have c := of_decide_eq_true c
            rcases deed_cases hwl with ⟨z1, j, e1, rfl, e3, e4⟩ | ⟨e1, _⟩
            · walk_at "r"
              refine rd_ixL (sqL_of (show H5 wl = some (.lst ([w0, z1].map V.str)) by walk_at "h")) (atI_zero _ _) ?_
              walk_at "r"
              refine rd_ixL (sqL_of (show H5 wl = some (.lst ([w0, z1].map V.str)) by walk_at "h")) (atI_map (f := V.str) (n := 1) rfl rfl) ?_
              walk_at "r"
              obtain ⟨q1, q2⟩ := item_int e3
              refine ⟨z1, j, rfl, q1, q2, ?_⟩
              walk_at "r"
              refine new_tup (by show 2 ≤ sizeLine; decide) fun p H6 n6 s6 h6 => ?_
              exact hQ _ _ ⟨p, rfl, s6, by rw [e4]; exact h6⟩
            · exact absurd c e1
          · have c := of_decide_eq_false c
            rcases deed_cases hwl with ⟨z1, j, e1, _⟩ | ⟨_, e4⟩
            · exact absurd e1 c
            · walk_at "r"
              refine ⟨wl, _, rfl, .inl ⟨sqL_of (show H5 wl = some (.lst ((w0 :: rest).map V.str)) by walk_at "h"), fun p np => ?_⟩⟩
              exact hQ _ _ ⟨p, rfl, same_new np, by rw [e4]; exact upd_same⟩
          · rintro v H6 ⟨q, rfl, s6, h6⟩
            walk_at "r"
            have dl : ds.length ≤ 2000 := by rw [da.len]; have := List.length_take_le' i (rowsOf z); omega
            refine rd_app2 (by walk_at "h") (by omega) fun H7 b7 h7 => ?_
            walk_at "r"
            have sB : Same H3 H6 := by walk_at "same"
            have h6f : H6 fo = some (.lst ds) := by walk_at "h"
            refine ⟨_, _, _, _, rfl, by walk_at "but", h7, ?_, ?_⟩
            · rw [List.take_add_one, hrow]
              have off : ∀ q us, H6 q = some (.tup us) → H7 q = some (.tup us) := fun q us e => b7 _ _ (fun z => by rw [z, h6f] at e; cases e) e
              exact (da.to fun q us e => off q us (sB _ _ e)).snoc (off _ _ h6)
            · rw [← hr3, read1_go hwl]
      · obtain ⟨v3, v4, v5, ds, rfl, b3, h3, da, hr3⟩ := I
        have et : ((lines.map V.str).length : Int).toNat = lines.length := by omega
        rw [et, ← elr, List.drop_length] at hr3
        rw [et, ← elr, List.take_length] at da
        walk_at "r"
        exact kGood hr3.symm fo ds H3 (by walk_at "same") h3 da
end

end My

namespace My
open PySem PySem.Spec PyProof.Rows L2 EE

local macro_rules | `(tactic| walk_at "sq") => `(tactic| first | assumption | exact sqL_of (by assumption) | exact sqT_of (by assumption))
local macro_rules | `(tactic| walk_at "same") => `(tactic| first
  | assumption
  | exact Same.refl _
  | (refine Same.trans ?_ (by assumption); walk_at "same")
  | (refine same_past ?_ (by assumption) ?_; (walk_at "same"); (walk_at "no")))
local macro_rules | `(tactic| walk_at "no") => `(tactic| first
  | assumption
  | (refine none_same ?_ (by assumption); walk_at "same")
  | (refine none_same (by assumption) ?_; walk_at "no")
  | (refine none_but (by assumption) ?_ ?_; (walk_at "n"); (walk_at "no")))
local macro_rules | `(tactic| walk_at "but") => `(tactic| first
  | assumption
  | exact But.refl _ _
  | (refine But.then ?_ (by assumption); walk_at "but")
  | (refine But.trans ?_ (by assumption); walk_at "but")
  | (refine but_past ?_ (by assumption) ?_; (walk_at "but"); (walk_at "no")))
local macro_rules | `(tactic| walk_at "hasp") => `(tactic| (repeat (first | exact ⟨_, _, by assumption⟩ | (refine hasPen_same (by assumption) ?_))))
local macro_rules | `(tactic| walk_at "hasc") => `(tactic| (repeat (first | exact ⟨_, _, by assumption⟩ | (refine hasCells_same (by assumption) ?_))))
local macro_rules | `(tactic| walk_at "pen") => `(tactic| (repeat (first | assumption | (refine PenAt.keep ?_ (by assumption)))))
local macro_rules | `(tactic| walk_at "has") => `(tactic| first
  | exact ⟨_, by assumption⟩
  | (refine has_same (by assumption) ?_; walk_at "has")
  | (refine has_but (by assumption) ?_ ?_; (walk_at "n"); (walk_at "has")))
local macro_rules | `(tactic| walk_at "n") => `(tactic| first
  | assumption
  | exact Ne.symm (by assumption)
  | (refine ne_free (by assumption) ?_; walk_at "has")
  | (refine ne_free' (by assumption) ?_; walk_at "has")
  | (refine pen_off (by assumption) ?_; walk_at "hasp"; done)
  | (refine Ne.symm (pen_off (by assumption) ?_); walk_at "hasp"; done)
  | (refine pen_off' (by assumption) ?_; walk_at "hasc"; done)
  | (refine Ne.symm (pen_off' (by assumption) ?_); walk_at "hasc"; done))
local macro_rules | `(tactic| walk_at "hh") => `(tactic| first
  | assumption
  | (refine get_same (by assumption) ?_; walk_at "hh")
  | (refine get_but (by assumption) (by walk_at "n") ?_; walk_at "hh"))
local macro_rules | `(tactic| walk_at "h") => `(tactic| first
  | ((repeat (first | assumption | (refine get_same (by assumption) ?_) | (refine get_but (by assumption) (by walk_at "n") ?_))); done)
  | walk_at "hh")
local macro_rules | `(tactic| walk_at "r") => `(tactic| repeat (first
  | (refine go ?_)
  | (with_reducible refine rd_mul ?_ ?_)
  | (with_reducible refine rd_mod ?_ ?_)
  | (with_reducible refine rd_fdiv ?_ ?_)
  | (with_reducible refine rd_pow ?_ ?_)
  | (with_reducible refine rd_strI ?_ ?_)
  | (with_reducible refine rd_addS ?_ ?_)
  | (with_reducible refine rd_lenS ?_ ?_)
  | (with_reducible refine rd_slS ?_ ?_)))
local macro_rules | `(tactic| walk_at "R") => `(tactic| repeat (first
  | (refine go ?_)
  | (with_reducible refine new_lstS fun _ _ _ _ _ => ?_)
  | (with_reducible refine new_lst (Nat.le_of_ble_eq_true rfl) fun _ _ _ _ _ => ?_)
  | (with_reducible refine new_tup (Nat.le_of_ble_eq_true rfl) fun _ _ _ _ _ => ?_)
  | ((with_reducible refine len_go ?_); first | (refine Or.inl ⟨_, sqL_of (by walk_at "h"), ?_⟩) | (refine Or.inr ⟨_, sqT_of (by walk_at "h"), ?_⟩))
  | ((with_reducible refine slT_go ?_); refine ⟨_, sqL_of (by walk_at "h"), fun _ _ _ _ _ => ?_⟩)
  | ((with_reducible refine slD_go ?_); refine ⟨_, sqL_of (by walk_at "h"), fun _ _ _ _ _ => ?_⟩)
  | ((with_reducible refine slD1_go ?_); refine ⟨_, sqL_of (by walk_at "h"), fun _ _ _ _ _ => ?_⟩)
  | ((with_reducible refine sl_go ?_); refine ⟨_, sqL_of (by walk_at "h"), fun _ _ _ _ _ => ?_⟩)
  | ((with_reducible refine cat_go ?_); refine catS_go (by walk_at "h") (by walk_at "h") ?_ fun _ _ _ _ _ => ?_; rotate_left)
  | ((with_reducible refine cat_go ?_); refine catV_go (by walk_at "h") (by walk_at "h") (Nat.le_of_ble_eq_true rfl) fun _ _ _ _ _ => ?_)
  | ((with_reducible refine cat_go ?_); refine catV_go (by walk_at "h") (by walk_at "h") ?_ fun _ _ _ _ _ => ?_; rotate_left)
  | ((with_reducible refine ixL_go ?_); refine ⟨_, sqL_of (by walk_at "h"), ?_⟩; refine ⟨_, atI_lit, ?_⟩)
  | (with_reducible refine rd_mul ?_ ?_; rotate_left)
  | (with_reducible refine rd_mod ?_ ?_; rotate_left)
  | (with_reducible refine rd_fdiv ?_ ?_; rotate_left)
  | (with_reducible refine rd_pow ?_ ?_; rotate_left)
  | (with_reducible refine rd_strI ?_ ?_; rotate_left)
  | (with_reducible refine rd_addS ?_ ?_; rotate_left)
  | (with_reducible refine rd_lenS ?_ ?_; rotate_left)
  | (with_reducible refine rd_slS ?_ ?_; rotate_left)))

open LamX
def spHeard (P1 : Addr) : Sp := fun vs H Q _ => ∃ x, vs = [x] ∧ Th H x ∧ Tabs (tabT P1) H ∧ (isStrV x = false → ∀ p H', ExtN H H' → Tabs (tabT P1) H' → H' p = some (.tup [.int 0, .int 0]) → Q (.ref p) H') ∧
  ∀ z, x = .str z → (∀ i k, read1 (rowsOf z) 0 = some (i, k) → ∀ p H', ExtN H H' → Tabs (tabT P1) H' → H' p = some (.tup [.int (i : Nat), .int (k : Nat)]) → Q (.ref p) H') ∧
    (read1 (rowsOf z) 0 = none → ∀ p ds H', NewX H p → ExtN H H' → Tabs (tabT P1) H' → H' p = some (.lst ds) → DeedsAt H' (rowsOf z) ds → Q (.ref p) H')
theorem spRead_by {CT P1 : Addr} {x : V} {H : Hp} {Q : VK} {E : XK} (hx : Th H x) (tT : Tabs (tabT P1) H) (bad : ∀ i k : Nat, (isStrV x = false ∧ i = 0 ∧ k = 0 ∨ ∃ z, x = .str z ∧ read1 (rowsOf z) 0 = some (i, k)) → RzN (tabT P1) CT E i k H)
    (good : ∀ z, x = .str z → read1 (rowsOf z) 0 = none → ∀ p ds H', ExtN H H' → Tabs (tabT P1) H' → H' p = some (.tup ds) → DeedsAt H' (rowsOf z) ds → Q (.ref p) H') : spRead CT P1 [x] H Q E :=
  ⟨x, rfl, hx, tT, fun h => bad 0 0 (.inl ⟨h, rfl, rfl⟩), fun z e => ⟨fun i k h => bad i k (.inr ⟨z, e, h⟩), good z e⟩⟩
section
variable {P : Program} {w : World} {K : PySem.W.Frag} {mg : Str → Option Value} {base : Heap} {CT P1 CN CM CD fIT : Addr} {fdIT : FuncData}
theorem ok__law_heard {f fR : Addr} {fd fdR : FuncData} (F : Fun K "_law_heard" "_law_heard" s__law_heard f fd) (T : Tx K mg)
    (C_read_story : CalX P w K mg base 7 "read_story" s_read_story ["text"] (spRead CT P1) fR fdR)
    (E_NetError : GlC mg "NetError" CN) (E_MissingError : GlC mg "MissingError" CM) (E_InvalidDeed : GlC mg "InvalidDeed" CD)
    (E_InvalidText : Err P w K mg base "InvalidText" CT fIT fdIT ["line", "word"] (spI2 K CT "line" "word"))
    (x1 : PySem.W.exmAny K (.ref CT) [.ref CN, .ref CM] = some true) (x2 : PySem.W.kitOne K (.ref CT) (.ref CT) = some true) (x3 : PySem.W.kitAny K (.ref CT) [.ref CD, .ref CM] = some false) :
    FnOk P w K mg base CX0 8 f fd ["_law_value"] (spHeard P1) := by
  refine F.ok sc__law_heard (fun vs H Q E h => ?_) (fun cdv A outer s H vs Q E hr h => ?_)
  · obtain ⟨z, rfl, _⟩ := h
    rfl
  · obtain ⟨x, rfl, hx, tT, kOdd, kStr⟩ := h
    have hu := hu_of hr
    refine ⟨_, (pss_cons (ps_set (i := 1) sc__law_heard.nd rfl (by first | exact Or.inl rfl | exact Or.inr rfl) pe_non)
      (pss_cons (ps_tryV (i := 3) rfl rfl rfl sc__law_heard.nd rfl rfl ⟨by rfl, by decide, .inl E_NetError.g⟩ ⟨by rfl, by decide, .inl E_MissingError.g⟩ L2.takes0 (fun W pn xe tk po => (pss_cons (ps_set (i := 2) sc__law_heard.nd rfl (by first | exact Or.inl rfl | exact Or.inr rfl) (pe_callS C_read_story.G (hr.mono (by decide)) (by rfl) C_read_story.g C_read_story.F.kp C_read_story.b (fun σ => passAt tk σ) (pa_cons (pv 0) pa_nil)))
      (pss_one (ps_ret (pe_ifExp (pt_val (pe_callB (crK rIsi (K := K) rfl call_isi) (by rfl) T.b_isinstance (by decide +kernel) (pa_cons (pv 2) (pa_cons (pe_bltn (v := .ty "tuple") (by rfl) T.b_tuple (by decide +kernel) rfl) pa_nil)))) (pe_callTy (crK rListOf (K := K) rfl cr_listOf) (by rfl) T.b_list (by decide +kernel) (pa_cons (pv 2) pa_nil)) pe_str))))) (fun a oe cls d pn hz hf => (pss_one (ps_set (i := 1) sc__law_heard.nd rfl (by first | exact Or.inl rfl | exact Or.inr rfl) (pv 3)))))
      (pss_cons (ps_if (PW.pt (pw_or (pt_not (pt_val (pe_callB call_isW (by rfl) T.b_isinstance (by decide +kernel) (pa_cons (pv 1) (pa_cons (pe_glob (v := .ref _) (by rfl) E_InvalidText.g rfl) pa_nil))))) (pw_or1 (pt_val (pe_callB call_isWT (by rfl) T.b_isinstance (by decide +kernel) (pa_cons (pv 1) (pa_cons (pe_tup (pa_cons (pe_glob (v := .ref _) (by rfl) E_InvalidDeed.g rfl) (pa_cons (pe_glob (v := .ref _) (by rfl) E_MissingError.g rfl) pa_nil))) pa_nil))))))) (pss_one (ps_ret pe_str)) pss_nil)
      (pss_one (ps_ret (pe_tup (pa_cons (pe_xw (pv 1)) (pa_cons (pe_xw (pv 1)) pa_nil)))))))), ?_⟩
    walk_at "r"
    have kT : ∀ i k : Nat, (isStrV x = false ∧ i = 0 ∧ k = 0 ∨ ∃ z, x = .str z ∧ read1 (rowsOf z) 0 = some (i, k)) → ∀ p H', ExtN H H' → Tabs (tabT P1) H' → H' p = some (.tup [.int (i : Nat), .int (k : Nat)]) → Q (.ref p) H' := fun i k h => by
      rcases h with ⟨h, rfl, rfl⟩ | ⟨z, e, h⟩
      · exact kOdd h
      · exact (kStr z e).1 i k h
    refine spRead_by hx tT (fun i k hc d H1 x1N t1 h1 => ?_) (fun z e hn p ds H1 x1N t1 h1 da => ?_)
    · refine ⟨true, x1, fun _ a na => ?_, fun q => Bool.noConfusion q⟩
      walk_at "r"
      intro na2
      have s2 := same_new (o := exw a (.ref CT) (some d)) na
      have hw : ExW (upd H1 a (exw a (.ref CT) (some d))) CT (.ref a) [("word", .int k), ("line", .int i)] := ⟨a, d, rfl, upd_same, s2 _ _ h1⟩
      have t2 := t1.ext s2
      have x2N : ExtN H (upd H1 a (exw a (.ref CT) (some d))) := fun b o e n => s2 _ _ (x1N b o e n)
      generalize upd H1 a (exw a (.ref CT) (some d)) = H2 at *
      walk_at "r"
      refine isw_at hw E_InvalidText.T x2 ?_
      walk_at "r"
      refine new_tup (by show 2 ≤ sizeLine; decide) fun tp H3 n3 s3 h3 => ?_
      walk_at "r"
      refine iswt_two (hw.keep s3) h3 E_InvalidText.T x3 ?_
      walk_at "r"
      refine xw_at (hw.keep s3) E_InvalidText.T (E_InvalidText.n "line" (by simp)) rfl ?_
      walk_at "r"
      refine xw_at (hw.keep s3) E_InvalidText.T (E_InvalidText.n "word" (by simp)) rfl ?_
      walk_at "r"
      refine new_tup (by show 2 ≤ sizeLine; decide) fun p H4 n4 s4 h4 => ?_
      have s5 := s3.trans s4
      exact kT i k hc p H4 (fun b o e n => s5 _ _ (x2N b o e n)) (t2.ext s5) h4
    · walk_at "r"
      obtain ⟨t, ty, e1, e2, e3⟩ := (Th.tup (H := H1) h1).ty (K := K)
      refine rd_isi (.base (.tup h1)) (show kitB "tuple" "tuple" = some true by decide +kernel) ?_
      walk_at "r"
      refine rd_listOfT (sqT_of h1) fun l H2 n2 s2 h2 => ?_
      exact (kStr z e).2 hn l ds H2 (fun b o e n z => by have e2 := x1N b o e n; rw [z, n2] at e2; cases e2) (fun b o e n => s2 _ _ (x1N b o e n)) (t1.ext s2) h2 (da.to fun q us e => s2 _ _ e)
end

end My

namespace My
open PySem PySem.Spec PyProof.Rows L2 EE

local macro_rules | `(tactic| walk_at "sq") => `(tactic| first | assumption | exact sqL_of (by assumption) | exact sqT_of (by assumption))
local macro_rules | `(tactic| walk_at "same") => `(tactic| first
  | assumption
  | exact Same.refl _
  | (refine Same.trans ?_ (by assumption); walk_at "same")
  | (refine same_past ?_ (by assumption) ?_; (walk_at "same"); (walk_at "no")))
local macro_rules | `(tactic| walk_at "no") => `(tactic| first
  | assumption
  | (refine none_same ?_ (by assumption); walk_at "same")
  | (refine none_same (by assumption) ?_; walk_at "no")
  | (refine none_but (by assumption) ?_ ?_; (walk_at "n"); (walk_at "no")))
local macro_rules | `(tactic| walk_at "but") => `(tactic| first
  | assumption
  | exact But.refl _ _
  | (refine But.then ?_ (by assumption); walk_at "but")
  | (refine But.trans ?_ (by assumption); walk_at "but")
  | (refine but_past ?_ (by assumption) ?_; (walk_at "but"); (walk_at "no")))
local macro_rules | `(tactic| walk_at "hasp") => `(tactic| (repeat (first | exact ⟨_, _, by assumption⟩ | (refine hasPen_same (by assumption) ?_))))
local macro_rules | `(tactic| walk_at "hasc") => `(tactic| (repeat (first | exact ⟨_, _, by assumption⟩ | (refine hasCells_same (by assumption) ?_))))
local macro_rules | `(tactic| walk_at "pen") => `(tactic| (repeat (first | assumption | (refine PenAt.keep ?_ (by assumption)))))
local macro_rules | `(tactic| walk_at "has") => `(tactic| first
  | exact ⟨_, by assumption⟩
  | (refine has_same (by assumption) ?_; walk_at "has")
  | (refine has_but (by assumption) ?_ ?_; (walk_at "n"); (walk_at "has")))
local macro_rules | `(tactic| walk_at "n") => `(tactic| first
  | assumption
  | exact Ne.symm (by assumption)
  | (refine ne_free (by assumption) ?_; walk_at "has")
  | (refine ne_free' (by assumption) ?_; walk_at "has")
  | (refine pen_off (by assumption) ?_; walk_at "hasp"; done)
  | (refine Ne.symm (pen_off (by assumption) ?_); walk_at "hasp"; done)
  | (refine pen_off' (by assumption) ?_; walk_at "hasc"; done)
  | (refine Ne.symm (pen_off' (by assumption) ?_); walk_at "hasc"; done))
local macro_rules | `(tactic| walk_at "hh") => `(tactic| first
  | assumption
  | (refine get_same (by assumption) ?_; walk_at "hh")
  | (refine get_but (by assumption) (by walk_at "n") ?_; walk_at "hh"))
local macro_rules | `(tactic| walk_at "h") => `(tactic| first
  | ((repeat (first | assumption | (refine get_same (by assumption) ?_) | (refine get_but (by assumption) (by walk_at "n") ?_))); done)
  | walk_at "hh")
local macro_rules | `(tactic| walk_at "r") => `(tactic| repeat (first
  | (refine go ?_)
  | (with_reducible refine rd_mul ?_ ?_)
  | (with_reducible refine rd_mod ?_ ?_)
  | (with_reducible refine rd_fdiv ?_ ?_)
  | (with_reducible refine rd_pow ?_ ?_)
  | (with_reducible refine rd_strI ?_ ?_)
  | (with_reducible refine rd_addS ?_ ?_)
  | (with_reducible refine rd_lenS ?_ ?_)
  | (with_reducible refine rd_slS ?_ ?_)))
local macro_rules | `(tactic| walk_at "R") => `(tactic| repeat (first
  | (refine go ?_)
  | (with_reducible refine new_lstS fun _ _ _ _ _ => ?_)
  | (with_reducible refine new_lst (Nat.le_of_ble_eq_true rfl) fun _ _ _ _ _ => ?_)
  | (with_reducible refine new_tup (Nat.le_of_ble_eq_true rfl) fun _ _ _ _ _ => ?_)
  | ((with_reducible refine len_go ?_); first | (refine Or.inl ⟨_, sqL_of (by walk_at "h"), ?_⟩) | (refine Or.inr ⟨_, sqT_of (by walk_at "h"), ?_⟩))
  | ((with_reducible refine slT_go ?_); refine ⟨_, sqL_of (by walk_at "h"), fun _ _ _ _ _ => ?_⟩)
  | ((with_reducible refine slD_go ?_); refine ⟨_, sqL_of (by walk_at "h"), fun _ _ _ _ _ => ?_⟩)
  | ((with_reducible refine slD1_go ?_); refine ⟨_, sqL_of (by walk_at "h"), fun _ _ _ _ _ => ?_⟩)
  | ((with_reducible refine sl_go ?_); refine ⟨_, sqL_of (by walk_at "h"), fun _ _ _ _ _ => ?_⟩)
  | ((with_reducible refine cat_go ?_); refine catS_go (by walk_at "h") (by walk_at "h") ?_ fun _ _ _ _ _ => ?_; rotate_left)
  | ((with_reducible refine cat_go ?_); refine catV_go (by walk_at "h") (by walk_at "h") (Nat.le_of_ble_eq_true rfl) fun _ _ _ _ _ => ?_)
  | ((with_reducible refine cat_go ?_); refine catV_go (by walk_at "h") (by walk_at "h") ?_ fun _ _ _ _ _ => ?_; rotate_left)
  | ((with_reducible refine ixL_go ?_); refine ⟨_, sqL_of (by walk_at "h"), ?_⟩; refine ⟨_, atI_lit, ?_⟩)
  | (with_reducible refine rd_mul ?_ ?_; rotate_left)
  | (with_reducible refine rd_mod ?_ ?_; rotate_left)
  | (with_reducible refine rd_fdiv ?_ ?_; rotate_left)
  | (with_reducible refine rd_pow ?_ ?_; rotate_left)
  | (with_reducible refine rd_strI ?_ ?_; rotate_left)
  | (with_reducible refine rd_addS ?_ ?_; rotate_left)
  | (with_reducible refine rd_lenS ?_ ?_; rotate_left)
  | (with_reducible refine rd_slS ?_ ?_; rotate_left)))

theorem join_len (sep : Str) : ∀ {ys : List Str}, ys ≠ [] → (Str.join sep ys).length + sep.length = (ys.map (·.length)).sum + ys.length * sep.length
  | [], h => absurd rfl h
  | [x], _ => by simp [Str.join]
  | x :: y :: r, _ => by
    have e : Str.join sep (x :: y :: r) = x ++ sep ++ Str.join sep (y :: r) := rfl
    have ih := join_len sep (ys := y :: r) (List.cons_ne_nil _ _)
    rw [e, len_append, len_append]
    simp only [List.map_cons, List.sum_cons, List.length_cons] at ih ⊢
    rw [Nat.add_mul (r.length + 1) 1]
    omega
/-- signs and ends of words -/
def wt (ws : List Str) : Nat := (ws.map (·.length)).sum + ws.length
theorem wt_app (a b : List Str) : wt (a ++ b) = wt a + wt b := by
  unfold wt
  rw [List.map_append, List.sum_append, List.length_append]
  omega
theorem wt_cons (x : Str) (b : List Str) : wt (x :: b) = x.length + 1 + wt b := by
  unfold wt
  rw [List.map_cons, List.sum_cons, List.length_cons]
  omega
theorem wt_nil : wt [] = 0 := rfl
theorem wt_split (z : Str) : wt (Txt.split z " ") = z.length + 1 := by
  have h := join_len (" " : Str) (split_ne z " ")
  rw [show Str.join (" " : Str) (Txt.split z " ") = z from PySem.StrLaws.join_split _ _] at h
  have e : (" " : Str).length = 1 := by decide +kernel
  unfold wt
  rw [e] at h
  omega
theorem wt_take_drop (k : Nat) (ws : List Str) : wt (ws.take k) + wt (ws.drop k) = wt ws := by rw [← wt_app, List.take_append_drop]
theorem wt_drop_le (k : Nat) (ws : List Str) : wt (ws.drop (k + 1)) ≤ wt (ws.drop k) := by
  rw [← List.drop_drop]
  have := wt_take_drop 1 (ws.drop k)
  omega
theorem join_wt {zs : List Str} {m : Nat} (h : wt zs ≤ m + 1) : (Str.join " " zs).length ≤ m := by
  cases hz : zs with
  | nil => exact Nat.zero_le _
  | cons z r =>
    have q := join_len (" " : Str) (ys := z :: r) (List.cons_ne_nil _ _)
    have e : (" " : Str).length = 1 := by decide +kernel
    rw [e] at q
    rw [hz] at h
    unfold wt at h
    omega
def odds : List Str := ["", "open", "close", "move", "book", "restart", "settle", "a", "0", "01", "-1", "-0", "1000000", "1_0", "999999", "A", "abcdefghi", "self", "1.0", "+1", "opens", "Open", "close 1", "settle "]
theorem odds_ok : ∀ z ∈ odds, z.length ≤ 9 ∧ Asc z := by decide +kernel
def LinesOk (c m : Nat) (xs : List Str) : Prop := xs.length ≤ c ∧ ∀ x ∈ xs, x.length ≤ m ∧ Asc x
theorem rd_pick4 {K : PySem.W.Frag} {H : Hp} {Q : VK} {p w1 w2 w3 w4 : Addr} {d : Int} (h : SqL K H p ([V.ref w1, .ref w2] ++ [.ref w3, .ref w4])) (d0 : 0 ≤ d) (d4 : d < 4) (q : ∀ w, (w = w1 ∨ w = w2 ∨ w = w3 ∨ w = w4) → Q (.ref w) H) : rIxL K (.ref p) (.int d) H Q := by
  rcases (show d = 0 ∨ d = 1 ∨ d = 2 ∨ d = 3 by omega) with rfl | rfl | rfl | rfl
  · exact rd_ixL h rfl (q _ (.inl rfl))
  · exact rd_ixL h rfl (q _ (.inr (.inl rfl)))
  · exact rd_ixL h rfl (q _ (.inr (.inr (.inl rfl))))
  · exact rd_ixL h rfl (q _ (.inr (.inr (.inr rfl))))
def spBent : Sp := fun vs H Q _ => ∃ (p q l : Addr) (xs : List Str) (n c m : Nat), vs = [.ref p, .ref l] ∧ n ≤ 900000 ∧ PenAt n H p q ∧ l ≠ p ∧ H l = some (.lst (xs.map V.str)) ∧ LinesOk c m xs ∧ c ≤ 20 ∧ m ≤ 50 ∧
  ∀ l2 ys H', H l2 = none → H' l2 = some (.lst (ys.map V.str)) → LinesOk (c + 1) (m + 10) ys → But p H H' → PenAt (n + 9) H' p q → Q (.ref l2) H'
section
variable {P : Program} {w : World} {K : PySem.W.Frag} {mg : Str → Option Value} {base : Heap}
theorem ok__law_bent {f fD fP : Addr} {fd fdD fdP : FuncData} (F : Fun K "_law_bent" "_law_bent" s__law_bent f fd) (T : Tx K mg) (C__law_draw : Cal P w K mg base 1 "_law_draw" s__law_draw ["_law_pen_here", "_law_many"] spDraw fD fdD)
    (C__law_pick : Cal P w K mg base 2 "_law_pick" s__law_pick ["_law_pen_here", "_law_some"] spPickB fP fdP) : FnOk P w K mg base CX0 3 f fd ["_law_pen_here", "_law_lines_so"] spBent := by
  refine F.ok sc__law_bent (fun vs H Q E h => ?_) (fun cdv A outer s H vs Q E hr h => ?_)
  · obtain ⟨p, q, l, xs, n, c, m, rfl, _⟩ := h
    rfl
  · obtain ⟨p, q, l, xs, n, c, m, rfl, hn, hp, lp, hl, lok, hc, hm, k⟩ := h
    refine ⟨_, (pss_cons (ps_set (i := 2) sc__law_bent.nd rfl (by first | exact Or.inl rfl | exact Or.inr rfl) (pe_lst (pa_cons pe_str (pa_cons pe_str (pa_cons pe_str (pa_cons pe_str (pa_cons pe_str (pa_cons pe_str (pa_cons pe_str (pa_cons pe_str (pa_cons pe_str (pa_cons pe_str (pa_cons pe_str (pa_cons pe_str (pa_cons pe_str (pa_cons pe_str pa_nil))))))))))))))))
      (pss_cons (ps_set (i := 2) sc__law_bent.nd rfl (by first | exact Or.inl rfl | exact Or.inr rfl) (pe_op op_cat (pv 2) (pe_lst (pa_cons pe_str (pa_cons pe_str (pa_cons pe_str (pa_cons pe_str (pa_cons pe_str (pa_cons pe_str (pa_cons pe_str pa_nil))))))))))
      (pss_cons (ps_set (i := 3) sc__law_bent.nd rfl (by first | exact Or.inl rfl | exact Or.inr rfl) (pe_call C__law_pick.G (hr.mono (by decide)) (by rfl) C__law_pick.g C__law_pick.F.kp C__law_pick.b .nil pass0 (pa_cons (pv 0) (pa_cons (pe_op op_cat (pv 2) (pe_lst (pa_cons pe_str (pa_cons pe_str (pa_cons pe_str pa_nil))))) pa_nil))))
      (pss_cons (ps_if (pt_cmpR (op_eqD hr.units) (pv 1) (pe_lst pa_nil) (nomark _)) (pss_one (ps_ret (pe_lst (pa_cons (pv 3) pa_nil)))) pss_nil)
      (pss_cons (ps_par3 (i := 4) (j := 5) (l := 6) rfl sc__law_bent.nd rfl rfl rfl (by decide) (by decide) (by decide) rfl rfl rfl (pa_cons (pe_call C__law_draw.G (hr.mono (by decide)) (by rfl) C__law_draw.g C__law_draw.F.kp C__law_draw.b .nil pass0 (pa_cons (pv 0) (pa_cons (pe_callB cr_lenQ (by rfl) T.b_len (by decide +kernel) (pa_cons (pv 1) pa_nil)) pa_nil))) (pa_cons (pe_call C__law_draw.G (hr.mono (by decide)) (by rfl) C__law_draw.g C__law_draw.F.kp C__law_draw.b .nil pass0 (pa_cons (pv 0) (pa_cons (pe_callB cr_lenQ (by rfl) T.b_len (by decide +kernel) (pa_cons (pv 1) pa_nil)) pa_nil))) (pa_cons (pe_call C__law_draw.G (hr.mono (by decide)) (by rfl) C__law_draw.g C__law_draw.F.kp C__law_draw.b .nil pass0 (pa_cons (pv 0) (pa_cons pe_int pa_nil))) pa_nil))) rfl)
      (pss_cons (ps_set (i := 7) sc__law_bent.nd rfl (by first | exact Or.inl rfl | exact Or.inr rfl) (pe_split (pe_ix (ix_listK (K := K) rfl) (pv 1) (pv 4) (fun _ _ => rfl)) pe_str))
      (pss_cons (ps_set (i := 8) sc__law_bent.nd rfl (by first | exact Or.inl rfl | exact Or.inr rfl) (pe_call C__law_draw.G (hr.mono (by decide)) (by rfl) C__law_draw.g C__law_draw.F.kp C__law_draw.b .nil pass0 (pa_cons (pv 0) (pa_cons (pe_callB cr_lenQ (by rfl) T.b_len (by decide +kernel) (pa_cons (pv 7) pa_nil)) pa_nil))))
      (pss_cons (ps_if (pt_cmpR op_lt (pv 6) pe_int (nomark _)) (pss_cons (ps_set (i := 9) sc__law_bent.nd rfl (by first | exact Or.inl rfl | exact Or.inr rfl) (pe_lst (pa_cons (pe_op op_cat (pe_op op_cat (pe_slice sl_list (pv 7) po_none (po_some (pv 8))) (pe_lst (pa_cons (pv 3) pa_nil))) (pe_slice sl_list (pv 7) (po_some (pe_op op_add (pv 8) pe_int)) po_none)) (pa_cons (pe_op op_cat (pe_op op_cat (pe_slice sl_list (pv 7) po_none (po_some (pv 8))) (pe_lst (pa_cons (pv 3) pa_nil))) (pe_slice sl_list (pv 7) (po_some (pv 8)) po_none)) pa_nil))))
      (pss_cons (ps_set (i := 9) sc__law_bent.nd rfl (by first | exact Or.inl rfl | exact Or.inr rfl) (pe_op op_cat (pv 9) (pe_lst (pa_cons (pe_op op_cat (pe_slice sl_list (pv 7) po_none (po_some (pv 8))) (pe_slice sl_list (pv 7) (po_some (pe_op op_add (pv 8) pe_int)) po_none)) (pa_cons (pe_op op_cat (pv 7) (pe_lst (pa_cons (pv 3) pa_nil))) pa_nil)))))
      (pss_one (ps_ret (pe_op op_cat (pe_op op_cat (pe_slice sl_list (pv 1) po_none (po_some (pv 4))) (pe_lst (pa_cons (pe_m1 PySem.F.slot_str_join PySem.F.type_str_join mt_joinN pe_str (pe_ix (ix_listK (K := K) rfl) (pv 9) (pv 6) (fun _ _ => rfl))) pa_nil))) (pe_slice sl_list (pv 1) (po_some (pe_op op_add (pv 4) pe_int)) po_none)))))) pss_nil)
      (pss_cons (ps_if (pt_cmpR op_eq (pv 6) pe_int (nomark _)) (pss_one (ps_ret (pe_op op_cat (pe_slice sl_list (pv 1) po_none (po_some (pv 4))) (pe_slice sl_list (pv 1) (po_some (pe_op op_add (pv 4) pe_int)) po_none)))) pss_nil)
      (pss_cons (ps_if (pt_cmpR op_eq (pv 6) pe_int (nomark _)) (pss_one (ps_ret (pe_op op_cat (pe_op op_cat (pe_slice sl_list (pv 1) po_none (po_some (pv 5))) (pe_lst (pa_cons (pe_ix (ix_listK (K := K) rfl) (pv 1) (pv 4) (fun _ _ => rfl)) pa_nil))) (pe_slice sl_list (pv 1) (po_some (pv 5)) po_none)))) pss_nil)
      (pss_one (ps_ret (pe_ifExp (pt_cmpR op_eq (pv 6) pe_int (nomark _)) (pe_op op_cat (pe_slice sl_list (pv 1) (po_some (pv 4)) po_none) (pe_slice sl_list (pv 1) po_none (po_some (pv 4)))) (pe_op op_cat (pe_op op_cat (pe_slice sl_list (pv 1) po_none (po_some (pv 4))) (pe_lst (pa_cons (pv 3) pa_nil))) (pe_slice sl_list (pv 1) (po_some (pv 4)) po_none))))))))))))))), ?_⟩
    walk_at "R"
    rename_i l1 H1 n1 s1 h1
    refine .inl ⟨p, q, l1, odds.map V.str, n, rfl, h1, by walk_at "n", by decide, by decide, by omega, by walk_at "pen", fun x H2 hx b2 hp2 => ?_⟩
    obtain ⟨odd, ho, rfl⟩ := List.mem_map.mp hx
    obtain ⟨ol, oa⟩ := odds_ok odd ho
    have bA : But p H H2 := by walk_at "but"
    have hl2 : H2 l = some (.lst (xs.map V.str)) := bA _ _ lp hl
    clear hx h1 s1 b2
    walk_at "R"
    rename_i l3 H3 n3 s3 h3
    refine rd_eqNilS (sqL_of (by walk_at "h")) h3 (fun y hy => (lok.2 y hy).2) ?_
    walk_at "R"
    refine rd_dec (fun c1 => ?_) (fun c1 => ?_)
    · subst c1
      walk_at "R"
      rename_i l4 H4 n4 s4 h4
      refine k l4 [odd] H4 (none_but bA (by walk_at "n") (by walk_at "no")) h4 ⟨by simp, fun x hx => by cases List.mem_singleton.mp hx; exact ⟨by omega, oa⟩⟩ (by walk_at "but") ((show PenAt (n + 1) H4 p q by walk_at "pen").mono (by omega))
    · have h0 : 0 < xs.length := List.length_pos_iff.mpr c1
      have el : (xs.map V.str).length = xs.length := List.length_map _
      walk_at "R"
      refine ⟨p, q, _, n + 1, rfl, by omega, by have := lok.1; omega, by omega, by walk_at "pen", fun d4 H4 d40 d41 b4 hp4 => ?_⟩
      walk_at "R"
      refine ⟨p, q, _, n + 1 + 1, rfl, by omega, by have := lok.1; omega, by omega, by walk_at "pen", fun d5 H5 d50 d51 b5 hp5 => ?_⟩
      walk_at "R"
      refine ⟨p, q, _, n + 1 + 1 + 1, rfl, by omega, by omega, by omega, by walk_at "pen", fun d6 H6 d60 d61 b6 hp6 => ?_⟩
      walk_at "R"
      obtain ⟨a4, rfl⟩ := Int.eq_ofNat_of_zero_le d40
      obtain ⟨a5, rfl⟩ := Int.eq_ofNat_of_zero_le d50
      have i4 : a4 < xs.length := by omega
      have i5 : a5 < xs.length := by omega
      refine rd_ixL (sqL_of (by walk_at "h")) (atI_map (f := V.str) (n := a4) rfl (List.getElem?_eq_getElem i4)) ?_
      walk_at "R"
      have ll := lok.2 xs[a4] (List.getElem_mem i4)
      refine split_at (Nat.le_trans ll.1 (by omega)) (by decide +kernel) fun l7 H7 n7 s7 h7 => ?_
      have hws : Txt.split xs[a4] " " ≠ [] := split_ne _ _
      have hwt := wt_split xs[a4]
      have hwa : ∀ y ∈ Txt.split xs[a4] " ", Asc y := fun y hy => asc_part ll.2 hy
      generalize Txt.split xs[a4] " " = ws at *
      have ew : (ws.map V.str).length = ws.length := List.length_map _
      have wp : 0 < ws.length := List.length_pos_iff.mpr hws
      have wl : ws.length ≤ 60 := by unfold wt at hwt; omega
      walk_at "R"
      refine ⟨p, q, _, n + 1 + 1 + 1 + 1, rfl, by omega, by omega, by omega, by walk_at "pen", fun d8 H8 d80 d81 b8 hp8 => ?_⟩
      obtain ⟨a8, rfl⟩ := Int.eq_ofNat_of_zero_le d80
      have i8 : a8 < ws.length := by omega
      have bB : But p H H8 := by walk_at "but"
      have hl8 : H8 l = some (.lst (xs.map V.str)) := bB _ _ lp hl
      have hw8 : H8 l7 = some (.lst (ws.map V.str)) := b8 _ _ ((hp6.off n7).1) h7
      have S : ∀ H', Same H8 H' → But p H H' ∧ PenAt (n + 9) H' p q := fun H' s => ⟨bB.then s, (hp8.keep s).mono (by omega)⟩
      have R : ∀ l2, H8 l2 = none → H l2 = none := fun l2 n2 => none_but bB ((hp8.off n2).1) n2
      have fin : ∀ (l2 : Addr) (ys : List Str) (H' : Hp), H8 l2 = none → Same H8 H' → H' l2 = some (.lst (ys.map V.str)) → ys.length ≤ c + 1 → (∀ y ∈ ys, y ∈ xs ∨ y.length ≤ m + 10 ∧ Asc y) → Q (.ref l2) H' := fun l2 ys H' n2 s h hc2 hy =>
        k l2 ys H' (R l2 n2) h ⟨hc2, fun y hm2 => (hy y hm2).elim (fun z => ⟨Nat.le_trans (lok.2 y z).1 (by omega), (lok.2 y z).2⟩) id⟩ (S H' s).1 (S H' s).2
      have xl := lok.1
      clear k R S
      clear b8 h7 s7 n7 b6 hp6 b5 hp5 b4 hp4 h3 s3 n3 bA hl2 hp2 hp hl
      walk_at "R"
      refine rd_dec (fun c2 => ?_) (fun c2 => ?_)
      · walk_at "R"
        · rename_i lA HA nA sA hA
          refine rd_pick4 (sqL_of (by walk_at "h")) d60 c2 fun wv hwv => ?_
          obtain ⟨zs, hz, zw, za⟩ : ∃ zs, HA wv = some (.lst (zs.map V.str)) ∧ wt zs ≤ m + 11 ∧ ∀ y ∈ zs, Asc y := by
            have w1 := wt_take_drop a8 ws
            have w2 := wt_drop_le a8 ws
            have w3 : wt [odd] = odd.length + 1 := by rw [wt_cons, wt_nil]
            have t1 : ∀ y ∈ ws.take a8, Asc y := fun y hy => hwa y (List.mem_of_mem_take hy)
            have t2 : ∀ y ∈ ws.drop a8, Asc y := fun y hy => hwa y (List.mem_of_mem_drop hy)
            have t3 : ∀ y ∈ ws.drop (a8 + 1), Asc y := fun y hy => hwa y (List.mem_of_mem_drop hy)
            have t4 : ∀ y ∈ [odd], Asc y := fun y hy => by cases List.mem_singleton.mp hy; exact oa
            have ap : ∀ {A B : List Str}, (∀ y ∈ A, Asc y) → (∀ y ∈ B, Asc y) → ∀ y ∈ A ++ B, Asc y := fun h1 h2 y hy => (List.mem_append.mp hy).elim (h1 y) (h2 y)
            have lm := ll.1
            rcases hwv with rfl | rfl | rfl | rfl
            · exact ⟨_, by walk_at "h", by rw [wt_app, wt_app]; omega, ap (ap t1 t4) t3⟩
            · exact ⟨_, by walk_at "h", by rw [wt_app, wt_app]; omega, ap (ap t1 t4) t2⟩
            · exact ⟨_, by walk_at "h", by rw [wt_app]; omega, ap t1 t3⟩
            · exact ⟨_, by walk_at "h", by rw [wt_app]; omega, ap hwa t4⟩
          have sX : Same H8 HA := by walk_at "same"
          have hlA := sX _ _ hl8
          have zl : (Str.join (" " : Str) zs).length ≤ m + 10 := join_wt zw
          have es : (" " : Str).length = 1 := by decide +kernel
          refine rd_joinL hz (by rw [es]; unfold wt at zw; omega) ?_
          walk_at "R"
          · rename_i l2 H2 n2 s2 h2
            refine fin l2 _ H2 (by walk_at "no") (by walk_at "same") h2 ?_ (fun y hy => ?_)
            · simp only [List.length_append, List.length_take, List.length_drop, List.length_cons, List.length_nil]; omega
            · rcases List.mem_append.mp hy with hy | hy
              · rcases List.mem_append.mp hy with hy | hy
                · exact .inl (List.mem_of_mem_take hy)
                · cases List.mem_singleton.mp hy
                  exact .inr ⟨zl, asc_join (by decide +kernel) za⟩
              · exact .inl (List.mem_of_mem_drop hy)
          all_goals (simp only [List.length_append, List.length_take, List.length_drop, List.length_cons, List.length_nil]; omega)
        all_goals (simp only [List.length_append, List.length_take, List.length_drop, List.length_cons, List.length_nil]; omega)
      · walk_at "R"
        refine rd_dec (fun c3 => ?_) (fun c3 => ?_)
        · walk_at "R"
          · rename_i l2 H2 n2 s2 h2
            refine fin l2 _ H2 (by walk_at "no") (by walk_at "same") h2 ?_ (fun y hy => ?_)
            · simp only [List.length_append, List.length_take, List.length_drop, List.length_cons, List.length_nil]; omega
            · exact (List.mem_append.mp hy).elim (fun z => .inl (List.mem_of_mem_take z)) fun z => .inl (List.mem_of_mem_drop z)
          all_goals (simp only [List.length_append, List.length_take, List.length_drop, List.length_cons, List.length_nil]; omega)
        · walk_at "R"
          refine rd_dec (fun c4 => ?_) (fun c4 => ?_)
          · walk_at "R"
            rename_i l1 H1 n1 s1 h1
            have hlA := s1 _ _ hl8
            refine rd_ixL (sqL_of hlA) (atI_map (f := V.str) (n := a4) rfl (List.getElem?_eq_getElem i4)) ?_
            walk_at "R"
            · rename_i l2 H2 n2 s2 h2
              refine fin l2 _ H2 (by walk_at "no") (by walk_at "same") h2 ?_ (fun y hy => ?_)
              · simp only [List.length_append, List.length_take, List.length_drop, List.length_cons, List.length_nil]; omega
              · rcases List.mem_append.mp hy with hy | hy
                · rcases List.mem_append.mp hy with hy | hy
                  · exact .inl (List.mem_of_mem_take hy)
                  · cases List.mem_singleton.mp hy
                    exact .inl (List.getElem_mem i4)
                · exact .inl (List.mem_of_mem_drop hy)
            all_goals (simp only [List.length_append, List.length_take, List.length_drop, List.length_cons, List.length_nil]; omega)
          · walk_at "R"
            refine rd_dec (fun c5 => ?_) (fun c5 => ?_)
            · walk_at "R"
              · rename_i l2 H2 n2 s2 h2
                refine fin l2 _ H2 (by walk_at "no") (by walk_at "same") h2 ?_ (fun y hy => ?_)
                · simp only [List.length_append, List.length_take, List.length_drop, List.length_cons, List.length_nil]; omega
                · exact (List.mem_append.mp hy).elim (fun z => .inl (List.mem_of_mem_drop z)) fun z => .inl (List.mem_of_mem_take z)
              all_goals (simp only [List.length_append, List.length_take, List.length_drop, List.length_cons, List.length_nil]; omega)
            · walk_at "R"
              · rename_i l2 H2 n2 s2 h2
                refine fin l2 _ H2 (by walk_at "no") (by walk_at "same") h2 ?_ (fun y hy => ?_)
                · simp only [List.length_append, List.length_take, List.length_drop, List.length_cons, List.length_nil]; omega
                · rcases List.mem_append.mp hy with hy | hy
                  · rcases List.mem_append.mp hy with hy | hy
                    · exact .inl (List.mem_of_mem_take hy)
                    · cases List.mem_singleton.mp hy
                      exact .inr ⟨by omega, oa⟩
                  · exact .inl (List.mem_of_mem_drop hy)
              all_goals (simp only [List.length_append, List.length_take, List.length_drop, List.length_cons, List.length_nil]; omega)
end

end My

namespace My
open PySem PySem.Spec PyProof.Rows L2 EE

local macro_rules | `(tactic| walk_at "sq") => `(tactic| first | assumption | exact sqL_of (by assumption) | exact sqT_of (by assumption))
local macro_rules | `(tactic| walk_at "same") => `(tactic| first
  | assumption
  | exact Same.refl _
  | (refine Same.trans ?_ (by assumption); walk_at "same")
  | (refine same_past ?_ (by assumption) ?_; (walk_at "same"); (walk_at "no")))
local macro_rules | `(tactic| walk_at "no") => `(tactic| first
  | assumption
  | (refine none_same ?_ (by assumption); walk_at "same")
  | (refine none_same (by assumption) ?_; walk_at "no")
  | (refine none_but (by assumption) ?_ ?_; (walk_at "n"); (walk_at "no")))
local macro_rules | `(tactic| walk_at "but") => `(tactic| first
  | assumption
  | exact But.refl _ _
  | (refine But.then ?_ (by assumption); walk_at "but")
  | (refine But.trans ?_ (by assumption); walk_at "but")
  | (refine but_past ?_ (by assumption) ?_; (walk_at "but"); (walk_at "no")))
local macro_rules | `(tactic| walk_at "hasp") => `(tactic| (repeat (first | exact ⟨_, _, by assumption⟩ | (refine hasPen_same (by assumption) ?_))))
local macro_rules | `(tactic| walk_at "hasc") => `(tactic| (repeat (first | exact ⟨_, _, by assumption⟩ | (refine hasCells_same (by assumption) ?_))))
local macro_rules | `(tactic| walk_at "pen") => `(tactic| (repeat (first | assumption | (refine PenAt.keep ?_ (by assumption)))))
local macro_rules | `(tactic| walk_at "has") => `(tactic| first
  | exact ⟨_, by assumption⟩
  | (refine has_same (by assumption) ?_; walk_at "has")
  | (refine has_but (by assumption) ?_ ?_; (walk_at "n"); (walk_at "has")))
local macro_rules | `(tactic| walk_at "n") => `(tactic| first
  | assumption
  | exact Ne.symm (by assumption)
  | (refine ne_free (by assumption) ?_; walk_at "has")
  | (refine ne_free' (by assumption) ?_; walk_at "has")
  | (refine pen_off (by assumption) ?_; walk_at "hasp"; done)
  | (refine Ne.symm (pen_off (by assumption) ?_); walk_at "hasp"; done)
  | (refine pen_off' (by assumption) ?_; walk_at "hasc"; done)
  | (refine Ne.symm (pen_off' (by assumption) ?_); walk_at "hasc"; done))
local macro_rules | `(tactic| walk_at "hh") => `(tactic| first
  | assumption
  | (refine get_same (by assumption) ?_; walk_at "hh")
  | (refine get_but (by assumption) (by walk_at "n") ?_; walk_at "hh"))
local macro_rules | `(tactic| walk_at "h") => `(tactic| first
  | ((repeat (first | assumption | (refine get_same (by assumption) ?_) | (refine get_but (by assumption) (by walk_at "n") ?_))); done)
  | walk_at "hh")
local macro_rules | `(tactic| walk_at "r") => `(tactic| repeat (first
  | (refine go ?_)
  | (with_reducible refine rd_mul ?_ ?_)
  | (with_reducible refine rd_mod ?_ ?_)
  | (with_reducible refine rd_fdiv ?_ ?_)
  | (with_reducible refine rd_pow ?_ ?_)
  | (with_reducible refine rd_strI ?_ ?_)
  | (with_reducible refine rd_addS ?_ ?_)
  | (with_reducible refine rd_lenS ?_ ?_)
  | (with_reducible refine rd_slS ?_ ?_)))
local macro_rules | `(tactic| walk_at "R") => `(tactic| repeat (first
  | (refine go ?_)
  | (with_reducible refine new_lstS fun _ _ _ _ _ => ?_)
  | (with_reducible refine new_lst (Nat.le_of_ble_eq_true rfl) fun _ _ _ _ _ => ?_)
  | (with_reducible refine new_tup (Nat.le_of_ble_eq_true rfl) fun _ _ _ _ _ => ?_)
  | ((with_reducible refine len_go ?_); first | (refine Or.inl ⟨_, sqL_of (by walk_at "h"), ?_⟩) | (refine Or.inr ⟨_, sqT_of (by walk_at "h"), ?_⟩))
  | ((with_reducible refine slT_go ?_); refine ⟨_, sqL_of (by walk_at "h"), fun _ _ _ _ _ => ?_⟩)
  | ((with_reducible refine slD_go ?_); refine ⟨_, sqL_of (by walk_at "h"), fun _ _ _ _ _ => ?_⟩)
  | ((with_reducible refine slD1_go ?_); refine ⟨_, sqL_of (by walk_at "h"), fun _ _ _ _ _ => ?_⟩)
  | ((with_reducible refine sl_go ?_); refine ⟨_, sqL_of (by walk_at "h"), fun _ _ _ _ _ => ?_⟩)
  | ((with_reducible refine cat_go ?_); refine catS_go (by walk_at "h") (by walk_at "h") ?_ fun _ _ _ _ _ => ?_; rotate_left)
  | ((with_reducible refine cat_go ?_); refine catV_go (by walk_at "h") (by walk_at "h") (Nat.le_of_ble_eq_true rfl) fun _ _ _ _ _ => ?_)
  | ((with_reducible refine cat_go ?_); refine catV_go (by walk_at "h") (by walk_at "h") ?_ fun _ _ _ _ _ => ?_; rotate_left)
  | ((with_reducible refine ixL_go ?_); refine ⟨_, sqL_of (by walk_at "h"), ?_⟩; refine ⟨_, atI_lit, ?_⟩)
  | (with_reducible refine rd_mul ?_ ?_; rotate_left)
  | (with_reducible refine rd_mod ?_ ?_; rotate_left)
  | (with_reducible refine rd_fdiv ?_ ?_; rotate_left)
  | (with_reducible refine rd_pow ?_ ?_; rotate_left)
  | (with_reducible refine rd_strI ?_ ?_; rotate_left)
  | (with_reducible refine rd_addS ?_ ?_; rotate_left)
  | (with_reducible refine rd_lenS ?_ ?_; rotate_left)
  | (with_reducible refine rd_slS ?_ ?_; rotate_left)))

open LamX
/-! ### the texts of drawn deeds are read back -/
theorem free_join {c : Nat} {S : List Nat} (hS : c ∉ S) : ∀ {ys : List (List Nat)}, (∀ y ∈ ys, c ∉ y) → c ∉ TL.joinL S ys
  | [], _ => fun z => by cases z
  | [y], hy => hy y List.mem_cons_self
  | y :: y2 :: ys, hy => fun z => by
    have z : c ∈ y ++ (S ++ TL.joinL S (y2 :: ys)) := z
    rcases List.mem_append.mp z with z | z
    · exact hy y List.mem_cons_self z
    · rcases List.mem_append.mp z with z | z
      · exact hS z
      · exact free_join hS (fun x hx => hy x (List.mem_cons_of_mem _ hx)) z
theorem read_back {rows : List (List Str)} (h : ∀ ws ∈ rows, GoodD ws) : rowsOf (textR rows) = rows := by
  cases hr : rows with
  | nil => exact if_pos rfl
  | cons w0 r =>
    have n0 : (rows.map lineR) ≠ [] := by rw [hr]; exact List.cons_ne_nil _ _
    have e1 : Txt.split (textR rows) "\n" = rows.map lineR := by
      have := TL.split_join (y := ("\n" : Str)) (s := 10) (S := []) (by decide +kernel) (by decide +kernel) n0 (fun p hp => by
        obtain ⟨ws, hw, rfl⟩ := List.mem_map.mp hp
        intro hc
        have e : TL.tl (lineR ws) = TL.joinL (TL.tl " ") (ws.map TL.tl) := TL.tl_join _ _
        rw [e] at hc
        refine free_join (by decide +kernel) (fun y hy => ?_) hc
        obtain ⟨z, hz, rfl⟩ := List.mem_map.mp hy
        exact ((h ws hw).free z hz).2)
      rw [TL.join_eq] at this
      exact this
    have e2 : ∀ ws ∈ rows, Txt.split (lineR ws) " " = ws := fun ws hw => by
      have := TL.split_join (y := (" " : Str)) (s := 32) (S := []) (by decide +kernel) (by decide +kernel) (h ws hw).ne (fun p hp => ((h ws hw).free p hp).1)
      rw [TL.join_eq] at this
      exact this
    have ne : textR rows ≠ "" := fun z => by
      rw [z] at e1
      have e3 : Txt.split ("" : Str) "\n" = [("" : Str)] := by decide +kernel
      rw [e3, hr] at e1
      have e4 : lineR w0 = "" := by
        rw [List.map_cons] at e1
        injection e1 with e1 _
        exact e1.symm
      have e5 := e2 w0 (by rw [hr]; exact List.mem_cons_self)
      rw [e4] at e5
      have e6 : Txt.split ("" : Str) " " = [("" : Str)] := by decide +kernel
      rw [e6] at e5
      have g := (h w0 (by rw [hr]; exact List.mem_cons_self)).ok
      rw [← e5] at g
      exact absurd g (by decide +kernel)
    rw [← hr]
    unfold rowsOf
    rw [if_neg ne, e1, List.map_map]
    conv => rhs; rw [← List.map_id rows]
    exact List.map_congr_left e2
theorem read_good : ∀ {rows : List (List Str)} {i : Nat}, (∀ ws ∈ rows, wrongL ws = none) → read1 rows i = none
  | [], _, _ => rfl
  | ws :: r, i, h => by
    rw [read1_go (h ws List.mem_cons_self)]
    exact read_good fun x hx => h x (List.mem_cons_of_mem _ hx)
theorem good_read : ∀ {rows : List (List Str)} {i : Nat}, read1 rows i = none → ∀ ws ∈ rows, wrongL ws = none
  | [], _, _, ws, h => by cases h
  | w0 :: r, i, hr, ws, h => by
    cases c : wrongL w0 with
    | some k => rw [read1_bad c] at hr; cases hr
    | none =>
      rw [read1_go c] at hr
      rcases List.mem_cons.mp h with rfl | h
      · exact c
      · exact good_read hr ws h
theorem wrongW_le : ∀ {bs : List Bool} {zs : List Str} {k j : Nat}, wrongW bs zs k = some j → j ≤ k + bs.length
  | [], [], _, _, h => by cases h
  | [], _ :: _, k, j, h => by
    have h : some k = some j := h
    cases h
    omega
  | _ :: _, [], k, j, h => by
    have h : some k = some j := h
    cases h
    omega
  | b :: bs, z :: zs, k, j, h => by
    cases c : okW b z with
    | true =>
      rw [wrong_go c] at h
      have := wrongW_le h
      rw [List.length_cons]
      omega
    | false =>
      rw [wrong_bad c] at h
      cases h
      omega
theorem kinds_few {z : Str} {bs : List Bool} (h : kindsOf z = some bs) : bs.length ≤ 2 := by
  rcases kinds_all h with ⟨_, rfl⟩ | ⟨_, _⟩
  · decide
  · unfold kindsOf at h
    by_cases c1 : z = "open"
    · rw [if_pos c1] at h; cases h; decide
    rw [if_neg c1] at h
    by_cases c2 : z = "close"
    · rw [if_pos c2] at h; cases h; decide
    rw [if_neg c2] at h
    by_cases c3 : z = "move"
    · rw [if_pos c3] at h; cases h; decide
    rw [if_neg c3] at h
    by_cases c4 : z = "book"
    · rw [if_pos c4] at h; cases h; decide
    rw [if_neg c4] at h
    by_cases c5 : z = "restart"
    · rw [if_pos c5] at h; cases h; decide
    rw [if_neg c5] at h
    by_cases c6 : z = "settle"
    · rw [if_pos c6] at h; cases h; decide
    rw [if_neg c6] at h
    cases h
theorem kinds_word {z : Str} {bs : List Bool} (h : kindsOf z = some bs) : z.length ≤ 8 ∧ Asc z := by
  unfold kindsOf at h
  by_cases c1 : z = "open"
  · subst c1; decide +kernel
  rw [if_neg c1] at h
  by_cases c2 : z = "close"
  · subst c2; decide +kernel
  rw [if_neg c2] at h
  by_cases c3 : z = "move"
  · subst c3; decide +kernel
  rw [if_neg c3] at h
  by_cases c4 : z = "book"
  · subst c4; decide +kernel
  rw [if_neg c4] at h
  by_cases c5 : z = "restart"
  · subst c5; decide +kernel
  rw [if_neg c5] at h
  by_cases c6 : z = "settle"
  · subst c6; decide +kernel
  rw [if_neg c6] at h
  cases h
theorem wrongL_le {ws : List Str} {j : Nat} (h : wrongL ws = some j) : j ≤ 3 := by
  cases ws with
  | nil =>
    have h : some 0 = some j := h
    cases h
    omega
  | cons z zs =>
    unfold wrongL at h
    cases hk : kindsOf z with
    | none =>
      simp only [hk] at h
      cases h
      omega
    | some bs =>
      simp only [hk] at h
      have := wrongW_le h
      have := kinds_few hk
      omega
theorem read1_le : ∀ {rows : List (List Str)} {i a b : Nat}, read1 rows i = some (a, b) → a ≤ i + rows.length ∧ b ≤ 3
  | [], _, _, _, h => by cases h
  | ws :: r, i, a, b, h => by
    cases c : wrongL ws with
    | some k =>
      rw [read1_bad c] at h
      cases h
      exact ⟨by omega, wrongL_le c⟩
    | none =>
      rw [read1_go c] at h
      have := read1_le h
      rw [List.length_cons]
      omega
/-! ### the data of deeds -/
def rowO (ws : List Str) : HO := .tup (deedL ws)
theorem DeedsAt.objs {H : Hp} {rows : List (List Str)} {ds : List V} (h : DeedsAt H rows ds) : ObjsAt H (rows.map rowO) ds := ⟨by rw [h.len, List.length_map], fun j o e => by
  rw [List.getElem?_map] at e
  cases q : rows[j]? with
  | none => rw [q] at e; cases e
  | some ws =>
    rw [q] at e
    cases e
    exact h.at_ j ws q⟩
theorem name_asc {z : Str} (h : nameS z = true) : z.length ≤ 8 ∧ Asc z := by
  unfold nameS at h
  rw [Bool.and_eq_true, decide_eq_true_eq] at h
  refine ⟨h.1.2.1, fun c hc => ?_⟩
  have := lets_range (of_decide_eq_true (List.all_eq_true.mp h.2 c hc))
  omega
theorem digits_lt : ∀ (l : List Nat) (a : Nat), (∀ c ∈ l, 48 ≤ c ∧ c ≤ 57) → l.foldl (fun acc c => acc * 10 + (c - 48)) a < (a + 1) * 10 ^ l.length
  | [], a, _ => by simp
  | c :: l, a, hc => by
    have h1 := digits_lt l (a * 10 + (c - 48)) fun x hx => hc x (List.mem_cons_of_mem _ hx)
    have h2 := hc c List.mem_cons_self
    rw [List.foldl_cons, List.length_cons, Nat.pow_succ]
    refine Nat.lt_of_lt_of_le h1 ?_
    rw [Nat.mul_comm (10 ^ l.length) 10, ← Nat.mul_assoc]
    exact Nat.mul_le_mul_right _ (by omega)
theorem item_lt {z : Str} {i : Int} (h : itemR z = some i) : 0 ≤ i ∧ i.natAbs < 1000000 := by
  have h0 := h
  obtain ⟨h1, h2⟩ := item_int h
  unfold itemR at h0
  cases hn : numR 6 z with
  | none => rw [hn] at h0; cases h0
  | some j =>
    rw [hn] at h0
    have h0 : (if 0 ≤ j then some j else none) = some i := h0
    by_cases hj : 0 ≤ j
    · rw [if_pos hj] at h0
      cases h0
      refine ⟨hj, ?_⟩
      obtain ⟨q1, q2⟩ := numR_nonneg hn hj
      unfold okD at q1
      rw [Bool.and_eq_true, decide_eq_true_eq] at q1
      have el : z.cps.toList.length = z.length := Array.length_toList
      have e3 := intText_digits (x := z) (allDg q1.2) (fun q => by rw [q] at q1; exact absurd q1.1.1 (by decide)) (by omega)
      rw [h1] at e3
      have e4 := Option.some.inj e3
      have e6 := digits_lt z.cps.toList 0 (allDg q1.2)
      have e7 : NumText.digitsVal z.cps.toList = z.cps.toList.foldl (fun acc c => acc * 10 + (c - 48)) 0 := rfl
      have e8 : (10 : Nat) ^ z.cps.toList.length ≤ 10 ^ 6 := Nat.pow_le_pow_right (by decide) q1.1.2
      have e9 : (10 : Nat) ^ 6 = 1000000 := by decide
      rw [e9] at e8
      rw [e4, e7]
      omega
    · rw [if_neg hj] at h0
      cases h0
theorem args_data : ∀ (bs : List Bool) (zs : List Str) (k : Nat), wrongW bs zs k = none → (∀ v ∈ argsL bs zs, isFl v) ∧ (∀ d ∈ (argsL bs zs).map flD, Sm 8 0 d) ∧ (argsL bs zs).length = bs.length
  | [], [], _, _ => ⟨(fun v hv => nomatch hv), (fun v hv => nomatch hv), rfl⟩
  | [], _ :: _, _, h => by cases h
  | _ :: _, [], _, h => by cases h
  | b :: bs, z :: zs, k, hz => by
    have c : okW b z = true := by
      cases c : okW b z with
      | true => rfl
      | false => rw [wrong_bad c] at hz; cases hz
    rw [wrong_go c] at hz
    obtain ⟨i1, i2, i3⟩ := args_data bs zs (k + 1) hz
    have e : argsL (b :: bs) (z :: zs) = argV b z :: argsL bs zs := rfl
    have hv : isFl (argV b z) ∧ Sm 8 0 (flD (argV b z)) := by
      cases b with
      | true =>
        obtain ⟨l1, l2⟩ := name_asc (show nameS z = true from c)
        exact ⟨trivial, sm_str l2 l1⟩
      | false =>
        obtain ⟨i, hi⟩ := Option.isSome_iff_exists.mp (show (itemR z).isSome = true from c)
        have e2 : argV false z = .int i := by
          show optI (itemR z) = _
          rw [hi]
          rfl
        rw [e2]
        exact ⟨trivial, (sm_int (Nat.lt_trans (item_lt hi).2 (by decide))).mono (by decide) (Nat.le_refl _)⟩
    rw [e]
    refine ⟨fun v hv2 => (List.mem_cons.mp hv2).elim (fun z => z ▸ hv.1) (i1 v), fun d hd => ?_, by rw [List.length_cons, List.length_cons, i3]⟩
    rw [List.map_cons] at hd
    exact (List.mem_cons.mp hd).elim (fun z => z ▸ hv.2) (i2 d)
theorem deed_data {ws : List Str} (h : wrongL ws = none) : (∀ v ∈ deedL ws, isFl v) ∧ Sm 40 1 (objD (rowO ws)) := by
  cases ws with
  | nil => cases h
  | cons w0 rest =>
    have h' := h
    unfold wrongL at h'
    cases hk : kindsOf w0 with
    | none => simp only [hk] at h'; cases h'
    | some bs =>
      simp only [hk] at h'
      have hb := kinds_few hk
      have w0l := kinds_word hk
      obtain ⟨i1, i2, i3⟩ := args_data bs rest 1 h'
      have ed : deedL (w0 :: rest) = .str w0 :: argsL bs rest := by simp only [deedL, hk, Option.getD_some]
      refine ⟨fun v hv => ?_, ?_⟩
      · rw [ed] at hv
        exact (List.mem_cons.mp hv).elim (fun z => by rw [z]; trivial) (i1 v)
      · show Sm 40 1 (.tuple ((deedL (w0 :: rest)).map flD))
        rw [ed, List.map_cons]
        have := smAll_cons (sm_str w0l.2 w0l.1) (smAll_of i2)
        rw [List.length_map, i3] at this
        exact (this.mono (show 8 + 1 + bs.length * (8 + 1) ≤ 40 by omega) (Nat.le_refl _)).tuple
def listD (rows : List (List Str)) : List PyData := (rows.map rowO).map objD
theorem list_sm {rows : List (List Str)} (h : ∀ ws ∈ rows, wrongL ws = none) (few : rows.length ≤ 2000) : SmAll 100000 1 (listD rows) := by
  have := smAll_of (n := 40) (k := 1) (ds := listD rows) fun d hd => by
    obtain ⟨o, ho, rfl⟩ := List.mem_map.mp hd
    obtain ⟨ws, hw, rfl⟩ := List.mem_map.mp ho
    exact (deed_data (h ws hw)).2
  rw [show (listD rows).length = rows.length by rw [listD, List.length_map, List.length_map]] at this
  exact this.mono (by omega) (Nat.le_refl _)
theorem deeds_dp {K : PySem.W.Frag} {H : Hp} {rows : List (List Str)} {ds : List V} (h : ∀ ws ∈ rows, wrongL ws = none) (da : DeedsAt H rows ds) : DpAll K H ds (listD rows) := da.objs.dp fun o ho => by
  obtain ⟨ws, hw, rfl⟩ := List.mem_map.mp ho
  exact (deed_data (h ws hw)).1
theorem good_page {rows : List (List Str)} (h : ∀ ws ∈ rows, GoodD ws) (few : rows.length ≤ 13) : (textR rows).length ≤ 1000 ∧ Asc (textR rows) := by
  constructor
  · have h1 := len_join "\n" (rows.map lineR)
    have h2 := sum_le (k := 27) (l := (rows.map lineR).map (·.length)) fun x hx => by
      obtain ⟨z, hz, rfl⟩ := List.mem_map.mp hx
      obtain ⟨ws, hw, rfl⟩ := List.mem_map.mp hz
      exact lineR_len (h ws hw)
    have e : ("\n" : Str).length = 1 := by decide +kernel
    rw [e, List.length_map] at h1
    rw [List.length_map, List.length_map] at h2
    show (Str.join "\n" (rows.map lineR)).length ≤ 1000
    omega
  · refine asc_join (by decide +kernel) fun y hy => ?_
    obtain ⟨ws, hw, rfl⟩ := List.mem_map.mp hy
    exact asc_join (by decide +kernel) (h ws hw).asc
theorem good_lines {rows : List (List Str)} (h : ∀ ws ∈ rows, GoodD ws) (few : rows.length ≤ 12) : LinesOk 12 27 (rows.map lineR) := ⟨by rw [List.length_map]; exact few, fun x hx => by
  obtain ⟨ws, hw, rfl⟩ := List.mem_map.mp hx
  exact ⟨lineR_len (h ws hw), asc_join (by decide +kernel) (h ws hw).asc⟩⟩
theorem lines_page {c m : Nat} {ys : List Str} (h : LinesOk c m ys) (hc : c ≤ 14) (hm : m ≤ 47) : (Str.join "\n" ys).length ≤ 1000 ∧ Asc (Str.join "\n" ys) ∧ (ys.map (·.length)).sum + ys.length * 1 ≤ 1000 := by
  have h1 := len_join "\n" ys
  have h2 := sum_le (k := m) (l := ys.map (·.length)) fun x hx => by
    obtain ⟨z, hz, rfl⟩ := List.mem_map.mp hx
    exact (h.2 z hz).1
  have e : ("\n" : Str).length = 1 := by decide +kernel
  rw [e] at h1
  rw [List.length_map] at h2
  have h3 : ys.length * m ≤ 14 * 47 := Nat.mul_le_mul (Nat.le_trans h.1 hc) hm
  have := h.1
  exact ⟨by omega, asc_join (by decide +kernel) fun y hy => (h.2 y hy).2, by omega⟩

end My

namespace My
open PySem PySem.Spec PyProof.Rows L2 EE

local macro_rules | `(tactic| walk_at "sq") => `(tactic| first | assumption | exact sqL_of (by assumption) | exact sqT_of (by assumption))
local macro_rules | `(tactic| walk_at "same") => `(tactic| first
  | assumption
  | exact Same.refl _
  | (refine Same.trans ?_ (by assumption); walk_at "same")
  | (refine same_past ?_ (by assumption) ?_; (walk_at "same"); (walk_at "no")))
local macro_rules | `(tactic| walk_at "no") => `(tactic| first
  | assumption
  | (refine none_same ?_ (by assumption); walk_at "same")
  | (refine none_same (by assumption) ?_; walk_at "no")
  | (refine none_but (by assumption) ?_ ?_; (walk_at "n"); (walk_at "no")))
local macro_rules | `(tactic| walk_at "but") => `(tactic| first
  | assumption
  | exact But.refl _ _
  | (refine But.then ?_ (by assumption); walk_at "but")
  | (refine But.trans ?_ (by assumption); walk_at "but")
  | (refine but_past ?_ (by assumption) ?_; (walk_at "but"); (walk_at "no")))
local macro_rules | `(tactic| walk_at "hasp") => `(tactic| (repeat (first | exact ⟨_, _, by assumption⟩ | (refine hasPen_same (by assumption) ?_))))
local macro_rules | `(tactic| walk_at "hasc") => `(tactic| (repeat (first | exact ⟨_, _, by assumption⟩ | (refine hasCells_same (by assumption) ?_))))
local macro_rules | `(tactic| walk_at "pen") => `(tactic| (repeat (first | assumption | (refine PenAt.keep ?_ (by assumption)))))
local macro_rules | `(tactic| walk_at "has") => `(tactic| first
  | exact ⟨_, by assumption⟩
  | (refine has_same (by assumption) ?_; walk_at "has")
  | (refine has_but (by assumption) ?_ ?_; (walk_at "n"); (walk_at "has")))
local macro_rules | `(tactic| walk_at "n") => `(tactic| first
  | assumption
  | exact Ne.symm (by assumption)
  | (refine ne_free (by assumption) ?_; walk_at "has")
  | (refine ne_free' (by assumption) ?_; walk_at "has")
  | (refine pen_off (by assumption) ?_; walk_at "hasp"; done)
  | (refine Ne.symm (pen_off (by assumption) ?_); walk_at "hasp"; done)
  | (refine pen_off' (by assumption) ?_; walk_at "hasc"; done)
  | (refine Ne.symm (pen_off' (by assumption) ?_); walk_at "hasc"; done))
local macro_rules | `(tactic| walk_at "hh") => `(tactic| first
  | assumption
  | (refine get_same (by assumption) ?_; walk_at "hh")
  | (refine get_but (by assumption) (by walk_at "n") ?_; walk_at "hh"))
local macro_rules | `(tactic| walk_at "h") => `(tactic| first
  | ((repeat (first | assumption | (refine get_same (by assumption) ?_) | (refine get_but (by assumption) (by walk_at "n") ?_))); done)
  | walk_at "hh")
local macro_rules | `(tactic| walk_at "r") => `(tactic| repeat (first
  | (refine go ?_)
  | (with_reducible refine rd_mul ?_ ?_)
  | (with_reducible refine rd_mod ?_ ?_)
  | (with_reducible refine rd_fdiv ?_ ?_)
  | (with_reducible refine rd_pow ?_ ?_)
  | (with_reducible refine rd_strI ?_ ?_)
  | (with_reducible refine rd_addS ?_ ?_)
  | (with_reducible refine rd_lenS ?_ ?_)
  | (with_reducible refine rd_slS ?_ ?_)))
local macro_rules | `(tactic| walk_at "R") => `(tactic| repeat (first
  | (refine go ?_)
  | (with_reducible refine new_lstS fun _ _ _ _ _ => ?_)
  | (with_reducible refine new_lst (Nat.le_of_ble_eq_true rfl) fun _ _ _ _ _ => ?_)
  | (with_reducible refine rd_dnewK fun _ _ _ _ _ => ?_)
  | (with_reducible refine new_tup (Nat.le_of_ble_eq_true rfl) fun _ _ _ _ _ => ?_)
  | ((with_reducible refine len_go ?_); first | (refine Or.inl ⟨_, sqL_of (by walk_at "h"), ?_⟩) | (refine Or.inr ⟨_, sqT_of (by walk_at "h"), ?_⟩))
  | ((with_reducible refine slT_go ?_); refine ⟨_, sqL_of (by walk_at "h"), fun _ _ _ _ _ => ?_⟩)
  | ((with_reducible refine slD_go ?_); refine ⟨_, sqL_of (by walk_at "h"), fun _ _ _ _ _ => ?_⟩)
  | ((with_reducible refine slD1_go ?_); refine ⟨_, sqL_of (by walk_at "h"), fun _ _ _ _ _ => ?_⟩)
  | ((with_reducible refine sl_go ?_); refine ⟨_, sqL_of (by walk_at "h"), fun _ _ _ _ _ => ?_⟩)
  | ((with_reducible refine cat_go ?_); refine catS_go (by walk_at "h") (by walk_at "h") ?_ fun _ _ _ _ _ => ?_; rotate_left)
  | ((with_reducible refine cat_go ?_); refine catV_go (by walk_at "h") (by walk_at "h") (Nat.le_of_ble_eq_true rfl) fun _ _ _ _ _ => ?_)
  | ((with_reducible refine cat_go ?_); refine catV_go (by walk_at "h") (by walk_at "h") ?_ fun _ _ _ _ _ => ?_; rotate_left)
  | ((with_reducible refine ixL_go ?_); refine ⟨_, sqL_of (by walk_at "h"), ?_⟩; refine ⟨_, atI_lit, ?_⟩)
  | (with_reducible refine rd_mul ?_ ?_; rotate_left)
  | (with_reducible refine rd_mod ?_ ?_; rotate_left)
  | (with_reducible refine rd_fdiv ?_ ?_; rotate_left)
  | (with_reducible refine rd_pow ?_ ?_; rotate_left)
  | (with_reducible refine rd_strI ?_ ?_; rotate_left)
  | (with_reducible refine rd_addS ?_ ?_; rotate_left)
  | (with_reducible refine rd_lenS ?_ ?_; rotate_left)
  | (with_reducible refine rd_slS ?_ ?_; rotate_left)))

open LamX
structure LawSt (P1 : Addr) (n : Nat) (H : Hp) (p q : Addr) : Prop where
  pen : PenAt n H p q
  tab : Tabs (tabT P1) H
theorem LawSt.keep {P1 p q : Addr} {n : Nat} {H H' : Hp} (h : LawSt P1 n H p q) (s : Same H H') : LawSt P1 n H' p q := ⟨h.pen.keep s, h.tab.ext s⟩
theorem LawSt.mono {P1 p q : Addr} {n m : Nat} {H : Hp} (h : LawSt P1 n H p q) (s : n ≤ m) : LawSt P1 m H p q := ⟨h.pen.mono s, h.tab⟩
theorem LawSt.but {P1 p q : Addr} {n m : Nat} {H H' : Hp} (h : LawSt P1 n H p q) (b : But p H H') (h' : PenAt m H' p q) : LawSt P1 m H' p q := ⟨h', tabs_pen h.tab h.pen b⟩
theorem LawSt.ext {P1 p q : Addr} {n : Nat} {H H' : Hp} (h : LawSt P1 n H p q) (x : ExtN H H') (t : Tabs (tabT P1) H') : LawSt P1 n H' p q := ⟨h.pen.ext x, t⟩
def pgs : List Str := ["", "\n", "settle\n", "open d k\nclose 01", "move", "settle x"]
def pgL : Str := "settle\nclose 1_0"
def resO (z : Str) : HO := match read1 (rowsOf z) 0 with
  | some (i, k) => .tup [.int (i : Nat), .int (k : Nat)]
  | none => .lst []
def pgOk (z : Str) : Prop := z.length ≤ 1000 ∧ Asc z ∧ ((read1 (rowsOf z) 0).isSome = true ∨ rowsOf z = [])
theorem pgs_ok : ∀ z ∈ pgs, pgOk z := by
  intro z hz
  simp only [pgs, List.mem_cons, List.not_mem_nil, or_false] at hz
  rcases hz with rfl | rfl | rfl | rfl | rfl | rfl
  · exact ⟨by decide +kernel, by decide +kernel, .inr (by decide +kernel)⟩
  all_goals exact ⟨by decide +kernel, by decide +kernel, .inl (by decide +kernel)⟩
theorem pgL_ok : pgOk pgL := ⟨by decide +kernel, by decide +kernel, .inl (by decide +kernel)⟩
theorem heard_by {P1 : Addr} {z : Str} {H : Hp} {Q : VK} {E : XK} (ok : pgOk z) (tT : Tabs (tabT P1) H) (k : ∀ p H', (∀ D xs, H D = some (.lst xs) → D ≠ p) → ExtN H H' → Tabs (tabT P1) H' → H' p = some (resO z) → Q (.ref p) H') : spHeard P1 [.str z] H Q E := by
  refine ⟨_, rfl, .str z ok.1 ok.2.1, tT, (fun h => nomatch h), fun z2 e => ?_⟩
  cases e
  refine ⟨fun i j hk p H' x t h => ?_, fun hn p ds H' nx x t h da => ?_⟩
  · refine k p H' (fun D xs hD z => ?_) x t (by rw [h]; unfold resO; rw [hk])
    have := x _ _ hD (fun _ z => by cases z)
    rw [z, h] at this
    cases this
  · rcases ok.2.2 with h1 | h1
    · rw [hn] at h1; cases h1
    · rw [h1] at da
      have : ds = [] := List.length_eq_zero_iff.mp da.len
      subst this
      exact k p H' (fun D xs hD => nx D _ hD (fun _ z => by cases z)) x t (by rw [h]; unfold resO; rw [hn])
theorem res_cases (z : Str) : (∃ i k : Nat, resO z = .tup [.int i, .int k]) ∨ resO z = .lst [] := by
  unfold resO
  cases read1 (rowsOf z) 0 with
  | none => exact .inr rfl
  | some ik => exact .inl ⟨_, _, rfl⟩
/-- what was told so far stays where the list that holds it grows -/
theorem res_off {H H' : Hp} {D : Addr} {zs : List Str} {acc : List V} {o : HO} (h : ObjsAt H (zs.map resO) acc) (hD : H D = some (.lst acc)) (x : ExtN H H') : ObjsAt (upd H' D o) (zs.map resO) acc := h.to fun q u hu e => by
  obtain ⟨z, hz, rfl⟩ := List.mem_map.mp hu
  have ne : q ≠ D := fun c => by
    rw [c, hD] at e
    rcases res_cases z with ⟨i, k, e2⟩ | e2
    · rw [e2] at e; cases e
    · rw [e2] at e
      have e3 : acc = [] := by injection e with e; injection e
      have := h.len
      rw [e3, List.length_map] at this
      have : zs = [] := List.length_eq_zero_iff.mp this.symm
      rw [this] at hz
      cases hz
  rw [upd_ne ne]
  rcases res_cases z with ⟨i, k, e2⟩ | e2
  · rw [e2] at e ⊢; exact x _ _ e (fun _ z => by cases z)
  · rw [e2] at e ⊢; exact x _ _ e (fun _ z => by cases z)
def spLaw (K : PySem.W.Frag) (P1 : Addr) : Sp := fun vs H Q _ => ∃ (a : Addr) (ns : List Int), vs = [.ref a] ∧ SqL K H a (ns.map V.int) ∧ ns.length ≤ 63 ∧ Tabs (tabT P1) H ∧ ∀ H', Q (.bl true) H'
section
variable {P : Program} {w : World} {K : PySem.W.Frag} {mg : Str → Option Value} {base : Heap} {CT P1 : Addr}
theorem ok_law {f f1 f2 f3 f4 f5 f6 f7 f8 f9 fA : Addr} {fd fd1 fd2 fd3 fd4 fd5 fd6 fd7 fd8 fd9 fdA : FuncData} (F : Fun K "law" "law" s_law f fd) (T : Tx K mg)
    (C__law_pen : Cal P w K mg base 1 "_law_pen" s__law_pen ["_law_script"] (spPen K) f1 fd1)
    (C__law_draw : Cal P w K mg base 1 "_law_draw" s__law_draw ["_law_pen_here", "_law_many"] spDraw f2 fd2)
    (C__law_pick : Cal P w K mg base 2 "_law_pick" s__law_pick ["_law_pen_here", "_law_some"] spPickB f3 fd3)
    (C__law_deed : Cal P w K mg base 5 "_law_deed" s__law_deed ["_law_pen_here"] spDeedL f4 fd4)
    (C__law_text : Cal P w K mg base 1 "_law_text" s__law_text ["_law_some"] (spText K false) f5 fd5)
    (C_story_text : Cal P w K mg base 1 "story_text" s_story_text ["deeds"] (spTextB K) f6 fd6)
    (C__law_heard : Cal P w K mg base 8 "_law_heard" s__law_heard ["_law_value"] (spHeard P1) f7 fd7)
    (C_read_story : CalX P w K mg base 7 "read_story" s_read_story ["text"] (spRead CT P1) f8 fd8)
    (C__law_bent : Cal P w K mg base 3 "_law_bent" s__law_bent ["_law_pen_here", "_law_lines_so"] spBent f9 fd9)
    (C__law_due : Cal P w K mg base 3 "_law_due" s__law_due ["_law_page"] spDue fA fdA) :
    FnG P w K mg base CX0 9 f fd ["_law_script"] (spLaw K P1) := by
  have kb_story_text_deeds := kbn_one (p := "deeds") C_story_text.F (fun _ _ _ _ _ _ _ => rfl)
  have kb_read_story_text := kbn_one (p := "text") C_read_story.F (fun _ _ _ _ _ _ _ => rfl)
  refine okG F sc_law (fun vs H Q E h => ?_) (fun cdv A outer s H vs Q E hrG h => ?_)
  · obtain ⟨a, ns, rfl, _⟩ := h
    rfl
  · obtain ⟨a, ns, rfl, hs, hl, tT, k⟩ := h
    have hg := hrG.g
    have hr := hrG.r
    refine ⟨_, (pss_cons (ps_set (i := 1) sc_law.nd rfl (by first | exact Or.inl rfl | exact Or.inr rfl) (pe_call C__law_pen.G (hr.mono (by decide)) (by rfl) C__law_pen.g C__law_pen.F.kp C__law_pen.b .nil pass0 (pa_cons (pv 0) pa_nil)))
      (pss_cons (ps_for PassesOwn.never rfl (pi_range1 (by rfl) T.b_range (pa_cons pe_int pa_nil)) (pg_name (i := 2) sc_law.nd rfl (by first | exact Or.inl rfl | exact Or.inr rfl))
      (pss_cons (ps_setLc (i := 3) (own := [("_law_k", 11)]) rfl sc_law.nd rfl rfl (sw_true rfl rfl rfl (by decide +kernel)) (pi_range1 (by rfl) T.b_range (pa_cons (pe_call C__law_draw.G (hr.mono (by decide)) (by rfl) C__law_draw.g C__law_draw.F.kp C__law_draw.b .nil pass0 (pa_cons (pv 1) (pa_cons pe_int pa_nil))) pa_nil)) (blkOk_by (own := [("_law_k", 11)]) (N := ["_law_script", "_law_pen_here", "_law_turn", "_law_row_so", "_law_page", "_law_lines_so", "_law_again", "_law_some", "_law_bent_here", "_law_odd", "_law_told", "_law_k"]) (sc := defScope s_law) (by decide +kernel)) (fun _ _ _ _ _ => (pg_name (i := 11) sc_law.nd rfl (by first | exact Or.inl rfl | exact Or.inr rfl))) (fun _ _ _ _ _ => pts_nil) (fun _ _ _ _ _ => (pe_call C__law_deed.G (hr.mono (by decide)) (by rfl) C__law_deed.g C__law_deed.F.kp C__law_deed.b .nil pass0 (pa_cons (pv 1) pa_nil))))
      (pss_cons (ps_set (i := 4) sc_law.nd rfl (by first | exact Or.inl rfl | exact Or.inr rfl) (pe_call C__law_text.G (hr.mono (by decide)) (by rfl) C__law_text.g C__law_text.F.kp C__law_text.b .nil pass0 (pa_cons (pv 3) pa_nil)))
      (pss_cons (ps_if (PW.pt (pw_or (pt_cmpR op_ne (pe_call C_story_text.G (hr.mono (by decide)) (by rfl) C_story_text.g C_story_text.F.kp C_story_text.b .nil pass0 (pa_cons (pv 3) pa_nil)) (pv 4) (nomark _)) (pw_or1 (pt_cmpR op_ne (pe_callN0 C_story_text.G (hr.mono (by decide)) (by rfl) C_story_text.g C_story_text.F.kp kb_story_text_deeds pass0 (pk_cons (pe_callTy cr_tupOf (by rfl) T.b_tuple (by decide +kernel) (pa_cons (pv 3) pa_nil)) pk_nil)) (pv 4) (nomark _))))) (pss_one (ps_ret pe_bl)) pss_nil)
      (pss_cons (ps_if (PW.pt (pw_or (pt_cmpR op_ne (pe_callB (cr_reprQ hg hr.units) (by rfl) T.b_repr (by decide +kernel) (pa_cons (pe_call C__law_heard.G (hr.mono (by decide)) (by rfl) C__law_heard.g C__law_heard.F.kp C__law_heard.b .nil pass0 (pa_cons (pv 4) pa_nil)) pa_nil)) (pe_callB (cr_reprQ hg hr.units) (by rfl) T.b_repr (by decide +kernel) (pa_cons (pv 3) pa_nil)) (nomark _)) (pw_or1 (pt_cmpR (op_neD hr.units) (pe_callN0 C_read_story.G (hr.mono (by decide)) (by rfl) C_read_story.g C_read_story.F.kp kb_read_story_text (passes_call L2.takes0 fun _ _ _ _ z => z) (pk_cons (pv 4) pk_nil)) (pe_callTy cr_tupOf (by rfl) T.b_tuple (by decide +kernel) (pa_cons (pv 3) pa_nil)) (nomark _))))) (pss_one (ps_ret pe_bl)) pss_nil)
      (pss_cons (ps_set (i := 5) sc_law.nd rfl (by first | exact Or.inl rfl | exact Or.inr rfl) (pe_ifExp (pt_cmpR op_ne (pv 4) pe_str (nomark _)) (pe_split (pv 4) pe_str) (pe_lst pa_nil)))
      (pss_cons (ps_for PassesOwn.never rfl (pi_range1 (by rfl) T.b_range (pa_cons pe_int pa_nil)) (pg_name (i := 6) sc_law.nd rfl (by first | exact Or.inl rfl | exact Or.inr rfl))
      (pss_cons (ps_set (i := 7) sc_law.nd rfl (by first | exact Or.inl rfl | exact Or.inr rfl) (pe_call C__law_bent.G (hr.mono (by decide)) (by rfl) C__law_bent.g C__law_bent.F.kp C__law_bent.b .nil pass0 (pa_cons (pv 1) (pa_cons (pv 5) pa_nil))))
      (pss_cons (ps_set (i := 7) sc_law.nd rfl (by first | exact Or.inl rfl | exact Or.inr rfl) (pe_ifExp (pt_cmpR op_eq (pe_call C__law_draw.G (hr.mono (by decide)) (by rfl) C__law_draw.g C__law_draw.F.kp C__law_draw.b .nil pass0 (pa_cons (pv 1) (pa_cons pe_int pa_nil))) pe_int (nomark _)) (pe_call C__law_bent.G (hr.mono (by decide)) (by rfl) C__law_bent.g C__law_bent.F.kp C__law_bent.b .nil pass0 (pa_cons (pv 1) (pa_cons (pv 7) pa_nil))) (pv 7)))
      (pss_cons (ps_set (i := 8) sc_law.nd rfl (by first | exact Or.inl rfl | exact Or.inr rfl) (pe_m1 PySem.F.slot_str_join PySem.F.type_str_join mt_joinN pe_str (pv 7)))
      (pss_one (ps_if (pt_cmpR op_ne (pe_callB (cr_reprQ hg hr.units) (by rfl) T.b_repr (by decide +kernel) (pa_cons (pe_call C__law_heard.G (hr.mono (by decide)) (by rfl) C__law_heard.g C__law_heard.F.kp C__law_heard.b .nil pass0 (pa_cons (pv 8) pa_nil)) pa_nil)) (pe_callB (cr_reprQ hg hr.units) (by rfl) T.b_repr (by decide +kernel) (pa_cons (pe_call C__law_due.G (hr.mono (by decide)) (by rfl) C__law_due.g C__law_due.F.kp C__law_due.b .nil pass0 (pa_cons (pv 8) pa_nil)) pa_nil)) (nomark _)) (pss_one (ps_ret pe_bl)) pss_nil))))))
      (pss_cons (ps_set (i := 9) sc_law.nd rfl (by first | exact Or.inl rfl | exact Or.inr rfl) (pe_call C__law_pick.G (hr.mono (by decide)) (by rfl) C__law_pick.g C__law_pick.F.kp C__law_pick.b .nil pass0 (pa_cons (pv 1) (pa_cons (pe_lst (pa_cons pe_non (pa_cons pe_int (pa_cons pe_bl (pa_cons (pe_tup pa_nil) (pa_cons (pe_lst (pa_cons pe_str pa_nil)) (pa_cons pe_dnewK (pa_cons (pe_tup (pa_cons pe_str pa_nil)) (pa_cons (pe_lst (pa_cons (pe_tup (pa_cons pe_str pa_nil)) pa_nil)) pa_nil))))))))) pa_nil))))
      (pss_one (ps_if (pt_cmpR (op_neD hr.units) (pe_call C__law_heard.G (hr.mono (by decide)) (by rfl) C__law_heard.g C__law_heard.F.kp C__law_heard.b .nil pass0 (pa_cons (pv 9) pa_nil)) (pe_tup (pa_cons pe_int (pa_cons pe_int pa_nil))) (nomark _)) (pss_one (ps_ret pe_bl)) pss_nil))))))))))
      (pss_cons (ps_setLc (i := 10) (own := [("_law_page", 4)]) rfl sc_law.nd rfl rfl (sw_true rfl rfl rfl (by decide +kernel)) (pi_tup (pe_tup (pa_cons pe_str (pa_cons pe_str (pa_cons pe_str (pa_cons pe_str (pa_cons pe_str (pa_cons pe_str pa_nil)))))))) (blkOk_by (own := [("_law_page", 4)]) (N := ["_law_script", "_law_pen_here", "_law_turn", "_law_row_so", "_law_page", "_law_lines_so", "_law_again", "_law_some", "_law_bent_here", "_law_odd", "_law_told", "_law_k"]) (sc := defScope s_law) (by decide +kernel)) (fun _ _ _ _ _ => (pg_name (i := 4) sc_law.nd rfl (by first | exact Or.inl rfl | exact Or.inr rfl))) (fun _ _ _ _ _ => pts_nil) (fun _ _ _ _ _ => (pe_call C__law_heard.G (hr.mono (by decide)) (by rfl) C__law_heard.g C__law_heard.F.kp C__law_heard.b .nil pass0 (pa_cons (pv 4) pa_nil))))
      (pss_cons (ps_expr (pe_bm PySem.F.plainAttrs_list PySem.F.slot_list_append PySem.F.type_list_append mt_append (pv 10) (pa_cons (pe_call C__law_heard.G (hr.mono (by decide)) (by rfl) C__law_heard.g C__law_heard.F.kp C__law_heard.b .nil pass0 (pa_cons pe_str pa_nil)) pa_nil)))
      (pss_one (ps_ret (pe_cmpR (op_eqD hr.units) (pv 10) (pe_lst (pa_cons (pe_lst pa_nil) (pa_cons (pe_tup (pa_cons pe_int (pa_cons pe_int pa_nil))) (pa_cons (pe_tup (pa_cons pe_int (pa_cons pe_int pa_nil))) (pa_cons (pe_tup (pa_cons pe_int (pa_cons pe_int pa_nil))) (pa_cons (pe_tup (pa_cons pe_int (pa_cons pe_int pa_nil))) (pa_cons (pe_tup (pa_cons pe_int (pa_cons pe_int pa_nil))) (pa_cons (pe_tup (pa_cons pe_int (pa_cons pe_int pa_nil))) pa_nil)))))))) (nomark _)))))))), ?_⟩
    walk_at "r"
    refine ⟨a, ns, rfl, hs, hl, fun p q H1 n1 s1 hp1 => ?_⟩
    walk_at "r"
    have st1 : LawSt P1 0 H1 p q := ⟨hp1, tT.ext s1⟩
    refine ⟨by decide, by decide, ?_⟩
    refine for_range (lo := 0) (fun i σ' H' => ∃ v2 v3 v4 v5 v6 v7 v8 v9, σ' = [some (.ref a), some (.ref p), v2, v3, v4, v5, v6, v7, v8, v9, none, none] ∧ LawSt P1 (1000 * i) H' p q) ⟨none, none, none, none, none, none, none, none, rfl, st1⟩ (fun i σ' H2 hi I => ?_) (fun σ' H2 I => ?_)
    · obtain ⟨v2, v3, v4, v5, v6, v7, v8, v9, rfl, st2⟩ := I
      have hi5 : i < 5 := hi
      walk_at "R"
      refine ⟨p, q, _, 1000 * i, rfl, by decide, by decide, by omega, st2.pen, fun d3 H3 d30 d31 b3 hp3 => ?_⟩
      have st3 := st2.but b3 hp3
      walk_at "R"
      obtain ⟨m3, rfl⟩ := Int.eq_ofNat_of_zero_le d30
      refine ⟨by omega, by omega, ?_⟩
      refine ent_range (fun D j H' => ∃ ds rows, H' D = some (.lst ds) ∧ DeedsAt H' rows ds ∧ rows.length = j ∧ (∀ ws ∈ rows, GoodD ws) ∧ LawSt P1 (1000 * i + 1 + 70 * j) H' p q) (fun D hD => ?_) (fun D j H' hD hj I => ?_) (fun D H4 hD I => ?_)
      · exact ⟨[], [], upd_same, .nil, rfl, (fun ws h => nomatch h), st3.keep (same_new hD)⟩
      · obtain ⟨ds, rows, h1, da, hj2, hg2, st⟩ := I
        have hj3 : j < 13 := by omega
        walk_at "R"
        refine ⟨rfl, ?_⟩
        walk_at "R"
        refine ⟨p, q, _, rfl, by omega, st.pen, fun b ws H5 g5 h5 b5 hp5 => ?_⟩
        have Dp : D ≠ p ∧ D ≠ q := hp3.off hD
        have h6 : H5 D = some (.lst ds) := b5 _ _ Dp.1 h1
        have stp := st.but b5 hp5
        have hpp : ∃ ys, H' p = some (.lst ys) := let ⟨_, _, _, e, _⟩ := st.pen; ⟨_, e⟩
        have off : ∀ q us, H5 q = some (.tup us) → upd H5 D (.lst (ds ++ [V.ref b])) q = some (.tup us) := fun q us e => by
          rw [upd_ne (fun z => by rw [z, h6] at e; cases e)]
          exact e
        refine ⟨ds, h6, ?_, _, rows ++ [ws], upd_same, ?_, ?_, ?_, ?_⟩
        · rw [da.len, hj2]
          exact small1000 (by omega)
        · refine (da.to fun q us e => off q us (b5 _ _ (fun z => ?_) e)).snoc (off _ _ h5)
          obtain ⟨ys, hy⟩ := hpp
          rw [z, hy] at e
          cases e
        · rw [List.length_append, hj2]; rfl
        · intro x hx
          rcases List.mem_append.mp hx with hx | hx
          · exact hg2 x hx
          · cases List.mem_singleton.mp hx
            exact g5
        · exact ⟨(hp5.upd Dp).mono (by omega), stp.tab.lst but_upd h6⟩
      · obtain ⟨ds, rows, h4, da, hj2, hg2, st4⟩ := I
        have few : rows.length ≤ 12 := by omega
        clear hp3 st3 b3 st2 hp1 st1
        walk_at "R"
        refine ⟨D, ds, rows, rfl, h4, da, by omega, hg2, fun H5 s5 => ?_⟩
        walk_at "R"
        have da5 : DeedsAt H5 rows ds := da.to fun q us e => s5 _ _ e
        refine .inl ⟨D, ds, rows, rfl, (by walk_at "h"), da5, by omega, hg2, fun H6 s6 => ?_⟩
        walk_at "R"
        refine rd_decN (fun c => absurd rfl c) (fun _ => ?_)
        walk_at "R"
        refine ⟨D, ds, rfl, .inl ⟨sqL_of (by walk_at "h"), fun l7 n7 => ?_⟩⟩
        have s7 := same_new (o := .tup ds) n7
        have h7 : upd H6 l7 (.tup ds) l7 = some (.tup ds) := upd_same
        generalize upd H6 l7 (.tup ds) = H7 at *
        walk_at "R"
        have da7 : DeedsAt H7 rows ds := da5.to fun q us e => s7 _ _ (s6 _ _ e)
        refine ⟨rfl, rfl, .inr ⟨l7, ds, rows, rfl, h7, da7, by omega, hg2, fun H8 s8 => ?_⟩⟩
        walk_at "R"
        refine rd_decN (fun c => absurd rfl c) (fun _ => ?_)
        have st8 := st4.keep (show Same H4 H8 by walk_at "same")
        have h8 : H8 D = some (.lst ds) := by walk_at "h"
        have da8 : DeedsAt H8 rows ds := da7.to fun q us e => s8 _ _ e
        have rb := read_back hg2
        have gl := good_page hg2 (by omega)
        have wn : ∀ ws ∈ rows, wrongL ws = none := fun ws h => (hg2 ws h).ok
        have rn := read_good (i := 0) wn
        clear s8 h7 da7 s7 n7 s6 da5 s5 st4 h4 da
        walk_at "R"
        refine ⟨_, rfl, .str _ gl.1 gl.2, st8.tab, (fun h => nomatch h), fun z ez => ?_⟩
        cases ez
        refine ⟨fun i k hk => (by rw [rb, rn] at hk; cases hk), fun _ p9 ds9 H9 _ x9 t9 h9 da9 => ?_⟩
        rw [rb] at da9
        have st9 := st8.ext x9 t9
        have h9D : H9 D = some (.lst ds) := x9 _ _ h8 (fun _ z => by cases z)
        have da9' : DeedsAt H9 rows ds := da8.to fun q us e => x9 _ _ e (fun _ z => by cases z)
        have sm := list_sm wn (by omega)
        walk_at "R"
        refine rd_reprS (d := .list (listD rows)) (.lst (sqL_of h9) (deeds_dp wn da9)) sm.list (by decide) (by decide) ?_
        walk_at "R"
        refine rd_reprS (d := .list (listD rows)) (.lst (sqL_of h9D) (deeds_dp wn da9')) sm.list (by decide) (by decide) ?_
        walk_at "R"
        refine rd_decN (fun c => absurd rfl c) (fun _ => ?_)
        walk_at "R"
        refine ⟨rfl, rfl, _, rfl, .str _ gl.1 gl.2, st9.tab, (fun h => nomatch h), fun z ez => ?_⟩
        cases ez
        refine ⟨fun i k hk => (by rw [rb, rn] at hk; cases hk), fun _ pA dsA HA xA tA hA daA => ?_⟩
        rw [rb] at daA
        have stA := st9.ext xA tA
        have hAD : HA D = some (.lst ds) := xA _ _ h9D (fun _ z => by cases z)
        have daA' : DeedsAt HA rows ds := da9'.to fun q us e => xA _ _ e (fun _ z => by cases z)
        walk_at "R"
        refine ⟨D, ds, rfl, .inl ⟨sqL_of hAD, fun lB nB => ?_⟩⟩
        have sB := same_new (o := .tup ds) nB
        have hB : upd HA lB (.tup ds) lB = some (.tup ds) := upd_same
        generalize upd HA lB (.tup ds) = HB at *
        refine rd_neSm (d := .tuple (listD rows)) (.tup (sqT_of (sB _ _ hA)) (deeds_dp wn (daA.to fun q us e => sB _ _ e))) (.tup (sqT_of hB) (deeds_dp wn (daA'.to fun q us e => sB _ _ e))) sm.tuple (by decide) ?_
        have stB := stA.keep sB
        clear sB hB daA daA' hAD hA xA tA stA da9 da9' h9 h9D x9 t9 st9 st8 h8 da8
        walk_at "R"
        refine rd_ifJ (fun v H' => ∃ (l : Addr) (ys : List Str), v = .ref l ∧ Same HB H' ∧ H' l = some (.lst (ys.map V.str)) ∧ LinesOk 12 27 ys) (fun Q1 hQ c => ?_) (fun Q1 hQ c => ?_) ?_
        · walk_at "R"
          refine split_at (Nat.le_trans gl.1 (by decide)) (by decide +kernel) fun l HC nC sC hC => ?_
          refine hQ _ _ ⟨l, _, rfl, sC, hC, ?_⟩
          have e : rowsOf (textR rows) = (Txt.split (textR rows) "\n").map fun r => Txt.split r " " := if_neg (by simpa using c)
          have gly := good_lines hg2 few
          have e2 : Txt.split (textR rows) "\n" = rows.map lineR := by
            have e3 := congrArg (List.map (Str.join " ")) (e.symm.trans rb)
            rw [List.map_map] at e3
            have e4 : (Str.join " " ∘ fun r => Txt.split r " ") = id := by
              funext r
              exact PySem.StrLaws.join_split _ _
            rw [e4, List.map_id] at e3
            exact e3
          rw [e2]
          exact gly
        · walk_at "R"
          rename_i l HC nC sC hC
          exact hQ _ _ ⟨l, [], rfl, sC, hC, Nat.zero_le _, fun x hx => nomatch hx⟩
        · rintro v HC ⟨lC, ys, rfl, sC, hC, lok⟩
          have stC := (stB.keep sC).mono (show _ ≤ 1000 * i + 850 by omega)
          have lCp : lC ≠ p := fun z => by
            obtain ⟨_, _, _, e, _⟩ := stC.pen
            rw [← z, hC] at e
            cases ys with
            | nil => cases e
            | cons y ys => cases e
          clear stB sC sm rn wn gl rb hg2 few
          walk_at "R"
          refine ⟨by decide, by decide, ?_⟩
          refine for_range (lo := 0) (fun j σ' H' => ∃ v6 v7 v8, σ' = [some (.ref a), some (.ref p), some (.int (0 + i)), some (.ref D), some (.str (textR rows)), some (.ref lC), v6, v7, v8, v9, none, none] ∧ LawSt P1 (1000 * i + 850 + 19 * j) H' p q ∧ H' lC = some (.lst (ys.map V.str))) ⟨v6, v7, v8, rfl, stC, hC⟩ (fun j σ' H2 hj I => ?_) (fun σ' H2 I => ?_)
          · obtain ⟨v6, v7, v8, rfl, st2, h2⟩ := I
            have hj7 : j < 7 := hj
            walk_at "R"
            refine ⟨p, q, lC, ys, _, 12, 27, rfl, by omega, st2.pen, lCp, h2, lok, by decide, by decide, fun l3 zs H3 n3 h3 lok3 b3 hp3 => ?_⟩
            have st3 := st2.but b3 hp3
            have l3p : l3 ≠ p := (st2.pen.off n3).1
            have h3C := b3 _ _ lCp h2
            walk_at "R"
            refine ⟨p, q, _, _, rfl, by decide, by decide, by omega, st3.pen, fun d4 H4 d40 d41 b4 hp4 => ?_⟩
            have st4 := st3.but b4 hp4
            have h4C := b4 _ _ lCp h3C
            have h4 := b4 _ _ l3p h3
            walk_at "R"
            refine rd_ifJ (fun v H' => ∃ (l : Addr) (ws : List Str), v = .ref l ∧ H' l = some (.lst (ws.map V.str)) ∧ LinesOk 14 47 ws ∧ LawSt P1 (1000 * i + 850 + 19 * (j + 1)) H' p q ∧ H' lC = some (.lst (ys.map V.str))) (fun Q1 hQ c => ?_) (fun Q1 hQ c => ?_) ?_
            · walk_at "R"
              refine ⟨p, q, l3, zs, _, 13, 37, rfl, by omega, st4.pen, l3p, h4, lok3, by decide, by decide, fun l5 ws H5 n5 h5 lok5 b5 hp5 => ?_⟩
              exact hQ _ _ ⟨l5, ws, rfl, h5, lok5, (st4.but b5 hp5).mono (by omega), b5 _ _ lCp h4C⟩
            · walk_at "R"
              exact hQ _ _ ⟨l3, zs, rfl, h4, ⟨Nat.le_trans lok3.1 (by decide), fun x hx => ⟨Nat.le_trans (lok3.2 x hx).1 (by decide), (lok3.2 x hx).2⟩⟩, st4.mono (by omega), h4C⟩
            · rintro v H5 ⟨l5, ws, rfl, h5, lok5, st5, h5C⟩
              obtain ⟨zl, za, zj⟩ := lines_page lok5 (by decide) (by decide)
              walk_at "R"
              refine rd_joinL h5 (by rw [show ("\n" : Str).length = 1 by decide +kernel]; omega) ?_
              generalize Str.join "\n" ws = z at *
              walk_at "R"
              have fewz := rows_few zl
              refine ⟨_, rfl, .str _ zl za, st5.tab, (fun h => nomatch h), fun z2 ez => ?_⟩
              cases ez
              refine ⟨fun i6 k6 hk p6 H6 x6 t6 h6 => ?_, fun hn p6 ds6 H6 _ x6 t6 h6 da6 => ?_⟩
              · have st6 := st5.ext x6 t6
                have h6C : H6 lC = some (.lst (ys.map V.str)) := x6 _ _ h5C (fun _ z => by cases z)
                obtain ⟨i6l, k6l⟩ := read1_le hk
                have sm : Sm 2 1 (.tuple [.int (i6 : Nat), .int (k6 : Nat)]) := ((smAll_cons (sm_int (by omega)) (smAll_cons (sm_int (by omega)) smAll_nil)).tuple).mono (by decide) (by decide)
                walk_at "R"
                refine rd_reprS (.tup (sqT_of h6) (.cons (.int _) (.cons (.int _) .nil))) sm (by decide) (by decide) ?_
                walk_at "R"
                refine ⟨z, rfl, zl, za, (fun i7 k7 hk7 p7 H7 s7 h7 => ?_), fun hn => by rw [hn] at hk; cases hk⟩
                rw [hk] at hk7
                cases hk7
                walk_at "R"
                refine rd_reprS (.tup (sqT_of h7) (.cons (.int _) (.cons (.int _) .nil))) sm (by decide) (by decide) ?_
                walk_at "R"
                refine rd_decN (fun c => absurd rfl c) (fun _ => ?_)
                walk_at "R"
                exact ⟨_, _, _, rfl, st6.keep s7, s7 _ _ h6C⟩
              · have st6 := st5.ext x6 t6
                have h6C : H6 lC = some (.lst (ys.map V.str)) := x6 _ _ h5C (fun _ z => by cases z)
                have wn := good_read hn
                have sm := list_sm wn fewz
                walk_at "R"
                refine rd_reprS (d := .list (listD (rowsOf z))) (.lst (sqL_of h6) (deeds_dp wn da6)) sm.list (by decide) (by decide) ?_
                walk_at "R"
                refine ⟨z, rfl, zl, za, (fun i7 k7 hk7 => by rw [hn] at hk7; cases hk7), fun _ p7 ds7 H7 s7 h7 da7 => ?_⟩
                walk_at "R"
                refine rd_reprS (d := .list (listD (rowsOf z))) (.lst (sqL_of h7) (deeds_dp wn da7)) sm.list (by decide) (by decide) ?_
                walk_at "R"
                refine rd_decN (fun c => absurd rfl c) (fun _ => ?_)
                walk_at "R"
                exact ⟨_, _, _, rfl, st6.keep s7, s7 _ _ h6C⟩
          · obtain ⟨v6, v7, v8, rfl, st2, h2⟩ := I
            have hp2 := st2.pen
            have tb2 := st2.tab
            clear stC hC st2
            walk_at "R"
            rename_i l3 H3 n3 s3 h3
            have st3 : LawSt P1 (1000 * i + 850 + 19 * 7) H3 p q := by
              have s23 : Same H2 H3 := by walk_at "same"
              exact ⟨hp2.keep s23, tb2.ext s23⟩
            refine .inl ⟨p, q, l3, _, _, rfl, h3, by walk_at "n", (show 0 < 8 by decide), (show 8 ≤ 1000 by decide), (show 1000 * i + 850 + 19 * 7 ≤ 1000000 by omega), by walk_at "pen", fun x H4 hx b4 hp4 => ?_⟩
            have st4 : LawSt P1 _ H4 p q := LawSt.but st3 b4 hp4
            obtain ⟨th, nst⟩ : Th H4 x ∧ isStrV x = false := by
              simp only [List.mem_cons, List.not_mem_nil, or_false] at hx
              rcases hx with rfl | rfl | rfl | rfl | rfl | rfl | rfl | rfl
              · exact ⟨.non, rfl⟩
              · exact ⟨.int _, rfl⟩
              · exact ⟨.bl _, rfl⟩
              · exact ⟨.tup (by walk_at "h"), rfl⟩
              · exact ⟨.lst (by walk_at "h"), rfl⟩
              · exact ⟨.dK (by walk_at "h"), rfl⟩
              · exact ⟨.tup (by walk_at "h"), rfl⟩
              · exact ⟨.lst (by walk_at "h"), rfl⟩
            clear hx h3 st3 b4 h2
            walk_at "R"
            refine ⟨x, rfl, th, st4.tab, fun _ p5 H5 x5 t5 h5 => ?_, fun z ez => by rw [ez] at nst; cases nst⟩
            have st5 := st4.ext x5 t5
            walk_at "R"
            rename_i t6 H6 n6 s6 h6
            have sm : Sm 2 1 (.tuple [.int 0, .int 0]) := ((smAll_cons (sm_int (by decide)) (smAll_cons (sm_int (by decide)) smAll_nil)).tuple).mono (by decide) (by decide)
            refine rd_neSm (.tup (sqT_of (s6 _ _ h5)) (.cons (.int _) (.cons (.int _) .nil))) (.tup (sqT_of h6) (.cons (.int _) (.cons (.int _) .nil))) sm (by decide) ?_
            walk_at "R"
            exact ⟨_, _, _, _, _, _, _, _, rfl, (st5.keep s6).mono (by omega)⟩
    · obtain ⟨v2, v3, v4, v5, v6, v7, v8, v9, rfl, st2⟩ := I
      have tb2 := st2.tab
      clear st2 st1 hp1
      walk_at "R"
      rename_i tp H3 n3 s3 h3
      refine ⟨⟨_, sqT_of h3⟩, ?_⟩
      refine lcat_tupP (xs := pgs.map V.str) (fun D j H' => Tabs (tabT P1) H' ∧ H' tp = some (.tup (pgs.map V.str)) ∧ ∃ acc, H' D = some (.lst acc) ∧ ObjsAt H' ((pgs.take j).map resO) acc) (fun D j H' hD ⟨_, h, _⟩ => sqT_of h) (fun D hD => ?_) (fun D j x H' hD hx ⟨t4, h4, acc, hA, oa⟩ => ?_) (fun D H' hD ⟨t4, h4, acc, hA, oa⟩ => ?_)
      · have s4 := same_new (o := .lst []) hD
        exact ⟨(tb2.ext s3).ext s4, s4 _ _ h3, [], upd_same, .nil⟩
      · obtain ⟨z, hz, rfl⟩ : ∃ z, pgs[j]? = some z ∧ x = .str z := by
          rw [List.getElem?_map] at hx
          cases e : pgs[j]? with
          | none => rw [e] at hx; cases hx
          | some z => rw [e] at hx; cases hx; exact ⟨z, rfl, rfl⟩
        walk_at "R"
        refine ⟨rfl, ?_⟩
        walk_at "R"
        refine heard_by (pgs_ok z (List.mem_of_getElem? hz)) t4 fun p5 H5 nD x5 t5 h5 => ?_
        have hA5 : H5 D = some (.lst acc) := x5 _ _ hA (fun _ z => by cases z)
        refine ⟨acc, hA5, ?_, t5.lst but_upd hA5, ?_, _, upd_same, ?_⟩
        · have := oa.len
          rw [List.length_map] at this
          rw [this]
          exact small1000 (Nat.le_trans (List.length_take_le' _ _) (by decide))
        · rw [upd_ne (fun z => by rw [z, hA] at h4; cases h4)]
          exact x5 _ _ h4 (fun _ z => by cases z)
        · rw [List.take_add_one, hz, List.map_append]
          refine (res_off oa hA x5).snoc ?_
          rw [upd_ne (nD D _ hA).symm]
          exact h5
      · have e6 : pgs.take (pgs.map V.str).length = pgs := by rw [List.length_map, List.take_length]
        rw [e6] at oa
        walk_at "R"
        refine ⟨.inl ⟨rfl, _, sqL_of hA⟩, ?_⟩
        walk_at "R"
        refine heard_by pgL_ok t4 fun p5 H5 nD x5 t5 h5 => ?_
        have hA5 : H5 D = some (.lst acc) := x5 _ _ hA (fun _ z => by cases z)
        walk_at "R"
        have al := oa.len
        refine rd_app2 hA5 (by rw [al]; decide) fun H6 b6 h6 => ?_
        have oa6 : ObjsAt H6 ((pgs ++ [pgL]).map resO) (acc ++ [.ref p5]) := by
          rw [List.map_append]
          have o5 := res_off (o := .lst acc) oa hA x5
          have e5 : upd H5 D (.lst acc) = H5 := by
            funext b
            by_cases hb : b = D
            · rw [hb, upd_same, hA5]
            · rw [upd_ne hb]
          rw [e5] at o5
          refine ObjsAt.snoc (o5.to fun q u hu e => b6 _ _ (fun c => ?_) e) (b6 _ _ (nD D _ hA).symm h5)
          obtain ⟨z, hz, rfl⟩ := List.mem_map.mp hu
          rw [c, hA5] at e
          rcases res_cases z with ⟨i, k, e2⟩ | e2
          · rw [e2] at e; cases e
          · rw [e2] at e
            have e3 : acc = [] := by injection e with e; injection e
            rw [e3] at al
            exact absurd al (by decide)
        generalize acc ++ [V.ref p5] = vs at *
        have ed : ((pgs ++ [pgL]).map resO) = [.lst [], .tup [.int 0, .int 0], .tup [.int 1, .int 0], .tup [.int 1, .int 1], .tup [.int 0, .int 1], .tup [.int 0, .int 1], .tup [.int 1, .int 1]] := by kernel_rfl
        rw [ed] at oa6
        clear hA5 b6 x5 h5 nD t5 al oa hA
        walk_at "R"
        rename_i l9 H9 n9 s9 h9
        refine rd_eqSm (d := .list [.list [], .tuple [.int 0, .int 0], .tuple [.int 1, .int 0], .tuple [.int 1, .int 1], .tuple [.int 0, .int 1], .tuple [.int 0, .int 1], .tuple [.int 1, .int 1]]) (.lst (sqL_of (by walk_at "h")) ((oa6.to (H' := H9) fun q o _ e => ?_).dp fun o ho => ?_)) (.lst (sqL_of h9) ?_) ⟨by decide +kernel, by decide +kernel, by decide +kernel, show _ ≤ 100 by decide +kernel, show _ ≤ 60 by decide +kernel⟩ (by decide) ?_
        · walk_at "h"
        · simp only [List.mem_cons, List.not_mem_nil, or_false] at ho
          rcases ho with rfl | rfl | rfl | rfl | rfl | rfl | rfl
          · exact fun v hv => nomatch hv
          all_goals
            intro v hv
            simp only [List.mem_cons, List.not_mem_nil, or_false] at hv
            rcases hv with rfl | rfl <;> trivial
        · exact .cons (.lst (sqL_of (by walk_at "h")) .nil) (.cons (.tup (sqT_of (by walk_at "h")) (.cons (.int _) (.cons (.int _) .nil))) (.cons (.tup (sqT_of (by walk_at "h")) (.cons (.int _) (.cons (.int _) .nil))) (.cons (.tup (sqT_of (by walk_at "h")) (.cons (.int _) (.cons (.int _) .nil))) (.cons (.tup (sqT_of (by walk_at "h")) (.cons (.int _) (.cons (.int _) .nil))) (.cons (.tup (sqT_of (by walk_at "h")) (.cons (.int _) (.cons (.int _) .nil))) (.cons (.tup (sqT_of (by walk_at "h")) (.cons (.int _) (.cons (.int _) .nil))) .nil))))))
        · walk_at "R"
          exact k _
end

end My

namespace My
open PySem PySem.Spec PyProof.Rows L2 EE LamX
local macro_rules | `(tactic| walk_at "sq") => `(tactic| first | assumption | exact sqL_of (by assumption) | exact sqT_of (by assumption))
local macro_rules | `(tactic| walk_at "same") => `(tactic| first
  | assumption
  | exact Same.refl _
  | (refine Same.trans ?_ (by assumption); walk_at "same")
  | (refine same_past ?_ (by assumption) ?_; (walk_at "same"); (walk_at "no")))
local macro_rules | `(tactic| walk_at "no") => `(tactic| first
  | assumption
  | (refine none_same ?_ (by assumption); walk_at "same")
  | (refine none_same (by assumption) ?_; walk_at "no")
  | (refine none_but (by assumption) ?_ ?_; (walk_at "n"); (walk_at "no")))
local macro_rules | `(tactic| walk_at "but") => `(tactic| first
  | assumption
  | exact But.refl _ _
  | (refine But.then ?_ (by assumption); walk_at "but")
  | (refine But.trans ?_ (by assumption); walk_at "but")
  | (refine but_past ?_ (by assumption) ?_; (walk_at "but"); (walk_at "no")))
local macro_rules | `(tactic| walk_at "hasp") => `(tactic| (repeat (first | exact ⟨_, _, by assumption⟩ | (refine hasPen_same (by assumption) ?_))))
local macro_rules | `(tactic| walk_at "hasc") => `(tactic| (repeat (first | exact ⟨_, _, by assumption⟩ | (refine hasCells_same (by assumption) ?_))))
local macro_rules | `(tactic| walk_at "pen") => `(tactic| (repeat (first | assumption | (refine PenAt.keep ?_ (by assumption)))))
local macro_rules | `(tactic| walk_at "has") => `(tactic| first
  | exact ⟨_, by assumption⟩
  | (refine has_same (by assumption) ?_; walk_at "has")
  | (refine has_but (by assumption) ?_ ?_; (walk_at "n"); (walk_at "has")))
local macro_rules | `(tactic| walk_at "n") => `(tactic| first
  | assumption
  | exact Ne.symm (by assumption)
  | (refine ne_free (by assumption) ?_; walk_at "has")
  | (refine ne_free' (by assumption) ?_; walk_at "has")
  | (refine pen_off (by assumption) ?_; walk_at "hasp"; done)
  | (refine Ne.symm (pen_off (by assumption) ?_); walk_at "hasp"; done)
  | (refine pen_off' (by assumption) ?_; walk_at "hasc"; done)
  | (refine Ne.symm (pen_off' (by assumption) ?_); walk_at "hasc"; done))
local macro_rules | `(tactic| walk_at "hh") => `(tactic| first
  | assumption
  | (refine get_same (by assumption) ?_; walk_at "hh")
  | (refine get_but (by assumption) (by walk_at "n") ?_; walk_at "hh"))
local macro_rules | `(tactic| walk_at "h") => `(tactic| first
  | ((repeat (first | assumption | (refine get_same (by assumption) ?_) | (refine get_but (by assumption) (by walk_at "n") ?_))); done)
  | walk_at "hh")
local macro_rules | `(tactic| walk_at "r") => `(tactic| repeat (first
  | (refine go ?_)
  | (with_reducible refine rd_mul ?_ ?_)
  | (with_reducible refine rd_mod ?_ ?_)
  | (with_reducible refine rd_fdiv ?_ ?_)
  | (with_reducible refine rd_pow ?_ ?_)
  | (with_reducible refine rd_strI ?_ ?_)
  | (with_reducible refine rd_addS ?_ ?_)
  | (with_reducible refine rd_lenS ?_ ?_)
  | (with_reducible refine rd_slS ?_ ?_)))
local macro_rules | `(tactic| walk_at "R") => `(tactic| repeat (first
  | (refine go ?_)
  | (with_reducible refine new_lstS fun _ _ _ _ _ => ?_)
  | (with_reducible refine new_lst (Nat.le_of_ble_eq_true rfl) fun _ _ _ _ _ => ?_)
  | (with_reducible refine rd_dnewK fun _ _ _ _ _ => ?_)
  | (with_reducible refine new_tup (Nat.le_of_ble_eq_true rfl) fun _ _ _ _ _ => ?_)
  | ((with_reducible refine len_go ?_); first | (refine Or.inl ⟨_, sqL_of (by walk_at "h"), ?_⟩) | (refine Or.inr ⟨_, sqT_of (by walk_at "h"), ?_⟩))
  | ((with_reducible refine slT_go ?_); refine ⟨_, sqL_of (by walk_at "h"), fun _ _ _ _ _ => ?_⟩)
  | ((with_reducible refine slD_go ?_); refine ⟨_, sqL_of (by walk_at "h"), fun _ _ _ _ _ => ?_⟩)
  | ((with_reducible refine slD1_go ?_); refine ⟨_, sqL_of (by walk_at "h"), fun _ _ _ _ _ => ?_⟩)
  | ((with_reducible refine sl_go ?_); refine ⟨_, sqL_of (by walk_at "h"), fun _ _ _ _ _ => ?_⟩)
  | ((with_reducible refine cat_go ?_); refine catS_go (by walk_at "h") (by walk_at "h") ?_ fun _ _ _ _ _ => ?_; rotate_left)
  | ((with_reducible refine cat_go ?_); refine catV_go (by walk_at "h") (by walk_at "h") (Nat.le_of_ble_eq_true rfl) fun _ _ _ _ _ => ?_)
  | ((with_reducible refine cat_go ?_); refine catV_go (by walk_at "h") (by walk_at "h") ?_ fun _ _ _ _ _ => ?_; rotate_left)
  | ((with_reducible refine ixL_go ?_); refine ⟨_, sqL_of (by walk_at "h"), ?_⟩; refine ⟨_, atI_lit, ?_⟩)
  | (with_reducible refine rd_mul ?_ ?_; rotate_left)
  | (with_reducible refine rd_mod ?_ ?_; rotate_left)
  | (with_reducible refine rd_fdiv ?_ ?_; rotate_left)
  | (with_reducible refine rd_pow ?_ ?_; rotate_left)
  | (with_reducible refine rd_strI ?_ ?_; rotate_left)
  | (with_reducible refine rd_addS ?_ ?_; rotate_left)
  | (with_reducible refine rd_lenS ?_ ?_; rotate_left)
  | (with_reducible refine rd_slS ?_ ?_; rotate_left)))

theorem ok_InvalidText {P : Program} {w : World} {K : PySem.W.Frag} {mg : Str → Option Value} {base : Heap} {f C : Addr} {fd : FuncData} (F : Fun K "__init__" "InvalidText.__init__" s_InvalidText___init__ f fd) (T : ExK K C) (n : PySem.W.findIn K (.ref C) "line" = some none) (n2 : PySem.W.findIn K (.ref C) "word" = some none) : FnOk P w K mg base CX0 1 f fd ["self", "line", "word"] (spI2 K C "line" "word") := by
  refine F.ok sc_InvalidText___init__ (fun vs H Q E h => ?_) (fun cdv A outer s H vs Q E hr h => ?_)
  · obtain ⟨a, y, z, rfl, _⟩ := h
    rfl
  · obtain ⟨a, y, z, rfl, ea, k⟩ := h
    refine ⟨_, (pss_cons (ps_stx (pv 0) (pv 1))
      (pss_one (ps_stx (pv 0) (pv 2)))), ?_⟩
    walk_at "r"
    refine ⟨a, C, rfl, T, n, .inl ⟨ea, fun dx H' h1 h2 h3 h4 h5 => ?_⟩⟩
    walk_at "r"
    exact ⟨a, C, rfl, T, n2, .inr ⟨dx, _, h3, h4, (show 1 ≤ 900 by decide), k dx _ h1 h2 ((upd_ne (Ne.symm h2)).trans h3) upd_same fun b q1 q2 => (upd_ne q2).trans (h5 b q1 q2)⟩⟩
def dflB (K : PySem.W.Frag) (T : Addr) (i : Int) : Bool := match K.lookup T with
  | some ⟨_, _, .seq its _, _⟩ => (match its.toList with | [.int j _] => decide (j = i) | _ => false)
  | _ => false
theorem dfl_int {K : PySem.W.Frag} {T : Addr} {i : Int} (h : dflB K T i = true) : DflV K (.ref T) [.int i] := by
  unfold dflB at h
  split at h
  · rename_i its n _ e
    split at h
    · rename_i j t e2
      have := of_decide_eq_true h
      subst this
      exact .inr ⟨List.cons_ne_nil _ _, T, _, [Value.int j t], n, rfl, e, by rw [← e2], .cons ⟨_, rfl⟩ .nil⟩
    · cases h
  · cases h
theorem dd_mk {K : PySem.W.Frag} {w : World} {mg : Str → Option Value} {dd fN fI : Addr} {es : Array DictEntry} {nd : Nat} {t0 : Addr} {n0 : Nat} {t1 : Addr} {n1 : Nat} {t2 : Addr} {n2 : Nat} {t3 : Addr} {n3 : Nat} {t4 : Addr} {n4 : Nat} {t5 : Addr} {n5 : Nat} (g : mg "DEEDS" = some (.ref dd)) (l : K.lookup dd = some ⟨.type "dict", none, .dict es nd, #[]⟩)
    (k : es.toList.map keyOfE = ([("open", .ref t0), ("close", .ref t1), ("move", .ref t2), ("book", .ref t3), ("restart", .ref t4), ("settle", .ref t5)] : List (Str × Value)).map (fun p => (some p.1, p.2))) (p : PySem.W.KeysLit w.params es.toList) (s : (dd == sysModules) = false)
    (e0 : K.lookup t0 = some ⟨.type "tuple", none, .seq #[.ref fN, .ref fN] n0, #[]⟩) (e1 : K.lookup t1 = some ⟨.type "tuple", none, .seq #[.ref fI] n1, #[]⟩) (e2 : K.lookup t2 = some ⟨.type "tuple", none, .seq #[.ref fN] n2, #[]⟩) (e3 : K.lookup t3 = some ⟨.type "tuple", none, .seq #[.ref fN, .ref fN] n3, #[]⟩) (e4 : K.lookup t4 = some ⟨.type "tuple", none, .seq #[.ref fN] n4, #[]⟩) (e5 : K.lookup t5 = some ⟨.type "tuple", none, .seq #[] n5, #[]⟩) : DdK K w mg dd fN fI := by
  refine ⟨⟨_, g, rfl⟩, ⟨es, nd, l, p, s⟩, fun z bs h => ?_, fun z h => ?_⟩
  · rw [nsIn_lit l k z]
    unfold kindsOf at h
    by_cases c0 : z = "open"
    · subst c0
      rw [if_pos rfl] at h
      cases h
      exact ⟨t0, by kernel_rfl, fun H => sqT_K e0 (by show 2 ≤ sizeLine; decide) ((.cons rfl (.cons rfl .nil)))⟩
    by_cases c1 : z = "close"
    · subst c1
      rw [if_neg c0, if_pos rfl] at h
      cases h
      exact ⟨t1, by kernel_rfl, fun H => sqT_K e1 (by show 1 ≤ sizeLine; decide) ((.cons rfl .nil))⟩
    by_cases c2 : z = "move"
    · subst c2
      rw [if_neg c0, if_neg c1, if_pos rfl] at h
      cases h
      exact ⟨t2, by kernel_rfl, fun H => sqT_K e2 (by show 1 ≤ sizeLine; decide) ((.cons rfl .nil))⟩
    by_cases c3 : z = "book"
    · subst c3
      rw [if_neg c0, if_neg c1, if_neg c2, if_pos rfl] at h
      cases h
      exact ⟨t3, by kernel_rfl, fun H => sqT_K e3 (by show 2 ≤ sizeLine; decide) ((.cons rfl (.cons rfl .nil)))⟩
    by_cases c4 : z = "restart"
    · subst c4
      rw [if_neg c0, if_neg c1, if_neg c2, if_neg c3, if_pos rfl] at h
      cases h
      exact ⟨t4, by kernel_rfl, fun H => sqT_K e4 (by show 1 ≤ sizeLine; decide) ((.cons rfl .nil))⟩
    by_cases c5 : z = "settle"
    · subst c5
      rw [if_neg c0, if_neg c1, if_neg c2, if_neg c3, if_neg c4, if_pos rfl] at h
      cases h
      exact ⟨t5, by kernel_rfl, fun H => sqT_K e5 (by show 0 ≤ sizeLine; decide) (.nil)⟩
    rw [if_neg c0, if_neg c1, if_neg c2, if_neg c3, if_neg c4, if_neg c5] at h
    cases h
  · rw [nsIn_lit l k z]
    unfold kindsOf at h
    by_cases c0 : z = "open"
    · rw [if_pos c0] at h
      cases h
    by_cases c1 : z = "close"
    · rw [if_neg c0, if_pos c1] at h
      cases h
    by_cases c2 : z = "move"
    · rw [if_neg c0, if_neg c1, if_pos c2] at h
      cases h
    by_cases c3 : z = "book"
    · rw [if_neg c0, if_neg c1, if_neg c2, if_pos c3] at h
      cases h
    by_cases c4 : z = "restart"
    · rw [if_neg c0, if_neg c1, if_neg c2, if_neg c3, if_pos c4] at h
      cases h
    by_cases c5 : z = "settle"
    · rw [if_neg c0, if_neg c1, if_neg c2, if_neg c3, if_neg c4, if_pos c5] at h
      cases h
    have b : ∀ {x y : Str}, ¬ x = y → (x == y) = false := fun h => beq_eq_false_iff_ne.mpr h
    simp only [List.lookup, b c0, b c1, b c2, b c3, b c4, b c5]
theorem all_mk {P : Program} {w : World} {K : PySem.W.Frag} {h : Heap} {mg : Str → Option Value} {fa : Addr} (X : K.In h) (G : h.Ns mainGlobals mg) (hfa : mg "law" = some (.ref fa))
        {P1 cD : Addr}
    {fis_name : Addr} {odis_name anis_name : Option Addr} {slis_name : Array (Option Value)} {ocis_name kVis_name dcis_name pmis_name ctis_name cdis_name : Value}
    {fname_in : Addr} {odname_in anname_in : Option Addr} {slname_in : Array (Option Value)} {ocname_in kVname_in dcname_in pmname_in ctname_in cdname_in : Value}
    {fnumber_in : Addr} {odnumber_in annumber_in : Option Addr} {slnumber_in : Array (Option Value)} {ocnumber_in kVnumber_in dcnumber_in pmnumber_in ctnumber_in cdnumber_in : Value}
    {fitem_in : Addr} {oditem_in anitem_in : Option Addr} {slitem_in : Array (Option Value)} {ocitem_in kVitem_in dcitem_in pmitem_in ctitem_in cditem_in : Value}
    {flines_of : Addr} {odlines_of anlines_of : Option Addr} {sllines_of : Array (Option Value)} {oclines_of kVlines_of dclines_of pmlines_of ctlines_of cdlines_of : Value}
    {fdeeds_in : Addr} {oddeeds_in andeeds_in : Option Addr} {sldeeds_in : Array (Option Value)} {ocdeeds_in kVdeeds_in dcdeeds_in pmdeeds_in ctdeeds_in cddeeds_in : Value}
    {fstory_text : Addr} {odstory_text anstory_text : Option Addr} {slstory_text : Array (Option Value)} {ocstory_text kVstory_text dcstory_text pmstory_text ctstory_text cdstory_text : Value}
    {fread_story : Addr} {odread_story anread_story : Option Addr} {slread_story : Array (Option Value)} {ocread_story kVread_story dcread_story pmread_story ctread_story cdread_story : Value}
    {f_law_pen : Addr} {od_law_pen an_law_pen : Option Addr} {sl_law_pen : Array (Option Value)} {oc_law_pen kV_law_pen dc_law_pen pm_law_pen ct_law_pen cd_law_pen : Value}
    {f_law_draw : Addr} {od_law_draw an_law_draw : Option Addr} {sl_law_draw : Array (Option Value)} {oc_law_draw kV_law_draw dc_law_draw pm_law_draw ct_law_draw cd_law_draw : Value}
    {f_law_pick : Addr} {od_law_pick an_law_pick : Option Addr} {sl_law_pick : Array (Option Value)} {oc_law_pick kV_law_pick dc_law_pick pm_law_pick ct_law_pick cd_law_pick : Value}
    {f_law_word : Addr} {od_law_word an_law_word : Option Addr} {sl_law_word : Array (Option Value)} {oc_law_word kV_law_word dc_law_word pm_law_word ct_law_word cd_law_word : Value}
    {f_law_tag : Addr} {od_law_tag an_law_tag : Option Addr} {sl_law_tag : Array (Option Value)} {oc_law_tag kV_law_tag dc_law_tag pm_law_tag ct_law_tag cd_law_tag : Value}
    {f_law_deed : Addr} {od_law_deed an_law_deed : Option Addr} {sl_law_deed : Array (Option Value)} {oc_law_deed kV_law_deed dc_law_deed pm_law_deed ct_law_deed cd_law_deed : Value}
    {f_law_text : Addr} {od_law_text an_law_text : Option Addr} {sl_law_text : Array (Option Value)} {oc_law_text kV_law_text dc_law_text pm_law_text ct_law_text cd_law_text : Value}
    {f_law_is_right : Addr} {od_law_is_right an_law_is_right : Option Addr} {sl_law_is_right : Array (Option Value)} {oc_law_is_right kV_law_is_right dc_law_is_right pm_law_is_right ct_law_is_right cd_law_is_right : Value}
    {f_law_wrong_line : Addr} {od_law_wrong_line an_law_wrong_line : Option Addr} {sl_law_wrong_line : Array (Option Value)} {oc_law_wrong_line kV_law_wrong_line dc_law_wrong_line pm_law_wrong_line ct_law_wrong_line cd_law_wrong_line : Value}
    {f_law_due : Addr} {od_law_due an_law_due : Option Addr} {sl_law_due : Array (Option Value)} {oc_law_due kV_law_due dc_law_due pm_law_due ct_law_due cd_law_due : Value}
    {f_law_heard : Addr} {od_law_heard an_law_heard : Option Addr} {sl_law_heard : Array (Option Value)} {oc_law_heard kV_law_heard dc_law_heard pm_law_heard ct_law_heard cd_law_heard : Value}
    {f_law_bent : Addr} {od_law_bent an_law_bent : Option Addr} {sl_law_bent : Array (Option Value)} {oc_law_bent kV_law_bent dc_law_bent pm_law_bent ct_law_bent cd_law_bent : Value}
    {flaw : Addr} {odlaw anlaw : Option Addr} {sllaw : Array (Option Value)} {oclaw kVlaw dclaw pmlaw ctlaw cdlaw : Value}
    {fD : Addr} {odD anD : Option Addr} {slD : Array (Option Value)} {ocD kVD dcD pmD ctD : Value}
    {C CT CN CM CD pO tI tR : Addr} {restO : List Value}
    {fI : Addr} {odI anI : Option Addr} {slI : Array (Option Value)} {ocI kVI dcI pmI ctI cdI : Value}
    {fR : Addr} {odR anR : Option Addr} {slR : Array (Option Value)} {ocR kVR dcR pmR ctR cdR : Value}
    {fK : Addr} {odK anK : Option Addr} {slK : Array (Option Value)} {ocK kVK dcK pmK ctK cdK : Value}
    {fL : Addr} {odL anL : Option Addr} {slL : Array (Option Value)} {ocL kVL dcL pmL ctL cdL : Value}
    {fO : Addr} {odO anO : Option Addr} {slO : Array (Option Value)} {ocO kVO dcO pmO ctO cdO : Value}
    {fT : Addr} {odT anT : Option Addr} {slT : Array (Option Value)} {ocT kVT dcT pmT ctT cdT : Value}
    {dd : Addr} {es : Array DictEntry} {nd : Nat} {t0 : Addr} {n0 : Nat} {t1 : Addr} {n1 : Nat} {t2 : Addr} {n2 : Nat} {t3 : Addr} {n3 : Nat} {t4 : Addr} {n4 : Nat} {t5 : Addr} {n5 : Nat}
    {tk0 : Tok}
    {tk1 : Tok}
    {tk2 : Tok}
    {tk3 : Tok}
    {tk4 : Tok}
    (ais_name : PySem.W.nsIn K mainGlobals "is_name" = some (some (.ref fis_name)))
    (aname_in : PySem.W.nsIn K mainGlobals "name_in" = some (some (.ref fname_in)))
    (anumber_in : PySem.W.nsIn K mainGlobals "number_in" = some (some (.ref fnumber_in)))
    (aitem_in : PySem.W.nsIn K mainGlobals "item_in" = some (some (.ref fitem_in)))
    (alines_of : PySem.W.nsIn K mainGlobals "lines_of" = some (some (.ref flines_of)))
    (adeeds_in : PySem.W.nsIn K mainGlobals "deeds_in" = some (some (.ref fdeeds_in)))
    (astory_text : PySem.W.nsIn K mainGlobals "story_text" = some (some (.ref fstory_text)))
    (aread_story : PySem.W.nsIn K mainGlobals "read_story" = some (some (.ref fread_story)))
    (a_law_pen : PySem.W.nsIn K mainGlobals "_law_pen" = some (some (.ref f_law_pen)))
    (a_law_draw : PySem.W.nsIn K mainGlobals "_law_draw" = some (some (.ref f_law_draw)))
    (a_law_pick : PySem.W.nsIn K mainGlobals "_law_pick" = some (some (.ref f_law_pick)))
    (a_law_word : PySem.W.nsIn K mainGlobals "_law_word" = some (some (.ref f_law_word)))
    (a_law_tag : PySem.W.nsIn K mainGlobals "_law_tag" = some (some (.ref f_law_tag)))
    (a_law_deed : PySem.W.nsIn K mainGlobals "_law_deed" = some (some (.ref f_law_deed)))
    (a_law_text : PySem.W.nsIn K mainGlobals "_law_text" = some (some (.ref f_law_text)))
    (a_law_is_right : PySem.W.nsIn K mainGlobals "_law_is_right" = some (some (.ref f_law_is_right)))
    (a_law_wrong_line : PySem.W.nsIn K mainGlobals "_law_wrong_line" = some (some (.ref f_law_wrong_line)))
    (a_law_due : PySem.W.nsIn K mainGlobals "_law_due" = some (some (.ref f_law_due)))
    (a_law_heard : PySem.W.nsIn K mainGlobals "_law_heard" = some (some (.ref f_law_heard)))
    (a_law_bent : PySem.W.nsIn K mainGlobals "_law_bent" = some (some (.ref f_law_bent)))
    (alaw : PySem.W.nsIn K mainGlobals "law" = some (some (.ref flaw)))
    (aD : PySem.W.nsIn K mainGlobals "deed_from" = some (some (.ref fD)))
    (gC : PySem.W.nsIn K mainGlobals "Line" = some (some (.ref C)))
    (gCT : PySem.W.nsIn K mainGlobals "InvalidText" = some (some (.ref CT)))
    (gCN : PySem.W.nsIn K mainGlobals "NetError" = some (some (.ref CN)))
    (gCM : PySem.W.nsIn K mainGlobals "MissingError" = some (some (.ref CM)))
    (gCD : PySem.W.nsIn K mainGlobals "InvalidDeed" = some (some (.ref CD)))
    (gdd : PySem.W.nsIn K mainGlobals "DEEDS" = some (some (.ref dd)))
    (iI : PySem.W.findIn K (.ref C) "__init__" = some (some (.ref fI)))
    (iR : PySem.W.findIn K (.ref C) "refuse" = some (some (.ref fR)))
    (iK : PySem.W.findIn K (.ref C) "take" = some (some (.ref fK)))
    (iL : PySem.W.findIn K (.ref C) "close" = some (some (.ref fL)))
    (oA : PySem.W.findIn K (.ref C) "is_over" = some (some (.ref pO)))
    (iT : PySem.W.findIn K (.ref CT) "__init__" = some (some (.ref fT)))
    (ldd : K.lookup dd = some ⟨.type "dict", none, .dict es nd, #[]⟩)
    (pT : h.get? P1 = some { cls := .none, data := .fields #[] })
    (oR : PySem.W.recIn K pO "property" = some (.ref fO :: restO))
    (ud0 : PySem.W.nsIn K dd "open" = some (some (.ref t0)))
    (ud1 : PySem.W.nsIn K dd "close" = some (some (.ref t1)))
    (ud2 : PySem.W.nsIn K dd "move" = some (some (.ref t2)))
    (ud3 : PySem.W.nsIn K dd "book" = some (some (.ref t3)))
    (ud4 : PySem.W.nsIn K dd "restart" = some (some (.ref t4)))
    (ud5 : PySem.W.nsIn K dd "settle" = some (some (.ref t5)))
    (kdd : es.toList.map keyOfE = ([("open", .ref t0), ("close", .ref t1), ("move", .ref t2), ("book", .ref t3), ("restart", .ref t4), ("settle", .ref t5)] : List (Str × Value)).map (fun p => (some p.1, p.2)))
    (lis_name : K.lookup fis_name = some ⟨ocis_name, odis_name, .func (PySem.W.fnOf "is_name" "is_name" (defArgs s_is_name) (defBody s_is_name) (defScope s_is_name) .none kVis_name dcis_name pmis_name anis_name cdis_name ctis_name), slis_name⟩)
    (lname_in : K.lookup fname_in = some ⟨ocname_in, odname_in, .func (PySem.W.fnOf "name_in" "name_in" (defArgs s_name_in) (defBody s_name_in) (defScope s_name_in) .none kVname_in dcname_in pmname_in anname_in cdname_in ctname_in), slname_in⟩)
    (lnumber_in : K.lookup fnumber_in = some ⟨ocnumber_in, odnumber_in, .func (PySem.W.fnOf "number_in" "number_in" (defArgs s_number_in) (defBody s_number_in) (defScope s_number_in) .none kVnumber_in dcnumber_in pmnumber_in annumber_in cdnumber_in ctnumber_in), slnumber_in⟩)
    (litem_in : K.lookup fitem_in = some ⟨ocitem_in, oditem_in, .func (PySem.W.fnOf "item_in" "item_in" (defArgs s_item_in) (defBody s_item_in) (defScope s_item_in) .none kVitem_in dcitem_in pmitem_in anitem_in cditem_in ctitem_in), slitem_in⟩)
    (llines_of : K.lookup flines_of = some ⟨oclines_of, odlines_of, .func (PySem.W.fnOf "lines_of" "lines_of" (defArgs s_lines_of) (defBody s_lines_of) (defScope s_lines_of) .none kVlines_of dclines_of pmlines_of anlines_of cdlines_of ctlines_of), sllines_of⟩)
    (ldeeds_in : K.lookup fdeeds_in = some ⟨ocdeeds_in, oddeeds_in, .func (PySem.W.fnOf "deeds_in" "deeds_in" (defArgs s_deeds_in) (defBody s_deeds_in) (defScope s_deeds_in) .none kVdeeds_in dcdeeds_in pmdeeds_in andeeds_in cddeeds_in ctdeeds_in), sldeeds_in⟩)
    (lstory_text : K.lookup fstory_text = some ⟨ocstory_text, odstory_text, .func (PySem.W.fnOf "story_text" "story_text" (defArgs s_story_text) (defBody s_story_text) (defScope s_story_text) .none kVstory_text dcstory_text pmstory_text anstory_text cdstory_text ctstory_text), slstory_text⟩)
    (lread_story : K.lookup fread_story = some ⟨ocread_story, odread_story, .func (PySem.W.fnOf "read_story" "read_story" (defArgs s_read_story) (defBody s_read_story) (defScope s_read_story) .none kVread_story dcread_story pmread_story anread_story cdread_story ctread_story), slread_story⟩)
    (l_law_pen : K.lookup f_law_pen = some ⟨oc_law_pen, od_law_pen, .func (PySem.W.fnOf "_law_pen" "_law_pen" (defArgs s__law_pen) (defBody s__law_pen) (defScope s__law_pen) .none kV_law_pen dc_law_pen pm_law_pen an_law_pen cd_law_pen ct_law_pen), sl_law_pen⟩)
    (l_law_draw : K.lookup f_law_draw = some ⟨oc_law_draw, od_law_draw, .func (PySem.W.fnOf "_law_draw" "_law_draw" (defArgs s__law_draw) (defBody s__law_draw) (defScope s__law_draw) .none kV_law_draw dc_law_draw pm_law_draw an_law_draw cd_law_draw ct_law_draw), sl_law_draw⟩)
    (l_law_pick : K.lookup f_law_pick = some ⟨oc_law_pick, od_law_pick, .func (PySem.W.fnOf "_law_pick" "_law_pick" (defArgs s__law_pick) (defBody s__law_pick) (defScope s__law_pick) .none kV_law_pick dc_law_pick pm_law_pick an_law_pick cd_law_pick ct_law_pick), sl_law_pick⟩)
    (l_law_word : K.lookup f_law_word = some ⟨oc_law_word, od_law_word, .func (PySem.W.fnOf "_law_word" "_law_word" (defArgs s__law_word) (defBody s__law_word) (defScope s__law_word) .none kV_law_word dc_law_word pm_law_word an_law_word cd_law_word ct_law_word), sl_law_word⟩)
    (l_law_tag : K.lookup f_law_tag = some ⟨oc_law_tag, od_law_tag, .func (PySem.W.fnOf "_law_tag" "_law_tag" (defArgs s__law_tag) (defBody s__law_tag) (defScope s__law_tag) .none kV_law_tag dc_law_tag pm_law_tag an_law_tag cd_law_tag ct_law_tag), sl_law_tag⟩)
    (l_law_deed : K.lookup f_law_deed = some ⟨oc_law_deed, od_law_deed, .func (PySem.W.fnOf "_law_deed" "_law_deed" (defArgs s__law_deed) (defBody s__law_deed) (defScope s__law_deed) .none kV_law_deed dc_law_deed pm_law_deed an_law_deed cd_law_deed ct_law_deed), sl_law_deed⟩)
    (l_law_text : K.lookup f_law_text = some ⟨oc_law_text, od_law_text, .func (PySem.W.fnOf "_law_text" "_law_text" (defArgs s__law_text) (defBody s__law_text) (defScope s__law_text) .none kV_law_text dc_law_text pm_law_text an_law_text cd_law_text ct_law_text), sl_law_text⟩)
    (l_law_is_right : K.lookup f_law_is_right = some ⟨oc_law_is_right, od_law_is_right, .func (PySem.W.fnOf "_law_is_right" "_law_is_right" (defArgs s__law_is_right) (defBody s__law_is_right) (defScope s__law_is_right) .none kV_law_is_right dc_law_is_right pm_law_is_right an_law_is_right cd_law_is_right ct_law_is_right), sl_law_is_right⟩)
    (l_law_wrong_line : K.lookup f_law_wrong_line = some ⟨oc_law_wrong_line, od_law_wrong_line, .func (PySem.W.fnOf "_law_wrong_line" "_law_wrong_line" (defArgs s__law_wrong_line) (defBody s__law_wrong_line) (defScope s__law_wrong_line) .none kV_law_wrong_line dc_law_wrong_line pm_law_wrong_line an_law_wrong_line cd_law_wrong_line ct_law_wrong_line), sl_law_wrong_line⟩)
    (l_law_due : K.lookup f_law_due = some ⟨oc_law_due, od_law_due, .func (PySem.W.fnOf "_law_due" "_law_due" (defArgs s__law_due) (defBody s__law_due) (defScope s__law_due) .none kV_law_due dc_law_due pm_law_due an_law_due cd_law_due ct_law_due), sl_law_due⟩)
    (l_law_heard : K.lookup f_law_heard = some ⟨oc_law_heard, od_law_heard, .func (PySem.W.fnOf "_law_heard" "_law_heard" (defArgs s__law_heard) (defBody s__law_heard) (defScope s__law_heard) .none kV_law_heard dc_law_heard pm_law_heard an_law_heard cd_law_heard ct_law_heard), sl_law_heard⟩)
    (l_law_bent : K.lookup f_law_bent = some ⟨oc_law_bent, od_law_bent, .func (PySem.W.fnOf "_law_bent" "_law_bent" (defArgs s__law_bent) (defBody s__law_bent) (defScope s__law_bent) .none kV_law_bent dc_law_bent pm_law_bent an_law_bent cd_law_bent ct_law_bent), sl_law_bent⟩)
    (llaw : K.lookup flaw = some ⟨oclaw, odlaw, .func (PySem.W.fnOf "law" "law" (defArgs s_law) (defBody s_law) (defScope s_law) .none kVlaw dclaw pmlaw anlaw cdlaw ctlaw), sllaw⟩)
    (lD : K.lookup fD = some ⟨ocD, odD, .func (PySem.W.fnOf "deed_from" "deed_from" (defArgs s_deed_from) (defBody s_deed_from) (defScope s_deed_from) .none kVD dcD pmD anD (.ref cD) ctD), slD⟩)
    (lI : K.lookup fI = some ⟨ocI, odI, .func (PySem.W.fnOf "__init__" "Line.__init__" (defArgs s_Line___init__) (defBody s_Line___init__) (defScope s_Line___init__) (.ref tI) kVI dcI pmI anI cdI ctI), slI⟩)
    (lR : K.lookup fR = some ⟨ocR, odR, .func (PySem.W.fnOf "refuse" "Line.refuse" (defArgs s_Line_refuse) (defBody s_Line_refuse) (defScope s_Line_refuse) (.ref tR) kVR dcR pmR anR cdR ctR), slR⟩)
    (lK : K.lookup fK = some ⟨ocK, odK, .func (PySem.W.fnOf "take" "Line.take" (defArgs s_Line_take) (defBody s_Line_take) (defScope s_Line_take) .none kVK dcK pmK anK cdK ctK), slK⟩)
    (lL : K.lookup fL = some ⟨ocL, odL, .func (PySem.W.fnOf "close" "Line.close" (defArgs s_Line_close) (defBody s_Line_close) (defScope s_Line_close) .none kVL dcL pmL anL cdL ctL), slL⟩)
    (lO : K.lookup fO = some ⟨ocO, odO, .func (PySem.W.fnOf "is_over" "Line.is_over" (defArgs s_Line_is_over) (defBody s_Line_is_over) (defScope s_Line_is_over) .none kVO dcO pmO anO cdO ctO), slO⟩)
    (lT : K.lookup fT = some ⟨ocT, odT, .func (PySem.W.fnOf "__init__" "InvalidText.__init__" (defArgs s_InvalidText___init__) (defBody s_InvalidText___init__) (defScope s_InvalidText___init__) .none kVT dcT pmT anT cdT ctT), slT⟩)
    (cis_name : PySem.W.codeIn K cdis_name "is_name" = true)
    (kis_name : PySem.W.keepIn K (.ref fis_name) = true)
    (cname_in : PySem.W.codeIn K cdname_in "name_in" = true)
    (kname_in : PySem.W.keepIn K (.ref fname_in) = true)
    (cnumber_in : PySem.W.codeIn K cdnumber_in "number_in" = true)
    (knumber_in : PySem.W.keepIn K (.ref fnumber_in) = true)
    (citem_in : PySem.W.codeIn K cditem_in "item_in" = true)
    (kitem_in : PySem.W.keepIn K (.ref fitem_in) = true)
    (clines_of : PySem.W.codeIn K cdlines_of "lines_of" = true)
    (klines_of : PySem.W.keepIn K (.ref flines_of) = true)
    (cdeeds_in : PySem.W.codeIn K cddeeds_in "deeds_in" = true)
    (kdeeds_in : PySem.W.keepIn K (.ref fdeeds_in) = true)
    (cstory_text : PySem.W.codeIn K cdstory_text "story_text" = true)
    (kstory_text : PySem.W.keepIn K (.ref fstory_text) = true)
    (cread_story : PySem.W.codeIn K cdread_story "read_story" = true)
    (kread_story : PySem.W.keepIn K (.ref fread_story) = true)
    (c_law_pen : PySem.W.codeIn K cd_law_pen "_law_pen" = true)
    (k_law_pen : PySem.W.keepIn K (.ref f_law_pen) = true)
    (c_law_draw : PySem.W.codeIn K cd_law_draw "_law_draw" = true)
    (k_law_draw : PySem.W.keepIn K (.ref f_law_draw) = true)
    (c_law_pick : PySem.W.codeIn K cd_law_pick "_law_pick" = true)
    (k_law_pick : PySem.W.keepIn K (.ref f_law_pick) = true)
    (c_law_word : PySem.W.codeIn K cd_law_word "_law_word" = true)
    (k_law_word : PySem.W.keepIn K (.ref f_law_word) = true)
    (c_law_tag : PySem.W.codeIn K cd_law_tag "_law_tag" = true)
    (k_law_tag : PySem.W.keepIn K (.ref f_law_tag) = true)
    (c_law_deed : PySem.W.codeIn K cd_law_deed "_law_deed" = true)
    (k_law_deed : PySem.W.keepIn K (.ref f_law_deed) = true)
    (c_law_text : PySem.W.codeIn K cd_law_text "_law_text" = true)
    (k_law_text : PySem.W.keepIn K (.ref f_law_text) = true)
    (c_law_is_right : PySem.W.codeIn K cd_law_is_right "_law_is_right" = true)
    (k_law_is_right : PySem.W.keepIn K (.ref f_law_is_right) = true)
    (c_law_wrong_line : PySem.W.codeIn K cd_law_wrong_line "_law_wrong_line" = true)
    (k_law_wrong_line : PySem.W.keepIn K (.ref f_law_wrong_line) = true)
    (c_law_due : PySem.W.codeIn K cd_law_due "_law_due" = true)
    (k_law_due : PySem.W.keepIn K (.ref f_law_due) = true)
    (c_law_heard : PySem.W.codeIn K cd_law_heard "_law_heard" = true)
    (k_law_heard : PySem.W.keepIn K (.ref f_law_heard) = true)
    (c_law_bent : PySem.W.codeIn K cd_law_bent "_law_bent" = true)
    (k_law_bent : PySem.W.keepIn K (.ref f_law_bent) = true)
    (claw : PySem.W.codeIn K cdlaw "law" = true)
    (klaw : PySem.W.keepIn K (.ref flaw) = true)
    (cD_ : PySem.W.codeIn K (.ref cD) "deed_from" = true)
    (kD : PySem.W.keepIn K (.ref fD) = true)
    (hxD : PySem.W.codeHdIn K cD P1 = true)
    (nxD : K.lookup P1 = none)
    (Cpg : PySem.W.plainGet K C Str.empty = true)
    (Chd : PySem.W.hasDictIn K C = true)
    (Cpo : PySem.W.plainOver K C = true)
    (Csa : PySem.W.findIn K (.ref C) "__setattr__" = some (some (.builtin "object.__setattr__")))
    (Cmk : PySem.W.makesIn K C = true)
    (Ckp : PySem.W.keepIn K (.ref C) = true)
    (nW : PySem.W.findIn K (.ref C) "line_words" = some none)
    (nIx : PySem.W.findIn K (.ref C) "line_index" = some none)
    (nT : PySem.W.findIn K (.ref C) "taken" = some none)
    (cI : PySem.W.codeIn K cdI "Line.__init__" = true)
    (kI : PySem.W.keepIn K (.ref fI) = true)
    (tI_ : dflB K tI 0 = true)
    (wI : PySem.W.isFn K (.ref fI) = true)
    (cR : PySem.W.codeIn K cdR "Line.refuse" = true)
    (kR : PySem.W.keepIn K (.ref fR) = true)
    (tR_ : dflB K tR 0 = true)
    (wR : PySem.W.isFn K (.ref fR) = true)
    (cK : PySem.W.codeIn K cdK "Line.take" = true)
    (kK : PySem.W.keepIn K (.ref fK) = true)
    (wK : PySem.W.isFn K (.ref fK) = true)
    (cL : PySem.W.codeIn K cdL "Line.close" = true)
    (kL : PySem.W.keepIn K (.ref fL) = true)
    (wL : PySem.W.isFn K (.ref fL) = true)
    (cO : PySem.W.codeIn K cdO "Line.is_over" = true)
    (kO : PySem.W.keepIn K (.ref fO) = true)
    (oG : PySem.W.specialIn K (.ref pO) "__get__" = some (some (.builtin "property.__get__")))
    (oT : PySem.W.takesIn K (.ref pO) = some true)
    (xCT : exB K CT [.type "ValueError", .type "Exception", .type "BaseException", .type "object"] "ValueError.__new__" = true)
    (cT : PySem.W.codeIn K cdT "InvalidText.__init__" = true)
    (kT : PySem.W.keepIn K (.ref fT) = true)
    (tyT : PySem.W.typeIn K (.ref fT) = some (.type "function"))
    (nTl : PySem.W.findIn K (.ref CT) "line" = some none)
    (nTw : PySem.W.findIn K (.ref CT) "word" = some none)
    (x1 : PySem.W.exmAny K (.ref CT) [.ref CN, .ref CM] = some true)
    (x2 : PySem.W.kitOne K (.ref CT) (.ref CT) = some true)
    (x3 : PySem.W.kitAny K (.ref CT) [.ref CD, .ref CM] = some false)
    (pdd : PySem.W.KeysLit w.params es.toList)
    (sdd : (dd == sysModules) = false)
    (t0_ : K.lookup t0 = some ⟨.type "tuple", none, .seq #[.ref fname_in, .ref fname_in] n0, #[]⟩)
    (t1_ : K.lookup t1 = some ⟨.type "tuple", none, .seq #[.ref fitem_in] n1, #[]⟩)
    (t2_ : K.lookup t2 = some ⟨.type "tuple", none, .seq #[.ref fname_in] n2, #[]⟩)
    (t3_ : K.lookup t3 = some ⟨.type "tuple", none, .seq #[.ref fname_in, .ref fname_in] n3, #[]⟩)
    (t4_ : K.lookup t4 = some ⟨.type "tuple", none, .seq #[.ref fname_in] n4, #[]⟩)
    (t5_ : K.lookup t5 = some ⟨.type "tuple", none, .seq #[] n5, #[]⟩)
    (z0 : PySem.W.nsIn K mainGlobals "int" = some none)
    (z1 : PySem.W.nsIn K mainGlobals "len" = some none)
    (z2 : PySem.W.nsIn K mainGlobals "abs" = some none)
    (z3 : PySem.W.nsIn K mainGlobals "str" = some none)
    (z4 : PySem.W.nsIn K mainGlobals "list" = some none)
    (z5 : PySem.W.nsIn K mainGlobals "tuple" = some none)
    (z6 : PySem.W.nsIn K mainGlobals "isinstance" = some none)
    (z7 : PySem.W.nsIn K mainGlobals "all" = some none)
    (z8 : PySem.W.nsIn K mainGlobals "range" = some none)
    (z9 : PySem.W.nsIn K mainGlobals "repr" = some none)
    (z10 : PySem.W.nsIn K mainGlobals "enumerate" = some none)
    (y0 : PySem.W.nsIn K mainGlobals "LETTERS" = some (some (.str "abcdefghijklmnopqrstuvwxyz" tk0)))
    (y1 : PySem.W.nsIn K mainGlobals "MOST_LETTERS" = some (some (.int 8 tk1)))
    (y2 : PySem.W.nsIn K mainGlobals "OWN" = some (some (.str "self" tk2)))
    (y3 : PySem.W.nsIn K mainGlobals "DIGITS" = some (some (.str "0123456789" tk3)))
    (y4 : PySem.W.nsIn K mainGlobals "MOST_SHORT" = some (some (.int 6 tk4))) :
    ∃ fd : FuncData, (∀ (s : Shared) (u : Value), BindsTo s fd ⟨[u], []⟩ [("_law_script", u)]) ∧ ∀ base : Heap, K.In base → base.Ns mainGlobals mg → TabB base mg cD P1 → FnG P w K mg base CX0 9 fa fd ["_law_script"] (spLaw K P1) := by
  cases hfa.symm.trans (PySem.W.mg_of X G alaw)
  have T : Tx K mg := ⟨PySem.W.mg_none_of X G z0, PySem.W.mg_none_of X G z1, PySem.W.mg_none_of X G z2, PySem.W.mg_none_of X G z3, PySem.W.mg_none_of X G z4, PySem.W.mg_none_of X G z5, PySem.W.mg_none_of X G z6, PySem.W.mg_none_of X G z7, PySem.W.mg_none_of X G z8, PySem.W.mg_none_of X G z9, PySem.W.mg_none_of X G z10, ⟨_, PySem.W.mg_of X G y0, ⟨_, rfl⟩⟩, ⟨_, PySem.W.mg_of X G y1, ⟨_, rfl⟩⟩, ⟨_, PySem.W.mg_of X G y2, ⟨_, rfl⟩⟩, ⟨_, PySem.W.mg_of X G y3, ⟨_, rfl⟩⟩, ⟨_, PySem.W.mg_of X G y4, ⟨_, rfl⟩⟩⟩
  have Fis_name := fun_mk (st := s_is_name) lis_name cis_name kis_name
  have bis_name := Fis_name.binds (ps := ["value"]) fun _ _ _ _ _ _ us hl => match us, hl with | [_], _ => rfl
  have gis_name := PySem.W.mg_of X G ais_name
  have Fname_in := fun_mk (st := s_name_in) lname_in cname_in kname_in
  have bname_in := Fname_in.binds (ps := ["word"]) fun _ _ _ _ _ _ us hl => match us, hl with | [_], _ => rfl
  have gname_in := PySem.W.mg_of X G aname_in
  have Fnumber_in := fun_mk (st := s_number_in) lnumber_in cnumber_in knumber_in
  have bnumber_in := Fnumber_in.binds (ps := ["word", "most"]) fun _ _ _ _ _ _ us hl => match us, hl with | [_, _], _ => rfl
  have gnumber_in := PySem.W.mg_of X G anumber_in
  have Fitem_in := fun_mk (st := s_item_in) litem_in citem_in kitem_in
  have bitem_in := Fitem_in.binds (ps := ["word"]) fun _ _ _ _ _ _ us hl => match us, hl with | [_], _ => rfl
  have gitem_in := PySem.W.mg_of X G aitem_in
  have Flines_of := fun_mk (st := s_lines_of) llines_of clines_of klines_of
  have blines_of := Flines_of.binds (ps := ["text"]) fun _ _ _ _ _ _ us hl => match us, hl with | [_], _ => rfl
  have glines_of := PySem.W.mg_of X G alines_of
  have Fdeeds_in := fun_mk (st := s_deeds_in) ldeeds_in cdeeds_in kdeeds_in
  have bdeeds_in := Fdeeds_in.binds (ps := ["text"]) fun _ _ _ _ _ _ us hl => match us, hl with | [_], _ => rfl
  have gdeeds_in := PySem.W.mg_of X G adeeds_in
  have Fstory_text := fun_mk (st := s_story_text) lstory_text cstory_text kstory_text
  have bstory_text := Fstory_text.binds (ps := ["deeds"]) fun _ _ _ _ _ _ us hl => match us, hl with | [_], _ => rfl
  have gstory_text := PySem.W.mg_of X G astory_text
  have Fread_story := fun_mk (st := s_read_story) lread_story cread_story kread_story
  have bread_story := Fread_story.binds (ps := ["text"]) fun _ _ _ _ _ _ us hl => match us, hl with | [_], _ => rfl
  have gread_story := PySem.W.mg_of X G aread_story
  have F_law_pen := fun_mk (st := s__law_pen) l_law_pen c_law_pen k_law_pen
  have b_law_pen := F_law_pen.binds (ps := ["_law_script"]) fun _ _ _ _ _ _ us hl => match us, hl with | [_], _ => rfl
  have g_law_pen := PySem.W.mg_of X G a_law_pen
  have F_law_draw := fun_mk (st := s__law_draw) l_law_draw c_law_draw k_law_draw
  have b_law_draw := F_law_draw.binds (ps := ["_law_pen_here", "_law_many"]) fun _ _ _ _ _ _ us hl => match us, hl with | [_, _], _ => rfl
  have g_law_draw := PySem.W.mg_of X G a_law_draw
  have F_law_pick := fun_mk (st := s__law_pick) l_law_pick c_law_pick k_law_pick
  have b_law_pick := F_law_pick.binds (ps := ["_law_pen_here", "_law_some"]) fun _ _ _ _ _ _ us hl => match us, hl with | [_, _], _ => rfl
  have g_law_pick := PySem.W.mg_of X G a_law_pick
  have F_law_word := fun_mk (st := s__law_word) l_law_word c_law_word k_law_word
  have b_law_word := F_law_word.binds (ps := ["_law_pen_here"]) fun _ _ _ _ _ _ us hl => match us, hl with | [_], _ => rfl
  have g_law_word := PySem.W.mg_of X G a_law_word
  have F_law_tag := fun_mk (st := s__law_tag) l_law_tag c_law_tag k_law_tag
  have b_law_tag := F_law_tag.binds (ps := ["_law_pen_here"]) fun _ _ _ _ _ _ us hl => match us, hl with | [_], _ => rfl
  have g_law_tag := PySem.W.mg_of X G a_law_tag
  have F_law_deed := fun_mk (st := s__law_deed) l_law_deed c_law_deed k_law_deed
  have b_law_deed := F_law_deed.binds (ps := ["_law_pen_here"]) fun _ _ _ _ _ _ us hl => match us, hl with | [_], _ => rfl
  have g_law_deed := PySem.W.mg_of X G a_law_deed
  have F_law_text := fun_mk (st := s__law_text) l_law_text c_law_text k_law_text
  have b_law_text := F_law_text.binds (ps := ["_law_some"]) fun _ _ _ _ _ _ us hl => match us, hl with | [_], _ => rfl
  have g_law_text := PySem.W.mg_of X G a_law_text
  have F_law_is_right := fun_mk (st := s__law_is_right) l_law_is_right c_law_is_right k_law_is_right
  have b_law_is_right := F_law_is_right.binds (ps := ["_law_sort", "_law_word_here"]) fun _ _ _ _ _ _ us hl => match us, hl with | [_, _], _ => rfl
  have g_law_is_right := PySem.W.mg_of X G a_law_is_right
  have F_law_wrong_line := fun_mk (st := s__law_wrong_line) l_law_wrong_line c_law_wrong_line k_law_wrong_line
  have b_law_wrong_line := F_law_wrong_line.binds (ps := ["_law_words"]) fun _ _ _ _ _ _ us hl => match us, hl with | [_], _ => rfl
  have g_law_wrong_line := PySem.W.mg_of X G a_law_wrong_line
  have F_law_due := fun_mk (st := s__law_due) l_law_due c_law_due k_law_due
  have b_law_due := F_law_due.binds (ps := ["_law_page"]) fun _ _ _ _ _ _ us hl => match us, hl with | [_], _ => rfl
  have g_law_due := PySem.W.mg_of X G a_law_due
  have F_law_heard := fun_mk (st := s__law_heard) l_law_heard c_law_heard k_law_heard
  have b_law_heard := F_law_heard.binds (ps := ["_law_value"]) fun _ _ _ _ _ _ us hl => match us, hl with | [_], _ => rfl
  have g_law_heard := PySem.W.mg_of X G a_law_heard
  have F_law_bent := fun_mk (st := s__law_bent) l_law_bent c_law_bent k_law_bent
  have b_law_bent := F_law_bent.binds (ps := ["_law_pen_here", "_law_lines_so"]) fun _ _ _ _ _ _ us hl => match us, hl with | [_, _], _ => rfl
  have g_law_bent := PySem.W.mg_of X G a_law_bent
  have Flaw := fun_mk (st := s_law) llaw claw klaw
  have blaw := Flaw.binds (ps := ["_law_script"]) fun _ _ _ _ _ _ us hl => match us, hl with | [_], _ => rfl
  have glaw := PySem.W.mg_of X G alaw
  have FD := fun_mk (st := s_deed_from) lD cD_ kD
  have bD := FD.binds (ps := ["line"]) fun _ _ _ _ _ _ us hl => match us, hl with | [_], _ => rfl
  have gD := PySem.W.mg_of X G aD
  have FK := fun_mk (st := s_Line_take) lK cK kK
  have bK := FK.binds (ps := ["self", "meaning"]) fun _ _ _ _ _ _ us hl => match us, hl with | [_, _], _ => rfl
  have FL := fun_mk (st := s_Line_close) lL cL kL
  have bL := FL.binds (ps := ["self"]) fun _ _ _ _ _ _ us hl => match us, hl with | [_], _ => rfl
  have FO := fun_mk (st := s_Line_is_over) lO cO kO
  have bO := FO.binds (ps := ["self"]) fun _ _ _ _ _ _ us hl => match us, hl with | [_], _ => rfl
  have FT := fun_mk (st := s_InvalidText___init__) lT cT kT
  have bT := FT.binds (ps := ["self", "line", "word"]) fun _ _ _ _ _ _ us hl => match us, hl with | [_, _, _], _ => rfl
  refine ⟨PySem.W.fnOf "law" "law" (defArgs s_law) (defBody s_law) (defScope s_law) .none kVlaw dclaw pmlaw anlaw cdlaw ctlaw, fun s u => .of_eq rfl, fun base _ _ TB => ?_⟩
  have cis_name' : Cal P w K mg base 1 "is_name" s_is_name ["value"] (spS fun z => .bl (nameS z)) _ _ := ⟨Fis_name, ok_is_name Fis_name T, gis_name, bis_name⟩
  have cnumber_in' : Cal P w K mg base 1 "number_in" s_number_in ["word", "most"] spNum _ _ := ⟨Fnumber_in, ok_number_in Fnumber_in T, gnumber_in, bnumber_in⟩
  have G_name : FnOk P w K mg base CX0 2 fname_in _ ["word"] (spS nameV) := ok_name_in Fname_in T cis_name'
  have G_item : FnOk P w K mg base CX0 2 fitem_in _ ["word"] (spS itemV) := ok_item_in Fitem_in T cnumber_in'
  have TT : ExK K CT := exV xCT
  have GT : FnOk P w K mg base CX0 1 fT _ ["self", "line", "word"] (spI2 K CT "line" "word") := ok_InvalidText FT TT nTl nTw
  have E_InvalidText : Err P w K mg base "InvalidText" CT fT _ ["line", "word"] (spI2 K CT "line" "word") := ⟨TT, PySem.W.mg_of X G gCT, iT, tyT, GT, bT, fun f hf => by rcases List.mem_cons.mp hf with z | z; (cases z; exact nTl); (cases List.mem_singleton.mp z; exact nTw)⟩
  have L : LnK K mg C := ⟨⟨Cpg, Chd, Cpo, Csa⟩, PySem.W.mg_of X G gC, nW, nIx, nT⟩
  have FI : FunD K "__init__" "Line.__init__" (defArgs s_Line___init__) (defBody s_Line___init__) (defScope s_Line___init__) [.int 0] [] fI _ := ⟨⟨_, _, _, _, _, _, _, _, _, _, rfl, lI, cI, dfl_int tI_, .inl rfl⟩, kI⟩
  have FR : FunD K "refuse" "Line.refuse" (defArgs s_Line_refuse) (defBody s_Line_refuse) (defScope s_Line_refuse) [.int 0] [] fR _ := ⟨⟨_, _, _, _, _, _, _, _, _, _, rfl, lR, cR, dfl_int tR_, .inl rfl⟩, kR⟩
  obtain ⟨dI, vI, bI⟩ := FI.binds1 (ps := ["self", "text", "index"]) 3 1 (List.cons_ne_nil _ _) rfl fun T kV doc pm an cdv ct us its hl hi => match us, its, hl, hi with | [_, _, _], [_], _, _ => ⟨_, rfl, rfl⟩
  obtain rfl : dI = [] := by cases vI; rfl
  obtain ⟨dR, vR, bR⟩ := FR.binds1 (ps := ["self", "back"]) 1 0 (List.cons_ne_nil _ _) rfl fun T kV doc pm an cdv ct us its hl hi => match us, its, hl, hi with | [_], [_], _, _ => ⟨_, rfl, rfl⟩
  have GI : FnOk P w K mg base CX0 1 fI _ ["self", "text", "index"] (spInit C) := ok_Line_init FI L
  have PO : PropOf K C "is_over" pO fO := ⟨oA, oG, oT, _, oR⟩
  have GO : FnOk P w K mg base CX0 1 fO _ ["self"] (spOver C) := ok_is_over FO T L
  have mR : Meth K C "refuse" fR := ⟨iR, wR, kR⟩
  have GR := ok_refuse FR L E_InvalidText
  have GK := ok_take FK L PO GO bO mR GR bR vR
  have GL := ok_close FL L PO GO bO mR GR bR vR
  have Glines := ok_lines_of Flines_of T L ⟨Cmk, iI, wI, Ckp⟩ GI bI E_InvalidText
  have DD : DdK K w mg dd fname_in fitem_in := dd_mk (PySem.W.mg_of X G gdd) ldd kdd pdd sdd t0_ t1_ t2_ t3_ t4_ t5_
  have Gdeed := ok_deed_from lD cD_ TB L DD G_name bname_in G_item bitem_in ⟨_, _, _, _, lname_in⟩ ⟨_, _, _, _, litem_in⟩ ⟨iK, wK, kK⟩ GK bK ⟨iL, wL, kL⟩ GL bL
  have Gdeeds := ok_deeds_in Fdeeds_in T Glines glines_of klines_of blines_of Gdeed gD kD bD
  have Gread := ok_read_story Fread_story T Gdeeds gdeeds_in kdeeds_in bdeeds_in
  have cread : CalX P w K mg base 7 "read_story" s_read_story ["text"] (spRead CT P1) _ _ := ⟨Fread_story, Gread, gread_story, bread_story⟩
  have c_law_draw' : Cal P w K mg base 1 "_law_draw" s__law_draw ["_law_pen_here", "_law_many"] spDraw _ _ := ⟨F_law_draw, ok__law_draw F_law_draw T, g_law_draw, b_law_draw⟩
  have c_law_pick' : Cal P w K mg base 2 "_law_pick" s__law_pick ["_law_pen_here", "_law_some"] spPickB _ _ := ⟨F_law_pick, ok__law_pick F_law_pick T c_law_draw', g_law_pick, b_law_pick⟩
  have c_law_word' : Cal P w K mg base 3 "_law_word" s__law_word ["_law_pen_here"] spWord _ _ := ⟨F_law_word, ok__law_word F_law_word T c_law_draw' c_law_pick', g_law_word, b_law_word⟩
  have c_law_tag' : Cal P w K mg base 4 "_law_tag" s__law_tag ["_law_pen_here"] spTag _ _ := ⟨F_law_tag, ok__law_tag F_law_tag T c_law_word' c_law_pick', g_law_tag, b_law_tag⟩
  have c_law_is_right' : Cal P w K mg base 1 "_law_is_right" s__law_is_right ["_law_sort", "_law_word_here"] spRight _ _ := ⟨F_law_is_right, ok__law_is_right F_law_is_right T, g_law_is_right, b_law_is_right⟩
  have c_law_wrong_line' : Cal P w K mg base 2 "_law_wrong_line" s__law_wrong_line ["_law_words"] spWrong _ _ := ⟨F_law_wrong_line, ok__law_wrong_line F_law_wrong_line T c_law_is_right', g_law_wrong_line, b_law_wrong_line⟩
  exact ok_law Flaw T ⟨F_law_pen, ok__law_pen F_law_pen T, g_law_pen, b_law_pen⟩ c_law_draw' c_law_pick' ⟨F_law_deed, ok__law_deed F_law_deed T c_law_draw' c_law_tag' c_law_pick', g_law_deed, b_law_deed⟩ ⟨F_law_text, ok__law_text F_law_text T, g_law_text, b_law_text⟩ ⟨Fstory_text, ok_story_text Fstory_text T, gstory_text, bstory_text⟩ ⟨F_law_heard, ok__law_heard F_law_heard T cread ⟨PySem.W.mg_of X G gCN⟩ ⟨PySem.W.mg_of X G gCM⟩ ⟨PySem.W.mg_of X G gCD⟩ E_InvalidText x1 x2 x3, g_law_heard, b_law_heard⟩ cread ⟨F_law_bent, ok__law_bent F_law_bent T c_law_draw' c_law_pick', g_law_bent, b_law_bent⟩ ⟨F_law_due, ok__law_due F_law_due T c_law_wrong_line', g_law_due, b_law_due⟩

end My
open PySem PySem.W PyProof.Rows
set_option maxRecDepth 100000 in
set_option maxHeartbeats 0 in
theorem PySem.Challenge.cw_evenends_k24_texts_of_stories_holds : PySem.Challenge.rw_evenends_k24_texts_of_stories.Holds := by
  w_on; o_law; k_head; (case hw => w_witness2)
  k_fill
  refine EE.walk_ofGT (l := PySem.Challenge.rw_evenends_k24_texts_of_stories) (n := 63) (k := 9) (x := "_law_script") rfl (by decide) rfl ⟨⟨rfl, by decide, by decide⟩, rfl⟩ (fun w h Y => PySem.W.km_in_of Y) ?F
  case F =>
    intro w mg fa h Y KX G hmg
    have hT := PySem.W.km_tabs_of Y
    refine' (fun z => ?fin) (My.all_mk (P := PySem.Challenge.rw_evenends_k24_texts_of_stories.prog) (w := w) KX G hmg ?ais_name ?aname_in ?anumber_in ?aitem_in ?alines_of ?adeeds_in ?astory_text ?aread_story ?a_law_pen ?a_law_draw ?a_law_pick ?a_law_word ?a_law_tag ?a_law_deed ?a_law_text ?a_law_is_right ?a_law_wrong_line ?a_law_due ?a_law_heard ?a_law_bent ?alaw ?aD ?gC ?gCT ?gCN ?gCM ?gCD ?gdd ?iI ?iR ?iK ?iL ?oA ?iT ?ldd ?pT ?oR ?ud0 ?ud1 ?ud2 ?ud3 ?ud4 ?ud5 ?kdd ?lis_name ?lname_in ?lnumber_in ?litem_in ?llines_of ?ldeeds_in ?lstory_text ?lread_story ?l_law_pen ?l_law_draw ?l_law_pick ?l_law_word ?l_law_tag ?l_law_deed ?l_law_text ?l_law_is_right ?l_law_wrong_line ?l_law_due ?l_law_heard ?l_law_bent ?llaw ?lD ?lI ?lR ?lK ?lL ?lO ?lT ?cis_name ?kis_name ?cname_in ?kname_in ?cnumber_in ?knumber_in ?citem_in ?kitem_in ?clines_of ?klines_of ?cdeeds_in ?kdeeds_in ?cstory_text ?kstory_text ?cread_story ?kread_story ?c_law_pen ?k_law_pen ?c_law_draw ?k_law_draw ?c_law_pick ?k_law_pick ?c_law_word ?k_law_word ?c_law_tag ?k_law_tag ?c_law_deed ?k_law_deed ?c_law_text ?k_law_text ?c_law_is_right ?k_law_is_right ?c_law_wrong_line ?k_law_wrong_line ?c_law_due ?k_law_due ?c_law_heard ?k_law_heard ?c_law_bent ?k_law_bent ?claw ?klaw ?cD_ ?kD ?hxD ?nxD ?Cpg ?Chd ?Cpo ?Csa ?Cmk ?Ckp ?nW ?nIx ?nT ?cI ?kI ?tI_ ?wI ?cR ?kR ?tR_ ?wR ?cK ?kK ?wK ?cL ?kL ?wL ?cO ?kO ?oG ?oT ?xCT ?cT ?kT ?tyT ?nTl ?nTw ?x1 ?x2 ?x3 ?pdd ?sdd ?t0_ ?t1_ ?t2_ ?t3_ ?t4_ ?t5_ ?z0 ?z1 ?z2 ?z3 ?z4 ?z5 ?z6 ?z7 ?z8 ?z9 ?z10 ?y0 ?y1 ?y2 ?y3 ?y4)
    (case ais_name => k_is)
    (case aname_in => k_is)
    (case anumber_in => k_is)
    (case aitem_in => k_is)
    (case alines_of => k_is)
    (case adeeds_in => k_is)
    (case astory_text => k_is)
    (case aread_story => k_is)
    (case a_law_pen => k_is)
    (case a_law_draw => k_is)
    (case a_law_pick => k_is)
    (case a_law_word => k_is)
    (case a_law_tag => k_is)
    (case a_law_deed => k_is)
    (case a_law_text => k_is)
    (case a_law_is_right => k_is)
    (case a_law_wrong_line => k_is)
    (case a_law_due => k_is)
    (case a_law_heard => k_is)
    (case a_law_bent => k_is)
    (case alaw => k_is)
    (case aD => k_is)
    (case gC => k_is)
    (case gCT => k_is)
    (case gCN => k_is)
    (case gCM => k_is)
    (case gCD => k_is)
    (case gdd => k_is)
    (case iI => k_is)
    (case iR => k_is)
    (case iK => k_is)
    (case iL => k_is)
    (case oA => k_is)
    (case iT => k_is)
    (case ldd => k_is)
    (case pT => exact hT _ (List.mem_singleton.mpr rfl))
    (case oR => k_is)
    (case ud0 => k_is)
    (case ud1 => k_is)
    (case ud2 => k_is)
    (case ud3 => k_is)
    (case ud4 => k_is)
    (case ud5 => k_is)
    (case kdd => kernel_rfl)
    (case lis_name => k_is)
    (case lname_in => k_is)
    (case lnumber_in => k_is)
    (case litem_in => k_is)
    (case llines_of => k_is)
    (case ldeeds_in => k_is)
    (case lstory_text => k_is)
    (case lread_story => k_is)
    (case l_law_pen => k_is)
    (case l_law_draw => k_is)
    (case l_law_pick => k_is)
    (case l_law_word => k_is)
    (case l_law_tag => k_is)
    (case l_law_deed => k_is)
    (case l_law_text => k_is)
    (case l_law_is_right => k_is)
    (case l_law_wrong_line => k_is)
    (case l_law_due => k_is)
    (case l_law_heard => k_is)
    (case l_law_bent => k_is)
    (case llaw => k_is)
    (case lD => k_is)
    (case lI => k_is)
    (case lR => k_is)
    (case lK => k_is)
    (case lL => k_is)
    (case lO => k_is)
    (case lT => k_is)
    (case cis_name => k_is)
    (case kis_name => k_is)
    (case cname_in => k_is)
    (case kname_in => k_is)
    (case cnumber_in => k_is)
    (case knumber_in => k_is)
    (case citem_in => k_is)
    (case kitem_in => k_is)
    (case clines_of => k_is)
    (case klines_of => k_is)
    (case cdeeds_in => k_is)
    (case kdeeds_in => k_is)
    (case cstory_text => k_is)
    (case kstory_text => k_is)
    (case cread_story => k_is)
    (case kread_story => k_is)
    (case c_law_pen => k_is)
    (case k_law_pen => k_is)
    (case c_law_draw => k_is)
    (case k_law_draw => k_is)
    (case c_law_pick => k_is)
    (case k_law_pick => k_is)
    (case c_law_word => k_is)
    (case k_law_word => k_is)
    (case c_law_tag => k_is)
    (case k_law_tag => k_is)
    (case c_law_deed => k_is)
    (case k_law_deed => k_is)
    (case c_law_text => k_is)
    (case k_law_text => k_is)
    (case c_law_is_right => k_is)
    (case k_law_is_right => k_is)
    (case c_law_wrong_line => k_is)
    (case k_law_wrong_line => k_is)
    (case c_law_due => k_is)
    (case k_law_due => k_is)
    (case c_law_heard => k_is)
    (case k_law_heard => k_is)
    (case c_law_bent => k_is)
    (case k_law_bent => k_is)
    (case claw => k_is)
    (case klaw => k_is)
    (case cD_ => k_is)
    (case kD => k_is)
    (case hxD => kernel_rfl)
    (case nxD => kernel_rfl)
    (case Cpg => k_is)
    (case Chd => k_is)
    (case Cpo => k_is)
    (case Csa => k_is)
    (case Cmk => k_is)
    (case Ckp => k_is)
    (case nW => k_is)
    (case nIx => k_is)
    (case nT => k_is)
    (case cI => k_is)
    (case kI => k_is)
    (case tI_ => kernel_rfl)
    (case wI => k_is)
    (case cR => k_is)
    (case kR => k_is)
    (case tR_ => kernel_rfl)
    (case wR => k_is)
    (case cK => k_is)
    (case kK => k_is)
    (case wK => k_is)
    (case cL => k_is)
    (case kL => k_is)
    (case wL => k_is)
    (case cO => k_is)
    (case kO => k_is)
    (case oG => k_is)
    (case oT => k_is)
    (case xCT => kernel_rfl)
    (case cT => k_is)
    (case kT => k_is)
    (case tyT => k_is)
    (case nTl => k_is)
    (case nTw => k_is)
    (case x1 => kernel_rfl)
    (case x2 => kernel_rfl)
    (case x3 => kernel_rfl)
    (case pdd => exact ⟨⟨_, _, rfl, rfl⟩, ⟨_, _, rfl, rfl⟩, ⟨_, _, rfl, rfl⟩, ⟨_, _, rfl, rfl⟩, ⟨_, _, rfl, rfl⟩, ⟨_, _, rfl, rfl⟩, trivial⟩)
    (case sdd => kernel_rfl)
    (case t0_ => k_is)
    (case t1_ => k_is)
    (case t2_ => k_is)
    (case t3_ => k_is)
    (case t4_ => k_is)
    (case t5_ => k_is)
    (case z0 => k_is)
    (case z1 => k_is)
    (case z2 => k_is)
    (case z3 => k_is)
    (case z4 => k_is)
    (case z5 => k_is)
    (case z6 => k_is)
    (case z7 => k_is)
    (case z8 => k_is)
    (case z9 => k_is)
    (case z10 => k_is)
    (case y0 => k_is)
    (case y1 => k_is)
    (case y2 => k_is)
    (case y3 => k_is)
    (case y4 => k_is)
    case fin =>
      obtain ⟨fd, bd, F⟩ := z
      refine ⟨fd, [(_, _)], My.spLaw _ _, fun p hp => ?_, fun p hp => ?_, fun p hp => ?_, bd, fun H a ns hl ht hs => ⟨a, ns, rfl, hs, hl, fun p hp => ?_, fun _ => rfl⟩, fun base KB GB TB => F base KB GB (TB _ (List.mem_singleton.mpr rfl))⟩
      · cases List.mem_singleton.mp hp
        exact hT _ (List.mem_singleton.mpr rfl)
      · cases List.mem_singleton.mp hp
        kernel_rfl
      · cases List.mem_singleton.mp hp
        exact PySem.W.codeHd_of_K KX (by kernel_rfl)
      · cases List.mem_singleton.mp hp
        exact ⟨_, ht _ (List.mem_singleton.mpr rfl), trivial, fun p' cv hcv => by cases hcv⟩

